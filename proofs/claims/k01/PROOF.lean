import PyProof.Rows.All
import Wide.All
import OpenK.AllK
import Wide.FinOn
import HandS.ForMost
import HandS.ForExc
import HandS.Wide
import HandS.Conv
import HandS.Deep
import HandS.IsInst
import HandS.Flow
import HandS.Style
import HandS.ExcIs
import HandS.ExcField
import HandS.WideMore
import PySem.Challenge.RW_drawntrue_k01_great_sums_of_fractions
set_option Elab.async false
set_option linter.all false
set_option maxRecDepth 100000
set_option maxHeartbeats 4000000
namespace DL
open PySem L2

/-- data: a flat value or a reference, a tuple, a list that is read; klst: one that may stand in the written part (or the script) -/
inductive D where
  | v (x : V)
  | tup (ds : List D)
  | lst (ds : List D)
  | klst (ds : List D)

abbrev D.int (i : Int) : D := .v (.int i)
abbrev D.bl (b : Bool) : D := .v (.bl b)
abbrev D.str (s : Str) : D := .v (.str s)
abbrev D.non : D := .v .non
abbrev D.ref (a : Addr) : D := .v (.ref a)

open Classical in
/-- the heap without the addresses of F -/
noncomputable def hide (F : Addr → Prop) (H : Hp) : Hp := fun a => if F a then none else H a
theorem hide_some {F : Addr → Prop} {H : Hp} {a : Addr} {o : HO} (h : hide F H a = some o) : ¬ F a ∧ H a = some o := by
  unfold hide at h
  split at h
  · cases h
  · exact ⟨by assumption, h⟩
theorem hide_of {F : Addr → Prop} {H : Hp} {a : Addr} {o : HO} (hf : ¬ F a) (h : H a = some o) : hide F H a = some o := by
  unfold hide
  rw [if_neg hf]
  exact h
theorem hide_le (F : Addr → Prop) (H : Hp) : Same (hide F H) H := fun a o h => (hide_some h).2
theorem hide_mono {F : Addr → Prop} {H H' : Hp} (h : Same H H') : Same (hide F H) (hide F H') := fun a o q => hide_of (hide_some q).1 (h a o (hide_some q).2)

theorem same_rd {H H' : Hp} {a : Addr} {u : HO} (e : Same H H') (h : Rd H a u) : Rd H' a u := by
  rcases h with h | ⟨o, h⟩
  · exact .inl (e a _ h)
  · exact .inr ⟨o, e a _ h⟩
theorem same_l {K : PySem.W.Frag} {H H' : Hp} {a : Addr} {xs : List V} (e : Same H H') (h : SqL K H a xs) : SqL K H' a xs := by
  rcases h with h | h
  · exact .inl (same_rd e h)
  · exact .inr h
theorem same_t {K : PySem.W.Frag} {H H' : Hp} {a : Addr} {xs : List V} (e : Same H H') (h : SqT K H a xs) : SqT K H' a xs := by
  rcases h with h | h
  · exact .inl (same_rd e h)
  · exact .inr h

theorem rd_l {K : PySem.W.Frag} {F : Addr → Prop} {H : Hp} {a : Addr} {xs : List V} (h : Rd (hide F H) a (.lst xs)) : SqL K H a xs := .inl (same_rd (hide_le _ _) h)

mutual
inductive Rp (K : PySem.W.Frag) (G : Hp) : V → D → Prop
  | v (x : V) : Rp K G x (.v x)
  | tup {a : Addr} {xs : List V} {ds : List D} : SqT K G a xs → RpAll K G xs ds → Rp K G (.ref a) (.tup ds)
  | lst {a : Addr} {xs : List V} {ds : List D} : Rd G a (.lst xs) → RpAll K G xs ds → Rp K G (.ref a) (.lst ds)
  | klst {a : Addr} {xs : List V} {ds : List D} : SqL K G a xs → RpAll K G xs ds → Rp K G (.ref a) (.klst ds)
inductive RpAll (K : PySem.W.Frag) (G : Hp) : List V → List D → Prop
  | nil : RpAll K G [] []
  | cons {x : V} {xs : List V} {d : D} {ds : List D} : Rp K G x d → RpAll K G xs ds → RpAll K G (x :: xs) (d :: ds)
end
mutual
theorem Rp.same {K : PySem.W.Frag} {G G' : Hp} (e : Same G G') : ∀ (d : D) (x : V), Rp K G x d → Rp K G' x d
  | .v _, _, h => by
    cases h
    exact .v _
  | .tup ds, _, h => by
    cases h with
    | tup h1 h2 => exact .tup (same_t e h1) (RpAll.same e ds _ h2)
  | .lst ds, _, h => by
    cases h with
    | lst h1 h2 => exact .lst (same_rd e h1) (RpAll.same e ds _ h2)
  | .klst ds, _, h => by
    cases h with
    | klst h1 h2 => exact .klst (same_l e h1) (RpAll.same e ds _ h2)
theorem RpAll.same {K : PySem.W.Frag} {G G' : Hp} (e : Same G G') : ∀ (ds : List D) (xs : List V), RpAll K G xs ds → RpAll K G' xs ds
  | [], _, h => by
    cases h
    exact .nil
  | d :: ds, _, h => by
    cases h with
    | cons h1 h2 => exact .cons (Rp.same e d _ h1) (RpAll.same e ds _ h2)
end
theorem RpAll.length {K : PySem.W.Frag} {G : Hp} : ∀ {ds : List D} {xs : List V}, RpAll K G xs ds → xs.length = ds.length
  | [], _, h => by
    cases h
    rfl
  | d :: ds, _, h => by
    cases h with
    | cons h1 h2 => rw [List.length_cons, List.length_cons, h2.length]
theorem RpAll.get {K : PySem.W.Frag} {G : Hp} : ∀ {ds : List D} {xs : List V} {i : Nat} {d : D}, RpAll K G xs ds → ds[i]? = some d → ∃ x, xs[i]? = some x ∧ Rp K G x d
  | [], _, _, _, _, e => by simp at e
  | d :: ds, _, 0, _, h, e => by
    cases h with
    | cons h1 h2 =>
      simp at e
      subst e
      exact ⟨_, rfl, h1⟩
  | d :: ds, _, i + 1, _, h, e => by
    cases h with
    | cons h1 h2 =>
      obtain ⟨x, e1, r⟩ := h2.get (i := i) (by simpa using e)
      exact ⟨x, by simpa using e1, r⟩
theorem RpAll.get' {K : PySem.W.Frag} {G : Hp} {ds : List D} {xs : List V} {i : Nat} {x : V} (h : RpAll K G xs ds) (e : xs[i]? = some x) : ∃ d, ds[i]? = some d ∧ Rp K G x d := by
  have hl := h.length
  obtain ⟨hi, _⟩ := List.getElem?_eq_some_iff.mp e
  have e2 : ds[i]? = some ds[i] := List.getElem?_eq_getElem (by omega)
  obtain ⟨y, e3, r⟩ := h.get e2
  rw [e] at e3
  cases e3
  exact ⟨_, e2, r⟩
theorem RpAll.append {K : PySem.W.Frag} {G : Hp} : ∀ {ds es : List D} {xs ys : List V}, RpAll K G xs ds → RpAll K G ys es → RpAll K G (xs ++ ys) (ds ++ es)
  | [], _, _, _, h, h' => by
    cases h
    exact h'
  | d :: ds, _, _, _, h, h' => by
    cases h with
    | cons h1 h2 => exact .cons h1 (h2.append h')
theorem RpAll.set {K : PySem.W.Frag} {G : Hp} {d : D} {x : V} (r : Rp K G x d) : ∀ {ds : List D} {xs : List V} (i : Nat), RpAll K G xs ds → RpAll K G (xs.set i x) (ds.set i d)
  | [], _, _, h => by
    cases h
    exact .nil
  | _ :: _, _, 0, h => by
    cases h with
    | cons h1 h2 => exact .cons r h2
  | _ :: _, _, i + 1, h => by
    cases h with
    | cons h1 h2 => exact .cons h1 (RpAll.set r i h2)
theorem RpAll.one {K : PySem.W.Frag} {G : Hp} {x : V} {d : D} (h : Rp K G x d) : RpAll K G [x] [d] := .cons h .nil

/-! ### owned cells -/
inductive Cell where
  | lst (ds : List D)
  | raw (o : HO)
  | inv (φ : Hp → HO → Prop)
def CellRep (K : PySem.W.Frag) (G : Hp) : Cell → HO → Prop
  | .lst ds, o => ∃ xs, o = .lst xs ∧ RpAll K G xs ds
  | .raw u, o => o = u
  | .inv φ, o => ∃ G0, Same G0 G ∧ φ G0 o
theorem CellRep.same {K : PySem.W.Frag} {G G' : Hp} (e : Same G G') : ∀ {c : Cell} {o : HO}, CellRep K G c o → CellRep K G' c o
  | .lst ds, _, ⟨xs, h1, h2⟩ => ⟨xs, h1, h2.same e⟩
  | .raw _, _, h => h
  | .inv _, _, ⟨G0, h1, h2⟩ => ⟨G0, h1.trans e, h2⟩
abbrev Cs := List (Addr × Cell)
abbrev dom (cs : Cs) : List Addr := cs.map (·.1)
noncomputable abbrev vis (F : Addr → Prop) (cs : Cs) (H : Hp) : Hp := hide (fun a => F a ∨ a ∈ dom cs) H
structure CA (K : PySem.W.Frag) (F : Addr → Prop) (H : Hp) (cs : Cs) : Prop where
  cells : ∀ p ∈ cs, ∃ o, H p.1 = some o ∧ CellRep K (vis F cs H) p.2 o
  nd : (dom cs).Nodup
  fr : ∀ a, F a → H a ≠ none ∧ a ∉ dom cs
def Step (cs : Cs) (H : Hp) (cs' : Cs) (H' : Hp) : Prop :=
  (∀ a o, H a = some o → a ∉ dom cs → H' a = some o) ∧ ∀ a, a ∈ dom cs' → a ∈ dom cs ∨ H a = none
theorem Step.refl (cs : Cs) (H : Hp) : Step cs H cs H := ⟨fun _ _ h _ => h, fun _ h => .inl h⟩
theorem Step.trans {a b c : Cs} {H1 H2 H3 : Hp} (p : Step a H1 b H2) (q : Step b H2 c H3) : Step a H1 c H3 := by
  refine ⟨fun x o h hn => q.1 x o (p.1 x o h hn) fun hb => ?_, fun x hx => ?_⟩
  · rcases p.2 x hb with z | z
    · exact hn z
    · rw [h] at z
      cases z
  · rcases q.2 x hx with z | z
    · exact p.2 x z
    · cases e : H1 x with
      | none => exact .inr rfl
      | some o =>
        by_cases hd : x ∈ dom a
        · exact .inl hd
        · have := p.1 x o e hd
          rw [z] at this
          cases this
theorem Step.same {cs : Cs} {H H' : Hp} (h : Same H H') : Step cs H cs H' := ⟨fun a o e _ => h a o e, fun _ h => .inl h⟩
theorem Step.vis {F : Addr → Prop} {cs cs' : Cs} {H H' : Hp} (p : Step cs H cs' H') : Same (vis F cs H) (vis F cs' H') := fun a o h => by
  obtain ⟨h1, h2⟩ := hide_some h
  refine hide_of (fun z => ?_) (p.1 a o h2 fun z => h1 (.inr z))
  rcases z with z | z
  · exact h1 (.inl z)
  · rcases p.2 a z with q | q
    · exact h1 (.inr q)
    · rw [h2] at q
      cases q
theorem vis_fresh {F : Addr → Prop} {cs : Cs} {H : Hp} {p : Addr} {K : PySem.W.Frag} (c : CA K F H cs) (hp : H p = none) : ¬ (F p ∨ p ∈ dom cs) := by
  intro z
  rcases z with z | z
  · exact (c.fr p z).1 hp
  · obtain ⟨q, hq, e⟩ := List.mem_map.mp z
    obtain ⟨o, ho, _⟩ := c.cells q hq
    rw [e, hp] at ho
    cases ho
/-- a step that only allocates keeps the cells -/
theorem CA.grow {K : PySem.W.Frag} {F : Addr → Prop} {H H' : Hp} {cs : Cs} (c : CA K F H cs) (h : Same H H') : CA K F H' cs where
  cells := fun p hp => by
    obtain ⟨o, h1, h2⟩ := c.cells p hp
    exact ⟨o, h _ _ h1, h2.same (hide_mono h)⟩
  nd := c.nd
  fr := fun a ha => by
    obtain ⟨h1, h2⟩ := c.fr a ha
    refine ⟨fun z => ?_, h2⟩
    cases e : H a with
    | none => exact h1 e
    | some o =>
      rw [h a o e] at z
      cases z

/-! ### slots -/
abbrev Sl := List (Option D)
structure SlAll (K : PySem.W.Frag) (G : Hp) (σ : L2.St) (sl : Sl) : Prop where
  len : σ.length = sl.length
  get : ∀ (i : Nat) (d : D), sl[i]? = some (some d) → ∃ v, σ[i]? = some (some v) ∧ Rp K G v d
theorem SlAll.same {K : PySem.W.Frag} {G G' : Hp} {σ : L2.St} {sl : Sl} (e : Same G G') (h : SlAll K G σ sl) : SlAll K G' σ sl :=
  ⟨h.len, fun i d q => let ⟨v, h1, h2⟩ := h.get i d q; ⟨v, h1, h2.same e⟩⟩
theorem SlAll.set {K : PySem.W.Frag} {G : Hp} {σ : L2.St} {sl : Sl} {i : Nat} {v : V} {d : D} (h : SlAll K G σ sl) (r : Rp K G v d) : SlAll K G (σ.set i (some v)) (sl.set i (some d)) where
  len := by rw [List.length_set, List.length_set]; exact h.len
  get := fun j e q => by
    by_cases hj : i = j
    · subst hj
      rw [List.getElem?_set] at q
      split at q
      · split at q
        · rename_i hi
          cases q
          refine ⟨v, ?_, r⟩
          rw [List.getElem?_set_self (by rw [h.len]; exact hi)]
        · cases q
      · rename_i hc
        exact absurd rfl hc
    · rw [List.getElem?_set_ne hj] at q ⊢
      exact h.get j e q
theorem SlAll.forget {K : PySem.W.Frag} {G : Hp} {σ : L2.St} {sl : Sl} {i : Nat} {v : V} (h : SlAll K G σ sl) : SlAll K G (σ.set i (some v)) (sl.set i none) where
  len := by rw [List.length_set, List.length_set]; exact h.len
  get := fun j e q => by
    by_cases hj : i = j
    · subst hj
      rw [List.getElem?_set] at q
      split at q
      · split at q
        · cases q
        · cases q
      · rename_i hc
        exact absurd rfl hc
    · rw [List.getElem?_set_ne hj] at q ⊢
      exact h.get j e q
structure SS where
  sl : Sl
  cs : Cs
structure SA (K : PySem.W.Frag) (F : Addr → Prop) (σ : L2.St) (H : Hp) (st : SS) : Prop where
  ca : CA K F H st.cs
  slots : SlAll K (vis F st.cs H) σ st.sl
theorem SA.grow {K : PySem.W.Frag} {F : Addr → Prop} {σ : L2.St} {H H' : Hp} {st : SS} (s : SA K F σ H st) (h : Same H H') : SA K F σ H' st := ⟨s.ca.grow h, s.slots.same (hide_mono h)⟩
theorem same_new {H : Hp} {p : Addr} {o : HO} (h : H p = none) : Same H (upd H p o) := fun a u e => by
  rw [upd_ne (ne_of_none e h)]
  exact e
end DL

namespace DL
open PySem L2

/-! ### weaker readings, families of readings -/
section
variable {X : Cx} {e : Expr} {es : List Expr} {s : Stmt} {ss : List Stmt} {tg : Expr}
theorem pe_imp {t t' : TE} (h : PE X e t) (i : ∀ σ H Q, t' σ H Q → t σ H Q) : PE X e t' := ⟨fun pins s σ H Q I q => h.run pins s σ H Q I (i _ _ _ q)⟩
theorem pt_imp {t t' : TT} (h : PT X e t) (i : ∀ σ H Q, t' σ H Q → t σ H Q) : PT X e t' := ⟨fun pins s σ H Q I q => h.run pins s σ H Q I (i _ _ _ q)⟩
theorem pw_imp {t t' : TT} (h : PW X e t) (i : ∀ σ H Q, t' σ H Q → t σ H Q) : PW X e t' := ⟨fun wh pins s σ H Q I q => h.run wh pins s σ H Q I (i _ _ _ q)⟩
theorem pa_imp {t t' : TA} (h : PA X es t) (i : ∀ σ H Q, t' σ H Q → t σ H Q) : PA X es t' := ⟨fun pos pins s σ H Q I q => h.run pos pins s σ H Q I (i _ _ _ q)⟩
theorem ps_imp {t t' : TS} (h : PS X s t) (i : ∀ D σ H, t' D σ H → t D σ H) : PS X s t' := ⟨fun pins s σ H D I q => h.run pins s σ H D I (i _ _ _ q)⟩
theorem pss_imp {t t' : TS} (h : PSs X ss t) (i : ∀ D σ H, t' D σ H → t D σ H) : PSs X ss t' := ⟨fun pins s σ H D I q => h.run pins s σ H D I (i _ _ _ q)⟩
theorem pg_imp {t t' : TG} (h : PG X tg t) (i : ∀ v σ H Q, t' v σ H Q → t v σ H Q) : PG X tg t' := ⟨fun pins s σ H v u Q I r q => h.run pins s σ H v u Q I r (i _ _ _ _ q)⟩
theorem pe_ex {α : Type} {C : α → Prop} {t : α → TE} (h : ∀ a, C a → PE X e (t a)) : PE X e (fun σ H Q => ∃ a, C a ∧ t a σ H Q) := ⟨fun pins s σ H Q I ⟨a, c, q⟩ => (h a c).run pins s σ H Q I q⟩
theorem pt_ex {α : Type} {C : α → Prop} {t : α → TT} (h : ∀ a, C a → PT X e (t a)) : PT X e (fun σ H Q => ∃ a, C a ∧ t a σ H Q) := ⟨fun pins s σ H Q I ⟨a, c, q⟩ => (h a c).run pins s σ H Q I q⟩
theorem pw_ex {α : Type} {C : α → Prop} {t : α → TT} (h : ∀ a, C a → PW X e (t a)) : PW X e (fun σ H Q => ∃ a, C a ∧ t a σ H Q) := ⟨fun wh pins s σ H Q I ⟨a, c, q⟩ => (h a c).run wh pins s σ H Q I q⟩
theorem pss_ex {α : Type} {C : α → Prop} {t : α → TS} (h : ∀ a, C a → PSs X ss (t a)) : PSs X ss (fun D σ H => ∃ a, C a ∧ t a D σ H) := ⟨fun pins s σ H D I ⟨a, c, q⟩ => (h a c).run pins s σ H D I q⟩
theorem pg_ex {α : Type} {C : α → Prop} {t : α → TG} (h : ∀ a, C a → PG X tg (t a)) : PG X tg (fun v σ H Q => ∃ a, C a ∧ t a v σ H Q) := ⟨fun pins s σ H v u Q I r ⟨a, c, q⟩ => (h a c).run pins s σ H v u Q I r q⟩
end

/-! ### the judgements -/
section
variable (K : PySem.W.Frag)
def tD (st : SS) (d : D) (st' : SS) : TE := fun σ H Q => ∃ F, SA K F σ H st ∧ ∀ v H', Step st.cs H st'.cs H' → SA K F σ H' st' → Rp K (vis F st'.cs H') v d → Q v H'
def tB (st : SS) (b : Bool) (st' : SS) : TT := fun σ H Q => ∃ F, SA K F σ H st ∧ ∀ H', Step st.cs H st'.cs H' → SA K F σ H' st' → Q b H'
def tA (st : SS) (ds : List D) (st' : SS) : TA := fun σ H Q => ∃ F, SA K F σ H st ∧ ∀ vs H', Step st.cs H st'.cs H' → SA K F σ H' st' → RpAll K (vis F st'.cs H') vs ds → Q vs H'
def tT (d : D) (st st' : SS) : TG := fun v σ H Q => ∃ F, SA K F σ H st ∧ Rp K (vis F st.cs H) v d ∧ ∀ σ' H', Step st.cs H st'.cs H' → SA K F σ' H' st' → Q σ' H'
/-- what is asked behind a block -/
structure Out where
  nx : SS → Prop
  rt : D → Cs → Prop
  bk : SS → Prop := fun _ => False
  ct : SS → Prop := fun _ => False
  /-- an exception may leave: its class, its own fields, the state -/
  ex : Value → List (Str × D) → SS → Prop := fun _ _ _ => False
  /-- what is wanted of it -/
  E : WX := fun _ _ _ _ => False
/-- an exception's own dict -/
def ExAt (K : PySem.W.Frag) (G : Hp) (od : Option Addr) : List (Str × D) → Prop
  | [] => od = none
  | fs => ∃ d fx, od = some d ∧ G d = some (.xd fx) ∧ fx.map (·.1) = fs.map (·.1) ∧ RpAll K G (fx.map (·.2)) (fs.map (·.2))
def tS (st : SS) (R : Out) : TS := fun E σ H => ∃ F, SA K F σ H st ∧
  (∀ σ' H' st', R.nx st' → Step st.cs H st'.cs H' → SA K F σ' H' st' → E.nx σ' H') ∧
  (∀ v H' d cs', R.rt d cs' → Step st.cs H cs' H' → CA K F H' cs' → Rp K (vis F cs' H') v d → E.rt v H') ∧
  (∀ σ' H' st', R.bk st' → Step st.cs H st'.cs H' → SA K F σ' H' st' → E.bk σ' H') ∧
  (∀ σ' H' st', R.ct st' → Step st.cs H st'.cs H' → SA K F σ' H' st' → E.ct σ' H') ∧
  (∀ σ' H' cls od fs st', R.ex cls fs st' → Step st.cs H st'.cs H' → SA K F σ' H' st' → ExAt K (vis F st'.cs H') od fs → R.E cls od σ' H')
/-- operations by values -/
def RR (r : R2) (st : SS) (x y d : D) (st' : SS) : Prop := ∀ F σ H v u, SA K F σ H st → Rp K (vis F st.cs H) v x → Rp K (vis F st.cs H) u y →
  ∀ Q : VK, (∀ z H', Step st.cs H st'.cs H' → SA K F σ H' st' → Rp K (vis F st'.cs H') z d → Q z H') → r v u H Q
def RU1 (r : V → Hp → VK → Prop) (st : SS) (x d : D) (st' : SS) : Prop := ∀ F σ H v, SA K F σ H st → Rp K (vis F st.cs H) v x →
  ∀ Q : VK, (∀ z H', Step st.cs H st'.cs H' → SA K F σ H' st' → Rp K (vis F st'.cs H') z d → Q z H') → r v H Q
def RCa (r : List V → Hp → VK → Prop) (st : SS) (xs : List D) (d : D) (st' : SS) : Prop := ∀ F σ H vs, SA K F σ H st → RpAll K (vis F st.cs H) vs xs →
  ∀ Q : VK, (∀ z H', Step st.cs H st'.cs H' → SA K F σ H' st' → Rp K (vis F st'.cs H') z d → Q z H') → r vs H Q
def RMt (r : V → List V → Hp → VK → Prop) (st : SS) (x : D) (xs : List D) (d : D) (st' : SS) : Prop := ∀ F σ H v vs, SA K F σ H st → Rp K (vis F st.cs H) v x → RpAll K (vis F st.cs H) vs xs →
  ∀ Q : VK, (∀ z H', Step st.cs H st'.cs H' → SA K F σ H' st' → Rp K (vis F st'.cs H') z d → Q z H') → r v vs H Q
end
section
variable (X : Cx)
def DE (st : SS) (e : Expr) (d : D) (st' : SS) : Prop := PE X e (tD X.K st d st')
def DB (st : SS) (e : Expr) (b : Bool) (st' : SS) : Prop := PT X e (tB X.K st b st')
def DW (st : SS) (e : Expr) (b : Bool) (st' : SS) : Prop := PW X e (tB X.K st b st')
def DA (st : SS) (es : List Expr) (ds : List D) (st' : SS) : Prop := PA X es (tA X.K st ds st')
def DG (tg : Expr) (d : D) (st st' : SS) : Prop := PG X tg (tT X.K d st st')
def DS (st : SS) (s : Stmt) (R : Out) : Prop := PS X s (tS X.K st R)
def DSs (st : SS) (ss : List Stmt) (R : Out) : Prop := PSs X ss (tS X.K st R)
end

/-! ### small facts -/
section
variable {K : PySem.W.Frag} {G : Hp}
theorem Rp.eqv {x y : V} (h : Rp K G x (.v y)) : x = y := by
  cases h
  rfl
theorem RpAll.two {vs : List V} {a b : D} (h : RpAll K G vs [a, b]) : ∃ x y, vs = [x, y] ∧ Rp K G x a ∧ Rp K G y b := by
  cases h with
  | cons h1 h2 =>
    cases h2 with
    | cons h3 h4 =>
      cases h4
      exact ⟨_, _, rfl, h1, h3⟩
theorem RpAll.one' {vs : List V} {a : D} (h : RpAll K G vs [a]) : ∃ x, vs = [x] ∧ Rp K G x a := by
  cases h with
  | cons h1 h2 =>
    cases h2
    exact ⟨_, rfl, h1⟩
end
theorem rr_val {K : PySem.W.Frag} {r : R2} {st : SS} {x y d : D} (h : ∀ (F : Addr → Prop) σ H v u, SA K F σ H st → Rp K (vis F st.cs H) v x → Rp K (vis F st.cs H) u y → ∃ z, Rp K (vis F st.cs H) z d ∧ ∀ Q : VK, Q z H → r v u H Q) : RR K r st x y d st := fun F σ H v u sa rv ru Q q => by
  obtain ⟨z, rz, k⟩ := h F σ H v u sa rv ru
  exact k Q (q z H (.refl _ _) sa rz)
theorem rr_I0 {K : PySem.W.Frag} {st : SS} {g : Int → Int → V} {i j : Int} : RR K (rI0 g) st (.int i) (.int j) (.v (g i j)) st := rr_val fun F σ H v u sa rv ru => by
  cases rv.eqv
  cases ru.eqv
  exact ⟨_, .v _, fun Q q => ⟨i, j, rfl, rfl, q⟩⟩
theorem rr_I {K : PySem.W.Frag} {st : SS} {C : Int → Int → Prop} {g : Int → Int → V} {i j : Int} (hc : C i j) : RR K (rI C g) st (.int i) (.int j) (.v (g i j)) st := rr_val fun F σ H v u sa rv ru => by
  cases rv.eqv
  cases ru.eqv
  exact ⟨_, .v _, fun Q q => ⟨i, j, rfl, rfl, hc, q⟩⟩
theorem ru_val {K : PySem.W.Frag} {r : V → Hp → VK → Prop} {st : SS} {x d : D} (h : ∀ (F : Addr → Prop) σ H v, SA K F σ H st → Rp K (vis F st.cs H) v x → ∃ z, Rp K (vis F st.cs H) z d ∧ ∀ Q : VK, Q z H → r v H Q) : RU1 K r st x d st := fun F σ H v sa rv Q q => by
  obtain ⟨z, rz, k⟩ := h F σ H v sa rv
  exact k Q (q z H (.refl _ _) sa rz)
theorem rc_val {K : PySem.W.Frag} {r : List V → Hp → VK → Prop} {st : SS} {xs : List D} {d : D} (h : ∀ (F : Addr → Prop) σ H vs, SA K F σ H st → RpAll K (vis F st.cs H) vs xs → ∃ z, Rp K (vis F st.cs H) z d ∧ ∀ Q : VK, Q z H → r vs H Q) : RCa K r st xs d st := fun F σ H vs sa rv Q q => by
  obtain ⟨z, rz, k⟩ := h F σ H vs sa rv
  exact k Q (q z H (.refl _ _) sa rz)
theorem rm_val {K : PySem.W.Frag} {r : V → List V → Hp → VK → Prop} {st : SS} {x : D} {xs : List D} {d : D} (h : ∀ (F : Addr → Prop) σ H v vs, SA K F σ H st → Rp K (vis F st.cs H) v x → RpAll K (vis F st.cs H) vs xs → ∃ z, Rp K (vis F st.cs H) z d ∧ ∀ Q : VK, Q z H → r v vs H Q) : RMt K r st x xs d st := fun F σ H v vs sa rx rv Q q => by
  obtain ⟨z, rz, k⟩ := h F σ H v vs sa rx rv
  exact k Q (q z H (.refl _ _) sa rz)

/-! ### expressions -/
section
variable {X : Cx} {st st1 st2 st3 : SS} {e a b c : Expr} {es : List Expr} {d da db dc : D} {ds : List D} {pos : Pos}
theorem de_of {t : TE} (h : PE X e t) (i : ∀ F σ H Q, SA X.K F σ H st → (∀ v H', Step st.cs H st1.cs H' → SA X.K F σ H' st1 → Rp X.K (vis F st1.cs H') v d → Q v H') → t σ H Q) : DE X st e d st1 :=
  pe_imp h fun σ H Q ⟨F, sa, q⟩ => i F σ H Q sa q
theorem de_var (i : Nat) {x : Str} (hs : st.sl[i]? = some (some d)) (hN : X.N[i]? = some x := by rfl) (hv : Vis X.env.scope x := by first | exact Or.inl rfl | exact Or.inr (Or.inl rfl) | exact Or.inr (Or.inr rfl)) (hd : (x == ("__debug__" : Str)) = false := by decide)
    (hcd : (x == ("__classdict__" : Str)) = false := by decide) : DE X st (.Name x pos) d st :=
  de_of (pv i hN hv hd hcd) fun F σ H Q sa q => by
    obtain ⟨v, e1, r⟩ := sa.slots.get i d hs
    exact ⟨v, e1, q v H (.refl _ _) sa r⟩
theorem de_c {v : V} (h : PE X e (tC v)) : DE X st e (.v v) st := de_of h fun F σ H Q sa q => q v H (.refl _ _) sa (.v _)
theorem de_int {i : Int} {j : Nat} : DE X st (.Constant (.int i) j pos) (.int i) st := de_c pe_int
theorem de_bl {k : Bool} {j : Nat} : DE X st (.Constant (.bool k) j pos) (.bl k) st := de_c pe_bl
theorem de_non {j : Nat} : DE X st (.Constant .none j pos) .non st := de_c pe_non
theorem de_str {x : Str} {j : Nat} : DE X st (.Constant (.str x) j pos) (.str x) st := de_c pe_str
theorem de_op {op : Operator} {r : R2} (ho : OpR X (binaryOp op) r) (ha : DE X st a da st1) (hb : DE X st1 b db st2) (hr : RR X.K r st2 da db d st3) : DE X st (.BinOp a op b pos) d st3 :=
  de_of (pe_op ho ha hb) fun F σ H Q sa q => ⟨F, sa, fun x H1 s1 a1 r1 => ⟨F, a1, fun y H2 s2 a2 r2 => hr F σ H2 x y a2 (r1.same s2.vis) r2 Q fun v H3 s3 a3 r3 => q v H3 (s1.trans (s2.trans s3)) a3 r3⟩⟩
theorem de_cmp {op : CmpOp} {r : R2} (ho : OpR X (compareOp op) r) (ha : DE X st a da st1) (hb : DE X st1 b db st2) (hr : RR X.K r st2 da db d st3) (hm : behindInMarks op b = false := by first | exact nomark _ | rfl) : DE X st (.Compare a [op] [b] pos) d st3 :=
  de_of (pe_cmpR ho ha hb hm) fun F σ H Q sa q => ⟨F, sa, fun x H1 s1 a1 r1 => ⟨F, a1, fun y H2 s2 a2 r2 => hr F σ H2 x y a2 (r1.same s2.vis) r2 Q fun v H3 s3 a3 r3 => q v H3 (s1.trans (s2.trans s3)) a3 r3⟩⟩
theorem db_of {k : Bool} {t : TT} (h : PT X e t) (i : ∀ F σ H Q, SA X.K F σ H st → (∀ H', Step st.cs H st1.cs H' → SA X.K F σ H' st1 → Q k H') → t σ H Q) : DB X st e k st1 :=
  pt_imp h fun σ H Q ⟨F, sa, q⟩ => i F σ H Q sa q
theorem db_cmp {op : CmpOp} {r : R2} {k : Bool} (ho : OpR X (compareOp op) r) (ha : DE X st a da st1) (hb : DE X st1 b db st2) (hr : RR X.K r st2 da db (.bl k) st3) (hm : behindInMarks op b = false := by first | exact nomark _ | rfl) : DB X st (.Compare a [op] [b] pos) k st3 :=
  db_of (pt_cmpR ho ha hb hm) fun F σ H Q sa q => ⟨F, sa, fun x H1 s1 a1 r1 => ⟨F, a1, fun y H2 s2 a2 r2 => hr F σ H2 x y a2 (r1.same s2.vis) r2 _ fun v H3 s3 a3 r3 => ⟨k, r3.eqv, q H3 (s1.trans (s2.trans s3)) a3⟩⟩⟩
theorem db_val {k : Bool} (h : DE X st e (.bl k) st1) (he : ∀ whole, isTrue e X.env whole = (do let v ← whole; standAt e.pos; holding [v] (truthy v)) := by intro _; rfl) : DB X st e k st1 :=
  db_of (pt_val h he) fun F σ H Q sa q => ⟨F, sa, fun x H1 s1 a1 r1 => ⟨k, r1.eqv, q H1 s1 a1⟩⟩
/-- a test whatever its rule -/
theorem db_not {k : Bool} (h : DB X st a k st1) : DB X st (.UnaryOp .Not a pos) (!k) st1 := db_of (pt_not h) fun F σ H Q sa q => ⟨F, sa, fun H1 s1 a1 => q H1 s1 a1⟩
theorem dw_of {k : Bool} {t : TT} (h : PW X e t) (i : ∀ F σ H Q, SA X.K F σ H st → (∀ H', Step st.cs H st1.cs H' → SA X.K F σ H' st1 → Q k H') → t σ H Q) : DW X st e k st1 :=
  pw_imp h fun σ H Q ⟨F, sa, q⟩ => i F σ H Q sa q
theorem dw_and1 {k : Bool} (h : DB X st a k st1) : DW X st (.BoolOp .And [a] pos) k st1 := dw_of (pw_and1 h) fun F σ H Q sa q => ⟨F, sa, q⟩
theorem dw_or1 {k : Bool} (h : DB X st a k st1) : DW X st (.BoolOp .Or [a] pos) k st1 := dw_of (pw_or1 h) fun F σ H Q sa q => ⟨F, sa, q⟩
theorem pw_never {e : Expr} : PW X e (fun _ _ _ => False) := ⟨fun _ _ _ _ _ _ _ h => h.elim⟩
theorem pt_never {e : Expr} : PT X e (fun _ _ _ => False) := ⟨fun _ _ _ _ _ _ h => h.elim⟩
theorem pe_never {e : Expr} : PE X e (fun _ _ _ => False) := ⟨fun _ _ _ _ _ _ h => h.elim⟩
theorem dw_and {k j : Bool} {es : List Expr} (ha : DB X st a k st) (hb : k = true → DW X st (.BoolOp .And (b :: es) pos) j st) : DW X st (.BoolOp .And (a :: b :: es) pos) (k && j) st := by
  by_cases h : k = true
  · subst h
    exact dw_of (pw_and ha (hb rfl)) fun F σ H Q sa q => ⟨F, sa, fun H1 s1 a1 => iteT ⟨F, a1, fun H2 s2 a2 => q H2 (s1.trans s2) a2⟩⟩
  · have e : k = false := by simpa using h
    subst e
    exact dw_of (pw_and ha pw_never) fun F σ H Q sa q => ⟨F, sa, fun H1 s1 a1 => iteF (q H1 s1 a1)⟩
theorem dw_or {k j : Bool} {es : List Expr} (ha : DB X st a k st) (hb : k = false → DW X st (.BoolOp .Or (b :: es) pos) j st) : DW X st (.BoolOp .Or (a :: b :: es) pos) (k || j) st := by
  by_cases h : k = true
  · subst h
    exact dw_of (pw_or ha pw_never) fun F σ H Q sa q => ⟨F, sa, fun H1 s1 a1 => iteT (q H1 s1 a1)⟩
  · have e : k = false := by simpa using h
    subst e
    exact dw_of (pw_or ha (hb rfl)) fun F σ H Q sa q => ⟨F, sa, fun H1 s1 a1 => iteF ⟨F, a1, fun H2 s2 a2 => q H2 (s1.trans s2) a2⟩⟩
theorem db_w {k : Bool} (h : DW X st e k st1) : DB X st e k st1 := PW.pt h
theorem db_eq {k j : Bool} (h : DB X st e k st1) (e1 : k = j) : DB X st e j st1 := e1 ▸ h
theorem de_eq {d d' : D} (h : DE X st e d st1) (e1 : d = d') : DE X st e d' st1 := e1 ▸ h
/-- .. as values -/
theorem de_one {op : BoolOp} (h : DE X st a d st1) : DE X st (.BoolOp op [a] pos) d st1 := de_of (pe_one h) fun F σ H Q sa q => ⟨F, sa, q⟩
theorem de_and {k j : Bool} {es : List Expr} (ha : DE X st a (.bl k) st) (hb : k = true → DE X st (.BoolOp .And (b :: es) pos) (.bl j) st) : DE X st (.BoolOp .And (a :: b :: es) pos) (.bl (k && j)) st := by
  by_cases h : k = true
  · subst h
    exact de_of (pe_and ha (hb rfl)) fun F σ H Q sa q => ⟨F, sa, fun v H1 s1 a1 r1 => ⟨true, r1.eqv, iteT ⟨F, a1, fun v H2 s2 a2 r2 => q v H2 (s1.trans s2) a2 r2⟩⟩⟩
  · have e : k = false := by simpa using h
    subst e
    exact de_of (pe_and ha pe_never) fun F σ H Q sa q => ⟨F, sa, fun v H1 s1 a1 r1 => ⟨false, r1.eqv, iteF (q _ H1 s1 a1 (.v _))⟩⟩
theorem de_or {k j : Bool} {es : List Expr} (ha : DE X st a (.bl k) st) (hb : k = false → DE X st (.BoolOp .Or (b :: es) pos) (.bl j) st) : DE X st (.BoolOp .Or (a :: b :: es) pos) (.bl (k || j)) st := by
  by_cases h : k = true
  · subst h
    exact de_of (pe_or ha pe_never) fun F σ H Q sa q => ⟨F, sa, fun v H1 s1 a1 r1 => ⟨true, r1.eqv, iteT (q _ H1 s1 a1 (.v _))⟩⟩
  · have e : k = false := by simpa using h
    subst e
    exact de_of (pe_or ha (hb rfl)) fun F σ H Q sa q => ⟨F, sa, fun v H1 s1 a1 r1 => ⟨false, r1.eqv, iteF ⟨F, a1, fun v H2 s2 a2 r2 => q v H2 (s1.trans s2) a2 r2⟩⟩⟩
theorem de_notV {k : Bool} (ha : DE X st a (.bl k) st1) : DE X st (.UnaryOp .Not a pos) (.bl (!k)) st1 := de_of (pe_not ha) fun F σ H Q sa q => ⟨F, sa, fun v H1 s1 a1 r1 => ⟨k, r1.eqv, q _ H1 s1 a1 (.v _)⟩⟩
theorem de_un {op : UnaryOp} {r : V → Hp → VK → Prop} (ho : UnR X (unaryOp op) r) (ha : DE X st a da st1) (hr : RU1 X.K r st1 da d st2) : DE X st (.UnaryOp op a pos) d st2 :=
  de_of (pe_un ho ha) fun F σ H Q sa q => ⟨F, sa, fun v H1 s1 a1 r1 => hr F σ H1 v a1 r1 Q fun z H2 s2 a2 r2 => q z H2 (s1.trans s2) a2 r2⟩
theorem de_neg {i : Int} (ha : DE X st a (.int i) st1) : DE X st (.UnaryOp .USub a pos) (.int (-i)) st1 := de_un un_neg ha (ru_val fun F σ H v sa rv => by
  cases rv.eqv
  exact ⟨_, .v _, fun Q q => ⟨i, rfl, q⟩⟩)
/-- a if t else b -/
theorem de_if {k : Bool} (hc : DB X st c k st1) (ha : k = true → DE X st1 a d st2) (hb : k = false → DE X st1 b d st2) : DE X st (.IfExp c a b pos) d st2 := by
  cases k with
  | true => exact de_of (pe_ifExp hc (ha rfl) pe_never) fun F σ H Q sa q => ⟨F, sa, fun H1 s1 a1 => iteT ⟨F, a1, fun v H2 s2 a2 r2 => q v H2 (s1.trans s2) a2 r2⟩⟩
  | false => exact de_of (pe_ifExp hc pe_never (hb rfl)) fun F σ H Q sa q => ⟨F, sa, fun H1 s1 a1 => iteF ⟨F, a1, fun v H2 s2 a2 r2 => q v H2 (s1.trans s2) a2 r2⟩⟩

/-! ### rows of arguments, displays -/
theorem da_nil : DA X st [] [] st := pa_imp pa_nil fun σ H Q ⟨F, sa, q⟩ => q [] H (.refl _ _) sa .nil
theorem da_cons (ha : DE X st e d st1) (hr : DA X st1 es ds st2) (hs : starEach (e :: es) X.env = (false, eval e X.env) :: starEach es X.env := by rfl) : DA X st (e :: es) (d :: ds) st2 :=
  pa_imp (pa_cons ha hr hs) fun σ H Q ⟨F, sa, q⟩ => ⟨F, sa, fun v H1 s1 a1 r1 => ⟨F, a1, fun vs H2 s2 a2 r2 => q (v :: vs) H2 (s1.trans s2) a2 (.cons (r1.same s2.vis) r2)⟩⟩
theorem sa_new {K : PySem.W.Frag} {F : Addr → Prop} {σ : L2.St} {H : Hp} {p : Addr} {o : HO} {st : SS} (sa : SA K F σ H st) (hp : H p = none) : SA K F σ (upd H p o) st := sa.grow (same_new hp)
theorem vis_new {K : PySem.W.Frag} {F : Addr → Prop} {H : Hp} {p : Addr} {o : HO} {cs : Cs} (sa : CA K F H cs) (hp : H p = none) : vis F cs (upd H p o) p = some o := hide_of (vis_fresh sa hp) upd_same
theorem de_tup {k : Nat} (h : DA X st es ds st1) (hl : ds.length ≤ sizeLine := by first | exact Nat.le_of_ble_eq_true rfl | decide) : DE X st (.Tuple es k pos) (.tup ds) st1 :=
  de_of (pe_tup h) fun F σ H Q sa q => ⟨F, sa, fun vs H1 s1 a1 r1 => ⟨by rw [r1.length]; exact hl, fun p hp =>
    q (.ref p) _ (s1.trans (.same (same_new hp))) (sa_new a1 hp) (.tup (SqT.of (vis_new a1.ca hp)) (r1.same (hide_mono (same_new hp))))⟩⟩
theorem de_lst (h : DA X st es ds st1) (hl : ds.length ≤ sizeLine := by first | exact Nat.le_of_ble_eq_true rfl | decide) : DE X st (.List es pos) (.lst ds) st1 :=
  de_of (pe_lst h) fun F σ H Q sa q => ⟨F, sa, fun vs H1 s1 a1 r1 => ⟨by rw [r1.length]; exact hl, fun p hp =>
    q (.ref p) _ (s1.trans (.same (same_new hp))) (sa_new a1 hp) (.lst (Rd.of (vis_new a1.ca hp)) (r1.same (hide_mono (same_new hp))))⟩⟩
end
end DL

namespace DL
open PySem L2

/-! ### cells -/
theorem dom_set {cs : Cs} {j : Nat} {p : Addr} {c c' : Cell} (h : cs[j]? = some (p, c)) : dom (cs.set j (p, c')) = dom cs := by
  unfold dom
  rw [List.map_set]
  have hj : (cs.map (·.1))[j]? = some p := by rw [List.getElem?_map, h]; rfl
  obtain ⟨h1, h2⟩ := List.getElem?_eq_some_iff.mp hj
  conv => lhs; rw [← h2]
  exact List.set_getElem_self ..
theorem mem_dom {cs : Cs} {j : Nat} {p : Addr} {c : Cell} (h : cs[j]? = some (p, c)) : p ∈ dom cs := List.mem_map.mpr ⟨_, List.mem_of_getElem? h, rfl⟩
theorem mem_set {cs : Cs} {j : Nat} {p : Addr} {c c' : Cell} (h : cs[j]? = some (p, c)) (nd : (dom cs).Nodup) {q : Addr × Cell} (hq : q ∈ cs.set j (p, c')) : q = (p, c') ∨ (q ∈ cs ∧ q.1 ≠ p) := by
  obtain ⟨i, hi⟩ := List.getElem?_of_mem hq
  by_cases e : j = i
  · subst e
    rw [List.getElem?_set_self (List.getElem?_eq_some_iff.mp h).1] at hi
    exact .inl (Option.some.inj hi).symm
  · rw [List.getElem?_set_ne e] at hi
    refine .inr ⟨List.mem_of_getElem? hi, fun z => e ?_⟩
    have h1 : (dom cs)[j]? = some p := by unfold dom; rw [List.getElem?_map, h]; rfl
    have h2 : (dom cs)[i]? = some p := by unfold dom; rw [List.getElem?_map, hi]; exact congrArg some z
    obtain ⟨a1, a2⟩ := List.getElem?_eq_some_iff.mp h1
    obtain ⟨b1, b2⟩ := List.getElem?_eq_some_iff.mp h2
    exact (List.getElem_inj nd).mp (a2.trans b2.symm)
theorem vis_upd {F : Addr → Prop} {cs : Cs} {H : Hp} {p : Addr} {o : HO} (h : p ∈ dom cs) : vis F cs (upd H p o) = vis F cs H := by
  funext a
  unfold vis hide
  by_cases hc : F a ∨ a ∈ dom cs
  · rw [if_pos hc, if_pos hc]
  · rw [if_neg hc, if_neg hc]
    refine upd_ne fun e => hc (.inr ?_)
    rw [e]
    exact h
theorem vis_congr {F F' : Addr → Prop} {cs cs' : Cs} {H : Hp} (h : ∀ a, (F a ∨ a ∈ dom cs) ↔ (F' a ∨ a ∈ dom cs')) : vis F cs H = vis F' cs' H := by
  funext a
  unfold vis hide
  by_cases hc : F a ∨ a ∈ dom cs
  · rw [if_pos hc, if_pos ((h a).mp hc)]
  · rw [if_neg hc, if_neg fun z => hc ((h a).mpr z)]
/-- a cell's object is replaced -/
theorem CA.put {K : PySem.W.Frag} {F : Addr → Prop} {H : Hp} {cs : Cs} {j : Nat} {p : Addr} {c c' : Cell} {o : HO} (a : CA K F H cs) (h : cs[j]? = some (p, c)) (r : CellRep K (vis F cs H) c' o) : CA K F (upd H p o) (cs.set j (p, c')) := by
  have hd := dom_set (c' := c') h
  have hp := mem_dom h
  have hv : vis F (cs.set j (p, c')) (upd H p o) = vis F cs H := by
    rw [← vis_upd (F := F) (H := H) (o := o) hp]
    exact vis_congr fun a => by rw [hd]
  refine ⟨fun q hq => ?_, by rw [hd]; exact a.nd, fun b hb => ?_⟩
  · rw [hv]
    rcases mem_set h a.nd hq with e | ⟨e1, e2⟩
    · rw [e]
      exact ⟨o, upd_same, r⟩
    · obtain ⟨u, hu, ru⟩ := a.cells q e1
      exact ⟨u, by rw [upd_ne e2]; exact hu, ru⟩
  · obtain ⟨h1, h2⟩ := a.fr b hb
    refine ⟨?_, by rw [hd]; exact h2⟩
    rw [upd_ne fun e => h2 (by rw [e]; exact hp)]
    exact h1
theorem step_put {H : Hp} {cs : Cs} {j : Nat} {p : Addr} {c c' : Cell} {o : HO} (h : cs[j]? = some (p, c)) : Step cs H (cs.set j (p, c')) (upd H p o) :=
  ⟨fun a u e hn => by rw [upd_ne fun z => hn (by rw [z]; exact mem_dom h)]; exact e, fun a ha => .inl (by rw [dom_set h] at ha; exact ha)⟩
theorem SA.put {K : PySem.W.Frag} {F : Addr → Prop} {σ : L2.St} {H : Hp} {st : SS} {j : Nat} {p : Addr} {c c' : Cell} {o : HO} (a : SA K F σ H st) (h : st.cs[j]? = some (p, c)) (r : CellRep K (vis F st.cs H) c' o) : SA K F σ (upd H p o) ⟨st.sl, st.cs.set j (p, c')⟩ := by
  refine ⟨a.ca.put h r, ?_⟩
  have hv : vis F (st.cs.set j (p, c')) (upd H p o) = vis F st.cs H := by
    rw [← vis_upd (F := F) (H := H) (o := o) (mem_dom h)]
    exact vis_congr fun a => by rw [dom_set h]
  show SlAll K (vis F (st.cs.set j (p, c')) (upd H p o)) σ st.sl
  rw [hv]
  exact a.slots
/-- a new cell, behind the others -/
theorem vis_add {F : Addr → Prop} {cs : Cs} {H : Hp} {p : Addr} {c : Cell} {o : HO} (hp : H p = none) : vis F (cs ++ [(p, c)]) (upd H p o) = vis F cs H := by
  funext a
  unfold vis hide
  by_cases ha : a = p
  · subst ha
    rw [if_pos (.inr (by simp [dom])), hp]
    split <;> rfl
  · have e : (F a ∨ a ∈ dom (cs ++ [(p, c)])) ↔ (F a ∨ a ∈ dom cs) := by simp [dom, ha]
    by_cases hc : F a ∨ a ∈ dom cs
    · rw [if_pos (e.mpr hc), if_pos hc]
    · rw [if_neg fun z => hc (e.mp z), if_neg hc, upd_ne ha]
theorem CA.add {K : PySem.W.Frag} {F : Addr → Prop} {H : Hp} {cs : Cs} {p : Addr} {c : Cell} {o : HO} (a : CA K F H cs) (hp : H p = none) (r : CellRep K (vis F cs H) c o) : CA K F (upd H p o) (cs ++ [(p, c)]) := by
  have hv := vis_add (F := F) (cs := cs) (c := c) (o := o) hp
  have hn := vis_fresh a hp
  refine ⟨fun q hq => ?_, ?_, fun b hb => ?_⟩
  · rw [hv]
    rcases List.mem_append.mp hq with e | e
    · obtain ⟨u, hu, ru⟩ := a.cells q e
      exact ⟨u, by rw [upd_ne (ne_of_none hu hp)]; exact hu, ru⟩
    · have e' : q = (p, c) := by simpa using e
      rw [e']
      exact ⟨o, upd_same, r⟩
  · unfold dom
    rw [List.map_append, List.nodup_append]
    refine ⟨a.nd, by simp, ?_⟩
    rintro x hx y hy rfl
    have : x = p := by simpa using hy
    subst this
    exact hn (.inr hx)
  · obtain ⟨h1, h2⟩ := a.fr b hb
    have hbp : b ≠ p := fun e => h1 (by rw [e]; exact hp)
    refine ⟨by rw [upd_ne hbp]; exact h1, ?_⟩
    unfold dom
    rw [List.map_append]
    intro z
    rcases List.mem_append.mp z with z | z
    · exact h2 z
    · exact hbp (by simpa using z)
theorem step_add {H : Hp} {cs : Cs} {p : Addr} {c : Cell} {o : HO} (hp : H p = none) : Step cs H (cs ++ [(p, c)]) (upd H p o) :=
  ⟨fun a u e hn => by rw [upd_ne (ne_of_none e hp)]; exact e, fun a ha => by
    unfold dom at ha
    rw [List.map_append] at ha
    rcases List.mem_append.mp ha with z | z
    · exact .inl z
    · have : a = p := by simpa using z
      rw [this]
      exact .inr hp⟩
theorem SA.add {K : PySem.W.Frag} {F : Addr → Prop} {σ : L2.St} {H : Hp} {st : SS} {p : Addr} {c : Cell} {o : HO} (a : SA K F σ H st) (hp : H p = none) (r : CellRep K (vis F st.cs H) c o) : SA K F σ (upd H p o) ⟨st.sl, st.cs ++ [(p, c)]⟩ := by
  refine ⟨a.ca.add hp r, ?_⟩
  show SlAll K (vis F (st.cs ++ [(p, c)]) (upd H p o)) σ st.sl
  rw [vis_add hp]
  exact a.slots
/-- cells dropped -/
theorem vis_drop {F : Addr → Prop} {cs cs' : Cs} {H : Hp} (h : cs'.Sublist cs) : Same (vis F cs H) (vis F cs' H) := fun a o e => by
  obtain ⟨h1, h2⟩ := hide_some e
  exact hide_of (fun z => h1 (z.imp id fun z => (h.map _).subset z)) h2
theorem CA.drop {K : PySem.W.Frag} {F : Addr → Prop} {H : Hp} {cs cs' : Cs} (a : CA K F H cs) (h : cs'.Sublist cs) : CA K F H cs' :=
  ⟨fun p hp => let ⟨o, h1, h2⟩ := a.cells p (h.subset hp); ⟨o, h1, h2.same (vis_drop h)⟩, a.nd.sublist (h.map _), fun b hb => ⟨(a.fr b hb).1, fun z => (a.fr b hb).2 ((h.map _).subset z)⟩⟩
theorem step_drop {H : Hp} {cs cs' : Cs} (h : cs'.Sublist cs) : Step cs H cs' H := ⟨fun _ _ e _ => e, fun _ ha => .inl ((h.map _).subset ha)⟩
theorem SA.drop {K : PySem.W.Frag} {F : Addr → Prop} {σ : L2.St} {H : Hp} {st : SS} {cs' : Cs} (a : SA K F σ H st) (h : cs'.Sublist st.cs) : SA K F σ H ⟨st.sl, cs'⟩ := ⟨a.ca.drop h, a.slots.same (vis_drop h)⟩

/-! ### promises of defs over data -/
/-- arguments, cells; what comes back and the cells then -/
abbrev RSp := List D → Cs → (D → Cs → Prop) → Prop
def SpN (K : PySem.W.Frag) (R : RSp) : Sp := fun vs H Q _ => ∃ F ds cs P, CA K F H cs ∧ RpAll K (vis F cs H) vs ds ∧ R ds cs P ∧
  ∀ v H' d cs', P d cs' → Step cs H cs' H' → CA K F H' cs' → Rp K (vis F cs' H') v d → Q v H'
/-- a def that reads data and hands back data -/
def pur (R : List D → D → Prop) : RSp := fun ds cs P => cs = [] ∧ ∃ d, R ds d ∧ P = fun d' cs' => d' = d ∧ cs' = []
/-- a def that changes one cell -/
def chg (R : List D → (Addr × Cell) → D → Cell → Prop) : RSp := fun ds cs P => ∃ p c d c', cs = [(p, c)] ∧ R ds (p, c) d c' ∧ P = fun d' cs' => d' = d ∧ cs' = [(p, c')]
/-- a def that hands back a new cell -/
def fresh (R : List D → Cell → Prop) : RSp := fun ds cs P => cs = [] ∧ ∃ c, R ds c ∧ P = fun d' cs' => ∃ p, d' = .ref p ∧ cs' = [(p, c)]
/-- a def that is known under its name -/
structure Known (P : Program) (w : World) (K : PySem.W.Frag) (mg : Str → Option Value) (base : Heap) (x : Str) (k : Nat) (sp : Sp) : Prop where
  ok : ∃ f fd ps, FnOk P w K mg base CX0 k f fd ps sp ∧ mg x = some (.ref f) ∧ PySem.W.keepIn K (.ref f) = true ∧ Binds K fd ps []
theorem Known.mono {P : Program} {w : World} {K : PySem.W.Frag} {mg : Str → Option Value} {base : Heap} {x : Str} {j k : Nat} {sp : Sp} (h : Known P w K mg base x j sp) (l : j ≤ k) : Known P w K mg base x k sp := by
  obtain ⟨f, fd, ps, a, b, c, d⟩ := h.ok
  exact ⟨f, fd, ps, a.mono l, b, c, d⟩

section
variable {X : Cx} {st st1 st2 st3 : SS} {e a b : Expr} {es : List Expr} {s : Stmt} {ss rest : List Stmt} {d da db : D} {ds : List D} {pos : Pos} {R : Out}

/-- the state with the cells of a call set apart -/
theorem CA.callee0 {K : PySem.W.Frag} {F : Addr → Prop} {H : Hp} {cs : Cs} (a : CA K F H cs) : CA K (fun a => F a ∨ a ∈ dom cs) H [] where
  cells := fun p hp => by simp at hp
  nd := by simp [dom]
  fr := fun b hb => by
    refine ⟨?_, by simp [dom]⟩
    rcases hb with hb | hb
    · exact (a.fr b hb).1
    · obtain ⟨q, hq, e⟩ := List.mem_map.mp hb
      obtain ⟨o, ho, _⟩ := a.cells q hq
      rw [← e, ho]
      simp
theorem vis_nil {F : Addr → Prop} {cs : Cs} {H : Hp} : vis (fun a => F a ∨ a ∈ dom cs) [] H = vis F cs H := vis_congr fun a => by simp [dom]
theorem CA.callee1 {K : PySem.W.Frag} {F : Addr → Prop} {H : Hp} {cs : Cs} {j : Nat} {p : Addr} {c : Cell} (a : CA K F H cs) (h : cs[j]? = some (p, c)) : CA K (fun a => F a ∨ (a ∈ dom cs ∧ a ≠ p)) H [(p, c)] where
  cells := fun q hq => by
    have e : q = (p, c) := by simpa using hq
    rw [e]
    obtain ⟨o, ho, r⟩ := a.cells _ (List.mem_of_getElem? h)
    refine ⟨o, ho, ?_⟩
    have hv : vis (fun a => F a ∨ (a ∈ dom cs ∧ a ≠ p)) [(p, c)] H = vis F cs H := vis_congr fun b => by
      have := mem_dom h
      by_cases hb : b = p
      · subst hb
        simp [dom] at this ⊢
        exact .inr this
      · simp [dom, hb]
    rw [hv]
    exact r
  nd := by simp [dom]
  fr := fun b hb => by
    rcases hb with hb | ⟨hb, hn⟩
    · obtain ⟨h1, h2⟩ := a.fr b hb
      refine ⟨h1, fun z => h2 ?_⟩
      have : b = p := by simpa [dom] using z
      rw [this]
      exact mem_dom h
    · obtain ⟨q, hq, e⟩ := List.mem_map.mp hb
      obtain ⟨o, ho, _⟩ := a.cells q hq
      refine ⟨by rw [← e, ho]; simp, fun z => hn (by simpa [dom] using z)⟩
theorem vis_one {F : Addr → Prop} {cs : Cs} {j : Nat} {p : Addr} {c c' : Cell} {H : Hp} (h : cs[j]? = some (p, c)) : vis (fun a => F a ∨ (a ∈ dom cs ∧ a ≠ p)) [(p, c')] H = vis F cs H := vis_congr fun b => by
  have := mem_dom h
  by_cases hb : b = p
  · subst hb
    simp [dom] at this ⊢
    exact .inr this
  · simp [dom, hb]
theorem CA.back1 {K : PySem.W.Frag} {F : Addr → Prop} {H H' : Hp} {cs : Cs} {j : Nat} {p : Addr} {c c' : Cell} (a : CA K F H cs) (h : cs[j]? = some (p, c)) (s : Step [(p, c)] H [(p, c')] H') (b : CA K (fun a => F a ∨ (a ∈ dom cs ∧ a ≠ p)) H' [(p, c')]) :
    CA K F H' (cs.set j (p, c')) ∧ Step cs H (cs.set j (p, c')) H' := by
  have hd := dom_set (c' := c') h
  have st : Step cs H (cs.set j (p, c')) H' := ⟨fun x o e hn => s.1 x o e fun z => hn (by
    have : x = p := by simpa [dom] using z
    rw [this]
    exact mem_dom h), fun x hx => .inl (by rw [hd] at hx; exact hx)⟩
  have hv : vis (fun a => F a ∨ (a ∈ dom cs ∧ a ≠ p)) [(p, c')] H' = vis F (cs.set j (p, c')) H' := (vis_one h).trans (vis_congr fun b => by rw [hd])
  refine ⟨⟨fun q hq => ?_, by rw [hd]; exact a.nd, fun x hx => ?_⟩, st⟩
  · rcases mem_set h a.nd hq with e | ⟨e1, e2⟩
    · rw [e]
      obtain ⟨o, ho, r⟩ := b.cells (p, c') (by simp)
      rw [hv] at r
      exact ⟨o, ho, r⟩
    · obtain ⟨o, ho, r⟩ := a.cells q e1
      exact ⟨o, s.1 _ _ ho (by simpa [dom] using e2), r.same st.vis⟩
  · exact ⟨(b.fr x (.inl hx)).1, by rw [hd]; exact (a.fr x hx).2⟩
theorem known_pe {x : Str} {k : Nat} {t : TA} {sp : Sp} {p : Pos} (G : Known X.prog X.w X.K X.mg X.base x k sp) (hr : Room k X.A) (ha : PA X (e :: es) t) (hg : Gl X x := by rfl) (hdb : (x == ("__debug__" : Str)) = false := by decide)
    (he : starEach (e :: es) X.env = (false, eval e X.env) :: starEach es X.env := by rfl) (hpl : (backTo pos (starEach es X.env)).any (·.1) = false := by rfl) : PE X (.Call (.Name x p) (e :: es) [] pos) (tCall sp [] E0 t) := by
  obtain ⟨f, fd, ps, h1, h2, h3, h4⟩ := G.ok
  exact pe_call h1 hr hg h2 h3 h4 .nil pass0 ha hdb he hpl
/-- f(..), a def over data -/
theorem de_call {x : Str} {k : Nat} {Rf : List D → D → Prop} {p : Pos} (G : Known X.prog X.w X.K X.mg X.base x k (SpN X.K (pur Rf))) (hr : Room k X.A) (ha : DA X st (e :: es) ds st1) (h : Rf ds d) (hg : Gl X x := by rfl) (hdb : (x == ("__debug__" : Str)) = false := by decide)
    (he : starEach (e :: es) X.env = (false, eval e X.env) :: starEach es X.env := by rfl) (hpl : (backTo pos (starEach es X.env)).any (·.1) = false := by rfl) : DE X st (.Call (.Name x p) (e :: es) [] pos) d st1 :=
  de_of (known_pe G hr ha hg hdb he hpl) fun F σ H Q sa q => ⟨F, sa, fun vs H1 s1 a1 r1 => by
    show SpN X.K _ (vs ++ []) H1 Q E0
    rw [List.append_nil]
    refine ⟨_, ds, [], _, a1.ca.callee0, ?_, ⟨rfl, d, h, rfl⟩, ?_⟩
    · rw [vis_nil]
      exact r1
    · rintro v H2 _ _ ⟨rfl, rfl⟩ s2 a2 r2
      have sm : Same H1 H2 := fun a o e => s2.1 a o e (by simp [dom])
      rw [vis_nil] at r2
      exact q v H2 (s1.trans (.same sm)) (a1.grow sm) r2⟩
/-- f(..), a def that changes one cell -/
theorem de_callM (j : Nat) {x : Str} {k : Nat} {Rf : List D → (Addr × Cell) → D → Cell → Prop} {p : Pos} {q : Addr} {c c' : Cell} (G : Known X.prog X.w X.K X.mg X.base x k (SpN X.K (chg Rf))) (hr : Room k X.A) (ha : DA X st (e :: es) ds st1) (hc : st1.cs[j]? = some (q, c)) (h : Rf ds (q, c) d c') (hg : Gl X x := by rfl) (hdb : (x == ("__debug__" : Str)) = false := by decide)
    (he : starEach (e :: es) X.env = (false, eval e X.env) :: starEach es X.env := by rfl) (hpl : (backTo pos (starEach es X.env)).any (·.1) = false := by rfl) : DE X st (.Call (.Name x p) (e :: es) [] pos) d ⟨st1.sl, st1.cs.set j (q, c')⟩ :=
  de_of (known_pe G hr ha hg hdb he hpl) fun F σ H Q sa k => ⟨F, sa, fun vs H1 s1 a1 r1 => by
    show SpN X.K _ (vs ++ []) H1 Q E0
    rw [List.append_nil]
    refine ⟨_, ds, [(q, c)], _, a1.ca.callee1 hc, ?_, ⟨q, c, d, c', rfl, h, rfl⟩, ?_⟩
    · rw [vis_one hc]
      exact r1
    · rintro v H2 _ _ ⟨rfl, rfl⟩ s2 a2 r2
      obtain ⟨b1, b2⟩ := a1.ca.back1 hc s2 a2
      have hv : vis (fun a => F a ∨ (a ∈ dom st1.cs ∧ a ≠ q)) [(q, c')] H2 = vis F (st1.cs.set j (q, c')) H2 := (vis_one hc).trans (vis_congr fun b => by rw [dom_set hc])
      rw [hv] at r2
      exact k v H2 (s1.trans b2) ⟨b1, a1.slots.same b2.vis⟩ r2⟩

/-! ### built-in functions, methods -/
theorem de_callB {x : Str} {id : String} {r : List V → Hp → VK → Prop} {p : Pos} (hc : CallR X (.builtin id) r) (hm : X.mg x = none) (hv : bootBuiltins x = some (.builtin id)) (ha : DA X st (e :: es) ds st1) (hr : RCa X.K r st1 ds d st2) (hg : Gl X x := by rfl) (hn : x ≠ "__name__" := by decide) (hdb : (x == ("__debug__" : Str)) = false := by decide)
    (he : starEach (e :: es) X.env = (false, eval e X.env) :: starEach es X.env := by rfl) (hpl : (backTo pos (starEach es X.env)).any (·.1) = false := by rfl) : DE X st (.Call (.Name x p) (e :: es) [] pos) d st2 :=
  de_of (pe_callB hc hg hm hv ha hn hdb he hpl) fun F σ H Q sa q => ⟨F, sa, fun vs H1 s1 a1 r1 => hr F σ H1 vs a1 r1 Q fun z H2 s2 a2 r2 => q z H2 (s1.trans s2) a2 r2⟩
theorem de_callTy {x : Str} {T : String} {r : List V → Hp → VK → Prop} {p : Pos} (hc : CallR X (.type T) r) (hm : X.mg x = none) (hv : bootBuiltins x = some (.type T)) (ha : DA X st (e :: es) ds st1) (hr : RCa X.K r st1 ds d st2) (hg : Gl X x := by rfl) (hn : x ≠ "__name__" := by decide) (hdb : (x == ("__debug__" : Str)) = false := by decide)
    (he : starEach (e :: es) X.env = (false, eval e X.env) :: starEach es X.env := by rfl) (hpl : (backTo pos (starEach es X.env)).any (·.1) = false := by rfl) : DE X st (.Call (.Name x p) (e :: es) [] pos) d st2 :=
  de_of (pe_callTy hc hg hm hv ha hn hdb he hpl) fun F σ H Q sa q => ⟨F, sa, fun vs H1 s1 a1 r1 => hr F σ H1 vs a1 r1 Q fun z H2 s2 a2 r2 => q z H2 (s1.trans s2) a2 r2⟩
/-- the receiver's type -/
def TyR (K : PySem.W.Frag) (T : String) (st : SS) (d : D) : Prop := ∀ F σ H v, SA K F σ H st → Rp K (vis F st.cs H) v d → tyV K T v H
theorem de_bm {o : Expr} {name : Str} {apos cpos : Pos} {T id : String} {r : V → List V → Hp → VK → Prop} (pa : PlainAttrs T) (slot : Slot T name id) (hty : typeOf (.builtin id) = pure (.type "method_descriptor")) (hm : MtR X id r) (ho : DE X st o da st1) (ty : TyR X.K T st1 da) (ha : DA X st1 (e :: es) ds st2) (hr : RMt X.K r st2 da ds d st3)
    (hbase : attributeBase o name X.env (eval o X.env) = eval o X.env := by rfl)
    (hfew : ((backTo cpos (starEach (e :: es) X.env)).all (fun x => !x.1) && (backToKw cpos (keywordEach [] X.env)).all (fun x => x.1.isSome)
      && decide ((e :: es).length + ([] : List Keyword).length + (if ([] : List Keyword).isEmpty then 0 else 1) < 30)) = true := by rfl)
    (hline : (apos.endLine == cpos.line) = true := by rfl) (hs : starEach (e :: es) X.env = (false, eval e X.env) :: starEach es X.env := by rfl) (hplain : (backTo cpos (starEach es X.env)).any (·.1) = false := by rfl) :
    DE X st (.Call (.Attribute o name apos) (e :: es) [] cpos) d st3 :=
  de_of (pe_bm pa slot hty hm ho ha hbase hfew hline hs hplain) fun F σ H Q sa q => ⟨F, sa, fun v H1 s1 a1 r1 => ⟨ty F σ H1 v a1 r1, F, a1, fun vs H2 s2 a2 r2 => hr F σ H2 v vs a2 (r1.same s2.vis) r2 Q fun z H3 s3 a3 r3 => q z H3 (s1.trans (s2.trans s3)) a3 r3⟩⟩
theorem ty_lst : TyR X.K "list" st (.lst ds) := fun F σ H v sa r => by
  cases r with
  | lst h1 h2 => exact .inl ⟨rfl, _, rd_l h1⟩
theorem ty_cell {p : Addr} {j : Nat} (h : st.cs[j]? = some (p, .lst ds)) : TyR X.K "list" st (.ref p) := fun F σ H v sa r => by
  cases r.eqv
  obtain ⟨o, ho, xs, e, _⟩ := sa.ca.cells _ (List.mem_of_getElem? h)
  subst e
  exact .inl ⟨rfl, _, SqL.of ho⟩
/-- what a cell's list holds -/
theorem cell_lst {K : PySem.W.Frag} {F : Addr → Prop} {H : Hp} {cs : Cs} {p : Addr} {j : Nat} (a : CA K F H cs) (h : cs[j]? = some (p, .lst ds)) : ∃ xs, H p = some (.lst xs) ∧ RpAll K (vis F cs H) xs ds := by
  obtain ⟨o, ho, xs, e, r⟩ := a.cells _ (List.mem_of_getElem? h)
  subst e
  exact ⟨xs, ho, r⟩
theorem rm_append {p : Addr} {j : Nat} (h : st.cs[j]? = some (p, .lst ds)) (hl : ds.length < sizeLine) : RMt X.K rAppend st (.ref p) [d] .non ⟨st.sl, st.cs.set j (p, .lst (ds ++ [d]))⟩ := fun F σ H v vs sa rx rv Q q => by
  cases rx.eqv
  obtain ⟨y, rfl, ry⟩ := rv.one'
  obtain ⟨xs, hx, rs⟩ := cell_lst sa.ca h
  refine ⟨p, xs, y, rfl, rfl, hx, by rw [rs.length]; exact hl, q _ _ (step_put h) (sa.put h ⟨_, rfl, rs.append (.one ry)⟩) (.v _)⟩
/-- xs.append(e), xs a cell's list -/
theorem de_append (j : Nat) {o : Expr} {p : Addr} {apos cpos : Pos} (ho : DE X st o (.ref p) st1) (h1 : ∃ es, st1.cs[j]? = some (p, .lst es)) (ha : DE X st1 e d st2) (h : st2.cs[j]? = some (p, .lst ds)) (hl : ds.length < sizeLine)
    (hbase : attributeBase o "append" X.env (eval o X.env) = eval o X.env := by rfl)
    (hline : (apos.endLine == cpos.line) = true := by rfl) (hs : starEach [e] X.env = (false, eval e X.env) :: starEach [] X.env := by rfl) :
    DE X st (.Call (.Attribute o "append" apos) [e] [] cpos) .non ⟨st2.sl, st2.cs.set j (p, .lst (ds ++ [d]))⟩ := by
  obtain ⟨es, h1⟩ := h1
  exact de_bm PySem.F.plainAttrs_list PySem.F.slot_list_append PySem.F.type_list_append mt_append ho (ty_cell h1) (da_cons ha da_nil hs) (rm_append h hl) hbase (by rw [hs] <;> rfl) hline hs (by rfl)

/-! ### subscripts -/
theorem at_get {α β : Type} {xs : List α} {ys : List β} {i : Int} {y : β} (hl : xs.length = ys.length) (h : atI ys i = some y) : ∃ j : Nat, ys[j]? = some y ∧ ∀ x, xs[j]? = some x → atI xs i = some x := by
  obtain ⟨j, h1, h2, _⟩ := atI_get h
  refine ⟨j, h2, fun x hx => ?_⟩
  unfold atI at h ⊢
  rw [hl]
  cases e : ixN ys.length i with
  | none => rw [e] at h; cases h
  | some k =>
    have : k = j := by
      have := (ixN_seq e).1
      rw [h1] at this
      exact (Option.some.inj this).symm
    subst this
    exact hx
theorem all_at {K : PySem.W.Frag} {G : Hp} {xs : List V} {i : Int} (r : RpAll K G xs ds) (h : atI ds i = some d) : ∃ x, atI xs i = some x ∧ Rp K G x d := by
  obtain ⟨j, h1, h2⟩ := at_get r.length h
  obtain ⟨x, hx, rx⟩ := r.get h1
  exact ⟨x, h2 x hx, rx⟩
theorem rr_ixL {i : Int} (h : atI ds i = some d) : RR X.K (rIxL X.K) st (.lst ds) (.int i) d st := rr_val fun F σ H v u sa rv ru => by
  cases ru.eqv
  cases rv with
  | lst h1 h2 =>
    obtain ⟨x, hx, rx⟩ := all_at h2 h
    exact ⟨x, rx, fun Q q => ⟨_, _, _, _, rfl, rfl, rd_l h1, hx, q⟩⟩
theorem rr_ixK {i : Int} (h : atI ds i = some d) : RR X.K (rIxL X.K) st (.klst ds) (.int i) d st := rr_val fun F σ H v u sa rv ru => by
  cases ru.eqv
  cases rv with
  | klst h1 h2 =>
    obtain ⟨x, hx, rx⟩ := all_at h2 h
    exact ⟨x, rx, fun Q q => ⟨_, _, _, _, rfl, rfl, same_l (hide_le _ _) h1, hx, q⟩⟩
theorem rr_ixT {i : Int} (h : atI ds i = some d) : RR X.K (rIxT X.K) st (.tup ds) (.int i) d st := rr_val fun F σ H v u sa rv ru => by
  cases ru.eqv
  cases rv with
  | tup h1 h2 =>
    obtain ⟨x, hx, rx⟩ := all_at h2 h
    exact ⟨x, rx, fun Q q => ⟨_, _, _, _, rfl, rfl, same_t (hide_le _ _) h1, hx, q⟩⟩
theorem rr_ixC {p : Addr} {j : Nat} {i : Int} (hc : st.cs[j]? = some (p, .lst ds)) (h : atI ds i = some d) : RR X.K (rIxL X.K) st (.ref p) (.int i) d st := rr_val fun F σ H v u sa rv ru => by
  cases ru.eqv
  cases rv.eqv
  obtain ⟨xs, hx, rs⟩ := cell_lst sa.ca hc
  obtain ⟨x, hx', rx⟩ := all_at rs h
  exact ⟨x, rx, fun Q q => ⟨_, _, _, _, rfl, rfl, SqL.of hx, hx', q⟩⟩
theorem de_ix {r : R2} (hr : IxR X r) (ha : DE X st a da st1) (hb : DE X st1 b db st2) (h : RR X.K r st2 da db d st3) (hs : PlainIx b := by exact fun _ _ => rfl) : DE X st (.Subscript a b pos) d st3 :=
  de_of (pe_ix hr ha hb hs) fun F σ H Q sa q => ⟨F, sa, fun x H1 s1 a1 r1 => ⟨F, a1, fun y H2 s2 a2 r2 => h F σ H2 x y a2 (r1.same s2.vis) r2 Q fun v H3 s3 a3 r3 => q v H3 (s1.trans (s2.trans s3)) a3 r3⟩⟩
theorem de_ixL {i : Int} (ha : DE X st a (.lst ds) st1) (hb : DE X st1 b (.int i) st2) (h : atI ds i = some d) (hs : PlainIx b := by exact fun _ _ => rfl) : DE X st (.Subscript a b pos) d st2 := de_ix ix_list ha hb (rr_ixL h) hs
theorem de_ixK {i : Int} (ha : DE X st a (.klst ds) st1) (hb : DE X st1 b (.int i) st2) (h : atI ds i = some d) (hs : PlainIx b := by exact fun _ _ => rfl) : DE X st (.Subscript a b pos) d st2 := de_ix ix_list ha hb (rr_ixK h) hs
theorem de_ixT {i : Int} (ha : DE X st a (.tup ds) st1) (hb : DE X st1 b (.int i) st2) (h : atI ds i = some d) (hs : PlainIx b := by exact fun _ _ => rfl) : DE X st (.Subscript a b pos) d st2 := de_ix ix_tup ha hb (rr_ixT h) hs
theorem de_ixC (j : Nat) {p : Addr} {i : Int} (ha : DE X st a (.ref p) st1) (hb : DE X st1 b (.int i) st2) (hc : st2.cs[j]? = some (p, .lst ds)) (h : atI ds i = some d) (hs : PlainIx b := by exact fun _ _ => rfl) : DE X st (.Subscript a b pos) d st2 := de_ix ix_list ha hb (rr_ixC hc h) hs
end
end DL

namespace DL
open PySem L2

/-! ### statements -/
section
variable {X : Cx} {st st1 st2 st3 : SS} {e a b c : Expr} {es : List Expr} {s : Stmt} {ss rest : List Stmt} {d da db : D} {ds : List D} {pos : Pos} {R : Out}
theorem ds_of {t : TS} (h : PS X s t) (i : ∀ F σ H E, SA X.K F σ H st →
    (∀ σ' H' st', R.nx st' → Step st.cs H st'.cs H' → SA X.K F σ' H' st' → E.nx σ' H') →
    (∀ v H' d cs', R.rt d cs' → Step st.cs H cs' H' → CA X.K F H' cs' → Rp X.K (vis F cs' H') v d → E.rt v H') →
    (∀ σ' H' st', R.bk st' → Step st.cs H st'.cs H' → SA X.K F σ' H' st' → E.bk σ' H') →
    (∀ σ' H' st', R.ct st' → Step st.cs H st'.cs H' → SA X.K F σ' H' st' → E.ct σ' H') →
    (∀ σ' H' cls od fs st', R.ex cls fs st' → Step st.cs H st'.cs H' → SA X.K F σ' H' st' → ExAt X.K (vis F st'.cs H') od fs → R.E cls od σ' H') → t E σ H) : DS X st s R :=
  ps_imp h fun E σ H ⟨F, sa, q1, q2, q3, q4, q5⟩ => i F σ H E sa q1 q2 q3 q4 q5
theorem tS_imp {K : PySem.W.Frag} {R R' : Out} {st : SS} {E : Ends} {σ : L2.St} {H : Hp} (h : tS K st R E σ H) (h1 : ∀ s, R'.nx s → R.nx s) (h2 : ∀ d cs, R'.rt d cs → R.rt d cs) (h3 : ∀ s, R'.bk s → R.bk s) (h4 : ∀ s, R'.ct s → R.ct s) (h5 : ∀ c fs s, R'.ex c fs s → R.ex c fs s) (h6 : R'.E = R.E) : tS K st R' E σ H := by
  obtain ⟨F, sa, q1, q2, q3, q4, q5⟩ := h
  exact ⟨F, sa, fun σ' H' st' r => q1 σ' H' st' (h1 _ r), fun v H' d cs' r => q2 v H' d cs' (h2 _ _ r), fun σ' H' st' r => q3 σ' H' st' (h3 _ r), fun σ' H' st' r => q4 σ' H' st' (h4 _ r), fun σ' H' c od fs st' r z1 z2 z3 => by rw [h6]; exact q5 σ' H' c od fs st' (h5 _ _ _ r) z1 z2 z3⟩
theorem dss_imp {R' : Out} (h : DSs X st ss R') (h1 : ∀ s, R'.nx s → R.nx s) (h2 : ∀ d cs, R'.rt d cs → R.rt d cs) (h3 : ∀ s, R'.bk s → R.bk s) (h4 : ∀ s, R'.ct s → R.ct s) (h5 : ∀ c fs s, R'.ex c fs s → R.ex c fs s := by exact fun _ _ _ z => z) (h6 : R'.E = R.E := by rfl) : DSs X st ss R :=
  pss_imp h fun E σ H q => tS_imp q h1 h2 h3 h4 h5 h6
theorem dss_nil (h : R.nx st) : DSs X st [] R := pss_imp pss_nil fun E σ H ⟨F, sa, q, _⟩ => q σ H st h (.refl _ _) sa
theorem dss_cons {J : SS → Prop} (h : DS X st s ⟨J, R.rt, R.bk, R.ct, R.ex, R.E⟩) (hr : ∀ st', J st' → DSs X st' rest R) : DSs X st (s :: rest) R :=
  pss_imp (pss_cons h (pss_ex (C := J) (t := fun st' => tS X.K st' R) hr)) fun E σ H ⟨F, sa, q1, q2, q3, q4, q5⟩ => by
    refine ⟨F, sa, fun σ' H' st' j s1 a1 => ⟨st', j, F, a1, fun σ2 H2 st2 r s2 a2 => q1 σ2 H2 st2 r (s1.trans s2) a2, fun v H2 d cs' r s2 a2 rv => q2 v H2 d cs' r (s1.trans s2) a2 rv,
      fun σ2 H2 st2 r s2 a2 => q3 σ2 H2 st2 r (s1.trans s2) a2, fun σ2 H2 st2 r s2 a2 => q4 σ2 H2 st2 r (s1.trans s2) a2, fun σ2 H2 c od fs st2 r s2 a2 z => q5 σ2 H2 c od fs st2 r (s1.trans s2) a2 z⟩, q2, q3, q4, q5⟩
/-- the state is read otherwise ahead of a block -/
theorem dss_re {st' : SS} (h : ∀ F σ H, SA X.K F σ H st → SA X.K F σ H st' ∧ Step st.cs H st'.cs H) (k : DSs X st' ss R) : DSs X st ss R := pss_imp k fun E σ H ⟨F, sa, q1, q2, q3, q4, q5⟩ => by
  obtain ⟨a, s0⟩ := h F σ H sa
  exact ⟨F, a, fun σ2 H2 st2 r s2 a2 => q1 σ2 H2 st2 r (s0.trans s2) a2, fun v H2 d cs' r s2 a2 rv => q2 v H2 d cs' r (s0.trans s2) a2 rv,
      fun σ2 H2 st2 r s2 a2 => q3 σ2 H2 st2 r (s0.trans s2) a2, fun σ2 H2 st2 r s2 a2 => q4 σ2 H2 st2 r (s0.trans s2) a2, fun σ2 H2 c od fs st2 r s2 a2 z => q5 σ2 H2 c od fs st2 r (s0.trans s2) a2 z⟩
theorem dss_drop {cs' : Cs} (h : cs'.Sublist st.cs) (k : DSs X ⟨st.sl, cs'⟩ ss R) : DSs X st ss R := dss_re (fun F σ H sa => ⟨sa.drop h, step_drop h⟩) k
/-- a slot is forgotten -/
theorem SlAll.less {K : PySem.W.Frag} {G : Hp} {σ : L2.St} {sl sl' : Sl} (h : SlAll K G σ sl) (hl : sl'.length = sl.length) (w : ∀ (i : Nat) (d : D), sl'[i]? = some (some d) → sl[i]? = some (some d)) : SlAll K G σ sl' := ⟨h.len.trans hl.symm, fun i d q => h.get i d (w i d q)⟩
/-- a cell that is only read from here on: data -/
theorem cell_free (j i : Nat) {p : Addr} (hc : st.cs[j]? = some (p, .lst ds)) (hi : st.sl[i]? = some (some (.ref p))) (k : DSs X ⟨st.sl.set i (some (.lst ds)), st.cs.eraseIdx j⟩ ss R) : DSs X st ss R :=
  dss_re (fun F σ H sa => by
    have hs : (st.cs.eraseIdx j).Sublist st.cs := List.eraseIdx_sublist ..
    have a := sa.drop hs
    refine ⟨⟨a.ca, ?_⟩, step_drop hs⟩
    obtain ⟨xs, hx, rs⟩ := cell_lst sa.ca hc
    have hp : p ∉ dom (st.cs.eraseIdx j) := by
      intro z
      have h1 := sa.ca.nd
      obtain ⟨q, hq, e⟩ := List.mem_map.mp z
      obtain ⟨m, hm⟩ := List.getElem?_of_mem hq
      rw [List.getElem?_eraseIdx] at hm
      have g1 : (dom st.cs)[j]? = some p := by unfold dom; rw [List.getElem?_map, hc]; rfl
      obtain ⟨b1, b2⟩ := List.getElem?_eq_some_iff.mp g1
      split at hm
      · rename_i hlt
        have g2 : (dom st.cs)[m]? = some p := by unfold dom; rw [List.getElem?_map, hm]; exact congrArg some e
        obtain ⟨a1, a2⟩ := List.getElem?_eq_some_iff.mp g2
        have := (List.getElem_inj h1).mp (a2.trans b2.symm)
        omega
      · rename_i hlt
        have g2 : (dom st.cs)[m + 1]? = some p := by unfold dom; rw [List.getElem?_map, hm]; exact congrArg some e
        obtain ⟨a1, a2⟩ := List.getElem?_eq_some_iff.mp g2
        have := (List.getElem_inj h1).mp (a2.trans b2.symm)
        omega
    have hF : ¬ F p := fun z => (sa.ca.fr p z).2 (mem_dom hc)
    have rp : Rp X.K (vis F (st.cs.eraseIdx j) H) (.ref p) (.lst ds) := .lst (Rd.of (hide_of (fun z => z.elim hF hp) hx)) (rs.same (vis_drop hs))
    refine ⟨by rw [List.length_set]; exact a.slots.len, fun m e q => ?_⟩
    by_cases hm : i = m
    · subst hm
      obtain ⟨v, hv, rv⟩ := sa.slots.get i _ hi
      cases rv.eqv
      rw [List.getElem?_set_self (List.getElem?_eq_some_iff.mp hi).1] at q
      cases q
      exact ⟨_, hv, rp⟩
    · rw [List.getElem?_set_ne hm] at q
      exact a.slots.get m e q) k

theorem sa_set {K : PySem.W.Frag} {F : Addr → Prop} {σ : L2.St} {H : Hp} {st : SS} {i : Nat} {v : V} {d : D} (a : SA K F σ H st) (r : Rp K (vis F st.cs H) v d) : SA K F (σ.set i (some v)) H ⟨st.sl.set i (some d), st.cs⟩ := ⟨a.ca, a.slots.set r⟩
/-- x = e -/
theorem ds_set (i : Nat) {x : Str} {px : Pos} (nd : X.N.Nodup) (he : DE X st e d st1) (h : R.nx ⟨st1.sl.set i (some d), st1.cs⟩) (hi : X.N[i]? = some x := by rfl) (hx : Loc X.env.scope x := by first | exact Or.inl rfl | exact Or.inr rfl)
    (hs : swapsWith e (some (.Name x px)) pos.line X.env = pure false := by rfl) (hf : X.fn x = true ∨ X.env.scope.names.lookup x = some .local := by first | exact .inl rfl | exact .inr rfl) : DS X st (.Assign [.Name x px] e pos) R :=
  ds_of (ps_set nd hi hx he hs hf) fun F σ H E sa q1 q2 q3 q4 q5 => ⟨F, sa, fun v H1 s1 a1 r1 => q1 _ H1 _ h s1 (sa_set a1 r1)⟩
theorem ds_asg (i : Nat) {x : Str} {px : Pos} (nd : X.N.Nodup) (he : DE X st e d st1) (h : DSs X ⟨st1.sl.set i (some d), st1.cs⟩ rest R) (hi : X.N[i]? = some x := by rfl) (hx : Loc X.env.scope x := by first | exact Or.inl rfl | exact Or.inr rfl)
    (hs : swapsWith e (some (.Name x px)) pos.line X.env = pure false := by rfl) (hf : X.fn x = true ∨ X.env.scope.names.lookup x = some .local := by first | exact .inl rfl | exact .inr rfl) : DSs X st (.Assign [.Name x px] e pos :: rest) R :=
  dss_cons (J := fun s => s = ⟨st1.sl.set i (some d), st1.cs⟩) (ds_set i nd he rfl hi hx hs hf) fun _ z => z ▸ h
/-- x = [a, b, ..], a list that will be changed -/
theorem ds_new (i : Nat) {x : Str} {px pl : Pos} (nd : X.N.Nodup) (he : DA X st es ds st1) (h : ∀ p, DSs X ⟨st1.sl.set i (some (.ref p)), st1.cs ++ [(p, .lst ds)]⟩ rest R) (hl : ds.length ≤ sizeLine := by first | exact Nat.le_of_ble_eq_true rfl | decide) (hi : X.N[i]? = some x := by rfl) (hx : Loc X.env.scope x := by first | exact Or.inl rfl | exact Or.inr rfl)
    (hs : swapsWith (.List es pl) (some (.Name x px)) pos.line X.env = pure false := by rfl) (hf : X.fn x = true ∨ X.env.scope.names.lookup x = some .local := by first | exact .inl rfl | exact .inr rfl) : DSs X st (.Assign [.Name x px] (.List es pl) pos :: rest) R :=
  dss_cons (J := fun s => ∃ p, s = ⟨st1.sl.set i (some (.ref p)), st1.cs ++ [(p, .lst ds)]⟩)
    (ds_of (ps_set nd hi hx (pe_lst he) hs hf) fun F σ H E sa q1 q2 q3 q4 q5 => ⟨F, sa, fun vs H1 s1 a1 r1 => ⟨by rw [r1.length]; exact hl, fun p hp => by
      have a2 := a1.add (c := .lst ds) (o := .lst vs) hp ⟨vs, rfl, r1⟩
      exact q1 _ _ _ ⟨p, rfl⟩ (s1.trans (step_add hp)) (sa_set a2 (.v _))⟩⟩) fun _ ⟨p, z⟩ => z ▸ h p
/-- x = f(..), f handing back a new cell -/
theorem ds_callN (i : Nat) {x f : Str} {px p : Pos} {k : Nat} {Rf : List D → Cell → Prop} {cpos : Pos} {cl : Cell} (nd : X.N.Nodup) (G : Known X.prog X.w X.K X.mg X.base f k (SpN X.K (fresh Rf))) (hr : Room k X.A) (ha : DA X st (e :: es) ds st1) (hR : Rf ds cl)
    (h : ∀ p, DSs X ⟨st1.sl.set i (some (.ref p)), st1.cs ++ [(p, cl)]⟩ rest R) (hg : Gl X f := by rfl) (hdb : (f == ("__debug__" : Str)) = false := by decide)
    (he : starEach (e :: es) X.env = (false, eval e X.env) :: starEach es X.env := by rfl) (hpl : (backTo cpos (starEach es X.env)).any (·.1) = false := by rfl) (hi : X.N[i]? = some x := by rfl) (hx : Loc X.env.scope x := by first | exact Or.inl rfl | exact Or.inr rfl)
    (hs : swapsWith (.Call (.Name f p) (e :: es) [] cpos) (some (.Name x px)) pos.line X.env = pure false := by rfl) (hf : X.fn x = true ∨ X.env.scope.names.lookup x = some .local := by first | exact .inl rfl | exact .inr rfl) : DSs X st (.Assign [.Name x px] (.Call (.Name f p) (e :: es) [] cpos) pos :: rest) R :=
  dss_cons (J := fun s => ∃ p, s = ⟨st1.sl.set i (some (.ref p)), st1.cs ++ [(p, cl)]⟩)
    (ds_of (ps_set nd hi hx (known_pe G hr ha hg hdb he hpl) hs hf) fun F σ H E sa q1 q2 q3 q4 q5 => ⟨F, sa, fun vs H1 s1 a1 r1 => by
      show SpN X.K _ (vs ++ []) H1 _ E0
      rw [List.append_nil]
      refine ⟨_, ds, [], _, a1.ca.callee0, ?_, ⟨rfl, cl, hR, rfl⟩, ?_⟩
      · rw [vis_nil]
        exact r1
      · rintro v H2 _ _ ⟨pp, rfl, rfl⟩ s2 a2 r2
        cases r2.eqv
        have sm : Same H1 H2 := fun a o e => s2.1 a o e (by simp [dom])
        have hp : H1 pp = none := by
          rcases s2.2 pp (by simp [dom]) with z | z
          · simp [dom] at z
          · exact z
        have hn := vis_fresh a1.ca hp
        have hdom : ∀ b, b ∈ dom (st1.cs ++ [(pp, cl)]) ↔ b ∈ dom st1.cs ∨ b = pp := fun b => by simp [dom]
        have st2 : Step st1.cs H1 (st1.cs ++ [(pp, cl)]) H2 := ⟨fun a o e _ => sm a o e, fun a ha => by
          rcases (hdom a).mp ha with z | z
          · exact .inl z
          · exact .inr (by rw [z]; exact hp)⟩
        have hv : vis (fun a => F a ∨ a ∈ dom st1.cs) [(pp, cl)] H2 = vis F (st1.cs ++ [(pp, cl)]) H2 := vis_congr fun b => by
          rw [hdom]
          simp [dom, or_assoc]
        have ca2 : CA X.K F H2 (st1.cs ++ [(pp, cl)]) := by
          refine ⟨fun q hq => ?_, ?_, fun b hb => ?_⟩
          · rcases List.mem_append.mp hq with z | z
            · obtain ⟨o, ho, r⟩ := a1.ca.cells q z
              exact ⟨o, sm _ _ ho, r.same st2.vis⟩
            · obtain ⟨o, ho, r⟩ := a2.cells q z
              rw [hv] at r
              exact ⟨o, ho, r⟩
          · unfold dom
            rw [List.map_append, List.nodup_append]
            refine ⟨a1.ca.nd, by simp, ?_⟩
            rintro y hy z hz rfl
            have : y = pp := by simpa using hz
            subst this
            exact hn (.inr hy)
          · refine ⟨(a2.fr b (.inl hb)).1, fun z => ?_⟩
            rcases (hdom b).mp z with z | z
            · exact (a1.ca.fr b hb).2 z
            · exact hn (.inl (by rw [← z]; exact hb))
        have a3 : SA X.K F σ H2 ⟨st1.sl, st1.cs ++ [(pp, cl)]⟩ := ⟨ca2, a1.slots.same st2.vis⟩
        exact q1 _ _ _ ⟨pp, rfl⟩ (s1.trans st2) (sa_set a3 (.v _))⟩) fun _ ⟨p, z⟩ => z ▸ h p
/-- an expression alone -/
theorem ds_ex (he : DE X st e d st1) (h : DSs X st1 rest R) (hs : swapsWith e none pos.line X.env = pure false := by rfl) : DSs X st (.Expr e pos :: rest) R :=
  dss_cons (J := fun s => s = st1) (ds_of (ps_expr he hs) fun F σ H E sa q1 q2 q3 q4 q5 => ⟨F, sa, fun v H1 s1 a1 r1 => q1 _ H1 _ rfl s1 a1⟩) fun _ z => z ▸ h
theorem ds_ret (he : DE X st e d st1) (h : R.rt d st1.cs) : DSs X st (.Return (some e) pos :: rest) R :=
  dss_cons (J := fun _ => False) (ds_of (ps_ret he) fun F σ H E sa q1 q2 q3 q4 q5 => ⟨F, sa, fun v H1 s1 a1 r1 => q2 v H1 d st1.cs h s1 a1.ca r1⟩) fun _ z => z.elim
/-- return of a cell -/
theorem ds_retN (h : R.rt .non st.cs) : DSs X st (.Return none pos :: rest) R :=
  dss_cons (J := fun _ => False) (ds_of ps_retN fun F σ H E sa q1 q2 q3 q4 q5 => q2 _ H _ st.cs h (.refl _ _) sa.ca (.v _)) fun _ z => z.elim
/-- return of a list that was a cell: data -/
theorem ds_retC (j : Nat) {p : Addr} (he : DE X st e (.ref p) st1) (hc : st1.cs[j]? = some (p, .lst ds)) (h : R.rt (.lst ds) []) : DSs X st (.Return (some e) pos :: rest) R :=
  dss_cons (J := fun _ => False) (ds_of (ps_ret he) fun F σ H E sa q1 q2 q3 q4 q5 => ⟨F, sa, fun v H1 s1 a1 r1 => by
    cases r1.eqv
    obtain ⟨xs, hx, rs⟩ := cell_lst a1.ca hc
    have hs : ([] : Cs).Sublist st1.cs := List.nil_sublist _
    have hF : ¬ F p := fun z => (a1.ca.fr p z).2 (mem_dom hc)
    exact q2 _ H1 _ [] h (s1.trans (step_drop hs)) (a1.ca.drop hs) (.lst (Rd.of (hide_of (fun z => z.elim hF (by simp [dom])) hx)) (rs.same (vis_drop hs)))⟩) fun _ z => z.elim
theorem ds_pass (h : DSs X st rest R) : DSs X st (.Pass pos :: rest) R := dss_cons (J := fun s => s = st) (ds_of ps_pass fun F σ H E sa q1 q2 q3 q4 q5 => q1 _ H _ rfl (.refl _ _) sa) fun _ z => z ▸ h
theorem ds_break (h : R.bk st) : DSs X st (.Break pos :: rest) R := dss_cons (J := fun _ => False) (ds_of ps_break fun F σ H E sa q1 q2 q3 q4 q5 => q3 _ H _ h (.refl _ _) sa) fun _ z => z.elim
theorem ds_cont (h : R.ct st) : DSs X st (.Continue pos :: rest) R := dss_cons (J := fun _ => False) (ds_of ps_continue fun F σ H E sa q1 q2 q3 q4 q5 => q4 _ H _ h (.refl _ _) sa) fun _ z => z.elim
theorem pss_no {ss : List Stmt} : PSs X ss (fun _ _ _ => False) := ⟨fun _ _ _ _ _ _ h => h.elim⟩
/-- if c: A else: B; J: what then stands -/
theorem ds_if (J : SS → Prop) {k : Bool} {p q : List Stmt} (hc : DB X st c k st1) (ha : k = true → DSs X st1 p ⟨J, R.rt, R.bk, R.ct, R.ex, R.E⟩) (hb : k = false → DSs X st1 q ⟨J, R.rt, R.bk, R.ct, R.ex, R.E⟩) (h : ∀ st', J st' → DSs X st' rest R) : DSs X st (.If c p q pos :: rest) R := by
  refine dss_cons (J := J) ?_ h
  cases k with
  | true => exact ds_of (ps_if hc (ha rfl) pss_no) fun F σ H E sa q1 q2 q3 q4 q5 => ⟨F, sa, fun H1 s1 a1 => iteT ⟨F, a1, fun σ2 H2 st2 r s2 a2 => q1 σ2 H2 st2 r (s1.trans s2) a2, fun v H2 d cs' r s2 a2 rv => q2 v H2 d cs' r (s1.trans s2) a2 rv,
      fun σ2 H2 st2 r s2 a2 => q3 σ2 H2 st2 r (s1.trans s2) a2, fun σ2 H2 st2 r s2 a2 => q4 σ2 H2 st2 r (s1.trans s2) a2, fun σ2 H2 c od fs st2 r s2 a2 z => q5 σ2 H2 c od fs st2 r (s1.trans s2) a2 z⟩⟩
  | false => exact ds_of (ps_if hc pss_no (hb rfl)) fun F σ H E sa q1 q2 q3 q4 q5 => ⟨F, sa, fun H1 s1 a1 => iteF ⟨F, a1, fun σ2 H2 st2 r s2 a2 => q1 σ2 H2 st2 r (s1.trans s2) a2, fun v H2 d cs' r s2 a2 rv => q2 v H2 d cs' r (s1.trans s2) a2 rv,
      fun σ2 H2 st2 r s2 a2 => q3 σ2 H2 st2 r (s1.trans s2) a2, fun σ2 H2 st2 r s2 a2 => q4 σ2 H2 st2 r (s1.trans s2) a2, fun σ2 H2 c od fs st2 r s2 a2 z => q5 σ2 H2 c od fs st2 r (s1.trans s2) a2 z⟩⟩
/-- if c: A, where A never falls through -/
theorem ds_ifr {k : Bool} {p : List Stmt} (hc : DB X st c k st1) (ha : k = true → DSs X st1 p ⟨fun _ => False, R.rt, R.bk, R.ct, R.ex, R.E⟩) (h : k = false → DSs X st1 rest R) : DSs X st (.If c p [] pos :: rest) R :=
  ds_if (fun s => k = false ∧ s = st1) hc (fun e => dss_imp (ha e) (fun _ z => z.elim) (fun _ _ z => z) (fun _ z => z) (fun _ z => z) (fun _ _ _ z => z) rfl) (fun e => dss_nil ⟨e, rfl⟩) fun _ ⟨e, z⟩ => z ▸ h e
/-- if c: A else: B at the end of a block, or where neither falls through -/
theorem ds_ife {k : Bool} {p q : List Stmt} (hc : DB X st c k st1) (ha : k = true → DSs X st1 p ⟨fun _ => False, R.rt, R.bk, R.ct, R.ex, R.E⟩) (hb : k = false → DSs X st1 q ⟨fun _ => False, R.rt, R.bk, R.ct, R.ex, R.E⟩) : DSs X st (.If c p q pos :: rest) R :=
  ds_if (fun _ => False) hc ha hb fun _ z => z.elim
/-- if .. at the block's end -/
theorem ds_ifz {k : Bool} {p q : List Stmt} (hc : DB X st c k st1) (ha : k = true → DSs X st1 p R) (hb : k = false → DSs X st1 q R) : DSs X st [.If c p q pos] R :=
  ds_if R.nx hc ha hb fun _ z => dss_nil z

/-! ### targets -/
theorem dg_name (i : Nat) {x : Str} {px : Pos} (nd : X.N.Nodup) (hi : X.N[i]? = some x := by rfl) (hx : Loc X.env.scope x := by first | exact Or.inl rfl | exact Or.inr rfl) (hf : X.fn x = true ∨ X.env.scope.names.lookup x = some .local := by first | exact .inl rfl | exact .inr rfl) : DG X (.Name x px) d st ⟨st.sl.set i (some d), st.cs⟩ :=
  pg_imp (pg_name nd hi hx hf) fun v σ H Q ⟨F, sa, r, q⟩ => q _ H (.refl _ _) (sa_set sa r)
/-- a, b: a pair -/
theorem dg_pair {t1 t2 : Expr} {k : Nat} {d1 d2 : D} (hc : X.calm = true) (h1 : DG X t1 d1 st st1) (h2 : DG X t2 d2 st1 st2) (hs : (assignEach [t1, t2] X.env).map (·.2) = assign t1 X.env :: (assignEach [t2] X.env).map (·.2) := by rfl) (hs2 : (assignEach [t2] X.env).map (·.2) = assign t2 X.env :: (assignEach [] X.env).map (·.2) := by rfl)
    (hn : (assignEach [t1, t2] X.env).length = 2 := by rfl) (hst : (assignEach [t1, t2] X.env).findIdx? (·.1) = none := by rfl) : DG X (.Tuple [t1, t2] k pos) (.tup [d1, d2]) st st2 :=
  pg_imp (pg_tup hc (pgs_cons h1 (pgs_cons h2 pgs_nil hs2) hs) hn hst) fun v σ H Q ⟨F, sa, r, q⟩ => by
    cases r with
    | @tup a xs _ r1 r2 =>
      obtain ⟨x, y, rfl, rx, ry⟩ := r2.two
      refine ⟨a, [x, y], rfl, same_t (hide_le _ _) r1, rfl, x, _, rfl, F, sa, rx, fun σ1 H1 s1 a1 => ⟨y, _, rfl, F, a1, ry.same s1.vis, fun σ2 H2 s2 a2 => ⟨rfl, q σ2 H2 (s1.trans s2) a2⟩⟩⟩
/-- a, b = x, y (plain local names) -/
theorem ds_par (i j : Nat) {x y : Str} {px py pt : Pos} {kt k2 pt2} {d1 d2 : D} (nd : X.N.Nodup) (ha : DE X st a d1 st1) (hb : DE X st1 b d2 st2) (h : DSs X ⟨(st2.sl.set i (some d1)).set j (some d2), st2.cs⟩ rest R) (hij : i ≠ j := by decide) (hi : X.N[i]? = some x := by rfl) (hj : X.N[j]? = some y := by rfl) (hc : X.calm = true := by rfl)
    (hx : X.env.scope.names.lookup x = some .local := by rfl) (hy : X.env.scope.names.lookup y = some .local := by rfl)
    (sa : starEach [a, b] X.env = (false, eval a X.env) :: starEach [b] X.env := by rfl) (sb : starEach [b] X.env = (false, eval b X.env) :: starEach [] X.env := by rfl)
    (hw : swappedStores [.Tuple [.Name x px, .Name y py] kt pt] (.Tuple [a, b] k2 pt2) X.env = pure (some [x, y]) := by rfl)
    (hs : swapsWithSole [.Tuple [.Name x px, .Name y py] kt pt] (.Tuple [a, b] k2 pt2) pos.line X.env = pure false := by rfl) : DSs X st (.Assign [.Tuple [.Name x px, .Name y py] kt pt] (.Tuple [a, b] k2 pt2) pos :: rest) R :=
  dss_cons (J := fun s => s = ⟨(st2.sl.set i (some d1)).set j (some d2), st2.cs⟩)
    (ds_of (ps_par hc nd hi hj hij hx hy (da_cons ha (da_cons hb da_nil sb) sa) hw hs) fun F σ H E sa q1 q2 q3 q4 q5 => ⟨F, sa, fun vs H1 s1 a1 r1 => by
      obtain ⟨v1, v2, rfl, r1, r2⟩ := r1.two
      exact ⟨v1, v2, rfl, q1 _ H1 _ rfl s1 (sa_set (sa_set a1 r1) r2)⟩⟩) fun _ z => z ▸ h
/-- x op= e, ints -/
theorem ds_aug (i : Nat) {x : Str} {px : Pos} {op : Operator} {f : Int → Int → Int} {m n : Int} (nd : X.N.Nodup) (ho : PIp X op (ipI f)) (hm : st.sl[i]? = some (some (.int m))) (he : DE X st e (.int n) st1) (h : DSs X ⟨st1.sl.set i (some (.int (f m n))), st1.cs⟩ rest R) (hi : X.N[i]? = some x := by rfl) (hx : Loc X.env.scope x := by first | exact Or.inl rfl | exact Or.inr rfl)
    (hf : X.fn x = true ∨ X.env.scope.names.lookup x = some .local := by first | exact .inl rfl | exact .inr rfl) : DSs X st (.AugAssign (.Name x px) op e pos :: rest) R :=
  dss_cons (J := fun s => s = ⟨st1.sl.set i (some (.int (f m n))), st1.cs⟩)
    (ds_of (ps_aug nd hi hx he ho hf) fun F σ H E sa q1 q2 q3 q4 q5 => by
      obtain ⟨v, hv, rv⟩ := sa.slots.get i _ hm
      cases rv.eqv
      refine ⟨_, hv, F, sa, fun u H1 s1 a1 r1 => ?_⟩
      cases r1.eqv
      exact ⟨m, n, rfl, rfl, q1 _ H1 _ rfl s1 (sa_set a1 (.v _))⟩) fun _ z => z ▸ h
/-- xs[k] = e, xs a cell's list -/
theorem ds_sub (j : Nat) {o k : Expr} {p : Addr} {i : Int} {n : Nat} {px : Pos} (he : DE X st e d st1) (ho : DE X st1 o (.ref p) st2) (hk : DE X st2 k (.int i) st3) (hc : st3.cs[j]? = some (p, .lst ds)) (hn : ixN ds.length i = some n) (h : DSs X ⟨st3.sl, st3.cs.set j (p, .lst (ds.set n d))⟩ rest R)
    (ha : ∀ v, assign (.Subscript o k px) X.env v = (do
      let ov ← holding [v] (eval o X.env)
      let iv ← holding [v, ov] (eval k X.env)
      standAt px
      holding [v, ov, iv] (setItem ov iv v)
      release [v, ov, iv] []) := by intro _; rfl)
    (hs : swapsWithSole [.Subscript o k px] e pos.line X.env = pure false := by rfl) (hw : swappedStores [.Subscript o k px] e X.env = pure none := by rfl) (h1 : (assignEach [.Subscript o k px] X.env).map (·.2) = [assign (.Subscript o k px) X.env] := by rfl) : DSs X st (.Assign [.Subscript o k px] e pos :: rest) R :=
  dss_cons (J := fun s => s = ⟨st3.sl, st3.cs.set j (p, .lst (ds.set n d))⟩)
    (ds_of (ps_asg he (pg_sub ho hk set_list ha) hs hw h1) fun F σ H E sa q1 q2 q3 q4 q5 => ⟨F, sa, fun v H1 s1 a1 r1 => ⟨F, a1, fun ov H2 s2 a2 r2 => ⟨F, a2, fun kv H3 s3 a3 r3 => by
      cases r2.eqv
      cases r3.eqv
      obtain ⟨xs, hx, rs⟩ := cell_lst a3.ca hc
      have rv := (r1.same s2.vis).same s3.vis
      refine ⟨p, xs, i, n, rfl, rfl, hx, by rw [rs.length]; exact hn, q1 _ _ _ rfl (s1.trans (s2.trans (s3.trans (step_put hc)))) (a3.put hc ⟨_, rfl, rs.set rv n⟩)⟩⟩⟩⟩) fun _ z => z ▸ h

/-! ### loops -/
/-- while: I by a measure -/
theorem ds_while {body : List Stmt} (I : Nat → SS → Prop) (J : SS → Prop) {m0 : Nat} (h0 : I m0 st) (hb : ∀ m s, I m s → ∃ k s1, DB X s c k s1 ∧ (k = true → DSs X s1 body ⟨fun s => ∃ m', m' < m ∧ I m' s, R.rt, J, fun s => ∃ m', m' < m ∧ I m' s, R.ex, R.E⟩) ∧ (k = false → J s1)) (hr : ∀ s, J s → DSs X s rest R)
    (hp : PassesOwn (model X.prog X.w) X.A X.env X.xe := by first | exact PassesOwn.never | exact passes_of rfl | assumption) : DSs X st (.While c body [] pos :: rest) R := by
  refine dss_cons (J := J) ?_ hr
  let Rm : Nat → Out := fun m => ⟨fun s => ∃ m', m' < m ∧ I m' s, R.rt, J, fun s => ∃ m', m' < m ∧ I m' s, R.ex, R.E⟩
  have hc : PT X c (fun σ H Q => ∃ a : SS × Bool × SS, DB X a.1 c a.2.1 a.2.2 ∧ tB X.K a.1 a.2.1 a.2.2 σ H Q) := pt_ex (C := fun a : SS × Bool × SS => DB X a.1 c a.2.1 a.2.2) fun a h => h
  have hbd : PSs X body (fun E σ H => ∃ a : SS × Nat, DSs X a.1 body (Rm a.2) ∧ tS X.K a.1 (Rm a.2) E σ H) := pss_ex (C := fun a : SS × Nat => DSs X a.1 body (Rm a.2)) fun a h => h
  refine ds_of (ps_while hp hc hbd) fun F σ H E sa q1 q2 q3 q4 q5 => ?_
  refine ⟨fun m σ' H' => ∃ s, I m s ∧ Step st.cs H s.cs H' ∧ SA X.K F σ' H' s, ⟨m0, st, h0, .refl _ _, sa⟩, ?_⟩
  rintro m σ1 H1 ⟨s, hi, s1, a1⟩
  obtain ⟨k, s', hk, ht, hf⟩ := hb m s hi
  refine ⟨(s, k, s'), hk, F, a1, fun H2 s2 a2 => ?_⟩
  cases k with
  | true =>
    refine iteT ⟨fun σ' H' => ∃ m', m' < m ∧ ∃ s, I m' s ∧ Step st.cs H s.cs H' ∧ SA X.K F σ' H' s, fun σ' H' z => z, (s', m), ht rfl, F, a2, ?_, ?_, ?_, ?_, fun σ3 H3 c od fs s3 r t3 a3 z => q5 σ3 H3 c od fs s3 r (s1.trans (s2.trans t3)) a3 z⟩
    · rintro σ3 H3 s3 ⟨m', l, i'⟩ t3 a3
      exact ⟨m', l, s3, i', s1.trans (s2.trans t3), a3⟩
    · exact fun v H3 d cs' r t3 a3 rv => q2 v H3 d cs' r (s1.trans (s2.trans t3)) a3 rv
    · exact fun σ3 H3 s3 j t3 a3 => q1 σ3 H3 s3 j (s1.trans (s2.trans t3)) a3
    · rintro σ3 H3 s3 ⟨m', l, i'⟩ t3 a3
      exact ⟨m', l, s3, i', s1.trans (s2.trans t3), a3⟩
  | false => exact iteF (q1 σ1 H2 s' (hf rfl) (s1.trans s2) a2)
/-- what the loop rules share -/
theorem ds_for_core {tg iter : Expr} {body : List Stmt} {wi : TI} (n : Nat) (it : Nat → D) (I : Nat → SS → Prop) (J : SS → Prop) (hi : PI X tg iter wi) (hw : ∀ F σ H Rk, SA X.K F σ H st → (∀ Ji H1, Step st.cs H st1.cs H1 → SA X.K F σ H1 st1 →
      (∀ (s : SS) H2 (i : Nat), Step st1.cs H1 s.cs H2 → CA X.K F H2 s.cs → I i s → i < n → Ji.go i H2 ∧ ∀ x H3, Ji.yld i H2 x H3 → H3 = H2 ∧ Rp X.K (vis F s.cs H2) x (it i)) →
      (∀ (s : SS) H2, Step st1.cs H1 s.cs H2 → CA X.K F H2 s.cs → I n s → Ji.stop n H2) → Rk Ji H1) → wi σ H Rk)
    (h0 : I 0 st1) (hb : ∀ i s, i < n → I i s → ∃ s2, DG X tg (it i) s s2 ∧ DSs X s2 body ⟨I (i + 1), R.rt, J, I (i + 1), R.ex, R.E⟩) (hd : ∀ s, I n s → J s) (hr : ∀ s, J s → DSs X s rest R)
    (hc : X.calm = true := by rfl) (hp : PassesOwn (model X.prog X.w) X.A X.env X.xe := by first | exact PassesOwn.never | exact passes_of rfl | assumption) (hs : ∀ x, foldedSetIterable iter X.env x = pure x := by intro _; rfl) : DSs X st (.For tg iter body [] pos :: rest) R := by
  refine dss_cons (J := J) ?_ hr
  let Rm : Nat → Out := fun i => ⟨I (i + 1), R.rt, J, I (i + 1), R.ex, R.E⟩
  have hg : PG X tg (fun v σ H Q => ∃ a : D × SS × SS, DG X tg a.1 a.2.1 a.2.2 ∧ tT X.K a.1 a.2.1 a.2.2 v σ H Q) := pg_ex (C := fun a : D × SS × SS => DG X tg a.1 a.2.1 a.2.2) fun a h => h
  have hbd : PSs X body (fun E σ H => ∃ a : SS × Nat, DSs X a.1 body (Rm a.2) ∧ tS X.K a.1 (Rm a.2) E σ H) := pss_ex (C := fun a : SS × Nat => DSs X a.1 body (Rm a.2)) fun a h => h
  refine ds_of (ps_for hp hc hi hg hbd hs) fun F σ H E sa q1 q2 q3 q4 q5 => ?_
  refine hw F σ H _ sa fun Ji H1 s1 a1 hgo hstop => ?_
  refine ⟨fun i m σ' H' => m = n - i ∧ i ≤ n ∧ ∃ s, I i s ∧ Step st1.cs H1 s.cs H' ∧ SA X.K F σ' H' s, ⟨n, by omega, Nat.zero_le _, st1, h0, .refl _ _, a1⟩, ?_⟩
  rintro i m σ2 H2 ⟨rfl, hi2, s, his, s2, a2⟩
  by_cases hlt : i < n
  · obtain ⟨g1, g2⟩ := hgo s H2 i s2 a2.ca his hlt
    obtain ⟨s', hg', hbb⟩ := hb i s hlt his
    refine .inr ⟨g1, fun σ' H' => ∃ s, I (i + 1) s ∧ Step st1.cs H1 s.cs H' ∧ SA X.K F σ' H' s, fun σ' H' z => ⟨n - (i + 1), by omega, rfl, hlt, z⟩, fun x H3 y => ?_⟩
    obtain ⟨e, rx⟩ := g2 x H3 y
    subst e
    refine ⟨(it i, s, s'), hg', F, a2, rx, fun σ3 H3 s3 a3 => ⟨(s', i), hbb, F, a3, ?_, ?_, ?_, ?_, fun σ4 H4 c od fs s4 r t4 a4 z => q5 σ4 H4 c od fs s4 r (s1.trans (s2.trans (s3.trans t4))) a4 z⟩⟩
    · exact fun σ4 H4 s4 i4 t4 a4 => ⟨s4, i4, s2.trans (s3.trans t4), a4⟩
    · exact fun v H4 d cs' r t4 a4 rv => q2 v H4 d cs' r (s1.trans (s2.trans (s3.trans t4))) a4 rv
    · exact fun σ4 H4 s4 j t4 a4 => q1 σ4 H4 s4 j (s1.trans (s2.trans (s3.trans t4))) a4
    · exact fun σ4 H4 s4 i4 t4 a4 => ⟨s4, i4, s2.trans (s3.trans t4), a4⟩
  · have e : i = n := by omega
    subst e
    exact .inl ⟨hstop s H2 s2 a2.ca his, q1 σ2 H2 s (hd s his) (s1.trans s2) a2⟩
/-- for x in data -/
theorem ds_for {tg iter : Expr} {body : List Stmt} (I : Nat → SS → Prop) (J : SS → Prop) (hi : DE X st iter (.lst ds) st1)
    (h0 : I 0 st1) (hb : ∀ i d s, ds[i]? = some d → I i s → ∃ s2, DG X tg d s s2 ∧ DSs X s2 body ⟨I (i + 1), R.rt, J, I (i + 1), R.ex, R.E⟩) (hd : ∀ s, I ds.length s → J s) (hr : ∀ s, J s → DSs X s rest R)
    (hc : X.calm = true := by rfl) (hp : PassesOwn (model X.prog X.w) X.A X.env X.xe := by first | exact PassesOwn.never | exact passes_of rfl | assumption) (hs : ∀ x, foldedSetIterable iter X.env x = pure x := by intro _; rfl) : DSs X st (.For tg iter body [] pos :: rest) R := by
  refine ds_for_core (st1 := st1) ds.length (fun i => ds.getD i .non) I J (pi_list hi) (fun F σ H Rk sa k => ⟨F, sa, fun x H1 s1 a1 r1 => ?_⟩) h0 (fun i s hlt his => hb i _ s (by simp [List.getD, List.getElem?_eq_getElem hlt]) his) hd hr hc hp hs
  cases r1 with
  | @lst a xs _ r1 r2 =>
    refine ⟨a, rfl, ⟨xs, rd_l r1⟩, k _ _ s1 a1 (fun s H2 i s2 a2 his hlt => ?_) (fun s H2 s2 a2 his => ?_)⟩
    · have rr := r2.same s2.vis
      have hl : SqL X.K H2 a xs := rd_l (same_rd s2.vis r1)
      obtain ⟨v, hv, rv⟩ := rr.get (List.getElem?_eq_getElem hlt)
      refine ⟨⟨xs, v, hl, hv⟩, fun y H3 hy => ⟨hy.1, ?_⟩⟩
      have e := hy.2 xs hl
      rw [hv] at e
      cases e
      simp only [List.getD, List.getElem?_eq_getElem hlt, Option.getD_some]
      exact rv
    · exact ⟨xs, rd_l (same_rd s2.vis r1), by rw [r2.length]; exact Nat.le_refl _⟩
theorem ds_forK {tg iter : Expr} {body : List Stmt} (I : Nat → SS → Prop) (J : SS → Prop) (hi : DE X st iter (.klst ds) st1)
    (h0 : I 0 st1) (hb : ∀ i d s, ds[i]? = some d → I i s → ∃ s2, DG X tg d s s2 ∧ DSs X s2 body ⟨I (i + 1), R.rt, J, I (i + 1), R.ex, R.E⟩) (hd : ∀ s, I ds.length s → J s) (hr : ∀ s, J s → DSs X s rest R)
    (hc : X.calm = true := by rfl) (hp : PassesOwn (model X.prog X.w) X.A X.env X.xe := by first | exact PassesOwn.never | exact passes_of rfl | assumption) (hs : ∀ x, foldedSetIterable iter X.env x = pure x := by intro _; rfl) : DSs X st (.For tg iter body [] pos :: rest) R := by
  refine ds_for_core (st1 := st1) ds.length (fun i => ds.getD i .non) I J (pi_list hi) (fun F σ H Rk sa k => ⟨F, sa, fun x H1 s1 a1 r1 => ?_⟩) h0 (fun i s hlt his => hb i _ s (by simp [List.getD, List.getElem?_eq_getElem hlt]) his) hd hr hc hp hs
  cases r1 with
  | @klst a xs _ r1 r2 =>
    refine ⟨a, rfl, ⟨xs, same_l (hide_le _ _) r1⟩, k _ _ s1 a1 (fun s H2 i s2 a2 his hlt => ?_) (fun s H2 s2 a2 his => ?_)⟩
    · have rr := r2.same s2.vis
      have hl : SqL X.K H2 a xs := same_l (hide_le _ _) (same_l s2.vis r1)
      obtain ⟨v, hv, rv⟩ := rr.get (List.getElem?_eq_getElem hlt)
      refine ⟨⟨xs, v, hl, hv⟩, fun y H3 hy => ⟨hy.1, ?_⟩⟩
      have e := hy.2 xs hl
      rw [hv] at e
      cases e
      simp only [List.getD, List.getElem?_eq_getElem hlt, Option.getD_some]
      exact rv
    · exact ⟨xs, same_l (hide_le _ _) (same_l s2.vis r1), by rw [r2.length]; exact Nat.le_refl _⟩
theorem ds_forT {tg iter : Expr} {body : List Stmt} (I : Nat → SS → Prop) (J : SS → Prop) (hi : DE X st iter (.tup ds) st1)
    (h0 : I 0 st1) (hb : ∀ i d s, ds[i]? = some d → I i s → ∃ s2, DG X tg d s s2 ∧ DSs X s2 body ⟨I (i + 1), R.rt, J, I (i + 1), R.ex, R.E⟩) (hd : ∀ s, I ds.length s → J s) (hr : ∀ s, J s → DSs X s rest R)
    (hc : X.calm = true := by rfl) (hp : PassesOwn (model X.prog X.w) X.A X.env X.xe := by first | exact PassesOwn.never | exact passes_of rfl | assumption) (hs : ∀ x, foldedSetIterable iter X.env x = pure x := by intro _; rfl) : DSs X st (.For tg iter body [] pos :: rest) R := by
  refine ds_for_core (st1 := st1) ds.length (fun i => ds.getD i .non) I J (pi_tup hi) (fun F σ H Rk sa k => ⟨F, sa, fun x H1 s1 a1 r1 => ?_⟩) h0 (fun i s hlt his => hb i _ s (by simp [List.getD, List.getElem?_eq_getElem hlt]) his) hd hr hc hp hs
  cases r1 with
  | @tup a xs _ r1 r2 =>
    refine ⟨a, rfl, ⟨xs, same_t (hide_le _ _) r1⟩, k _ _ s1 a1 (fun s H2 i s2 a2 his hlt => ?_) (fun s H2 s2 a2 his => ?_)⟩
    · have rr := r2.same s2.vis
      have hl := same_t (hide_le _ _) (same_t s2.vis r1)
      obtain ⟨v, hv, rv⟩ := rr.get (List.getElem?_eq_getElem hlt)
      refine ⟨⟨xs, v, hl, hv⟩, fun y H3 hy => ⟨hy.1, ?_⟩⟩
      have e := hy.2 xs hl
      rw [hv] at e
      cases e
      simp only [List.getD, List.getElem?_eq_getElem hlt, Option.getD_some]
      exact rv
    · exact ⟨xs, same_t (hide_le _ _) (same_t s2.vis r1), by rw [r2.length]; exact Nat.le_refl _⟩
/-- for x in a cell's list that the loop leaves -/
theorem ds_forC {tg iter : Expr} {body : List Stmt} {p : Addr} (I : Nat → SS → Prop) (J : SS → Prop) (hi : DE X st iter (.ref p) st1) (hI : ∀ i s, i ≤ ds.length → I i s → (p, Cell.lst ds) ∈ s.cs)
    (h0 : I 0 st1) (hb : ∀ i d s, ds[i]? = some d → I i s → ∃ s2, DG X tg d s s2 ∧ DSs X s2 body ⟨I (i + 1), R.rt, J, I (i + 1), R.ex, R.E⟩) (hd : ∀ s, I ds.length s → J s) (hr : ∀ s, J s → DSs X s rest R)
    (hc : X.calm = true := by rfl) (hp : PassesOwn (model X.prog X.w) X.A X.env X.xe := by first | exact PassesOwn.never | exact passes_of rfl | assumption) (hs : ∀ x, foldedSetIterable iter X.env x = pure x := by intro _; rfl) : DSs X st (.For tg iter body [] pos :: rest) R := by
  refine ds_for_core (st1 := st1) ds.length (fun i => ds.getD i .non) I J (pi_list hi) (fun F σ H Rk sa k => ⟨F, sa, fun x H1 s1 a1 r1 => ?_⟩) h0 (fun i s hlt his => hb i _ s (by simp [List.getD, List.getElem?_eq_getElem hlt]) his) hd hr hc hp hs
  cases r1.eqv
  obtain ⟨j0, hj0⟩ := List.getElem?_of_mem (hI 0 st1 (Nat.zero_le _) h0)
  obtain ⟨xs0, hx0, _⟩ := cell_lst a1.ca hj0
  refine ⟨p, rfl, ⟨xs0, SqL.of hx0⟩, k _ _ s1 a1 (fun s H2 i s2 a2 his hlt => ?_) (fun s H2 s2 a2 his => ?_)⟩
  · obtain ⟨j, hj⟩ := List.getElem?_of_mem (hI i s (Nat.le_of_lt hlt) his)
    obtain ⟨xs, hx, rs⟩ := cell_lst a2 hj
    obtain ⟨v, hv, rv⟩ := rs.get (List.getElem?_eq_getElem hlt)
    refine ⟨⟨xs, v, SqL.of hx, hv⟩, fun y H3 hy => ⟨hy.1, ?_⟩⟩
    have e := hy.2 xs (SqL.of hx)
    rw [hv] at e
    cases e
    simp only [List.getD, List.getElem?_eq_getElem hlt, Option.getD_some]
    exact rv
  · obtain ⟨j, hj⟩ := List.getElem?_of_mem (hI ds.length s (Nat.le_refl _) his)
    obtain ⟨xs, hx, rs⟩ := cell_lst a2 hj
    exact ⟨xs, SqL.of hx, by rw [rs.length]; exact Nat.le_refl _⟩
/-- for i in range(b) | range(a, b) -/
theorem ds_range1 {tg : Expr} {body : List Stmt} {n : Int} {pr p : Pos} (I : Nat → SS → Prop) (J : SS → Prop) (hm : X.mg "range" = none) (ha : DE X st a (.int n) st1) (hn : -(2 ^ 62) ≤ n ∧ n < 2 ^ 62)
    (h0 : I 0 st1) (hb : ∀ (i : Nat) s, (i : Int) < n → I i s → ∃ s2, DG X tg (.int i) s s2 ∧ DSs X s2 body ⟨I (i + 1), R.rt, J, I (i + 1), R.ex, R.E⟩) (hd : ∀ s, I n.toNat s → J s) (hr : ∀ s, J s → DSs X s rest R)
    (hg : Gl X "range" := by rfl) (sa : starEach [a] X.env = (false, eval a X.env) :: starEach [] X.env := by rfl) (hc : X.calm = true := by rfl) (hp : PassesOwn (model X.prog X.w) X.A X.env X.xe := by first | exact PassesOwn.never | exact passes_of rfl | assumption) (hs : ∀ x, foldedSetIterable (.Call (.Name "range" pr) [a] [] p) X.env x = pure x := by intro _; rfl) :
    DSs X st (.For tg (.Call (.Name "range" pr) [a] [] p) body [] pos :: rest) R := by
  refine ds_for_core (st1 := st1) n.toNat (fun i => .int i) I J (pi_range1 hg hm (da_cons ha da_nil sa) sa) (fun F σ H Rk sa k => ⟨F, sa, fun vs H1 s1 a1 r1 => ?_⟩) h0 (fun i s hlt his => hb i s (by omega) his) hd hr hc hp hs
  obtain ⟨x, rfl, rx⟩ := r1.one'
  cases rx.eqv
  refine ⟨n, rfl, hn.1, hn.2, k _ _ s1 a1 (fun s H2 i s2 a2 his hlt => ⟨hlt, fun x H3 hy => ⟨hy.1, ?_⟩⟩) (fun s H2 s2 a2 his => Nat.le_refl _)⟩
  rw [hy.2, Int.zero_add]
  exact .v _
theorem ds_range2 {tg : Expr} {body : List Stmt} {lo n : Int} {pr p : Pos} (I : Nat → SS → Prop) (J : SS → Prop) (hm : X.mg "range" = none) (ha : DE X st a (.int lo) st1) (hb' : DE X st1 b (.int n) st2) (hn : -(2 ^ 62) ≤ lo ∧ lo < 2 ^ 62 ∧ -(2 ^ 62) ≤ n ∧ n < 2 ^ 62)
    (h0 : I 0 st2) (hb : ∀ (i : Nat) s, lo + (i : Int) < n → I i s → ∃ s2, DG X tg (.int (lo + i)) s s2 ∧ DSs X s2 body ⟨I (i + 1), R.rt, J, I (i + 1), R.ex, R.E⟩) (hd : ∀ s, I (n - lo).toNat s → J s) (hr : ∀ s, J s → DSs X s rest R)
    (hg : Gl X "range" := by rfl) (sa : starEach [a, b] X.env = [(false, eval a X.env), (false, eval b X.env)] := by rfl) (sb : starEach [b] X.env = [(false, eval b X.env)] := by rfl) (sa' : starEach [a, b] X.env = (false, eval a X.env) :: starEach [b] X.env := by rfl) (sb' : starEach [b] X.env = (false, eval b X.env) :: starEach [] X.env := by rfl) (hc : X.calm = true := by rfl) (hp : PassesOwn (model X.prog X.w) X.A X.env X.xe := by first | exact PassesOwn.never | exact passes_of rfl | assumption) (hs : ∀ x, foldedSetIterable (.Call (.Name "range" pr) [a, b] [] p) X.env x = pure x := by intro _; rfl) :
    DSs X st (.For tg (.Call (.Name "range" pr) [a, b] [] p) body [] pos :: rest) R := by
  refine ds_for_core (st1 := st2) (n - lo).toNat (fun i => .int (lo + i)) I J (pi_range2 hg hm (da_cons ha (da_cons hb' da_nil sb') sa') sa sb) (fun F σ H Rk sa k => ⟨F, sa, fun vs H1 s1 a1 r1 => ?_⟩) h0 (fun i s hlt his => hb i s (by omega) his) hd hr hc hp hs
  obtain ⟨x, y, rfl, rx, ry⟩ := r1.two
  cases rx.eqv
  cases ry.eqv
  refine ⟨lo, n, rfl, hn, k _ _ s1 a1 (fun s H2 i s2 a2 his hlt => ⟨hlt, fun x H3 hy => ⟨hy.1, ?_⟩⟩) (fun s H2 s2 a2 his => Nat.le_refl _)⟩
  rw [hy.2]
  exact .v _
end
end DL

namespace DL
open PySem L2

/-! ### one cell set apart -/
theorem vis_split {F : Addr → Prop} {cs : Cs} {H : Hp} {p : Addr} {c : Cell} : vis (fun a => F a ∨ a = p) cs H = vis F (cs ++ [(p, c)]) H := vis_congr fun b => by
  simp only [dom, List.map_append, List.mem_append, List.map_cons, List.map_nil, List.mem_singleton]
  constructor
  · rintro ((h | h) | h)
    · exact .inl h
    · exact .inr (.inr h)
    · exact .inr (.inl h)
  · rintro (h | h | h)
    · exact .inl (.inl h)
    · exact .inr h
    · exact .inl (.inr h)
theorem CA.split {K : PySem.W.Frag} {F : Addr → Prop} {H : Hp} {cs : Cs} {p : Addr} {c : Cell} (a : CA K F H (cs ++ [(p, c)])) :
    CA K (fun a => F a ∨ a = p) H cs ∧ (∃ o, H p = some o ∧ CellRep K (vis (fun a => F a ∨ a = p) cs H) c o) ∧ ¬ F p ∧ p ∉ dom cs := by
  have hp : p ∈ dom (cs ++ [(p, c)]) := by simp [dom]
  have nF : ¬ F p := fun z => (a.fr p z).2 hp
  have nd := a.nd
  unfold dom at nd
  rw [List.map_append, List.nodup_append] at nd
  obtain ⟨nd1, _, nd3⟩ := nd
  have nc : p ∉ dom cs := fun z => nd3 p z p (by simp) rfl
  have hc := a.cells (p, c) (by simp)
  refine ⟨⟨fun q hq => ?_, nd1, fun b hb => ?_⟩, ?_, nF, nc⟩
  · obtain ⟨o, ho, r⟩ := a.cells q (List.mem_append_left _ hq)
    exact ⟨o, ho, by rw [vis_split (c := c)]; exact r⟩
  · rcases hb with hb | rfl
    · obtain ⟨h1, h2⟩ := a.fr b hb
      exact ⟨h1, fun z => h2 (by unfold dom; rw [List.map_append]; exact List.mem_append_left _ z)⟩
    · obtain ⟨o, ho, _⟩ := hc
      exact ⟨by rw [show H b = some o from ho]; simp, nc⟩
  · obtain ⟨o, ho, r⟩ := hc
    exact ⟨o, ho, by rw [vis_split (c := c)]; exact r⟩
theorem CA.join {K : PySem.W.Frag} {F : Addr → Prop} {H : Hp} {cs : Cs} {p : Addr} {c : Cell} {o : HO} (a : CA K (fun a => F a ∨ a = p) H cs) (h : H p = some o) (r : CellRep K (vis (fun a => F a ∨ a = p) cs H) c o) (hF : ¬ F p) : CA K F H (cs ++ [(p, c)]) := by
  have nc : p ∉ dom cs := (a.fr p (.inr rfl)).2
  refine ⟨fun q hq => ?_, ?_, fun b hb => ?_⟩
  · rw [← vis_split (c := c)]
    rcases List.mem_append.mp hq with z | z
    · exact a.cells q z
    · have e : q = (p, c) := by simpa using z
      rw [e]
      exact ⟨o, h, r⟩
  · unfold dom
    rw [List.map_append, List.nodup_append]
    refine ⟨a.nd, by simp, ?_⟩
    rintro x hx y hy rfl
    have : x = p := by simpa using hy
    subst this
    exact nc hx
  · obtain ⟨h1, h2⟩ := a.fr b (.inl hb)
    refine ⟨h1, fun z => ?_⟩
    unfold dom at z
    rw [List.map_append] at z
    rcases List.mem_append.mp z with z | z
    · exact h2 z
    · have : b = p := by simpa using z
      exact hF (by rw [← this]; exact hb)
theorem step_join {cs cs' : Cs} {H H' : Hp} {p : Addr} {c c' : Cell} (s : Step cs H cs' H') : Step (cs ++ [(p, c)]) H (cs' ++ [(p, c')]) H' := by
  refine ⟨fun a o e hn => s.1 a o e fun z => hn (by unfold dom; rw [List.map_append]; exact List.mem_append_left _ z), fun a ha => ?_⟩
  unfold dom at ha ⊢
  rw [List.map_append] at ha ⊢
  rcases List.mem_append.mp ha with z | z
  · rcases s.2 a z with z | z
    · exact .inl (List.mem_append_left _ z)
    · exact .inr z
  · exact .inl (List.mem_append_right _ z)
/-- back from a cell that was new -/
theorem step_new_drop {cs cs' : Cs} {H H' : Hp} {p : Addr} {c c' : Cell} {o : HO} (hp : H p = none) (s : Step (cs ++ [(p, c)]) (upd H p o) (cs' ++ [(p, c')]) H') : Step cs H cs' H' := by
  have h := (step_add (cs := cs) (c := c) (o := o) hp).trans s
  exact ⟨h.1, fun a ha => h.2 a (by unfold dom; rw [List.map_append]; exact List.mem_append_left _ ha)⟩

/-! ### slots of a comprehension's own names -/
def wipeL (sl : Sl) : List Nat → Sl
  | [] => sl
  | v :: vs => (wipeL sl vs).set v none
theorem SlAll.none {K : PySem.W.Frag} {G : Hp} {σ : L2.St} {sl : Sl} {i : Nat} (h : SlAll K G σ sl) : SlAll K G (σ.set i none) (sl.set i none) where
  len := by rw [List.length_set, List.length_set]; exact h.len
  get := fun j e q => by
    by_cases hj : i = j
    · subst hj
      rw [List.getElem?_set] at q
      split at q
      · split at q
        · cases q
        · cases q
      · rename_i hc
        exact absurd rfl hc
    · rw [List.getElem?_set_ne hj] at q ⊢
      exact h.get j e q
theorem SlAll.wipe {K : PySem.W.Frag} {G : Hp} {σ : L2.St} {sl : Sl} (h : SlAll K G σ sl) : ∀ vs : List Nat, SlAll K G (L2.wipe σ vs) (wipeL sl vs)
  | [] => h
  | v :: vs => (h.wipe vs).none
theorem wipe_set {i : Nat} {x : Option V} : ∀ {vs : List Nat} {σ : L2.St}, i ∈ vs → L2.wipe (σ.set i x) vs = L2.wipe σ vs
  | [], _, h => by simp at h
  | v :: vs, σ, h => by
    show (L2.wipe (σ.set i x) vs).set v none = (L2.wipe σ vs).set v none
    by_cases e : i ∈ vs
    · rw [wipe_set e]
    · have ev : i = v := by
        rcases List.mem_cons.mp h with z | z
        · exact z
        · exact absurd z e
      subst ev
      have out : ∀ (vs : List Nat) (σ : L2.St), i ∉ vs → L2.wipe (σ.set i x) vs = (L2.wipe σ vs).set i x := by
        intro vs
        induction vs with
        | nil => intro σ _; rfl
        | cons v vs ih =>
          intro σ hn
          show (L2.wipe (σ.set i x) vs).set v none = ((L2.wipe σ vs).set v none).set i x
          have hv : v ≠ i := fun z => hn (by rw [z]; exact List.mem_cons_self)
          rw [ih σ fun z => hn (List.mem_cons_of_mem _ z), List.set_comm _ _ (Ne.symm hv)]
      rw [out vs σ e, List.set_set]
theorem wipe_wipe {vs : List Nat} {σ : L2.St} : L2.wipe (L2.wipe σ vs) vs = L2.wipe σ vs := by
  have gen : ∀ (ws us : List Nat) (σ : L2.St), (∀ v ∈ ws, v ∈ us) → L2.wipe (L2.wipe σ ws) us = L2.wipe σ us := by
    intro ws
    induction ws with
    | nil => intro us σ _; rfl
    | cons v ws ih =>
      intro us σ h
      show L2.wipe ((L2.wipe σ ws).set v none) us = L2.wipe σ us
      rw [wipe_set (h v List.mem_cons_self), ih us σ fun w hw => h w (List.mem_cons_of_mem _ hw)]
  exact gen vs vs σ fun _ h => h
/-- what a comprehension's target does -/
def GP (K : PySem.W.Frag) (g : TG) (vs : List Nat) (d : D) (sl sl' : Sl) : Prop := ∀ (F : Addr → Prop) (σ : L2.St) (H : Hp) (cs : Cs) (v : V), CA K F H cs → SlAll K (vis F cs H) σ sl → Rp K (vis F cs H) v d → ∀ Q : L2.St → Hp → Prop, (∀ σ', L2.wipe σ' vs = L2.wipe σ vs → SlAll K (vis F cs H) σ' sl' → Q σ' H) → g v σ H Q
theorem gp_name {K : PySem.W.Frag} {vs : List Nat} {d : D} {sl : Sl} (i : Nat) (hi : i ∈ vs := by simp) : GP K (gName i) vs d sl (sl.set i (some d)) := fun F σ H cs v ca hs r Q q => q _ (wipe_set hi) (hs.set r)
theorem gp_pair {K : PySem.W.Frag} {vs : List Nat} {d1 d2 : D} {sl sl1 sl2 : Sl} {g1 g2 : TG} (h1 : GP K g1 vs d1 sl sl1) (h2 : GP K g2 vs d2 sl1 sl2) : GP K (gTup K 2 (gCons g1 (gCons g2 gNil))) vs (.tup [d1, d2]) sl sl2 := fun F σ H cs v ca hs r Q q => by
  cases r with
  | @tup a xs _ r1 r2 =>
    obtain ⟨x, y, rfl, rx, ry⟩ := r2.two
    exact ⟨a, [x, y], rfl, same_t (hide_le _ _) r1, rfl, x, _, rfl, h1 F σ H cs x ca hs rx _ fun σ1 e1 s1 => ⟨y, _, rfl, h2 F σ1 H cs y ca s1 ry _ fun σ2 e2 s2 => ⟨rfl, q σ2 (e2.trans e1) s2⟩⟩⟩

section
variable {X : Cx} {st st1 st2 st3 : SS} {e a b c : Expr} {es : List Expr} {s : Stmt} {ss rest : List Stmt} {d da db : D} {ds : List D} {pos : Pos} {R : Out}
def DTs (X : Cx) (st : SS) (ifs : List Expr) (b : Bool) (st' : SS) : Prop := PTs X ifs (tB X.K st b st')
theorem dts_nil : DTs X st [] true st := ⟨fun pins s σ H Q I ⟨F, sa, q⟩ => pts_nil.run pins s σ H Q I (q H (.refl _ _) sa)⟩
theorem dts_one {k : Bool} (h : DB X st c k st1) : DTs X st [c] k st1 := pts_one h
theorem pts_ex {α : Type} {ifs : List Expr} {C : α → Prop} {t : α → TT} (h : ∀ a, C a → PTs X ifs (t a)) : PTs X ifs (fun σ H Q => ∃ a, C a ∧ t a σ H Q) := ⟨fun pins s σ H Q I ⟨a, c, q⟩ => (h a c).run pins s σ H Q I q⟩
/-- what a walk yields, for comprehensions: a state at the start, cells that may change -/
def WI (K : PySem.W.Frag) (wi : TI) (st st1 : SS) (n : Nat) (it : Nat → D) : Prop := ∀ F σ H Rk, SA K F σ H st → (∀ Ji H1, Step st.cs H st1.cs H1 → SA K F σ H1 st1 →
      (∀ (cs : Cs) H2 (i : Nat), Step st1.cs H1 cs H2 → CA K F H2 cs → i < n → Ji.go i H2 ∧ ∀ x H3, Ji.yld i H2 x H3 → H3 = H2 ∧ Rp K (vis F cs H2) x (it i)) →
      (∀ (cs : Cs) H2, Step st1.cs H1 cs H2 → CA K F H2 cs → Ji.stop n H2) → Rk Ji H1) → wi σ H Rk
theorem wi_list {tl : TE} (h : ∀ σ H Q, tD X.K st (.lst ds) st1 σ H Q → tl σ H Q) : WI X.K (iList X.K tl) st st1 ds.length (fun i => ds.getD i .non) := fun F σ H Rk sa k => by
  refine h _ _ _ ⟨F, sa, fun x H1 s1 a1 r1 => ?_⟩
  cases r1 with
  | @lst a xs _ r1 r2 =>
    refine ⟨a, rfl, ⟨xs, rd_l r1⟩, k _ _ s1 a1 (fun cs H2 i s2 a2 hlt => ?_) (fun cs H2 s2 a2 => ?_)⟩
    · have rr := r2.same s2.vis
      have hl : SqL X.K H2 a xs := rd_l (same_rd s2.vis r1)
      obtain ⟨v, hv, rv⟩ := rr.get (List.getElem?_eq_getElem hlt)
      refine ⟨⟨xs, v, hl, hv⟩, fun y H3 hy => ⟨hy.1, ?_⟩⟩
      have e := hy.2 xs hl
      rw [hv] at e
      cases e
      simp only [List.getD, List.getElem?_eq_getElem hlt, Option.getD_some]
      exact rv
    · exact ⟨xs, rd_l (same_rd s2.vis r1), by rw [r2.length]; exact Nat.le_refl _⟩
theorem wi_tup {tl : TE} (h : ∀ σ H Q, tD X.K st (.tup ds) st1 σ H Q → tl σ H Q) : WI X.K (iTup X.K tl) st st1 ds.length (fun i => ds.getD i .non) := fun F σ H Rk sa k => by
  refine h _ _ _ ⟨F, sa, fun x H1 s1 a1 r1 => ?_⟩
  cases r1 with
  | @tup a xs _ r1 r2 =>
    refine ⟨a, rfl, ⟨xs, same_t (hide_le _ _) r1⟩, k _ _ s1 a1 (fun cs H2 i s2 a2 hlt => ?_) (fun cs H2 s2 a2 => ?_)⟩
    · have rr := r2.same s2.vis
      have hl := same_t (hide_le _ _) (same_t s2.vis r1)
      obtain ⟨v, hv, rv⟩ := rr.get (List.getElem?_eq_getElem hlt)
      refine ⟨⟨xs, v, hl, hv⟩, fun y H3 hy => ⟨hy.1, ?_⟩⟩
      have e := hy.2 xs hl
      rw [hv] at e
      cases e
      simp only [List.getD, List.getElem?_eq_getElem hlt, Option.getD_some]
      exact rv
    · exact ⟨xs, same_t (hide_le _ _) (same_t s2.vis r1), by rw [r2.length]; exact Nat.le_refl _⟩
theorem wi_range1 {n : Int} (hn : -(2 ^ 62) ≤ n ∧ n < 2 ^ 62) : WI X.K (iRng1 (tA X.K st [.int n] st1)) st st1 n.toNat (fun i => .int i) := fun F σ H Rk sa k => ⟨F, sa, fun vs H1 s1 a1 r1 => by
  obtain ⟨x, rfl, rx⟩ := r1.one'
  cases rx.eqv
  refine ⟨n, rfl, hn.1, hn.2, k _ _ s1 a1 (fun cs H2 i s2 a2 hlt => ⟨hlt, fun x H3 hy => ⟨hy.1, ?_⟩⟩) (fun cs H2 s2 a2 => Nat.le_refl _)⟩
  rw [hy.2, Int.zero_add]
  exact .v _⟩
theorem wi_range2 {lo n : Int} (hn : -(2 ^ 62) ≤ lo ∧ lo < 2 ^ 62 ∧ -(2 ^ 62) ≤ n ∧ n < 2 ^ 62) : WI X.K (iRng2 (tA X.K st [.int lo, .int n] st1)) st st1 (n - lo).toNat (fun i => .int (lo + i)) := fun F σ H Rk sa k => ⟨F, sa, fun vs H1 s1 a1 r1 => by
  obtain ⟨x, y, rfl, rx, ry⟩ := r1.two
  cases rx.eqv
  cases ry.eqv
  refine ⟨lo, n, rfl, hn, k _ _ s1 a1 (fun cs H2 i s2 a2 hlt => ⟨hlt, fun x H3 hy => ⟨hy.1, ?_⟩⟩) (fun cs H2 s2 a2 => Nat.le_refl _)⟩
  rw [hy.2]
  exact .v _⟩
/-- one turn of a comprehension -/
structure LcTurn (X : Cx) (scope : Scope) (g : TG) (vs : List Nat) (sl0 : Sl) (ifs : List Expr) (elt : Expr) (d : D) (cs cs' : Cs) (acc acc' : List D) : Prop where
  turn : ∃ sl k, GP X.K g vs d sl0 sl ∧ (∀ (s : Shared) (H : Hp) (C : Addr) (cl : List (Str × Addr)) (fp : List Addr), DTs (X.blk s H scope (compEnvC scope cl C X.env) fp) ⟨sl, cs⟩ ifs k ⟨sl, cs⟩) ∧
    (k = true → ∃ y, acc' = acc ++ [y] ∧ ∀ (s : Shared) (H : Hp) (C : Addr) (cl : List (Str × Addr)) (fp : List Addr), DE (X.blk s H scope (compEnvC scope cl C X.env) fp) ⟨sl, cs⟩ elt y ⟨sl, cs'⟩) ∧ (k = false → acc' = acc ∧ cs' = cs)
/-- what the two comprehension forms share: the reading -/
theorem lc_reading {scope : Scope} {own : List (Str × Nat)} {wi : TI} {g : TG} {ifs : List Expr} {elt : Expr} (n : Nat) (it : Nat → D) (C : Nat → Cs) (acc : Nat → List D) (hw : WI X.K wi st st1 n it) (hC : C 0 = st1.cs) (hacc : acc 0 = []) (hn : n ≤ sizeLine)
    (turn : ∀ i, i < n → LcTurn X scope g (own.map (·.2)) (wipeL st1.sl (own.map (·.2))) ifs elt (it i) (C i) (C (i + 1)) (acc i) (acc (i + 1))) :
    ∃ tt te, (∀ (s : Shared) (H : Hp) (C : Addr) (cl : List (Str × Addr)) (fp : List Addr), PTs (X.blk s H scope (compEnvC scope cl C X.env) fp) ifs tt) ∧ (∀ (s : Shared) (H : Hp) (C : Addr) (cl : List (Str × Addr)) (fp : List Addr), PE (X.blk s H scope (compEnvC scope cl C X.env) fp) elt te) ∧
      ∀ F σ H Q, SA X.K F σ H st → (∀ v H', Step st.cs H (C n) H' → SA X.K F σ H' ⟨st1.sl, C n⟩ → Rp X.K (vis F (C n) H') v (.lst (acc n)) → Q v H') → tLc wi g tt te (own.map (·.2)) σ H Q := by
  let vs := own.map (·.2)
  let Ct : Sl × Cs × Bool → Prop := fun a => ∀ (s : Shared) (H : Hp) (C : Addr) (cl : List (Str × Addr)) (fp : List Addr), DTs (X.blk s H scope (compEnvC scope cl C X.env) fp) ⟨a.1, a.2.1⟩ ifs a.2.2 ⟨a.1, a.2.1⟩
  let Ce : Sl × Cs × D × Cs → Prop := fun a => ∀ (s : Shared) (H : Hp) (C : Addr) (cl : List (Str × Addr)) (fp : List Addr), DE (X.blk s H scope (compEnvC scope cl C X.env) fp) ⟨a.1, a.2.1⟩ elt a.2.2.1 ⟨a.1, a.2.2.2⟩
  refine ⟨fun σ H Q => ∃ a, Ct a ∧ tB X.K ⟨a.1, a.2.1⟩ a.2.2 ⟨a.1, a.2.1⟩ σ H Q, fun σ H Q => ∃ a, Ce a ∧ tD X.K ⟨a.1, a.2.1⟩ a.2.2.1 ⟨a.1, a.2.2.2⟩ σ H Q, fun s H C cl fp => pts_ex (C := Ct) fun a h => h s H C cl fp, fun s H C cl fp => pe_ex (C := Ce) fun a h => h s H C cl fp, ?_⟩
  intro F σ H Q sa q
  refine hw F σ H _ sa fun Ji H1 s1 a1 hgo hstop => ?_
  intro L hL
  let I : Nat → Hp → Prop := fun i H' => (acc i).length ≤ i ∧ Step (st1.cs ++ [(L, .lst [])]) (upd H1 L (.lst [])) (C i ++ [(L, .lst (acc i))]) H' ∧ CA X.K F H' (C i ++ [(L, .lst (acc i))])
  have base : I 0 (upd H1 L (.lst [])) := by
    refine ⟨by rw [hacc]; exact Nat.le_refl _, ?_, ?_⟩
    · rw [hC, hacc]
      exact .refl _ _
    · rw [hC, hacc]
      exact a1.ca.add hL ⟨[], rfl, .nil⟩
  have frm : ∀ {i : Nat} {H' : Hp}, I i H' → Step st1.cs H1 (C i) H' ∧ CA X.K F H' (C i) := fun {i H'} ⟨_, s2, c2⟩ => ⟨step_new_drop hL s2, c2.drop (List.sublist_append_left _ _)⟩
  refine ⟨fun i m H' => m = n - i ∧ i ≤ n ∧ I i H', ⟨n, by omega, Nat.zero_le _, base⟩, ?_⟩
  rintro i m H2 ⟨rfl, hi, ih⟩
  obtain ⟨f1, f2⟩ := frm ih
  obtain ⟨hlen, s2, c2⟩ := ih
  obtain ⟨cf, ⟨o, ho, ro⟩, nF, nL⟩ := c2.split
  by_cases hlt : i < n
  · obtain ⟨g1, g2⟩ := hgo (C i) H2 i f1 f2 hlt
    obtain ⟨sl, k, gp, ht, hk1, hk2⟩ := (turn i hlt).turn
    refine .inr ⟨g1, I (i + 1), fun H' z => ⟨n - (i + 1), by omega, rfl, hlt, z⟩, fun x H3 y => ?_⟩
    obtain ⟨e3, rx⟩ := g2 x H3 y
    subst e3
    -- the state within: L is foreign
    let F' : Addr → Prop := fun a => F a ∨ a = L
    have hv0 : Same (vis F st1.cs H1) (vis F' (C i) H3) := by
      have : Same (vis F st1.cs H1) (vis F (C i ++ [(L, .lst (acc i))]) H3) := ((step_add (cs := st1.cs) (c := .lst []) (o := .lst []) hL).trans s2).vis
      rw [← vis_split] at this
      exact this
    have sl0 : SlAll X.K (vis F' (C i) H3) (L2.wipe σ vs) (wipeL st1.sl vs) := (a1.slots.same hv0).wipe vs
    have rx' : Rp X.K (vis F' (C i) H3) x (it i) := by
      -- the item was there before
      obtain ⟨z1, z2⟩ := hgo (C i ++ [(L, .lst (acc i))]) H3 i ((step_add (cs := st1.cs) (c := .lst []) (o := .lst []) hL).trans s2) c2 hlt
      obtain ⟨_, rz⟩ := z2 x H3 y
      rw [← vis_split] at rz
      exact rz
    refine gp F' _ H3 (C i) x cf sl0 rx' _ fun σ2 e2 hs2 => ⟨by rw [e2, wipe_wipe], ?_⟩
    refine ⟨(sl, C i, k), ht, F', ⟨cf, hs2⟩, fun H4 s4 a4 => ?_⟩
    have keepL : ∀ {cs' : Cs} {H' : Hp}, Step (C i) H3 cs' H' → H' L = some o := fun {cs' H'} z => z.1 L o ho nL
    cases k with
    | true =>
      obtain ⟨yv, ey, hy⟩ := hk1 rfl
      refine iteT ⟨(sl, C i, yv, C (i + 1)), hy, F', a4, fun v H5 s5 a5 r5 => ?_⟩
      have s45 := s4.trans s5
      obtain ⟨xs, hxo, rxs⟩ := ro
      subst hxo
      have hL5 := keepL s45
      have rl5 := rxs.same s45.vis
      refine ⟨xs, hL5, ?_, ?_, ?_, ?_⟩
      · rw [rxs.length]
        omega
      · rw [ey, List.length_append]
        simpa using hlen
      · refine s2.trans ((step_join (c' := .lst (acc i)) s45).trans ?_)
        have hj : (C (i + 1) ++ [(L, Cell.lst (acc i))])[(C (i + 1)).length]? = some (L, .lst (acc i)) := by simp
        have := step_put (H := H5) (c' := .lst (acc (i + 1))) (o := .lst (xs ++ [v])) hj
        rw [List.set_append_right _ _ (Nat.le_refl _), Nat.sub_self] at this
        exact this
      · have ca5 : CA X.K F H5 (C (i + 1) ++ [(L, .lst (acc i))]) := a5.ca.join hL5 ⟨xs, rfl, rl5⟩ nF
        have hj : (C (i + 1) ++ [(L, Cell.lst (acc i))])[(C (i + 1)).length]? = some (L, .lst (acc i)) := by simp
        have := ca5.put (c' := .lst (acc (i + 1))) (o := .lst (xs ++ [v])) hj ⟨_, rfl, by
          rw [← vis_split, ey]
          exact rl5.append (.one r5)⟩
        rw [List.set_append_right _ _ (Nat.le_refl _), Nat.sub_self] at this
        exact this
    | false =>
      obtain ⟨ea, ec⟩ := hk2 rfl
      refine iteF ⟨by rw [ea]; omega, ?_, ?_⟩
      · rw [ea, ec]
        exact s2.trans (step_join s4)
      · rw [ea, ec]
        exact a4.ca.join (keepL s4) (ro.same s4.vis) nF
  · have e : i = n := by omega
    subst e
    refine .inl ⟨hstop (C i) H2 f1 f2, q _ H2 (s1.trans f1) ⟨f2, a1.slots.same f1.vis⟩ ?_⟩
    obtain ⟨xs, hxo, rxs⟩ := ro
    subst hxo
    refine .lst (Rd.of (hide_of (fun z => z.elim nF nL) ho)) (rxs.same fun a u e => ?_)
    obtain ⟨h1, h2⟩ := hide_some e
    exact hide_of (fun z => h1 (z.elim (fun y => .inl (.inl y)) .inr)) h2
/-- [elt for tg in iter if ..] as a value -/
theorem de_lc {scope : Scope} {own : List (Str × Nat)} {wi : TI} {g : TG} {ifs : List Expr} {elt tg iter : Expr} (n : Nat) (it : Nat → D) (C : Nat → Cs) (acc : Nat → List D) (nd : X.N.Nodup) (ok : BlkOk X.N X.env.scope scope own) (hi : PI X tg iter wi) (hw : WI X.K wi st st1 n it)
    (hg : ∀ (s : Shared) (H : Hp) (C : Addr) (cl : List (Str × Addr)) (fp : List Addr), PG (X.blk s H scope (compEnvC scope cl C X.env) fp) tg g) (hC : C 0 = st1.cs) (hacc : acc 0 = []) (hn : n ≤ sizeLine)
    (turn : ∀ i, i < n → LcTurn X scope g (own.map (·.2)) (wipeL st1.sl (own.map (·.2))) ifs elt (it i) (C i) (C (i + 1)) (acc i) (acc (i + 1)))
    (hc : X.calm = true := by rfl) (hs : ∀ x, foldedSetIterable iter X.env x = pure x := by intro _; rfl) : DE X st (.ListComp elt [⟨tg, iter, ifs, 0⟩] scope pos) (.lst (acc n)) ⟨st1.sl, C n⟩ := by
  obtain ⟨tt, te, h1, h2, h3⟩ := lc_reading n it C acc hw hC hacc hn turn
  exact de_of (pe_lc hc nd hi ok hg h1 h2 hs) fun F σ H Q sa q => h3 F σ H Q sa q
/-- y = [elt for tg in iter if ..] -/
theorem ds_lc (j : Nat) {y : Str} {py : Pos} {scope : Scope} {own : List (Str × Nat)} {wi : TI} {g : TG} {ifs : List Expr} {elt tg iter : Expr} {spos : Pos} (n : Nat) (it : Nat → D) (C : Nat → Cs) (acc : Nat → List D) (nd : X.N.Nodup) (ok : BlkOk X.N X.env.scope scope own) (hi : PI X tg iter wi) (hw : WI X.K wi st st1 n it)
    (hg : ∀ (s : Shared) (H : Hp) (C : Addr) (cl : List (Str × Addr)) (fp : List Addr), PG (X.blk s H scope (compEnvC scope cl C X.env) fp) tg g) (hC : C 0 = st1.cs) (hacc : acc 0 = []) (hn : n ≤ sizeLine)
    (turn : ∀ i, i < n → LcTurn X scope g (own.map (·.2)) (wipeL st1.sl (own.map (·.2))) ifs elt (it i) (C i) (C (i + 1)) (acc i) (acc (i + 1)))
    (h : DSs X ⟨st1.sl.set j (some (.lst (acc n))), C n⟩ rest R)
    (hsw : swapsWith (.ListComp elt [⟨tg, iter, ifs, 0⟩] scope pos) (some (.Name y py)) spos.line X.env = pure true := by exact sw_true rfl rfl rfl (by decide +kernel)) (hy : X.N[j]? = some y := by rfl) (hyl : X.env.scope.names.lookup y = some .local := by rfl)
    (hc : X.calm = true := by rfl) (hs : ∀ x, foldedSetIterable iter X.env x = pure x := by intro _; rfl) : DSs X st (.Assign [.Name y py] (.ListComp elt [⟨tg, iter, ifs, 0⟩] scope pos) spos :: rest) R := by
  obtain ⟨tt, te, h1, h2, h3⟩ := lc_reading n it C acc hw hC hacc hn turn
  exact dss_cons (J := fun s => s = ⟨st1.sl.set j (some (.lst (acc n))), C n⟩) (ds_of (ps_setLc hc nd hy hyl hsw hi ok hg h1 h2 hs) fun F σ H E sa q1 q2 q3 q4 q5 => h3 F σ H _ sa fun v H' s1 a1 r1 => q1 _ H' _ rfl s1 (sa_set a1 r1)) fun _ z => z ▸ h
end
end DL

namespace DL
open PySem L2 PyProof.Rows

/-! ### a def of the text -/
structure DefAt (K : PySem.W.Frag) (mg : Str → Option Value) (x qual : Str) (st : Stmt) (ps : List Str) : Prop where
  ex : ∃ f fd, Fun K x qual st f fd ∧ mg x = some (.ref f) ∧ Binds K fd ps []
theorem defAt_mk {K : PySem.W.Frag} {mg : Str → Option Value} {x qual : Str} {st : Stmt} {ps : List Str} {f : Addr} {oc : Value} {od an : Option Addr} {osl : Array (Option Value)} {kV doc pm cdv ct : Value} (a : mg x = some (.ref f)) (l : K.lookup f = some ⟨oc, od, .func (PySem.W.fnOf x qual (defArgs st) (defBody st) (defScope st) .none kV doc pm an cdv ct), osl⟩)
    (c : PySem.W.codeIn K cdv qual = true) (k : PySem.W.keepIn K (.ref f) = true)
    (h : ∀ (kV doc pm : Value) (an : Option Addr) (cdv ct : Value) (us : List Value), us.length = ps.length → bindArgs (PySem.W.fnOf x qual (defArgs st) (defBody st) (defScope st) .none kV doc pm an cdv ct) ⟨us, []⟩ = pure (ps.zip us)) : DefAt K mg x qual st ps :=
  ⟨_, _, fun_mk l c k, a, (fun_mk l c k).binds h⟩
/-- the slots at the entry -/
def ent (N : List Str) (ds : List D) : Sl := ds.map some ++ List.replicate (N.length - ds.length) none
theorem sl_ent {K : PySem.W.Frag} {G : Hp} {N : List Str} : ∀ {ds : List D} {vs : List V}, RpAll K G vs ds → SlAll K G (L2.start N vs) (ent N ds) := fun {ds vs} r => by
  have hl := r.length
  refine ⟨by unfold L2.start ent; simp [hl], fun i d q => ?_⟩
  unfold ent at q
  by_cases hi : i < ds.length
  · rw [List.getElem?_append_left (by simpa using hi), List.getElem?_map] at q
    cases e : ds[i]? with
    | none => rw [e] at q; cases q
    | some d' =>
      rw [e] at q
      cases q
      obtain ⟨v, hv, rv⟩ := r.get e
      refine ⟨v, ?_, rv⟩
      unfold L2.start
      rw [List.getElem?_append_left (by simp; omega), List.getElem?_map, hv]
      rfl
  · rw [List.getElem?_append_right (by simpa using hi), List.getElem?_replicate] at q
    split at q <;> cases q
section
variable {P : Program} {w : World} {K : PySem.W.Frag} {mg : Str → Option Value} {base : Heap}
/-- the context of a def's body -/
abbrev bodyX (P : Program) (w : World) (K : PySem.W.Frag) (mg : Str → Option Value) (base : Heap) (N : List Str) (qual : Str) (sc : Scope) (f : Addr) (cdv : Value) (A : Around) (outer : List Env) (s : Shared) (H : Hp) (E : XK) : Cx := (cxOf CX0 P w K mg base N qual sc f cdv A outer s H E).nox
theorem fnok_fn {x qual : Str} {st : Stmt} {ps N : List Str} {k : Nat} {R : RSp} {f : Addr} {fd : FuncData} (hF : Fun K x qual st f fd) (S : FnScope N ps (defScope st)) (len : ∀ ds cs P, R ds cs P → ds.length = ps.length)
    (body : ∀ (cdv : Value) (A : Around) (outer : List Env) (s : Shared) (H : Hp) (E : XK), Room k (A.deeper (envOfC qual (defScope st) s.heap.objs.size f cdv)) → ∀ ds cs Po, R ds cs Po →
      DSs (bodyX P w K mg base N qual (defScope st) f cdv A outer s H E) ⟨ent N ds, cs⟩ (defBody st) ⟨fun st' => ∃ cs'', Po .non cs'' ∧ cs''.Sublist st'.cs, fun d cs' => ∃ cs'', Po d cs'' ∧ cs''.Sublist cs', fun _ => False, fun _ => False, fun _ _ _ => False, fun _ _ _ _ => False⟩) :
    FnOk P w K mg base CX0 (k + 1) f fd ps (SpN K R) := by
  refine hF.ok S (fun vs H Q E ⟨F, ds, cs, Po, ca, r, h, q⟩ => ?_) (fun cdv A outer s H vs Q E hr ⟨F, ds, cs, Po, ca, r, h, q⟩ => ?_)
  · rw [r.length]
    exact len ds cs Po h
  · refine ⟨_, body cdv A outer s H E hr ds cs Po h, F, ⟨ca, sl_ent r⟩, ?_, ?_, ?_, ?_, fun _ _ _ _ _ _ z => z.elim⟩
    · rintro σ' H' st' ⟨cs2, h1, h2⟩ s1 a1
      exact q .non H' .non cs2 h1 (s1.trans (step_drop h2)) (a1.ca.drop h2) (.v _)
    · rintro v H' d cs' ⟨cs2, h1, h2⟩ s1 a1 rv
      exact q v H' d cs2 h1 (s1.trans (step_drop h2)) (a1.drop h2) (rv.same (vis_drop h2))
    · intro _ _ _ z
      exact z.elim
    · intro _ _ _ z
      exact z.elim
theorem known_fn {x qual : Str} {st : Stmt} {ps N : List Str} {k : Nat} {R : RSp} (F : DefAt K mg x qual st ps) (S : FnScope N ps (defScope st)) (len : ∀ ds cs P, R ds cs P → ds.length = ps.length)
    (body : ∀ (f : Addr) (cdv : Value) (A : Around) (outer : List Env) (s : Shared) (H : Hp) (E : XK), Room k (A.deeper (envOfC qual (defScope st) s.heap.objs.size f cdv)) → ∀ ds cs Po, R ds cs Po →
      DSs (bodyX P w K mg base N qual (defScope st) f cdv A outer s H E) ⟨ent N ds, cs⟩ (defBody st) ⟨fun st' => ∃ cs'', Po .non cs'' ∧ cs''.Sublist st'.cs, fun d cs' => ∃ cs'', Po d cs'' ∧ cs''.Sublist cs', fun _ => False, fun _ => False, fun _ _ _ => False, fun _ _ _ _ => False⟩) :
    Known P w K mg base x (k + 1) (SpN K R) := by
  obtain ⟨f, fd, hF, hm, hb⟩ := F.ex
  exact ⟨f, fd, ps, fnok_fn hF S len (body f), hm, hF.kp, hb⟩
theorem known_pur {x qual : Str} {st : Stmt} {ps N : List Str} {k : Nat} {R : List D → D → Prop} (F : DefAt K mg x qual st ps) (S : FnScope N ps (defScope st)) (len : ∀ ds d, R ds d → ds.length = ps.length)
    (body : ∀ (f : Addr) (cdv : Value) (A : Around) (outer : List Env) (s : Shared) (H : Hp) (E : XK), Room k (A.deeper (envOfC qual (defScope st) s.heap.objs.size f cdv)) → ∀ ds d, R ds d →
      DSs (bodyX P w K mg base N qual (defScope st) f cdv A outer s H E) ⟨ent N ds, []⟩ (defBody st) ⟨fun _ => d = .non, fun d' _ => d' = d, fun _ => False, fun _ => False, fun _ _ _ => False, fun _ _ _ _ => False⟩) :
    Known P w K mg base x (k + 1) (SpN K (pur R)) := by
  refine known_fn F S (fun ds cs P ⟨_, d, h, _⟩ => len ds d h) fun f cdv A outer s H E hr ds cs Po ⟨e1, d, h, e2⟩ => ?_
  subst e1 e2
  exact dss_imp (body f cdv A outer s H E hr ds d h) (fun s z => ⟨[], ⟨z.symm, rfl⟩, List.nil_sublist _⟩) (fun d' cs z => ⟨[], ⟨z, rfl⟩, List.nil_sublist _⟩) (fun _ z => z) (fun _ z => z)
theorem known_chg {x qual : Str} {st : Stmt} {ps N : List Str} {k : Nat} {R : List D → (Addr × Cell) → D → Cell → Prop} (F : DefAt K mg x qual st ps) (S : FnScope N ps (defScope st)) (len : ∀ ds c d c', R ds c d c' → ds.length = ps.length)
    (body : ∀ (f : Addr) (cdv : Value) (A : Around) (outer : List Env) (s : Shared) (H : Hp) (E : XK), Room k (A.deeper (envOfC qual (defScope st) s.heap.objs.size f cdv)) → ∀ ds p c d c', R ds (p, c) d c' →
      DSs (bodyX P w K mg base N qual (defScope st) f cdv A outer s H E) ⟨ent N ds, [(p, c)]⟩ (defBody st) ⟨fun s => d = .non ∧ (p, c') ∈ s.cs, fun d' cs => d' = d ∧ (p, c') ∈ cs, fun _ => False, fun _ => False, fun _ _ _ => False, fun _ _ _ _ => False⟩) :
    Known P w K mg base x (k + 1) (SpN K (chg R)) := by
  refine known_fn F S (fun ds cs P ⟨p, c, d, c', _, h, _⟩ => len ds _ d c' h) fun f cdv A outer s H E hr ds cs Po ⟨p, c, d, c', e1, h, e2⟩ => ?_
  subst e1 e2
  exact dss_imp (body f cdv A outer s H E hr ds p c d c' h) (fun s z => ⟨[(p, c')], ⟨z.1.symm, rfl⟩, List.singleton_sublist.mpr z.2⟩) (fun d' cs z => ⟨[(p, c')], ⟨z.1, rfl⟩, List.singleton_sublist.mpr z.2⟩) (fun _ z => z) (fun _ z => z)
theorem known_fresh {x qual : Str} {st : Stmt} {ps N : List Str} {k : Nat} {R : List D → Cell → Prop} (F : DefAt K mg x qual st ps) (S : FnScope N ps (defScope st)) (len : ∀ ds c, R ds c → ds.length = ps.length)
    (body : ∀ (f : Addr) (cdv : Value) (A : Around) (outer : List Env) (s : Shared) (H : Hp) (E : XK), Room k (A.deeper (envOfC qual (defScope st) s.heap.objs.size f cdv)) → ∀ ds c, R ds c →
      DSs (bodyX P w K mg base N qual (defScope st) f cdv A outer s H E) ⟨ent N ds, []⟩ (defBody st) ⟨fun _ => False, fun d' cs => ∃ p, d' = .ref p ∧ (p, c) ∈ cs, fun _ => False, fun _ => False, fun _ _ _ => False, fun _ _ _ _ => False⟩) :
    Known P w K mg base x (k + 1) (SpN K (fresh R)) := by
  refine known_fn F S (fun ds cs P ⟨_, c, h, _⟩ => len ds c h) fun f cdv A outer s H E hr ds cs Po ⟨e1, c, h, e2⟩ => ?_
  subst e1 e2
  exact dss_imp (body f cdv A outer s H E hr ds c h) (fun s z => z.elim) (fun d' cs ⟨p, z1, z2⟩ => ⟨[(p, c)], ⟨p, z1, rfl⟩, List.singleton_sublist.mpr z2⟩) (fun _ z => z) (fun _ z => z)
end

/-- the law: from the script to True -/
def RLaw : RSp := pur fun ds d => ∃ ns : List Int, ds = [.klst (ns.map D.int)] ∧ ns.length ≤ 63 ∧ d = .bl true
theorem rpall_ints0 {K : PySem.W.Frag} {G : Hp} : ∀ ns : List Int, RpAll K G (ns.map V.int) (ns.map D.int)
  | [] => .nil
  | _ :: r => .cons (.v _) (rpall_ints0 r)
theorem law_sp {K : PySem.W.Frag} {H : Hp} {a : Addr} {ns : List Int} {Q : VK} {E : XK} (hS : SqL K H a (ns.map V.int)) (hl : ns.length ≤ 63) (q : ∀ H', Q (.bl true) H') : SpN K RLaw [.ref a] H Q E := by
  refine ⟨fun _ => False, [.klst (ns.map D.int)], [], _, ⟨fun p hp => by simp at hp, by simp [dom], fun a h => h.elim⟩, .one ?_, ⟨rfl, .bl true, ⟨ns, rfl, hl, rfl⟩, rfl⟩, ?_⟩
  · refine .klst (same_l (fun b o h => hide_of (by simp [dom]) h) hS) (rpall_ints0 ns)
  · rintro v H' d cs' ⟨rfl, rfl⟩ _ _ r
    cases r.eqv
    exact q H'
theorem walk {l : PySem.W.OpenLaw} {q : Program} {loose : List Str} {XP : (Str → Option Value) → Heap → Prop} {YP : World → Heap → Prop} {d : DefRec} {K : Params → PySem.W.Frag} {k : Nat} (hn : l.most = some 63) (hr : Room k callerA) (hdf : d.params.defaults = [])
    (hY : ∀ (w : World) (h : Heap), YP w h → (K w.params).In h)
    (F : ∀ (w : World) (mg : Str → Option Value) (fa : Addr) (h : Heap), (K w.params).In h → h.Ns mainGlobals mg → mg d.name = some (.ref fa) →
      ∃ fd : FuncData, (∀ (s : Shared) (u : Value), BindsTo s fd ⟨[u], []⟩ [("script", u)]) ∧ ∀ base : Heap, (K w.params).In base → base.Ns mainGlobals mg → FnOk l.prog w (K w.params) mg base CX0 k fa fd ["script"] (SpN (K w.params) RLaw)) :
    PySem.W.WalkO q loose XP YP l.row.toRowW d [] (fun f vs => PySem.call f vs) :=
  L2.walk_of (n := 63) (k := k) (x := "script") (CX := fun _ => CX0) (sp := fun w => SpN (K w.params) RLaw) hn (by decide) hdf hr hY F (fun _ _ a ns hl _ hS => law_sp hS hl fun _ => rfl) fun _ _ _ _ _ z => z
/-! ### built-in functions over data -/
section
variable {X : Cx} {st st1 st2 st3 : SS} {e a b c : Expr} {es : List Expr} {d da db : D} {ds : List D} {p pos : Pos}
theorem de_len {n : Nat} (hm : X.mg "len" = none) (ha : DE X st a d st1) (h : ∀ F σ H v, SA X.K F σ H st1 → Rp X.K (vis F st1.cs H) v d → ∃ q ys, v = .ref q ∧ (SqL X.K H q ys ∨ SqT X.K H q ys) ∧ ys.length = n) (hg : Gl X "len" := by rfl) (he : starEach [a] X.env = (false, eval a X.env) :: starEach [] X.env := by rfl) (hpl : (backTo pos (starEach [] X.env)).any (·.1) = false := by rfl) : DE X st (.Call (.Name "len" p) [a] [] pos) (.int n) st1 :=
  de_callB call_len_seq hm PySem.boot_len (da_cons ha da_nil he) (rc_val fun F σ H vs sa r => by
    obtain ⟨v, rfl, rv⟩ := r.one'
    obtain ⟨q, ys, rfl, hy, hn⟩ := h F σ H v sa rv
    exact ⟨.int n, .v _, fun Q k => ⟨q, ys, rfl, hy, by rw [hn]; exact k⟩⟩) hg (by decide) (by decide) he hpl
theorem de_lenL (hm : X.mg "len" = none) (ha : DE X st a (.lst ds) st1) (hg : Gl X "len" := by rfl) (he : starEach [a] X.env = (false, eval a X.env) :: starEach [] X.env := by rfl) (hpl : (backTo pos (starEach [] X.env)).any (·.1) = false := by rfl) : DE X st (.Call (.Name "len" p) [a] [] pos) (.int ds.length) st1 :=
  de_len hm ha (fun F σ H v sa r => by
    cases r with
    | lst h1 h2 => exact ⟨_, _, rfl, .inl (rd_l h1), h2.length⟩) hg he hpl
theorem de_lenK (hm : X.mg "len" = none) (ha : DE X st a (.klst ds) st1) (hg : Gl X "len" := by rfl) (he : starEach [a] X.env = (false, eval a X.env) :: starEach [] X.env := by rfl) (hpl : (backTo pos (starEach [] X.env)).any (·.1) = false := by rfl) : DE X st (.Call (.Name "len" p) [a] [] pos) (.int ds.length) st1 :=
  de_len hm ha (fun F σ H v sa r => by
    cases r with
    | klst h1 h2 => exact ⟨_, _, rfl, .inl (same_l (hide_le _ _) h1), h2.length⟩) hg he hpl
theorem de_lenT (hm : X.mg "len" = none) (ha : DE X st a (.tup ds) st1) (hg : Gl X "len" := by rfl) (he : starEach [a] X.env = (false, eval a X.env) :: starEach [] X.env := by rfl) (hpl : (backTo pos (starEach [] X.env)).any (·.1) = false := by rfl) : DE X st (.Call (.Name "len" p) [a] [] pos) (.int ds.length) st1 :=
  de_len hm ha (fun F σ H v sa r => by
    cases r with
    | tup h1 h2 => exact ⟨_, _, rfl, .inr (same_t (hide_le _ _) h1), h2.length⟩) hg he hpl
theorem de_lenC (j : Nat) {q : Addr} (hm : X.mg "len" = none) (ha : DE X st a (.ref q) st1) (hc : st1.cs[j]? = some (q, .lst ds)) (hg : Gl X "len" := by rfl) (he : starEach [a] X.env = (false, eval a X.env) :: starEach [] X.env := by rfl) (hpl : (backTo pos (starEach [] X.env)).any (·.1) = false := by rfl) : DE X st (.Call (.Name "len" p) [a] [] pos) (.int ds.length) st1 :=
  de_len hm ha (fun F σ H v sa r => by
    cases r.eqv
    obtain ⟨xs, hx, rs⟩ := cell_lst sa.ca hc
    exact ⟨_, _, rfl, .inl (SqL.of hx), rs.length⟩) hg he hpl
theorem de_abs {i : Int} (hm : X.mg "abs" = none) (ha : DE X st a (.int i) st1) (hg : Gl X "abs" := by rfl) (he : starEach [a] X.env = (false, eval a X.env) :: starEach [] X.env := by rfl) (hpl : (backTo pos (starEach [] X.env)).any (·.1) = false := by rfl) : DE X st (.Call (.Name "abs" p) [a] [] pos) (.int i.natAbs) st1 :=
  de_callB call_abs hm (by decide +kernel) (da_cons ha da_nil he) (rc_val fun F σ H vs sa r => by
    obtain ⟨v, rfl, rv⟩ := r.one'
    cases rv.eqv
    refine ⟨.int (if i < 0 then -i else i), ?_, fun Q k => ⟨i, rfl, k⟩⟩
    rw [show ((i.natAbs : Nat) : Int) = if i < 0 then -i else i by split <;> omega]
    exact .v _) hg (by decide) (by decide) he hpl
theorem de_max2 {i j : Int} (hm : X.mg "max" = none) (ha : DE X st a (.int i) st1) (hb : DE X st1 b (.int j) st2) (hc : X.calm = true := by rfl) (hg : Gl X "max" := by rfl) (ea : starEach [a, b] X.env = (false, eval a X.env) :: starEach [b] X.env := by rfl) (eb : starEach [b] X.env = (false, eval b X.env) :: starEach [] X.env := by rfl) (hpl : (backTo pos (starEach [b] X.env)).any (·.1) = false := by rfl) : DE X st (.Call (.Name "max" p) [a, b] [] pos) (.int (max i j)) st2 :=
  de_callB (call_max2 hc) hm (by decide +kernel) (da_cons ha (da_cons hb da_nil eb) ea) (rc_val fun F σ H vs sa r => by
    obtain ⟨v, u, rfl, rv, ru⟩ := r.two
    cases rv.eqv
    cases ru.eqv
    refine ⟨.int (if j > i then j else i), ?_, fun Q k => ⟨i, j, rfl, k⟩⟩
    rw [show max i j = if j > i then j else i by split <;> omega]
    exact .v _) hg (by decide) (by decide) ea hpl
theorem de_min2 {i j : Int} (hm : X.mg "min" = none) (ha : DE X st a (.int i) st1) (hb : DE X st1 b (.int j) st2) (hc : X.calm = true := by rfl) (hg : Gl X "min" := by rfl) (ea : starEach [a, b] X.env = (false, eval a X.env) :: starEach [b] X.env := by rfl) (eb : starEach [b] X.env = (false, eval b X.env) :: starEach [] X.env := by rfl) (hpl : (backTo pos (starEach [b] X.env)).any (·.1) = false := by rfl) : DE X st (.Call (.Name "min" p) [a, b] [] pos) (.int (min i j)) st2 :=
  de_callB (call_min2 hc) hm (by decide +kernel) (da_cons ha (da_cons hb da_nil eb) ea) (rc_val fun F σ H vs sa r => by
    obtain ⟨v, u, rfl, rv, ru⟩ := r.two
    cases rv.eqv
    cases ru.eqv
    refine ⟨.int (if j < i then j else i), ?_, fun Q k => ⟨i, j, rfl, k⟩⟩
    rw [show min i j = if j < i then j else i by split <;> omega]
    exact .v _) hg (by decide) (by decide) ea hpl
/-- int(n), n an int -/
theorem de_toInt {i : Int} (hm : X.mg "int" = none) (ha : DE X st a (.int i) st1) (hg : Gl X "int" := by rfl) (he : starEach [a] X.env = (false, eval a X.env) :: starEach [] X.env := by rfl) (hpl : (backTo pos (starEach [] X.env)).any (·.1) = false := by rfl) : DE X st (.Call (.Name "int" p) [a] [] pos) (.int i) st1 :=
  de_callTy call_int1 hm (by decide +kernel) (da_cons ha da_nil he) (rc_val fun F σ H vs sa r => by
    obtain ⟨v, rfl, rv⟩ := r.one'
    cases rv.eqv
    exact ⟨.int i, .v _, fun Q k => .inl ⟨i, rfl, k⟩⟩) hg (by decide) (by decide) he hpl
theorem rpall_ints {K : PySem.W.Frag} {G : Hp} {α : Type} (f : α → Int) : ∀ l : List α, RpAll K G (l.map fun k => V.int (f k)) (l.map fun k => D.int (f k))
  | [] => .nil
  | _ :: r => .cons (.v _) (rpall_ints f r)
/-- list(range(a, b)) -/
theorem de_listRg {i j : Int} {pr : Pos} (hl : X.mg "list" = none) (hm : X.mg "range" = none) (ha : DE X st a (.int i) st1) (hb : DE X st1 b (.int j) st2) (h : RgOk i j) (hc : X.calm = true := by rfl) (hg : Gl X "list" := by rfl) (hg' : Gl X "range" := by rfl)
    (na : starEach [a, b] X.env = (false, eval a X.env) :: starEach [b] X.env := by rfl) (nb : starEach [b] X.env = (false, eval b X.env) :: starEach [] X.env := by rfl) (hp : (backTo pr (starEach [b] X.env)).any (·.1) = false := by rfl) (nc : starEach [.Call (.Name "range" p) [a, b] [] pr] X.env = (false, eval (.Call (.Name "range" p) [a, b] [] pr) X.env) :: starEach [] X.env := by rfl) {pp : Pos} :
    DE X st (.Call (.Name "list" pp) [.Call (.Name "range" p) [a, b] [] pr] [] pos) (.lst ((List.range (j - i).toNat).map fun k : Nat => .int (i + (k : Int)))) st2 :=
  de_of (pe_listRg hc hg hl (prg_2 hg' hm ha hb na nb hp) nc) fun F σ H Q sa q => ⟨F, sa, fun v H1 s1 a1 r1 => ⟨F, a1, fun u H2 s2 a2 r2 => by
    cases r1.eqv
    cases r2.eqv
    refine ⟨i, j, rfl, rfl, h, fun l hp => q _ _ ((s1.trans s2).trans (.same (same_new hp))) (sa_new a2 hp) (.lst (Rd.of (vis_new a2.ca hp)) ?_)⟩
    exact rpall_ints (fun k : Nat => i + (k : Int)) _⟩⟩
/-! ### isinstance -/
def D.ty : D → String
  | .v .non => "NoneType"
  | .v (.bl _) => "bool"
  | .v (.int _) => "int"
  | .v (.str _) => "str"
  | .v (.flt _) => "float"
  | .tup _ => "tuple"
  | .lst _ => "list"
  | .klst _ => "list"
  | .v _ => ""
theorem rp_ty {K : PySem.W.Frag} {F : Addr → Prop} {cs : Cs} {H : Hp} {v : V} (r : Rp K (vis F cs H) v d) (h : d.ty ≠ "") : TyX K H v (.type d.ty) := by
  cases r with
  | v =>
    cases v with
    | non => exact .base .non
    | bl b => exact .base (.bl b)
    | int i => exact .base (.int i)
    | str s => exact .base (.str s)
    | flt b => exact .base (.flt b)
    | byt b => exact absurd rfl h
    | ref a => exact absurd rfl h
    | ty n => exact absurd rfl h
  | tup h1 h2 =>
    rcases h1 with (h1 | ⟨o, h1⟩) | ⟨o, its, n, h1, h2, _⟩
    · exact .base (.tup (hide_some h1).2)
    · exact .fTuple (hide_some h1).2
    · exact .kTuple h1 h2
  | lst h1 h2 =>
    rcases h1 with h1 | ⟨o, h1⟩
    · exact .base (.lst (hide_some h1).2)
    · exact .base (.frz (hide_some h1).2)
  | klst h1 h2 =>
    rcases h1 with (h1 | ⟨o, h1⟩) | ⟨o, its, n, h1, h2, _⟩
    · exact .base (.lst (hide_some h1).2)
    · exact .base (.frz (hide_some h1).2)
    · exact .kList h1 h2
theorem de_isi {T : Str} {n : String} {k : Bool} {pt : Pos} (hm : X.mg "isinstance" = none) (ha : DE X st a d st1) (hT : DE X st1 (.Name T pt) (.v (.ty n)) st1) (hd : d.ty ≠ "") (hk : kitB d.ty n = some k) (hg : Gl X "isinstance" := by rfl) (ea : starEach [a, .Name T pt] X.env = (false, eval a X.env) :: starEach [.Name T pt] X.env := by rfl) (eb : starEach [.Name T pt] X.env = (false, eval (.Name T pt) X.env) :: starEach [] X.env := by rfl) (hpl : (backTo pos (starEach [.Name T pt] X.env)).any (·.1) = false := by rfl) :
    DE X st (.Call (.Name "isinstance" p) [a, .Name T pt] [] pos) (.bl k) st1 :=
  de_callB call_isi hm (by decide +kernel) (da_cons ha (da_cons hT da_nil eb) ea) (rc_val fun F σ H vs sa r => by
    obtain ⟨v, u, rfl, rv, ru⟩ := r.two
    cases ru.eqv
    exact ⟨.bl k, .v _, fun Q q => ⟨v, .ty n, _, _, k, rfl, .ty n, rp_ty rv hd, kit_ty hk, q⟩⟩) hg (by decide) (by decide) ea hpl
theorem de_bty {T : Str} {n : String} (hm : X.mg T = none) (hv : bootBuiltins T = some (.type n)) (hg : Gl X T := by rfl) (hn : T ≠ "__name__" := by decide) (hd : (T == ("__debug__" : Str)) = false := by decide) : DE X st (.Name T pos) (.v (.ty n)) st := de_c (pe_bltn hg hm hv rfl hn hd)
end

/-! ### == of data -/
mutual
def D.py : D → PyData
  | .v .non => .none
  | .v (.bl b) => .bool b
  | .v (.int i) => .int i
  | .v (.str s) => .str s
  | .v _ => .dict []
  | .tup ds => .tuple (D.pys ds)
  | .lst ds => .list (D.pys ds)
  | .klst ds => .dict []
def D.pys : List D → List PyData
  | [] => []
  | d :: ds => D.py d :: D.pys ds
end
mutual
/-- ints, texts, None and lists and tuples of such -/
def D.ok : D → Bool
  | .v .non => true
  | .v (.int _) => true
  | .v (.str s) => PyData.canLay0 (.str s)
  | .v _ => false
  | .tup ds => D.oks ds
  | .lst ds => D.oks ds
  | .klst _ => false
def D.oks : List D → Bool
  | [] => true
  | d :: ds => D.ok d && D.oks ds
end
mutual
def D.dep : D → Nat
  | .v _ => 0
  | .tup ds => D.deps ds + 1
  | .lst ds => D.deps ds + 1
  | .klst ds => D.deps ds + 1
def D.deps : List D → Nat
  | [] => 0
  | d :: ds => max (D.dep d) (D.deps ds)
end
mutual
theorem D.lay : ∀ d : D, d.ok = true → d.py.canLay0 = true
  | .v .non, _ => by simp only [D.py, PyData.canLay0]
  | .v (.int _), _ => by simp only [D.py, PyData.canLay0]
  | .v (.str s), h => by simpa only [D.py, D.ok] using h
  | .v (.bl _), h => by simp [D.ok] at h
  | .v (.byt _), h => by simp [D.ok] at h
  | .v (.flt _), h => by simp [D.ok] at h
  | .v (.ref _), h => by simp [D.ok] at h
  | .v (.ty _), h => by simp [D.ok] at h
  | .tup ds, h => by simp only [D.py, PyData.canLay0]; exact D.lays ds (by simpa only [D.ok] using h)
  | .lst ds, h => by simp only [D.py, PyData.canLay0]; exact D.lays ds (by simpa only [D.ok] using h)
  | .klst _, h => by simp [D.ok] at h
theorem D.lays : ∀ ds : List D, D.oks ds = true → PyData.canLayAll0 (D.pys ds) = true
  | [], _ => by simp only [D.pys, PyData.canLayAll0]
  | d :: ds, h => by
    simp only [D.oks, Bool.and_eq_true] at h
    simp only [D.pys, PyData.canLayAll0, D.lay d h.1, D.lays ds h.2, Bool.and_self]
end
mutual
theorem D.depth_py : ∀ d : D, d.ok = true → d.py.depth = d.dep
  | .v .non, _ => by simp only [D.py, PyData.depth, D.dep]
  | .v (.int _), _ => by simp only [D.py, PyData.depth, D.dep]
  | .v (.str s), h => by simp only [D.py, PyData.depth, D.dep]
  | .v (.bl _), h => by simp [D.ok] at h
  | .v (.byt _), h => by simp [D.ok] at h
  | .v (.flt _), h => by simp [D.ok] at h
  | .v (.ref _), h => by simp [D.ok] at h
  | .v (.ty _), h => by simp [D.ok] at h
  | .tup ds, h => by simp only [D.py, PyData.depth, D.dep]; rw [D.depth_pys ds (by simpa only [D.ok] using h)]
  | .lst ds, h => by simp only [D.py, PyData.depth, D.dep]; rw [D.depth_pys ds (by simpa only [D.ok] using h)]
  | .klst _, h => by simp [D.ok] at h
theorem D.depth_pys : ∀ ds : List D, D.oks ds = true → PyData.depthAll (D.pys ds) = D.deps ds
  | [], _ => by simp only [D.pys, PyData.depthAll, D.deps]
  | d :: ds, h => by
    simp only [D.oks, Bool.and_eq_true] at h
    simp only [D.pys, PyData.depthAll, D.deps, D.depth_py d h.1, D.depth_pys ds h.2]
end
theorem D.shaped {d : D} (h : d.ok = true) (l : d.dep ≤ 64) : SeqAt.shaped d.py = true := by
  show (d.py.canLay0 && decide (d.py.depth ≤ 64)) = true
  rw [Bool.and_eq_true]
  exact ⟨D.lay d h, decide_eq_true (by rw [D.depth_py d h]; exact l)⟩
mutual
theorem D.eqv : ∀ d e : D, d.ok = true → e.ok = true → (PyData.eqv d.py e.py = true ↔ d = e)
  | .v (.bl _), _, h, _ => by simp [D.ok] at h
  | .v (.byt _), _, h, _ => by simp [D.ok] at h
  | .v (.flt _), _, h, _ => by simp [D.ok] at h
  | .v (.ref _), _, h, _ => by simp [D.ok] at h
  | .v (.ty _), _, h, _ => by simp [D.ok] at h
  | .klst _, _, h, _ => by simp [D.ok] at h
  | _, .klst _, _, h => by simp [D.ok] at h
  | _, .v (.bl _), _, h => by simp [D.ok] at h
  | _, .v (.byt _), _, h => by simp [D.ok] at h
  | _, .v (.flt _), _, h => by simp [D.ok] at h
  | _, .v (.ref _), _, h => by simp [D.ok] at h
  | _, .v (.ty _), _, h => by simp [D.ok] at h
  | .v .non, .v .non, _, _ => by simp [D.py, PyData.eqv]
  | .v .non, .v (.int _), _, _ => by simp [D.py, PyData.eqv]
  | .v .non, .v (.str _), _, _ => by simp [D.py, PyData.eqv]
  | .v .non, .tup _, _, _ => by simp [D.py, PyData.eqv]
  | .v .non, .lst _, _, _ => by simp [D.py, PyData.eqv]
  | .v (.int _), .v .non, _, _ => by simp [D.py, PyData.eqv]
  | .v (.int i), .v (.int j), _, _ => by simp [D.py, PyData.eqv]
  | .v (.int _), .v (.str _), _, _ => by simp [D.py, PyData.eqv]
  | .v (.int _), .tup _, _, _ => by simp [D.py, PyData.eqv]
  | .v (.int _), .lst _, _, _ => by simp [D.py, PyData.eqv]
  | .v (.str _), .v .non, _, _ => by simp [D.py, PyData.eqv]
  | .v (.str _), .v (.int _), _, _ => by simp [D.py, PyData.eqv]
  | .v (.str _), .v (.str _), _, _ => by simp [D.py, PyData.eqv]
  | .v (.str _), .tup _, _, _ => by simp [D.py, PyData.eqv]
  | .v (.str _), .lst _, _, _ => by simp [D.py, PyData.eqv]
  | .tup _, .v .non, _, _ => by simp [D.py, PyData.eqv]
  | .tup _, .v (.int _), _, _ => by simp [D.py, PyData.eqv]
  | .tup _, .v (.str _), _, _ => by simp [D.py, PyData.eqv]
  | .tup ds, .tup es, h, h' => by
    simp only [D.py, PyData.eqv, D.tup.injEq]
    exact D.eqvs ds es (by simpa only [D.ok] using h) (by simpa only [D.ok] using h')
  | .tup _, .lst _, _, _ => by simp [D.py, PyData.eqv]
  | .lst _, .v .non, _, _ => by simp [D.py, PyData.eqv]
  | .lst _, .v (.int _), _, _ => by simp [D.py, PyData.eqv]
  | .lst _, .v (.str _), _, _ => by simp [D.py, PyData.eqv]
  | .lst _, .tup _, _, _ => by simp [D.py, PyData.eqv]
  | .lst ds, .lst es, h, h' => by
    simp only [D.py, PyData.eqv, D.lst.injEq]
    exact D.eqvs ds es (by simpa only [D.ok] using h) (by simpa only [D.ok] using h')
theorem D.eqvs : ∀ ds es : List D, D.oks ds = true → D.oks es = true → (PyData.eqvAll (D.pys ds) (D.pys es) = true ↔ ds = es)
  | [], [], _, _ => by simp [D.pys, PyData.eqvAll]
  | [], _ :: _, _, _ => by simp [D.pys, PyData.eqvAll]
  | _ :: _, [], _, _ => by simp [D.pys, PyData.eqvAll]
  | d :: ds, e :: es, h, h' => by
    simp only [D.oks, Bool.and_eq_true] at h h'
    simp only [D.pys, PyData.eqvAll, Bool.and_eq_true, List.cons.injEq, D.eqv d e h.1 h'.1, D.eqvs ds es h.2 h'.2]
end
mutual
theorem rp_dp {K : PySem.W.Frag} {G H : Hp} (s : Same G H) : ∀ (d : D) (v : V), d.ok = true → Rp K G v d → Dp K H v d.py
  | .v .non, _, _, r => by cases r.eqv; exact .non
  | .v (.int _), _, _, r => by cases r.eqv; exact .int _
  | .v (.str _), _, _, r => by cases r.eqv; exact .str _
  | .v (.bl _), _, h, _ => by simp [D.ok] at h
  | .v (.byt _), _, h, _ => by simp [D.ok] at h
  | .v (.flt _), _, h, _ => by simp [D.ok] at h
  | .v (.ref _), _, h, _ => by simp [D.ok] at h
  | .v (.ty _), _, h, _ => by simp [D.ok] at h
  | .tup ds, _, h, r => by
    cases r with
    | tup h1 h2 => exact .tup (same_t s h1) (rp_dps s ds _ (by simpa only [D.ok] using h) h2)
  | .lst ds, _, h, r => by
    cases r with
    | lst h1 h2 => exact .lst (.inl (same_rd s h1)) (rp_dps s ds _ (by simpa only [D.ok] using h) h2)
  | .klst _, _, h, _ => by simp [D.ok] at h
theorem rp_dps {K : PySem.W.Frag} {G H : Hp} (s : Same G H) : ∀ (ds : List D) (vs : List V), D.oks ds = true → RpAll K G vs ds → DpAll K H vs (D.pys ds)
  | [], _, _, r => by
    cases r
    exact .nil
  | d :: ds, _, h, r => by
    simp only [D.oks, Bool.and_eq_true] at h
    cases r with
    | cons r1 r2 => exact .cons (rp_dp s d _ h.1 r1) (rp_dps s ds _ h.2 r2)
end
section
variable {X : Cx} {st st1 st2 st3 : SS} {e a b c : Expr} {es : List Expr} {d da db : D} {ds : List D} {p pos : Pos}
theorem rr_eqD {k : Bool} (h1 : da.ok = true) (h2 : db.ok = true) (l1 : da.dep ≤ 64) (l2 : db.dep ≤ 64) (hk : k = true ↔ da = db) : RR X.K (rEqD X.K) st da db (.bl k) st := rr_val fun F σ H v u sa rv ru => by
  have e : PyData.eqv da.py db.py = k := by
    rw [Bool.eq_iff_iff, hk]
    exact D.eqv da db h1 h2
  exact ⟨.bl k, .v _, fun Q q => ⟨da.py, db.py, rp_dp (hide_le _ _) da v h1 rv, rp_dp (hide_le _ _) db u h2 ru, D.shaped h1 l1, D.shaped h2 l2, by rw [e]; exact q⟩⟩
theorem rr_neD {k : Bool} (h1 : da.ok = true) (h2 : db.ok = true) (l1 : da.dep ≤ 64) (l2 : db.dep ≤ 64) (hk : k = true ↔ da ≠ db) : RR X.K (rNeD X.K) st da db (.bl k) st := rr_val fun F σ H v u sa rv ru => by
  have e : (!PyData.eqv da.py db.py) = k := by
    rw [Bool.eq_iff_iff, hk, Bool.not_eq_true', ← Bool.not_eq_true, Ne, D.eqv da db h1 h2]
  exact ⟨.bl k, .v _, fun Q q => ⟨da.py, db.py, rp_dp (hide_le _ _) da v h1 rv, rp_dp (hide_le _ _) db u h2 ru, D.shaped h1 l1, D.shaped h2 l2, by rw [e]; exact q⟩⟩
/-- flat values -/
theorem rr_eqS {x y : V} (h : scal x y = true) : RR X.K rEq st (.v x) (.v y) (.bl (decide (x = y))) st := rr_val fun F σ H v u sa rv ru => by
  cases rv.eqv
  cases ru.eqv
  exact ⟨_, .v _, fun Q q => ⟨h, q⟩⟩
theorem rr_neS {x y : V} (h : scal x y = true) : RR X.K rNe st (.v x) (.v y) (.bl (!decide (x = y))) st := rr_val fun F σ H v u sa rv ru => by
  cases rv.eqv
  cases ru.eqv
  exact ⟨_, .v _, fun Q q => ⟨h, q⟩⟩
theorem rr_eqI {i j : Int} : RR X.K rEq st (.int i) (.int j) (.bl (decide (i = j))) st := by
  have := rr_eqS (X := X) (st := st) (x := .int i) (y := .int j) rfl
  rwa [dec_int, Bool.beq_eq_decide_eq] at this
theorem rr_neI {i j : Int} : RR X.K rNe st (.int i) (.int j) (.bl (!decide (i = j))) st := by
  have := rr_neS (X := X) (st := st) (x := .int i) (y := .int j) rfl
  rwa [dec_int, Bool.beq_eq_decide_eq] at this
end
end DL

namespace DL
open PySem L2 PyProof.Rows
/-! ### short words -/
section
variable {X : Cx} {st st1 st2 st3 : SS} {e a b c : Expr} {es : List Expr} {d da db : D} {ds : List D} {p pos : Pos} {i j : Int}
theorem de_add (ha : DE X st a (.int i) st1) (hb : DE X st1 b (.int j) st2) : DE X st (.BinOp a .Add b pos) (.int (i + j)) st2 := de_op op_add ha hb rr_I0
theorem de_sub (ha : DE X st a (.int i) st1) (hb : DE X st1 b (.int j) st2) : DE X st (.BinOp a .Sub b pos) (.int (i - j)) st2 := de_op op_sub ha hb rr_I0
/-- one factor within 2^64 -/
theorem de_mul (ha : DE X st a (.int i) st1) (hb : DE X st1 b (.int j) st2) (h : CMul i j) : DE X st (.BinOp a .Mult b pos) (.int (i * j)) st2 := de_op op_mul ha hb (rr_I h)
/-- together below a million bits -/
theorem de_mulW (ha : DE X st a (.int i) st1) (hb : DE X st1 b (.int j) st2) (h : CMulW i j) : DE X st (.BinOp a .Mult b pos) (.int (i * j)) st2 := de_op op_mulW ha hb (rr_I h)
theorem de_mod (ha : DE X st a (.int i) st1) (hb : DE X st1 b (.int j) st2) (h : 0 < j) : DE X st (.BinOp a .Mod b pos) (.int (i % j)) st2 := de_op op_mod ha hb (rr_I h)
theorem de_modN (ha : DE X st a (.int i) st1) (hb : DE X st1 b (.int j) st2) (h : j ≠ 0) : DE X st (.BinOp a .Mod b pos) (.int (i.fmod j)) st2 := de_op op_modN ha hb (rr_I h)
theorem de_div (ha : DE X st a (.int i) st1) (hb : DE X st1 b (.int j) st2) (h : CDiv i j) : DE X st (.BinOp a .FloorDiv b pos) (.int (i / j)) st2 := de_op op_fdiv ha hb (rr_I h)
theorem de_divN (ha : DE X st a (.int i) st1) (hb : DE X st1 b (.int j) st2) (h : CDivN i j) : DE X st (.BinOp a .FloorDiv b pos) (.int (i.fdiv j)) st2 := de_op op_fdivN ha hb (rr_I h)
theorem de_divW (ha : DE X st a (.int i) st1) (hb : DE X st1 b (.int j) st2) (h : CDivW i j) : DE X st (.BinOp a .FloorDiv b pos) (.int (i / j)) st2 := de_op op_fdivW ha hb (rr_I h)
theorem de_pow (ha : DE X st a (.int i) st1) (hb : DE X st1 b (.int j) st2) (h : CPow i j) : DE X st (.BinOp a .Pow b pos) (.int (i ^ j.toNat)) st2 := de_op op_pow ha hb (rr_I h)
theorem db_eqI (ha : DE X st a (.int i) st1) (hb : DE X st1 b (.int j) st2) : DB X st (.Compare a [.Eq] [b] pos) (decide (i = j)) st2 := db_cmp op_eq ha hb rr_eqI
theorem db_neI (ha : DE X st a (.int i) st1) (hb : DE X st1 b (.int j) st2) : DB X st (.Compare a [.NotEq] [b] pos) (!decide (i = j)) st2 := db_cmp op_ne ha hb rr_neI
theorem db_lt (ha : DE X st a (.int i) st1) (hb : DE X st1 b (.int j) st2) : DB X st (.Compare a [.Lt] [b] pos) (decide (i < j)) st2 := db_cmp op_lt ha hb rr_I0
theorem db_le (ha : DE X st a (.int i) st1) (hb : DE X st1 b (.int j) st2) : DB X st (.Compare a [.LtE] [b] pos) (decide (i ≤ j)) st2 := db_cmp op_le ha hb rr_I0
theorem db_gt (ha : DE X st a (.int i) st1) (hb : DE X st1 b (.int j) st2) : DB X st (.Compare a [.Gt] [b] pos) (decide (j < i)) st2 := db_cmp op_gt ha hb rr_I0
theorem db_ge (ha : DE X st a (.int i) st1) (hb : DE X st1 b (.int j) st2) : DB X st (.Compare a [.GtE] [b] pos) (decide (j ≤ i)) st2 := db_cmp op_ge ha hb rr_I0
theorem de_eqI (ha : DE X st a (.int i) st1) (hb : DE X st1 b (.int j) st2) : DE X st (.Compare a [.Eq] [b] pos) (.bl (decide (i = j))) st2 := de_cmp op_eq ha hb rr_eqI
theorem de_neI (ha : DE X st a (.int i) st1) (hb : DE X st1 b (.int j) st2) : DE X st (.Compare a [.NotEq] [b] pos) (.bl (!decide (i = j))) st2 := de_cmp op_ne ha hb rr_neI
theorem de_lt (ha : DE X st a (.int i) st1) (hb : DE X st1 b (.int j) st2) : DE X st (.Compare a [.Lt] [b] pos) (.bl (decide (i < j))) st2 := de_cmp op_lt ha hb rr_I0
theorem de_le (ha : DE X st a (.int i) st1) (hb : DE X st1 b (.int j) st2) : DE X st (.Compare a [.LtE] [b] pos) (.bl (decide (i ≤ j))) st2 := de_cmp op_le ha hb rr_I0
theorem de_gt (ha : DE X st a (.int i) st1) (hb : DE X st1 b (.int j) st2) : DE X st (.Compare a [.Gt] [b] pos) (.bl (decide (j < i))) st2 := de_cmp op_gt ha hb rr_I0
theorem de_ge (ha : DE X st a (.int i) st1) (hb : DE X st1 b (.int j) st2) : DE X st (.Compare a [.GtE] [b] pos) (.bl (decide (j ≤ i))) st2 := de_cmp op_ge ha hb rr_I0
/-- == of data (lists, tuples): k tells it -/
theorem de_eqD (k : Bool) (hu : X.A.units + 64 < cLine) (ha : DE X st a da st1) (hb : DE X st1 b db st2) (h1 : da.ok = true) (h2 : db.ok = true) (l1 : da.dep ≤ 64) (l2 : db.dep ≤ 64) (hk : k = true ↔ da = db) : DE X st (.Compare a [.Eq] [b] pos) (.bl k) st2 := de_cmp (op_eqD hu) ha hb (rr_eqD h1 h2 l1 l2 hk)
theorem db_eqD (k : Bool) (hu : X.A.units + 64 < cLine) (ha : DE X st a da st1) (hb : DE X st1 b db st2) (h1 : da.ok = true) (h2 : db.ok = true) (l1 : da.dep ≤ 64) (l2 : db.dep ≤ 64) (hk : k = true ↔ da = db) : DB X st (.Compare a [.Eq] [b] pos) k st2 := db_cmp (op_eqD hu) ha hb (rr_eqD h1 h2 l1 l2 hk)
theorem db_neD (k : Bool) (hu : X.A.units + 64 < cLine) (ha : DE X st a da st1) (hb : DE X st1 b db st2) (h1 : da.ok = true) (h2 : db.ok = true) (l1 : da.dep ≤ 64) (l2 : db.dep ≤ 64) (hk : k = true ↔ da ≠ db) : DB X st (.Compare a [.NotEq] [b] pos) k st2 := db_cmp (op_neD hu) ha hb (rr_neD h1 h2 l1 l2 hk)
theorem rr_isN (k : Bool) (hk : k = true ↔ d = .non) : RR X.K (fun x y H Q => y = .non ∧ Q (.bl (decide (x = .non))) H) st d .non (.bl k) st := rr_val fun F σ H v u sa rv ru => by
  cases ru.eqv
  refine ⟨.bl k, .v _, fun Q q => ⟨rfl, ?_⟩⟩
  have e : decide (v = .non) = k := by
    rw [Bool.eq_iff_iff, decide_eq_true_iff, hk]
    constructor
    · intro z
      subst z
      cases rv
      rfl
    · intro z
      subst z
      exact rv.eqv
  rw [e]
  exact q
theorem rr_notN (k : Bool) (hk : k = true ↔ d ≠ .non) : RR X.K (fun x y H Q => y = .non ∧ Q (.bl (!decide (x = .non))) H) st d .non (.bl k) st := rr_val fun F σ H v u sa rv ru => by
  cases ru.eqv
  refine ⟨.bl k, .v _, fun Q q => ⟨rfl, ?_⟩⟩
  have e : (!decide (v = .non)) = k := by
    rw [Bool.eq_iff_iff, Bool.not_eq_true', decide_eq_false_iff_not, hk]
    constructor
    · intro z y
      subst y
      exact z rv.eqv
    · intro z y
      subst y
      cases rv
      exact z rfl
  rw [e]
  exact q
/-- x is None -/
theorem de_isN (k : Bool) (hk : k = true ↔ d = .non) (ha : DE X st a d st1) {m : Nat} {pp : Pos} : DE X st (.Compare a [.Is] [.Constant .none m pp] pos) (.bl k) st1 := de_cmp op_isN ha de_non (rr_isN k hk)
theorem db_isN (k : Bool) (hk : k = true ↔ d = .non) (ha : DE X st a d st1) {m : Nat} {pp : Pos} : DB X st (.Compare a [.Is] [.Constant .none m pp] pos) k st1 := db_cmp op_isN ha de_non (rr_isN k hk)
theorem de_notN (k : Bool) (hk : k = true ↔ d ≠ .non) (ha : DE X st a d st1) {m : Nat} {pp : Pos} : DE X st (.Compare a [.IsNot] [.Constant .none m pp] pos) (.bl k) st1 := de_cmp op_notN ha de_non (rr_notN k hk)
theorem db_notN (k : Bool) (hk : k = true ↔ d ≠ .non) (ha : DE X st a d st1) {m : Nat} {pp : Pos} : DB X st (.Compare a [.IsNot] [.Constant .none m pp] pos) k st1 := db_cmp op_notN ha de_non (rr_notN k hk)
/-- == of flat values -/
theorem de_eqS {x y : V} (h : scal x y = true) (ha : DE X st a (.v x) st1) (hb : DE X st1 b (.v y) st2) : DE X st (.Compare a [.Eq] [b] pos) (.bl (decide (x = y))) st2 := de_cmp op_eq ha hb (rr_eqS h)
theorem db_eqS {x y : V} (h : scal x y = true) (ha : DE X st a (.v x) st1) (hb : DE X st1 b (.v y) st2) : DB X st (.Compare a [.Eq] [b] pos) (decide (x = y)) st2 := db_cmp op_eq ha hb (rr_eqS h)
theorem db_neS {x y : V} (h : scal x y = true) (ha : DE X st a (.v x) st1) (hb : DE X st1 b (.v y) st2) : DB X st (.Compare a [.NotEq] [b] pos) (!decide (x = y)) st2 := db_cmp op_ne ha hb (rr_neS h)
end
end DL

namespace DL
open PySem L2 PyProof.Rows
theorem hu_of65 {A : Around} {k : Nat} (hr : Room k A) : A.units + 65 < cLine := by
  have := hr.un
  omega
/-! ### list + list, extend, where a list may be locked -/
def rCatR : R2 := fun x y H Q => ∃ l b xs zs, x = .ref l ∧ y = .ref b ∧ Rd H l (.lst xs) ∧ Rd H b (.lst zs) ∧ xs.length + zs.length ≤ sizeLine ∧ ∀ p, H p = none → Q (.ref p) (upd H p (.lst (xs ++ zs)))
def rExtendR : V → List V → Hp → VK → Prop := fun x vs H Q => ∃ l b xs zs, x = .ref l ∧ vs = [.ref b] ∧ H l = some (.lst xs) ∧ Rd H b (.lst zs) ∧ xs.length + zs.length ≤ sizeLine ∧ Q .non (upd H l (.lst (xs ++ zs)))
section
variable {X : Cx}
theorem inv_rd {pins : List (Addr × Obj)} {σ : L2.St} {H : Hp} {s : Shared} {l : Addr} {xs : List V} (I : Inv X pins σ H s) (hH : Rd H l (.lst xs)) : xs.length ≤ sizeLine ∧ ∃ (its : List Value) (n : Nat), Vals xs its ∧ xs.length = its.length ∧ s.heap.get? l = some { cls := .type "list", data := .seq its.toArray n } := by
  obtain ⟨z, its, n, r, e⟩ := hH.ok I.hok
  exact ⟨z, its, n, r, r.length, e⟩
theorem op_catR : OpR X (binaryOp .Add) rCatR := by
  intro pins s σ H x y v u Q I rx ry h
  obtain ⟨l, b, xs, zs, rfl, rfl, hH, hB, hz, q⟩ := h
  cases rx
  cases ry
  obtain ⟨z, its, n, r, hl, e⟩ := inv_rd I hH
  obtain ⟨z2, its2, n2, r2, hl2, e2⟩ := inv_rd I hB
  refine PySem.P.add_list e e2 ?_ (by rw [List.size_toArray, List.size_toArray]; omega)
  have ea : its.toArray ++ its2.toArray = (its ++ its2).toArray := by simp
  rw [ea]
  exact ⟨.ref _, _, I.lnew (t' := s.toks) (r.append r2) (by rw [List.length_append]; omega), rfl, q _ I.fresh⟩
theorem mt_extendR : MtM X "list.extend" rExtendR := by
  intro pins s σ H x vs v us Q I rx rv h
  obtain ⟨l, b, xs, zs, rfl, rfl, hH, hB, hz, q⟩ := h
  cases rx
  obtain ⟨u, rfl, ru⟩ := rv.one
  cases ru
  obtain ⟨z, its, n, r, hl, e⟩ := I.lstM hH
  obtain ⟨z2, its2, n2, r2, hl2, e2⟩ := inv_rd I hB
  have hsz : its.toArray.size + its2.toArray.size ≤ sizeLine := by rw [List.size_toArray, List.size_toArray]; omega
  have hlong : ¬ (!its.toArray.isEmpty && Builtin.List.listTooLong (its.toArray.size + its2.toArray.size)) = true := by
    rw [notLongL hsz, Bool.and_false]
    exact Bool.false_ne_true
  refine call_meets F.slot_list_extend ⟨_, e, rfl⟩ F.entry_list_extend (F.args_list_extend_2 _ _)
    (AutoSeq1.list_extend_list_list_0 l its.toArray n b its2.toArray n2 hlong (by rw [List.size_toArray]; omega) (by omega)) ⟨e, e2, ?_⟩
  refine ⟨.non, _, I.lset (its' := its ++ its2) hH e (by simp) (r.append r2) ?_, rfl, q⟩
  rw [List.length_append]
  omega
variable {st st1 st2 st3 : SS} {e a b c : Expr} {es : List Expr} {d da db : D} {ds : List D} {p pos : Pos} {i j : Int}
theorem rp_rd {K : PySem.W.Frag} {F : Addr → Prop} {cs : Cs} {H : Hp} {v : V} (r : Rp K (vis F cs H) v (.lst ds)) : ∃ l xs, v = .ref l ∧ Rd H l (.lst xs) ∧ RpAll K (vis F cs H) xs ds := by
  cases r with
  | lst h1 h2 => exact ⟨_, _, rfl, same_rd (hide_le _ _) h1, h2⟩
/-- a + b, data -/
theorem de_cat {xs ys : List D} (ha : DE X st a (.lst xs) st1) (hb : DE X st1 b (.lst ys) st2) (hl : xs.length + ys.length ≤ sizeLine) : DE X st (.BinOp a .Add b pos) (.lst (xs ++ ys)) st2 :=
  de_op op_catR ha hb fun F σ H v u sa rv ru Q q => by
    obtain ⟨l, vs, rfl, h1, r1⟩ := rp_rd rv
    obtain ⟨m, us, rfl, h2, r2⟩ := rp_rd ru
    exact ⟨l, m, vs, us, rfl, rfl, h1, h2, by rw [r1.length, r2.length]; exact hl, fun p hp => q (.ref p) _ (.same (same_new hp)) (sa_new sa hp) (.lst (Rd.of (vis_new sa.ca hp)) ((r1.append r2).same (hide_mono (same_new hp))))⟩
/-- xs.extend(ys), xs a cell, ys data -/
theorem de_extend (j : Nat) {o : Expr} {q : Addr} {xs ys : List D} {apos cpos : Pos} (ho : DE X st o (.ref q) st1) (h1 : ∃ es, st1.cs[j]? = some (q, .lst es)) (ha : DE X st1 e (.lst ys) st2) (h : st2.cs[j]? = some (q, .lst xs)) (hl : xs.length + ys.length ≤ sizeLine)
    (hbase : attributeBase o "extend" X.env (eval o X.env) = eval o X.env := by rfl)
    (hline : (apos.endLine == cpos.line) = true := by rfl) (hs : starEach [e] X.env = (false, eval e X.env) :: starEach [] X.env := by rfl) :
    DE X st (.Call (.Attribute o "extend" apos) [e] [] cpos) .non ⟨st2.sl, st2.cs.set j (q, .lst (xs ++ ys))⟩ := by
  obtain ⟨es, h1⟩ := h1
  refine de_bm PySem.F.plainAttrs_list PySem.F.slot_list_extend PySem.F.type_list_extend mt_extendR ho (ty_cell h1) (da_cons ha da_nil hs) ?_ hbase (by rw [hs] <;> rfl) hline hs (by rfl)
  intro F σ H v vs sa rx rv Q k
  cases rx.eqv
  obtain ⟨y, rfl, ry⟩ := rv.one'
  obtain ⟨xv, hx, rs⟩ := cell_lst sa.ca h
  obtain ⟨l, us, rfl, h2, r2⟩ := rp_rd ry
  exact ⟨q, l, xv, us, rfl, rfl, hx, h2, by rw [rs.length, r2.length]; exact hl, k _ _ (step_put h) (sa.put h ⟨_, rfl, rs.append r2⟩) (.v _)⟩
theorem D.pys_map : ∀ ds : List D, D.pys ds = ds.map D.py
  | [] => rfl
  | d :: ds => by simp only [D.pys, List.map_cons, D.pys_map ds]
theorem D.oks_mem : ∀ {ds : List D}, D.oks ds = true → ∀ d ∈ ds, d.ok = true
  | [], _, _, h => by simp at h
  | e :: ds, h, d, hd => by
    simp only [D.oks, Bool.and_eq_true] at h
    rcases List.mem_cons.mp hd with rfl | z
    · exact h.1
    · exact D.oks_mem h.2 d z
/-- xs.index(y), data: the first place -/
theorem de_index {o : Expr} {xs : List D} {apos cpos : Pos} (k : Nat) (hu : X.A.units + 65 < cLine) (ho : DE X st o (.lst xs) st1) (ha : DE X st1 e d st2) (hk : xs[k]? = some d) (hno : ∀ (m : Nat), m < k → xs[m]? ≠ some d) (h1 : D.oks xs = true) (l1 : D.deps xs ≤ 63)
    (hbase : attributeBase o "index" X.env (eval o X.env) = eval o X.env := by rfl)
    (hline : (apos.endLine == cpos.line) = true := by rfl) (hs : starEach [e] X.env = (false, eval e X.env) :: starEach [] X.env := by rfl) :
    DE X st (.Call (.Attribute o "index" apos) [e] [] cpos) (.int k) st2 := by
  have hd : d.ok = true := D.oks_mem h1 d (List.mem_of_getElem? hk)
  have hdd : d.dep ≤ 63 := by
    have : ∀ (ds : List D), d ∈ ds → d.dep ≤ D.deps ds := by
      intro ds
      induction ds with
      | nil => intro h; simp at h
      | cons e es ih =>
        intro h
        simp only [D.deps]
        rcases List.mem_cons.mp h with rfl | z
        · omega
        · have := ih z
          omega
    have := this xs (List.mem_of_getElem? hk)
    omega
  have hxs : (D.lst xs).ok = true := by simpa only [D.ok] using h1
  refine de_bm PySem.F.plainAttrs_list PySem.F.slot_list_index PySem.F.type_list_index (mt_indexD hu) ho ty_lst (da_cons ha da_nil hs) (rm_val fun F σ H v vs sa rx rv => ?_) hbase (by rw [hs] <;> rfl) hline hs (by rfl)
  obtain ⟨y, rfl, ry⟩ := rv.one'
  obtain ⟨l, us, rfl, h2, r2⟩ := rp_rd rx
  refine ⟨.int k, .v _, fun Q q => ⟨l, y, d.py, D.pys xs, k, d.py, rfl, rfl, ?_, rp_dp (hide_le _ _) d y hd ry, ?_, D.shaped hd (by omega), ?_, (D.eqv d d hd hd).mpr rfl, ?_, q⟩⟩
  · have := rp_dp (hide_le _ _) (.lst xs) _ hxs rx
    simpa only [D.py] using this
  · have := D.shaped hxs (by simp only [D.dep]; omega)
    simpa only [D.py] using this
  · rw [D.pys_map, List.getElem?_map, hk]
    rfl
  · intro m z hm hz
    rw [D.pys_map, List.getElem?_map] at hz
    cases e1 : xs[m]? with
    | none => rw [e1] at hz; cases hz
    | some c =>
      rw [e1] at hz
      cases hz
      have hc : c.ok = true := D.oks_mem h1 c (List.mem_of_getElem? e1)
      rw [Bool.eq_false_iff]
      intro z
      have := (D.eqv c d hc hd).mp z
      subst this
      exact hno m hm e1
end
end DL
namespace DL
open PySem L2 PyProof.Rows
section
variable {X : Cx} {st st1 st2 st3 : SS} {e a b c : Expr} {es : List Expr} {rest : List Stmt} {d da db : D} {ds : List D} {p pos : Pos} {i j : Int} {R : Out}
/-- return [..], a new cell -/
theorem ds_retNew {pl : Pos} (he : DA X st es ds st1) (h : ∀ q, R.rt (.ref q) (st1.cs ++ [(q, .lst ds)])) (hl : ds.length ≤ sizeLine := by first | exact Nat.le_of_ble_eq_true rfl | decide) : DSs X st (.Return (some (.List es pl)) pos :: rest) R :=
  dss_cons (J := fun _ => False) (ds_of (ps_ret (pe_lst he)) fun F σ H E sa q1 q2 q3 q4 q5 => ⟨F, sa, fun vs H1 s1 a1 r1 => ⟨by rw [r1.length]; exact hl, fun q hq => by
    have a2 := a1.add (c := .lst ds) (o := .lst vs) hq ⟨vs, rfl, r1⟩
    exact q2 _ _ _ _ (h q) (s1.trans (step_add hq)) a2.ca (.v _)⟩⟩) fun _ z => z.elim
/-- a, b, c = x, y, z (plain local names) -/
theorem ds_par3 (i j l : Nat) {x y z : Str} {px py pz pt : Pos} {kt k2 pt2} {d1 d2 d3 : D} (nd : X.N.Nodup) (ha : DE X st a d1 st1) (hb : DE X st1 b d2 st2) (hcc : DE X st2 c d3 st3) (h : DSs X ⟨((st3.sl.set i (some d1)).set j (some d2)).set l (some d3), st3.cs⟩ rest R) (hij : i ≠ j := by decide) (hil : i ≠ l := by decide) (hjl : j ≠ l := by decide) (hi : X.N[i]? = some x := by rfl) (hj : X.N[j]? = some y := by rfl) (hl : X.N[l]? = some z := by rfl) (hc : X.calm = true := by rfl)
    (hx : X.env.scope.names.lookup x = some .local := by rfl) (hy : X.env.scope.names.lookup y = some .local := by rfl) (hz : X.env.scope.names.lookup z = some .local := by rfl)
    (sa : starEach [a, b, c] X.env = (false, eval a X.env) :: starEach [b, c] X.env := by rfl) (sb : starEach [b, c] X.env = (false, eval b X.env) :: starEach [c] X.env := by rfl) (sc : starEach [c] X.env = (false, eval c X.env) :: starEach [] X.env := by rfl)
    (hw : swappedStores [.Tuple [.Name x px, .Name y py, .Name z pz] kt pt] (.Tuple [a, b, c] k2 pt2) X.env = pure (some [x, y, z]) := by rfl)
    (hs : swapsWithSole [.Tuple [.Name x px, .Name y py, .Name z pz] kt pt] (.Tuple [a, b, c] k2 pt2) pos.line X.env = pure false := by rfl) : DSs X st (.Assign [.Tuple [.Name x px, .Name y py, .Name z pz] kt pt] (.Tuple [a, b, c] k2 pt2) pos :: rest) R :=
  dss_cons (J := fun s => s = ⟨((st3.sl.set i (some d1)).set j (some d2)).set l (some d3), st3.cs⟩)
    (ds_of (ps_par3 hc nd hi hj hl hij hil hjl hx hy hz (da_cons ha (da_cons hb (da_cons hcc da_nil sc) sb) sa) hw hs) fun F σ H E sa q1 q2 q3 q4 q5 => ⟨F, sa, fun vs H1 s1 a1 r1 => by
      cases r1 with
      | cons r1 r1' =>
        obtain ⟨v2, v3, rfl, r2, r3⟩ := r1'.two
        exact ⟨_, v2, v3, rfl, q1 _ H1 _ rfl s1 (sa_set (sa_set (sa_set a1 r1) r2) r3)⟩⟩) fun _ z => z ▸ h
theorem at_map {α : Type} {f : α → D} {xs : List α} {j : Nat} {x : α} (h : xs[j]? = some x) : atI (xs.map f) (j : Int) = some (f x) := atI_nat (by rw [List.getElem?_map, h]; rfl)
end
end DL

namespace DL
open PySem L2 PyProof.Rows
/-! ### exceptions -/
/-- how a call ends -/
inductive Oc where
  | val (d : D)
  | exc (cls : Value) (fs : List (Str × D))
abbrev RXp := List D → Cs → (D → Cs → Prop) → (Value → List (Str × D) → Cs → Prop) → Prop
def SpX (K : PySem.W.Frag) (R : RXp) : Sp := fun vs H Q E => ∃ F ds cs Po Px, CA K F H cs ∧ RpAll K (vis F cs H) vs ds ∧ R ds cs Po Px ∧
  (∀ v H' d cs', Po d cs' → Step cs H cs' H' → CA K F H' cs' → Rp K (vis F cs' H') v d → Q v H') ∧
  ∀ cls od H' fs cs', Px cls fs cs' → Step cs H cs' H' → CA K F H' cs' → ExAt K (vis F cs' H') od fs → E cls od H'
/-- reads data, hands back data or raises -/
def purX (R : List D → Oc → Prop) : RXp := fun ds cs Po Px => cs = [] ∧ ∃ o, R ds o ∧ Po = (fun d' cs' => o = .val d' ∧ cs' = []) ∧ Px = fun cls fs cs' => o = .exc cls fs ∧ cs' = []
structure KnownX (P : Program) (w : World) (K : PySem.W.Frag) (mg : Str → Option Value) (base : Heap) (x : Str) (k : Nat) (sp : Sp) : Prop where
  ok : ∃ f fd ps, FnOk P w K mg base (L2.CX P w) k f fd ps sp ∧ mg x = some (.ref f) ∧ PySem.W.keepIn K (.ref f) = true ∧ Binds K fd ps []
theorem exAt_same {K : PySem.W.Frag} {G G' : Hp} (e : Same G G') : ∀ {od : Option Addr} {fs : List (Str × D)}, ExAt K G od fs → ExAt K G' od fs
  | _, [], h => h
  | _, _ :: _, ⟨d, fx, h1, h2, h3, h4⟩ => ⟨d, fx, h1, e _ _ h2, h3, h4.same e⟩
section
variable {P : Program} {w : World} {K : PySem.W.Frag} {mg : Str → Option Value} {base : Heap}
/-- the context of the body of a def that may raise -/
abbrev bodyXX (P : Program) (w : World) (K : PySem.W.Frag) (mg : Str → Option Value) (base : Heap) (N : List Str) (qual : Str) (sc : Scope) (f : Addr) (cdv : Value) (A : Around) (outer : List Env) (s : Shared) (H : Hp) (E : XK) : Cx := cxOf (L2.CX P w) P w K mg base N qual sc f cdv A outer s H E
theorem knownX_fn {x qual : Str} {st : Stmt} {ps N : List Str} {k : Nat} {R : RXp} (F : DefAt K mg x qual st ps) (S : FnScope N ps (defScope st)) (len : ∀ ds cs Po Px, R ds cs Po Px → ds.length = ps.length)
    (body : ∀ (f : Addr) (cdv : Value) (A : Around) (outer : List Env) (s : Shared) (H : Hp) (E : XK), Room k (A.deeper (envOfC qual (defScope st) s.heap.objs.size f cdv)) → ∀ ds cs Po Px, R ds cs Po Px →
      DSs (bodyXX P w K mg base N qual (defScope st) f cdv A outer s H E) ⟨ent N ds, cs⟩ (defBody st) ⟨fun st' => ∃ cs'', Po .non cs'' ∧ cs''.Sublist st'.cs, fun d cs' => ∃ cs'', Po d cs'' ∧ cs''.Sublist cs', fun _ => False, fun _ => False, fun cls fs st' => ∃ cs'', Px cls fs cs'' ∧ cs''.Sublist st'.cs, fun cls od _ H' => E cls od H'⟩) :
    KnownX P w K mg base x (k + 1) (SpX K R) := by
  obtain ⟨f, fd, hF, hm, hb⟩ := F.ex
  refine ⟨f, fd, ps, hF.okX S (fun vs H Q E ⟨F, ds, cs, Po, Px, ca, r, h, q, qx⟩ => ?_) (fun cdv A outer s H vs Q E hr ⟨F, ds, cs, Po, Px, ca, r, h, q, qx⟩ => ?_), hm, hF.kp, hb⟩
  · rw [r.length]
    exact len ds cs Po Px h
  · refine ⟨_, body f cdv A outer s H E hr ds cs Po Px h, F, ⟨ca, sl_ent r⟩, ?_, ?_, ?_, ?_, ?_⟩
    · rintro σ' H' st' ⟨cs2, h1, h2⟩ s1 a1
      exact q .non H' .non cs2 h1 (s1.trans (step_drop h2)) (a1.ca.drop h2) (.v _)
    · rintro v H' d cs' ⟨cs2, h1, h2⟩ s1 a1 rv
      exact q v H' d cs2 h1 (s1.trans (step_drop h2)) (a1.drop h2) (rv.same (vis_drop h2))
    · intro _ _ _ z
      exact z.elim
    · intro _ _ _ z
      exact z.elim
    · rintro σ' H' cls od fs st' ⟨cs2, h1, h2⟩ s1 a1 z
      exact qx cls od H' fs cs2 h1 (s1.trans (step_drop h2)) (a1.ca.drop h2) (exAt_same (vis_drop h2) z)
theorem knownX_pur {x qual : Str} {st : Stmt} {ps N : List Str} {k : Nat} {R : List D → Oc → Prop} (F : DefAt K mg x qual st ps) (S : FnScope N ps (defScope st)) (len : ∀ ds o, R ds o → ds.length = ps.length)
    (body : ∀ (f : Addr) (cdv : Value) (A : Around) (outer : List Env) (s : Shared) (H : Hp) (E : XK), Room k (A.deeper (envOfC qual (defScope st) s.heap.objs.size f cdv)) → ∀ ds o, R ds o →
      DSs (bodyXX P w K mg base N qual (defScope st) f cdv A outer s H E) ⟨ent N ds, []⟩ (defBody st) ⟨fun _ => o = .val .non, fun d' _ => o = .val d', fun _ => False, fun _ => False, fun cls fs _ => o = .exc cls fs, fun cls od _ H' => E cls od H'⟩) :
    KnownX P w K mg base x (k + 1) (SpX K (purX R)) := by
  refine knownX_fn F S (fun ds cs Po Px ⟨_, o, h, _⟩ => len ds o h) fun f cdv A outer s H E hr ds cs Po Px ⟨e1, o, h, e2, e3⟩ => ?_
  subst e1 e2 e3
  exact dss_imp (body f cdv A outer s H E hr ds o h) (fun s z => ⟨[], ⟨z, rfl⟩, List.nil_sublist _⟩) (fun d' cs z => ⟨[], ⟨z, rfl⟩, List.nil_sublist _⟩) (fun _ z => z) (fun _ z => z) (fun c fs s z => ⟨[], ⟨z, rfl⟩, List.nil_sublist _⟩) rfl
end
/-- an own exception class -/
structure ExCls (K : PySem.W.Frag) (mg : Str → Option Value) (x : Str) (C : Addr) : Prop where
  g : mg x = some (.ref C)
  k : PySem.W.keepIn K (.ref C) = true
  b : PySem.W.subIn K (.ref C) (.type "BaseException") = some true
  t : PySem.W.typeIn K (.ref C) = some (.type "type")
  d : PySem.W.hasDictIn K C = true
  ga : PySem.W.findIn K (.ref C) "__getattribute__" = some (some (.builtin "BaseException.__getattribute__"))
  gg : PySem.W.findIn K (.ref C) "__getattr__" = some none
  ca : PySem.W.findIn K (.ref C) "__class__" = some (some (.builtin "object.__class__"))
  cn : PySem.W.specialIn K (.builtin "object.__class__") "__get__" = some (some (.builtin "getset_descriptor.__get__"))
  ct : PySem.W.takesIn K (.builtin "object.__class__") = some true
  cm : PySem.W.mroIn K C (.type "object") = some true
theorem ExCls.excC {K : PySem.W.Frag} {mg : Str → Option Value} {x : Str} {C : Addr} (h : ExCls K mg x C) : ExcC K C := ⟨h.ga, h.gg, h.b, h.d, h.ca, h.cn, h.ct, h.cm⟩
theorem ExCls.xf {K : PySem.W.Frag} {mg : Str → Option Value} {x : Str} {C : Addr} (h : ExCls K mg x C) : XfC K C := ⟨h.ga, h.gg, h.b, h.d⟩
theorem ExCls.exm {K : PySem.W.Frag} {mg : Str → Option Value} {x : Str} {C : Addr} (h : ExCls K mg x C) {cls : Value} {b : Bool} (hs : PySem.W.subIn K cls (.ref C) = some b) : PySem.W.exmOne K cls (.ref C) = some b := PySem.W.exm_ref h.b h.d h.t hs
section
variable {X : Cx} {st st1 st2 st3 : SS} {e a b c : Expr} {es : List Expr} {s : Stmt} {ss rest : List Stmt} {d da db : D} {ds : List D} {pos : Pos} {R : Out}
theorem knownX_pe {x : Str} {k : Nat} {t : TA} {sp : Sp} {p : Pos} (G : KnownX X.prog X.w X.K X.mg X.base x k sp) (hr : Room k X.A) (tk : Takes X R.E) (ha : PA X (e :: es) t) (hg : Gl X x := by rfl) (hdb : (x == ("__debug__" : Str)) = false := by decide)
    (he : starEach (e :: es) X.env = (false, eval e X.env) :: starEach es X.env := by rfl) (hpl : (backTo pos (starEach es X.env)).any (·.1) = false := by rfl) : PE X (.Call (.Name x p) (e :: es) [] pos) (tCallS sp (WE R.E) t) := by
  obtain ⟨f, fd, ps, h1, h2, h3, h4⟩ := G.ok
  exact pe_callS h1 hr hg h2 h3 h4 (fun σ => passAt tk σ) ha hdb he hpl
theorem knownX_pe0 {x : Str} {k : Nat} {t : TA} {sp : Sp} {p : Pos} (G : KnownX X.prog X.w X.K X.mg X.base x k sp) (hr : Room k X.A) (ha : PA X (e :: es) t) (hg : Gl X x := by rfl) (hdb : (x == ("__debug__" : Str)) = false := by decide)
    (he : starEach (e :: es) X.env = (false, eval e X.env) :: starEach es X.env := by rfl) (hpl : (backTo pos (starEach es X.env)).any (·.1) = false := by rfl) : PE X (.Call (.Name x p) (e :: es) [] pos) (tCall sp [] E0 t) := by
  obtain ⟨f, fd, ps, h1, h2, h3, h4⟩ := G.ok
  exact pe_call h1 hr hg h2 h3 h4 .nil passL ha hdb he hpl
/-- f(..), a def that may raise but does not here -/
theorem de_callX {x : Str} {k : Nat} {Rf : List D → Oc → Prop} {p : Pos} (G : KnownX X.prog X.w X.K X.mg X.base x k (SpX X.K (purX Rf))) (hr : Room k X.A) (ha : DA X st (e :: es) ds st1) (h : Rf ds (.val d)) (hg : Gl X x := by rfl) (hdb : (x == ("__debug__" : Str)) = false := by decide)
    (he : starEach (e :: es) X.env = (false, eval e X.env) :: starEach es X.env := by rfl) (hpl : (backTo pos (starEach es X.env)).any (·.1) = false := by rfl) : DE X st (.Call (.Name x p) (e :: es) [] pos) d st1 :=
  de_of (knownX_pe0 G hr ha hg hdb he hpl) fun F σ H Q sa q => ⟨F, sa, fun vs H1 s1 a1 r1 => by
    show SpX X.K _ (vs ++ []) H1 Q E0
    rw [List.append_nil]
    refine ⟨_, ds, [], _, _, a1.ca.callee0, ?_, ⟨rfl, .val d, h, rfl, rfl⟩, ?_, ?_⟩
    · rw [vis_nil]
      exact r1
    · rintro v H2 _ _ ⟨e1, rfl⟩ s2 a2 r2
      cases e1
      have sm : Same H1 H2 := fun a o e => s2.1 a o e (by simp [dom])
      rw [vis_nil] at r2
      exact q v H2 (s1.trans (.same sm)) (a1.grow sm) r2
    · rintro cls od H2 fs cs' ⟨e1, _⟩
      cases e1⟩
/-- the reading of a call that may raise -/
theorem callX_read {K : PySem.W.Frag} {Rf : List D → Oc → Prop} {o : Oc} {F : Addr → Prop} {σ : L2.St} {H : Hp} {Q : VK} {E : Value → Option Addr → L2.St → Hp → Prop} (sa : SA K F σ H st) (h : Rf ds o)
    (q : ∀ v d H', o = .val d → Step st.cs H st1.cs H' → SA K F σ H' st1 → Rp K (vis F st1.cs H') v d → Q v H') (qx : ∀ cls od fs H', o = .exc cls fs → Step st.cs H st1.cs H' → SA K F σ H' st1 → ExAt K (vis F st1.cs H') od fs → E cls od σ H') : tCallS (SpX K (purX Rf)) (WE E) (tA K st ds st1) σ H Q :=
  ⟨F, sa, fun vs H1 s1 a1 r1 => by
    refine ⟨_, ds, [], _, _, a1.ca.callee0, ?_, ⟨rfl, o, h, rfl, rfl⟩, ?_, ?_⟩
    · rw [vis_nil]
      exact r1
    · rintro v H2 d _ ⟨e1, rfl⟩ s2 a2 r2
      have sm : Same H1 H2 := fun a o e => s2.1 a o e (by simp [dom])
      rw [vis_nil] at r2
      exact q v d H2 e1 (s1.trans (.same sm)) (a1.grow sm) r2
    · rintro cls od H2 fs cs' ⟨e1, rfl⟩ s2 a2 z
      have sm : Same H1 H2 := fun a o e => s2.1 a o e (by simp [dom])
      rw [vis_nil] at z
      exact qx cls od fs H2 e1 (s1.trans (.same sm)) (a1.grow sm) z⟩
theorem ds_exX {x : Str} {k : Nat} {Rf : List D → Oc → Prop} {o : Oc} {p cpos : Pos} (G : KnownX X.prog X.w X.K X.mg X.base x k (SpX X.K (purX Rf))) (hr : Room k X.A) (tk : Takes X R.E) (ha : DA X st (e :: es) ds st1) (h : Rf ds o) (hv : ∀ d, o = .val d → DSs X st1 rest R) (hx : ∀ cls fs, o = .exc cls fs → R.ex cls fs st1)
    (hg : Gl X x := by rfl) (hdb : (x == ("__debug__" : Str)) = false := by decide) (he : starEach (e :: es) X.env = (false, eval e X.env) :: starEach es X.env := by rfl) (hpl : (backTo cpos (starEach es X.env)).any (·.1) = false := by rfl) (hs : swapsWith (.Call (.Name x p) (e :: es) [] cpos) none pos.line X.env = pure false := by rfl) :
    DSs X st (.Expr (.Call (.Name x p) (e :: es) [] cpos) pos :: rest) R :=
  dss_cons (J := fun s => (∃ d, o = .val d) ∧ s = st1) (ds_of (ps_expr (knownX_pe G hr tk ha hg hdb he hpl) hs) fun F σ H E sa q1 q2 q3 q4 q5 =>
    callX_read sa h (fun v d H' e1 s1 a1 r1 => q1 _ H' _ ⟨⟨d, e1⟩, rfl⟩ s1 a1) fun cls od fs H' e1 s1 a1 z => q5 _ H' cls od fs st1 (hx cls fs e1) s1 a1 z) fun _ ⟨⟨d, e1⟩, z⟩ => z ▸ hv d e1
theorem ds_asgX (i : Nat) {x f : Str} {px p : Pos} {k : Nat} {Rf : List D → Oc → Prop} {o : Oc} {cpos : Pos} (nd : X.N.Nodup) (G : KnownX X.prog X.w X.K X.mg X.base f k (SpX X.K (purX Rf))) (hr : Room k X.A) (tk : Takes X R.E) (ha : DA X st (e :: es) ds st1) (h : Rf ds o) (hv : ∀ d, o = .val d → DSs X ⟨st1.sl.set i (some d), st1.cs⟩ rest R) (hx : ∀ cls fs, o = .exc cls fs → R.ex cls fs st1)
    (hg : Gl X f := by rfl) (hdb : (f == ("__debug__" : Str)) = false := by decide) (he : starEach (e :: es) X.env = (false, eval e X.env) :: starEach es X.env := by rfl) (hpl : (backTo cpos (starEach es X.env)).any (·.1) = false := by rfl) (hi : X.N[i]? = some x := by rfl) (hl : Loc X.env.scope x := by first | exact Or.inl rfl | exact Or.inr rfl)
    (hs : swapsWith (.Call (.Name f p) (e :: es) [] cpos) (some (.Name x px)) pos.line X.env = pure false := by rfl) (hf : X.fn x = true ∨ X.env.scope.names.lookup x = some .local := by first | exact .inl rfl | exact .inr rfl) : DSs X st (.Assign [.Name x px] (.Call (.Name f p) (e :: es) [] cpos) pos :: rest) R :=
  dss_cons (J := fun s => ∃ d, o = .val d ∧ s = ⟨st1.sl.set i (some d), st1.cs⟩) (ds_of (ps_set nd hi hl (knownX_pe G hr tk ha hg hdb he hpl) hs hf) fun F σ H E sa q1 q2 q3 q4 q5 =>
    callX_read sa h (fun v d H' e1 s1 a1 r1 => q1 _ H' _ ⟨d, e1, rfl⟩ s1 (sa_set a1 r1)) fun cls od fs H' e1 s1 a1 z => q5 _ H' cls od fs st1 (hx cls fs e1) s1 a1 z) fun _ ⟨d, e1, z⟩ => z ▸ hv d e1
theorem ds_retX {x : Str} {k : Nat} {Rf : List D → Oc → Prop} {o : Oc} {p cpos : Pos} (G : KnownX X.prog X.w X.K X.mg X.base x k (SpX X.K (purX Rf))) (hr : Room k X.A) (tk : Takes X R.E) (ha : DA X st (e :: es) ds st1) (h : Rf ds o) (hv : ∀ d, o = .val d → R.rt d st1.cs) (hx : ∀ cls fs, o = .exc cls fs → R.ex cls fs st1)
    (hg : Gl X x := by rfl) (hdb : (x == ("__debug__" : Str)) = false := by decide) (he : starEach (e :: es) X.env = (false, eval e X.env) :: starEach es X.env := by rfl) (hpl : (backTo cpos (starEach es X.env)).any (·.1) = false := by rfl) :
    DSs X st (.Return (some (.Call (.Name x p) (e :: es) [] cpos)) pos :: rest) R :=
  dss_cons (J := fun _ => False) (ds_of (ps_ret (knownX_pe G hr tk ha hg hdb he hpl)) fun F σ H E sa q1 q2 q3 q4 q5 =>
    callX_read sa h (fun v d H' e1 s1 a1 r1 => q2 v H' d st1.cs (hv d e1) s1 a1.ca r1) fun cls od fs H' e1 s1 a1 z => q5 _ H' cls od fs st1 (hx cls fs e1) s1 a1 z) fun _ z => z.elim
/-- raise X('..'), X without an own __init__ -/
theorem ds_raise0 {x m : Str} {j : Nat} {p p2 cpos : Pos} {C : Addr} {bmB : List Value} {B newId initId : String} (F : ExcBaseFacts B newId initId bmB) (q : PySem.W.excIn X.K C bmB newId = true) (T : ExCls X.K X.mg x C) (tk : Takes X R.E) (h : R.ex (.ref C) [] st) (hc : X.calm = true := by rfl) (hg : Gl X x := by rfl) (hdb : (x == ("__debug__" : Str)) = false := by decide) :
    DSs X st (.Raise (some (.Call (.Name x p) [.Constant (.str m) j p2] [] cpos)) none pos :: rest) R :=
  dss_cons (J := fun _ => False) (ds_of (ps_raise hc tk (pmk_own F q T.g T.k (raises_own T.b T.t) hg hdb)) fun F σ H E sa q1 q2 q3 q4 q5 => q5 _ H _ none [] st h (.refl _ _) sa rfl) fun _ z => z.elim
/-- try: body, except x as n: suite. exB: what the body may raise; J: what then stands -/
theorem ds_try (i : Nat) (J : SS → Prop) (exB : Value → List (Str × D) → SS → Prop) {x n : Str} {cl : Value} {body suite : List Stmt} {b₀ : Stmt} {np pos' : Pos} (nd : X.N.Nodup) (hc : Names X x cl) (tk : Takes X R.E)
    (hb : ∀ (W : WX) (pn : List (Addr × Obj)) (xe : Value → Shared → Prop), Takes (X.tr pn xe) W → PassesOwn (model X.prog X.w) X.A X.env xe → DSs (X.tr pn xe) st body ⟨J, R.rt, R.bk, R.ct, exB, W⟩)
    (hsu : ∀ cls fs st1, exB cls fs st1 → ∃ m, PySem.W.exmOne X.K cls cl = some m ∧ (m = true → ∀ (a : Addr) (oe : Obj) (od : Option Addr) (pn : List (Addr × Obj)), Zc cls od oe → (∃ vs, oe.data = .fields vs) → (fs = [] → od = none) → DSs (X.suite a ((a, oe) :: pn)) ⟨st1.sl.set i (some (.ref a)), st1.cs⟩ (b₀ :: suite) ⟨fun s => J ⟨s.sl.set i none, s.cs⟩, R.rt, fun s => R.bk ⟨s.sl.set i none, s.cs⟩, fun s => R.ct ⟨s.sl.set i none, s.cs⟩, fun _ _ _ => False, fun _ _ _ _ => False⟩) ∧ (m = false → R.ex cls fs st1))
    (hr : ∀ s, J s → DSs X s rest R) (hs : X.stack = X.env :: X.outer := by rfl) (hf : X.env.frame = some X.env.locals := by rfl) (hi : X.N[i]? = some n := by rfl) (hln : X.env.kindOf n = some .local := by rfl) :
    DSs X st (.Try body [.ExceptHandler (some (.Name x np)) (some n) (b₀ :: suite) pos'] [] [] pos :: rest) R := by
  refine dss_cons (J := J) ?_ hr
  let Cs' : (SS × Out) → Addr → Value → Option Addr → Prop := fun p a cls d => ∀ (oe : Obj) (pn : List (Addr × Obj)), Zc cls d oe → (∃ vs, oe.data = .fields vs) → DSs (X.suite a ((a, oe) :: pn)) p.1 (b₀ :: suite) p.2
  refine ds_of (ps_try_as (i := i) (tb := fun W => tS X.K st ⟨J, R.rt, R.bk, R.ct, exB, W⟩) (ts := fun a cls d E σ H => ∃ p, Cs' p a cls d ∧ tS X.K p.1 p.2 E σ H) hs hf nd hi hln hc tk hb
    (fun a oe cls d pn hz hv => pss_ex (C := fun p => Cs' p a cls d) fun p hp => hp oe pn hz hv)) fun F σ H E sa q1 q2 q3 q4 q5 => ?_
  refine ⟨F, sa, q1, q2, q3, q4, fun σ' H' cls od fs st1 hx s1 a1 z => ?_⟩
  obtain ⟨m, hm, ht, hfl⟩ := hsu cls fs st1 hx
  refine ⟨m, hm, fun em a ha => ?_, fun em => q5 σ' H' cls od fs st1 (hfl em) s1 a1 z⟩
  refine ⟨⟨⟨st1.sl.set i (some (.ref a)), st1.cs⟩, _⟩, fun oe pn hz hv => ht em a oe od pn hz hv (fun e => by subst e; exact z), F, sa_set a1 (.v _), ?_, ?_, ?_, ?_, ?_⟩
  · intro σ2 H2 st2 j s2 a2
    exact q1 _ H2 _ j (s1.trans s2) ⟨a2.ca, a2.slots.none⟩
  · intro v H2 d cs' r s2 a2 rv
    exact q2 v H2 d cs' r (s1.trans s2) a2 rv
  · intro σ2 H2 st2 j s2 a2
    exact q3 _ H2 _ j (s1.trans s2) ⟨a2.ca, a2.slots.none⟩
  · intro σ2 H2 st2 j s2 a2
    exact q4 _ H2 _ j (s1.trans s2) ⟨a2.ca, a2.slots.none⟩
  · intro _ _ _ _ _ _ z
    exact z.elim
/-- isinstance(e, C), e caught -/
theorem de_isE {D' a : Addr} {oe : Obj} {pn : List (Addr × Obj)} {C : Addr} {k : Bool} {T : Str} {p pt : Pos} {ea : Expr} (TC : ExcC X.K D') (hz : Zc (.ref D') none oe) (hf : ∃ vs, oe.data = .fields vs) (hm : X.mg "isinstance" = none) (ha : DE (X.suite a ((a, oe) :: pn)) st ea (.ref a) st1) (gT : X.mg T = some (.ref C)) (hk : PySem.W.kitOne X.K (.ref D') (.ref C) = some k)
    (hg : Gl (X.suite a ((a, oe) :: pn)) "isinstance" := by rfl) (hgT : Gl (X.suite a ((a, oe) :: pn)) T := by rfl) (hdT : (T == ("__debug__" : Str)) = false := by decide) (e1 : starEach [ea, .Name T pt] X.env = (false, eval ea X.env) :: starEach [.Name T pt] X.env := by rfl) (e2 : starEach [.Name T pt] X.env = (false, eval (.Name T pt) X.env) :: starEach [] X.env := by rfl) (hpl : (backTo pos (starEach [.Name T pt] X.env)).any (·.1) = false := by rfl) :
    DE (X.suite a ((a, oe) :: pn)) st (.Call (.Name "isinstance" p) [ea, .Name T pt] [] pos) (.bl k) st1 :=
  de_callB (call_isE TC hz hf) hm (by decide +kernel) (da_cons ha (da_cons (d := .ref C) (de_c (pe_glob hgT gT rfl hdT)) da_nil e2) e1) (rc_val fun F σ H vs sa r => by
    obtain ⟨v, u, rfl, rv, ru⟩ := r.two
    cases rv.eqv
    cases ru.eqv
    exact ⟨.bl k, .v _, fun Q q => ⟨.ref C, .ref C, k, rfl, fun u hu => hu, hk, q⟩⟩) hg (by decide) (by decide) e1 hpl
end
end DL

namespace DL
open PySem L2 PyProof.Rows PySem.Spec
/-- a class's place -/
def clA (mg : Str → Option Value) (x : Str) : Addr := match mg x with
  | some (.ref C) => C
  | _ => 0
theorem clA_of {mg : Str → Option Value} {x : Str} {C : Addr} (h : mg x = some (.ref C)) : clA mg x = C := by
  unfold clA
  rw [h]
/-! ### cells in another order, cells set apart for a call -/
section
variable {K : PySem.W.Frag} {F : Addr → Prop} {H H' : Hp} {cs cs' ps ps' ks : Cs} {st : SS} {σ : L2.St}
theorem perm_dom (h : cs.Perm cs') (a : Addr) : a ∈ dom cs ↔ a ∈ dom cs' := (h.map _).mem_iff
theorem vis_perm (h : cs.Perm cs') : vis F cs H = vis F cs' H := vis_congr fun a => by rw [perm_dom h]
theorem CA.perm (a : CA K F H cs) (h : cs.Perm cs') : CA K F H cs' := by
  refine ⟨fun p hp => ?_, (h.map _).nodup_iff.mp a.nd, fun b hb => ⟨(a.fr b hb).1, fun z => (a.fr b hb).2 ((perm_dom h b).mpr z)⟩⟩
  have := a.cells p (h.mem_iff.mpr hp)
  rw [vis_perm h] at this
  exact this
theorem step_perm (h : cs.Perm cs') : Step cs H cs' H := ⟨fun _ _ e _ => e, fun a ha => .inl ((perm_dom h a).mpr ha)⟩
theorem SA.perm (a : SA K F σ H st) (h : st.cs.Perm cs') : SA K F σ H ⟨st.sl, cs'⟩ := ⟨a.ca.perm h, by
  have := a.slots
  rw [vis_perm h] at this
  exact this⟩
theorem dom_app {b : Addr} : b ∈ dom (ps ++ ks) ↔ b ∈ dom ps ∨ b ∈ dom ks := by simp [dom]
theorem vis_G : vis (fun b => F b ∨ b ∈ dom ks) ps H = vis F (ps ++ ks) H := vis_congr fun b => by
  rw [dom_app, or_assoc, or_comm (a := b ∈ dom ks)]
theorem dom_disj (nd : (dom (ps ++ ks)).Nodup) {b : Addr} (h1 : b ∈ dom ps) (h2 : b ∈ dom ks) : False := by
  unfold dom at nd h1 h2
  rw [List.map_append, List.nodup_append] at nd
  exact nd.2.2 b h1 b h2 rfl
theorem CA.calleeG (a : CA K F H (ps ++ ks)) : CA K (fun b => F b ∨ b ∈ dom ks) H ps where
  cells := fun p hp => by
    have := a.cells p (List.mem_append.mpr (.inl hp))
    rw [← vis_G] at this
    exact this
  nd := by
    have := a.nd
    unfold dom at this
    rw [List.map_append, List.nodup_append] at this
    exact this.1
  fr := fun b hb => by
    rcases hb with hb | hb
    · exact ⟨(a.fr b hb).1, fun z => (a.fr b hb).2 (dom_app.mpr (.inl z))⟩
    · obtain ⟨q, hq, e⟩ := List.mem_map.mp hb
      obtain ⟨o, ho, _⟩ := a.cells q (List.mem_append.mpr (.inr hq))
      refine ⟨by rw [← e, ho]; simp, fun z => dom_disj a.nd z hb⟩
theorem CA.backG (a : CA K F H (ps ++ ks)) (s : Step ps H ps' H') (b : CA K (fun b => F b ∨ b ∈ dom ks) H' ps') : CA K F H' (ps' ++ ks) ∧ Step (ps ++ ks) H (ps' ++ ks) H' := by
  have st : Step (ps ++ ks) H (ps' ++ ks) H' := ⟨fun x o e hn => s.1 x o e fun z => hn (dom_app.mpr (.inl z)), fun x hx => by
    rcases dom_app.mp hx with z | z
    · rcases s.2 x z with y | y
      · exact .inl (dom_app.mpr (.inl y))
      · exact .inr y
    · exact .inl (dom_app.mpr (.inr z))⟩
  refine ⟨⟨fun q hq => ?_, ?_, fun x hx => ?_⟩, st⟩
  · rcases List.mem_append.mp hq with z | z
    · have := b.cells q z
      rw [vis_G] at this
      exact this
    · obtain ⟨o, ho, r⟩ := a.cells q (List.mem_append.mpr (.inr z))
      exact ⟨o, s.1 _ _ ho fun y => dom_disj a.nd y (List.mem_map.mpr ⟨q, z, rfl⟩), r.same st.vis⟩
  · unfold dom
    rw [List.map_append, List.nodup_append]
    have nk := a.nd
    unfold dom at nk
    rw [List.map_append, List.nodup_append] at nk
    refine ⟨b.nd, nk.2.1, ?_⟩
    rintro y hy z hz rfl
    exact (b.fr y (.inr hz)).2 hy
  · refine ⟨(b.fr x (.inl hx)).1, fun z => ?_⟩
    rcases dom_app.mp z with y | y
    · exact (b.fr x (.inl hx)).2 y
    · exact (a.fr x hx).2 (dom_app.mpr (.inr y))
end
section
variable {X : Cx} {st st1 st2 st3 : SS} {e a b : Expr} {es : List Expr} {s : Stmt} {ss rest : List Stmt} {d da db : D} {ds : List D} {pos : Pos} {R : Out}
theorem dss_perm {cs' : Cs} (h : st.cs.Perm cs') (k : DSs X ⟨st.sl, cs'⟩ ss R) : DSs X st ss R := dss_re (fun F σ H sa => ⟨sa.perm h, step_perm h⟩) k
theorem callG_read {K : PySem.W.Frag} {Rf : RSp} {P : D → Cs → Prop} {ps ks : Cs} {F : Addr → Prop} {σ : L2.St} {H : Hp} {Q : VK} (sa : SA K F σ H st) (hp : st1.cs.Perm (ps ++ ks)) (h : Rf ds ps P)
    (q : ∀ v d cs' H', P d cs' → Step st.cs H (cs' ++ ks) H' → SA K F σ H' ⟨st1.sl, cs' ++ ks⟩ → Rp K (vis F (cs' ++ ks) H') v d → Q v H') : tCall (SpN K Rf) [] E0 (tA K st ds st1) σ H Q :=
  ⟨F, sa, fun vs H1 s1 a1 r1 => by
    show SpN K _ (vs ++ []) H1 Q E0
    rw [List.append_nil]
    have ap := a1.perm hp
    refine ⟨_, ds, ps, P, ap.ca.calleeG, ?_, h, ?_⟩
    · rw [vis_G, ← vis_perm hp]
      exact r1
    · intro v H2 d cs' hP s2 a2 r2
      obtain ⟨b1, b2⟩ := ap.ca.backG s2 a2
      rw [vis_G] at r2
      exact q v d cs' H2 hP ((s1.trans (step_perm hp)).trans b2) ⟨b1, ap.slots.same b2.vis⟩ r2⟩
theorem callGX_read {K : PySem.W.Frag} {Rf : RXp} {Po : D → Cs → Prop} {Px : Value → List (Str × D) → Cs → Prop} {ps ks : Cs} {F : Addr → Prop} {σ : L2.St} {H : Hp} {Q : VK} {E : Value → Option Addr → L2.St → Hp → Prop} (sa : SA K F σ H st) (hp : st1.cs.Perm (ps ++ ks)) (h : Rf ds ps Po Px)
    (q : ∀ v d cs' H', Po d cs' → Step st.cs H (cs' ++ ks) H' → SA K F σ H' ⟨st1.sl, cs' ++ ks⟩ → Rp K (vis F (cs' ++ ks) H') v d → Q v H')
    (qx : ∀ cls od fs cs' H', Px cls fs cs' → Step st.cs H (cs' ++ ks) H' → SA K F σ H' ⟨st1.sl, cs' ++ ks⟩ → ExAt K (vis F (cs' ++ ks) H') od fs → E cls od σ H') : tCallS (SpX K Rf) (WE E) (tA K st ds st1) σ H Q :=
  ⟨F, sa, fun vs H1 s1 a1 r1 => by
    have ap := a1.perm hp
    refine ⟨_, ds, ps, Po, Px, ap.ca.calleeG, ?_, h, ?_, ?_⟩
    · rw [vis_G, ← vis_perm hp]
      exact r1
    · intro v H2 d cs' hP s2 a2 r2
      obtain ⟨b1, b2⟩ := ap.ca.backG s2 a2
      rw [vis_G] at r2
      exact q v d cs' H2 hP ((s1.trans (step_perm hp)).trans b2) ⟨b1, ap.slots.same b2.vis⟩ r2
    · intro cls od H2 fs cs' hP s2 a2 z
      obtain ⟨b1, b2⟩ := ap.ca.backG s2 a2
      rw [vis_G] at z
      exact qx cls od fs cs' H2 hP ((s1.trans (step_perm hp)).trans b2) ⟨b1, ap.slots.same b2.vis⟩ z⟩
/-- f(..), cells ps handed in, ks not -/
theorem de_callG (ps ks cs2 : Cs) {x : Str} {k : Nat} {Rf : RSp} {P : D → Cs → Prop} {p : Pos} (G : Known X.prog X.w X.K X.mg X.base x k (SpN X.K Rf)) (hr : Room k X.A) (ha : DA X st (e :: es) ds st1) (hp : st1.cs.Perm (ps ++ ks)) (h : Rf ds ps P) (hP : ∀ d' cs', P d' cs' → d' = d ∧ (cs' ++ ks).Perm cs2) (hg : Gl X x := by rfl) (hdb : (x == ("__debug__" : Str)) = false := by decide)
    (he : starEach (e :: es) X.env = (false, eval e X.env) :: starEach es X.env := by rfl) (hpl : (backTo pos (starEach es X.env)).any (·.1) = false := by rfl) : DE X st (.Call (.Name x p) (e :: es) [] pos) d ⟨st1.sl, cs2⟩ :=
  de_of (known_pe G hr ha hg hdb he hpl) fun F σ H Q sa q => callG_read sa hp h fun v d' cs' H' h1 s1 a1 r1 => by
    obtain ⟨rfl, pm⟩ := hP d' cs' h1
    refine q v H' (s1.trans (step_perm pm)) (a1.perm pm) ?_
    rw [← vis_perm pm]
    exact r1
theorem ds_asgG (i : Nat) (ps ks : Cs) {x f : Str} {px p : Pos} {k : Nat} {Rf : RSp} {P : D → Cs → Prop} {cpos : Pos} (nd : X.N.Nodup) (G : Known X.prog X.w X.K X.mg X.base f k (SpN X.K Rf)) (hr : Room k X.A) (ha : DA X st (e :: es) ds st1) (hp : st1.cs.Perm (ps ++ ks)) (h : Rf ds ps P)
    (hv : ∀ d cs', P d cs' → DSs X ⟨st1.sl.set i (some d), cs' ++ ks⟩ rest R) (hg : Gl X f := by rfl) (hdb : (f == ("__debug__" : Str)) = false := by decide)
    (he : starEach (e :: es) X.env = (false, eval e X.env) :: starEach es X.env := by rfl) (hpl : (backTo cpos (starEach es X.env)).any (·.1) = false := by rfl) (hi : X.N[i]? = some x := by rfl) (hx : Loc X.env.scope x := by first | exact Or.inl rfl | exact Or.inr rfl)
    (hs : swapsWith (.Call (.Name f p) (e :: es) [] cpos) (some (.Name x px)) pos.line X.env = pure false := by rfl) (hf : X.fn x = true ∨ X.env.scope.names.lookup x = some .local := by first | exact .inl rfl | exact .inr rfl) : DSs X st (.Assign [.Name x px] (.Call (.Name f p) (e :: es) [] cpos) pos :: rest) R :=
  dss_cons (J := fun s => ∃ d cs', P d cs' ∧ s = ⟨st1.sl.set i (some d), cs' ++ ks⟩)
    (ds_of (ps_set nd hi hx (known_pe G hr ha hg hdb he hpl) hs hf) fun F σ H E sa q1 q2 q3 q4 q5 => callG_read sa hp h fun v d cs' H' h1 s1 a1 r1 => q1 _ H' _ ⟨d, cs', h1, rfl⟩ s1 (sa_set a1 r1)) fun _ ⟨d, cs', h1, z⟩ => z ▸ hv d cs' h1
theorem ds_retG (ps ks : Cs) {x : Str} {k : Nat} {Rf : RSp} {P : D → Cs → Prop} {p cpos : Pos} (G : Known X.prog X.w X.K X.mg X.base x k (SpN X.K Rf)) (hr : Room k X.A) (ha : DA X st (e :: es) ds st1) (hp : st1.cs.Perm (ps ++ ks)) (h : Rf ds ps P) (hv : ∀ d cs', P d cs' → R.rt d (cs' ++ ks))
    (hg : Gl X x := by rfl) (hdb : (x == ("__debug__" : Str)) = false := by decide) (he : starEach (e :: es) X.env = (false, eval e X.env) :: starEach es X.env := by rfl) (hpl : (backTo cpos (starEach es X.env)).any (·.1) = false := by rfl) : DSs X st (.Return (some (.Call (.Name x p) (e :: es) [] cpos)) pos :: rest) R :=
  dss_cons (J := fun _ => False) (ds_of (ps_ret (known_pe G hr ha hg hdb he hpl)) fun F σ H E sa q1 q2 q3 q4 q5 => callG_read sa hp h fun v d cs' H' h1 s1 a1 r1 => q2 v H' d _ (hv d cs' h1) s1 a1.ca r1) fun _ z => z.elim
theorem takes_never {X : Cx} : Takes X (fun _ _ _ _ => False) := fun _ _ ⟨_, _, _, _, _, _, _, _, _, _, _, _, _, _, _, _, w⟩ => w.elim
/-! ### targets -/
theorem pgs_imp {t t' : TGs} (h : PGs X es t) (i : ∀ vs σ H Q, t' vs σ H Q → t vs σ H Q) : PGs X es t' := ⟨fun pins s σ H vs us Q I r q => h.run pins s σ H vs us Q I r (i _ _ _ _ q)⟩
def tTs (K : PySem.W.Frag) (ds : List D) (st st' : SS) : TGs := fun vs σ H Q => ∃ F, SA K F σ H st ∧ RpAll K (vis F st.cs H) vs ds ∧ ∀ σ' H', Step st.cs H st'.cs H' → SA K F σ' H' st' → Q σ' H'
def DGs (X : Cx) (es : List Expr) (ds : List D) (st st' : SS) : Prop := PGs X es (tTs X.K ds st st')
theorem dgs_nil : DGs X [] [] st st := pgs_imp pgs_nil fun vs σ H Q ⟨F, sa, r, q⟩ => by
  cases r
  exact ⟨rfl, q _ H (.refl _ _) sa⟩
theorem dgs_cons (h1 : DG X e d st st1) (h2 : DGs X es ds st1 st2) (hs : (assignEach (e :: es) X.env).map (·.2) = assign e X.env :: (assignEach es X.env).map (·.2) := by rfl) : DGs X (e :: es) (d :: ds) st st2 :=
  pgs_imp (pgs_cons h1 h2 hs) fun vs σ H Q ⟨F, sa, r, q⟩ => by
    cases r with
    | cons r1 r2 => exact ⟨_, _, rfl, F, sa, r1, fun σ1 H1 s1 a1 => ⟨F, a1, r2.same s1.vis, fun σ2 H2 s2 a2 => q σ2 H2 (s1.trans s2) a2⟩⟩
theorem dg_tup {k : Nat} (h : DGs X es ds st st1) (hc : X.calm = true := by rfl) (hn : (assignEach es X.env).length = ds.length := by rfl) (hst : (assignEach es X.env).findIdx? (·.1) = none := by rfl) : DG X (.Tuple es k pos) (.tup ds) st st1 :=
  pg_imp (pg_tup hc h hn hst) fun v σ H Q ⟨F, sa, r, q⟩ => by
    cases r with
    | tup r1 r2 => exact ⟨_, _, rfl, same_t (hide_le _ _) r1, r2.length, F, sa, r2, q⟩
/-- a target, a value -/
theorem ds_asgP {tg : Expr} (he : DE X st e d st1) (hg : DG X tg d st1 st2) (h : DSs X st2 rest R) (hs : swapsWithSole [tg] e pos.line X.env = pure false := by rfl) (hw : swappedStores [tg] e X.env = pure none := by rfl)
    (h1 : (assignEach [tg] X.env).map (·.2) = [assign tg X.env] := by rfl) : DSs X st (.Assign [tg] e pos :: rest) R :=
  dss_cons (J := fun s => s = st2) (ds_of (ps_asg he hg hs hw h1) fun F σ H E sa q1 q2 q3 q4 q5 => ⟨F, sa, fun v H1 s1 a1 r1 => ⟨F, a1, r1, fun σ2 H2 s2 a2 => q1 σ2 H2 _ rfl (s1.trans s2) a2⟩⟩) fun _ z => z ▸ h
/-- a cell compared -/
theorem rr_eqC (j : Nat) {p : Addr} {k : Bool} (hc : st.cs[j]? = some (p, .lst ds)) (h1 : D.oks ds = true) (h2 : db.ok = true) (l1 : D.deps ds ≤ 63) (l2 : db.dep ≤ 64) (hk : k = true ↔ .lst ds = db) : RR X.K (rEqD X.K) st (.ref p) db (.bl k) st := rr_val fun F σ H v u sa rv ru => by
  have h1' : (D.lst ds).ok = true := by simpa only [D.ok] using h1
  have l1' : (D.lst ds).dep ≤ 64 := by simp only [D.dep]; omega
  cases rv.eqv
  obtain ⟨xs, hx, rs⟩ := cell_lst sa.ca hc
  have e : PyData.eqv (D.lst ds).py db.py = k := by
    rw [Bool.eq_iff_iff, hk]
    exact D.eqv (.lst ds) db h1' h2
  exact ⟨.bl k, .v _, fun Q q => ⟨(D.lst ds).py, db.py, .lst (.inl (Rd.of hx)) (rp_dps (hide_le _ _) ds xs h1 rs), rp_dp (hide_le _ _) db u h2 ru, D.shaped h1' l1', D.shaped h2 l2, by rw [e]; exact q⟩⟩
theorem rr_neC (j : Nat) {p : Addr} {k : Bool} (hc : st.cs[j]? = some (p, .lst ds)) (h1 : D.oks ds = true) (h2 : db.ok = true) (l1 : D.deps ds ≤ 63) (l2 : db.dep ≤ 64) (hk : k = true ↔ .lst ds ≠ db) : RR X.K (rNeD X.K) st (.ref p) db (.bl k) st := rr_val fun F σ H v u sa rv ru => by
  have h1' : (D.lst ds).ok = true := by simpa only [D.ok] using h1
  have l1' : (D.lst ds).dep ≤ 64 := by simp only [D.dep]; omega
  cases rv.eqv
  obtain ⟨xs, hx, rs⟩ := cell_lst sa.ca hc
  have e : (!PyData.eqv (D.lst ds).py db.py) = k := by
    rw [Bool.eq_iff_iff, hk, Bool.not_eq_true', ← Bool.not_eq_true, Ne, D.eqv (.lst ds) db h1' h2]
  exact ⟨.bl k, .v _, fun Q q => ⟨(D.lst ds).py, db.py, .lst (.inl (Rd.of hx)) (rp_dps (hide_le _ _) ds xs h1 rs), rp_dp (hide_le _ _) db u h2 ru, D.shaped h1' l1', D.shaped h2 l2, by rw [e]; exact q⟩⟩
theorem db_eqC (j : Nat) {p : Addr} (k : Bool) (hu : X.A.units + 64 < cLine) (ha : DE X st a (.ref p) st1) (hb : DE X st1 b db st2) (hc : st2.cs[j]? = some (p, .lst ds)) (h1 : D.oks ds = true) (h2 : db.ok = true) (l1 : D.deps ds ≤ 63) (l2 : db.dep ≤ 64) (hk : k = true ↔ .lst ds = db) : DB X st (.Compare a [.Eq] [b] pos) k st2 := db_cmp (op_eqD hu) ha hb (rr_eqC j hc h1 h2 l1 l2 hk)
theorem db_neC (j : Nat) {p : Addr} (k : Bool) (hu : X.A.units + 64 < cLine) (ha : DE X st a (.ref p) st1) (hb : DE X st1 b db st2) (hc : st2.cs[j]? = some (p, .lst ds)) (h1 : D.oks ds = true) (h2 : db.ok = true) (l1 : D.deps ds ≤ 63) (l2 : db.dep ≤ 64) (hk : k = true ↔ .lst ds ≠ db) : DB X st (.Compare a [.NotEq] [b] pos) k st2 := db_cmp (op_neD hu) ha hb (rr_neC j hc h1 h2 l1 l2 hk)
/-- // by any divisor but 0 below 2 ^ 9000 -/
def CDivG (_ j : Int) : Prop := j ≠ 0 ∧ j.natAbs.log2 < 9000
theorem op_fdivG : OpR X (binaryOp .FloorDiv) (rI CDivG fun i j => .int (i.fdiv j)) := opI fun i j _ _ _ _ _ hc q => floordiv_int hc.1 q (.inl (PyProof.noPylong_of_log2 hc.2))
theorem de_divG {i j : Int} (ha : DE X st a (.int i) st1) (hb : DE X st1 b (.int j) st2) (h : CDivG i j) : DE X st (.BinOp a .FloorDiv b pos) (.int (i.fdiv j)) st2 := de_op op_fdivG ha hb (rr_I h)
end
end DL

namespace DL
open PySem L2 PyProof.Rows
mutual
/-- data with bools, without references -/
def D.plain : D → Bool
  | .v .non => true
  | .v (.bl _) => true
  | .v (.int _) => true
  | .v (.str _) => true
  | .v _ => false
  | .tup ds => D.plains ds
  | .lst ds => D.plains ds
  | .klst _ => false
def D.plains : List D → Bool
  | [] => true
  | d :: ds => D.plain d && D.plains ds
end
mutual
/-- the greatest length in it -/
def D.wide : D → Nat
  | .v _ => 0
  | .tup ds => max ds.length (D.wides ds)
  | .lst ds => max ds.length (D.wides ds)
  | .klst ds => max ds.length (D.wides ds)
def D.wides : List D → Nat
  | [] => 0
  | d :: ds => max (D.wide d) (D.wides ds)
end
theorem D.plain_ty {d : D} (h : d.plain = true) : d.ty ≠ "" := by
  cases d with
  | v x => cases x <;> first | (simp [D.plain] at h; done) | (simp only [D.ty]; decide)
  | tup ds => simp only [D.ty]; decide
  | lst ds => simp only [D.ty]; decide
  | klst ds => simp [D.plain] at h
theorem D.plains_mem : ∀ {ds : List D}, D.plains ds = true → ∀ d ∈ ds, d.plain = true
  | [], _, _, h => by simp at h
  | e :: ds, h, d, hd => by
    simp only [D.plains, Bool.and_eq_true] at h
    rcases List.mem_cons.mp hd with rfl | z
    · exact h.1
    · exact D.plains_mem h.2 d z
theorem D.wides_mem : ∀ {ds : List D}, ∀ d ∈ ds, d.wide ≤ D.wides ds
  | [], _, h => by simp at h
  | e :: ds, d, hd => by
    simp only [D.wides]
    rcases List.mem_cons.mp hd with rfl | z
    · omega
    · have := D.wides_mem d z
      omega
theorem D.deps_mem : ∀ {ds : List D}, ∀ d ∈ ds, d.dep ≤ D.deps ds
  | [], _, h => by simp at h
  | e :: ds, d, hd => by
    simp only [D.deps]
    rcases List.mem_cons.mp hd with rfl | z
    · omega
    · have := D.deps_mem d z
      omega
/-- two rows are the same if they are place by place -/
theorem same_rows {xs ys : List D} (hl : xs.length = ys.length) : (∀ (i : Nat) (d e : D), xs[i]? = some d → ys[i]? = some e → d = e) ↔ xs = ys := by
  constructor
  · intro h
    refine List.ext_getElem hl fun i h1 h2 => h i _ _ (List.getElem?_eq_getElem h1) (List.getElem?_eq_getElem h2)
  · rintro rfl i d e h1 h2
    rw [h1] at h2
    exact Option.some.inj h2
end DL
namespace LC
open PySem L2 PyProof.Rows DL
/-! ### the law's own draws -/
structure LSt where
  g : Int
  s : Int
  k : Int
def dSt (σ : LSt) : Cell := .lst [.int σ.g, .int σ.s, .int σ.k]
structure LSt.Ok (σ : LSt) : Prop where
  g0 : 0 ≤ σ.g
  s0 : 0 ≤ σ.s
  s1 : σ.s < 2147483648
def sdStep (s c : Int) (i : Nat) : Int := (s * 48271 + c * (2 * (i : Int) + 3) + (i : Int)) % 2147483629
def grStep (g c : Int) : Int := if g = 0 ∧ 1000000000000000000 ≤ c then c else g
def lsGo : List Int → Nat → Int → Int → Int × Int
  | [], _, g, s => (g, s)
  | c :: cs, i, g, s => lsGo cs (i + 1) (grStep g c) (sdStep s c i)
def sdEnd (s : Int) : Nat → Int
  | 0 => s
  | i + 1 => (sdEnd s i * sdEnd s i + 48271 * sdEnd s i + 91 * (i : Int) + 7) % 2147483629
def lawStart (ns : List Int) : LSt := ⟨(lsGo ns 0 0 17).1, sdEnd (lsGo ns 0 0 17).2 3, 0⟩
theorem sdStep_b (s c : Int) (i : Nat) : 0 ≤ sdStep s c i ∧ sdStep s c i < 2147483629 := by unfold sdStep; omega
theorem grStep_b {g c : Int} (h : 0 ≤ g) : 0 ≤ grStep g c := by unfold grStep; split <;> omega
theorem lsGo_b : ∀ (ns : List Int) (i : Nat) (g s : Int), 0 ≤ g → 0 ≤ s → s < 2147483629 → 0 ≤ (lsGo ns i g s).1 ∧ 0 ≤ (lsGo ns i g s).2 ∧ (lsGo ns i g s).2 < 2147483629
  | [], _, g, s, h1, h2, h3 => ⟨h1, h2, h3⟩
  | c :: cs, i, g, s, h1, h2, h3 => lsGo_b cs (i + 1) _ _ (grStep_b h1) (sdStep_b s c i).1 (sdStep_b s c i).2
theorem sdEnd_b {s : Int} (h0 : 0 ≤ s) (h1 : s < 2147483629) : ∀ i, 0 ≤ sdEnd s i ∧ sdEnd s i < 2147483629
  | 0 => ⟨h0, h1⟩
  | i + 1 => by show 0 ≤ (_ : Int) % 2147483629 ∧ (_ : Int) % 2147483629 < 2147483629; omega
theorem lawStart_ok (ns : List Int) : (lawStart ns).Ok := by
  have h := lsGo_b ns 0 0 17 (by omega) (by omega) (by omega)
  have h2 := sdEnd_b h.2.1 h.2.2 3
  exact ⟨h.1, h2.1, by show sdEnd _ 3 < _; omega⟩
/-- what is drawn -/
def tkCell (s k : Int) : Int :=
  let c1 := (s * 48271 + 69621 * k) % 2147483647
  let c2 := (c1 * c1 + 48271 * (c1 / 1000)) % 2147483629
  (c2 * c2 + 31 * c2 + k) % 2147483647
def takeX (σ : LSt) (m : Int) : Int := if 0 < σ.g then σ.g % m else tkCell σ.s (σ.k + 1) / 7 % m
def takeS (σ : LSt) (m : Int) : LSt := if 0 < σ.g then ⟨σ.g / m, σ.s, σ.k⟩ else ⟨σ.g, σ.s, σ.k + 1⟩
theorem takeX_b {σ : LSt} {m : Int} (h : 0 < m) : 0 ≤ takeX σ m ∧ takeX σ m < m := by
  unfold takeX
  split
  · exact ⟨Int.emod_nonneg _ (by omega), Int.emod_lt_of_pos _ h⟩
  · exact ⟨Int.emod_nonneg _ (by omega), Int.emod_lt_of_pos _ h⟩
theorem takeS_ok {σ : LSt} {m : Int} (h : 0 < m) (o : σ.Ok) : (takeS σ m).Ok := by
  unfold takeS
  split
  · exact ⟨Int.ediv_nonneg o.g0 (by omega), o.s0, o.s1⟩
  · exact ⟨o.g0, o.s0, o.s1⟩
def R__law_start : List D → Cell → Prop := fun ds c => ∃ ns : List Int, ds = [.klst (ns.map .int)] ∧ ns.length ≤ 63 ∧ c = dSt (lawStart ns)
def R__law_take : List D → (Addr × Cell) → D → Cell → Prop := fun ds pc d c' => ∃ (σ : LSt) (m : Int), ds = [.ref pc.1, .int m] ∧ pc.2 = dSt σ ∧ 0 < m ∧ m < 1073741824 ∧ σ.Ok ∧ d = .int (takeX σ m) ∧ c' = dSt (takeS σ m)
/-- Euclid's turns, by their number -/
def R__law_divisor : List D → D → Prop := fun ds d => ∃ (a b : Int) (e : Nat), ds = [.int a, .int b] ∧ e ≤ 1000000 ∧ a.natAbs < 2 ^ e ∧ b.natAbs < 2 ^ e ∧ d = .int (Int.gcd a b)
def R_common_divisor : List D → D → Prop := fun ds d => ∃ a b : Int, ds = [.int a, .int b] ∧ d = .int (Int.gcd a b)
theorem prod_half {x y : Nat} (hx : y ≤ x) (hy : 0 < y) : 2 * (y * (x % y)) ≤ x * y := by
  have h1 : x % y < y := Nat.mod_lt _ hy
  have h2 : y + x % y ≤ x := by
    have h3 := Nat.div_add_mod x y
    have h4 : 1 ≤ x / y := (Nat.one_le_div_iff hy).mpr hx
    have h5 : y * 1 ≤ y * (x / y) := Nat.mul_le_mul_left y h4
    omega
  have h3 : 2 * (x % y) ≤ x := by omega
  calc 2 * (y * (x % y)) = y * (2 * (x % y)) := by rw [Nat.mul_left_comm]
    _ ≤ y * x := Nat.mul_le_mul_left y h3
    _ = x * y := Nat.mul_comm _ _
/-- == asked with care -/
def R__law_same (n : Nat) : List D → D → Prop := fun ds d => ∃ (t u : D) (k : Bool), ds = [t, u] ∧ t.plain = true ∧ u.plain = true ∧ u.dep ≤ n ∧ u.wide ≤ 1000000 ∧ d = .bl k ∧ (k = true ↔ t = u)
/-- isinstance's answer -/
def isK (n : String) (t : D) : Bool := (kitB t.ty n).getD false
theorem isK_ok {t : D} (h : t.plain = true) : kitB t.ty "list" = some (isK "list" t) ∧ kitB t.ty "tuple" = some (isK "tuple" t) ∧ kitB t.ty "dict" = some (isK "dict" t) ∧ kitB t.ty "bool" = some (isK "bool" t) ∧ kitB t.ty "str" = some (isK "str" t) ∧ kitB t.ty "int" = some (isK "int" t) := by
  cases t with
  | v x => cases x <;> first | (simp [D.plain] at h; done) | exact ⟨rfl, rfl, rfl, rfl, rfl, rfl⟩
  | tup ds => exact ⟨rfl, rfl, rfl, rfl, rfl, rfl⟩
  | lst ds => exact ⟨rfl, rfl, rfl, rfl, rfl, rfl⟩
  | klst ds => simp [D.plain] at h
open Classical in
noncomputable def badAt (ts us : List D) (j : Nat) : Bool := decide (ts[j]? ≠ us[j]?)
noncomputable def bads (ts us : List D) (i : Nat) : List D := ((List.range i).filter (badAt ts us)).map fun j : Nat => D.int (j : Int)
theorem bads_nil {ts us : List D} (hl : ts.length = us.length) : bads ts us us.length = [] ↔ ts = us := by
  unfold bads
  rw [List.map_eq_nil_iff, List.filter_eq_nil_iff]
  constructor
  · intro h
    refine List.ext_getElem? fun i => ?_
    by_cases hi : i < us.length
    · have := h i (List.mem_range.mpr hi)
      simpa [badAt] using this
    · rw [List.getElem?_eq_none (by omega), List.getElem?_eq_none (by omega)]
  · rintro rfl j _
    simp [badAt]
theorem bads_succ (ts us : List D) (i : Nat) : bads ts us (i + 1) = if badAt ts us i = true then bads ts us i ++ [D.int (i : Int)] else bads ts us i := by
  unfold bads
  rw [List.range_succ, List.filter_append, List.map_append]
  split
  · rename_i h
    rw [List.filter_cons_of_pos h]
    rfl
  · rename_i h
    rw [List.filter_cons_of_neg h]
    simp
theorem bads_ok (ts us : List D) (i : Nat) : D.oks (bads ts us i) = true ∧ D.deps (bads ts us i) = 0 := by
  unfold bads
  induction (List.range i).filter (badAt ts us) with
  | nil => exact ⟨rfl, rfl⟩
  | cons x xs ih =>
    simp only [List.map_cons, D.oks, D.ok, D.deps, D.dep]
    exact ⟨by rw [ih.1] <;> rfl, by rw [ih.2] <;> rfl⟩
end LC

/-! fractions as pairs -/
namespace FR
abbrev Q := Int × Int
/-- in lowest terms with a denominator above 0 -/
def norm (a b : Int) : Q := if b < 0 then (a.fdiv (-(Int.gcd a b : Int)), b.fdiv (-(Int.gcd a b : Int))) else (a.fdiv (Int.gcd a b : Int), b.fdiv (Int.gcd a b : Int))
theorem fdiv_exact {a g : Int} (hg : g ≠ 0) (h : g ∣ a) : a = g * a.fdiv g := by
  obtain ⟨x, rfl⟩ := h
  rw [Int.mul_fdiv_cancel_left _ hg]
theorem pos_of {b g : Int} (hg : 0 < g) (hb : 0 < b) {y : Int} (e : b = g * y) : 0 < y := by
  refine Int.lt_of_not_ge fun z => ?_
  have : g * y ≤ 0 := Int.mul_nonpos_of_nonneg_of_nonpos (by omega) z
  omega
theorem norm_spec {a b : Int} (hb : b ≠ 0) : ∃ g : Int, g ≠ 0 ∧ g.natAbs = Int.gcd a b ∧ a = g * (norm a b).1 ∧ b = g * (norm a b).2 ∧ 0 < (norm a b).2 := by
  have hg : 0 < Int.gcd a b := Int.gcd_pos_of_ne_zero_right _ hb
  have h1 : (Int.gcd a b : Int) ∣ a := Int.gcd_dvd_left ..
  have h2 : (Int.gcd a b : Int) ∣ b := Int.gcd_dvd_right ..
  unfold norm
  by_cases h : b < 0
  · rw [if_pos h]
    have hne : (-(Int.gcd a b : Int)) ≠ 0 := by omega
    have e1 := fdiv_exact hne (Int.neg_dvd.mpr h1)
    have e2 := fdiv_exact hne (Int.neg_dvd.mpr h2)
    refine ⟨-(Int.gcd a b : Int), hne, by omega, e1, e2, ?_⟩
    refine pos_of (b := -b) (g := (Int.gcd a b : Int)) (by omega) (by omega) ?_
    rw [Int.neg_mul] at e2
    show -b = _ * b.fdiv (-(Int.gcd a b : Int))
    omega
  · rw [if_neg h]
    have hne : (Int.gcd a b : Int) ≠ 0 := by omega
    have e1 := fdiv_exact hne h1
    have e2 := fdiv_exact hne h2
    exact ⟨(Int.gcd a b : Int), hne, by omega, e1, e2, pos_of (by omega) (by omega) e2⟩
theorem norm_pos {a b : Int} (hb : b ≠ 0) : 0 < (norm a b).2 := by
  obtain ⟨g, _, _, _, _, h⟩ := norm_spec (a := a) hb
  exact h
theorem norm_cop {a b : Int} (hb : b ≠ 0) : Int.gcd (norm a b).1 (norm a b).2 = 1 := by
  obtain ⟨g, g0, hg, h1, h2, _⟩ := norm_spec (a := a) hb
  have e : Int.gcd a b = g.natAbs * Int.gcd (norm a b).1 (norm a b).2 := by
    have e0 : Int.gcd (g * (norm a b).1) (g * (norm a b).2) = g.natAbs * Int.gcd (norm a b).1 (norm a b).2 := Int.gcd_mul_left ..
    rw [← h1, ← h2] at e0
    exact e0
  rw [← hg] at e
  have hp : 0 < g.natAbs := by omega
  have : g.natAbs * Int.gcd (norm a b).1 (norm a b).2 = g.natAbs * 1 := by rw [← e, Nat.mul_one]
  exact Nat.eq_of_mul_eq_mul_left hp this
/-- the same number -/
def Eqv (p q : Q) : Prop := p.1 * q.2 = q.1 * p.2
theorem norm_eqv {a b : Int} (hb : b ≠ 0) : Eqv (norm a b) (a, b) := by
  obtain ⟨g, g0, hg, h1, h2, _⟩ := norm_spec (a := a) hb
  unfold Eqv
  generalize (norm a b).1 = x at h1
  generalize (norm a b).2 = y at h2
  show x * b = a * y
  rw [h1, h2]
  grind
theorem Eqv.symm {p q : Q} (h : Eqv p q) : Eqv q p := Eq.symm h
theorem Eqv.trans {p q r : Q} (hq : q.2 ≠ 0) (h1 : Eqv p q) (h2 : Eqv q r) : Eqv p r := by
  unfold Eqv at *
  have : q.2 * (p.1 * r.2) = q.2 * (r.1 * p.2) := by grind
  exact Int.eq_of_mul_eq_mul_left hq this
theorem dvd_cop {b a d : Int} (h : b ∣ a * d) (g : Int.gcd b a = 1) : b ∣ d := by
  have h1 := Int.natAbs_dvd_natAbs.mpr h
  rw [Int.natAbs_mul] at h1
  exact Int.natAbs_dvd_natAbs.mp (Nat.Coprime.dvd_of_dvd_mul_left (show Nat.Coprime b.natAbs a.natAbs from g) h1)
/-- two in lowest terms are equal if they are the same number -/
theorem low_eq {p q : Q} (h : Eqv p q) (p2 : 0 < p.2) (q2 : 0 < q.2) (pg : Int.gcd p.1 p.2 = 1) (qg : Int.gcd q.1 q.2 = 1) : p = q := by
  obtain ⟨a, b⟩ := p
  obtain ⟨c, d⟩ := q
  unfold Eqv at h
  simp only at h p2 q2 pg qg
  have h1 : b ∣ d := by
    have : b ∣ a * d := ⟨c, by rw [h, Int.mul_comm]⟩
    exact dvd_cop this (by rw [Int.gcd_comm]; exact pg)
  have h2 : d ∣ b := by
    have : d ∣ c * b := ⟨a, by rw [← h, Int.mul_comm]⟩
    exact dvd_cop this (by rw [Int.gcd_comm]; exact qg)
  have e : b = d := Int.dvd_antisymm (by omega) (by omega) h1 h2
  subst e
  have : a = c := Int.eq_of_mul_eq_mul_right (by omega) h
  rw [this]
theorem norm_congr {a b c d : Int} (hb : b ≠ 0) (hd : d ≠ 0) (h : a * d = c * b) : norm a b = norm c d := by
  refine low_eq ?_ (norm_pos hb) (norm_pos hd) (norm_cop hb) (norm_cop hd)
  exact ((norm_eqv hb).trans (q := (a, b)) hb (show Eqv (a, b) (c, d) from h)).trans (q := (c, d)) hd (norm_eqv hd).symm
theorem norm_low {q : Q} (h0 : 0 < q.2) (hg : Int.gcd q.1 q.2 = 1) : norm q.1 q.2 = q := low_eq ((norm_eqv (by omega))) (norm_pos (by omega)) h0 (norm_cop (by omega)) hg
theorem norm_norm {a b : Int} (hb : b ≠ 0) : norm (norm a b).1 (norm a b).2 = norm a b := norm_low (norm_pos hb) (norm_cop hb)
theorem norm_zero {b : Int} (hb : b ≠ 0) : norm 0 b = (0, 1) := norm_congr (c := 0) (d := 1) hb (by decide) (by simp)
theorem norm_fst0 {a b : Int} (hb : b ≠ 0) : (norm a b).1 = 0 ↔ a = 0 := by
  obtain ⟨g, g0, hg, h1, h2, _⟩ := norm_spec (a := a) hb
  constructor
  · intro z
    rw [z, Int.mul_zero] at h1
    exact h1
  · intro z
    subst z
    rw [norm_zero hb]
theorem norm_le {a b : Int} (hb : b ≠ 0) : (norm a b).1.natAbs ≤ a.natAbs ∧ (norm a b).2.natAbs ≤ b.natAbs := by
  obtain ⟨g, g0, hg, h1, h2, _⟩ := norm_spec (a := a) hb
  have hp : 1 ≤ g.natAbs := by omega
  constructor
  · conv => rhs; rw [h1, Int.natAbs_mul]
    exact Nat.le_mul_of_pos_left _ hp
  · conv => rhs; rw [h2, Int.natAbs_mul]
    exact Nat.le_mul_of_pos_left _ hp
/-! the four operations -/
def plusP (p q : Q) : Q := (p.1 * q.2 + q.1 * p.2, p.2 * q.2)
def timesP (p q : Q) : Q := (p.1 * q.1, p.2 * q.2)
def nm (p : Q) : Q := norm p.1 p.2
def plusQ (p q : Q) : Q := norm (p.1 * q.2 + q.1 * p.2) (p.2 * q.2)
def minusQ (p q : Q) : Q := norm (p.1 * q.2 - q.1 * p.2) (p.2 * q.2)
def timesQ (p q : Q) : Q := norm (p.1 * q.1) (p.2 * q.2)
def overQ (p q : Q) : Q := norm (p.1 * q.2) (p.2 * q.1)
theorem nm_of {a b : Int} (hb : b ≠ 0) : ∃ g : Int, g ≠ 0 ∧ a = g * (nm (a, b)).1 ∧ b = g * (nm (a, b)).2 ∧ 0 < (nm (a, b)).2 := by
  obtain ⟨g, g0, hg, h1, h2, h3⟩ := norm_spec (a := a) hb
  exact ⟨g, g0, h1, h2, h3⟩
theorem nm_mul {p : Q} {t : Int} (ht : t ≠ 0) (hp : p.2 ≠ 0) : nm (t * p.1, t * p.2) = nm p := norm_congr (Int.mul_ne_zero ht hp) hp (by grind)
/-- the operations don't mind lowest terms -/
theorem plus_nm {p q : Q} (hp : p.2 ≠ 0) (hq : q.2 ≠ 0) : plusQ (nm p) q = nm (plusP p q) := by
  obtain ⟨g, g0, h1, h2, h3⟩ := nm_of (a := p.1) hp
  have e : nm (p.1, p.2) = nm p := rfl
  rw [e] at h1 h2 h3
  refine norm_congr (Int.mul_ne_zero (by omega) hq) (Int.mul_ne_zero hp hq) ?_
  generalize (nm p).1 = x at h1
  generalize (nm p).2 = y at h2 h3
  simp only [plusP]
  rw [h1, h2]
  grind
theorem minus_nm {p q : Q} (hp : p.2 ≠ 0) (hq : q.2 ≠ 0) : minusQ (nm (plusP p q)) q = nm p := by
  have hpq : (plusP p q).2 ≠ 0 := Int.mul_ne_zero hp hq
  obtain ⟨g, g0, h1, h2, h3⟩ := nm_of (a := (plusP p q).1) hpq
  have e : nm ((plusP p q).1, (plusP p q).2) = nm (plusP p q) := rfl
  rw [e] at h1 h2 h3
  refine norm_congr (Int.mul_ne_zero (by omega) hq) hp ?_
  generalize (nm (plusP p q)).1 = x at h1
  generalize (nm (plusP p q)).2 = y at h2 h3
  simp only [plusP] at h1 h2
  refine Int.eq_of_mul_eq_mul_left g0 ?_
  have e1 : g * ((x * q.2 - q.1 * y) * p.2) = ((g * x) * q.2 - q.1 * (g * y)) * p.2 := by grind
  have e2 : g * (p.1 * (y * q.2)) = p.1 * ((g * y) * q.2) := by grind
  rw [e1, e2, ← h1, ← h2]
  grind
theorem times_nm {p q : Q} (hp : p.2 ≠ 0) (hq : q.2 ≠ 0) : timesQ (nm p) q = nm (timesP p q) := by
  obtain ⟨g, g0, h1, h2, h3⟩ := nm_of (a := p.1) hp
  have e : nm (p.1, p.2) = nm p := rfl
  rw [e] at h1 h2 h3
  refine norm_congr (Int.mul_ne_zero (by omega) hq) (Int.mul_ne_zero hp hq) ?_
  generalize (nm p).1 = x at h1
  generalize (nm p).2 = y at h2 h3
  simp only [timesP]
  rw [h1, h2]
  grind
theorem over_nm {p q : Q} (hp : p.2 ≠ 0) (hq : q.2 ≠ 0) (h0 : q.1 ≠ 0) : overQ (nm (timesP p q)) q = nm p := by
  have hpq : (timesP p q).2 ≠ 0 := Int.mul_ne_zero hp hq
  obtain ⟨g, g0, h1, h2, h3⟩ := nm_of (a := (timesP p q).1) hpq
  have e : nm ((timesP p q).1, (timesP p q).2) = nm (timesP p q) := rfl
  rw [e] at h1 h2 h3
  refine norm_congr (Int.mul_ne_zero (by omega) h0) hp ?_
  generalize (nm (timesP p q)).1 = x at h1
  generalize (nm (timesP p q)).2 = y at h2 h3
  simp only [timesP] at h1 h2
  refine Int.eq_of_mul_eq_mul_left g0 ?_
  have e1 : g * ((x * q.2) * p.2) = ((g * x) * q.2) * p.2 := by grind
  have e2 : g * (p.1 * (y * q.1)) = p.1 * ((g * y) * q.1) := by grind
  rw [e1, e2, ← h1, ← h2]
  grind
/-- led through a row -/
def sumP (f : Q) (l : List Q) : Q := l.foldl plusP f
def prodP (f : Q) (l : List Q) : Q := l.foldl timesP f
theorem plusP_comm (f q r : Q) : plusP (plusP f q) r = plusP (plusP f r) q := by
  simp only [plusP, Prod.mk.injEq]
  constructor <;> grind
theorem timesP_comm (f q r : Q) : timesP (timesP f q) r = timesP (timesP f r) q := by
  simp only [timesP, Prod.mk.injEq]
  constructor <;> grind
theorem sumP_cons (f q : Q) : ∀ l : List Q, sumP f (q :: l) = plusP (sumP f l) q
  | [] => rfl
  | r :: l => by
    show sumP (plusP (plusP f q) r) l = plusP (sumP (plusP f r) l) q
    rw [plusP_comm]
    exact sumP_cons (plusP f r) q l
theorem prodP_cons (f q : Q) : ∀ l : List Q, prodP f (q :: l) = timesP (prodP f l) q
  | [] => rfl
  | r :: l => by
    show prodP (timesP (timesP f q) r) l = timesP (prodP (timesP f r) l) q
    rw [timesP_comm]
    exact prodP_cons (timesP f r) q l
theorem sumP_snoc (f q : Q) (l : List Q) : sumP f (l ++ [q]) = plusP (sumP f l) q := by
  unfold sumP
  rw [List.foldl_append]
  rfl
theorem prodP_snoc (f q : Q) (l : List Q) : prodP f (l ++ [q]) = timesP (prodP f l) q := by
  unfold prodP
  rw [List.foldl_append]
  rfl
theorem sumP_ne {f : Q} (hf : f.2 ≠ 0) : ∀ {l : List Q}, (∀ q ∈ l, q.2 ≠ 0) → (sumP f l).2 ≠ 0
  | [], _ => hf
  | q :: l, h => sumP_ne (f := plusP f q) (Int.mul_ne_zero hf (h q (by simp))) fun r hr => h r (by simp [hr])
theorem prodP_ne {f : Q} (hf : f.2 ≠ 0) : ∀ {l : List Q}, (∀ q ∈ l, q.2 ≠ 0) → (prodP f l).2 ≠ 0
  | [], _ => hf
  | q :: l, h => prodP_ne (f := timesP f q) (Int.mul_ne_zero hf (h q (by simp))) fun r hr => h r (by simp [hr])
/-- how long they get -/
def Sm (n : Nat) (q : Q) : Prop := q.1.natAbs < 2 ^ n ∧ q.2.natAbs < 2 ^ n
theorem mul_lt {x y : Int} {a b : Nat} (h1 : x.natAbs < 2 ^ a) (h2 : y.natAbs < 2 ^ b) : (x * y).natAbs < 2 ^ (a + b) := by
  rw [Int.natAbs_mul, Nat.pow_add]
  exact Nat.mul_lt_mul'' h1 h2
theorem Sm.plus {n m : Nat} {p q : Q} (hp : Sm n p) (hq : Sm m q) : Sm (n + m + 1) (plusP p q) := by
  have a := mul_lt hp.1 hq.2
  have b := mul_lt hq.1 hp.2
  have c := mul_lt hp.2 hq.2
  rw [Nat.add_comm m n] at b
  have e : 2 ^ (n + m + 1) = 2 ^ (n + m) + 2 ^ (n + m) := by omega
  constructor
  · show (p.1 * q.2 + q.1 * p.2).natAbs < _
    omega
  · show (p.2 * q.2).natAbs < _
    omega
theorem Sm.times {n m : Nat} {p q : Q} (hp : Sm n p) (hq : Sm m q) : Sm (n + m) (timesP p q) := ⟨mul_lt hp.1 hq.1, mul_lt hp.2 hq.2⟩
theorem Sm.mono {n m : Nat} {p : Q} (h : Sm n p) (l : n ≤ m) : Sm m p := ⟨Nat.lt_of_lt_of_le h.1 (Nat.pow_le_pow_right (by decide) l), Nat.lt_of_lt_of_le h.2 (Nat.pow_le_pow_right (by decide) l)⟩
theorem Sm.norm {n : Nat} {a b : Int} (h : Sm n (a, b)) (hb : b ≠ 0) : Sm n (norm a b) := ⟨Nat.lt_of_le_of_lt (norm_le hb).1 h.1, Nat.lt_of_le_of_lt (norm_le hb).2 h.2⟩
theorem Sm.nm {n : Nat} {p : Q} (h : Sm n p) (hb : p.2 ≠ 0) : Sm n (nm p) := Sm.norm (a := p.1) (b := p.2) h hb
theorem sumP_sm {n m : Nat} {f : Q} (hf : Sm n f) : ∀ {l : List Q}, (∀ q ∈ l, Sm m q) → Sm (n + (m + 1) * l.length) (sumP f l)
  | [], _ => hf
  | q :: l, h => by
    have := sumP_sm (hf.plus (h q (by simp))) (l := l) fun r hr => h r (by simp [hr])
    refine this.mono ?_
    rw [List.length_cons, Nat.mul_add]
    omega
theorem prodP_sm {n m : Nat} {f : Q} (hf : Sm n f) : ∀ {l : List Q}, (∀ q ∈ l, Sm m q) → Sm (n + m * l.length) (prodP f l)
  | [], _ => hf
  | q :: l, h => by
    have := prodP_sm (hf.times (h q (by simp))) (l := l) fun r hr => h r (by simp [hr])
    refine this.mono ?_
    rw [List.length_cons, Nat.mul_add]
    omega
/-- sums of reciprocals of products of neighbours -/
theorem tele {s t : Int} (hs : 0 < s) (ht : 0 ≤ t) : plusQ (norm t (s * (s + t))) (timesQ (norm 1 (s + t)) (norm 1 (s + t + 1))) = norm (t + 1) (s * (s + (t + 1))) := by
  have h1 : s * (s + t) ≠ 0 := Int.mul_ne_zero (by omega) (by omega)
  have l1 : ∀ u : Int, 0 < u → norm 1 u = (1, u) := fun u hu => norm_low (q := (1, u)) hu (by simp)
  have h2 : timesQ (norm 1 (s + t)) (norm 1 (s + t + 1)) = (1, (s + t) * (s + t + 1)) := by
    rw [l1 _ (by omega), l1 _ (by omega)]
    show norm (1 * 1) _ = _
    rw [Int.mul_one]
    exact l1 _ (Int.mul_pos (by omega) (by omega))
  rw [h2]
  have h3 := plus_nm (p := (t, s * (s + t))) (q := (1, (s + t) * (s + t + 1))) h1 (Int.mul_ne_zero (by omega) (by omega))
  show plusQ (nm (t, s * (s + t))) _ = _
  rw [h3]
  refine norm_congr (Int.mul_ne_zero h1 (Int.mul_ne_zero (by omega) (by omega))) (Int.mul_ne_zero (by omega) (by omega)) ?_
  show (t * ((s + t) * (s + t + 1)) + 1 * (s * (s + t))) * (s * (s + (t + 1))) = (t + 1) * (s * (s + t) * ((s + t) * (s + t + 1)))
  grind
end FR

namespace K01
open PySem L2 PyProof.Rows DL LC FR
abbrev dQ (q : Q) : D := .tup [.int q.1, .int q.2]
/-- a fraction in lowest terms -/
structure Low (q : Q) : Prop where
  pos : 0 < q.2
  cop : Int.gcd q.1 q.2 = 1
theorem Low.ne {q : Q} (h : Low q) : q.2 ≠ 0 := by have := h.pos; omega
theorem low_norm {a b : Int} (h : b ≠ 0) : Low (norm a b) := ⟨norm_pos h, norm_cop h⟩
def sizes : List Int := [10, 10, 1000, 10 ^ 12, 10 ^ 60]
def pickX (σ : LSt) (n : Nat) : Nat := (takeX σ n).toNat
theorem pickX_lt {σ : LSt} {n : Nat} (h : 0 < n) : pickX σ n < n := by
  have := takeX_b (σ := σ) (m := (n : Int)) (by omega)
  unfold pickX
  omega
def gSize (σ : LSt) : Int := sizes.getD (pickX σ 5) 10
theorem gSize_b (σ : LSt) : 10 ≤ gSize σ ∧ gSize σ ≤ 10 ^ 60 := by
  have h := pickX_lt (σ := σ) (n := 5) (by decide)
  unfold gSize
  generalize pickX σ 5 = i at h
  match i, h with
  | 0, _ => decide
  | 1, _ => decide
  | 2, _ => decide
  | 3, _ => decide
  | 4, _ => decide
def gSt (σ : LSt) : Nat → LSt
  | 0 => σ
  | i + 1 => takeS (gSt σ i) 1000000000
def gTop (σ : LSt) : Nat → Int
  | 0 => 0
  | i + 1 => gTop σ i * 1000000000 + takeX (gSt σ i) 1000000000
theorem gSt_ok {σ : LSt} (h : σ.Ok) : ∀ i, (gSt σ i).Ok
  | 0 => h
  | i + 1 => takeS_ok (by decide) (gSt_ok h i)
theorem gTop_b (σ : LSt) : ∀ i, 0 ≤ gTop σ i ∧ gTop σ i < 1000000000 ^ i
  | 0 => ⟨Int.le_refl 0, Int.zero_lt_one⟩
  | i + 1 => by
    have h := gTop_b σ i
    have b := takeX_b (σ := gSt σ i) (show (0 : Int) < 1000000000 by decide)
    have e : (1000000000 : Int) ^ (i + 1) = 1000000000 ^ i * 1000000000 := Int.pow_succ ..
    rw [e]
    show 0 ≤ gTop σ i * 1000000000 + takeX (gSt σ i) 1000000000 ∧ gTop σ i * 1000000000 + takeX (gSt σ i) 1000000000 < _
    omega
def gT (σ : LSt) : Int := gTop (takeS σ 5) 7 % gSize σ
def greatX (σ : LSt) : Q := norm (if takeX (gSt (takeS σ 5) 7) 2 = 0 then gT σ else -gT σ) (1 + (gT σ * 7919 + 31) % gSize σ)
def greatS (σ : LSt) : LSt := takeS (gSt (takeS σ 5) 7) 2
theorem gT_b (σ : LSt) : 0 ≤ gT σ ∧ gT σ < gSize σ := by
  have := gSize_b σ
  exact ⟨Int.emod_nonneg _ (by omega), Int.emod_lt_of_pos _ (by omega)⟩
theorem gB_b (σ : LSt) : 1 ≤ 1 + (gT σ * 7919 + 31) % gSize σ ∧ 1 + (gT σ * 7919 + 31) % gSize σ ≤ gSize σ := by
  have := gSize_b σ
  have a := Int.emod_nonneg (gT σ * 7919 + 31) (b := gSize σ) (by omega)
  have b := Int.emod_lt_of_pos (gT σ * 7919 + 31) (b := gSize σ) (by omega)
  omega
theorem greatS_ok {σ : LSt} (h : σ.Ok) : (greatS σ).Ok := takeS_ok (by decide) (gSt_ok (takeS_ok (by decide) h) 7)
theorem greatX_low (σ : LSt) : Low (greatX σ) := low_norm (by have := gB_b σ; omega)
theorem greatX_sm (σ : LSt) : Sm 200 (greatX σ) := by
  have h1 := gB_b σ
  have h2 := gT_b σ
  have h3 := gSize_b σ
  have e : (10 : Int) ^ 60 < ((2 ^ 200 : Nat) : Int) := by decide
  have e2 : ∀ x : Int, x.natAbs ≤ (10 : Int) ^ 60 → x.natAbs < 2 ^ 200 := fun x hx => by omega
  unfold greatX
  generalize gT σ = t at *
  generalize 1 + (t * 7919 + 31) % gSize σ = u at *
  refine Sm.norm ⟨?_, e2 u (by omega)⟩ (by omega)
  by_cases c : takeX (gSt (takeS σ 5) 7) 2 = 0
  · simp only [c, if_true]
    exact e2 t (by omega)
  · simp only [c, if_false]
    exact e2 (-t) (by omega)
def R_ratio (mg : Str → Option Value) : List D → Oc → Prop := fun ds o => ∃ a b : Int, ds = [.int a, .int b] ∧ b.natAbs < 2 ^ 8990 ∧ o = if b = 0 then .exc (.ref (clA mg "NoInverse")) [] else .val (dQ (norm a b))
/-- two fractions, not too long -/
def Two (ds : List D) (p q : Q) : Prop := ds = [dQ p, dQ q] ∧ ∃ m n : Nat, 0 < m ∧ 0 < n ∧ m + n ≤ 8990 ∧ Sm m p ∧ Sm n q
def R_plus (mg : Str → Option Value) : List D → Oc → Prop := fun ds o => ∃ p q, Two ds p q ∧ o = if p.2 * q.2 = 0 then .exc (.ref (clA mg "NoInverse")) [] else .val (dQ (plusQ p q))
def R_minus (mg : Str → Option Value) : List D → Oc → Prop := fun ds o => ∃ p q, Two ds p q ∧ o = if p.2 * q.2 = 0 then .exc (.ref (clA mg "NoInverse")) [] else .val (dQ (minusQ p q))
def R_times (mg : Str → Option Value) : List D → Oc → Prop := fun ds o => ∃ p q, Two ds p q ∧ o = if p.2 * q.2 = 0 then .exc (.ref (clA mg "NoInverse")) [] else .val (dQ (timesQ p q))
def R_over (mg : Str → Option Value) : List D → Oc → Prop := fun ds o => ∃ p q, Two ds p q ∧ o = if p.2 * q.1 = 0 then .exc (.ref (clA mg "NoInverse")) [] else .val (dQ (overQ p q))
theorem bits {x : Int} {n : Nat} (h : x.natAbs < 2 ^ n) (h0 : 0 < n) (h1 : n ≤ 9000) : x.natAbs.log2 < 9000 := Nat.lt_of_lt_of_le (PySem.Flt.log2_lt_of h0 h) h1
theorem gcd_bits {a b : Int} {n : Nat} (hb : b ≠ 0) (h : b.natAbs < 2 ^ n) : (Int.gcd a b) < 2 ^ n := Nat.lt_of_le_of_lt (Nat.le_of_dvd (by omega) (Nat.gcd_dvd_right a.natAbs b.natAbs)) h
end K01

namespace K01
open PySem L2 PyProof.Rows DL LC FR
def top (i : Nat) : Stmt := PySem.Challenge.pw_drawntrue_k01_great_sums_of_fractions.main.body.getD i (.Pass ⟨0, 0, 0, 0⟩)
abbrev s_common_divisor : Stmt := top 4
abbrev N_common_divisor : List Str := ["one", "two"]
abbrev P_common_divisor : List Str := ["one", "two"]
theorem sc_common_divisor : FnScope N_common_divisor P_common_divisor (defScope s_common_divisor) := ⟨rfl, rfl, rfl, by decide +kernel, rfl, by decide +kernel, by decide +kernel⟩
abbrev s_ratio : Stmt := top 5
abbrev N_ratio : List Str := ["numerator", "denominator", "divisor"]
abbrev P_ratio : List Str := ["numerator", "denominator"]
theorem sc_ratio : FnScope N_ratio P_ratio (defScope s_ratio) := ⟨rfl, rfl, rfl, by decide +kernel, rfl, by decide +kernel, by decide +kernel⟩
abbrev s_plus : Stmt := top 6
abbrev N_plus : List Str := ["one", "two"]
abbrev P_plus : List Str := ["one", "two"]
theorem sc_plus : FnScope N_plus P_plus (defScope s_plus) := ⟨rfl, rfl, rfl, by decide +kernel, rfl, by decide +kernel, by decide +kernel⟩
abbrev s_minus : Stmt := top 7
abbrev N_minus : List Str := ["one", "two"]
abbrev P_minus : List Str := ["one", "two"]
theorem sc_minus : FnScope N_minus P_minus (defScope s_minus) := ⟨rfl, rfl, rfl, by decide +kernel, rfl, by decide +kernel, by decide +kernel⟩
abbrev s_times : Stmt := top 8
abbrev N_times : List Str := ["one", "two"]
abbrev P_times : List Str := ["one", "two"]
theorem sc_times : FnScope N_times P_times (defScope s_times) := ⟨rfl, rfl, rfl, by decide +kernel, rfl, by decide +kernel, by decide +kernel⟩
abbrev s_over : Stmt := top 9
abbrev N_over : List Str := ["one", "two"]
abbrev P_over : List Str := ["one", "two"]
theorem sc_over : FnScope N_over P_over (defScope s_over) := ⟨rfl, rfl, rfl, by decide +kernel, rfl, by decide +kernel, by decide +kernel⟩
abbrev s__law_start : Stmt := top 11
abbrev N__law_start : List Str := ["script", "great", "seed", "place", "cell", "turn"]
abbrev P__law_start : List Str := ["script"]
theorem sc__law_start : FnScope N__law_start P__law_start (defScope s__law_start) := ⟨rfl, rfl, rfl, by decide +kernel, rfl, by decide +kernel, by decide +kernel⟩
abbrev s__law_take : Stmt := top 12
abbrev N__law_take : List Str := ["state", "m", "x", "cell"]
abbrev P__law_take : List Str := ["state", "m"]
theorem sc__law_take : FnScope N__law_take P__law_take (defScope s__law_take) := ⟨rfl, rfl, rfl, by decide +kernel, rfl, by decide +kernel, by decide +kernel⟩
abbrev s__law_pick : Stmt := top 13
abbrev N__law_pick : List Str := ["state", "row"]
abbrev P__law_pick : List Str := ["state", "row"]
theorem sc__law_pick : FnScope N__law_pick P__law_pick (defScope s__law_pick) := ⟨rfl, rfl, rfl, by decide +kernel, rfl, by decide +kernel, by decide +kernel⟩
abbrev s__law_same : Stmt := top 14
abbrev N__law_same : List Str := ["told", "due", "k", "key"]
abbrev P__law_same : List Str := ["told", "due"]
theorem sc__law_same : FnScope N__law_same P__law_same (defScope s__law_same) := ⟨rfl, rfl, rfl, by decide +kernel, rfl, by decide +kernel, by decide +kernel⟩
abbrev s__law_divisor : Stmt := top 15
abbrev N__law_divisor : List Str := ["one", "two", "turn"]
abbrev P__law_divisor : List Str := ["one", "two"]
theorem sc__law_divisor : FnScope N__law_divisor P__law_divisor (defScope s__law_divisor) := ⟨rfl, rfl, rfl, by decide +kernel, rfl, by decide +kernel, by decide +kernel⟩
abbrev s__law_ratio : Stmt := top 16
abbrev N__law_ratio : List Str := ["top", "bottom", "divisor"]
abbrev P__law_ratio : List Str := ["top", "bottom"]
theorem sc__law_ratio : FnScope N__law_ratio P__law_ratio (defScope s__law_ratio) := ⟨rfl, rfl, rfl, by decide +kernel, rfl, by decide +kernel, by decide +kernel⟩
abbrev s__law_great : Stmt := top 17
abbrev N__law_great : List Str := ["state", "size", "top", "turn"]
abbrev P__law_great : List Str := ["state"]
theorem sc__law_great : FnScope N__law_great P__law_great (defScope s__law_great) := ⟨rfl, rfl, rfl, by decide +kernel, rfl, by decide +kernel, by decide +kernel⟩
abbrev s__law_refused : Stmt := top 18
abbrev N__law_refused : List Str := ["one", "two", "kind", "fault"]
abbrev P__law_refused : List Str := ["one", "two", "kind"]
theorem sc__law_refused : FnScope N__law_refused P__law_refused (defScope s__law_refused) := ⟨rfl, rfl, rfl, by decide +kernel, rfl, by decide +kernel, by decide +kernel⟩
abbrev s_law : Stmt := top 19
abbrev N_law : List Str := ["script", "state", "row", "turn", "kind", "one", "first", "total", "product", "top", "bottom", "both", "under", "start", "count"]
abbrev P_law : List Str := ["script"]
theorem sc_law : FnScope N_law P_law (defScope s_law) := ⟨rfl, rfl, rfl, by decide +kernel, rfl, by decide +kernel, by decide +kernel⟩
structure Txt (K : PySem.W.Frag) (mg : Str → Option Value) : Prop where
  b_abs : mg "abs" = none
  b_range : mg "range" = none
  b_min : mg "min" = none
  b_len : mg "len" = none
  b_int : mg "int" = none
  b_isinstance : mg "isinstance" = none
  b_list : mg "list" = none
  b_tuple : mg "tuple" = none
  b_dict : mg "dict" = none
  b_bool : mg "bool" = none
  b_str : mg "str" = none
  d_common_divisor : DefAt K mg "common_divisor" "common_divisor" s_common_divisor P_common_divisor
  d_ratio : DefAt K mg "ratio" "ratio" s_ratio P_ratio
  d_plus : DefAt K mg "plus" "plus" s_plus P_plus
  d_minus : DefAt K mg "minus" "minus" s_minus P_minus
  d_times : DefAt K mg "times" "times" s_times P_times
  d_over : DefAt K mg "over" "over" s_over P_over
  d__law_start : DefAt K mg "_law_start" "_law_start" s__law_start P__law_start
  d__law_take : DefAt K mg "_law_take" "_law_take" s__law_take P__law_take
  d__law_pick : DefAt K mg "_law_pick" "_law_pick" s__law_pick P__law_pick
  d__law_same : DefAt K mg "_law_same" "_law_same" s__law_same P__law_same
  d__law_divisor : DefAt K mg "_law_divisor" "_law_divisor" s__law_divisor P__law_divisor
  d__law_ratio : DefAt K mg "_law_ratio" "_law_ratio" s__law_ratio P__law_ratio
  d__law_great : DefAt K mg "_law_great" "_law_great" s__law_great P__law_great
  d__law_refused : DefAt K mg "_law_refused" "_law_refused" s__law_refused P__law_refused
  d_law : DefAt K mg "law" "law" s_law P_law
  x_DrawnError : ExCls K mg "DrawnError" (clA mg "DrawnError")
  x_NoInverse : ExCls K mg "NoInverse" (clA mg "NoInverse")
  e_DrawnError : PySem.W.excIn K (clA mg "DrawnError") [.type "ValueError", .type "Exception", .type "BaseException", .type "object"] "ValueError.__new__" = true
  e_NoInverse : PySem.W.excIn K (clA mg "NoInverse") [.type "ValueError", .type "Exception", .type "BaseException", .type "object"] "ValueError.__new__" = true
  s_DrawnError_DrawnError : PySem.W.subIn K (.ref (clA mg "DrawnError")) (.ref (clA mg "DrawnError")) = some true
  i_DrawnError_DrawnError : PySem.W.kitOne K (.ref (clA mg "DrawnError")) (.ref (clA mg "DrawnError")) = some true
  s_DrawnError_NoInverse : PySem.W.subIn K (.ref (clA mg "DrawnError")) (.ref (clA mg "NoInverse")) = some false
  i_DrawnError_NoInverse : PySem.W.kitOne K (.ref (clA mg "DrawnError")) (.ref (clA mg "NoInverse")) = some false
  s_NoInverse_DrawnError : PySem.W.subIn K (.ref (clA mg "NoInverse")) (.ref (clA mg "DrawnError")) = some true
  i_NoInverse_DrawnError : PySem.W.kitOne K (.ref (clA mg "NoInverse")) (.ref (clA mg "DrawnError")) = some true
  s_NoInverse_NoInverse : PySem.W.subIn K (.ref (clA mg "NoInverse")) (.ref (clA mg "NoInverse")) = some true
  i_NoInverse_NoInverse : PySem.W.kitOne K (.ref (clA mg "NoInverse")) (.ref (clA mg "NoInverse")) = some true

section
variable {P : Program} {w : World} {K : PySem.W.Frag} {mg : Str → Option Value} {base : Heap}
/-! ### the law's helpers -/
theorem k__law_start (T : Txt K mg) : Known P w K mg base "_law_start" 1 (SpN K (fresh R__law_start)) := by
  refine known_fresh T.d__law_start sc__law_start (fun ds d ⟨a, h, _⟩ => by subst h; rfl) fun f cdv A outer s H E hr ds d h => ?_
  obtain ⟨ns, rfl, hlen, rfl⟩ := h
  have nd := sc__law_start.nd
  refine ds_asg 1 nd de_int ?_
  refine ds_asg 2 nd de_int ?_
  refine ds_range1 (fun i s => ∃ g sd t3 t4, lsGo (ns.drop i) i g sd = lsGo ns 0 0 17 ∧ 0 ≤ sd ∧ sd < 2147483629 ∧ s = ⟨[some (.klst (ns.map .int)), some (.int g), some (.int sd), t3, t4, none], []⟩)
    (fun s => ∃ t3 t4, s = ⟨[some (.klst (ns.map .int)), some (.int (lsGo ns 0 0 17).1), some (.int (lsGo ns 0 0 17).2), t3, t4, none], []⟩)
    T.b_range (de_min2 T.b_min (de_lenK T.b_len (de_var 0 rfl)) de_int) ⟨by omega, by omega⟩ ⟨0, 17, none, none, rfl, by omega, by omega, rfl⟩ ?_ ?_ ?_
  · rintro i _ hi ⟨g, sd, t3, t4, e, b0, b1, rfl⟩
    have hi2 : i < ns.length := by rw [List.length_map] at hi; omega
    refine ⟨_, (dg_name 3 nd), ?_⟩
    refine ds_asg 4 nd (de_ixK (de_var 0 rfl) (de_var 3 rfl) (at_map (List.getElem?_eq_getElem hi2))) ?_
    refine ds_if (fun s => s = ⟨[some (.klst (ns.map .int)), some (.int (grStep g ns[i])), some (.int sd), some (.int i), some (.int ns[i]), none], []⟩) (db_w (dw_and (db_eqI (de_var 1 rfl) de_int) fun h => (dw_and1 (db_ge (de_var 4 rfl) (de_pow de_int de_int ⟨by decide, by decide, by decide⟩))))) (fun h => ?_) (fun h => ?_) ?_
    · refine ds_asg 1 nd (de_var 4 rfl) (dss_nil ?_)
      have : grStep g ns[i] = ns[i] := by
        unfold grStep
        refine if_pos ?_
        simpa using h
      rw [this]
      rfl
    · refine dss_nil ?_
      have : grStep g ns[i] = g := by
        unfold grStep
        refine if_neg ?_
        intro z
        simp [z.1] at h
        omega
      rw [this]
      rfl
    · rintro _ rfl
      refine ds_asg 2 nd (de_mod (de_toInt T.b_int (de_add (de_add (de_mul (de_var 2 rfl) de_int (.inr ⟨by decide, by decide⟩)) (de_mul (de_var 4 rfl) (de_add (de_mul de_int (de_var 3 rfl) (.inl ⟨by decide, by decide⟩)) de_int) (.inr ⟨by omega, by omega⟩))) (de_var 3 rfl))) de_int (by decide)) ?_
      refine dss_nil ⟨grStep g ns[i], sdStep sd ns[i] i, _, _, ?_, (sdStep_b _ _ _).1, (sdStep_b _ _ _).2, rfl⟩
      rw [← e, List.drop_eq_getElem_cons hi2]
      rfl
  · rintro _ ⟨g, sd, t3, t4, e, b0, b1, rfl⟩
    refine ⟨t3, t4, ?_⟩
    have hd : ns.drop (min (((ns.map D.int).length : Nat) : Int) 63).toNat = [] := by
      rw [List.drop_eq_nil_iff, List.length_map]
      omega
    rw [hd] at e
    have e1 : lsGo [] (min (((ns.map D.int).length : Nat) : Int) 63).toNat g sd = (g, sd) := rfl
    rw [e1] at e
    rw [← e]
  rintro _ ⟨t3, t4, rfl⟩
  have hb := lsGo_b ns 0 0 17 (by omega) (by omega) (by omega)
  refine ds_range1 (fun i s => ∃ t5, s = ⟨[some (.klst (ns.map .int)), some (.int (lsGo ns 0 0 17).1), some (.int (sdEnd (lsGo ns 0 0 17).2 i)), t3, t4, t5], []⟩) (fun s => ∃ t5, s = ⟨[some (.klst (ns.map .int)), some (.int (lsGo ns 0 0 17).1), some (.int (sdEnd (lsGo ns 0 0 17).2 3)), t3, t4, t5], []⟩) T.b_range de_int ⟨by decide, by decide⟩ ⟨none, rfl⟩ ?_ ?_ ?_
  · rintro i _ hi ⟨t5, rfl⟩
    have hs := sdEnd_b hb.2.1 hb.2.2 i
    refine ⟨_, (dg_name 5 nd), ?_⟩
    refine ds_asg 2 nd (de_mod (de_toInt T.b_int (de_add (de_add (de_add (de_mul (de_var 2 rfl) (de_var 2 rfl) (.inl ⟨by omega, by omega⟩)) (de_mul de_int (de_var 2 rfl) (.inl ⟨by decide, by decide⟩))) (de_mul de_int (de_var 5 rfl) (.inl ⟨by decide, by decide⟩))) de_int)) de_int (by decide)) ?_
    exact dss_nil ⟨_, rfl⟩
  · rintro _ ⟨t5, rfl⟩
    exact ⟨t5, rfl⟩
  rintro _ ⟨t5, rfl⟩
  exact ds_retNew (da_cons (de_var 1 rfl) (da_cons (de_var 2 rfl) (da_cons de_int da_nil))) (fun q => ⟨q, rfl, by simp [dSt, lawStart]⟩)
theorem k__law_take (T : Txt K mg) : Known P w K mg base "_law_take" 1 (SpN K (chg R__law_take)) := by
  refine known_chg T.d__law_take sc__law_take (fun ds c d c' ⟨σ, m, h, _⟩ => by subst h; rfl) fun f cdv A outer s H E hr ds p c d c' h => ?_
  obtain ⟨σ, m, rfl, hc, hm0, hm1, hok, rfl, rfl⟩ := h
  have hc' : c = dSt σ := hc
  subst hc'
  have nd := sc__law_take.nd
  have hs0 := hok.s0
  have hs1 := hok.s1
  refine ds_ifr (db_gt (de_ixC (ds := [.int σ.g, .int σ.s, .int σ.k]) 0 (de_var 0 rfl) de_int rfl rfl) de_int) (fun h => ?_) (fun h => ?_)
  · have hg : 0 < σ.g := by simpa using h
    refine ds_asg 2 nd (de_mod (de_toInt T.b_int (de_ixC (ds := [.int σ.g, .int σ.s, .int σ.k]) 0 (de_var 0 rfl) de_int rfl rfl)) (de_var 1 rfl) hm0) ?_
    refine ds_sub (ds := [.int σ.g, .int σ.s, .int σ.k]) 0 (de_toInt T.b_int (de_div (de_ixC (ds := [.int σ.g, .int σ.s, .int σ.k]) 0 (de_var 0 rfl) de_int rfl rfl) (de_var 1 rfl) ⟨hm0, hm1⟩)) (de_var 0 rfl) de_int rfl rfl ?_
    refine ds_ret (de_var 2 rfl) ⟨?_, ?_⟩
    · unfold takeX
      rw [if_pos hg]
    · unfold takeS
      rw [if_pos hg]
      exact List.mem_cons_self
  have hg : ¬ 0 < σ.g := by simpa using h
  refine ds_sub (ds := [.int σ.g, .int σ.s, .int σ.k]) 0 (de_add (de_ixC (ds := [.int σ.g, .int σ.s, .int σ.k]) 0 (de_var 0 rfl) de_int rfl rfl) de_int) (de_var 0 rfl) de_int rfl rfl ?_
  refine ds_asg 3 nd (de_mod (de_toInt T.b_int (de_add (de_mul (de_ixC (ds := [.int σ.g, .int σ.s, .int (σ.k + 1)]) 0 (de_var 0 rfl) de_int rfl rfl) de_int (.inr ⟨by decide, by decide⟩)) (de_mul de_int (de_ixC (ds := [.int σ.g, .int σ.s, .int (σ.k + 1)]) 0 (de_var 0 rfl) de_int rfl rfl) (.inl ⟨by decide, by decide⟩)))) de_int (by decide)) ?_
  refine ds_asg 3 nd (de_mod (de_toInt T.b_int (de_add (de_mul (de_var 3 rfl) (de_var 3 rfl) (.inl ⟨by omega, by omega⟩)) (de_mul de_int (de_div (de_var 3 rfl) de_int ⟨by decide, by decide⟩) (.inl ⟨by decide, by decide⟩)))) de_int (by decide)) ?_
  refine ds_asg 3 nd (de_mod (de_toInt T.b_int (de_add (de_add (de_mul (de_var 3 rfl) (de_var 3 rfl) (.inl ⟨by omega, by omega⟩)) (de_mul de_int (de_var 3 rfl) (.inl ⟨by decide, by decide⟩))) (de_ixC (ds := [.int σ.g, .int σ.s, .int (σ.k + 1)]) 0 (de_var 0 rfl) de_int rfl rfl))) de_int (by decide)) ?_
  refine ds_ret (de_mod (de_toInt T.b_int (de_div (de_var 3 rfl) de_int ⟨by decide, by decide⟩)) (de_var 1 rfl) hm0) ⟨?_, ?_⟩
  · unfold takeX
    rw [if_neg hg]
    rfl
  · unfold takeS
    rw [if_neg hg]
    exact List.mem_cons_self

theorem law_same_body (T : Txt K mg) {n : Nat} {f : Addr} {cdv : Value} {A : Around} {outer : List Env} {s : Shared} {H : Hp} {E : XK} (hr : Room n (A.deeper (envOfC "_law_same" (defScope s__law_same) s.heap.objs.size f cdv))) (ih : ∀ m, n = m + 1 → Known P w K mg base "_law_same" (m + 1) (SpN K (pur (R__law_same m)))) {t u : D} {k : Bool} (pt : t.plain = true) (pu : u.plain = true) (hn : u.dep ≤ n) (hw : u.wide ≤ 1000000) (hk : k = true ↔ t = u) :
    DSs (bodyX P w K mg base N__law_same "_law_same" (defScope s__law_same) f cdv A outer s H E) ⟨ent N__law_same [t, u], []⟩ (defBody s__law_same) ⟨fun _ => D.bl k = .non, fun d' _ => d' = .bl k, fun _ => False, fun _ => False, fun _ _ _ => False, fun _ _ _ _ => False⟩ := by
  have nd := sc__law_same.nd
  have ht := D.plain_ty pt
  obtain ⟨tL, tT, tD, tB, tS, tI⟩ := isK_ok pt
  have hkf : t ≠ u → k = false := fun h => by
    cases k with
    | true => exact absurd (hk.mp rfl) h
    | false => rfl
  cases u with
  | klst us => simp [D.plain] at pu
  | lst us =>
    refine ds_ifr (db_w (dw_or (k := true) (j := false) (db_val (de_isi T.b_isinstance (de_var 1 rfl) (de_bty (n := "list") T.b_list (by decide +kernel) rfl) (by simp only [D.ty]; decide) rfl)) fun h => nomatch h)) (fun h => ?_) (fun h => nomatch h)
    refine ds_ifr (k := !isK "list" t) (db_eq (db_w (dw_or (k := true && !isK "list" t) (j := false) (db_w (dw_and (db_val (de_isi T.b_isinstance (de_var 1 rfl) (de_bty (n := "list") T.b_list (by decide +kernel) rfl) (by simp only [D.ty]; decide) rfl)) fun h => (dw_and1 (db_not (db_val (de_isi T.b_isinstance (de_var 0 rfl) (de_bty (n := "list") T.b_list (by decide +kernel) rfl) ht tL)))))) fun h => (dw_or1 (db_w (dw_and (k := false) (j := false) (db_val (de_isi T.b_isinstance (de_var 1 rfl) (de_bty (n := "tuple") T.b_tuple (by decide +kernel) rfl) (by simp only [D.ty]; decide) rfl)) fun h => nomatch h))))) (by simp)) (fun h => ?_) (fun h => ?_)
    · refine ds_ret de_bl ?_
      rw [hkf]
      rintro rfl
      have e : isK "list" (D.lst us) = true := rfl
      rw [e] at h
      exact nomatch h
    have hl : isK "list" t = true := by simpa using h
    obtain ⟨ts, rfl⟩ : ∃ ts, t = .lst ts := by
      cases t with
      | v x => cases x <;> first | (simp [D.plain] at pt; done) | exact absurd hl (by simp only [isK, D.ty]; decide)
      | tup ds => exact absurd hl (by simp only [isK, D.ty]; decide)
      | lst ds => exact ⟨ds, rfl⟩
      | klst ds => simp [D.plain] at pt
    refine ds_ifr (db_neI (de_lenL T.b_len (de_var 0 rfl)) (de_lenL T.b_len (de_var 1 rfl))) (fun h => ?_) (fun h => ?_)
    · refine ds_ret de_bl ?_
      rw [hkf]
      intro z
      cases z
      simp at h
    have hlen : ts.length = us.length := by
      have : ((ts.length : Nat) : Int) = (us.length : Nat) := by simpa using h
      omega
    have hwid : us.length ≤ 1000000 := by simp only [D.wide] at hw; omega
    obtain ⟨m, rfl⟩ : ∃ m, n = m + 1 := ⟨n - 1, by simp only [D.dep] at hn; omega⟩
    have IH := ih m rfl
    refine ds_ret (de_eqD k hr.units (de_lc (own := [("k", 2)]) ((us.length : Int)).toNat (fun i => .int i) (fun _ => []) (bads ts us) nd (blkOk_by (N := N__law_same) (sc := defScope s__law_same) (by decide +kernel)) (pi_range1 rfl T.b_range (da_cons (de_lenL T.b_len (de_var 1 rfl)) da_nil)) (wi_range1 ⟨by omega, by omega⟩) (fun _ _ _ _ _ => pg_name (i := 2) nd rfl (Or.inl rfl)) rfl rfl (by rw [sizeLine_eq]; omega) fun i hi => ?_) (de_lst da_nil) ?_ rfl ?_ (by decide) ?_) rfl
    · have hi1 : i < us.length := by omega
      have g1 : ts[i]? = some ts[i] := List.getElem?_eq_getElem (by omega)
      have g2 : us[i]? = some us[i] := List.getElem?_eq_getElem hi1
      have q1 : ts[i].plain = true := D.plains_mem (by simpa only [D.plain] using pt) _ (List.getElem_mem _)
      have q2 : us[i].plain = true := D.plains_mem (by simpa only [D.plain] using pu) _ (List.getElem_mem _)
      have q3 : us[i].dep ≤ m := by
        have := D.deps_mem us[i] (List.getElem_mem hi1)
        simp only [D.dep] at hn
        omega
      have q4 : us[i].wide ≤ 1000000 := by
        have := D.wides_mem us[i] (List.getElem_mem hi1)
        simp only [D.wide] at hw
        omega
      have hb := bads_succ ts us i
      have hbad : badAt ts us i = true ↔ ts[i] ≠ us[i] := by simp [badAt, g1, g2]
      refine ⟨_, !(!badAt ts us i), gp_name 2 (by simp), fun _ _ _ _ _ => dts_one (db_not (db_val (de_call (d := .bl (!badAt ts us i)) IH hr (da_cons (de_ixL (de_var 0 rfl) (de_var 2 rfl) (atI_nat g1)) (da_cons (de_ixL (de_var 1 rfl) (de_var 2 rfl) (atI_nat g2)) da_nil)) ⟨_, _, _, rfl, q1, q2, q3, q4, rfl, ?_⟩))), fun hb1 => ⟨.int i, ?_, fun _ _ _ _ _ => de_var 2 rfl⟩, fun hb0 => ⟨?_, rfl⟩⟩
      · rw [Bool.not_eq_true', ← Bool.not_eq_true, hbad]
        exact Classical.not_not
      · rw [hb, if_pos (by simpa using hb1)]
      · rw [hb, if_neg (by simpa using hb0)]
    · simp only [D.ok]
      exact (bads_ok ts us _).1
    · simp only [D.dep]
      rw [(bads_ok ts us _).2]
      decide
    · rw [hk]
      simp only [D.lst.injEq, Int.toNat_natCast]
      exact (bads_nil hlen).symm
  | tup us =>
    refine ds_ifr (db_w (dw_or (k := false) (j := true) (db_val (de_isi T.b_isinstance (de_var 1 rfl) (de_bty (n := "list") T.b_list (by decide +kernel) rfl) (by simp only [D.ty]; decide) rfl)) fun h => dw_or1 (db_val (de_isi T.b_isinstance (de_var 1 rfl) (de_bty (n := "tuple") T.b_tuple (by decide +kernel) rfl) (by simp only [D.ty]; decide) rfl)))) (fun h => ?_) (fun h => nomatch h)
    refine ds_ifr (k := !isK "tuple" t) (db_eq (db_w (dw_or (k := false) (j := !isK "tuple" t) (db_eq (db_w (dw_and (k := false) (j := false) (db_val (de_isi T.b_isinstance (de_var 1 rfl) (de_bty (n := "list") T.b_list (by decide +kernel) rfl) (by simp only [D.ty]; decide) rfl)) fun h => nomatch h)) rfl) fun h => (dw_or1 (db_eq (db_w (dw_and (k := true) (db_val (de_isi T.b_isinstance (de_var 1 rfl) (de_bty (n := "tuple") T.b_tuple (by decide +kernel) rfl) (by simp only [D.ty]; decide) rfl)) fun h => dw_and1 (db_not (db_val (de_isi T.b_isinstance (de_var 0 rfl) (de_bty (n := "tuple") T.b_tuple (by decide +kernel) rfl) ht tT))))) (by simp))))) (by simp)) (fun h => ?_) (fun h => ?_)
    · refine ds_ret de_bl ?_
      rw [hkf]
      rintro rfl
      have e : isK "tuple" (D.tup us) = true := rfl
      rw [e] at h
      exact nomatch h
    have hl : isK "tuple" t = true := by simpa using h
    obtain ⟨ts, rfl⟩ : ∃ ts, t = .tup ts := by
      cases t with
      | v x => cases x <;> first | (simp [D.plain] at pt; done) | exact absurd hl (by simp only [isK, D.ty]; decide)
      | lst ds => exact absurd hl (by simp only [isK, D.ty]; decide)
      | tup ds => exact ⟨ds, rfl⟩
      | klst ds => simp [D.plain] at pt
    refine ds_ifr (db_neI (de_lenT T.b_len (de_var 0 rfl)) (de_lenT T.b_len (de_var 1 rfl))) (fun h => ?_) (fun h => ?_)
    · refine ds_ret de_bl ?_
      rw [hkf]
      intro z
      cases z
      simp at h
    have hlen : ts.length = us.length := by
      have : ((ts.length : Nat) : Int) = (us.length : Nat) := by simpa using h
      omega
    have hwid : us.length ≤ 1000000 := by simp only [D.wide] at hw; omega
    obtain ⟨m, rfl⟩ : ∃ m, n = m + 1 := ⟨n - 1, by simp only [D.dep] at hn; omega⟩
    have IH := ih m rfl
    refine ds_ret (de_eqD k hr.units (de_lc (own := [("k", 2)]) ((us.length : Int)).toNat (fun i => .int i) (fun _ => []) (bads ts us) nd (blkOk_by (N := N__law_same) (sc := defScope s__law_same) (by decide +kernel)) (pi_range1 rfl T.b_range (da_cons (de_lenT T.b_len (de_var 1 rfl)) da_nil)) (wi_range1 ⟨by omega, by omega⟩) (fun _ _ _ _ _ => pg_name (i := 2) nd rfl (Or.inl rfl)) rfl rfl (by rw [sizeLine_eq]; omega) fun i hi => ?_) (de_lst da_nil) ?_ rfl ?_ (by decide) ?_) rfl
    · have hi1 : i < us.length := by omega
      have g1 : ts[i]? = some ts[i] := List.getElem?_eq_getElem (by omega)
      have g2 : us[i]? = some us[i] := List.getElem?_eq_getElem hi1
      have q1 : ts[i].plain = true := D.plains_mem (by simpa only [D.plain] using pt) _ (List.getElem_mem _)
      have q2 : us[i].plain = true := D.plains_mem (by simpa only [D.plain] using pu) _ (List.getElem_mem _)
      have q3 : us[i].dep ≤ m := by
        have := D.deps_mem us[i] (List.getElem_mem hi1)
        simp only [D.dep] at hn
        omega
      have q4 : us[i].wide ≤ 1000000 := by
        have := D.wides_mem us[i] (List.getElem_mem hi1)
        simp only [D.wide] at hw
        omega
      have hb := bads_succ ts us i
      have hbad : badAt ts us i = true ↔ ts[i] ≠ us[i] := by simp [badAt, g1, g2]
      refine ⟨_, !(!badAt ts us i), gp_name 2 (by simp), fun _ _ _ _ _ => dts_one (db_not (db_val (de_call (d := .bl (!badAt ts us i)) IH hr (da_cons (de_ixT (de_var 0 rfl) (de_var 2 rfl) (atI_nat g1)) (da_cons (de_ixT (de_var 1 rfl) (de_var 2 rfl) (atI_nat g2)) da_nil)) ⟨_, _, _, rfl, q1, q2, q3, q4, rfl, ?_⟩))), fun hb1 => ⟨.int i, ?_, fun _ _ _ _ _ => de_var 2 rfl⟩, fun hb0 => ⟨?_, rfl⟩⟩
      · rw [Bool.not_eq_true', ← Bool.not_eq_true, hbad]
        exact Classical.not_not
      · rw [hb, if_pos (by simpa using hb1)]
      · rw [hb, if_neg (by simpa using hb0)]
    · simp only [D.ok]
      exact (bads_ok ts us _).1
    · simp only [D.dep]
      rw [(bads_ok ts us _).2]
      decide
    · rw [hk]
      simp only [D.lst.injEq, D.tup.injEq, Int.toNat_natCast]
      exact (bads_nil hlen).symm
  | v x =>
    have hx : (D.v x).ty ≠ "" := D.plain_ty pu
    have e1 : kitB (D.v x).ty "list" = some false ∧ kitB (D.v x).ty "tuple" = some false ∧ kitB (D.v x).ty "dict" = some false := by
      cases x <;> first | (simp [D.plain] at pu; done) | exact ⟨rfl, rfl, rfl⟩
    refine ds_ifr (db_w (dw_or (k := false) (j := false) (db_val (de_isi T.b_isinstance (de_var 1 rfl) (de_bty (n := "list") T.b_list (by decide +kernel) rfl) hx e1.1)) fun h => dw_or1 (db_val (de_isi T.b_isinstance (de_var 1 rfl) (de_bty (n := "tuple") T.b_tuple (by decide +kernel) rfl) hx e1.2.1)))) (fun h => nomatch h) (fun _ => ?_)
    refine ds_ifr (k := false) (db_val (de_isi T.b_isinstance (de_var 1 rfl) (de_bty (n := "dict") T.b_dict (by decide +kernel) rfl) hx e1.2.2)) (fun h => nomatch h) (fun _ => ?_)
    cases x with
    | byt b => simp [D.plain] at pu
    | flt b => simp [D.plain] at pu
    | ref b => simp [D.plain] at pu
    | ty b => simp [D.plain] at pu
    | non =>
      refine ds_ifr (db_isN true (by simp) (de_var 1 rfl)) (fun _ => ?_) (fun h => nomatch h)
      exact ds_ret (de_isN k hk (de_var 0 rfl)) rfl
    | bl b =>
      refine ds_ifr (db_isN false (by simp) (de_var 1 rfl)) (fun h => nomatch h) (fun _ => ?_)
      refine ds_ifr (db_val (de_isi T.b_isinstance (de_var 1 rfl) (de_bty (n := "bool") T.b_bool (by decide +kernel) rfl) hx rfl)) (fun _ => ?_) (fun h => nomatch h)
      by_cases hb : ∃ c, t = .bl c
      · obtain ⟨c, rfl⟩ := hb
        refine ds_ret (de_eq (de_and (k := true) (de_isi T.b_isinstance (de_var 0 rfl) (de_bty (n := "bool") T.b_bool (by decide +kernel) rfl) ht rfl) fun _ => de_one (de_eqS rfl (de_var 0 rfl) (de_var 1 rfl))) ?_) rfl
        have : decide (V.bl c = V.bl b) = k := by
          rw [Bool.eq_iff_iff, decide_eq_true_iff, hk]
          simp
        rw [this] <;> rfl
      · have hf : isK "bool" t = false := by
          cases t with
          | v y => cases y <;> first | (simp [D.plain] at pt; done) | rfl | exact absurd ⟨_, rfl⟩ hb
          | tup ds => rfl
          | lst ds => rfl
          | klst ds => rfl
        rw [hf] at tB
        refine ds_ret (de_and (k := false) (j := false) (de_isi T.b_isinstance (de_var 0 rfl) (de_bty (n := "bool") T.b_bool (by decide +kernel) rfl) ht tB) fun h => nomatch h) ?_
        rw [hkf fun z => hb ⟨b, z⟩] <;> rfl
    | str b =>
      refine ds_ifr (db_isN false (by simp) (de_var 1 rfl)) (fun h => nomatch h) (fun _ => ?_)
      refine ds_ifr (k := false) (db_val (de_isi T.b_isinstance (de_var 1 rfl) (de_bty (n := "bool") T.b_bool (by decide +kernel) rfl) hx rfl)) (fun h => nomatch h) (fun _ => ?_)
      refine ds_ifr (db_val (de_isi T.b_isinstance (de_var 1 rfl) (de_bty (n := "str") T.b_str (by decide +kernel) rfl) hx rfl)) (fun _ => ?_) (fun h => nomatch h)
      by_cases hb : ∃ c, t = .str c
      · obtain ⟨c, rfl⟩ := hb
        refine ds_ret (de_eq (de_and (k := true) (de_isi T.b_isinstance (de_var 0 rfl) (de_bty (n := "str") T.b_str (by decide +kernel) rfl) ht rfl) fun _ => de_one (de_eqS rfl (de_var 0 rfl) (de_var 1 rfl))) ?_) rfl
        have : decide (V.str c = V.str b) = k := by
          rw [Bool.eq_iff_iff, decide_eq_true_iff, hk]
          simp
        rw [this] <;> rfl
      · have hf : isK "str" t = false := by
          cases t with
          | v y => cases y <;> first | (simp [D.plain] at pt; done) | rfl | exact absurd ⟨_, rfl⟩ hb
          | tup ds => rfl
          | lst ds => rfl
          | klst ds => rfl
        rw [hf] at tS
        refine ds_ret (de_and (k := false) (j := false) (de_isi T.b_isinstance (de_var 0 rfl) (de_bty (n := "str") T.b_str (by decide +kernel) rfl) ht tS) fun h => nomatch h) ?_
        rw [hkf fun z => hb ⟨b, z⟩] <;> rfl
    | int b =>
      refine ds_ifr (db_isN false (by simp) (de_var 1 rfl)) (fun h => nomatch h) (fun _ => ?_)
      refine ds_ifr (k := false) (db_val (de_isi T.b_isinstance (de_var 1 rfl) (de_bty (n := "bool") T.b_bool (by decide +kernel) rfl) hx rfl)) (fun h => nomatch h) (fun _ => ?_)
      refine ds_ifr (k := false) (db_val (de_isi T.b_isinstance (de_var 1 rfl) (de_bty (n := "str") T.b_str (by decide +kernel) rfl) hx rfl)) (fun h => nomatch h) (fun _ => ?_)
      by_cases hb : ∃ c, t = .int c
      · obtain ⟨c, rfl⟩ := hb
        refine ds_ret (de_eq (de_and (k := true) (de_isi T.b_isinstance (de_var 0 rfl) (de_bty (n := "int") T.b_int (by decide +kernel) rfl) ht rfl) fun _ => de_and (k := true) (de_notV (k := false) (de_isi T.b_isinstance (de_var 0 rfl) (de_bty (n := "bool") T.b_bool (by decide +kernel) rfl) ht rfl)) fun _ => de_one (de_eqS rfl (de_var 0 rfl) (de_var 1 rfl))) ?_) rfl
        have : decide (V.int c = V.int b) = k := by
          rw [Bool.eq_iff_iff, decide_eq_true_iff, hk]
          simp
        rw [this] <;> rfl
      · by_cases hc : ∃ c, t = .bl c
        · obtain ⟨c, rfl⟩ := hc
          refine ds_ret (de_and (k := true) (de_isi T.b_isinstance (de_var 0 rfl) (de_bty (n := "int") T.b_int (by decide +kernel) rfl) ht rfl) fun _ => de_and (k := false) (j := false) (de_notV (k := true) (de_isi T.b_isinstance (de_var 0 rfl) (de_bty (n := "bool") T.b_bool (by decide +kernel) rfl) ht rfl)) fun h => nomatch h) ?_
          rw [hkf fun z => hb ⟨b, z⟩] <;> rfl
        · have hf : isK "int" t = false := by
            cases t with
            | v y => cases y <;> first | (simp [D.plain] at pt; done) | rfl | exact absurd ⟨_, rfl⟩ hb | exact absurd ⟨_, rfl⟩ hc
            | tup ds => rfl
            | lst ds => rfl
            | klst ds => rfl
          rw [hf] at tI
          refine ds_ret (de_and (k := false) (j := false) (de_isi T.b_isinstance (de_var 0 rfl) (de_bty (n := "int") T.b_int (by decide +kernel) rfl) ht tI) fun h => nomatch h) ?_
          rw [hkf fun z => hb ⟨b, z⟩] <;> rfl

theorem k__law_same (T : Txt K mg) (n : Nat) : Known P w K mg base "_law_same" (n + 1) (SpN K (pur (R__law_same n))) := by
  induction n with
  | zero =>
    refine known_pur T.d__law_same sc__law_same (fun ds d ⟨t, u, k, h, _⟩ => by subst h; rfl) fun f cdv A outer s H E hr ds d h => ?_
    obtain ⟨t, u, k, rfl, pt, pu, hn, hw, rfl, hk⟩ := h
    exact law_same_body T hr (fun m e => absurd e (by omega)) pt pu hn hw hk
  | succ m ih =>
    refine known_pur T.d__law_same sc__law_same (fun ds d ⟨t, u, k, h, _⟩ => by subst h; rfl) fun f cdv A outer s H E hr ds d h => ?_
    obtain ⟨t, u, k, rfl, pt, pu, hn, hw, rfl, hk⟩ := h
    exact law_same_body T hr (fun m' e => by cases e; exact ih) pt pu hn hw hk

theorem k_common_divisor (T : Txt K mg) : Known P w K mg base "common_divisor" 1 (SpN K (pur R_common_divisor)) := by
  refine known_pur T.d_common_divisor sc_common_divisor (fun ds d ⟨a, b, h, _⟩ => by subst h; rfl) fun f cdv A outer s H E hr ds d h => ?_
  obtain ⟨a, b, rfl, rfl⟩ := h
  have nd := sc_common_divisor.nd
  refine ds_par 0 1 nd (de_abs T.b_abs (de_var 0 rfl)) (de_abs T.b_abs (de_var 1 rfl)) ?_
  refine ds_while (m0 := b.natAbs) (fun m s => ∃ x y : Nat, m = y ∧ Nat.gcd x y = Int.gcd a b ∧ s = ⟨[some (.int x), some (.int y)], []⟩) (fun s => ∃ y, s = ⟨[some (.int (Int.gcd a b)), y], []⟩) ⟨_, _, rfl, rfl, rfl⟩ ?_ ?_
  · rintro y _ ⟨x, _, rfl, e, rfl⟩
    refine ⟨_, _, db_neI (de_var 1 rfl) de_int, fun h => ?_, fun h => ?_⟩
    · have hy : (y : Int) ≠ 0 := by simpa using h
      refine ds_par 0 1 nd (de_var 1 rfl) (de_mod (de_var 0 rfl) (de_var 1 rfl) (by omega)) (dss_nil ⟨x % y, Nat.mod_lt _ (by omega), y, x % y, rfl, ?_, rfl⟩)
      rw [← e, Nat.gcd_comm x y, Nat.gcd_rec y x, Nat.gcd_comm]
    · have hy : y = 0 := by simpa using h
      subst hy
      exact ⟨_, by rw [← e, Nat.gcd_zero_right]⟩
  · rintro _ ⟨y, rfl⟩
    exact ds_ret (de_var 0 rfl) rfl

theorem k__law_divisor (T : Txt K mg) : Known P w K mg base "_law_divisor" 1 (SpN K (pur R__law_divisor)) := by
  refine known_pur T.d__law_divisor sc__law_divisor (fun ds d ⟨a, b, e, h, _⟩ => by subst h; rfl) fun f cdv A outer s H E hr ds d h => ?_
  obtain ⟨a, b, e, rfl, he, ha, hb, rfl⟩ := h
  have nd := sc__law_divisor.nd
  refine ds_par 0 1 nd (de_abs T.b_abs (de_var 0 rfl)) (de_abs T.b_abs (de_var 1 rfl)) ?_
  refine ds_range1 (fun i s => ∃ (x y : Nat) (t : Option D), Nat.gcd x y = Int.gcd a b ∧ (0 < y → i = 0 ∨ (y ≤ x ∧ 2 ^ (i - 1) * (x * y) < 2 ^ (e + e))) ∧ x < 2 ^ e ∧ y < 2 ^ e ∧ s = ⟨[some (.int x), some (.int y), t], []⟩) (fun s => ∃ y t, s = ⟨[some (.int (Int.gcd a b)), y, t], []⟩) T.b_range de_int ⟨by decide, by decide⟩ ⟨_, _, none, rfl, fun _ => .inl rfl, ha, hb, rfl⟩ ?_ ?_ ?_
  · rintro i _ hi ⟨x, y, t, hg, hp, hx, hy, rfl⟩
    refine ⟨_, (dg_name 2 nd), ?_⟩
    refine ds_ifr (db_eqI (de_var 1 rfl) de_int) (fun h => ?_) (fun h => ?_)
    · have hy0 : y = 0 := by simpa using h
      subst hy0
      refine ds_break ⟨some (.int 0), some (.int i), ?_⟩
      rw [← hg, Nat.gcd_zero_right]
      rfl
    have hy0 : (y : Int) ≠ 0 := by simpa using h
    have hyp : 0 < y := by omega
    refine ds_par 0 1 nd (de_var 1 rfl) (de_mod (de_toInt T.b_int (de_var 0 rfl)) (de_var 1 rfl) (by omega)) ?_
    have hm := Nat.mod_lt x hyp
    refine dss_nil ⟨y, x % y, _, ?_, fun h0 => .inr ⟨by omega, ?_⟩, hy, by omega, rfl⟩
    · rw [← hg, Nat.gcd_comm x y, Nat.gcd_rec y x, Nat.gcd_comm]
    · rw [Nat.add_sub_cancel]
      rcases hp hyp with h1 | ⟨h1, h2⟩
      · subst h1
        rw [Nat.pow_zero, Nat.one_mul, Nat.pow_add]
        exact Nat.mul_lt_mul'' hy (by omega)
      · have h3 := prod_half h1 hyp
        cases i with
        | zero =>
          rw [Nat.pow_zero, Nat.one_mul]
          rw [Nat.zero_sub, Nat.pow_zero, Nat.one_mul] at h2
          omega
        | succ j =>
          rw [Nat.add_sub_cancel] at h2
          have h4 : 2 ^ (j + 1) * (y * (x % y)) = 2 ^ j * (2 * (y * (x % y))) := by rw [Nat.pow_succ, Nat.mul_assoc]
          rw [h4]
          exact Nat.lt_of_le_of_lt (Nat.mul_le_mul_left _ h3) h2
  · rintro _ ⟨x, y, t, hg, hp, hx, hy, rfl⟩
    have hy0 : y = 0 := by
      apply Classical.byContradiction
      intro hn
      rcases hp (by omega) with h1 | ⟨h1, h2⟩
      · exact absurd h1 (by decide)
      · have h3 : 1 ≤ x * y := Nat.mul_pos (by omega) (by omega)
        have h4 : 2 ^ ((100000000 : Int).toNat - 1) * 1 ≤ 2 ^ ((100000000 : Int).toNat - 1) * (x * y) := Nat.mul_le_mul_left _ h3
        have h5 : 2 ^ ((100000000 : Int).toNat - 1) < 2 ^ (e + e) := by
          rw [Nat.mul_one] at h4
          exact Nat.lt_of_le_of_lt h4 h2
        have h6 := (Nat.pow_lt_pow_iff_right (by decide : 1 < 2)).mp h5
        have h7 : (100000000 : Int).toNat - 1 = 99999999 := rfl
        omega
    subst hy0
    refine ⟨some (.int 0), t, ?_⟩
    rw [← hg, Nat.gcd_zero_right]
    rfl
  rintro _ ⟨y, t, rfl⟩
  exact ds_ret (de_var 0 rfl) rfl

theorem k_ratio (T : Txt K mg) : KnownX P w K mg base "ratio" 2 (SpX K (purX (R_ratio mg))) := by
  refine knownX_pur T.d_ratio sc_ratio (fun ds o ⟨a, b, h, _⟩ => by subst h; rfl) fun f cdv A outer s H E hr ds o h => ?_
  obtain ⟨a, b, rfl, hb, rfl⟩ := h
  have nd := sc_ratio.nd
  have tk : Takes (bodyXX P w K mg base N_ratio "ratio" (defScope s_ratio) f cdv A outer s H E) (fun cls od _ H' => E cls od H') := takes_of rfl rfl rfl rfl
  refine ds_ifr (db_eqI (de_var 1 rfl) de_int) (fun h => ?_) (fun h => ?_)
  · have hb0 : b = 0 := by simpa using h
    exact ds_raise0 PySem.F.excBase_ValueError T.e_NoInverse T.x_NoInverse tk (by rw [if_pos hb0])
  have hb0 : b ≠ 0 := by simpa using h
  rw [if_neg hb0]
  refine ds_asg 2 nd (de_call (k_common_divisor T) (hr.mono (by decide)) (da_cons (de_var 0 rfl) (da_cons (de_var 1 rfl) da_nil)) ⟨a, b, rfl, rfl⟩) ?_
  have hg : 0 < Int.gcd a b := Int.gcd_pos_of_ne_zero_right _ hb0
  have hgb := gcd_bits (a := a) hb0 hb
  refine ds_if (fun s => s = ⟨[some (.int a), some (.int b), some (.int (if b < 0 then -(Int.gcd a b : Int) else (Int.gcd a b : Int)))], []⟩) (db_lt (de_var 1 rfl) de_int) (fun h => ?_) (fun h => ?_) ?_
  · have hl : b < 0 := by simpa using h
    refine ds_asg 2 nd (de_neg (de_var 2 rfl)) ?_
    refine dss_nil ?_
    rw [if_pos hl]
    rfl
  · have hl : ¬ b < 0 := by simpa using h
    refine dss_nil ?_
    rw [if_neg hl]
    rfl
  rintro _ rfl
  have hc : ∀ i : Int, CDivG i (if b < 0 then -(Int.gcd a b : Int) else (Int.gcd a b : Int)) := fun i => by
    refine ⟨?_, bits (n := 8990) ?_ (by decide) (by decide)⟩
    · split <;> omega
    · split <;> omega
  refine ds_ret (de_tup (da_cons (de_divG (de_var 0 rfl) (de_var 2 rfl) (hc _)) (da_cons (de_divG (de_var 1 rfl) (de_var 2 rfl) (hc _)) da_nil))) ?_
  show Oc.val _ = _
  unfold norm
  split <;> rfl
theorem k_plus (T : Txt K mg) : KnownX P w K mg base "plus" 3 (SpX K (purX (R_plus mg))) := by
  refine knownX_pur T.d_plus sc_plus (fun ds o ⟨p, q, h, _⟩ => by rw [h.1]; rfl) fun f cdv A outer s H E hr ds o h => ?_
  obtain ⟨p, q, ⟨rfl, m, n, hm, hn, hl, hp, hq⟩, rfl⟩ := h
  have tk : Takes (bodyXX P w K mg base N_plus "plus" (defScope s_plus) f cdv A outer s H E) (fun cls od _ H' => E cls od H') := takes_of rfl rfl rfl rfl
  refine ds_retX (k_ratio T) (hr.mono (by decide)) tk (da_cons (de_add (de_mulW (de_ixT (de_var 0 rfl) de_int rfl) (de_ixT (de_var 1 rfl) de_int rfl) (wide_mul hp.1 hq.2 hm hn (by omega))) (de_mulW (de_ixT (de_var 1 rfl) de_int rfl) (de_ixT (de_var 0 rfl) de_int rfl) (wide_mul hq.1 hp.2 hn hm (by omega)))) (da_cons (de_mulW (de_ixT (de_var 0 rfl) de_int rfl) (de_ixT (de_var 1 rfl) de_int rfl) (wide_mul hp.2 hq.2 hm hn (by omega))) da_nil)) ⟨_, _, rfl, Nat.lt_of_lt_of_le (mul_lt hp.2 hq.2) (Nat.pow_le_pow_right (by decide) hl), rfl⟩ (fun d e => e) (fun cls fs e => e)
theorem k_minus (T : Txt K mg) : KnownX P w K mg base "minus" 3 (SpX K (purX (R_minus mg))) := by
  refine knownX_pur T.d_minus sc_minus (fun ds o ⟨p, q, h, _⟩ => by rw [h.1]; rfl) fun f cdv A outer s H E hr ds o h => ?_
  obtain ⟨p, q, ⟨rfl, m, n, hm, hn, hl, hp, hq⟩, rfl⟩ := h
  have tk : Takes (bodyXX P w K mg base N_minus "minus" (defScope s_minus) f cdv A outer s H E) (fun cls od _ H' => E cls od H') := takes_of rfl rfl rfl rfl
  refine ds_retX (k_ratio T) (hr.mono (by decide)) tk (da_cons (de_sub (de_mulW (de_ixT (de_var 0 rfl) de_int rfl) (de_ixT (de_var 1 rfl) de_int rfl) (wide_mul hp.1 hq.2 hm hn (by omega))) (de_mulW (de_ixT (de_var 1 rfl) de_int rfl) (de_ixT (de_var 0 rfl) de_int rfl) (wide_mul hq.1 hp.2 hn hm (by omega)))) (da_cons (de_mulW (de_ixT (de_var 0 rfl) de_int rfl) (de_ixT (de_var 1 rfl) de_int rfl) (wide_mul hp.2 hq.2 hm hn (by omega))) da_nil)) ⟨_, _, rfl, Nat.lt_of_lt_of_le (mul_lt hp.2 hq.2) (Nat.pow_le_pow_right (by decide) hl), rfl⟩ (fun d e => e) (fun cls fs e => e)
theorem k_times (T : Txt K mg) : KnownX P w K mg base "times" 3 (SpX K (purX (R_times mg))) := by
  refine knownX_pur T.d_times sc_times (fun ds o ⟨p, q, h, _⟩ => by rw [h.1]; rfl) fun f cdv A outer s H E hr ds o h => ?_
  obtain ⟨p, q, ⟨rfl, m, n, hm, hn, hl, hp, hq⟩, rfl⟩ := h
  have tk : Takes (bodyXX P w K mg base N_times "times" (defScope s_times) f cdv A outer s H E) (fun cls od _ H' => E cls od H') := takes_of rfl rfl rfl rfl
  refine ds_retX (k_ratio T) (hr.mono (by decide)) tk (da_cons (de_mulW (de_ixT (de_var 0 rfl) de_int rfl) (de_ixT (de_var 1 rfl) de_int rfl) (wide_mul hp.1 hq.1 hm hn (by omega))) (da_cons (de_mulW (de_ixT (de_var 0 rfl) de_int rfl) (de_ixT (de_var 1 rfl) de_int rfl) (wide_mul hp.2 hq.2 hm hn (by omega))) da_nil)) ⟨_, _, rfl, Nat.lt_of_lt_of_le (mul_lt hp.2 hq.2) (Nat.pow_le_pow_right (by decide) hl), rfl⟩ (fun d e => e) (fun cls fs e => e)
theorem k_over (T : Txt K mg) : KnownX P w K mg base "over" 3 (SpX K (purX (R_over mg))) := by
  refine knownX_pur T.d_over sc_over (fun ds o ⟨p, q, h, _⟩ => by rw [h.1]; rfl) fun f cdv A outer s H E hr ds o h => ?_
  obtain ⟨p, q, ⟨rfl, m, n, hm, hn, hl, hp, hq⟩, rfl⟩ := h
  have tk : Takes (bodyXX P w K mg base N_over "over" (defScope s_over) f cdv A outer s H E) (fun cls od _ H' => E cls od H') := takes_of rfl rfl rfl rfl
  refine ds_retX (k_ratio T) (hr.mono (by decide)) tk (da_cons (de_mulW (de_ixT (de_var 0 rfl) de_int rfl) (de_ixT (de_var 1 rfl) de_int rfl) (wide_mul hp.1 hq.2 hm hn (by omega))) (da_cons (de_mulW (de_ixT (de_var 0 rfl) de_int rfl) (de_ixT (de_var 1 rfl) de_int rfl) (wide_mul hp.2 hq.1 hm hn (by omega))) da_nil)) ⟨_, _, rfl, Nat.lt_of_lt_of_le (mul_lt hp.2 hq.1) (Nat.pow_le_pow_right (by decide) hl), rfl⟩ (fun d e => e) (fun cls fs e => e)

/-- a drawn element: of a list that is data, or of a cell of the caller -/
def R__law_pick : RSp := fun ds cs P => ∃ (p : Addr) (σ : LSt) (xs : List D) (d : D), xs ≠ [] ∧ xs.length < 1073741824 ∧ σ.Ok ∧ xs[pickX σ xs.length]? = some d ∧
  ((ds = [.ref p, .lst xs] ∧ cs = [(p, dSt σ)] ∧ P = fun d' cs' => d' = d ∧ cs' = [(p, dSt (takeS σ xs.length))]) ∨
   ∃ q, ds = [.ref p, .ref q] ∧ cs = [(p, dSt σ), (q, .lst xs)] ∧ P = fun d' cs' => d' = d ∧ cs' = [(p, dSt (takeS σ xs.length)), (q, .lst xs)])
theorem at_pick {xs : List D} {d : D} {σ : LSt} (h0 : xs ≠ []) (h : xs[pickX σ xs.length]? = some d) : atI xs (takeX σ xs.length) = some d := by
  have hl : 0 < xs.length := List.length_pos_iff.mpr h0
  have b := takeX_b (σ := σ) (m := (xs.length : Int)) (by omega)
  have e : takeX σ xs.length = ((pickX σ xs.length : Nat) : Int) := by
    unfold pickX
    omega
  rw [e]
  exact atI_nat h
theorem k__law_pick (T : Txt K mg) : Known P w K mg base "_law_pick" 2 (SpN K R__law_pick) := by
  refine known_fn T.d__law_pick sc__law_pick (fun ds cs P ⟨p, σ, xs, d, _, _, _, _, h⟩ => by rcases h with ⟨e, _⟩ | ⟨q, e, _⟩ <;> (subst e; rfl)) fun f cdv A outer s H E hr ds cs Po h => ?_
  obtain ⟨p, σ, xs, d, h0, hl, ok, hd, h⟩ := h
  have nd := sc__law_pick.nd
  have hp : 0 < xs.length := List.length_pos_iff.mpr h0
  rcases h with ⟨rfl, rfl, rfl⟩ | ⟨q, rfl, rfl, rfl⟩
  · exact ds_ret (de_ixL (de_var 1 rfl) (de_callM 0 (k__law_take T) (hr.mono (by decide)) (da_cons (de_var 0 rfl) (da_cons (de_lenL T.b_len (de_var 1 rfl)) da_nil)) rfl ⟨σ, _, rfl, rfl, by omega, by omega, ok, rfl, rfl⟩) (at_pick h0 hd)) ⟨_, ⟨rfl, rfl⟩, List.Sublist.refl _⟩
  · exact ds_ret (de_ixC 1 (de_var 1 rfl) (de_callM 0 (k__law_take T) (hr.mono (by decide)) (da_cons (de_var 0 rfl) (da_cons (de_lenC (ds := xs) 1 T.b_len (de_var 1 rfl) rfl) da_nil)) rfl ⟨σ, _, rfl, rfl, by omega, by omega, ok, rfl, rfl⟩) rfl (at_pick h0 hd)) ⟨_, ⟨rfl, rfl⟩, List.Sublist.refl _⟩
def R__law_ratio : List D → D → Prop := fun ds d => ∃ (a b : Int), ds = [.int a, .int b] ∧ b ≠ 0 ∧ a.natAbs < 2 ^ 8990 ∧ b.natAbs < 2 ^ 8990 ∧ d = dQ (norm a b)
theorem k__law_ratio (T : Txt K mg) : Known P w K mg base "_law_ratio" 2 (SpN K (pur R__law_ratio)) := by
  refine known_pur T.d__law_ratio sc__law_ratio (fun ds d ⟨a, b, h, _⟩ => by subst h; rfl) fun f cdv A outer s H E hr ds d h => ?_
  obtain ⟨a, b, rfl, hb0, ha, hb, rfl⟩ := h
  have nd := sc__law_ratio.nd
  refine ds_asg 2 nd (de_call (k__law_divisor T) (hr.mono (by decide)) (da_cons (de_var 0 rfl) (da_cons (de_var 1 rfl) da_nil)) ⟨a, b, 8990, rfl, by decide, ha, hb, rfl⟩) ?_
  have hg : 0 < Int.gcd a b := Int.gcd_pos_of_ne_zero_right _ hb0
  have hgb := gcd_bits (a := a) hb0 hb
  refine ds_if (fun s => s = ⟨[some (.int a), some (.int b), some (.int (if b < 0 then -(Int.gcd a b : Int) else (Int.gcd a b : Int)))], []⟩) (db_lt (de_var 1 rfl) de_int) (fun h => ?_) (fun h => ?_) ?_
  · have hl : b < 0 := by simpa using h
    refine ds_asg 2 nd (de_neg (de_var 2 rfl)) ?_
    refine dss_nil ?_
    rw [if_pos hl]
    rfl
  · have hl : ¬ b < 0 := by simpa using h
    refine dss_nil ?_
    rw [if_neg hl]
    rfl
  rintro _ rfl
  have hc : ∀ i : Int, CDivG i (if b < 0 then -(Int.gcd a b : Int) else (Int.gcd a b : Int)) := fun i => by
    refine ⟨?_, bits (n := 8990) ?_ (by decide) (by decide)⟩
    · split <;> omega
    · split <;> omega
  refine ds_ret (de_tup (da_cons (de_divG (de_var 0 rfl) (de_var 2 rfl) (hc _)) (da_cons (de_divG (de_var 1 rfl) (de_var 2 rfl) (hc _)) da_nil))) ?_
  show D.tup _ = _
  unfold norm
  split <;> rfl
def R__law_great : List D → (Addr × Cell) → D → Cell → Prop := fun ds pc d c' => ∃ σ : LSt, ds = [.ref pc.1] ∧ pc.2 = dSt σ ∧ σ.Ok ∧ d = dQ (greatX σ) ∧ c' = dSt (greatS σ)
theorem k__law_great (T : Txt K mg) : Known P w K mg base "_law_great" 3 (SpN K (chg R__law_great)) := by
  refine known_chg T.d__law_great sc__law_great (fun ds c d c' ⟨σ, h, _⟩ => by subst h; rfl) fun f cdv A outer s H E hr ds p c d c' h => ?_
  obtain ⟨σ, rfl, hc, ok, rfl, rfl⟩ := h
  have hc' : c = dSt σ := hc
  subst hc'
  have nd := sc__law_great.nd
  have hpick : (([10, 10, 1000, 10 ^ (12 : Int).toNat, 10 ^ (60 : Int).toNat] : List Int).map D.int)[pickX σ 5]? = some (.int (gSize σ)) := by
    have h := pickX_lt (σ := σ) (n := 5) (by decide)
    unfold gSize
    generalize pickX σ 5 = i at h
    match i, h with
    | 0, _ => rfl
    | 1, _ => rfl
    | 2, _ => rfl
    | 3, _ => rfl
    | 4, _ => rfl
  refine ds_asg 1 nd (de_callG [(p, dSt σ)] [] [(p, dSt (takeS σ 5))] (k__law_pick T) (hr.mono (by decide)) (da_cons (de_var 0 rfl) (da_cons (de_lst (da_cons de_int (da_cons de_int (da_cons de_int (da_cons (de_pow de_int de_int ⟨by decide, by decide, by decide⟩) (da_cons (de_pow de_int de_int ⟨by decide, by decide, by decide⟩) da_nil)))))) da_nil)) (List.Perm.refl _) ⟨p, σ, _, _, by simp, by decide, ok, hpick, .inl ⟨rfl, rfl, rfl⟩⟩ (fun d' cs' h => ⟨h.1, by rw [h.2]; exact List.Perm.refl _⟩)) ?_
  have ok1 := takeS_ok (show (0 : Int) < 5 by decide) ok
  have hsz := gSize_b σ
  refine ds_asg 2 nd de_int ?_
  refine ds_range1 (fun i s => ∃ t3, s = ⟨[some (.ref p), some (.int (gSize σ)), some (.int (gTop (takeS σ 5) i)), t3], [(p, dSt (gSt (takeS σ 5) i))]⟩) (fun s => ∃ t3, s = ⟨[some (.ref p), some (.int (gSize σ)), some (.int (gTop (takeS σ 5) 7)), t3], [(p, dSt (gSt (takeS σ 5) 7))]⟩) T.b_range de_int ⟨by decide, by decide⟩ ⟨none, rfl⟩ ?_ (fun s h => h) ?_
  · rintro i _ hi ⟨t3, rfl⟩
    refine ⟨_, (dg_name 3 nd), ?_⟩
    refine ds_asg (d := .int (gTop (takeS σ 5) (i + 1))) 2 nd (de_add (de_mul (de_var 2 rfl) (de_pow de_int de_int ⟨by decide, by decide, by decide⟩) (.inr ⟨by decide, by decide⟩)) (de_callM 0 (k__law_take T) (hr.mono (by decide)) (da_cons (de_var 0 rfl) (da_cons (de_pow de_int de_int ⟨by decide, by decide, by decide⟩) da_nil)) rfl ⟨gSt (takeS σ 5) i, 1000000000, rfl, rfl, by decide, by decide, gSt_ok ok1 i, rfl, rfl⟩)) ?_
    exact dss_nil ⟨some (.int i), rfl⟩
  rintro _ ⟨t3, rfl⟩
  refine ds_asg (d := .int (gT σ)) 2 nd (de_mod (de_toInt T.b_int (de_var 2 rfl)) (de_var 1 rfl) (by omega)) ?_
  have ht := gT_b σ
  have hb := gB_b σ
  have e60 : (10 : Int) ^ 60 < ((2 ^ 200 : Nat) : Int) := by decide
  have e890 : (2 : Nat) ^ 200 ≤ 2 ^ 8990 := Nat.pow_le_pow_right (by decide) (by decide)
  have hif : ∀ k : Bool, (k = decide (takeX (gSt (takeS σ 5) 7) 2 = 0)) → D.int (if takeX (gSt (takeS σ 5) 7) 2 = 0 then gT σ else -gT σ) = if k = true then .int (gT σ) else .int (-gT σ) := fun k hk => by
    subst hk
    by_cases c : takeX (gSt (takeS σ 5) 7) 2 = 0 <;> simp [c]
  refine ds_ret (de_call (k__law_ratio T) (hr.mono (by decide)) (da_cons (de_if (d := .int (if takeX (gSt (takeS σ 5) 7) 2 = 0 then gT σ else -gT σ)) (st2 := ⟨[some (.ref p), some (.int (gSize σ)), some (.int (gT σ)), t3], [(p, dSt (greatS σ))]⟩) (db_eqI (de_callM 0 (k__law_take T) (hr.mono (by decide)) (da_cons (de_var 0 rfl) (da_cons de_int da_nil)) rfl ⟨gSt (takeS σ 5) 7, 2, rfl, rfl, by decide, by decide, gSt_ok ok1 7, rfl, rfl⟩) de_int) (fun h => ?_) (fun h => ?_)) (da_cons (de_add de_int (de_mod (de_toInt T.b_int (de_add (de_mul (de_var 2 rfl) de_int (.inr ⟨by decide, by decide⟩)) de_int)) (de_var 1 rfl) (by omega))) da_nil)) ⟨_, _, rfl, by omega, ?_, ?_, rfl⟩) ⟨rfl, List.mem_cons_self⟩
  · rw [if_pos (by simpa using h)]
    exact de_var 2 rfl
  · rw [if_neg (by simpa using h)]
    exact de_neg (de_var 2 rfl)
  · split <;> omega
  · omega
/-- over, ratio: refused by 0 -/
def R__law_refused : List D → D → Prop := fun ds d => ∃ (p q : Q) (k : Int), ds = [dQ p, dQ q, .int k] ∧ q.1 = 0 ∧ Sm 8000 p ∧ Sm 900 q ∧ d = .bl true
theorem k__law_refused (T : Txt K mg) : Known P w K mg base "_law_refused" 4 (SpN K (pur R__law_refused)) := by
  refine known_pur T.d__law_refused sc__law_refused (fun ds d ⟨p, q, k, h, _⟩ => by subst h; rfl) fun f cdv A outer s H E hr ds d h => ?_
  obtain ⟨p, q, k, rfl, hq0, hp, hq, rfl⟩ := h
  have nd := sc__law_refused.nd
  have e0 : p.2 * q.1 = 0 := by rw [hq0, Int.mul_zero]
  refine ds_try 3 (fun _ => False) (fun cls fs s => cls = .ref (clA mg "NoInverse") ∧ fs = [] ∧ s = ⟨[some (dQ p), some (dQ q), some (.int k), none], []⟩) nd (cl := .ref (clA mg "NoInverse")) ⟨rfl, rfl, .inl T.x_NoInverse.g⟩ takes_never ?_ ?_ (fun s z => z.elim)
  · intro W pn xe tk hps
    refine ds_ifz (db_eqI (de_var 2 rfl) de_int) (fun h => ?_) (fun h => ?_)
    · refine ds_exX (k_over T) (hr.mono (by decide)) tk (da_cons (de_var 0 rfl) (da_cons (de_var 1 rfl) da_nil)) ⟨p, q, ⟨rfl, 8000, 900, by decide, by decide, by decide, hp, hq⟩, rfl⟩ (fun d e => ?_) (fun cls fs e => ?_)
      · rw [if_pos e0] at e
        cases e
      · rw [if_pos e0] at e
        cases e
        exact ⟨rfl, rfl, rfl⟩
    · refine ds_exX (k_ratio T) (hr.mono (by decide)) tk (da_cons (de_ixT (de_var 0 rfl) de_int rfl) (da_cons (de_ixT (de_var 1 rfl) de_int rfl) da_nil)) ⟨p.1, q.1, rfl, by rw [hq0]; exact Nat.pow_pos (by decide), rfl⟩ (fun d e => ?_) (fun cls fs e => ?_)
      · rw [if_pos hq0] at e
        cases e
      · rw [if_pos hq0] at e
        cases e
        exact ⟨rfl, rfl, rfl⟩
  · rintro cls fs s1 ⟨rfl, rfl, rfl⟩
    refine ⟨true, T.x_NoInverse.exm T.s_NoInverse_NoInverse, fun _ a oe od pn hz hf h0 => ?_, fun h => nomatch h⟩
    have := h0 rfl
    subst this
    exact ds_ret (de_isE T.x_NoInverse.excC hz hf T.b_isinstance (de_var 3 rfl) T.x_DrawnError.g T.i_NoInverse_DrawnError) rfl

theorem same_l2 {a b : Q} : R__law_same 2 [.lst [dQ a, dQ b], .lst [dQ a, dQ b]] (.bl true) := ⟨_, _, true, rfl, rfl, rfl, Nat.le_of_ble_eq_true rfl, Nat.le_of_ble_eq_true rfl, rfl, by simp⟩
theorem same_Q {q : Q} {n : Nat} : R__law_same (n + 1) [dQ q, dQ q] (.bl true) := ⟨_, _, true, rfl, rfl, rfl, Nat.le_of_ble_eq_true rfl, Nat.le_of_ble_eq_true rfl, rfl, by simp⟩
theorem oks_map : ∀ l : List Q, D.oks (l.map dQ) = true
  | [] => rfl
  | q :: l => by
    show (D.ok (dQ q) && D.oks (l.map dQ)) = true
    rw [oks_map l]
    rfl
theorem deps_map : ∀ l : List Q, D.deps (l.map dQ) ≤ 1
  | [] => by decide
  | q :: l => by
    show max (D.dep (dQ q)) (D.deps (l.map dQ)) ≤ 1
    have := deps_map l
    have e : D.dep (dQ q) = 1 := rfl
    omega
theorem ne_nil {l : List Q} : (!l.isEmpty) = true ↔ D.lst (l.map dQ) ≠ .lst [] := by
  cases l with
  | nil => simp
  | cons q l => simp
def Good (l : List Q) : Prop := ∀ r ∈ l, Low r ∧ Sm 200 r
theorem Good.snoc {l : List Q} {q : Q} (h : Good l) (h1 : Low q) (h2 : Sm 200 q) : Good (l ++ [q]) := fun r hr => by
  rcases List.mem_append.mp hr with z | z
  · exact h r z
  · rw [List.mem_singleton.mp z]
    exact ⟨h1, h2⟩
theorem Low.neg {q : Q} (h : Low q) : Low (-q.1, q.2) := ⟨h.pos, by
  show Int.gcd (-q.1) q.2 = 1
  rw [Int.neg_gcd]
  exact h.cop⟩
theorem sm_neg {n : Nat} {q : Q} (h : Sm n q) : Sm n (-q.1, q.2) := ⟨by
  show (-q.1).natAbs < _
  rw [Int.natAbs_neg]
  exact h.1, h.2⟩
theorem plus_val {p q : Q} (hp : p.2 ≠ 0) (hq : q.2 ≠ 0) {m n : Nat} (h1 : Sm m p) (h2 : Sm n q) (hm : 0 < m) (hn : 0 < n) (h : m + n ≤ 8990) : R_plus mg [dQ p, dQ q] (.val (dQ (plusQ p q))) := ⟨p, q, ⟨rfl, m, n, hm, hn, h, h1, h2⟩, by rw [if_neg (Int.mul_ne_zero hp hq)]⟩
theorem minus_val {p q : Q} (hp : p.2 ≠ 0) (hq : q.2 ≠ 0) {m n : Nat} (h1 : Sm m p) (h2 : Sm n q) (hm : 0 < m) (hn : 0 < n) (h : m + n ≤ 8990) : R_minus mg [dQ p, dQ q] (.val (dQ (minusQ p q))) := ⟨p, q, ⟨rfl, m, n, hm, hn, h, h1, h2⟩, by rw [if_neg (Int.mul_ne_zero hp hq)]⟩
theorem times_val {p q : Q} (hp : p.2 ≠ 0) (hq : q.2 ≠ 0) {m n : Nat} (h1 : Sm m p) (h2 : Sm n q) (hm : 0 < m) (hn : 0 < n) (h : m + n ≤ 8990) : R_times mg [dQ p, dQ q] (.val (dQ (timesQ p q))) := ⟨p, q, ⟨rfl, m, n, hm, hn, h, h1, h2⟩, by rw [if_neg (Int.mul_ne_zero hp hq)]⟩
theorem over_val {p q : Q} (hp : p.2 ≠ 0) (hq : q.1 ≠ 0) {m n : Nat} (h1 : Sm m p) (h2 : Sm n q) (hm : 0 < m) (hn : 0 < n) (h : m + n ≤ 8990) : R_over mg [dQ p, dQ q] (.val (dQ (overQ p q))) := ⟨p, q, ⟨rfl, m, n, hm, hn, h, h1, h2⟩, by rw [if_neg (Int.mul_ne_zero hp hq)]⟩
theorem ratio_val {a b : Int} (hb : b ≠ 0) (h : b.natAbs < 2 ^ 8990) : R_ratio mg [.int a, .int b] (.val (dQ (norm a b))) := ⟨a, b, rfl, h, by rw [if_neg hb]⟩
def isZ (q : Q) : Bool := decide (q.1 = 0)
/-- the product on its way back -/
def PInv (f : Q) (row : List Q) (i : Nat) (pr : Q) : Prop := ((∃ z ∈ row.take i, z.1 = 0) ∧ pr = (0, 1)) ∨ ((∀ z ∈ row.take i, z.1 ≠ 0) ∧ pr = nm (prodP f (row.drop i)))
theorem law_ok {f : Addr} {fd : FuncData} (T : Txt K mg) (F : Fun K "law" "law" s_law f fd) : FnOk P w K mg base CX0 5 f fd ["script"] (SpN K RLaw) := by
  refine fnok_fn (N := N_law) F sc_law (fun ds cs Po ⟨_, d, ⟨ns, h, _⟩, _⟩ => by subst h; rfl) fun cdv A outer s H E hr ds cs Po ⟨e1, d, ⟨ns, e2, hlen, e3⟩, e4⟩ => ?_
  subst e1 e2 e3 e4
  refine dss_imp (R' := ⟨fun _ => False, fun d' _ => d' = .bl true, fun _ => False, fun _ => False, fun _ _ _ => False, fun _ _ _ _ => False⟩) ?_ (fun s z => z.elim) (fun d' cs z => ⟨[], ⟨z, rfl⟩, List.nil_sublist _⟩) (fun _ z => z) (fun _ z => z)
  have nd := sc_law.nd
  have S2 := k__law_same (P := P) (w := w) (base := base) T 2
  have hr2 : Room 3 _ := hr.mono (by decide)
  have big : ∀ {x : Int} {n : Nat}, x.natAbs < 2 ^ n → n ≤ 8990 → x.natAbs < 2 ^ 8990 := fun h l => Nat.lt_of_lt_of_le h (Nat.pow_le_pow_right (by decide) l)
  -- state, row
  refine ds_callN 1 nd (k__law_start T) (hr.mono (by decide)) (da_cons (de_var 0 rfl) da_nil) ⟨ns, rfl, hlen, rfl⟩ fun p => ?_
  have ok0 := lawStart_ok ns
  generalize lawStart ns = σ0 at ok0
  generalize hS : some (D.klst (ns.map .int)) = S
  refine ds_new 2 nd da_nil fun q => ?_
  have b0 := takeX_b (σ := σ0) (show (0 : Int) < 23 by decide)
  have ok1 := takeS_ok (show (0 : Int) < 23 by decide) ok0
  refine ds_range1 (fun i s => ∃ row t3 t4 t5 σ, row.length = i ∧ Good row ∧ σ.Ok ∧ s = ⟨[S, some (.ref p), some (.ref q), t3, t4, t5, none, none, none, none, none, none, none, none, none], [(p, dSt σ), (q, .lst (row.map dQ))]⟩)
    (fun s => ∃ row t3 t4 t5 σ, row.length ≤ 24 ∧ Good row ∧ σ.Ok ∧ s = ⟨[S, some (.ref p), some (.ref q), t3, t4, t5, none, none, none, none, none, none, none, none, none], [(p, dSt σ), (q, .lst (row.map dQ))]⟩)
    T.b_range (de_add de_int (de_callM 0 (k__law_take T) (hr.mono (by decide)) (da_cons (de_var 1 rfl) (da_cons de_int da_nil)) rfl ⟨σ0, 23, rfl, rfl, by decide, by decide, ok0, rfl, rfl⟩)) ⟨by omega, by omega⟩ ⟨[], none, none, none, _, rfl, fun r hr => by simp at hr, ok1, by subst hS; rfl⟩ ?_ ?_ ?_
  · rintro i _ hi ⟨row, t3, t4, t5, σ, hl, hg, ok, rfl⟩
    refine ⟨_, (dg_name 3 nd), ?_⟩
    refine ds_asg 4 nd (de_callM 0 (k__law_take T) (hr.mono (by decide)) (da_cons (de_var 1 rfl) (da_cons de_int da_nil)) rfl ⟨σ, 6, rfl, rfl, by decide, by decide, ok, rfl, rfl⟩) ?_
    have ok' := takeS_ok (show (0 : Int) < 6 by decide) ok
    generalize takeX σ 6 = kind
    generalize takeS σ 6 = σ' at ok'
    have hsz : (row.map dQ).length < sizeLine := by
      rw [List.length_map, sizeLine_eq]
      omega
    have hpk : ∀ hne : row ≠ [], ∃ r, r ∈ row ∧ (row.map dQ)[pickX σ' (row.map dQ).length]? = some (dQ r) ∧ row.map dQ ≠ [] ∧ (row.map dQ).length < 1073741824 ∧ (takeS σ' (row.map dQ).length).Ok := fun hne => by
      have h0 : 0 < row.length := List.length_pos_iff.mpr hne
      rw [List.length_map]
      have hj := pickX_lt (σ := σ') h0
      have g := List.getElem?_eq_getElem hj
      exact ⟨row[pickX σ' row.length], List.getElem_mem hj, by rw [List.getElem?_map, g]; rfl, by simp [hne], by omega, takeS_ok (by omega) ok'⟩
    have hP : ∀ (d : D) (cs1 cs2 : Cs) (d' : D) (cs' : Cs), (d' = d ∧ cs' = cs1) → cs1 = cs2 → d' = d ∧ (cs' ++ []).Perm cs2 := fun d cs1 cs2 d' cs' h e => ⟨h.1, by rw [h.2, e, List.append_nil]⟩
    refine ds_ifz (db_w (dw_and (db_eqI (de_var 4 rfl) de_int) fun h => dw_and1 (db_neC 1 (!row.isEmpty) hr.units (de_var 2 rfl) (de_lst da_nil) rfl (oks_map row) rfl (Nat.le_trans (deps_map row) (by decide)) (by decide) ne_nil))) (fun h => ?_) (fun h => ?_)
    · have hne : row ≠ [] := by
        rintro rfl
        simp at h
      obtain ⟨r, hr1, hr2', hr3, hr4, hr5⟩ := hpk hne
      refine ds_ex (de_append 1 (de_var 2 rfl) ⟨_, rfl⟩ (de_callG [(p, dSt σ'), (q, .lst (row.map dQ))] [] [(p, dSt (takeS σ' (row.map dQ).length)), (q, .lst (row.map dQ))] (k__law_pick T) (hr.mono (by decide)) (da_cons (de_var 1 rfl) (da_cons (de_var 2 rfl) da_nil)) (List.Perm.refl _) ⟨p, σ', row.map dQ, dQ r, hr3, hr4, ok', hr2', .inr ⟨q, rfl, rfl, rfl⟩⟩ (fun d' cs' h => hP _ _ _ d' cs' h rfl)) rfl hsz) (dss_nil ⟨row ++ [r], some (.int i), some (.int kind), t5, takeS σ' (row.map dQ).length, by simp [hl], hg.snoc (hg r hr1).1 (hg r hr1).2, hr5, ?_⟩)
      rw [List.map_append]
      rfl
    refine ds_ifz (db_w (dw_and (db_eqI (de_var 4 rfl) de_int) fun h => dw_and1 (db_neC 1 (!row.isEmpty) hr.units (de_var 2 rfl) (de_lst da_nil) rfl (oks_map row) rfl (Nat.le_trans (deps_map row) (by decide)) (by decide) ne_nil))) (fun h => ?_) (fun h => ?_)
    · have hne : row ≠ [] := by
        rintro rfl
        simp at h
      obtain ⟨r, hr1, hr2', hr3, hr4, hr5⟩ := hpk hne
      refine ds_asg 5 nd (de_callG [(p, dSt σ'), (q, .lst (row.map dQ))] [] [(p, dSt (takeS σ' (row.map dQ).length)), (q, .lst (row.map dQ))] (k__law_pick T) (hr.mono (by decide)) (da_cons (de_var 1 rfl) (da_cons (de_var 2 rfl) da_nil)) (List.Perm.refl _) ⟨p, σ', row.map dQ, dQ r, hr3, hr4, ok', hr2', .inr ⟨q, rfl, rfl, rfl⟩⟩ (fun d' cs' h => hP _ _ _ d' cs' h rfl)) ?_
      refine ds_ex (de_append 1 (de_var 2 rfl) ⟨_, rfl⟩ (de_tup (da_cons (de_neg (de_ixT (de_var 5 rfl) de_int rfl)) (da_cons (de_ixT (de_var 5 rfl) de_int rfl) da_nil))) rfl hsz) (dss_nil ⟨row ++ [(-r.1, r.2)], some (.int i), some (.int kind), some (dQ r), takeS σ' (row.map dQ).length, by simp [hl], hg.snoc (hg r hr1).1.neg (sm_neg (hg r hr1).2), hr5, ?_⟩)
      rw [List.map_append]
      rfl
    · refine ds_ex (de_append 1 (de_var 2 rfl) ⟨_, rfl⟩ (de_callM 0 (k__law_great T) (hr.mono (by decide)) (da_cons (de_var 1 rfl) da_nil) rfl ⟨σ', rfl, rfl, ok', rfl, rfl⟩) rfl hsz) (dss_nil ⟨row ++ [greatX σ'], some (.int i), some (.int kind), t5, greatS σ', by simp [hl], hg.snoc (greatX_low σ') (greatX_sm σ'), greatS_ok ok', ?_⟩)
      rw [List.map_append]
      rfl
  · rintro _ ⟨row, t3, t4, t5, σ, hl, hg, ok, rfl⟩
    exact ⟨row, t3, t4, t5, σ, by omega, hg, ok, rfl⟩
  rintro _ ⟨row, t3, t4, t5, σ, hl, hg, ok, rfl⟩
  refine cell_free 1 2 rfl rfl ?_
  -- first
  refine ds_asg 6 nd (de_callM 0 (k__law_great T) (hr.mono (by decide)) (da_cons (de_var 1 rfl) da_nil) rfl ⟨σ, rfl, rfl, ok, rfl, rfl⟩) ?_
  have fl := greatX_low σ
  have fs := greatX_sm σ
  have ok2 := greatS_ok ok
  generalize greatX σ = f at fl fs
  generalize greatS σ = σ2 at ok2
  have gn : ∀ r ∈ row, r.2 ≠ 0 := fun r hr => (hg r hr).1.ne
  have sN : ∀ l : List Q, (∀ r ∈ l, r ∈ row) → (sumP f l).2 ≠ 0 ∧ (prodP f l).2 ≠ 0 := fun l h => ⟨sumP_ne fl.ne fun r hr => gn r (h r hr), prodP_ne fl.ne fun r hr => gn r (h r hr)⟩
  have sS : ∀ l : List Q, (∀ r ∈ l, r ∈ row) → l.length ≤ 24 → Sm 6000 (sumP f l) ∧ Sm 6000 (prodP f l) := fun l h hl => by
    have a := sumP_sm (m := 200) fs (l := l) fun r hr => (hg r (h r hr)).2
    have b := prodP_sm (m := 200) fs (l := l) fun r hr => (hg r (h r hr)).2
    have c : (200 + 1) * l.length ≤ 201 * 24 := Nat.mul_le_mul_left _ hl
    have c' : 200 * l.length ≤ 200 * 24 := Nat.mul_le_mul_left _ hl
    exact ⟨a.mono (by omega), b.mono (by omega)⟩
  have tk : ∀ i, ∀ r ∈ row.take i, r ∈ row := fun i r hr => List.mem_of_mem_take hr
  have dr : ∀ i, ∀ r ∈ row.drop i, r ∈ row := fun i r hr => List.mem_of_mem_drop hr
  have tl : ∀ i, (row.take i).length ≤ 24 := fun i => by rw [List.length_take]; omega
  have dl : ∀ i, (row.drop i).length ≤ 24 := fun i => by rw [List.length_drop]; omega
  have nf : nm f = f := norm_low fl.pos fl.cop
  -- total, product, ..
  refine ds_asgP (de_tup (da_cons (de_var 6 rfl) (da_cons (de_var 6 rfl) (da_cons (de_ixT (de_var 6 rfl) de_int rfl) (da_cons (de_ixT (de_var 6 rfl) de_int rfl) (da_cons (de_ixT (de_var 6 rfl) de_int rfl) (da_cons (de_ixT (de_var 6 rfl) de_int rfl) da_nil)))))))
    (dg_tup (dgs_cons (dg_name 7 nd) (dgs_cons (dg_name 8 nd) (dgs_cons (dg_name 9 nd) (dgs_cons (dg_name 10 nd) (dgs_cons (dg_name 11 nd) (dgs_cons (dg_name 12 nd) dgs_nil))))))) ?_
  refine ds_for (ds := row.map dQ)
    (fun i s => ∃ t5, s = ⟨[S, some (.ref p), some (.lst (row.map dQ)), t3, t4, t5, some (dQ f), some (dQ (nm (sumP f (row.take i)))), some (dQ (nm (prodP f (row.take i)))), some (.int (sumP f (row.take i)).1), some (.int (sumP f (row.take i)).2), some (.int (prodP f (row.take i)).1), some (.int (prodP f (row.take i)).2), none, none], [(p, dSt σ2)]⟩)
    (fun s => ∃ t5, s = ⟨[S, some (.ref p), some (.lst (row.map dQ)), t3, t4, t5, some (dQ f), some (dQ (nm (sumP f row))), some (dQ (nm (prodP f row))), some (.int (sumP f row).1), some (.int (sumP f row).2), some (.int (prodP f row).1), some (.int (prodP f row).2), none, none], [(p, dSt σ2)]⟩)
    (de_var 2 rfl) ⟨t5, ?_⟩ ?_ ?_ ?_
  · rw [List.take_zero]
    show _ = (⟨[S, some (.ref p), some (.lst (row.map dQ)), t3, t4, t5, some (dQ f), some (dQ (nm f)), some (dQ (nm f)), _, _, _, _, none, none], _⟩ : SS)
    rw [nf]
    rfl
  · rintro i d _ hi ⟨t5, rfl⟩
    obtain ⟨one, ho, rfl⟩ : ∃ one : Q, row[i]? = some one ∧ dQ one = d := by
      rw [List.getElem?_map] at hi
      cases e : row[i]? with
      | none => rw [e] at hi; cases hi
      | some t => rw [e] at hi; exact ⟨t, rfl, Option.some.inj hi⟩
    have hmem : one ∈ row := List.mem_of_getElem? ho
    have og := hg one hmem
    have on := og.1.ne
    have htk : row.take (i + 1) = row.take i ++ [one] := by rw [List.take_add_one, ho] <;> rfl
    rw [htk, sumP_snoc, prodP_snoc]
    have A := sN (row.take i) (tk i)
    have B := sS (row.take i) (tk i) (tl i)
    generalize sumP f (row.take i) = u at A B
    generalize prodP f (row.take i) = v at A B
    refine ⟨_, (dg_name 5 nd), ?_⟩
    refine ds_par 7 8 nd (de_callX (k_plus T) (hr.mono (by decide)) (da_cons (de_var 7 rfl) (da_cons (de_var 5 rfl) da_nil)) (plus_val (m := 6000) (n := 200) (by have := norm_pos (a := u.1) A.1; show (norm u.1 u.2).2 ≠ 0; omega) on (B.1.nm A.1) og.2 (by decide) (by decide) (by decide))) (de_callX (k_times T) (hr.mono (by decide)) (da_cons (de_var 8 rfl) (da_cons (de_var 5 rfl) da_nil)) (times_val (m := 6000) (n := 200) (by have := norm_pos (a := v.1) A.2; show (norm v.1 v.2).2 ≠ 0; omega) on (B.2.nm A.2) og.2 (by decide) (by decide) (by decide))) ?_
    rw [plus_nm A.1 on, times_nm A.2 on]
    refine ds_par 9 10 nd (de_add (de_mulW (de_var 9 rfl) (de_ixT (de_var 5 rfl) de_int rfl) (wide_mul B.1.1 og.2.2 (by decide) (by decide) (by decide))) (de_mulW (de_ixT (de_var 5 rfl) de_int rfl) (de_var 10 rfl) (wide_mul og.2.1 B.1.2 (by decide) (by decide) (by decide)))) (de_mulW (de_var 10 rfl) (de_ixT (de_var 5 rfl) de_int rfl) (wide_mul B.1.2 og.2.2 (by decide) (by decide) (by decide))) ?_
    refine ds_par 11 12 nd (de_mulW (de_var 11 rfl) (de_ixT (de_var 5 rfl) de_int rfl) (wide_mul B.2.1 og.2.1 (by decide) (by decide) (by decide))) (de_mulW (de_var 12 rfl) (de_ixT (de_var 5 rfl) de_int rfl) (wide_mul B.2.2 og.2.2 (by decide) (by decide) (by decide))) ?_
    exact dss_nil ⟨some (dQ one), rfl⟩
  · rintro _ ⟨t5, rfl⟩
    refine ⟨t5, ?_⟩
    rw [List.length_map, List.take_length]
  rintro _ ⟨t5', rfl⟩
  have A := sN row fun r hr => hr
  have B := sS row (fun r hr => hr) hl
  -- the sum and the product
  refine ds_ifr (k := false) (db_not (k := true) (db_val (de_call S2 hr2 (da_cons (de_lst (da_cons (de_var 7 rfl) (da_cons (de_var 8 rfl) da_nil))) (da_cons (de_lst (da_cons (de_call (k__law_ratio T) (hr.mono (by decide)) (da_cons (de_var 9 rfl) (da_cons (de_var 10 rfl) da_nil)) ⟨_, _, rfl, A.1, big B.1.1 (by decide), big B.1.2 (by decide), rfl⟩) (da_cons (de_call (k__law_ratio T) (hr.mono (by decide)) (da_cons (de_var 11 rfl) (da_cons (de_var 12 rfl) da_nil)) ⟨_, _, rfl, A.2, big B.2.1 (by decide), big B.2.2 (by decide), rfl⟩) da_nil))) da_nil)) same_l2))) (fun h => nomatch h) (fun h => ?_)
  have en : norm (-(prodP f row).1) (-(prodP f row).2) = nm (prodP f row) := norm_congr (by have := A.2; omega) A.2 (by rw [Int.neg_mul, Int.mul_neg])
  refine ds_ifr (k := false) (db_not (k := true) (db_val (de_call S2 hr2 (da_cons (de_lst (da_cons (de_callX (k_ratio T) (hr.mono (by decide)) (da_cons (de_var 9 rfl) (da_cons (de_var 10 rfl) da_nil)) (ratio_val A.1 (big B.1.2 (by decide)))) (da_cons (de_callX (k_ratio T) (hr.mono (by decide)) (da_cons (de_neg (de_var 11 rfl)) (da_cons (de_neg (de_var 12 rfl)) da_nil)) (ratio_val (by have := A.2; omega) (by rw [Int.natAbs_neg]; exact big B.2.2 (by decide)))) da_nil))) (da_cons (de_lst (da_cons (de_var 7 rfl) (da_cons (de_var 8 rfl) da_nil))) da_nil)) (by rw [en]; exact same_l2)))) (fun h => nomatch h) (fun h => ?_)
  -- the way back
  refine ds_for (ds := row.map dQ)
    (fun i s => ∃ t5 pr, PInv f row i pr ∧ s = ⟨[S, some (.ref p), some (.lst (row.map dQ)), t3, t4, t5, some (dQ f), some (dQ (nm (sumP f (row.drop i)))), some (dQ pr), some (.int (sumP f row).1), some (.int (sumP f row).2), some (.int (prodP f row).1), some (.int (prodP f row).2), none, none], [(p, dSt σ2)]⟩)
    (fun s => ∃ t5 pr, PInv f row row.length pr ∧ s = ⟨[S, some (.ref p), some (.lst (row.map dQ)), t3, t4, t5, some (dQ f), some (dQ f), some (dQ pr), some (.int (sumP f row).1), some (.int (sumP f row).2), some (.int (prodP f row).1), some (.int (prodP f row).2), none, none], [(p, dSt σ2)]⟩)
    (de_var 2 rfl) ⟨t5', nm (prodP f row), .inr ⟨fun z hz => by simp at hz, rfl⟩, rfl⟩ ?_ ?_ ?_
  · rintro i d _ hi ⟨t5, pr, hpr, rfl⟩
    obtain ⟨one, ho, rfl⟩ : ∃ one : Q, row[i]? = some one ∧ dQ one = d := by
      rw [List.getElem?_map] at hi
      cases e : row[i]? with
      | none => rw [e] at hi; cases hi
      | some t => rw [e] at hi; exact ⟨t, rfl, Option.some.inj hi⟩
    have hmem : one ∈ row := List.mem_of_getElem? ho
    have og := hg one hmem
    have on := og.1.ne
    have htk : row.take (i + 1) = row.take i ++ [one] := by rw [List.take_add_one, ho] <;> rfl
    have hdr : row.drop i = one :: row.drop (i + 1) := by
      obtain ⟨h1, h2⟩ := List.getElem?_eq_some_iff.mp ho
      rw [← h2]
      exact List.drop_eq_getElem_cons h1
    have A1 := sN (row.drop i) (dr i)
    have B1 := sS (row.drop i) (dr i) (dl i)
    have A2 := sN (row.drop (i + 1)) (dr (i + 1))
    have hpn : pr.2 ≠ 0 ∧ Sm 6000 pr := by
      rcases hpr with ⟨_, e⟩ | ⟨_, e⟩
      · subst e
        exact ⟨by decide, ⟨Nat.pow_pos (by decide), Nat.one_lt_pow (by decide) (by decide)⟩⟩
      · subst e
        refine ⟨?_, B1.2.nm A1.2⟩
        have := norm_pos (a := (prodP f (row.drop i)).1) A1.2
        show (norm _ _).2 ≠ 0
        omega
    refine ⟨_, (dg_name 5 nd), ?_⟩
    refine ds_asg (d := dQ (nm (sumP f (row.drop (i + 1))))) 7 nd (de_eq (de_callX (k_minus T) (hr.mono (by decide)) (da_cons (de_var 7 rfl) (da_cons (de_var 5 rfl) da_nil)) (minus_val (m := 6000) (n := 200) (by have := norm_pos (a := (sumP f (row.drop i)).1) A1.1; show (norm _ _).2 ≠ 0; omega) on (B1.1.nm A1.1) og.2 (by decide) (by decide) (by decide))) ?_) ?_
    · rw [hdr, sumP_cons, minus_nm A2.1 on]
    refine ds_ifz (db_eqI (de_ixT (de_var 5 rfl) de_int rfl) de_int) (fun h => ?_) (fun h => ?_)
    · have h0 : one.1 = 0 := by simpa using h
      refine ds_ifr (db_w (dw_or (db_not (k := true) (db_val (de_call (k__law_refused T) hr (da_cons (de_var 8 rfl) (da_cons (de_var 5 rfl) (da_cons de_int da_nil))) ⟨pr, one, 0, rfl, h0, hpn.2.mono (by decide), og.2.mono (by decide), rfl⟩))) fun _ => dw_or1 (db_not (k := true) (db_val (de_call (k__law_refused T) hr (da_cons (de_var 5 rfl) (da_cons (de_var 5 rfl) (da_cons de_int da_nil))) ⟨one, one, 1, rfl, h0, og.2.mono (by decide), og.2.mono (by decide), rfl⟩))))) (fun h => absurd h (by decide)) (fun h => ?_)
      refine ds_asg (d := dQ (0, 1)) 8 nd (de_tup (da_cons de_int (da_cons de_int da_nil))) ?_
      exact dss_nil ⟨some (dQ one), (0, 1), .inl ⟨⟨one, by rw [htk]; simp, h0⟩, rfl⟩, rfl⟩
    · have h0 : one.1 ≠ 0 := by simpa using h
      refine ds_ifz (db_neI (de_ixT (de_var 8 rfl) de_int rfl) de_int) (fun h => ?_) (fun h => ?_)
      · have h1 : pr.1 ≠ 0 := by simpa using h
        rcases hpr with ⟨_, e⟩ | ⟨hz, e⟩
        · rw [e] at h1
          exact absurd rfl h1
        refine ds_asg (d := dQ (nm (prodP f (row.drop (i + 1))))) 8 nd (de_eq (de_callX (k_over T) (hr.mono (by decide)) (da_cons (de_var 8 rfl) (da_cons (de_var 5 rfl) da_nil)) (over_val (m := 6000) (n := 200) hpn.1 h0 hpn.2 og.2 (by decide) (by decide) (by decide))) ?_) ?_
        · rw [e, hdr, prodP_cons, over_nm A2.2 on h0]
        · refine dss_nil ⟨some (dQ one), nm (prodP f (row.drop (i + 1))), .inr ⟨fun z hz' => ?_, rfl⟩, rfl⟩
          rw [htk] at hz'
          rcases List.mem_append.mp hz' with y | y
          · exact hz z y
          · rw [List.mem_singleton.mp y]
            exact h0
      · have h1 : pr.1 = 0 := by simpa using h
        refine dss_nil ⟨some (dQ one), pr, ?_, rfl⟩
        rcases hpr with ⟨⟨z, hz, ez⟩, e⟩ | ⟨hz, e⟩
        · exact .inl ⟨⟨z, by rw [htk]; exact List.mem_append.mpr (.inl hz), ez⟩, e⟩
        · refine .inr ⟨fun z hz' => ?_, ?_⟩
          · rw [htk] at hz'
            rcases List.mem_append.mp hz' with y | y
            · exact hz z y
            · rw [List.mem_singleton.mp y]
              exact h0
          · rw [e] at h1
            have h2 : (prodP f (row.drop i)).1 = 0 := (norm_fst0 A1.2).mp h1
            have h3 : (prodP f (row.drop (i + 1))).1 = 0 := by
              rw [hdr, prodP_cons] at h2
              have h4 : (prodP f (row.drop (i + 1))).1 * one.1 = 0 := h2
              exact (Int.mul_eq_zero.mp h4).resolve_right h0
            rw [e]
            show norm _ _ = norm _ _
            rw [h2, h3, norm_zero A1.2, norm_zero A2.2]
  · rintro _ ⟨t5, pr, hpr, rfl⟩
    rw [List.length_map] at hpr ⊢
    refine ⟨t5, pr, hpr, ?_⟩
    rw [List.drop_length]
    show (⟨[_, _, _, _, _, _, _, some (dQ (nm f)), _, _, _, _, _, _, _], _⟩ : SS) = _
    rw [nf]
  rintro _ ⟨t5, pr, hpr, rfl⟩
  refine ds_ifr (db_w (dw_or (db_not (k := true) (db_val (de_call S2 hr2 (da_cons (de_var 7 rfl) (da_cons (de_var 6 rfl) da_nil)) same_Q))) fun _ => dw_or1 (db_w (dw_and (db_eqD (decide (row.filter isZ = [])) hr.units (de_lc (own := [("one", 5)]) (row.map dQ).length (fun i => (row.map dQ).getD i .non) (fun _ => [(p, dSt σ2)]) (fun i => ((row.take i).filter isZ).map dQ) nd (blkOk_by (N := N_law) (sc := defScope s_law) (by decide +kernel)) (pi_list (de_var 2 rfl)) (wi_list fun σ H Q h => h) (fun _ _ _ _ _ => pg_name (i := 5) nd rfl (Or.inl rfl)) rfl rfl (by rw [sizeLine_eq, List.length_map]; omega) fun i hi => ?_) (de_lst da_nil) ?_ rfl ?_ (by decide) ?_) fun hz => dw_and1 (db_not (k := true) (db_val (de_call S2 hr2 (da_cons (de_var 8 rfl) (da_cons (de_var 6 rfl) da_nil)) ?_))))))) (fun h => ?_) (fun h => ?_)
  · have hi : i < row.length := by rw [List.length_map] at hi; exact hi
    have g1 : row[i]? = some row[i] := List.getElem?_eq_getElem hi
    have htk : row.take (i + 1) = row.take i ++ [row[i]] := by rw [List.take_add_one, g1] <;> rfl
    have hgd : (row.map dQ).getD i .non = dQ row[i] := by simp [List.getD, g1]
    rw [hgd]
    generalize row[i] = r at htk
    refine ⟨_, decide (r.1 = 0), gp_name 5 (by simp), fun _ _ _ _ _ => dts_one (db_eqI (de_ixT (de_var 5 rfl) de_int rfl) de_int), fun hb1 => ⟨dQ r, ?_, fun _ _ _ _ _ => de_var 5 rfl⟩, fun hb0 => ⟨?_, rfl⟩⟩
    · rw [htk, List.filter_append, List.map_append, List.filter_cons_of_pos (show isZ r = true from hb1)]
      rfl
    · rw [htk, List.filter_append, List.filter_cons_of_neg (by rw [isZ, hb0]; decide)]
      simp
  · simpa only [D.ok] using oks_map _
  · have := deps_map ((row.take (row.map dQ).length).filter isZ)
    simp only [D.dep]
    omega
  · rw [List.length_map, List.take_length]
    simp
  · have hz' := of_decide_eq_true hz
    rcases hpr with ⟨⟨z, hz1, ez⟩, _⟩ | ⟨_, e⟩
    · rw [List.take_length] at hz1
      have : z ∈ row.filter isZ := List.mem_filter.mpr ⟨hz1, decide_eq_true ez⟩
      rw [hz'] at this
      cases this
    · rw [List.drop_length] at e
      have e2 : pr = f := e.trans nf
      rw [e2]
      exact same_Q
  · simp at h
  -- neighbours
  have b3 := takeX_b (σ := σ2) (show (0 : Int) < 50 by decide)
  have ok3 := takeS_ok (show (0 : Int) < 50 by decide) ok2
  have b4 := takeX_b (σ := takeS σ2 50) (show (0 : Int) < 20 by decide)
  refine ds_par 13 14 nd (de_add de_int (de_callM 0 (k__law_take T) (hr.mono (by decide)) (da_cons (de_var 1 rfl) (da_cons de_int da_nil)) rfl ⟨σ2, 50, rfl, rfl, by decide, by decide, ok2, rfl, rfl⟩)) (de_add de_int (de_callM 0 (k__law_take T) (hr.mono (by decide)) (da_cons (de_var 1 rfl) (da_cons de_int da_nil)) rfl ⟨_, 20, rfl, rfl, by decide, by decide, ok3, rfl, rfl⟩)) ?_
  generalize takeX (takeS σ2 50) 20 = x4 at b4
  generalize takeX σ2 50 = x3 at b3
  generalize takeS (takeS σ2 50) 20 = σ4
  obtain ⟨a, ea, a1, a2⟩ : ∃ a, 1 + x3 = a ∧ 1 ≤ a ∧ a ≤ 50 := ⟨_, rfl, by omega, by omega⟩
  obtain ⟨c, ec, c1, c2⟩ : ∃ c : Nat, 1 + x4 = (c : Int) ∧ 1 ≤ c ∧ c ≤ 20 := ⟨(1 + x4).toNat, by omega, by omega, by omega⟩
  rw [ea, ec]
  have z1 : norm ((0 : Nat) : Int) (a * (a + ((0 : Nat) : Int))) = (0, 1) := norm_zero (Int.mul_ne_zero (by omega) (by omega))
  have m1 : ∀ i : Int, 0 ≤ i → i ≤ 21 → 0 < a * (a + i) ∧ a * (a + i) < 4000 := fun i h0 h1 => by
    refine ⟨Int.mul_pos (by omega) (by omega), ?_⟩
    have : a * (a + i) ≤ 50 * 71 := Int.mul_le_mul a2 (by omega) (by omega) (by decide)
    omega
  refine ds_asg (d := dQ (norm ((0 : Nat) : Int) (a * (a + ((0 : Nat) : Int))))) 7 nd (de_eq (de_tup (da_cons de_int (da_cons de_int da_nil))) (by rw [z1])) ?_
  refine ds_range1 (fun i s => ∃ t3, s = ⟨[S, some (.ref p), some (.lst (row.map dQ)), t3, t4, t5, some (dQ f), some (dQ (norm (i : Int) (a * (a + (i : Int))))), some (dQ pr), some (.int (sumP f row).1), some (.int (sumP f row).2), some (.int (prodP f row).1), some (.int (prodP f row).2), some (.int a), some (.int c)], [(p, dSt σ4)]⟩)
    (fun s => ∃ t3, s = ⟨[S, some (.ref p), some (.lst (row.map dQ)), t3, t4, t5, some (dQ f), some (dQ (norm (c : Int) (a * (a + (c : Int))))), some (dQ pr), some (.int (sumP f row).1), some (.int (sumP f row).2), some (.int (prodP f row).1), some (.int (prodP f row).2), some (.int a), some (.int c)], [(p, dSt σ4)]⟩)
    T.b_range (de_var 14 rfl) ⟨by omega, by omega⟩ ⟨t3, rfl⟩ ?_ ?_ ?_
  · rintro i _ hi ⟨t3, rfl⟩
    refine ⟨_, (dg_name 3 nd), ?_⟩
    have hi' : (i : Int) ≤ 20 := by omega
    have w1 : ∀ u : Int, 1 ≤ u → u ≤ 100 → norm 1 u = (1, u) := fun u h0 h1 => norm_low (q := (1, u)) (by show (0 : Int) < u; omega) (by simp)
    have w2 : ∀ u : Int, 1 ≤ u → u ≤ 100 → (norm 1 u).2 ≠ 0 ∧ Sm 10 (norm 1 u) := fun u h0 h1 => by
      rw [w1 u h0 h1]
      exact ⟨by show u ≠ 0; omega, by show (1 : Int).natAbs < 1024; decide, by show u.natAbs < 1024; omega⟩
    have w3 := w2 (a + i) (by omega) (by omega)
    have w4 := w2 (a + i + 1) (by omega) (by omega)
    have w5 : (timesQ (norm 1 (a + i)) (norm 1 (a + i + 1))).2 ≠ 0 := by
      have := norm_pos (a := (norm 1 (a + i)).1 * (norm 1 (a + i + 1)).1) (b := (norm 1 (a + i)).2 * (norm 1 (a + i + 1)).2) (Int.mul_ne_zero w3.1 w4.1)
      show (norm _ _).2 ≠ 0
      omega
    have w6 : Sm 20 (timesQ (norm 1 (a + i)) (norm 1 (a + i + 1))) := Sm.norm (w3.2.times w4.2) (Int.mul_ne_zero w3.1 w4.1)
    have mi := m1 i (by omega) (by omega)
    have w7 : (norm (i : Int) (a * (a + (i : Int)))).2 ≠ 0 := by
      have := norm_pos (a := (i : Int)) (b := a * (a + (i : Int))) (by omega)
      omega
    have w8 : Sm 20 (norm (i : Int) (a * (a + (i : Int)))) := Sm.norm ⟨by show Int.natAbs (i : Int) < 1048576; omega, by show Int.natAbs (a * (a + (i : Int))) < 1048576; omega⟩ (by omega)
    refine ds_asg (d := dQ (norm ((i + 1 : Nat) : Int) (a * (a + ((i + 1 : Nat) : Int))))) 7 nd (de_eq (de_callX (k_plus T) (hr.mono (by decide)) (da_cons (de_var 7 rfl) (da_cons (de_callX (k_times T) (hr.mono (by decide)) (da_cons (de_callX (k_ratio T) (hr.mono (by decide)) (da_cons de_int (da_cons (de_add (de_var 13 rfl) (de_var 3 rfl)) da_nil)) (ratio_val (by omega) (big (n := 10) (by show Int.natAbs _ < 1024; omega) (by decide)))) (da_cons (de_callX (k_ratio T) (hr.mono (by decide)) (da_cons de_int (da_cons (de_add (de_add (de_var 13 rfl) (de_var 3 rfl)) de_int) da_nil)) (ratio_val (by omega) (big (n := 10) (by show Int.natAbs _ < 1024; omega) (by decide)))) da_nil)) (times_val (m := 10) (n := 10) w3.1 w4.1 w3.2 w4.2 (by decide) (by decide) (by decide))) da_nil)) (plus_val (m := 20) (n := 20) w7 w5 w8 w6 (by decide) (by decide) (by decide))) ?_) ?_
    · rw [tele (by omega) (by omega)]
      rfl
    exact dss_nil ⟨some (.int i), rfl⟩
  · rintro _ ⟨t3, rfl⟩
    exact ⟨t3, rfl⟩
  rintro _ ⟨t3', rfl⟩
  have mc := m1 c (by omega) (by omega)
  exact ds_ret (de_call S2 hr2 (da_cons (de_var 7 rfl) (da_cons (de_call (k__law_ratio T) (hr.mono (by decide)) (da_cons (de_var 14 rfl) (da_cons (de_mul (de_var 13 rfl) (de_add (de_var 13 rfl) (de_var 14 rfl)) (.inl ⟨by omega, by omega⟩)) da_nil)) ⟨_, _, rfl, by omega, big (n := 20) (by show Int.natAbs _ < 1048576; omega) (by decide), big (n := 20) (by show Int.natAbs _ < 1048576; omega) (by decide), rfl⟩) da_nil)) same_Q) rfl

end
theorem all_mk {l : PySem.W.OpenLaw} {w : World} {K : PySem.W.Frag} {h : Heap} {mg : Str → Option Value} {fa : Addr} (X : K.In h) (G : h.Ns mainGlobals mg) (hfa : mg "law" = some (.ref fa))
    {f0 : Addr} {od0 an0 : Option Addr} {sl0 : Array (Option Value)} {oc0 kV0 dc0 pm0 cd0 ct0 : Value}
    {f1 : Addr} {od1 an1 : Option Addr} {sl1 : Array (Option Value)} {oc1 kV1 dc1 pm1 cd1 ct1 : Value}
    {f2 : Addr} {od2 an2 : Option Addr} {sl2 : Array (Option Value)} {oc2 kV2 dc2 pm2 cd2 ct2 : Value}
    {f3 : Addr} {od3 an3 : Option Addr} {sl3 : Array (Option Value)} {oc3 kV3 dc3 pm3 cd3 ct3 : Value}
    {f4 : Addr} {od4 an4 : Option Addr} {sl4 : Array (Option Value)} {oc4 kV4 dc4 pm4 cd4 ct4 : Value}
    {f5 : Addr} {od5 an5 : Option Addr} {sl5 : Array (Option Value)} {oc5 kV5 dc5 pm5 cd5 ct5 : Value}
    {f6 : Addr} {od6 an6 : Option Addr} {sl6 : Array (Option Value)} {oc6 kV6 dc6 pm6 cd6 ct6 : Value}
    {f7 : Addr} {od7 an7 : Option Addr} {sl7 : Array (Option Value)} {oc7 kV7 dc7 pm7 cd7 ct7 : Value}
    {f8 : Addr} {od8 an8 : Option Addr} {sl8 : Array (Option Value)} {oc8 kV8 dc8 pm8 cd8 ct8 : Value}
    {f9 : Addr} {od9 an9 : Option Addr} {sl9 : Array (Option Value)} {oc9 kV9 dc9 pm9 cd9 ct9 : Value}
    {f10 : Addr} {od10 an10 : Option Addr} {sl10 : Array (Option Value)} {oc10 kV10 dc10 pm10 cd10 ct10 : Value}
    {f11 : Addr} {od11 an11 : Option Addr} {sl11 : Array (Option Value)} {oc11 kV11 dc11 pm11 cd11 ct11 : Value}
    {f12 : Addr} {od12 an12 : Option Addr} {sl12 : Array (Option Value)} {oc12 kV12 dc12 pm12 cd12 ct12 : Value}
    {f13 : Addr} {od13 an13 : Option Addr} {sl13 : Array (Option Value)} {oc13 kV13 dc13 pm13 cd13 ct13 : Value}
    {f14 : Addr} {od14 an14 : Option Addr} {sl14 : Array (Option Value)} {oc14 kV14 dc14 pm14 cd14 ct14 : Value}
    (a0 : PySem.W.nsIn K mainGlobals "common_divisor" = some (some (.ref f0))) (l0 : K.lookup f0 = some ⟨oc0, od0, .func (PySem.W.fnOf "common_divisor" "common_divisor" (defArgs s_common_divisor) (defBody s_common_divisor) (defScope s_common_divisor) .none kV0 dc0 pm0 an0 cd0 ct0), sl0⟩) (c0 : PySem.W.codeIn K cd0 "common_divisor" = true) (k0 : PySem.W.keepIn K (.ref f0) = true)
    (a1 : PySem.W.nsIn K mainGlobals "ratio" = some (some (.ref f1))) (l1 : K.lookup f1 = some ⟨oc1, od1, .func (PySem.W.fnOf "ratio" "ratio" (defArgs s_ratio) (defBody s_ratio) (defScope s_ratio) .none kV1 dc1 pm1 an1 cd1 ct1), sl1⟩) (c1 : PySem.W.codeIn K cd1 "ratio" = true) (k1 : PySem.W.keepIn K (.ref f1) = true)
    (a2 : PySem.W.nsIn K mainGlobals "plus" = some (some (.ref f2))) (l2 : K.lookup f2 = some ⟨oc2, od2, .func (PySem.W.fnOf "plus" "plus" (defArgs s_plus) (defBody s_plus) (defScope s_plus) .none kV2 dc2 pm2 an2 cd2 ct2), sl2⟩) (c2 : PySem.W.codeIn K cd2 "plus" = true) (k2 : PySem.W.keepIn K (.ref f2) = true)
    (a3 : PySem.W.nsIn K mainGlobals "minus" = some (some (.ref f3))) (l3 : K.lookup f3 = some ⟨oc3, od3, .func (PySem.W.fnOf "minus" "minus" (defArgs s_minus) (defBody s_minus) (defScope s_minus) .none kV3 dc3 pm3 an3 cd3 ct3), sl3⟩) (c3 : PySem.W.codeIn K cd3 "minus" = true) (k3 : PySem.W.keepIn K (.ref f3) = true)
    (a4 : PySem.W.nsIn K mainGlobals "times" = some (some (.ref f4))) (l4 : K.lookup f4 = some ⟨oc4, od4, .func (PySem.W.fnOf "times" "times" (defArgs s_times) (defBody s_times) (defScope s_times) .none kV4 dc4 pm4 an4 cd4 ct4), sl4⟩) (c4 : PySem.W.codeIn K cd4 "times" = true) (k4 : PySem.W.keepIn K (.ref f4) = true)
    (a5 : PySem.W.nsIn K mainGlobals "over" = some (some (.ref f5))) (l5 : K.lookup f5 = some ⟨oc5, od5, .func (PySem.W.fnOf "over" "over" (defArgs s_over) (defBody s_over) (defScope s_over) .none kV5 dc5 pm5 an5 cd5 ct5), sl5⟩) (c5 : PySem.W.codeIn K cd5 "over" = true) (k5 : PySem.W.keepIn K (.ref f5) = true)
    (a6 : PySem.W.nsIn K mainGlobals "_law_start" = some (some (.ref f6))) (l6 : K.lookup f6 = some ⟨oc6, od6, .func (PySem.W.fnOf "_law_start" "_law_start" (defArgs s__law_start) (defBody s__law_start) (defScope s__law_start) .none kV6 dc6 pm6 an6 cd6 ct6), sl6⟩) (c6 : PySem.W.codeIn K cd6 "_law_start" = true) (k6 : PySem.W.keepIn K (.ref f6) = true)
    (a7 : PySem.W.nsIn K mainGlobals "_law_take" = some (some (.ref f7))) (l7 : K.lookup f7 = some ⟨oc7, od7, .func (PySem.W.fnOf "_law_take" "_law_take" (defArgs s__law_take) (defBody s__law_take) (defScope s__law_take) .none kV7 dc7 pm7 an7 cd7 ct7), sl7⟩) (c7 : PySem.W.codeIn K cd7 "_law_take" = true) (k7 : PySem.W.keepIn K (.ref f7) = true)
    (a8 : PySem.W.nsIn K mainGlobals "_law_pick" = some (some (.ref f8))) (l8 : K.lookup f8 = some ⟨oc8, od8, .func (PySem.W.fnOf "_law_pick" "_law_pick" (defArgs s__law_pick) (defBody s__law_pick) (defScope s__law_pick) .none kV8 dc8 pm8 an8 cd8 ct8), sl8⟩) (c8 : PySem.W.codeIn K cd8 "_law_pick" = true) (k8 : PySem.W.keepIn K (.ref f8) = true)
    (a9 : PySem.W.nsIn K mainGlobals "_law_same" = some (some (.ref f9))) (l9 : K.lookup f9 = some ⟨oc9, od9, .func (PySem.W.fnOf "_law_same" "_law_same" (defArgs s__law_same) (defBody s__law_same) (defScope s__law_same) .none kV9 dc9 pm9 an9 cd9 ct9), sl9⟩) (c9 : PySem.W.codeIn K cd9 "_law_same" = true) (k9 : PySem.W.keepIn K (.ref f9) = true)
    (a10 : PySem.W.nsIn K mainGlobals "_law_divisor" = some (some (.ref f10))) (l10 : K.lookup f10 = some ⟨oc10, od10, .func (PySem.W.fnOf "_law_divisor" "_law_divisor" (defArgs s__law_divisor) (defBody s__law_divisor) (defScope s__law_divisor) .none kV10 dc10 pm10 an10 cd10 ct10), sl10⟩) (c10 : PySem.W.codeIn K cd10 "_law_divisor" = true) (k10 : PySem.W.keepIn K (.ref f10) = true)
    (a11 : PySem.W.nsIn K mainGlobals "_law_ratio" = some (some (.ref f11))) (l11 : K.lookup f11 = some ⟨oc11, od11, .func (PySem.W.fnOf "_law_ratio" "_law_ratio" (defArgs s__law_ratio) (defBody s__law_ratio) (defScope s__law_ratio) .none kV11 dc11 pm11 an11 cd11 ct11), sl11⟩) (c11 : PySem.W.codeIn K cd11 "_law_ratio" = true) (k11 : PySem.W.keepIn K (.ref f11) = true)
    (a12 : PySem.W.nsIn K mainGlobals "_law_great" = some (some (.ref f12))) (l12 : K.lookup f12 = some ⟨oc12, od12, .func (PySem.W.fnOf "_law_great" "_law_great" (defArgs s__law_great) (defBody s__law_great) (defScope s__law_great) .none kV12 dc12 pm12 an12 cd12 ct12), sl12⟩) (c12 : PySem.W.codeIn K cd12 "_law_great" = true) (k12 : PySem.W.keepIn K (.ref f12) = true)
    (a13 : PySem.W.nsIn K mainGlobals "_law_refused" = some (some (.ref f13))) (l13 : K.lookup f13 = some ⟨oc13, od13, .func (PySem.W.fnOf "_law_refused" "_law_refused" (defArgs s__law_refused) (defBody s__law_refused) (defScope s__law_refused) .none kV13 dc13 pm13 an13 cd13 ct13), sl13⟩) (c13 : PySem.W.codeIn K cd13 "_law_refused" = true) (k13 : PySem.W.keepIn K (.ref f13) = true)
    (a14 : PySem.W.nsIn K mainGlobals "law" = some (some (.ref f14))) (l14 : K.lookup f14 = some ⟨oc14, od14, .func (PySem.W.fnOf "law" "law" (defArgs s_law) (defBody s_law) (defScope s_law) .none kV14 dc14 pm14 an14 cd14 ct14), sl14⟩) (c14 : PySem.W.codeIn K cd14 "law" = true) (k14 : PySem.W.keepIn K (.ref f14) = true)
    (z_abs : PySem.W.nsIn K mainGlobals "abs" = some none)
    (z_range : PySem.W.nsIn K mainGlobals "range" = some none)
    (z_min : PySem.W.nsIn K mainGlobals "min" = some none)
    (z_len : PySem.W.nsIn K mainGlobals "len" = some none)
    (z_int : PySem.W.nsIn K mainGlobals "int" = some none)
    (z_isinstance : PySem.W.nsIn K mainGlobals "isinstance" = some none)
    (z_list : PySem.W.nsIn K mainGlobals "list" = some none)
    (z_tuple : PySem.W.nsIn K mainGlobals "tuple" = some none)
    (z_dict : PySem.W.nsIn K mainGlobals "dict" = some none)
    (z_bool : PySem.W.nsIn K mainGlobals "bool" = some none)
    (z_str : PySem.W.nsIn K mainGlobals "str" = some none)
    {C_DrawnError : Addr} (xg_DrawnError : PySem.W.nsIn K mainGlobals "DrawnError" = some (some (.ref C_DrawnError)))
    (xk_DrawnError : PySem.W.keepIn K (.ref C_DrawnError) = true)
    (xb_DrawnError : PySem.W.subIn K (.ref C_DrawnError) (.type "BaseException") = some true)
    (xt_DrawnError : PySem.W.typeIn K (.ref C_DrawnError) = some (.type "type"))
    (xd_DrawnError : PySem.W.hasDictIn K C_DrawnError = true)
    (xga_DrawnError : PySem.W.findIn K (.ref C_DrawnError) "__getattribute__" = some (some (.builtin "BaseException.__getattribute__")))
    (xgg_DrawnError : PySem.W.findIn K (.ref C_DrawnError) "__getattr__" = some none)
    (xca_DrawnError : PySem.W.findIn K (.ref C_DrawnError) "__class__" = some (some (.builtin "object.__class__")))
    (xcn_DrawnError : PySem.W.specialIn K (.builtin "object.__class__") "__get__" = some (some (.builtin "getset_descriptor.__get__")))
    (xct_DrawnError : PySem.W.takesIn K (.builtin "object.__class__") = some true)
    (xcm_DrawnError : PySem.W.mroIn K C_DrawnError (.type "object") = some true)
    {C_NoInverse : Addr} (xg_NoInverse : PySem.W.nsIn K mainGlobals "NoInverse" = some (some (.ref C_NoInverse)))
    (xk_NoInverse : PySem.W.keepIn K (.ref C_NoInverse) = true)
    (xb_NoInverse : PySem.W.subIn K (.ref C_NoInverse) (.type "BaseException") = some true)
    (xt_NoInverse : PySem.W.typeIn K (.ref C_NoInverse) = some (.type "type"))
    (xd_NoInverse : PySem.W.hasDictIn K C_NoInverse = true)
    (xga_NoInverse : PySem.W.findIn K (.ref C_NoInverse) "__getattribute__" = some (some (.builtin "BaseException.__getattribute__")))
    (xgg_NoInverse : PySem.W.findIn K (.ref C_NoInverse) "__getattr__" = some none)
    (xca_NoInverse : PySem.W.findIn K (.ref C_NoInverse) "__class__" = some (some (.builtin "object.__class__")))
    (xcn_NoInverse : PySem.W.specialIn K (.builtin "object.__class__") "__get__" = some (some (.builtin "getset_descriptor.__get__")))
    (xct_NoInverse : PySem.W.takesIn K (.builtin "object.__class__") = some true)
    (xcm_NoInverse : PySem.W.mroIn K C_NoInverse (.type "object") = some true)
    (e_DrawnError : PySem.W.excIn K C_DrawnError [.type "ValueError", .type "Exception", .type "BaseException", .type "object"] "ValueError.__new__" = true)
    (e_NoInverse : PySem.W.excIn K C_NoInverse [.type "ValueError", .type "Exception", .type "BaseException", .type "object"] "ValueError.__new__" = true)
    (s_DrawnError_DrawnError : PySem.W.subIn K (.ref C_DrawnError) (.ref C_DrawnError) = some true)
    (i_DrawnError_DrawnError : PySem.W.kitOne K (.ref C_DrawnError) (.ref C_DrawnError) = some true)
    (s_DrawnError_NoInverse : PySem.W.subIn K (.ref C_DrawnError) (.ref C_NoInverse) = some false)
    (i_DrawnError_NoInverse : PySem.W.kitOne K (.ref C_DrawnError) (.ref C_NoInverse) = some false)
    (s_NoInverse_DrawnError : PySem.W.subIn K (.ref C_NoInverse) (.ref C_DrawnError) = some true)
    (i_NoInverse_DrawnError : PySem.W.kitOne K (.ref C_NoInverse) (.ref C_DrawnError) = some true)
    (s_NoInverse_NoInverse : PySem.W.subIn K (.ref C_NoInverse) (.ref C_NoInverse) = some true)
    (i_NoInverse_NoInverse : PySem.W.kitOne K (.ref C_NoInverse) (.ref C_NoInverse) = some true)
    : ∃ fd : FuncData, (∀ (s : Shared) (v : Value), BindsTo s fd ⟨[v], []⟩ [("script", v)]) ∧ ∀ base : Heap, K.In base → base.Ns mainGlobals mg → FnOk l.prog w K mg base CX0 5 fa fd ["script"] (SpN K RLaw) := by
  have e := hfa.symm.trans (PySem.W.mg_of X G a14)
  cases e
  have h_DrawnError := clA_of (PySem.W.mg_of X G xg_DrawnError)
  have h_NoInverse := clA_of (PySem.W.mg_of X G xg_NoInverse)
  have T : Txt K mg :=
    ⟨PySem.W.mg_none_of X G z_abs,
     PySem.W.mg_none_of X G z_range,
     PySem.W.mg_none_of X G z_min,
     PySem.W.mg_none_of X G z_len,
     PySem.W.mg_none_of X G z_int,
     PySem.W.mg_none_of X G z_isinstance,
     PySem.W.mg_none_of X G z_list,
     PySem.W.mg_none_of X G z_tuple,
     PySem.W.mg_none_of X G z_dict,
     PySem.W.mg_none_of X G z_bool,
     PySem.W.mg_none_of X G z_str,
     defAt_mk (PySem.W.mg_of X G a0) l0 c0 k0 (fun _ _ _ _ _ _ us hl => match us, hl with | [_, _], _ => rfl),
     defAt_mk (PySem.W.mg_of X G a1) l1 c1 k1 (fun _ _ _ _ _ _ us hl => match us, hl with | [_, _], _ => rfl),
     defAt_mk (PySem.W.mg_of X G a2) l2 c2 k2 (fun _ _ _ _ _ _ us hl => match us, hl with | [_, _], _ => rfl),
     defAt_mk (PySem.W.mg_of X G a3) l3 c3 k3 (fun _ _ _ _ _ _ us hl => match us, hl with | [_, _], _ => rfl),
     defAt_mk (PySem.W.mg_of X G a4) l4 c4 k4 (fun _ _ _ _ _ _ us hl => match us, hl with | [_, _], _ => rfl),
     defAt_mk (PySem.W.mg_of X G a5) l5 c5 k5 (fun _ _ _ _ _ _ us hl => match us, hl with | [_, _], _ => rfl),
     defAt_mk (PySem.W.mg_of X G a6) l6 c6 k6 (fun _ _ _ _ _ _ us hl => match us, hl with | [_], _ => rfl),
     defAt_mk (PySem.W.mg_of X G a7) l7 c7 k7 (fun _ _ _ _ _ _ us hl => match us, hl with | [_, _], _ => rfl),
     defAt_mk (PySem.W.mg_of X G a8) l8 c8 k8 (fun _ _ _ _ _ _ us hl => match us, hl with | [_, _], _ => rfl),
     defAt_mk (PySem.W.mg_of X G a9) l9 c9 k9 (fun _ _ _ _ _ _ us hl => match us, hl with | [_, _], _ => rfl),
     defAt_mk (PySem.W.mg_of X G a10) l10 c10 k10 (fun _ _ _ _ _ _ us hl => match us, hl with | [_, _], _ => rfl),
     defAt_mk (PySem.W.mg_of X G a11) l11 c11 k11 (fun _ _ _ _ _ _ us hl => match us, hl with | [_, _], _ => rfl),
     defAt_mk (PySem.W.mg_of X G a12) l12 c12 k12 (fun _ _ _ _ _ _ us hl => match us, hl with | [_], _ => rfl),
     defAt_mk (PySem.W.mg_of X G a13) l13 c13 k13 (fun _ _ _ _ _ _ us hl => match us, hl with | [_, _, _], _ => rfl),
     defAt_mk (PySem.W.mg_of X G a14) l14 c14 k14 (fun _ _ _ _ _ _ us hl => match us, hl with | [_], _ => rfl),
     by rw [h_DrawnError]; exact ⟨PySem.W.mg_of X G xg_DrawnError, xk_DrawnError, xb_DrawnError, xt_DrawnError, xd_DrawnError, xga_DrawnError, xgg_DrawnError, xca_DrawnError, xcn_DrawnError, xct_DrawnError, xcm_DrawnError⟩,
     by rw [h_NoInverse]; exact ⟨PySem.W.mg_of X G xg_NoInverse, xk_NoInverse, xb_NoInverse, xt_NoInverse, xd_NoInverse, xga_NoInverse, xgg_NoInverse, xca_NoInverse, xcn_NoInverse, xct_NoInverse, xcm_NoInverse⟩,
     by rw [h_DrawnError]; exact e_DrawnError,
     by rw [h_NoInverse]; exact e_NoInverse,
     by rw [h_DrawnError]; exact s_DrawnError_DrawnError,
     by rw [h_DrawnError]; exact i_DrawnError_DrawnError,
     by rw [h_DrawnError, h_NoInverse]; exact s_DrawnError_NoInverse,
     by rw [h_DrawnError, h_NoInverse]; exact i_DrawnError_NoInverse,
     by rw [h_DrawnError, h_NoInverse]; exact s_NoInverse_DrawnError,
     by rw [h_DrawnError, h_NoInverse]; exact i_NoInverse_DrawnError,
     by rw [h_NoInverse]; exact s_NoInverse_NoInverse,
     by rw [h_NoInverse]; exact i_NoInverse_NoInverse⟩
  exact ⟨PySem.W.fnOf "law" "law" (defArgs s_law) (defBody s_law) (defScope s_law) .none kV14 dc14 pm14 an14 cd14 ct14, fun s v => .of_eq rfl, fun base _ _ => law_ok T (fun_mk (st := s_law) l14 c14 k14)⟩

end K01
open PySem PySem.W PyProof.Rows in
set_option maxRecDepth 100000 in
set_option maxHeartbeats 0 in
theorem PySem.Challenge.cw_drawntrue_k01_great_sums_of_fractions_holds : PySem.Challenge.rw_drawntrue_k01_great_sums_of_fractions.Holds := by
  w_on; o_law; k_head; (case hw => w_witness2)
  k_fill
  refine DL.walk (l := PySem.Challenge.rw_drawntrue_k01_great_sums_of_fractions) (k := 5) rfl ⟨rfl, by decide, by decide⟩ rfl (fun w h Y => PySem.W.kIn_of Y) ?F
  case F =>
    intro w mg fa h KX G hmg
    refine' K01.all_mk KX G hmg ?a0 ?l0 ?c0 ?k0 ?a1 ?l1 ?c1 ?k1 ?a2 ?l2 ?c2 ?k2 ?a3 ?l3 ?c3 ?k3 ?a4 ?l4 ?c4 ?k4 ?a5 ?l5 ?c5 ?k5 ?a6 ?l6 ?c6 ?k6 ?a7 ?l7 ?c7 ?k7 ?a8 ?l8 ?c8 ?k8 ?a9 ?l9 ?c9 ?k9 ?a10 ?l10 ?c10 ?k10 ?a11 ?l11 ?c11 ?k11 ?a12 ?l12 ?c12 ?k12 ?a13 ?l13 ?c13 ?k13 ?a14 ?l14 ?c14 ?k14 ?z_abs ?z_range ?z_min ?z_len ?z_int ?z_isinstance ?z_list ?z_tuple ?z_dict ?z_bool ?z_str ?xg_DrawnError ?xk_DrawnError ?xb_DrawnError ?xt_DrawnError ?xd_DrawnError ?xga_DrawnError ?xgg_DrawnError ?xca_DrawnError ?xcn_DrawnError ?xct_DrawnError ?xcm_DrawnError ?xg_NoInverse ?xk_NoInverse ?xb_NoInverse ?xt_NoInverse ?xd_NoInverse ?xga_NoInverse ?xgg_NoInverse ?xca_NoInverse ?xcn_NoInverse ?xct_NoInverse ?xcm_NoInverse ?e_DrawnError ?e_NoInverse ?s_DrawnError_DrawnError ?i_DrawnError_DrawnError ?s_DrawnError_NoInverse ?i_DrawnError_NoInverse ?s_NoInverse_DrawnError ?i_NoInverse_DrawnError ?s_NoInverse_NoInverse ?i_NoInverse_NoInverse
    (case a0 => k_is)
    (case l0 => k_is)
    (case c0 => k_is)
    (case k0 => k_is)
    (case a1 => k_is)
    (case l1 => k_is)
    (case c1 => k_is)
    (case k1 => k_is)
    (case a2 => k_is)
    (case l2 => k_is)
    (case c2 => k_is)
    (case k2 => k_is)
    (case a3 => k_is)
    (case l3 => k_is)
    (case c3 => k_is)
    (case k3 => k_is)
    (case a4 => k_is)
    (case l4 => k_is)
    (case c4 => k_is)
    (case k4 => k_is)
    (case a5 => k_is)
    (case l5 => k_is)
    (case c5 => k_is)
    (case k5 => k_is)
    (case a6 => k_is)
    (case l6 => k_is)
    (case c6 => k_is)
    (case k6 => k_is)
    (case a7 => k_is)
    (case l7 => k_is)
    (case c7 => k_is)
    (case k7 => k_is)
    (case a8 => k_is)
    (case l8 => k_is)
    (case c8 => k_is)
    (case k8 => k_is)
    (case a9 => k_is)
    (case l9 => k_is)
    (case c9 => k_is)
    (case k9 => k_is)
    (case a10 => k_is)
    (case l10 => k_is)
    (case c10 => k_is)
    (case k10 => k_is)
    (case a11 => k_is)
    (case l11 => k_is)
    (case c11 => k_is)
    (case k11 => k_is)
    (case a12 => k_is)
    (case l12 => k_is)
    (case c12 => k_is)
    (case k12 => k_is)
    (case a13 => k_is)
    (case l13 => k_is)
    (case c13 => k_is)
    (case k13 => k_is)
    (case a14 => k_is)
    (case l14 => k_is)
    (case c14 => k_is)
    (case k14 => k_is)
    (case z_abs => k_is)
    (case z_range => k_is)
    (case z_min => k_is)
    (case z_len => k_is)
    (case z_int => k_is)
    (case z_isinstance => k_is)
    (case z_list => k_is)
    (case z_tuple => k_is)
    (case z_dict => k_is)
    (case z_bool => k_is)
    (case z_str => k_is)
    (case xg_DrawnError => k_is)
    (case xk_DrawnError => k_is)
    (case xb_DrawnError => k_is)
    (case xt_DrawnError => k_is)
    (case xd_DrawnError => k_is)
    (case xga_DrawnError => k_is)
    (case xgg_DrawnError => k_is)
    (case xca_DrawnError => k_is)
    (case xcn_DrawnError => k_is)
    (case xct_DrawnError => k_is)
    (case xcm_DrawnError => k_is)
    (case xg_NoInverse => k_is)
    (case xk_NoInverse => k_is)
    (case xb_NoInverse => k_is)
    (case xt_NoInverse => k_is)
    (case xd_NoInverse => k_is)
    (case xga_NoInverse => k_is)
    (case xgg_NoInverse => k_is)
    (case xca_NoInverse => k_is)
    (case xcn_NoInverse => k_is)
    (case xct_NoInverse => k_is)
    (case xcm_NoInverse => k_is)
    (case e_DrawnError => k_exc)
    (case e_NoInverse => k_exc)
    (case s_DrawnError_DrawnError => k_is)
    (case i_DrawnError_DrawnError => kit_is)
    (case s_DrawnError_NoInverse => k_is)
    (case i_DrawnError_NoInverse => kit_is)
    (case s_NoInverse_DrawnError => k_is)
    (case i_NoInverse_DrawnError => kit_is)
    (case s_NoInverse_NoInverse => k_is)
    (case i_NoInverse_NoInverse => kit_is)

