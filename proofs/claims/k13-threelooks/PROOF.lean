import PyProof.Rows.All
import Wide.All
import OpenK.AllK
import Wide.FinOn
import HandS.ForMost
import HandS.Wide
import HandS.IsInst
import HandS.TupAny
import HandS.Zip
import HandS.Style
import HandS.Rev
import HandS.Conv
import HandS.Walk
import HandS.SortInts
import HandS.Flow
import KE.GoesMore
import KE.KTupSum
import KE.KIndexOf
import HandS.Codes
import KE.BitLaws
import PySem.Challenge.RW_fewthrows_k13_whole_bit_tables_added_and
set_option Elab.async false
set_option linter.all false
set_option maxRecDepth 100000
/-! VL: a layer of plain data over HandS. Slots hold data (im) or a list of one's own (ow); a reading speaks of data alone. -/
namespace VL
open PySem L2

abbrev D := PyData
abbrev Ex (H H' : Hp) : Prop := ∀ a o, H a = some o → H' a = some o
theorem Ex.refl (H : Hp) : Ex H H := fun _ _ h => h
theorem Ex.trans {H H1 H2 : Hp} (a : Ex H H1) (b : Ex H1 H2) : Ex H H2 := fun x o h => b x o (a x o h)
theorem Ex.new {H : Hp} {p : Addr} {o : HO} (h : H p = none) : Ex H (upd H p o) := fun a u e => by
  rw [upd_ne (ne_of_none e h)]
  exact e
theorem ex_seqL {K : PySem.W.Frag} {H H' : Hp} {a : Addr} {xs : List V} (e : Ex H H') (h : SqL K H a xs) : SqL K H' a xs := by
  rcases h with (h | ⟨o, h⟩) | h
  · exact .inl (.inl (e _ _ h))
  · exact .inl (.inr ⟨o, e _ _ h⟩)
  · exact .inr h
theorem ex_seqT {K : PySem.W.Frag} {H H' : Hp} {a : Addr} {xs : List V} (e : Ex H H') (h : SqT K H a xs) : SqT K H' a xs := by
  rcases h with (h | ⟨o, h⟩) | h
  · exact .inl (.inl (e _ _ h))
  · exact .inl (.inr ⟨o, e _ _ h⟩)
  · exact .inr h
mutual
theorem dp_mono {K : PySem.W.Frag} {H H' : Hp} (e : Ex H H') : ∀ (d : D) (v : V), Dp K H v d → Dp K H' v d
  | .none, _, h => by cases h; exact .non
  | .bool b, _, h => by cases h; exact .bl b
  | .int i, _, h => by cases h; exact .int i
  | .str x, _, h => by cases h; exact .str x
  | .list ds, _, h => by
    cases h with
    | lst hs ha => exact .lst (ex_seqL e hs) (dps_mono e ds _ ha)
  | .tuple ds, _, h => by
    cases h with
    | tup hs ha => exact .tup (ex_seqT e hs) (dps_mono e ds _ ha)
  | .dict _, _, h => by cases h
theorem dps_mono {K : PySem.W.Frag} {H H' : Hp} (e : Ex H H') : ∀ (ds : List D) (vs : List V), DpAll K H vs ds → DpAll K H' vs ds
  | [], _, h => by cases h; exact .nil
  | d :: ds, _, h => by
    cases h with
    | cons h1 h2 => exact .cons (dp_mono e d _ h1) (dps_mono e ds _ h2)
end
theorem dps_len {K : PySem.W.Frag} {H : Hp} : ∀ {vs : List V} {ds : List D}, DpAll K H vs ds → vs.length = ds.length
  | _, _, .nil => rfl
  | _, _, .cons _ t => congrArg (· + 1) (dps_len t)
theorem dps_get {K : PySem.W.Frag} {H : Hp} : ∀ {vs : List V} {ds : List D} {i : Nat} {d : D}, DpAll K H vs ds → ds[i]? = some d → ∃ v, vs[i]? = some v ∧ Dp K H v d
  | _, _, _, _, .nil, e => by simp at e
  | _, _, 0, d, .cons h t, e => by
    simp at e
    subst e
    exact ⟨_, rfl, h⟩
  | _, _, i + 1, d, .cons h t, e => by
    obtain ⟨v, h1, h2⟩ := dps_get (i := i) (d := d) t (by simpa using e)
    exact ⟨v, by simpa using h1, h2⟩
theorem dps_getV {K : PySem.W.Frag} {H : Hp} : ∀ {vs : List V} {ds : List D} {i : Nat} {v : V}, DpAll K H vs ds → vs[i]? = some v → ∃ d, ds[i]? = some d ∧ Dp K H v d
  | _, _, _, _, .nil, e => by simp at e
  | _, _, 0, d, .cons h t, e => by
    simp at e
    subst e
    exact ⟨_, rfl, h⟩
  | _, _, i + 1, d, .cons h t, e => by
    obtain ⟨v, h1, h2⟩ := dps_getV (i := i) (v := d) t (by simpa using e)
    exact ⟨v, by simpa using h1, h2⟩
theorem dps_app {K : PySem.W.Frag} {H : Hp} : ∀ {vs : List V} {ds : List D} {ws : List V} {es : List D}, DpAll K H vs ds → DpAll K H ws es → DpAll K H (vs ++ ws) (ds ++ es)
  | _, _, _, _, .nil, b => b
  | _, _, _, _, .cons h t, b => .cons h (dps_app t b)
theorem dps_take {K : PySem.W.Frag} {H : Hp} : ∀ (n : Nat) {vs : List V} {ds : List D}, DpAll K H vs ds → DpAll K H (vs.take n) (ds.take n)
  | 0, _, _, _ => .nil
  | _ + 1, _, _, .nil => .nil
  | n + 1, _, _, .cons h t => .cons h (dps_take n t)
theorem dps_drop {K : PySem.W.Frag} {H : Hp} : ∀ (n : Nat) {vs : List V} {ds : List D}, DpAll K H vs ds → DpAll K H (vs.drop n) (ds.drop n)
  | 0, _, _, h => h
  | _ + 1, _, _, .nil => .nil
  | n + 1, _, _, .cons h t => dps_drop n t
theorem dps_set {K : PySem.W.Frag} {H : Hp} {v : V} {d : D} (r : Dp K H v d) : ∀ (i : Nat) {vs : List V} {ds : List D}, DpAll K H vs ds → DpAll K H (vs.set i v) (ds.set i d)
  | _, _, _, .nil => .nil
  | 0, _, _, .cons _ t => .cons r t
  | i + 1, _, _, .cons h t => .cons h (dps_set r i t)
theorem dps_erase {K : PySem.W.Frag} {H : Hp} : ∀ (i : Nat) {vs : List V} {ds : List D}, DpAll K H vs ds → DpAll K H (vs.eraseIdx i) (ds.eraseIdx i)
  | _, _, _, .nil => .nil
  | 0, _, _, .cons _ t => t
  | i + 1, _, _, .cons h t => .cons h (dps_erase i t)
theorem dps_rev {K : PySem.W.Frag} {H : Hp} : ∀ {vs : List V} {ds : List D}, DpAll K H vs ds → DpAll K H vs.reverse ds.reverse
  | _, _, .nil => .nil
  | _, _, .cons h t => by
    rw [List.reverse_cons, List.reverse_cons]
    exact dps_app (dps_rev t) (.cons h .nil)
theorem dps_ints {K : PySem.W.Frag} {H : Hp} : ∀ {vs : List V} (is : List Int), DpAll K H vs (is.map PyData.int) → vs = is.map V.int
  | _, [], h => by cases h; rfl
  | _, i :: is, h => by
    cases h with
    | cons h1 h2 =>
      cases h1
      rw [dps_ints is h2]
      rfl
theorem dps_bools {K : PySem.W.Frag} {H : Hp} : ∀ {vs : List V} (is : List Bool), DpAll K H vs (is.map PyData.bool) → vs = is.map V.bl
  | _, [], h => by cases h; rfl
  | _, i :: is, h => by
    cases h with
    | cons h1 h2 =>
      cases h1
      rw [dps_bools is h2]
      rfl
theorem dps_of_ints {K : PySem.W.Frag} {H : Hp} : ∀ (is : List Int), DpAll K H (is.map V.int) (is.map PyData.int)
  | [] => .nil
  | i :: is => .cons (.int i) (dps_of_ints is)

/-! ### slots, results -/
inductive SV where
  | im (d : D)
  | tp (ds : List D)
  | ow (p : Addr) (ds : List D)
def SV.stays : SV → Bool
  | .ow _ _ => false
  | _ => true
/-- a tuple whose object has no dict of its own -/
def PlT (K : PySem.W.Frag) (HS : Hp) (v : V) (ds : List D) : Prop := ∃ (a : Addr) (o : Obj) (vs : List V), v = .ref a ∧ HS a = some (.frz o (.tup vs)) ∧ o.dict = none ∧ DpAll K HS vs ds
theorem PlT.mono {K : PySem.W.Frag} {HS HS' : Hp} {v : V} {ds : List D} (e : Ex HS HS') (h : PlT K HS v ds) : PlT K HS' v ds := by
  obtain ⟨a, o, vs, h1, h2, h3, h4⟩ := h
  exact ⟨a, o, vs, h1, e a _ h2, h3, dps_mono e ds vs h4⟩
theorem PlT.dp {K : PySem.W.Frag} {HS : Hp} {v : V} {ds : List D} (h : PlT K HS v ds) : Dp K HS v (.tuple ds) := by
  obtain ⟨a, o, vs, rfl, h2, h3, h4⟩ := h
  exact .tup (.inl (.inr ⟨o, h2⟩)) h4
def RepI (K : PySem.W.Frag) (HS : Hp) (v : V) : SV → Prop
  | .im d => Dp K HS v d
  | .tp ds => PlT K HS v ds
  | .ow _ _ => False
theorem RepI.mono {K : PySem.W.Frag} {HS HS' : Hp} {v : V} (e : Ex HS HS') : ∀ {s : SV}, RepI K HS v s → RepI K HS' v s
  | .im d, h => dp_mono e d v h
  | .tp _, h => PlT.mono e h
  | .ow _ _, h => h
abbrev Env := List (Option SV)
/-- what an expression gives: a thing that stays, the list of a slot, a new list -/
inductive R where
  | v (d : D)
  | tp (ds : List D)
  | pl (i : Nat)
  | nw (p : Addr) (ds : List D)

def Own (ρ : Env) (a : Addr) : Prop := ∃ (i : Nat) (ds : List D), ρ[i]? = some (some (.ow a ds))
structure Sim (K : PySem.W.Frag) (ρ : Env) (σ : L2.St) (HS H : Hp) : Prop where
  len : σ.length = ρ.length
  sub : Ex HS H
  im : ∀ (i : Nat) (s : SV), ρ[i]? = some (some s) → s.stays = true → ∃ v, σ[i]? = some (some v) ∧ RepI K HS v s
  ow : ∀ (i : Nat) (p : Addr) (ds : List D), ρ[i]? = some (some (.ow p ds)) → σ[i]? = some (some (.ref p)) ∧ HS p = none ∧ ∃ vs, H p = some (.lst vs) ∧ DpAll K HS vs ds
  inj : ∀ (i j : Nat) (p : Addr) (ds es : List D), ρ[i]? = some (some (.ow p ds)) → ρ[j]? = some (some (.ow p es)) → i = j
structure Step (ρ : Env) (HS H : Hp) (ρ' : Env) (HS' H' : Hp) : Prop where
  ex : Ex HS HS'
  keep : ∀ a o, H a = some o → ¬ Own ρ a → H' a = some o
  hs : ∀ a o, H a = some o → ¬ Own ρ a → HS a = none → HS' a = none
  own : ∀ a, Own ρ' a → Own ρ a ∨ H a = none
  live : ∀ a, H' a = none → H a = none
theorem Step.refl (ρ : Env) (HS H : Hp) : Step ρ HS H ρ HS H := ⟨Ex.refl _, fun _ _ h _ => h, fun _ _ _ _ h => h, fun _ h => .inl h, fun _ h => h⟩
theorem Step.trans {ρ ρ1 ρ2 : Env} {HS H HS1 H1 HS2 H2 : Hp} (a : Step ρ HS H ρ1 HS1 H1) (b : Step ρ1 HS1 H1 ρ2 HS2 H2) : Step ρ HS H ρ2 HS2 H2 := by
  have no : ∀ x o, H x = some o → ¬ Own ρ x → ¬ Own ρ1 x := fun x o h n q => (a.own x q).elim n fun z => by
    rw [h] at z
    cases z
  refine ⟨a.ex.trans b.ex, fun x o h n => b.keep x o (a.keep x o h n) (no x o h n), fun x o h n z => b.hs x o (a.keep x o h n) (no x o h n) (a.hs x o h n z), fun x q => ?_, fun x q => a.live x (b.live x q)⟩
  rcases b.own x q with q | q
  · exact a.own x q
  · exact .inr (a.live x q)
/-- a result r is told by the value v; H0: the heap ahead of the expression -/
def RepR (K : PySem.W.Frag) (H0 : Hp) (σ : L2.St) (ρ : Env) (HS H : Hp) (v : V) : R → Prop
  | .v d => Dp K HS v d
  | .tp ds => PlT K HS v ds
  | .pl i => σ[i]? = some (some v)
  | .nw p ds => v = .ref p ∧ H0 p = none ∧ HS p = none ∧ ¬ Own ρ p ∧ ∃ vs, H p = some (.lst vs) ∧ DpAll K HS vs ds
theorem RepR.step {K : PySem.W.Frag} {H0 : Hp} {σ : L2.St} {ρ ρ' : Env} {HS H HS' H' : Hp} {v : V} (s : Step ρ HS H ρ' HS' H') : ∀ {r : R}, RepR K H0 σ ρ HS H v r → RepR K H0 σ ρ' HS' H' v r
  | .v d, h => dp_mono s.ex d v h
  | .tp _, h => PlT.mono s.ex h
  | .pl i, h => h
  | .nw p ds, ⟨h1, h2, h3, h4, vs, h5, h6⟩ => ⟨h1, h2, s.hs p _ h5 h4 h3, fun q => (s.own p q).elim h4 (fun z => by rw [h5] at z; cases z), vs, s.keep p _ h5 h4, dps_mono s.ex ds vs h6⟩
theorem RepR.from {K : PySem.W.Frag} {H0 H1 : Hp} {σ : L2.St} {ρ : Env} {HS H : Hp} {v : V} (l : ∀ a, H1 a = none → H0 a = none) : ∀ {r : R}, RepR K H1 σ ρ HS H v r → RepR K H0 σ ρ HS H v r
  | .v d, h => h
  | .tp _, h => h
  | .pl i, h => h
  | .nw p ds, ⟨h1, h2, h3⟩ => ⟨h1, l p h2, h3⟩

abbrev W := Env → (R → Env → Prop) → Prop
abbrev WV := Env → (D → Env → Prop) → Prop
abbrev WT := Env → (Bool → Env → Prop) → Prop
abbrev WA := Env → (List D → Env → Prop) → Prop
abbrev WO := Env → (Option Int → Env → Prop) → Prop

/-- the readings over the heap: k is what the plain reading w was asked for -/
def tW (K : PySem.W.Frag) (w : W) : TE := fun σ H Q => ∃ ρ HS k, Sim K ρ σ HS H ∧ w ρ k ∧ ∀ r ρ' v H' HS', k r ρ' → Sim K ρ' σ HS' H' → Step ρ HS H ρ' HS' H' → RepR K H σ ρ' HS' H' v r → Q v H'
def tV (K : PySem.W.Frag) (w : WV) : TE := fun σ H Q => ∃ ρ HS k, Sim K ρ σ HS H ∧ w ρ k ∧ ∀ d ρ' v H' HS', k d ρ' → Sim K ρ' σ HS' H' → Step ρ HS H ρ' HS' H' → Dp K HS' v d → Q v H'
def tB (K : PySem.W.Frag) (w : WT) : TT := fun σ H Q => ∃ ρ HS k, Sim K ρ σ HS H ∧ w ρ k ∧ ∀ b ρ' H' HS', k b ρ' → Sim K ρ' σ HS' H' → Step ρ HS H ρ' HS' H' → Q b H'
def tA (K : PySem.W.Frag) (w : WA) : TA := fun σ H Q => ∃ ρ HS k, Sim K ρ σ HS H ∧ w ρ k ∧ ∀ ds ρ' vs H' HS', k ds ρ' → Sim K ρ' σ HS' H' → Step ρ HS H ρ' HS' H' → DpAll K HS' vs ds → Q vs H'
def tO (K : PySem.W.Frag) (w : WO) : TO := fun σ H Q => ∃ ρ HS k, Sim K ρ σ HS H ∧ w ρ k ∧ ∀ o ρ' H' HS', k o ρ' → Sim K ρ' σ HS' H' → Step ρ HS H ρ' HS' H' → Q o H'

theorem pe_imp {X : Cx} {e : Expr} {t t' : TE} (h : PE X e t) (i : ∀ σ H Q, t' σ H Q → t σ H Q) : PE X e t' := ⟨fun pins s σ H Q I q => h.run pins s σ H Q I (i σ H Q q)⟩
theorem pt_imp {X : Cx} {e : Expr} {t t' : TT} (h : PT X e t) (i : ∀ σ H Q, t' σ H Q → t σ H Q) : PT X e t' := ⟨fun pins s σ H Q I q => h.run pins s σ H Q I (i σ H Q q)⟩
theorem pw_imp {X : Cx} {e : Expr} {t t' : TT} (h : PW X e t) (i : ∀ σ H Q, t' σ H Q → t σ H Q) : PW X e t' := ⟨fun wh pins s σ H Q I q => h.run wh pins s σ H Q I (i σ H Q q)⟩
theorem pa_imp {X : Cx} {es : List Expr} {t t' : TA} (h : PA X es t) (i : ∀ σ H Q, t' σ H Q → t σ H Q) : PA X es t' := ⟨fun pos pins s σ H Q I q => h.run pos pins s σ H Q I (i σ H Q q)⟩
theorem po_imp {X : Cx} {o : Option Expr} {t t' : TO} (h : PO X o t) (i : ∀ σ H Q, t' σ H Q → t σ H Q) : PO X o t' := ⟨fun pins s σ H Q I q => h.run pins s σ H Q I (i σ H Q q)⟩
theorem ps_imp {X : Cx} {e : Stmt} {t t' : TS} (h : PS X e t) (i : ∀ D σ H, t' D σ H → t D σ H) : PS X e t' := ⟨fun pins s σ H D I q => h.run pins s σ H D I (i D σ H q)⟩
theorem pss_imp {X : Cx} {e : List Stmt} {t t' : TS} (h : PSs X e t) (i : ∀ D σ H, t' D σ H → t D σ H) : PSs X e t' := ⟨fun pins s σ H D I q => h.run pins s σ H D I (i D σ H q)⟩

/-! ### a result becomes a thing that stays -/
def toVal : R → Env → (D → Env → Prop) → Prop
  | .v d, ρ, k => k d ρ
  | .tp ds, ρ, k => k (.tuple ds) ρ
  | .nw _ ds, ρ, k => k (.list ds) ρ
  | .pl i, ρ, k => match ρ[i]? with
    | some (some (.im d)) => k d ρ
    | some (some (.tp ds)) => k (.tuple ds) ρ
    | some (some (.ow _ ds)) => k (.list ds) (ρ.set i (some (.im (.list ds))))
    | _ => False
theorem get_set {ρ : Env} {i j : Nat} {x y : Option SV} (h : (ρ.set i x)[j]? = some y) : (i = j ∧ x = y) ∨ (i ≠ j ∧ ρ[j]? = some y) := by
  by_cases e : i = j
  · subst e
    rw [List.getElem?_set_self'] at h
    cases q : ρ[i]? with
    | none => rw [q] at h; cases h
    | some z => rw [q] at h; cases h; exact .inl ⟨rfl, rfl⟩
  · rw [List.getElem?_set_ne e] at h
    exact .inr ⟨e, h⟩
theorem own_set_im {ρ : Env} {i : Nat} {s : SV} {a : Addr} (z : s.stays = true) (h : Own (ρ.set i (some s)) a) : Own ρ a := by
  obtain ⟨j, ds, h⟩ := h
  rcases get_set h with ⟨_, e⟩ | ⟨_, e⟩
  · cases e
    cases z
  · exact ⟨j, ds, e⟩
/-- a list that nobody else may change goes to the part that stays -/
theorem Sim.freeze {K : PySem.W.Frag} {ρ : Env} {σ : L2.St} {HS H : Hp} {p : Addr} {vs : List V} (S : Sim K ρ σ HS H) (h : HS p = none) (ho : H p = some (.lst vs)) (n : ¬ Own ρ p) : Sim K ρ σ (upd HS p (.lst vs)) H where
  len := S.len
  sub := fun a o e => by
    by_cases q : a = p
    · subst q
      rw [upd_same] at e
      cases e
      exact ho
    · rw [upd_ne q] at e
      exact S.sub a o e
  im := fun i d e z => let ⟨v, h1, h2⟩ := S.im i d e z; ⟨v, h1, h2.mono (Ex.new h)⟩
  ow := fun i q ds e => by
    obtain ⟨h1, h2, us, h3, h4⟩ := S.ow i q ds e
    have ne : q ≠ p := fun z => n (z ▸ ⟨i, ds, e⟩)
    exact ⟨h1, by rw [upd_ne ne]; exact h2, us, h3, dps_mono (Ex.new h) ds us h4⟩
  inj := S.inj
theorem Sim.drop {K : PySem.W.Frag} {ρ : Env} {σ : L2.St} {HS H : Hp} {i : Nat} {d : D} {v : V} (S : Sim K ρ σ HS H) (h : σ[i]? = some (some v)) (r : Dp K HS v d) : Sim K (ρ.set i (some (.im d))) σ HS H where
  len := by rw [List.length_set]; exact S.len
  sub := S.sub
  im := fun j e q y => by
    rcases get_set q with ⟨z, e'⟩ | ⟨_, e'⟩
    · subst z
      cases e'
      exact ⟨v, h, r⟩
    · exact S.im j e e' y
  ow := fun j p ds q => by
    rcases get_set q with ⟨z, e'⟩ | ⟨_, e'⟩
    · cases e'
    · exact S.ow j p ds e'
  inj := fun j l p ds es q1 q2 => by
    rcases get_set q1 with ⟨z, e'⟩ | ⟨_, e1⟩
    · cases e'
    · rcases get_set q2 with ⟨z, e'⟩ | ⟨_, e2⟩
      · cases e'
      · exact S.inj j l p ds es e1 e2
theorem toVal_ok {K : PySem.W.Frag} {ρ0 ρ : Env} {σ : L2.St} {HS0 H0 HS H : Hp} {v : V} {r : R} {k : D → Env → Prop} (S : Sim K ρ σ HS H) (st : Step ρ0 HS0 H0 ρ HS H) (h : RepR K H0 σ ρ HS H v r) (q : toVal r ρ k) :
    ∃ d ρ' HS', k d ρ' ∧ Sim K ρ' σ HS' H ∧ Step ρ0 HS0 H0 ρ' HS' H ∧ Dp K HS' v d := by
  cases r with
  | v d => exact ⟨d, ρ, HS, q, S, st, h⟩
  | tp ds => exact ⟨_, ρ, HS, q, S, st, PlT.dp h⟩
  | nw p ds =>
    obtain ⟨rfl, h2, h3, h4, vs, h5, h6⟩ := h
    refine ⟨.list ds, ρ, upd HS p (.lst vs), q, S.freeze h3 h5 h4, ⟨st.ex.trans (Ex.new h3), st.keep, fun a o e n z => ?_, st.own, st.live⟩, .lst (.inl (.inl upd_same)) (dps_mono (Ex.new h3) ds vs h6)⟩
    have ne : a ≠ p := fun y => by rw [y, h2] at e; cases e
    rw [upd_ne ne]
    exact st.hs a o e n z
  | pl i =>
    have hv : σ[i]? = some (some v) := h
    unfold toVal at q
    dsimp only at q
    split at q
    · rename_i d e
      obtain ⟨v', h1, h2⟩ := S.im i _ e rfl
      rw [hv] at h1
      cases h1
      exact ⟨d, ρ, HS, q, S, st, h2⟩
    · rename_i ds e
      obtain ⟨v', h1, h2⟩ := S.im i _ e rfl
      rw [hv] at h1
      cases h1
      exact ⟨_, ρ, HS, q, S, st, PlT.dp h2⟩
    · rename_i p ds e
      obtain ⟨h1, h2, vs, h3, h4⟩ := S.ow i p ds e
      rw [hv] at h1
      cases h1
      have hop : Own ρ p := ⟨i, ds, e⟩
      have hl : i < ρ.length := (List.getElem?_eq_some_iff.mp e).1
      have S' : Sim K (ρ.set i none) σ HS H := ⟨by rw [List.length_set]; exact S.len, S.sub, fun j d q y => by
          rcases get_set q with ⟨_, z⟩ | ⟨_, z⟩
          · cases z
          · exact S.im j d z y, fun j p ds q => by
          rcases get_set q with ⟨_, z⟩ | ⟨_, z⟩
          · cases z
          · exact S.ow j p ds z, fun j l p ds es q1 q2 => by
          rcases get_set q1 with ⟨_, z⟩ | ⟨_, e1⟩
          · cases z
          · rcases get_set q2 with ⟨_, z⟩ | ⟨_, e2⟩
            · cases z
            · exact S.inj j l p ds es e1 e2⟩
      have nop : ¬ Own (ρ.set i none) p := fun ⟨j, es, q⟩ => by
        rcases get_set q with ⟨_, z⟩ | ⟨ne, z⟩
        · cases z
        · exact ne (S.inj i j p ds es e z)
      have D' : Dp K (upd HS p (.lst vs)) (.ref p) (.list ds) := .lst (.inl (.inl upd_same)) (dps_mono (Ex.new h2) ds vs h4)
      have S2 := (S'.freeze h2 h3 nop).drop hv D'
      rw [List.set_set] at S2
      refine ⟨.list ds, _, upd HS p (.lst vs), q, S2, ⟨st.ex.trans (Ex.new h2), st.keep, fun a o e' n z => ?_, fun a y => st.own a (own_set_im rfl y), st.live⟩, D'⟩
      have ne : a ≠ p := fun y => by
        subst y
        exact (st.own a hop).elim n fun y => by rw [e'] at y; cases y
      rw [upd_ne ne]
      exact st.hs a o e' n z
    · exact q.elim
/-- evaluate, then let it stay -/
def vv (w : W) : WV := fun ρ k => w ρ fun r ρ' => toVal r ρ' k
theorem vv_ok {K : PySem.W.Frag} {w : W} {σ : L2.St} {H : Hp} {Q : VK} (q : tV K (vv w) σ H Q) : tW K w σ H Q := by
  obtain ⟨ρ, HS, k, S, q, l⟩ := q
  refine ⟨ρ, HS, _, S, q, fun r ρ' v H' HS' z S' st rp => ?_⟩
  obtain ⟨d, ρ2, HS2, z', S2, st2, dp⟩ := toVal_ok S' st rp z
  exact l d ρ2 v H' HS2 z' S2 st2 dp
theorem pe_vv {X : Cx} {e : Expr} {w : W} (h : PE X e (tW X.K w)) : PE X e (tV X.K (vv w)) := pe_imp h fun _ _ _ q => vv_ok q

/-- what a list, a tuple holds: true for a list -/
def seqOf (ρ : Env) : R → Option (Bool × List D)
  | .v (.list ds) => some (true, ds)
  | .v (.tuple ds) => some (false, ds)
  | .tp ds => some (false, ds)
  | .nw _ ds => some (true, ds)
  | .pl i => match ρ[i]? with
    | some (some (.ow _ ds)) => some (true, ds)
    | some (some (.im (.list ds))) => some (true, ds)
    | some (some (.im (.tuple ds))) => some (false, ds)
    | some (some (.tp ds)) => some (false, ds)
    | _ => none
  | _ => none
def SqB (K : PySem.W.Frag) (H : Hp) (a : Addr) (b : Bool) (vs : List V) : Prop := if b = true then SqL K H a vs else SqT K H a vs
theorem seq_ok {K : PySem.W.Frag} {H0 : Hp} {ρ : Env} {σ : L2.St} {HS H : Hp} {v : V} {r : R} {b : Bool} {ds : List D} (S : Sim K ρ σ HS H) (h : RepR K H0 σ ρ HS H v r) (q : seqOf ρ r = some (b, ds)) :
    ∃ a vs, v = .ref a ∧ SqB K H a b vs ∧ DpAll K HS vs ds := by
  have ofD : ∀ d v, Dp K HS v d → seqOf ρ (.v d) = some (b, ds) → ∃ a vs, v = .ref a ∧ SqB K H a b vs ∧ DpAll K HS vs ds := fun d v h q => by
    cases h <;> first
      | (cases q; done)
      | (rename_i a xs es hs ha
         cases q
         first
           | exact ⟨a, xs, rfl, (show (if true = true then _ else _) by rw [if_pos rfl]; exact ex_seqL S.sub hs), ha⟩
           | exact ⟨a, xs, rfl, (show (if false = true then _ else _) by rw [if_neg Bool.false_ne_true]; exact ex_seqT S.sub hs), ha⟩)
  cases r with
  | v d => exact ofD d v h q
  | tp es => exact ofD (.tuple es) v (PlT.dp h) q
  | nw p es =>
    cases q
    obtain ⟨rfl, h2, h3, h4, vs, h5, h6⟩ := h
    exact ⟨p, vs, rfl, (show (if true = true then _ else _) by rw [if_pos rfl]; exact .inl (.inl h5)), h6⟩
  | pl i =>
    have hv : σ[i]? = some (some v) := h
    unfold seqOf at q
    dsimp only at q
    split at q
    · rename_i p es e
      cases q
      obtain ⟨h1, h2, vs, h3, h4⟩ := S.ow i p _ e
      rw [hv] at h1
      cases h1
      exact ⟨p, vs, rfl, (show (if true = true then _ else _) by rw [if_pos rfl]; exact .inl (.inl h3)), h4⟩
    · rename_i es e
      obtain ⟨v', h1, h2⟩ := S.im i _ e rfl
      rw [hv] at h1
      cases h1
      exact ofD _ _ h2 q
    · rename_i es e
      obtain ⟨v', h1, h2⟩ := S.im i _ e rfl
      rw [hv] at h1
      cases h1
      exact ofD _ _ h2 q
    · rename_i es e
      obtain ⟨v', h1, h2⟩ := S.im i _ e rfl
      rw [hv] at h1
      cases h1
      exact ofD (.tuple es) _ (PlT.dp h2) q
    · cases q

/-! ### new objects -/
theorem alloc {K : PySem.W.Frag} {ρ : Env} {σ : L2.St} {HS H : Hp} {p : Addr} {o : HO} (S : Sim K ρ σ HS H) (h : H p = none) : HS p = none ∧ ¬ Own ρ p := by
  refine ⟨?_, fun ⟨i, ds, e⟩ => ?_⟩
  · cases q : HS p with
    | none => rfl
    | some u =>
      rw [S.sub p u q] at h
      cases h
  · obtain ⟨_, _, vs, h3, _⟩ := S.ow i p ds e
    rw [h] at h3
    cases h3
theorem alloc_sim {K : PySem.W.Frag} {ρ : Env} {σ : L2.St} {HS H : Hp} {p : Addr} {o : HO} (S : Sim K ρ σ HS H) (h : H p = none) : Sim K ρ σ HS (upd H p o) := ⟨S.len, S.sub.trans (Ex.new h), S.im, fun i q ds e => by
    obtain ⟨h1, h2, vs, h3, h4⟩ := S.ow i q ds e
    exact ⟨h1, h2, vs, Ex.new h q _ h3, h4⟩, S.inj⟩
theorem alloc_step {ρ : Env} {HS H : Hp} {p : Addr} {o : HO} (h : H p = none) : Step ρ HS H ρ HS (upd H p o) := ⟨Ex.refl _, fun a u e _ => Ex.new h a u e, fun _ _ _ _ z => z, fun _ z => .inl z, fun a e => by
    by_cases q : a = p
    · rw [q]
      exact h
    · rw [upd_ne q] at e
      exact e⟩
theorem alloc_simS {K : PySem.W.Frag} {ρ : Env} {σ : L2.St} {HS H : Hp} {p : Addr} {o : HO} (S : Sim K ρ σ HS H) (h : H p = none) : Sim K ρ σ (upd HS p o) (upd H p o) := by
  obtain ⟨hs, no⟩ := alloc (o := o) S h
  refine ⟨S.len, fun a u e => ?_, fun i d e y => ?_, fun i q ds e => ?_, S.inj⟩
  · by_cases z : a = p
    · rw [z, upd_same] at e
      rw [z, upd_same]
      exact e
    · rw [upd_ne z] at e ⊢
      exact S.sub a u e
  · obtain ⟨v, h1, h2⟩ := S.im i d e y
    exact ⟨v, h1, h2.mono (Ex.new hs)⟩
  · obtain ⟨h1, h2, vs, h3, h4⟩ := S.ow i q ds e
    have ne : q ≠ p := fun z => no (z ▸ ⟨i, ds, e⟩)
    exact ⟨h1, by rw [upd_ne ne]; exact h2, vs, Ex.new h q _ h3, dps_mono (Ex.new hs) ds vs h4⟩
theorem alloc_stepS {K : PySem.W.Frag} {ρ : Env} {σ : L2.St} {HS H : Hp} {p : Addr} {o : HO} (S : Sim K ρ σ HS H) (h : H p = none) : Step ρ HS H ρ (upd HS p o) (upd H p o) := by
  obtain ⟨hs, no⟩ := alloc (o := o) S h
  refine ⟨Ex.new hs, fun a u e _ => Ex.new h a u e, fun a u e _ z => ?_, fun _ z => .inl z, (alloc_step (ρ := ρ) (HS := HS) h).live⟩
  have ne : a ≠ p := fun y => by rw [y, h] at e; cases e
  rw [upd_ne ne]
  exact z
/-- a new tuple, a new list -/
theorem new_tup {K : PySem.W.Frag} {ρ : Env} {σ : L2.St} {HS H : Hp} {p : Addr} {vs : List V} {ds : List D} (S : Sim K ρ σ HS H) (h : H p = none) (r : DpAll K HS vs ds) : Dp K (upd HS p (.tup vs)) (.ref p) (.tuple ds) :=
  .tup (.inl (.inl upd_same)) (dps_mono (Ex.new (alloc (o := .tup vs) S h).1) ds vs r)
theorem new_lst {K : PySem.W.Frag} {H0 : Hp} {ρ : Env} {σ : L2.St} {HS H : Hp} {p : Addr} {vs : List V} {ds : List D} (S : Sim K ρ σ HS H) (h : H p = none) (h0 : H0 p = none) (r : DpAll K HS vs ds) : RepR K H0 σ ρ HS (upd H p (.lst vs)) (.ref p) (.nw p ds) :=
  ⟨rfl, h0, (alloc (o := .lst vs) S h).1, (alloc (o := .lst vs) S h).2, vs, upd_same, r⟩
/-- a list that is nobody's changes -/
theorem sim_upd {K : PySem.W.Frag} {ρ : Env} {σ : L2.St} {HS H : Hp} {p : Addr} {o : HO} (S : Sim K ρ σ HS H) (h : HS p = none) (n : ¬ Own ρ p) : Sim K ρ σ HS (upd H p o) := ⟨S.len, fun a u e => by
    have ne : a ≠ p := fun z => by rw [z, h] at e; cases e
    rw [upd_ne ne]
    exact S.sub a u e, S.im, fun i q ds e => by
    obtain ⟨h1, h2, vs, h3, h4⟩ := S.ow i q ds e
    have ne : q ≠ p := fun z => n (z ▸ ⟨i, ds, e⟩)
    exact ⟨h1, h2, vs, by rw [upd_ne ne]; exact h3, h4⟩, S.inj⟩
/-- the list of a slot changes -/
theorem sim_own {K : PySem.W.Frag} {ρ : Env} {σ : L2.St} {HS H : Hp} {i : Nat} {p : Addr} {ds es : List D} {ws : List V} (S : Sim K ρ σ HS H) (h : ρ[i]? = some (some (.ow p ds))) (r : DpAll K HS ws es) : Sim K (ρ.set i (some (.ow p es))) σ HS (upd H p (.lst ws)) := by
  obtain ⟨h1, h2, vs, h3, h4⟩ := S.ow i p ds h
  refine ⟨by rw [List.length_set]; exact S.len, fun a u e => ?_, fun j d e y => ?_, fun j q fs e => ?_, fun j l q fs gs e1 e2 => ?_⟩
  · have ne : a ≠ p := fun z => by rw [z, h2] at e; cases e
    rw [upd_ne ne]
    exact S.sub a u e
  · rcases get_set e with ⟨_, z⟩ | ⟨_, z⟩
    · cases z
      cases y
    · exact S.im j d z y
  · rcases get_set e with ⟨z1, z⟩ | ⟨ne, z⟩
    · cases z
      subst z1
      exact ⟨h1, h2, ws, upd_same, r⟩
    · have nq : q ≠ p := fun y => by
        subst y
        exact ne (S.inj i j q ds fs h z)
      obtain ⟨g1, g2, us, g3, g4⟩ := S.ow j q fs z
      exact ⟨g1, g2, us, by rw [upd_ne nq]; exact g3, g4⟩
  · rcases get_set e1 with ⟨z1, z⟩ | ⟨ne, z⟩
    · cases z
      rcases get_set e2 with ⟨z2, y⟩ | ⟨ne2, y⟩
      · exact z1.symm.trans z2
      · exact (z1.symm.trans (S.inj i l p ds gs h y))
    · rcases get_set e2 with ⟨z2, y⟩ | ⟨ne2, y⟩
      · cases y
        exact (S.inj j i p fs ds z h).trans z2
      · exact S.inj j l q fs gs z y
theorem own_set_ow {ρ : Env} {i : Nat} {p a : Addr} {es ds : List D} (e : ρ[i]? = some (some (.ow p ds))) (h : Own (ρ.set i (some (.ow p es))) a) : Own ρ a := by
  obtain ⟨j, fs, h⟩ := h
  rcases get_set h with ⟨_, z⟩ | ⟨_, z⟩
  · cases z
    exact ⟨i, ds, e⟩
  · exact ⟨j, fs, z⟩
theorem step_own {K : PySem.W.Frag} {ρ : Env} {σ : L2.St} {HS H : Hp} {i : Nat} {p : Addr} {ds es : List D} {ws : List V} (S : Sim K ρ σ HS H) (h : ρ[i]? = some (some (.ow p ds))) : Step ρ HS H (ρ.set i (some (.ow p es))) HS (upd H p (.lst ws)) := by
  refine ⟨Ex.refl _, fun a u e n => ?_, fun _ _ _ _ z => z, fun a z => .inl (own_set_ow h z), fun a e => ?_⟩
  · have ne : a ≠ p := fun z => n (z ▸ ⟨i, ds, h⟩)
    rw [upd_ne ne]
    exact e
  · by_cases z : a = p
    · rw [z, upd_same] at e
      cases e
    · rw [upd_ne z] at e
      exact e
/-! ### stores to slots -/
theorem sim_set {K : PySem.W.Frag} {ρ : Env} {σ : L2.St} {HS H : Hp} {v : V} {d : SV} (i : Nat) (S : Sim K ρ σ HS H) (zd : d.stays = true) (r : RepI K HS v d) : Sim K (ρ.set i (some d)) (σ.set i (some v)) HS H := by
  refine ⟨by rw [List.length_set, List.length_set]; exact S.len, S.sub, fun j e q y => ?_, fun j p ds q => ?_, fun j l p ds es q1 q2 => ?_⟩
  · rcases get_set q with ⟨z, e'⟩ | ⟨ne, e'⟩
    · subst z
      cases e'
      have hl : i < σ.length := by
        have := (List.getElem?_eq_some_iff.mp q).1
        rw [List.length_set] at this
        rw [S.len]
        exact this
      exact ⟨v, by rw [List.getElem?_set_self hl], r⟩
    · obtain ⟨v', h1, h2⟩ := S.im j e e' y
      exact ⟨v', by rw [List.getElem?_set_ne ne]; exact h1, h2⟩
  · rcases get_set q with ⟨z, e'⟩ | ⟨ne, e'⟩
    · cases e'
      cases zd
    · obtain ⟨h1, h2⟩ := S.ow j p ds e'
      exact ⟨by rw [List.getElem?_set_ne ne]; exact h1, h2⟩
  · rcases get_set q1 with ⟨z, e'⟩ | ⟨_, e1⟩
    · cases e'
      cases zd
    · rcases get_set q2 with ⟨z, e'⟩ | ⟨_, e2⟩
      · cases e'
        cases zd
      · exact S.inj j l p ds es e1 e2
theorem step_set {ρ : Env} {HS H : Hp} {d : SV} (i : Nat) (z : d.stays = true) : Step ρ HS H (ρ.set i (some d)) HS H := ⟨Ex.refl _, fun _ _ h _ => h, fun _ _ _ _ h => h, fun _ h => .inl (own_set_im z h), fun _ h => h⟩
theorem sim_setN {K : PySem.W.Frag} {ρ : Env} {σ : L2.St} {HS H : Hp} {p : Addr} {vs : List V} {ds : List D} (i : Nat) (S : Sim K ρ σ HS H) (h : HS p = none) (ho : H p = some (.lst vs)) (n : ¬ Own ρ p) (r : DpAll K HS vs ds) : Sim K (ρ.set i (some (.ow p ds))) (σ.set i (some (.ref p))) HS H := by
  refine ⟨by rw [List.length_set, List.length_set]; exact S.len, S.sub, fun j e q y => ?_, fun j q es e => ?_, fun j l q es fs q1 q2 => ?_⟩
  · rcases get_set q with ⟨z, e'⟩ | ⟨ne, e'⟩
    · cases e'
      cases y
    · obtain ⟨v', h1, h2⟩ := S.im j e e' y
      exact ⟨v', by rw [List.getElem?_set_ne ne]; exact h1, h2⟩
  · rcases get_set e with ⟨z, e'⟩ | ⟨ne, e'⟩
    · subst z
      cases e'
      have hl : i < σ.length := by
        have := (List.getElem?_eq_some_iff.mp e).1
        rw [List.length_set] at this
        rw [S.len]
        exact this
      exact ⟨by rw [List.getElem?_set_self hl], h, vs, ho, r⟩
    · obtain ⟨h1, h2⟩ := S.ow j q es e'
      exact ⟨by rw [List.getElem?_set_ne ne]; exact h1, h2⟩
  · rcases get_set q1 with ⟨z, e'⟩ | ⟨_, e1⟩
    · cases e'
      rcases get_set q2 with ⟨z2, e''⟩ | ⟨_, e2⟩
      · exact z.symm.trans z2
      · exact (n ⟨l, fs, e2⟩).elim
    · rcases get_set q2 with ⟨z, e'⟩ | ⟨_, e2⟩
      · cases e'
        exact (n ⟨j, es, e1⟩).elim
      · exact S.inj j l q es fs e1 e2
theorem step_setN {ρ0 ρ : Env} {HS0 H0 HS H : Hp} {p : Addr} {ds : List D} (i : Nat) (st : Step ρ0 HS0 H0 ρ HS H) (h0 : H0 p = none) : Step ρ0 HS0 H0 (ρ.set i (some (.ow p ds))) HS H := ⟨st.ex, st.keep, st.hs, fun a h => by
    obtain ⟨j, es, h⟩ := h
    rcases get_set h with ⟨_, z⟩ | ⟨_, z⟩
    · cases z
      exact .inr h0
    · exact st.own a ⟨j, es, z⟩, st.live⟩
end VL

set_option Elab.async false
set_option linter.all false
set_option maxRecDepth 100000
namespace VLx
open PySem PySem.Spec PyProof.Rows L2

/-! ### enumerate of a tuple -/
theorem meets_enum_newT (l : Addr) (items : Array Value) (n : Nat) (dct : Option Addr) (sl : Array (Option Value)) :
    Meets (Builtin.«enumerate.__new__» ⟨[.type "enumerate", .ref l], []⟩) (fun _ R s => s.heap.get? l = some { cls := .type "tuple", dict := dct, data := .seq items n, slots := sl } ∧
      R (.ok (.ret (.ref (s.heap.push { cls := .type "tuple_iterator", data := .fields #[.ref l, .int 0 0] }).objs.size)))
        { s with heap := (s.heap.push { cls := .type "tuple_iterator", data := .fields #[.ref l, .int 0 0] }).push { cls := .type "enumerate", data := .fields #[.none, .bool false, .ref s.heap.objs.size, rawInt 0, .none, .none] } }) :=
  .of_wp fun prog w A R s h => by
    obtain ⟨hp, g, d, tk, os⟩ := s
    obtain ⟨hl, h⟩ := h
    have hsub := sub_enumerate
    have hT : Heap.IsTuple (Shared.heap ⟨hp, g, d, tk, os⟩) l items := ⟨_, hl, rfl, n, rfl⟩
    wp_walk using AutoSeq1.wpAny_loadPart' hl
    refine wpAny_stack_any fun st => wpAny_pure ?_
    split
    · rename_i c _ _ _ _ _
      cases (c == Value.type "enumerate")
      · wp_walk using AutoSeq1.wpAny_loadPart' hl, wpAny_pyIter_tuple hT
        exact ⟨_, rfl, h⟩
      · wp_walk using AutoSeq1.wpAny_loadPart' hl, wpAny_pyIter_tuple hT
        exact ⟨_, rfl, h⟩
    · wp_walk using AutoSeq1.wpAny_loadPart' hl, wpAny_pyIter_tuple hT
      exact ⟨_, rfl, h⟩
section
variable {prog : Program} {w : World} {A : Around} {E : Value → Shared → Prop} {s : Shared}
theorem call_enum_tuple {l : Addr} {items : Array Value} {Q : Value → Shared → Prop} (hL : s.heap.IsTuple l items)
    (h : ∀ h', IsEnum h' (s.heap.objs.size + 1) s.heap.objs.size 0 .none → h'.IsTupleIter s.heap.objs.size l 0 → h'.objs.size = s.heap.objs.size + 2 →
      (∀ b o, s.heap.get? b = some o → h'.get? b = some o) → Q (.ref (s.heap.objs.size + 1)) { s with heap := h' }) :
    wpAny (model prog w) A (call (.type "enumerate") [.ref l]) Q E s := by
  obtain ⟨⟨c, dct, dt, sl⟩, hl, hc, n, hd⟩ := hL
  replace hc : c = .type "tuple" := hc
  replace hd : dt = .seq items n := hd
  subst hc hd
  refine callType_new F.called_enumerate (by decide) (F.typeCall_enumerate_1 _) (F.newCall_enumerate_1 _) (fun obj => F.args_object_init_2 obj _) F.entry_enumerate_new
    (meets_enum_newT l items n dct sl) ⟨hl, ?_⟩
  have hz : (s.heap.push { cls := .type "tuple_iterator", data := .fields #[.ref l, .int 0 0] }).objs.size = s.heap.objs.size + 1 := Heap.size_push ..
  show _ ∧ _
  rw [hz]
  have he : IsEnum ((s.heap.push { cls := .type "tuple_iterator", data := .fields #[.ref l, .int 0 0] }).push
      { cls := .type "enumerate", data := .fields #[.none, .bool false, .ref s.heap.objs.size, rawInt 0, .none, .none] }) (s.heap.objs.size + 1) s.heap.objs.size 0 .none := by
    have q := Heap.get?_push_size (s.heap.push { cls := .type "tuple_iterator", data := .fields #[.ref l, .int 0 0] })
      (o := { cls := .type "enumerate", data := .fields #[.none, .bool false, .ref s.heap.objs.size, rawInt 0, .none, .none] }) rfl
    rw [hz] at q
    exact q
  refine ⟨⟨_, he, rfl⟩, h _ he ⟨_, Heap.get?_push_of_some _ (Heap.get?_push_size _ rfl), rfl, rfl⟩ (by rw [Heap.size_push, hz]) fun b o x => Heap.get?_push_of_some _ (Heap.get?_push_of_some _ x)⟩
end
/-- the tuple at a, each item in a new pair -/
def IteT (K : PySem.W.Frag) (a : Addr) : It :=
  ⟨fun i H => ∃ (xs : List V) (x : V), SqT K H a xs ∧ xs[i]? = some x, fun i H v H' => ∃ T x, v = .ref T ∧ H T = none ∧ H' = upd H T (.tup [.int (i : Nat), x]) ∧ ∀ xs, SqT K H a xs → xs[i]? = some x, fun i H => ∃ xs : List V, SqT K H a xs ∧ xs.length = i⟩
theorem turn_enumT {P : Program} {w : World} {K : PySem.W.Frag} {elts : List Expr} {kk : Nat} {tpos : Pos} (a e it : Addr) :
    Turn P w K (.Tuple elts kk tpos) (IteT K a) [e, it] e (fun i h => (∃ old, IsEnum h e it ((i : Nat) : Int) old) ∧ h.IsTupleIter it a i ∧ e ≠ it ∧ a ≠ it ∧ e ≠ a) where
  mem := by simp
  obj := fun i h st b hb => by
    obtain ⟨⟨old, he⟩, ⟨o, ho, hc, hd⟩, _⟩ := st
    have e' : b = e ∨ b = it := by simpa using hb
    rcases e' with z | z
    · exact z ▸ ⟨_, he, fun v q => nomatch q⟩
    · exact z ▸ ⟨o, ho, fun v q => by rw [hd] at q; cases q⟩
  keep := fun i h h' st k => let ⟨⟨old, he⟩, hi, hne⟩ := st; ⟨⟨old, k e (by simp) _ he⟩, hi.at fun o q => k it (by simp) o q, hne⟩
  item := by
    intro X hP hw hK hc i pins s σ H E I hf st hg
    subst hP hw hK
    obtain ⟨⟨old, he⟩, hit, hne, hai, hea⟩ := st
    obtain ⟨xs, x, hq, hx⟩ := hg
    obtain ⟨its, rv, p, hz⟩ := I.tuple hq
    obtain ⟨u, hu, ru⟩ := rv.get hx
    have hel : e < s.heap.objs.size := Heap.lt_size he
    have hil : it < s.heap.objs.size := by obtain ⟨_, q, _⟩ := hit; exact Heap.lt_size q
    have hu' : its.toArray[i]? = some u := by simpa using hu
    have hlt : i < its.toArray.size := (Array.getElem?_eq_some_iff.mp hu').1
    refine wpAny_pyNext_enum_itemD (Draws.tuple (prog := X.prog) (w := X.w) (A := X.A.in1) (I.ok.hd hc) it a hai its.toArray) he ⟨hit, (show s.heap.IsTuple a its.toArray from p)⟩ hlt hne (by simp [hne, hea]) fun y h' tk hy ho hst hT hsz hk => ?_
    rw [hu'] at hy
    cases hy
    refine ⟨_, rfl, wpAny_letOwnedTupleGo_enum (s := { s with heap := h', toks := tk + 1 }) ho fun h'' he' sb => ?_⟩
    have hT2 : h''.get? s.heap.objs.size = some { cls := .type "tuple", data := .seq #[.int i tk, u] } := (sb.2 _ (Nat.ne_of_gt hel)).trans hT
    have new : ObjOk X.prog X.w (upd H s.heap.objs.size (.tup [.int (i : Nat), x])) h'' s.heap.objs.size (.tup [.int (i : Nat), x]) :=
      ⟨by show 2 ≤ sizeLine; decide, [.int i tk, u], .cons ⟨_, rfl⟩ (.cons ru .nil), ⟨_, hT2, rfl, _, rfl⟩⟩
    have I1 : Inv X pins σ (upd H s.heap.objs.size (.tup [.int (i : Nat), x])) { s with heap := h'', toks := tk + 1 } :=
      I.turnedNew (ch := [e, it]) (fun b ob hb q => (sb.2 b (fun z => hb (by simp [z]))).trans (hk b ob (fun z => hb (by simp [z])) (fun z => hb (by simp [z])) q)) hf (Nat.le_refl _) new
    refine ⟨.ref s.heap.objs.size, _, I1, rfl, ⟨_, x, rfl, I.hok.fresh (Nat.le_refl _), rfl, fun ys hy => by rw [I.tuple_inj hy hq]; exact hx⟩, ⟨⟨u, ?_⟩, hst.1.at fun o q => (sb.2 it (Ne.symm hne)).trans q, hne, hai, hea⟩, fun b hb => ?_⟩
    · have e1 : ((i + 1 : Nat) : Int) = (i : Int) + 1 := by omega
      rw [e1]
      exact he'
    · have hb' : b < s.heap.objs.size := by
        have e' : b = e ∨ b = it := by simpa using hb
        rcases e' with z | z
        · exact z ▸ hel
        · exact z ▸ hil
      rw [upd_ne (Nat.ne_of_lt hb')]
      exact (hf b hb).1
  done := by
    intro X hP hw hK hc i pins s σ H E I hf st hg
    subst hP hw hK
    obtain ⟨⟨old, he⟩, hit, hne, hai, hea⟩ := st
    obtain ⟨xs, hq, hx⟩ := hg
    obtain ⟨its, rv, p, hz⟩ := I.tuple hq
    obtain ⟨f0, f1, f2, f3, f4, f5⟩ := hf it (by simp)
    have hl := rv.length
    have D0 := Draws.tuple (prog := X.prog) (w := X.w) (A := X.A.in1) (I.ok.hd hc) it a hai its.toArray
    have ei : its.toArray.size = i := by rw [List.size_toArray, ← hl, hx]
    exact wpAny_pyNext_enum_endD D0 he (by rw [ei]; exact ⟨hit, (show s.heap.IsTuple a its.toArray from p)⟩) fun h' eb => ⟨rfl, I.turned (t' := s.toks) (fun b o hb q => eb b o hb q) f0 f1 f3 f4 f5⟩
  self := fun A i s Q E st h => let ⟨⟨_, he⟩, _⟩ := st; wpAny_pyIter_enum he h
def iEnumA (K : PySem.W.Frag) (ta : TA) : TI := fun σ H R => ta σ H fun vs H1 => ∃ a xs, vs = [.ref a] ∧ ((SqL K H1 a xs ∧ R (Ite K a) H1) ∨ (SqT K H1 a xs ∧ R (IteT K a) H1))
theorem pi_enumA {X : Cx} {e : Expr} {ta : TA} {p pos tpos : Pos} {elts : List Expr} {kk : Nat} (hg : Gl X "enumerate") (hm : X.mg "enumerate" = none) (ha : PA X [e] ta) (hs : starEach [e] X.env = [(false, eval e X.env)]) :
    PI X (.Tuple elts kk tpos) (.Call (.Name "enumerate" p) [e] [] pos) (iEnumA X.K ta) := by
  refine ⟨fun pins s σ H R I h => ?_⟩
  refine Call_ (ld_blt I hg hm boot_enumerate (PyProof.Rows.callWith_type1 (thn (ha.run pos pins s σ H _ I h) fun us s1 ⟨vs, H1, I1, r1, q1⟩ => ?_) hs rfl))
  obtain ⟨a, xs, ex, q1⟩ := q1
  subst ex
  cases r1 with
  | cons r rr =>
    cases rr
    cases r
    have fresh2 : ∀ b ∈ [s1.heap.objs.size + 1, s1.heap.objs.size], FpOk X pins H1 b := fun b hb => by
      have e' : b = s1.heap.objs.size + 1 ∨ b = s1.heap.objs.size := by simpa using hb
      have hle : s1.heap.objs.size ≤ b := by
        rcases e' with z | z
        · exact z ▸ Nat.le_add_right _ _
        · exact z ▸ Nat.le_refl _
      exact I1.fpOk hle (I1.hok.fresh hle)
    rcases q1 with ⟨hq, q⟩ | ⟨hq, q⟩
    · obtain ⟨its, rv, p', hz⟩ := I1.list hq
      refine call_enumerate_list p'.isList fun h' he hit hsz hk => wpAny_pyIter_enum he ?_
      have I2 : Inv X pins σ H1 { s1 with heap := h' } := I1.kept (t' := s1.toks) hk
      exact ⟨s1.heap.objs.size + 1, [s1.heap.objs.size + 1, s1.heap.objs.size], _, _, H1, rfl, I2, turn_enum a (s1.heap.objs.size + 1) s1.heap.objs.size, ⟨⟨.none, he⟩, hit, Nat.succ_ne_self _⟩, fresh2, q⟩
    · obtain ⟨its, rv, p', hz⟩ := I1.tuple hq
      have la : a < s1.heap.objs.size := by
        obtain ⟨o, ho, _⟩ := id p'
        exact Heap.lt_size ho
      refine call_enum_tuple (show s1.heap.IsTuple a its.toArray from p') fun h' he hit hsz hk => wpAny_pyIter_enum he ?_
      have I2 : Inv X pins σ H1 { s1 with heap := h' } := I1.kept (t' := s1.toks) hk
      exact ⟨s1.heap.objs.size + 1, [s1.heap.objs.size + 1, s1.heap.objs.size], _, _, H1, rfl, I2, turn_enumT a (s1.heap.objs.size + 1) s1.heap.objs.size, ⟨⟨.none, he⟩, hit, Nat.succ_ne_self _, Nat.ne_of_lt la, Nat.ne_of_gt (Nat.lt_succ_of_lt la)⟩, fresh2, q⟩

/-! ### sum, min, max of a tuple of ints -/
section
open PyProof.V
variable {prog : Program} {w : World} {A : Around} {E : Value → Shared → Prop} {s : Shared} {t : Addr} {its : List Value} {ns : List Int} {xs : Array (Int × Tok)}
theorem min_tupG {Q : Value → Shared → Prop} (hh : A.handled = none) (ht : s.heap.IsTuple t (intItems xs)) (hne : 0 < xs.size)
    (h : ∀ v h' tk, (intItems xs)[argBest (fun i j => decide (numAt xs i < numAt xs j)) (xs.size - 1)]? = some v → (∀ b o, s.heap.get? b = some o → h'.get? b = some o) → Q v { s with heap := h', toks := tk }) :
    wpAny (model prog w) A (call (.builtin "min") [.ref t]) Q E s := by
  obtain ⟨o, ho, hc, n, hd⟩ := id ht
  have hn : t ≠ s.heap.objs.size := Nat.ne_of_lt (Heap.lt_size ho)
  refine call_min_walk (wpAny_pyIter_tuple ht ?_)
  refine ⟨s.heap.objs.size, _, _, _, _, _, _, rfl, Walks.tuple (A := A.in1) hh _ t hn (intItems xs), ⟨⟨_, Heap.get?_push_size _ rfl, rfl, rfl⟩, ht.at fun o e => Heap.get?_push_of_some _ e⟩, fun b hb => ?_, by simpa [intItems] using hne, CmpOf.ints_lt (numAt xs) (fun _ _ => intItems_at), fun v h' tk hP hk => ?_⟩
  · rcases List.mem_cons.mp hb with rfl | hb
    · exact Heap.lt_size (Heap.get?_push_size _ rfl)
    · obtain rfl := List.mem_singleton.mp hb
      exact Heap.lt_size (Heap.get?_push_of_some _ ho)
  · refine h v h' tk (by simpa [intItems] using hP) fun b o e => hk b o (fun hb => ?_) (Heap.get?_push_of_some _ e)
    exact absurd (Heap.lt_size e) ((List.mem_singleton.mp hb) ▸ Nat.lt_irrefl _)
theorem max_tupG {Q : Value → Shared → Prop} (hh : A.handled = none) (ht : s.heap.IsTuple t (intItems xs)) (hne : 0 < xs.size)
    (h : ∀ v h' tk, (intItems xs)[argBest (fun i j => decide (numAt xs i > numAt xs j)) (xs.size - 1)]? = some v → (∀ b o, s.heap.get? b = some o → h'.get? b = some o) → Q v { s with heap := h', toks := tk }) :
    wpAny (model prog w) A (call (.builtin "max") [.ref t]) Q E s := by
  obtain ⟨o, ho, hc, n, hd⟩ := id ht
  have hn : t ≠ s.heap.objs.size := Nat.ne_of_lt (Heap.lt_size ho)
  refine call_max_walk (wpAny_pyIter_tuple ht ?_)
  refine ⟨s.heap.objs.size, _, _, _, _, _, _, rfl, Walks.tuple (A := A.in1) hh _ t hn (intItems xs), ⟨⟨_, Heap.get?_push_size _ rfl, rfl, rfl⟩, ht.at fun o e => Heap.get?_push_of_some _ e⟩, fun b hb => ?_, by simpa [intItems] using hne, CmpOf.ints_gt (numAt xs) (fun _ _ => intItems_at), fun v h' tk hP hk => ?_⟩
  · rcases List.mem_cons.mp hb with rfl | hb
    · exact Heap.lt_size (Heap.get?_push_size _ rfl)
    · obtain rfl := List.mem_singleton.mp hb
      exact Heap.lt_size (Heap.get?_push_of_some _ ho)
  · refine h v h' tk (by simpa [intItems] using hP) fun b o e => hk b o (fun hb => ?_) (Heap.get?_push_of_some _ e)
    exact absurd (Heap.lt_size e) ((List.mem_singleton.mp hb) ▸ Nat.lt_irrefl _)
theorem argBest_lt_mem {n : Nat} (hn : 0 < xs.size) (v : Value) (hv : (intItems xs)[argBest (fun i j => decide (numAt xs i < numAt xs j)) (xs.size - 1)]? = some v) :
    ∃ M tk, v = .int M tk ∧ M ∈ xs.toList.map (·.1) ∧ ∀ a, a ∈ xs.toList.map (·.1) → M ≤ a := by
  obtain ⟨tk, rfl⟩ := intItems_at hv
  obtain ⟨h1, h2⟩ := argBest_lt (numAt xs) (xs.size - 1)
  refine ⟨_, tk, rfl, ?_, fun a ha => ?_⟩
  · rw [numAt_eq]
    exact PySem.getD_mem (by rw [List.length_map, Array.length_toList]; omega)
  · obtain ⟨j, hj, rfl⟩ := mem_getD ha
    rw [List.length_map, Array.length_toList] at hj
    rw [← numAt_eq]
    exact h2 j (by omega)
theorem argBest_gt_mem {n : Nat} (hn : 0 < xs.size) (v : Value) (hv : (intItems xs)[argBest (fun i j => decide (numAt xs i > numAt xs j)) (xs.size - 1)]? = some v) :
    ∃ M tk, v = .int M tk ∧ M ∈ xs.toList.map (·.1) ∧ ∀ a, a ∈ xs.toList.map (·.1) → a ≤ M := by
  obtain ⟨tk, rfl⟩ := intItems_at hv
  obtain ⟨h1, h2⟩ := argBest_gt (numAt xs) (xs.size - 1)
  refine ⟨_, tk, rfl, ?_, fun a ha => ?_⟩
  · rw [numAt_eq]
    exact PySem.getD_mem (by rw [List.length_map, Array.length_toList]; omega)
  · obtain ⟨j, hj, rfl⟩ := mem_getD ha
    rw [List.length_map, Array.length_toList] at hj
    rw [← numAt_eq]
    exact h2 j (by omega)
theorem items_of (hi : IntsAre its ns) : ∃ xs : Array (Int × Tok), its.toArray = intItems xs ∧ xs.toList.map (·.1) = ns := by
  obtain ⟨xs, e⟩ := hi.allInts.items
  refine ⟨xs, e, ?_⟩
  rw [← nums_intItems, ← e]
  exact hi.numsOf
end
section
variable {X : Cx}
/-- sum, min, max of a tuple of ints -/
def rSumT (K : PySem.W.Frag) : List V → Hp → VK → Prop := fun vs H Q => ∃ (a : Addr) (ns : List Int), vs = [V.ref a] ∧ SqT K H a (ns.map V.int) ∧ Q (.int ns.sum) H
def rMinT (K : PySem.W.Frag) : List V → Hp → VK → Prop := fun vs H Q => ∃ (a : Addr) (ns : List Int), vs = [V.ref a] ∧ SqT K H a (ns.map V.int) ∧ 0 < ns.length ∧ ∀ m, m ∈ ns → (∀ y, y ∈ ns → m ≤ y) → Q (.int m) H
def rMaxT (K : PySem.W.Frag) : List V → Hp → VK → Prop := fun vs H Q => ∃ (a : Addr) (ns : List Int), vs = [V.ref a] ∧ SqT K H a (ns.map V.int) ∧ 0 < ns.length ∧ ∀ m, m ∈ ns → (∀ y, y ∈ ns → y ≤ m) → Q (.int m) H
theorem cr_minT (hc : X.calm = true) : CallR X (.builtin "min") (rMinT X.K) := by
  intro pins s σ H vs us Q I r h
  obtain ⟨a, ns, rfl, hs, hne, q⟩ := h
  obtain ⟨its, rv, hl, _⟩ := I.tuple hs
  rw [Vals.ref1 r]
  obtain ⟨xs, e, en⟩ := items_of rv.ints
  have hz : 0 < xs.size := by rw [← en, List.length_map] at hne; simpa using hne
  refine min_tupG (I.ok.hd hc) (by rw [← e]; exact hl) hz fun v h' tk hv hk => ?_
  obtain ⟨M, t', rfl, h1, h2⟩ := argBest_lt_mem (n := 0) hz v hv
  rw [en] at h1 h2
  exact ⟨.int M, H, I.kept hk, ⟨_, rfl⟩, q M h1 h2⟩
theorem cr_maxT (hc : X.calm = true) : CallR X (.builtin "max") (rMaxT X.K) := by
  intro pins s σ H vs us Q I r h
  obtain ⟨a, ns, rfl, hs, hne, q⟩ := h
  obtain ⟨its, rv, hl, _⟩ := I.tuple hs
  rw [Vals.ref1 r]
  obtain ⟨xs, e, en⟩ := items_of rv.ints
  have hz : 0 < xs.size := by rw [← en, List.length_map] at hne; simpa using hne
  refine max_tupG (I.ok.hd hc) (by rw [← e]; exact hl) hz fun v h' tk hv hk => ?_
  obtain ⟨M, t', rfl, h1, h2⟩ := argBest_gt_mem (n := 0) hz v hv
  rw [en] at h1 h2
  exact ⟨.int M, H, I.kept hk, ⟨_, rfl⟩, q M h1 h2⟩
theorem cr_sumT (hc : X.calm = true) : CallR X (.builtin "sum") (rSumT X.K) := by
  intro pins s σ H vs us Q I r h
  obtain ⟨a, ns, rfl, hs, q⟩ := h
  obtain ⟨its, rv, hl, _⟩ := I.tuple hs
  rw [Vals.ref1 r]
  obtain ⟨xs, e, en⟩ := items_of rv.ints
  refine PySem.W.ktm_sumG (I.ok.hd hc) (by rw [← e]; exact hl) fun h' tk t' hk => ⟨.int ns.sum, H, I.kept hk, ⟨t', ?_⟩, q⟩
  rw [preSum_eq, List.take_of_length_le (by simp), en]
/-- a.index(k), a tuple of ints in which k stands -/
def rIdxT (K : PySem.W.Frag) : V → List V → Hp → VK → Prop := fun x xs H Q => ∃ (a : Addr) (ns : List Int) (k : Int), x = .ref a ∧ xs = [.int k] ∧ SqT K H a (ns.map V.int) ∧ k ∈ ns ∧ Q (.int (ns.idxOf k : Nat)) H
theorem mt_idxT : MtR X "tuple.index" (rIdxT X.K) := by
  intro pins s σ H x xs v us Q I rx rs h
  obtain ⟨a, ns, k, rfl, rfl, hs, hk, q⟩ := h
  obtain ⟨its, rv, hl, _⟩ := I.tuple hs
  cases rx
  obtain ⟨u, rfl, t, rfl⟩ := vals1 rs
  exact SeqAt.tuple_index_ints (show s.heap.IsTuple a its.toArray from hl) rv.ints hk ⟨.int _, H, I.tok _, ⟨_, rfl⟩, q⟩
/-- a.index(k), a's object without a dict -/
def tIdxT (K : PySem.W.Frag) (to : TE) (t : TA) : TE := fun σ H Q => to σ H fun x H1 => (∃ (a : Addr) (o : Obj) (vs : List V), x = .ref a ∧ H1 a = some (.frz o (.tup vs)) ∧ o.dict = none) ∧ t σ H1 fun xs H2 => rIdxT K x xs H2 Q
theorem pe_idxT {o e : Expr} {to : TE} {t : TA} {apos cpos : Pos} (ho : PE X o to) (ha : PA X [e] t) (hbase : attributeBase o "index" X.env (eval o X.env) = eval o X.env) (hline : (apos.endLine == cpos.line) = true) (hs : starEach [e] X.env = [(false, eval e X.env)]) :
    PE X (.Call (.Attribute o "index" apos) [e] [] cpos) (tIdxT X.K to t) := by
  refine ⟨fun pins s σ H Q I h => ?_⟩
  have hfew : ((backTo cpos (starEach [e] X.env)).all (fun x => !x.1) && (backToKw cpos (keywordEach [] X.env)).all (fun x => x.1.isSome)
      && decide (([e] : List Expr).length + ([] : List Keyword).length + (if ([] : List Keyword).isEmpty then 0 else 1) < 30)) = true := by rw [hs]; rfl
  refine wpAny_Call_method_late hbase hfew hline rfl (thn (ho.run pins s σ H _ I h) fun v s1 ⟨x, H1, I1, r1, ty, q1⟩ => ?_)
  obtain ⟨a, ob, vs, rfl, hf, hd⟩ := ty
  cases r1
  obtain ⟨e1, _, its, _, o2, e2, c2, _⟩ := I1.hok a _ hf
  have ht : s1.TypeIs (.ref a) "tuple" := ⟨o2, e2, c2⟩
  refine ⟨"tuple", "tuple.index", PySem.F.plainAttrs_tuple, PySem.F.slot_tuple_index, PySem.F.type_tuple_index, ht, fun b eb => ?_, ?_⟩
  · cases eb
    exact ⟨ob, e1, hd⟩
  · have hA := ha.run cpos pins s1 σ H1 _ I1 q1
    rw [hs] at hA ⊢
    refine Calls.callWith_builtin rfl (Calls.evalArgs_plain ?_)
    exact thn hA fun us s2 ⟨ws, H2, I2, r2, q2⟩ => mt_idxT pins s2 σ H2 (.ref a) ws _ us Q I2 rfl r2 q2
end
end VLx

set_option Elab.async false
set_option linter.all false
set_option maxRecDepth 100000
namespace VL
open PySem L2

/-! ### operators on data -/
def CPowB (i j : Int) : Prop := 0 ≤ j ∧ (Builtin.Int.intBits i : Int) * j ≤ 2 ^ 27
theorem op_powB {X : Cx} : OpR X (binaryOp .Pow) (rI CPowB fun i j => .int (i ^ j.toNat)) := opI fun _ _ _ _ _ _ _ hc q => PyProof.Rows.pow_int hc.1 hc.2 q
def MulOk (i j : Int) : Prop := CMul i j ∨ CMulW i j
def binW : Operator → D → D → (D → Prop) → Prop
  | .Add, .int i, .int j, k => k (.int (i + j))
  | .Add, .tuple xs, .tuple ys, k => xs.length + ys.length ≤ 100000 ∧ k (.tuple (xs ++ ys))
  | .Sub, .int i, .int j, k => k (.int (i - j))
  | .Mult, .int i, .int j, k => MulOk i j ∧ k (.int (i * j))
  | .FloorDiv, .int i, .int j, k => CDivW i j ∧ k (.int (i / j))
  | .Mod, .int i, .int j, k => 0 < j ∧ k (.int (i % j))
  | .Pow, .int i, .int j, k => CPowB i j ∧ k (.int (i ^ j.toNat))
  | .LShift, .int i, .int j, k => CPow i j ∧ k (.int (i * 2 ^ j.toNat))
  | .RShift, .int i, .int j, k => 0 ≤ j ∧ k (.int (i / 2 ^ j.toNat))
  | .BitAnd, .int i, .int j, k => k (.int (Builtin.bitAnd i j))
  | .BitOr, .int i, .int j, k => k (.int (Builtin.bitOr i j))
  | .BitXor, .int i, .int j, k => k (.int (Builtin.bitXor i j))
  | _, _, _, _ => False
def binR (K : PySem.W.Frag) : Operator → R2
  | .Add => fun x y H Q => rI0 (fun i j => .int (i + j)) x y H Q ∨ rCatA K x y H Q
  | .Sub => rI0 (fun i j => .int (i - j))
  | .Mult => fun x y H Q => rI CMul (fun i j => .int (i * j)) x y H Q ∨ rI CMulW (fun i j => .int (i * j)) x y H Q
  | .FloorDiv => rI CDivW fun i j => .int (i / j)
  | .Mod => rI (fun _ j => 0 < j) fun i j => .int (i % j)
  | .Pow => rI CPowB fun i j => .int (i ^ j.toNat)
  | .LShift => rI CPow fun i j => .int (i * 2 ^ j.toNat)
  | .RShift => rI (fun _ j => 0 ≤ j) fun i j => .int (i / 2 ^ j.toNat)
  | .BitAnd => rI0 fun i j => .int (Builtin.bitAnd i j)
  | .BitOr => rI0 fun i j => .int (Builtin.bitOr i j)
  | .BitXor => rI0 fun i j => .int (Builtin.bitXor i j)
  | _ => fun _ _ _ _ => False
theorem op_none {X : Cx} {f : Value → Value → Sem Value} : OpR X f (fun _ _ _ _ => False) := fun _ _ _ _ _ _ _ _ _ _ _ _ h => h.elim
theorem bin_op {X : Cx} : ∀ op, OpR X (binaryOp op) (binR X.K op)
  | .Add => op_add.or op_catA
  | .Sub => op_sub
  | .Mult => op_mul.or op_mulW
  | .FloorDiv => op_fdivW
  | .Mod => op_mod
  | .Pow => op_powB
  | .LShift => op_shl
  | .RShift => op_shr
  | .BitAnd => op_and
  | .BitOr => op_or
  | .BitXor => op_xor
  | .MatMult => op_none
  | .Div => op_none
section
variable {K : PySem.W.Frag} {ρ : Env} {σ : L2.St} {HS H : Hp} {Q : VK}
theorem dp_int {v : V} {i : Int} (h : Dp K HS v (.int i)) : v = .int i := by cases h; rfl
theorem dp_bool {v : V} {i : Bool} (h : Dp K HS v (.bool i)) : v = .bl i := by cases h; rfl
theorem dp_tup {v : V} {ds : List D} (h : Dp K HS v (.tuple ds)) : ∃ a vs, v = .ref a ∧ SqT K HS a vs ∧ DpAll K HS vs ds := by
  cases h with
  | tup hs ha => exact ⟨_, _, rfl, hs, ha⟩
theorem dp_lst {v : V} {ds : List D} (h : Dp K HS v (.list ds)) : ∃ a vs, v = .ref a ∧ SqL K HS a vs ∧ DpAll K HS vs ds := by
  cases h with
  | lst hs ha => exact ⟨_, _, rfl, hs, ha⟩
/-- what is behind an operation: the heap may have new things -/
abbrev Lk (K : PySem.W.Frag) (ρ : Env) (σ : L2.St) (HS H : Hp) (Q : VK) (k : D → Prop) : Prop := ∀ z w H' HS', k z → Sim K ρ σ HS' H' → Step ρ HS H ρ HS' H' → Dp K HS' w z → Q w H'
theorem sz_ok {n : Nat} (h : n ≤ 100000) : n ≤ sizeLine := Nat.le_trans h (by decide)
theorem sz_lt {n : Nat} (h : n < 100000) : n < sizeLine := Nat.lt_of_lt_of_le h (by decide)
theorem bin_ok {op : Operator} {x y : D} {v u : V} {k : D → Prop} (S : Sim K ρ σ HS H) (hx : Dp K HS v x) (hy : Dp K HS u y) (h : binW op x y k) (l : Lk K ρ σ HS H Q k) : binR K op v u H Q := by
  have fin : ∀ i : Int, k (.int i) → Q (.int i) H := fun i q => l _ _ H HS q S (Step.refl _ _ _) (.int i)
  unfold binW at h
  split at h
  · cases hx; cases hy
    exact .inl ⟨_, _, rfl, rfl, fin _ h⟩
  · obtain ⟨hz, h⟩ := h
    obtain ⟨a, xs, rfl, ha, ra⟩ := dp_tup hx
    obtain ⟨b, ys, rfl, hb, rb⟩ := dp_tup hy
    have la := dps_len ra
    have lb := dps_len rb
    refine .inr ⟨a, b, xs, ys, rfl, rfl, ex_seqT S.sub ha, ex_seqT S.sub hb, sz_ok (by omega), fun e => ?_, fun _ e => ?_, fun _ _ p hp => ?_⟩
    · subst e
      cases ra
      exact l _ _ H HS h S (Step.refl _ _ _) hy
    · subst e
      cases rb
      rw [List.append_nil] at h
      exact l _ _ H HS h S (Step.refl _ _ _) hx
    · exact l _ _ _ _ h (alloc_simS S hp) (alloc_stepS S hp) (new_tup S hp (dps_app ra rb))
  all_goals first
    | (cases hx; cases hy; exact ⟨_, _, rfl, rfl, fin _ h⟩)
    | (cases hx; cases hy; obtain ⟨hc | hc, h⟩ := h; exact .inl ⟨_, _, rfl, rfl, hc, fin _ h⟩; exact .inr ⟨_, _, rfl, rfl, hc, fin _ h⟩)
    | (cases hx; cases hy; exact ⟨_, _, rfl, rfl, h.1, fin _ h.2⟩)
    | exact h.elim
end

/-! ### comparisons -/
def eqW (x y : D) (k : Bool → Prop) : Prop := SeqAt.shaped x = true ∧ SeqAt.shaped y = true ∧ k (PyData.eqv x y)
def isNone : D → Bool
  | .none => true
  | _ => false
def flatD : D → Bool
  | .none => true
  | .bool _ => true
  | .int _ => true
  | .str _ => true
  | _ => false
def inD (x : D) (xs : List D) : Bool := xs.any fun y => PyData.eqv y x
def cmpW : CmpOp → D → D → (Bool → Prop) → Prop
  | .Eq, x, y, k => eqW x y k
  | .NotEq, x, y, k => eqW x y fun b => k (!b)
  | .Lt, .int i, .int j, k => k (decide (i < j))
  | .LtE, .int i, .int j, k => k (decide (i ≤ j))
  | .Gt, .int i, .int j, k => k (decide (j < i))
  | .GtE, .int i, .int j, k => k (decide (j ≤ i))
  | .Is, x, .none, k => k (isNone x)
  | .IsNot, x, .none, k => k (!isNone x)
  | .In, x, .list ys, k => flatD x = true ∧ ys.all flatD = true ∧ k (inD x ys)
  | .In, x, .tuple ys, k => flatD x = true ∧ ys.all flatD = true ∧ k (inD x ys)
  | .NotIn, x, .list ys, k => flatD x = true ∧ ys.all flatD = true ∧ k (!inD x ys)
  | .NotIn, x, .tuple ys, k => flatD x = true ∧ ys.all flatD = true ∧ k (!inD x ys)
  | _, _, _, _ => False
def cmpR (K : PySem.W.Frag) : CmpOp → R2
  | .Eq => rEqD K
  | .NotEq => rNeD K
  | .Lt => rI0 fun i j => .bl (decide (i < j))
  | .LtE => rI0 fun i j => .bl (decide (i ≤ j))
  | .Gt => rI0 fun i j => .bl (decide (j < i))
  | .GtE => rI0 fun i j => .bl (decide (j ≤ i))
  | .Is => fun x y H Q => y = .non ∧ Q (.bl (decide (x = .non))) H
  | .IsNot => fun x y H Q => y = .non ∧ Q (.bl (!decide (x = .non))) H
  | .In => rIn K false
  | .NotIn => rIn K true
theorem cmp_op {X : Cx} (hu : X.A.units + 64 < cLine) : ∀ op, OpR X (compareOp op) (cmpR X.K op)
  | .Eq => op_eqD hu
  | .NotEq => op_neD hu
  | .Lt => op_lt
  | .LtE => op_le
  | .Gt => op_gt
  | .GtE => op_ge
  | .Is => op_isN
  | .IsNot => op_notN
  | .In => op_in_seq
  | .NotIn => op_notIn_seq
section
variable {K : PySem.W.Frag} {ρ : Env} {σ : L2.St} {HS H : Hp} {Q : VK}
theorem isNone_ok {v : V} {x : D} (h : Dp K HS v x) : decide (v = .non) = isNone x := by
  cases h <;> rfl
theorem flat_ok {v : V} {x : D} (h : Dp K HS v x) (f : flatD x = true) : flatV v = true := by
  cases h <;> first | rfl | cases f
theorem flats_ok : ∀ {vs : List V} {xs : List D}, DpAll K HS vs xs → xs.all flatD = true → vs.all flatV = true
  | _, _, .nil, _ => rfl
  | _, _, .cons h t, f => by
    rw [List.all_cons, Bool.and_eq_true] at f ⊢
    exact ⟨flat_ok h f.1, flats_ok t f.2⟩
theorem eqV_ok {v u : V} {x y : D} (hx : Dp K HS v x) (hy : Dp K HS u y) (fx : flatD x = true) (fy : flatD y = true) : eqV v u = PyData.eqv x y := by
  cases hx <;> cases hy <;> first
    | (simp [flatD] at fx; done)
    | (simp [flatD] at fy; done)
    | simp [eqV, PyData.eqv]
theorem inV_ok {v : V} {x : D} (hx : Dp K HS v x) (fx : flatD x = true) : ∀ {vs : List V} {xs : List D}, DpAll K HS vs xs → xs.all flatD = true → inV v vs = inD x xs
  | _, _, .nil, _ => rfl
  | _, _, .cons h t, f => by
    rw [List.all_cons, Bool.and_eq_true] at f
    have ih := inV_ok hx fx t f.2
    unfold inV inD at ih ⊢
    rw [List.any_cons, List.any_cons, ih, eqV_ok h hx f.1 fx]
theorem cmp_ok {op : CmpOp} {x y : D} {v u : V} {k : Bool → Prop} (S : Sim K ρ σ HS H) (hx : Dp K HS v x) (hy : Dp K HS u y) (h : cmpW op x y k) (l : ∀ b, k b → Q (.bl b) H) : cmpR K op v u H Q := by
  have inn : ∀ (ys : List D) (neg : Bool) (a : Addr) (vs : List V), (SqL K H a vs ∨ SqT K H a vs) → DpAll K HS vs ys → flatD x = true → ys.all flatD = true → k (if neg = true then !inD x ys else inD x ys) → rIn K neg v (.ref a) H Q := fun ys neg a vs hs ha fx fy q =>
    ⟨a, vs, rfl, hs, flat_ok hx fx, flats_ok ha fy, by rw [inV_ok hx fx ha fy]; exact l _ q⟩
  unfold cmpW at h
  split at h
  · exact ⟨x, y, dp_mono S.sub x v hx, dp_mono S.sub y u hy, h.1, h.2.1, l _ h.2.2⟩
  · exact ⟨x, y, dp_mono S.sub x v hx, dp_mono S.sub y u hy, h.1, h.2.1, l _ h.2.2⟩
  all_goals first
    | (cases hx; cases hy; exact ⟨_, _, rfl, rfl, l _ h⟩)
    | (cases hy; exact ⟨rfl, by rw [isNone_ok hx]; exact l _ h⟩)
    | (obtain ⟨a, vs, rfl, hs, ha⟩ := dp_lst hy; exact inn _ false a vs (.inl (ex_seqL S.sub hs)) ha h.1 h.2.1 h.2.2)
    | (obtain ⟨a, vs, rfl, hs, ha⟩ := dp_tup hy; exact inn _ false a vs (.inr (ex_seqT S.sub hs)) ha h.1 h.2.1 h.2.2)
    | (obtain ⟨a, vs, rfl, hs, ha⟩ := dp_lst hy; exact inn _ true a vs (.inl (ex_seqL S.sub hs)) ha h.1 h.2.1 h.2.2)
    | (obtain ⟨a, vs, rfl, hs, ha⟩ := dp_tup hy; exact inn _ true a vs (.inr (ex_seqT S.sub hs)) ha h.1 h.2.1 h.2.2)
    | exact h.elim
end

/-! ### truth -/
def truth : D → Option Bool
  | .none => some false
  | .bool b => some b
  | .int i => some (i != 0)
  | .list ds => some (!ds.isEmpty)
  | .tuple ds => some (!ds.isEmpty)
  | _ => none
theorem isEmpty_len {α β : Type} {xs : List α} {ys : List β} (h : xs.length = ys.length) : xs.isEmpty = ys.isEmpty := by
  cases xs <;> cases ys <;> first | rfl | cases h
theorem truth_ok {K : PySem.W.Frag} {HS H : Hp} {v : V} {d : D} {b : Bool} (e : Ex HS H) (h : Dp K HS v d) (t : truth d = some b) : TruV K v H b := by
  cases h with
  | non => cases t; exact rfl
  | bl c => cases t; exact rfl
  | int i => cases t; exact rfl
  | str x => cases t
  | lst hs ha => cases t; exact .inl ⟨_, ex_seqL e hs, by rw [isEmpty_len (dps_len ha)]⟩
  | tup hs ha => cases t; exact .inr (.inl ⟨_, ex_seqT e hs, by rw [isEmpty_len (dps_len ha)]⟩)

/-! ### built-ins of one argument -/
inductive B1 where
  | len | int | abs | tuple | list | sum | all | any | min | max | sorted
  deriving DecidableEq
def B1.name : B1 → Str
  | .len => "len" | .int => "int" | .abs => "abs" | .tuple => "tuple" | .list => "list" | .sum => "sum" | .all => "all" | .any => "any" | .min => "min" | .max => "max" | .sorted => "sorted"
def b1W : B1 → Env → R → (R → Prop) → Prop
  | .len, ρ, r, k => ∃ b ds, seqOf ρ r = some (b, ds) ∧ k (.v (.int (ds.length : Nat)))
  | .int, _, .v (.int i), k => k (.v (.int i))
  | .int, _, .v (.bool b), k => k (.v (.int (if b = true then 1 else 0)))
  | .abs, _, .v (.int i), k => k (.v (.int (if i < 0 then -i else i)))
  | .tuple, ρ, r, k => ∃ b ds, seqOf ρ r = some (b, ds) ∧ (if b = true then k (.tp ds) else k (.v (.tuple ds)))
  | .list, ρ, r, k => ∃ b ds, seqOf ρ r = some (b, ds) ∧ ∀ p, k (.nw p ds)
  | .sum, ρ, r, k => ∃ (b : Bool) (is : List Int), seqOf ρ r = some (b, is.map PyData.int) ∧ k (.v (.int is.sum))
  | .all, ρ, r, k => ∃ bs : List Bool, seqOf ρ r = some (true, bs.map PyData.bool) ∧ k (.v (.bool (bs.all id)))
  | .any, ρ, r, k => ∃ bs : List Bool, seqOf ρ r = some (true, bs.map PyData.bool) ∧ k (.v (.bool (bs.any id)))
  | .min, ρ, r, k => ∃ (b : Bool) (is : List Int), seqOf ρ r = some (b, is.map PyData.int) ∧ 0 < is.length ∧ ∀ m, m ∈ is → (∀ y, y ∈ is → m ≤ y) → k (.v (.int m))
  | .max, ρ, r, k => ∃ (b : Bool) (is : List Int), seqOf ρ r = some (b, is.map PyData.int) ∧ 0 < is.length ∧ ∀ m, m ∈ is → (∀ y, y ∈ is → y ≤ m) → k (.v (.int m))
  | .sorted, ρ, r, k => ∃ is : List Int, seqOf ρ r = some (true, is.map PyData.int) ∧ ∀ (js : List Int) p, js.Perm is → js.Pairwise (· ≤ ·) → k (.nw p (js.map PyData.int))
  | _, _, _, _ => False
def b1R (X : Cx) : B1 → List V → Hp → VK → Prop
  | .len => fun xs H Q => ∃ p ys, xs = [.ref p] ∧ (SqL X.K H p ys ∨ SqT X.K H p ys) ∧ Q (.int ys.length) H
  | .int => fun xs H Q => (∃ i, xs = [.int i] ∧ Q (.int i) H) ∨ ∃ k, xs = [.bl k] ∧ Q (.int (if k then 1 else 0)) H
  | .abs => fun xs H Q => ∃ i, xs = [.int i] ∧ Q (.int (if i < 0 then -i else i)) H
  | .tuple => fun xs H Q => ∃ p ys, xs = [.ref p] ∧ ((SqL X.K H p ys ∧ ∀ l o, o.dict = none → H l = none → Q (.ref l) (upd H l (.frz o (.tup ys)))) ∨ (SqT X.K H p ys ∧ Q (.ref p) H))
  | .list => fun xs H Q => ∃ p ys, xs = [.ref p] ∧ (SqL X.K H p ys ∨ SqT X.K H p ys) ∧ ∀ l, H l = none → Q (.ref l) (upd H l (.lst ys))
  | .sum => fun xs H Q => rSum X.K xs H Q ∨ VLx.rSumT X.K xs H Q
  | .all => rAll X.K
  | .any => rAny X.K
  | .min => fun xs H Q => rMin X.K xs H Q ∨ VLx.rMinT X.K xs H Q
  | .max => fun xs H Q => rMax X.K xs H Q ∨ VLx.rMaxT X.K xs H Q
  | .sorted => rSortedI X.K
/-- tuple(xs) of a list: the new tuple's object has no dict -/
theorem call_tuple_frz {X : Cx} : CallR X (.type "tuple") (b1R X .tuple) := by
  intro pins s σ H xs us Q I r h
  obtain ⟨p, ys, rfl, h⟩ := h
  obtain ⟨u, rfl, rx⟩ := vals1 r
  cases rx
  rcases h with ⟨hq, q⟩ | ⟨hq, q⟩
  · obtain ⟨its, r', pl, hz⟩ := I.list hq
    have hlen := r'.length
    refine call_tuple_list pl.isList (fun h' kp => ?_) (by simp only [List.size_toArray] <;> omega)
    have I1 : Inv X pins σ H { s with heap := h' } := I.kept (t' := s.toks) kp
    have I2 : Inv X pins σ (upd H h'.objs.size (.frz { cls := .type "tuple", data := .seq its.toArray } (.tup ys))) { s with heap := h'.push { cls := .type "tuple", data := .seq its.toArray } } :=
      I1.laid (t' := s.toks) (fun b o e => Heap.get?_push_of_some _ e) (Nat.le_refl _) ⟨Heap.get?_push_size _ rfl, hz, its, r', ⟨_, Heap.get?_push_size _ rfl, rfl, 0, rfl⟩⟩
    exact ⟨.ref h'.objs.size, _, I2, rfl, q _ _ rfl (I1.hok.fresh (Nat.le_refl _))⟩
  · obtain ⟨its, r', pl, hz⟩ := I.tuple hq
    exact call_tuple_same pl ⟨.ref p, H, I, rfl, q⟩
theorem pe_b1 {X : Cx} {e : Expr} {t : TA} {p pos : Pos} {f : B1} (hc : X.calm = true) (hg : Gl X f.name) (hm : X.mg f.name = none) (ha : PA X [e] t) (he : starEach [e] X.env = [(false, eval e X.env)]) : PE X (.Call (.Name f.name p) [e] [] pos) (tCB (b1R X f) t) := by
  have he' : starEach (e :: []) X.env = (false, eval e X.env) :: starEach [] X.env := he
  cases f with
  | len => exact pe_callB call_len_seq hg hm (by decide +kernel) ha (by decide +kernel) (by decide +kernel) he' rfl
  | int => exact pe_callTy call_int1 hg hm (by decide +kernel) ha (by decide +kernel) (by decide +kernel) he' rfl
  | abs => exact pe_callB call_abs hg hm (by decide +kernel) ha (by decide +kernel) (by decide +kernel) he' rfl
  | tuple => exact pe_callTy call_tuple_frz hg hm (by decide +kernel) ha (by decide +kernel) (by decide +kernel) he' rfl
  | list => exact pe_callTy call_list_of hg hm (by decide +kernel) ha (by decide +kernel) (by decide +kernel) he' rfl
  | sum => exact pe_callB ((cr_sum hc).or (VLx.cr_sumT hc)) hg hm (by decide +kernel) ha (by decide +kernel) (by decide +kernel) he' rfl
  | all => exact pe_callB (cr_all hc) hg hm (by decide +kernel) ha (by decide +kernel) (by decide +kernel) he' rfl
  | any => exact pe_callB (cr_any hc) hg hm (by decide +kernel) ha (by decide +kernel) (by decide +kernel) he' rfl
  | min => exact pe_callB ((cr_min hc).or (VLx.cr_minT hc)) hg hm (by decide +kernel) ha (by decide +kernel) (by decide +kernel) he' rfl
  | max => exact pe_callB ((cr_max hc).or (VLx.cr_maxT hc)) hg hm (by decide +kernel) ha (by decide +kernel) (by decide +kernel) he' rfl
  | sorted => exact pe_callB cr_sortedI hg hm (by decide +kernel) ha (by decide +kernel) (by decide +kernel) he' rfl
theorem SqB.or {K : PySem.W.Frag} {H : Hp} {a : Addr} {b : Bool} {vs : List V} (h : SqB K H a b vs) : SqL K H a vs ∨ SqT K H a vs := by
  cases b with
  | true => exact .inl h
  | false => exact .inr h
/-- what is behind an operation that hands back a result -/
abbrev LkR (K : PySem.W.Frag) (H0 : Hp) (ρ : Env) (σ : L2.St) (HS H : Hp) (Q : VK) (k : R → Prop) : Prop := ∀ r w H' HS', k r → Sim K ρ σ HS' H' → Step ρ HS H ρ HS' H' → RepR K H0 σ ρ HS' H' w r → Q w H'
theorem b1_ok {X : Cx} {H0 : Hp} {ρ : Env} {σ : L2.St} {HS H : Hp} {Q : VK} {f : B1} {r : R} {v : V} {k : R → Prop} (S : Sim X.K ρ σ HS H) (l0 : ∀ a, H a = none → H0 a = none) (h : RepR X.K H0 σ ρ HS H v r) (w : b1W f ρ r k) (l : LkR X.K H0 ρ σ HS H Q k) : b1R X f [v] H Q := by
  have fin : ∀ d u, k (.v d) → Dp X.K HS u d → Q u H := fun d u q r => l (.v d) u H HS q S (Step.refl _ _ _) r
  unfold b1W at w
  split at w
  · obtain ⟨b, ds, e, q⟩ := w
    obtain ⟨a, vs, rfl, hs, ha⟩ := seq_ok S h e
    refine ⟨a, vs, rfl, hs.or, ?_⟩
    rw [dps_len ha]
    exact fin _ _ q (.int _)
  · cases (show Dp X.K HS v (.int _) from h)
    exact .inl ⟨_, rfl, fin _ _ w (.int _)⟩
  · cases (show Dp X.K HS v (.bool _) from h)
    exact .inr ⟨_, rfl, fin _ _ w (.int _)⟩
  · cases (show Dp X.K HS v (.int _) from h)
    exact ⟨_, rfl, fin _ _ w (.int _)⟩
  · obtain ⟨b, ds, e, q⟩ := w
    obtain ⟨a, vs, rfl, hs, ha⟩ := seq_ok S h e
    cases b with
    | true => exact ⟨a, vs, rfl, .inl ⟨hs, fun p o ho hp => l _ _ _ _ (show k (.tp ds) from q) (alloc_simS S hp) (alloc_stepS S hp) ⟨p, o, vs, rfl, upd_same, ho, dps_mono (Ex.new (alloc (o := .frz o (.tup vs)) S hp).1) ds vs ha⟩⟩⟩
    | false =>
      refine ⟨a, vs, rfl, .inr ⟨hs, ?_⟩⟩
      -- the tuple itself
      have self : Dp X.K HS (.ref a) (.tuple ds) := by
        cases r with
        | v d => cases d <;> first | (cases e; done) | (cases e; exact h)
        | nw p es => cases e
        | tp es =>
          cases e
          exact PlT.dp h
        | pl i =>
          have hv : σ[i]? = some (some (V.ref a)) := h
          unfold seqOf at e
          dsimp only at e
          split at e <;> first
            | (cases e; done)
            | (rename_i es e'
               cases e
               obtain ⟨v', h1, h2⟩ := S.im i _ e' rfl
               rw [hv] at h1
               cases h1
               first | exact h2 | exact PlT.dp h2)
      exact fin _ _ (show k (.v (.tuple ds)) from q) self
  · obtain ⟨b, ds, e, q⟩ := w
    obtain ⟨a, vs, rfl, hs, ha⟩ := seq_ok S h e
    exact ⟨a, vs, rfl, hs.or, fun p hp => l _ _ _ _ (q p) (alloc_sim S hp) (alloc_step hp) (new_lst S hp (l0 p hp) ha)⟩
  · obtain ⟨b, is, e, q⟩ := w
    obtain ⟨a, vs, rfl, hs, ha⟩ := seq_ok S h e
    rw [dps_ints is ha] at hs
    cases b with
    | true => exact .inl ⟨a, is, rfl, hs, fin _ _ q (.int _)⟩
    | false => exact .inr ⟨a, is, rfl, hs, fin _ _ q (.int _)⟩
  · obtain ⟨is, e, q⟩ := w
    obtain ⟨a, vs, rfl, hs, ha⟩ := seq_ok S h e
    rw [dps_bools is ha] at hs
    exact ⟨a, is, rfl, hs, fin _ _ q (.bl _)⟩
  · obtain ⟨is, e, q⟩ := w
    obtain ⟨a, vs, rfl, hs, ha⟩ := seq_ok S h e
    rw [dps_bools is ha] at hs
    exact ⟨a, is, rfl, hs, fin _ _ q (.bl _)⟩
  · obtain ⟨b, is, e, n, q⟩ := w
    obtain ⟨a, vs, rfl, hs, ha⟩ := seq_ok S h e
    rw [dps_ints is ha] at hs
    cases b with
    | true => exact .inl ⟨a, is, rfl, hs, n, fun m h1 h2 => fin _ _ (q m h1 h2) (.int _)⟩
    | false => exact .inr ⟨a, is, rfl, hs, n, fun m h1 h2 => fin _ _ (q m h1 h2) (.int _)⟩
  · obtain ⟨b, is, e, n, q⟩ := w
    obtain ⟨a, vs, rfl, hs, ha⟩ := seq_ok S h e
    rw [dps_ints is ha] at hs
    cases b with
    | true => exact .inl ⟨a, is, rfl, hs, n, fun m h1 h2 => fin _ _ (q m h1 h2) (.int _)⟩
    | false => exact .inr ⟨a, is, rfl, hs, n, fun m h1 h2 => fin _ _ (q m h1 h2) (.int _)⟩
  · obtain ⟨is, e, q⟩ := w
    obtain ⟨a, vs, rfl, hs, ha⟩ := seq_ok S h e
    rw [dps_ints is ha] at hs
    exact ⟨a, is, rfl, hs, fun js p h1 h2 hp => l _ _ _ _ (q js p h1 h2) (alloc_sim S hp) (alloc_step hp) (new_lst S hp (l0 p hp) (dps_of_ints js))⟩
  · exact w.elim

/-! ### built-ins of two arguments -/
inductive B2 where
  | min | max
  deriving DecidableEq
def B2.name : B2 → Str
  | .min => "min" | .max => "max"
def b2W : B2 → D → D → (D → Prop) → Prop
  | .min, .int i, .int j, k => k (.int (if j < i then j else i))
  | .max, .int i, .int j, k => k (.int (if j > i then j else i))
  | _, _, _, _ => False
def b2R : B2 → List V → Hp → VK → Prop
  | .min => fun xs H Q => ∃ i j, xs = [.int i, .int j] ∧ Q (.int (if j < i then j else i)) H
  | .max => fun xs H Q => ∃ i j, xs = [.int i, .int j] ∧ Q (.int (if j > i then j else i)) H
theorem pe_b2 {X : Cx} {e e2 : Expr} {t : TA} {p pos : Pos} {f : B2} (hc : X.calm = true) (hg : Gl X f.name) (hm : X.mg f.name = none) (ha : PA X [e, e2] t) (he : starEach [e, e2] X.env = [(false, eval e X.env), (false, eval e2 X.env)]) (he2 : starEach [e2] X.env = [(false, eval e2 X.env)]) :
    PE X (.Call (.Name f.name p) [e, e2] [] pos) (tCB (b2R f) t) := by
  have e1 : starEach (e :: [e2]) X.env = (false, eval e X.env) :: starEach [e2] X.env := by rw [he, he2]
  have e3 : (backTo pos (starEach [e2] X.env)).any (·.1) = false := by rw [he2]; rfl
  cases f with
  | min => exact pe_callB (call_min2 hc) hg hm (by decide +kernel) ha (by decide +kernel) (by decide +kernel) e1 e3
  | max => exact pe_callB (call_max2 hc) hg hm (by decide +kernel) ha (by decide +kernel) (by decide +kernel) e1 e3
theorem b2_ok {K : PySem.W.Frag} {HS H : Hp} {Q : VK} {f : B2} {x y : D} {v u : V} {k : D → Prop} (hx : Dp K HS v x) (hy : Dp K HS u y) (w : b2W f x y k) (l : ∀ i, k (.int i) → Q (.int i) H) : b2R f [v, u] H Q := by
  unfold b2W at w
  split at w
  · cases hx; cases hy
    exact ⟨_, _, rfl, l _ w⟩
  · cases hx; cases hy
    exact ⟨_, _, rfl, l _ w⟩
  · exact w.elim

/-! ### items, slices -/
def cutD (ds : List D) (lo hi : Option Int) : List D := (ds.drop (HT.sIx ds.length 0 lo)).take (HT.sIx ds.length ds.length hi - HT.sIx ds.length 0 lo)
theorem cut_ok {K : PySem.W.Frag} {HS : Hp} {vs : List V} {ds : List D} (h : DpAll K HS vs ds) (lo hi : Option Int) : DpAll K HS (cutV vs lo hi) (cutD ds lo hi) := by
  unfold cutV cutD
  rw [dps_len h]
  exact dps_take _ (dps_drop _ h)
theorem at_ok {K : PySem.W.Frag} {HS : Hp} {vs : List V} {ds : List D} {i : Int} {d : D} (h : DpAll K HS vs ds) (e : atI ds i = some d) : ∃ v, atI vs i = some v ∧ Dp K HS v d := by
  unfold atI at e ⊢
  rw [dps_len h]
  cases q : ixN ds.length i with
  | none => rw [q] at e; cases e
  | some j =>
    rw [q] at e
    exact dps_get h e
theorem cut_whole {α : Type} {xs : List α} {lo hi : Option Int} (h : HT.sIx xs.length 0 lo = 0 ∧ HT.sIx xs.length xs.length hi = xs.length) : (xs.drop (HT.sIx xs.length 0 lo)).take (HT.sIx xs.length xs.length hi - HT.sIx xs.length 0 lo) = xs := by
  rw [h.1, h.2]
  simp
end VL

set_option Elab.async false
set_option linter.all false
set_option maxRecDepth 100000
namespace VL
open PySem L2

/-! ### the language -/
mutual
inductive E where
  | var (i : Nat)
  | cst (d : D)
  | glo (g : Nat)
  | bin (op : Operator) (a b : E)
  | cmp (op : CmpOp) (a b : E)
  | chain (o1 o2 : CmpOp) (a b c : E)
  | and (a b : E)
  | or (a b : E)
  | not (a : E)
  | neg (a : E)
  | ife (t a b : E)
  | tup (es : Es)
  | lst (es : Es)
  | idx (a i : E)
  | sl (a : E) (lo hi : Eo)
  | b1 (f : B1) (a : E)
  | b2 (f : B2) (a b : E)
  | lrng (a : E)
  | isi (a : E) (t : String)
  | call (f : Nat) (es : Es)
  | cio (f i : Nat) (es : Es)
  | cnw (f : Nat) (e : E) (es : Es)
  | lc (el : E) (tg : List Nat) (it : It) (ifs : Eo) (own : List Nat)
  | pop (i : Nat) (a : E)
  | tidx (a b : E)
  | rep (a b : E)
inductive Es where
  | nil
  | cons (e : E) (es : Es)
inductive Eo where
  | none
  | some (e : E)
inductive It where
  | seq (e : E)
  | r1 (a : E)
  | r2 (a b : E)
  | enum (a : E)
  | zip (a b : E)
end

/-! ### what is told of a def -/
inductive Ret where
  | val | lst | tup
structure DSpec where
  io : Bool
  fr : Ret
  ar : Nat
  α : Type
  args : α → List D × List D
  ok : α → Prop
  post : α → D → List D → Prop
  len : ∀ a, (args a).2.length + (if io = true then 1 else 0) = ar
def DSpec.run (S : DSpec) (pds ds : List D) (k : D → List D → Prop) : Prop := ∃ a, S.args a = (pds, ds) ∧ S.ok a ∧ ∀ d pds', S.post a d pds' → k d pds'
/-- a call's value as a result -/
def retW : Ret → D → (R → Prop) → Prop
  | .val, d, k => k (.v d)
  | .lst, .list ds, k => ∀ p, k (.nw p ds)
  | .tup, .tuple ds, k => k (.tp ds)
  | _, _, _ => False

/-! ### targets, loops -/
def setAll (ρ : Env) : List Nat → List D → Env
  | i :: is, d :: ds => setAll (ρ.set i (some (.im d))) is ds
  | _, _ => ρ
/-- one name, or several that a tuple is unpacked to -/
def bindT : List Nat → D → Env → (Env → Prop) → Prop
  | [i], d, ρ, k => k (ρ.set i (some (.im d)))
  | is, .tuple ds, ρ, k => is.length = ds.length ∧ k (setAll ρ is ds)
  | _, _, _, _ => False
def wipeE (ρ : Env) : List Nat → Env
  | [] => ρ
  | i :: is => (wipeE ρ is).set i none
/-- ρ', the slots of own as in ρ -/
def keepI : Option SV → Option SV
  | some (.ow _ _) => none
  | x => x
def restore (ρ ρ' : Env) : List Nat → Env
  | [] => ρ'
  | i :: is => (restore ρ ρ' is).set i (keepI (ρ.getD i none))
def compL (tg own : List Nat) (test : WT) (el : WV) : List D → Env → List D → (List D → Env → Prop) → Prop
  | [], ρ, acc, k => k acc ρ
  | x :: xs, ρ, acc, k => bindT tg x (wipeE ρ own) fun ρ1 => test ρ1 fun b ρ2 => if b = true then el ρ2 fun y ρ3 => compL tg own test el xs (restore ρ ρ3 own) (acc ++ [y]) k else compL tg own test el xs (restore ρ ρ2 own) acc k
def tyNames : List String := ["int", "bool", "tuple", "str", "list", "dict"]
def tyName : D → String
  | .none => "NoneType"
  | .bool _ => "bool"
  | .int _ => "int"
  | .str _ => "str"
  | .list _ => "list"
  | .tuple _ => "tuple"
  | .dict _ => "dict"
/-- isinstance of plain data and a built-in type -/
def isiD (d : D) (t : String) : Bool := tyName d == t || (t == "int" && tyName d == "bool")

structure Sg where
  fn : List Str
  gc : List (Str × D)
  blt : List Str

/-! ### combinators that a value and a test share -/
abbrev cVar (i : Nat) : W := fun ρ k => match ρ[i]? with
  | some (some (.im d)) => k (.v d) ρ
  | some (some (.tp ds)) => k (.tp ds) ρ
  | some (some (.ow _ _)) => k (.pl i) ρ
  | _ => False
abbrev cBin (op : Operator) (a b : W) : W := fun ρ k => vv a ρ fun x ρ1 => vv b ρ1 fun y ρ2 => binW op x y fun z => k (.v z) ρ2
abbrev cIdx (a i : W) : W := fun ρ k => a ρ fun r ρ1 => vv i ρ1 fun x ρ2 => match x with
  | .int j => ∃ b ds d, seqOf ρ2 r = some (b, ds) ∧ atI ds j = some d ∧ k (.v d) ρ2
  | _ => False
abbrev cB1 (f : B1) (a : W) : W := fun ρ k => a ρ fun r ρ1 => b1W f ρ1 r fun z => k z ρ1
abbrev cIsi (a : W) (t : String) : W := fun ρ k => vv a ρ fun x ρ1 => k (.v (.bool (isiD x t))) ρ1
abbrev cCall (S : DSpec) (es : WA) : W := fun ρ k => es ρ fun ds ρ1 => S.io = false ∧ S.run [] ds fun d _ => retW S.fr d fun r => k r ρ1
abbrev cCio (S : DSpec) (i : Nat) (es : WA) : W := fun ρ k => match ρ[i]? with
  | some (some (.ow _ _)) => es ρ fun ds ρ1 => match ρ1[i]? with
    | some (some (.ow p pds)) => S.io = true ∧ S.run pds ds fun d pds' => retW S.fr d fun r => k r (ρ1.set i (some (.ow p pds')))
    | _ => False
  | _ => False
abbrev cCnw (S : DSpec) (a : W) (es : WA) : W := fun ρ k => a ρ fun r ρ1 => match r with
  | .nw _ pds => es ρ1 fun ds ρ2 => S.io = true ∧ S.run pds ds fun d _ => retW S.fr d fun r => k r ρ2
  | _ => False
abbrev tru (w : W) : WT := fun ρ k => vv w ρ fun x ρ1 => ∃ t, truth x = some t ∧ k t ρ1

/-! ### the readings -/
section
variable (G : Sg) (Γ : Nat → DSpec)
mutual
def ev : E → W
  | .var i => cVar i
  | .cst d => fun ρ k => k (.v d) ρ
  | .glo g => fun ρ k => match G.gc[g]? with
    | some (_, d) => k (.v d) ρ
    | none => False
  | .bin op a b => cBin op (ev a) (ev b)
  | .cmp op a b => fun ρ k => vv (ev a) ρ fun x ρ1 => vv (ev b) ρ1 fun y ρ2 => cmpW op x y fun z => k (.v (.bool z)) ρ2
  | .chain o1 o2 a b c => fun ρ k => vv (ev a) ρ fun x ρ1 => vv (ev b) ρ1 fun y ρ2 => cmpW o1 x y fun t => if t = true then vv (ev c) ρ2 fun z ρ3 => cmpW o2 y z fun u => k (.v (.bool u)) ρ3 else k (.v (.bool false)) ρ2
  | .and a b => fun ρ k => vv (ev a) ρ fun x ρ1 => ∃ t, truth x = some t ∧ if t = true then vv (ev b) ρ1 fun y ρ2 => k (.v y) ρ2 else k (.v x) ρ1
  | .or a b => fun ρ k => vv (ev a) ρ fun x ρ1 => ∃ t, truth x = some t ∧ if t = true then k (.v x) ρ1 else vv (ev b) ρ1 fun y ρ2 => k (.v y) ρ2
  | .not a => fun ρ k => vv (ev a) ρ fun x ρ1 => ∃ t, truth x = some t ∧ k (.v (.bool (!t))) ρ1
  | .neg a => fun ρ k => vv (ev a) ρ fun x ρ1 => match x with
    | .int i => k (.v (.int (-i))) ρ1
    | _ => False
  | .ife t a b => fun ρ k => evT t ρ fun c ρ1 => if c = true then ev a ρ1 k else ev b ρ1 k
  | .tup es => fun ρ k => evA es ρ fun ds ρ1 => ds.length ≤ 100000 ∧ k (.v (.tuple ds)) ρ1
  | .lst es => fun ρ k => evA es ρ fun ds ρ1 => ds.length ≤ 100000 ∧ ∀ p, k (.nw p ds) ρ1
  | .idx a i => cIdx (ev a) (ev i)
  | .sl a lo hi => fun ρ k => ev a ρ fun r ρ1 => evO lo ρ1 fun l ρ2 => evO hi ρ2 fun h ρ3 => ∃ b ds, seqOf ρ3 r = some (b, ds) ∧ if b = true then ∀ p, k (.nw p (cutD ds l h)) ρ3 else k (.v (.tuple (cutD ds l h))) ρ3
  | .b1 f a => cB1 f (ev a)
  | .b2 f a b => fun ρ k => vv (ev a) ρ fun x ρ1 => vv (ev b) ρ1 fun y ρ2 => b2W f x y fun z => k (.v z) ρ2
  | .lrng a => fun ρ k => vv (ev a) ρ fun x ρ1 => match x with
    | .int n => 0 ≤ n ∧ n ≤ 100000 ∧ ∀ p, k (.nw p ((List.range n.toNat).map fun i => PyData.int (i : Nat))) ρ1
    | _ => False
  | .isi a t => cIsi (ev a) t
  | .call f es => cCall (Γ f) (evA es)
  | .cio f i es => cCio (Γ f) i (evA es)
  | .cnw f e es => cCnw (Γ f) (ev e) (evA es)
  | .lc el tg it ifs own => fun ρ k => evI it ρ fun xs ρ1 => xs.length ≤ 100000 ∧ ∀ p, compL tg own (evF ifs) (vv (ev el)) xs ρ1 [] fun ys ρ2 => k (.nw p ys) ρ2
  | .pop i a => fun ρ k => match ρ[i]? with
    | some (some (.ow _ _)) => vv (ev a) ρ fun x ρ1 => match x, ρ1[i]? with
      | .int j, some (some (.ow p ds)) => 0 ≤ j ∧ j < ds.length ∧ ds.length ≤ 100000 ∧ ∃ d, ds[j.toNat]? = some d ∧ k (.v d) (ρ1.set i (some (.ow p (ds.eraseIdx j.toNat))))
      | _, _ => False
    | _ => False
  | .tidx a b => fun ρ k => ev a ρ fun r ρ1 => match r with
    | .tp ds => vv (ev b) ρ1 fun y ρ2 => match y with
      | .int i => ∃ is : List Int, ds = is.map PyData.int ∧ i ∈ is ∧ k (.v (.int (is.idxOf i : Nat))) ρ2
      | _ => False
    | _ => False
  | .rep a b => fun ρ k => ev a ρ fun r ρ1 => match r with
    | .nw _ ds => vv (ev b) ρ1 fun y ρ2 => match y with
      | .int n => 0 ≤ n ∧ n ≤ 100000 ∧ ds.length * n.toNat ≤ 100000 ∧ ∀ q, k (.nw q (List.replicate n.toNat ds).flatten) ρ2
      | _ => False
    | _ => False
def evA : Es → WA
  | .nil => fun ρ k => k [] ρ
  | .cons e es => fun ρ k => vv (ev e) ρ fun d ρ1 => evA es ρ1 fun ds ρ2 => k (d :: ds) ρ2
def evO : Eo → WO
  | .none => fun ρ k => k none ρ
  | .some e => fun ρ k => vv (ev e) ρ fun d ρ1 => match d with
    | .int i => k (some i) ρ1
    | _ => False
def evF : Eo → WT
  | .none => fun ρ k => k true ρ
  | .some e => evT e
def evI : It → WA
  | .seq e => fun ρ k => vv (ev e) ρ fun d ρ1 => match d with
    | .list ds => k ds ρ1
    | .tuple ds => k ds ρ1
    | _ => False
  | .r1 a => fun ρ k => vv (ev a) ρ fun d ρ1 => match d with
    | .int n => -(2 ^ 62) ≤ n ∧ n < 2 ^ 62 ∧ k ((List.range n.toNat).map fun i => PyData.int (i : Nat)) ρ1
    | _ => False
  | .r2 a b => fun ρ k => vv (ev a) ρ fun d ρ1 => vv (ev b) ρ1 fun e ρ2 => match d, e with
    | .int m, .int n => (-(2 ^ 62) ≤ m ∧ m < 2 ^ 62 ∧ -(2 ^ 62) ≤ n ∧ n < 2 ^ 62) ∧ k ((List.range (n - m).toNat).map fun i => PyData.int (m + (i : Nat))) ρ2
    | _, _ => False
  | .enum a => fun ρ k => vv (ev a) ρ fun d ρ1 => match d with
    | .list ds => k (ds.mapIdx fun i x => .tuple [.int (i : Nat), x]) ρ1
    | .tuple ds => k (ds.mapIdx fun i x => .tuple [.int (i : Nat), x]) ρ1
    | _ => False
  | .zip a b => fun ρ k => vv (ev a) ρ fun d ρ1 => vv (ev b) ρ1 fun e ρ2 => match d, e with
    | .list xs, .list ys => k (List.zipWith (fun x y => .tuple [x, y]) xs ys) ρ2
    | .tuple xs, .tuple ys => k (List.zipWith (fun x y => .tuple [x, y]) xs ys) ρ2
    | _, _ => False
def evT : E → WT
  | .cmp op a b => fun ρ k => vv (ev a) ρ fun x ρ1 => vv (ev b) ρ1 fun y ρ2 => cmpW op x y fun z => k z ρ2
  | .chain o1 o2 a b c => fun ρ k => vv (ev a) ρ fun x ρ1 => vv (ev b) ρ1 fun y ρ2 => cmpW o1 x y fun t => if t = true then vv (ev c) ρ2 fun z ρ3 => cmpW o2 y z fun u => k u ρ3 else k false ρ2
  | .and a b => fun ρ k => evT a ρ fun t ρ1 => if t = true then evT b ρ1 k else k false ρ1
  | .or a b => fun ρ k => evT a ρ fun t ρ1 => if t = true then k true ρ1 else evT b ρ1 k
  | .not a => fun ρ k => evT a ρ fun t ρ1 => k (!t) ρ1
  | .ife _ _ _ => fun _ _ => False
  | .var i => tru (cVar i)
  | .idx a i => tru (cIdx (ev a) (ev i))
  | .bin op a b => tru (cBin op (ev a) (ev b))
  | .b1 f a => tru (cB1 f (ev a))
  | .call f es => tru (cCall (Γ f) (evA es))
  | .cio f i es => tru (cCio (Γ f) i (evA es))
  | .cnw f e es => tru (cCnw (Γ f) (ev e) (evA es))
  | .isi a t => tru (cIsi (ev a) t)
  | _ => fun _ _ => False
end
end
end VL

set_option Elab.async false
set_option linter.all false
set_option maxRecDepth 100000
namespace VL
open PySem L2

/-! ### which tree stands for which text -/
structure Ck where
  G : Sg
  N : List Str
  sc : List (Str × NameKind)
  ss : List (Str × NameKind)
  n : Nat
def vis (c : Ck) (x : Str) : Bool := match c.sc.lookup x with
  | some .local => true
  | some .cell => true
  | some .free => true
  | _ => false
def glb (c : Ck) (x : Str) : Bool := match c.sc.lookup x with
  | some .globalImplicit => true
  | _ => false
def sto (c : Ck) (x : Str) : Bool := match c.ss.lookup x with
  | some .local => true
  | some .cell => true
  | _ => false
def okNm (x : Str) : Bool := !(x == ("__debug__" : Str)) && !(x == ("__classdict__" : Str)) && !decide (x = ("__name__" : Str))
def isBlt (c : Ck) (x : Str) (y : Str) : Bool := decide (x = y) && glb c x && decide (y ∈ c.G.blt)
def relN (names sc : List (Str × NameKind)) : List (Str × NameKind) := names.map fun (n, k) => if (k == .free && sc.lookup n == some .cell) then (n, .cell) else (n, k)
def scopeOf (sc : List (Str × NameKind)) : Scope := { kind := .function, names := sc, isGenerator := false, isCoroutine := false }
def inner (c : Ck) (names : List (Str × NameKind)) : Ck := { c with sc := relN names c.sc, ss := names }
def ownOf (c : Ck) (own : List Nat) : List (Str × Nat) := own.map fun i => (c.N.getD i default, i)
def ckVar (c : Ck) (i : Nat) (x : Str) : Bool := decide (c.N[i]? = some x) && vis c x && okNm x
def ckSt (c : Ck) (i : Nat) (x : Str) : Bool := decide (c.N[i]? = some x) && sto c x
def ckTgs (c : Ck) : List Nat → List Expr → Bool
  | [], [] => true
  | i :: is, .Name x _ :: es => ckSt c i x && ckTgs c is es
  | _, _ => false
def ckTg (c : Ck) : List Nat → Expr → Bool
  | [i], .Name x _ => ckSt c i x
  | is, .Tuple es _ _ => decide (is.length ≠ 1) && ckTgs c is es
  | _, _ => false
def ckD : D → Const → Bool
  | .int i, .int j => decide (i = j)
  | .bool i, .bool j => decide (i = j)
  | .none, .none => true
  | .str i, .str j => decide (i = j)
  | _, _ => false
def ckTy (c : Ck) (t : String) : Expr → Bool
  | .Name x _ => isBlt c x (Str.ofString t) && decide (t ∈ tyNames)
  | _ => false
def ckOp (o : CmpOp) (p : CmpOp) (y : Expr) : Bool := decide (o = p) && !behindInMarks p y
mutual
def ckE : E → Ck → Expr → Bool
  | .var i => fun c x => match x with
    | .Name x _ => ckVar c i x
    | _ => false
  | .cst d => fun _ x => match x with
    | .Constant k _ _ => ckD d k
    | _ => false
  | .glo g => fun c x => match x with
    | .Name x _ => (match c.G.gc[g]? with | some (y, _) => decide (y = x) | none => false) && glb c x && okNm x
    | _ => false
  | .bin op a b => fun c x => match x with
    | .BinOp x p y _ => decide (op = p) && ckE a c x && ckE b c y
    | _ => false
  | .cmp op a b => fun c x => match x with
    | .Compare x [p] [y] _ => ckOp op p y && ckE a c x && ckE b c y
    | _ => false
  | .chain o1 o2 a b d => fun c x => match x with
    | .Compare x [p1, p2] [y, z] _ => decide (o1 = p1) && decide (o2 = p2) && !lastMarks [p1, p2] [y, z] && ckE a c x && ckE b c y && ckE d c z
    | _ => false
  | .and a b => fun c x => match x with
    | .BoolOp .And (x :: y :: r) pos => ckE a c x && (match r with | [] => ckE b c y | _ => ckE b c (.BoolOp .And (y :: r) pos))
    | _ => false
  | .or a b => fun c x => match x with
    | .BoolOp .Or (x :: y :: r) pos => ckE a c x && (match r with | [] => ckE b c y | _ => ckE b c (.BoolOp .Or (y :: r) pos))
    | _ => false
  | .not a => fun c x => match x with
    | .UnaryOp .Not x _ => ckE a c x
    | _ => false
  | .neg a => fun c x => match x with
    | .UnaryOp .USub x _ => ckE a c x
    | _ => false
  | .ife t a b => fun c x => match x with
    | .IfExp x y z _ => ckE t c x && ckE a c y && ckE b c z
    | _ => false
  | .tup es => fun c x => match x with
    | .Tuple xs _ _ => ckA es c xs
    | _ => false
  | .lst es => fun c x => match x with
    | .List xs _ => ckA es c xs
    | _ => false
  | .idx a i => fun c x => match x with
    | .Subscript x y _ => ckE a c x && ckE i c y
    | _ => false
  | .sl a lo hi => fun c x => match x with
    | .Subscript x (.Slice l h none _) _ => ckE a c x && ckO lo c l && ckO hi c h
    | _ => false
  | .b1 f a => fun c x => match x with
    | .Call (.Name x _) [y] [] _ => isBlt c x f.name && ckE a c y
    | _ => false
  | .b2 f a b => fun c x => match x with
    | .Call (.Name x _) [y, z] [] _ => isBlt c x f.name && ckE a c y && ckE b c z
    | _ => false
  | .lrng a => fun c x => match x with
    | .Call (.Name x _) [.Call (.Name y _) [z] [] _] [] _ => isBlt c x "list" && isBlt c y "range" && ckE a c z
    | _ => false
  | .isi a t => fun c x => match x with
    | .Call (.Name x _) [y, z] [] _ => isBlt c x "isinstance" && ckTy c t z && ckE a c y
    | _ => false
  | .call f es => fun c x => match x with
    | .Call (.Name x _) (y :: ys) [] _ => decide (f < c.n) && decide (c.G.fn[f]? = some x) && glb c x && okNm x && ckA es c (y :: ys)
    | _ => false
  | .cio f i es => fun c x => match x with
    | .Call (.Name x _) (.Name y _ :: ys) [] _ => decide (f < c.n) && decide (c.G.fn[f]? = some x) && glb c x && okNm x && ckVar c i y && ckA es c ys
    | _ => false
  | .cnw f e es => fun c x => match x with
    | .Call (.Name x _) (y :: ys) [] _ => decide (f < c.n) && decide (c.G.fn[f]? = some x) && glb c x && okNm x && ckE e c y && ckA es c ys
    | _ => false
  | .lc el tg it ifs own => fun c x => match x with
    | .ListComp x [⟨t, iter, fs, 0⟩] s _ => blkC c.N (scopeOf c.sc) s (ownOf c own) && decide (∀ i ∈ own, i < c.N.length) && decide (∀ i ∈ tg, i ∈ own) && ckI it c t iter && ckTg (inner c s.names) tg t && ckF ifs (inner c s.names) fs && ckE el (inner c s.names) x
    | _ => false
  | .pop i a => fun c x => match x with
    | .Call (.Attribute (.Name x _) m ap) [y] [] cp => decide (m = "pop") && (ap.endLine == cp.line) && ckVar c i x && ckE a c y
    | _ => false
  | .tidx a b => fun c x => match x with
    | .Call (.Attribute x m ap) [y] [] cp => decide (m = "index") && (ap.endLine == cp.line) && ckE a c x && ckE b c y
    | _ => false
  | .rep a b => fun c x => match x with
    | .BinOp x .Mult y _ => ckE a c x && ckE b c y
    | _ => false
def ckA : Es → Ck → List Expr → Bool
  | .nil => fun _ xs => xs.isEmpty
  | .cons e es => fun c xs => match xs with
    | x :: xs => ckE e c x && ckA es c xs
    | [] => false
def ckO : Eo → Ck → Option Expr → Bool
  | .none => fun _ x => x.isNone
  | .some e => fun c x => match x with
    | some x => ckE e c x
    | none => false
def ckF : Eo → Ck → List Expr → Bool
  | .none => fun _ x => x.isEmpty
  | .some e => fun c x => match x with
    | [x] => ckE e c x
    | _ => false
def ckI : It → Ck → Expr → Expr → Bool
  | .seq e => fun c _ x => ckE e c x
  | .r1 a => fun c _ x => match x with
    | .Call (.Name x _) [y] [] _ => isBlt c x "range" && ckE a c y
    | _ => false
  | .r2 a b => fun c _ x => match x with
    | .Call (.Name x _) [y, z] [] _ => isBlt c x "range" && ckE a c y && ckE b c z
    | _ => false
  | .enum a => fun c t x => match t, x with
    | .Tuple _ _ _, .Call (.Name x _) [y] [] _ => isBlt c x "enumerate" && ckE a c y
    | _, _ => false
  | .zip a b => fun c t x => match t, x with
    | .Tuple _ _ _, .Call (.Name x _) [y, z] [] _ => isBlt c x "zip" && ckE a c y && ckE b c z
    | _, _ => false
end

/-! ### what a checked tree is not -/
def head : Expr → Bool
  | .Name _ _ => true
  | .Constant _ _ _ => true
  | .BinOp _ _ _ _ => true
  | .Compare _ _ _ _ => true
  | .BoolOp _ _ _ => true
  | .UnaryOp _ _ _ => true
  | .IfExp _ _ _ _ => true
  | .Tuple _ _ _ => true
  | .List _ _ => true
  | .Subscript _ _ _ => true
  | .Call _ _ _ _ => true
  | .ListComp _ _ _ _ => true
  | _ => false
theorem head_of {c : Ck} {e : E} {x : Expr} (h : ckE e c x = true) : head x = true := by
  cases e <;> (unfold ckE at h; split at h <;> first | rfl | exact absurd h Bool.false_ne_true)
theorem star_cons {x : Expr} {xs : List Expr} {env : PySem.Env} (h : head x = true) : starEach (x :: xs) env = (false, eval x env) :: starEach xs env := by
  cases x <;> first | rfl | cases h
theorem star_one {x : Expr} {env : PySem.Env} (h : head x = true) : starEach [x] env = [(false, eval x env)] := by
  cases x <;> first | rfl | cases h
theorem star_two {x y : Expr} {env : PySem.Env} (h : head x = true) (g : head y = true) : starEach [x, y] env = [(false, eval x env), (false, eval y env)] := by
  rw [star_cons h, star_one g]
theorem plain_ix {x : Expr} (h : head x = true) : PlainIx x := by
  cases x <;> first | exact fun _ _ => rfl | cases h
theorem not_set {x : Expr} (h : head x = true) {env : PySem.Env} : ∀ v, foldedSetIterable x env v = pure v := by
  cases x <;> first | (intro v; rfl) | cases h
theorem ckA_head {c : Ck} : ∀ {es : Es} {xs : List Expr}, ckA es c xs = true → ∀ x ∈ xs, head x = true
  | .nil, [], _, x, h => by cases h
  | .nil, _ :: _, h, _, _ => by
    unfold ckA at h
    exact absurd h Bool.false_ne_true
  | .cons _ _, [], h, _, _ => by
    unfold ckA at h
    exact absurd h Bool.false_ne_true
  | .cons e es, x :: xs, h, y, hy => by
    unfold ckA at h
    dsimp only at h
    rw [Bool.and_eq_true] at h
    rcases List.mem_cons.mp hy with z | z
    · rw [z]
      exact head_of h.1
    · exact ckA_head h.2 y z
theorem star_plain {xs : List Expr} {env : PySem.Env} {pos : Pos} (h : ∀ x ∈ xs, head x = true) : (backTo pos (starEach xs env)).any (·.1) = false := by
  induction xs with
  | nil => rfl
  | cons x xs ih =>
    rw [star_cons (h x List.mem_cons_self)]
    show (false || (backTo pos (starEach xs env)).any (·.1)) = false
    rw [Bool.false_or]
    exact ih fun y hy => h y (List.mem_cons_of_mem _ hy)

/-! ### inversions -/
theorem ck_bin {c : Ck} {op : Operator} {a b : E} {x : Expr} (h : ckE (.bin op a b) c x = true) : ∃ l r pos, x = .BinOp l op r pos ∧ ckE a c l = true ∧ ckE b c r = true := by
  unfold ckE at h
  split at h
  · simp only [Bool.and_eq_true, decide_eq_true_eq] at h
    obtain ⟨⟨rfl, h1⟩, h2⟩ := h
    exact ⟨_, _, _, rfl, h1, h2⟩
  · exact absurd h Bool.false_ne_true
end VL

set_option Elab.async false
set_option linter.all false
set_option maxRecDepth 100000
namespace VL
open PySem L2

/-! ### promises of defs -/
def argEnv (io : Bool) (p : Addr) (pds ds : List D) : Env := if io = true then some (.ow p pds) :: ds.map (fun d => some (.im d)) else ds.map fun d => some (.im d)
def endEnv (io : Bool) (p : Addr) (pds : List D) : Env := if io = true then [some (.ow p pds)] else []
def RetR (K : PySem.W.Frag) (H0 HS' H' : Hp) (v : V) : Ret → D → Prop
  | .val, d => Dp K HS' v d
  | .tup, .tuple ds => PlT K HS' v ds
  | .lst, .list ds => ∃ q us, v = .ref q ∧ H0 q = none ∧ HS' q = none ∧ H' q = some (.lst us) ∧ DpAll K HS' us ds
  | _, _ => False
/-- how a def that is told by S promises it -/
def spOf (K : PySem.W.Frag) (S : DSpec) : Sp := fun vs H Q _ => ∃ (p : Addr) (pds ds : List D) (HS : Hp) (k : D → List D → Prop), Sim K (argEnv S.io p pds ds) (vs.map some) HS H ∧ S.run pds ds k ∧
  ∀ d pds' v H' HS', k d pds' → Ex HS' H' → Step (argEnv S.io p pds ds) HS H (endEnv S.io p pds') HS' H' → (S.io = true → HS' p = none ∧ ∃ pvs, H' p = some (.lst pvs) ∧ DpAll K HS' pvs pds') → RetR K H HS' H' v S.fr d → Q v H'
structure CtxOk (G : Sg) (Γ : Nat → DSpec) (n : Nat) (P : Program) (w : World) (K : PySem.W.Frag) (mg : Str → Option Value) (base : Heap) : Prop where
  fn : ∀ (f : Nat) (x : Str), f < n → G.fn[f]? = some x → ∃ a fd ps, mg x = some (.ref a) ∧ PySem.W.keepIn K (.ref a) = true ∧ Binds K fd ps [] ∧ FnOk P w K mg base CX0 (f + 1) a fd ps (spOf K (Γ f))
  gc : ∀ (g : Nat) (x : Str) (d : D), G.gc[g]? = some (x, d) → ∃ u v, mg x = some u ∧ RelV v u ∧ ∀ H : Hp, Dp K H v d
  bl : ∀ x ∈ G.blt, mg x = none
structure OkX (Γ : Nat → DSpec) (c : Ck) (X : Cx) : Prop where
  N : X.N = c.N
  nd : c.N.Nodup
  names : X.env.scope.names = c.sc
  kind : X.env.scope.kind = .function
  calm : X.calm = true
  st : ∀ x, sto c x = true → Loc X.env.scope x ∧ (X.fn x = true ∨ X.env.scope.names.lookup x = some .local)
  room : Room c.n X.A
  ctx : CtxOk c.G Γ c.n X.prog X.w X.K X.mg X.base

/-! ### the readings lead to the hand layer's -/
section
variable {K : PySem.W.Frag} {σ : L2.St} {H : Hp} {Q : VK} {wa wb wc : W}
theorem i_bin {op : Operator} (q : tW K (fun ρ k => vv wa ρ fun x ρ1 => vv wb ρ1 fun y ρ2 => binW op x y fun z => k (.v z) ρ2) σ H Q) : tOp (binR K op) (tW K wa) (tW K wb) σ H Q := by
  obtain ⟨ρ, HS, k, S, q, l⟩ := q
  refine vv_ok ⟨ρ, HS, _, S, q, fun x ρ1 v H1 HS1 q1 S1 t1 d1 => ?_⟩
  refine vv_ok ⟨ρ1, HS1, _, S1, q1, fun y ρ2 u H2 HS2 q2 S2 t2 d2 => ?_⟩
  exact bin_ok S2 (dp_mono t2.ex _ _ d1) d2 q2 fun z w H' HS' q3 S3 t3 d3 => l (.v z) ρ2 w H' HS' q3 S3 ((t1.trans t2).trans t3) d3
theorem i_cmp {op : CmpOp} (q : tW K (fun ρ k => vv wa ρ fun x ρ1 => vv wb ρ1 fun y ρ2 => cmpW op x y fun z => k (.v (.bool z)) ρ2) σ H Q) : tOp (cmpR K op) (tW K wa) (tW K wb) σ H Q := by
  obtain ⟨ρ, HS, k, S, q, l⟩ := q
  refine vv_ok ⟨ρ, HS, _, S, q, fun x ρ1 v H1 HS1 q1 S1 t1 d1 => ?_⟩
  refine vv_ok ⟨ρ1, HS1, _, S1, q1, fun y ρ2 u H2 HS2 q2 S2 t2 d2 => ?_⟩
  exact cmp_ok S2 (dp_mono t2.ex _ _ d1) d2 q2 fun b q3 => l (.v (.bool b)) ρ2 _ H2 HS2 q3 S2 (t1.trans t2) (.bl b)
theorem j_cmp {op : CmpOp} {Q : Bool → Hp → Prop} (q : tB K (fun ρ k => vv wa ρ fun x ρ1 => vv wb ρ1 fun y ρ2 => cmpW op x y fun z => k z ρ2) σ H Q) : tTest (tOp (cmpR K op) (tW K wa) (tW K wb)) σ H Q := by
  obtain ⟨ρ, HS, k, S, q, l⟩ := q
  refine vv_ok ⟨ρ, HS, _, S, q, fun x ρ1 v H1 HS1 q1 S1 t1 d1 => ?_⟩
  refine vv_ok ⟨ρ1, HS1, _, S1, q1, fun y ρ2 u H2 HS2 q2 S2 t2 d2 => ?_⟩
  exact cmp_ok S2 (dp_mono t2.ex _ _ d1) d2 q2 fun b q3 => ⟨b, rfl, l b ρ2 H2 HS2 q3 S2 (t1.trans t2)⟩
theorem i_chain {o1 o2 : CmpOp} (q : tW K (fun ρ k => vv wa ρ fun x ρ1 => vv wb ρ1 fun y ρ2 => cmpW o1 x y fun t => if t = true then vv wc ρ2 fun z ρ3 => cmpW o2 y z fun u => k (.v (.bool u)) ρ3 else k (.v (.bool false)) ρ2) σ H Q) :
    tChain (cmpR K o1) (cmpR K o2) (tW K wa) (tW K wb) (tW K wc) σ H Q := by
  obtain ⟨ρ, HS, k, S, q, l⟩ := q
  refine vv_ok ⟨ρ, HS, _, S, q, fun x ρ1 v H1 HS1 q1 S1 t1 d1 => ?_⟩
  refine vv_ok ⟨ρ1, HS1, _, S1, q1, fun y ρ2 u H2 HS2 q2 S2 t2 d2 => ?_⟩
  refine cmp_ok S2 (dp_mono t2.ex _ _ d1) d2 q2 fun b q3 => ⟨b, rfl, ?_⟩
  cases b with
  | false => exact l (.v (.bool false)) ρ2 _ H2 HS2 q3 S2 (t1.trans t2) (.bl _)
  | true =>
    refine vv_ok ⟨ρ2, HS2, _, S2, q3, fun z ρ3 w H3 HS3 q4 S3 t3 d3 => ?_⟩
    exact cmp_ok S3 (dp_mono t3.ex _ _ d2) d3 q4 fun b q5 => l (.v (.bool b)) ρ3 _ H3 HS3 q5 S3 ((t1.trans t2).trans t3) (.bl b)
theorem j_chain {o1 o2 : CmpOp} {Q : Bool → Hp → Prop} (q : tB K (fun ρ k => vv wa ρ fun x ρ1 => vv wb ρ1 fun y ρ2 => cmpW o1 x y fun t => if t = true then vv wc ρ2 fun z ρ3 => cmpW o2 y z fun u => k u ρ3 else k false ρ2) σ H Q) :
    tTest (tChain (cmpR K o1) (cmpR K o2) (tW K wa) (tW K wb) (tW K wc)) σ H Q := by
  obtain ⟨ρ, HS, k, S, q, l⟩ := q
  refine vv_ok ⟨ρ, HS, _, S, q, fun x ρ1 v H1 HS1 q1 S1 t1 d1 => ?_⟩
  refine vv_ok ⟨ρ1, HS1, _, S1, q1, fun y ρ2 u H2 HS2 q2 S2 t2 d2 => ?_⟩
  refine cmp_ok S2 (dp_mono t2.ex _ _ d1) d2 q2 fun b q3 => ⟨b, rfl, ?_⟩
  cases b with
  | false => exact ⟨false, rfl, l false ρ2 H2 HS2 q3 S2 (t1.trans t2)⟩
  | true =>
    refine vv_ok ⟨ρ2, HS2, _, S2, q3, fun z ρ3 w H3 HS3 q4 S3 t3 d3 => ?_⟩
    exact cmp_ok S3 (dp_mono t3.ex _ _ d2) d3 q4 fun b q5 => ⟨b, rfl, l b ρ3 H3 HS3 q5 S3 ((t1.trans t2).trans t3)⟩
theorem i_and (q : tW K (fun ρ k => vv wa ρ fun x ρ1 => ∃ t, truth x = some t ∧ if t = true then vv wb ρ1 fun y ρ2 => k (.v y) ρ2 else k (.v x) ρ1) σ H Q) : tAndT K (tW K wa) (tW K wb) σ H Q := by
  obtain ⟨ρ, HS, k, S, q, l⟩ := q
  refine vv_ok ⟨ρ, HS, _, S, q, fun x ρ1 v H1 HS1 q1 S1 t1 d1 => ?_⟩
  obtain ⟨t, e, q1⟩ := q1
  refine ⟨t, truth_ok S1.sub d1 e, ?_⟩
  cases t with
  | true => exact vv_ok ⟨ρ1, HS1, _, S1, q1, fun y ρ2 u H2 HS2 q2 S2 t2 d2 => l (.v y) ρ2 u H2 HS2 q2 S2 (t1.trans t2) d2⟩
  | false => exact l (.v x) ρ1 v H1 HS1 q1 S1 t1 d1
theorem i_or (q : tW K (fun ρ k => vv wa ρ fun x ρ1 => ∃ t, truth x = some t ∧ if t = true then k (.v x) ρ1 else vv wb ρ1 fun y ρ2 => k (.v y) ρ2) σ H Q) : tOrT K (tW K wa) (tW K wb) σ H Q := by
  obtain ⟨ρ, HS, k, S, q, l⟩ := q
  refine vv_ok ⟨ρ, HS, _, S, q, fun x ρ1 v H1 HS1 q1 S1 t1 d1 => ?_⟩
  obtain ⟨t, e, q1⟩ := q1
  refine ⟨t, truth_ok S1.sub d1 e, ?_⟩
  cases t with
  | false => exact vv_ok ⟨ρ1, HS1, _, S1, q1, fun y ρ2 u H2 HS2 q2 S2 t2 d2 => l (.v y) ρ2 u H2 HS2 q2 S2 (t1.trans t2) d2⟩
  | true => exact l (.v x) ρ1 v H1 HS1 q1 S1 t1 d1
theorem i_not (q : tW K (fun ρ k => vv wa ρ fun x ρ1 => ∃ t, truth x = some t ∧ k (.v (.bool (!t))) ρ1) σ H Q) : tNotT K (tW K wa) σ H Q := by
  obtain ⟨ρ, HS, k, S, q, l⟩ := q
  refine vv_ok ⟨ρ, HS, _, S, q, fun x ρ1 v H1 HS1 q1 S1 t1 d1 => ?_⟩
  obtain ⟨t, e, q1⟩ := q1
  exact ⟨t, truth_ok S1.sub d1 e, l (.v (.bool (!t))) ρ1 _ H1 HS1 q1 S1 t1 (.bl _)⟩
theorem i_neg (q : tW K (fun ρ k => vv wa ρ fun x ρ1 => match x with
    | .int i => k (.v (.int (-i))) ρ1
    | _ => False) σ H Q) : tUn (rU fun i => .int (-i)) (tW K wa) σ H Q := by
  obtain ⟨ρ, HS, k, S, q, l⟩ := q
  refine vv_ok ⟨ρ, HS, _, S, q, fun x ρ1 v H1 HS1 q1 S1 t1 d1 => ?_⟩
  split at q1
  · cases d1
    exact ⟨_, rfl, l (.v (.int _)) ρ1 _ H1 HS1 q1 S1 t1 (.int _)⟩
  · exact q1.elim
theorem i_ife {wt : WT} (q : tW K (fun ρ k => wt ρ fun c ρ1 => if c = true then wa ρ1 k else wb ρ1 k) σ H Q) : tIf (tB K wt) (tW K wa) (tW K wb) σ H Q := by
  obtain ⟨ρ, HS, k, S, q, l⟩ := q
  refine ⟨ρ, HS, _, S, q, fun c ρ1 H1 HS1 q1 S1 t1 => ?_⟩
  cases c with
  | true => exact ⟨ρ1, HS1, k, S1, q1, fun r ρ2 v H2 HS2 q2 S2 t2 d2 => l r ρ2 v H2 HS2 q2 S2 (t1.trans t2) (d2.from t1.live)⟩
  | false => exact ⟨ρ1, HS1, k, S1, q1, fun r ρ2 v H2 HS2 q2 S2 t2 d2 => l r ρ2 v H2 HS2 q2 S2 (t1.trans t2) (d2.from t1.live)⟩
theorem i_tup {ws : WA} (q : tW K (fun ρ k => ws ρ fun ds ρ1 => ds.length ≤ 100000 ∧ k (.v (.tuple ds)) ρ1) σ H Q) : tTup (tA K ws) σ H Q := by
  obtain ⟨ρ, HS, k, S, q, l⟩ := q
  refine ⟨ρ, HS, _, S, q, fun ds ρ1 vs H1 HS1 q1 S1 t1 d1 => ?_⟩
  refine ⟨by rw [dps_len d1]; exact sz_ok q1.1, fun p hp => ?_⟩
  exact l (.v (.tuple ds)) ρ1 _ _ _ q1.2 (alloc_simS S1 hp) (t1.trans (alloc_stepS S1 hp)) (new_tup S1 hp d1)
theorem i_lst {ws : WA} (q : tW K (fun ρ k => ws ρ fun ds ρ1 => ds.length ≤ 100000 ∧ ∀ p, k (.nw p ds) ρ1) σ H Q) : tLst (tA K ws) σ H Q := by
  obtain ⟨ρ, HS, k, S, q, l⟩ := q
  refine ⟨ρ, HS, _, S, q, fun ds ρ1 vs H1 HS1 q1 S1 t1 d1 => ?_⟩
  refine ⟨by rw [dps_len d1]; exact sz_ok q1.1, fun p hp => ?_⟩
  exact l (.nw p ds) ρ1 _ _ _ (q1.2 p) (alloc_sim S1 hp) (t1.trans (alloc_step hp)) (new_lst S1 hp (t1.live p hp) d1)
theorem i_idx (q : tW K (fun ρ k => wa ρ fun r ρ1 => vv wb ρ1 fun x ρ2 => match x with
    | .int j => ∃ b ds d, seqOf ρ2 r = some (b, ds) ∧ atI ds j = some d ∧ k (.v d) ρ2
    | _ => False) σ H Q) : tOp (rIx K) (tW K wa) (tW K wb) σ H Q := by
  obtain ⟨ρ, HS, k, S, q, l⟩ := q
  refine ⟨ρ, HS, _, S, q, fun r ρ1 v H1 HS1 q1 S1 t1 d1 => ?_⟩
  refine vv_ok ⟨ρ1, HS1, _, S1, q1, fun y ρ2 u H2 HS2 q2 S2 t2 d2 => ?_⟩
  split at q2
  · obtain ⟨b, ds, d, e, ea, q2⟩ := q2
    obtain ⟨a, vs, rfl, hs, ha⟩ := seq_ok S2 (d1.step t2) e
    obtain ⟨w, ew, dw⟩ := at_ok ha ea
    cases d2
    cases b with
    | true => exact .inl ⟨a, vs, _, w, rfl, rfl, hs, ew, l (.v d) ρ2 w H2 HS2 q2 S2 (t1.trans t2) dw⟩
    | false => exact .inr (.inl ⟨a, vs, _, w, rfl, rfl, hs, ew, l (.v d) ρ2 w H2 HS2 q2 S2 (t1.trans t2) dw⟩)
  · exact q2.elim
def rSlB (K : PySem.W.Frag) : V → Option Int → Option Int → Hp → VK → Prop := fun x lo hi H Q => rSlL K x lo hi H Q ∨ rSlA K x lo hi H Q
theorem i_sl {wl wh : WO} (q : tW K (fun ρ k => wa ρ fun r ρ1 => wl ρ1 fun l ρ2 => wh ρ2 fun h ρ3 => ∃ b ds, seqOf ρ3 r = some (b, ds) ∧ if b = true then ∀ p, k (.nw p (cutD ds l h)) ρ3 else k (.v (.tuple (cutD ds l h))) ρ3) σ H Q) :
    tSl (rSlB K) (tW K wa) (tO K wl) (tO K wh) σ H Q := by
  obtain ⟨ρ, HS, k, S, q, l⟩ := q
  refine ⟨ρ, HS, _, S, q, fun r ρ1 v H1 HS1 q1 S1 t1 d1 => ?_⟩
  refine ⟨ρ1, HS1, _, S1, q1, fun lo ρ2 H2 HS2 q2 S2 t2 => ?_⟩
  refine ⟨ρ2, HS2, _, S2, q2, fun hi ρ3 H3 HS3 q3 S3 t3 => ?_⟩
  obtain ⟨b, ds, e, q3⟩ := q3
  have t := (t1.trans t2).trans t3
  obtain ⟨a, vs, rfl, hs, ha⟩ := seq_ok S3 ((d1.step t2).step t3) e
  cases b with
  | true => exact .inl ⟨a, vs, rfl, hs, fun p hp => l (.nw p _) ρ3 _ _ _ (q3 p) (alloc_sim S3 hp) (t.trans (alloc_step hp)) (new_lst S3 hp (t.live p hp) (cut_ok ha lo hi))⟩
  | false =>
    refine .inr ⟨a, vs, rfl, hs, fun hw => ?_, fun _ p hp => l (.v (.tuple _)) ρ3 _ _ _ q3 (alloc_simS S3 hp) (t.trans (alloc_stepS S3 hp)) (new_tup S3 hp (cut_ok ha lo hi))⟩
    have ed : cutD ds lo hi = ds := by
      unfold cutD
      exact cut_whole (by rw [← dps_len ha]; exact hw)
    have q3' : k (.v (.tuple (cutD ds lo hi))) ρ3 := q3
    rw [ed] at q3'
    -- the tuple itself as a thing that stays
    have self : Dp K HS3 (.ref a) (.tuple ds) := by
      have rp := (d1.step t2).step t3
      cases r with
      | v d => cases d <;> first | (cases e; done) | (cases e; exact rp)
      | nw p es => cases e
      | tp es =>
        cases e
        exact PlT.dp rp
      | pl i =>
        have hv : σ[i]? = some (some (V.ref a)) := rp
        unfold seqOf at e
        dsimp only at e
        split at e <;> first
          | (cases e; done)
          | (rename_i es e'
             cases e
             obtain ⟨v', h1, h2⟩ := S3.im i _ e' rfl
             rw [hv] at h1
             cases h1
             first | exact h2 | exact PlT.dp h2)
    exact l (.v (.tuple ds)) ρ3 _ H3 HS3 q3' S3 t self
theorem i_b2 {f : B2} (q : tW K (fun ρ k => vv wa ρ fun x ρ1 => vv wb ρ1 fun y ρ2 => b2W f x y fun z => k (.v z) ρ2) σ H Q) : tCB (b2R f) (tCons (tW K wa) (tCons (tW K wb) tNil)) σ H Q := by
  obtain ⟨ρ, HS, k, S, q, l⟩ := q
  refine vv_ok ⟨ρ, HS, _, S, q, fun x ρ1 v H1 HS1 q1 S1 t1 d1 => ?_⟩
  refine vv_ok ⟨ρ1, HS1, _, S1, q1, fun y ρ2 u H2 HS2 q2 S2 t2 d2 => ?_⟩
  exact b2_ok (dp_mono t2.ex _ _ d1) d2 q2 fun i q3 => l (.v (.int i)) ρ2 _ H2 HS2 q3 S2 (t1.trans t2) (.int i)
theorem i_b1 {X : Cx} {f : B1} {wa : W} (q : tW X.K (fun ρ k => wa ρ fun r ρ1 => b1W f ρ1 r fun z => k z ρ1) σ H Q) : tCB (b1R X f) (tCons (tW X.K wa) tNil) σ H Q := by
  obtain ⟨ρ, HS, k, S, q, l⟩ := q
  refine ⟨ρ, HS, _, S, q, fun r ρ1 v H1 HS1 q1 S1 t1 d1 => ?_⟩
  exact b1_ok S1 t1.live d1 q1 fun r w H' HS' q2 S2 t2 d2 => l r ρ1 w H' HS' q2 S2 (t1.trans t2) d2
/-- a test by a value's truth -/
theorem j_val {w : W} {Q : Bool → Hp → Prop} (q : tB K (fun ρ k => vv w ρ fun x ρ1 => ∃ t, truth x = some t ∧ k t ρ1) σ H Q) : (fun (σ : L2.St) (H : Hp) (Q : Bool → Hp → Prop) => tW K w σ H fun x H' => ∃ k, TruV K x H' k ∧ Q k H') σ H Q := by
  obtain ⟨ρ, HS, k, S, q, l⟩ := q
  refine vv_ok ⟨ρ, HS, _, S, q, fun x ρ1 v H1 HS1 q1 S1 t1 d1 => ?_⟩
  obtain ⟨t, e, q1⟩ := q1
  exact ⟨t, truth_ok S1.sub d1 e, l t ρ1 H1 HS1 q1 S1 t1⟩
theorem j_and {wt wu : WT} {Q : Bool → Hp → Prop} (q : tB K (fun ρ k => wt ρ fun t ρ1 => if t = true then wu ρ1 k else k false ρ1) σ H Q) : tAnd (tB K wt) (tB K wu) σ H Q := by
  obtain ⟨ρ, HS, k, S, q, l⟩ := q
  refine ⟨ρ, HS, _, S, q, fun c ρ1 H1 HS1 q1 S1 t1 => ?_⟩
  cases c with
  | true => exact ⟨ρ1, HS1, k, S1, q1, fun b ρ2 H2 HS2 q2 S2 t2 => l b ρ2 H2 HS2 q2 S2 (t1.trans t2)⟩
  | false => exact l false ρ1 H1 HS1 q1 S1 t1
theorem j_or {wt wu : WT} {Q : Bool → Hp → Prop} (q : tB K (fun ρ k => wt ρ fun t ρ1 => if t = true then k true ρ1 else wu ρ1 k) σ H Q) : tOr (tB K wt) (tB K wu) σ H Q := by
  obtain ⟨ρ, HS, k, S, q, l⟩ := q
  refine ⟨ρ, HS, _, S, q, fun c ρ1 H1 HS1 q1 S1 t1 => ?_⟩
  cases c with
  | false => exact ⟨ρ1, HS1, k, S1, q1, fun b ρ2 H2 HS2 q2 S2 t2 => l b ρ2 H2 HS2 q2 S2 (t1.trans t2)⟩
  | true => exact l true ρ1 H1 HS1 q1 S1 t1
theorem j_not {wt : WT} {Q : Bool → Hp → Prop} (q : tB K (fun ρ k => wt ρ fun t ρ1 => k (!t) ρ1) σ H Q) : tNot (tB K wt) σ H Q := by
  obtain ⟨ρ, HS, k, S, q, l⟩ := q
  exact ⟨ρ, HS, _, S, q, fun c ρ1 H1 HS1 q1 S1 t1 => l (!c) ρ1 H1 HS1 q1 S1 t1⟩
theorem i_nil {Q : List V → Hp → Prop} (q : tA K (fun ρ k => k [] ρ) σ H Q) : tNil σ H Q := by
  obtain ⟨ρ, HS, k, S, q, l⟩ := q
  exact l [] ρ [] H HS q S (Step.refl _ _ _) .nil
theorem i_cons {ws : WA} {Q : List V → Hp → Prop} (q : tA K (fun ρ k => vv wa ρ fun d ρ1 => ws ρ1 fun ds ρ2 => k (d :: ds) ρ2) σ H Q) : tCons (tW K wa) (tA K ws) σ H Q := by
  obtain ⟨ρ, HS, k, S, q, l⟩ := q
  refine vv_ok ⟨ρ, HS, _, S, q, fun x ρ1 v H1 HS1 q1 S1 t1 d1 => ?_⟩
  exact ⟨ρ1, HS1, _, S1, q1, fun ds ρ2 vs H2 HS2 q2 S2 t2 d2 => l (x :: ds) ρ2 (v :: vs) H2 HS2 q2 S2 (t1.trans t2) (.cons (dp_mono t2.ex _ _ d1) d2)⟩
theorem i_nopart {Q : Option Int → Hp → Prop} (q : tO K (fun ρ k => k none ρ) σ H Q) : tNoPart σ H Q := by
  obtain ⟨ρ, HS, k, S, q, l⟩ := q
  exact l none ρ H HS q S (Step.refl _ _ _)
theorem i_part {Q : Option Int → Hp → Prop} (q : tO K (fun ρ k => vv wa ρ fun d ρ1 => match d with
    | .int i => k (some i) ρ1
    | _ => False) σ H Q) : tPart (tW K wa) σ H Q := by
  obtain ⟨ρ, HS, k, S, q, l⟩ := q
  refine vv_ok ⟨ρ, HS, _, S, q, fun x ρ1 v H1 HS1 q1 S1 t1 d1 => ?_⟩
  split at q1
  · cases d1
    exact ⟨_, rfl, l _ ρ1 H1 HS1 q1 S1 t1⟩
  · exact q1.elim
end
end VL

set_option Elab.async false
set_option linter.all false
set_option maxRecDepth 100000
namespace VL
open PySem L2

/-! ### calls of defs -/
theorem env_get {ds : List D} {i : Nat} {s : SV} (h : (ds.map fun d => some (SV.im d))[i]? = some (some s)) : ∃ d, ds[i]? = some d ∧ s = .im d := by
  rw [List.getElem?_map] at h
  cases q : ds[i]? with
  | none => rw [q] at h; cases h
  | some d => rw [q] at h; cases h; exact ⟨d, rfl, rfl⟩
theorem own_args {ds : List D} {a : Addr} : ¬ Own (ds.map fun d => some (SV.im d)) a := fun ⟨i, es, h⟩ => by
  obtain ⟨d, _, z⟩ := env_get h
  cases z
theorem own_argsP {p : Addr} {pds ds : List D} {a : Addr} (h : Own (some (.ow p pds) :: ds.map fun d => some (SV.im d)) a) : a = p := by
  obtain ⟨i, es, h⟩ := h
  cases i with
  | zero => simp at h; exact h.1.symm
  | succ i => exact (own_args (ds := ds) (a := a) ⟨i, es, h⟩).elim
section
variable {K : PySem.W.Frag} {σ : L2.St} {H : Hp} {Q : VK} {wa wb wc : W}
theorem sim_args {ρ : Env} {HS : Hp} {vs : List V} {ds : List D} (S : Sim K ρ σ HS H) (h : DpAll K HS vs ds) : Sim K (ds.map fun d => some (SV.im d)) (vs.map some) HS H := by
  refine ⟨by rw [List.length_map, List.length_map, dps_len h], S.sub, fun i s e _ => ?_, fun i p es e => ?_, fun i j p es fs e _ => ?_⟩
  · obtain ⟨d, e1, rfl⟩ := env_get e
    obtain ⟨v, h1, h2⟩ := dps_get h e1
    exact ⟨v, by rw [List.getElem?_map, h1]; rfl, h2⟩
  · exact (own_args ⟨i, es, e⟩).elim
  · exact (own_args ⟨i, es, e⟩).elim
theorem sim_argsP {ρ : Env} {HS : Hp} {vs : List V} {ds pds : List D} {i : Nat} {p : Addr} (S : Sim K ρ σ HS H) (hp : ρ[i]? = some (some (.ow p pds))) (h : DpAll K HS vs ds) : Sim K (some (.ow p pds) :: ds.map fun d => some (SV.im d)) ((V.ref p :: vs).map some) HS H := by
  obtain ⟨h1, h2, ws, h3, h4⟩ := S.ow i p pds hp
  have A := sim_args S h
  refine ⟨?_, S.sub, fun j s e y => ?_, fun j q es e => ?_, fun j l q es fs e1 e2 => ?_⟩
  · rw [List.map_cons, List.length_cons, List.length_cons, A.len]
  · cases j with
    | zero => simp at e; subst e; cases y
    | succ j =>
      obtain ⟨v, g1, g2⟩ := A.im j s (by simpa using e) y
      exact ⟨v, by simpa using g1, g2⟩
  · cases j with
    | zero =>
      simp at e
      obtain ⟨rfl, rfl⟩ := e
      exact ⟨rfl, h2, ws, h3, h4⟩
    | succ j => exact (own_args (ds := ds) (a := q) ⟨j, es, e⟩).elim
  · cases j with
    | zero =>
      cases l with
      | zero => rfl
      | succ l => exact (own_args (ds := ds) (a := q) ⟨l, fs, e2⟩).elim
    | succ j => exact (own_args (ds := ds) (a := q) ⟨j, es, e1⟩).elim
theorem ret_ok {H0 HS H' : Hp} {ρ : Env} {v : V} {f : Ret} {d : D} {k : R → Prop} (r : RetR K H0 HS H' v f d) (w : retW f d k) (no : ∀ q, H0 q = none → ¬ Own ρ q) : ∃ r, k r ∧ RepR K H0 σ ρ HS H' v r := by
  cases f with
  | val => exact ⟨.v d, w, r⟩
  | tup =>
    cases d <;> first | exact False.elim w | exact ⟨.tp _, w, r⟩
  | lst =>
    cases d <;> first | exact False.elim w | skip
    obtain ⟨q, ws, rfl, h1, h2, h3, h4⟩ := r
    exact ⟨.nw q _, w q, rfl, h1, h2, no q h1, ws, h3, h4⟩
/-- a call that changes nothing of the caller's -/
theorem i_call {S0 : DSpec} {ws : WA} (q : tW K (fun ρ k => ws ρ fun ds ρ1 => S0.io = false ∧ S0.run [] ds fun d _ => retW S0.fr d fun r => k r ρ1) σ H Q) : tCall (spOf K S0) [] E0 (tA K ws) σ H Q := by
  obtain ⟨ρ, HS, k, S, q, l⟩ := q
  refine ⟨ρ, HS, _, S, q, fun ds ρ1 vs H1 HS1 q1 S1 t1 d1 => ?_⟩
  obtain ⟨hio, q1⟩ := q1
  rw [List.append_nil]
  refine ⟨0, [], ds, HS1, _, ?_, q1, fun d pds' v H' HS' hk hx st _ r => ?_⟩
  · rw [hio]
    exact sim_args S1 d1
  · rw [hio] at st
    have no : ∀ a, ¬ Own (argEnv false 0 [] ds) a := fun a z => own_args z
    have S2 : Sim K ρ1 σ HS' H' := ⟨S1.len, hx, fun i s e y => let ⟨v, h1, h2⟩ := S1.im i s e y; ⟨v, h1, h2.mono st.ex⟩, fun i p es e => by
      obtain ⟨h1, h2, us, h3, h4⟩ := S1.ow i p es e
      exact ⟨h1, st.hs p _ h3 (no p) h2, us, st.keep p _ h3 (no p), dps_mono st.ex es us h4⟩, S1.inj⟩
    have t2 : Step ρ1 HS1 H1 ρ1 HS' H' := ⟨st.ex, fun a o h _ => st.keep a o h (no a), fun a o h _ z => st.hs a o h (no a) z, fun a z => .inl z, st.live⟩
    obtain ⟨r', hk', rp⟩ := ret_ok (σ := σ) (ρ := ρ1) r hk fun q hq z => by
      obtain ⟨i, es, e⟩ := z
      obtain ⟨_, _, us, h3, _⟩ := S1.ow i q es e
      rw [hq] at h3
      cases h3
    exact l r' ρ1 v H' HS' hk' S2 (t1.trans t2) (rp.from t1.live)
/-- a call that changes the list of a slot -/
theorem i_cio {S0 : DSpec} {ws : WA} {i : Nat} (q : tW K (fun ρ k => match ρ[i]? with
    | some (some (.ow _ _)) => ws ρ fun ds ρ1 => match ρ1[i]? with
      | some (some (.ow p pds)) => S0.io = true ∧ S0.run pds ds fun d pds' => retW S0.fr d fun r => k r (ρ1.set i (some (.ow p pds')))
      | _ => False
    | _ => False) σ H Q) : tCall (spOf K S0) [] E0 (tCons (tVar i) (tA K ws)) σ H Q := by
  obtain ⟨ρ, HS, k, S, q, l⟩ := q
  split at q
  rotate_left
  · exact q.elim
  rename_i p0 pds0 e0
  refine ⟨_, (S.ow i p0 pds0 e0).1, ?_⟩
  refine ⟨ρ, HS, _, S, q, fun ds ρ1 vs H1 HS1 q1 S1 t1 d1 => ?_⟩
  split at q1
  rotate_left
  · exact q1.elim
  rename_i p pds e
  have ep : p0 = p := by
    have z := (S.ow i p0 pds0 e0).1.symm.trans (S1.ow i p pds e).1
    cases z
    rfl
  subst ep
  obtain ⟨hio, q1⟩ := q1
  show spOf K S0 ((V.ref p0 :: vs) ++ []) H1 Q E0
  rw [List.append_nil]
  refine ⟨p0, pds, ds, HS1, _, ?_, q1, fun d pds' v H' HS' hk hx st hp r => ?_⟩
  · rw [hio]
    exact sim_argsP S1 e d1
  · rw [hio] at st hp
    obtain ⟨hp1, us, hp2, hp3⟩ := hp rfl
    have no : ∀ a, a ≠ p0 → ¬ Own (argEnv true p0 pds ds) a := fun a n z => n (own_argsP z)
    have S2 : Sim K (ρ1.set i (some (.ow p0 pds'))) σ HS' H' := by
      refine ⟨by rw [List.length_set]; exact S1.len, hx, fun j s e' y => ?_, fun j q es e' => ?_, fun j m q es fs e1 e2 => ?_⟩
      · rcases get_set e' with ⟨_, z⟩ | ⟨_, z⟩
        · cases z
          cases y
        · obtain ⟨v, h1, h2⟩ := S1.im j s z y
          exact ⟨v, h1, h2.mono st.ex⟩
      · rcases get_set e' with ⟨z1, z⟩ | ⟨ne, z⟩
        · cases z
          subst z1
          exact ⟨(S1.ow i p0 pds e).1, hp1, us, hp2, hp3⟩
        · have nq : q ≠ p0 := fun y => by
            subst y
            exact ne (S1.inj i j q pds es e z)
          obtain ⟨h1, h2, ws, h3, h4⟩ := S1.ow j q es z
          exact ⟨h1, st.hs q _ h3 (no q nq) h2, ws, st.keep q _ h3 (no q nq), dps_mono st.ex es ws h4⟩
      · rcases get_set e1 with ⟨z1, z⟩ | ⟨ne, z⟩
        · cases z
          rcases get_set e2 with ⟨z2, y⟩ | ⟨ne2, y⟩
          · exact z1.symm.trans z2
          · exact z1.symm.trans (S1.inj i m p0 pds fs e y)
        · rcases get_set e2 with ⟨z2, y⟩ | ⟨ne2, y⟩
          · cases y
            exact (S1.inj j i p0 es pds z e).trans z2
          · exact S1.inj j m q es fs z y
    have t2 : Step ρ1 HS1 H1 (ρ1.set i (some (.ow p0 pds'))) HS' H' := by
      have n0 : ∀ a, ¬ Own ρ1 a → a ≠ p0 := fun a n z => n (z ▸ ⟨i, pds, e⟩)
      exact ⟨st.ex, fun a o h n => st.keep a o h (no a (n0 a n)), fun a o h n z => st.hs a o h (no a (n0 a n)) z, fun a z => .inl (own_set_ow e z), st.live⟩
    obtain ⟨r', hk', rp⟩ := ret_ok (σ := σ) (ρ := ρ1.set i (some (.ow p0 pds'))) r hk fun q hq z => by
      obtain ⟨j, es, e'⟩ := own_set_ow e z
      obtain ⟨_, _, us, h3, _⟩ := S1.ow j q es e'
      rw [hq] at h3
      cases h3
    exact l r' _ v H' HS' hk' S2 (t1.trans t2) (rp.from t1.live)
/-- a call that is handed a new list -/
theorem i_cnw {S0 : DSpec} {ws : WA} (q : tW K (fun ρ k => wa ρ fun r ρ1 => match r with
    | .nw _ pds => ws ρ1 fun ds ρ2 => S0.io = true ∧ S0.run pds ds fun d _ => retW S0.fr d fun r => k r ρ2
    | _ => False) σ H Q) : tCall (spOf K S0) [] E0 (tCons (tW K wa) (tA K ws)) σ H Q := by
  obtain ⟨ρ, HS, k, S, q, l⟩ := q
  refine ⟨ρ, HS, _, S, q, fun r ρ0 v H0 HS0 q0 S00 t0 d0 => ?_⟩
  split at q0
  rotate_left
  · exact q0.elim
  rename_i p pds
  refine ⟨ρ0, HS0, _, S00, q0, fun ds ρ1 vs H1 HS1 q1 S1 t1 d1 => ?_⟩
  obtain ⟨hio, q1⟩ := q1
  obtain ⟨rfl, hp0, hp1, hp2, us, hp3, hp4⟩ := d0.step t1
  show spOf K S0 ((V.ref p :: vs) ++ []) H1 Q E0
  rw [List.append_nil]
  have T := t0.trans t1
  have A := sim_args S1 d1
  refine ⟨p, pds, ds, HS1, _, ?_, q1, fun d pds' v H' HS' hk hx st hp r => ?_⟩
  · rw [hio]
    refine ⟨by rw [List.map_cons]; show _ = (some _ :: _).length; rw [List.length_cons, List.length_cons, A.len], S1.sub, fun j s e y => ?_, fun j q es e => ?_, fun j l q es fs e1 e2 => ?_⟩
    · cases j with
      | zero => simp [argEnv] at e; subst e; cases y
      | succ j =>
        obtain ⟨v, g1, g2⟩ := A.im j s (by simpa [argEnv] using e) y
        exact ⟨v, by simpa using g1, g2⟩
    · cases j with
      | zero =>
        simp [argEnv] at e
        obtain ⟨rfl, rfl⟩ := e
        exact ⟨rfl, hp1, us, hp3, hp4⟩
      | succ j => exact (own_args (ds := ds) (a := q) ⟨j, es, e⟩).elim
    · cases j with
      | zero =>
        cases l with
        | zero => rfl
        | succ l => exact (own_args (ds := ds) (a := q) ⟨l, fs, e2⟩).elim
      | succ j => exact (own_args (ds := ds) (a := q) ⟨j, es, e1⟩).elim
  · rw [hio] at st
    have no : ∀ a, a ≠ p → ¬ Own (argEnv true p pds ds) a := fun a n z => n (own_argsP z)
    have S2 : Sim K ρ1 σ HS' H' := ⟨S1.len, hx, fun i s e y => let ⟨v, h1, h2⟩ := S1.im i s e y; ⟨v, h1, h2.mono st.ex⟩, fun i q es e => by
      obtain ⟨h1, h2, ws, h3, h4⟩ := S1.ow i q es e
      have nq : q ≠ p := fun z => hp2 (z ▸ ⟨i, es, e⟩)
      exact ⟨h1, st.hs q _ h3 (no q nq) h2, ws, st.keep q _ h3 (no q nq), dps_mono st.ex es ws h4⟩, S1.inj⟩
    have np : ∀ a o, H a = some o → a ≠ p := fun a o h z => by rw [z, hp0] at h; cases h
    have t2 : Step ρ HS H ρ1 HS' H' := by
      have n1 : ∀ a o, H a = some o → ¬ Own ρ a → ¬ Own ρ1 a := fun a o h n z => (T.own a z).elim n fun y => by rw [h] at y; cases y
      exact ⟨T.ex.trans st.ex, fun a o h n => st.keep a o (T.keep a o h n) (no a (np a o h)), fun a o h n z => st.hs a o (T.keep a o h n) (no a (np a o h)) (T.hs a o h n z), T.own, fun a z => T.live a (st.live a z)⟩
    obtain ⟨r', hk', rp⟩ := ret_ok (σ := σ) (ρ := ρ1) r hk fun q hq z => by
      obtain ⟨i, es, e⟩ := z
      obtain ⟨_, _, ws, h3, _⟩ := S1.ow i q es e
      rw [hq] at h3
      cases h3
    exact l r' ρ1 v H' HS' hk' S2 t2 (rp.from T.live)
end
end VL

set_option Elab.async false
set_option linter.all false
set_option maxRecDepth 100000
namespace VL
open PySem L2

section
variable {K : PySem.W.Frag} {σ : L2.St} {H : Hp} {Q : VK} {wa wb wc : W}
theorem i_pop {i : Nat} (q : tW K (fun ρ k => match ρ[i]? with
    | some (some (.ow _ _)) => vv wa ρ fun x ρ1 => match x, ρ1[i]? with
      | .int j, some (some (.ow p ds)) => 0 ≤ j ∧ j < ds.length ∧ ds.length ≤ 100000 ∧ ∃ d, ds[j.toNat]? = some d ∧ k (.v d) (ρ1.set i (some (.ow p (ds.eraseIdx j.toNat))))
      | _, _ => False
    | _ => False) σ H Q) : tBM K "list" rPopAt (tVar i) (tCons (tW K wa) tNil) σ H Q := by
  obtain ⟨ρ, HS, k, S, q, l⟩ := q
  split at q
  rotate_left
  · exact q.elim
  rename_i p0 pds0 e0
  obtain ⟨g1, g2, gs, g3, g4⟩ := S.ow i p0 pds0 e0
  refine ⟨_, g1, .inl ⟨rfl, gs, .inl (.inl g3)⟩, ?_⟩
  refine vv_ok ⟨ρ, HS, _, S, q, fun x ρ1 v H1 HS1 q1 S1 t1 d1 => ?_⟩
  split at q1
  rotate_left
  · exact q1.elim
  rename_i j p ds e
  obtain ⟨h1, h2, vs, h3, h4⟩ := S1.ow i p ds e
  have ep : p0 = p := by
    have z := g1.symm.trans h1
    cases z
    rfl
  subst ep
  obtain ⟨j0, j1, j2, d, ed, q1⟩ := q1
  obtain ⟨y, ey, dy⟩ := dps_get h4 ed
  cases d1
  have hl := dps_len h4
  exact ⟨p0, vs, j, j.toNat, y, rfl, rfl, h3, by omega, by omega, by rw [hl]; exact PySem.seqIndex_of j0 j1, ey, l (.v d) _ y _ HS1 q1 (sim_own S1 e (dps_erase j.toNat h4)) (t1.trans (step_own S1 e)) dy⟩
theorem i_tidx (q : tW K (fun ρ k => wa ρ fun r ρ1 => match r with
    | .tp ds => vv wb ρ1 fun y ρ2 => match y with
      | .int i => ∃ is : List Int, ds = is.map PyData.int ∧ i ∈ is ∧ k (.v (.int (is.idxOf i : Nat))) ρ2
      | _ => False
    | _ => False) σ H Q) : VLx.tIdxT K (tW K wa) (tCons (tW K wb) tNil) σ H Q := by
  obtain ⟨ρ, HS, k, S, q, l⟩ := q
  refine ⟨ρ, HS, _, S, q, fun r ρ1 v H1 HS1 q1 S1 t1 d1 => ?_⟩
  split at q1
  rotate_left
  · exact q1.elim
  obtain ⟨a, o, vs, rfl, ha, ho, hd⟩ := d1
  refine ⟨⟨a, o, vs, rfl, S1.sub a _ ha, ho⟩, ?_⟩
  refine vv_ok ⟨ρ1, HS1, _, S1, q1, fun y ρ2 u H2 HS2 q2 S2 t2 d2 => ?_⟩
  split at q2
  · obtain ⟨is, rfl, hi, q2⟩ := q2
    cases d2
    have ev := dps_ints is hd
    subst ev
    exact ⟨a, is, _, rfl, rfl, .inl (.inr ⟨o, S2.sub a _ (t2.ex a _ ha)⟩), hi, l (.v (.int _)) ρ2 _ H2 HS2 q2 S2 (t1.trans t2) (.int _)⟩
  · exact q2.elim
theorem dps_rep {HS : Hp} {vs : List V} {ds : List D} (h : DpAll K HS vs ds) : ∀ n : Nat, DpAll K HS (List.replicate n vs).flatten (List.replicate n ds).flatten
  | 0 => .nil
  | n + 1 => by
    rw [List.replicate_succ, List.replicate_succ, List.flatten_cons, List.flatten_cons]
    exact dps_app h (dps_rep h n)
theorem i_rep (q : tW K (fun ρ k => wa ρ fun r ρ1 => match r with
    | .nw _ ds => vv wb ρ1 fun y ρ2 => match y with
      | .int n => 0 ≤ n ∧ n ≤ 100000 ∧ ds.length * n.toNat ≤ 100000 ∧ ∀ q, k (.nw q (List.replicate n.toNat ds).flatten) ρ2
      | _ => False
    | _ => False) σ H Q) : tOp rRep (tW K wa) (tW K wb) σ H Q := by
  obtain ⟨ρ, HS, k, S, q, l⟩ := q
  refine ⟨ρ, HS, _, S, q, fun r ρ1 v H1 HS1 q1 S1 t1 d1 => ?_⟩
  split at q1
  rotate_left
  · exact q1.elim
  refine vv_ok ⟨ρ1, HS1, _, S1, q1, fun y ρ2 u H2 HS2 q2 S2 t2 d2 => ?_⟩
  split at q2
  · obtain ⟨n0, n1, n2, q2⟩ := q2
    cases d2
    obtain ⟨rfl, _, _, _, vs, h3, h4⟩ := d1.step t2
    have t := t1.trans t2
    exact ⟨_, _, vs, rfl, rfl, h3, by omega, by omega, by rw [dps_len h4]; exact sz_ok n2, fun p hp => l (.nw p _) ρ2 _ _ _ (q2 p) (alloc_sim S2 hp) (t.trans (alloc_step hp)) (new_lst S2 hp (t.live p hp) (dps_rep h4 _))⟩
  · exact q2.elim
theorem i_lrng {wa : W} (q : tW K (fun ρ k => vv wa ρ fun x ρ1 => match x with
    | .int n => 0 ≤ n ∧ n ≤ 100000 ∧ ∀ p, k (.nw p ((List.range n.toNat).map fun i => PyData.int (i : Nat))) ρ1
    | _ => False) σ H Q) : tLstRg (tRg1 (tW K wa)) σ H Q := by
  obtain ⟨ρ, HS, k, S, q, l⟩ := q
  refine vv_ok ⟨ρ, HS, _, S, q, fun x ρ1 v H1 HS1 q1 S1 t1 d1 => ?_⟩
  split at q1
  · rename_i n
    obtain ⟨n0, n1, q1⟩ := q1
    cases d1
    refine ⟨n, rfl, RgOk.of_le (by omega) (by omega) (by omega) (by omega), fun p hp => ?_⟩
    have e1 : rgV 0 n = ((List.range n.toNat).map fun i => ((i : Nat) : Int)).map V.int := by
      unfold rgV
      rw [List.map_map, Int.sub_zero]
      exact List.map_congr_left fun i _ => by show V.int (0 + (i : Int)) = V.int (i : Int); rw [Int.zero_add]
    have e2 : ((List.range n.toNat).map fun i => PyData.int (i : Nat)) = ((List.range n.toNat).map fun i => ((i : Nat) : Int)).map PyData.int := by rw [List.map_map]; rfl
    have q2 := q1 p
    rw [e2] at q2
    rw [e1]
    exact l (.nw p _) ρ1 _ _ _ q2 (alloc_sim S1 hp) (t1.trans (alloc_step hp)) (new_lst S1 hp (t1.live p hp) (dps_of_ints _))
  · exact q1.elim
/-! ### isinstance -/
theorem kit_all : ∀ a ∈ ["NoneType", "bool", "int", "str", "list", "tuple"], ∀ t ∈ tyNames, kitB a t = some (a == t || (t == "int" && a == "bool")) := by decide +kernel
theorem boot_all : ∀ t ∈ tyNames, bootBuiltins (Str.ofString t) = some (.type t) := by decide +kernel
theorem ty_ok {HS : Hp} {v : V} {d : D} (h : Dp K HS v d) : TyX K HS v (.type (tyName d)) ∧ tyName d ∈ ["NoneType", "bool", "int", "str", "list", "tuple"] := by
  cases h with
  | non => exact ⟨.base .non, by simp [tyName]⟩
  | bl b => exact ⟨.base (.bl b), by simp [tyName]⟩
  | int i => exact ⟨.base (.int i), by simp [tyName]⟩
  | str x => exact ⟨.base (.str x), by simp [tyName]⟩
  | lst hs _ =>
    refine ⟨?_, by simp [tyName]⟩
    rcases hs with (h | ⟨o, h⟩) | ⟨o, its, n, h, c, _⟩
    · exact .base (.lst h)
    · exact .base (.frz h)
    · exact .kList h c
  | tup hs _ =>
    refine ⟨?_, by simp [tyName]⟩
    rcases hs with (h | ⟨o, h⟩) | ⟨o, its, n, h, c, _⟩
    · exact .base (.tup h)
    · exact .fTuple h
    · exact .kTuple h c
theorem i_isi {t : String} (ht : t ∈ tyNames) (q : tW K (fun ρ k => vv wa ρ fun x ρ1 => k (.v (.bool (isiD x t))) ρ1) σ H Q) : tCB (rIsi K) (tCons (tW K wa) (tCons (tC (.ty t)) tNil)) σ H Q := by
  obtain ⟨ρ, HS, k, S, q, l⟩ := q
  refine vv_ok ⟨ρ, HS, _, S, q, fun x ρ1 v H1 HS1 q1 S1 t1 d1 => ?_⟩
  obtain ⟨h1, h2⟩ := ty_ok (dp_mono S1.sub _ _ d1)
  exact ⟨v, .ty t, _, _, isiD x t, rfl, .ty t, h1, kit_ty (kit_all _ h2 t ht), l (.v (.bool (isiD x t))) ρ1 _ H1 HS1 q1 S1 t1 (.bl _)⟩
end
end VL

set_option Elab.async false
set_option linter.all false
set_option maxRecDepth 100000
namespace VL
open PySem L2

/-! ### what is walked -/
/-- J gives the items, one by one, while what stays grows on HS0 -/
structure WalkD (K : PySem.W.Frag) (J : L2.It) (items : List D) (HS0 : Hp) : Prop where
  goes : ∀ i HS H, i < items.length → Ex HS0 HS → Ex HS H → J.go i H
  stops : ∀ HS H, Ex HS0 HS → Ex HS H → J.stop items.length H
  yields : ∀ i ρ σ HS H x H', i < items.length → Ex HS0 HS → Sim K ρ σ HS H → J.yld i H x H' → ∃ HS' d, items[i]? = some d ∧ Sim K ρ σ HS' H' ∧ Step ρ HS H ρ HS' H' ∧ Dp K HS' x d
def tI (K : PySem.W.Frag) (w : WA) : TI := fun σ H R => ∃ ρ HS k, Sim K ρ σ HS H ∧ w ρ k ∧ ∀ items ρ' J H' HS', k items ρ' → Sim K ρ' σ HS' H' → Step ρ HS H ρ' HS' H' → WalkD K J items HS' → R J H'
theorem pi_imp {X : Cx} {tg e : Expr} {t t' : TI} (h : PI X tg e t) (i : ∀ σ H R, t' σ H R → t σ H R) : PI X tg e t' := ⟨fun pins s σ H R I q => h.run pins s σ H R I (i σ H R q)⟩
section
variable {K : PySem.W.Frag}
/-- an iterator that changes nothing -/
theorem WalkD.of {J : L2.It} {n : Nat} {G : Hp → Prop} {Y : Nat → V → Prop} {items : List D} {HS0 : Hp} (w : Walk J n G fun i H x H' => H' = H ∧ Y i x) (hn : n = items.length) (hg : ∀ HS H, Ex HS0 HS → Ex HS H → G H)
    (hy : ∀ i x, i < n → Y i x → ∃ d, items[i]? = some d ∧ Dp K HS0 x d) : WalkD K J items HS0 where
  goes := fun i HS H hi e1 e2 => w.goes i H (by omega) (hg HS H e1 e2)
  stops := fun HS H e1 e2 => hn ▸ w.stops H (hg HS H e1 e2)
  yields := fun i ρ σ HS H x H' hi e1 S y => by
    obtain ⟨rfl, z⟩ := w.yields i H x H' (by omega) (hg HS H e1 S.sub) y
    obtain ⟨d, h1, h2⟩ := hy i x (by omega) z
    exact ⟨HS, d, h1, S, Step.refl _ _ _, dp_mono e1 d x h2⟩
/-- an iterator of new pairs -/
theorem WalkD.pairs {J : L2.It} {n : Nat} {G : Hp → Prop} {f g : Nat → Option V} {items : List D} {HS0 : Hp} (w : Walk J n G (YPair f g)) (hn : n = items.length) (hg : ∀ HS H, Ex HS0 HS → Ex HS H → G H)
    (hy : ∀ i x y, i < n → f i = some x → g i = some y → ∃ d e, items[i]? = some (.tuple [d, e]) ∧ Dp K HS0 x d ∧ Dp K HS0 y e) : WalkD K J items HS0 where
  goes := fun i HS H hi e1 e2 => w.goes i H (by omega) (hg HS H e1 e2)
  stops := fun HS H e1 e2 => hn ▸ w.stops H (hg HS H e1 e2)
  yields := fun i ρ σ HS H v H' hi e1 S yy => by
    obtain ⟨T, x, y, rfl, hT, rfl, hx, hy'⟩ := w.yields i H v H' (by omega) (hg HS H e1 S.sub) yy
    obtain ⟨d, e, h1, h2, h3⟩ := hy i x y (by omega) hx hy'
    exact ⟨_, _, h1, alloc_simS S hT, alloc_stepS S hT, new_tup S hT (.cons (dp_mono e1 d x h2) (.cons (dp_mono e1 e y h3) .nil))⟩
theorem walk_enumT {a : Addr} {xs : List V} : Walk (VLx.IteT K a) xs.length (fun H => SqT K H a xs) (YPair (fun i => some (.int (i : Nat))) (fun i => xs[i]?)) := by
  refine ⟨fun i _ hi q => ⟨xs, xs[i], q, by simp [hi]⟩, fun _ q => ⟨xs, q, rfl⟩, fun i H v H' _ q y => ?_⟩
  obtain ⟨T, x, h1, h2, h3, h4⟩ := y
  exact ⟨T, .int (i : Nat), x, h1, h2, h3, rfl, h4 xs q⟩
theorem walk_zipT {a b : Addr} {xs ys : List V} : Walk (RZ.ItzT K a b) (min xs.length ys.length) (fun H => SqT K H a xs ∧ SqT K H b ys) (YPair (fun i => xs[i]?) (fun i => ys[i]?)) := by
  refine ⟨fun i _ hi q => ?_, fun _ q => ⟨xs, ys, q.1, q.2, by omega⟩, fun i H v H' _ q y => ?_⟩
  · have h1 : i < xs.length := by omega
    have h2 : i < ys.length := by omega
    exact ⟨xs, ys, xs[i], ys[i], q.1, q.2, by simp [h1], by simp [h2]⟩
  · obtain ⟨T, x, z, h1, h2, h3, h4, h5⟩ := y
    exact ⟨T, x, z, h1, h2, h3, h4 xs q.1, h5 ys q.2⟩
theorem wd_list {HS : Hp} {a : Addr} {vs : List V} {ds : List D} (h : SqL K HS a vs) (r : DpAll K HS vs ds) : WalkD K (Itl K a) ds HS :=
  WalkD.of (walk_list (K := K) (a := a) (xs := vs)) (dps_len r) (fun _ _ e1 e2 => ex_seqL e2 (ex_seqL e1 h)) fun i x _ y => dps_getV r y
theorem wd_tup {HS : Hp} {a : Addr} {vs : List V} {ds : List D} (h : SqT K HS a vs) (r : DpAll K HS vs ds) : WalkD K (Itt K a) ds HS :=
  WalkD.of (walk_tup (K := K) (a := a) (xs := vs)) (dps_len r) (fun _ _ e1 e2 => ex_seqT e2 (ex_seqT e1 h)) fun i x _ y => dps_getV r y
theorem wd_range {HS : Hp} {lo : Int} {n : Nat} : WalkD K (Itr lo n) ((List.range n).map fun i => PyData.int (lo + (i : Nat))) HS :=
  WalkD.of (Y := fun i x => x = .int (lo + (i : Nat))) walk_range (by simp) (fun _ _ _ _ => trivial) fun i x hi y => ⟨.int (lo + (i : Nat)), by simp [hi], y ▸ .int _⟩
theorem wd_enum {HS : Hp} {a : Addr} {vs : List V} {ds : List D} (h : SqL K HS a vs) (r : DpAll K HS vs ds) : WalkD K (Ite K a) (ds.mapIdx fun i x => .tuple [.int (i : Nat), x]) HS :=
  WalkD.pairs (walk_enum (K := K) (a := a) (xs := vs)) (by rw [List.length_mapIdx, dps_len r]) (fun _ _ e1 e2 => ex_seqL e2 (ex_seqL e1 h)) fun i x y _ hx hy => by
    obtain ⟨d, h1, h2⟩ := dps_getV r hy
    cases hx
    exact ⟨_, d, by rw [List.getElem?_mapIdx, h1]; rfl, .int _, h2⟩
theorem wd_enumT {HS : Hp} {a : Addr} {vs : List V} {ds : List D} (h : SqT K HS a vs) (r : DpAll K HS vs ds) : WalkD K (VLx.IteT K a) (ds.mapIdx fun i x => .tuple [.int (i : Nat), x]) HS :=
  WalkD.pairs (walk_enumT (K := K) (a := a) (xs := vs)) (by rw [List.length_mapIdx, dps_len r]) (fun _ _ e1 e2 => ex_seqT e2 (ex_seqT e1 h)) fun i x y _ hx hy => by
    obtain ⟨d, h1, h2⟩ := dps_getV r hy
    cases hx
    exact ⟨_, d, by rw [List.getElem?_mapIdx, h1]; rfl, .int _, h2⟩
theorem wd_zip {HS : Hp} {a b : Addr} {vs us : List V} {ds es : List D} (h : SqL K HS a vs) (g : SqL K HS b us) (r : DpAll K HS vs ds) (s : DpAll K HS us es) : WalkD K (Itz K a b) (List.zipWith (fun x y => .tuple [x, y]) ds es) HS :=
  WalkD.pairs (walk_zip (K := K) (a := a) (b := b) (xs := vs) (ys := us) rfl) (by rw [List.length_zipWith, dps_len r, dps_len s]) (fun _ _ e1 e2 => ⟨ex_seqL e2 (ex_seqL e1 h), ex_seqL e2 (ex_seqL e1 g)⟩) fun i x y _ hx hy => by
    obtain ⟨d, h1, h2⟩ := dps_getV r hx
    obtain ⟨e, h3, h4⟩ := dps_getV s hy
    exact ⟨d, e, by rw [List.getElem?_zipWith, h1, h3], h2, h4⟩
theorem wd_zipT {HS : Hp} {a b : Addr} {vs us : List V} {ds es : List D} (h : SqT K HS a vs) (g : SqT K HS b us) (r : DpAll K HS vs ds) (s : DpAll K HS us es) : WalkD K (RZ.ItzT K a b) (List.zipWith (fun x y => .tuple [x, y]) ds es) HS :=
  WalkD.pairs (walk_zipT (K := K) (a := a) (b := b) (xs := vs) (ys := us)) (by rw [List.length_zipWith, dps_len r, dps_len s]) (fun _ _ e1 e2 => ⟨ex_seqT e2 (ex_seqT e1 h), ex_seqT e2 (ex_seqT e1 g)⟩) fun i x y _ hx hy => by
    obtain ⟨d, h1, h2⟩ := dps_getV r hx
    obtain ⟨e, h3, h4⟩ := dps_getV s hy
    exact ⟨d, e, by rw [List.getElem?_zipWith, h1, h3], h2, h4⟩
end

/-! ### targets -/
def gsOf : List Nat → TGs
  | [] => gNil
  | i :: is => gCons (gName i) (gsOf is)
def gOf (K : PySem.W.Frag) : List Nat → TG
  | [i] => gName i
  | is => gTup K is.length (gsOf is)
section
variable {K : PySem.W.Frag} {HS H : Hp}
theorem wipe_set {i : Nat} {x : Option V} : ∀ {vs : List Nat} {σ : L2.St}, i ∈ vs → wipe (σ.set i x) vs = wipe σ vs
  | [], _, h => by cases h
  | v :: vs, σ, h => by
    show (wipe (σ.set i x) vs).set v none = (wipe σ vs).set v none
    by_cases hv : i = v
    · subst hv
      have g : ∀ (ws : List Nat) (σ : L2.St), (wipe (σ.set i x) ws).set i none = (wipe σ ws).set i none := fun ws => by
        induction ws with
        | nil => intro σ; exact List.set_set ..
        | cons w ws ih =>
          intro σ
          show ((wipe (σ.set i x) ws).set w none).set i none = ((wipe σ ws).set w none).set i none
          by_cases e : w = i
          · subst e
            rw [List.set_set, List.set_set, ih]
          · rw [List.set_comm _ _ e, List.set_comm _ _ e, ih]
      exact g vs σ
    · rw [wipe_set ((List.mem_cons.mp h).resolve_left hv)]
theorem wipe_wipe : ∀ (vs : List Nat) (σ : L2.St), wipe (wipe σ vs) vs = wipe σ vs := fun vs σ => by
  have g : ∀ (us : List Nat), (∀ i ∈ us, i ∈ vs) → wipe (wipe σ us) vs = wipe σ vs := fun us => by
    induction us with
    | nil => intro _; rfl
    | cons u us ih =>
      intro h
      show wipe ((wipe σ us).set u none) vs = _
      rw [wipe_set (h u List.mem_cons_self), ih fun i hi => h i (List.mem_cons_of_mem _ hi)]
  exact g vs fun _ h => h
theorem wipe_get {j : Nat} : ∀ {vs : List Nat} {σ : L2.St}, j ∉ vs → (wipe σ vs)[j]? = σ[j]? := fun {vs σ} h => wipe_out h
theorem own_wipe {a : Addr} : ∀ {is : List Nat} {ρ : Env}, Own (wipeE ρ is) a → Own ρ a
  | [], _, h => h
  | i :: is, ρ, ⟨j, ds, h⟩ => by
    rcases get_set (show ((wipeE ρ is).set i none)[j]? = _ from h) with ⟨_, z⟩ | ⟨_, z⟩
    · cases z
    · exact own_wipe ⟨j, ds, z⟩
theorem sim_none {ρ : Env} {σ : L2.St} (i : Nat) (S : Sim K ρ σ HS H) : Sim K (ρ.set i none) (σ.set i none) HS H := by
  refine ⟨by rw [List.length_set, List.length_set]; exact S.len, S.sub, fun j e q y => ?_, fun j p ds q => ?_, fun j l p ds es q1 q2 => ?_⟩
  · rcases get_set q with ⟨z, e'⟩ | ⟨ne, e'⟩
    · cases e'
    · obtain ⟨v', h1, h2⟩ := S.im j e e' y
      exact ⟨v', by rw [List.getElem?_set_ne ne]; exact h1, h2⟩
  · rcases get_set q with ⟨z, e'⟩ | ⟨ne, e'⟩
    · cases e'
    · obtain ⟨h1, h2⟩ := S.ow j p ds e'
      exact ⟨by rw [List.getElem?_set_ne ne]; exact h1, h2⟩
  · rcases get_set q1 with ⟨z, e'⟩ | ⟨_, e1⟩
    · cases e'
    · rcases get_set q2 with ⟨z, e'⟩ | ⟨_, e2⟩
      · cases e'
      · exact S.inj j l p ds es e1 e2
theorem sim_wipe {ρ : Env} {σ : L2.St} (S : Sim K ρ σ HS H) : ∀ is : List Nat, Sim K (wipeE ρ is) (wipe σ is) HS H
  | [] => S
  | i :: is => sim_none i (sim_wipe S is)
theorem step_wipe {ρ : Env} (is : List Nat) : Step ρ HS H (wipeE ρ is) HS H := ⟨Ex.refl _, fun _ _ h _ => h, fun _ _ _ _ h => h, fun _ h => .inl (own_wipe h), fun _ h => h⟩
/-- the targets are stored -/
theorem all_ok {vs : List Nat} {Q : L2.St → Hp → Prop} : ∀ {is : List Nat} {ds : List D} {xs : List V} {ρ : Env} {σ : L2.St}, Sim K ρ σ HS H → DpAll K HS xs ds → is.length = ds.length → (∀ i ∈ is, i ∈ vs) →
    (∀ σ', Sim K (setAll ρ is ds) σ' HS H → Step ρ HS H (setAll ρ is ds) HS H → wipe σ' vs = wipe σ vs → Q σ' H) → gsOf is xs σ H Q
  | [], [], _, ρ, σ, S, .nil, _, _, l => ⟨rfl, l σ S (Step.refl _ _ _) rfl⟩
  | i :: is, d :: ds, _, ρ, σ, S, .cons h t, e, hv, l => by
    refine ⟨_, _, rfl, ?_⟩
    have S1 := sim_set i S (d := .im d) rfl h
    refine all_ok S1 t (by simpa using e) (fun j hj => hv j (List.mem_cons_of_mem _ hj)) fun σ' S2 st w => ?_
    exact l σ' S2 ((step_set i rfl).trans st) (w.trans (wipe_set (hv i List.mem_cons_self)))
theorem bind_ok {tg vs : List Nat} {d : D} {ρ : Env} {σ : L2.St} {x : V} {k : Env → Prop} {Q : L2.St → Hp → Prop} (S : Sim K ρ σ HS H) (h : Dp K HS x d) (q : bindT tg d ρ k) (hv : ∀ i ∈ tg, i ∈ vs)
    (l : ∀ ρ' σ', k ρ' → Sim K ρ' σ' HS H → Step ρ HS H ρ' HS H → wipe σ' vs = wipe σ vs → Q σ' H) : gOf K tg x σ H Q := by
  by_cases h1 : ∃ i, tg = [i]
  · obtain ⟨i, rfl⟩ := h1
    exact l _ _ q (sim_set i S (d := .im d) rfl h) (step_set i rfl) (wipe_set (hv i List.mem_cons_self))
  · have q' : ∃ ds, d = .tuple ds ∧ tg.length = ds.length ∧ k (setAll ρ tg ds) := by
      unfold bindT at q
      split at q
      · exact (h1 ⟨_, rfl⟩).elim
      · exact ⟨_, rfl, q⟩
      · exact q.elim
    obtain ⟨ds, rfl, e, q⟩ := q'
    obtain ⟨a, xs, rfl, hs, ha⟩ := dp_tup h
    have g : gOf K tg = gTup K tg.length (gsOf tg) := by
      unfold gOf
      split
      · exact (h1 ⟨_, rfl⟩).elim
      · rfl
    rw [g]
    refine ⟨a, xs, rfl, ex_seqT S.sub hs, by rw [dps_len ha]; exact e.symm, ?_⟩
    exact all_ok S ha e hv fun σ' S2 st w => l _ σ' q S2 st w
end
end VL

set_option Elab.async false
set_option linter.all false
set_option maxRecDepth 100000
namespace VL
open PySem L2

section
variable {K : PySem.W.Frag}
theorem keepI_stays {o : Option SV} {s : SV} (h : keepI o = some s) : o = some s ∧ s.stays = true := by
  cases o with
  | none => cases h
  | some t =>
    cases t with
    | ow p ds => cases h
    | im d => cases h; exact ⟨rfl, rfl⟩
    | tp d => cases h; exact ⟨rfl, rfl⟩
theorem restore_len {ρ ρ' : Env} : ∀ own : List Nat, (restore ρ ρ' own).length = ρ'.length
  | [] => rfl
  | i :: is => by
    show ((restore ρ ρ' is).set i _).length = _
    rw [List.length_set, restore_len is]
theorem restore_get {ρ ρ' : Env} {j : Nat} {s : Option SV} : ∀ {own : List Nat}, (restore ρ ρ' own)[j]? = some s → (j ∈ own ∧ s = keepI (ρ.getD j none)) ∨ (j ∉ own ∧ ρ'[j]? = some s)
  | [], h => .inr ⟨by simp, h⟩
  | i :: is, h => by
    rcases get_set (show ((restore ρ ρ' is).set i (keepI (ρ.getD i none)))[j]? = some s from h) with ⟨rfl, e⟩ | ⟨ne, e⟩
    · exact .inl ⟨List.mem_cons_self, e.symm⟩
    · rcases restore_get e with ⟨h1, h2⟩ | ⟨h1, h2⟩
      · exact .inl ⟨List.mem_cons_of_mem _ h1, h2⟩
      · exact .inr ⟨fun z => (List.mem_cons.mp z).elim (fun z => ne z.symm) h1, h2⟩
theorem getD_some {ρ : Env} {j : Nat} {s : SV} (h : ρ.getD j none = some s) : ρ[j]? = some (some s) := by
  rw [List.getD_eq_getElem?_getD] at h
  cases q : ρ[j]? with
  | none => rw [q] at h; cases h
  | some t => rw [q] at h; exact congrArg some h
theorem own_restore {ρ ρ' : Env} {own : List Nat} {a : Addr} (h : Own (restore ρ ρ' own) a) : Own ρ' a := by
  obtain ⟨j, ds, h⟩ := h
  rcases restore_get h with ⟨_, e⟩ | ⟨_, e⟩
  · obtain ⟨_, z⟩ := keepI_stays e.symm
    cases z
  · exact ⟨j, ds, e⟩
theorem step_restore {ρ ρ' : Env} {HS H : Hp} (own : List Nat) : Step ρ' HS H (restore ρ ρ' own) HS H := ⟨Ex.refl _, fun _ _ h _ => h, fun _ _ _ _ h => h, fun _ h => .inl (own_restore h), fun _ h => h⟩
theorem sim_restore {ρ ρ' : Env} {σ σ' : L2.St} {HS H HS' H' : Hp} {own : List Nat} (S : Sim K ρ σ HS H) (S' : Sim K ρ' σ' HS' H') (ex : Ex HS HS') (w : wipe σ' own = wipe σ own) : Sim K (restore ρ ρ' own) σ HS' H' := by
  have same : ∀ j, j ∉ own → σ'[j]? = σ[j]? := fun j hj => by rw [← wipe_get (σ := σ') hj, w, wipe_get hj]
  refine ⟨?_, S'.sub, fun j s e y => ?_, fun j p ds e => ?_, fun j l p ds es e1 e2 => ?_⟩
  · rw [restore_len, ← S'.len, ← wipe_length σ own, ← w, wipe_length]
  · rcases restore_get e with ⟨_, e'⟩ | ⟨hj, e'⟩
    · obtain ⟨z, _⟩ := keepI_stays e'.symm
      obtain ⟨v, h1, h2⟩ := S.im j s (getD_some z) y
      exact ⟨v, h1, h2.mono ex⟩
    · obtain ⟨v, h1, h2⟩ := S'.im j s e' y
      exact ⟨v, by rw [← same j hj]; exact h1, h2⟩
  · rcases restore_get e with ⟨_, e'⟩ | ⟨hj, e'⟩
    · obtain ⟨_, z⟩ := keepI_stays e'.symm
      cases z
    · obtain ⟨h1, h2⟩ := S'.ow j p ds e'
      exact ⟨by rw [← same j hj]; exact h1, h2⟩
  · rcases restore_get e1 with ⟨_, e'⟩ | ⟨_, e1⟩
    · obtain ⟨_, z⟩ := keepI_stays e'.symm
      cases z
    · rcases restore_get e2 with ⟨_, e'⟩ | ⟨_, e2⟩
      · obtain ⟨_, z⟩ := keepI_stays e'.symm
        cases z
      · exact S'.inj j l p ds es e1 e2
theorem step_upd {ρ0 ρ : Env} {HS0 H0 HS H : Hp} {p : Addr} {o : HO} (st : Step ρ0 HS0 H0 ρ HS H) (h0 : H0 p = none) : Step ρ0 HS0 H0 ρ HS (upd H p o) := ⟨st.ex, fun a u e n => by
    have ne : a ≠ p := fun z => by rw [z, h0] at e; cases e
    rw [upd_ne ne]
    exact st.keep a u e n, st.hs, st.own, fun a e => by
    by_cases z : a = p
    · rw [z]; exact h0
    · rw [upd_ne z] at e
      exact st.live a e⟩
theorem drop_cons {α : Type} {xs : List α} {i : Nat} {x : α} (h : xs[i]? = some x) : xs.drop i = x :: xs.drop (i + 1) := by
  obtain ⟨hl, e⟩ := List.getElem?_eq_some_iff.mp h
  rw [List.drop_eq_getElem_cons hl, e]
theorem i_lc {tg own : List Nat} {wi : WA} {wt : WT} {we : WV} {σ : L2.St} {H : Hp} {Q : VK} (hsub : ∀ i ∈ tg, i ∈ own)
    (q : tW K (fun ρ k => wi ρ fun xs ρ1 => xs.length ≤ 100000 ∧ ∀ p, compL tg own wt we xs ρ1 [] fun ys ρ2 => k (.nw p ys) ρ2) σ H Q) : tLc (tI K wi) (gOf K tg) (tB K wt) (tV K we) own σ H Q := by
  obtain ⟨ρ, HS, k, S, q, l⟩ := q
  refine ⟨ρ, HS, _, S, q, fun items ρ1 J H1 HS1 q1 S1 t1 wd => fun Dl hD => ?_⟩
  obtain ⟨hlen, q1⟩ := q1
  have q1 := q1 Dl
  refine ⟨fun i m H' => m = items.length - i ∧ i ≤ items.length ∧ ∃ ρ' HS' acc, Sim K ρ' σ HS' H' ∧ Ex HS1 HS' ∧ Step ρ1 HS1 H1 ρ' HS' H' ∧ RepR K H1 σ ρ' HS' H' (.ref Dl) (.nw Dl acc) ∧ acc.length ≤ i ∧
    compL tg own wt we (items.drop i) ρ' acc (fun ys ρ2 => k (.nw Dl ys) ρ2), ⟨items.length, rfl, Nat.zero_le _, ρ1, HS1, [], alloc_sim S1 hD, Ex.refl _, alloc_step hD, new_lst S1 hD hD .nil, Nat.le_refl _, q1⟩, ?_⟩
  rintro i m H' ⟨rfl, hi, ρ', HS', acc, S', ex, st, rp, hacc, c⟩
  by_cases hlt : i < items.length
  · refine .inr ⟨wd.goes i HS' H' hlt ex S'.sub, _, fun H2 n => ⟨items.length - (i + 1), by omega, rfl, hlt, n⟩, fun x H2 y => ?_⟩
    obtain ⟨HS2, d, hd, S2, st2, dx⟩ := wd.yields i ρ' σ HS' H' x H2 hlt ex S' y
    rw [drop_cons hd] at c
    have c : bindT tg d (wipeE ρ' own) fun ρ1 => wt ρ1 fun b ρ2 => if b = true then we ρ2 fun y ρ3 => compL tg own wt we (items.drop (i + 1)) (restore ρ' ρ3 own) (acc ++ [y]) (fun ys ρ2 => k (.nw Dl ys) ρ2) else compL tg own wt we (items.drop (i + 1)) (restore ρ' ρ2 own) acc (fun ys ρ2 => k (.nw Dl ys) ρ2) := c
    refine bind_ok (sim_wipe S2 own) dx c hsub fun ρa σa qa Sa sta wa => ⟨wa.trans (wipe_wipe own σ), ?_⟩
    have wa' : wipe σa own = wipe σ own := wa.trans (wipe_wipe own σ)
    refine ⟨ρa, HS2, _, Sa, qa, fun b ρb H3 HS3 qb Sb stb => ?_⟩
    have T3 : Step ρ' HS' H' ρb HS3 H3 := ((st2.trans (step_wipe own)).trans sta).trans stb
    cases b with
    | false =>
      have Sr := sim_restore S' Sb T3.ex wa'
      have T := T3.trans (step_restore (ρ := ρ') own)
      exact ⟨_, _, acc, Sr, ex.trans T3.ex, st.trans T, rp.step T, by omega, qb⟩
    | true =>
      refine ⟨ρb, HS3, _, Sb, qb, fun y ρc v H4 HS4 qc Sc stc dy => ?_⟩
      have T4 := T3.trans stc
      have Sr := sim_restore S' Sc T4.ex wa'
      have T := T4.trans (step_restore (ρ := ρ') own)
      obtain ⟨_, h0, hs, no, vs, hv, ha⟩ := rp.step T
      have hl := dps_len ha
      refine ⟨vs, hv, sz_lt (by omega), ?_⟩
      exact ⟨_, _, acc ++ [y], sim_upd Sr hs no, ex.trans T4.ex, step_upd (st.trans T) h0, ⟨rfl, h0, hs, no, vs ++ [v], upd_same, dps_app ha (.cons dy .nil)⟩, by rw [List.length_append]; simp; omega, qc⟩
  · have e : i = items.length := by omega
    subst e
    rw [List.drop_length] at c
    exact .inl ⟨wd.stops HS' H' ex S'.sub, l (.nw Dl acc) ρ' _ H' HS' c S' (t1.trans st) (rp.from t1.live)⟩
end

/-! ### the context of a comprehension's block -/
theorem okx_blk {Γ : Nat → DSpec} {c : Ck} {X : Cx} {own : List Nat} {s : Scope} (O : OkX Γ c X) (hb : blkC c.N (scopeOf c.sc) s (ownOf c own) = true) (st : Shared) (H : Hp) (C : Addr) (cl : List (Str × Addr)) (fp : List Addr) : OkX Γ (inner c s.names) (X.blk st H s (compEnvC s cl C X.env) fp) := by
  have B := blkOk_by hb
  have en : (relS s X.env.scope).names = relN s.names c.sc := by
    unfold relS relN
    rw [O.names, O.kind]
    simp
  refine ⟨O.N, O.nd, en, B.kind, O.calm, fun x hx => ?_, O.room, O.ctx⟩
  have look : ∀ k, k ≠ NameKind.free → s.names.lookup x = some k → (relS s X.env.scope).names.lookup x = some k := fun k hk h => lookup_relS_keep hk h
  unfold sto at hx
  split at hx
  · rename_i e
    exact ⟨.inl (look _ (by decide) e), .inr (look _ (by decide) e)⟩
  · rename_i e
    exact ⟨.inr (look _ (by decide) e), .inl (by have e' : s.names.lookup x = some NameKind.cell := e; show (s.names.lookup x == some NameKind.cell) = true; rw [e']; rfl)⟩
  · cases hx
theorem blk_ok {Γ : Nat → DSpec} {c : Ck} {X : Cx} {own : List Nat} {s : Scope} (O : OkX Γ c X) (hb : blkC c.N (scopeOf c.sc) s (ownOf c own) = true) : BlkOk X.N X.env.scope s (ownOf c own) := by
  have B := blkOk_by hb
  exact ⟨B.kind, B.uniq, fun p hp => by rw [O.N]; exact B.ix p hp, fun y hy e => by rw [O.names]; exact B.free y hy e, fun y hy e => by rw [O.N]; exact B.own y hy e⟩
theorem own_snd {c : Ck} {own : List Nat} : (ownOf c own).map (·.2) = own := by
  unfold ownOf
  rw [List.map_map]
  exact List.map_id' own
end VL

set_option Elab.async false
set_option linter.all false
set_option maxRecDepth 100000
namespace VL
open PySem L2 PySem.Spec PyProof.Rows

section
variable {Γ : Nat → DSpec} {c : Ck} {X : Cx}
theorem okNm_at {x : Str} (h : okNm x = true) : (x == ("__debug__" : Str)) = false ∧ (x == ("__classdict__" : Str)) = false ∧ x ≠ "__name__" := by
  unfold okNm at h
  simp only [Bool.and_eq_true, Bool.not_eq_true', decide_eq_false_iff_not] at h
  exact ⟨h.1.1, h.1.2, h.2⟩
theorem vis_at {x : Str} (O : OkX Γ c X) (h : vis c x = true) : Vis X.env.scope x := by
  unfold vis at h
  split at h
  · rename_i e
    exact .inl (by rw [O.names]; exact e)
  · rename_i e
    exact .inr (.inl (by rw [O.names]; exact e))
  · rename_i e
    exact .inr (.inr (by rw [O.names]; exact e))
  · cases h
theorem gl_at {x : Str} (O : OkX Γ c X) (h : glb c x = true) : Gl X x := by
  unfold glb at h
  split at h
  · rename_i e
    show X.env.scope.names.lookup x = some .globalImplicit
    rw [O.names]
    exact e
  · cases h
theorem var_at {i : Nat} {x : Str} {pos : Pos} (O : OkX Γ c X) (h : ckVar c i x = true) : PE X (.Name x pos) (tVar i) := by
  unfold ckVar at h
  simp only [Bool.and_eq_true, decide_eq_true_eq] at h
  obtain ⟨⟨h1, h2⟩, h3⟩ := h
  obtain ⟨d1, d2, _⟩ := okNm_at h3
  exact pe_var (by rw [O.N]; exact h1) (vis_at O h2) d1 d2
theorem blt_at {x y : Str} (O : OkX Γ c X) (h : isBlt c x y = true) : x = y ∧ Gl X x ∧ X.mg x = none := by
  unfold isBlt at h
  simp only [Bool.and_eq_true, decide_eq_true_eq] at h
  obtain ⟨⟨rfl, h2⟩, h3⟩ := h
  exact ⟨rfl, gl_at O h2, O.ctx.bl _ h3⟩
theorem st_at {i : Nat} {x : Str} {pos : Pos} (O : OkX Γ c X) (h : ckSt c i x = true) : PG X (.Name x pos) (gName i) := by
  unfold ckSt at h
  simp only [Bool.and_eq_true, decide_eq_true_eq] at h
  obtain ⟨h1, h2⟩ := O.st x h.2
  exact pg_name (by rw [O.N]; exact O.nd) (by rw [O.N]; exact h.1) h1 h2
theorem un_at (O : OkX Γ c X) : X.A.units + 64 < cLine := by
  have := O.room.un
  omega

theorem base_of {e : E} {x : Expr} {attr : Str} {env : PySem.Env} {w : Sem Value} (h : ckE e c x = true) : attributeBase x attr env w = w := by
  cases e <;> (unfold ckE at h; split at h <;> first | rfl | exact absurd h Bool.false_ne_true)
theorem set_ofI {it : VL.It} {t x : Expr} (h : ckI it c t x = true) {env : PySem.Env} : ∀ v, foldedSetIterable x env v = pure v := by
  cases it with
  | seq e => unfold ckI at h; exact not_set (head_of h)
  | r1 a => unfold ckI at h; split at h <;> first | (intro v; rfl) | exact absurd h Bool.false_ne_true
  | r2 a b => unfold ckI at h; split at h <;> first | (intro v; rfl) | exact absurd h Bool.false_ne_true
  | enum a => unfold ckI at h; split at h <;> first | (intro v; rfl) | exact absurd h Bool.false_ne_true
  | zip a b => unfold ckI at h; split at h <;> first | (intro v; rfl) | exact absurd h Bool.false_ne_true

/-! ### targets of one's names -/
theorem tgs_at (O : OkX Γ c X) : ∀ {is : List Nat} {es : List Expr}, ckTgs c is es = true → PGs X es (gsOf is) ∧ es.length = is.length ∧ (assignEach es X.env).length = is.length ∧ (assignEach es X.env).findIdx? (·.1) = none
  | [], [], _ => ⟨pgs_nil, rfl, rfl, rfl⟩
  | [], _ :: _, h => by unfold ckTgs at h; exact absurd h Bool.false_ne_true
  | i :: is, [], h => by unfold ckTgs at h; exact absurd h Bool.false_ne_true
  | i :: is, e :: es, h => by
    unfold ckTgs at h
    split at h
    · cases ‹_ :: _ = []›
    · rename_i q1 q2
      cases q1
      cases q2
      simp only [Bool.and_eq_true] at h
      obtain ⟨h1, h2, h3, h4⟩ := tgs_at O h.2
      refine ⟨pgs_cons (st_at O h.1) h1, by simp [h2], ?_, ?_⟩
      · show (_ :: assignEach _ X.env).length = _
        rw [List.length_cons, h3, List.length_cons]
      · show (List.findIdx? (·.1) ((false, _) :: assignEach _ X.env)) = none
        rw [List.findIdx?_cons]
        simp [h4]
    · exact absurd h Bool.false_ne_true
theorem tg_at {tg : List Nat} {e : Expr} (O : OkX Γ c X) (h : ckTg c tg e = true) : PG X e (gOf X.K tg) := by
  unfold ckTg at h
  split at h
  · exact st_at O h
  · simp only [Bool.and_eq_true, decide_eq_true_eq] at h
    obtain ⟨h1, _, h3, h4⟩ := tgs_at O h.2
    have g : gOf X.K tg = gTup X.K tg.length (gsOf tg) := by
      unfold gOf
      split
      · exact absurd rfl h.1
      · rfl
    rw [g]
    exact pg_tup O.calm h1 h3 h4
  · exact absurd h Bool.false_ne_true

/-! ### a list or a tuple, walked -/
def iSeq (K : PySem.W.Frag) (tl : TE) : TI := fun σ H R => tl σ H fun x H1 => ∃ a, x = .ref a ∧ (((∃ xs, SqL K H1 a xs) ∧ R (Itl K a) H1) ∨ ((∃ xs, SqT K H1 a xs) ∧ R (Itt K a) H1))
theorem pi_seq {tg l : Expr} {tl : TE} (hl : PE X l tl) : PI X tg l (iSeq X.K tl) := by
  refine ⟨fun pins s σ H R I h => ?_⟩
  refine thn (hl.run pins s σ H _ I h) fun v s1 ⟨x, H1, I1, r1, q1⟩ => ?_
  obtain ⟨a, e, q⟩ := q1
  subst e
  cases r1
  rcases q with ⟨⟨xs, hq⟩, q⟩ | ⟨⟨xs, hq⟩, q⟩
  · obtain ⟨its, rv, p, hz⟩ := I1.list hq
    refine wpAny_pyIter_list p.isList ?_
    refine ⟨s1.heap.objs.size, [s1.heap.objs.size], _, _, H1, rfl, I1.kept (t' := s1.toks) fun b o e => Heap.get?_push_of_some _ e, turn_list a _, ⟨_, Heap.get?_push_size _ rfl, rfl, rfl⟩, fun b hb => ?_, q⟩
    have e : b = s1.heap.objs.size := by simpa using hb
    subst e
    exact I1.fpOk (Nat.le_refl _) (I1.hok.fresh (Nat.le_refl _))
  · obtain ⟨its, rv, p, hz⟩ := I1.tuple hq
    refine wpAny_pyIter_tuple (show s1.heap.IsTuple a its.toArray from p) ?_
    refine ⟨s1.heap.objs.size, [s1.heap.objs.size], _, _, H1, rfl, I1.kept (t' := s1.toks) fun b o e => Heap.get?_push_of_some _ e, turn_tuple a _, ⟨_, Heap.get?_push_size _ rfl, rfl, rfl⟩, fun b hb => ?_, q⟩
    have e : b = s1.heap.objs.size := by simpa using hb
    subst e
    exact I1.fpOk (Nat.le_refl _) (I1.hok.fresh (Nat.le_refl _))
end

section
variable {K : PySem.W.Frag} {σ : L2.St} {H : Hp} {R : L2.It → Hp → Prop} {wa wb : W}
theorem k_seq (q : tI K (fun ρ k => vv wa ρ fun d ρ1 => match d with
    | .list ds => k ds ρ1
    | .tuple ds => k ds ρ1
    | _ => False) σ H R) : iSeq K (tW K wa) σ H R := by
  obtain ⟨ρ, HS, k, S, q, l⟩ := q
  refine vv_ok ⟨ρ, HS, _, S, q, fun x ρ1 v H1 HS1 q1 S1 t1 d1 => ?_⟩
  split at q1
  · obtain ⟨a, vs, rfl, hs, ha⟩ := dp_lst d1
    exact ⟨a, rfl, .inl ⟨⟨vs, ex_seqL S1.sub hs⟩, l _ ρ1 _ H1 HS1 q1 S1 t1 (wd_list hs ha)⟩⟩
  · obtain ⟨a, vs, rfl, hs, ha⟩ := dp_tup d1
    exact ⟨a, rfl, .inr ⟨⟨vs, ex_seqT S1.sub hs⟩, l _ ρ1 _ H1 HS1 q1 S1 t1 (wd_tup hs ha)⟩⟩
  · exact q1.elim
theorem k_r1 (q : tI K (fun ρ k => vv wa ρ fun d ρ1 => match d with
    | .int n => -(2 ^ 62) ≤ n ∧ n < 2 ^ 62 ∧ k ((List.range n.toNat).map fun i => PyData.int (i : Nat)) ρ1
    | _ => False) σ H R) : iRng1 (tCons (tW K wa) tNil) σ H R := by
  obtain ⟨ρ, HS, k, S, q, l⟩ := q
  refine vv_ok ⟨ρ, HS, _, S, q, fun x ρ1 v H1 HS1 q1 S1 t1 d1 => ?_⟩
  split at q1
  · rename_i n
    obtain ⟨n0, n1, q1⟩ := q1
    cases d1
    have e : ((List.range n.toNat).map fun i => PyData.int (i : Nat)) = ((List.range n.toNat).map fun i => PyData.int (0 + (i : Nat))) := List.map_congr_left fun i _ => by rw [Int.zero_add]
    rw [e] at q1
    exact ⟨n, rfl, n0, n1, l _ ρ1 _ H1 HS1 q1 S1 t1 wd_range⟩
  · exact q1.elim
theorem k_r2 (q : tI K (fun ρ k => vv wa ρ fun d ρ1 => vv wb ρ1 fun e ρ2 => match d, e with
    | .int m, .int n => (-(2 ^ 62) ≤ m ∧ m < 2 ^ 62 ∧ -(2 ^ 62) ≤ n ∧ n < 2 ^ 62) ∧ k ((List.range (n - m).toNat).map fun i => PyData.int (m + (i : Nat))) ρ2
    | _, _ => False) σ H R) : iRng2 (tCons (tW K wa) (tCons (tW K wb) tNil)) σ H R := by
  obtain ⟨ρ, HS, k, S, q, l⟩ := q
  refine vv_ok ⟨ρ, HS, _, S, q, fun x ρ1 v H1 HS1 q1 S1 t1 d1 => ?_⟩
  refine vv_ok ⟨ρ1, HS1, _, S1, q1, fun y ρ2 u H2 HS2 q2 S2 t2 d2 => ?_⟩
  split at q2
  · cases d1
    cases d2
    exact ⟨_, _, rfl, q2.1, l _ ρ2 _ H2 HS2 q2.2 S2 (t1.trans t2) wd_range⟩
  · exact q2.elim
theorem k_enum (q : tI K (fun ρ k => vv wa ρ fun d ρ1 => match d with
    | .list ds => k (ds.mapIdx fun i x => .tuple [.int (i : Nat), x]) ρ1
    | .tuple ds => k (ds.mapIdx fun i x => .tuple [.int (i : Nat), x]) ρ1
    | _ => False) σ H R) : VLx.iEnumA K (tCons (tW K wa) tNil) σ H R := by
  obtain ⟨ρ, HS, k, S, q, l⟩ := q
  refine vv_ok ⟨ρ, HS, _, S, q, fun x ρ1 v H1 HS1 q1 S1 t1 d1 => ?_⟩
  split at q1
  · obtain ⟨a, vs, rfl, hs, ha⟩ := dp_lst d1
    exact ⟨a, vs, rfl, .inl ⟨ex_seqL S1.sub hs, l _ ρ1 _ H1 HS1 q1 S1 t1 (wd_enum hs ha)⟩⟩
  · obtain ⟨a, vs, rfl, hs, ha⟩ := dp_tup d1
    exact ⟨a, vs, rfl, .inr ⟨ex_seqT S1.sub hs, l _ ρ1 _ H1 HS1 q1 S1 t1 (wd_enumT hs ha)⟩⟩
  · exact q1.elim
theorem k_zip (q : tI K (fun ρ k => vv wa ρ fun d ρ1 => vv wb ρ1 fun e ρ2 => match d, e with
    | .list xs, .list ys => k (List.zipWith (fun x y => .tuple [x, y]) xs ys) ρ2
    | .tuple xs, .tuple ys => k (List.zipWith (fun x y => .tuple [x, y]) xs ys) ρ2
    | _, _ => False) σ H R) : RZ.iZipA K (tCons (tW K wa) (tCons (tW K wb) tNil)) σ H R := by
  obtain ⟨ρ, HS, k, S, q, l⟩ := q
  refine vv_ok ⟨ρ, HS, _, S, q, fun x ρ1 v H1 HS1 q1 S1 t1 d1 => ?_⟩
  refine vv_ok ⟨ρ1, HS1, _, S1, q1, fun y ρ2 u H2 HS2 q2 S2 t2 d2 => ?_⟩
  have d1 := dp_mono t2.ex _ _ d1
  split at q2
  · obtain ⟨a, vs, rfl, hs, ha⟩ := dp_lst d1
    obtain ⟨b, us, rfl, gs, ga⟩ := dp_lst d2
    exact ⟨a, b, vs, us, rfl, .inl ⟨ex_seqL S2.sub hs, ex_seqL S2.sub gs, l _ ρ2 _ H2 HS2 q2 S2 (t1.trans t2) (wd_zip hs gs ha ga)⟩⟩
  · obtain ⟨a, vs, rfl, hs, ha⟩ := dp_tup d1
    obtain ⟨b, us, rfl, gs, ga⟩ := dp_tup d2
    exact ⟨a, b, vs, us, rfl, .inr ⟨ex_seqT S2.sub hs, ex_seqT S2.sub gs, l _ ρ2 _ H2 HS2 q2 S2 (t1.trans t2) (wd_zipT hs gs ha ga)⟩⟩
  · exact q2.elim
theorem k_var {i : Nat} {Q : VK} (q : tW K (fun ρ k => match ρ[i]? with
    | some (some (.im d)) => k (.v d) ρ
    | some (some (.tp ds)) => k (.tp ds) ρ
    | some (some (.ow _ _)) => k (.pl i) ρ
    | _ => False) σ H Q) : tVar i σ H Q := by
  obtain ⟨ρ, HS, k, S, q, l⟩ := q
  split at q
  · rename_i d e
    obtain ⟨v, h1, h2⟩ := S.im i _ e rfl
    exact ⟨v, h1, l (.v d) ρ v H HS q S (Step.refl _ _ _) h2⟩
  · rename_i d e
    obtain ⟨v, h1, h2⟩ := S.im i _ e rfl
    exact ⟨v, h1, l (.tp d) ρ v H HS q S (Step.refl _ _ _) h2⟩
  · rename_i p d e
    obtain ⟨h1, h2⟩ := S.ow i _ _ e
    exact ⟨_, h1, l (.pl i) ρ _ H HS q S (Step.refl _ _ _) h1⟩
  · exact q.elim
theorem k_cst {d : D} {v : V} {Q : VK} (h : ∀ HS, Dp K HS v d) (q : tW K (fun ρ k => k (.v d) ρ) σ H Q) : tC v σ H Q := by
  obtain ⟨ρ, HS, k, S, q, l⟩ := q
  exact l (.v d) ρ v H HS q S (Step.refl _ _ _) (h HS)
end
end VL

set_option Elab.async false
set_option linter.all false
set_option maxRecDepth 100000
namespace VL
open PySem L2 PySem.Spec PyProof.Rows

structure SE (Γ : Nat → DSpec) (c : Ck) (X : Cx) (x : Expr) (e : E) : Prop where
  pe : PE X x (tW X.K (ev c.G Γ e))
  pt : PT X x (tB X.K (evT c.G Γ e))
  pw : ∀ op es pos, x = .BoolOp op es pos → PW X x (tB X.K (evT c.G Γ e))

section
variable {Γ : Nat → DSpec} {c : Ck} {X : Cx} {x : Expr} {K : PySem.W.Frag}
theorem pt_no {x : Expr} : PT X x (tB X.K fun _ _ => False) := ⟨fun _ _ _ _ _ _ ⟨_, _, _, _, f, _⟩ => f.elim⟩
theorem pt_by {w : W} (h : PE X x (tW X.K w)) (he : ∀ whole, isTrue x X.env whole = (do let v ← whole; standAt x.pos; holding [v] (truthy v))) : PT X x (tB X.K fun ρ k => vv w ρ fun x ρ1 => ∃ t, truth x = some t ∧ k t ρ1) := pt_imp (pt_truth h he) fun _ _ _ q => j_val q
theorem SE.no {e : E} (h : PE X x (tW X.K (ev c.G Γ e))) (he : evT c.G Γ e = fun _ _ => False) (hx : ∀ op es pos, x ≠ .BoolOp op es pos) : SE Γ c X x e := ⟨h, by rw [he]; exact pt_no, fun op es pos z => absurd z (hx op es pos)⟩
theorem SE.of {e : E} (h : PE X x (tW X.K (ev c.G Γ e))) (g : PT X x (tB X.K (evT c.G Γ e))) (hx : ∀ op es pos, x ≠ .BoolOp op es pos) : SE Γ c X x e := ⟨h, g, fun op es pos z => absurd z (hx op es pos)⟩
theorem SE.tr {e : E} {w : W} (ht : evT c.G Γ e = tru w) (hw : ev c.G Γ e = w) (h : PE X x (tW X.K (ev c.G Γ e))) (he : ∀ whole, isTrue x X.env whole = (do let v ← whole; standAt x.pos; holding [v] (truthy v))) (hx : ∀ op es pos, x ≠ .BoolOp op es pos) : SE Γ c X x e := .of h (by rw [ht]; rw [hw] at h; exact pt_by h he) hx
theorem SE.wh {e : E} (w : PW X x (tB X.K (evT c.G Γ e))) (h : PE X x (tW X.K (ev c.G Γ e))) : SE Γ c X x e := ⟨h, w.pt, fun _ _ _ _ => w⟩
theorem boot_isi : bootBuiltins ("isinstance" : Str) = some (.builtin "isinstance") := by decide +kernel
theorem ty_name : ∀ t ∈ tyNames, (Str.ofString t : Str) ≠ "__name__" ∧ ((Str.ofString t : Str) == ("__debug__" : Str)) = false := by decide +kernel
end

mutual
theorem s_E {Γ : Nat → DSpec} : ∀ (e : E) (c : Ck) (X : Cx) (x : Expr), OkX Γ c X → ckE e c x = true → SE Γ c X x e
  | .var i, c, X, x, O, h => by
    unfold ckE at h
    split at h
    · exact SE.tr rfl rfl (pe_imp (var_at O h) fun _ _ _ q => k_var q) (fun _ => rfl) fun _ _ _ z => by cases z
    · exact absurd h Bool.false_ne_true
  | .cst d, c, X, x, O, h => by
    unfold ckE at h
    split at h
    · refine .no ?_ rfl fun _ _ _ z => by cases z
      unfold ckD at h
      split at h
      · simp only [decide_eq_true_eq] at h
        subst h
        exact pe_imp pe_int fun _ _ _ q => k_cst (fun _ => .int _) q
      · simp only [decide_eq_true_eq] at h
        subst h
        exact pe_imp pe_bl fun _ _ _ q => k_cst (fun _ => .bl _) q
      · exact pe_imp pe_non fun _ _ _ q => k_cst (fun _ => .non) q
      · simp only [decide_eq_true_eq] at h
        subst h
        exact pe_imp pe_str fun _ _ _ q => k_cst (fun _ => .str _) q
      · exact absurd h Bool.false_ne_true
    · exact absurd h Bool.false_ne_true
  | .glo g, c, X, x, O, h => by
    unfold ckE at h
    split at h
    · simp only [Bool.and_eq_true] at h
      obtain ⟨⟨h1, h2⟩, h3⟩ := h
      split at h1
      · rename_i y d e
        simp only [decide_eq_true_eq] at h1
        subst h1
        obtain ⟨u, v, m, r, dp⟩ := O.ctx.gc g _ _ e
        refine .no (pe_imp (pe_glob (gl_at O h2) m r (okNm_at h3).1) fun σ H Q q => ?_) rfl fun _ _ _ z => by cases z
        obtain ⟨ρ, HS, k, S, q, l⟩ := q
        unfold ev at q
        rw [e] at q
        exact l (.v d) ρ v H HS q S (Step.refl _ _ _) (dp HS)
      · cases h1
    · exact absurd h Bool.false_ne_true
  | .bin op a b, c, X, x, O, h => by
    unfold ckE at h
    split at h
    · simp only [Bool.and_eq_true, decide_eq_true_eq] at h
      obtain ⟨⟨rfl, h1⟩, h2⟩ := h
      exact SE.tr rfl rfl (pe_imp (pe_op (bin_op op) (s_E a c X _ O h1).pe (s_E b c X _ O h2).pe) fun _ _ _ q => i_bin q) (fun _ => rfl) fun _ _ _ z => by cases z
    · exact absurd h Bool.false_ne_true
  | .cmp op a b, c, X, x, O, h => by
    unfold ckE at h
    split at h
    · unfold ckOp at h
      simp only [Bool.and_eq_true, decide_eq_true_eq, Bool.not_eq_true'] at h
      obtain ⟨⟨⟨rfl, h0⟩, h1⟩, h2⟩ := h
      have pa := (s_E a c X _ O h1).pe
      have pb := (s_E b c X _ O h2).pe
      exact .of (pe_imp (pe_cmpR (cmp_op (un_at O) op) pa pb h0) fun _ _ _ q => i_cmp q) (pt_imp (pt_cmpR (cmp_op (un_at O) op) pa pb h0) fun _ _ _ q => j_cmp q) fun _ _ _ z => by cases z
    · exact absurd h Bool.false_ne_true
  | .chain o1 o2 a b d, c, X, x, O, h => by
    unfold ckE at h
    split at h
    · simp only [Bool.and_eq_true, decide_eq_true_eq, Bool.not_eq_true'] at h
      obtain ⟨⟨⟨⟨⟨rfl, rfl⟩, h0⟩, h1⟩, h2⟩, h3⟩ := h
      have pa := (s_E a c X _ O h1).pe
      have pb := (s_E b c X _ O h2).pe
      have pd := (s_E d c X _ O h3).pe
      exact .of (pe_imp (pe_chain (cmp_op (un_at O) o1) (cmp_op (un_at O) o2) pa pb pd h0) fun _ _ _ q => i_chain q) (pt_imp (pt_chain (cmp_op (un_at O) o1) (cmp_op (un_at O) o2) pa pb pd h0) fun _ _ _ q => j_chain q) fun _ _ _ z => by cases z
    · exact absurd h Bool.false_ne_true
  | .and a b, c, X, x, O, h => by
    unfold ckE at h
    split at h
    · simp only [Bool.and_eq_true] at h
      obtain ⟨h1, h2⟩ := h
      have pa := s_E a c X _ O h1
      split at h2
      · have pb := s_E b c X _ O h2
        exact SE.wh (pw_imp (pw_and pa.pt (pw_and1 pb.pt)) fun _ _ _ q => j_and q) (pe_imp (pe_andT pa.pe (pe_one pb.pe)) fun _ _ _ q => i_and q)
      · have pb := s_E b c X _ O h2
        exact SE.wh (pw_imp (pw_and pa.pt (pb.pw _ _ _ rfl)) fun _ _ _ q => j_and q) (pe_imp (pe_andT pa.pe pb.pe) fun _ _ _ q => i_and q)
    · exact absurd h Bool.false_ne_true
  | .or a b, c, X, x, O, h => by
    unfold ckE at h
    split at h
    · simp only [Bool.and_eq_true] at h
      obtain ⟨h1, h2⟩ := h
      have pa := s_E a c X _ O h1
      split at h2
      · have pb := s_E b c X _ O h2
        exact SE.wh (pw_imp (pw_or pa.pt (pw_or1 pb.pt)) fun _ _ _ q => j_or q) (pe_imp (pe_orT pa.pe (pe_one pb.pe)) fun _ _ _ q => i_or q)
      · have pb := s_E b c X _ O h2
        exact SE.wh (pw_imp (pw_or pa.pt (pb.pw _ _ _ rfl)) fun _ _ _ q => j_or q) (pe_imp (pe_orT pa.pe pb.pe) fun _ _ _ q => i_or q)
    · exact absurd h Bool.false_ne_true
  | .not a, c, X, x, O, h => by
    unfold ckE at h
    split at h
    · have pa := s_E a c X _ O h
      exact .of (pe_imp (pe_notT pa.pe) fun _ _ _ q => i_not q) (pt_imp (pt_not pa.pt) fun _ _ _ q => j_not q) fun _ _ _ z => by cases z
    · exact absurd h Bool.false_ne_true
  | .neg a, c, X, x, O, h => by
    unfold ckE at h
    split at h
    · have pa := s_E a c X _ O h
      exact .no (pe_imp (pe_un un_neg pa.pe) fun _ _ _ q => i_neg q) rfl fun _ _ _ z => by cases z
    · exact absurd h Bool.false_ne_true
  | .ife t a b, c, X, x, O, h => by
    unfold ckE at h
    split at h
    · simp only [Bool.and_eq_true] at h
      obtain ⟨⟨h1, h2⟩, h3⟩ := h
      exact .no (pe_imp (pe_ifExp (s_E t c X _ O h1).pt (s_E a c X _ O h2).pe (s_E b c X _ O h3).pe) fun _ _ _ q => i_ife q) rfl fun _ _ _ z => by cases z
    · exact absurd h Bool.false_ne_true
  | .tup es, c, X, x, O, h => by
    unfold ckE at h
    split at h
    · exact .no (pe_imp (pe_tup (s_A es c X _ O h)) fun _ _ _ q => i_tup q) rfl fun _ _ _ z => by cases z
    · exact absurd h Bool.false_ne_true
  | .lst es, c, X, x, O, h => by
    unfold ckE at h
    split at h
    · exact .no (pe_imp (pe_lst (s_A es c X _ O h)) fun _ _ _ q => i_lst q) rfl fun _ _ _ z => by cases z
    · exact absurd h Bool.false_ne_true
  | .idx a i, c, X, x, O, h => by
    unfold ckE at h
    split at h
    · simp only [Bool.and_eq_true] at h
      obtain ⟨h1, h2⟩ := h
      exact SE.tr rfl rfl (pe_imp (pe_ix ix_seq (s_E a c X _ O h1).pe (s_E i c X _ O h2).pe (plain_ix (head_of h2))) fun _ _ _ q => i_idx q) (fun _ => rfl) fun _ _ _ z => by cases z
    · exact absurd h Bool.false_ne_true
  | .sl a lo hi, c, X, x, O, h => by
    unfold ckE at h
    split at h
    · simp only [Bool.and_eq_true] at h
      obtain ⟨⟨h1, h2⟩, h3⟩ := h
      exact .no (pe_imp (pe_slice (r := rSlB X.K) (sl_list.or sl_tupA) (s_E a c X _ O h1).pe (s_O lo c X _ O h2) (s_O hi c X _ O h3)) fun _ _ _ q => i_sl q) rfl fun _ _ _ z => by cases z
    · exact absurd h Bool.false_ne_true
  | .b1 f a, c, X, x, O, h => by
    unfold ckE at h
    split at h
    · simp only [Bool.and_eq_true] at h
      obtain ⟨h1, h2⟩ := h
      obtain ⟨rfl, g, m⟩ := blt_at O h1
      have hd := head_of h2
      exact SE.tr rfl rfl (pe_imp (pe_b1 O.calm g m (pa_cons (s_E a c X _ O h2).pe pa_nil (star_cons hd)) (star_one hd)) fun _ _ _ q => i_b1 q) (fun _ => rfl) fun _ _ _ z => by cases z
    · exact absurd h Bool.false_ne_true
  | .b2 f a b, c, X, x, O, h => by
    unfold ckE at h
    split at h
    · simp only [Bool.and_eq_true] at h
      obtain ⟨⟨h1, h2⟩, h3⟩ := h
      obtain ⟨rfl, g, m⟩ := blt_at O h1
      have hd := head_of h2
      have hd3 := head_of h3
      exact .no (pe_imp (pe_b2 O.calm g m (pa_cons (s_E a c X _ O h2).pe (pa_cons (s_E b c X _ O h3).pe pa_nil (star_cons hd3)) (star_cons hd)) (star_two hd hd3) (star_one hd3)) fun _ _ _ q => i_b2 q) rfl fun _ _ _ z => by cases z
    · exact absurd h Bool.false_ne_true
  | .lrng a, c, X, x, O, h => by
    unfold ckE at h
    split at h
    · simp only [Bool.and_eq_true] at h
      obtain ⟨⟨h1, h2⟩, h3⟩ := h
      obtain ⟨rfl, g, m⟩ := blt_at O h1
      obtain ⟨rfl, g2, m2⟩ := blt_at O h2
      exact .no (pe_imp (pe_listRg O.calm g m (prg_1 g2 m2 (s_E a c X _ O h3).pe (star_cons (head_of h3)))) fun _ _ _ q => i_lrng q) rfl fun _ _ _ z => by cases z
    · exact absurd h Bool.false_ne_true
  | .isi a t, c, X, x, O, h => by
    unfold ckE at h
    split at h
    · simp only [Bool.and_eq_true] at h
      obtain ⟨⟨h1, h2⟩, h3⟩ := h
      obtain ⟨rfl, g, m⟩ := blt_at O h1
      unfold ckTy at h2
      split at h2
      · simp only [Bool.and_eq_true, decide_eq_true_eq] at h2
        obtain ⟨h2, ht⟩ := h2
        obtain ⟨rfl, g2, m2⟩ := blt_at O h2
        have hd := head_of h3
        have p2 := pe_bltn (pos := ‹Pos›) g2 m2 (boot_all t ht) (v := .ty t) rfl (ty_name t ht).1 (ty_name t ht).2
        exact SE.tr rfl rfl (pe_imp (pe_callB call_isi g m boot_isi (pa_cons (s_E a c X _ O h3).pe (pa_cons p2 pa_nil rfl) (star_cons hd)) (he := star_cons hd)) fun _ _ _ q => i_isi ht q) (fun _ => rfl) fun _ _ _ z => by cases z
      · exact absurd h2 Bool.false_ne_true
    · exact absurd h Bool.false_ne_true
  | .call f es, c, X, x, O, h => by
    unfold ckE at h
    split at h
    · simp only [Bool.and_eq_true, decide_eq_true_eq] at h
      obtain ⟨⟨⟨⟨h1, h2⟩, h3⟩, h4⟩, h5⟩ := h
      obtain ⟨a, fd, ps, m, kp, bd, F⟩ := O.ctx.fn f _ h1 h2
      have hd := ckA_head h5
      exact SE.tr rfl rfl (pe_imp (pe_call F (O.room.mono (by omega)) (gl_at O h3) m kp bd .nil pass0 (s_A es c X _ O h5) (okNm_at h4).1 (star_cons (hd _ List.mem_cons_self)) (star_plain fun y hy => hd y (List.mem_cons_of_mem _ hy))) fun _ _ _ q => i_call q) (fun _ => rfl) fun _ _ _ z => by cases z
    · exact absurd h Bool.false_ne_true
  | .cio f i es, c, X, x, O, h => by
    unfold ckE at h
    split at h
    · simp only [Bool.and_eq_true, decide_eq_true_eq] at h
      obtain ⟨⟨⟨⟨⟨h1, h2⟩, h3⟩, h4⟩, h6⟩, h5⟩ := h
      obtain ⟨a, fd, ps, m, kp, bd, F⟩ := O.ctx.fn f _ h1 h2
      have hd := ckA_head h5
      exact SE.tr rfl rfl (pe_imp (pe_call F (O.room.mono (by omega)) (gl_at O h3) m kp bd .nil pass0 (pa_cons (var_at O h6) (s_A es c X _ O h5) rfl) (okNm_at h4).1 rfl (star_plain hd)) fun _ _ _ q => i_cio q) (fun _ => rfl) fun _ _ _ z => by cases z
    · exact absurd h Bool.false_ne_true
  | .cnw f e es, c, X, x, O, h => by
    unfold ckE at h
    split at h
    · simp only [Bool.and_eq_true, decide_eq_true_eq] at h
      obtain ⟨⟨⟨⟨⟨h1, h2⟩, h3⟩, h4⟩, h6⟩, h5⟩ := h
      obtain ⟨a, fd, ps, m, kp, bd, F⟩ := O.ctx.fn f _ h1 h2
      have hd := ckA_head h5
      exact SE.tr rfl rfl (pe_imp (pe_call F (O.room.mono (by omega)) (gl_at O h3) m kp bd .nil pass0 (pa_cons (s_E e c X _ O h6).pe (s_A es c X _ O h5) (star_cons (head_of h6))) (okNm_at h4).1 (star_cons (head_of h6)) (star_plain hd)) fun _ _ _ q => i_cnw q) (fun _ => rfl) fun _ _ _ z => by cases z
    · exact absurd h Bool.false_ne_true
  | .lc el tg it ifs own, c, X, x, O, h => by
    unfold ckE at h
    split at h
    · simp only [Bool.and_eq_true, decide_eq_true_eq] at h
      obtain ⟨⟨⟨⟨⟨⟨h1, h2⟩, h3⟩, h4⟩, h5⟩, h6⟩, h7⟩ := h
      refine .no (pe_imp (pe_lc (own := ownOf c own) (te := tV X.K (vv (ev c.G Γ el))) (tt := tB X.K (evF c.G Γ ifs)) (g := gOf X.K tg) O.calm (by rw [O.N]; exact O.nd) (s_I it c X _ _ O h4) (blk_ok O h1) (fun st H C cl fp => tg_at (okx_blk O h1 st H C cl fp) h5) (fun st H C cl fp => s_F ifs (inner c _) _ _ (okx_blk O h1 st H C cl fp) h6)
        (fun st H C cl fp => pe_vv (s_E el (inner c _) _ _ (okx_blk O h1 st H C cl fp) h7).pe) (set_ofI h4)) fun σ H Q q => ?_) rfl fun _ _ _ z => by cases z
      rw [own_snd]
      exact i_lc h3 q
    · exact absurd h Bool.false_ne_true
  | .pop i a, c, X, x, O, h => by
    unfold ckE at h
    split at h
    · simp only [Bool.and_eq_true, decide_eq_true_eq] at h
      obtain ⟨⟨⟨rfl, h2⟩, h3⟩, h4⟩ := h
      have hd := head_of h4
      have hs := star_cons (xs := []) (env := X.env) hd
      exact .no (pe_imp (pe_bm PySem.F.plainAttrs_list PySem.F.slot_list_pop PySem.F.type_list_pop mt_popAt (var_at O h3) (pa_cons (s_E a c X _ O h4).pe pa_nil hs) rfl (by rw [hs]; rfl) h2 hs rfl) fun _ _ _ q => i_pop q) rfl fun _ _ _ z => by cases z
    · exact absurd h Bool.false_ne_true
  | .tidx a b, c, X, x, O, h => by
    unfold ckE at h
    split at h
    · simp only [Bool.and_eq_true, decide_eq_true_eq] at h
      obtain ⟨⟨⟨rfl, h2⟩, h3⟩, h4⟩ := h
      have hd := head_of h4
      exact .no (pe_imp (VLx.pe_idxT (s_E a c X _ O h3).pe (pa_cons (s_E b c X _ O h4).pe pa_nil (star_cons hd)) (base_of h3) h2 (star_one hd)) fun _ _ _ q => i_tidx q) rfl fun _ _ _ z => by cases z
    · exact absurd h Bool.false_ne_true
  | .rep a b, c, X, x, O, h => by
    unfold ckE at h
    split at h
    · simp only [Bool.and_eq_true] at h
      exact .no (pe_imp (pe_op op_rep (s_E a c X _ O h.1).pe (s_E b c X _ O h.2).pe) fun _ _ _ q => i_rep q) rfl fun _ _ _ z => by cases z
    · exact absurd h Bool.false_ne_true
theorem s_A {Γ : Nat → DSpec} : ∀ (es : Es) (c : Ck) (X : Cx) (xs : List Expr), OkX Γ c X → ckA es c xs = true → PA X xs (tA X.K (evA c.G Γ es))
  | .nil, c, X, xs, O, h => by
    unfold ckA at h
    cases xs with
    | nil => exact pa_imp pa_nil fun _ _ _ q => i_nil q
    | cons _ _ => cases h
  | .cons e es, c, X, xs, O, h => by
    unfold ckA at h
    cases xs with
    | nil => cases h
    | cons x xs =>
      simp only [Bool.and_eq_true] at h
      exact pa_imp (pa_cons (s_E e c X _ O h.1).pe (s_A es c X _ O h.2) (star_cons (head_of h.1))) fun _ _ _ q => i_cons q
theorem s_O {Γ : Nat → DSpec} : ∀ (o : Eo) (c : Ck) (X : Cx) (x : Option Expr), OkX Γ c X → ckO o c x = true → PO X x (tO X.K (evO c.G Γ o))
  | .none, c, X, x, O, h => by
    unfold ckO at h
    cases x with
    | none => exact po_imp po_none fun _ _ _ q => i_nopart q
    | some _ => cases h
  | .some e, c, X, x, O, h => by
    unfold ckO at h
    cases x with
    | none => cases h
    | some x => exact po_imp (po_some (s_E e c X _ O h).pe) fun _ _ _ q => i_part q
theorem s_F {Γ : Nat → DSpec} : ∀ (o : Eo) (c : Ck) (X : Cx) (xs : List Expr), OkX Γ c X → ckF o c xs = true → PTs X xs (tB X.K (evF c.G Γ o))
  | .none, c, X, xs, O, h => by
    unfold ckF at h
    cases xs with
    | nil => exact ⟨fun pins s σ H Q I q => pts_nil.run pins s σ H Q I (by obtain ⟨ρ, HS, k, S, q, l⟩ := q; exact l true ρ H HS q S (Step.refl _ _ _))⟩
    | cons _ _ => cases h
  | .some e, c, X, xs, O, h => by
    unfold ckF at h
    split at h
    · exact pts_one (s_E e c X _ O h).pt
    · exact absurd h Bool.false_ne_true
theorem s_I {Γ : Nat → DSpec} : ∀ (it : VL.It) (c : Ck) (X : Cx) (t x : Expr), OkX Γ c X → ckI it c t x = true → PI X t x (tI X.K (evI c.G Γ it))
  | .seq e, c, X, t, x, O, h => by
    unfold ckI at h
    exact pi_imp (pi_seq (s_E e c X _ O h).pe) fun _ _ _ q => k_seq q
  | .r1 a, c, X, t, x, O, h => by
    unfold ckI at h
    split at h
    · simp only [Bool.and_eq_true] at h
      obtain ⟨rfl, g, m⟩ := blt_at O h.1
      have hd := head_of h.2
      exact pi_imp (pi_range1 g m (pa_cons (s_E a c X _ O h.2).pe pa_nil (star_cons hd)) (star_one hd)) fun _ _ _ q => k_r1 q
    · exact absurd h Bool.false_ne_true
  | .r2 a b, c, X, t, x, O, h => by
    unfold ckI at h
    split at h
    · simp only [Bool.and_eq_true] at h
      obtain ⟨⟨h1, h2⟩, h3⟩ := h
      obtain ⟨rfl, g, m⟩ := blt_at O h1
      have hd := head_of h2
      have hd3 := head_of h3
      exact pi_imp (pi_range2 g m (pa_cons (s_E a c X _ O h2).pe (pa_cons (s_E b c X _ O h3).pe pa_nil (star_cons hd3)) (star_cons hd)) (star_two hd hd3) (star_one hd3)) fun _ _ _ q => k_r2 q
    · exact absurd h Bool.false_ne_true
  | .enum a, c, X, t, x, O, h => by
    unfold ckI at h
    split at h
    · simp only [Bool.and_eq_true] at h
      obtain ⟨rfl, g, m⟩ := blt_at O h.1
      have hd := head_of h.2
      exact pi_imp (VLx.pi_enumA g m (pa_cons (s_E a c X _ O h.2).pe pa_nil (star_cons hd)) (star_one hd)) fun _ _ _ q => k_enum q
    · exact absurd h Bool.false_ne_true
  | .zip a b, c, X, t, x, O, h => by
    unfold ckI at h
    split at h
    · simp only [Bool.and_eq_true] at h
      obtain ⟨⟨h1, h2⟩, h3⟩ := h
      obtain ⟨rfl, g, m⟩ := blt_at O h1
      have hd := head_of h2
      have hd3 := head_of h3
      exact pi_imp (RZ.pi_zipA g m (pa_cons (s_E a c X _ O h2).pe (pa_cons (s_E b c X _ O h3).pe pa_nil (star_cons hd3)) (star_cons hd)) (star_cons hd) (star_plain fun y hy => by cases hy with
        | head => exact hd3
        | tail _ z => cases z)) fun _ _ _ q => k_zip q
    · exact absurd h Bool.false_ne_true
end
end VL

set_option Elab.async false
set_option linter.all false
set_option maxRecDepth 100000
namespace VL
open PySem L2 PySem.Spec PyProof.Rows

/-! ### statements -/
inductive T where
  | nm (i : Nat)
  | sb (x : Nat) (i : E)
mutual
inductive S where
  | asg1 (t : T) (e : E)
  | asg (ts : List T) (es : Es)
  | unp (is : List Nat) (e : E)
  | aug (i : Nat) (op : Operator) (e : E)
  | app (i : Nat) (e : E)
  | ext (i : Nat) (e : E)
  | expr (e : E)
  | ret (e : E)
  | retN
  | ite (t : E) (a b : Ss)
  | wh (t : E) (b : Ss)
  | fr (tg : List Nat) (it : It) (b : Ss)
  | pass
  | brk
  | cont
  | never
inductive Ss where
  | nil
  | cons (s : S) (ss : Ss)
end
structure EndsD where
  nx : Env → Prop
  rt : R → Env → Prop
  bk : Env → Prop
  ct : Env → Prop
abbrev WS := Env → EndsD → Prop
abbrev WR := Env → (List SV → Env → Prop) → Prop
/-- what a slot takes of a result -/
def cv : R → Env → (SV → Env → Prop) → Prop
  | .v d, ρ, k => k (.im d) ρ
  | .tp ds, ρ, k => k (.tp ds) ρ
  | .nw p ds, ρ, k => k (.ow p ds) ρ
  | .pl i, ρ, k => toVal (.pl i) ρ fun d ρ1 => k (.im d) ρ1
def asD : SV → Option D
  | .im d => some d
  | .tp ds => some (.tuple ds)
  | .ow _ _ => none
def setAt (x : Nat) (wi : W) (d : D) (ρ : Env) (k : Env → Prop) : Prop := match ρ[x]? with
  | some (some (.ow _ _)) => vv wi ρ fun j ρ1 => match j, ρ1[x]? with
    | .int j, some (some (.ow p ds)) => ∃ n, ixN ds.length j = some n ∧ k (ρ1.set x (some (.ow p (ds.set n d))))
    | _, _ => False
  | _ => False
def putT (w : E → W) : T → SV → Env → (Env → Prop) → Prop
  | .nm i, s, ρ, k => k (ρ.set i (some s))
  | .sb x i, s, ρ, k => ∃ d, asD s = some d ∧ setAt x (w i) d ρ k
def putTs (w : E → W) : List T → List SV → Env → (Env → Prop) → Prop
  | [], [], ρ, k => k ρ
  | t :: ts, s :: ss, ρ, k => putT w t s ρ fun ρ1 => putTs w ts ss ρ1 k
  | _, _, _, _ => False
def forL (tg : List Nat) (body : WS) : List D → Env → EndsD → Prop
  | [], ρ, E => E.nx ρ
  | x :: xs, ρ, E => bindT tg x ρ fun ρ1 => body ρ1 ⟨fun ρ' => forL tg body xs ρ' E, E.rt, E.nx, fun ρ' => forL tg body xs ρ' E⟩
def whL (t : WT) (body : WS) : WS := fun ρ E => ∃ Wm : Nat → Env → Prop, (∃ m, Wm m ρ) ∧ ∀ m ρ, Wm m ρ → t ρ fun b ρ1 => if b = true then body ρ1 ⟨fun ρ' => ∃ m', m' < m ∧ Wm m' ρ', E.rt, E.nx, fun ρ' => ∃ m', m' < m ∧ Wm m' ρ'⟩ else E.nx ρ1
def augW : Operator → Int → Int → (Int → Prop) → Prop
  | .Add, a, b, k => k (a + b)
  | .Sub, a, b, k => k (a - b)
  | _, _, _, _ => False
section
variable (G : Sg) (Γ : Nat → DSpec)
def evR : Es → WR
  | .nil => fun ρ k => k [] ρ
  | .cons e es => fun ρ k => ev G Γ e ρ fun r ρ1 => cv r ρ1 fun s ρ2 => evR es ρ2 fun ss ρ3 => k (s :: ss) ρ3
mutual
def xs : S → WS
  | .asg1 (.nm i) e => fun ρ E => ev G Γ e ρ fun r ρ1 => cv r ρ1 fun s ρ2 => E.nx (ρ2.set i (some s))
  | .asg1 (.sb x i) e => fun ρ E => vv (ev G Γ e) ρ fun d ρ1 => setAt x (ev G Γ i) d ρ1 E.nx
  | .asg ts es => fun ρ E => evR G Γ es ρ fun ss ρ1 => ts.length = ss.length ∧ putTs (ev G Γ) ts ss ρ1 E.nx
  | .unp is e => fun ρ E => vv (ev G Γ e) ρ fun d ρ1 => bindT is d ρ1 E.nx
  | .aug i op e => fun ρ E => match ρ[i]? with
    | some (some (.im (.int a))) => vv (ev G Γ e) ρ fun y ρ1 => match y with
      | .int b => augW op a b fun z => E.nx (ρ1.set i (some (.im (.int z))))
      | _ => False
    | _ => False
  | .app i e => fun ρ E => match ρ[i]? with
    | some (some (.ow _ _)) => vv (ev G Γ e) ρ fun d ρ1 => match ρ1[i]? with
      | some (some (.ow p ds)) => ds.length < 100000 ∧ E.nx (ρ1.set i (some (.ow p (ds ++ [d]))))
      | _ => False
    | _ => False
  | .ext i e => fun ρ E => match ρ[i]? with
    | some (some (.ow _ _)) => ev G Γ e ρ fun r ρ1 => match r, ρ1[i]? with
      | .nw _ es, some (some (.ow p ds)) => ds.length + es.length ≤ 100000 ∧ E.nx (ρ1.set i (some (.ow p (ds ++ es))))
      | _, _ => False
    | _ => False
  | .expr e => fun ρ E => ev G Γ e ρ fun _ ρ1 => E.nx ρ1
  | .ret e => fun ρ E => ev G Γ e ρ E.rt
  | .retN => fun ρ E => E.rt (.v .none) ρ
  | .ite t a b => fun ρ E => evT G Γ t ρ fun c ρ1 => if c = true then xss a ρ1 E else xss b ρ1 E
  | .wh t b => whL (evT G Γ t) (xss b)
  | .fr tg it b => fun ρ E => evI G Γ it ρ fun items ρ1 => forL tg (xss b) items ρ1 E
  | .pass => fun ρ E => E.nx ρ
  | .brk => fun ρ E => E.bk ρ
  | .cont => fun ρ E => E.ct ρ
  | .never => fun _ _ => False
def xss : Ss → WS
  | .nil => fun ρ E => E.nx ρ
  | .cons s ss => fun ρ E => xs s ρ ⟨fun ρ' => xss ss ρ' E, E.rt, E.bk, E.ct⟩
end
end

structure EndOk (K : PySem.W.Frag) (ρ : Env) (HS H : Hp) (E : EndsD) (D : Ends) : Prop where
  nx : ∀ ρ' σ' H' HS', E.nx ρ' → Sim K ρ' σ' HS' H' → Step ρ HS H ρ' HS' H' → D.nx σ' H'
  bk : ∀ ρ' σ' H' HS', E.bk ρ' → Sim K ρ' σ' HS' H' → Step ρ HS H ρ' HS' H' → D.bk σ' H'
  ct : ∀ ρ' σ' H' HS', E.ct ρ' → Sim K ρ' σ' HS' H' → Step ρ HS H ρ' HS' H' → D.ct σ' H'
  rt : ∀ r ρ' σ' v H' HS', E.rt r ρ' → Sim K ρ' σ' HS' H' → Step ρ HS H ρ' HS' H' → RepR K H σ' ρ' HS' H' v r → D.rt v H'
theorem EndOk.after {K : PySem.W.Frag} {ρ ρ1 : Env} {HS H HS1 H1 : Hp} {E : EndsD} {D : Ends} (l : EndOk K ρ HS H E D) (st : Step ρ HS H ρ1 HS1 H1) : EndOk K ρ1 HS1 H1 E D :=
  ⟨fun ρ' σ' H' HS' z S' s => l.nx ρ' σ' H' HS' z S' (st.trans s), fun ρ' σ' H' HS' z S' s => l.bk ρ' σ' H' HS' z S' (st.trans s), fun ρ' σ' H' HS' z S' s => l.ct ρ' σ' H' HS' z S' (st.trans s),
    fun r ρ' σ' v H' HS' z S' s rp => l.rt r ρ' σ' v H' HS' z S' (st.trans s) (rp.from st.live)⟩
def tS (K : PySem.W.Frag) (w : WS) : TS := fun D σ H => ∃ ρ HS E, Sim K ρ σ HS H ∧ w ρ E ∧ EndOk K ρ HS H E D

/-- a result that a slot takes -/
def RepS (K : PySem.W.Frag) (H0 : Hp) (ρ : Env) (HS H : Hp) (v : V) : SV → Prop
  | .im d => Dp K HS v d
  | .tp ds => PlT K HS v ds
  | .ow p ds => v = .ref p ∧ H0 p = none ∧ HS p = none ∧ ¬ Own ρ p ∧ ∃ vs, H p = some (.lst vs) ∧ DpAll K HS vs ds
section
variable {K : PySem.W.Frag} {σ : L2.St} {H : Hp} {D : Ends} {Q : VK}
theorem RepS.step {H0 : Hp} {ρ ρ' : Env} {HS H HS' H' : Hp} {v : V} (s : Step ρ HS H ρ' HS' H') : ∀ {r : SV}, RepS K H0 ρ HS H v r → RepS K H0 ρ' HS' H' v r
  | .im d, h => dp_mono s.ex d v h
  | .tp _, h => PlT.mono s.ex h
  | .ow p ds, ⟨h1, h2, h3, h4, vs, h5, h6⟩ => ⟨h1, h2, s.hs p _ h5 h4 h3, fun q => (s.own p q).elim h4 (fun z => by rw [h5] at z; cases z), vs, s.keep p _ h5 h4, dps_mono s.ex ds vs h6⟩
theorem RepS.from {H0 H1 : Hp} {ρ : Env} {HS H : Hp} {v : V} (l : ∀ a, H1 a = none → H0 a = none) : ∀ {r : SV}, RepS K H1 ρ HS H v r → RepS K H0 ρ HS H v r
  | .im d, h => h
  | .tp _, h => h
  | .ow p ds, ⟨h1, h2, h3⟩ => ⟨h1, l p h2, h3⟩
theorem cv_ok {ρ0 ρ : Env} {HS0 H0 HS : Hp} {v : V} {r : R} {k : SV → Env → Prop} (S : Sim K ρ σ HS H) (st : Step ρ0 HS0 H0 ρ HS H) (h : RepR K H0 σ ρ HS H v r) (q : cv r ρ k) :
    ∃ s ρ' HS', k s ρ' ∧ Sim K ρ' σ HS' H ∧ Step ρ0 HS0 H0 ρ' HS' H ∧ RepS K H0 ρ' HS' H v s := by
  cases r with
  | v d => exact ⟨_, _, _, q, S, st, h⟩
  | tp d => exact ⟨_, _, _, q, S, st, h⟩
  | nw p d => exact ⟨_, _, _, q, S, st, h⟩
  | pl i =>
    obtain ⟨d, ρ', HS', z, S', st', dp⟩ := toVal_ok S st h q
    exact ⟨.im d, ρ', HS', z, S', st', dp⟩
theorem put_nm {ρ0 ρ : Env} {HS0 H0 HS : Hp} {v : V} {s : SV} (i : Nat) (S : Sim K ρ σ HS H) (st : Step ρ0 HS0 H0 ρ HS H) (h : RepS K H0 ρ HS H v s) : Sim K (ρ.set i (some s)) (σ.set i (some v)) HS H ∧ Step ρ0 HS0 H0 (ρ.set i (some s)) HS H := by
  cases s with
  | im d => exact ⟨sim_set i S rfl h, st.trans (step_set i rfl)⟩
  | tp d => exact ⟨sim_set i S rfl h, st.trans (step_set i rfl)⟩
  | ow p ds =>
    obtain ⟨rfl, h2, h3, h4, vs, h5, h6⟩ := h
    exact ⟨sim_setN i S h3 h5 h4 h6, step_setN i st h2⟩
/-- several results, no list twice -/
inductive Rs (K : PySem.W.Frag) (H0 : Hp) (ρ : Env) (HS H : Hp) : List V → List SV → Prop
  | nil : Rs K H0 ρ HS H [] []
  | cons {v : V} {s : SV} {vs : List V} {ss : List SV} (h : RepS K H0 ρ HS H v s) (t : Rs K H0 ρ HS H vs ss) (d : ∀ p ds, s = .ow p ds → ∀ q es, SV.ow q es ∈ ss → q ≠ p) : Rs K H0 ρ HS H (v :: vs) (s :: ss)
theorem Rs.step {H0 : Hp} {ρ ρ' : Env} {HS H HS' H' : Hp} (s : Step ρ HS H ρ' HS' H') : ∀ {vs : List V} {ss : List SV}, Rs K H0 ρ HS H vs ss → Rs K H0 ρ' HS' H' vs ss
  | _, _, .nil => .nil
  | _, _, .cons h t d => .cons (h.step s) (t.step s) d
theorem Rs.from {H0 H1 : Hp} {ρ : Env} {HS H : Hp} (l : ∀ a, H1 a = none → H0 a = none) : ∀ {vs : List V} {ss : List SV}, Rs K H1 ρ HS H vs ss → Rs K H0 ρ HS H vs ss
  | _, _, .nil => .nil
  | _, _, .cons h t d => .cons (h.from l) (t.from l) d
theorem Rs.new {H0 : Hp} {ρ : Env} {HS H : Hp} : ∀ {vs : List V} {ss : List SV}, Rs K H0 ρ HS H vs ss → ∀ q es, SV.ow q es ∈ ss → H0 q = none
  | _, _, .nil, q, es, h => by cases h
  | _, _, .cons h t d, q, es, m => by
    rcases List.mem_cons.mp m with z | z
    · subst z
      exact h.2.1
    · exact t.new q es z
theorem Rs.len {H0 : Hp} {ρ : Env} {HS H : Hp} : ∀ {vs : List V} {ss : List SV}, Rs K H0 ρ HS H vs ss → vs.length = ss.length
  | _, _, .nil => rfl
  | _, _, .cons _ t _ => congrArg (· + 1) t.len
def tR (K : PySem.W.Frag) (w : WR) : TA := fun σ H Q => ∃ ρ HS k, Sim K ρ σ HS H ∧ w ρ k ∧ ∀ ss ρ' vs H' HS', k ss ρ' → Sim K ρ' σ HS' H' → Step ρ HS H ρ' HS' H' → Rs K H ρ' HS' H' vs ss → Q vs H'
theorem r_nil {Q : List V → Hp → Prop} (q : tR K (fun ρ k => k [] ρ) σ H Q) : tNil σ H Q := by
  obtain ⟨ρ, HS, k, S, q, l⟩ := q
  exact l [] ρ [] H HS q S (Step.refl _ _ _) .nil
theorem r_cons {wa : W} {ws : WR} {Q : List V → Hp → Prop} (q : tR K (fun ρ k => wa ρ fun r ρ1 => cv r ρ1 fun s ρ2 => ws ρ2 fun ss ρ3 => k (s :: ss) ρ3) σ H Q) : tCons (tW K wa) (tR K ws) σ H Q := by
  obtain ⟨ρ, HS, k, S, q, l⟩ := q
  refine ⟨ρ, HS, _, S, q, fun r ρ1 v H1 HS1 q1 S1 t1 d1 => ?_⟩
  obtain ⟨s, ρ2, HS2, q2, S2, t2, d2⟩ := cv_ok S1 t1 d1 q1
  refine ⟨ρ2, HS2, _, S2, q2, fun ss ρ3 vs H3 HS3 q3 S3 t3 d3 => ?_⟩
  refine l (s :: ss) ρ3 (v :: vs) H3 HS3 q3 S3 (t2.trans t3) (.cons (d2.step t3) (d3.from t2.live) fun p ds e q es m => ?_)
  subst e
  obtain ⟨_, _, _, _, us, h5, _⟩ := d2
  have z := d3.new q es m
  intro y
  rw [y, h5] at z
  cases z

/-! ### targets -/
def gtOf (K : PySem.W.Frag) (w : E → W) : T → TG
  | .nm i => gName i
  | .sb x i => gSub (tVar x) (tW K (w i)) rSetL
def gtsOf (K : PySem.W.Frag) (w : E → W) : List T → TGs
  | [] => gNil
  | t :: ts => gCons (gtOf K w t) (gtsOf K w ts)
theorem asD_ok {H0 : Hp} {ρ : Env} {HS : Hp} {v : V} {s : SV} {d : PyData} (h : RepS K H0 ρ HS H v s) (e : asD s = some d) : Dp K HS v d := by
  cases s <;> cases e
  · exact h
  · exact PlT.dp h
theorem setAt_ok {x : Nat} {wi : W} {d : PyData} {ρ : Env} {HS : Hp} {v : V} {k : Env → Prop} {Q : L2.St → Hp → Prop} (S : Sim K ρ σ HS H) (h : Dp K HS v d) (q : setAt x wi d ρ k)
    (l : ∀ ρ' H' HS', k ρ' → Sim K ρ' σ HS' H' → Step ρ HS H ρ' HS' H' → Q σ H') : gSub (tVar x) (tW K wi) rSetL v σ H Q := by
  unfold setAt at q
  split at q
  rotate_left
  · exact q.elim
  rename_i p0 pds0 e0
  refine ⟨_, (S.ow x p0 pds0 e0).1, ?_⟩
  refine vv_ok ⟨ρ, HS, _, S, q, fun y ρ1 u H1 HS1 q1 S1 t1 d1 => ?_⟩
  split at q1
  rotate_left
  · exact q1.elim
  rename_i j p ds e
  obtain ⟨h1, h2, vs, h3, h4⟩ := S1.ow x p ds e
  have ep : p0 = p := by
    have z := (S.ow x p0 pds0 e0).1.symm.trans h1
    cases z
    rfl
  subst ep
  obtain ⟨n, hn, q1⟩ := q1
  cases d1
  refine ⟨p0, vs, j, n, rfl, rfl, h3, by rw [dps_len h4]; exact hn, ?_⟩
  exact l _ _ HS1 q1 (sim_own S1 e (dps_set (dp_mono t1.ex _ _ h) n h4)) (t1.trans (step_own S1 e))
theorem puts_ok {w : E → W} {ρ0 : Env} {HS0 H0 : Hp} {k : Env → Prop} {Q : L2.St → Hp → Prop} : ∀ {ts : List T} {ss : List SV} {vs : List V} {ρ : Env} {σ : L2.St} {HS H : Hp}, Sim K ρ σ HS H → Step ρ0 HS0 H0 ρ HS H → Rs K H0 ρ HS H vs ss → putTs w ts ss ρ k →
    (∀ ρ' σ' H' HS', k ρ' → Sim K ρ' σ' HS' H' → Step ρ0 HS0 H0 ρ' HS' H' → Q σ' H') → gtsOf K w ts vs σ H Q
  | [], [], _, ρ, σ, HS, H, S, st, .nil, q, l => ⟨rfl, l ρ σ H HS q S st⟩
  | [], _ :: _, _, ρ, σ, HS, H, S, st, r, q, l => q.elim
  | _ :: _, [], _, ρ, σ, HS, H, S, st, r, q, l => q.elim
  | .nm i :: ts, s :: ss, _, ρ, σ, HS, H, S, st, .cons (v := v) (vs := vs) h t d, q, l => by
    refine ⟨v, vs, rfl, ?_⟩
    obtain ⟨S1, st1⟩ := put_nm i S st h
    refine puts_ok S1 st1 ?_ q l
    -- the rest is as it was
    have g : ∀ {vs : List V} {ss : List SV}, Rs K H0 ρ HS H vs ss → (∀ p ds, s = .ow p ds → ∀ q es, SV.ow q es ∈ ss → q ≠ p) → Rs K H0 (ρ.set i (some s)) HS H vs ss := fun {vs ss} r => by
      induction r with
      | nil => exact fun _ => .nil
      | cons h t d ih =>
        intro dd
        refine .cons ?_ (ih fun p ds e q es m => dd p ds e q es (List.mem_cons_of_mem _ m)) d
        rename_i v' s' vs' ss'
        cases s' with
        | im _ => exact h
        | tp _ => exact h
        | ow p' ds' =>
          obtain ⟨g1, g2, g3, g4, g5⟩ := h
          refine ⟨g1, g2, g3, fun ⟨j, fs, o⟩ => ?_, g5⟩
          rcases get_set o with ⟨_, z⟩ | ⟨_, z⟩
          · cases z
            exact dd p' fs rfl p' ds' List.mem_cons_self rfl
          · exact g4 ⟨j, fs, z⟩
    exact g t d
  | .sb x i :: ts, s :: ss, _, ρ, σ, HS, H, S, st, .cons (v := v) (vs := vs) h t d, q, l => by
    refine ⟨v, vs, rfl, ?_⟩
    obtain ⟨d', e, q⟩ := q
    exact setAt_ok (Q := fun σ' H' => gtsOf K w ts vs σ' H' Q) S (asD_ok h e) q fun ρ' H' HS' q' S' st' => puts_ok S' (st.trans st') (t.step st') q' l

/-! ### the readings lead to the hand layer's -/
theorem x_seq {w u : WS} (q : tS K (fun ρ E => w ρ ⟨fun ρ' => u ρ' E, E.rt, E.bk, E.ct⟩) D σ H) : tSeq (tS K w) (tS K u) D σ H := by
  obtain ⟨ρ, HS, E, S, q, l⟩ := q
  exact ⟨ρ, HS, _, S, q, ⟨fun ρ' σ' H' HS' z S' st => ⟨ρ', HS', E, S', z, l.after st⟩, l.bk, l.ct, l.rt⟩⟩
theorem x_nil (q : tS K (fun ρ E => E.nx ρ) D σ H) : tNext D σ H := by
  obtain ⟨ρ, HS, E, S, q, l⟩ := q
  exact l.nx ρ σ H HS q S (Step.refl _ _ _)
theorem x_brk (q : tS K (fun ρ E => E.bk ρ) D σ H) : tBreak D σ H := by
  obtain ⟨ρ, HS, E, S, q, l⟩ := q
  exact l.bk ρ σ H HS q S (Step.refl _ _ _)
theorem x_cont (q : tS K (fun ρ E => E.ct ρ) D σ H) : tCont D σ H := by
  obtain ⟨ρ, HS, E, S, q, l⟩ := q
  exact l.ct ρ σ H HS q S (Step.refl _ _ _)
theorem x_ret {w : W} (q : tS K (fun ρ E => w ρ E.rt) D σ H) : tRet (tW K w) D σ H := by
  obtain ⟨ρ, HS, E, S, q, l⟩ := q
  exact ⟨ρ, HS, _, S, q, fun r ρ' v H' HS' z S' st rp => l.rt r ρ' σ v H' HS' z S' st rp⟩
theorem x_retN (q : tS K (fun ρ E => E.rt (.v .none) ρ) D σ H) : tRetN D σ H := by
  obtain ⟨ρ, HS, E, S, q, l⟩ := q
  exact l.rt (.v .none) ρ σ .non H HS q S (Step.refl _ _ _) .non
theorem x_ite {wt : WT} {a b : WS} (q : tS K (fun ρ E => wt ρ fun c ρ1 => if c = true then a ρ1 E else b ρ1 E) D σ H) : tIfS (tB K wt) (tS K a) (tS K b) D σ H := by
  obtain ⟨ρ, HS, E, S, q, l⟩ := q
  refine ⟨ρ, HS, _, S, q, fun c ρ1 H1 HS1 q1 S1 t1 => ?_⟩
  cases c with
  | true => exact ⟨ρ1, HS1, E, S1, q1, l.after t1⟩
  | false => exact ⟨ρ1, HS1, E, S1, q1, l.after t1⟩
theorem x_expr {w : W} (q : tS K (fun ρ E => w ρ fun _ ρ1 => E.nx ρ1) D σ H) : tDrop (tW K w) D σ H := by
  obtain ⟨ρ, HS, E, S, q, l⟩ := q
  exact ⟨ρ, HS, _, S, q, fun r ρ' v H' HS' z S' st rp => l.nx ρ' σ H' HS' z S' st⟩
theorem x_set {w : W} {i : Nat} (q : tS K (fun ρ E => w ρ fun r ρ1 => cv r ρ1 fun s ρ2 => E.nx (ρ2.set i (some s))) D σ H) : tAsg (tW K w) (gName i) D σ H := by
  obtain ⟨ρ, HS, E, S, q, l⟩ := q
  refine ⟨ρ, HS, _, S, q, fun r ρ' v H' HS' z S' st rp => ?_⟩
  obtain ⟨s, ρ2, HS2, q2, S2, t2, d2⟩ := cv_ok S' st rp z
  obtain ⟨S3, t3⟩ := put_nm i S2 t2 d2
  exact l.nx _ _ H' HS2 q2 S3 t3
theorem x_setAt {w : W} {x : Nat} {wi : W} (q : tS K (fun ρ E => vv w ρ fun d ρ1 => setAt x wi d ρ1 E.nx) D σ H) : tAsg (tW K w) (gSub (tVar x) (tW K wi) rSetL) D σ H := by
  obtain ⟨ρ, HS, E, S, q, l⟩ := q
  refine vv_ok ⟨ρ, HS, _, S, q, fun d ρ' v H' HS' z S' st dp => ?_⟩
  exact setAt_ok S' dp z fun ρ2 H2 HS2 q2 S2 t2 => l.nx _ _ H2 HS2 q2 S2 (st.trans t2)
theorem x_unp {w : W} {is : List Nat} (q : tS K (fun ρ E => vv w ρ fun d ρ1 => bindT is d ρ1 E.nx) D σ H) : tAsg (tW K w) (gOf K is) D σ H := by
  obtain ⟨ρ, HS, E, S, q, l⟩ := q
  refine vv_ok ⟨ρ, HS, _, S, q, fun d ρ' v H' HS' z S' st dp => ?_⟩
  exact bind_ok (vs := is) S' dp z (fun _ h => h) fun ρ2 σ2 q2 S2 t2 _ => l.nx _ _ H' HS' q2 S2 (st.trans t2)
/-- by a tuple that is made -/
theorem x_asgT {ws : WR} {w : E → W} {ts : List T} (hn : ts.length ≤ 100) (q : tS K (fun ρ E => ws ρ fun ss ρ1 => ts.length = ss.length ∧ putTs w ts ss ρ1 E.nx) D σ H) : tAsg (tTup (tR K ws)) (gTup K ts.length (gtsOf K w ts)) D σ H := by
  obtain ⟨ρ, HS, E, S, q, l⟩ := q
  refine ⟨ρ, HS, _, S, q, fun ss ρ1 vs H1 HS1 q1 S1 t1 d1 => ?_⟩
  obtain ⟨hl1, q1⟩ := q1
  have hv := d1.len
  refine ⟨sz_ok (by omega), fun p hp => ?_⟩
  refine ⟨p, vs, rfl, .inl (.inl upd_same), by omega, ?_⟩
  exact puts_ok (alloc_sim S1 hp) (t1.trans (alloc_step hp)) (d1.step (alloc_step hp)) q1 fun ρ2 σ2 H2 HS2 q2 S2 t2 => l.nx _ _ H2 HS2 q2 S2 t2
/-- names stored at once -/
theorem x_par {ws : WR} {w : E → W} {i j : Nat} (q : tS K (fun ρ E => ws ρ fun ss ρ1 => [T.nm i, .nm j].length = ss.length ∧ putTs w [.nm i, .nm j] ss ρ1 E.nx) D σ H) : tPar i j (tR K ws) D σ H := by
  obtain ⟨ρ, HS, E, S, q, l⟩ := q
  refine ⟨ρ, HS, _, S, q, fun ss ρ1 vs H1 HS1 q1 S1 t1 d1 => ?_⟩
  obtain ⟨v, r, rfl, u, r', rfl, rfl, z⟩ := puts_ok (Q := D.nx) S1 t1 d1 q1.2 fun ρ2 σ2 H2 HS2 q2 S2 t2 => l.nx _ _ H2 HS2 q2 S2 t2
  exact ⟨v, u, rfl, z⟩
theorem x_par3 {ws : WR} {w : E → W} {i j m : Nat} (q : tS K (fun ρ E => ws ρ fun ss ρ1 => [T.nm i, .nm j, .nm m].length = ss.length ∧ putTs w [.nm i, .nm j, .nm m] ss ρ1 E.nx) D σ H) : tPar3 i j m (tR K ws) D σ H := by
  obtain ⟨ρ, HS, E, S, q, l⟩ := q
  refine ⟨ρ, HS, _, S, q, fun ss ρ1 vs H1 HS1 q1 S1 t1 d1 => ?_⟩
  obtain ⟨v, r, rfl, u, r', rfl, x, r'', rfl, rfl, z⟩ := puts_ok (Q := D.nx) S1 t1 d1 q1.2 fun ρ2 σ2 H2 HS2 q2 S2 t2 => l.nx _ _ H2 HS2 q2 S2 t2
  exact ⟨v, u, x, rfl, z⟩
def tiOf : Operator → TIp
  | .Add => ipI fun i j => i + j
  | .Sub => ipI fun i j => i - j
  | _ => fun _ _ _ _ => False
theorem tiOf_ok {X : Cx} : ∀ op, PIp X op (tiOf op) := fun op => by
  cases op <;> first | exact ip_add | exact ip_sub | (intro pins s σ H x y v u Q I r1 r2 h; exact h.elim)
theorem x_aug {w : W} {i : Nat} {op : Operator} (q : tS K (fun ρ E => match ρ[i]? with
    | some (some (.im (.int a))) => vv w ρ fun y ρ1 => match y with
      | .int b => augW op a b fun z => E.nx (ρ1.set i (some (.im (.int z))))
      | _ => False
    | _ => False) D σ H) : tAug i (tW K w) (tiOf op) D σ H := by
  obtain ⟨ρ, HS, E, S, q, l⟩ := q
  split at q
  rotate_left
  · exact q.elim
  rename_i a e
  obtain ⟨v, h1, h2⟩ := S.im i _ e rfl
  cases h2
  refine ⟨_, h1, ?_⟩
  refine vv_ok ⟨ρ, HS, _, S, q, fun y ρ1 u H1 HS1 q1 S1 t1 d1 => ?_⟩
  split at q1
  rotate_left
  · exact q1.elim
  cases d1
  cases op <;> first
    | exact False.elim q1
    | exact ⟨_, _, rfl, rfl, l.nx _ _ H1 HS1 q1 (sim_set i S1 (d := .im (.int _)) rfl (.int _)) (t1.trans (step_set i rfl))⟩
theorem x_app {w : W} {i : Nat} (q : tS K (fun ρ E => match ρ[i]? with
    | some (some (.ow _ _)) => vv w ρ fun d ρ1 => match ρ1[i]? with
      | some (some (.ow p ds)) => ds.length < 100000 ∧ E.nx (ρ1.set i (some (.ow p (ds ++ [d]))))
      | _ => False
    | _ => False) D σ H) : tDrop (tBM K "list" rAppend (tVar i) (tCons (tW K w) tNil)) D σ H := by
  obtain ⟨ρ, HS, E, S, q, l⟩ := q
  split at q
  rotate_left
  · exact q.elim
  rename_i p0 pds0 e0
  obtain ⟨g1, g2, gs, g3, g4⟩ := S.ow i p0 pds0 e0
  refine ⟨_, g1, .inl ⟨rfl, gs, .inl (.inl g3)⟩, ?_⟩
  refine vv_ok ⟨ρ, HS, _, S, q, fun x ρ1 v H1 HS1 q1 S1 t1 d1 => ?_⟩
  split at q1
  rotate_left
  · exact q1.elim
  rename_i p ds e
  obtain ⟨h1, h2, vs, h3, h4⟩ := S1.ow i p ds e
  have ep : p0 = p := by
    have z := g1.symm.trans h1
    cases z
    rfl
  subst ep
  exact ⟨p0, vs, v, rfl, rfl, h3, by rw [dps_len h4]; exact sz_lt q1.1, l.nx _ _ _ HS1 q1.2 (sim_own S1 e (dps_app h4 (.cons d1 .nil))) (t1.trans (step_own S1 e))⟩
theorem x_ext {w : W} {i : Nat} (q : tS K (fun ρ E => match ρ[i]? with
    | some (some (.ow _ _)) => w ρ fun r ρ1 => match r, ρ1[i]? with
      | .nw _ es, some (some (.ow p ds)) => ds.length + es.length ≤ 100000 ∧ E.nx (ρ1.set i (some (.ow p (ds ++ es))))
      | _, _ => False
    | _ => False) D σ H) : tDrop (tBM K "list" rExtend (tVar i) (tCons (tW K w) tNil)) D σ H := by
  obtain ⟨ρ, HS, E, S, q, l⟩ := q
  split at q
  rotate_left
  · exact q.elim
  rename_i p0 pds0 e0
  obtain ⟨g1, g2, gs, g3, g4⟩ := S.ow i p0 pds0 e0
  refine ⟨_, g1, .inl ⟨rfl, gs, .inl (.inl g3)⟩, ?_⟩
  refine ⟨ρ, HS, _, S, q, fun x ρ1 v H1 HS1 q1 S1 t1 d1 => ?_⟩
  split at q1
  rotate_left
  · exact q1.elim
  rename_i b es p ds e
  obtain ⟨h1, h2, vs, h3, h4⟩ := S1.ow i p ds e
  obtain ⟨rfl, _, _, _, us, k5, k6⟩ := d1
  have ep : p0 = p := by
    have z := g1.symm.trans h1
    cases z
    rfl
  subst ep
  exact ⟨p0, b, vs, us, rfl, rfl, h3, k5, by rw [dps_len h4, dps_len k6]; exact sz_ok q1.1, l.nx _ _ _ HS1 q1.2 (sim_own S1 e (dps_app h4 k6)) (t1.trans (step_own S1 e))⟩
theorem x_while {t : WT} {b : WS} (q : tS K (whL t b) D σ H) : tWhile (tB K t) (tS K b) D σ H := by
  obtain ⟨ρ, HS, E, S, ⟨Wm, ⟨m0, w0⟩, turn⟩, l⟩ := q
  refine ⟨fun m σ' H' => ∃ ρ' HS', Sim K ρ' σ' HS' H' ∧ Step ρ HS H ρ' HS' H' ∧ Wm m ρ', ⟨m0, ρ, HS, S, Step.refl _ _ _, w0⟩, ?_⟩
  rintro m σ' H' ⟨ρ', HS', S', st, w⟩
  refine ⟨ρ', HS', _, S', turn m ρ' w, fun c ρ1 H1 HS1 q1 S1 t1 => ?_⟩
  cases c with
  | false => exact l.nx _ _ _ _ q1 S1 (st.trans t1)
  | true =>
    refine ⟨fun σ2 H2 => ∃ m', m' < m ∧ ∃ ρ2 HS2, Sim K ρ2 σ2 HS2 H2 ∧ Step ρ HS H ρ2 HS2 H2 ∧ Wm m' ρ2, fun σ2 H2 h => h, ?_⟩
    refine ⟨ρ1, HS1, _, S1, q1, ?_⟩
    have T := st.trans t1
    exact ⟨fun ρ2 σ2 H2 HS2 ⟨m', h1, h2⟩ S2 t2 => ⟨m', h1, ρ2, HS2, S2, T.trans t2, h2⟩, fun ρ2 σ2 H2 HS2 z S2 t2 => l.nx _ _ _ _ z S2 (T.trans t2), fun ρ2 σ2 H2 HS2 ⟨m', h1, h2⟩ S2 t2 => ⟨m', h1, ρ2, HS2, S2, T.trans t2, h2⟩, (l.after T).rt⟩
theorem x_for {tg : List Nat} {wi : WA} {b : WS} (q : tS K (fun ρ E => wi ρ fun items ρ1 => forL tg b items ρ1 E) D σ H) : tFor (tI K wi) (gOf K tg) (tS K b) D σ H := by
  obtain ⟨ρ, HS, E, S, q, l⟩ := q
  refine ⟨ρ, HS, _, S, q, fun items ρ1 J H1 HS1 q1 S1 t1 wd => ?_⟩
  refine ⟨fun i m σ' H' => m = items.length - i ∧ i ≤ items.length ∧ ∃ ρ' HS', Sim K ρ' σ' HS' H' ∧ Ex HS1 HS' ∧ Step ρ1 HS1 H1 ρ' HS' H' ∧ forL tg b (items.drop i) ρ' E, ⟨items.length, rfl, Nat.zero_le _, ρ1, HS1, S1, Ex.refl _, Step.refl _ _ _, q1⟩, ?_⟩
  rintro i m σ' H' ⟨rfl, hi, ρ', HS', S', ex, st, c⟩
  by_cases hlt : i < items.length
  · refine .inr ⟨wd.goes i HS' H' hlt ex S'.sub, _, fun σ2 H2 n => ⟨items.length - (i + 1), by omega, rfl, hlt, n⟩, fun x H2 y => ?_⟩
    obtain ⟨HS2, d, hd, S2, st2, dx⟩ := wd.yields i ρ' σ' HS' H' x H2 hlt ex S' y
    rw [drop_cons hd] at c
    have c : bindT tg d ρ' fun ρ1 => b ρ1 ⟨fun ρ' => forL tg b (items.drop (i + 1)) ρ' E, E.rt, E.nx, fun ρ' => forL tg b (items.drop (i + 1)) ρ' E⟩ := c
    refine bind_ok (vs := tg) S2 dx c (fun _ h => h) fun ρa σa qa Sa sta _ => ?_
    have T := st.trans (st2.trans sta)
    have L := l.after (t1.trans T)
    exact ⟨ρa, HS2, _, Sa, qa, ⟨fun ρ3 σ3 H3 HS3 z S3 st3 => ⟨ρ3, HS3, S3, ex.trans ((st2.trans sta).trans st3).ex, T.trans st3, z⟩, L.nx, fun ρ3 σ3 H3 HS3 z S3 st3 => ⟨ρ3, HS3, S3, ex.trans ((st2.trans sta).trans st3).ex, T.trans st3, z⟩, L.rt⟩⟩
  · have e : i = items.length := by omega
    subst e
    rw [List.drop_length] at c
    exact .inl ⟨wd.stops HS' H' ex S'.sub, l.nx _ _ _ _ c S' (t1.trans st)⟩
end
end VL

set_option Elab.async false
set_option linter.all false
set_option maxRecDepth 100000
namespace VL
open PySem L2 PySem.Spec PyProof.Rows

/-! ### which statement stands for which text -/
def ckT (c : Ck) : T → Expr → Bool
  | .nm i, .Name x _ => ckSt c i x
  | .sb x i, .Subscript (.Name y _) e _ => ckVar c x y && ckE i c e
  | _, _ => false
def ckTs (c : Ck) : List T → List Expr → Bool
  | [], [] => true
  | t :: ts, e :: es => ckT c t e && ckTs c ts es
  | _, _ => false
def isTup : Expr → Bool
  | .Tuple _ _ _ => true
  | _ => false
/-- [..] of a name on its own line -/
def ckLc (c : Ck) (y : Str) (py : Pos) : Expr → Bool
  | .ListComp _ _ s p => ((py.line == p.line) && !(s.names.any fun (n, k) => n == y && (k == .local || k == .cell)) && decide (c.sc.lookup y = some .local)) || decide (c.sc.lookup y = some .cell)
  | _ => true
def isLc : Expr → Bool
  | .ListComp _ _ _ _ => true
  | _ => false
def swOf (c : Ck) (ts vs : List Expr) : Option (Option (List Str)) :=
  if (!(ts.length == 2 || ts.length == 3) || vs.length != ts.length) = true then some none else
  let line := (ts.head?.map (·.pos.line)).getD 0
  let names := ts.filterMap fun
    | .Name id pos => if c.sc.lookup id == some .local && pos.line == line then some id else none
    | _ => none
  if (names.length != ts.length || names.eraseDups.length != names.length) = true then some none else
  if vs.all (foldedForSure 8) = true then some none else
  if vs.all (constantsAlone 8) = true then none else some (some names)
/-- the shape of the names that are stored at once -/
def ckPar (c : Ck) (ns : List Str) : List T → List Expr → List Expr → Bool
  | [.nm i, .nm j], [.Name x _, .Name y _], [_, _] => decide (ns = [x, y]) && decide (i ≠ j) && decide (c.sc.lookup x = some .local) && decide (c.sc.lookup y = some .local)
  | [.nm i, .nm j, .nm l], [.Name x _, .Name y _, .Name z _], [_, _, _] => decide (ns = [x, y, z]) && decide (i ≠ j) && decide (i ≠ l) && decide (j ≠ l) && decide (c.sc.lookup x = some .local) && decide (c.sc.lookup y = some .local) && decide (c.sc.lookup z = some .local)
  | _, _, _ => false
def ckAsg (c : Ck) (ts : List T) (txs vxs : List Expr) : Bool := match swOf c txs vxs with
  | some none => true
  | some (some ns) => ckPar c ns ts txs vxs
  | none => false
mutual
def ckS : S → Ck → Stmt → Bool
  | .asg1 t e => fun c s => match s with
    | .Assign [.Name x p] v _ => ckT c t (.Name x p) && ckE e c v && ckLc c x p v
    | .Assign [.Subscript x i p] v _ => ckT c t (.Subscript x i p) && ckE e c v
    | _ => false
  | .asg ts es => fun c s => match s with
    | .Assign [.Tuple txs _ _] (.Tuple vxs _ _) _ => ckTs c ts txs && ckA es c vxs && decide (ts.length ≤ 100) && ckAsg c ts txs vxs
    | _ => false
  | .unp is e => fun c s => match s with
    | .Assign [.Tuple txs k p] v _ => decide (is.length ≠ 1) && ckTgs c is txs && ckE e c v && !isTup v
    | _ => false
  | .aug i op e => fun c s => match s with
    | .AugAssign (.Name x _) o v _ => ckSt c i x && decide (op = o) && ckE e c v
    | _ => false
  | .app i e => fun c s => match s with
    | .Expr (.Call (.Attribute (.Name x _) m ap) [y] [] cp) _ => decide (m = "append") && (ap.endLine == cp.line) && ckVar c i x && ckE e c y
    | _ => false
  | .ext i e => fun c s => match s with
    | .Expr (.Call (.Attribute (.Name x _) m ap) [y] [] cp) _ => decide (m = "extend") && (ap.endLine == cp.line) && ckVar c i x && ckE e c y
    | _ => false
  | .expr e => fun c s => match s with
    | .Expr v _ => ckE e c v && !isLc v
    | _ => false
  | .ret e => fun c s => match s with
    | .Return (some v) _ => ckE e c v
    | _ => false
  | .retN => fun c s => match s with
    | .Return none _ => true
    | _ => false
  | .ite t a b => fun c s => match s with
    | .If x p q _ => ckE t c x && ckSs a c p && ckSs b c q
    | _ => false
  | .wh t b => fun c s => match s with
    | .While x p [] _ => ckE t c x && ckSs b c p
    | _ => false
  | .fr tg it b => fun c s => match s with
    | .For t i p [] _ => ckTg c tg t && ckI it c t i && ckSs b c p
    | _ => false
  | .pass => fun c s => match s with
    | .Pass _ => true
    | _ => false
  | .brk => fun c s => match s with
    | .Break _ => true
    | _ => false
  | .cont => fun c s => match s with
    | .Continue _ => true
    | _ => false
  | .never => fun _ _ => true
def ckSs : Ss → Ck → List Stmt → Bool
  | .nil => fun _ ss => ss.isEmpty
  | .cons s ss => fun c l => match l with
    | x :: xs => ckS s c x && ckSs ss c xs
    | [] => false
end

section
variable {Γ : Nat → DSpec} {c : Ck} {X : Cx}
theorem bk_at (O : OkX Γ c X) : X.env.blockKind = .function := by
  unfold Env.blockKind
  rw [O.kind]
  rfl
theorem ko_at (O : OkX Γ c X) : X.env.kindOf = fun x => c.sc.lookup x := by
  funext x
  show X.env.scope.names.lookup x = _
  rw [O.names]
theorem star_any : ∀ {vs : List Expr}, (∀ v ∈ vs, head v = true) → (vs.any fun | .Starred .. => true | _ => false) = false
  | [], _ => rfl
  | v :: vs, h => by
    rw [List.any_cons, star_any fun x m => h x (List.mem_cons_of_mem _ m)]
    have := h v List.mem_cons_self
    cases v <;> first | rfl | cases this
theorem sw_at {ts vs : List Expr} {k k2 : Nat} {p p2 : Pos} {r : Option (List Str)} (O : OkX Γ c X) (hv : ∀ v ∈ vs, head v = true) (h : swOf c ts vs = some r) : swappedStores [.Tuple ts k p] (.Tuple vs k2 p2) X.env = pure r := by
  unfold swappedStores
  unfold swOf at h
  have e1 := bk_at O
  have e2 := ko_at O
  have e3 := star_any hv
  dsimp only
  rw [e1, e2]
  by_cases c1 : (!(ts.length == 2 || ts.length == 3) || vs.length != ts.length) = true
  · rw [if_pos c1] at h
    cases h
    have : (!(ts.length == 2 || ts.length == 3) || vs.length != ts.length || ScopeKind.function != .function) = true := by rw [c1]; rfl
    rw [if_pos this]
  · rw [if_neg c1] at h
    have : ¬ (!(ts.length == 2 || ts.length == 3) || vs.length != ts.length || ScopeKind.function != .function) = true := by
      intro z
      rcases Bool.or_eq_true _ _ ▸ z with z | z
      · exact c1 z
      · cases z
    rw [if_neg this]
    have n3 : ¬ ((vs.any fun | .Starred .. => true | _ => false) = true) := by rw [e3]; exact Bool.false_ne_true
    refine (if_neg n3).trans ?_
    dsimp only at h
    split at h
    · rename_i c2
      cases h
      exact if_pos c2
    · rename_i c2
      refine (if_neg c2).trans ?_
      split at h
      · rename_i c3
        cases h
        exact if_pos c3
      · rename_i c3
        refine (if_neg c3).trans ?_
        split at h
        · cases h
        · rename_i c4
          cases h
          exact if_neg c4
theorem sw_tup {es : List Expr} {k : Nat} {p : Pos} {l : Nat} {env : PySem.Env} (v : Expr) : swapsWithSole [.Tuple es k p] v l env = pure false := by
  cases v <;> rfl
theorem sw_sub {o i : Expr} {p : Pos} {l : Nat} {env : PySem.Env} (v : Expr) : swapsWithSole [.Subscript o i p] v l env = pure false := by
  cases v <;> rfl
theorem sw_nm {x : Str} {p : Pos} {l : Nat} {env : PySem.Env} {v : Expr} (hd : head v = true) (h : isLc v = false) : swapsWith v (some (.Name x p)) l env = pure false := by
  cases v <;> first | rfl | (cases h; done) | (cases hd; done)
theorem sw_cell {elt : Expr} {gs : List Comprehension} {scope : Scope} {pos py : Pos} {y : Str} {l : Nat} {env : PySem.Env} (hk : env.scope.kind = .function) (hy : env.scope.names.lookup y = some .cell) : swapsWith (.ListComp elt gs scope pos) (some (.Name y py)) l env = pure false := by
  have ky : env.kindOf y = some .cell := hy
  have hb : env.blockKind = .function := by unfold Env.blockKind; rw [hk]; rfl
  unfold swapsWith
  simp only [hb, ky]
  rfl
theorem sw_non {l : Nat} {env : PySem.Env} {v : Expr} (hd : head v = true) (h : isLc v = false) : swapsWith v none l env = pure false := by
  cases v <;> first | rfl | (cases h; done) | (cases hd; done)
theorem st_sub {o i : Expr} {p : Pos} {v : Expr} {env : PySem.Env} : swappedStores [.Subscript o i p] v env = pure none := by
  cases v <;> rfl
theorem st_tup {es : List Expr} {k : Nat} {p : Pos} {v : Expr} {env : PySem.Env} (h : isTup v = false) : swappedStores [.Tuple es k p] v env = pure none := by
  cases v <;> first | rfl | cases h
theorem asg_sub {o i : Expr} {pos : Pos} {env : PySem.Env} (h : head i = true) : ∀ v, assign (.Subscript o i pos) env v = (do
      let ov ← holding [v] (eval o env)
      let iv ← holding [v, ov] (eval i env)
      standAt pos
      holding [v, ov, iv] (setItem ov iv v)
      release [v, ov, iv] []) := by
  cases i <;> first | (intro v; rfl) | cases h
theorem lc_of {c : Ck} {e : E} {x : Expr} (h : ckE e c x = true) (l : isLc x = true) : ∃ el tg it ifs own, e = .lc el tg it ifs own := by
  cases e <;> (unfold ckE at h; split at h <;> first | exact ⟨_, _, _, _, _, rfl⟩ | cases l | exact absurd h Bool.false_ne_true)
theorem t_at {t : T} {e : Expr} (O : OkX Γ c X) (h : ckT c t e = true) : PG X e (gtOf X.K (ev c.G Γ) t) := by
  unfold ckT at h
  split at h
  · exact st_at O h
  · simp only [Bool.and_eq_true] at h
    exact pg_sub (var_at O h.1) (s_E _ c X _ O h.2).pe set_list (asg_sub (head_of h.2))
  · exact absurd h Bool.false_ne_true
theorem ts_at (O : OkX Γ c X) : ∀ {ts : List T} {es : List Expr}, ckTs c ts es = true → PGs X es (gtsOf X.K (ev c.G Γ) ts) ∧ (assignEach es X.env).length = ts.length ∧ (assignEach es X.env).findIdx? (·.1) = none
  | [], [], _ => ⟨pgs_nil, rfl, rfl⟩
  | [], _ :: _, h => by unfold ckTs at h; exact absurd h Bool.false_ne_true
  | _ :: _, [], h => by unfold ckTs at h; exact absurd h Bool.false_ne_true
  | t :: ts, e :: es, h => by
    unfold ckTs at h
    simp only [Bool.and_eq_true] at h
    obtain ⟨h1, h3, h4⟩ := ts_at O h.2
    have hd : assignEach (e :: es) X.env = (false, assign e X.env) :: assignEach es X.env := by
      have := h.1
      unfold ckT at this
      split at this <;> first | rfl | exact absurd this Bool.false_ne_true
    refine ⟨pgs_cons (t_at O h.1) h1 (by rw [hd]; rfl), ?_, ?_⟩
    · rw [hd, List.length_cons, h3, List.length_cons]
    · rw [hd, List.findIdx?_cons]
      simp [h4]
theorem s_R : ∀ (es : Es) (c : Ck) (X : Cx) (xs : List Expr), OkX Γ c X → ckA es c xs = true → PA X xs (tR X.K (evR c.G Γ es))
  | .nil, c, X, xs, O, h => by
    unfold ckA at h
    cases xs with
    | nil => exact pa_imp pa_nil fun _ _ _ q => r_nil q
    | cons _ _ => cases h
  | .cons e es, c, X, xs, O, h => by
    unfold ckA at h
    cases xs with
    | nil => cases h
    | cons x xs =>
      simp only [Bool.and_eq_true] at h
      exact pa_imp (pa_cons (s_E e c X _ O h.1).pe (s_R es c X _ O h.2) (star_cons (head_of h.1))) fun _ _ _ q => r_cons q
end

mutual
theorem s_S {Γ : Nat → DSpec} : ∀ (s : S) (c : Ck) (X : Cx) (st : Stmt), OkX Γ c X → PassesOwn (model X.prog X.w) X.A X.env X.xe → ckS s c st = true → PS X st (tS X.K (xs c.G Γ s))
  | .asg1 t e, c, X, st, O, hp, h => by
    unfold ckS at h
    split at h
    · rename_i x p v pos
      simp only [Bool.and_eq_true] at h
      obtain ⟨⟨h1, h2⟩, h3⟩ := h
      cases t with
      | sb _ _ => cases h1
      | nm i =>
        have h1 : ckSt c i x = true := h1
        unfold ckSt at h1
        simp only [Bool.and_eq_true, decide_eq_true_eq] at h1
        obtain ⟨g1, g2⟩ := O.st x h1.2
        cases hl : isLc v with
        | false => exact ps_imp (ps_set (by rw [O.N]; exact O.nd) (by rw [O.N]; exact h1.1) g1 (s_E e c X _ O h2).pe (sw_nm (head_of h2) hl) g2) fun _ _ _ q => x_set q
        | true =>
          obtain ⟨el, tg, it, ifs, own, rfl⟩ := lc_of h2 hl
          have h2' := h2
          unfold ckE at h2
          split at h2
          · unfold ckLc at h3
            simp only [Bool.or_eq_true, Bool.and_eq_true, decide_eq_true_eq, Bool.not_eq_true'] at h2 h3
            rcases h3 with h3 | h3
            rotate_left
            · exact ps_imp (ps_set (by rw [O.N]; exact O.nd) (by rw [O.N]; exact h1.1) g1 (s_E _ c X _ O h2').pe (sw_cell O.kind (by rw [O.names]; exact h3)) g2) fun _ _ _ q => x_set q
            obtain ⟨⟨k1, k2⟩, k3⟩ := h3
            obtain ⟨⟨⟨⟨⟨⟨h1', h2⟩, h3⟩, h4⟩, h5⟩, h6⟩, h7⟩ := h2
            have hy : X.env.scope.names.lookup x = some .local := by rw [O.names]; exact k3
            refine ps_imp (ps_setLc (own := ownOf c own) (te := tV X.K (vv (ev c.G Γ el))) (tt := tB X.K (evF c.G Γ ifs)) (g := gOf X.K tg) O.calm (by rw [O.N]; exact O.nd) (by rw [O.N]; exact h1.1) hy (sw_true O.kind hy k1 k2) (s_I it c X _ _ O h4) (blk_ok O h1') (fun st H C cl fp => tg_at (okx_blk O h1' st H C cl fp) h5) (fun st H C cl fp => s_F ifs (inner c _) _ _ (okx_blk O h1' st H C cl fp) h6)
              (fun st H C cl fp => pe_vv (s_E el (inner c _) _ _ (okx_blk O h1' st H C cl fp) h7).pe) (set_ofI h4)) fun D σ H q => ?_
            have q := x_set (w := ev c.G Γ (.lc el tg it ifs own)) (i := i) q
            show tLc _ _ _ _ _ σ H _
            rw [own_snd]
            exact i_lc h3 q
          · exact absurd h2 Bool.false_ne_true
    · simp only [Bool.and_eq_true] at h
      cases t with
      | nm _ => exact absurd h.1 Bool.false_ne_true
      | sb y i => exact ps_imp (ps_asg (s_E e c X _ O h.2).pe (t_at O h.1) (sw_sub _) st_sub rfl) fun _ _ _ q => x_setAt q
    · exact absurd h Bool.false_ne_true
  | .asg ts es, c, X, st, O, hp, h => by
    unfold ckS at h
    split at h
    · simp only [Bool.and_eq_true, decide_eq_true_eq] at h
      obtain ⟨⟨⟨h1, h2⟩, h3⟩, h4⟩ := h
      have hd := ckA_head h2
      have P := s_R (Γ := Γ) es c X _ O h2
      unfold ckAsg at h4
      split at h4
      · rename_i e
        obtain ⟨g1, g2, g3⟩ := ts_at (Γ := Γ) O h1
        exact ps_imp (ps_asg (pe_tup P) (pg_tup O.calm g1 g2 g3) (sw_tup _) (sw_at O hd e) rfl) fun _ _ _ q => x_asgT h3 q
      · rename_i ns e
        have W := fun k p k2 p2 => sw_at (k := k) (k2 := k2) (p := p) (p2 := p2) O hd e
        unfold ckPar at h4
        split at h4
        · simp only [Bool.and_eq_true, decide_eq_true_eq] at h4
          obtain ⟨⟨⟨rfl, k1⟩, k2⟩, k3⟩ := h4
          unfold ckTs at h1
          simp only [Bool.and_eq_true] at h1
          obtain ⟨a1, h1⟩ := h1
          unfold ckTs at h1
          simp only [Bool.and_eq_true] at h1
          obtain ⟨a2, _⟩ := h1
          have a1 : ckSt c _ _ = true := a1
          have a2 : ckSt c _ _ = true := a2
          unfold ckSt at a1 a2
          simp only [Bool.and_eq_true, decide_eq_true_eq] at a1 a2
          exact ps_imp (ps_par O.calm (by rw [O.N]; exact O.nd) (by rw [O.N]; exact a1.1) (by rw [O.N]; exact a2.1) k1 (by rw [O.names]; exact k2) (by rw [O.names]; exact k3) P (W _ _ _ _) rfl) fun _ _ _ q => x_par q
        · simp only [Bool.and_eq_true, decide_eq_true_eq] at h4
          obtain ⟨⟨⟨⟨⟨⟨rfl, k1⟩, k2⟩, k3⟩, k4⟩, k5⟩, k6⟩ := h4
          unfold ckTs at h1
          simp only [Bool.and_eq_true] at h1
          obtain ⟨a1, h1⟩ := h1
          unfold ckTs at h1
          simp only [Bool.and_eq_true] at h1
          obtain ⟨a2, h1⟩ := h1
          unfold ckTs at h1
          simp only [Bool.and_eq_true] at h1
          obtain ⟨a3, _⟩ := h1
          have a1 : ckSt c _ _ = true := a1
          have a2 : ckSt c _ _ = true := a2
          have a3 : ckSt c _ _ = true := a3
          unfold ckSt at a1 a2 a3
          simp only [Bool.and_eq_true, decide_eq_true_eq] at a1 a2 a3
          exact ps_imp (ps_par3 O.calm (by rw [O.N]; exact O.nd) (by rw [O.N]; exact a1.1) (by rw [O.N]; exact a2.1) (by rw [O.N]; exact a3.1) k1 k2 k3 (by rw [O.names]; exact k4) (by rw [O.names]; exact k5) (by rw [O.names]; exact k6) P (W _ _ _ _) rfl) fun _ _ _ q => x_par3 q
        · exact absurd h4 Bool.false_ne_true
      · exact absurd h4 Bool.false_ne_true
    · exact absurd h Bool.false_ne_true
  | .unp is e, c, X, st, O, hp, h => by
    unfold ckS at h
    split at h
    · simp only [Bool.and_eq_true, decide_eq_true_eq, Bool.not_eq_true'] at h
      obtain ⟨⟨⟨h1, h2⟩, h3⟩, h4⟩ := h
      have g : ∀ k p, PG X (.Tuple _ k p) (gOf X.K is) := fun k p => tg_at O (by
        cases is with
        | nil => exact Bool.and_eq_true_iff.mpr ⟨rfl, h2⟩
        | cons i r =>
          cases r with
          | nil => exact absurd rfl h1
          | cons j r => exact Bool.and_eq_true_iff.mpr ⟨decide_eq_true h1, h2⟩)
      exact ps_imp (ps_asg (s_E e c X _ O h3).pe (g _ _) (sw_tup _) (st_tup h4) rfl) fun _ _ _ q => x_unp q
    · exact absurd h Bool.false_ne_true
  | .aug i op e, c, X, st, O, hp, h => by
    unfold ckS at h
    split at h
    · simp only [Bool.and_eq_true, decide_eq_true_eq] at h
      obtain ⟨⟨h1, rfl⟩, h2⟩ := h
      unfold ckSt at h1
      simp only [Bool.and_eq_true, decide_eq_true_eq] at h1
      obtain ⟨g1, g2⟩ := O.st _ h1.2
      exact ps_imp (ps_aug (by rw [O.N]; exact O.nd) (by rw [O.N]; exact h1.1) g1 (s_E e c X _ O h2).pe (tiOf_ok op) g2) fun _ _ _ q => x_aug q
    · exact absurd h Bool.false_ne_true
  | .app i e, c, X, st, O, hp, h => by
    unfold ckS at h
    split at h
    · simp only [Bool.and_eq_true, decide_eq_true_eq] at h
      obtain ⟨⟨⟨rfl, h2⟩, h3⟩, h4⟩ := h
      have hd := head_of h4
      have hs := star_cons (xs := []) (env := X.env) hd
      exact ps_imp (ps_expr (pe_bm PySem.F.plainAttrs_list PySem.F.slot_list_append PySem.F.type_list_append mt_append (var_at O h3) (pa_cons (s_E e c X _ O h4).pe pa_nil hs) rfl (by rw [hs]; rfl) h2 hs rfl) rfl) fun _ _ _ q => x_app q
    · exact absurd h Bool.false_ne_true
  | .ext i e, c, X, st, O, hp, h => by
    unfold ckS at h
    split at h
    · simp only [Bool.and_eq_true, decide_eq_true_eq] at h
      obtain ⟨⟨⟨rfl, h2⟩, h3⟩, h4⟩ := h
      have hd := head_of h4
      have hs := star_cons (xs := []) (env := X.env) hd
      exact ps_imp (ps_expr (pe_bm PySem.F.plainAttrs_list PySem.F.slot_list_extend PySem.F.type_list_extend mt_extend (var_at O h3) (pa_cons (s_E e c X _ O h4).pe pa_nil hs) rfl (by rw [hs]; rfl) h2 hs rfl) rfl) fun _ _ _ q => x_ext q
    · exact absurd h Bool.false_ne_true
  | .expr e, c, X, st, O, hp, h => by
    unfold ckS at h
    split at h
    · simp only [Bool.and_eq_true, Bool.not_eq_true'] at h
      exact ps_imp (ps_expr (s_E e c X _ O h.1).pe (sw_non (head_of h.1) h.2)) fun _ _ _ q => x_expr q
    · exact absurd h Bool.false_ne_true
  | .ret e, c, X, st, O, hp, h => by
    unfold ckS at h
    split at h
    · exact ps_imp (ps_ret (s_E e c X _ O h).pe) fun _ _ _ q => x_ret q
    · exact absurd h Bool.false_ne_true
  | .retN, c, X, st, O, hp, h => by
    unfold ckS at h
    split at h
    · exact ps_imp ps_retN fun _ _ _ q => x_retN q
    · exact absurd h Bool.false_ne_true
  | .ite t a b, c, X, st, O, hp, h => by
    unfold ckS at h
    split at h
    · simp only [Bool.and_eq_true] at h
      obtain ⟨⟨h1, h2⟩, h3⟩ := h
      exact ps_imp (ps_if (s_E t c X _ O h1).pt (s_Ss a c X _ O hp h2) (s_Ss b c X _ O hp h3)) fun _ _ _ q => x_ite q
    · exact absurd h Bool.false_ne_true
  | .wh t b, c, X, st, O, hp, h => by
    unfold ckS at h
    split at h
    · simp only [Bool.and_eq_true] at h
      exact ps_imp (ps_while hp (s_E t c X _ O h.1).pt (s_Ss b c X _ O hp h.2)) fun _ _ _ q => x_while q
    · exact absurd h Bool.false_ne_true
  | .fr tg it b, c, X, st, O, hp, h => by
    unfold ckS at h
    split at h
    · simp only [Bool.and_eq_true] at h
      obtain ⟨⟨h1, h2⟩, h3⟩ := h
      exact ps_imp (ps_for hp O.calm (s_I it c X _ _ O h2) (tg_at O h1) (s_Ss b c X _ O hp h3) (set_ofI h2)) fun _ _ _ q => x_for q
    · exact absurd h Bool.false_ne_true
  | .pass, c, X, st, O, hp, h => by
    unfold ckS at h
    split at h
    · exact ps_imp ps_pass fun _ _ _ q => x_nil q
    · exact absurd h Bool.false_ne_true
  | .brk, c, X, st, O, hp, h => by
    unfold ckS at h
    split at h
    · exact ps_imp ps_break fun _ _ _ q => x_brk q
    · exact absurd h Bool.false_ne_true
  | .cont, c, X, st, O, hp, h => by
    unfold ckS at h
    split at h
    · exact ps_imp ps_continue fun _ _ _ q => x_cont q
    · exact absurd h Bool.false_ne_true
  | .never, c, X, st, O, hp, h => ps_imp ps_never fun _ _ _ ⟨_, _, _, _, f, _⟩ => f.elim
theorem s_Ss {Γ : Nat → DSpec} : ∀ (s : Ss) (c : Ck) (X : Cx) (st : List Stmt), OkX Γ c X → PassesOwn (model X.prog X.w) X.A X.env X.xe → ckSs s c st = true → PSs X st (tS X.K (xss c.G Γ s))
  | .nil, c, X, st, O, hp, h => by
    unfold ckSs at h
    cases st with
    | nil => exact pss_imp pss_nil fun _ _ _ q => x_nil q
    | cons _ _ => cases h
  | .cons s ss, c, X, st, O, hp, h => by
    unfold ckSs at h
    cases st with
    | nil => cases h
    | cons x xs =>
      simp only [Bool.and_eq_true] at h
      exact pss_imp (pss_cons (s_S s c X _ O hp h.1) (s_Ss ss c X _ O hp h.2)) fun _ _ _ q => x_seq q
end
end VL

set_option Elab.async false
set_option linter.all false
set_option maxRecDepth 100000
namespace VL
open PySem L2 PySem.Spec PyProof.Rows

/-! ### a def from its body -/
def fin (S : DSpec) (a : S.α) (p : Addr) (d : D) (ρ : Env) : Prop := if S.io = true then ∃ pds', ρ[0]? = some (some (.ow p pds')) ∧ S.post a d pds' else S.post a d []
def retOk (S : DSpec) (a : S.α) (p : Addr) (r : R) (ρ : Env) : Prop := match S.fr with
  | .val => toVal r ρ fun d ρ2 => fin S a p d ρ2
  | .tup => match r with
    | .tp ds => fin S a p (.tuple ds) ρ
    | _ => False
  | .lst => match r with
    | .nw _ ds => fin S a p (.list ds) ρ
    | .pl i => match ρ[i]? with
      | some (some (.ow _ ds)) => (S.io = true → i ≠ 0) ∧ fin S a p (.list ds) ρ
      | _ => False
    | _ => False
def endsOf (S : DSpec) (a : S.α) (p : Addr) : EndsD := ⟨fun ρ => retOk S a p (.v .none) ρ, retOk S a p, fun _ => False, fun _ => False⟩
def env0 (n : Nat) (S : DSpec) (a : S.α) (p : Addr) : Env := argEnv S.io p (S.args a).1 (S.args a).2 ++ List.replicate (n - S.ar) none
def BodyOk (G : Sg) (Γ : Nat → DSpec) (n : Nat) (b : Ss) (S : DSpec) : Prop := ∀ a, S.ok a → ∀ p, xss G Γ b (env0 n S a p) (endsOf S a p)

section
variable {K : PySem.W.Frag} {H HS : Hp}
theorem own_app {ρ : Env} {n : Nat} {a : Addr} (h : Own (ρ ++ List.replicate n none) a) : Own ρ a := by
  obtain ⟨i, ds, h⟩ := h
  by_cases hi : i < ρ.length
  · rw [List.getElem?_append_left hi] at h
    exact ⟨i, ds, h⟩
  · rw [List.getElem?_append_right (by omega)] at h
    have := (List.getElem?_eq_some_iff.mp h).2
    rw [List.getElem_replicate] at this
    cases this
theorem own_app' {ρ : Env} {n : Nat} {a : Addr} (h : Own ρ a) : Own (ρ ++ List.replicate n none) a := by
  obtain ⟨i, ds, h⟩ := h
  exact ⟨i, ds, by rw [List.getElem?_append_left (List.getElem?_eq_some_iff.mp h).1]; exact h⟩
theorem app_get {α : Type} {xs : List (Option α)} {n i : Nat} {x : α} (h : (xs ++ List.replicate n none)[i]? = some (some x)) : xs[i]? = some (some x) := by
  by_cases hi : i < xs.length
  · rw [List.getElem?_append_left hi] at h
    exact h
  · rw [List.getElem?_append_right (by omega)] at h
    have := (List.getElem?_eq_some_iff.mp h).2
    rw [List.getElem_replicate] at this
    cases this
theorem sim_app {ρ : Env} {σ : L2.St} (S : Sim K ρ σ HS H) (n : Nat) : Sim K (ρ ++ List.replicate n none) (σ ++ List.replicate n none) HS H := by
  have up : ∀ {i : Nat} {v : V}, σ[i]? = some (some v) → (σ ++ List.replicate n none)[i]? = some (some v) := fun h => by
    rw [List.getElem?_append_left (List.getElem?_eq_some_iff.mp h).1]
    exact h
  exact ⟨by rw [List.length_append, List.length_append, S.len, List.length_replicate, List.length_replicate], S.sub, fun i s e y => let ⟨v, h1, h2⟩ := S.im i s (app_get e) y; ⟨v, up h1, h2⟩,
    fun i p ds e => let ⟨h1, h2⟩ := S.ow i p ds (app_get e); ⟨up h1, h2⟩, fun i j p ds es e1 e2 => S.inj i j p ds es (app_get e1) (app_get e2)⟩
theorem fin_ok {S : DSpec} {a : S.α} {p : Addr} {d : D} {ρ0 ρ : Env} {σ : L2.St} {HS0 H0 : Hp} {Q : VK} {v : V} {n : Nat} (e0 : ρ0 = argEnv S.io p (S.args a).1 (S.args a).2 ++ List.replicate n none)
    (f : fin S a p d ρ) (S' : Sim K ρ σ HS H) (st : Step ρ0 HS0 H0 ρ HS H) {k : D → List D → Prop} (kk : ∀ d pds', S.post a d pds' → k d pds') (r : RetR K H0 HS H v S.fr d)
    (l : ∀ d pds' v H' HS', k d pds' → Ex HS' H' → Step (argEnv S.io p (S.args a).1 (S.args a).2) HS0 H0 (endEnv S.io p pds') HS' H' → (S.io = true → HS' p = none ∧ ∃ pvs, H' p = some (.lst pvs) ∧ DpAll K HS' pvs pds') → RetR K H0 HS' H' v S.fr d → Q v H') : Q v H := by
  subst e0
  have go : ∀ pds', S.post a d pds' → (S.io = true → HS p = none ∧ ∃ pvs, H p = some (.lst pvs) ∧ DpAll K HS pvs pds') → Q v H := fun pds' hp hio => by
    refine l d pds' v H HS (kk _ _ hp) S'.sub ⟨st.ex, fun x o h n => st.keep x o h fun z => n (own_app z), fun x o h n => st.hs x o h fun z => n (own_app z), fun x z => ?_, st.live⟩ hio r
    obtain ⟨i, ds, z⟩ := z
    unfold endEnv at z
    split at z
    · rename_i hi
      cases i with
      | zero =>
        simp at z
        refine .inl ⟨0, (S.args a).1, ?_⟩
        unfold argEnv
        rw [if_pos hi]
        simp [z.1]
      | succ i => simp at z
    · simp at z
  unfold fin at f
  split at f
  · obtain ⟨pds', h1, h2⟩ := f
    exact go pds' h2 fun _ => let ⟨_, g2, g3⟩ := S'.ow 0 p pds' h1; ⟨g2, g3⟩
  · rename_i hi
    exact go [] f fun z => absurd z hi
theorem ret_done {S : DSpec} {a : S.α} {p : Addr} {r : R} {ρ0 ρ : Env} {σ : L2.St} {HS0 H0 : Hp} {Q : VK} {v : V} {n : Nat} (e0 : ρ0 = argEnv S.io p (S.args a).1 (S.args a).2 ++ List.replicate n none)
    (f : retOk S a p r ρ) (S' : Sim K ρ σ HS H) (st : Step ρ0 HS0 H0 ρ HS H) (rp : RepR K H0 σ ρ HS H v r) {k : D → List D → Prop} (kk : ∀ d pds', S.post a d pds' → k d pds')
    (l : ∀ d pds' v H' HS', k d pds' → Ex HS' H' → Step (argEnv S.io p (S.args a).1 (S.args a).2) HS0 H0 (endEnv S.io p pds') HS' H' → (S.io = true → HS' p = none ∧ ∃ pvs, H' p = some (.lst pvs) ∧ DpAll K HS' pvs pds') → RetR K H0 HS' H' v S.fr d → Q v H') : Q v H := by
  unfold retOk at f
  split at f
  · rename_i ef
    obtain ⟨d, ρ2, HS2, z, S2, st2, dp⟩ := toVal_ok S' st rp f
    exact fin_ok e0 z S2 st2 kk (by rw [ef]; exact dp) l
  · rename_i ef
    split at f
    · exact fin_ok e0 f S' st kk (by rw [ef]; exact rp) l
    · exact f.elim
  · rename_i ef
    split at f
    · obtain ⟨rfl, h2, h3, h4, vs, h5, h6⟩ := rp
      exact fin_ok e0 f S' st kk (by rw [ef]; exact ⟨_, vs, rfl, h2, h3, h5, h6⟩) l
    · rename_i i
      split at f
      · rename_i q ds e
        obtain ⟨h0, f⟩ := f
        obtain ⟨g1, g2, vs, g3, g4⟩ := S'.ow i q ds e
        have hv : σ[i]? = some (some v) := rp
        rw [hv] at g1
        cases g1
        have hq : H0 q = none := by
          rcases st.own q ⟨i, ds, e⟩ with z | z
          · subst e0
            have z := own_app z
            unfold argEnv at z
            split at z
            · rename_i hi
              have := own_argsP z
              subst this
              unfold fin at f
              rw [if_pos hi] at f
              obtain ⟨pds', f1, _⟩ := f
              exact absurd (S'.inj i 0 q ds pds' e f1) (h0 hi)
            · exact (own_args z).elim
          · exact z
        exact fin_ok e0 f S' st kk (by rw [ef]; exact ⟨_, vs, rfl, hq, g2, g3, g4⟩) l
      · exact f.elim
    · exact f.elim
end

/-! ### the defs, one by one -/
/-- a def of the module, under its name -/
structure DefIn (K : PySem.W.Frag) (mg : Str → Option Value) (x : Str) (st : Stmt) (ps : List Str) (a : Addr) (fd : FuncData) : Prop where
  mg : mg x = some (.ref a)
  fn : Fun K x x st a fd
  bd : Binds K fd ps []
theorem def_fn {G : Sg} {Γ : Nat → DSpec} {n : Nat} {P : Program} {w : World} {K : PySem.W.Frag} {mg : Str → Option Value} {base : Heap} {x : Str} {st : Stmt} {N ps : List Str} {b : Ss} {a : Addr} {fd : FuncData} (C : CtxOk G Γ n P w K mg base) (F : DefIn K mg x st ps a fd)
    (sc : C8.scC N ps (defScope st) = true) (ck : ckSs b ⟨G, N, (defScope st).names, (defScope st).names, n⟩ (defBody st) = true) (ar : ps.length = (Γ n).ar) (ok : BodyOk G Γ N.length b (Γ n)) : FnOk P w K mg base CX0 (n + 1) a fd ps (spOf K (Γ n)) := by
  have S := C8.fnScope_by sc
  refine F.fn.ok S (fun vs H Q E h => ?_) (fun cdv A outer s H vs Q E hr h => ?_)
  · obtain ⟨p, pds, ds, HS, k, sim, ⟨α, ea, _⟩, _⟩ := h
    have h1 := sim.len
    have h2 := (Γ n).len α
    rw [ea] at h2
    rw [List.length_map] at h1
    rw [h1, ar, ← h2]
    unfold argEnv
    split <;> simp
  · obtain ⟨p, pds, ds, HS, k, sim, ⟨α, ea, hok, hk⟩, l⟩ := h
    have hlen : vs.length = (Γ n).ar := by
      have h1 := sim.len
      have h2 := (Γ n).len α
      rw [ea] at h2
      rw [List.length_map] at h1
      rw [h1, ← h2]
      unfold argEnv
      split <;> simp
    have e1 : pds = ((Γ n).args α).1 := by rw [ea]
    have e2 : ds = ((Γ n).args α).2 := by rw [ea]
    subst e1 e2
    have O : OkX Γ ⟨G, N, (defScope st).names, (defScope st).names, n⟩ ((cxOf CX0 P w K mg base N x (defScope st) a cdv A outer s H E).nox) :=
      ⟨rfl, S.nd, rfl, S.kind, rfl, fun y hy => (by
        unfold sto at hy
        split at hy
        · rename_i e
          exact ⟨.inl e, .inl rfl⟩
        · rename_i e
          exact ⟨.inr e, .inl rfl⟩
        · exact absurd hy Bool.false_ne_true), hr, C⟩
    refine ⟨_, s_Ss b _ _ _ O PassesOwn.never ck, ?_⟩
    have e0 : L2.start N vs = vs.map some ++ List.replicate (N.length - (Γ n).ar) none := by unfold L2.start; rw [hlen]
    rw [e0]
    refine ⟨env0 N.length (Γ n) α p, HS, endsOf (Γ n) α p, sim_app sim _, ok α hok p, ⟨fun ρ' σ' H' HS' z S' st' => ?_, fun _ _ _ _ z => z.elim, fun _ _ _ _ z => z.elim, fun r ρ' σ' v H' HS' z S' st' rp => ?_⟩⟩
    · exact ret_done (ρ0 := env0 N.length (Γ n) α p) rfl z S' st' (r := .v .none) (v := .non) .non hk l
    · exact ret_done (ρ0 := env0 N.length (Γ n) α p) rfl z S' st' rp hk l
theorem CtxOk.add {G : Sg} {Γ : Nat → DSpec} {n : Nat} {P : Program} {w : World} {K : PySem.W.Frag} {mg : Str → Option Value} {base : Heap} {x : Str} {st : Stmt} {N ps : List Str} {b : Ss} {a : Addr} {fd : FuncData} (C : CtxOk G Γ n P w K mg base) (F : DefIn K mg x st ps a fd)
    (hx : G.fn[n]? = some x) (sc : C8.scC N ps (defScope st) = true) (ck : ckSs b ⟨G, N, (defScope st).names, (defScope st).names, n⟩ (defBody st) = true) (ar : ps.length = (Γ n).ar) (ok : BodyOk G Γ N.length b (Γ n)) : CtxOk G Γ (n + 1) P w K mg base :=
  ⟨fun f y hf hy => by
    by_cases e : f = n
    · subst e
      rw [hx] at hy
      cases hy
      exact ⟨a, fd, ps, F.mg, F.fn.kp, F.bd, def_fn C F sc ck ar ok⟩
    · exact C.fn f y (by omega) hy, C.gc, C.bl⟩
/-! ### the law -/
def lawSpec (n : Nat) : DSpec := { io := false, fr := .val, ar := 1, α := List Int, args := fun ns => ([], [.list (ns.map PyData.int)]), ok := fun ns => ns.length ≤ n, post := fun _ d _ => d = .bool true, len := fun _ => rfl }
theorem law_sp {K : PySem.W.Frag} {n : Nat} {H : Hp} {a : Addr} {ns : List Int} {E : XK} (hl : ns.length ≤ n) (h : SqL K H a (ns.map V.int)) : spOf K (lawSpec n) [.ref a] H (fun v _ => v = .bl true) E := by
  refine ⟨0, [], [.list (ns.map PyData.int)], H, fun d _ => d = .bool true, ⟨rfl, Ex.refl _, fun i s e y => ?_, fun i p ds e => ?_, fun i j p ds es e => ?_⟩, ⟨ns, rfl, hl, fun d _ h => h⟩, fun d pds' v H' HS' hd _ _ _ r => ?_⟩
  · cases i with
    | zero =>
      cases e
      exact ⟨_, rfl, .lst h (dps_of_ints ns)⟩
    | succ i => cases i <;> cases e
  · cases i with
    | zero => cases e
    | succ i => cases i <;> cases e
  · cases i with
    | zero => cases e
    | succ i => cases i <;> cases e
  · subst hd
    exact dp_bool r
end VL

set_option Elab.async false
set_option linter.all false
set_option maxRecDepth 100000
namespace VL
open PySem L2

/-! ### loops by a word -/
theorem forL_inv {tg : List Nat} {body : WS} {E : EndsD} {xs : List D} (I : Nat → Env → Prop) {ρ : Env} (h0 : I 0 ρ)
    (hs : ∀ i x ρ k, xs[i]? = some x → I i ρ → (∀ ρ', I (i + 1) ρ' → k ρ') → bindT tg x ρ fun ρ1 => body ρ1 ⟨k, E.rt, E.nx, k⟩) (he : ∀ ρ, I xs.length ρ → E.nx ρ) : forL tg body xs ρ E := by
  have g : ∀ (ys : List D) (i : Nat) (ρ : Env), xs.drop i = ys → i + ys.length = xs.length → I i ρ → forL tg body ys ρ E := fun ys => by
    induction ys with
    | nil =>
      intro i ρ e hl h
      have : i = xs.length := by simpa using hl
      exact he ρ (this ▸ h)
    | cons y ys ih =>
      intro i ρ e hl h
      have hy : xs[i]? = some y := by
        have := congrArg (·[0]?) e
        simpa using this
      have e2 : xs.drop (i + 1) = ys := by
        have := congrArg List.tail e
        simpa using this
      exact hs i y ρ _ hy h fun ρ' h' => ih (i + 1) ρ' e2 (by simp at hl; omega) h'
  exact g xs 0 ρ rfl (by simp) h0
theorem compL_inv {tg own : List Nat} {test : WT} {el : WV} {xs : List D} {kf : List D → Env → Prop} (I : Nat → Env → List D → Prop) {ρ : Env} {acc : List D} (h0 : I 0 ρ acc)
    (hs : ∀ i x ρ acc (k : Env → List D → Prop), xs[i]? = some x → I i ρ acc → (∀ ρ' acc', I (i + 1) ρ' acc' → k ρ' acc') →
      bindT tg x (wipeE ρ own) fun ρ1 => test ρ1 fun b ρ2 => if b = true then el ρ2 fun y ρ3 => k (restore ρ ρ3 own) (acc ++ [y]) else k (restore ρ ρ2 own) acc)
    (he : ∀ ρ acc, I xs.length ρ acc → kf acc ρ) : compL tg own test el xs ρ acc kf := by
  have g : ∀ (ys : List D) (i : Nat) (ρ : Env) (acc : List D), xs.drop i = ys → i + ys.length = xs.length → I i ρ acc → compL tg own test el ys ρ acc kf := fun ys => by
    induction ys with
    | nil =>
      intro i ρ acc e hl h
      have : i = xs.length := by simpa using hl
      exact he ρ acc (this ▸ h)
    | cons y ys ih =>
      intro i ρ acc e hl h
      have hy : xs[i]? = some y := by
        have := congrArg (·[0]?) e
        simpa using this
      have e2 : xs.drop (i + 1) = ys := by
        have := congrArg List.tail e
        simpa using this
      exact hs i y ρ acc (fun ρ' acc' => compL tg own test el ys ρ' acc' kf) hy h fun ρ' acc' h' => ih (i + 1) ρ' acc' e2 (by simp at hl; omega) h'
  exact g xs 0 ρ acc rfl (by simp) h0
/-- a comprehension that changes nothing -/
theorem compL_map {tg own : List Nat} {test : WT} {el : WV} {xs : List D} {kf : List D → Env → Prop} {ρ : Env} (f : D → Option D)
    (hs : ∀ x ∈ xs, ∀ (k : Env → List D → Prop) acc, k ρ (acc ++ (f x).toList) →
      bindT tg x (wipeE ρ own) fun ρ1 => test ρ1 fun b ρ2 => if b = true then el ρ2 fun y ρ3 => k (restore ρ ρ3 own) (acc ++ [y]) else k (restore ρ ρ2 own) acc)
    (he : kf (xs.filterMap f) ρ) : compL tg own test el xs ρ [] kf := by
  refine compL_inv (fun i ρ' acc => ρ' = ρ ∧ acc = (xs.take i).filterMap f) ⟨rfl, by simp⟩ (fun i x ρ' acc k hx h hk => ?_) fun ρ' acc h => ?_
  · obtain ⟨rfl, rfl⟩ := h
    refine hs x (List.mem_of_getElem? hx) k _ (hk _ _ ⟨rfl, ?_⟩)
    rw [List.take_add_one, hx]
    simp [List.filterMap_append]
    cases e : f x <;> simp [e]
  · obtain ⟨rfl, rfl⟩ := h
    rw [List.take_length]
    exact he
theorem run_of {S : DSpec} {pds ds : List D} {k : D → List D → Prop} (a : S.α) (ha : S.args a = (pds, ds)) (hok : S.ok a) (h : ∀ d pds', S.post a d pds' → k d pds') : S.run pds ds k := ⟨a, ha, hok, h⟩
/-- a def that changes nothing -/
def pureS (fr : Ret) (ar : Nat) (α : Type) (args : α → List D) (ok : α → Prop) (f : α → D) (len : ∀ a, (args a).length = ar) : DSpec :=
  { io := false, fr := fr, ar := ar, α := α, args := fun a => ([], args a), ok := ok, post := fun a d pds' => d = f a ∧ pds' = [], len := fun a => len a }
theorem run_pure {fr : Ret} {ar : Nat} {α : Type} {args : α → List D} {ok : α → Prop} {f : α → D} {len : ∀ a, (args a).length = ar} {ds : List D} {k : D → List D → Prop} (a : α) (ha : args a = ds) (hok : ok a) (h : k (f a) []) : (pureS fr ar α args ok f len).run [] ds k :=
  ⟨a, by rw [← ha]; rfl, hok, fun d pds' z => by obtain ⟨rfl, rfl⟩ := z; exact h⟩
theorem wh_inv {t : WT} {b : WS} {ρ : Env} {E : EndsD} (I : Nat → Env → Prop) (m : Nat) (h0 : I m ρ) (hs : ∀ m ρ k, I m ρ → (∀ m' ρ', m' < m → I m' ρ' → k ρ') → t ρ fun c ρ1 => if c = true then b ρ1 ⟨k, E.rt, E.nx, k⟩ else E.nx ρ1) : whL t b ρ E :=
  ⟨I, ⟨m, h0⟩, fun m ρ h => hs m ρ _ h fun m' ρ' h1 h2 => ⟨m', h1, h2⟩⟩
/-- plain ints -/
abbrev intsD (is : List Int) : List D := is.map PyData.int
abbrev itS (i : Int) : Option SV := some (.im (.int i))
theorem isi_ii (i : Int) : isiD (.int i) "int" = true := rfl
theorem isi_ib (i : Int) : isiD (.int i) "bool" = false := by
  show ("int" == "bool" || ("bool" == "int" && "int" == "bool")) = false
  decide +kernel
theorem isi_tt (ds : List D) : isiD (.tuple ds) "tuple" = true := rfl
end VL

set_option Elab.async false
set_option linter.all false
set_option maxRecDepth 100000
namespace VL
open PySem L2

/-! ### the readings, one by one; a comprehension's inside left alone -/
def compE (G : Sg) (Γ : Nat → DSpec) (tg own : List Nat) (ifs : Eo) (el : E) (xs : List D) (ρ : VL.Env) (acc : List D) (k : List D → VL.Env → Prop) : Prop := compL tg own (evF G Γ ifs) (vv (ev G Γ el)) xs ρ acc k
section
variable {G : Sg} {Γ : Nat → DSpec}
theorem ev_var (i : Nat) : ev G Γ (.var i) = cVar i := rfl
theorem ev_cst (d : D) : ev G Γ (.cst d) = fun ρ k => k (.v d) ρ := rfl
theorem ev_glo (g : Nat) : ev G Γ (.glo g) = fun ρ k => match G.gc[g]? with
    | some (_, d) => k (.v d) ρ
    | none => False := rfl
theorem ev_bin (op : Operator) (a : E) (b : E) : ev G Γ (.bin op a b) = cBin op (ev G Γ a) (ev G Γ b) := rfl
theorem ev_cmp (op : CmpOp) (a : E) (b : E) : ev G Γ (.cmp op a b) = fun ρ k => vv (ev G Γ a) ρ fun x ρ1 => vv (ev G Γ b) ρ1 fun y ρ2 => cmpW op x y fun z => k (.v (.bool z)) ρ2 := rfl
theorem ev_chain (o1 : CmpOp) (o2 : CmpOp) (a : E) (b : E) (c : E) : ev G Γ (.chain o1 o2 a b c) = fun ρ k => vv (ev G Γ a) ρ fun x ρ1 => vv (ev G Γ b) ρ1 fun y ρ2 => cmpW o1 x y fun t => if t = true then vv (ev G Γ c) ρ2 fun z ρ3 => cmpW o2 y z fun u => k (.v (.bool u)) ρ3 else k (.v (.bool false)) ρ2 := rfl
theorem ev_and (a : E) (b : E) : ev G Γ (.and a b) = fun ρ k => vv (ev G Γ a) ρ fun x ρ1 => ∃ t, truth x = some t ∧ if t = true then vv (ev G Γ b) ρ1 fun y ρ2 => k (.v y) ρ2 else k (.v x) ρ1 := rfl
theorem ev_or (a : E) (b : E) : ev G Γ (.or a b) = fun ρ k => vv (ev G Γ a) ρ fun x ρ1 => ∃ t, truth x = some t ∧ if t = true then k (.v x) ρ1 else vv (ev G Γ b) ρ1 fun y ρ2 => k (.v y) ρ2 := rfl
theorem ev_not (a : E) : ev G Γ (.not a) = fun ρ k => vv (ev G Γ a) ρ fun x ρ1 => ∃ t, truth x = some t ∧ k (.v (.bool (!t))) ρ1 := rfl
theorem ev_neg (a : E) : ev G Γ (.neg a) = fun ρ k => vv (ev G Γ a) ρ fun x ρ1 => match x with
    | .int i => k (.v (.int (-i))) ρ1
    | _ => False := rfl
theorem ev_ife (t : E) (a : E) (b : E) : ev G Γ (.ife t a b) = fun ρ k => evT G Γ t ρ fun c ρ1 => if c = true then ev G Γ a ρ1 k else ev G Γ b ρ1 k := rfl
theorem ev_tup (es : Es) : ev G Γ (.tup es) = fun ρ k => evA G Γ es ρ fun ds ρ1 => ds.length ≤ 100000 ∧ k (.v (.tuple ds)) ρ1 := rfl
theorem ev_lst (es : Es) : ev G Γ (.lst es) = fun ρ k => evA G Γ es ρ fun ds ρ1 => ds.length ≤ 100000 ∧ ∀ p, k (.nw p ds) ρ1 := rfl
theorem ev_idx (a : E) (i : E) : ev G Γ (.idx a i) = cIdx (ev G Γ a) (ev G Γ i) := rfl
theorem ev_sl (a : E) (lo : Eo) (hi : Eo) : ev G Γ (.sl a lo hi) = fun ρ k => ev G Γ a ρ fun r ρ1 => evO G Γ lo ρ1 fun l ρ2 => evO G Γ hi ρ2 fun h ρ3 => ∃ b ds, seqOf ρ3 r = some (b, ds) ∧ if b = true then ∀ p, k (.nw p (cutD ds l h)) ρ3 else k (.v (.tuple (cutD ds l h))) ρ3 := rfl
theorem ev_b1 (f : B1) (a : E) : ev G Γ (.b1 f a) = cB1 f (ev G Γ a) := rfl
theorem ev_b2 (f : B2) (a : E) (b : E) : ev G Γ (.b2 f a b) = fun ρ k => vv (ev G Γ a) ρ fun x ρ1 => vv (ev G Γ b) ρ1 fun y ρ2 => b2W f x y fun z => k (.v z) ρ2 := rfl
theorem ev_lrng (a : E) : ev G Γ (.lrng a) = fun ρ k => vv (ev G Γ a) ρ fun x ρ1 => match x with
    | .int n => 0 ≤ n ∧ n ≤ 100000 ∧ ∀ p, k (.nw p ((List.range n.toNat).map fun i => PyData.int (i : Nat))) ρ1
    | _ => False := rfl
theorem ev_isi (a : E) (t : String) : ev G Γ (.isi a t) = cIsi (ev G Γ a) t := rfl
theorem ev_call (f : Nat) (es : Es) : ev G Γ (.call f es) = cCall (Γ f) (evA G Γ es) := rfl
theorem ev_cio (f : Nat) (i : Nat) (es : Es) : ev G Γ (.cio f i es) = cCio (Γ f) i (evA G Γ es) := rfl
theorem ev_cnw (f : Nat) (e : E) (es : Es) : ev G Γ (.cnw f e es) = cCnw (Γ f) (ev G Γ e) (evA G Γ es) := rfl
theorem ev_lc (el : E) (tg : List Nat) (it : VL.It) (ifs : Eo) (own : List Nat) : ev G Γ (.lc el tg it ifs own) = fun ρ k => evI G Γ it ρ fun xs ρ1 => xs.length ≤ 100000 ∧ ∀ p, compE G Γ tg own ifs el xs ρ1 [] fun ys ρ2 => k (.nw p ys) ρ2 := rfl
theorem ev_pop (i : Nat) (a : E) : ev G Γ (.pop i a) = fun ρ k => match ρ[i]? with
    | some (some (.ow _ _)) => vv (ev G Γ a) ρ fun x ρ1 => match x, ρ1[i]? with
      | .int j, some (some (.ow p ds)) => 0 ≤ j ∧ j < ds.length ∧ ds.length ≤ 100000 ∧ ∃ d, ds[j.toNat]? = some d ∧ k (.v d) (ρ1.set i (some (.ow p (ds.eraseIdx j.toNat))))
      | _, _ => False
    | _ => False := rfl
theorem ev_tidx (a : E) (b : E) : ev G Γ (.tidx a b) = fun ρ k => ev G Γ a ρ fun r ρ1 => match r with
    | .tp ds => vv (ev G Γ b) ρ1 fun y ρ2 => match y with
      | .int i => ∃ is : List Int, ds = is.map PyData.int ∧ i ∈ is ∧ k (.v (.int (is.idxOf i : Nat))) ρ2
      | _ => False
    | _ => False := rfl
theorem ev_rep (a : E) (b : E) : ev G Γ (.rep a b) = fun ρ k => ev G Γ a ρ fun r ρ1 => match r with
    | .nw _ ds => vv (ev G Γ b) ρ1 fun y ρ2 => match y with
      | .int n => 0 ≤ n ∧ n ≤ 100000 ∧ ds.length * n.toNat ≤ 100000 ∧ ∀ q, k (.nw q (List.replicate n.toNat ds).flatten) ρ2
      | _ => False
    | _ => False := rfl
end
end VL

set_option Elab.async false
set_option linter.all false
set_option maxRecDepth 100000
namespace VL
open PySem L2

/-! ### data that == may be asked of -/
def Nice (k : Nat) (d : D) : Prop := d.canLay0 = true ∧ d.depth ≤ k
def NiceL (k : Nat) (ds : List D) : Prop := ∀ d ∈ ds, Nice k d
theorem nice_int {k : Nat} (i : Int) : Nice k (.int i) := ⟨rfl, Nat.zero_le _⟩
theorem nice_bool {k : Nat} (b : Bool) : Nice k (.bool b) := ⟨rfl, Nat.zero_le _⟩
theorem nice_none {k : Nat} : Nice k .none := ⟨rfl, Nat.zero_le _⟩
theorem nice_all {k : Nat} : ∀ {ds : List D}, NiceL k ds → PyData.canLayAll0 ds = true ∧ PyData.depthAll ds ≤ k
  | [], _ => ⟨by simp only [PyData.canLayAll0], by simp only [PyData.depthAll]; omega⟩
  | d :: ds, h => by
    obtain ⟨h1, h2⟩ := h d List.mem_cons_self
    obtain ⟨h3, h4⟩ := nice_all (ds := ds) fun x m => h x (List.mem_cons_of_mem _ m)
    refine ⟨?_, ?_⟩
    · simp only [PyData.canLayAll0, h1, h3, Bool.and_self]
    · simp only [PyData.depthAll]
      omega
theorem nice_tup {k : Nat} {ds : List D} (h : NiceL k ds) : Nice (k + 1) (.tuple ds) := by
  obtain ⟨h1, h2⟩ := nice_all h
  exact ⟨by simp only [PyData.canLay0, h1], by simp only [PyData.depth]; omega⟩
theorem nice_lst {k : Nat} {ds : List D} (h : NiceL k ds) : Nice (k + 1) (.list ds) := by
  obtain ⟨h1, h2⟩ := nice_all h
  exact ⟨by simp only [PyData.canLay0, h1], by simp only [PyData.depth]; omega⟩
theorem nice_ints {k : Nat} (is : List Int) : NiceL k (is.map PyData.int) := fun d h => by
  obtain ⟨i, _, rfl⟩ := List.mem_map.mp h
  exact nice_int i
theorem nice_nil {k : Nat} : NiceL k [] := fun d h => by cases h
theorem nice_cons {k : Nat} {d : D} {ds : List D} (h : Nice k d) (t : NiceL k ds) : NiceL k (d :: ds) := fun x m => by
  rcases List.mem_cons.mp m with rfl | m
  · exact h
  · exact t x m
theorem Nice.up {k j : Nat} {d : D} (h : Nice k d) (l : k ≤ j) : Nice j d := ⟨h.1, Nat.le_trans h.2 l⟩
theorem Nice.shaped {k : Nat} {d : D} (h : Nice k d) (hk : k ≤ 64) : SeqAt.shaped d = true := by
  unfold SeqAt.shaped
  rw [h.1, Bool.true_and]
  exact decide_eq_true (Nat.le_trans h.2 hk)
mutual
theorem eqv_refl : ∀ d : D, d.canLay0 = true → PyData.eqv d d = true
  | .none, _ => by simp only [PyData.eqv]
  | .bool b, _ => by simp only [PyData.eqv, beq_self_eq_true]
  | .int i, _ => by simp only [PyData.eqv, beq_self_eq_true]
  | .str x, _ => by simp only [PyData.eqv, beq_self_eq_true]
  | .list ds, h => by
    simp only [PyData.canLay0] at h
    simp only [PyData.eqv]
    exact eqv_reflAll ds h
  | .tuple ds, h => by
    simp only [PyData.canLay0] at h
    simp only [PyData.eqv]
    exact eqv_reflAll ds h
  | .dict _, h => by
    simp only [PyData.canLay0] at h
    cases h
theorem eqv_reflAll : ∀ ds : List D, PyData.canLayAll0 ds = true → PyData.eqvAll ds ds = true
  | [], _ => by simp only [PyData.eqvAll]
  | d :: ds, h => by
    simp only [PyData.canLayAll0, Bool.and_eq_true] at h
    simp only [PyData.eqvAll, eqv_refl d h.1, eqv_reflAll ds h.2, Bool.and_self]
end
theorem eq_same {n : Nat} {x y : D} {k : Bool → Prop} (h : Nice n x) (e : x = y) (hn : n ≤ 64) (q : k true) : eqW x y k := by
  subst e
  exact ⟨h.shaped hn, h.shaped hn, by rw [eqv_refl x h.1]; exact q⟩
theorem eqW_int {i j : Int} {k : Bool → Prop} : eqW (.int i) (.int j) k = k (decide (i = j)) := by
  unfold eqW
  have e : PyData.eqv (.int i) (.int j) = decide (i = j) := by
    simp only [PyData.eqv]
    rw [Bool.eq_iff_iff]
    simp
  rw [e]
  exact propext ⟨fun h => h.2.2, fun h => ⟨(nice_int i).shaped (Nat.zero_le 64), (nice_int j).shaped (Nat.zero_le 64), h⟩⟩
theorem eqv_int (i j : Int) : PyData.eqv (.int i) (.int j) = decide (i = j) := by
  simp only [PyData.eqv]
  rw [Bool.eq_iff_iff]
  simp
theorem inD_ints (i : Int) (is : List Int) : inD (.int i) (is.map PyData.int) = decide (i ∈ is) := by
  unfold inD
  rw [Bool.eq_iff_iff]
  simp only [List.any_map, List.any_eq_true, Function.comp_apply, eqv_int, decide_eq_true_eq]
  exact ⟨fun ⟨x, h1, h2⟩ => h2 ▸ h1, fun h => ⟨i, h, rfl⟩⟩
theorem flat_ints (is : List Int) : (is.map PyData.int).all flatD = true := by
  rw [List.all_map]
  exact List.all_eq_true.mpr fun _ _ => rfl
theorem map_inj {is js : List Int} (h : is.map PyData.int = js.map PyData.int) : is = js := by
  have := congrArg (List.map fun d => match d with | PyData.int i => i | _ => 0) h
  simpa [List.map_map, Function.comp_def] using this

/-! ### pots -/
/-- own digits, the seed, the count -/
def Pot (c : Nat) (pds : List D) : Prop := ∃ own seed cnt : Int, pds = [.int own, .int seed, .int cnt] ∧ 0 ≤ own ∧ own < 10 ^ 300 ∧ 0 ≤ seed ∧ seed < 2 ^ 61 ∧ 0 ≤ cnt ∧ cnt ≤ c
theorem Pot.up {c d : Nat} {pds : List D} (h : Pot c pds) (l : c ≤ d) : Pot d pds := by
  obtain ⟨own, seed, cnt, h1, h2, h3, h4, h5, h6, h7⟩ := h
  exact ⟨own, seed, cnt, h1, h2, h3, h4, h5, h6, by omega⟩
/-- a def that draws from a pot: at most n times -/
def potS (fr : Ret) (ar n : Nat) (α : Type) (args : α → List D) (ok : α → Prop) (post : α → D → Prop) (len : ∀ a, (args a).length + 1 = ar) : DSpec :=
  { io := true, fr := fr, ar := ar, α := (Nat × List D) × α, args := fun a => (a.1.2, args a.2), ok := fun a => Pot a.1.1 a.1.2 ∧ a.1.1 + n ≤ 10 ^ 8 ∧ ok a.2, post := fun a d pds' => post a.2 d ∧ Pot (a.1.1 + n) pds', len := fun a => len a.2 }
theorem run_pot {fr : Ret} {ar n : Nat} {α : Type} {args : α → List D} {ok : α → Prop} {post : α → D → Prop} {len : ∀ a, (args a).length + 1 = ar} {pds ds : List D} {k : D → List D → Prop} {c : Nat} (hp : Pot c pds) (hc : c + n ≤ 10 ^ 8) (a : α) (ha : args a = ds) (hok : ok a)
    (h : ∀ d pds', post a d → Pot (c + n) pds' → k d pds') : (potS fr ar n α args ok post len).run pds ds k :=
  ⟨((c, pds), a), by rw [← ha]; rfl, ⟨hp, hc, hok⟩, fun d pds' z => h d pds' z.1 z.2⟩

theorem toVal_pl {ρ : Env} {i : Nat} {q : Addr} {ds : List D} {k : D → Env → Prop} (e : ρ[i]? = some (some (.ow q ds))) (h : k (.list ds) (ρ.set i (some (.im (.list ds))))) : toVal (.pl i) ρ k := by
  unfold toVal
  dsimp only
  rw [e]
  exact h
/-! ### bodies -/
theorem body_of {G : Sg} {Γ : Nat → DSpec} {b : Ss} {S : DSpec} {a : S.α} {p : Addr} {ρ : Env} (h : ∀ E : EndsD, (∀ ρ, retOk S a p (.v .none) ρ → E.nx ρ) → (∀ r ρ, retOk S a p r ρ → E.rt r ρ) → xss G Γ b ρ E) : xss G Γ b ρ (endsOf S a p) := h _ (fun _ q => q) (fun _ _ q => q)
section
variable {ar n : Nat} {α : Type} {args : α → List D} {ok : α → Prop} {f : α → D} {post : α → D → Prop} {len : ∀ a, (args a).length = ar} {len' : ∀ a, (args a).length + 1 = ar} {a : α} {p q : Addr} {ρ : Env} {d : D} {ds pds pds' : List D} {c i : Nat}
theorem ret_v (h : d = f a) : retOk (pureS .val ar α args ok f len) a p (.v d) ρ := ⟨h, rfl⟩
theorem ret_vt (h : .tuple ds = f a) : retOk (pureS .val ar α args ok f len) a p (.tp ds) ρ := ⟨h, rfl⟩
theorem ret_vn (h : .list ds = f a) : retOk (pureS .val ar α args ok f len) a p (.nw q ds) ρ := ⟨h, rfl⟩
theorem ret_t (h : .tuple ds = f a) : retOk (pureS .tup ar α args ok f len) a p (.tp ds) ρ := ⟨h, rfl⟩
theorem ret_l (h : .list ds = f a) : retOk (pureS .lst ar α args ok f len) a p (.nw q ds) ρ := ⟨h, rfl⟩
theorem ret_lp (e : ρ[i]? = some (some (.ow q ds))) (h : .list ds = f a) : retOk (pureS .lst ar α args ok f len) a p (.pl i) ρ := by
  show (match ρ[i]? with | some (some (.ow _ ds)) => _ | _ => False)
  rw [e]
  exact ⟨fun z => (Bool.false_ne_true z).elim, h, rfl⟩
theorem ret_kv (h : post a d) (hp : Pot (c + n) pds') : retOk (potS .val ar n α args ok post len') ((c, pds), a) p (.v d) (some (.ow p pds') :: ρ) := ⟨pds', rfl, h, hp⟩
theorem ret_kvt (h : post a (.tuple ds)) (hp : Pot (c + n) pds') : retOk (potS .val ar n α args ok post len') ((c, pds), a) p (.tp ds) (some (.ow p pds') :: ρ) := ⟨pds', rfl, h, hp⟩
theorem ret_kt (h : post a (.tuple ds)) (hp : Pot (c + n) pds') : retOk (potS .tup ar n α args ok post len') ((c, pds), a) p (.tp ds) (some (.ow p pds') :: ρ) := ⟨pds', rfl, h, hp⟩
theorem ret_kvn (h : post a (.list ds)) (hp : Pot (c + n) pds') : retOk (potS .val ar n α args ok post len') ((c, pds), a) p (.nw q ds) (some (.ow p pds') :: ρ) := ⟨pds', rfl, h, hp⟩
theorem ret_kvp (e : ρ[i]? = some (some (.ow q ds))) (h : post a (.list ds)) (hp : Pot (c + n) pds') : retOk (potS .val ar n α args ok post len') ((c, pds), a) p (.pl (i + 1)) (some (.ow p pds') :: ρ) := by
  exact toVal_pl (ρ := some (.ow p pds') :: ρ) (i := i + 1) (by rw [List.getElem?_cons_succ]; exact e) ⟨pds', rfl, h, hp⟩
theorem ret_klp (e : ρ[i]? = some (some (.ow q ds))) (h : post a (.list ds)) (hp : Pot (c + n) pds') : retOk (potS .lst ar n α args ok post len') ((c, pds), a) p (.pl (i + 1)) (some (.ow p pds') :: ρ) := by
  show (match (some (.ow p pds') :: ρ)[i + 1]? with | some (some (.ow _ ds)) => _ | _ => False)
  rw [List.getElem?_cons_succ, e]
  exact ⟨fun _ => Nat.succ_ne_zero i, pds', rfl, h, hp⟩
end
/-- .. of one that draws -/
theorem body_pure {G : Sg} {Γ : Nat → DSpec} {n : Nat} {b : Ss} {fr : Ret} {ar : Nat} {α : Type} {args : α → List D} {ok : α → Prop} {f : α → D} {len : ∀ a, (args a).length = ar}
    (h : ∀ a, ok a → ∀ p (E : EndsD), (∀ ρ, retOk (pureS fr ar α args ok f len) a p (.v .none) ρ → E.nx ρ) → (∀ r ρ, retOk (pureS fr ar α args ok f len) a p r ρ → E.rt r ρ) → xss G Γ b ((args a).map (fun d => some (SV.im d)) ++ List.replicate (n - ar) none) E) : BodyOk G Γ n b (pureS fr ar α args ok f len) :=
  fun a hok p => body_of fun E hn hr => h a hok p E hn hr
theorem body_pot {G : Sg} {Γ : Nat → DSpec} {m : Nat} {b : Ss} {fr : Ret} {ar n : Nat} {α : Type} {args : α → List D} {ok : α → Prop} {post : α → D → Prop} {len : ∀ a, (args a).length + 1 = ar}
    (h : ∀ a, ok a → ∀ c pds, Pot c pds → c + n ≤ 10 ^ 8 → ∀ p (E : EndsD), (∀ r ρ, retOk (potS fr ar n α args ok post len) ((c, pds), a) p r ρ → E.rt r ρ) → xss G Γ b (some (.ow p pds) :: (args a).map (fun d => some (SV.im d)) ++ List.replicate (m - ar) none) E) : BodyOk G Γ m b (potS fr ar n α args ok post len) := by
  rintro ⟨⟨c, pds⟩, a⟩ ⟨h1, h2, h3⟩ p
  exact body_of fun E hn hr => h a h3 c pds h1 h2 p E hr
theorem at3_0 {α : Type} {a : α} {l : List α} : atI (a :: l) 0 = some a := by
  unfold atI ixN
  have h : (0 : Int) < ((a :: l).length : Nat) := by rw [List.length_cons]; omega
  rw [if_pos (by decide), if_pos h]
  rfl
theorem at3_1 {α : Type} {a b : α} {l : List α} : atI (a :: b :: l) 1 = some b := by
  unfold atI ixN
  have h : (1 : Int) < ((a :: b :: l).length : Nat) := by simp; omega
  rw [if_pos (by decide), if_pos h]
  rfl
theorem at3_2 {α : Type} {a b c : α} {l : List α} : atI (a :: b :: c :: l) 2 = some c := by
  unfold atI ixN
  have h : (2 : Int) < ((a :: b :: c :: l).length : Nat) := by simp; omega
  rw [if_pos (by decide), if_pos h]
  rfl
theorem ix3_0 : ixN 3 0 = some 0 := rfl
theorem ix3_2 : ixN 3 2 = some 2 := rfl
theorem cpow3 {i : Int} (h0 : 0 ≤ i) (h1 : i < 2 ^ 100) : CPowB i 3 := by
  refine ⟨by decide, ?_⟩
  have b : Builtin.Int.intBits i ≤ 100 := by
    unfold Builtin.Int.intBits
    split
    · omega
    · have h2 : i.natAbs < 2 ^ 100 := by omega
      have h3 : i.natAbs ≠ 0 := by
        rename_i h
        intro z
        have : i = 0 := by omega
        subst this
        exact h rfl
      have := (Nat.log2_lt h3).mpr h2
      omega
  have : ((Builtin.Int.intBits i : Nat) : Int) ≤ 100 := by exact_mod_cast b
  have e : (2 : Int) ^ 27 = 134217728 := by decide
  omega
theorem mul_l {i j : Int} (h1 : 0 ≤ i) (h2 : i < 2 ^ 63) : MulOk i j := .inl (.inl ⟨by omega, by omega⟩)
theorem mul_r {i j : Int} (h1 : 0 ≤ j) (h2 : j < 2 ^ 63) : MulOk i j := .inl (.inr ⟨by omega, by omega⟩)
theorem mul_b {i j : Int} (h1 : -(2 ^ 63) ≤ i) (h2 : i < 2 ^ 63) : MulOk i j := .inl (.inl ⟨by omega, by omega⟩)
theorem div_ok {i j : Int} (h1 : 0 < j) (h2 : j < 2 ^ 64) : CDivW i j := by
  refine ⟨h1, ?_⟩
  have h3 : j.natAbs ≠ 0 := by omega
  have : j.natAbs < 2 ^ 64 := by omega
  have := (Nat.log2_lt h3).mpr this
  omega
theorem mod_in {i m : Int} (h : 0 < m) : 0 ≤ i % m ∧ i % m < m := ⟨Int.emod_nonneg _ (by omega), Int.emod_lt_of_pos _ h⟩
theorem at5 {i : Int} (h0 : 0 ≤ i) (h5 : i < 5) {a b c d e : D} : atI [a, b, c, d, e] i = some a ∨ atI [a, b, c, d, e] i = some b ∨ atI [a, b, c, d, e] i = some c ∨ atI [a, b, c, d, e] i = some d ∨ atI [a, b, c, d, e] i = some e := by
  have : i = 0 ∨ i = 1 ∨ i = 2 ∨ i = 3 ∨ i = 4 := by omega
  rcases this with rfl | rfl | rfl | rfl | rfl
  · exact .inl rfl
  · exact .inr (.inl rfl)
  · exact .inr (.inr (.inl rfl))
  · exact .inr (.inr (.inr (.inl rfl)))
  · exact .inr (.inr (.inr (.inr rfl)))
def takeS : DSpec := potS .val 2 1 Int (fun u => [.int u]) (fun u => 1 ≤ u ∧ u < 2 ^ 61) (fun u d => ∃ r : Int, d = .int r ∧ 0 ≤ r ∧ r < u) (fun _ => rfl)

/-- a def that changes nothing, its result told by a word -/
def genS (fr : Ret) (ar : Nat) (α : Type) (args : α → List D) (ok : α → Prop) (post : α → D → Prop) (len : ∀ a, (args a).length = ar) : DSpec :=
  { io := false, fr := fr, ar := ar, α := α, args := fun a => ([], args a), ok := ok, post := fun a d pds' => post a d ∧ pds' = [], len := fun a => len a }
theorem run_gen {fr : Ret} {ar : Nat} {α : Type} {args : α → List D} {ok : α → Prop} {post : α → D → Prop} {len : ∀ a, (args a).length = ar} {ds : List D} {k : D → List D → Prop} (a : α) (ha : args a = ds) (hok : ok a) (h : ∀ d, post a d → k d []) : (genS fr ar α args ok post len).run [] ds k :=
  ⟨a, by rw [← ha]; rfl, hok, fun d pds' z => by obtain ⟨z, rfl⟩ := z; exact h d z⟩
theorem body_gen {G : Sg} {Γ : Nat → DSpec} {n : Nat} {b : Ss} {fr : Ret} {ar : Nat} {α : Type} {args : α → List D} {ok : α → Prop} {post : α → D → Prop} {len : ∀ a, (args a).length = ar}
    (h : ∀ a, ok a → ∀ p (E : EndsD), (∀ ρ, retOk (genS fr ar α args ok post len) a p (.v .none) ρ → E.nx ρ) → (∀ r ρ, retOk (genS fr ar α args ok post len) a p r ρ → E.rt r ρ) → xss G Γ b ((args a).map (fun d => some (SV.im d)) ++ List.replicate (n - ar) none) E) : BodyOk G Γ n b (genS fr ar α args ok post len) :=
  fun a hok p => body_of fun E hn hr => h a hok p E hn hr
section
variable {ar : Nat} {α : Type} {args : α → List D} {ok : α → Prop} {post : α → D → Prop} {len : ∀ a, (args a).length = ar} {a : α} {p q : Addr} {ρ : Env} {d : D} {ds : List D} {i : Nat}
theorem ret_gv (h : post a d) : retOk (genS .val ar α args ok post len) a p (.v d) ρ := ⟨h, rfl⟩
theorem ret_gvt (h : post a (.tuple ds)) : retOk (genS .val ar α args ok post len) a p (.tp ds) ρ := ⟨h, rfl⟩
theorem ret_gvn (h : post a (.list ds)) : retOk (genS .val ar α args ok post len) a p (.nw q ds) ρ := ⟨h, rfl⟩
theorem ret_gt (h : post a (.tuple ds)) : retOk (genS .tup ar α args ok post len) a p (.tp ds) ρ := ⟨h, rfl⟩
theorem ret_gl (h : post a (.list ds)) : retOk (genS .lst ar α args ok post len) a p (.nw q ds) ρ := ⟨h, rfl⟩
end
def potNewS : DSpec := genS .lst 2 (List Int × Nat) (fun a => [.list (intsD a.1), .int (a.2 : Int)]) (fun a => a.2 ≤ 10000 ∧ a.1.length ≤ 10000) (fun _ d => ∃ ds, d = .list ds ∧ Pot 0 ds) (fun _ => rfl)
def cellsS : DSpec := pureS .val 2 (List Int × Nat) (fun a => [.list (intsD a.1), .int (a.2 : Int)]) (fun a => 1 ≤ a.2 ∧ a.2 ≤ 100 ∧ a.1.length ≤ 10000) (fun a => .list ((List.range (max 1 (min a.2 a.1.length))).map fun i => PyData.int (i : Nat))) (fun _ => rfl)
def ofS : DSpec := potS .val 2 1 (List D) (fun ds => [.list ds]) (fun ds => 1 ≤ ds.length ∧ ds.length < 2 ^ 60) (fun ds d => d ∈ ds) (fun _ => rfl)
def someS : DSpec := potS .val 3 1000 (List Int) (fun is => [.list (intsD is), .int (is.length : Int)]) (fun is => is.length ≤ 1000) (fun is d => ∃ js : List Int, d = .list (intsD js) ∧ js.Perm is) (fun _ => rfl)
theorem at_nat {α : Type} {xs : List α} {i : Int} (h0 : 0 ≤ i) (h1 : i < xs.length) : ∃ x, xs[i.toNat]? = some x ∧ atI xs i = some x := by
  have hl : i.toNat < xs.length := by omega
  refine ⟨xs[i.toNat], List.getElem?_eq_getElem hl, ?_⟩
  unfold atI ixN
  rw [if_pos h0, if_pos h1]
  exact List.getElem?_eq_getElem hl
theorem get_ints {is : List Int} {i : Nat} {d : D} (h : (intsD is)[i]? = some d) : ∃ z, is[i]? = some z ∧ d = .int z := by
  rw [List.getElem?_map] at h
  cases q : is[i]? with
  | none => rw [q] at h; cases h
  | some z => rw [q] at h; cases h; exact ⟨z, rfl, rfl⟩
theorem cut_ints {is : List Int} {lo hi : Option Int} : ∃ js, cutD (intsD is) lo hi = intsD js := by
  unfold cutD
  exact ⟨(is.drop (HT.sIx (intsD is).length 0 lo)).take (HT.sIx (intsD is).length (intsD is).length hi - HT.sIx (intsD is).length 0 lo), by unfold intsD; simp only [List.map_take, List.map_drop]⟩
theorem p300 : ((10 : Int) ^ (60 : Int).toNat) ^ (5 : Int).toNat = 10 ^ 300 := by decide +kernel
theorem pow_a : CPowB 10 60 := by unfold CPowB; decide +kernel
theorem pow_b : CPowB (10 ^ (60 : Int).toNat) 5 := by unfold CPowB; decide +kernel
theorem pow_c : CPowB 10 18 := by unfold CPowB; decide +kernel
theorem perm_erase {α : Type} : ∀ {xs : List α} {n : Nat} {x : α}, xs[n]? = some x → (x :: xs.eraseIdx n).Perm xs
  | [], _, _, h => by cases h
  | y :: ys, 0, x, h => by
    cases h
    exact List.Perm.refl _
  | y :: ys, n + 1, x, h => by
    have := perm_erase (xs := ys) (n := n) (x := x) (by simpa using h)
    exact (List.Perm.swap y x _).trans (this.cons y)
theorem erase_ints (is : List Int) (n : Nat) : (intsD is).eraseIdx n = intsD (is.eraseIdx n) := by
  induction is generalizing n with
  | nil => rfl
  | cons x xs ih =>
    cases n with
    | zero => rfl
    | succ n =>
      show PyData.int x :: (intsD xs).eraseIdx n = PyData.int x :: intsD (xs.eraseIdx n)
      rw [ih]
theorem ite01 {c : Prop} [Decidable c] : (0 : Int) ≤ (if c then 1 else 0) ∧ (if c then (1 : Int) else 0) < 2 ^ 63 := by
  split <;> decide
theorem tnn {n : Nat} (xs : List (Option SV)) (x : Option SV) : (x :: xs).set (n + 1) = fun y => x :: xs.set n y := rfl
theorem ints_app (a b : List Int) : intsD (a ++ b) = intsD a ++ intsD b := List.map_append
theorem ints_len (a : List Int) : (intsD a).length = a.length := List.length_map _
theorem ints_get (a : List Int) (i : Nat) : (intsD a)[i]? = a[i]?.map PyData.int := List.getElem?_map
theorem ints_set (a : List Int) (i : Nat) (z : Int) : (intsD a).set i (.int z) = intsD (a.set i z) := by
  unfold intsD
  rw [List.map_set]
theorem ints_mem {a : List Int} {d : D} (h : d ∈ intsD a) : ∃ z ∈ a, d = .int z := by
  obtain ⟨z, h1, h2⟩ := List.mem_map.mp h
  exact ⟨z, h1, h2.symm⟩
theorem ints_at {a : List Int} {i : Int} {n : Nat} (e : i = (n : Int)) (h : n < a.length) : atI (intsD a) i = some (.int a[n]) := by
  subst e
  unfold atI ixN
  rw [if_pos (by omega), if_pos (by rw [ints_len]; omega)]
  show (intsD a)[((n : Nat) : Int).toNat]? = _
  rw [Int.toNat_natCast, ints_get, List.getElem?_eq_getElem h]
  rfl
theorem ix_nat {i : Int} {n m : Nat} (e : i = (n : Int)) (h : n < m) : ixN m i = some n := by
  subst e
  unfold ixN
  rw [if_pos (by omega), if_pos (by omega), Int.toNat_natCast]
theorem compL_rng {tg own : List Nat} {test : WT} {el : WV} {N : Nat} {kf : List D → Env → Prop} {ρ : Env} (g : Nat → D)
    (hs : ∀ i, i < N → ∀ (k : Env → List D → Prop) acc, k ρ (acc ++ [g i]) →
      bindT tg (.int (i : Nat)) (wipeE ρ own) fun ρ1 => test ρ1 fun b ρ2 => if b = true then el ρ2 fun y ρ3 => k (restore ρ ρ3 own) (acc ++ [y]) else k (restore ρ ρ2 own) acc)
    (he : kf ((List.range N).map g) ρ) : compL tg own test el ((List.range N).map fun i => PyData.int (i : Nat)) ρ [] kf := by
  refine compL_inv (fun i ρ' acc => ρ' = ρ ∧ acc = (List.range i).map g) ⟨rfl, rfl⟩ (fun i x ρ' acc k hx h hk => ?_) fun ρ' acc h => ?_
  · obtain ⟨rfl, rfl⟩ := h
    obtain ⟨hl, e⟩ := List.getElem?_eq_some_iff.mp hx
    rw [List.length_map, List.length_range] at hl
    rw [List.getElem_map, List.getElem_range] at e
    subst e
    refine hs i hl k _ (hk _ _ ⟨rfl, ?_⟩)
    rw [List.range_succ, List.map_append]
    rfl
  · obtain ⟨rfl, rfl⟩ := h
    rw [List.length_map, List.length_range]
    exact he
theorem compL_lst {α : Type} {tg own : List Nat} {test : WT} {el : WV} {xs : List α} {u : α → D} {kf : List D → Env → Prop} {ρ : Env} (g : α → D)
    (hs : ∀ x, x ∈ xs → ∀ (k : Env → List D → Prop) acc, k ρ (acc ++ [g x]) →
      bindT tg (u x) (wipeE ρ own) fun ρ1 => test ρ1 fun b ρ2 => if b = true then el ρ2 fun y ρ3 => k (restore ρ ρ3 own) (acc ++ [y]) else k (restore ρ ρ2 own) acc)
    (he : kf (xs.map g) ρ) : compL tg own test el (xs.map u) ρ [] kf := by
  refine compL_inv (fun i ρ' acc => ρ' = ρ ∧ acc = (xs.take i).map g) ⟨rfl, rfl⟩ (fun i x ρ' acc k hx h hk => ?_) fun ρ' acc h => ?_
  · obtain ⟨rfl, rfl⟩ := h
    obtain ⟨hl, e⟩ := List.getElem?_eq_some_iff.mp hx
    rw [List.length_map] at hl
    rw [List.getElem_map] at e
    subst e
    refine hs _ (List.getElem_mem hl) k _ (hk _ _ ⟨rfl, ?_⟩)
    rw [List.take_add_one, List.map_append, List.getElem?_eq_getElem hl]
    rfl
  · obtain ⟨rfl, rfl⟩ := h
    rw [List.length_map, List.take_length]
    exact he
theorem rng_ints {N : Nat} (h : Nat → Int) : (List.range N).map (fun i => PyData.int (h i)) = intsD ((List.range N).map h) := by
  unfold intsD
  rw [List.map_map]
  rfl
theorem compL_lstf {α : Type} {tg own : List Nat} {test : WT} {el : WV} {xs : List α} {u : α → D} {kf : List D → Env → Prop} {ρ : Env} (g : α → Option D)
    (hs : ∀ x, x ∈ xs → ∀ (k : Env → List D → Prop) acc, k ρ (acc ++ (g x).toList) →
      bindT tg (u x) (wipeE ρ own) fun ρ1 => test ρ1 fun b ρ2 => if b = true then el ρ2 fun y ρ3 => k (restore ρ ρ3 own) (acc ++ [y]) else k (restore ρ ρ2 own) acc)
    (he : kf (xs.filterMap g) ρ) : compL tg own test el (xs.map u) ρ [] kf := by
  refine compL_inv (fun i ρ' acc => ρ' = ρ ∧ acc = (xs.take i).filterMap g) ⟨rfl, rfl⟩ (fun i x ρ' acc k hx h hk => ?_) fun ρ' acc h => ?_
  · obtain ⟨rfl, rfl⟩ := h
    obtain ⟨hl, e⟩ := List.getElem?_eq_some_iff.mp hx
    rw [List.length_map] at hl
    rw [List.getElem_map] at e
    subst e
    refine hs _ (List.getElem_mem hl) k _ (hk _ _ ⟨rfl, ?_⟩)
    rw [List.take_add_one, List.filterMap_append, List.getElem?_eq_getElem hl]
    cases e : g xs[i] <;> simp [e]
  · obtain ⟨rfl, rfl⟩ := h
    rw [List.length_map, List.take_length]
    exact he
theorem sim_nil {k : Env → List D → Prop} {ρ : Env} {acc : List D} (h : k ρ (acc ++ (none : Option D).toList)) : k ρ acc := by
  simpa using h
theorem sim_one {k : Env → List D → Prop} {ρ : Env} {acc : List D} {d : D} (h : k ρ (acc ++ (some d).toList)) : k ρ (acc ++ [d]) := h
theorem cpow3n {i : Int} (h0 : -(2 ^ 62) < i) (h1 : i < 2 ^ 62) : CPowB i 3 := by
  refine ⟨by decide, ?_⟩
  have b : Builtin.Int.intBits i ≤ 100 := by
    unfold Builtin.Int.intBits
    split
    · omega
    · have h2 : i.natAbs < 2 ^ 62 := by omega
      have h3 : i.natAbs ≠ 0 := by
        rename_i h
        intro z
        have : i = 0 := by omega
        subst this
        exact h rfl
      have := (Nat.log2_lt h3).mpr h2
      omega
  have : ((Builtin.Int.intBits i : Nat) : Int) ≤ 100 := by exact_mod_cast b
  have e : (2 : Int) ^ 27 = 134217728 := by decide
  omega
end VL

set_option Elab.async false
set_option linter.all false
set_option maxRecDepth 100000
/-! sums, parities, tables of bits: plain -/
namespace BF

/-! ### sums -/
def S (n : Nat) (f : Nat → Int) : Int := ((List.range n).map f).sum
theorem sum_app (xs ys : List Int) : (xs ++ ys).sum = xs.sum + ys.sum := by
  induction xs with
  | nil => simp
  | cons x xs ih => rw [List.cons_append, List.sum_cons, List.sum_cons, ih, Int.add_assoc]
theorem S_zero (f : Nat → Int) : S 0 f = 0 := rfl
theorem S_succ (n : Nat) (f : Nat → Int) : S (n + 1) f = S n f + f n := by
  unfold S
  rw [List.range_succ, List.map_append, sum_app]
  simp
theorem S_congr {n : Nat} {f g : Nat → Int} (h : ∀ x, x < n → f x = g x) : S n f = S n g := by
  induction n with
  | zero => rfl
  | succ n ih => rw [S_succ, S_succ, ih fun x hx => h x (by omega), h n (by omega)]
theorem S_addf (n : Nat) (f g : Nat → Int) : S n (fun x => f x + g x) = S n f + S n g := by
  induction n with
  | zero => rfl
  | succ n ih => rw [S_succ, S_succ, S_succ, ih]; omega
theorem S_mul (n : Nat) (c : Int) (f : Nat → Int) : S n (fun x => c * f x) = c * S n f := by
  induction n with
  | zero => rw [S_zero, S_zero, Int.mul_zero]
  | succ n ih => rw [S_succ, S_succ, ih, Int.mul_add]
theorem S_mulr (n : Nat) (c : Int) (f : Nat → Int) : S n (fun x => f x * c) = S n f * c := by
  rw [Int.mul_comm, ← S_mul]
  exact S_congr fun x _ => Int.mul_comm _ _
theorem S_const (n : Nat) (c : Int) : S n (fun _ => c) = n * c := by
  induction n with
  | zero => rw [S_zero]; simp
  | succ n ih => rw [S_succ, ih, Int.natCast_succ, Int.add_mul, Int.one_mul]
theorem S_comm (n m : Nat) (f : Nat → Nat → Int) : S n (fun x => S m (fun y => f x y)) = S m (fun y => S n (fun x => f x y)) := by
  induction n with
  | zero => rw [S_zero]; show 0 = S m (fun _ => 0); rw [S_const, Int.mul_zero]
  | succ n ih =>
    rw [S_succ, ih, ← S_addf]
    exact S_congr fun y _ => (S_succ n fun x => f x y).symm
theorem S_le {n : Nat} {f g : Nat → Int} (h : ∀ x, x < n → f x ≤ g x) : S n f ≤ S n g := by
  induction n with
  | zero => exact Int.le_refl _
  | succ n ih =>
    have h1 := ih fun x hx => h x (by omega)
    have h2 := h n (by omega)
    rw [S_succ, S_succ]
    omega
theorem S_prod (n m : Nat) (f g : Nat → Int) : S n f * S m g = S n fun x => S m fun y => f x * g y := by
  rw [← S_mulr]
  exact S_congr fun x _ => (S_mul m (f x) g).symm
theorem S_app (a b : Nat) (f : Nat → Int) : S (a + b) f = S a f + S b fun u => f (a + u) := by
  induction b with
  | zero => rw [S_zero]; simp
  | succ b ih => rw [← Nat.add_assoc, S_succ, ih, S_succ]; omega
/-- a sum of blocks -/
theorem S_block (a b : Nat) (f : Nat → Int) : S (a * b) f = S a fun i => S b fun j => f (i * b + j) := by
  induction a with
  | zero => rw [Nat.zero_mul]; rfl
  | succ a ih => rw [Nat.succ_mul, S_app, ih, S_succ]
theorem S_delta {n x : Nat} (hx : x < n) (g : Nat → Int) : S n (fun y => if x = y then g y else 0) = g x := by
  induction n with
  | zero => omega
  | succ n ih =>
    rw [S_succ]
    by_cases e : x = n
    · subst e
      rw [if_pos rfl]
      have : S x (fun y => if x = y then g y else 0) = S x fun _ => 0 := S_congr fun y hy => if_neg (by omega)
      rw [this, S_const]
      omega
    · rw [ih (by omega), if_neg e]
      omega
/-! ### the same numbers in another order -/
theorem nodup_le : ∀ {n : Nat} {l : List Nat}, l.Nodup → (∀ x ∈ l, x < n) → l.length ≤ n
  | 0, l, _, h => by
    cases l with
    | nil => exact Nat.le_refl _
    | cons x l => exact absurd (h x List.mem_cons_self) (by omega)
  | n + 1, l, nd, h => by
    have h1 := nodup_le (n := n) (l := l.erase n) (nd.erase n) fun x hx => by
      have h2 := h x (List.mem_of_mem_erase hx)
      have h3 : x ≠ n := fun e => by
        subst e
        exact nd.not_mem_erase hx
      omega
    by_cases hn : n ∈ l
    · have := List.length_erase_of_mem hn
      omega
    · rw [List.erase_of_not_mem hn] at h1
      omega
theorem perm_range : ∀ {n : Nat} {l : List Nat}, l.Nodup → (∀ x ∈ l, x < n) → l.length = n → l.Perm (List.range n)
  | 0, l, _, _, e => by
    rw [List.length_eq_zero_iff.mp e]
    exact List.Perm.refl _
  | n + 1, l, nd, h, e => by
    have lt : ∀ x ∈ l.erase n, x < n := fun x hx => by
      have h2 := h x (List.mem_of_mem_erase hx)
      have h3 : x ≠ n := fun e => by
        subst e
        exact nd.not_mem_erase hx
      omega
    have hn : n ∈ l := by
      by_cases hn : n ∈ l
      · exact hn
      · have := nodup_le (n := n) (l := l.erase n) (nd.erase n) lt
        rw [List.erase_of_not_mem hn] at this
        omega
    have h1 := perm_range (n := n) (l := l.erase n) (nd.erase n) lt (by rw [List.length_erase_of_mem hn]; omega)
    rw [List.range_succ]
    exact (List.perm_cons_erase hn).trans ((h1.cons n).trans (List.perm_append_singleton n _).symm)
theorem sum_perm {xs ys : List Int} (h : xs.Perm ys) : xs.sum = ys.sum := by
  induction h with
  | nil => rfl
  | cons x _ ih => rw [List.sum_cons, List.sum_cons, ih]
  | swap x y l => rw [List.sum_cons, List.sum_cons, List.sum_cons, List.sum_cons]; omega
  | trans _ _ a b => exact a.trans b
theorem nodup_map {A : Nat → Nat} : ∀ {l : List Nat}, l.Nodup → (∀ x ∈ l, ∀ y ∈ l, A x = A y → x = y) → (l.map A).Nodup
  | [], _, _ => List.nodup_nil
  | x :: l, nd, h => by
    rw [List.map_cons, List.nodup_cons]
    rw [List.nodup_cons] at nd
    refine ⟨fun m => ?_, nodup_map nd.2 fun a ha b hb => h a (List.mem_cons_of_mem _ ha) b (List.mem_cons_of_mem _ hb)⟩
    obtain ⟨y, hy, e⟩ := List.mem_map.mp m
    have := h y (List.mem_cons_of_mem _ hy) x List.mem_cons_self e
    subst this
    exact nd.1 hy
theorem S_perm {n : Nat} {A : Nat → Nat} (hA : ∀ x, x < n → A x < n) (inj : ∀ x y, x < n → y < n → A x = A y → x = y) (f : Nat → Int) : S n (fun x => f (A x)) = S n f := by
  have p : ((List.range n).map A).Perm (List.range n) := perm_range (nodup_map List.nodup_range fun x hx y hy => inj x y (List.mem_range.mp hx) (List.mem_range.mp hy)) (fun x hx => by
    obtain ⟨y, hy, rfl⟩ := List.mem_map.mp hx
    exact hA y (List.mem_range.mp hy)) (by simp)
  have := sum_perm (p.map f)
  rw [List.map_map] at this
  exact this

/-! ### parities -/
def par : Nat → Nat → Bool
  | 0, _ => false
  | k + 1, n => par k n ^^ n.testBit k
theorem par_xor (k a b : Nat) : par k (a ^^^ b) = (par k a ^^ par k b) := by
  induction k with
  | zero => rfl
  | succ k ih =>
    unfold par
    rw [ih, Nat.testBit_xor]
    cases par k a <;> cases par k b <;> cases a.testBit k <;> cases b.testBit k <;> rfl
theorem par_zero (k : Nat) : par k 0 = false := by
  induction k with
  | zero => rfl
  | succ k ih => unfold par; rw [ih, Nat.zero_testBit]; rfl
theorem par_two {i : Nat} : ∀ {k : Nat}, par k (2 ^ i) = decide (i < k)
  | 0 => by simp [par]
  | k + 1 => by
    unfold par
    rw [par_two (k := k), Nat.testBit_two_pow]
    by_cases h : i = k
    · subst h; simp
    · by_cases h2 : i < k <;> simp [h, h2] <;> omega
theorem par_high {n k : Nat} (h : n < 2 ^ k) : ∀ j, par (k + j) n = par k n
  | 0 => rfl
  | j + 1 => by
    show (par (k + j) n ^^ n.testBit (k + j)) = _
    rw [par_high h j, Nat.testBit_lt_two_pow (Nat.lt_of_lt_of_le h (Nat.pow_le_pow_right (by decide) (by omega)))]
    cases par k n <;> rfl
def sg (b : Bool) : Int := if b = true then -1 else 1
theorem sg_xor (a b : Bool) : sg (a ^^ b) = sg a * sg b := by
  cases a <;> cases b <;> rfl
theorem sg_sq (a : Bool) : sg a * sg a = 1 := by
  cases a <;> rfl
def ch (m x : Nat) : Int := sg (par 9 (m &&& x))
theorem ch_comm (m x : Nat) : ch m x = ch x m := by
  unfold ch
  rw [Nat.and_comm]
theorem and_xor (m x y : Nat) : m &&& (x ^^^ y) = (m &&& x) ^^^ (m &&& y) := by
  apply Nat.eq_of_testBit_eq
  intro i
  simp only [Nat.testBit_and, Nat.testBit_xor]
  cases m.testBit i <;> cases x.testBit i <;> cases y.testBit i <;> rfl
theorem ch_xor (m x y : Nat) : ch m (x ^^^ y) = ch m x * ch m y := by
  unfold ch
  rw [and_xor, par_xor, sg_xor]
theorem ch_xorl (m k x : Nat) : ch (m ^^^ k) x = ch m x * ch k x := by
  rw [ch_comm, ch_xor, ch_comm x m, ch_comm x k]
theorem ch_zero (m : Nat) : ch m 0 = 1 := by
  unfold ch
  rw [Nat.and_zero, par_zero]
  rfl
theorem ch_sq (m x : Nat) : ch m x * ch m x = 1 := sg_sq _
theorem xor_add (a : Nat) : ∀ b : Nat, (a ^^^ b) + 2 * (a &&& b) = a + b := by
  induction a using Nat.strongRecOn with
  | _ a ih =>
    intro b
    by_cases ha : a = 0
    · subst ha
      simp
    · have h := ih (a / 2) (by omega) (b / 2)
      have e1 : (a ^^^ b) / 2 = a / 2 ^^^ b / 2 := Nat.xor_div_two
      have e2 : (a &&& b) / 2 = a / 2 &&& b / 2 := Nat.and_div_two
      have e3 : (a ^^^ b) % 2 = (a % 2 + b % 2) % 2 := by
        have t := Nat.testBit_xor a b 0
        simp only [Nat.testBit_zero] at t
        have ha2 : a % 2 = 0 ∨ a % 2 = 1 := by omega
        have hb2 : b % 2 = 0 ∨ b % 2 = 1 := by omega
        have hc2 : (a ^^^ b) % 2 = 0 ∨ (a ^^^ b) % 2 = 1 := by omega
        rcases ha2 with x | x <;> rcases hb2 with y | y <;> rcases hc2 with z | z <;> simp [x, y, z] at t ⊢
      have e4 : (a &&& b) % 2 = (a % 2) * (b % 2) := by
        have t := Nat.testBit_and a b 0
        simp only [Nat.testBit_zero] at t
        have ha2 : a % 2 = 0 ∨ a % 2 = 1 := by omega
        have hb2 : b % 2 = 0 ∨ b % 2 = 1 := by omega
        have hc2 : (a &&& b) % 2 = 0 ∨ (a &&& b) % 2 = 1 := by omega
        rcases ha2 with x | x <;> rcases hb2 with y | y <;> rcases hc2 with z | z <;> simp [x, y, z] at t ⊢
      have ha2 : a % 2 = 0 ∨ a % 2 = 1 := by omega
      have hb2 : b % 2 = 0 ∨ b % 2 = 1 := by omega
      rcases ha2 with x | x <;> rcases hb2 with y | y <;> rw [x, y] at e4 <;> omega
theorem xor_lt {n x y : Nat} (hx : x < 2 ^ n) (hy : y < 2 ^ n) : x ^^^ y < 2 ^ n := Nat.xor_lt_two_pow hx hy
theorem xor_cancel (x y : Nat) : x ^^^ (x ^^^ y) = y := by rw [← Nat.xor_assoc, Nat.xor_self, Nat.zero_xor]
/-- the sum over x ^ a -/
theorem S_xor {n a : Nat} (ha : a < 2 ^ n) (f : Nat → Int) : S (2 ^ n) (fun x => f (a ^^^ x)) = S (2 ^ n) f :=
  S_perm (fun x hx => xor_lt ha hx) (fun x y _ _ e => by
    have := congrArg (a ^^^ ·) e
    simp only [xor_cancel] at this
    exact this) f
theorem S_ch {n z : Nat} (hn : n ≤ 9) (hz : z < 2 ^ n) : S (2 ^ n) (fun m => ch m z) = if z = 0 then ((2 ^ n : Nat) : Int) else 0 := by
  by_cases h : z = 0
  · subst h
    rw [if_pos rfl]
    have : S (2 ^ n) (fun m => ch m 0) = S (2 ^ n) fun _ => 1 := S_congr fun m _ => ch_zero m
    rw [this, S_const, Int.mul_one]
  · rw [if_neg h]
    obtain ⟨i, hi⟩ := Nat.exists_testBit_of_ne_zero h
    have hin : i < n := by
      by_cases q : i < n
      · exact q
      · rw [Nat.testBit_lt_two_pow (Nat.lt_of_lt_of_le hz (Nat.pow_le_pow_right (by decide) (by omega)))] at hi
        cases hi
    have e : ch (2 ^ i) z = -1 := by
      have : 2 ^ i &&& z = 2 ^ i := by
        apply Nat.eq_of_testBit_eq
        intro j
        rw [Nat.testBit_and, Nat.testBit_two_pow]
        by_cases q : i = j
        · subst q; simp [hi]
        · simp [q]
      unfold ch
      rw [this, par_two, decide_eq_true (by omega)]
      rfl
    have h1 := S_xor (n := n) (a := 2 ^ i) (Nat.pow_lt_pow_right (by decide) hin) fun m => ch m z
    have h2 : S (2 ^ n) (fun x => ch (2 ^ i ^^^ x) z) = S (2 ^ n) fun x => -1 * ch x z := S_congr fun x _ => by rw [ch_xorl, e]
    rw [h2, S_mul] at h1
    omega

/-! ### transforms -/
def W (n : Nat) (f : Nat → Int) (m : Nat) : Int := S (2 ^ n) fun x => ch m x * f x
theorem W_mul {n : Nat} (f g : Nat → Int) (m : Nat) : W n f m * W n g m = S (2 ^ n) fun x => S (2 ^ n) fun y => ch m (x ^^^ y) * (f x * g y) := by
  unfold W
  rw [S_prod]
  refine S_congr fun x _ => S_congr fun y _ => ?_
  rw [ch_xor]
  simp only [Int.mul_assoc, Int.mul_left_comm, Int.mul_comm]
theorem W_pars {n : Nat} (hn : n ≤ 9) (f g : Nat → Int) : S (2 ^ n) (fun m => W n f m * W n g m) = ((2 ^ n : Nat) : Int) * S (2 ^ n) fun x => f x * g x := by
  have h1 : S (2 ^ n) (fun m => W n f m * W n g m) = S (2 ^ n) fun x => S (2 ^ n) fun y => S (2 ^ n) (fun m => ch m (x ^^^ y)) * (f x * g y) := by
    rw [S_congr fun m _ => W_mul f g m, S_comm]
    refine S_congr fun x _ => ?_
    rw [S_comm]
    exact S_congr fun y _ => S_mulr _ _ _
  rw [h1, ← S_mul]
  refine S_congr fun x hx => ?_
  have h2 : S (2 ^ n) (fun y => S (2 ^ n) (fun m => ch m (x ^^^ y)) * (f x * g y)) = S (2 ^ n) fun y => if x = y then ((2 ^ n : Nat) : Int) * (f x * g y) else 0 := S_congr fun y hy => by
    rw [S_ch hn (xor_lt hx hy)]
    by_cases e : x = y
    · subst e
      rw [Nat.xor_self, if_pos rfl, if_pos rfl]
    · rw [if_neg e, if_neg fun z => e (by
        have := congrArg (x ^^^ ·) z
        simp only [xor_cancel, Nat.xor_zero] at this
        exact this.symm), Int.zero_mul]
  rw [h2, S_delta hx fun y => ((2 ^ n : Nat) : Int) * (f x * g y)]
def conv (n : Nat) (f g : Nat → Int) (z : Nat) : Int := S (2 ^ n) fun x => f x * g (x ^^^ z)
theorem W_conv {n : Nat} (f g : Nat → Int) (m : Nat) : W n f m * W n g m = W n (conv n f g) m := by
  rw [W_mul]
  unfold W conv
  have h : S (2 ^ n) (fun z => ch m z * S (2 ^ n) fun x => f x * g (x ^^^ z)) = S (2 ^ n) fun z => S (2 ^ n) fun x => ch m z * (f x * g (x ^^^ z)) := S_congr fun z _ => (S_mul _ _ _).symm
  rw [h, S_comm (2 ^ n) (2 ^ n) fun z x => ch m z * (f x * g (x ^^^ z))]
  refine S_congr fun x hx => ?_
  rw [← S_xor hx fun z => ch m z * (f x * g (x ^^^ z))]
  refine S_congr fun y _ => ?_
  rw [xor_cancel]
/-- f x f (x ^ z) f z -/
def TF (n : Nat) (f : Nat → Int) : Int := S (2 ^ n) fun z => conv n f f z * f z
theorem W_cubes {n : Nat} (hn : n ≤ 9) (f : Nat → Int) : S (2 ^ n) (fun m => W n f m * W n f m * W n f m) = ((2 ^ n : Nat) : Int) * TF n f := by
  rw [S_congr fun m _ => by rw [W_conv f f m], W_pars hn]
  rfl

/-! ### tables of bits -/
def b2i (b : Bool) : Int := if b = true then 1 else 0
theorem b2i_sg (b : Bool) : 2 * b2i b = 1 - sg b := by cases b <;> rfl
theorem b2i_01 (b : Bool) : 0 ≤ b2i b ∧ b2i b ≤ 1 := by cases b <;> decide
/-- how far a table lies from a straight one -/
def hd (n : Nat) (b : Nat → Bool) (m : Nat) : Int := S (2 ^ n) fun x => b2i (b x ^^ par 9 (m &&& x))
theorem S_two {N : Nat} {f g : Nat → Int} (h : ∀ x, x < N → 2 * f x = 1 - g x) : 2 * S N f = N - S N g := by
  rw [← S_mul, S_congr h]
  have := S_addf N (fun x => 1 - g x) g
  have e : S N (fun x => 1 - g x + g x) = N := by
    rw [S_congr (g := fun _ => 1) fun x _ => by omega, S_const, Int.mul_one]
  omega
theorem hd_W (n : Nat) (b : Nat → Bool) (m : Nat) : 2 * hd n b m = ((2 ^ n : Nat) : Int) - W n (fun x => sg (b x)) m := by
  unfold hd W
  refine S_two fun x _ => ?_
  rw [b2i_sg, sg_xor, Int.mul_comm]
  rfl
def onesF (n : Nat) (b : Nat → Bool) (p : Nat) : Int := S (2 ^ n) fun o => b2i (b (p ^^^ o) ^^ b o)
def letF (n : Nat) (b : Nat → Bool) : Int := S (2 ^ n) fun p => S (2 ^ n) fun o => 1 - b2i (b p ^^ (b (p ^^^ o) ^^ b o))
theorem let_ones (n : Nat) (b : Nat → Bool) : letF n b = S (2 ^ n) fun p => if b p = true then onesF n b p else ((2 ^ n : Nat) : Int) - onesF n b p := by
  refine S_congr fun p _ => ?_
  cases h : b p
  · rw [if_neg Bool.false_ne_true]
    have := S_addf (2 ^ n) (fun o => 1 - b2i (false ^^ (b (p ^^^ o) ^^ b o))) fun o => b2i (b (p ^^^ o) ^^ b o)
    have e : S (2 ^ n) (fun o => 1 - b2i (false ^^ (b (p ^^^ o) ^^ b o)) + b2i (b (p ^^^ o) ^^ b o)) = ((2 ^ n : Nat) : Int) := by
      rw [S_congr (g := fun _ => 1) fun x _ => by rw [Bool.false_xor]; omega, S_const, Int.mul_one]
    unfold onesF
    omega
  · rw [if_pos rfl]
    refine S_congr fun o _ => ?_
    cases b (p ^^^ o) <;> cases b o <;> rfl
theorem let_TF (n : Nat) (b : Nat → Bool) : 2 * letF n b = ((2 ^ n : Nat) : Int) * ((2 ^ n : Nat) : Int) + TF n fun x => sg (b x) := by
  have h : 2 * letF n b = S (2 ^ n) fun p => ((2 ^ n : Nat) : Int) + conv n (fun x => sg (b x)) (fun x => sg (b x)) p * sg (b p) := by
    unfold letF
    rw [← S_mul]
    refine S_congr fun p _ => ?_
    rw [← S_mul]
    have e : S (2 ^ n) (fun o => 2 * (1 - b2i (b p ^^ (b (p ^^^ o) ^^ b o)))) = S (2 ^ n) fun o => 1 + sg (b o) * sg (b (o ^^^ p)) * sg (b p) := S_congr fun o _ => by
      rw [Int.mul_sub, b2i_sg, sg_xor, sg_xor, Nat.xor_comm p o, Int.mul_comm (sg (b p)), Int.mul_comm (sg (b (o ^^^ p)))]
      omega
    rw [e, S_addf, S_const, Int.mul_one, S_mulr]
    rfl
  rw [h, S_addf, S_const]
  rfl
theorem let_cubes {n : Nat} (hn : n ≤ 9) (b : Nat → Bool) : 2 * ((2 ^ n : Nat) : Int) * letF n b = ((2 ^ n : Nat) : Int) * ((2 ^ n : Nat) : Int) * ((2 ^ n : Nat) : Int) + S (2 ^ n) fun m => (((2 ^ n : Nat) : Int) - 2 * hd n b m) * (((2 ^ n : Nat) : Int) - 2 * hd n b m) * (((2 ^ n : Nat) : Int) - 2 * hd n b m) := by
  have e : S (2 ^ n) (fun m => (((2 ^ n : Nat) : Int) - 2 * hd n b m) * (((2 ^ n : Nat) : Int) - 2 * hd n b m) * (((2 ^ n : Nat) : Int) - 2 * hd n b m)) = S (2 ^ n) fun m => W n (fun x => sg (b x)) m * W n (fun x => sg (b x)) m * W n (fun x => sg (b x)) m := S_congr fun m _ => by
    have : ((2 ^ n : Nat) : Int) - 2 * hd n b m = W n (fun x => sg (b x)) m := by rw [hd_W]; omega
    rw [this]
  rw [e, W_cubes hn]
  have h := let_TF n b
  have : 2 * ((2 ^ n : Nat) : Int) * letF n b = ((2 ^ n : Nat) : Int) * (2 * letF n b) := by simp only [Int.mul_assoc, Int.mul_left_comm, Int.mul_comm]
  rw [this, h, Int.mul_add, Int.mul_assoc]
theorem let_bound {n : Nat} (hn : n ≤ 9) (b : Nat → Bool) {l : Int} (hl : ∀ m, m < 2 ^ n → l ≤ hd n b m) : ((2 ^ n : Nat) : Int) * l ≤ ((2 ^ n : Nat) : Int) * ((2 ^ n : Nat) : Int) - letF n b := by
  have hN : 0 < ((2 ^ n : Nat) : Int) := by
    have := Nat.two_pow_pos n
    omega
  have h1 : S (2 ^ n) (fun m => W n (fun x => sg (b x)) m * W n (fun x => sg (b x)) m * W n (fun x => sg (b x)) m) ≤ S (2 ^ n) fun m => (((2 ^ n : Nat) : Int) - 2 * l) * (W n (fun x => sg (b x)) m * W n (fun x => sg (b x)) m) := S_le fun m hm => by
    have h2 := hd_W n b m
    have h3 := hl m hm
    have h4 : W n (fun x => sg (b x)) m ≤ ((2 ^ n : Nat) : Int) - 2 * l := by omega
    have h5 : 0 ≤ W n (fun x => sg (b x)) m * W n (fun x => sg (b x)) m := by
      rcases Int.le_total 0 (W n (fun x => sg (b x)) m) with z | z
      · exact Int.mul_nonneg z z
      · exact Int.mul_nonneg_of_nonpos_of_nonpos z z
    rw [Int.mul_comm]
    exact Int.mul_le_mul_of_nonneg_right h4 h5
  rw [W_cubes hn, S_mul, W_pars hn] at h1
  have e : S (2 ^ n) (fun x => sg (b x) * sg (b x)) = ((2 ^ n : Nat) : Int) := by
    rw [S_congr (g := fun _ => 1) fun x _ => sg_sq _, S_const, Int.mul_one]
  rw [e] at h1
  have h6 : ((2 ^ n : Nat) : Int) * TF n (fun x => sg (b x)) ≤ ((2 ^ n : Nat) : Int) * ((((2 ^ n : Nat) : Int) - 2 * l) * ((2 ^ n : Nat) : Int)) := by
    have : (((2 ^ n : Nat) : Int) - 2 * l) * (((2 ^ n : Nat) : Int) * ((2 ^ n : Nat) : Int)) = ((2 ^ n : Nat) : Int) * ((((2 ^ n : Nat) : Int) - 2 * l) * ((2 ^ n : Nat) : Int)) := by simp only [Int.mul_assoc, Int.mul_left_comm, Int.mul_comm]
    rw [← this]
    exact h1
  have h7 := Int.le_of_mul_le_mul_left h6 hN
  have h8 := let_TF n b
  rw [Int.sub_mul, Int.mul_assoc, Int.mul_comm l] at h7
  generalize ((2 ^ n : Nat) : Int) * l = x at *
  generalize ((2 ^ n : Nat) : Int) * ((2 ^ n : Nat) : Int) = y at *
  omega
end BF

set_option Elab.async false
set_option linter.all false
set_option maxRecDepth 100000
namespace BF

/-! ### mended -/
theorem ones_near {n : Nat} (b : Nat → Bool) {m p : Nat} (hm : p < 2 ^ n) : S (2 ^ n) (fun o => b2i ((b (p ^^^ o) ^^ b o) ^^ par 9 (m &&& p))) ≤ 2 * hd n b m := by
  have h1 : S (2 ^ n) (fun o => b2i (b (p ^^^ o) ^^ par 9 (m &&& (p ^^^ o)))) = hd n b m := S_xor hm fun x => b2i (b x ^^ par 9 (m &&& x))
  have h2 : S (2 ^ n) (fun o => b2i ((b (p ^^^ o) ^^ b o) ^^ par 9 (m &&& p))) ≤ S (2 ^ n) fun o => b2i (b (p ^^^ o) ^^ par 9 (m &&& (p ^^^ o))) + b2i (b o ^^ par 9 (m &&& o)) := S_le fun o _ => by
    rw [and_xor, par_xor]
    generalize par 9 (m &&& p) = x
    generalize par 9 (m &&& o) = y
    generalize b (p ^^^ o) = z
    generalize b o = w
    cases x <;> cases y <;> cases z <;> cases w <;> decide
  rw [S_addf, h1] at h2
  have : S (2 ^ n) (fun o => b2i (b o ^^ par 9 (m &&& o))) = hd n b m := rfl
  omega
theorem mend_far {n : Nat} (b : Nat → Bool) {m p : Nat} (hp : p < 2 ^ n) (h : 4 * hd n b m < ((2 ^ n : Nat) : Int)) : (par 9 (m &&& p) = false → 2 * onesF n b p < ((2 ^ n : Nat) : Int)) ∧ (par 9 (m &&& p) = true → ((2 ^ n : Nat) : Int) < 2 * onesF n b p) := by
  have h1 := ones_near (n := n) b (m := m) hp
  refine ⟨fun e => ?_, fun e => ?_⟩
  · have : S (2 ^ n) (fun o => b2i ((b (p ^^^ o) ^^ b o) ^^ par 9 (m &&& p))) = onesF n b p := S_congr fun o _ => by rw [e, Bool.xor_false]
    omega
  · have : S (2 ^ n) (fun o => b2i ((b (p ^^^ o) ^^ b o) ^^ par 9 (m &&& p))) + onesF n b p = ((2 ^ n : Nat) : Int) := by
      unfold onesF
      rw [← S_addf, S_congr (g := fun _ => 1) fun o _ => by
        rw [e]
        cases b (p ^^^ o) <;> cases b o <;> rfl, S_const, Int.mul_one]
    omega

/-! ### added straight tables, the other bits -/
theorem hd_added (n : Nat) (b : Nat → Bool) (k m : Nat) : hd n (fun x => b x ^^ par 9 (x &&& k)) m = hd n b (m ^^^ k) := by
  refine S_congr fun x _ => ?_
  dsimp only
  rw [Nat.and_comm (m ^^^ k), and_xor, par_xor, Nat.and_comm x m]
  congr 1
  cases b x <;> cases par 9 (x &&& k) <;> cases par 9 (m &&& x) <;> rfl
theorem let_added (n : Nat) (b : Nat → Bool) (k : Nat) : letF n (fun x => b x ^^ par 9 (x &&& k)) = letF n b := by
  refine S_congr fun p _ => S_congr fun o _ => ?_
  dsimp only
  rw [Nat.and_comm (p ^^^ o), and_xor, par_xor, Nat.and_comm k p, Nat.and_comm k o]
  congr 2
  cases b p <;> cases par 9 (p &&& k) <;> cases b (p ^^^ o) <;> cases par 9 (o &&& k) <;> cases b o <;> rfl
theorem hd_not (n : Nat) (b : Nat → Bool) (m : Nat) : hd n (fun x => !b x) m = ((2 ^ n : Nat) : Int) - hd n b m := by
  have : hd n (fun x => !b x) m + hd n b m = ((2 ^ n : Nat) : Int) := by
    unfold hd
    rw [← S_addf, S_congr (g := fun _ => 1) fun x _ => by dsimp only; cases b x <;> cases par 9 (m &&& x) <;> rfl, S_const, Int.mul_one]
  omega

/-! ### linear maps -/
theorem hd_map {n : Nat} {A : Nat → Nat} {k m : Nat} (hA : ∀ x, x < 2 ^ n → A x < 2 ^ n) (inj : ∀ x y, x < 2 ^ n → y < 2 ^ n → A x = A y → x = y) (b : Nat → Bool) (h : ∀ x, x < 2 ^ n → par 9 (m &&& x) = par 9 (k &&& A x)) : hd n (fun x => b (A x)) m = hd n b k := by
  unfold hd
  rw [← S_perm hA inj fun x => b2i (b x ^^ par 9 (k &&& x))]
  exact S_congr fun x hx => by rw [h x hx]
theorem let_map {n : Nat} {A : Nat → Nat} (hA : ∀ x, x < 2 ^ n → A x < 2 ^ n) (inj : ∀ x y, x < 2 ^ n → y < 2 ^ n → A x = A y → x = y) (b : Nat → Bool) (h : ∀ x y, x < 2 ^ n → y < 2 ^ n → A (x ^^^ y) = A x ^^^ A y) : letF n (fun x => b (A x)) = letF n b := by
  unfold letF
  rw [← S_perm hA inj fun p => S (2 ^ n) fun o => 1 - b2i (b p ^^ (b (p ^^^ o) ^^ b o))]
  refine S_congr fun p hp => ?_
  rw [← S_perm hA inj fun o => 1 - b2i (b (A p) ^^ (b (A p ^^^ o) ^^ b o))]
  exact S_congr fun o ho => by dsimp only; rw [h p o hp ho]
/-- one bit added to another -/
def shear (i j : Nat) (x : Nat) : Nat := x ^^^ (if x.testBit j = true then 2 ^ i else 0)
theorem two_lt {i n : Nat} (h : i < n) : 2 ^ i < 2 ^ n := Nat.pow_lt_pow_right (by decide) h
theorem shear_lt {n i j x : Nat} (hi : i < n) (hx : x < 2 ^ n) : shear i j x < 2 ^ n := by
  unfold shear
  refine xor_lt hx ?_
  split
  · exact two_lt hi
  · exact Nat.two_pow_pos n
theorem shear_bit {i j x : Nat} (h : i ≠ j) : (shear i j x).testBit j = x.testBit j := by
  unfold shear
  rw [Nat.testBit_xor]
  split
  · rw [Nat.testBit_two_pow]
    simp [h]
  · rw [Nat.zero_testBit, Bool.xor_false]
theorem shear_two {i j x : Nat} (h : i ≠ j) : shear i j (shear i j x) = x := by
  have e := shear_bit (x := x) h
  show shear i j x ^^^ (if (shear i j x).testBit j = true then 2 ^ i else 0) = x
  rw [e]
  unfold shear
  rw [Nat.xor_assoc, Nat.xor_self, Nat.xor_zero]
theorem shear_inj {i j x y : Nat} (h : i ≠ j) (e : shear i j x = shear i j y) : x = y := by
  rw [← shear_two (x := x) h, e, shear_two h]
theorem shear_xor (i j x y : Nat) : shear i j (x ^^^ y) = shear i j x ^^^ shear i j y := by
  unfold shear
  rw [Nat.testBit_xor]
  have sw : ∀ a b c d : Nat, (a ^^^ b) ^^^ (c ^^^ d) = (a ^^^ c) ^^^ (b ^^^ d) := fun a b c d => by
    rw [Nat.xor_assoc, Nat.xor_assoc, ← Nat.xor_assoc b, Nat.xor_comm b c, Nat.xor_assoc c]
  rw [sw]
  congr 1
  cases x.testBit j <;> cases y.testBit j <;> simp
theorem par_bit {i x : Nat} (h : i < 9) : par 9 (2 ^ i &&& x) = x.testBit i := by
  cases q : x.testBit i
  · have : 2 ^ i &&& x = 0 := by
      apply Nat.eq_of_testBit_eq
      intro j
      rw [Nat.testBit_and, Nat.testBit_two_pow, Nat.zero_testBit]
      by_cases e : i = j
      · subst e; simp [q]
      · simp [e]
    rw [this, par_zero]
  · have : 2 ^ i &&& x = 2 ^ i := by
      apply Nat.eq_of_testBit_eq
      intro j
      rw [Nat.testBit_and, Nat.testBit_two_pow]
      by_cases e : i = j
      · subst e; simp [q]
      · simp [e]
    rw [this, par_two, decide_eq_true h]
theorem shear_par {i j m x : Nat} (hi : i < 9) (hj : j < 9) (h : i ≠ j) : par 9 (m &&& x) = par 9 (shear j i m &&& shear i j x) := by
  have e1 : par 9 (shear j i m &&& shear i j x) = (par 9 (m &&& shear i j x) ^^ par 9 ((if m.testBit i = true then 2 ^ j else 0) &&& shear i j x)) := by
    conv => lhs; unfold shear
    rw [Nat.and_comm, and_xor, par_xor, Nat.and_comm _ m, Nat.and_comm _ (if m.testBit i = true then 2 ^ j else 0)]
    rfl
  have e2 : par 9 (m &&& shear i j x) = (par 9 (m &&& x) ^^ par 9 (m &&& (if x.testBit j = true then 2 ^ i else 0))) := by
    unfold shear
    rw [and_xor, par_xor]
  have e3 : par 9 (m &&& (if x.testBit j = true then 2 ^ i else 0)) = (x.testBit j && m.testBit i) := by
    split
    · rename_i q
      rw [Nat.and_comm, par_bit hi, q, Bool.true_and]
    · rename_i q
      rw [Nat.and_zero, par_zero]
      cases z : x.testBit j
      · rfl
      · exact absurd z q
  have e4 : par 9 ((if m.testBit i = true then 2 ^ j else 0) &&& shear i j x) = (m.testBit i && x.testBit j) := by
    split
    · rename_i q
      rw [par_bit hj, shear_bit h, q, Bool.true_and]
    · rename_i q
      rw [Nat.zero_and, par_zero]
      cases z : m.testBit i
      · rfl
      · exact absurd z q
  rw [e1, e2, e3, e4]
  cases par 9 (m &&& x) <;> cases x.testBit j <;> cases m.testBit i <;> rfl

/-! ### the bits in another order -/
/-- the sum of 2 ^ order[at] over the bits of x -/
def mov (n : Nat) (o : Nat → Nat) (x : Nat) : Nat := (List.range n).foldl (fun a t => a ^^^ (if x.testBit t = true then 2 ^ o t else 0)) 0
theorem mov_succ (n : Nat) (o : Nat → Nat) (x : Nat) : mov (n + 1) o x = mov n o x ^^^ (if x.testBit n = true then 2 ^ o n else 0) := by
  unfold mov
  rw [List.range_succ, List.foldl_append]
  rfl
theorem mov_out {n : Nat} {o : Nat → Nat} {x j : Nat} (h : ∀ t, t < n → o t ≠ j) : (mov n o x).testBit j = false := by
  induction n with
  | zero => exact Nat.zero_testBit j
  | succ n ih =>
    rw [mov_succ, Nat.testBit_xor, ih fun t ht => h t (by omega)]
    split
    · rw [Nat.testBit_two_pow]
      simp [h n (by omega)]
    · rw [Nat.zero_testBit]; rfl
theorem mov_bit {n : Nat} {o : Nat → Nat} {x t : Nat} (inj : ∀ s t, s < n → t < n → o s = o t → s = t) (ht : t < n) : (mov n o x).testBit (o t) = x.testBit t := by
  induction n with
  | zero => omega
  | succ n ih =>
    rw [mov_succ, Nat.testBit_xor]
    by_cases e : t = n
    · subst e
      rw [mov_out fun s hs e => by have := inj s t (by omega) (by omega) e; omega]
      cases q : x.testBit t
      · simp
      · simp [Nat.testBit_two_pow]
    · rw [ih (fun a b ha hb => inj a b (by omega) (by omega)) (by omega)]
      have ne : ¬ o n = o t := fun z => e (inj t n (by omega) (by omega) z.symm)
      split
      · rw [Nat.testBit_two_pow]
        simp [ne]
      · rw [Nat.zero_testBit, Bool.xor_false]
theorem mov_lt {n N : Nat} {o : Nat → Nat} {x : Nat} (h : ∀ t, t < n → o t < N) : mov n o x < 2 ^ N := by
  induction n with
  | zero => exact Nat.two_pow_pos N
  | succ n ih =>
    rw [mov_succ]
    refine xor_lt (ih fun t ht => h t (by omega)) ?_
    split
    · exact two_lt (h n (by omega))
    · exact Nat.two_pow_pos N
theorem mov_xor (n : Nat) (o : Nat → Nat) (x y : Nat) : mov n o (x ^^^ y) = mov n o x ^^^ mov n o y := by
  induction n with
  | zero => show 0 = 0 ^^^ 0; simp
  | succ n ih =>
    rw [mov_succ, mov_succ, mov_succ, ih, Nat.testBit_xor]
    have sw : ∀ a b c d : Nat, (a ^^^ b) ^^^ (c ^^^ d) = (a ^^^ c) ^^^ (b ^^^ d) := fun a b c d => by
      rw [Nat.xor_assoc, Nat.xor_assoc, ← Nat.xor_assoc b, Nat.xor_comm b c, Nat.xor_assoc c]
    rw [sw]
    congr 1
    cases x.testBit n <;> cases y.testBit n <;> simp
theorem bits_ext {n x y : Nat} (hx : x < 2 ^ n) (hy : y < 2 ^ n) (h : ∀ t, t < n → x.testBit t = y.testBit t) : x = y := by
  apply Nat.eq_of_testBit_eq
  intro i
  by_cases q : i < n
  · exact h i q
  · rw [Nat.testBit_lt_two_pow (Nat.lt_of_lt_of_le hx (Nat.pow_le_pow_right (by decide) (by omega))), Nat.testBit_lt_two_pow (Nat.lt_of_lt_of_le hy (Nat.pow_le_pow_right (by decide) (by omega)))]
theorem mov_inj {n : Nat} {o : Nat → Nat} {x y : Nat} (inj : ∀ s t, s < n → t < n → o s = o t → s = t) (hx : x < 2 ^ n) (hy : y < 2 ^ n) (e : mov n o x = mov n o y) : x = y :=
  bits_ext hx hy fun t ht => by rw [← mov_bit (x := x) inj ht, e, mov_bit inj ht]
theorem par_and (k m x : Nat) : par k (m &&& x) = ((List.range k).foldl (fun a t => a ^^ (m.testBit t && x.testBit t)) false) := by
  induction k with
  | zero => rfl
  | succ k ih =>
    rw [List.range_succ, List.foldl_append]
    unfold par
    rw [ih, Nat.testBit_and]
    rfl
theorem par_mov {n : Nat} {o : Nat → Nat} {m x : Nat} (hn : n ≤ 9) (ho : ∀ t, t < n → o t < n) (inj : ∀ s t, s < n → t < n → o s = o t → s = t) (hm : m < 2 ^ n) (hx : x < 2 ^ n) : par 9 (m &&& x) = par 9 (mov n o m &&& mov n o x) := by
  -- m & x moved is the moved m & the moved x
  have e : mov n o m &&& mov n o x = mov n o (m &&& x) := by
    have surj : ∀ j, j < n → ∃ t, t < n ∧ o t = j := fun j hj => by
      have p : ((List.range n).map o).Perm (List.range n) := perm_range (nodup_map List.nodup_range fun a ha b hb => inj a b (List.mem_range.mp ha) (List.mem_range.mp hb)) (fun a ha => by
        obtain ⟨y, hy, rfl⟩ := List.mem_map.mp ha
        exact ho y (List.mem_range.mp hy)) (by simp)
      have := p.mem_iff.mpr (List.mem_range.mpr hj)
      obtain ⟨t, h1, h2⟩ := List.mem_map.mp this
      exact ⟨t, List.mem_range.mp h1, h2⟩
    refine bits_ext (n := n) (Nat.lt_of_le_of_lt Nat.and_le_left (mov_lt ho)) (mov_lt ho) fun j hj => ?_
    obtain ⟨t, ht, rfl⟩ := surj j hj
    rw [Nat.testBit_and, mov_bit inj ht, mov_bit inj ht, mov_bit inj ht, Nat.testBit_and]
  rw [e]
  -- the parity of a moved number
  have g : ∀ k, k ≤ n → par 9 (mov k o (m &&& x)) = par k (m &&& x) := fun k => by
    induction k with
    | zero => intro _; exact par_zero 9
    | succ k ih =>
      intro hk
      rw [mov_succ, par_xor, ih (by omega)]
      show _ = (par k (m &&& x) ^^ (m &&& x).testBit k)
      congr 1
      split
      · rename_i q
        rw [par_two, q, decide_eq_true (Nat.lt_of_lt_of_le (ho k (by omega)) hn)]
      · rename_i q
        rw [par_zero]
        cases z : (m &&& x).testBit k
        · rfl
        · exact absurd z q
  rw [g n (Nat.le_refl n)]
  have hl : m &&& x < 2 ^ n := Nat.lt_of_le_of_lt Nat.and_le_left hm
  obtain ⟨d, e9⟩ := Nat.exists_eq_add_of_le hn
  rw [e9]
  exact par_high hl d

/-! ### two tables -/
theorem bit_cat {k a b j : Nat} (hb : b < 2 ^ k) : (a * 2 ^ k + b).testBit j = if j < k then b.testBit j else a.testBit (j - k) := by
  rw [Nat.mul_comm]
  exact Nat.testBit_two_pow_mul_add a hb j
theorem cat_lt {n k a b : Nat} (ha : a < 2 ^ n) (hb : b < 2 ^ k) : a * 2 ^ k + b < 2 ^ (n + k) := by
  have h1 : (a + 1) * 2 ^ k ≤ 2 ^ n * 2 ^ k := Nat.mul_le_mul_right _ ha
  rw [Nat.succ_mul] at h1
  rw [Nat.pow_add]
  omega
theorem cat_xor {n k a b c d : Nat} (ha : a < 2 ^ n) (hc : c < 2 ^ n) (hb : b < 2 ^ k) (hd : d < 2 ^ k) : (a * 2 ^ k + b) ^^^ (c * 2 ^ k + d) = (a ^^^ c) * 2 ^ k + (b ^^^ d) := by
  apply Nat.eq_of_testBit_eq
  intro j
  rw [Nat.testBit_xor, bit_cat hb, bit_cat hd, bit_cat (xor_lt hb hd)]
  split
  · rw [Nat.testBit_xor]
  · rw [Nat.testBit_xor]
theorem cat_and {k a b c d : Nat} (hb : b < 2 ^ k) (hd : d < 2 ^ k) : (a * 2 ^ k + b) &&& (c * 2 ^ k + d) = (a &&& c) * 2 ^ k + (b &&& d) := by
  apply Nat.eq_of_testBit_eq
  intro j
  rw [Nat.testBit_and, bit_cat hb, bit_cat hd, bit_cat (Nat.lt_of_le_of_lt Nat.and_le_left hb)]
  split
  · rw [Nat.testBit_and]
  · rw [Nat.testBit_and]
theorem par_cat {k : Nat} {a b : Nat} (hb : b < 2 ^ k) : ∀ j, par (k + j) (a * 2 ^ k + b) = (par j a ^^ par k b)
  | 0 => by
    have g : ∀ i, i ≤ k → par i (a * 2 ^ k + b) = par i b := fun i => by
      induction i with
      | zero => intro _; rfl
      | succ i ih =>
        intro hi
        unfold par
        rw [ih (by omega), bit_cat hb, if_pos (by omega)]
    rw [Nat.add_zero, g k (Nat.le_refl k)]
    show _ = (false ^^ par k b)
    rw [Bool.false_xor]
  | j + 1 => by
    show (par (k + j) (a * 2 ^ k + b) ^^ (a * 2 ^ k + b).testBit (k + j)) = ((par j a ^^ a.testBit j) ^^ par k b)
    rw [par_cat hb j, bit_cat hb, if_neg (by omega), Nat.add_sub_cancel_left]
    cases par j a <;> cases par k b <;> cases a.testBit j <;> rfl
theorem par9 {n x : Nat} (hn : n ≤ 9) (hx : x < 2 ^ n) : par 9 x = par n x := by
  obtain ⟨d, e9⟩ := Nat.exists_eq_add_of_le hn
  rw [e9]
  exact par_high hx d
theorem par9_cat {n k a b : Nat} (hn : n + k ≤ 9) (ha : a < 2 ^ n) (hb : b < 2 ^ k) : par 9 (a * 2 ^ k + b) = (par 9 a ^^ par 9 b) := by
  rw [par9 hn (cat_lt ha hb), par9 (by omega) ha, par9 (by omega) hb, Nat.add_comm, par_cat hb]
theorem ch_cat {n k a b c d : Nat} (hn : n + k ≤ 9) (ha : a < 2 ^ n) (hb : b < 2 ^ k) (hd : d < 2 ^ k) : ch (a * 2 ^ k + b) (c * 2 ^ k + d) = ch a c * ch b d := by
  unfold ch
  rw [cat_and hb hd, par9_cat hn (Nat.lt_of_le_of_lt Nat.and_le_left ha) (Nat.lt_of_le_of_lt Nat.and_le_left hb), sg_xor]
/-- the table of x1 and x2 -/
def cat (k : Nat) (b c : Nat → Bool) (x : Nat) : Bool := b (x / 2 ^ k) ^^ c (x % 2 ^ k)
theorem cat_at {k a d : Nat} (hd : d < 2 ^ k) (b c : Nat → Bool) : cat k b c (a * 2 ^ k + d) = (b a ^^ c d) := by
  unfold cat
  have hp := Nat.two_pow_pos k
  rw [Nat.mul_comm, Nat.mul_add_div hp, Nat.div_eq_of_lt hd, Nat.add_zero, Nat.mul_add_mod, Nat.mod_eq_of_lt hd]
theorem W_cat {n k : Nat} (hn : n + k ≤ 9) (b c : Nat → Bool) {p q : Nat} (hp : p < 2 ^ n) (hq : q < 2 ^ k) : W (n + k) (fun x => sg (cat k b c x)) (p * 2 ^ k + q) = W n (fun x => sg (b x)) p * W k (fun x => sg (c x)) q := by
  unfold W
  rw [Nat.pow_add, S_block, S_prod]
  refine S_congr fun x hx => S_congr fun y hy => ?_
  dsimp only
  rw [ch_cat hn hp hq hy, cat_at hy, sg_xor]
  simp only [Int.mul_assoc, Int.mul_left_comm, Int.mul_comm]
theorem hd_cat {n k : Nat} (hn : n + k ≤ 9) (b c : Nat → Bool) {p q : Nat} (hp : p < 2 ^ n) (hq : q < 2 ^ k) :
    2 * hd (n + k) (cat k b c) (p * 2 ^ k + q) = ((2 ^ (n + k) : Nat) : Int) - (((2 ^ n : Nat) : Int) - 2 * hd n b p) * (((2 ^ k : Nat) : Int) - 2 * hd k c q) := by
  rw [hd_W, W_cat hn b c hp hq]
  have h1 := hd_W n b p
  have h2 := hd_W k c q
  have e1 : ((2 ^ n : Nat) : Int) - 2 * hd n b p = W n (fun x => sg (b x)) p := by omega
  have e2 : ((2 ^ k : Nat) : Int) - 2 * hd k c q = W k (fun x => sg (c x)) q := by omega
  rw [e1, e2]
theorem TF_eq (n : Nat) (f : Nat → Int) : TF n f = S (2 ^ n) fun z => S (2 ^ n) fun x => f x * f (x ^^^ z) * f z := by
  unfold TF conv
  exact S_congr fun z _ => (S_mulr _ _ _).symm
theorem TF_cat {n k : Nat} (b c : Nat → Bool) : TF (n + k) (fun x => sg (cat k b c x)) = TF n (fun x => sg (b x)) * TF k (fun x => sg (c x)) := by
  rw [TF_eq, TF_eq, TF_eq, Nat.pow_add, S_block, S_prod]
  refine S_congr fun z1 hz1 => S_congr fun z2 hz2 => ?_
  rw [S_block, S_prod]
  refine S_congr fun x1 hx1 => S_congr fun x2 hx2 => ?_
  rw [cat_xor hx1 hz1 hx2 hz2, cat_at hx2, cat_at (xor_lt hx2 hz2), cat_at hz2, sg_xor, sg_xor, sg_xor]
  simp only [Int.mul_assoc, Int.mul_left_comm, Int.mul_comm]
theorem let_cat {n k : Nat} (b c : Nat → Bool) : 2 * letF (n + k) (cat k b c) - ((2 ^ (n + k) : Nat) : Int) * ((2 ^ (n + k) : Nat) : Int) = (2 * letF n b - ((2 ^ n : Nat) : Int) * ((2 ^ n : Nat) : Int)) * (2 * letF k c - ((2 ^ k : Nat) : Int) * ((2 ^ k : Nat) : Int)) := by
  have h1 := let_TF (n + k) (cat k b c)
  have h2 := let_TF n b
  have h3 := let_TF k c
  rw [TF_cat] at h1
  have e2 : 2 * letF n b - ((2 ^ n : Nat) : Int) * ((2 ^ n : Nat) : Int) = TF n fun x => sg (b x) := by omega
  have e3 : 2 * letF k c - ((2 ^ k : Nat) : Int) * ((2 ^ k : Nat) : Int) = TF k fun x => sg (c x) := by omega
  rw [e2, e3]
  omega

/-! ### the sums by steps -/
def Bk (f : Nat → Int) : Nat → Nat → Int
  | 0, y => f y
  | k + 1, y => if y.testBit k = true then Bk f k (y - 2 ^ k) - Bk f k y else Bk f k y + Bk f k (y + 2 ^ k)
theorem ch_low {k y u : Nat} (hu : u < 2 ^ k) : ch (y ^^^ 2 ^ k) u = ch y u := by
  rw [ch_xorl]
  have : ch (2 ^ k) u = 1 := by
    have e : 2 ^ k &&& u = 0 := by
      apply Nat.eq_of_testBit_eq
      intro j
      rw [Nat.testBit_and, Nat.testBit_two_pow, Nat.zero_testBit]
      by_cases q : k = j
      · subst q; simp [Nat.testBit_lt_two_pow hu]
      · simp [q]
    unfold ch
    rw [e, par_zero]
    rfl
  rw [this, Int.mul_one]
theorem two_and {k y : Nat} (h : y.testBit k = true) : y &&& 2 ^ k = 2 ^ k := by
  apply Nat.eq_of_testBit_eq
  intro j
  rw [Nat.testBit_and, Nat.testBit_two_pow]
  by_cases q : k = j
  · subst q; simp [h]
  · simp [q]
theorem two_and0 {k y : Nat} (h : y.testBit k = false) : y &&& 2 ^ k = 0 := by
  apply Nat.eq_of_testBit_eq
  intro j
  rw [Nat.testBit_and, Nat.testBit_two_pow, Nat.zero_testBit]
  by_cases q : k = j
  · subst q; simp [h]
  · simp [q]
theorem xor_off {k y : Nat} (h : y.testBit k = true) : y ^^^ 2 ^ k = y - 2 ^ k ∧ 2 ^ k ≤ y := by
  have h1 := xor_add y (2 ^ k)
  rw [two_and h] at h1
  have : y &&& 2 ^ k ≤ y := Nat.and_le_left
  rw [two_and h] at this
  omega
theorem xor_on {k y : Nat} (h : y.testBit k = false) : y ^^^ 2 ^ k = y + 2 ^ k := by
  have h1 := xor_add y (2 ^ k)
  rw [two_and0 h] at h1
  omega
theorem div_bit (y k : Nat) : y / 2 ^ k = 2 * (y / 2 ^ (k + 1)) + (if y.testBit k = true then 1 else 0) := by
  have e : y / 2 ^ (k + 1) = y / 2 ^ k / 2 := by rw [Nat.pow_succ, Nat.div_div_eq_div_mul]
  rw [e]
  have h : y.testBit k = decide (y / 2 ^ k % 2 = 1) := Nat.testBit_eq_decide_div_mod_eq
  by_cases q : y / 2 ^ k % 2 = 1
  · rw [h, decide_eq_true q, if_pos rfl]
    omega
  · rw [h, decide_eq_false q, if_neg Bool.false_ne_true]
    omega
theorem Bk_eq (f : Nat → Int) : ∀ k y, k ≤ 9 → Bk f k y = S (2 ^ k) fun u => ch y u * f (y / 2 ^ k * 2 ^ k + u)
  | 0, y, _ => by
    show f y = S 1 _
    rw [S_succ, S_zero, ch_zero, Nat.pow_zero, Nat.div_one, Nat.mul_one, Nat.add_zero, Int.one_mul, Int.zero_add]
  | k + 1, y, hk => by
    have hp : (2 : Nat) ^ (k + 1) = 2 ^ k + 2 ^ k := by rw [Nat.pow_succ]; omega
    have sp : S (2 ^ (k + 1)) (fun u => ch y u * f (y / 2 ^ (k + 1) * 2 ^ (k + 1) + u)) = S (2 ^ k) (fun u => ch y u * f (y / 2 ^ (k + 1) * 2 ^ (k + 1) + u)) + S (2 ^ k) fun u => ch y (2 ^ k) * (ch y u * f (y / 2 ^ (k + 1) * 2 ^ (k + 1) + 2 ^ k + u)) := by
      rw [hp, S_app]
      congr 1
      refine S_congr fun u hu => ?_
      have e : 2 ^ k + u = 2 ^ k ^^^ u := by
        have h1 := xor_add (2 ^ k) u
        have h2 : 2 ^ k &&& u = 0 := by
          rw [Nat.and_comm]
          exact two_and0 (Nat.testBit_lt_two_pow hu)
        omega
      rw [e, ch_xor, ← e, ← Nat.add_assoc, Int.mul_assoc]
    rw [sp, S_mul]
    have d := div_bit y k
    cases q : y.testBit k
    · have c1 : ch y (2 ^ k) = 1 := by
        unfold ch
        rw [two_and0 q, par_zero]
        rfl
      rw [q, if_neg Bool.false_ne_true] at d
      have d2 : (y + 2 ^ k) / 2 ^ k = y / 2 ^ k + 1 := Nat.add_div_right y (Nat.two_pow_pos k)
      unfold Bk
      rw [q, if_neg Bool.false_ne_true, Bk_eq f k y (by omega), Bk_eq f k (y + 2 ^ k) (by omega), c1, Int.one_mul]
      have b1 : y / 2 ^ k * 2 ^ k = y / 2 ^ (k + 1) * 2 ^ (k + 1) := by
        rw [d, hp, Nat.mul_add, Nat.add_zero, Nat.mul_assoc]
        omega
      have b2 : (y + 2 ^ k) / 2 ^ k * 2 ^ k = y / 2 ^ (k + 1) * 2 ^ (k + 1) + 2 ^ k := by
        rw [d2, Nat.succ_mul, b1]
      rw [b1, b2]
      congr 1
      exact S_congr fun u hu => by rw [← xor_on q, ch_low hu]
    · have c1 : ch y (2 ^ k) = -1 := by
        unfold ch
        rw [two_and q, par_two, decide_eq_true (by omega)]
        rfl
      rw [q, if_pos rfl] at d
      obtain ⟨x1, x2⟩ := xor_off q
      unfold Bk
      rw [q, if_pos rfl, Bk_eq f k y (by omega), Bk_eq f k (y - 2 ^ k) (by omega), c1]
      have b1 : y / 2 ^ k * 2 ^ k = y / 2 ^ (k + 1) * 2 ^ (k + 1) + 2 ^ k := by
        rw [d, Nat.succ_mul, hp, Nat.mul_add, Nat.mul_assoc]
        omega
      have b2 : (y - 2 ^ k) / 2 ^ k * 2 ^ k = y / 2 ^ (k + 1) * 2 ^ (k + 1) := by
        have d2 : (y - 2 ^ k) / 2 ^ k = y / 2 ^ k - 1 := by
          have := Nat.sub_mul_div y (2 ^ k) 1
          rw [Nat.mul_one] at this
          exact this
        rw [d2, Nat.sub_mul, b1]
        omega
      rw [b1, b2]
      have e : S (2 ^ k) (fun u => ch (y - 2 ^ k) u * f (y / 2 ^ (k + 1) * 2 ^ (k + 1) + u)) = S (2 ^ k) fun u => ch y u * f (y / 2 ^ (k + 1) * 2 ^ (k + 1) + u) := S_congr fun u hu => by rw [← x1, ch_low hu]
      rw [e]
      omega
theorem Bk_W {n y : Nat} (hn : n ≤ 9) (hy : y < 2 ^ n) (f : Nat → Int) : Bk f n y = W n f y := by
  rw [Bk_eq f n y hn, Nat.div_eq_of_lt hy, Nat.zero_mul]
  unfold W
  exact S_congr fun u _ => by rw [Nat.zero_add]
theorem let_range (n : Nat) (b : Nat → Bool) : 0 ≤ letF n b ∧ letF n b ≤ ((2 ^ n : Nat) : Int) * ((2 ^ n : Nat) : Int) := by
  have e0 : S (2 ^ n) (fun _ => S (2 ^ n) fun _ => (0 : Int)) = 0 := by
    rw [S_congr (g := fun _ => 0) fun x _ => by rw [S_const, Int.mul_zero], S_const, Int.mul_zero]
  have e1 : S (2 ^ n) (fun _ => S (2 ^ n) fun _ => (1 : Int)) = ((2 ^ n : Nat) : Int) * ((2 ^ n : Nat) : Int) := by
    rw [S_congr (g := fun _ => ((2 ^ n : Nat) : Int)) fun x _ => by rw [S_const, Int.mul_one], S_const]
  refine ⟨?_, ?_⟩
  · rw [← e0]
    exact S_le fun p _ => S_le fun o _ => by have := b2i_01 (b p ^^ (b (p ^^^ o) ^^ b o)); omega
  · rw [← e1]
    exact S_le fun p _ => S_le fun o _ => by have := b2i_01 (b p ^^ (b (p ^^^ o) ^^ b o)); omega
theorem sq_range {n : Nat} (h : n ≤ 8) : 0 ≤ ((2 ^ n : Nat) : Int) * ((2 ^ n : Nat) : Int) ∧ ((2 ^ n : Nat) : Int) * ((2 ^ n : Nat) : Int) ≤ 65536 := by
  have h1 : 2 ^ n ≤ 256 := Nat.pow_le_pow_right (n := 2) (by decide) h
  have h2 : (2 ^ n) * (2 ^ n) ≤ 256 * 256 := Nat.mul_le_mul h1 h1
  have e : ((2 ^ n : Nat) : Int) * ((2 ^ n : Nat) : Int) = (((2 ^ n) * (2 ^ n) : Nat) : Int) := (Int.natCast_mul _ _).symm
  rw [e]
  generalize 2 ^ n * 2 ^ n = z at *
  omega
theorem hd_range (n : Nat) (b : Nat → Bool) (m : Nat) : 0 ≤ hd n b m ∧ hd n b m ≤ ((2 ^ n : Nat) : Int) := by
  have e0 : S (2 ^ n) (fun _ => (0 : Int)) = 0 := by rw [S_const, Int.mul_zero]
  have e1 : S (2 ^ n) (fun _ => (1 : Int)) = ((2 ^ n : Nat) : Int) := by rw [S_const, Int.mul_one]
  refine ⟨?_, ?_⟩
  · rw [← e0]
    exact S_le fun p _ => (b2i_01 _).1
  · rw [← e1]
    exact S_le fun p _ => (b2i_01 _).2
end BF

set_option Elab.async false
set_option linter.all false
set_option maxRecDepth 100000
namespace K13
open PySem L2 VL
def top (i : Nat) : Stmt := PySem.Challenge.pw_fewthrows_k13_whole_bit_tables_added_and.main.body.getD i (.Pass ⟨0, 0, 0, 0⟩)
def G : Sg := ⟨["is_integer", "is_index", "power", "check_bits", "check_many", "parity", "straight_table", "straight_distances", "nearest_straight", "ones_at", "pairs_let", "mended_bits", "rows_let", "_law_pot", "_law_take", "_law_cells", "_law_of", "_law_some", "_law_odd", "_law_straight", "_law_distances", "_law_drawn_bits", "_law_mended", "_law_pairs", "_law_is_table_right", "_law_is_led_right", "_law_are_two_right", "_law_right", "law"], [("MOST_NAMES", (.int 8)), ("MOST_ROWS", (.int 40)), ("BITS", (.int 2)), ("SIZES", (.tuple [(.int 1), (.int 2), (.int 4), (.int 8), (.int 16), (.int 32), (.int 64), (.int 128), (.int 256)]))], ["abs", "all", "bool", "enumerate", "int", "isinstance", "len", "list", "max", "min", "range", "sum", "tuple", "zip"]⟩
def N0 : List Str := ["value"]
def b0_0 : Ss := .cons (.ret (.and (.isi (.var 0) "int") (.not (.isi (.var 0) "bool")))) .nil
abbrev b0 : Ss := b0_0
theorem sc0 : C8.scC N0 ["value"] (defScope (top 5)) = true := by decide +kernel
theorem ck0 : ckSs b0 ⟨G, N0, (defScope (top 5)).names, (defScope (top 5)).names, 0⟩ (defBody (top 5)) = true := by decide +kernel
def N1 : List Str := ["value", "many"]
def b1_0 : Ss := .cons (.ret (.and (.call 0 (.cons (.var 0) .nil)) (.chain .LtE .Lt (.cst (.int 0)) (.var 0) (.var 1)))) .nil
abbrev b1 : Ss := b1_0
theorem sc1 : C8.scC N1 ["value", "many"] (defScope (top 6)) = true := by decide +kernel
theorem ck1 : ckSs b1 ⟨G, N1, (defScope (top 6)).names, (defScope (top 6)).names, 1⟩ (defBody (top 6)) = true := by decide +kernel
def N2 : List Str := ["base", "many", "found", "lap"]
def b2_0 : Ss := .cons (.asg1 (.nm 2) (.bin .Mult (.var 2) (.var 0))) .nil
def b2_1 : Ss := .cons (.ret (.var 2)) .nil
def b2_2 : Ss := .cons (.fr [3] (.r1 (.var 1)) b2_0) b2_1
def b2_3 : Ss := .cons (.asg1 (.nm 2) (.cst (.int 1))) b2_2
abbrev b2 : Ss := b2_3
theorem sc2 : C8.scC N2 ["base", "many"] (defScope (top 7)) = true := by decide +kernel
theorem ck2 : ckSs b2 ⟨G, N2, (defScope (top 7)).names, (defScope (top 7)).names, 2⟩ (defBody (top 7)) = true := by decide +kernel
def N3 : List Str := ["bits", "bit"]
def b3_0 : Ss := .cons .never .nil
def b3_1 : Ss := .cons (.ite (.or (.not (.isi (.var 0) "tuple")) (.or (.cmp .NotIn (.b1 .len (.var 0)) (.glo 3)) (.not (.b1 .all (.lc (.call 1 (.cons (.var 1) (.cons (.glo 2) .nil))) [1] (.seq (.var 0)) .none [1]))))) b3_0 .nil) .nil
abbrev b3 : Ss := b3_1
theorem sc3 : C8.scC N3 ["bits"] (defScope (top 13)) = true := by decide +kernel
theorem ck3 : ckSs b3 ⟨G, N3, (defScope (top 13)).names, (defScope (top 13)).names, 3⟩ (defBody (top 13)) = true := by decide +kernel
def N4 : List Str := ["value", "many"]
def b4_0 : Ss := .cons .never .nil
def b4_1 : Ss := .cons (.ite (.not (.call 1 (.cons (.var 0) (.cons (.var 1) .nil)))) b4_0 .nil) .nil
abbrev b4 : Ss := b4_1
theorem sc4 : C8.scC N4 ["value", "many"] (defScope (top 14)) = true := by decide +kernel
theorem ck4 : ckSs b4 ⟨G, N4, (defScope (top 14)).names, (defScope (top 14)).names, 4⟩ (defBody (top 14)) = true := by decide +kernel
def N5 : List Str := ["number", "found"]
def b5_0 : Ss := .cons (.asg1 (.nm 0) (.bin .RShift (.var 0) (.cst (.int 1)))) .nil
def b5_1 : Ss := .cons (.asg1 (.nm 1) (.bin .BitXor (.var 1) (.bin .BitAnd (.var 0) (.cst (.int 1))))) b5_0
def b5_2 : Ss := .cons (.ret (.var 1)) .nil
def b5_3 : Ss := .cons (.wh (.cmp .Gt (.var 0) (.cst (.int 0))) b5_1) b5_2
def b5_4 : Ss := .cons (.asg1 (.nm 1) (.cst (.int 0))) b5_3
abbrev b5 : Ss := b5_4
theorem sc5 : C8.scC N5 ["number"] (defScope (top 15)) = true := by decide +kernel
theorem ck5 : ckSs b5 ⟨G, N5, (defScope (top 15)).names, (defScope (top 15)).names, 5⟩ (defBody (top 15)) = true := by decide +kernel
def N6 : List Str := ["many", "mask", "place"]
def b6_0 : Ss := .cons (.ret (.b1 .tuple (.lc (.call 5 (.cons (.bin .BitAnd (.var 2) (.var 1)) .nil)) [2] (.r1 (.idx (.glo 3) (.var 0))) .none [2]))) .nil
def b6_1 : Ss := .cons (.expr (.call 4 (.cons (.var 1) (.cons (.idx (.glo 3) (.var 0)) .nil)))) b6_0
def b6_2 : Ss := .cons (.expr (.call 4 (.cons (.var 0) (.cons (.bin .Add (.glo 0) (.cst (.int 1))) .nil)))) b6_1
abbrev b6 : Ss := b6_2
theorem sc6 : C8.scC N6 ["many", "mask"] (defScope (top 16)) = true := by decide +kernel
theorem ck6 : ckSs b6 ⟨G, N6, (defScope (top 16)).names, (defScope (top 16)).names, 6⟩ (defBody (top 16)) = true := by decide +kernel
def N7 : List Str := ["bits", "sums", "step", "bit", "found", "at", "one"]
def b7_0 : Ss := .cons (.asg1 (.sb 4 (.bin .Add (.var 5) (.var 2))) (.bin .Sub (.idx (.var 1) (.var 5)) (.idx (.var 1) (.bin .Add (.var 5) (.var 2))))) .nil
def b7_1 : Ss := .cons (.asg1 (.sb 4 (.var 5)) (.bin .Add (.idx (.var 1) (.var 5)) (.idx (.var 1) (.bin .Add (.var 5) (.var 2))))) b7_0
def b7_2 : Ss := .cons (.ite (.cmp .Eq (.bin .BitAnd (.var 5) (.var 2)) (.cst (.int 0))) b7_1 .nil) .nil
def b7_3 : Ss := .cons (.asg [(.nm 1), (.nm 2)] (.cons (.var 4) (.cons (.bin .Mult (.cst (.int 2)) (.var 2)) .nil))) .nil
def b7_4 : Ss := .cons (.fr [5] (.r1 (.b1 .len (.var 1))) b7_2) b7_3
def b7_5 : Ss := .cons (.asg1 (.nm 4) (.b1 .list (.var 1))) b7_4
def b7_6 : Ss := .cons (.ret (.b1 .tuple (.lc (.bin .FloorDiv (.bin .Sub (.b1 .len (.var 0)) (.var 6)) (.cst (.int 2))) [6] (.seq (.var 1)) .none [6]))) .nil
def b7_7 : Ss := .cons (.wh (.cmp .Lt (.var 2) (.b1 .len (.var 1))) b7_5) b7_6
def b7_8 : Ss := .cons (.asg [(.nm 1), (.nm 2)] (.cons (.lc (.bin .Sub (.cst (.int 1)) (.bin .Mult (.cst (.int 2)) (.var 3))) [3] (.seq (.var 0)) .none [3]) (.cons (.cst (.int 1)) .nil))) b7_7
def b7_9 : Ss := .cons (.expr (.call 3 (.cons (.var 0) .nil))) b7_8
abbrev b7 : Ss := b7_9
theorem sc7 : C8.scC N7 ["bits"] (defScope (top 17)) = true := by decide +kernel
theorem ck7 : ckSs b7 ⟨G, N7, (defScope (top 17)).names, (defScope (top 17)).names, 7⟩ (defBody (top 17)) = true := by decide +kernel
def N8 : List Str := ["bits", "told", "least", "mask", "distance"]
def b8_0 : Ss := .cons (.ret (.tup (.cons (.var 2) (.cons (.b1 .tuple (.lc (.var 3) [3, 4] (.enum (.var 1)) (.some (.cmp .Eq (.var 4) (.var 2))) [3, 4])) .nil)))) .nil
def b8_1 : Ss := .cons (.asg1 (.nm 2) (.b1 .min (.var 1))) b8_0
def b8_2 : Ss := .cons (.asg1 (.nm 1) (.call 7 (.cons (.var 0) .nil))) b8_1
abbrev b8 : Ss := b8_2
theorem sc8 : C8.scC N8 ["bits"] (defScope (top 18)) = true := by decide +kernel
theorem ck8 : ckSs b8 ⟨G, N8, (defScope (top 18)).names, (defScope (top 18)).names, 8⟩ (defBody (top 18)) = true := by decide +kernel
def N9 : List Str := ["bits", "place", "other"]
def b9_0 : Ss := .cons (.ret (.b1 .sum (.lc (.bin .BitXor (.idx (.var 0) (.bin .BitXor (.var 1) (.var 2))) (.idx (.var 0) (.var 2))) [2] (.r1 (.b1 .len (.var 0))) .none [2]))) .nil
abbrev b9 : Ss := b9_0
theorem sc9 : C8.scC N9 ["bits", "place"] (defScope (top 19)) = true := by decide +kernel
theorem ck9 : ckSs b9 ⟨G, N9, (defScope (top 19)).names, (defScope (top 19)).names, 9⟩ (defBody (top 19)) = true := by decide +kernel
def N10 : List Str := ["bits", "found", "place", "bit", "ones"]
def b10_0 : Ss := .cons (.aug 1 .Add (.ife (.cmp .Eq (.var 3) (.cst (.int 1))) (.var 4) (.bin .Sub (.b1 .len (.var 0)) (.var 4)))) .nil
def b10_1 : Ss := .cons (.asg1 (.nm 4) (.call 9 (.cons (.var 0) (.cons (.var 2) .nil)))) b10_0
def b10_2 : Ss := .cons (.ret (.var 1)) .nil
def b10_3 : Ss := .cons (.fr [2, 3] (.enum (.var 0)) b10_1) b10_2
def b10_4 : Ss := .cons (.asg1 (.nm 1) (.cst (.int 0))) b10_3
def b10_5 : Ss := .cons (.expr (.call 3 (.cons (.var 0) .nil))) b10_4
abbrev b10 : Ss := b10_5
theorem sc10 : C8.scC N10 ["bits"] (defScope (top 20)) = true := by decide +kernel
theorem ck10 : ckSs b10 ⟨G, N10, (defScope (top 20)).names, (defScope (top 20)).names, 10⟩ (defBody (top 20)) = true := by decide +kernel
def N11 : List Str := ["bits", "found", "place", "ones"]
def b11_0 : Ss := .cons (.app 1 (.ife (.cmp .Eq (.var 3) (.b1 .len (.var 0))) (.cst .none) (.b1 .int (.cmp .Gt (.var 3) (.b1 .len (.var 0)))))) .nil
def b11_1 : Ss := .cons (.asg1 (.nm 3) (.bin .Mult (.cst (.int 2)) (.call 9 (.cons (.var 0) (.cons (.var 2) .nil))))) b11_0
def b11_2 : Ss := .cons (.ret (.b1 .tuple (.var 1))) .nil
def b11_3 : Ss := .cons (.fr [2] (.r1 (.b1 .len (.var 0))) b11_1) b11_2
def b11_4 : Ss := .cons (.asg1 (.nm 1) (.lst .nil)) b11_3
def b11_5 : Ss := .cons (.expr (.call 3 (.cons (.var 0) .nil))) b11_4
abbrev b11 : Ss := b11_5
theorem sc11 : C8.scC N11 ["bits"] (defScope (top 21)) = true := by decide +kernel
theorem ck11 : ckSs b11 ⟨G, N11, (defScope (top 21)).names, (defScope (top 21)).names, 11⟩ (defBody (top 21)) = true := by decide +kernel
def N12 : List Str := ["bits", "many"]
def b12_0 : Ss := .cons (.ret (.tup (.cons (.call 2 (.cons (.call 10 (.cons (.var 0) .nil)) (.cons (.var 1) .nil))) (.cons (.call 2 (.cons (.bin .Mult (.b1 .len (.var 0)) (.b1 .len (.var 0))) (.cons (.var 1) .nil))) .nil)))) .nil
def b12_1 : Ss := .cons (.expr (.call 4 (.cons (.var 1) (.cons (.bin .Add (.glo 1) (.cst (.int 1))) .nil)))) b12_0
def b12_2 : Ss := .cons (.expr (.call 3 (.cons (.var 0) .nil))) b12_1
abbrev b12 : Ss := b12_2
theorem sc12 : C8.scC N12 ["bits", "many"] (defScope (top 22)) = true := by decide +kernel
theorem ck12 : ckSs b12 ⟨G, N12, (defScope (top 22)).names, (defScope (top 22)).names, 12⟩ (defBody (top 22)) = true := by decide +kernel
def N13 : List Str := ["script", "place", "cell", "own", "small"]
def b13_0 : Ss := .cons (.ret (.lst (.cons (.var 3) (.cons (.bin .Mod (.b1 .int (.bin .Add (.bin .Add (.bin .Mult (.var 4) (.cst (.int 66628))) (.bin .Mult (.bin .Mult (.cst (.int 33121)) (.var 1)) (.var 1))) (.cst (.int 54751)))) (.cst (.int 2305843009213693921))) (.cons (.cst (.int 0)) .nil))))) .nil
def b13_1 : Ss := .cons (.asg1 (.nm 4) (.bin .Mod (.b1 .int (.var 2)) (.cst (.int 2305843009213693951)))) b13_0
def b13_2 : Ss := .cons (.asg1 (.nm 3) (.bin .Mult (.bin .Mod (.b1 .int (.b1 .abs (.var 2))) (.bin .Pow (.bin .Pow (.cst (.int 10)) (.cst (.int 60))) (.cst (.int 5)))) (.b1 .int (.cmp .GtE (.b1 .abs (.var 2)) (.bin .Pow (.cst (.int 10)) (.cst (.int 18))))))) b13_1
def b13_3 : Ss := .cons (.asg1 (.nm 2) (.ife (.cmp .Lt (.var 1) (.b1 .len (.var 0))) (.idx (.var 0) (.var 1)) (.bin .Add (.bin .Add (.bin .Mod (.b1 .sum (.sl (.var 0) .none (.some (.cst (.int 1))))) (.cst (.int 1000003))) (.bin .Mult (.cst (.int 74538)) (.var 1))) (.cst (.int 76769))))) b13_2
abbrev b13 : Ss := b13_3
theorem sc13 : C8.scC N13 ["script", "place"] (defScope (top 24)) = true := by decide +kernel
theorem ck13 : ckSs b13 ⟨G, N13, (defScope (top 24)).names, (defScope (top 24)).names, 13⟩ (defBody (top 24)) = true := by decide +kernel
def N14 : List Str := ["pot", "upto", "digit", "prime", "blend"]
def b14_0 : Ss := .cons (.ret (.var 2)) .nil
def b14_1 : Ss := .cons (.asg1 (.sb 0 (.cst (.int 0))) (.bin .FloorDiv (.idx (.var 0) (.cst (.int 0))) (.var 1))) b14_0
def b14_2 : Ss := .cons (.asg1 (.nm 2) (.bin .Mod (.b1 .int (.idx (.var 0) (.cst (.int 0)))) (.var 1))) b14_1
def b14_3 : Ss := .cons (.ret (.bin .Mod (.b1 .int (.bin .FloorDiv (.var 4) (.cst (.int 9973)))) (.var 1))) .nil
def b14_4 : Ss := .cons (.asg1 (.nm 4) (.bin .Mod (.b1 .int (.bin .Mult (.var 4) (.bin .Add (.bin .Mod (.b1 .int (.var 4)) (.cst (.int 10853))) (.bin .Mult (.cst (.int 47746)) (.idx (.var 0) (.cst (.int 2))))))) (.cst (.int 2305843009213693907)))) b14_3
def b14_5 : Ss := .cons (.asg1 (.nm 4) (.bin .Mod (.b1 .int (.bin .Pow (.b1 .int (.bin .Add (.bin .Add (.idx (.var 0) (.cst (.int 1))) (.bin .Mult (.bin .Mult (.cst (.int 76194)) (.idx (.var 0) (.cst (.int 2)))) (.idx (.var 0) (.cst (.int 2))))) (.cst (.int 29996)))) (.cst (.int 3)))) (.var 3))) b14_4
def b14_6 : Ss := .cons (.asg1 (.nm 3) (.idx (.lst (.cons (.cst (.int 2147483647)) (.cons (.cst (.int 2147483629)) (.cons (.cst (.int 2147483587)) (.cons (.cst (.int 2147483579)) (.cons (.cst (.int 2147483563)) .nil)))))) (.bin .Mod (.b1 .int (.idx (.var 0) (.cst (.int 2)))) (.cst (.int 5))))) b14_5
def b14_7 : Ss := .cons (.asg1 (.sb 0 (.cst (.int 2))) (.bin .Add (.idx (.var 0) (.cst (.int 2))) (.cst (.int 1)))) b14_6
def b14_8 : Ss := .cons (.ite (.cmp .Gt (.idx (.var 0) (.cst (.int 0))) (.cst (.int 0))) b14_2 .nil) b14_7
abbrev b14 : Ss := b14_8
theorem sc14 : C8.scC N14 ["pot", "upto"] (defScope (top 25)) = true := by decide +kernel
theorem ck14 : ckSs b14 ⟨G, N14, (defScope (top 25)).names, (defScope (top 25)).names, 14⟩ (defBody (top 25)) = true := by decide +kernel
def N15 : List Str := ["script", "upto"]
def b15_0 : Ss := .cons (.ret (.lrng (.b2 .max (.cst (.int 1)) (.b2 .min (.var 1) (.b1 .len (.var 0)))))) .nil
abbrev b15 : Ss := b15_0
theorem sc15 : C8.scC N15 ["script", "upto"] (defScope (top 26)) = true := by decide +kernel
theorem ck15 : ckSs b15 ⟨G, N15, (defScope (top 26)).names, (defScope (top 26)).names, 15⟩ (defBody (top 26)) = true := by decide +kernel
def N16 : List Str := ["pot", "some"]
def b16_0 : Ss := .cons (.ret (.idx (.var 1) (.cio 14 0 (.cons (.b1 .len (.var 1)) .nil)))) .nil
abbrev b16 : Ss := b16_0
theorem sc16 : C8.scC N16 ["pot", "some"] (defScope (top 27)) = true := by decide +kernel
theorem ck16 : ckSs b16 ⟨G, N16, (defScope (top 27)).names, (defScope (top 27)).names, 16⟩ (defBody (top 27)) = true := by decide +kernel
def N17 : List Str := ["pot", "some", "many", "left", "found", "lap"]
def b17_0 : Ss := .cons (.app 4 (.pop 3 (.cio 14 0 (.cons (.b1 .len (.var 3)) .nil)))) .nil
def b17_1 : Ss := .cons (.ret (.var 4)) .nil
def b17_2 : Ss := .cons (.fr [5] (.r1 (.var 2)) b17_0) b17_1
def b17_3 : Ss := .cons (.asg [(.nm 3), (.nm 4)] (.cons (.b1 .list (.var 1)) (.cons (.lst .nil) .nil))) b17_2
abbrev b17 : Ss := b17_3
theorem sc17 : C8.scC N17 ["pot", "some", "many"] (defScope (top 28)) = true := by decide +kernel
theorem ck17 : ckSs b17 ⟨G, N17, (defScope (top 28)).names, (defScope (top 28)).names, 17⟩ (defBody (top 28)) = true := by decide +kernel
def N18 : List Str := ["number", "found", "at"]
def b18_0 : Ss := .cons (.asg1 (.nm 1) (.bin .Add (.var 1) (.b1 .int (.bin .BitAnd (.bin .RShift (.var 0) (.var 2)) (.cst (.int 1)))))) .nil
def b18_1 : Ss := .cons (.ret (.bin .Mod (.var 1) (.cst (.int 2)))) .nil
def b18_2 : Ss := .cons (.fr [2] (.r1 (.cst (.int 9))) b18_0) b18_1
def b18_3 : Ss := .cons (.asg1 (.nm 1) (.cst (.int 0))) b18_2
abbrev b18 : Ss := b18_3
theorem sc18 : C8.scC N18 ["number"] (defScope (top 29)) = true := by decide +kernel
theorem ck18 : ckSs b18 ⟨G, N18, (defScope (top 29)).names, (defScope (top 29)).names, 18⟩ (defBody (top 29)) = true := by decide +kernel
def N19 : List Str := ["many", "mask", "place"]
def b19_0 : Ss := .cons (.ret (.b1 .tuple (.lc (.call 18 (.cons (.bin .BitAnd (.var 2) (.var 1)) .nil)) [2] (.r1 (.bin .LShift (.cst (.int 1)) (.var 0))) .none [2]))) .nil
abbrev b19 : Ss := b19_0
theorem sc19 : C8.scC N19 ["many", "mask"] (defScope (top 30)) = true := by decide +kernel
theorem ck19 : ckSs b19 ⟨G, N19, (defScope (top 30)).names, (defScope (top 30)).names, 19⟩ (defBody (top 30)) = true := by decide +kernel
def N20 : List Str := ["bits", "rows", "size", "bit", "lap", "led", "at", "number"]
def b20_0 : Ss := .cons (.asg [(.sb 5 (.var 6)), (.sb 5 (.bin .Add (.var 6) (.var 2)))] (.cons (.bin .Add (.idx (.var 1) (.var 6)) (.idx (.var 1) (.bin .Add (.var 6) (.var 2)))) (.cons (.bin .Sub (.idx (.var 1) (.var 6)) (.idx (.var 1) (.bin .Add (.var 6) (.var 2)))) .nil))) .nil
def b20_1 : Ss := .cons (.ite (.cmp .Eq (.bin .BitAnd (.var 6) (.var 2)) (.cst (.int 0))) b20_0 .nil) .nil
def b20_2 : Ss := .cons (.asg [(.nm 1), (.nm 2)] (.cons (.var 5) (.cons (.bin .Mult (.cst (.int 2)) (.var 2)) .nil))) .nil
def b20_3 : Ss := .cons (.fr [6] (.r1 (.b1 .len (.var 1))) b20_1) b20_2
def b20_4 : Ss := .cons (.asg1 (.nm 5) (.b1 .list (.var 1))) b20_3
def b20_5 : Ss := .cons (.ite (.cmp .Lt (.var 2) (.b1 .len (.var 1))) b20_4 .nil) .nil
def b20_6 : Ss := .cons (.ret (.b1 .tuple (.lc (.b1 .int (.bin .FloorDiv (.bin .Sub (.b1 .len (.var 0)) (.var 7)) (.cst (.int 2)))) [7] (.seq (.var 1)) .none [7]))) .nil
def b20_7 : Ss := .cons (.fr [4] (.r1 (.cst (.int 9))) b20_5) b20_6
def b20_8 : Ss := .cons (.asg [(.nm 1), (.nm 2)] (.cons (.lc (.bin .Sub (.cst (.int 1)) (.bin .Mult (.cst (.int 2)) (.var 3))) [3] (.seq (.var 0)) .none [3]) (.cons (.cst (.int 1)) .nil))) b20_7
abbrev b20 : Ss := b20_8
theorem sc20 : C8.scC N20 ["bits"] (defScope (top 31)) = true := by decide +kernel
theorem ck20 : ckSs b20 ⟨G, N20, (defScope (top 31)).names, (defScope (top 31)).names, 20⟩ (defBody (top 31)) = true := by decide +kernel
def N21 : List Str := ["pot", "many", "kind", "size", "found", "at", "lap", "bit"]
def b21_0 : Ss := .cons (.asg1 (.nm 4) (.lc (.idx (.var 4) (.bin .Mod (.bin .Add (.bin .Mult (.var 5) (.cst (.int 7))) (.bin .FloorDiv (.var 5) (.cst (.int 5)))) (.b1 .len (.var 4)))) [5] (.r1 (.var 3)) .none [5])) .nil
def b21_1 : Ss := .cons (.asg1 (.nm 4) (.lc (.b1 .int (.cio 14 0 (.cons (.cst (.int 2)) .nil))) [5] (.r1 (.b2 .min (.var 3) (.cst (.int 24)))) .none [5])) b21_0
def b21_2 : Ss := .cons (.asg1 (.sb 4 (.var 5)) (.bin .Sub (.cst (.int 1)) (.idx (.var 4) (.var 5)))) .nil
def b21_3 : Ss := .cons (.asg1 (.nm 5) (.cio 14 0 (.cons (.var 3) .nil))) b21_2
def b21_4 : Ss := .cons (.ret (.b1 .tuple (.lc (.b1 .int (.var 7)) [7] (.seq (.var 4)) .none [7]))) .nil
def b21_5 : Ss := .cons (.fr [6] (.r1 (.cio 14 0 (.cons (.idx (.lst (.cons (.cst (.int 1)) (.cons (.cst (.int 3)) (.cons (.bin .Add (.cst (.int 1)) (.bin .FloorDiv (.var 3) (.cst (.int 5)))) (.cons (.bin .Add (.cst (.int 1)) (.bin .FloorDiv (.var 3) (.cst (.int 3)))) .nil))))) (.var 2)) .nil))) b21_3) b21_4
def b21_6 : Ss := .cons (.ite (.cmp .Eq (.var 2) (.cst (.int 0))) b21_1 .nil) b21_5
def b21_7 : Ss := .cons (.asg1 (.nm 4) (.b1 .list (.call 19 (.cons (.var 1) (.cons (.cio 14 0 (.cons (.var 3) .nil)) .nil))))) b21_6
def b21_8 : Ss := .cons (.asg [(.nm 2), (.nm 3)] (.cons (.cio 14 0 (.cons (.cst (.int 4)) .nil)) (.cons (.bin .LShift (.cst (.int 1)) (.var 1)) .nil))) b21_7
abbrev b21 : Ss := b21_8
theorem sc21 : C8.scC N21 ["pot", "many"] (defScope (top 32)) = true := by decide +kernel
theorem ck21 : ckSs b21 ⟨G, N21, (defScope (top 32)).names, (defScope (top 32)).names, 21⟩ (defBody (top 32)) = true := by decide +kernel
def N22 : List Str := ["bits", "found", "place", "ones", "other"]
def b22_0 : Ss := .cons (.app 1 (.ife (.cmp .Gt (.bin .Mult (.cst (.int 2)) (.var 3)) (.b1 .len (.var 0))) (.cst (.int 1)) (.ife (.cmp .Lt (.bin .Mult (.cst (.int 2)) (.var 3)) (.b1 .len (.var 0))) (.cst (.int 0)) (.cst .none)))) .nil
def b22_1 : Ss := .cons (.asg1 (.nm 3) (.b1 .len (.lc (.cst (.int 1)) [4] (.r1 (.b1 .len (.var 0))) (.some (.cmp .NotEq (.idx (.var 0) (.bin .BitXor (.var 2) (.var 4))) (.idx (.var 0) (.var 4)))) [4]))) b22_0
def b22_2 : Ss := .cons (.ret (.b1 .tuple (.var 1))) .nil
def b22_3 : Ss := .cons (.fr [2] (.r1 (.b1 .len (.var 0))) b22_1) b22_2
def b22_4 : Ss := .cons (.asg1 (.nm 1) (.lst .nil)) b22_3
abbrev b22 : Ss := b22_4
theorem sc22 : C8.scC N22 ["bits"] (defScope (top 33)) = true := by decide +kernel
theorem ck22 : ckSs b22 ⟨G, N22, (defScope (top 33)).names, (defScope (top 33)).names, 22⟩ (defBody (top 33)) = true := by decide +kernel
def N23 : List Str := ["bits", "found", "one", "low", "other", "high"]
def b23_0 : Ss := .cons (.asg1 (.nm 1) (.bin .Add (.var 1) (.b1 .len (.lc (.cst (.int 1)) [4, 5] (.enum (.var 0)) (.some (.cmp .Eq (.cmp .NotEq (.var 3) (.var 5)) (.cmp .Eq (.idx (.var 0) (.bin .BitXor (.var 2) (.var 4))) (.cst (.int 1))))) [4, 5])))) .nil
def b23_1 : Ss := .cons (.ret (.var 1)) .nil
def b23_2 : Ss := .cons (.fr [2, 3] (.enum (.var 0)) b23_0) b23_1
def b23_3 : Ss := .cons (.asg1 (.nm 1) (.cst (.int 0))) b23_2
abbrev b23 : Ss := b23_3
theorem sc23 : C8.scC N23 ["bits"] (defScope (top 34)) = true := by decide +kernel
theorem ck23 : ckSs b23 ⟨G, N23, (defScope (top 34)).names, (defScope (top 34)).names, 23⟩ (defBody (top 34)) = true := by decide +kernel
def N24 : List Str := ["pot", "bits", "many", "size", "due", "least", "mask", "far", "let", "cubes", "rows", "told", "whole", "lap"]
def b24_0 : Ss := .cons (.ret (.cst (.bool false))) .nil
def b24_1 : Ss := .cons (.ret (.cst (.bool false))) .nil
def b24_2 : Ss := .cons (.ret (.cst (.bool false))) .nil
def b24_3 : Ss := .cons (.ret (.cst (.bool false))) .nil
def b24_4 : Ss := .cons (.ret (.cst (.bool false))) .nil
def b24_5 : Ss := .cons (.ret (.cst (.bool false))) .nil
def b24_6 : Ss := .cons (.asg [(.nm 11), (.nm 12)] (.cons (.bin .Mult (.var 11) (.var 8)) (.cons (.bin .Mult (.bin .Mult (.var 12) (.var 3)) (.var 3)) .nil))) .nil
def b24_7 : Ss := .cons (.ret (.and (.cmp .Eq (.call 12 (.cons (.var 1) (.cons (.var 10) .nil))) (.tup (.cons (.var 11) (.cons (.var 12) .nil)))) (.cmp .Eq (.call 6 (.cons (.var 2) (.cons (.var 6) .nil))) (.call 19 (.cons (.var 2) (.cons (.var 6) .nil)))))) .nil
def b24_8 : Ss := .cons (.asg1 (.nm 6) (.b1 .int (.cio 14 0 (.cons (.var 3) .nil)))) b24_7
def b24_9 : Ss := .cons (.fr [13] (.r1 (.var 10)) b24_6) b24_8
def b24_10 : Ss := .cons (.asg [(.nm 11), (.nm 12)] (.cons (.cst (.int 1)) (.cons (.cst (.int 1)) .nil))) b24_9
def b24_11 : Ss := .cons (.asg1 (.nm 10) (.b1 .int (.cio 14 0 (.cons (.cst (.int 41)) .nil)))) b24_10
def b24_12 : Ss := .cons (.ite (.and (.cmp .Lt (.bin .Mult (.cst (.int 4)) (.var 5)) (.var 3)) (.cmp .NotEq (.call 11 (.cons (.var 1) .nil)) (.call 6 (.cons (.var 2) (.cons (.tidx (.var 4) (.var 5)) .nil))))) b24_5 .nil) b24_11
def b24_13 : Ss := .cons (.ite (.cmp .Lt (.bin .Sub (.bin .Mult (.var 3) (.var 3)) (.var 8)) (.bin .Mult (.var 3) (.var 5))) b24_4 .nil) b24_12
def b24_14 : Ss := .cons (.ite (.and (.cmp .LtE (.var 3) (.cst (.int 64))) (.or (.cmp .NotEq (.var 8) (.call 23 (.cons (.var 1) .nil))) (.cmp .NotEq (.call 11 (.cons (.var 1) .nil)) (.call 22 (.cons (.var 1) .nil))))) b24_3 .nil) b24_13
def b24_15 : Ss := .cons (.ite (.cmp .NotEq (.bin .Mult (.bin .Mult (.cst (.int 2)) (.var 3)) (.var 8)) (.bin .Add (.bin .Mult (.bin .Mult (.var 3) (.var 3)) (.var 3)) (.var 9))) b24_2 .nil) b24_14
def b24_16 : Ss := .cons (.asg1 (.nm 9) (.b1 .sum (.lc (.bin .Pow (.bin .Sub (.var 3) (.bin .Mult (.cst (.int 2)) (.var 7))) (.cst (.int 3))) [7] (.seq (.var 4)) .none [7]))) b24_15
def b24_17 : Ss := .cons (.asg1 (.nm 8) (.call 10 (.cons (.var 1) .nil))) b24_16
def b24_18 : Ss := .cons (.ite (.cmp .NotEq (.call 8 (.cons (.var 1) .nil)) (.tup (.cons (.var 5) (.cons (.b1 .tuple (.lc (.var 6) [6, 7] (.enum (.var 4)) (.some (.cmp .Eq (.var 7) (.var 5))) [6, 7])) .nil)))) b24_1 .nil) b24_17
def b24_19 : Ss := .cons (.asg1 (.nm 5) (.b1 .min (.var 4))) b24_18
def b24_20 : Ss := .cons (.ite (.cmp .NotEq (.call 7 (.cons (.var 1) .nil)) (.var 4)) b24_0 .nil) b24_19
def b24_21 : Ss := .cons (.asg [(.nm 3), (.nm 4)] (.cons (.b1 .len (.var 1)) (.cons (.call 20 (.cons (.var 1) .nil)) .nil))) b24_20
abbrev b24 : Ss := b24_21
theorem sc24 : C8.scC N24 ["pot", "bits", "many"] (defScope (top 35)) = true := by decide +kernel
theorem ck24 : ckSs b24 ⟨G, N24, (defScope (top 35)).names, (defScope (top 35)).names, 24⟩ (defBody (top 35)) = true := by decide +kernel
def N25 : List Str := ["pot", "bits", "many", "size", "due", "let", "mask", "added", "bit", "its", "at", "far", "one", "other", "led", "place", "masks", "order", "moved"]
def b25_0 : Ss := .cons (.ret (.cst (.bool false))) .nil
def b25_1 : Ss := .cons (.ret (.cst (.bool false))) .nil
def b25_2 : Ss := .cons (.ret (.cst (.bool true))) .nil
def b25_3 : Ss := .cons (.ret (.cst (.bool false))) .nil
def b25_4 : Ss := .cons (.ite (.or (.cmp .NotEq (.call 7 (.cons (.var 14) .nil)) (.var 16)) (.cmp .NotEq (.call 10 (.cons (.var 14) .nil)) (.var 5))) b25_3 .nil) .nil
def b25_5 : Ss := .cons (.asg1 (.nm 16) (.b1 .tuple (.lc (.idx (.var 4) (.bin .BitXor (.var 10) (.ife (.bin .BitAnd (.var 10) (.var 12)) (.var 13) (.cst (.int 0))))) [10] (.r1 (.var 3)) .none [10]))) b25_4
def b25_6 : Ss := .cons (.asg1 (.nm 14) (.b1 .tuple (.lc (.idx (.var 1) (.bin .BitXor (.var 15) (.ife (.bin .BitAnd (.var 15) (.var 13)) (.var 12) (.cst (.int 0))))) [15] (.r1 (.var 3)) .none [15]))) b25_5
def b25_7 : Ss := .cons (.app 16 (.idx (.var 4) (.var 18))) .nil
def b25_8 : Ss := .cons (.app 14 (.idx (.var 1) (.var 18))) b25_7
def b25_9 : Ss := .cons (.asg1 (.nm 18) (.b1 .sum (.lc (.bin .LShift (.cst (.int 1)) (.idx (.var 17) (.var 10))) [10] (.r1 (.var 2)) (.some (.cmp .Eq (.bin .BitAnd (.bin .RShift (.var 15) (.var 10)) (.cst (.int 1))) (.cst (.int 1)))) [10]))) b25_8
def b25_10 : Ss := .cons (.ret (.and (.cmp .Eq (.call 7 (.cons (.b1 .tuple (.var 14)) .nil)) (.b1 .tuple (.var 16))) (.cmp .Eq (.call 10 (.cons (.b1 .tuple (.var 14)) .nil)) (.var 5)))) .nil
def b25_11 : Ss := .cons (.fr [15] (.r1 (.var 3)) b25_9) b25_10
def b25_12 : Ss := .cons (.asg [(.nm 17), (.nm 14), (.nm 16)] (.cons (.cio 17 0 (.cons (.lrng (.var 2)) (.cons (.var 2) .nil))) (.cons (.lst .nil) (.cons (.lst .nil) .nil)))) b25_11
def b25_13 : Ss := .cons (.ite (.cmp .NotEq (.var 12) (.var 13)) b25_6 .nil) b25_12
def b25_14 : Ss := .cons (.asg [(.nm 12), (.nm 13)] (.cons (.bin .LShift (.cst (.int 1)) (.cio 14 0 (.cons (.var 2) .nil))) (.cons (.bin .LShift (.cst (.int 1)) (.cio 14 0 (.cons (.var 2) .nil))) .nil))) b25_13
def b25_15 : Ss := .cons (.ite (.cmp .Eq (.var 2) (.cst (.int 0))) b25_2 .nil) b25_14
def b25_16 : Ss := .cons (.ite (.cmp .NotEq (.call 7 (.cons (.b1 .tuple (.lc (.bin .Sub (.cst (.int 1)) (.var 8)) [8] (.seq (.var 1)) .none [8])) .nil)) (.b1 .tuple (.lc (.bin .Sub (.var 3) (.var 11)) [11] (.seq (.var 4)) .none [11]))) b25_1 .nil) b25_15
def b25_17 : Ss := .cons (.ite (.or (.cmp .NotEq (.call 7 (.cons (.var 7) .nil)) (.b1 .tuple (.lc (.idx (.var 4) (.bin .BitXor (.var 10) (.var 6))) [10] (.r1 (.var 3)) .none [10]))) (.cmp .NotEq (.call 10 (.cons (.var 7) .nil)) (.var 5))) b25_0 .nil) b25_16
def b25_18 : Ss := .cons (.asg1 (.nm 7) (.b1 .tuple (.lc (.bin .BitXor (.var 8) (.var 9)) [8, 9] (.zip (.var 1) (.call 19 (.cons (.var 2) (.cons (.var 6) .nil)))) .none [8, 9]))) b25_17
def b25_19 : Ss := .cons (.asg1 (.nm 6) (.cio 14 0 (.cons (.var 3) .nil))) b25_18
def b25_20 : Ss := .cons (.asg [(.nm 3), (.nm 4), (.nm 5)] (.cons (.b1 .len (.var 1)) (.cons (.call 20 (.cons (.var 1) .nil)) (.cons (.call 10 (.cons (.var 1) .nil)) .nil)))) b25_19
abbrev b25 : Ss := b25_20
theorem sc25 : C8.scC N25 ["pot", "bits", "many"] (defScope (top 36)) = true := by decide +kernel
theorem ck25 : ckSs b25 ⟨G, N25, (defScope (top 36)).names, (defScope (top 36)).names, 25⟩ (defBody (top 36)) = true := by decide +kernel
def N26 : List Str := ["pot", "many", "far", "one", "other", "both", "low", "high", "mine", "its", "size", "due", "refused", "some"]
def b26_0 : Ss := .cons (.ext 5 (.lc (.b1 .int (.bin .BitXor (.var 6) (.var 7))) [7] (.seq (.var 4)) .none [7])) .nil
def b26_1 : Ss := .cons (.ext 11 (.lc (.bin .FloorDiv (.bin .Sub (.var 10) (.bin .Mult (.bin .Sub (.b1 .len (.var 3)) (.bin .Mult (.cst (.int 2)) (.var 6))) (.bin .Sub (.b1 .len (.var 4)) (.bin .Mult (.cst (.int 2)) (.var 7))))) (.cst (.int 2))) [7] (.seq (.var 9)) .none [7])) .nil
def b26_2 : Ss := .cons (.ret (.cst (.bool false))) .nil
def b26_3 : Ss := .cons (.ret (.cmp .Eq (.idx (.var 12) (.cst (.int 2))) (.bin .Mult (.idx (.var 12) (.cst (.int 0))) (.idx (.var 12) (.cst (.int 1)))))) .nil
def b26_4 : Ss := .cons (.asg1 (.nm 12) (.lc (.bin .Sub (.bin .Mult (.cst (.int 2)) (.call 10 (.cons (.var 13) .nil))) (.bin .Mult (.b1 .len (.var 13)) (.b1 .len (.var 13)))) [13] (.seq (.tup (.cons (.var 3) (.cons (.var 4) (.cons (.b1 .tuple (.var 5)) .nil))))) .none [13])) b26_3
def b26_5 : Ss := .cons (.ite (.cmp .NotEq (.call 7 (.cons (.b1 .tuple (.var 5)) .nil)) (.b1 .tuple (.var 11))) b26_2 .nil) b26_4
def b26_6 : Ss := .cons (.fr [6] (.seq (.var 8)) b26_1) b26_5
def b26_7 : Ss := .cons (.asg1 (.nm 11) (.lst .nil)) b26_6
def b26_8 : Ss := .cons (.asg [(.nm 8), (.nm 9), (.nm 10)] (.cons (.call 7 (.cons (.var 3) .nil)) (.cons (.call 7 (.cons (.var 4) .nil)) (.cons (.b1 .len (.var 5)) .nil)))) b26_7
def b26_9 : Ss := .cons (.fr [6] (.seq (.var 3)) b26_0) b26_8
def b26_10 : Ss := .cons (.asg1 (.nm 5) (.lst .nil)) b26_9
def b26_11 : Ss := .cons (.asg [(.nm 3), (.nm 4)] (.cons (.cio 21 0 (.cons (.var 1) .nil)) (.cons (.cio 21 0 (.cons (.var 2) .nil)) .nil))) b26_10
def b26_12 : Ss := .cons (.unp [1, 2] (.cio 16 0 (.cons (.lst (.cons (.tup (.cons (.cst (.int 2)) (.cons (.cst (.int 3)) .nil))) (.cons (.tup (.cons (.cst (.int 3)) (.cons (.cst (.int 3)) .nil))) (.cons (.tup (.cons (.cst (.int 4)) (.cons (.cst (.int 4)) .nil))) (.cons (.tup (.cons (.cst (.int 0)) (.cons (.cst (.int 5)) .nil))) (.cons (.tup (.cons (.cst (.int 1)) (.cons (.cst (.int 6)) .nil))) (.cons (.tup (.cons (.cst (.int 4)) (.cons (.cst (.int 2)) .nil))) .nil))))))) .nil))) b26_11
abbrev b26 : Ss := b26_12
theorem sc26 : C8.scC N26 ["pot"] (defScope (top 37)) = true := by decide +kernel
theorem ck26 : ckSs b26 ⟨G, N26, (defScope (top 37)).names, (defScope (top 37)).names, 26⟩ (defBody (top 37)) = true := by decide +kernel
def N27 : List Str := ["pot", "many", "bits"]
def b27_0 : Ss := .cons (.ret (.and (.cio 24 0 (.cons (.var 2) (.cons (.var 1) .nil))) (.and (.cio 25 0 (.cons (.var 2) (.cons (.var 1) .nil))) (.cio 26 0 .nil)))) .nil
def b27_1 : Ss := .cons (.asg1 (.nm 2) (.cio 21 0 (.cons (.var 1) .nil))) b27_0
def b27_2 : Ss := .cons (.asg1 (.nm 1) (.cio 16 0 (.cons (.lst (.cons (.cst (.int 0)) (.cons (.cst (.int 1)) (.cons (.cst (.int 2)) (.cons (.cst (.int 3)) (.cons (.cst (.int 4)) (.cons (.cst (.int 5)) (.cons (.cst (.int 6)) (.cons (.cst (.int 8)) .nil))))))))) .nil))) b27_1
abbrev b27 : Ss := b27_2
theorem sc27 : C8.scC N27 ["pot"] (defScope (top 38)) = true := by decide +kernel
theorem ck27 : ckSs b27 ⟨G, N27, (defScope (top 38)).names, (defScope (top 38)).names, 27⟩ (defBody (top 38)) = true := by decide +kernel
def N28 : List Str := ["script", "place"]
def b28_0 : Ss := .cons (.ret (.cst (.bool false))) .nil
def b28_1 : Ss := .cons (.ite (.not (.cnw 27 (.call 13 (.cons (.var 0) (.cons (.var 1) .nil))) .nil)) b28_0 .nil) .nil
def b28_2 : Ss := .cons (.ret (.cst (.bool true))) .nil
def b28_3 : Ss := .cons (.fr [1] (.seq (.call 15 (.cons (.var 0) (.cons (.cst (.int 2)) .nil)))) b28_1) b28_2
abbrev b28 : Ss := b28_3
theorem sc28 : C8.scC N28 ["script"] (defScope (top 39)) = true := by decide +kernel
theorem ck28 : ckSs b28 ⟨G, N28, (defScope (top 39)).names, (defScope (top 39)).names, 28⟩ (defBody (top 39)) = true := by decide +kernel
end K13

set_option Elab.async false
set_option linter.all false
set_option maxRecDepth 100000
namespace K13
open PySem L2 VL BF

def bitsL (n : Nat) (b : Nat → Bool) : List Int := (List.range (2 ^ n)).map fun x => b2i (b x)
def T (n : Nat) (b : Nat → Bool) : List D := intsD (bitsL n b)
def dist (n : Nat) (b : Nat → Bool) : List Int := (List.range (2 ^ n)).map fun m => hd n b m
def pick (l : Int) (d : D) : Option D := match d with
  | .tuple [m, .int far] => if far = l then some m else none
  | _ => none
def masks (ds : List Int) (l : Int) : List D := ((intsD ds).mapIdx fun i x => .tuple [.int (i : Nat), x]).filterMap (pick l)
def mendD (n : Nat) (b : Nat → Bool) (p : Nat) : D := if 2 * onesF n b p = ((2 ^ n : Nat) : Int) then .none else .int (if ((2 ^ n : Nat) : Int) < 2 * onesF n b p then 1 else 0)
abbrev TB := Nat × (Nat → Bool)
def tbA (a : TB) : List D := [.tuple (T a.1 a.2)]
def s0 : DSpec := pureS .val 1 Int (fun i => [.int i]) (fun _ => True) (fun _ => .bool true) (fun _ => rfl)
def s1 : DSpec := pureS .val 2 (Int × Int) (fun a => [.int a.1, .int a.2]) (fun _ => True) (fun a => .bool (decide (0 ≤ a.1) && decide (a.1 < a.2))) (fun _ => rfl)
def s2 : DSpec := pureS .val 2 (Int × Nat) (fun a => [.int a.1, .int (a.2 : Int)]) (fun a => 0 ≤ a.1 ∧ a.1 < 2 ^ 63 ∧ a.2 ≤ 1000) (fun a => .int (a.1 ^ a.2)) (fun _ => rfl)
def s3 : DSpec := pureS .val 1 TB tbA (fun a => a.1 ≤ 8) (fun _ => .none) (fun _ => rfl)
def s4 : DSpec := pureS .val 2 (Int × Int) (fun a => [.int a.1, .int a.2]) (fun a => 0 ≤ a.1 ∧ a.1 < a.2) (fun _ => .none) (fun _ => rfl)
def s5 : DSpec := pureS .val 1 Nat (fun n => [.int (n : Int)]) (fun n => n < 2 ^ 9) (fun n => .int (b2i (par 9 n))) (fun _ => rfl)
def s6 : DSpec := pureS .val 2 (Nat × Nat) (fun a => [.int (a.1 : Int), .int (a.2 : Int)]) (fun a => a.1 ≤ 8 ∧ a.2 < 2 ^ a.1) (fun a => .tuple (T a.1 fun x => par 9 (x &&& a.2))) (fun _ => rfl)
def s7 : DSpec := pureS .val 1 TB tbA (fun a => a.1 ≤ 8) (fun a => .tuple (intsD (dist a.1 a.2))) (fun _ => rfl)
def s8 : DSpec := genS .val 1 TB tbA (fun a => a.1 ≤ 8) (fun a d => ∃ l, l ∈ dist a.1 a.2 ∧ (∀ y, y ∈ dist a.1 a.2 → l ≤ y) ∧ d = .tuple [.int l, .tuple (masks (dist a.1 a.2) l)]) (fun _ => rfl)
def s9 : DSpec := pureS .val 2 (TB × Nat) (fun a => [.tuple (T a.1.1 a.1.2), .int (a.2 : Int)]) (fun a => a.1.1 ≤ 8 ∧ a.2 < 2 ^ a.1.1) (fun a => .int (onesF a.1.1 a.1.2 a.2)) (fun _ => rfl)
def s10 : DSpec := pureS .val 1 TB tbA (fun a => a.1 ≤ 8) (fun a => .int (letF a.1 a.2)) (fun _ => rfl)
def s11 : DSpec := pureS .val 1 TB tbA (fun a => a.1 ≤ 8) (fun a => .tuple ((List.range (2 ^ a.1)).map (mendD a.1 a.2))) (fun _ => rfl)
def s12 : DSpec := pureS .val 2 (TB × Nat) (fun a => [.tuple (T a.1.1 a.1.2), .int (a.2 : Int)]) (fun a => a.1.1 ≤ 8 ∧ a.2 ≤ 40) (fun a => .tuple [.int (letF a.1.1 a.1.2 ^ a.2), .int ((((2 ^ a.1.1 : Nat) : Int) * ((2 ^ a.1.1 : Nat) : Int)) ^ a.2)]) (fun _ => rfl)
def s18 : DSpec := s5
def s19 : DSpec := s6
def s20 : DSpec := pureS .tup 1 TB tbA (fun a => a.1 ≤ 8) (fun a => .tuple (intsD (dist a.1 a.2))) (fun _ => rfl)
def s21 : DSpec := potS .val 2 1000 Nat (fun n => [.int (n : Int)]) (fun n => n ≤ 8) (fun n d => ∃ b, d = .tuple (T n b)) (fun _ => rfl)
def s22 : DSpec := s11
def s23 : DSpec := s10
def tS3 (k : Nat) : DSpec := potS .val 3 k TB (fun a => [.tuple (T a.1 a.2), .int (a.1 : Int)]) (fun a => a.1 ≤ 8) (fun _ d => d = .bool true) (fun _ => rfl)
def tS1 (k : Nat) : DSpec := potS .val 1 k Unit (fun _ => []) (fun _ => True) (fun _ d => d = .bool true) (fun _ => rfl)
def Γ : Nat → DSpec
  | 0 => s0 | 1 => s1 | 2 => s2 | 3 => s3 | 4 => s4 | 5 => s5 | 6 => s6 | 7 => s7 | 8 => s8 | 9 => s9 | 10 => s10 | 11 => s11 | 12 => s12
  | 13 => potNewS | 14 => takeS | 15 => cellsS | 16 => ofS | 17 => someS
  | 18 => s18 | 19 => s19 | 20 => s20 | 21 => s21 | 22 => s22 | 23 => s23 | 24 => tS3 10 | 25 => tS3 2000 | 26 => tS1 5000 | 27 => tS1 10000 | 28 => lawSpec 63
  | _ => takeS
theorem f0 : (Γ 0).fr = .val := rfl
theorem i0 : (Γ 0).io = false := rfl
theorem f1 : (Γ 1).fr = .val := rfl
theorem i1 : (Γ 1).io = false := rfl
theorem f2 : (Γ 2).fr = .val := rfl
theorem i2 : (Γ 2).io = false := rfl
theorem f3 : (Γ 3).fr = .val := rfl
theorem i3 : (Γ 3).io = false := rfl
theorem f4 : (Γ 4).fr = .val := rfl
theorem i4 : (Γ 4).io = false := rfl
theorem f5 : (Γ 5).fr = .val := rfl
theorem i5 : (Γ 5).io = false := rfl
theorem f6 : (Γ 6).fr = .val := rfl
theorem i6 : (Γ 6).io = false := rfl
theorem f7 : (Γ 7).fr = .val := rfl
theorem i7 : (Γ 7).io = false := rfl
theorem f8 : (Γ 8).fr = .val := rfl
theorem i8 : (Γ 8).io = false := rfl
theorem f9 : (Γ 9).fr = .val := rfl
theorem i9 : (Γ 9).io = false := rfl
theorem f10 : (Γ 10).fr = .val := rfl
theorem i10 : (Γ 10).io = false := rfl
theorem f11 : (Γ 11).fr = .val := rfl
theorem i11 : (Γ 11).io = false := rfl
theorem f12 : (Γ 12).fr = .val := rfl
theorem i12 : (Γ 12).io = false := rfl
theorem f13 : (Γ 13).fr = .lst := rfl
theorem i13 : (Γ 13).io = false := rfl
theorem f14 : (Γ 14).fr = .val := rfl
theorem i14 : (Γ 14).io = true := rfl
theorem f15 : (Γ 15).fr = .val := rfl
theorem i15 : (Γ 15).io = false := rfl
theorem f16 : (Γ 16).fr = .val := rfl
theorem i16 : (Γ 16).io = true := rfl
theorem f17 : (Γ 17).fr = .val := rfl
theorem i17 : (Γ 17).io = true := rfl
theorem f18 : (Γ 18).fr = .val := rfl
theorem i18 : (Γ 18).io = false := rfl
theorem f19 : (Γ 19).fr = .val := rfl
theorem i19 : (Γ 19).io = false := rfl
theorem f20 : (Γ 20).fr = .tup := rfl
theorem i20 : (Γ 20).io = false := rfl
theorem f21 : (Γ 21).fr = .val := rfl
theorem i21 : (Γ 21).io = true := rfl
theorem f22 : (Γ 22).fr = .val := rfl
theorem i22 : (Γ 22).io = false := rfl
theorem f23 : (Γ 23).fr = .val := rfl
theorem i23 : (Γ 23).io = false := rfl
theorem f24 : (Γ 24).fr = .val := rfl
theorem i24 : (Γ 24).io = true := rfl
theorem f25 : (Γ 25).fr = .val := rfl
theorem i25 : (Γ 25).io = true := rfl
theorem f26 : (Γ 26).fr = .val := rfl
theorem i26 : (Γ 26).io = true := rfl
theorem f27 : (Γ 27).fr = .val := rfl
theorem i27 : (Γ 27).io = true := rfl
theorem f28 : (Γ 28).fr = .val := rfl
theorem i28 : (Γ 28).io = false := rfl
theorem ok13 : BodyOk G Γ 5 b13 potNewS := by
  refine body_gen fun a ha p E hn hr => ?_
  obtain ⟨ns, place⟩ := a
  obtain ⟨h1, h2⟩ : place ≤ 10000 ∧ ns.length ≤ 10000 := ha
  show xss G Γ b13_3 [some (.im (.list (intsD ns))), some (.im (.int (place : Int))), none, none, none] E
  have key : ∀ cell : Int, xss G Γ b13_2 [some (.im (.list (intsD ns))), some (.im (.int (place : Int))), some (.im (.int cell)), none, none] E := fun cell => by
    simp only [xss, xs, ev, evA, evT, evR, evO, evF, evI, cVar, cBin, cIdx, cB1, cIsi, cCall, cCio, cCnw, tru, vv, toVal, cv, asD, setAt, putT, putTs, bindT, setAll, augW, binW, cmpW, b1W, b2W, truth, seqOf, retW, wipeE, restore, keepI, retOk, fin, endsOf, List.getElem?_cons_zero, List.getElem?_cons_succ, List.getD_cons_zero, List.getD_cons_succ, List.set_cons_zero, List.set_cons_succ, List.length_cons, List.length_nil, List.nil_append, List.cons_append, reduceIte, isi_ii, isi_ib, isi_tt, eqW_int, Bool.not_true, Bool.not_false, Bool.false_eq_true, Option.some.injEq, exists_eq_left', exists_eq_left, true_and, and_true, Bool.true_eq_false, Prod.mk.injEq, decide_eq_true_eq, and_assoc, exists_and_left, at3_0, at3_1, at3_2, ix3_0, ix3_2, Nat.reduceAdd, PyData.int.injEq, PyData.bool.injEq, Int.toNat_natCast, b13_2]
    have em : ∀ t : Int, 0 ≤ t % 10 ^ 300 ∧ t % 10 ^ 300 < 10 ^ 300 := fun t => mod_in (by decide)
    refine ⟨pow_a, pow_b, by rw [p300]; decide, pow_c, ?_⟩
    rw [p300]
    refine ⟨?_, ?_⟩
    · exact mul_r ite01.1 ite01.2
    · have hown : ∀ b : Bool, ∃ own : Int, (if cell < 0 then -cell else cell) % 10 ^ 300 * (if b = true then 1 else 0) = own ∧ 0 ≤ own ∧ own < 10 ^ 300 := fun b => by
        refine ⟨_, rfl, ?_⟩
        cases b
        · rw [if_neg Bool.false_ne_true, Int.mul_zero]
          decide
        · rw [if_pos rfl, Int.mul_one]
          exact em _
      obtain ⟨own, e, o1, o2⟩ := hown (decide (10 ^ (18 : Int).toNat ≤ if cell < 0 then -cell else cell))
      simp only [decide_eq_true_eq] at e
      rw [e]
      simp only [xss, xs, ev, evA, evT, evR, evO, evF, evI, cVar, cBin, cIdx, cB1, cIsi, cCall, cCio, cCnw, tru, vv, toVal, cv, asD, setAt, putT, putTs, bindT, setAll, augW, binW, cmpW, b1W, b2W, truth, seqOf, retW, wipeE, restore, keepI, retOk, fin, endsOf, List.getElem?_cons_zero, List.getElem?_cons_succ, List.getD_cons_zero, List.getD_cons_succ, List.set_cons_zero, List.set_cons_succ, List.length_cons, List.length_nil, List.nil_append, List.cons_append, reduceIte, isi_ii, isi_ib, isi_tt, eqW_int, Bool.not_true, Bool.not_false, Bool.false_eq_true, Option.some.injEq, exists_eq_left', exists_eq_left, true_and, and_true, Bool.true_eq_false, Prod.mk.injEq, decide_eq_true_eq, and_assoc, exists_and_left, at3_0, at3_1, at3_2, ix3_0, ix3_2, Nat.reduceAdd, PyData.int.injEq, PyData.bool.injEq, Int.toNat_natCast, b13_1]
      refine ⟨by decide, ?_⟩
      have hs := mod_in (i := cell) (m := 2305843009213693951) (by decide)
      simp only [xss, xs, ev, evA, evT, evR, evO, evF, evI, cVar, cBin, cIdx, cB1, cIsi, cCall, cCio, cCnw, tru, vv, toVal, cv, asD, setAt, putT, putTs, bindT, setAll, augW, binW, cmpW, b1W, b2W, truth, seqOf, retW, wipeE, restore, keepI, retOk, fin, endsOf, List.getElem?_cons_zero, List.getElem?_cons_succ, List.getD_cons_zero, List.getD_cons_succ, List.set_cons_zero, List.set_cons_succ, List.length_cons, List.length_nil, List.nil_append, List.cons_append, reduceIte, isi_ii, isi_ib, isi_tt, eqW_int, Bool.not_true, Bool.not_false, Bool.false_eq_true, Option.some.injEq, exists_eq_left', exists_eq_left, true_and, and_true, Bool.true_eq_false, Prod.mk.injEq, decide_eq_true_eq, and_assoc, exists_and_left, at3_0, at3_1, at3_2, ix3_0, ix3_2, Nat.reduceAdd, PyData.int.injEq, PyData.bool.injEq, Int.toNat_natCast, b13_0]
      refine ⟨mul_r (by decide) (by decide), mul_l (by decide) (by decide), mul_r (by omega) (by omega), by decide, by decide, fun q => hr _ _ (ret_gl ⟨_, rfl, own, _, 0, rfl, o1, o2, (mod_in (by decide)).1, Int.lt_trans (mod_in (by decide)).2 (by decide), by decide, by decide⟩)⟩
  simp only [xss, xs, ev, evA, evT, evR, evO, evF, evI, cVar, cBin, cIdx, cB1, cIsi, cCall, cCio, cCnw, tru, vv, toVal, cv, asD, setAt, putT, putTs, bindT, setAll, augW, binW, cmpW, b1W, b2W, truth, seqOf, retW, wipeE, restore, keepI, retOk, fin, endsOf, List.getElem?_cons_zero, List.getElem?_cons_succ, List.getD_cons_zero, List.getD_cons_succ, List.set_cons_zero, List.set_cons_succ, List.length_cons, List.length_nil, List.nil_append, List.cons_append, reduceIte, isi_ii, isi_ib, isi_tt, eqW_int, Bool.not_true, Bool.not_false, Bool.false_eq_true, Option.some.injEq, exists_eq_left', exists_eq_left, true_and, and_true, Bool.true_eq_false, Prod.mk.injEq, decide_eq_true_eq, and_assoc, exists_and_left, at3_0, at3_1, at3_2, ix3_0, ix3_2, Nat.reduceAdd, PyData.int.injEq, PyData.bool.injEq, Int.toNat_natCast, b13_3]
  by_cases h0 : (place : Int) < ((intsD ns).length : Nat)
  · rw [if_pos h0]
    obtain ⟨x, e1, e2⟩ := at_nat (by omega) h0
    obtain ⟨z, e3, rfl⟩ := get_ints e1
    exact ⟨_, e2, key z⟩
  · rw [if_neg h0]
    intro q
    obtain ⟨js, e⟩ := cut_ints (is := ns) (lo := none) (hi := some 1)
    rw [e]
    exact ⟨js, rfl, by decide, mul_l (by decide) (by decide), key _⟩
theorem ok15 : BodyOk G Γ 2 b15 cellsS := by
  refine body_pure fun a ha p E hn hr => ?_
  obtain ⟨ns, m⟩ := a
  obtain ⟨h1, h2, h3⟩ : 1 ≤ m ∧ m ≤ 100 ∧ ns.length ≤ 10000 := ha
  show xss G Γ b15_0 [some (.im (.list (intsD ns))), some (.im (.int (m : Int)))] E
  simp only [xss, xs, ev, evA, evT, evR, evO, evF, evI, cVar, cBin, cIdx, cB1, cIsi, cCall, cCio, cCnw, tru, vv, toVal, cv, asD, setAt, putT, putTs, bindT, setAll, augW, binW, cmpW, b1W, b2W, truth, seqOf, retW, wipeE, restore, keepI, retOk, fin, endsOf, List.getElem?_cons_zero, List.getElem?_cons_succ, List.getD_cons_zero, List.getD_cons_succ, List.set_cons_zero, List.set_cons_succ, List.length_cons, List.length_nil, List.nil_append, List.cons_append, reduceIte, isi_ii, isi_ib, isi_tt, eqW_int, Bool.not_true, Bool.not_false, Bool.false_eq_true, Option.some.injEq, exists_eq_left', exists_eq_left, true_and, and_true, Bool.true_eq_false, Prod.mk.injEq, decide_eq_true_eq, and_assoc, exists_and_left, at3_0, at3_1, at3_2, ix3_0, ix3_2, Nat.reduceAdd, PyData.int.injEq, PyData.bool.injEq, Int.toNat_natCast, b15_0, b2W]
  have e : (if (if (((intsD ns).length : Nat) : Int) < (m : Int) then (((intsD ns).length : Nat) : Int) else (m : Int)) > 1 then (if (((intsD ns).length : Nat) : Int) < (m : Int) then (((intsD ns).length : Nat) : Int) else (m : Int)) else 1) = ((max 1 (min m ns.length) : Nat) : Int) := by
    rw [List.length_map]
    split <;> split at * <;> omega
  rw [e]
  refine ⟨by omega, by omega, fun q => hr _ _ (ret_vn ?_)⟩
  rw [Int.toNat_natCast]
theorem ok14 : BodyOk G Γ 5 b14 takeS := by
  refine body_pot fun u hu c pds hp hc p E hr => ?_
  obtain ⟨own, seed, cnt, rfl, h1, h2, h3, h4, h5, h6⟩ := hp
  show xss G Γ b14_8 [some (.ow p [.int own, .int seed, .int cnt]), some (.im (.int u)), none, none, none] E
  simp only [xss, xs, ev, evA, evT, evR, evO, evF, evI, cVar, cBin, cIdx, cB1, cIsi, cCall, cCio, cCnw, tru, vv, toVal, cv, asD, setAt, putT, putTs, bindT, setAll, augW, binW, cmpW, b1W, b2W, truth, seqOf, retW, wipeE, restore, keepI, retOk, fin, endsOf, List.getElem?_cons_zero, List.getElem?_cons_succ, List.getD_cons_zero, List.getD_cons_succ, List.set_cons_zero, List.set_cons_succ, List.length_cons, List.length_nil, List.nil_append, List.cons_append, reduceIte, isi_ii, isi_ib, isi_tt, eqW_int, Bool.not_true, Bool.not_false, Bool.false_eq_true, Option.some.injEq, exists_eq_left', exists_eq_left, true_and, and_true, Bool.true_eq_false, Prod.mk.injEq, decide_eq_true_eq, and_assoc, exists_and_left, at3_0, at3_1, at3_2, ix3_0, ix3_2, Nat.reduceAdd, PyData.int.injEq, PyData.bool.injEq, Int.toNat_natCast, b14_8]
  by_cases h0 : 0 < own
  · rw [if_pos h0]
    simp only [xss, xs, ev, evA, evT, evR, evO, evF, evI, cVar, cBin, cIdx, cB1, cIsi, cCall, cCio, cCnw, tru, vv, toVal, cv, asD, setAt, putT, putTs, bindT, setAll, augW, binW, cmpW, b1W, b2W, truth, seqOf, retW, wipeE, restore, keepI, retOk, fin, endsOf, List.getElem?_cons_zero, List.getElem?_cons_succ, List.getD_cons_zero, List.getD_cons_succ, List.set_cons_zero, List.set_cons_succ, List.length_cons, List.length_nil, List.nil_append, List.cons_append, reduceIte, isi_ii, isi_ib, isi_tt, eqW_int, Bool.not_true, Bool.not_false, Bool.false_eq_true, Option.some.injEq, exists_eq_left', exists_eq_left, true_and, and_true, Bool.true_eq_false, Prod.mk.injEq, decide_eq_true_eq, and_assoc, exists_and_left, at3_0, at3_1, at3_2, ix3_0, ix3_2, Nat.reduceAdd, PyData.int.injEq, PyData.bool.injEq, Int.toNat_natCast, b14_2, b14_1, b14_0]
    have hm := mod_in (i := own) (m := u) (by omega)
    refine ⟨by omega, div_ok (by omega) (by omega), hr _ _ (ret_kv ⟨_, rfl, hm.1, hm.2⟩ ⟨_, _, _, rfl, Int.ediv_nonneg h1 (by omega), ?_, h3, h4, h5, by omega⟩)⟩
    exact Int.lt_of_le_of_lt (Int.ediv_le_self _ h1) h2
  · rw [if_neg h0]
    simp only [xss, xs, ev, evA, evT, evR, evO, evF, evI, cVar, cBin, cIdx, cB1, cIsi, cCall, cCio, cCnw, tru, vv, toVal, cv, asD, setAt, putT, putTs, bindT, setAll, augW, binW, cmpW, b1W, b2W, truth, seqOf, retW, wipeE, restore, keepI, retOk, fin, endsOf, List.getElem?_cons_zero, List.getElem?_cons_succ, List.getD_cons_zero, List.getD_cons_succ, List.set_cons_zero, List.set_cons_succ, List.length_cons, List.length_nil, List.nil_append, List.cons_append, reduceIte, isi_ii, isi_ib, isi_tt, eqW_int, Bool.not_true, Bool.not_false, Bool.false_eq_true, Option.some.injEq, exists_eq_left', exists_eq_left, true_and, and_true, Bool.true_eq_false, Prod.mk.injEq, decide_eq_true_eq, and_assoc, exists_and_left, at3_0, at3_1, at3_2, ix3_0, ix3_2, Nat.reduceAdd, PyData.int.injEq, PyData.bool.injEq, Int.toNat_natCast, b14_7]
    simp only [xss, xs, ev, evA, evT, evR, evO, evF, evI, cVar, cBin, cIdx, cB1, cIsi, cCall, cCio, cCnw, tru, vv, toVal, cv, asD, setAt, putT, putTs, bindT, setAll, augW, binW, cmpW, b1W, b2W, truth, seqOf, retW, wipeE, restore, keepI, retOk, fin, endsOf, List.getElem?_cons_zero, List.getElem?_cons_succ, List.getD_cons_zero, List.getD_cons_succ, List.set_cons_zero, List.set_cons_succ, List.length_cons, List.length_nil, List.nil_append, List.cons_append, reduceIte, isi_ii, isi_ib, isi_tt, eqW_int, Bool.not_true, Bool.not_false, Bool.false_eq_true, Option.some.injEq, exists_eq_left', exists_eq_left, true_and, and_true, Bool.true_eq_false, Prod.mk.injEq, decide_eq_true_eq, and_assoc, exists_and_left, at3_0, at3_1, at3_2, ix3_0, ix3_2, Nat.reduceAdd, PyData.int.injEq, PyData.bool.injEq, Int.toNat_natCast, b14_6]
    have hc5 := mod_in (i := cnt + 1) (m := 5) (by decide)
    refine ⟨by decide, fun p' => ⟨by decide, ?_⟩⟩
    have key : ∀ q : Int, 0 < q → q < 2 ^ 32 → xss G Γ b14_5 [some (.ow p [.int own, .int seed, .int (cnt + 1)]), some (.im (.int u)), none, some (.im (.int q)), none] E := fun q q0 q1 => by
      simp only [xss, xs, ev, evA, evT, evR, evO, evF, evI, cVar, cBin, cIdx, cB1, cIsi, cCall, cCio, cCnw, tru, vv, toVal, cv, asD, setAt, putT, putTs, bindT, setAll, augW, binW, cmpW, b1W, b2W, truth, seqOf, retW, wipeE, restore, keepI, retOk, fin, endsOf, List.getElem?_cons_zero, List.getElem?_cons_succ, List.getD_cons_zero, List.getD_cons_succ, List.set_cons_zero, List.set_cons_succ, List.length_cons, List.length_nil, List.nil_append, List.cons_append, reduceIte, isi_ii, isi_ib, isi_tt, eqW_int, Bool.not_true, Bool.not_false, Bool.false_eq_true, Option.some.injEq, exists_eq_left', exists_eq_left, true_and, and_true, Bool.true_eq_false, Prod.mk.injEq, decide_eq_true_eq, and_assoc, exists_and_left, at3_0, at3_1, at3_2, ix3_0, ix3_2, Nat.reduceAdd, PyData.int.injEq, PyData.bool.injEq, Int.toNat_natCast, b14_5]
      have e8 : (10 : Int) ^ 8 = 100000000 := by decide
      have hc1 : cnt + 1 ≤ 100000000 := by omega
      have hb : 0 ≤ (cnt + 1) * (cnt + 1) ∧ (cnt + 1) * (cnt + 1) ≤ 100000000 * 100000000 := ⟨Int.mul_nonneg (by omega) (by omega), Int.mul_le_mul hc1 hc1 (by omega) (by omega)⟩
      refine ⟨mul_l (by decide) (by decide), mul_l (by omega) (by omega), cpow3 (by rw [Int.mul_assoc]; omega) (by rw [Int.mul_assoc]; omega), q0, ?_⟩
      have hm := mod_in (m := q) (i := (seed + 76194 * (cnt + 1) * (cnt + 1) + 29996) ^ (3 : Int).toNat) q0
      revert hm
      generalize (seed + 76194 * (cnt + 1) * (cnt + 1) + 29996) ^ (3 : Int).toNat % q = z
      rintro ⟨z0, z1⟩
      simp only [xss, xs, ev, evA, evT, evR, evO, evF, evI, cVar, cBin, cIdx, cB1, cIsi, cCall, cCio, cCnw, tru, vv, toVal, cv, asD, setAt, putT, putTs, bindT, setAll, augW, binW, cmpW, b1W, b2W, truth, seqOf, retW, wipeE, restore, keepI, retOk, fin, endsOf, List.getElem?_cons_zero, List.getElem?_cons_succ, List.getD_cons_zero, List.getD_cons_succ, List.set_cons_zero, List.set_cons_succ, List.length_cons, List.length_nil, List.nil_append, List.cons_append, reduceIte, isi_ii, isi_ib, isi_tt, eqW_int, Bool.not_true, Bool.not_false, Bool.false_eq_true, Option.some.injEq, exists_eq_left', exists_eq_left, true_and, and_true, Bool.true_eq_false, Prod.mk.injEq, decide_eq_true_eq, and_assoc, exists_and_left, at3_0, at3_1, at3_2, ix3_0, ix3_2, Nat.reduceAdd, PyData.int.injEq, PyData.bool.injEq, Int.toNat_natCast, b14_4]
      refine ⟨by decide, mul_l (by decide) (by decide), mul_l z0 (by omega), by decide, ?_⟩
      simp only [xss, xs, ev, evA, evT, evR, evO, evF, evI, cVar, cBin, cIdx, cB1, cIsi, cCall, cCio, cCnw, tru, vv, toVal, cv, asD, setAt, putT, putTs, bindT, setAll, augW, binW, cmpW, b1W, b2W, truth, seqOf, retW, wipeE, restore, keepI, retOk, fin, endsOf, List.getElem?_cons_zero, List.getElem?_cons_succ, List.getD_cons_zero, List.getD_cons_succ, List.set_cons_zero, List.set_cons_succ, List.length_cons, List.length_nil, List.nil_append, List.cons_append, reduceIte, isi_ii, isi_ib, isi_tt, eqW_int, Bool.not_true, Bool.not_false, Bool.false_eq_true, Option.some.injEq, exists_eq_left', exists_eq_left, true_and, and_true, Bool.true_eq_false, Prod.mk.injEq, decide_eq_true_eq, and_assoc, exists_and_left, at3_0, at3_1, at3_2, ix3_0, ix3_2, Nat.reduceAdd, PyData.int.injEq, PyData.bool.injEq, Int.toNat_natCast, b14_3]
      have hm := fun i => mod_in (i := i) (m := u) (by omega)
      exact ⟨div_ok (by decide) (by decide), by omega, hr _ _ (ret_kv ⟨_, rfl, (hm _).1, (hm _).2⟩ ⟨_, _, _, rfl, h1, h2, h3, h4, by omega, by omega⟩)⟩
    rcases at5 (a := .int 2147483647) (b := .int 2147483629) (c := .int 2147483587) (d := .int 2147483579) (e := .int 2147483563) hc5.1 hc5.2 with h | h | h | h | h <;> exact ⟨_, h, key _ (by decide) (by decide)⟩
theorem ok16 : BodyOk G Γ 2 b16 ofS := by
  refine body_pot fun ds hd c pds hp hc p E hr => ?_
  obtain ⟨h1, h2⟩ := hd
  show xss G Γ b16_0 [some (.ow p pds), some (.im (.list ds))] E
  simp only [xss, xs, ev, evA, evT, evR, evO, evF, evI, cVar, cBin, cIdx, cB1, cIsi, cCall, cCio, cCnw, tru, vv, toVal, cv, asD, setAt, putT, putTs, bindT, setAll, augW, binW, cmpW, b1W, b2W, truth, seqOf, retW, wipeE, restore, keepI, retOk, fin, endsOf, List.getElem?_cons_zero, List.getElem?_cons_succ, List.getD_cons_zero, List.getD_cons_succ, List.set_cons_zero, List.set_cons_succ, List.length_cons, List.length_nil, List.nil_append, List.cons_append, reduceIte, isi_ii, isi_ib, isi_tt, eqW_int, Bool.not_true, Bool.not_false, Bool.false_eq_true, Option.some.injEq, exists_eq_left', exists_eq_left, true_and, and_true, Bool.true_eq_false, Prod.mk.injEq, decide_eq_true_eq, and_assoc, exists_and_left, at3_0, at3_1, at3_2, ix3_0, ix3_2, Nat.reduceAdd, PyData.int.injEq, PyData.bool.injEq, Int.toNat_natCast, b16_0, f14, i14]
  refine (run_pot hp (by omega) _ rfl ⟨by omega, by omega⟩ fun d pds' hd hp' => ?_)
  obtain ⟨r, rfl, r0, r1⟩ := hd
  obtain ⟨x, e1, e2⟩ := at_nat r0 r1
  simp only [xss, xs, ev, evA, evT, evR, evO, evF, evI, cVar, cBin, cIdx, cB1, cIsi, cCall, cCio, cCnw, tru, vv, toVal, cv, asD, setAt, putT, putTs, bindT, setAll, augW, binW, cmpW, b1W, b2W, truth, seqOf, retW, wipeE, restore, keepI, retOk, fin, endsOf, List.getElem?_cons_zero, List.getElem?_cons_succ, List.getD_cons_zero, List.getD_cons_succ, List.set_cons_zero, List.set_cons_succ, List.length_cons, List.length_nil, List.nil_append, List.cons_append, reduceIte, isi_ii, isi_ib, isi_tt, eqW_int, Bool.not_true, Bool.not_false, Bool.false_eq_true, Option.some.injEq, exists_eq_left', exists_eq_left, true_and, and_true, Bool.true_eq_false, Prod.mk.injEq, decide_eq_true_eq, and_assoc, exists_and_left, at3_0, at3_1, at3_2, ix3_0, ix3_2, Nat.reduceAdd, PyData.int.injEq, PyData.bool.injEq, Int.toNat_natCast]
  exact ⟨x, e2, hr _ _ (ret_kv (List.mem_of_getElem? e1) hp')⟩
theorem ok17 : BodyOk G Γ 6 b17 someS := by
  refine body_pot fun is hd c pds hp hc p E hr => ?_
  show xss G Γ b17_3 [some (.ow p pds), some (.im (.list (intsD is))), some (.im (.int (is.length : Int))), none, none, none] E
  simp only [xss, xs, ev, evA, evT, evR, evO, evF, evI, cVar, cBin, cIdx, cB1, cIsi, cCall, cCio, cCnw, tru, vv, toVal, cv, asD, setAt, putT, putTs, bindT, setAll, augW, binW, cmpW, b1W, b2W, truth, seqOf, retW, wipeE, restore, keepI, retOk, fin, endsOf, List.getElem?_cons_zero, List.getElem?_cons_succ, List.getD_cons_zero, List.getD_cons_succ, List.set_cons_zero, List.set_cons_succ, List.length_cons, List.length_nil, List.nil_append, List.cons_append, reduceIte, isi_ii, isi_ib, isi_tt, eqW_int, Bool.not_true, Bool.not_false, Bool.false_eq_true, Option.some.injEq, exists_eq_left', exists_eq_left, true_and, and_true, Bool.true_eq_false, Prod.mk.injEq, decide_eq_true_eq, and_assoc, exists_and_left, at3_0, at3_1, at3_2, ix3_0, ix3_2, Nat.reduceAdd, PyData.int.injEq, PyData.bool.injEq, Int.toNat_natCast, b17_3]
  refine fun pl => ⟨by decide, fun pf => ?_⟩
  simp only [xss, xs, ev, evA, evT, evR, evO, evF, evI, cVar, cBin, cIdx, cB1, cIsi, cCall, cCio, cCnw, tru, vv, toVal, cv, asD, setAt, putT, putTs, bindT, setAll, augW, binW, cmpW, b1W, b2W, truth, seqOf, retW, wipeE, restore, keepI, retOk, fin, endsOf, List.getElem?_cons_zero, List.getElem?_cons_succ, List.getD_cons_zero, List.getD_cons_succ, List.set_cons_zero, List.set_cons_succ, List.length_cons, List.length_nil, List.nil_append, List.cons_append, reduceIte, isi_ii, isi_ib, isi_tt, eqW_int, Bool.not_true, Bool.not_false, Bool.false_eq_true, Option.some.injEq, exists_eq_left', exists_eq_left, true_and, and_true, Bool.true_eq_false, Prod.mk.injEq, decide_eq_true_eq, and_assoc, exists_and_left, at3_0, at3_1, at3_2, ix3_0, ix3_2, Nat.reduceAdd, PyData.int.injEq, PyData.bool.injEq, Int.toNat_natCast, b17_2]
  refine ⟨by omega, by omega, ?_⟩
  refine forL_inv (fun i ρ => ∃ (pds' : List D) (left found : List Int) (l : Option SV), ρ = [some (.ow p pds'), some (.im (.list (intsD is))), some (.im (.int (is.length : Int))), some (.ow pl (intsD left)), some (.ow pf (intsD found)), l] ∧ Pot (c + i) pds' ∧ (found ++ left).Perm is ∧ left.length + i = is.length)
    ⟨pds, is, [], none, rfl, hp, List.Perm.refl _, rfl⟩ (fun i x ρ k hx h hk => ?_) fun ρ h => ?_
  · obtain ⟨pds', left, found, l, rfl, hp', hpm, hl⟩ := h
    have hi : i < is.length := by
      have := (List.getElem?_eq_some_iff.mp hx).1
      simpa using this
    simp only [xss, xs, ev, evA, evT, evR, evO, evF, evI, cVar, cBin, cIdx, cB1, cIsi, cCall, cCio, cCnw, tru, vv, toVal, cv, asD, setAt, putT, putTs, bindT, setAll, augW, binW, cmpW, b1W, b2W, truth, seqOf, retW, wipeE, restore, keepI, retOk, fin, endsOf, List.getElem?_cons_zero, List.getElem?_cons_succ, List.getD_cons_zero, List.getD_cons_succ, List.set_cons_zero, List.set_cons_succ, List.length_cons, List.length_nil, List.nil_append, List.cons_append, reduceIte, isi_ii, isi_ib, isi_tt, eqW_int, Bool.not_true, Bool.not_false, Bool.false_eq_true, Option.some.injEq, exists_eq_left', exists_eq_left, true_and, and_true, Bool.true_eq_false, Prod.mk.injEq, decide_eq_true_eq, and_assoc, exists_and_left, at3_0, at3_1, at3_2, ix3_0, ix3_2, Nat.reduceAdd, PyData.int.injEq, PyData.bool.injEq, Int.toNat_natCast, b17_0, f14, i14]
    refine run_pot hp' (by omega) _ rfl ⟨by rw [List.length_map]; omega, by rw [List.length_map]; omega⟩ fun d pds'' hd hp'' => ?_
    obtain ⟨r, rfl, r0, r1⟩ := hd
    simp only [xss, xs, ev, evA, evT, evR, evO, evF, evI, cVar, cBin, cIdx, cB1, cIsi, cCall, cCio, cCnw, tru, vv, toVal, cv, asD, setAt, putT, putTs, bindT, setAll, augW, binW, cmpW, b1W, b2W, truth, seqOf, retW, wipeE, restore, keepI, retOk, fin, endsOf, List.getElem?_cons_zero, List.getElem?_cons_succ, List.getD_cons_zero, List.getD_cons_succ, List.set_cons_zero, List.set_cons_succ, List.length_cons, List.length_nil, List.nil_append, List.cons_append, reduceIte, isi_ii, isi_ib, isi_tt, eqW_int, Bool.not_true, Bool.not_false, Bool.false_eq_true, Option.some.injEq, exists_eq_left', exists_eq_left, true_and, and_true, Bool.true_eq_false, Prod.mk.injEq, decide_eq_true_eq, and_assoc, exists_and_left, at3_0, at3_1, at3_2, ix3_0, ix3_2, Nat.reduceAdd, PyData.int.injEq, PyData.bool.injEq, Int.toNat_natCast]
    have hl2 : (intsD left).length = left.length := List.length_map _
    rw [hl2] at r1
    have hlt : r.toNat < left.length := by omega
    have eg : (intsD left)[r.toNat]? = some (.int left[r.toNat]) := by
      rw [List.getElem?_map, List.getElem?_eq_getElem hlt]
      rfl
    have ep := perm_erase (List.getElem?_eq_getElem hlt)
    have hpl : found.length + left.length = is.length := by
      have := hpm.length_eq
      rw [List.length_append] at this
      exact this
    have hd' : is.length ≤ 1000 := hd
    refine ⟨r0, by rw [hl2]; exact r1, by rw [hl2]; omega, _, eg, by rw [List.length_map]; omega, hk _ ⟨pds'', left.eraseIdx r.toNat, found ++ [left[r.toNat]], some (.im x), ?_, hp'', ?_, ?_⟩⟩
    · rw [erase_ints, ints_app]
      rfl
    · refine List.Perm.trans ?_ hpm
      rw [List.append_assoc]
      exact List.Perm.append_left _ ep
    · have := ep.length_eq
      rw [List.length_cons] at this
      omega
  · obtain ⟨pds', left, found, l, rfl, hp', hpm, hl⟩ := h
    have hl : left.length + is.length = is.length := by simpa using hl
    have e : left = [] := List.length_eq_zero_iff.mp (by omega)
    subst e
    have hd' : is.length ≤ 1000 := hd
    simp only [xss, xs, ev, evA, evT, evR, evO, evF, evI, cVar, cBin, cIdx, cB1, cIsi, cCall, cCio, cCnw, tru, vv, toVal, cv, asD, setAt, putT, putTs, bindT, setAll, augW, binW, cmpW, b1W, b2W, truth, seqOf, retW, wipeE, restore, keepI, retOk, fin, endsOf, List.getElem?_cons_zero, List.getElem?_cons_succ, List.getD_cons_zero, List.getD_cons_succ, List.set_cons_zero, List.set_cons_succ, List.length_cons, List.length_nil, List.nil_append, List.cons_append, reduceIte, isi_ii, isi_ib, isi_tt, eqW_int, Bool.not_true, Bool.not_false, Bool.false_eq_true, Option.some.injEq, exists_eq_left', exists_eq_left, true_and, and_true, Bool.true_eq_false, Prod.mk.injEq, decide_eq_true_eq, and_assoc, exists_and_left, at3_0, at3_1, at3_2, ix3_0, ix3_2, Nat.reduceAdd, PyData.int.injEq, PyData.bool.injEq, Int.toNat_natCast, b17_1]
    exact hr _ _ (ret_kvp (i := 3) rfl ⟨found, rfl, by simpa using hpm⟩ (hp'.up (by simp; omega)))
end K13

set_option Elab.async false
set_option linter.all false
set_option maxRecDepth 100000
namespace K13
open PySem L2 VL BF

theorem gc0 : G.gc[0]? = some (("MOST_NAMES" : PySem.Str), PyData.int 8) := rfl
theorem gc1 : G.gc[1]? = some (("MOST_ROWS" : PySem.Str), PyData.int 40) := rfl
theorem gc2 : G.gc[2]? = some (("BITS" : PySem.Str), PyData.int 2) := rfl
theorem gc3 : G.gc[3]? = some (("SIZES" : PySem.Str), PyData.tuple (intsD [1, 2, 4, 8, 16, 32, 64, 128, 256])) := rfl
theorem len_T (n : Nat) (b : Nat → Bool) : (T n b).length = 2 ^ n := by simp [T, bitsL]
theorem T_eq (n : Nat) (b : Nat → Bool) : T n b = (List.range (2 ^ n)).map fun x => PyData.int (b2i (b x)) := (rng_ints _).symm
theorem at_T {n x : Nat} (b : Nat → Bool) (h : x < 2 ^ n) : atI (T n b) (x : Int) = some (.int (b2i (b x))) := by
  have : x < (bitsL n b).length := by simp [bitsL]; exact h
  rw [show T n b = intsD (bitsL n b) from rfl, ints_at rfl this]
  simp [bitsL]
theorem at_sizes {m : Nat} (h : m ≤ 8) : atI (intsD [1, 2, 4, 8, 16, 32, 64, 128, 256]) (m : Int) = some (.int ((2 ^ m : Nat) : Int)) := by
  have : m = 0 ∨ m = 1 ∨ m = 2 ∨ m = 3 ∨ m = 4 ∨ m = 5 ∨ m = 6 ∨ m = 7 ∨ m = 8 := by omega
  rcases this with rfl | rfl | rfl | rfl | rfl | rfl | rfl | rfl | rfl <;> rfl
theorem in_sizes {m : Nat} (h : m ≤ 8) : (((2 ^ m : Nat) : Int) ∈ ([1, 2, 4, 8, 16, 32, 64, 128, 256] : List Int)) := by
  have : m = 0 ∨ m = 1 ∨ m = 2 ∨ m = 3 ∨ m = 4 ∨ m = 5 ∨ m = 6 ∨ m = 7 ∨ m = 8 := by omega
  rcases this with rfl | rfl | rfl | rfl | rfl | rfl | rfl | rfl | rfl <;> decide
theorem ba_nat (a b : Nat) : Builtin.bitAnd (a : Int) (b : Int) = ((a &&& b : Nat) : Int) := by
  rw [PyProof.Rows.bitAnd_pp (by omega) (by omega)]
  simp
theorem bx_nat (a b : Nat) : Builtin.bitXor (a : Int) (b : Int) = ((a ^^^ b : Nat) : Int) := by
  rw [PyProof.Rows.bitXor_and, ba_nat]
  have := xor_add a b
  omega
theorem b2i_nat (a : Bool) : b2i a = ((a.toNat : Nat) : Int) := by cases a <;> rfl
theorem bx_bit (a b : Bool) : Builtin.bitXor (b2i a) (b2i b) = b2i (a ^^ b) := by
  rw [b2i_nat, b2i_nat, bx_nat, b2i_nat]
  cases a <;> cases b <;> rfl
theorem two8 {n : Nat} (h : n ≤ 8) : 2 ^ n ≤ 256 := Nat.pow_le_pow_right (n := 2) (by decide) h
theorem cast_mul (a b : Nat) : ((a * b : Nat) : Int) = (a : Int) * b := Int.natCast_mul a b

theorem compL_T {tg own : List Nat} {test : WT} {el : WV} {n : Nat} {b : Nat → Bool} {kf : List D → VL.Env → Prop} {ρ : VL.Env} (g : Nat → D)
    (hs : ∀ x, x < 2 ^ n → ∀ (k : VL.Env → List D → Prop) acc, k ρ (acc ++ [g x]) →
      bindT tg (.int (b2i (b x))) (wipeE ρ own) fun ρ1 => test ρ1 fun b ρ2 => if b = true then el ρ2 fun y ρ3 => k (restore ρ ρ3 own) (acc ++ [y]) else k (restore ρ ρ2 own) acc)
    (he : kf ((List.range (2 ^ n)).map g) ρ) : compL tg own test el (T n b) ρ [] kf := by
  rw [T_eq]
  exact compL_lst g (fun x hx => hs x (List.mem_range.mp hx)) he
theorem ok0 : BodyOk G Γ 1 b0 s0 := by
  refine body_pure fun a ha p E hn hr => ?_
  show xss G Γ b0_0 [some (.im (.int a))] E
  simp only [xss, xs, ev, evA, evT, evR, evO, evF, evI, cVar, cBin, cIdx, cB1, cIsi, cCall, cCio, cCnw, tru, vv, toVal, cv, asD, setAt, putT, putTs, bindT, setAll, augW, binW, cmpW, b1W, b2W, truth, seqOf, retW, wipeE, restore, keepI, retOk, fin, endsOf, List.getElem?_cons_zero, List.getElem?_cons_succ, List.getD_cons_zero, List.getD_cons_succ, List.set_cons_zero, List.set_cons_succ, List.length_cons, List.length_nil, List.nil_append, List.cons_append, reduceIte, isi_ii, isi_ib, isi_tt, eqW_int, Bool.not_true, Bool.not_false, Bool.false_eq_true, Option.some.injEq, exists_eq_left', exists_eq_left, true_and, and_true, Bool.true_eq_false, Prod.mk.injEq, decide_eq_true_eq, and_assoc, exists_and_left, at3_0, at3_1, at3_2, ix3_0, ix3_2, Nat.reduceAdd, PyData.int.injEq, PyData.bool.injEq, Int.toNat_natCast, b0_0]
  exact hr _ _ (ret_v rfl)
theorem ok1 : BodyOk G Γ 2 b1 s1 := by
  refine body_pure fun a ha p E hn hr => ?_
  show xss G Γ b1_0 [some (.im (.int a.1)), some (.im (.int a.2))] E
  simp only [xss, xs, ev, evA, evT, evR, evO, evF, evI, cVar, cBin, cIdx, cB1, cIsi, cCall, cCio, cCnw, tru, vv, toVal, cv, asD, setAt, putT, putTs, bindT, setAll, augW, binW, cmpW, b1W, b2W, truth, seqOf, retW, wipeE, restore, keepI, retOk, fin, endsOf, List.getElem?_cons_zero, List.getElem?_cons_succ, List.getD_cons_zero, List.getD_cons_succ, List.set_cons_zero, List.set_cons_succ, List.length_cons, List.length_nil, List.nil_append, List.cons_append, reduceIte, isi_ii, isi_ib, isi_tt, eqW_int, Bool.not_true, Bool.not_false, Bool.false_eq_true, Option.some.injEq, exists_eq_left', exists_eq_left, true_and, and_true, Bool.true_eq_false, Prod.mk.injEq, decide_eq_true_eq, and_assoc, exists_and_left, at3_0, at3_1, at3_2, ix3_0, ix3_2, Nat.reduceAdd, PyData.int.injEq, PyData.bool.injEq, Int.toNat_natCast, b1_0, f0, i0]
  refine run_pure (a := a.1) rfl trivial ?_
  simp only [xss, xs, ev, evA, evT, evR, evO, evF, evI, cVar, cBin, cIdx, cB1, cIsi, cCall, cCio, cCnw, tru, vv, toVal, cv, asD, setAt, putT, putTs, bindT, setAll, augW, binW, cmpW, b1W, b2W, truth, seqOf, retW, wipeE, restore, keepI, retOk, fin, endsOf, List.getElem?_cons_zero, List.getElem?_cons_succ, List.getD_cons_zero, List.getD_cons_succ, List.set_cons_zero, List.set_cons_succ, List.length_cons, List.length_nil, List.nil_append, List.cons_append, reduceIte, isi_ii, isi_ib, isi_tt, eqW_int, Bool.not_true, Bool.not_false, Bool.false_eq_true, Option.some.injEq, exists_eq_left', exists_eq_left, true_and, and_true, Bool.true_eq_false, Prod.mk.injEq, decide_eq_true_eq, and_assoc, exists_and_left, at3_0, at3_1, at3_2, ix3_0, ix3_2, Nat.reduceAdd, PyData.int.injEq, PyData.bool.injEq, Int.toNat_natCast]
  by_cases h : 0 ≤ a.1
  · rw [if_pos h]
    exact hr _ _ (ret_v (by rw [decide_eq_true h, Bool.true_and]))
  · rw [if_neg h]
    exact hr _ _ (ret_v (by rw [decide_eq_false h, Bool.false_and]))
theorem ok2 : BodyOk G Γ 4 b2 s2 := by
  refine body_pure fun a ha p E hn hr => ?_
  obtain ⟨x, m⟩ := a
  obtain ⟨h0, h1, h2⟩ : 0 ≤ x ∧ x < 2 ^ 63 ∧ m ≤ 1000 := ha
  show xss G Γ b2_3 [some (.im (.int x)), some (.im (.int (m : Int))), none, none] E
  simp only [xss, xs, ev, evA, evT, evR, evO, evF, evI, cVar, cBin, cIdx, cB1, cIsi, cCall, cCio, cCnw, tru, vv, toVal, cv, asD, setAt, putT, putTs, bindT, setAll, augW, binW, cmpW, b1W, b2W, truth, seqOf, retW, wipeE, restore, keepI, retOk, fin, endsOf, List.getElem?_cons_zero, List.getElem?_cons_succ, List.getD_cons_zero, List.getD_cons_succ, List.set_cons_zero, List.set_cons_succ, List.length_cons, List.length_nil, List.nil_append, List.cons_append, reduceIte, isi_ii, isi_ib, isi_tt, eqW_int, Bool.not_true, Bool.not_false, Bool.false_eq_true, Option.some.injEq, exists_eq_left', exists_eq_left, true_and, and_true, Bool.true_eq_false, Prod.mk.injEq, decide_eq_true_eq, and_assoc, exists_and_left, at3_0, at3_1, at3_2, ix3_0, ix3_2, Nat.reduceAdd, PyData.int.injEq, PyData.bool.injEq, Int.toNat_natCast, b2_3]
  simp only [xss, xs, ev, evA, evT, evR, evO, evF, evI, cVar, cBin, cIdx, cB1, cIsi, cCall, cCio, cCnw, tru, vv, toVal, cv, asD, setAt, putT, putTs, bindT, setAll, augW, binW, cmpW, b1W, b2W, truth, seqOf, retW, wipeE, restore, keepI, retOk, fin, endsOf, List.getElem?_cons_zero, List.getElem?_cons_succ, List.getD_cons_zero, List.getD_cons_succ, List.set_cons_zero, List.set_cons_succ, List.length_cons, List.length_nil, List.nil_append, List.cons_append, reduceIte, isi_ii, isi_ib, isi_tt, eqW_int, Bool.not_true, Bool.not_false, Bool.false_eq_true, Option.some.injEq, exists_eq_left', exists_eq_left, true_and, and_true, Bool.true_eq_false, Prod.mk.injEq, decide_eq_true_eq, and_assoc, exists_and_left, at3_0, at3_1, at3_2, ix3_0, ix3_2, Nat.reduceAdd, PyData.int.injEq, PyData.bool.injEq, Int.toNat_natCast, b2_2]
  refine ⟨by omega, by omega, ?_⟩
  refine forL_inv (fun i ρ => ∃ l, ρ = [some (.im (.int x)), some (.im (.int (m : Int))), some (.im (.int (x ^ i))), l]) ⟨_, by rw [Int.pow_zero]⟩ (fun i y ρ k hy h hk => ?_) fun ρ h => ?_
  · obtain ⟨l, rfl⟩ := h
    simp only [xss, xs, ev, evA, evT, evR, evO, evF, evI, cVar, cBin, cIdx, cB1, cIsi, cCall, cCio, cCnw, tru, vv, toVal, cv, asD, setAt, putT, putTs, bindT, setAll, augW, binW, cmpW, b1W, b2W, truth, seqOf, retW, wipeE, restore, keepI, retOk, fin, endsOf, List.getElem?_cons_zero, List.getElem?_cons_succ, List.getD_cons_zero, List.getD_cons_succ, List.set_cons_zero, List.set_cons_succ, List.length_cons, List.length_nil, List.nil_append, List.cons_append, reduceIte, isi_ii, isi_ib, isi_tt, eqW_int, Bool.not_true, Bool.not_false, Bool.false_eq_true, Option.some.injEq, exists_eq_left', exists_eq_left, true_and, and_true, Bool.true_eq_false, Prod.mk.injEq, decide_eq_true_eq, and_assoc, exists_and_left, at3_0, at3_1, at3_2, ix3_0, ix3_2, Nat.reduceAdd, PyData.int.injEq, PyData.bool.injEq, Int.toNat_natCast, b2_0]
    exact ⟨mul_r h0 h1, hk _ ⟨_, by rw [Int.pow_succ]⟩⟩
  · obtain ⟨l, rfl⟩ := h
    simp only [xss, xs, ev, evA, evT, evR, evO, evF, evI, cVar, cBin, cIdx, cB1, cIsi, cCall, cCio, cCnw, tru, vv, toVal, cv, asD, setAt, putT, putTs, bindT, setAll, augW, binW, cmpW, b1W, b2W, truth, seqOf, retW, wipeE, restore, keepI, retOk, fin, endsOf, List.getElem?_cons_zero, List.getElem?_cons_succ, List.getD_cons_zero, List.getD_cons_succ, List.set_cons_zero, List.set_cons_succ, List.length_cons, List.length_nil, List.nil_append, List.cons_append, reduceIte, isi_ii, isi_ib, isi_tt, eqW_int, Bool.not_true, Bool.not_false, Bool.false_eq_true, Option.some.injEq, exists_eq_left', exists_eq_left, true_and, and_true, Bool.true_eq_false, Prod.mk.injEq, decide_eq_true_eq, and_assoc, exists_and_left, at3_0, at3_1, at3_2, ix3_0, ix3_2, Nat.reduceAdd, PyData.int.injEq, PyData.bool.injEq, Int.toNat_natCast, b2_1]
    exact hr _ _ (ret_v (by simp))
theorem ok3 : BodyOk G Γ 2 b3 s3 := by
  refine body_pure fun a ha p E hn hr => ?_
  obtain ⟨n, b⟩ := a
  have h8 : n ≤ 8 := ha
  have h9 := two8 h8
  show xss G Γ b3_1 [some (.im (.tuple (T n b))), none] E
  simp only [xss, xs, ev, evA, evT, evR, evO, evF, evI, cVar, cBin, cIdx, cB1, cIsi, cCall, cCio, cCnw, tru, vv, toVal, cv, asD, setAt, putT, putTs, bindT, setAll, augW, binW, cmpW, b1W, b2W, truth, seqOf, retW, wipeE, restore, keepI, retOk, fin, endsOf, List.getElem?_cons_zero, List.getElem?_cons_succ, List.getD_cons_zero, List.getD_cons_succ, List.set_cons_zero, List.set_cons_succ, List.length_cons, List.length_nil, List.nil_append, List.cons_append, reduceIte, isi_ii, isi_ib, isi_tt, eqW_int, Bool.not_true, Bool.not_false, Bool.false_eq_true, Option.some.injEq, exists_eq_left', exists_eq_left, true_and, and_true, Bool.true_eq_false, Prod.mk.injEq, decide_eq_true_eq, and_assoc, exists_and_left, at3_0, at3_1, at3_2, ix3_0, ix3_2, Nat.reduceAdd, PyData.int.injEq, PyData.bool.injEq, Int.toNat_natCast, b3_1, gc3]
  refine ⟨by unfold flatD; rfl, flat_ints _, ?_⟩
  rw [len_T, inD_ints, decide_eq_true (in_sizes h8)]
  simp only [xss, xs, ev, evA, evT, evR, evO, evF, evI, cVar, cBin, cIdx, cB1, cIsi, cCall, cCio, cCnw, tru, vv, toVal, cv, asD, setAt, putT, putTs, bindT, setAll, augW, binW, cmpW, b1W, b2W, truth, seqOf, retW, wipeE, restore, keepI, retOk, fin, endsOf, List.getElem?_cons_zero, List.getElem?_cons_succ, List.getD_cons_zero, List.getD_cons_succ, List.set_cons_zero, List.set_cons_succ, List.length_cons, List.length_nil, List.nil_append, List.cons_append, reduceIte, isi_ii, isi_ib, isi_tt, eqW_int, Bool.not_true, Bool.not_false, Bool.false_eq_true, Option.some.injEq, exists_eq_left', exists_eq_left, true_and, and_true, Bool.true_eq_false, Prod.mk.injEq, decide_eq_true_eq, and_assoc, exists_and_left, at3_0, at3_1, at3_2, ix3_0, ix3_2, Nat.reduceAdd, PyData.int.injEq, PyData.bool.injEq, Int.toNat_natCast]
  refine ⟨by omega, fun q => ?_⟩
  rw [T_eq]
  refine compL_lst (fun _ => PyData.bool true) (fun x hx k acc hk => ?_) ?_
  · simp only [xss, xs, ev, evA, evT, evR, evO, evF, evI, cVar, cBin, cIdx, cB1, cIsi, cCall, cCio, cCnw, tru, vv, toVal, cv, asD, setAt, putT, putTs, bindT, setAll, augW, binW, cmpW, b1W, b2W, truth, seqOf, retW, wipeE, restore, keepI, retOk, fin, endsOf, List.getElem?_cons_zero, List.getElem?_cons_succ, List.getD_cons_zero, List.getD_cons_succ, List.set_cons_zero, List.set_cons_succ, List.length_cons, List.length_nil, List.nil_append, List.cons_append, reduceIte, isi_ii, isi_ib, isi_tt, eqW_int, Bool.not_true, Bool.not_false, Bool.false_eq_true, Option.some.injEq, exists_eq_left', exists_eq_left, true_and, and_true, Bool.true_eq_false, Prod.mk.injEq, decide_eq_true_eq, and_assoc, exists_and_left, at3_0, at3_1, at3_2, ix3_0, ix3_2, Nat.reduceAdd, PyData.int.injEq, PyData.bool.injEq, Int.toNat_natCast, gc2, f1, i1]
    refine run_pure (a := (b2i (b x), 2)) rfl trivial ?_
    simp only [xss, xs, ev, evA, evT, evR, evO, evF, evI, cVar, cBin, cIdx, cB1, cIsi, cCall, cCio, cCnw, tru, vv, toVal, cv, asD, setAt, putT, putTs, bindT, setAll, augW, binW, cmpW, b1W, b2W, truth, seqOf, retW, wipeE, restore, keepI, retOk, fin, endsOf, List.getElem?_cons_zero, List.getElem?_cons_succ, List.getD_cons_zero, List.getD_cons_succ, List.set_cons_zero, List.set_cons_succ, List.length_cons, List.length_nil, List.nil_append, List.cons_append, reduceIte, isi_ii, isi_ib, isi_tt, eqW_int, Bool.not_true, Bool.not_false, Bool.false_eq_true, Option.some.injEq, exists_eq_left', exists_eq_left, true_and, and_true, Bool.true_eq_false, Prod.mk.injEq, decide_eq_true_eq, and_assoc, exists_and_left, at3_0, at3_1, at3_2, ix3_0, ix3_2, Nat.reduceAdd, PyData.int.injEq, PyData.bool.injEq, Int.toNat_natCast]
    have := b2i_01 (b x)
    rw [decide_eq_true this.1, decide_eq_true (show b2i (b x) < 2 by omega)]
    exact hk
  · refine ⟨(List.range (2 ^ n)).map fun _ => true, by rw [List.map_map]; rfl, ?_⟩
    rw [List.all_map, List.all_eq_true.mpr (by intros; rfl)]
    simp only [xss, xs, ev, evA, evT, evR, evO, evF, evI, cVar, cBin, cIdx, cB1, cIsi, cCall, cCio, cCnw, tru, vv, toVal, cv, asD, setAt, putT, putTs, bindT, setAll, augW, binW, cmpW, b1W, b2W, truth, seqOf, retW, wipeE, restore, keepI, retOk, fin, endsOf, List.getElem?_cons_zero, List.getElem?_cons_succ, List.getD_cons_zero, List.getD_cons_succ, List.set_cons_zero, List.set_cons_succ, List.length_cons, List.length_nil, List.nil_append, List.cons_append, reduceIte, isi_ii, isi_ib, isi_tt, eqW_int, Bool.not_true, Bool.not_false, Bool.false_eq_true, Option.some.injEq, exists_eq_left', exists_eq_left, true_and, and_true, Bool.true_eq_false, Prod.mk.injEq, decide_eq_true_eq, and_assoc, exists_and_left, at3_0, at3_1, at3_2, ix3_0, ix3_2, Nat.reduceAdd, PyData.int.injEq, PyData.bool.injEq, Int.toNat_natCast]
    exact hn _ (ret_v rfl)
theorem ok4 : BodyOk G Γ 2 b4 s4 := by
  refine body_pure fun a ha p E hn hr => ?_
  obtain ⟨x, m⟩ := a
  obtain ⟨h0, h1⟩ : 0 ≤ x ∧ x < m := ha
  show xss G Γ b4_1 [some (.im (.int x)), some (.im (.int m))] E
  simp only [xss, xs, ev, evA, evT, evR, evO, evF, evI, cVar, cBin, cIdx, cB1, cIsi, cCall, cCio, cCnw, tru, vv, toVal, cv, asD, setAt, putT, putTs, bindT, setAll, augW, binW, cmpW, b1W, b2W, truth, seqOf, retW, wipeE, restore, keepI, retOk, fin, endsOf, List.getElem?_cons_zero, List.getElem?_cons_succ, List.getD_cons_zero, List.getD_cons_succ, List.set_cons_zero, List.set_cons_succ, List.length_cons, List.length_nil, List.nil_append, List.cons_append, reduceIte, isi_ii, isi_ib, isi_tt, eqW_int, Bool.not_true, Bool.not_false, Bool.false_eq_true, Option.some.injEq, exists_eq_left', exists_eq_left, true_and, and_true, Bool.true_eq_false, Prod.mk.injEq, decide_eq_true_eq, and_assoc, exists_and_left, at3_0, at3_1, at3_2, ix3_0, ix3_2, Nat.reduceAdd, PyData.int.injEq, PyData.bool.injEq, Int.toNat_natCast, b4_1, f1, i1]
  refine run_pure (a := (x, m)) rfl trivial ?_
  rw [decide_eq_true h0, decide_eq_true h1]
  simp only [xss, xs, ev, evA, evT, evR, evO, evF, evI, cVar, cBin, cIdx, cB1, cIsi, cCall, cCio, cCnw, tru, vv, toVal, cv, asD, setAt, putT, putTs, bindT, setAll, augW, binW, cmpW, b1W, b2W, truth, seqOf, retW, wipeE, restore, keepI, retOk, fin, endsOf, List.getElem?_cons_zero, List.getElem?_cons_succ, List.getD_cons_zero, List.getD_cons_succ, List.set_cons_zero, List.set_cons_succ, List.length_cons, List.length_nil, List.nil_append, List.cons_append, reduceIte, isi_ii, isi_ib, isi_tt, eqW_int, Bool.not_true, Bool.not_false, Bool.false_eq_true, Option.some.injEq, exists_eq_left', exists_eq_left, true_and, and_true, Bool.true_eq_false, Prod.mk.injEq, decide_eq_true_eq, and_assoc, exists_and_left, at3_0, at3_1, at3_2, ix3_0, ix3_2, Nat.reduceAdd, PyData.int.injEq, PyData.bool.injEq, Int.toNat_natCast]
  exact hn _ (ret_v rfl)
end K13

set_option Elab.async false
set_option linter.all false
set_option maxRecDepth 100000
set_option maxHeartbeats 4000000
namespace K13
open PySem L2 VL BF

theorem bit_mod (n i : Nat) : ((n / 2 ^ i : Nat) : Int) % 2 = b2i (n.testBit i) := by
  have h : n.testBit i = decide (n / 2 ^ i % 2 = 1) := Nat.testBit_eq_decide_div_mod_eq
  rw [h]
  have : n / 2 ^ i % 2 = 0 ∨ n / 2 ^ i % 2 = 1 := by omega
  rcases this with e | e
  · rw [e]
    show _ = (0 : Int)
    omega
  · rw [e]
    show _ = (1 : Int)
    omega
theorem half (n i : Nat) : ((n / 2 ^ i : Nat) : Int) / 2 ^ (1 : Int).toNat = ((n / 2 ^ (i + 1) : Nat) : Int) := by
  show ((n / 2 ^ i : Nat) : Int) / 2 = _
  rw [Nat.pow_succ, ← Nat.div_div_eq_div_mul]
  omega
theorem ok5 : BodyOk G Γ 2 b5 s5 := by
  refine body_pure fun n hn9 p E hn hr => ?_
  have hn9 : n < 2 ^ 9 := hn9
  show xss G Γ b5_4 [some (.im (.int (n : Int))), none] E
  simp only [xss, xs, ev, evA, evT, evR, evO, evF, evI, cVar, cBin, cIdx, cB1, cIsi, cCall, cCio, cCnw, tru, vv, toVal, cv, asD, setAt, putT, putTs, bindT, setAll, augW, binW, cmpW, b1W, b2W, truth, seqOf, retW, wipeE, restore, keepI, retOk, fin, endsOf, List.getElem?_cons_zero, List.getElem?_cons_succ, List.getD_cons_zero, List.getD_cons_succ, List.set_cons_zero, List.set_cons_succ, List.length_cons, List.length_nil, List.nil_append, List.cons_append, reduceIte, isi_ii, isi_ib, isi_tt, eqW_int, Bool.not_true, Bool.not_false, Bool.false_eq_true, Option.some.injEq, exists_eq_left', exists_eq_left, true_and, and_true, Bool.true_eq_false, Prod.mk.injEq, decide_eq_true_eq, and_assoc, exists_and_left, at3_0, at3_1, at3_2, ix3_0, ix3_2, Nat.reduceAdd, PyData.int.injEq, PyData.bool.injEq, Int.toNat_natCast, b5_4]
  simp only [xss, xs, ev, evA, evT, evR, evO, evF, evI, cVar, cBin, cIdx, cB1, cIsi, cCall, cCio, cCnw, tru, vv, toVal, cv, asD, setAt, putT, putTs, bindT, setAll, augW, binW, cmpW, b1W, b2W, truth, seqOf, retW, wipeE, restore, keepI, retOk, fin, endsOf, List.getElem?_cons_zero, List.getElem?_cons_succ, List.getD_cons_zero, List.getD_cons_succ, List.set_cons_zero, List.set_cons_succ, List.length_cons, List.length_nil, List.nil_append, List.cons_append, reduceIte, isi_ii, isi_ib, isi_tt, eqW_int, Bool.not_true, Bool.not_false, Bool.false_eq_true, Option.some.injEq, exists_eq_left', exists_eq_left, true_and, and_true, Bool.true_eq_false, Prod.mk.injEq, decide_eq_true_eq, and_assoc, exists_and_left, at3_0, at3_1, at3_2, ix3_0, ix3_2, Nat.reduceAdd, PyData.int.injEq, PyData.bool.injEq, Int.toNat_natCast, b5_3]
  refine wh_inv (fun m ρ => ∃ i, m = 9 - i ∧ i ≤ 9 ∧ ρ = [some (.im (.int ((n / 2 ^ i : Nat) : Int))), some (.im (.int (b2i (par i n))))]) 9 ⟨0, rfl, by decide, by rw [Nat.pow_zero, Nat.div_one]; rfl⟩ fun m ρ k h hk => ?_
  obtain ⟨i, rfl, hi, rfl⟩ := h
  simp only [xss, xs, ev, evA, evT, evR, evO, evF, evI, cVar, cBin, cIdx, cB1, cIsi, cCall, cCio, cCnw, tru, vv, toVal, cv, asD, setAt, putT, putTs, bindT, setAll, augW, binW, cmpW, b1W, b2W, truth, seqOf, retW, wipeE, restore, keepI, retOk, fin, endsOf, List.getElem?_cons_zero, List.getElem?_cons_succ, List.getD_cons_zero, List.getD_cons_succ, List.set_cons_zero, List.set_cons_succ, List.length_cons, List.length_nil, List.nil_append, List.cons_append, reduceIte, isi_ii, isi_ib, isi_tt, eqW_int, Bool.not_true, Bool.not_false, Bool.false_eq_true, Option.some.injEq, exists_eq_left', exists_eq_left, true_and, and_true, Bool.true_eq_false, Prod.mk.injEq, decide_eq_true_eq, and_assoc, exists_and_left, at3_0, at3_1, at3_2, ix3_0, ix3_2, Nat.reduceAdd, PyData.int.injEq, PyData.bool.injEq, Int.toNat_natCast]
  by_cases h0 : (0 : Int) < ((n / 2 ^ i : Nat) : Int)
  · rw [if_pos h0]
    have i9 : i < 9 := by
      by_cases q : i = 9
      · subst q
        rw [Nat.div_eq_of_lt hn9] at h0
        omega
      · omega
    simp only [xss, xs, ev, evA, evT, evR, evO, evF, evI, cVar, cBin, cIdx, cB1, cIsi, cCall, cCio, cCnw, tru, vv, toVal, cv, asD, setAt, putT, putTs, bindT, setAll, augW, binW, cmpW, b1W, b2W, truth, seqOf, retW, wipeE, restore, keepI, retOk, fin, endsOf, List.getElem?_cons_zero, List.getElem?_cons_succ, List.getD_cons_zero, List.getD_cons_succ, List.set_cons_zero, List.set_cons_succ, List.length_cons, List.length_nil, List.nil_append, List.cons_append, reduceIte, isi_ii, isi_ib, isi_tt, eqW_int, Bool.not_true, Bool.not_false, Bool.false_eq_true, Option.some.injEq, exists_eq_left', exists_eq_left, true_and, and_true, Bool.true_eq_false, Prod.mk.injEq, decide_eq_true_eq, and_assoc, exists_and_left, at3_0, at3_1, at3_2, ix3_0, ix3_2, Nat.reduceAdd, PyData.int.injEq, PyData.bool.injEq, Int.toNat_natCast, b5_1]
    simp only [xss, xs, ev, evA, evT, evR, evO, evF, evI, cVar, cBin, cIdx, cB1, cIsi, cCall, cCio, cCnw, tru, vv, toVal, cv, asD, setAt, putT, putTs, bindT, setAll, augW, binW, cmpW, b1W, b2W, truth, seqOf, retW, wipeE, restore, keepI, retOk, fin, endsOf, List.getElem?_cons_zero, List.getElem?_cons_succ, List.getD_cons_zero, List.getD_cons_succ, List.set_cons_zero, List.set_cons_succ, List.length_cons, List.length_nil, List.nil_append, List.cons_append, reduceIte, isi_ii, isi_ib, isi_tt, eqW_int, Bool.not_true, Bool.not_false, Bool.false_eq_true, Option.some.injEq, exists_eq_left', exists_eq_left, true_and, and_true, Bool.true_eq_false, Prod.mk.injEq, decide_eq_true_eq, and_assoc, exists_and_left, at3_0, at3_1, at3_2, ix3_0, ix3_2, Nat.reduceAdd, PyData.int.injEq, PyData.bool.injEq, Int.toNat_natCast, b5_0]
    rw [PyProof.Rows.bitAnd_m1, bit_mod, bx_bit, half]
    exact ⟨by decide, hk (9 - (i + 1)) _ (by omega) ⟨i + 1, rfl, i9, rfl⟩⟩
  · rw [if_neg h0]
    simp only [xss, xs, ev, evA, evT, evR, evO, evF, evI, cVar, cBin, cIdx, cB1, cIsi, cCall, cCio, cCnw, tru, vv, toVal, cv, asD, setAt, putT, putTs, bindT, setAll, augW, binW, cmpW, b1W, b2W, truth, seqOf, retW, wipeE, restore, keepI, retOk, fin, endsOf, List.getElem?_cons_zero, List.getElem?_cons_succ, List.getD_cons_zero, List.getD_cons_succ, List.set_cons_zero, List.set_cons_succ, List.length_cons, List.length_nil, List.nil_append, List.cons_append, reduceIte, isi_ii, isi_ib, isi_tt, eqW_int, Bool.not_true, Bool.not_false, Bool.false_eq_true, Option.some.injEq, exists_eq_left', exists_eq_left, true_and, and_true, Bool.true_eq_false, Prod.mk.injEq, decide_eq_true_eq, and_assoc, exists_and_left, at3_0, at3_1, at3_2, ix3_0, ix3_2, Nat.reduceAdd, PyData.int.injEq, PyData.bool.injEq, Int.toNat_natCast, b5_2]
    have hlt : n < 2 ^ i := by
      have : n / 2 ^ i = 0 := by
        have h0 := h0
        generalize n / 2 ^ i = z at h0
        omega
      exact (Nat.div_eq_zero_iff_lt (Nat.two_pow_pos i)).mp this
    exact hr _ _ (ret_v (by rw [par9 hi hlt]))
theorem ok6 : BodyOk G Γ 3 b6 s6 := by
  refine body_pure fun a ha p E hn hr => ?_
  obtain ⟨m, k⟩ := a
  obtain ⟨h1, h2⟩ : m ≤ 8 ∧ k < 2 ^ m := ha
  have h9 := two8 h1
  show xss G Γ b6_2 [some (.im (.int (m : Int))), some (.im (.int (k : Int))), none] E
  simp only [xss, xs, ev, evA, evT, evR, evO, evF, evI, cVar, cBin, cIdx, cB1, cIsi, cCall, cCio, cCnw, tru, vv, toVal, cv, asD, setAt, putT, putTs, bindT, setAll, augW, binW, cmpW, b1W, b2W, truth, seqOf, retW, wipeE, restore, keepI, retOk, fin, endsOf, List.getElem?_cons_zero, List.getElem?_cons_succ, List.getD_cons_zero, List.getD_cons_succ, List.set_cons_zero, List.set_cons_succ, List.length_cons, List.length_nil, List.nil_append, List.cons_append, reduceIte, isi_ii, isi_ib, isi_tt, eqW_int, Bool.not_true, Bool.not_false, Bool.false_eq_true, Option.some.injEq, exists_eq_left', exists_eq_left, true_and, and_true, Bool.true_eq_false, Prod.mk.injEq, decide_eq_true_eq, and_assoc, exists_and_left, at3_0, at3_1, at3_2, ix3_0, ix3_2, Nat.reduceAdd, PyData.int.injEq, PyData.bool.injEq, Int.toNat_natCast, b6_2, gc0, f4, i4]
  refine run_pure (a := ((m : Int), 8 + 1)) rfl ⟨by omega, by show (m : Int) < 8 + 1; omega⟩ ?_
  simp only [xss, xs, ev, evA, evT, evR, evO, evF, evI, cVar, cBin, cIdx, cB1, cIsi, cCall, cCio, cCnw, tru, vv, toVal, cv, asD, setAt, putT, putTs, bindT, setAll, augW, binW, cmpW, b1W, b2W, truth, seqOf, retW, wipeE, restore, keepI, retOk, fin, endsOf, List.getElem?_cons_zero, List.getElem?_cons_succ, List.getD_cons_zero, List.getD_cons_succ, List.set_cons_zero, List.set_cons_succ, List.length_cons, List.length_nil, List.nil_append, List.cons_append, reduceIte, isi_ii, isi_ib, isi_tt, eqW_int, Bool.not_true, Bool.not_false, Bool.false_eq_true, Option.some.injEq, exists_eq_left', exists_eq_left, true_and, and_true, Bool.true_eq_false, Prod.mk.injEq, decide_eq_true_eq, and_assoc, exists_and_left, at3_0, at3_1, at3_2, ix3_0, ix3_2, Nat.reduceAdd, PyData.int.injEq, PyData.bool.injEq, Int.toNat_natCast, b6_1, gc3, f4, i4]
  refine ⟨_, at_sizes h1, ?_⟩
  refine run_pure (a := ((k : Int), ((2 ^ m : Nat) : Int))) rfl ⟨by show (0 : Int) ≤ k; omega, by show (k : Int) < ((2 ^ m : Nat) : Int); omega⟩ ?_
  simp only [xss, xs, ev, evA, evT, evR, evO, evF, evI, cVar, cBin, cIdx, cB1, cIsi, cCall, cCio, cCnw, tru, vv, toVal, cv, asD, setAt, putT, putTs, bindT, setAll, augW, binW, cmpW, b1W, b2W, truth, seqOf, retW, wipeE, restore, keepI, retOk, fin, endsOf, List.getElem?_cons_zero, List.getElem?_cons_succ, List.getD_cons_zero, List.getD_cons_succ, List.set_cons_zero, List.set_cons_succ, List.length_cons, List.length_nil, List.nil_append, List.cons_append, reduceIte, isi_ii, isi_ib, isi_tt, eqW_int, Bool.not_true, Bool.not_false, Bool.false_eq_true, Option.some.injEq, exists_eq_left', exists_eq_left, true_and, and_true, Bool.true_eq_false, Prod.mk.injEq, decide_eq_true_eq, and_assoc, exists_and_left, at3_0, at3_1, at3_2, ix3_0, ix3_2, Nat.reduceAdd, PyData.int.injEq, PyData.bool.injEq, Int.toNat_natCast, b6_0, gc3]
  refine ⟨_, at_sizes h1, ?_⟩
  refine ⟨by omega, by omega, ?_⟩
  rw [Int.toNat_natCast]
  refine ⟨by simp; omega, fun q => ?_⟩
  refine compL_rng (fun i => .int (b2i (par 9 (i &&& k)))) (fun i hi kk acc hk => ?_) ?_
  · simp only [xss, xs, ev, evA, evT, evR, evO, evF, evI, cVar, cBin, cIdx, cB1, cIsi, cCall, cCio, cCnw, tru, vv, toVal, cv, asD, setAt, putT, putTs, bindT, setAll, augW, binW, cmpW, b1W, b2W, truth, seqOf, retW, wipeE, restore, keepI, retOk, fin, endsOf, List.getElem?_cons_zero, List.getElem?_cons_succ, List.getD_cons_zero, List.getD_cons_succ, List.set_cons_zero, List.set_cons_succ, List.length_cons, List.length_nil, List.nil_append, List.cons_append, reduceIte, isi_ii, isi_ib, isi_tt, eqW_int, Bool.not_true, Bool.not_false, Bool.false_eq_true, Option.some.injEq, exists_eq_left', exists_eq_left, true_and, and_true, Bool.true_eq_false, Prod.mk.injEq, decide_eq_true_eq, and_assoc, exists_and_left, at3_0, at3_1, at3_2, ix3_0, ix3_2, Nat.reduceAdd, PyData.int.injEq, PyData.bool.injEq, Int.toNat_natCast, f5, i5]
    rw [ba_nat]
    refine run_pure (a := i &&& k) rfl (Nat.lt_of_le_of_lt Nat.and_le_left (by show i < 512; omega)) ?_
    exact hk
  · exact hr _ _ (ret_vt (by rw [rng_ints]; rfl))
theorem ok9 : BodyOk G Γ 3 b9 s9 := by
  refine body_pure fun a ha p E hn hr => ?_
  obtain ⟨⟨n, b⟩, x⟩ := a
  obtain ⟨h1, h2⟩ : n ≤ 8 ∧ x < 2 ^ n := ha
  have h9 := two8 h1
  show xss G Γ b9_0 [some (.im (.tuple (T n b))), some (.im (.int (x : Int))), none] E
  simp only [xss, xs, ev, evA, evT, evR, evO, evF, evI, cVar, cBin, cIdx, cB1, cIsi, cCall, cCio, cCnw, tru, vv, toVal, cv, asD, setAt, putT, putTs, bindT, setAll, augW, binW, cmpW, b1W, b2W, truth, seqOf, retW, wipeE, restore, keepI, retOk, fin, endsOf, List.getElem?_cons_zero, List.getElem?_cons_succ, List.getD_cons_zero, List.getD_cons_succ, List.set_cons_zero, List.set_cons_succ, List.length_cons, List.length_nil, List.nil_append, List.cons_append, reduceIte, isi_ii, isi_ib, isi_tt, eqW_int, Bool.not_true, Bool.not_false, Bool.false_eq_true, Option.some.injEq, exists_eq_left', exists_eq_left, true_and, and_true, Bool.true_eq_false, Prod.mk.injEq, decide_eq_true_eq, and_assoc, exists_and_left, at3_0, at3_1, at3_2, ix3_0, ix3_2, Nat.reduceAdd, PyData.int.injEq, PyData.bool.injEq, Int.toNat_natCast, b9_0, len_T]
  refine ⟨by omega, by omega, by simp; omega, fun q => ?_⟩
  refine compL_rng (fun o => .int (b2i (b (x ^^^ o) ^^ b o))) (fun i hi kk acc hk => ?_) ?_
  · simp only [xss, xs, ev, evA, evT, evR, evO, evF, evI, cVar, cBin, cIdx, cB1, cIsi, cCall, cCio, cCnw, tru, vv, toVal, cv, asD, setAt, putT, putTs, bindT, setAll, augW, binW, cmpW, b1W, b2W, truth, seqOf, retW, wipeE, restore, keepI, retOk, fin, endsOf, List.getElem?_cons_zero, List.getElem?_cons_succ, List.getD_cons_zero, List.getD_cons_succ, List.set_cons_zero, List.set_cons_succ, List.length_cons, List.length_nil, List.nil_append, List.cons_append, reduceIte, isi_ii, isi_ib, isi_tt, eqW_int, Bool.not_true, Bool.not_false, Bool.false_eq_true, Option.some.injEq, exists_eq_left', exists_eq_left, true_and, and_true, Bool.true_eq_false, Prod.mk.injEq, decide_eq_true_eq, and_assoc, exists_and_left, at3_0, at3_1, at3_2, ix3_0, ix3_2, Nat.reduceAdd, PyData.int.injEq, PyData.bool.injEq, Int.toNat_natCast]
    rw [bx_nat]
    refine ⟨_, at_T b (xor_lt h2 hi), _, at_T b hi, ?_⟩
    simp only [xss, xs, ev, evA, evT, evR, evO, evF, evI, cVar, cBin, cIdx, cB1, cIsi, cCall, cCio, cCnw, tru, vv, toVal, cv, asD, setAt, putT, putTs, bindT, setAll, augW, binW, cmpW, b1W, b2W, truth, seqOf, retW, wipeE, restore, keepI, retOk, fin, endsOf, List.getElem?_cons_zero, List.getElem?_cons_succ, List.getD_cons_zero, List.getD_cons_succ, List.set_cons_zero, List.set_cons_succ, List.length_cons, List.length_nil, List.nil_append, List.cons_append, reduceIte, isi_ii, isi_ib, isi_tt, eqW_int, Bool.not_true, Bool.not_false, Bool.false_eq_true, Option.some.injEq, exists_eq_left', exists_eq_left, true_and, and_true, Bool.true_eq_false, Prod.mk.injEq, decide_eq_true_eq, and_assoc, exists_and_left, at3_0, at3_1, at3_2, ix3_0, ix3_2, Nat.reduceAdd, PyData.int.injEq, PyData.bool.injEq, Int.toNat_natCast]
    rw [bx_bit]
    exact hk
  · rw [rng_ints]
    exact ⟨_, rfl, hr _ _ (ret_v rfl)⟩

/-! ### distances -/
theorem set_rng {N i : Nat} (g : Nat → Int) (v : Int) : ((List.range N).map g).set i v = (List.range N).map fun y => if y = i then v else g y := by
  apply List.ext_getElem?
  intro j
  rw [List.getElem?_set, List.getElem?_map, List.getElem?_map]
  by_cases h : i = j
  · subst h
    rw [if_pos rfl]
    by_cases hl : i < N
    · rw [if_pos (by simp; exact hl), List.getElem?_range hl]
      simp
    · rw [if_neg (by simp; omega), List.getElem?_eq_none (by simp; omega)]
      rfl
  · rw [if_neg h]
    by_cases hl : j < N
    · rw [List.getElem?_range hl]
      show some (g j) = some (if j = i then v else g j)
      rw [if_neg (Ne.symm h)]
    · rw [List.getElem?_eq_none (by simp; omega)]
      rfl
/-- the number without its k-th bit -/
def clr (k y : Nat) : Nat := if y.testBit k = true then y - 2 ^ k else y
/-- the list while at runs: done below i -/
def half_ (f : Nat → Int) (k i y : Nat) : Int := if clr k y < i then Bk f (k + 1) y else Bk f k y
theorem clr_le (k y : Nat) : clr k y ≤ y := by
  unfold clr
  split
  · exact Nat.sub_le _ _
  · exact Nat.le_refl _
theorem map_rng {N : Nat} {g h : Nat → Int} (e : ∀ y, y < N → g y = h y) : (List.range N).map g = (List.range N).map h := List.map_congr_left fun y hy => e y (List.mem_range.mp hy)
theorem half_start (f : Nat → Int) (k N : Nat) : (List.range N).map (Bk f k) = (List.range N).map (half_ f k 0) := map_rng fun y _ => by
  unfold half_
  rw [if_neg (by omega)]
theorem half_end (f : Nat → Int) (k N : Nat) : (List.range N).map (half_ f k N) = (List.range N).map (Bk f (k + 1)) := map_rng fun y hy => by
  unfold half_
  rw [if_pos (Nat.lt_of_le_of_lt (clr_le k y) hy)]
theorem clr_bit (k y : Nat) : (clr k y).testBit k = false := by
  unfold clr
  split
  · rename_i h
    rw [← (xor_off h).1, Nat.testBit_xor, h, Nat.testBit_two_pow]
    simp
  · rename_i h
    cases q : y.testBit k
    · rfl
    · exact absurd q h
theorem half_off (f : Nat → Int) (k N i : Nat) (h : i.testBit k = true) : (List.range N).map (half_ f k i) = (List.range N).map (half_ f k (i + 1)) := map_rng fun y _ => by
  unfold half_
  have ne : clr k y ≠ i := fun e => by
    have := clr_bit k y
    rw [e, h] at this
    cases this
  by_cases q : clr k y < i
  · rw [if_pos q, if_pos (by omega)]
  · rw [if_neg q, if_neg (by omega)]
theorem on_bit {k i : Nat} (h : i.testBit k = false) : (i + 2 ^ k).testBit k = true := by
  rw [← xor_on h, Nat.testBit_xor, h, Nat.testBit_two_pow]
  simp
theorem on_lt {n k i : Nat} (hk : k < n) (hi : i < 2 ^ n) (h : i.testBit k = false) : i + 2 ^ k < 2 ^ n := by
  rw [← xor_on h]
  exact xor_lt hi (two_lt hk)
theorem Bk_on {f : Nat → Int} {k y : Nat} (h : y.testBit k = true) : Bk f (k + 1) y = Bk f k (y - 2 ^ k) - Bk f k y := by
  show (if y.testBit k = true then _ else _) = _
  rw [if_pos h]
theorem Bk_off {f : Nat → Int} {k y : Nat} (h : y.testBit k = false) : Bk f (k + 1) y = Bk f k y + Bk f k (y + 2 ^ k) := by
  show (if y.testBit k = true then _ else _) = _
  rw [h, if_neg Bool.false_ne_true]
theorem half_on (f : Nat → Int) (k N i : Nat) (h : i.testBit k = false) : (((List.range N).map (half_ f k i)).set i (Bk f k i + Bk f k (i + 2 ^ k))).set (i + 2 ^ k) (Bk f k i - Bk f k (i + 2 ^ k)) = (List.range N).map (half_ f k (i + 1)) := by
  rw [set_rng, set_rng]
  have hp := Nat.two_pow_pos k
  refine map_rng fun y _ => ?_
  by_cases e1 : y = i + 2 ^ k
  · rw [if_pos e1]
    subst e1
    unfold half_ clr
    rw [on_bit h, if_pos rfl, if_pos (by omega), Bk_on (on_bit h), Nat.add_sub_cancel]
  · rw [if_neg e1]
    by_cases e2 : y = i
    · rw [if_pos e2]
      subst e2
      unfold half_ clr
      rw [h, if_neg Bool.false_ne_true, if_pos (by omega), Bk_off h]
    · rw [if_neg e2]
      unfold half_
      have ne : clr k y ≠ i := fun e => by
        unfold clr at e
        split at e
        · rename_i q
          have := (xor_off q).2
          omega
        · exact e2 e
      by_cases q : clr k y < i
      · rw [if_pos q, if_pos (by omega)]
      · rw [if_neg q, if_neg (by omega)]
theorem at_rng {N i : Nat} (g : Nat → Int) (h : i < N) : atI (intsD ((List.range N).map g)) (i : Int) = some (.int (g i)) := by
  rw [ints_at rfl (by simp; exact h)]
  simp
theorem len_rng {N : Nat} (g : Nat → Int) : (intsD ((List.range N).map g)).length = N := by simp
theorem one_two (b : Bool) : 1 - 2 * b2i b = sg b := by cases b <;> rfl
theorem far_eq (n : Nat) (b : Nat → Bool) {y : Nat} (hn : n ≤ 9) (hy : y < 2 ^ n) : (((2 ^ n : Nat) : Int) - Bk (fun x => sg (b x)) n y) / 2 = hd n b y := by
  rw [Bk_W hn hy]
  have := hd_W n b y
  omega
theorem ok7 : BodyOk G Γ 7 b7 s7 := by
  refine body_pure fun a ha p E hn hr => ?_
  obtain ⟨n, b⟩ := a
  have h8 : n ≤ 8 := ha
  have h9 := two8 h8
  have h0n : (0 : Int) ≤ ((2 ^ n : Nat) : Int) := Int.natCast_nonneg _
  show xss G Γ b7_9 [some (.im (.tuple (T n b))), none, none, none, none, none, none] E
  simp only [xss, xs, ev, evA, evT, evR, evO, evF, evI, cVar, cBin, cIdx, cB1, cIsi, cCall, cCio, cCnw, tru, vv, toVal, cv, asD, setAt, putT, putTs, bindT, setAll, augW, binW, cmpW, b1W, b2W, truth, seqOf, retW, wipeE, restore, keepI, retOk, fin, endsOf, List.getElem?_cons_zero, List.getElem?_cons_succ, List.getD_cons_zero, List.getD_cons_succ, List.set_cons_zero, List.set_cons_succ, List.length_cons, List.length_nil, List.nil_append, List.cons_append, reduceIte, isi_ii, isi_ib, isi_tt, eqW_int, Bool.not_true, Bool.not_false, Bool.false_eq_true, Option.some.injEq, exists_eq_left', exists_eq_left, true_and, and_true, Bool.true_eq_false, Prod.mk.injEq, decide_eq_true_eq, and_assoc, exists_and_left, at3_0, at3_1, at3_2, ix3_0, ix3_2, Nat.reduceAdd, PyData.int.injEq, PyData.bool.injEq, Int.toNat_natCast, b7_9, f3, i3]
  refine run_pure (a := (n, b)) rfl h8 ?_
  simp only [xss, xs, ev, evA, evT, evR, evO, evF, evI, cVar, cBin, cIdx, cB1, cIsi, cCall, cCio, cCnw, tru, vv, toVal, cv, asD, setAt, putT, putTs, bindT, setAll, augW, binW, cmpW, b1W, b2W, truth, seqOf, retW, wipeE, restore, keepI, retOk, fin, endsOf, List.getElem?_cons_zero, List.getElem?_cons_succ, List.getD_cons_zero, List.getD_cons_succ, List.set_cons_zero, List.set_cons_succ, List.length_cons, List.length_nil, List.nil_append, List.cons_append, reduceIte, isi_ii, isi_ib, isi_tt, eqW_int, Bool.not_true, Bool.not_false, Bool.false_eq_true, Option.some.injEq, exists_eq_left', exists_eq_left, true_and, and_true, Bool.true_eq_false, Prod.mk.injEq, decide_eq_true_eq, and_assoc, exists_and_left, at3_0, at3_1, at3_2, ix3_0, ix3_2, Nat.reduceAdd, PyData.int.injEq, PyData.bool.injEq, Int.toNat_natCast, b7_8, len_T]
  refine ⟨by omega, fun q => ?_⟩
  refine compL_T (fun x => PyData.int (Bk (fun x => sg (b x)) 0 x)) (fun x hx k acc hk => ?_) ?_
  · simp only [xss, xs, ev, evA, evT, evR, evO, evF, evI, cVar, cBin, cIdx, cB1, cIsi, cCall, cCio, cCnw, tru, vv, toVal, cv, asD, setAt, putT, putTs, bindT, setAll, augW, binW, cmpW, b1W, b2W, truth, seqOf, retW, wipeE, restore, keepI, retOk, fin, endsOf, List.getElem?_cons_zero, List.getElem?_cons_succ, List.getD_cons_zero, List.getD_cons_succ, List.set_cons_zero, List.set_cons_succ, List.length_cons, List.length_nil, List.nil_append, List.cons_append, reduceIte, isi_ii, isi_ib, isi_tt, eqW_int, Bool.not_true, Bool.not_false, Bool.false_eq_true, Option.some.injEq, exists_eq_left', exists_eq_left, true_and, and_true, Bool.true_eq_false, Prod.mk.injEq, decide_eq_true_eq, and_assoc, exists_and_left, at3_0, at3_1, at3_2, ix3_0, ix3_2, Nat.reduceAdd, PyData.int.injEq, PyData.bool.injEq, Int.toNat_natCast]
    exact ⟨mul_l (by decide) (by decide), by rw [one_two]; exact hk⟩
  rw [rng_ints]
  simp only [xss, xs, ev, evA, evT, evR, evO, evF, evI, cVar, cBin, cIdx, cB1, cIsi, cCall, cCio, cCnw, tru, vv, toVal, cv, asD, setAt, putT, putTs, bindT, setAll, augW, binW, cmpW, b1W, b2W, truth, seqOf, retW, wipeE, restore, keepI, retOk, fin, endsOf, List.getElem?_cons_zero, List.getElem?_cons_succ, List.getD_cons_zero, List.getD_cons_succ, List.set_cons_zero, List.set_cons_succ, List.length_cons, List.length_nil, List.nil_append, List.cons_append, reduceIte, isi_ii, isi_ib, isi_tt, eqW_int, Bool.not_true, Bool.not_false, Bool.false_eq_true, Option.some.injEq, exists_eq_left', exists_eq_left, true_and, and_true, Bool.true_eq_false, Prod.mk.injEq, decide_eq_true_eq, and_assoc, exists_and_left, at3_0, at3_1, at3_2, ix3_0, ix3_2, Nat.reduceAdd, PyData.int.injEq, PyData.bool.injEq, Int.toNat_natCast, b7_7]
  refine wh_inv (fun m ρ => ∃ k l4 l5, ∃ s : SV, m = n - k ∧ k ≤ n ∧ (s = .im (.list (intsD ((List.range (2 ^ n)).map (Bk (fun x => sg (b x)) k)))) ∨ s = .ow q (intsD ((List.range (2 ^ n)).map (Bk (fun x => sg (b x)) k)))) ∧ ρ = [some (.im (.tuple (T n b))), some s, some (.im (.int ((2 ^ k : Nat) : Int))), none, l4, l5, none]) n ⟨0, none, none, _, rfl, by omega, .inr rfl, rfl⟩ fun m ρ kk h hk => ?_
  obtain ⟨k, l4, l5, s, rfl, hkn, hs, rfl⟩ := h
  by_cases hlt : k < n
  · have hlt2 : ((2 ^ k : Nat) : Int) < ((2 ^ n : Nat) : Int) := by
      have := two_lt hlt
      omega
    have body : ∀ l, xss G Γ b7_4 [some (.im (.tuple (T n b))), some s, some (.im (.int ((2 ^ k : Nat) : Int))), none, some (.ow l (intsD ((List.range (2 ^ n)).map (Bk (fun x => sg (b x)) k)))), l5, none] ⟨kk, E.rt, fun ρ => xss G Γ b7_6 ρ E, kk⟩ := fun l => by
      have fin : ∀ ρ, (∃ l5, ρ = [some (.im (.tuple (T n b))), some s, some (.im (.int ((2 ^ k : Nat) : Int))), none, some (.ow l (intsD ((List.range (2 ^ n)).map (half_ (fun x => sg (b x)) k (2 ^ n))))), l5, none]) → xss G Γ b7_3 ρ ⟨kk, E.rt, fun ρ => xss G Γ b7_6 ρ E, kk⟩ := fun ρ h => by
        obtain ⟨l5, rfl⟩ := h
        simp only [xss, xs, ev, evA, evT, evR, evO, evF, evI, cVar, cBin, cIdx, cB1, cIsi, cCall, cCio, cCnw, tru, vv, toVal, cv, asD, setAt, putT, putTs, bindT, setAll, augW, binW, cmpW, b1W, b2W, truth, seqOf, retW, wipeE, restore, keepI, retOk, fin, endsOf, List.getElem?_cons_zero, List.getElem?_cons_succ, List.getD_cons_zero, List.getD_cons_succ, List.set_cons_zero, List.set_cons_succ, List.length_cons, List.length_nil, List.nil_append, List.cons_append, reduceIte, isi_ii, isi_ib, isi_tt, eqW_int, Bool.not_true, Bool.not_false, Bool.false_eq_true, Option.some.injEq, exists_eq_left', exists_eq_left, true_and, and_true, Bool.true_eq_false, Prod.mk.injEq, decide_eq_true_eq, and_assoc, exists_and_left, at3_0, at3_1, at3_2, ix3_0, ix3_2, Nat.reduceAdd, PyData.int.injEq, PyData.bool.injEq, Int.toNat_natCast, b7_3]
        refine ⟨mul_l (by decide) (by decide), hk (n - (k + 1)) _ (by omega) ⟨k + 1, some (.im (.list (intsD ((List.range (2 ^ n)).map (Bk (fun x => sg (b x)) (k + 1)))))), l5, _, rfl, hlt, .inl rfl, ?_⟩⟩
        rw [half_end]
        have : 2 * ((2 ^ k : Nat) : Int) = ((2 ^ (k + 1) : Nat) : Int) := by rw [Nat.pow_succ]; omega
        rw [this]
      have step : ∀ (i : Nat) (k' : VL.Env → Prop), i < 2 ^ n → (∀ l5, k' [some (.im (.tuple (T n b))), some s, some (.im (.int ((2 ^ k : Nat) : Int))), none, some (.ow l (intsD ((List.range (2 ^ n)).map (half_ (fun x => sg (b x)) k (i + 1))))), l5, none]) →
          xss G Γ b7_2 [some (.im (.tuple (T n b))), some s, some (.im (.int ((2 ^ k : Nat) : Int))), none, some (.ow l (intsD ((List.range (2 ^ n)).map (half_ (fun x => sg (b x)) k i)))), some (.im (.int (i : Int))), none] ⟨k', E.rt, fun ρ => xss G Γ b7_3 ρ ⟨kk, E.rt, fun ρ => xss G Γ b7_6 ρ E, kk⟩, k'⟩ := fun i k' hi hk' => by
        simp only [xss, xs, ev, evA, evT, evR, evO, evF, evI, cVar, cBin, cIdx, cB1, cIsi, cCall, cCio, cCnw, tru, vv, toVal, cv, asD, setAt, putT, putTs, bindT, setAll, augW, binW, cmpW, b1W, b2W, truth, seqOf, retW, wipeE, restore, keepI, retOk, fin, endsOf, List.getElem?_cons_zero, List.getElem?_cons_succ, List.getD_cons_zero, List.getD_cons_succ, List.set_cons_zero, List.set_cons_succ, List.length_cons, List.length_nil, List.nil_append, List.cons_append, reduceIte, isi_ii, isi_ib, isi_tt, eqW_int, Bool.not_true, Bool.not_false, Bool.false_eq_true, Option.some.injEq, exists_eq_left', exists_eq_left, true_and, and_true, Bool.true_eq_false, Prod.mk.injEq, decide_eq_true_eq, and_assoc, exists_and_left, at3_0, at3_1, at3_2, ix3_0, ix3_2, Nat.reduceAdd, PyData.int.injEq, PyData.bool.injEq, Int.toNat_natCast, b7_2]
        rw [ba_nat]
        cases q : i.testBit k
        · rw [two_and0 q, if_pos (show ((0 : Nat) : Int) = 0 from rfl)]
          have hj := on_lt hlt hi q
          have e1 : (i : Int) + ((2 ^ k : Nat) : Int) = ((i + 2 ^ k : Nat) : Int) := by omega
          rcases hs with rfl | rfl
          · simp only [xss, xs, ev, evA, evT, evR, evO, evF, evI, cVar, cBin, cIdx, cB1, cIsi, cCall, cCio, cCnw, tru, vv, toVal, cv, asD, setAt, putT, putTs, bindT, setAll, augW, binW, cmpW, b1W, b2W, truth, seqOf, retW, wipeE, restore, keepI, retOk, fin, endsOf, List.getElem?_cons_zero, List.getElem?_cons_succ, List.getD_cons_zero, List.getD_cons_succ, List.set_cons_zero, List.set_cons_succ, List.length_cons, List.length_nil, List.nil_append, List.cons_append, reduceIte, isi_ii, isi_ib, isi_tt, eqW_int, Bool.not_true, Bool.not_false, Bool.false_eq_true, Option.some.injEq, exists_eq_left', exists_eq_left, true_and, and_true, Bool.true_eq_false, Prod.mk.injEq, decide_eq_true_eq, and_assoc, exists_and_left, at3_0, at3_1, at3_2, ix3_0, ix3_2, Nat.reduceAdd, PyData.int.injEq, PyData.bool.injEq, Int.toNat_natCast, b7_1]
            rw [e1]
            refine ⟨_, at_rng _ hi, _, at_rng _ hj, ?_⟩
            simp only [xss, xs, ev, evA, evT, evR, evO, evF, evI, cVar, cBin, cIdx, cB1, cIsi, cCall, cCio, cCnw, tru, vv, toVal, cv, asD, setAt, putT, putTs, bindT, setAll, augW, binW, cmpW, b1W, b2W, truth, seqOf, retW, wipeE, restore, keepI, retOk, fin, endsOf, List.getElem?_cons_zero, List.getElem?_cons_succ, List.getD_cons_zero, List.getD_cons_succ, List.set_cons_zero, List.set_cons_succ, List.length_cons, List.length_nil, List.nil_append, List.cons_append, reduceIte, isi_ii, isi_ib, isi_tt, eqW_int, Bool.not_true, Bool.not_false, Bool.false_eq_true, Option.some.injEq, exists_eq_left', exists_eq_left, true_and, and_true, Bool.true_eq_false, Prod.mk.injEq, decide_eq_true_eq, and_assoc, exists_and_left, at3_0, at3_1, at3_2, ix3_0, ix3_2, Nat.reduceAdd, PyData.int.injEq, PyData.bool.injEq, Int.toNat_natCast]
            refine ⟨i, ix_nat rfl (by rw [len_rng]; exact hi), ?_⟩
            simp only [xss, xs, ev, evA, evT, evR, evO, evF, evI, cVar, cBin, cIdx, cB1, cIsi, cCall, cCio, cCnw, tru, vv, toVal, cv, asD, setAt, putT, putTs, bindT, setAll, augW, binW, cmpW, b1W, b2W, truth, seqOf, retW, wipeE, restore, keepI, retOk, fin, endsOf, List.getElem?_cons_zero, List.getElem?_cons_succ, List.getD_cons_zero, List.getD_cons_succ, List.set_cons_zero, List.set_cons_succ, List.length_cons, List.length_nil, List.nil_append, List.cons_append, reduceIte, isi_ii, isi_ib, isi_tt, eqW_int, Bool.not_true, Bool.not_false, Bool.false_eq_true, Option.some.injEq, exists_eq_left', exists_eq_left, true_and, and_true, Bool.true_eq_false, Prod.mk.injEq, decide_eq_true_eq, and_assoc, exists_and_left, at3_0, at3_1, at3_2, ix3_0, ix3_2, Nat.reduceAdd, PyData.int.injEq, PyData.bool.injEq, Int.toNat_natCast, b7_0]
            rw [e1]
            refine ⟨_, at_rng _ hi, _, at_rng _ hj, ?_⟩
            simp only [xss, xs, ev, evA, evT, evR, evO, evF, evI, cVar, cBin, cIdx, cB1, cIsi, cCall, cCio, cCnw, tru, vv, toVal, cv, asD, setAt, putT, putTs, bindT, setAll, augW, binW, cmpW, b1W, b2W, truth, seqOf, retW, wipeE, restore, keepI, retOk, fin, endsOf, List.getElem?_cons_zero, List.getElem?_cons_succ, List.getD_cons_zero, List.getD_cons_succ, List.set_cons_zero, List.set_cons_succ, List.length_cons, List.length_nil, List.nil_append, List.cons_append, reduceIte, isi_ii, isi_ib, isi_tt, eqW_int, Bool.not_true, Bool.not_false, Bool.false_eq_true, Option.some.injEq, exists_eq_left', exists_eq_left, true_and, and_true, Bool.true_eq_false, Prod.mk.injEq, decide_eq_true_eq, and_assoc, exists_and_left, at3_0, at3_1, at3_2, ix3_0, ix3_2, Nat.reduceAdd, PyData.int.injEq, PyData.bool.injEq, Int.toNat_natCast]
            refine ⟨i + 2 ^ k, ix_nat rfl (by rw [List.length_set, len_rng]; exact hj), ?_⟩
            rw [ints_set, ints_set, half_on _ _ _ _ q]
            exact hk' _
          · simp only [xss, xs, ev, evA, evT, evR, evO, evF, evI, cVar, cBin, cIdx, cB1, cIsi, cCall, cCio, cCnw, tru, vv, toVal, cv, asD, setAt, putT, putTs, bindT, setAll, augW, binW, cmpW, b1W, b2W, truth, seqOf, retW, wipeE, restore, keepI, retOk, fin, endsOf, List.getElem?_cons_zero, List.getElem?_cons_succ, List.getD_cons_zero, List.getD_cons_succ, List.set_cons_zero, List.set_cons_succ, List.length_cons, List.length_nil, List.nil_append, List.cons_append, reduceIte, isi_ii, isi_ib, isi_tt, eqW_int, Bool.not_true, Bool.not_false, Bool.false_eq_true, Option.some.injEq, exists_eq_left', exists_eq_left, true_and, and_true, Bool.true_eq_false, Prod.mk.injEq, decide_eq_true_eq, and_assoc, exists_and_left, at3_0, at3_1, at3_2, ix3_0, ix3_2, Nat.reduceAdd, PyData.int.injEq, PyData.bool.injEq, Int.toNat_natCast, b7_1]
            rw [e1]
            refine ⟨_, at_rng _ hi, _, at_rng _ hj, ?_⟩
            simp only [xss, xs, ev, evA, evT, evR, evO, evF, evI, cVar, cBin, cIdx, cB1, cIsi, cCall, cCio, cCnw, tru, vv, toVal, cv, asD, setAt, putT, putTs, bindT, setAll, augW, binW, cmpW, b1W, b2W, truth, seqOf, retW, wipeE, restore, keepI, retOk, fin, endsOf, List.getElem?_cons_zero, List.getElem?_cons_succ, List.getD_cons_zero, List.getD_cons_succ, List.set_cons_zero, List.set_cons_succ, List.length_cons, List.length_nil, List.nil_append, List.cons_append, reduceIte, isi_ii, isi_ib, isi_tt, eqW_int, Bool.not_true, Bool.not_false, Bool.false_eq_true, Option.some.injEq, exists_eq_left', exists_eq_left, true_and, and_true, Bool.true_eq_false, Prod.mk.injEq, decide_eq_true_eq, and_assoc, exists_and_left, at3_0, at3_1, at3_2, ix3_0, ix3_2, Nat.reduceAdd, PyData.int.injEq, PyData.bool.injEq, Int.toNat_natCast]
            refine ⟨i, ix_nat rfl (by rw [len_rng]; exact hi), ?_⟩
            simp only [xss, xs, ev, evA, evT, evR, evO, evF, evI, cVar, cBin, cIdx, cB1, cIsi, cCall, cCio, cCnw, tru, vv, toVal, cv, asD, setAt, putT, putTs, bindT, setAll, augW, binW, cmpW, b1W, b2W, truth, seqOf, retW, wipeE, restore, keepI, retOk, fin, endsOf, List.getElem?_cons_zero, List.getElem?_cons_succ, List.getD_cons_zero, List.getD_cons_succ, List.set_cons_zero, List.set_cons_succ, List.length_cons, List.length_nil, List.nil_append, List.cons_append, reduceIte, isi_ii, isi_ib, isi_tt, eqW_int, Bool.not_true, Bool.not_false, Bool.false_eq_true, Option.some.injEq, exists_eq_left', exists_eq_left, true_and, and_true, Bool.true_eq_false, Prod.mk.injEq, decide_eq_true_eq, and_assoc, exists_and_left, at3_0, at3_1, at3_2, ix3_0, ix3_2, Nat.reduceAdd, PyData.int.injEq, PyData.bool.injEq, Int.toNat_natCast, b7_0]
            rw [e1]
            refine ⟨_, at_rng _ hi, _, at_rng _ hj, ?_⟩
            simp only [xss, xs, ev, evA, evT, evR, evO, evF, evI, cVar, cBin, cIdx, cB1, cIsi, cCall, cCio, cCnw, tru, vv, toVal, cv, asD, setAt, putT, putTs, bindT, setAll, augW, binW, cmpW, b1W, b2W, truth, seqOf, retW, wipeE, restore, keepI, retOk, fin, endsOf, List.getElem?_cons_zero, List.getElem?_cons_succ, List.getD_cons_zero, List.getD_cons_succ, List.set_cons_zero, List.set_cons_succ, List.length_cons, List.length_nil, List.nil_append, List.cons_append, reduceIte, isi_ii, isi_ib, isi_tt, eqW_int, Bool.not_true, Bool.not_false, Bool.false_eq_true, Option.some.injEq, exists_eq_left', exists_eq_left, true_and, and_true, Bool.true_eq_false, Prod.mk.injEq, decide_eq_true_eq, and_assoc, exists_and_left, at3_0, at3_1, at3_2, ix3_0, ix3_2, Nat.reduceAdd, PyData.int.injEq, PyData.bool.injEq, Int.toNat_natCast]
            refine ⟨i + 2 ^ k, ix_nat rfl (by rw [List.length_set, len_rng]; exact hj), ?_⟩
            rw [ints_set, ints_set, half_on _ _ _ _ q]
            exact hk' _
        · rw [two_and q, if_neg (by have := Nat.two_pow_pos k; omega)]
          rw [half_off _ _ _ _ q]
          exact hk' _
      have start : (List.range (2 ^ n)).map (Bk (fun x => sg (b x)) k) = (List.range (2 ^ n)).map (half_ (fun x => sg (b x)) k 0) := half_start _ _ _
      rw [start]
      have loop : forL [5] (xss G Γ b7_2) ((List.range (2 ^ n)).map fun i => PyData.int (i : Nat)) [some (.im (.tuple (T n b))), some s, some (.im (.int ((2 ^ k : Nat) : Int))), none, some (.ow l (intsD ((List.range (2 ^ n)).map (half_ (fun x => sg (b x)) k 0)))), l5, none] ⟨fun ρ => xss G Γ b7_3 ρ ⟨kk, E.rt, fun ρ => xss G Γ b7_6 ρ E, kk⟩, E.rt, fun ρ => xss G Γ b7_6 ρ E, kk⟩ := by
        refine forL_inv (fun i ρ => ∃ l5, ρ = [some (.im (.tuple (T n b))), some s, some (.im (.int ((2 ^ k : Nat) : Int))), none, some (.ow l (intsD ((List.range (2 ^ n)).map (half_ (fun x => sg (b x)) k i)))), l5, none]) ⟨l5, rfl⟩ (fun i x ρ k' hx h hk' => ?_) fun ρ h => ?_
        · obtain ⟨l5, rfl⟩ := h
          obtain ⟨hl, e⟩ := List.getElem?_eq_some_iff.mp hx
          simp at hl e
          subst e
          simp only [xss, xs, ev, evA, evT, evR, evO, evF, evI, cVar, cBin, cIdx, cB1, cIsi, cCall, cCio, cCnw, tru, vv, toVal, cv, asD, setAt, putT, putTs, bindT, setAll, augW, binW, cmpW, b1W, b2W, truth, seqOf, retW, wipeE, restore, keepI, retOk, fin, endsOf, List.getElem?_cons_zero, List.getElem?_cons_succ, List.getD_cons_zero, List.getD_cons_succ, List.set_cons_zero, List.set_cons_succ, List.length_cons, List.length_nil, List.nil_append, List.cons_append, reduceIte, isi_ii, isi_ib, isi_tt, eqW_int, Bool.not_true, Bool.not_false, Bool.false_eq_true, Option.some.injEq, exists_eq_left', exists_eq_left, true_and, and_true, Bool.true_eq_false, Prod.mk.injEq, decide_eq_true_eq, and_assoc, exists_and_left, at3_0, at3_1, at3_2, ix3_0, ix3_2, Nat.reduceAdd, PyData.int.injEq, PyData.bool.injEq, Int.toNat_natCast]
          exact step i k' hl fun l5 => hk' _ ⟨l5, rfl⟩
        · refine fin ρ ?_
          simpa using h
      rcases hs with rfl | rfl
      · simp only [xss, xs, ev, evA, evT, evR, evO, evF, evI, cVar, cBin, cIdx, cB1, cIsi, cCall, cCio, cCnw, tru, vv, toVal, cv, asD, setAt, putT, putTs, bindT, setAll, augW, binW, cmpW, b1W, b2W, truth, seqOf, retW, wipeE, restore, keepI, retOk, fin, endsOf, List.getElem?_cons_zero, List.getElem?_cons_succ, List.getD_cons_zero, List.getD_cons_succ, List.set_cons_zero, List.set_cons_succ, List.length_cons, List.length_nil, List.nil_append, List.cons_append, reduceIte, isi_ii, isi_ib, isi_tt, eqW_int, Bool.not_true, Bool.not_false, Bool.false_eq_true, Option.some.injEq, exists_eq_left', exists_eq_left, true_and, and_true, Bool.true_eq_false, Prod.mk.injEq, decide_eq_true_eq, and_assoc, exists_and_left, at3_0, at3_1, at3_2, ix3_0, ix3_2, Nat.reduceAdd, PyData.int.injEq, PyData.bool.injEq, Int.toNat_natCast, b7_4, len_rng]
        exact ⟨by omega, by omega, loop⟩
      · simp only [xss, xs, ev, evA, evT, evR, evO, evF, evI, cVar, cBin, cIdx, cB1, cIsi, cCall, cCio, cCnw, tru, vv, toVal, cv, asD, setAt, putT, putTs, bindT, setAll, augW, binW, cmpW, b1W, b2W, truth, seqOf, retW, wipeE, restore, keepI, retOk, fin, endsOf, List.getElem?_cons_zero, List.getElem?_cons_succ, List.getD_cons_zero, List.getD_cons_succ, List.set_cons_zero, List.set_cons_succ, List.length_cons, List.length_nil, List.nil_append, List.cons_append, reduceIte, isi_ii, isi_ib, isi_tt, eqW_int, Bool.not_true, Bool.not_false, Bool.false_eq_true, Option.some.injEq, exists_eq_left', exists_eq_left, true_and, and_true, Bool.true_eq_false, Prod.mk.injEq, decide_eq_true_eq, and_assoc, exists_and_left, at3_0, at3_1, at3_2, ix3_0, ix3_2, Nat.reduceAdd, PyData.int.injEq, PyData.bool.injEq, Int.toNat_natCast, b7_4, len_rng]
        exact ⟨by omega, by omega, loop⟩
    rcases hs with rfl | rfl
    · simp only [xss, xs, ev, evA, evT, evR, evO, evF, evI, cVar, cBin, cIdx, cB1, cIsi, cCall, cCio, cCnw, tru, vv, toVal, cv, asD, setAt, putT, putTs, bindT, setAll, augW, binW, cmpW, b1W, b2W, truth, seqOf, retW, wipeE, restore, keepI, retOk, fin, endsOf, List.getElem?_cons_zero, List.getElem?_cons_succ, List.getD_cons_zero, List.getD_cons_succ, List.set_cons_zero, List.set_cons_succ, List.length_cons, List.length_nil, List.nil_append, List.cons_append, reduceIte, isi_ii, isi_ib, isi_tt, eqW_int, Bool.not_true, Bool.not_false, Bool.false_eq_true, Option.some.injEq, exists_eq_left', exists_eq_left, true_and, and_true, Bool.true_eq_false, Prod.mk.injEq, decide_eq_true_eq, and_assoc, exists_and_left, at3_0, at3_1, at3_2, ix3_0, ix3_2, Nat.reduceAdd, PyData.int.injEq, PyData.bool.injEq, Int.toNat_natCast, len_rng]
      rw [if_pos hlt2]
      simp only [xss, xs, ev, evA, evT, evR, evO, evF, evI, cVar, cBin, cIdx, cB1, cIsi, cCall, cCio, cCnw, tru, vv, toVal, cv, asD, setAt, putT, putTs, bindT, setAll, augW, binW, cmpW, b1W, b2W, truth, seqOf, retW, wipeE, restore, keepI, retOk, fin, endsOf, List.getElem?_cons_zero, List.getElem?_cons_succ, List.getD_cons_zero, List.getD_cons_succ, List.set_cons_zero, List.set_cons_succ, List.length_cons, List.length_nil, List.nil_append, List.cons_append, reduceIte, isi_ii, isi_ib, isi_tt, eqW_int, Bool.not_true, Bool.not_false, Bool.false_eq_true, Option.some.injEq, exists_eq_left', exists_eq_left, true_and, and_true, Bool.true_eq_false, Prod.mk.injEq, decide_eq_true_eq, and_assoc, exists_and_left, at3_0, at3_1, at3_2, ix3_0, ix3_2, Nat.reduceAdd, PyData.int.injEq, PyData.bool.injEq, Int.toNat_natCast, b7_5]
      exact body
    · simp only [xss, xs, ev, evA, evT, evR, evO, evF, evI, cVar, cBin, cIdx, cB1, cIsi, cCall, cCio, cCnw, tru, vv, toVal, cv, asD, setAt, putT, putTs, bindT, setAll, augW, binW, cmpW, b1W, b2W, truth, seqOf, retW, wipeE, restore, keepI, retOk, fin, endsOf, List.getElem?_cons_zero, List.getElem?_cons_succ, List.getD_cons_zero, List.getD_cons_succ, List.set_cons_zero, List.set_cons_succ, List.length_cons, List.length_nil, List.nil_append, List.cons_append, reduceIte, isi_ii, isi_ib, isi_tt, eqW_int, Bool.not_true, Bool.not_false, Bool.false_eq_true, Option.some.injEq, exists_eq_left', exists_eq_left, true_and, and_true, Bool.true_eq_false, Prod.mk.injEq, decide_eq_true_eq, and_assoc, exists_and_left, at3_0, at3_1, at3_2, ix3_0, ix3_2, Nat.reduceAdd, PyData.int.injEq, PyData.bool.injEq, Int.toNat_natCast, len_rng]
      rw [if_pos hlt2]
      simp only [xss, xs, ev, evA, evT, evR, evO, evF, evI, cVar, cBin, cIdx, cB1, cIsi, cCall, cCio, cCnw, tru, vv, toVal, cv, asD, setAt, putT, putTs, bindT, setAll, augW, binW, cmpW, b1W, b2W, truth, seqOf, retW, wipeE, restore, keepI, retOk, fin, endsOf, List.getElem?_cons_zero, List.getElem?_cons_succ, List.getD_cons_zero, List.getD_cons_succ, List.set_cons_zero, List.set_cons_succ, List.length_cons, List.length_nil, List.nil_append, List.cons_append, reduceIte, isi_ii, isi_ib, isi_tt, eqW_int, Bool.not_true, Bool.not_false, Bool.false_eq_true, Option.some.injEq, exists_eq_left', exists_eq_left, true_and, and_true, Bool.true_eq_false, Prod.mk.injEq, decide_eq_true_eq, and_assoc, exists_and_left, at3_0, at3_1, at3_2, ix3_0, ix3_2, Nat.reduceAdd, PyData.int.injEq, PyData.bool.injEq, Int.toNat_natCast, b7_5]
      exact body
  · have e : k = n := by omega
    subst e
    have far : ∀ x, x < 2 ^ k → (((2 ^ k : Nat) : Int) - Bk (fun x => sg (b x)) k x) / 2 = hd k b x := fun x hx => far_eq k b (by omega) hx
    have out : intsD (dist k b) = (List.range (2 ^ k)).map fun x => PyData.int (hd k b x) := (rng_ints _).symm
    rcases hs with rfl | rfl
    · simp only [xss, xs, ev, evA, evT, evR, evO, evF, evI, cVar, cBin, cIdx, cB1, cIsi, cCall, cCio, cCnw, tru, vv, toVal, cv, asD, setAt, putT, putTs, bindT, setAll, augW, binW, cmpW, b1W, b2W, truth, seqOf, retW, wipeE, restore, keepI, retOk, fin, endsOf, List.getElem?_cons_zero, List.getElem?_cons_succ, List.getD_cons_zero, List.getD_cons_succ, List.set_cons_zero, List.set_cons_succ, List.length_cons, List.length_nil, List.nil_append, List.cons_append, reduceIte, isi_ii, isi_ib, isi_tt, eqW_int, Bool.not_true, Bool.not_false, Bool.false_eq_true, Option.some.injEq, exists_eq_left', exists_eq_left, true_and, and_true, Bool.true_eq_false, Prod.mk.injEq, decide_eq_true_eq, and_assoc, exists_and_left, at3_0, at3_1, at3_2, ix3_0, ix3_2, Nat.reduceAdd, PyData.int.injEq, PyData.bool.injEq, Int.toNat_natCast, len_rng]
      rw [if_neg (by omega)]
      simp only [xss, xs, ev, evA, evT, evR, evO, evF, evI, cVar, cBin, cIdx, cB1, cIsi, cCall, cCio, cCnw, tru, vv, toVal, cv, asD, setAt, putT, putTs, bindT, setAll, augW, binW, cmpW, b1W, b2W, truth, seqOf, retW, wipeE, restore, keepI, retOk, fin, endsOf, List.getElem?_cons_zero, List.getElem?_cons_succ, List.getD_cons_zero, List.getD_cons_succ, List.set_cons_zero, List.set_cons_succ, List.length_cons, List.length_nil, List.nil_append, List.cons_append, reduceIte, isi_ii, isi_ib, isi_tt, eqW_int, Bool.not_true, Bool.not_false, Bool.false_eq_true, Option.some.injEq, exists_eq_left', exists_eq_left, true_and, and_true, Bool.true_eq_false, Prod.mk.injEq, decide_eq_true_eq, and_assoc, exists_and_left, at3_0, at3_1, at3_2, ix3_0, ix3_2, Nat.reduceAdd, PyData.int.injEq, PyData.bool.injEq, Int.toNat_natCast, b7_6, len_T, len_rng]
      refine ⟨by omega, fun q => ?_⟩
      rw [← rng_ints]
      refine compL_lst (fun x => PyData.int (hd k b x)) (fun x hx kk acc hk => ?_) ?_
      · have hx := List.mem_range.mp hx
        simp only [xss, xs, ev, evA, evT, evR, evO, evF, evI, cVar, cBin, cIdx, cB1, cIsi, cCall, cCio, cCnw, tru, vv, toVal, cv, asD, setAt, putT, putTs, bindT, setAll, augW, binW, cmpW, b1W, b2W, truth, seqOf, retW, wipeE, restore, keepI, retOk, fin, endsOf, List.getElem?_cons_zero, List.getElem?_cons_succ, List.getD_cons_zero, List.getD_cons_succ, List.set_cons_zero, List.set_cons_succ, List.length_cons, List.length_nil, List.nil_append, List.cons_append, reduceIte, isi_ii, isi_ib, isi_tt, eqW_int, Bool.not_true, Bool.not_false, Bool.false_eq_true, Option.some.injEq, exists_eq_left', exists_eq_left, true_and, and_true, Bool.true_eq_false, Prod.mk.injEq, decide_eq_true_eq, and_assoc, exists_and_left, at3_0, at3_1, at3_2, ix3_0, ix3_2, Nat.reduceAdd, PyData.int.injEq, PyData.bool.injEq, Int.toNat_natCast, len_T]
        exact ⟨div_ok (by decide) (by decide), by rw [far x hx]; exact hk⟩
      · exact hr _ _ (ret_vt (by rw [← out]))
    · simp only [xss, xs, ev, evA, evT, evR, evO, evF, evI, cVar, cBin, cIdx, cB1, cIsi, cCall, cCio, cCnw, tru, vv, toVal, cv, asD, setAt, putT, putTs, bindT, setAll, augW, binW, cmpW, b1W, b2W, truth, seqOf, retW, wipeE, restore, keepI, retOk, fin, endsOf, List.getElem?_cons_zero, List.getElem?_cons_succ, List.getD_cons_zero, List.getD_cons_succ, List.set_cons_zero, List.set_cons_succ, List.length_cons, List.length_nil, List.nil_append, List.cons_append, reduceIte, isi_ii, isi_ib, isi_tt, eqW_int, Bool.not_true, Bool.not_false, Bool.false_eq_true, Option.some.injEq, exists_eq_left', exists_eq_left, true_and, and_true, Bool.true_eq_false, Prod.mk.injEq, decide_eq_true_eq, and_assoc, exists_and_left, at3_0, at3_1, at3_2, ix3_0, ix3_2, Nat.reduceAdd, PyData.int.injEq, PyData.bool.injEq, Int.toNat_natCast, len_rng]
      rw [if_neg (by omega)]
      simp only [xss, xs, ev, evA, evT, evR, evO, evF, evI, cVar, cBin, cIdx, cB1, cIsi, cCall, cCio, cCnw, tru, vv, toVal, cv, asD, setAt, putT, putTs, bindT, setAll, augW, binW, cmpW, b1W, b2W, truth, seqOf, retW, wipeE, restore, keepI, retOk, fin, endsOf, List.getElem?_cons_zero, List.getElem?_cons_succ, List.getD_cons_zero, List.getD_cons_succ, List.set_cons_zero, List.set_cons_succ, List.length_cons, List.length_nil, List.nil_append, List.cons_append, reduceIte, isi_ii, isi_ib, isi_tt, eqW_int, Bool.not_true, Bool.not_false, Bool.false_eq_true, Option.some.injEq, exists_eq_left', exists_eq_left, true_and, and_true, Bool.true_eq_false, Prod.mk.injEq, decide_eq_true_eq, and_assoc, exists_and_left, at3_0, at3_1, at3_2, ix3_0, ix3_2, Nat.reduceAdd, PyData.int.injEq, PyData.bool.injEq, Int.toNat_natCast, b7_6, len_T, len_rng]
      refine ⟨by omega, fun q' => ?_⟩
      rw [← rng_ints]
      refine compL_lst (fun x => PyData.int (hd k b x)) (fun x hx kk acc hk => ?_) ?_
      · have hx := List.mem_range.mp hx
        simp only [xss, xs, ev, evA, evT, evR, evO, evF, evI, cVar, cBin, cIdx, cB1, cIsi, cCall, cCio, cCnw, tru, vv, toVal, cv, asD, setAt, putT, putTs, bindT, setAll, augW, binW, cmpW, b1W, b2W, truth, seqOf, retW, wipeE, restore, keepI, retOk, fin, endsOf, List.getElem?_cons_zero, List.getElem?_cons_succ, List.getD_cons_zero, List.getD_cons_succ, List.set_cons_zero, List.set_cons_succ, List.length_cons, List.length_nil, List.nil_append, List.cons_append, reduceIte, isi_ii, isi_ib, isi_tt, eqW_int, Bool.not_true, Bool.not_false, Bool.false_eq_true, Option.some.injEq, exists_eq_left', exists_eq_left, true_and, and_true, Bool.true_eq_false, Prod.mk.injEq, decide_eq_true_eq, and_assoc, exists_and_left, at3_0, at3_1, at3_2, ix3_0, ix3_2, Nat.reduceAdd, PyData.int.injEq, PyData.bool.injEq, Int.toNat_natCast, len_T]
        exact ⟨div_ok (by decide) (by decide), by rw [far x hx]; exact hk⟩
      · exact hr _ _ (ret_vt (by rw [← out]))
end K13

set_option Elab.async false
set_option linter.all false
set_option maxRecDepth 100000
namespace K13
open PySem L2 VL BF

theorem eqW_bool {a b : Bool} {k : Bool → Prop} : eqW (.bool a) (.bool b) k = k (a == b) := by
  unfold eqW
  have e : PyData.eqv (.bool a) (.bool b) = (a == b) := by simp only [PyData.eqv]
  rw [e]
  exact propext ⟨fun h => h.2.2, fun h => ⟨(nice_bool a).shaped (Nat.zero_le 64), (nice_bool b).shaped (Nat.zero_le 64), h⟩⟩
theorem dist_pos (n : Nat) (b : Nat → Bool) : 0 < (dist n b).length := by
  simp [dist]
  exact Nat.two_pow_pos n
theorem len_dist (n : Nat) (b : Nat → Bool) : (dist n b).length = 2 ^ n := by simp [dist]
theorem enum_at {ds : List D} {i : Nat} {x : D} (h : (ds.mapIdx fun i x => PyData.tuple [.int (i : Nat), x])[i]? = some x) : ∃ y, ds[i]? = some y ∧ x = .tuple [.int (i : Nat), y] := by
  rw [List.getElem?_mapIdx] at h
  cases q : ds[i]? with
  | none => rw [q] at h; cases h
  | some y => rw [q] at h; cases h; exact ⟨y, rfl, rfl⟩
theorem enum_mem {ds : List D} {x : D} (h : x ∈ ds.mapIdx fun i x => PyData.tuple [.int (i : Nat), x]) : ∃ i y, ds[i]? = some y ∧ x = .tuple [.int (i : Nat), y] := by
  obtain ⟨i, hi⟩ := List.getElem?_of_mem h
  exact ⟨i, enum_at hi⟩
theorem T_get {n i : Nat} {b : Nat → Bool} {d : D} (h : (T n b)[i]? = some d) : i < 2 ^ n ∧ d = .int (b2i (b i)) := by
  obtain ⟨hl, e⟩ := List.getElem?_eq_some_iff.mp h
  rw [len_T] at hl
  have : (T n b)[i]? = some (.int (b2i (b i))) := by
    rw [T_eq, List.getElem?_map, List.getElem?_range hl]
    rfl
  rw [this] at h
  cases h
  exact ⟨hl, rfl⟩
theorem ok8 : BodyOk G Γ 5 b8 s8 := by
  refine body_gen fun a ha p E hn hr => ?_
  obtain ⟨n, b⟩ := a
  have h8 : n ≤ 8 := ha
  have h9 := two8 h8
  have h0n : (0 : Int) ≤ ((2 ^ n : Nat) : Int) := Int.natCast_nonneg _
  show xss G Γ b8_2 [some (.im (.tuple (T n b))), none, none, none, none] E
  simp only [xss, xs, ev, evA, evT, evR, evO, evF, evI, cVar, cBin, cIdx, cB1, cIsi, cCall, cCio, cCnw, tru, vv, toVal, cv, asD, setAt, putT, putTs, bindT, setAll, augW, binW, cmpW, b1W, b2W, truth, seqOf, retW, wipeE, restore, keepI, retOk, fin, endsOf, List.getElem?_cons_zero, List.getElem?_cons_succ, List.getD_cons_zero, List.getD_cons_succ, List.set_cons_zero, List.set_cons_succ, List.length_cons, List.length_nil, List.nil_append, List.cons_append, reduceIte, isi_ii, isi_ib, isi_tt, eqW_int, Bool.not_true, Bool.not_false, Bool.false_eq_true, Option.some.injEq, exists_eq_left', exists_eq_left, true_and, and_true, Bool.true_eq_false, Prod.mk.injEq, decide_eq_true_eq, and_assoc, exists_and_left, at3_0, at3_1, at3_2, ix3_0, ix3_2, Nat.reduceAdd, PyData.int.injEq, PyData.bool.injEq, Int.toNat_natCast, b8_2, f7, i7]
  refine run_pure (a := (n, b)) rfl h8 ?_
  simp only [xss, xs, ev, evA, evT, evR, evO, evF, evI, cVar, cBin, cIdx, cB1, cIsi, cCall, cCio, cCnw, tru, vv, toVal, cv, asD, setAt, putT, putTs, bindT, setAll, augW, binW, cmpW, b1W, b2W, truth, seqOf, retW, wipeE, restore, keepI, retOk, fin, endsOf, List.getElem?_cons_zero, List.getElem?_cons_succ, List.getD_cons_zero, List.getD_cons_succ, List.set_cons_zero, List.set_cons_succ, List.length_cons, List.length_nil, List.nil_append, List.cons_append, reduceIte, isi_ii, isi_ib, isi_tt, eqW_int, Bool.not_true, Bool.not_false, Bool.false_eq_true, Option.some.injEq, exists_eq_left', exists_eq_left, true_and, and_true, Bool.true_eq_false, Prod.mk.injEq, decide_eq_true_eq, and_assoc, exists_and_left, at3_0, at3_1, at3_2, ix3_0, ix3_2, Nat.reduceAdd, PyData.int.injEq, PyData.bool.injEq, Int.toNat_natCast, b8_1]
  refine ⟨dist n b, rfl, dist_pos n b, fun l hl hmin => ?_⟩
  simp only [xss, xs, ev, evA, evT, evR, evO, evF, evI, cVar, cBin, cIdx, cB1, cIsi, cCall, cCio, cCnw, tru, vv, toVal, cv, asD, setAt, putT, putTs, bindT, setAll, augW, binW, cmpW, b1W, b2W, truth, seqOf, retW, wipeE, restore, keepI, retOk, fin, endsOf, List.getElem?_cons_zero, List.getElem?_cons_succ, List.getD_cons_zero, List.getD_cons_succ, List.set_cons_zero, List.set_cons_succ, List.length_cons, List.length_nil, List.nil_append, List.cons_append, reduceIte, isi_ii, isi_ib, isi_tt, eqW_int, Bool.not_true, Bool.not_false, Bool.false_eq_true, Option.some.injEq, exists_eq_left', exists_eq_left, true_and, and_true, Bool.true_eq_false, Prod.mk.injEq, decide_eq_true_eq, and_assoc, exists_and_left, at3_0, at3_1, at3_2, ix3_0, ix3_2, Nat.reduceAdd, PyData.int.injEq, PyData.bool.injEq, Int.toNat_natCast, b8_0]
  refine ⟨by rw [List.length_mapIdx, ints_len, len_dist]; omega, fun q => ?_⟩
  refine compL_map (pick l) (fun x hx k acc hk => ?_) ?_
  · obtain ⟨i, y, hy, rfl⟩ := enum_mem hx
    obtain ⟨z, hz, rfl⟩ := get_ints hy
    simp only [xss, xs, ev, evA, evT, evR, evO, evF, evI, cVar, cBin, cIdx, cB1, cIsi, cCall, cCio, cCnw, tru, vv, toVal, cv, asD, setAt, putT, putTs, bindT, setAll, augW, binW, cmpW, b1W, b2W, truth, seqOf, retW, wipeE, restore, keepI, retOk, fin, endsOf, List.getElem?_cons_zero, List.getElem?_cons_succ, List.getD_cons_zero, List.getD_cons_succ, List.set_cons_zero, List.set_cons_succ, List.length_cons, List.length_nil, List.nil_append, List.cons_append, reduceIte, isi_ii, isi_ib, isi_tt, eqW_int, Bool.not_true, Bool.not_false, Bool.false_eq_true, Option.some.injEq, exists_eq_left', exists_eq_left, true_and, and_true, Bool.true_eq_false, Prod.mk.injEq, decide_eq_true_eq, and_assoc, exists_and_left, at3_0, at3_1, at3_2, ix3_0, ix3_2, Nat.reduceAdd, PyData.int.injEq, PyData.bool.injEq, Int.toNat_natCast]
    by_cases h : z = l
    · rw [if_pos h]
      unfold pick at hk
      dsimp only at hk
      rw [if_pos h] at hk
      exact hk
    · rw [if_neg h]
      unfold pick at hk
      dsimp only at hk
      rw [if_neg h] at hk
      simpa using hk
  · exact ⟨by decide, hr _ _ (ret_gv ⟨l, hl, hmin, rfl⟩)⟩
theorem ok10 : BodyOk G Γ 5 b10 s10 := by
  refine body_pure fun a ha p E hn hr => ?_
  obtain ⟨n, b⟩ := a
  have h8 : n ≤ 8 := ha
  have h9 := two8 h8
  have h0n : (0 : Int) ≤ ((2 ^ n : Nat) : Int) := Int.natCast_nonneg _
  show xss G Γ b10_5 [some (.im (.tuple (T n b))), none, none, none, none] E
  simp only [xss, xs, ev, evA, evT, evR, evO, evF, evI, cVar, cBin, cIdx, cB1, cIsi, cCall, cCio, cCnw, tru, vv, toVal, cv, asD, setAt, putT, putTs, bindT, setAll, augW, binW, cmpW, b1W, b2W, truth, seqOf, retW, wipeE, restore, keepI, retOk, fin, endsOf, List.getElem?_cons_zero, List.getElem?_cons_succ, List.getD_cons_zero, List.getD_cons_succ, List.set_cons_zero, List.set_cons_succ, List.length_cons, List.length_nil, List.nil_append, List.cons_append, reduceIte, isi_ii, isi_ib, isi_tt, eqW_int, Bool.not_true, Bool.not_false, Bool.false_eq_true, Option.some.injEq, exists_eq_left', exists_eq_left, true_and, and_true, Bool.true_eq_false, Prod.mk.injEq, decide_eq_true_eq, and_assoc, exists_and_left, at3_0, at3_1, at3_2, ix3_0, ix3_2, Nat.reduceAdd, PyData.int.injEq, PyData.bool.injEq, Int.toNat_natCast, b10_5, f3, i3]
  refine run_pure (a := (n, b)) rfl h8 ?_
  simp only [xss, xs, ev, evA, evT, evR, evO, evF, evI, cVar, cBin, cIdx, cB1, cIsi, cCall, cCio, cCnw, tru, vv, toVal, cv, asD, setAt, putT, putTs, bindT, setAll, augW, binW, cmpW, b1W, b2W, truth, seqOf, retW, wipeE, restore, keepI, retOk, fin, endsOf, List.getElem?_cons_zero, List.getElem?_cons_succ, List.getD_cons_zero, List.getD_cons_succ, List.set_cons_zero, List.set_cons_succ, List.length_cons, List.length_nil, List.nil_append, List.cons_append, reduceIte, isi_ii, isi_ib, isi_tt, eqW_int, Bool.not_true, Bool.not_false, Bool.false_eq_true, Option.some.injEq, exists_eq_left', exists_eq_left, true_and, and_true, Bool.true_eq_false, Prod.mk.injEq, decide_eq_true_eq, and_assoc, exists_and_left, at3_0, at3_1, at3_2, ix3_0, ix3_2, Nat.reduceAdd, PyData.int.injEq, PyData.bool.injEq, Int.toNat_natCast, b10_4]
  simp only [xss, xs, ev, evA, evT, evR, evO, evF, evI, cVar, cBin, cIdx, cB1, cIsi, cCall, cCio, cCnw, tru, vv, toVal, cv, asD, setAt, putT, putTs, bindT, setAll, augW, binW, cmpW, b1W, b2W, truth, seqOf, retW, wipeE, restore, keepI, retOk, fin, endsOf, List.getElem?_cons_zero, List.getElem?_cons_succ, List.getD_cons_zero, List.getD_cons_succ, List.set_cons_zero, List.set_cons_succ, List.length_cons, List.length_nil, List.nil_append, List.cons_append, reduceIte, isi_ii, isi_ib, isi_tt, eqW_int, Bool.not_true, Bool.not_false, Bool.false_eq_true, Option.some.injEq, exists_eq_left', exists_eq_left, true_and, and_true, Bool.true_eq_false, Prod.mk.injEq, decide_eq_true_eq, and_assoc, exists_and_left, at3_0, at3_1, at3_2, ix3_0, ix3_2, Nat.reduceAdd, PyData.int.injEq, PyData.bool.injEq, Int.toNat_natCast, b10_3]
  refine forL_inv (fun i ρ => ∃ x y z, ρ = [some (.im (.tuple (T n b))), some (.im (.int (S i fun p => if b p = true then onesF n b p else ((2 ^ n : Nat) : Int) - onesF n b p))), x, y, z]) ⟨none, none, none, rfl⟩ (fun i x ρ k hx h hk => ?_) fun ρ h => ?_
  · obtain ⟨x1, y1, z1, rfl⟩ := h
    obtain ⟨y, hy, rfl⟩ := enum_at hx
    obtain ⟨hi, rfl⟩ := T_get hy
    simp only [xss, xs, ev, evA, evT, evR, evO, evF, evI, cVar, cBin, cIdx, cB1, cIsi, cCall, cCio, cCnw, tru, vv, toVal, cv, asD, setAt, putT, putTs, bindT, setAll, augW, binW, cmpW, b1W, b2W, truth, seqOf, retW, wipeE, restore, keepI, retOk, fin, endsOf, List.getElem?_cons_zero, List.getElem?_cons_succ, List.getD_cons_zero, List.getD_cons_succ, List.set_cons_zero, List.set_cons_succ, List.length_cons, List.length_nil, List.nil_append, List.cons_append, reduceIte, isi_ii, isi_ib, isi_tt, eqW_int, Bool.not_true, Bool.not_false, Bool.false_eq_true, Option.some.injEq, exists_eq_left', exists_eq_left, true_and, and_true, Bool.true_eq_false, Prod.mk.injEq, decide_eq_true_eq, and_assoc, exists_and_left, at3_0, at3_1, at3_2, ix3_0, ix3_2, Nat.reduceAdd, PyData.int.injEq, PyData.bool.injEq, Int.toNat_natCast, b10_1, f9, i9]
    refine run_pure (a := ((n, b), i)) rfl ⟨h8, hi⟩ ?_
    simp only [xss, xs, ev, evA, evT, evR, evO, evF, evI, cVar, cBin, cIdx, cB1, cIsi, cCall, cCio, cCnw, tru, vv, toVal, cv, asD, setAt, putT, putTs, bindT, setAll, augW, binW, cmpW, b1W, b2W, truth, seqOf, retW, wipeE, restore, keepI, retOk, fin, endsOf, List.getElem?_cons_zero, List.getElem?_cons_succ, List.getD_cons_zero, List.getD_cons_succ, List.set_cons_zero, List.set_cons_succ, List.length_cons, List.length_nil, List.nil_append, List.cons_append, reduceIte, isi_ii, isi_ib, isi_tt, eqW_int, Bool.not_true, Bool.not_false, Bool.false_eq_true, Option.some.injEq, exists_eq_left', exists_eq_left, true_and, and_true, Bool.true_eq_false, Prod.mk.injEq, decide_eq_true_eq, and_assoc, exists_and_left, at3_0, at3_1, at3_2, ix3_0, ix3_2, Nat.reduceAdd, PyData.int.injEq, PyData.bool.injEq, Int.toNat_natCast, b10_0, len_T]
    cases q : b i
    · rw [if_neg (by decide)]
      exact hk _ ⟨_, _, _, by rw [S_succ, q, if_neg Bool.false_ne_true]⟩
    · rw [if_pos (by decide)]
      exact hk _ ⟨_, _, _, by rw [S_succ, q, if_pos rfl]⟩
  · obtain ⟨x1, y1, z1, rfl⟩ := h
    simp only [xss, xs, ev, evA, evT, evR, evO, evF, evI, cVar, cBin, cIdx, cB1, cIsi, cCall, cCio, cCnw, tru, vv, toVal, cv, asD, setAt, putT, putTs, bindT, setAll, augW, binW, cmpW, b1W, b2W, truth, seqOf, retW, wipeE, restore, keepI, retOk, fin, endsOf, List.getElem?_cons_zero, List.getElem?_cons_succ, List.getD_cons_zero, List.getD_cons_succ, List.set_cons_zero, List.set_cons_succ, List.length_cons, List.length_nil, List.nil_append, List.cons_append, reduceIte, isi_ii, isi_ib, isi_tt, eqW_int, Bool.not_true, Bool.not_false, Bool.false_eq_true, Option.some.injEq, exists_eq_left', exists_eq_left, true_and, and_true, Bool.true_eq_false, Prod.mk.injEq, decide_eq_true_eq, and_assoc, exists_and_left, at3_0, at3_1, at3_2, ix3_0, ix3_2, Nat.reduceAdd, PyData.int.injEq, PyData.bool.injEq, Int.toNat_natCast, b10_2]
    exact hr _ _ (ret_v (by rw [List.length_mapIdx, len_T, ← let_ones]))
theorem ok11 : BodyOk G Γ 4 b11 s11 := by
  refine body_pure fun a ha p E hn hr => ?_
  obtain ⟨n, b⟩ := a
  have h8 : n ≤ 8 := ha
  have h9 := two8 h8
  have h0n : (0 : Int) ≤ ((2 ^ n : Nat) : Int) := Int.natCast_nonneg _
  show xss G Γ b11_5 [some (.im (.tuple (T n b))), none, none, none] E
  simp only [xss, xs, ev, evA, evT, evR, evO, evF, evI, cVar, cBin, cIdx, cB1, cIsi, cCall, cCio, cCnw, tru, vv, toVal, cv, asD, setAt, putT, putTs, bindT, setAll, augW, binW, cmpW, b1W, b2W, truth, seqOf, retW, wipeE, restore, keepI, retOk, fin, endsOf, List.getElem?_cons_zero, List.getElem?_cons_succ, List.getD_cons_zero, List.getD_cons_succ, List.set_cons_zero, List.set_cons_succ, List.length_cons, List.length_nil, List.nil_append, List.cons_append, reduceIte, isi_ii, isi_ib, isi_tt, eqW_int, Bool.not_true, Bool.not_false, Bool.false_eq_true, Option.some.injEq, exists_eq_left', exists_eq_left, true_and, and_true, Bool.true_eq_false, Prod.mk.injEq, decide_eq_true_eq, and_assoc, exists_and_left, at3_0, at3_1, at3_2, ix3_0, ix3_2, Nat.reduceAdd, PyData.int.injEq, PyData.bool.injEq, Int.toNat_natCast, b11_5, f3, i3]
  refine run_pure (a := (n, b)) rfl h8 ?_
  simp only [xss, xs, ev, evA, evT, evR, evO, evF, evI, cVar, cBin, cIdx, cB1, cIsi, cCall, cCio, cCnw, tru, vv, toVal, cv, asD, setAt, putT, putTs, bindT, setAll, augW, binW, cmpW, b1W, b2W, truth, seqOf, retW, wipeE, restore, keepI, retOk, fin, endsOf, List.getElem?_cons_zero, List.getElem?_cons_succ, List.getD_cons_zero, List.getD_cons_succ, List.set_cons_zero, List.set_cons_succ, List.length_cons, List.length_nil, List.nil_append, List.cons_append, reduceIte, isi_ii, isi_ib, isi_tt, eqW_int, Bool.not_true, Bool.not_false, Bool.false_eq_true, Option.some.injEq, exists_eq_left', exists_eq_left, true_and, and_true, Bool.true_eq_false, Prod.mk.injEq, decide_eq_true_eq, and_assoc, exists_and_left, at3_0, at3_1, at3_2, ix3_0, ix3_2, Nat.reduceAdd, PyData.int.injEq, PyData.bool.injEq, Int.toNat_natCast, b11_4]
  refine ⟨by decide, fun q => ?_⟩
  simp only [xss, xs, ev, evA, evT, evR, evO, evF, evI, cVar, cBin, cIdx, cB1, cIsi, cCall, cCio, cCnw, tru, vv, toVal, cv, asD, setAt, putT, putTs, bindT, setAll, augW, binW, cmpW, b1W, b2W, truth, seqOf, retW, wipeE, restore, keepI, retOk, fin, endsOf, List.getElem?_cons_zero, List.getElem?_cons_succ, List.getD_cons_zero, List.getD_cons_succ, List.set_cons_zero, List.set_cons_succ, List.length_cons, List.length_nil, List.nil_append, List.cons_append, reduceIte, isi_ii, isi_ib, isi_tt, eqW_int, Bool.not_true, Bool.not_false, Bool.false_eq_true, Option.some.injEq, exists_eq_left', exists_eq_left, true_and, and_true, Bool.true_eq_false, Prod.mk.injEq, decide_eq_true_eq, and_assoc, exists_and_left, at3_0, at3_1, at3_2, ix3_0, ix3_2, Nat.reduceAdd, PyData.int.injEq, PyData.bool.injEq, Int.toNat_natCast, b11_3, len_T]
  refine ⟨by omega, by omega, ?_⟩
  refine forL_inv (fun i ρ => ∃ x y, ρ = [some (.im (.tuple (T n b))), some (.ow q ((List.range i).map (mendD n b))), x, y]) ⟨none, none, rfl⟩ (fun i x ρ k hx h hk => ?_) fun ρ h => ?_
  · obtain ⟨x1, y1, rfl⟩ := h
    obtain ⟨hl, e⟩ := List.getElem?_eq_some_iff.mp hx
    simp at hl e
    subst e
    simp only [xss, xs, ev, evA, evT, evR, evO, evF, evI, cVar, cBin, cIdx, cB1, cIsi, cCall, cCio, cCnw, tru, vv, toVal, cv, asD, setAt, putT, putTs, bindT, setAll, augW, binW, cmpW, b1W, b2W, truth, seqOf, retW, wipeE, restore, keepI, retOk, fin, endsOf, List.getElem?_cons_zero, List.getElem?_cons_succ, List.getD_cons_zero, List.getD_cons_succ, List.set_cons_zero, List.set_cons_succ, List.length_cons, List.length_nil, List.nil_append, List.cons_append, reduceIte, isi_ii, isi_ib, isi_tt, eqW_int, Bool.not_true, Bool.not_false, Bool.false_eq_true, Option.some.injEq, exists_eq_left', exists_eq_left, true_and, and_true, Bool.true_eq_false, Prod.mk.injEq, decide_eq_true_eq, and_assoc, exists_and_left, at3_0, at3_1, at3_2, ix3_0, ix3_2, Nat.reduceAdd, PyData.int.injEq, PyData.bool.injEq, Int.toNat_natCast, b11_1, f9, i9]
    refine run_pure (a := ((n, b), i)) rfl ⟨h8, hl⟩ ?_
    simp only [xss, xs, ev, evA, evT, evR, evO, evF, evI, cVar, cBin, cIdx, cB1, cIsi, cCall, cCio, cCnw, tru, vv, toVal, cv, asD, setAt, putT, putTs, bindT, setAll, augW, binW, cmpW, b1W, b2W, truth, seqOf, retW, wipeE, restore, keepI, retOk, fin, endsOf, List.getElem?_cons_zero, List.getElem?_cons_succ, List.getD_cons_zero, List.getD_cons_succ, List.set_cons_zero, List.set_cons_succ, List.length_cons, List.length_nil, List.nil_append, List.cons_append, reduceIte, isi_ii, isi_ib, isi_tt, eqW_int, Bool.not_true, Bool.not_false, Bool.false_eq_true, Option.some.injEq, exists_eq_left', exists_eq_left, true_and, and_true, Bool.true_eq_false, Prod.mk.injEq, decide_eq_true_eq, and_assoc, exists_and_left, at3_0, at3_1, at3_2, ix3_0, ix3_2, Nat.reduceAdd, PyData.int.injEq, PyData.bool.injEq, Int.toNat_natCast]
    refine ⟨mul_l (by decide) (by decide), ?_⟩
    simp only [xss, xs, ev, evA, evT, evR, evO, evF, evI, cVar, cBin, cIdx, cB1, cIsi, cCall, cCio, cCnw, tru, vv, toVal, cv, asD, setAt, putT, putTs, bindT, setAll, augW, binW, cmpW, b1W, b2W, truth, seqOf, retW, wipeE, restore, keepI, retOk, fin, endsOf, List.getElem?_cons_zero, List.getElem?_cons_succ, List.getD_cons_zero, List.getD_cons_succ, List.set_cons_zero, List.set_cons_succ, List.length_cons, List.length_nil, List.nil_append, List.cons_append, reduceIte, isi_ii, isi_ib, isi_tt, eqW_int, Bool.not_true, Bool.not_false, Bool.false_eq_true, Option.some.injEq, exists_eq_left', exists_eq_left, true_and, and_true, Bool.true_eq_false, Prod.mk.injEq, decide_eq_true_eq, and_assoc, exists_and_left, at3_0, at3_1, at3_2, ix3_0, ix3_2, Nat.reduceAdd, PyData.int.injEq, PyData.bool.injEq, Int.toNat_natCast, b11_0, len_T]
    have out : (List.range (i + 1)).map (mendD n b) = (List.range i).map (mendD n b) ++ [mendD n b i] := by
      rw [List.range_succ, List.map_append]
      rfl
    by_cases h1 : 2 * onesF n b i = ((2 ^ n : Nat) : Int)
    · rw [if_pos h1]
      have e1 : mendD n b i = .none := by unfold mendD; rw [if_pos h1]
      rw [e1] at out
      rw [← out]
      exact ⟨by simp; omega, hk _ ⟨_, _, rfl⟩⟩
    · rw [if_neg h1]
      have e1 : mendD n b i = .int (if ((2 ^ n : Nat) : Int) < 2 * onesF n b i then 1 else 0) := by unfold mendD; rw [if_neg h1]
      rw [e1] at out
      rw [← out]
      exact ⟨by simp; omega, hk _ ⟨_, _, rfl⟩⟩
  · obtain ⟨x1, y1, rfl⟩ := h
    simp only [xss, xs, ev, evA, evT, evR, evO, evF, evI, cVar, cBin, cIdx, cB1, cIsi, cCall, cCio, cCnw, tru, vv, toVal, cv, asD, setAt, putT, putTs, bindT, setAll, augW, binW, cmpW, b1W, b2W, truth, seqOf, retW, wipeE, restore, keepI, retOk, fin, endsOf, List.getElem?_cons_zero, List.getElem?_cons_succ, List.getD_cons_zero, List.getD_cons_succ, List.set_cons_zero, List.set_cons_succ, List.length_cons, List.length_nil, List.nil_append, List.cons_append, reduceIte, isi_ii, isi_ib, isi_tt, eqW_int, Bool.not_true, Bool.not_false, Bool.false_eq_true, Option.some.injEq, exists_eq_left', exists_eq_left, true_and, and_true, Bool.true_eq_false, Prod.mk.injEq, decide_eq_true_eq, and_assoc, exists_and_left, at3_0, at3_1, at3_2, ix3_0, ix3_2, Nat.reduceAdd, PyData.int.injEq, PyData.bool.injEq, Int.toNat_natCast, b11_2]
    exact hr _ _ (ret_vt (by simp))
theorem ok12 : BodyOk G Γ 2 b12 s12 := by
  refine body_pure fun a ha p E hn hr => ?_
  obtain ⟨⟨n, b⟩, m⟩ := a
  obtain ⟨h8, hm⟩ : n ≤ 8 ∧ m ≤ 40 := ha
  have h9 := two8 h8
  have h0n : (0 : Int) ≤ ((2 ^ n : Nat) : Int) := Int.natCast_nonneg _
  show xss G Γ b12_2 [some (.im (.tuple (T n b))), some (.im (.int (m : Int)))] E
  simp only [xss, xs, ev, evA, evT, evR, evO, evF, evI, cVar, cBin, cIdx, cB1, cIsi, cCall, cCio, cCnw, tru, vv, toVal, cv, asD, setAt, putT, putTs, bindT, setAll, augW, binW, cmpW, b1W, b2W, truth, seqOf, retW, wipeE, restore, keepI, retOk, fin, endsOf, List.getElem?_cons_zero, List.getElem?_cons_succ, List.getD_cons_zero, List.getD_cons_succ, List.set_cons_zero, List.set_cons_succ, List.length_cons, List.length_nil, List.nil_append, List.cons_append, reduceIte, isi_ii, isi_ib, isi_tt, eqW_int, Bool.not_true, Bool.not_false, Bool.false_eq_true, Option.some.injEq, exists_eq_left', exists_eq_left, true_and, and_true, Bool.true_eq_false, Prod.mk.injEq, decide_eq_true_eq, and_assoc, exists_and_left, at3_0, at3_1, at3_2, ix3_0, ix3_2, Nat.reduceAdd, PyData.int.injEq, PyData.bool.injEq, Int.toNat_natCast, b12_2, f3, i3]
  refine run_pure (a := (n, b)) rfl h8 ?_
  simp only [xss, xs, ev, evA, evT, evR, evO, evF, evI, cVar, cBin, cIdx, cB1, cIsi, cCall, cCio, cCnw, tru, vv, toVal, cv, asD, setAt, putT, putTs, bindT, setAll, augW, binW, cmpW, b1W, b2W, truth, seqOf, retW, wipeE, restore, keepI, retOk, fin, endsOf, List.getElem?_cons_zero, List.getElem?_cons_succ, List.getD_cons_zero, List.getD_cons_succ, List.set_cons_zero, List.set_cons_succ, List.length_cons, List.length_nil, List.nil_append, List.cons_append, reduceIte, isi_ii, isi_ib, isi_tt, eqW_int, Bool.not_true, Bool.not_false, Bool.false_eq_true, Option.some.injEq, exists_eq_left', exists_eq_left, true_and, and_true, Bool.true_eq_false, Prod.mk.injEq, decide_eq_true_eq, and_assoc, exists_and_left, at3_0, at3_1, at3_2, ix3_0, ix3_2, Nat.reduceAdd, PyData.int.injEq, PyData.bool.injEq, Int.toNat_natCast, b12_1, gc1, f4, i4]
  refine run_pure (a := ((m : Int), 40 + 1)) rfl ⟨by show (0 : Int) ≤ m; omega, by show (m : Int) < 40 + 1; omega⟩ ?_
  simp only [xss, xs, ev, evA, evT, evR, evO, evF, evI, cVar, cBin, cIdx, cB1, cIsi, cCall, cCio, cCnw, tru, vv, toVal, cv, asD, setAt, putT, putTs, bindT, setAll, augW, binW, cmpW, b1W, b2W, truth, seqOf, retW, wipeE, restore, keepI, retOk, fin, endsOf, List.getElem?_cons_zero, List.getElem?_cons_succ, List.getD_cons_zero, List.getD_cons_succ, List.set_cons_zero, List.set_cons_succ, List.length_cons, List.length_nil, List.nil_append, List.cons_append, reduceIte, isi_ii, isi_ib, isi_tt, eqW_int, Bool.not_true, Bool.not_false, Bool.false_eq_true, Option.some.injEq, exists_eq_left', exists_eq_left, true_and, and_true, Bool.true_eq_false, Prod.mk.injEq, decide_eq_true_eq, and_assoc, exists_and_left, at3_0, at3_1, at3_2, ix3_0, ix3_2, Nat.reduceAdd, PyData.int.injEq, PyData.bool.injEq, Int.toNat_natCast, b12_0, f10, i10, f2, i2, len_T]
  refine run_pure (a := (n, b)) rfl h8 ?_
  simp only [xss, xs, ev, evA, evT, evR, evO, evF, evI, cVar, cBin, cIdx, cB1, cIsi, cCall, cCio, cCnw, tru, vv, toVal, cv, asD, setAt, putT, putTs, bindT, setAll, augW, binW, cmpW, b1W, b2W, truth, seqOf, retW, wipeE, restore, keepI, retOk, fin, endsOf, List.getElem?_cons_zero, List.getElem?_cons_succ, List.getD_cons_zero, List.getD_cons_succ, List.set_cons_zero, List.set_cons_succ, List.length_cons, List.length_nil, List.nil_append, List.cons_append, reduceIte, isi_ii, isi_ib, isi_tt, eqW_int, Bool.not_true, Bool.not_false, Bool.false_eq_true, Option.some.injEq, exists_eq_left', exists_eq_left, true_and, and_true, Bool.true_eq_false, Prod.mk.injEq, decide_eq_true_eq, and_assoc, exists_and_left, at3_0, at3_1, at3_2, ix3_0, ix3_2, Nat.reduceAdd, PyData.int.injEq, PyData.bool.injEq, Int.toNat_natCast]
  have lr := let_range n b
  have sr := sq_range h8
  refine run_pure (a := (letF n b, m)) rfl ⟨lr.1, by omega, by omega⟩ ?_
  simp only [xss, xs, ev, evA, evT, evR, evO, evF, evI, cVar, cBin, cIdx, cB1, cIsi, cCall, cCio, cCnw, tru, vv, toVal, cv, asD, setAt, putT, putTs, bindT, setAll, augW, binW, cmpW, b1W, b2W, truth, seqOf, retW, wipeE, restore, keepI, retOk, fin, endsOf, List.getElem?_cons_zero, List.getElem?_cons_succ, List.getD_cons_zero, List.getD_cons_succ, List.set_cons_zero, List.set_cons_succ, List.length_cons, List.length_nil, List.nil_append, List.cons_append, reduceIte, isi_ii, isi_ib, isi_tt, eqW_int, Bool.not_true, Bool.not_false, Bool.false_eq_true, Option.some.injEq, exists_eq_left', exists_eq_left, true_and, and_true, Bool.true_eq_false, Prod.mk.injEq, decide_eq_true_eq, and_assoc, exists_and_left, at3_0, at3_1, at3_2, ix3_0, ix3_2, Nat.reduceAdd, PyData.int.injEq, PyData.bool.injEq, Int.toNat_natCast]
  refine ⟨mul_l (by omega) (by omega), ?_⟩
  refine run_pure (a := (((2 ^ n : Nat) : Int) * ((2 ^ n : Nat) : Int), m)) rfl ⟨sr.1, by omega, by omega⟩ ?_
  simp only [xss, xs, ev, evA, evT, evR, evO, evF, evI, cVar, cBin, cIdx, cB1, cIsi, cCall, cCio, cCnw, tru, vv, toVal, cv, asD, setAt, putT, putTs, bindT, setAll, augW, binW, cmpW, b1W, b2W, truth, seqOf, retW, wipeE, restore, keepI, retOk, fin, endsOf, List.getElem?_cons_zero, List.getElem?_cons_succ, List.getD_cons_zero, List.getD_cons_succ, List.set_cons_zero, List.set_cons_succ, List.length_cons, List.length_nil, List.nil_append, List.cons_append, reduceIte, isi_ii, isi_ib, isi_tt, eqW_int, Bool.not_true, Bool.not_false, Bool.false_eq_true, Option.some.injEq, exists_eq_left', exists_eq_left, true_and, and_true, Bool.true_eq_false, Prod.mk.injEq, decide_eq_true_eq, and_assoc, exists_and_left, at3_0, at3_1, at3_2, ix3_0, ix3_2, Nat.reduceAdd, PyData.int.injEq, PyData.bool.injEq, Int.toNat_natCast]
  exact ⟨by decide, hr _ _ (ret_v rfl)⟩
theorem shr_nat (n i : Nat) : (n : Int) / 2 ^ i = ((n / 2 ^ i : Nat) : Int) := by
  rw [Int.natCast_ediv, Int.natCast_pow]
  rfl
theorem shl_nat (i : Nat) : (1 : Int) * 2 ^ i = ((2 ^ i : Nat) : Int) := by
  rw [Int.one_mul, Int.natCast_pow]
  rfl
theorem add_bit {f : Int} {a b : Bool} (h : f % 2 = b2i a) : (f + b2i b) % 2 = b2i (a ^^ b) := by
  cases a <;> cases b <;> simp [b2i] at h ⊢ <;> omega
theorem ok18 : BodyOk G Γ 3 b18 s18 := by
  refine body_pure fun n hn9 p E hn hr => ?_
  have hn9 : n < 2 ^ 9 := hn9
  show xss G Γ b18_3 [some (.im (.int (n : Int))), none, none] E
  simp only [xss, xs, ev, evA, evT, evR, evO, evF, evI, cVar, cBin, cIdx, cB1, cIsi, cCall, cCio, cCnw, tru, vv, toVal, cv, asD, setAt, putT, putTs, bindT, setAll, augW, binW, cmpW, b1W, b2W, truth, seqOf, retW, wipeE, restore, keepI, retOk, fin, endsOf, List.getElem?_cons_zero, List.getElem?_cons_succ, List.getD_cons_zero, List.getD_cons_succ, List.set_cons_zero, List.set_cons_succ, List.length_cons, List.length_nil, List.nil_append, List.cons_append, reduceIte, isi_ii, isi_ib, isi_tt, eqW_int, Bool.not_true, Bool.not_false, Bool.false_eq_true, Option.some.injEq, exists_eq_left', exists_eq_left, true_and, and_true, Bool.true_eq_false, Prod.mk.injEq, decide_eq_true_eq, and_assoc, exists_and_left, at3_0, at3_1, at3_2, ix3_0, ix3_2, Nat.reduceAdd, PyData.int.injEq, PyData.bool.injEq, Int.toNat_natCast, b18_3]
  simp only [xss, xs, ev, evA, evT, evR, evO, evF, evI, cVar, cBin, cIdx, cB1, cIsi, cCall, cCio, cCnw, tru, vv, toVal, cv, asD, setAt, putT, putTs, bindT, setAll, augW, binW, cmpW, b1W, b2W, truth, seqOf, retW, wipeE, restore, keepI, retOk, fin, endsOf, List.getElem?_cons_zero, List.getElem?_cons_succ, List.getD_cons_zero, List.getD_cons_succ, List.set_cons_zero, List.set_cons_succ, List.length_cons, List.length_nil, List.nil_append, List.cons_append, reduceIte, isi_ii, isi_ib, isi_tt, eqW_int, Bool.not_true, Bool.not_false, Bool.false_eq_true, Option.some.injEq, exists_eq_left', exists_eq_left, true_and, and_true, Bool.true_eq_false, Prod.mk.injEq, decide_eq_true_eq, and_assoc, exists_and_left, at3_0, at3_1, at3_2, ix3_0, ix3_2, Nat.reduceAdd, PyData.int.injEq, PyData.bool.injEq, Int.toNat_natCast, b18_2]
  refine ⟨by decide, by decide, ?_⟩
  refine forL_inv (fun i ρ => ∃ f l, ρ = [some (.im (.int (n : Int))), some (.im (.int f)), l] ∧ f % 2 = b2i (par i n)) ⟨0, none, rfl, rfl⟩ (fun i x ρ k hx h hk => ?_) fun ρ h => ?_
  · obtain ⟨f, l, rfl, hf⟩ := h
    obtain ⟨hl, e⟩ := List.getElem?_eq_some_iff.mp hx
    simp at hl e
    subst e
    simp only [xss, xs, ev, evA, evT, evR, evO, evF, evI, cVar, cBin, cIdx, cB1, cIsi, cCall, cCio, cCnw, tru, vv, toVal, cv, asD, setAt, putT, putTs, bindT, setAll, augW, binW, cmpW, b1W, b2W, truth, seqOf, retW, wipeE, restore, keepI, retOk, fin, endsOf, List.getElem?_cons_zero, List.getElem?_cons_succ, List.getD_cons_zero, List.getD_cons_succ, List.set_cons_zero, List.set_cons_succ, List.length_cons, List.length_nil, List.nil_append, List.cons_append, reduceIte, isi_ii, isi_ib, isi_tt, eqW_int, Bool.not_true, Bool.not_false, Bool.false_eq_true, Option.some.injEq, exists_eq_left', exists_eq_left, true_and, and_true, Bool.true_eq_false, Prod.mk.injEq, decide_eq_true_eq, and_assoc, exists_and_left, at3_0, at3_1, at3_2, ix3_0, ix3_2, Nat.reduceAdd, PyData.int.injEq, PyData.bool.injEq, Int.toNat_natCast, b18_0]
    rw [shr_nat, PyProof.Rows.bitAnd_m1, bit_mod]
    exact ⟨by omega, hk _ ⟨_, _, rfl, add_bit hf⟩⟩
  · obtain ⟨f, l, rfl, hf⟩ := h
    simp only [xss, xs, ev, evA, evT, evR, evO, evF, evI, cVar, cBin, cIdx, cB1, cIsi, cCall, cCio, cCnw, tru, vv, toVal, cv, asD, setAt, putT, putTs, bindT, setAll, augW, binW, cmpW, b1W, b2W, truth, seqOf, retW, wipeE, restore, keepI, retOk, fin, endsOf, List.getElem?_cons_zero, List.getElem?_cons_succ, List.getD_cons_zero, List.getD_cons_succ, List.set_cons_zero, List.set_cons_succ, List.length_cons, List.length_nil, List.nil_append, List.cons_append, reduceIte, isi_ii, isi_ib, isi_tt, eqW_int, Bool.not_true, Bool.not_false, Bool.false_eq_true, Option.some.injEq, exists_eq_left', exists_eq_left, true_and, and_true, Bool.true_eq_false, Prod.mk.injEq, decide_eq_true_eq, and_assoc, exists_and_left, at3_0, at3_1, at3_2, ix3_0, ix3_2, Nat.reduceAdd, PyData.int.injEq, PyData.bool.injEq, Int.toNat_natCast, b18_1]
    have hf : f % 2 = b2i (par 9 n) := by simpa using hf
    exact ⟨by decide, hr _ _ (ret_v (by rw [hf]))⟩
theorem ok19 : BodyOk G Γ 3 b19 s19 := by
  refine body_pure fun a ha p E hn hr => ?_
  obtain ⟨m, k⟩ := a
  obtain ⟨h1, h2⟩ : m ≤ 8 ∧ k < 2 ^ m := ha
  have h9 := two8 h1
  have h0n : (0 : Int) ≤ ((2 ^ m : Nat) : Int) := Int.natCast_nonneg _
  show xss G Γ b19_0 [some (.im (.int (m : Int))), some (.im (.int (k : Int))), none] E
  simp only [xss, xs, ev, evA, evT, evR, evO, evF, evI, cVar, cBin, cIdx, cB1, cIsi, cCall, cCio, cCnw, tru, vv, toVal, cv, asD, setAt, putT, putTs, bindT, setAll, augW, binW, cmpW, b1W, b2W, truth, seqOf, retW, wipeE, restore, keepI, retOk, fin, endsOf, List.getElem?_cons_zero, List.getElem?_cons_succ, List.getD_cons_zero, List.getD_cons_succ, List.set_cons_zero, List.set_cons_succ, List.length_cons, List.length_nil, List.nil_append, List.cons_append, reduceIte, isi_ii, isi_ib, isi_tt, eqW_int, Bool.not_true, Bool.not_false, Bool.false_eq_true, Option.some.injEq, exists_eq_left', exists_eq_left, true_and, and_true, Bool.true_eq_false, Prod.mk.injEq, decide_eq_true_eq, and_assoc, exists_and_left, at3_0, at3_1, at3_2, ix3_0, ix3_2, Nat.reduceAdd, PyData.int.injEq, PyData.bool.injEq, Int.toNat_natCast, b19_0]
  rw [shl_nat]
  refine ⟨⟨by omega, by omega, by decide⟩, by omega, by omega, ?_⟩
  rw [Int.toNat_natCast]
  refine ⟨by simp; omega, fun q => ?_⟩
  refine compL_rng (fun i => .int (b2i (par 9 (i &&& k)))) (fun i hi kk acc hk => ?_) ?_
  · simp only [xss, xs, ev, evA, evT, evR, evO, evF, evI, cVar, cBin, cIdx, cB1, cIsi, cCall, cCio, cCnw, tru, vv, toVal, cv, asD, setAt, putT, putTs, bindT, setAll, augW, binW, cmpW, b1W, b2W, truth, seqOf, retW, wipeE, restore, keepI, retOk, fin, endsOf, List.getElem?_cons_zero, List.getElem?_cons_succ, List.getD_cons_zero, List.getD_cons_succ, List.set_cons_zero, List.set_cons_succ, List.length_cons, List.length_nil, List.nil_append, List.cons_append, reduceIte, isi_ii, isi_ib, isi_tt, eqW_int, Bool.not_true, Bool.not_false, Bool.false_eq_true, Option.some.injEq, exists_eq_left', exists_eq_left, true_and, and_true, Bool.true_eq_false, Prod.mk.injEq, decide_eq_true_eq, and_assoc, exists_and_left, at3_0, at3_1, at3_2, ix3_0, ix3_2, Nat.reduceAdd, PyData.int.injEq, PyData.bool.injEq, Int.toNat_natCast, f18, i18]
    rw [ba_nat]
    refine run_pure (a := i &&& k) rfl (Nat.lt_of_le_of_lt Nat.and_le_left (by show i < 512; omega)) ?_
    exact hk
  · exact hr _ _ (ret_vt (by rw [rng_ints]; rfl))
end K13

set_option Elab.async false
set_option linter.all false
set_option maxRecDepth 100000
namespace K13
open PySem L2 VL BF

theorem ok20 : BodyOk G Γ 8 b20 s20 := by
  refine body_pure fun a ha p E hn hr => ?_
  obtain ⟨n, b⟩ := a
  have h8 : n ≤ 8 := ha
  have h9 := two8 h8
  have h0n : (0 : Int) ≤ ((2 ^ n : Nat) : Int) := Int.natCast_nonneg _
  show xss G Γ b20_8 [some (.im (.tuple (T n b))), none, none, none, none, none, none, none] E
  simp only [xss, xs, ev, evA, evT, evR, evO, evF, evI, cVar, cBin, cIdx, cB1, cIsi, cCall, cCio, cCnw, tru, vv, toVal, cv, asD, setAt, putT, putTs, bindT, setAll, augW, binW, cmpW, b1W, b2W, truth, seqOf, retW, wipeE, restore, keepI, retOk, fin, endsOf, List.getElem?_cons_zero, List.getElem?_cons_succ, List.getD_cons_zero, List.getD_cons_succ, List.set_cons_zero, List.set_cons_succ, List.length_cons, List.length_nil, List.nil_append, List.cons_append, reduceIte, isi_ii, isi_ib, isi_tt, eqW_int, Bool.not_true, Bool.not_false, Bool.false_eq_true, Option.some.injEq, exists_eq_left', exists_eq_left, true_and, and_true, Bool.true_eq_false, Prod.mk.injEq, decide_eq_true_eq, and_assoc, exists_and_left, at3_0, at3_1, at3_2, ix3_0, ix3_2, Nat.reduceAdd, PyData.int.injEq, PyData.bool.injEq, Int.toNat_natCast, b20_8, len_T]
  refine ⟨by omega, fun q => ?_⟩
  refine compL_T (fun x => PyData.int (Bk (fun x => sg (b x)) 0 x)) (fun x hx k acc hk => ?_) ?_
  · simp only [xss, xs, ev, evA, evT, evR, evO, evF, evI, cVar, cBin, cIdx, cB1, cIsi, cCall, cCio, cCnw, tru, vv, toVal, cv, asD, setAt, putT, putTs, bindT, setAll, augW, binW, cmpW, b1W, b2W, truth, seqOf, retW, wipeE, restore, keepI, retOk, fin, endsOf, List.getElem?_cons_zero, List.getElem?_cons_succ, List.getD_cons_zero, List.getD_cons_succ, List.set_cons_zero, List.set_cons_succ, List.length_cons, List.length_nil, List.nil_append, List.cons_append, reduceIte, isi_ii, isi_ib, isi_tt, eqW_int, Bool.not_true, Bool.not_false, Bool.false_eq_true, Option.some.injEq, exists_eq_left', exists_eq_left, true_and, and_true, Bool.true_eq_false, Prod.mk.injEq, decide_eq_true_eq, and_assoc, exists_and_left, at3_0, at3_1, at3_2, ix3_0, ix3_2, Nat.reduceAdd, PyData.int.injEq, PyData.bool.injEq, Int.toNat_natCast]
    exact ⟨mul_l (by decide) (by decide), by rw [one_two]; exact hk⟩
  rw [rng_ints]
  simp only [xss, xs, ev, evA, evT, evR, evO, evF, evI, cVar, cBin, cIdx, cB1, cIsi, cCall, cCio, cCnw, tru, vv, toVal, cv, asD, setAt, putT, putTs, bindT, setAll, augW, binW, cmpW, b1W, b2W, truth, seqOf, retW, wipeE, restore, keepI, retOk, fin, endsOf, List.getElem?_cons_zero, List.getElem?_cons_succ, List.getD_cons_zero, List.getD_cons_succ, List.set_cons_zero, List.set_cons_succ, List.length_cons, List.length_nil, List.nil_append, List.cons_append, reduceIte, isi_ii, isi_ib, isi_tt, eqW_int, Bool.not_true, Bool.not_false, Bool.false_eq_true, Option.some.injEq, exists_eq_left', exists_eq_left, true_and, and_true, Bool.true_eq_false, Prod.mk.injEq, decide_eq_true_eq, and_assoc, exists_and_left, at3_0, at3_1, at3_2, ix3_0, ix3_2, Nat.reduceAdd, PyData.int.injEq, PyData.bool.injEq, Int.toNat_natCast, b20_7]
  refine ⟨by decide, by decide, ?_⟩
  refine forL_inv (fun i ρ => ∃ l4 l5 l6, ∃ s : SV, (s = .im (.list (intsD ((List.range (2 ^ n)).map (Bk (fun x => sg (b x)) (min i n))))) ∨ s = .ow q (intsD ((List.range (2 ^ n)).map (Bk (fun x => sg (b x)) (min i n))))) ∧ ρ = [some (.im (.tuple (T n b))), some s, some (.im (.int ((2 ^ (min i n) : Nat) : Int))), none, l4, l5, l6, none])
    ⟨none, none, none, _, .inr (by rw [Nat.zero_min]), by rw [Nat.zero_min]; rfl⟩ (fun i x ρ kk hx h hk => ?_) fun ρ h => ?_
  · obtain ⟨l4, l5, l6, s, hs, rfl⟩ := h
    obtain ⟨hl, e⟩ := List.getElem?_eq_some_iff.mp hx
    simp at hl e
    subst e
    by_cases hlt : i < n
    · have em : min i n = i := by omega
      have em1 : min (i + 1) n = i + 1 := by omega
      rw [em] at hs ⊢
      rw [em1] at hk
      have hlt2 : ((2 ^ i : Nat) : Int) < ((2 ^ n : Nat) : Int) := by
        have := two_lt hlt
        omega
      have body : ∀ l, xss G Γ b20_3 [some (.im (.tuple (T n b))), some s, some (.im (.int ((2 ^ i : Nat) : Int))), none, some (.im (.int (i : Int))), some (.ow l (intsD ((List.range (2 ^ n)).map (Bk (fun x => sg (b x)) i)))), l6, none] ⟨kk, E.rt, fun ρ => xss G Γ b20_6 ρ E, kk⟩ := fun l => by
        have fin : ∀ ρ, (∃ l6, ρ = [some (.im (.tuple (T n b))), some s, some (.im (.int ((2 ^ i : Nat) : Int))), none, some (.im (.int (i : Int))), some (.ow l (intsD ((List.range (2 ^ n)).map (half_ (fun x => sg (b x)) i (2 ^ n))))), l6, none]) → xss G Γ b20_2 ρ ⟨kk, E.rt, fun ρ => xss G Γ b20_6 ρ E, kk⟩ := fun ρ h => by
          obtain ⟨l6, rfl⟩ := h
          simp only [xss, xs, ev, evA, evT, evR, evO, evF, evI, cVar, cBin, cIdx, cB1, cIsi, cCall, cCio, cCnw, tru, vv, toVal, cv, asD, setAt, putT, putTs, bindT, setAll, augW, binW, cmpW, b1W, b2W, truth, seqOf, retW, wipeE, restore, keepI, retOk, fin, endsOf, List.getElem?_cons_zero, List.getElem?_cons_succ, List.getD_cons_zero, List.getD_cons_succ, List.set_cons_zero, List.set_cons_succ, List.length_cons, List.length_nil, List.nil_append, List.cons_append, reduceIte, isi_ii, isi_ib, isi_tt, eqW_int, Bool.not_true, Bool.not_false, Bool.false_eq_true, Option.some.injEq, exists_eq_left', exists_eq_left, true_and, and_true, Bool.true_eq_false, Prod.mk.injEq, decide_eq_true_eq, and_assoc, exists_and_left, at3_0, at3_1, at3_2, ix3_0, ix3_2, Nat.reduceAdd, PyData.int.injEq, PyData.bool.injEq, Int.toNat_natCast, b20_2]
          refine ⟨mul_l (by decide) (by decide), hk _ ⟨some (.im (.int (i : Int))), some (.im (.list (intsD ((List.range (2 ^ n)).map (Bk (fun x => sg (b x)) (i + 1)))))), l6, _, .inl rfl, ?_⟩⟩
          rw [half_end]
          have : 2 * ((2 ^ i : Nat) : Int) = ((2 ^ (i + 1) : Nat) : Int) := by rw [Nat.pow_succ]; omega
          rw [this]
        have step : ∀ (j : Nat) (k' : VL.Env → Prop), j < 2 ^ n → (∀ l6, k' [some (.im (.tuple (T n b))), some s, some (.im (.int ((2 ^ i : Nat) : Int))), none, some (.im (.int (i : Int))), some (.ow l (intsD ((List.range (2 ^ n)).map (half_ (fun x => sg (b x)) i (j + 1))))), l6, none]) →
            xss G Γ b20_1 [some (.im (.tuple (T n b))), some s, some (.im (.int ((2 ^ i : Nat) : Int))), none, some (.im (.int (i : Int))), some (.ow l (intsD ((List.range (2 ^ n)).map (half_ (fun x => sg (b x)) i j)))), some (.im (.int (j : Int))), none] ⟨k', E.rt, fun ρ => xss G Γ b20_2 ρ ⟨kk, E.rt, fun ρ => xss G Γ b20_6 ρ E, kk⟩, k'⟩ := fun j k' hj' hk' => by
          simp only [xss, xs, ev, evA, evT, evR, evO, evF, evI, cVar, cBin, cIdx, cB1, cIsi, cCall, cCio, cCnw, tru, vv, toVal, cv, asD, setAt, putT, putTs, bindT, setAll, augW, binW, cmpW, b1W, b2W, truth, seqOf, retW, wipeE, restore, keepI, retOk, fin, endsOf, List.getElem?_cons_zero, List.getElem?_cons_succ, List.getD_cons_zero, List.getD_cons_succ, List.set_cons_zero, List.set_cons_succ, List.length_cons, List.length_nil, List.nil_append, List.cons_append, reduceIte, isi_ii, isi_ib, isi_tt, eqW_int, Bool.not_true, Bool.not_false, Bool.false_eq_true, Option.some.injEq, exists_eq_left', exists_eq_left, true_and, and_true, Bool.true_eq_false, Prod.mk.injEq, decide_eq_true_eq, and_assoc, exists_and_left, at3_0, at3_1, at3_2, ix3_0, ix3_2, Nat.reduceAdd, PyData.int.injEq, PyData.bool.injEq, Int.toNat_natCast, b20_1]
          rw [ba_nat]
          cases q : j.testBit i
          · rw [two_and0 q, if_pos (show ((0 : Nat) : Int) = 0 from rfl)]
            have hj := on_lt hlt hj' q
            have e1 : (j : Int) + ((2 ^ i : Nat) : Int) = ((j + 2 ^ i : Nat) : Int) := by omega
            rcases hs with rfl | rfl
            · simp only [xss, xs, ev, evA, evT, evR, evO, evF, evI, cVar, cBin, cIdx, cB1, cIsi, cCall, cCio, cCnw, tru, vv, toVal, cv, asD, setAt, putT, putTs, bindT, setAll, augW, binW, cmpW, b1W, b2W, truth, seqOf, retW, wipeE, restore, keepI, retOk, fin, endsOf, List.getElem?_cons_zero, List.getElem?_cons_succ, List.getD_cons_zero, List.getD_cons_succ, List.set_cons_zero, List.set_cons_succ, List.length_cons, List.length_nil, List.nil_append, List.cons_append, reduceIte, isi_ii, isi_ib, isi_tt, eqW_int, Bool.not_true, Bool.not_false, Bool.false_eq_true, Option.some.injEq, exists_eq_left', exists_eq_left, true_and, and_true, Bool.true_eq_false, Prod.mk.injEq, decide_eq_true_eq, and_assoc, exists_and_left, at3_0, at3_1, at3_2, ix3_0, ix3_2, Nat.reduceAdd, PyData.int.injEq, PyData.bool.injEq, Int.toNat_natCast, b20_0]
              rw [e1]
              refine ⟨_, at_rng _ hj', _, at_rng _ hj, ?_⟩
              simp only [xss, xs, ev, evA, evT, evR, evO, evF, evI, cVar, cBin, cIdx, cB1, cIsi, cCall, cCio, cCnw, tru, vv, toVal, cv, asD, setAt, putT, putTs, bindT, setAll, augW, binW, cmpW, b1W, b2W, truth, seqOf, retW, wipeE, restore, keepI, retOk, fin, endsOf, List.getElem?_cons_zero, List.getElem?_cons_succ, List.getD_cons_zero, List.getD_cons_succ, List.set_cons_zero, List.set_cons_succ, List.length_cons, List.length_nil, List.nil_append, List.cons_append, reduceIte, isi_ii, isi_ib, isi_tt, eqW_int, Bool.not_true, Bool.not_false, Bool.false_eq_true, Option.some.injEq, exists_eq_left', exists_eq_left, true_and, and_true, Bool.true_eq_false, Prod.mk.injEq, decide_eq_true_eq, and_assoc, exists_and_left, at3_0, at3_1, at3_2, ix3_0, ix3_2, Nat.reduceAdd, PyData.int.injEq, PyData.bool.injEq, Int.toNat_natCast]
              refine ⟨_, at_rng _ hj', _, at_rng _ hj, ?_⟩
              simp only [xss, xs, ev, evA, evT, evR, evO, evF, evI, cVar, cBin, cIdx, cB1, cIsi, cCall, cCio, cCnw, tru, vv, toVal, cv, asD, setAt, putT, putTs, bindT, setAll, augW, binW, cmpW, b1W, b2W, truth, seqOf, retW, wipeE, restore, keepI, retOk, fin, endsOf, List.getElem?_cons_zero, List.getElem?_cons_succ, List.getD_cons_zero, List.getD_cons_succ, List.set_cons_zero, List.set_cons_succ, List.length_cons, List.length_nil, List.nil_append, List.cons_append, reduceIte, isi_ii, isi_ib, isi_tt, eqW_int, Bool.not_true, Bool.not_false, Bool.false_eq_true, Option.some.injEq, exists_eq_left', exists_eq_left, true_and, and_true, Bool.true_eq_false, Prod.mk.injEq, decide_eq_true_eq, and_assoc, exists_and_left, at3_0, at3_1, at3_2, ix3_0, ix3_2, Nat.reduceAdd, PyData.int.injEq, PyData.bool.injEq, Int.toNat_natCast]
              refine ⟨j, ix_nat rfl (by rw [len_rng]; exact hj'), ?_⟩
              refine ⟨j + 2 ^ i, ix_nat rfl (by rw [List.length_set, len_rng]; exact hj), ?_⟩
              rw [ints_set, ints_set, half_on _ _ _ _ q]
              exact hk' _
            · simp only [xss, xs, ev, evA, evT, evR, evO, evF, evI, cVar, cBin, cIdx, cB1, cIsi, cCall, cCio, cCnw, tru, vv, toVal, cv, asD, setAt, putT, putTs, bindT, setAll, augW, binW, cmpW, b1W, b2W, truth, seqOf, retW, wipeE, restore, keepI, retOk, fin, endsOf, List.getElem?_cons_zero, List.getElem?_cons_succ, List.getD_cons_zero, List.getD_cons_succ, List.set_cons_zero, List.set_cons_succ, List.length_cons, List.length_nil, List.nil_append, List.cons_append, reduceIte, isi_ii, isi_ib, isi_tt, eqW_int, Bool.not_true, Bool.not_false, Bool.false_eq_true, Option.some.injEq, exists_eq_left', exists_eq_left, true_and, and_true, Bool.true_eq_false, Prod.mk.injEq, decide_eq_true_eq, and_assoc, exists_and_left, at3_0, at3_1, at3_2, ix3_0, ix3_2, Nat.reduceAdd, PyData.int.injEq, PyData.bool.injEq, Int.toNat_natCast, b20_0]
              rw [e1]
              refine ⟨_, at_rng _ hj', _, at_rng _ hj, ?_⟩
              simp only [xss, xs, ev, evA, evT, evR, evO, evF, evI, cVar, cBin, cIdx, cB1, cIsi, cCall, cCio, cCnw, tru, vv, toVal, cv, asD, setAt, putT, putTs, bindT, setAll, augW, binW, cmpW, b1W, b2W, truth, seqOf, retW, wipeE, restore, keepI, retOk, fin, endsOf, List.getElem?_cons_zero, List.getElem?_cons_succ, List.getD_cons_zero, List.getD_cons_succ, List.set_cons_zero, List.set_cons_succ, List.length_cons, List.length_nil, List.nil_append, List.cons_append, reduceIte, isi_ii, isi_ib, isi_tt, eqW_int, Bool.not_true, Bool.not_false, Bool.false_eq_true, Option.some.injEq, exists_eq_left', exists_eq_left, true_and, and_true, Bool.true_eq_false, Prod.mk.injEq, decide_eq_true_eq, and_assoc, exists_and_left, at3_0, at3_1, at3_2, ix3_0, ix3_2, Nat.reduceAdd, PyData.int.injEq, PyData.bool.injEq, Int.toNat_natCast]
              refine ⟨_, at_rng _ hj', _, at_rng _ hj, ?_⟩
              simp only [xss, xs, ev, evA, evT, evR, evO, evF, evI, cVar, cBin, cIdx, cB1, cIsi, cCall, cCio, cCnw, tru, vv, toVal, cv, asD, setAt, putT, putTs, bindT, setAll, augW, binW, cmpW, b1W, b2W, truth, seqOf, retW, wipeE, restore, keepI, retOk, fin, endsOf, List.getElem?_cons_zero, List.getElem?_cons_succ, List.getD_cons_zero, List.getD_cons_succ, List.set_cons_zero, List.set_cons_succ, List.length_cons, List.length_nil, List.nil_append, List.cons_append, reduceIte, isi_ii, isi_ib, isi_tt, eqW_int, Bool.not_true, Bool.not_false, Bool.false_eq_true, Option.some.injEq, exists_eq_left', exists_eq_left, true_and, and_true, Bool.true_eq_false, Prod.mk.injEq, decide_eq_true_eq, and_assoc, exists_and_left, at3_0, at3_1, at3_2, ix3_0, ix3_2, Nat.reduceAdd, PyData.int.injEq, PyData.bool.injEq, Int.toNat_natCast]
              refine ⟨j, ix_nat rfl (by rw [len_rng]; exact hj'), ?_⟩
              refine ⟨j + 2 ^ i, ix_nat rfl (by rw [List.length_set, len_rng]; exact hj), ?_⟩
              rw [ints_set, ints_set, half_on _ _ _ _ q]
              exact hk' _
          · rw [two_and q, if_neg (by have := Nat.two_pow_pos i; omega)]
            rw [half_off _ _ _ _ q]
            exact hk' _
        have start : (List.range (2 ^ n)).map (Bk (fun x => sg (b x)) i) = (List.range (2 ^ n)).map (half_ (fun x => sg (b x)) i 0) := half_start _ _ _
        rw [start]
        have loop : forL [6] (xss G Γ b20_1) ((List.range (2 ^ n)).map fun i => PyData.int (i : Nat)) [some (.im (.tuple (T n b))), some s, some (.im (.int ((2 ^ i : Nat) : Int))), none, some (.im (.int (i : Int))), some (.ow l (intsD ((List.range (2 ^ n)).map (half_ (fun x => sg (b x)) i 0)))), l6, none] ⟨fun ρ => xss G Γ b20_2 ρ ⟨kk, E.rt, fun ρ => xss G Γ b20_6 ρ E, kk⟩, E.rt, fun ρ => xss G Γ b20_6 ρ E, kk⟩ := by
          refine forL_inv (fun j ρ => ∃ l6, ρ = [some (.im (.tuple (T n b))), some s, some (.im (.int ((2 ^ i : Nat) : Int))), none, some (.im (.int (i : Int))), some (.ow l (intsD ((List.range (2 ^ n)).map (half_ (fun x => sg (b x)) i j)))), l6, none]) ⟨l6, rfl⟩ (fun j x ρ k' hx h hk' => ?_) fun ρ h => ?_
          · obtain ⟨l6, rfl⟩ := h
            obtain ⟨hl, e⟩ := List.getElem?_eq_some_iff.mp hx
            simp at hl e
            subst e
            simp only [xss, xs, ev, evA, evT, evR, evO, evF, evI, cVar, cBin, cIdx, cB1, cIsi, cCall, cCio, cCnw, tru, vv, toVal, cv, asD, setAt, putT, putTs, bindT, setAll, augW, binW, cmpW, b1W, b2W, truth, seqOf, retW, wipeE, restore, keepI, retOk, fin, endsOf, List.getElem?_cons_zero, List.getElem?_cons_succ, List.getD_cons_zero, List.getD_cons_succ, List.set_cons_zero, List.set_cons_succ, List.length_cons, List.length_nil, List.nil_append, List.cons_append, reduceIte, isi_ii, isi_ib, isi_tt, eqW_int, Bool.not_true, Bool.not_false, Bool.false_eq_true, Option.some.injEq, exists_eq_left', exists_eq_left, true_and, and_true, Bool.true_eq_false, Prod.mk.injEq, decide_eq_true_eq, and_assoc, exists_and_left, at3_0, at3_1, at3_2, ix3_0, ix3_2, Nat.reduceAdd, PyData.int.injEq, PyData.bool.injEq, Int.toNat_natCast]
            exact step j k' hl fun l6 => hk' _ ⟨l6, rfl⟩
          · refine fin ρ ?_
            simpa using h
        rcases hs with rfl | rfl
        · simp only [xss, xs, ev, evA, evT, evR, evO, evF, evI, cVar, cBin, cIdx, cB1, cIsi, cCall, cCio, cCnw, tru, vv, toVal, cv, asD, setAt, putT, putTs, bindT, setAll, augW, binW, cmpW, b1W, b2W, truth, seqOf, retW, wipeE, restore, keepI, retOk, fin, endsOf, List.getElem?_cons_zero, List.getElem?_cons_succ, List.getD_cons_zero, List.getD_cons_succ, List.set_cons_zero, List.set_cons_succ, List.length_cons, List.length_nil, List.nil_append, List.cons_append, reduceIte, isi_ii, isi_ib, isi_tt, eqW_int, Bool.not_true, Bool.not_false, Bool.false_eq_true, Option.some.injEq, exists_eq_left', exists_eq_left, true_and, and_true, Bool.true_eq_false, Prod.mk.injEq, decide_eq_true_eq, and_assoc, exists_and_left, at3_0, at3_1, at3_2, ix3_0, ix3_2, Nat.reduceAdd, PyData.int.injEq, PyData.bool.injEq, Int.toNat_natCast, b20_3, len_rng]
          exact ⟨by omega, by omega, loop⟩
        · simp only [xss, xs, ev, evA, evT, evR, evO, evF, evI, cVar, cBin, cIdx, cB1, cIsi, cCall, cCio, cCnw, tru, vv, toVal, cv, asD, setAt, putT, putTs, bindT, setAll, augW, binW, cmpW, b1W, b2W, truth, seqOf, retW, wipeE, restore, keepI, retOk, fin, endsOf, List.getElem?_cons_zero, List.getElem?_cons_succ, List.getD_cons_zero, List.getD_cons_succ, List.set_cons_zero, List.set_cons_succ, List.length_cons, List.length_nil, List.nil_append, List.cons_append, reduceIte, isi_ii, isi_ib, isi_tt, eqW_int, Bool.not_true, Bool.not_false, Bool.false_eq_true, Option.some.injEq, exists_eq_left', exists_eq_left, true_and, and_true, Bool.true_eq_false, Prod.mk.injEq, decide_eq_true_eq, and_assoc, exists_and_left, at3_0, at3_1, at3_2, ix3_0, ix3_2, Nat.reduceAdd, PyData.int.injEq, PyData.bool.injEq, Int.toNat_natCast, b20_3, len_rng]
          exact ⟨by omega, by omega, loop⟩
      rcases hs with rfl | rfl
      · simp only [xss, xs, ev, evA, evT, evR, evO, evF, evI, cVar, cBin, cIdx, cB1, cIsi, cCall, cCio, cCnw, tru, vv, toVal, cv, asD, setAt, putT, putTs, bindT, setAll, augW, binW, cmpW, b1W, b2W, truth, seqOf, retW, wipeE, restore, keepI, retOk, fin, endsOf, List.getElem?_cons_zero, List.getElem?_cons_succ, List.getD_cons_zero, List.getD_cons_succ, List.set_cons_zero, List.set_cons_succ, List.length_cons, List.length_nil, List.nil_append, List.cons_append, reduceIte, isi_ii, isi_ib, isi_tt, eqW_int, Bool.not_true, Bool.not_false, Bool.false_eq_true, Option.some.injEq, exists_eq_left', exists_eq_left, true_and, and_true, Bool.true_eq_false, Prod.mk.injEq, decide_eq_true_eq, and_assoc, exists_and_left, at3_0, at3_1, at3_2, ix3_0, ix3_2, Nat.reduceAdd, PyData.int.injEq, PyData.bool.injEq, Int.toNat_natCast, b20_5, len_rng]
        rw [if_pos hlt2]
        simp only [xss, xs, ev, evA, evT, evR, evO, evF, evI, cVar, cBin, cIdx, cB1, cIsi, cCall, cCio, cCnw, tru, vv, toVal, cv, asD, setAt, putT, putTs, bindT, setAll, augW, binW, cmpW, b1W, b2W, truth, seqOf, retW, wipeE, restore, keepI, retOk, fin, endsOf, List.getElem?_cons_zero, List.getElem?_cons_succ, List.getD_cons_zero, List.getD_cons_succ, List.set_cons_zero, List.set_cons_succ, List.length_cons, List.length_nil, List.nil_append, List.cons_append, reduceIte, isi_ii, isi_ib, isi_tt, eqW_int, Bool.not_true, Bool.not_false, Bool.false_eq_true, Option.some.injEq, exists_eq_left', exists_eq_left, true_and, and_true, Bool.true_eq_false, Prod.mk.injEq, decide_eq_true_eq, and_assoc, exists_and_left, at3_0, at3_1, at3_2, ix3_0, ix3_2, Nat.reduceAdd, PyData.int.injEq, PyData.bool.injEq, Int.toNat_natCast, b20_4]
        exact body
      · simp only [xss, xs, ev, evA, evT, evR, evO, evF, evI, cVar, cBin, cIdx, cB1, cIsi, cCall, cCio, cCnw, tru, vv, toVal, cv, asD, setAt, putT, putTs, bindT, setAll, augW, binW, cmpW, b1W, b2W, truth, seqOf, retW, wipeE, restore, keepI, retOk, fin, endsOf, List.getElem?_cons_zero, List.getElem?_cons_succ, List.getD_cons_zero, List.getD_cons_succ, List.set_cons_zero, List.set_cons_succ, List.length_cons, List.length_nil, List.nil_append, List.cons_append, reduceIte, isi_ii, isi_ib, isi_tt, eqW_int, Bool.not_true, Bool.not_false, Bool.false_eq_true, Option.some.injEq, exists_eq_left', exists_eq_left, true_and, and_true, Bool.true_eq_false, Prod.mk.injEq, decide_eq_true_eq, and_assoc, exists_and_left, at3_0, at3_1, at3_2, ix3_0, ix3_2, Nat.reduceAdd, PyData.int.injEq, PyData.bool.injEq, Int.toNat_natCast, b20_5, len_rng]
        rw [if_pos hlt2]
        simp only [xss, xs, ev, evA, evT, evR, evO, evF, evI, cVar, cBin, cIdx, cB1, cIsi, cCall, cCio, cCnw, tru, vv, toVal, cv, asD, setAt, putT, putTs, bindT, setAll, augW, binW, cmpW, b1W, b2W, truth, seqOf, retW, wipeE, restore, keepI, retOk, fin, endsOf, List.getElem?_cons_zero, List.getElem?_cons_succ, List.getD_cons_zero, List.getD_cons_succ, List.set_cons_zero, List.set_cons_succ, List.length_cons, List.length_nil, List.nil_append, List.cons_append, reduceIte, isi_ii, isi_ib, isi_tt, eqW_int, Bool.not_true, Bool.not_false, Bool.false_eq_true, Option.some.injEq, exists_eq_left', exists_eq_left, true_and, and_true, Bool.true_eq_false, Prod.mk.injEq, decide_eq_true_eq, and_assoc, exists_and_left, at3_0, at3_1, at3_2, ix3_0, ix3_2, Nat.reduceAdd, PyData.int.injEq, PyData.bool.injEq, Int.toNat_natCast, b20_4]
        exact body
    · have em : min i n = n := by omega
      have em1 : min (i + 1) n = n := by omega
      rw [em] at hs ⊢
      rw [em1] at hk
      rcases hs with rfl | rfl
      · simp only [xss, xs, ev, evA, evT, evR, evO, evF, evI, cVar, cBin, cIdx, cB1, cIsi, cCall, cCio, cCnw, tru, vv, toVal, cv, asD, setAt, putT, putTs, bindT, setAll, augW, binW, cmpW, b1W, b2W, truth, seqOf, retW, wipeE, restore, keepI, retOk, fin, endsOf, List.getElem?_cons_zero, List.getElem?_cons_succ, List.getD_cons_zero, List.getD_cons_succ, List.set_cons_zero, List.set_cons_succ, List.length_cons, List.length_nil, List.nil_append, List.cons_append, reduceIte, isi_ii, isi_ib, isi_tt, eqW_int, Bool.not_true, Bool.not_false, Bool.false_eq_true, Option.some.injEq, exists_eq_left', exists_eq_left, true_and, and_true, Bool.true_eq_false, Prod.mk.injEq, decide_eq_true_eq, and_assoc, exists_and_left, at3_0, at3_1, at3_2, ix3_0, ix3_2, Nat.reduceAdd, PyData.int.injEq, PyData.bool.injEq, Int.toNat_natCast, b20_5, len_rng]
        rw [if_neg (by omega)]
        exact hk _ ⟨_, _, _, _, .inl rfl, rfl⟩
      · simp only [xss, xs, ev, evA, evT, evR, evO, evF, evI, cVar, cBin, cIdx, cB1, cIsi, cCall, cCio, cCnw, tru, vv, toVal, cv, asD, setAt, putT, putTs, bindT, setAll, augW, binW, cmpW, b1W, b2W, truth, seqOf, retW, wipeE, restore, keepI, retOk, fin, endsOf, List.getElem?_cons_zero, List.getElem?_cons_succ, List.getD_cons_zero, List.getD_cons_succ, List.set_cons_zero, List.set_cons_succ, List.length_cons, List.length_nil, List.nil_append, List.cons_append, reduceIte, isi_ii, isi_ib, isi_tt, eqW_int, Bool.not_true, Bool.not_false, Bool.false_eq_true, Option.some.injEq, exists_eq_left', exists_eq_left, true_and, and_true, Bool.true_eq_false, Prod.mk.injEq, decide_eq_true_eq, and_assoc, exists_and_left, at3_0, at3_1, at3_2, ix3_0, ix3_2, Nat.reduceAdd, PyData.int.injEq, PyData.bool.injEq, Int.toNat_natCast, b20_5, len_rng]
        rw [if_neg (by omega)]
        exact hk _ ⟨_, _, _, _, .inr rfl, rfl⟩
  · obtain ⟨l4, l5, l6, s, hs, rfl⟩ := h
    have em : min ((List.range ((9 : Int).toNat)).map fun i => PyData.int (i : Nat)).length n = n := by
      rw [List.length_map, List.length_range]
      show min 9 n = n
      omega
    rw [em] at hs ⊢
    have far : ∀ x, x < 2 ^ n → (((2 ^ n : Nat) : Int) - Bk (fun x => sg (b x)) n x) / 2 = hd n b x := fun x hx => far_eq n b (by omega) hx
    have out : intsD (dist n b) = (List.range (2 ^ n)).map fun x => PyData.int (hd n b x) := (rng_ints _).symm
    rcases hs with rfl | rfl
    · simp only [xss, xs, ev, evA, evT, evR, evO, evF, evI, cVar, cBin, cIdx, cB1, cIsi, cCall, cCio, cCnw, tru, vv, toVal, cv, asD, setAt, putT, putTs, bindT, setAll, augW, binW, cmpW, b1W, b2W, truth, seqOf, retW, wipeE, restore, keepI, retOk, fin, endsOf, List.getElem?_cons_zero, List.getElem?_cons_succ, List.getD_cons_zero, List.getD_cons_succ, List.set_cons_zero, List.set_cons_succ, List.length_cons, List.length_nil, List.nil_append, List.cons_append, reduceIte, isi_ii, isi_ib, isi_tt, eqW_int, Bool.not_true, Bool.not_false, Bool.false_eq_true, Option.some.injEq, exists_eq_left', exists_eq_left, true_and, and_true, Bool.true_eq_false, Prod.mk.injEq, decide_eq_true_eq, and_assoc, exists_and_left, at3_0, at3_1, at3_2, ix3_0, ix3_2, Nat.reduceAdd, PyData.int.injEq, PyData.bool.injEq, Int.toNat_natCast, b20_6, len_T, len_rng]
      refine ⟨by omega, fun q => ?_⟩
      rw [← rng_ints]
      refine compL_lst (fun x => PyData.int (hd n b x)) (fun x hx kk acc hk => ?_) ?_
      · have hx := List.mem_range.mp hx
        simp only [xss, xs, ev, evA, evT, evR, evO, evF, evI, cVar, cBin, cIdx, cB1, cIsi, cCall, cCio, cCnw, tru, vv, toVal, cv, asD, setAt, putT, putTs, bindT, setAll, augW, binW, cmpW, b1W, b2W, truth, seqOf, retW, wipeE, restore, keepI, retOk, fin, endsOf, List.getElem?_cons_zero, List.getElem?_cons_succ, List.getD_cons_zero, List.getD_cons_succ, List.set_cons_zero, List.set_cons_succ, List.length_cons, List.length_nil, List.nil_append, List.cons_append, reduceIte, isi_ii, isi_ib, isi_tt, eqW_int, Bool.not_true, Bool.not_false, Bool.false_eq_true, Option.some.injEq, exists_eq_left', exists_eq_left, true_and, and_true, Bool.true_eq_false, Prod.mk.injEq, decide_eq_true_eq, and_assoc, exists_and_left, at3_0, at3_1, at3_2, ix3_0, ix3_2, Nat.reduceAdd, PyData.int.injEq, PyData.bool.injEq, Int.toNat_natCast, len_T]
        exact ⟨div_ok (by decide) (by decide), by rw [far x hx]; exact hk⟩
      · exact hr _ _ (ret_t (by rw [← out]))
    · simp only [xss, xs, ev, evA, evT, evR, evO, evF, evI, cVar, cBin, cIdx, cB1, cIsi, cCall, cCio, cCnw, tru, vv, toVal, cv, asD, setAt, putT, putTs, bindT, setAll, augW, binW, cmpW, b1W, b2W, truth, seqOf, retW, wipeE, restore, keepI, retOk, fin, endsOf, List.getElem?_cons_zero, List.getElem?_cons_succ, List.getD_cons_zero, List.getD_cons_succ, List.set_cons_zero, List.set_cons_succ, List.length_cons, List.length_nil, List.nil_append, List.cons_append, reduceIte, isi_ii, isi_ib, isi_tt, eqW_int, Bool.not_true, Bool.not_false, Bool.false_eq_true, Option.some.injEq, exists_eq_left', exists_eq_left, true_and, and_true, Bool.true_eq_false, Prod.mk.injEq, decide_eq_true_eq, and_assoc, exists_and_left, at3_0, at3_1, at3_2, ix3_0, ix3_2, Nat.reduceAdd, PyData.int.injEq, PyData.bool.injEq, Int.toNat_natCast, b20_6, len_T, len_rng]
      refine ⟨by omega, fun q' => ?_⟩
      rw [← rng_ints]
      refine compL_lst (fun x => PyData.int (hd n b x)) (fun x hx kk acc hk => ?_) ?_
      · have hx := List.mem_range.mp hx
        simp only [xss, xs, ev, evA, evT, evR, evO, evF, evI, cVar, cBin, cIdx, cB1, cIsi, cCall, cCio, cCnw, tru, vv, toVal, cv, asD, setAt, putT, putTs, bindT, setAll, augW, binW, cmpW, b1W, b2W, truth, seqOf, retW, wipeE, restore, keepI, retOk, fin, endsOf, List.getElem?_cons_zero, List.getElem?_cons_succ, List.getD_cons_zero, List.getD_cons_succ, List.set_cons_zero, List.set_cons_succ, List.length_cons, List.length_nil, List.nil_append, List.cons_append, reduceIte, isi_ii, isi_ib, isi_tt, eqW_int, Bool.not_true, Bool.not_false, Bool.false_eq_true, Option.some.injEq, exists_eq_left', exists_eq_left, true_and, and_true, Bool.true_eq_false, Prod.mk.injEq, decide_eq_true_eq, and_assoc, exists_and_left, at3_0, at3_1, at3_2, ix3_0, ix3_2, Nat.reduceAdd, PyData.int.injEq, PyData.bool.injEq, Int.toNat_natCast, len_T]
        exact ⟨div_ok (by decide) (by decide), by rw [far x hx]; exact hk⟩
      · exact hr _ _ (ret_t (by rw [← out]))
end K13

set_option Elab.async false
set_option linter.all false
set_option maxRecDepth 100000
namespace K13
open PySem L2 VL BF

theorem count_S (c : Nat → Bool) (d : D) : ∀ N, (((List.range N).filterMap fun i => if c i = true then some d else none).length : Int) = S N fun i => b2i (c i)
  | 0 => rfl
  | N + 1 => by
    rw [List.range_succ, List.filterMap_append, List.length_append, S_succ, ← count_S c d N]
    cases h : c N <;> simp [b2i, h]
theorem enum_T (n : Nat) (b : Nat → Bool) : ((T n b).mapIdx fun i x => PyData.tuple [.int (i : Nat), x]) = (List.range (2 ^ n)).map fun i => PyData.tuple [.int (i : Nat), .int (b2i (b i))] := by
  apply List.ext_getElem?
  intro i
  rw [List.getElem?_mapIdx, T_eq, List.getElem?_map, List.getElem?_map]
  by_cases h : i < 2 ^ n
  · rw [List.getElem?_range h]
    rfl
  · rw [List.getElem?_eq_none (by simp; omega)]
    rfl
theorem b2i_eq (a b : Bool) : decide (b2i a = b2i b) = (a == b) := by cases a <;> cases b <;> rfl
theorem ok22 : BodyOk G Γ 5 b22 s22 := by
  refine body_pure fun a ha p E hn hr => ?_
  obtain ⟨n, b⟩ := a
  have h8 : n ≤ 8 := ha
  have h9 := two8 h8
  have h0n : (0 : Int) ≤ ((2 ^ n : Nat) : Int) := Int.natCast_nonneg _
  show xss G Γ b22_4 [some (.im (.tuple (T n b))), none, none, none, none] E
  simp only [xss, xs, ev, evA, evT, evR, evO, evF, evI, cVar, cBin, cIdx, cB1, cIsi, cCall, cCio, cCnw, tru, vv, toVal, cv, asD, setAt, putT, putTs, bindT, setAll, augW, binW, cmpW, b1W, b2W, truth, seqOf, retW, wipeE, restore, keepI, retOk, fin, endsOf, List.getElem?_cons_zero, List.getElem?_cons_succ, List.getD_cons_zero, List.getD_cons_succ, List.set_cons_zero, List.set_cons_succ, List.length_cons, List.length_nil, List.nil_append, List.cons_append, reduceIte, isi_ii, isi_ib, isi_tt, eqW_int, Bool.not_true, Bool.not_false, Bool.false_eq_true, Option.some.injEq, exists_eq_left', exists_eq_left, true_and, and_true, Bool.true_eq_false, Prod.mk.injEq, decide_eq_true_eq, and_assoc, exists_and_left, at3_0, at3_1, at3_2, ix3_0, ix3_2, Nat.reduceAdd, PyData.int.injEq, PyData.bool.injEq, Int.toNat_natCast, b22_4]
  refine ⟨by decide, fun q => ?_⟩
  simp only [xss, xs, ev, evA, evT, evR, evO, evF, evI, cVar, cBin, cIdx, cB1, cIsi, cCall, cCio, cCnw, tru, vv, toVal, cv, asD, setAt, putT, putTs, bindT, setAll, augW, binW, cmpW, b1W, b2W, truth, seqOf, retW, wipeE, restore, keepI, retOk, fin, endsOf, List.getElem?_cons_zero, List.getElem?_cons_succ, List.getD_cons_zero, List.getD_cons_succ, List.set_cons_zero, List.set_cons_succ, List.length_cons, List.length_nil, List.nil_append, List.cons_append, reduceIte, isi_ii, isi_ib, isi_tt, eqW_int, Bool.not_true, Bool.not_false, Bool.false_eq_true, Option.some.injEq, exists_eq_left', exists_eq_left, true_and, and_true, Bool.true_eq_false, Prod.mk.injEq, decide_eq_true_eq, and_assoc, exists_and_left, at3_0, at3_1, at3_2, ix3_0, ix3_2, Nat.reduceAdd, PyData.int.injEq, PyData.bool.injEq, Int.toNat_natCast, b22_3, len_T]
  refine ⟨by omega, by omega, ?_⟩
  refine forL_inv (fun i ρ => ∃ x y, ρ = [some (.im (.tuple (T n b))), some (.ow q ((List.range i).map (mendD n b))), x, y, none]) ⟨none, none, rfl⟩ (fun i x ρ k hx h hk => ?_) fun ρ h => ?_
  · obtain ⟨x1, y1, rfl⟩ := h
    obtain ⟨hl, e⟩ := List.getElem?_eq_some_iff.mp hx
    simp at hl e
    subst e
    simp only [xss, xs, ev_var, ev_cst, ev_glo, ev_bin, ev_cmp, ev_chain, ev_and, ev_or, ev_not, ev_neg, ev_ife, ev_tup, ev_lst, ev_idx, ev_sl, ev_b1, ev_b2, ev_lrng, ev_isi, ev_call, ev_cio, ev_cnw, ev_lc, ev_pop, ev_tidx, ev_rep, evA, evT, evR, evO, evF, evI, cVar, cBin, cIdx, cB1, cIsi, cCall, cCio, cCnw, tru, vv, toVal, cv, asD, setAt, putT, putTs, bindT, setAll, augW, binW, cmpW, b1W, b2W, truth, seqOf, retW, wipeE, restore, keepI, retOk, fin, endsOf, List.getElem?_cons_zero, List.getElem?_cons_succ, List.getD_cons_zero, List.getD_cons_succ, List.set_cons_zero, List.set_cons_succ, List.length_cons, List.length_nil, List.nil_append, List.cons_append, reduceIte, isi_ii, isi_ib, isi_tt, eqW_int, Bool.not_true, Bool.not_false, Bool.false_eq_true, Option.some.injEq, exists_eq_left', exists_eq_left, true_and, and_true, Bool.true_eq_false, Prod.mk.injEq, decide_eq_true_eq, and_assoc, exists_and_left, at3_0, at3_1, at3_2, ix3_0, ix3_2, Nat.reduceAdd, PyData.int.injEq, PyData.bool.injEq, Int.toNat_natCast, b22_1, len_T]
    refine ⟨by omega, by omega, by simp; omega, fun q' => ?_⟩
    refine compL_lstf (xs := List.range (2 ^ n)) (u := fun j => PyData.int (j : Nat)) (fun o => if (b (i ^^^ o) ^^ b o) = true then some (.int 1) else none) (fun o ho kk acc hk => ?_) ?_
    · have ho := List.mem_range.mp ho
      simp only [xss, xs, ev, evA, evT, evR, evO, evF, evI, cVar, cBin, cIdx, cB1, cIsi, cCall, cCio, cCnw, tru, vv, toVal, cv, asD, setAt, putT, putTs, bindT, setAll, augW, binW, cmpW, b1W, b2W, truth, seqOf, retW, wipeE, restore, keepI, retOk, fin, endsOf, List.getElem?_cons_zero, List.getElem?_cons_succ, List.getD_cons_zero, List.getD_cons_succ, List.set_cons_zero, List.set_cons_succ, List.length_cons, List.length_nil, List.nil_append, List.cons_append, reduceIte, isi_ii, isi_ib, isi_tt, eqW_int, Bool.not_true, Bool.not_false, Bool.false_eq_true, Option.some.injEq, exists_eq_left', exists_eq_left, true_and, and_true, Bool.true_eq_false, Prod.mk.injEq, decide_eq_true_eq, and_assoc, exists_and_left, at3_0, at3_1, at3_2, ix3_0, ix3_2, Nat.reduceAdd, PyData.int.injEq, PyData.bool.injEq, Int.toNat_natCast]
      rw [bx_nat]
      refine ⟨_, at_T b (xor_lt hl ho), _, at_T b ho, ?_⟩
      simp only [xss, xs, ev, evA, evT, evR, evO, evF, evI, cVar, cBin, cIdx, cB1, cIsi, cCall, cCio, cCnw, tru, vv, toVal, cv, asD, setAt, putT, putTs, bindT, setAll, augW, binW, cmpW, b1W, b2W, truth, seqOf, retW, wipeE, restore, keepI, retOk, fin, endsOf, List.getElem?_cons_zero, List.getElem?_cons_succ, List.getD_cons_zero, List.getD_cons_succ, List.set_cons_zero, List.set_cons_succ, List.length_cons, List.length_nil, List.nil_append, List.cons_append, reduceIte, isi_ii, isi_ib, isi_tt, eqW_int, Bool.not_true, Bool.not_false, Bool.false_eq_true, Option.some.injEq, exists_eq_left', exists_eq_left, true_and, and_true, Bool.true_eq_false, Prod.mk.injEq, decide_eq_true_eq, and_assoc, exists_and_left, at3_0, at3_1, at3_2, ix3_0, ix3_2, Nat.reduceAdd, PyData.int.injEq, PyData.bool.injEq, Int.toNat_natCast]
      rw [b2i_eq]
      cases q1 : b (i ^^^ o) <;> cases q2 : b o <;> rw [q1, q2] at hk <;> first | exact sim_nil hk | exact sim_one hk
    · simp only [xss, xs, ev, evA, evT, evR, evO, evF, evI, cVar, cBin, cIdx, cB1, cIsi, cCall, cCio, cCnw, tru, vv, toVal, cv, asD, setAt, putT, putTs, bindT, setAll, augW, binW, cmpW, b1W, b2W, truth, seqOf, retW, wipeE, restore, keepI, retOk, fin, endsOf, List.getElem?_cons_zero, List.getElem?_cons_succ, List.getD_cons_zero, List.getD_cons_succ, List.set_cons_zero, List.set_cons_succ, List.length_cons, List.length_nil, List.nil_append, List.cons_append, reduceIte, isi_ii, isi_ib, isi_tt, eqW_int, Bool.not_true, Bool.not_false, Bool.false_eq_true, Option.some.injEq, exists_eq_left', exists_eq_left, true_and, and_true, Bool.true_eq_false, Prod.mk.injEq, decide_eq_true_eq, and_assoc, exists_and_left, at3_0, at3_1, at3_2, ix3_0, ix3_2, Nat.reduceAdd, PyData.int.injEq, PyData.bool.injEq, Int.toNat_natCast]
      rw [count_S]
      have eo : S (2 ^ n) (fun o => b2i (b (i ^^^ o) ^^ b o)) = onesF n b i := rfl
      rw [eo]
      simp only [xss, xs, ev, evA, evT, evR, evO, evF, evI, cVar, cBin, cIdx, cB1, cIsi, cCall, cCio, cCnw, tru, vv, toVal, cv, asD, setAt, putT, putTs, bindT, setAll, augW, binW, cmpW, b1W, b2W, truth, seqOf, retW, wipeE, restore, keepI, retOk, fin, endsOf, List.getElem?_cons_zero, List.getElem?_cons_succ, List.getD_cons_zero, List.getD_cons_succ, List.set_cons_zero, List.set_cons_succ, List.length_cons, List.length_nil, List.nil_append, List.cons_append, reduceIte, isi_ii, isi_ib, isi_tt, eqW_int, Bool.not_true, Bool.not_false, Bool.false_eq_true, Option.some.injEq, exists_eq_left', exists_eq_left, true_and, and_true, Bool.true_eq_false, Prod.mk.injEq, decide_eq_true_eq, and_assoc, exists_and_left, at3_0, at3_1, at3_2, ix3_0, ix3_2, Nat.reduceAdd, PyData.int.injEq, PyData.bool.injEq, Int.toNat_natCast, b22_0, len_T]
      have out : (List.range (i + 1)).map (mendD n b) = (List.range i).map (mendD n b) ++ [mendD n b i] := by
        rw [List.range_succ, List.map_append]
        rfl
      refine ⟨mul_l (by decide) (by decide), ?_⟩
      by_cases h1 : ((2 ^ n : Nat) : Int) < 2 * onesF n b i
      · rw [if_pos h1]
        have e1 : mendD n b i = .int 1 := by unfold mendD; rw [if_neg (by omega), if_pos h1]
        rw [e1] at out
        rw [← out]
        exact ⟨by simp; omega, hk _ ⟨_, _, rfl⟩⟩
      · rw [if_neg h1]
        refine ⟨mul_l (by decide) (by decide), ?_⟩
        by_cases h2 : 2 * onesF n b i < ((2 ^ n : Nat) : Int)
        · rw [if_pos h2]
          have e1 : mendD n b i = .int 0 := by unfold mendD; rw [if_neg (by omega), if_neg h1]
          rw [e1] at out
          rw [← out]
          exact ⟨by simp; omega, hk _ ⟨_, _, rfl⟩⟩
        · rw [if_neg h2]
          have e1 : mendD n b i = .none := by unfold mendD; rw [if_pos (by omega)]
          rw [e1] at out
          rw [← out]
          exact ⟨by simp; omega, hk _ ⟨_, _, rfl⟩⟩
  · obtain ⟨x1, y1, rfl⟩ := h
    simp only [xss, xs, ev, evA, evT, evR, evO, evF, evI, cVar, cBin, cIdx, cB1, cIsi, cCall, cCio, cCnw, tru, vv, toVal, cv, asD, setAt, putT, putTs, bindT, setAll, augW, binW, cmpW, b1W, b2W, truth, seqOf, retW, wipeE, restore, keepI, retOk, fin, endsOf, List.getElem?_cons_zero, List.getElem?_cons_succ, List.getD_cons_zero, List.getD_cons_succ, List.set_cons_zero, List.set_cons_succ, List.length_cons, List.length_nil, List.nil_append, List.cons_append, reduceIte, isi_ii, isi_ib, isi_tt, eqW_int, Bool.not_true, Bool.not_false, Bool.false_eq_true, Option.some.injEq, exists_eq_left', exists_eq_left, true_and, and_true, Bool.true_eq_false, Prod.mk.injEq, decide_eq_true_eq, and_assoc, exists_and_left, at3_0, at3_1, at3_2, ix3_0, ix3_2, Nat.reduceAdd, PyData.int.injEq, PyData.bool.injEq, Int.toNat_natCast, b22_2]
    exact hr _ _ (ret_vt (by simp))
theorem ok23 : BodyOk G Γ 6 b23 s23 := by
  refine body_pure fun a ha p E hn hr => ?_
  obtain ⟨n, b⟩ := a
  have h8 : n ≤ 8 := ha
  have h9 := two8 h8
  have h0n : (0 : Int) ≤ ((2 ^ n : Nat) : Int) := Int.natCast_nonneg _
  show xss G Γ b23_3 [some (.im (.tuple (T n b))), none, none, none, none, none] E
  simp only [xss, xs, ev, evA, evT, evR, evO, evF, evI, cVar, cBin, cIdx, cB1, cIsi, cCall, cCio, cCnw, tru, vv, toVal, cv, asD, setAt, putT, putTs, bindT, setAll, augW, binW, cmpW, b1W, b2W, truth, seqOf, retW, wipeE, restore, keepI, retOk, fin, endsOf, List.getElem?_cons_zero, List.getElem?_cons_succ, List.getD_cons_zero, List.getD_cons_succ, List.set_cons_zero, List.set_cons_succ, List.length_cons, List.length_nil, List.nil_append, List.cons_append, reduceIte, isi_ii, isi_ib, isi_tt, eqW_int, Bool.not_true, Bool.not_false, Bool.false_eq_true, Option.some.injEq, exists_eq_left', exists_eq_left, true_and, and_true, Bool.true_eq_false, Prod.mk.injEq, decide_eq_true_eq, and_assoc, exists_and_left, at3_0, at3_1, at3_2, ix3_0, ix3_2, Nat.reduceAdd, PyData.int.injEq, PyData.bool.injEq, Int.toNat_natCast, b23_3]
  simp only [xss, xs, ev, evA, evT, evR, evO, evF, evI, cVar, cBin, cIdx, cB1, cIsi, cCall, cCio, cCnw, tru, vv, toVal, cv, asD, setAt, putT, putTs, bindT, setAll, augW, binW, cmpW, b1W, b2W, truth, seqOf, retW, wipeE, restore, keepI, retOk, fin, endsOf, List.getElem?_cons_zero, List.getElem?_cons_succ, List.getD_cons_zero, List.getD_cons_succ, List.set_cons_zero, List.set_cons_succ, List.length_cons, List.length_nil, List.nil_append, List.cons_append, reduceIte, isi_ii, isi_ib, isi_tt, eqW_int, Bool.not_true, Bool.not_false, Bool.false_eq_true, Option.some.injEq, exists_eq_left', exists_eq_left, true_and, and_true, Bool.true_eq_false, Prod.mk.injEq, decide_eq_true_eq, and_assoc, exists_and_left, at3_0, at3_1, at3_2, ix3_0, ix3_2, Nat.reduceAdd, PyData.int.injEq, PyData.bool.injEq, Int.toNat_natCast, b23_2]
  rw [enum_T]
  refine forL_inv (fun i ρ => ∃ x y, ρ = [some (.im (.tuple (T n b))), some (.im (.int (S i fun p => S (2 ^ n) fun o => 1 - b2i (b p ^^ (b (p ^^^ o) ^^ b o))))), x, y, none, none]) ⟨none, none, rfl⟩ (fun i x ρ k hx h hk => ?_) fun ρ h => ?_
  · obtain ⟨x1, y1, rfl⟩ := h
    obtain ⟨hl, e⟩ := List.getElem?_eq_some_iff.mp hx
    simp at hl e
    subst e
    simp only [xss, xs, ev_var, ev_cst, ev_glo, ev_bin, ev_cmp, ev_chain, ev_and, ev_or, ev_not, ev_neg, ev_ife, ev_tup, ev_lst, ev_idx, ev_sl, ev_b1, ev_b2, ev_lrng, ev_isi, ev_call, ev_cio, ev_cnw, ev_lc, ev_pop, ev_tidx, ev_rep, evA, evT, evR, evO, evF, evI, cVar, cBin, cIdx, cB1, cIsi, cCall, cCio, cCnw, tru, vv, toVal, cv, asD, setAt, putT, putTs, bindT, setAll, augW, binW, cmpW, b1W, b2W, truth, seqOf, retW, wipeE, restore, keepI, retOk, fin, endsOf, List.getElem?_cons_zero, List.getElem?_cons_succ, List.getD_cons_zero, List.getD_cons_succ, List.set_cons_zero, List.set_cons_succ, List.length_cons, List.length_nil, List.nil_append, List.cons_append, reduceIte, isi_ii, isi_ib, isi_tt, eqW_int, Bool.not_true, Bool.not_false, Bool.false_eq_true, Option.some.injEq, exists_eq_left', exists_eq_left, true_and, and_true, Bool.true_eq_false, Prod.mk.injEq, decide_eq_true_eq, and_assoc, exists_and_left, at3_0, at3_1, at3_2, ix3_0, ix3_2, Nat.reduceAdd, PyData.int.injEq, PyData.bool.injEq, Int.toNat_natCast, b23_0]
    rw [enum_T]
    refine ⟨by simp; omega, fun q => ?_⟩
    refine compL_lstf (fun o => if (!(b i ^^ (b (i ^^^ o) ^^ b o))) = true then some (.int 1) else none) (fun o ho kk acc hk => ?_) ?_
    · have ho := List.mem_range.mp ho
      simp only [xss, xs, ev, evA, evT, evR, evO, evF, evI, cVar, cBin, cIdx, cB1, cIsi, cCall, cCio, cCnw, tru, vv, toVal, cv, asD, setAt, putT, putTs, bindT, setAll, augW, binW, cmpW, b1W, b2W, truth, seqOf, retW, wipeE, restore, keepI, retOk, fin, endsOf, List.getElem?_cons_zero, List.getElem?_cons_succ, List.getD_cons_zero, List.getD_cons_succ, List.set_cons_zero, List.set_cons_succ, List.length_cons, List.length_nil, List.nil_append, List.cons_append, reduceIte, isi_ii, isi_ib, isi_tt, eqW_int, Bool.not_true, Bool.not_false, Bool.false_eq_true, Option.some.injEq, exists_eq_left', exists_eq_left, true_and, and_true, Bool.true_eq_false, Prod.mk.injEq, decide_eq_true_eq, and_assoc, exists_and_left, at3_0, at3_1, at3_2, ix3_0, ix3_2, Nat.reduceAdd, PyData.int.injEq, PyData.bool.injEq, Int.toNat_natCast]
      rw [bx_nat]
      refine ⟨_, at_T b (xor_lt hl ho), ?_⟩
      simp only [xss, xs, ev, evA, evT, evR, evO, evF, evI, cVar, cBin, cIdx, cB1, cIsi, cCall, cCio, cCnw, tru, vv, toVal, cv, asD, setAt, putT, putTs, bindT, setAll, augW, binW, cmpW, b1W, b2W, truth, seqOf, retW, wipeE, restore, keepI, retOk, fin, endsOf, List.getElem?_cons_zero, List.getElem?_cons_succ, List.getD_cons_zero, List.getD_cons_succ, List.set_cons_zero, List.set_cons_succ, List.length_cons, List.length_nil, List.nil_append, List.cons_append, reduceIte, isi_ii, isi_ib, isi_tt, eqW_int, Bool.not_true, Bool.not_false, Bool.false_eq_true, Option.some.injEq, exists_eq_left', exists_eq_left, true_and, and_true, Bool.true_eq_false, Prod.mk.injEq, decide_eq_true_eq, and_assoc, exists_and_left, at3_0, at3_1, at3_2, ix3_0, ix3_2, Nat.reduceAdd, PyData.int.injEq, PyData.bool.injEq, Int.toNat_natCast]
      rw [eqW_bool, b2i_eq]
      cases q0 : b i <;> cases q1 : b (i ^^^ o) <;> cases q2 : b o <;> rw [q0, q1, q2] at hk <;> first | exact sim_nil hk | exact sim_one hk
    · simp only [xss, xs, ev, evA, evT, evR, evO, evF, evI, cVar, cBin, cIdx, cB1, cIsi, cCall, cCio, cCnw, tru, vv, toVal, cv, asD, setAt, putT, putTs, bindT, setAll, augW, binW, cmpW, b1W, b2W, truth, seqOf, retW, wipeE, restore, keepI, retOk, fin, endsOf, List.getElem?_cons_zero, List.getElem?_cons_succ, List.getD_cons_zero, List.getD_cons_succ, List.set_cons_zero, List.set_cons_succ, List.length_cons, List.length_nil, List.nil_append, List.cons_append, reduceIte, isi_ii, isi_ib, isi_tt, eqW_int, Bool.not_true, Bool.not_false, Bool.false_eq_true, Option.some.injEq, exists_eq_left', exists_eq_left, true_and, and_true, Bool.true_eq_false, Prod.mk.injEq, decide_eq_true_eq, and_assoc, exists_and_left, at3_0, at3_1, at3_2, ix3_0, ix3_2, Nat.reduceAdd, PyData.int.injEq, PyData.bool.injEq, Int.toNat_natCast]
      rw [count_S]
      have e : S (2 ^ n) (fun o => b2i (!(b i ^^ (b (i ^^^ o) ^^ b o)))) = S (2 ^ n) fun o => 1 - b2i (b i ^^ (b (i ^^^ o) ^^ b o)) := S_congr fun o _ => by
        generalize (b i ^^ (b (i ^^^ o) ^^ b o)) = z
        cases z <;> rfl
      rw [e, ← S_succ (f := fun p => S (2 ^ n) fun o => 1 - b2i (b p ^^ (b (p ^^^ o) ^^ b o)))]
      exact hk _ ⟨_, _, rfl⟩
  · obtain ⟨x1, y1, rfl⟩ := h
    simp only [xss, xs, ev, evA, evT, evR, evO, evF, evI, cVar, cBin, cIdx, cB1, cIsi, cCall, cCio, cCnw, tru, vv, toVal, cv, asD, setAt, putT, putTs, bindT, setAll, augW, binW, cmpW, b1W, b2W, truth, seqOf, retW, wipeE, restore, keepI, retOk, fin, endsOf, List.getElem?_cons_zero, List.getElem?_cons_succ, List.getD_cons_zero, List.getD_cons_succ, List.set_cons_zero, List.set_cons_succ, List.length_cons, List.length_nil, List.nil_append, List.cons_append, reduceIte, isi_ii, isi_ib, isi_tt, eqW_int, Bool.not_true, Bool.not_false, Bool.false_eq_true, Option.some.injEq, exists_eq_left', exists_eq_left, true_and, and_true, Bool.true_eq_false, Prod.mk.injEq, decide_eq_true_eq, and_assoc, exists_and_left, at3_0, at3_1, at3_2, ix3_0, ix3_2, Nat.reduceAdd, PyData.int.injEq, PyData.bool.injEq, Int.toNat_natCast, b23_1]
    exact hr _ _ (ret_v (by simp; rfl))
end K13

set_option Elab.async false
set_option linter.all false
set_option maxRecDepth 100000
set_option maxHeartbeats 4000000
namespace K13
open PySem L2 VL BF

def Bl (N : Nat) (zs : List Int) : Prop := zs.length = N ∧ ∀ z ∈ zs, z = 0 ∨ z = 1
theorem bl_T (n : Nat) (b : Nat → Bool) : Bl (2 ^ n) (bitsL n b) := ⟨by simp [bitsL], fun z hz => by
  obtain ⟨x, _, rfl⟩ := List.mem_map.mp hz
  cases b x <;> simp [b2i]⟩
theorem bl_is {n : Nat} {zs : List Int} (h : Bl (2 ^ n) zs) : ∃ b, intsD zs = T n b := by
  refine ⟨fun x => decide (zs.getD x 0 = 1), ?_⟩
  show intsD zs = intsD (bitsL n _)
  congr 1
  apply List.ext_getElem?
  intro i
  unfold bitsL
  rw [List.getElem?_map]
  by_cases hi : i < 2 ^ n
  · rw [List.getElem?_range hi, List.getElem?_eq_getElem (by rw [h.1]; exact hi)]
    have hm := h.2 _ (List.getElem_mem (l := zs) (n := i) (by rw [h.1]; exact hi))
    show _ = some (b2i (decide (zs.getD i 0 = 1)))
    rw [List.getD_eq_getElem?_getD, List.getElem?_eq_getElem (by rw [h.1]; exact hi)]
    show _ = some (b2i (decide (zs[i]'_ = 1)))
    rcases hm with e | e <;> rw [e] <;> rfl
  · rw [List.getElem?_eq_none (by rw [h.1]; omega), List.getElem?_eq_none (by simp; omega)]
    rfl
theorem at4 {i : Int} (h0 : 0 ≤ i) (h5 : i < 4) {a b c d : D} : atI [a, b, c, d] i = some a ∨ atI [a, b, c, d] i = some b ∨ atI [a, b, c, d] i = some c ∨ atI [a, b, c, d] i = some d := by
  have : i = 0 ∨ i = 1 ∨ i = 2 ∨ i = 3 := by omega
  rcases this with rfl | rfl | rfl | rfl
  · exact .inl rfl
  · exact .inr (.inl rfl)
  · exact .inr (.inr (.inl rfl))
  · exact .inr (.inr (.inr rfl))
theorem nat_of {r : Int} (h : 0 ≤ r) : ∃ k : Nat, r = k := ⟨r.toNat, by omega⟩
theorem ok21 : BodyOk G Γ 8 b21 s21 := by
  refine body_pot fun m hm c pds hp hc p E hr => ?_
  have hm : m ≤ 8 := hm
  have h9 := two8 hm
  have h0n : (0 : Int) ≤ ((2 ^ m : Nat) : Int) := Int.natCast_nonneg _
  have h1n : (1 : Int) ≤ ((2 ^ m : Nat) : Int) := by have := Nat.two_pow_pos m; omega
  show xss G Γ b21_8 [some (.ow p pds), some (.im (.int (m : Int))), none, none, none, none, none, none] E
  -- the last loop
  have tail : ∀ (c' : Nat) pds' q zs l5 (kind : Int), Pot c' pds' → c' + 100 ≤ c + 1000 → Bl (2 ^ m) zs → 0 ≤ kind → kind < 4 →
      xss G Γ b21_5 [some (.ow p pds'), some (.im (.int (m : Int))), some (.im (.int kind)), some (.im (.int ((2 ^ m : Nat) : Int))), some (.ow q (intsD zs)), l5, none, none] E := fun c' pds' q zs l5 kind hp' hc' hz k0 k4 => by
    simp only [xss, xs, ev, evA, evT, evR, evO, evF, evI, cVar, cBin, cIdx, cB1, cIsi, cCall, cCio, cCnw, tru, vv, toVal, cv, asD, setAt, putT, putTs, bindT, setAll, augW, binW, cmpW, b1W, b2W, truth, seqOf, retW, wipeE, restore, keepI, retOk, fin, endsOf, List.getElem?_cons_zero, List.getElem?_cons_succ, List.getD_cons_zero, List.getD_cons_succ, List.set_cons_zero, List.set_cons_succ, List.length_cons, List.length_nil, List.nil_append, List.cons_append, reduceIte, isi_ii, isi_ib, isi_tt, eqW_int, Bool.not_true, Bool.not_false, Bool.false_eq_true, Option.some.injEq, exists_eq_left', exists_eq_left, true_and, and_true, Bool.true_eq_false, Prod.mk.injEq, decide_eq_true_eq, and_assoc, exists_and_left, at3_0, at3_1, at3_2, ix3_0, ix3_2, Nat.reduceAdd, PyData.int.injEq, PyData.bool.injEq, Int.toNat_natCast, b21_5, f14, i14]
    have key : ∀ u : Int, 1 ≤ u → u ≤ 90 → takeS.run pds' [.int u] (fun d pds' => retW (Γ 14).fr d fun r => toVal r [some (.ow p pds'), some (.im (.int (m : Int))), some (.im (.int kind)), some (.im (.int ((2 ^ m : Nat) : Int))), some (.ow q (intsD zs)), l5, none, none] fun d ρ1 => match d with
        | .int n => -(2 ^ 62) ≤ n ∧ n < 2 ^ 62 ∧ forL [6] (xss G Γ b21_3) ((List.range n.toNat).map fun i => PyData.int (i : Nat)) ρ1 ⟨fun ρ' => xss G Γ b21_4 ρ' E, E.rt, E.bk, E.ct⟩
        | _ => False) := fun u hu hu2 => by
      refine run_pot hp' (by omega) u rfl ⟨hu, by omega⟩ fun d pds1 hd hp1 => ?_
      obtain ⟨r, rfl, r0, r1⟩ := hd
      simp only [xss, xs, ev, evA, evT, evR, evO, evF, evI, cVar, cBin, cIdx, cB1, cIsi, cCall, cCio, cCnw, tru, vv, toVal, cv, asD, setAt, putT, putTs, bindT, setAll, augW, binW, cmpW, b1W, b2W, truth, seqOf, retW, wipeE, restore, keepI, retOk, fin, endsOf, List.getElem?_cons_zero, List.getElem?_cons_succ, List.getD_cons_zero, List.getD_cons_succ, List.set_cons_zero, List.set_cons_succ, List.length_cons, List.length_nil, List.nil_append, List.cons_append, reduceIte, isi_ii, isi_ib, isi_tt, eqW_int, Bool.not_true, Bool.not_false, Bool.false_eq_true, Option.some.injEq, exists_eq_left', exists_eq_left, true_and, and_true, Bool.true_eq_false, Prod.mk.injEq, decide_eq_true_eq, and_assoc, exists_and_left, at3_0, at3_1, at3_2, ix3_0, ix3_2, Nat.reduceAdd, PyData.int.injEq, PyData.bool.injEq, Int.toNat_natCast, f14]
      refine ⟨by omega, by omega, ?_⟩
      refine forL_inv (fun i ρ => ∃ pds' zs l5 l6, ρ = [some (.ow p pds'), some (.im (.int (m : Int))), some (.im (.int kind)), some (.im (.int ((2 ^ m : Nat) : Int))), some (.ow q (intsD zs)), l5, l6, none] ∧ Pot (c' + 1 + i) pds' ∧ Bl (2 ^ m) zs) ⟨pds1, zs, l5, none, rfl, hp1, hz⟩ (fun i x ρ k hx h hk => ?_) fun ρ h => ?_
      · obtain ⟨pds2, zs, l5, l6, rfl, hp2, hz⟩ := h
        have hi : (i : Int) < r := by
          have := (List.getElem?_eq_some_iff.mp hx).1
          simp at this
          omega
        simp only [xss, xs, ev, evA, evT, evR, evO, evF, evI, cVar, cBin, cIdx, cB1, cIsi, cCall, cCio, cCnw, tru, vv, toVal, cv, asD, setAt, putT, putTs, bindT, setAll, augW, binW, cmpW, b1W, b2W, truth, seqOf, retW, wipeE, restore, keepI, retOk, fin, endsOf, List.getElem?_cons_zero, List.getElem?_cons_succ, List.getD_cons_zero, List.getD_cons_succ, List.set_cons_zero, List.set_cons_succ, List.length_cons, List.length_nil, List.nil_append, List.cons_append, reduceIte, isi_ii, isi_ib, isi_tt, eqW_int, Bool.not_true, Bool.not_false, Bool.false_eq_true, Option.some.injEq, exists_eq_left', exists_eq_left, true_and, and_true, Bool.true_eq_false, Prod.mk.injEq, decide_eq_true_eq, and_assoc, exists_and_left, at3_0, at3_1, at3_2, ix3_0, ix3_2, Nat.reduceAdd, PyData.int.injEq, PyData.bool.injEq, Int.toNat_natCast, b21_3, f14, i14]
        refine run_pot hp2 (by omega) _ rfl ⟨h1n, by omega⟩ fun d pds3 hd hp3 => ?_
        obtain ⟨w, rfl, w0, w1⟩ := hd
        obtain ⟨w, rfl⟩ := nat_of w0
        have hw : w < zs.length := by rw [hz.1]; omega
        simp only [xss, xs, ev, evA, evT, evR, evO, evF, evI, cVar, cBin, cIdx, cB1, cIsi, cCall, cCio, cCnw, tru, vv, toVal, cv, asD, setAt, putT, putTs, bindT, setAll, augW, binW, cmpW, b1W, b2W, truth, seqOf, retW, wipeE, restore, keepI, retOk, fin, endsOf, List.getElem?_cons_zero, List.getElem?_cons_succ, List.getD_cons_zero, List.getD_cons_succ, List.set_cons_zero, List.set_cons_succ, List.length_cons, List.length_nil, List.nil_append, List.cons_append, reduceIte, isi_ii, isi_ib, isi_tt, eqW_int, Bool.not_true, Bool.not_false, Bool.false_eq_true, Option.some.injEq, exists_eq_left', exists_eq_left, true_and, and_true, Bool.true_eq_false, Prod.mk.injEq, decide_eq_true_eq, and_assoc, exists_and_left, at3_0, at3_1, at3_2, ix3_0, ix3_2, Nat.reduceAdd, PyData.int.injEq, PyData.bool.injEq, Int.toNat_natCast, b21_2]
        refine ⟨_, ints_at rfl hw, ?_⟩
        simp only [xss, xs, ev, evA, evT, evR, evO, evF, evI, cVar, cBin, cIdx, cB1, cIsi, cCall, cCio, cCnw, tru, vv, toVal, cv, asD, setAt, putT, putTs, bindT, setAll, augW, binW, cmpW, b1W, b2W, truth, seqOf, retW, wipeE, restore, keepI, retOk, fin, endsOf, List.getElem?_cons_zero, List.getElem?_cons_succ, List.getD_cons_zero, List.getD_cons_succ, List.set_cons_zero, List.set_cons_succ, List.length_cons, List.length_nil, List.nil_append, List.cons_append, reduceIte, isi_ii, isi_ib, isi_tt, eqW_int, Bool.not_true, Bool.not_false, Bool.false_eq_true, Option.some.injEq, exists_eq_left', exists_eq_left, true_and, and_true, Bool.true_eq_false, Prod.mk.injEq, decide_eq_true_eq, and_assoc, exists_and_left, at3_0, at3_1, at3_2, ix3_0, ix3_2, Nat.reduceAdd, PyData.int.injEq, PyData.bool.injEq, Int.toNat_natCast]
        refine ⟨w, ix_nat rfl (by rw [ints_len]; exact hw), ?_⟩
        rw [ints_set]
        refine hk _ ⟨pds3, _, _, _, rfl, hp3.up (by omega), by rw [List.length_set]; exact hz.1, fun z mz => ?_⟩
        rcases List.mem_or_eq_of_mem_set mz with q1 | q1
        · exact hz.2 z q1
        · have := hz.2 _ (List.getElem_mem hw)
          omega
      · obtain ⟨pds2, zs, l5, l6, rfl, hp2, hz⟩ := h
        have hl : ((List.range r.toNat).map fun i => PyData.int (i : Nat)).length ≤ 90 := by simp; omega
        obtain ⟨b, eb⟩ := bl_is hz
        simp only [xss, xs, ev_var, ev_cst, ev_glo, ev_bin, ev_cmp, ev_chain, ev_and, ev_or, ev_not, ev_neg, ev_ife, ev_tup, ev_lst, ev_idx, ev_sl, ev_b1, ev_b2, ev_lrng, ev_isi, ev_call, ev_cio, ev_cnw, ev_lc, ev_pop, ev_tidx, ev_rep, evA, evT, evR, evO, evF, evI, cVar, cBin, cIdx, cB1, cIsi, cCall, cCio, cCnw, tru, vv, toVal, cv, asD, setAt, putT, putTs, bindT, setAll, augW, binW, cmpW, b1W, b2W, truth, seqOf, retW, wipeE, restore, keepI, retOk, fin, endsOf, List.getElem?_cons_zero, List.getElem?_cons_succ, List.getD_cons_zero, List.getD_cons_succ, List.set_cons_zero, List.set_cons_succ, List.length_cons, List.length_nil, List.nil_append, List.cons_append, reduceIte, isi_ii, isi_ib, isi_tt, eqW_int, Bool.not_true, Bool.not_false, Bool.false_eq_true, Option.some.injEq, exists_eq_left', exists_eq_left, true_and, and_true, Bool.true_eq_false, Prod.mk.injEq, decide_eq_true_eq, and_assoc, exists_and_left, at3_0, at3_1, at3_2, ix3_0, ix3_2, Nat.reduceAdd, PyData.int.injEq, PyData.bool.injEq, Int.toNat_natCast, b21_4]
        rw [eb]
        refine ⟨by rw [len_T]; omega, fun q2 => ?_⟩
        refine compL_T (fun x => PyData.int (b2i (b x))) (fun x hx kk acc hk => ?_) ?_
        · simp only [xss, xs, ev, evA, evT, evR, evO, evF, evI, cVar, cBin, cIdx, cB1, cIsi, cCall, cCio, cCnw, tru, vv, toVal, cv, asD, setAt, putT, putTs, bindT, setAll, augW, binW, cmpW, b1W, b2W, truth, seqOf, retW, wipeE, restore, keepI, retOk, fin, endsOf, List.getElem?_cons_zero, List.getElem?_cons_succ, List.getD_cons_zero, List.getD_cons_succ, List.set_cons_zero, List.set_cons_succ, List.length_cons, List.length_nil, List.nil_append, List.cons_append, reduceIte, isi_ii, isi_ib, isi_tt, eqW_int, Bool.not_true, Bool.not_false, Bool.false_eq_true, Option.some.injEq, exists_eq_left', exists_eq_left, true_and, and_true, Bool.true_eq_false, Prod.mk.injEq, decide_eq_true_eq, and_assoc, exists_and_left, at3_0, at3_1, at3_2, ix3_0, ix3_2, Nat.reduceAdd, PyData.int.injEq, PyData.bool.injEq, Int.toNat_natCast]
          exact hk
        · rw [← T_eq]
          exact hr _ _ (ret_kvt ⟨b, rfl⟩ (hp2.up (by omega)))
    have h5 : CDivW ((2 ^ m : Nat) : Int) 5 := div_ok (by decide) (by decide)
    have h3 : CDivW ((2 ^ m : Nat) : Int) 3 := div_ok (by decide) (by decide)
    refine ⟨h5, h3, by decide, fun q0 => ?_⟩
    rcases at4 (a := .int 1) (b := .int 3) (c := .int (1 + ((2 ^ m : Nat) : Int) / 5)) (d := .int (1 + ((2 ^ m : Nat) : Int) / 3)) k0 k4 with h | h | h | h
    · exact ⟨_, h, key 1 (by decide) (by decide)⟩
    · exact ⟨_, h, key 3 (by decide) (by decide)⟩
    · exact ⟨_, h, key _ (by omega) (by omega)⟩
    · exact ⟨_, h, key _ (by omega) (by omega)⟩
  simp only [xss, xs, ev, evA, evT, evR, evO, evF, evI, cVar, cBin, cIdx, cB1, cIsi, cCall, cCio, cCnw, tru, vv, toVal, cv, asD, setAt, putT, putTs, bindT, setAll, augW, binW, cmpW, b1W, b2W, truth, seqOf, retW, wipeE, restore, keepI, retOk, fin, endsOf, List.getElem?_cons_zero, List.getElem?_cons_succ, List.getD_cons_zero, List.getD_cons_succ, List.set_cons_zero, List.set_cons_succ, List.length_cons, List.length_nil, List.nil_append, List.cons_append, reduceIte, isi_ii, isi_ib, isi_tt, eqW_int, Bool.not_true, Bool.not_false, Bool.false_eq_true, Option.some.injEq, exists_eq_left', exists_eq_left, true_and, and_true, Bool.true_eq_false, Prod.mk.injEq, decide_eq_true_eq, and_assoc, exists_and_left, at3_0, at3_1, at3_2, ix3_0, ix3_2, Nat.reduceAdd, PyData.int.injEq, PyData.bool.injEq, Int.toNat_natCast, b21_8, f14, i14]
  refine run_pot hp (by omega) 4 rfl ⟨by decide, by decide⟩ fun d pds1 hd hp1 => ?_
  obtain ⟨kind, rfl, k0, k4⟩ := hd
  rw [shl_nat]
  refine ⟨⟨by omega, by omega, by decide⟩, ?_⟩
  simp only [xss, xs, ev, evA, evT, evR, evO, evF, evI, cVar, cBin, cIdx, cB1, cIsi, cCall, cCio, cCnw, tru, vv, toVal, cv, asD, setAt, putT, putTs, bindT, setAll, augW, binW, cmpW, b1W, b2W, truth, seqOf, retW, wipeE, restore, keepI, retOk, fin, endsOf, List.getElem?_cons_zero, List.getElem?_cons_succ, List.getD_cons_zero, List.getD_cons_succ, List.set_cons_zero, List.set_cons_succ, List.length_cons, List.length_nil, List.nil_append, List.cons_append, reduceIte, isi_ii, isi_ib, isi_tt, eqW_int, Bool.not_true, Bool.not_false, Bool.false_eq_true, Option.some.injEq, exists_eq_left', exists_eq_left, true_and, and_true, Bool.true_eq_false, Prod.mk.injEq, decide_eq_true_eq, and_assoc, exists_and_left, at3_0, at3_1, at3_2, ix3_0, ix3_2, Nat.reduceAdd, PyData.int.injEq, PyData.bool.injEq, Int.toNat_natCast, b21_7, f14, i14, f19, i19]
  refine run_pot hp1 (by omega) _ rfl ⟨h1n, by omega⟩ fun d pds2 hd hp2 => ?_
  obtain ⟨k, rfl, q0, q1⟩ := hd
  obtain ⟨k, rfl⟩ := nat_of q0
  refine run_pure (a := (m, k)) rfl ⟨hm, by show k < 2 ^ m; omega⟩ ?_
  simp only [xss, xs, ev, evA, evT, evR, evO, evF, evI, cVar, cBin, cIdx, cB1, cIsi, cCall, cCio, cCnw, tru, vv, toVal, cv, asD, setAt, putT, putTs, bindT, setAll, augW, binW, cmpW, b1W, b2W, truth, seqOf, retW, wipeE, restore, keepI, retOk, fin, endsOf, List.getElem?_cons_zero, List.getElem?_cons_succ, List.getD_cons_zero, List.getD_cons_succ, List.set_cons_zero, List.set_cons_succ, List.length_cons, List.length_nil, List.nil_append, List.cons_append, reduceIte, isi_ii, isi_ib, isi_tt, eqW_int, Bool.not_true, Bool.not_false, Bool.false_eq_true, Option.some.injEq, exists_eq_left', exists_eq_left, true_and, and_true, Bool.true_eq_false, Prod.mk.injEq, decide_eq_true_eq, and_assoc, exists_and_left, at3_0, at3_1, at3_2, ix3_0, ix3_2, Nat.reduceAdd, PyData.int.injEq, PyData.bool.injEq, Int.toNat_natCast]
  intro q
  simp only [xss, xs, ev, evA, evT, evR, evO, evF, evI, cVar, cBin, cIdx, cB1, cIsi, cCall, cCio, cCnw, tru, vv, toVal, cv, asD, setAt, putT, putTs, bindT, setAll, augW, binW, cmpW, b1W, b2W, truth, seqOf, retW, wipeE, restore, keepI, retOk, fin, endsOf, List.getElem?_cons_zero, List.getElem?_cons_succ, List.getD_cons_zero, List.getD_cons_succ, List.set_cons_zero, List.set_cons_succ, List.length_cons, List.length_nil, List.nil_append, List.cons_append, reduceIte, isi_ii, isi_ib, isi_tt, eqW_int, Bool.not_true, Bool.not_false, Bool.false_eq_true, Option.some.injEq, exists_eq_left', exists_eq_left, true_and, and_true, Bool.true_eq_false, Prod.mk.injEq, decide_eq_true_eq, and_assoc, exists_and_left, at3_0, at3_1, at3_2, ix3_0, ix3_2, Nat.reduceAdd, PyData.int.injEq, PyData.bool.injEq, Int.toNat_natCast, b21_6]
  by_cases hk0 : kind = 0
  · rw [if_pos hk0]
    simp only [xss, xs, ev_var, ev_cst, ev_glo, ev_bin, ev_cmp, ev_chain, ev_and, ev_or, ev_not, ev_neg, ev_ife, ev_tup, ev_lst, ev_idx, ev_sl, ev_b1, ev_b2, ev_lrng, ev_isi, ev_call, ev_cio, ev_cnw, ev_lc, ev_pop, ev_tidx, ev_rep, evA, evT, evR, evO, evF, evI, cVar, cBin, cIdx, cB1, cIsi, cCall, cCio, cCnw, tru, vv, toVal, cv, asD, setAt, putT, putTs, bindT, setAll, augW, binW, cmpW, b1W, b2W, truth, seqOf, retW, wipeE, restore, keepI, retOk, fin, endsOf, List.getElem?_cons_zero, List.getElem?_cons_succ, List.getD_cons_zero, List.getD_cons_succ, List.set_cons_zero, List.set_cons_succ, List.length_cons, List.length_nil, List.nil_append, List.cons_append, reduceIte, isi_ii, isi_ib, isi_tt, eqW_int, Bool.not_true, Bool.not_false, Bool.false_eq_true, Option.some.injEq, exists_eq_left', exists_eq_left, true_and, and_true, Bool.true_eq_false, Prod.mk.injEq, decide_eq_true_eq, and_assoc, exists_and_left, at3_0, at3_1, at3_2, ix3_0, ix3_2, Nat.reduceAdd, PyData.int.injEq, PyData.bool.injEq, Int.toNat_natCast, b21_1, b2W]
    have e24 : (if (24 : Int) < ((2 ^ m : Nat) : Int) then (24 : Int) else ((2 ^ m : Nat) : Int)) = ((min (2 ^ m) 24 : Nat) : Int) := by split <;> omega
    rw [e24, Int.toNat_natCast]
    have hmin : 1 ≤ min (2 ^ m) 24 ∧ min (2 ^ m) 24 ≤ 24 := by have := Nat.two_pow_pos m; omega
    refine ⟨by omega, by omega, by simp; omega, fun q1 => ?_⟩
    refine compL_inv (fun i ρ acc => ∃ pds' zs, ρ = [some (.ow p pds'), some (.im (.int (m : Int))), some (.im (.int kind)), some (.im (.int ((2 ^ m : Nat) : Int))), some (.ow q (T m fun x => par 9 (x &&& k))), none, none, none] ∧ acc = intsD zs ∧ Pot (c + 1 + 1 + i) pds' ∧ Bl i zs) ⟨pds2, [], rfl, rfl, hp2, rfl, fun z hz => by cases hz⟩ (fun i x ρ acc kk hx h hk => ?_) fun ρ acc h => ?_
    · obtain ⟨pds', zs, rfl, rfl, hp', hz⟩ := h
      have hi : i < 24 := by
        have := (List.getElem?_eq_some_iff.mp hx).1
        simp at this
        omega
      simp only [xss, xs, ev, evA, evT, evR, evO, evF, evI, cVar, cBin, cIdx, cB1, cIsi, cCall, cCio, cCnw, tru, vv, toVal, cv, asD, setAt, putT, putTs, bindT, setAll, augW, binW, cmpW, b1W, b2W, truth, seqOf, retW, wipeE, restore, keepI, retOk, fin, endsOf, List.getElem?_cons_zero, List.getElem?_cons_succ, List.getD_cons_zero, List.getD_cons_succ, List.set_cons_zero, List.set_cons_succ, List.length_cons, List.length_nil, List.nil_append, List.cons_append, reduceIte, isi_ii, isi_ib, isi_tt, eqW_int, Bool.not_true, Bool.not_false, Bool.false_eq_true, Option.some.injEq, exists_eq_left', exists_eq_left, true_and, and_true, Bool.true_eq_false, Prod.mk.injEq, decide_eq_true_eq, and_assoc, exists_and_left, at3_0, at3_1, at3_2, ix3_0, ix3_2, Nat.reduceAdd, PyData.int.injEq, PyData.bool.injEq, Int.toNat_natCast, f14, i14]
      refine run_pot hp' (by omega) 2 rfl ⟨by decide, by decide⟩ fun d pds3 hd hp3 => ?_
      obtain ⟨w, rfl, w0, w1⟩ := hd
      simp only [xss, xs, ev, evA, evT, evR, evO, evF, evI, cVar, cBin, cIdx, cB1, cIsi, cCall, cCio, cCnw, tru, vv, toVal, cv, asD, setAt, putT, putTs, bindT, setAll, augW, binW, cmpW, b1W, b2W, truth, seqOf, retW, wipeE, restore, keepI, retOk, fin, endsOf, List.getElem?_cons_zero, List.getElem?_cons_succ, List.getD_cons_zero, List.getD_cons_succ, List.set_cons_zero, List.set_cons_succ, List.length_cons, List.length_nil, List.nil_append, List.cons_append, reduceIte, isi_ii, isi_ib, isi_tt, eqW_int, Bool.not_true, Bool.not_false, Bool.false_eq_true, Option.some.injEq, exists_eq_left', exists_eq_left, true_and, and_true, Bool.true_eq_false, Prod.mk.injEq, decide_eq_true_eq, and_assoc, exists_and_left, at3_0, at3_1, at3_2, ix3_0, ix3_2, Nat.reduceAdd, PyData.int.injEq, PyData.bool.injEq, Int.toNat_natCast]
      refine hk _ _ ⟨pds3, zs ++ [w], rfl, by rw [ints_app]; rfl, hp3, by rw [List.length_append, hz.1]; rfl, fun z mz => ?_⟩
      rcases List.mem_append.mp mz with q2 | q2
      · exact hz.2 z q2
      · rw [List.mem_singleton.mp q2]
        omega
    · obtain ⟨pds', zs, rfl, rfl, hp', hz⟩ := h
      have hl : ((List.range (min (2 ^ m) 24)).map fun i => PyData.int (i : Nat)).length = min (2 ^ m) 24 := by simp
      rw [hl] at hz hp'
      simp only [xss, xs, ev_var, ev_cst, ev_glo, ev_bin, ev_cmp, ev_chain, ev_and, ev_or, ev_not, ev_neg, ev_ife, ev_tup, ev_lst, ev_idx, ev_sl, ev_b1, ev_b2, ev_lrng, ev_isi, ev_call, ev_cio, ev_cnw, ev_lc, ev_pop, ev_tidx, ev_rep, evA, evT, evR, evO, evF, evI, cVar, cBin, cIdx, cB1, cIsi, cCall, cCio, cCnw, tru, vv, toVal, cv, asD, setAt, putT, putTs, bindT, setAll, augW, binW, cmpW, b1W, b2W, truth, seqOf, retW, wipeE, restore, keepI, retOk, fin, endsOf, List.getElem?_cons_zero, List.getElem?_cons_succ, List.getD_cons_zero, List.getD_cons_succ, List.set_cons_zero, List.set_cons_succ, List.length_cons, List.length_nil, List.nil_append, List.cons_append, reduceIte, isi_ii, isi_ib, isi_tt, eqW_int, Bool.not_true, Bool.not_false, Bool.false_eq_true, Option.some.injEq, exists_eq_left', exists_eq_left, true_and, and_true, Bool.true_eq_false, Prod.mk.injEq, decide_eq_true_eq, and_assoc, exists_and_left, at3_0, at3_1, at3_2, ix3_0, ix3_2, Nat.reduceAdd, PyData.int.injEq, PyData.bool.injEq, Int.toNat_natCast, b21_0]
      refine ⟨by omega, by omega, by simp; omega, fun q2 => ?_⟩
      refine compL_inv (fun i ρ acc => ∃ ws, ρ = [some (.ow p pds'), some (.im (.int (m : Int))), some (.im (.int kind)), some (.im (.int ((2 ^ m : Nat) : Int))), some (.ow q1 (intsD zs)), none, none, none] ∧ acc = intsD ws ∧ Bl i ws) ⟨[], rfl, rfl, rfl, fun z hz => by cases hz⟩ (fun i x ρ acc kk hx h hk => ?_) fun ρ acc h => ?_
      · obtain ⟨ws, rfl, rfl, hw⟩ := h
        obtain ⟨hl2, e⟩ := List.getElem?_eq_some_iff.mp hx
        simp at hl2 e
        subst e
        simp only [xss, xs, ev, evA, evT, evR, evO, evF, evI, cVar, cBin, cIdx, cB1, cIsi, cCall, cCio, cCnw, tru, vv, toVal, cv, asD, setAt, putT, putTs, bindT, setAll, augW, binW, cmpW, b1W, b2W, truth, seqOf, retW, wipeE, restore, keepI, retOk, fin, endsOf, List.getElem?_cons_zero, List.getElem?_cons_succ, List.getD_cons_zero, List.getD_cons_succ, List.set_cons_zero, List.set_cons_succ, List.length_cons, List.length_nil, List.nil_append, List.cons_append, reduceIte, isi_ii, isi_ib, isi_tt, eqW_int, Bool.not_true, Bool.not_false, Bool.false_eq_true, Option.some.injEq, exists_eq_left', exists_eq_left, true_and, and_true, Bool.true_eq_false, Prod.mk.injEq, decide_eq_true_eq, and_assoc, exists_and_left, at3_0, at3_1, at3_2, ix3_0, ix3_2, Nat.reduceAdd, PyData.int.injEq, PyData.bool.injEq, Int.toNat_natCast, ints_len]
        rw [hz.1]
        have hmod := mod_in (i := (i : Int) * 7 + (i : Int) / 5) (m := ((min (2 ^ m) 24 : Nat) : Int)) (by omega)
        obtain ⟨j, hj⟩ := nat_of hmod.1
        have hjl : j < zs.length := by rw [hz.1]; omega
        refine ⟨mul_r (by decide) (by decide), div_ok (by decide) (by decide), by omega, _, ints_at hj hjl, ?_⟩
        · refine hk _ _ ⟨ws ++ [zs[j]], rfl, by rw [ints_app]; rfl, by rw [List.length_append, hw.1]; rfl, fun z mz => ?_⟩
          rcases List.mem_append.mp mz with q3 | q3
          · exact hw.2 z q3
          · rw [List.mem_singleton.mp q3]
            exact hz.2 _ (List.getElem_mem hjl)
      · obtain ⟨ws, rfl, rfl, hw⟩ := h
        have hl2 : ((List.range (2 ^ m)).map fun i => PyData.int (i : Nat)).length = 2 ^ m := by simp
        rw [hl2] at hw
        exact tail _ _ _ _ _ _ hp' (by omega) hw k0 k4
  · rw [if_neg hk0]
    exact tail _ _ _ _ _ _ hp2 (by omega) (bl_T m _) k0 k4
end K13

set_option Elab.async false
set_option linter.all false
set_option maxRecDepth 100000
set_option maxHeartbeats 4000000
namespace K13
open PySem L2 VL BF

theorem dist_mem {n : Nat} {b : Nat → Bool} {l : Int} (h : l ∈ dist n b) : ∃ m, m < 2 ^ n ∧ l = hd n b m := by
  obtain ⟨m, hm, rfl⟩ := List.mem_map.mp h
  exact ⟨m, List.mem_range.mp hm, rfl⟩
theorem mem_dist {n m : Nat} {b : Nat → Bool} (h : m < 2 ^ n) : hd n b m ∈ dist n b := List.mem_map.mpr ⟨m, List.mem_range.mpr h, rfl⟩
theorem nice_dist {k : Nat} (n : Nat) (b : Nat → Bool) : Nice (k + 1) (.tuple (intsD (dist n b))) := nice_tup (nice_ints _)
theorem nice_T {k : Nat} (n : Nat) (b : Nat → Bool) : Nice (k + 1) (.tuple (T n b)) := nice_tup (nice_ints _)
theorem nice_mend {k : Nat} (n : Nat) (b : Nat → Bool) : Nice (k + 1) (.tuple ((List.range (2 ^ n)).map (mendD n b))) := nice_tup fun d h => by
  obtain ⟨p, _, rfl⟩ := List.mem_map.mp h
  unfold mendD
  split
  · exact nice_none
  · exact nice_int _
theorem nice_masks {k : Nat} (ds : List Int) (l : Int) : NiceL k (masks ds l) := fun d h => by
  obtain ⟨x, hx, e⟩ := List.mem_filterMap.mp h
  obtain ⟨i, y, hy, rfl⟩ := enum_mem hx
  obtain ⟨z, hz, rfl⟩ := get_ints hy
  unfold pick at e
  dsimp only at e
  split at e
  · cases e
    exact nice_int _
  · cases e
theorem cube (x : Int) : x ^ (3 : Int).toNat = x * x * x := by
  show x ^ 3 = _
  rw [Int.pow_succ, Int.pow_succ, Int.pow_succ, Int.pow_zero, Int.one_mul]
theorem sum_cubes (n : Nat) (b : Nat → Bool) : ((dist n b).map fun z => (((2 ^ n : Nat) : Int) - 2 * z) ^ (3 : Int).toNat).sum = S (2 ^ n) fun m => (((2 ^ n : Nat) : Int) - 2 * hd n b m) * (((2 ^ n : Nat) : Int) - 2 * hd n b m) * (((2 ^ n : Nat) : Int) - 2 * hd n b m) := by
  unfold dist
  rw [List.map_map]
  unfold BF.S
  congr 1
  exact List.map_congr_left fun m _ => cube _
theorem mend_T {n m : Nat} {b : Nat → Bool} (h : 4 * hd n b m < ((2 ^ n : Nat) : Int)) : (List.range (2 ^ n)).map (mendD n b) = T n fun x => par 9 (x &&& m) := by
  rw [T_eq]
  refine List.map_congr_left fun p hp => ?_
  have hp := List.mem_range.mp hp
  obtain ⟨h1, h2⟩ := mend_far b hp h
  unfold mendD
  rw [Nat.and_comm p m]
  cases q : par 9 (m &&& p)
  · have := h1 q
    rw [if_neg (by omega), if_neg (by omega)]
    rfl
  · have := h2 q
    rw [if_neg (by omega), if_pos (by omega)]
    rfl
abbrev e24 (p : Addr) (pds : List D) (n : Nat) (b : Nat → Bool) (r : List (Option SV)) : VL.Env := some (.ow p pds) :: some (.im (.tuple (T n b))) :: some (.im (.int (n : Int))) :: some (.im (.int ((2 ^ n : Nat) : Int))) :: some (.tp (intsD (dist n b))) :: r
theorem t24_7 {p : Addr} {pds : List D} {n : Nat} {b : Nat → Bool} {E : EndsD} {l5 l7 l9 l13 : Option SV} {R M : Nat} (h8 : n ≤ 8) (hR : R ≤ 40) (hM : M < 2 ^ n) (hE : ∀ ρ, E.rt (.v (.bool true)) (some (.ow p pds) :: ρ)) :
    xss G Γ b24_7 (e24 p pds n b [l5, some (.im (.int (M : Int))), l7, some (.im (.int (letF n b))), l9, some (.im (.int (R : Int))), some (.im (.int (letF n b ^ R))), some (.im (.int ((((2 ^ n : Nat) : Int) * ((2 ^ n : Nat) : Int)) ^ R))), l13]) E := by
  simp only [xss, xs, ev, evA, evT, evR, evO, evF, evI, cVar, cBin, cIdx, cB1, cIsi, cCall, cCio, cCnw, tru, vv, toVal, cv, asD, setAt, putT, putTs, bindT, setAll, augW, binW, cmpW, b1W, b2W, truth, seqOf, retW, wipeE, restore, keepI, retOk, fin, endsOf, List.getElem?_cons_zero, List.getElem?_cons_succ, List.getD_cons_zero, List.getD_cons_succ, List.set_cons_zero, List.set_cons_succ, List.length_cons, List.length_nil, List.nil_append, List.cons_append, reduceIte, isi_ii, isi_ib, isi_tt, eqW_int, Bool.not_true, Bool.not_false, Bool.false_eq_true, Option.some.injEq, exists_eq_left', exists_eq_left, true_and, and_true, Bool.true_eq_false, Prod.mk.injEq, decide_eq_true_eq, and_assoc, exists_and_left, at3_0, at3_1, at3_2, ix3_0, ix3_2, Nat.reduceAdd, PyData.int.injEq, PyData.bool.injEq, Int.toNat_natCast, b24_7, f12, i12, f6, i6, f19, i19]
  refine run_pure (a := ((n, b), R)) rfl ⟨h8, hR⟩ ?_
  refine ⟨by decide, eq_same (nice_tup (nice_cons (nice_int _) (nice_cons (nice_int _) nice_nil)) : Nice 1 _) rfl (by decide) ?_⟩
  simp only [xss, xs, ev, evA, evT, evR, evO, evF, evI, cVar, cBin, cIdx, cB1, cIsi, cCall, cCio, cCnw, tru, vv, toVal, cv, asD, setAt, putT, putTs, bindT, setAll, augW, binW, cmpW, b1W, b2W, truth, seqOf, retW, wipeE, restore, keepI, retOk, fin, endsOf, List.getElem?_cons_zero, List.getElem?_cons_succ, List.getD_cons_zero, List.getD_cons_succ, List.set_cons_zero, List.set_cons_succ, List.length_cons, List.length_nil, List.nil_append, List.cons_append, reduceIte, isi_ii, isi_ib, isi_tt, eqW_int, Bool.not_true, Bool.not_false, Bool.false_eq_true, Option.some.injEq, exists_eq_left', exists_eq_left, true_and, and_true, Bool.true_eq_false, Prod.mk.injEq, decide_eq_true_eq, and_assoc, exists_and_left, at3_0, at3_1, at3_2, ix3_0, ix3_2, Nat.reduceAdd, PyData.int.injEq, PyData.bool.injEq, Int.toNat_natCast]
  refine run_pure (a := (n, M)) rfl ⟨h8, hM⟩ ?_
  refine run_pure (a := (n, M)) rfl ⟨h8, hM⟩ ?_
  exact eq_same (nice_T _ _ : Nice 1 _) rfl (by decide) (hE _)
theorem t24_11 {p : Addr} {pds : List D} {c : Nat} {n : Nat} {b : Nat → Bool} {E : EndsD} {l5 l9 : Option SV} (h8 : n ≤ 8) (hp : Pot c pds) (hc : c + 2 ≤ 10 ^ 8) (hE : ∀ pds' ρ, Pot (c + 2) pds' → E.rt (.v (.bool true)) (some (.ow p pds') :: ρ)) :
    xss G Γ b24_11 (e24 p pds n b [l5, none, none, some (.im (.int (letF n b))), l9, none, none, none, none]) E := by
  have h9 := two8 h8
  have h0n : (0 : Int) ≤ ((2 ^ n : Nat) : Int) := Int.natCast_nonneg _
  have h1n : (1 : Int) ≤ ((2 ^ n : Nat) : Int) := by have := Nat.two_pow_pos n; omega
  have lr := let_range n b
  have sr := sq_range h8
  simp only [xss, xs, ev, evA, evT, evR, evO, evF, evI, cVar, cBin, cIdx, cB1, cIsi, cCall, cCio, cCnw, tru, vv, toVal, cv, asD, setAt, putT, putTs, bindT, setAll, augW, binW, cmpW, b1W, b2W, truth, seqOf, retW, wipeE, restore, keepI, retOk, fin, endsOf, List.getElem?_cons_zero, List.getElem?_cons_succ, List.getD_cons_zero, List.getD_cons_succ, List.set_cons_zero, List.set_cons_succ, List.length_cons, List.length_nil, List.nil_append, List.cons_append, reduceIte, isi_ii, isi_ib, isi_tt, eqW_int, Bool.not_true, Bool.not_false, Bool.false_eq_true, Option.some.injEq, exists_eq_left', exists_eq_left, true_and, and_true, Bool.true_eq_false, Prod.mk.injEq, decide_eq_true_eq, and_assoc, exists_and_left, at3_0, at3_1, at3_2, ix3_0, ix3_2, Nat.reduceAdd, PyData.int.injEq, PyData.bool.injEq, Int.toNat_natCast, b24_11, f14, i14]
  refine run_pot hp (by omega) 41 rfl ⟨by decide, by decide⟩ fun d pds1 hd hp1 => ?_
  obtain ⟨R, rfl, r0, r1⟩ := hd
  obtain ⟨R, rfl⟩ := nat_of r0
  simp only [xss, xs, ev, evA, evT, evR, evO, evF, evI, cVar, cBin, cIdx, cB1, cIsi, cCall, cCio, cCnw, tru, vv, toVal, cv, asD, setAt, putT, putTs, bindT, setAll, augW, binW, cmpW, b1W, b2W, truth, seqOf, retW, wipeE, restore, keepI, retOk, fin, endsOf, List.getElem?_cons_zero, List.getElem?_cons_succ, List.getD_cons_zero, List.getD_cons_succ, List.set_cons_zero, List.set_cons_succ, List.length_cons, List.length_nil, List.nil_append, List.cons_append, reduceIte, isi_ii, isi_ib, isi_tt, eqW_int, Bool.not_true, Bool.not_false, Bool.false_eq_true, Option.some.injEq, exists_eq_left', exists_eq_left, true_and, and_true, Bool.true_eq_false, Prod.mk.injEq, decide_eq_true_eq, and_assoc, exists_and_left, at3_0, at3_1, at3_2, ix3_0, ix3_2, Nat.reduceAdd, PyData.int.injEq, PyData.bool.injEq, Int.toNat_natCast, b24_10]
  simp only [xss, xs, ev, evA, evT, evR, evO, evF, evI, cVar, cBin, cIdx, cB1, cIsi, cCall, cCio, cCnw, tru, vv, toVal, cv, asD, setAt, putT, putTs, bindT, setAll, augW, binW, cmpW, b1W, b2W, truth, seqOf, retW, wipeE, restore, keepI, retOk, fin, endsOf, List.getElem?_cons_zero, List.getElem?_cons_succ, List.getD_cons_zero, List.getD_cons_succ, List.set_cons_zero, List.set_cons_succ, List.length_cons, List.length_nil, List.nil_append, List.cons_append, reduceIte, isi_ii, isi_ib, isi_tt, eqW_int, Bool.not_true, Bool.not_false, Bool.false_eq_true, Option.some.injEq, exists_eq_left', exists_eq_left, true_and, and_true, Bool.true_eq_false, Prod.mk.injEq, decide_eq_true_eq, and_assoc, exists_and_left, at3_0, at3_1, at3_2, ix3_0, ix3_2, Nat.reduceAdd, PyData.int.injEq, PyData.bool.injEq, Int.toNat_natCast, b24_9]
  refine ⟨by omega, by omega, ?_⟩
  refine forL_inv (fun i ρ => ∃ l13, ρ = e24 p pds1 n b [l5, none, none, some (.im (.int (letF n b))), l9, some (.im (.int (R : Int))), some (.im (.int (letF n b ^ i))), some (.im (.int ((((2 ^ n : Nat) : Int) * ((2 ^ n : Nat) : Int)) ^ i))), l13]) ⟨none, by rw [Int.pow_zero, Int.pow_zero]⟩ (fun i x ρ k hx h hk => ?_) fun ρ h => ?_
  · obtain ⟨l13, rfl⟩ := h
    simp only [xss, xs, ev, evA, evT, evR, evO, evF, evI, cVar, cBin, cIdx, cB1, cIsi, cCall, cCio, cCnw, tru, vv, toVal, cv, asD, setAt, putT, putTs, bindT, setAll, augW, binW, cmpW, b1W, b2W, truth, seqOf, retW, wipeE, restore, keepI, retOk, fin, endsOf, List.getElem?_cons_zero, List.getElem?_cons_succ, List.getD_cons_zero, List.getD_cons_succ, List.set_cons_zero, List.set_cons_succ, List.length_cons, List.length_nil, List.nil_append, List.cons_append, reduceIte, isi_ii, isi_ib, isi_tt, eqW_int, Bool.not_true, Bool.not_false, Bool.false_eq_true, Option.some.injEq, exists_eq_left', exists_eq_left, true_and, and_true, Bool.true_eq_false, Prod.mk.injEq, decide_eq_true_eq, and_assoc, exists_and_left, at3_0, at3_1, at3_2, ix3_0, ix3_2, Nat.reduceAdd, PyData.int.injEq, PyData.bool.injEq, Int.toNat_natCast, b24_6]
    refine ⟨mul_r lr.1 (by omega), mul_r (by omega) (by omega), mul_r (by omega) (by omega), hk _ ⟨some (.im x), ?_⟩⟩
    rw [Int.pow_succ, Int.pow_succ, Int.mul_assoc]
  · obtain ⟨l13, rfl⟩ := h
    have hl : ((List.range R).map fun i => PyData.int (i : Nat)).length = R := by simp
    rw [hl]
    simp only [xss, xs, ev, evA, evT, evR, evO, evF, evI, cVar, cBin, cIdx, cB1, cIsi, cCall, cCio, cCnw, tru, vv, toVal, cv, asD, setAt, putT, putTs, bindT, setAll, augW, binW, cmpW, b1W, b2W, truth, seqOf, retW, wipeE, restore, keepI, retOk, fin, endsOf, List.getElem?_cons_zero, List.getElem?_cons_succ, List.getD_cons_zero, List.getD_cons_succ, List.set_cons_zero, List.set_cons_succ, List.length_cons, List.length_nil, List.nil_append, List.cons_append, reduceIte, isi_ii, isi_ib, isi_tt, eqW_int, Bool.not_true, Bool.not_false, Bool.false_eq_true, Option.some.injEq, exists_eq_left', exists_eq_left, true_and, and_true, Bool.true_eq_false, Prod.mk.injEq, decide_eq_true_eq, and_assoc, exists_and_left, at3_0, at3_1, at3_2, ix3_0, ix3_2, Nat.reduceAdd, PyData.int.injEq, PyData.bool.injEq, Int.toNat_natCast, b24_8, f14, i14]
    refine run_pot hp1 (by omega) _ rfl ⟨h1n, by omega⟩ fun d pds2 hd hp2 => ?_
    obtain ⟨M, rfl, m0, m1⟩ := hd
    obtain ⟨M, rfl⟩ := nat_of m0
    simp only [xss, xs, ev, evA, evT, evR, evO, evF, evI, cVar, cBin, cIdx, cB1, cIsi, cCall, cCio, cCnw, tru, vv, toVal, cv, asD, setAt, putT, putTs, bindT, setAll, augW, binW, cmpW, b1W, b2W, truth, seqOf, retW, wipeE, restore, keepI, retOk, fin, endsOf, List.getElem?_cons_zero, List.getElem?_cons_succ, List.getD_cons_zero, List.getD_cons_succ, List.set_cons_zero, List.set_cons_succ, List.length_cons, List.length_nil, List.nil_append, List.cons_append, reduceIte, isi_ii, isi_ib, isi_tt, eqW_int, Bool.not_true, Bool.not_false, Bool.false_eq_true, Option.some.injEq, exists_eq_left', exists_eq_left, true_and, and_true, Bool.true_eq_false, Prod.mk.injEq, decide_eq_true_eq, and_assoc, exists_and_left, at3_0, at3_1, at3_2, ix3_0, ix3_2, Nat.reduceAdd, PyData.int.injEq, PyData.bool.injEq, Int.toNat_natCast]
    exact t24_7 h8 (by omega) (by omega) fun ρ => hE _ _ hp2
theorem ok24 : BodyOk G Γ 14 b24 (tS3 10) := by
  refine body_pot fun a ha c pds hp hc p E hr => ?_
  obtain ⟨n, b⟩ := a
  have h8 : n ≤ 8 := ha
  have h9 := two8 h8
  have h0n : (0 : Int) ≤ ((2 ^ n : Nat) : Int) := Int.natCast_nonneg _
  have h1n : (1 : Int) ≤ ((2 ^ n : Nat) : Int) := by have := Nat.two_pow_pos n; omega
  have lr := let_range n b
  have sr := sq_range h8
  show xss G Γ b24_21 [some (.ow p pds), some (.im (.tuple (T n b))), some (.im (.int (n : Int))), none, none, none, none, none, none, none, none, none, none, none] E
  simp only [xss, xs, ev, evA, evT, evR, evO, evF, evI, cVar, cBin, cIdx, cB1, cIsi, cCall, cCio, cCnw, tru, vv, toVal, cv, asD, setAt, putT, putTs, bindT, setAll, augW, binW, cmpW, b1W, b2W, truth, seqOf, retW, wipeE, restore, keepI, retOk, fin, endsOf, List.getElem?_cons_zero, List.getElem?_cons_succ, List.getD_cons_zero, List.getD_cons_succ, List.set_cons_zero, List.set_cons_succ, List.length_cons, List.length_nil, List.nil_append, List.cons_append, reduceIte, isi_ii, isi_ib, isi_tt, eqW_int, Bool.not_true, Bool.not_false, Bool.false_eq_true, Option.some.injEq, exists_eq_left', exists_eq_left, true_and, and_true, Bool.true_eq_false, Prod.mk.injEq, decide_eq_true_eq, and_assoc, exists_and_left, at3_0, at3_1, at3_2, ix3_0, ix3_2, Nat.reduceAdd, PyData.int.injEq, PyData.bool.injEq, Int.toNat_natCast, b24_21, len_T, f20, i20]
  refine run_pure (a := (n, b)) rfl h8 ?_
  simp only [xss, xs, ev, evA, evT, evR, evO, evF, evI, cVar, cBin, cIdx, cB1, cIsi, cCall, cCio, cCnw, tru, vv, toVal, cv, asD, setAt, putT, putTs, bindT, setAll, augW, binW, cmpW, b1W, b2W, truth, seqOf, retW, wipeE, restore, keepI, retOk, fin, endsOf, List.getElem?_cons_zero, List.getElem?_cons_succ, List.getD_cons_zero, List.getD_cons_succ, List.set_cons_zero, List.set_cons_succ, List.length_cons, List.length_nil, List.nil_append, List.cons_append, reduceIte, isi_ii, isi_ib, isi_tt, eqW_int, Bool.not_true, Bool.not_false, Bool.false_eq_true, Option.some.injEq, exists_eq_left', exists_eq_left, true_and, and_true, Bool.true_eq_false, Prod.mk.injEq, decide_eq_true_eq, and_assoc, exists_and_left, at3_0, at3_1, at3_2, ix3_0, ix3_2, Nat.reduceAdd, PyData.int.injEq, PyData.bool.injEq, Int.toNat_natCast, b24_20, f7, i7]
  refine run_pure (a := (n, b)) rfl h8 ?_
  refine eq_same (nice_dist _ _ : Nice 1 _) rfl (by decide) ?_
  simp only [xss, xs, ev, evA, evT, evR, evO, evF, evI, cVar, cBin, cIdx, cB1, cIsi, cCall, cCio, cCnw, tru, vv, toVal, cv, asD, setAt, putT, putTs, bindT, setAll, augW, binW, cmpW, b1W, b2W, truth, seqOf, retW, wipeE, restore, keepI, retOk, fin, endsOf, List.getElem?_cons_zero, List.getElem?_cons_succ, List.getD_cons_zero, List.getD_cons_succ, List.set_cons_zero, List.set_cons_succ, List.length_cons, List.length_nil, List.nil_append, List.cons_append, reduceIte, isi_ii, isi_ib, isi_tt, eqW_int, Bool.not_true, Bool.not_false, Bool.false_eq_true, Option.some.injEq, exists_eq_left', exists_eq_left, true_and, and_true, Bool.true_eq_false, Prod.mk.injEq, decide_eq_true_eq, and_assoc, exists_and_left, at3_0, at3_1, at3_2, ix3_0, ix3_2, Nat.reduceAdd, PyData.int.injEq, PyData.bool.injEq, Int.toNat_natCast, b24_19]
  refine ⟨dist n b, rfl, dist_pos n b, fun l hl hmin => ?_⟩
  obtain ⟨m0, hm0, el⟩ := dist_mem hl
  simp only [xss, xs, ev_var, ev_cst, ev_glo, ev_bin, ev_cmp, ev_chain, ev_and, ev_or, ev_not, ev_neg, ev_ife, ev_tup, ev_lst, ev_idx, ev_sl, ev_b1, ev_b2, ev_lrng, ev_isi, ev_call, ev_cio, ev_cnw, ev_lc, ev_pop, ev_tidx, ev_rep, evA, evT, evR, evO, evF, evI, cVar, cBin, cIdx, cB1, cIsi, cCall, cCio, cCnw, tru, vv, toVal, cv, asD, setAt, putT, putTs, bindT, setAll, augW, binW, cmpW, b1W, b2W, truth, seqOf, retW, wipeE, restore, keepI, retOk, fin, endsOf, List.getElem?_cons_zero, List.getElem?_cons_succ, List.getD_cons_zero, List.getD_cons_succ, List.set_cons_zero, List.set_cons_succ, List.length_cons, List.length_nil, List.nil_append, List.cons_append, reduceIte, isi_ii, isi_ib, isi_tt, eqW_int, Bool.not_true, Bool.not_false, Bool.false_eq_true, Option.some.injEq, exists_eq_left', exists_eq_left, true_and, and_true, Bool.true_eq_false, Prod.mk.injEq, decide_eq_true_eq, and_assoc, exists_and_left, at3_0, at3_1, at3_2, ix3_0, ix3_2, Nat.reduceAdd, PyData.int.injEq, PyData.bool.injEq, Int.toNat_natCast, b24_18, f8, i8]
  refine run_gen (a := (n, b)) rfl h8 fun d hd => ?_
  obtain ⟨l', hl', hmin', rfl⟩ := hd
  have ell : l' = l := Int.le_antisymm (hmin' l hl) (hmin l' hl')
  subst ell
  refine ⟨by rw [List.length_mapIdx, ints_len, len_dist]; omega, fun q => ?_⟩
  refine compL_map (pick l') (fun x hx k acc hk => ?_) ?_
  · obtain ⟨i, y, hy, rfl⟩ := enum_mem hx
    obtain ⟨z, hz, rfl⟩ := get_ints hy
    simp only [xss, xs, ev, evA, evT, evR, evO, evF, evI, cVar, cBin, cIdx, cB1, cIsi, cCall, cCio, cCnw, tru, vv, toVal, cv, asD, setAt, putT, putTs, bindT, setAll, augW, binW, cmpW, b1W, b2W, truth, seqOf, retW, wipeE, restore, keepI, retOk, fin, endsOf, List.getElem?_cons_zero, List.getElem?_cons_succ, List.getD_cons_zero, List.getD_cons_succ, List.set_cons_zero, List.set_cons_succ, List.length_cons, List.length_nil, List.nil_append, List.cons_append, reduceIte, isi_ii, isi_ib, isi_tt, eqW_int, Bool.not_true, Bool.not_false, Bool.false_eq_true, Option.some.injEq, exists_eq_left', exists_eq_left, true_and, and_true, Bool.true_eq_false, Prod.mk.injEq, decide_eq_true_eq, and_assoc, exists_and_left, at3_0, at3_1, at3_2, ix3_0, ix3_2, Nat.reduceAdd, PyData.int.injEq, PyData.bool.injEq, Int.toNat_natCast]
    by_cases h : z = l'
    · rw [if_pos h]
      unfold pick at hk
      dsimp only at hk
      rw [if_pos h] at hk
      exact hk
    · rw [if_neg h]
      unfold pick at hk
      dsimp only at hk
      rw [if_neg h] at hk
      simpa using hk
  refine ⟨by decide, eq_same (nice_tup (nice_cons (nice_int _) (nice_cons (nice_tup (nice_masks _ _)) nice_nil)) : Nice 2 _) rfl (by decide) ?_⟩
  simp only [xss, xs, ev, evA, evT, evR, evO, evF, evI, cVar, cBin, cIdx, cB1, cIsi, cCall, cCio, cCnw, tru, vv, toVal, cv, asD, setAt, putT, putTs, bindT, setAll, augW, binW, cmpW, b1W, b2W, truth, seqOf, retW, wipeE, restore, keepI, retOk, fin, endsOf, List.getElem?_cons_zero, List.getElem?_cons_succ, List.getD_cons_zero, List.getD_cons_succ, List.set_cons_zero, List.set_cons_succ, List.length_cons, List.length_nil, List.nil_append, List.cons_append, reduceIte, isi_ii, isi_ib, isi_tt, eqW_int, Bool.not_true, Bool.not_false, Bool.false_eq_true, Option.some.injEq, exists_eq_left', exists_eq_left, true_and, and_true, Bool.true_eq_false, Prod.mk.injEq, decide_eq_true_eq, and_assoc, exists_and_left, at3_0, at3_1, at3_2, ix3_0, ix3_2, Nat.reduceAdd, PyData.int.injEq, PyData.bool.injEq, Int.toNat_natCast, b24_17, f10, i10]
  refine run_pure (a := (n, b)) rfl h8 ?_
  simp only [xss, xs, ev_var, ev_cst, ev_glo, ev_bin, ev_cmp, ev_chain, ev_and, ev_or, ev_not, ev_neg, ev_ife, ev_tup, ev_lst, ev_idx, ev_sl, ev_b1, ev_b2, ev_lrng, ev_isi, ev_call, ev_cio, ev_cnw, ev_lc, ev_pop, ev_tidx, ev_rep, evA, evT, evR, evO, evF, evI, cVar, cBin, cIdx, cB1, cIsi, cCall, cCio, cCnw, tru, vv, toVal, cv, asD, setAt, putT, putTs, bindT, setAll, augW, binW, cmpW, b1W, b2W, truth, seqOf, retW, wipeE, restore, keepI, retOk, fin, endsOf, List.getElem?_cons_zero, List.getElem?_cons_succ, List.getD_cons_zero, List.getD_cons_succ, List.set_cons_zero, List.set_cons_succ, List.length_cons, List.length_nil, List.nil_append, List.cons_append, reduceIte, isi_ii, isi_ib, isi_tt, eqW_int, Bool.not_true, Bool.not_false, Bool.false_eq_true, Option.some.injEq, exists_eq_left', exists_eq_left, true_and, and_true, Bool.true_eq_false, Prod.mk.injEq, decide_eq_true_eq, and_assoc, exists_and_left, at3_0, at3_1, at3_2, ix3_0, ix3_2, Nat.reduceAdd, PyData.int.injEq, PyData.bool.injEq, Int.toNat_natCast, b24_16]
  refine ⟨by rw [ints_len, len_dist]; omega, fun q2 => ?_⟩
  refine compL_lst (fun z => PyData.int ((((2 ^ n : Nat) : Int) - 2 * z) ^ (3 : Int).toNat)) (fun z hz kk acc hk => ?_) ?_
  · obtain ⟨m, hm, rfl⟩ := dist_mem hz
    have hr2 := hd_range n b m
    simp only [xss, xs, ev, evA, evT, evR, evO, evF, evI, cVar, cBin, cIdx, cB1, cIsi, cCall, cCio, cCnw, tru, vv, toVal, cv, asD, setAt, putT, putTs, bindT, setAll, augW, binW, cmpW, b1W, b2W, truth, seqOf, retW, wipeE, restore, keepI, retOk, fin, endsOf, List.getElem?_cons_zero, List.getElem?_cons_succ, List.getD_cons_zero, List.getD_cons_succ, List.set_cons_zero, List.set_cons_succ, List.length_cons, List.length_nil, List.nil_append, List.cons_append, reduceIte, isi_ii, isi_ib, isi_tt, eqW_int, Bool.not_true, Bool.not_false, Bool.false_eq_true, Option.some.injEq, exists_eq_left', exists_eq_left, true_and, and_true, Bool.true_eq_false, Prod.mk.injEq, decide_eq_true_eq, and_assoc, exists_and_left, at3_0, at3_1, at3_2, ix3_0, ix3_2, Nat.reduceAdd, PyData.int.injEq, PyData.bool.injEq, Int.toNat_natCast]
    exact ⟨mul_l (by decide) (by decide), cpow3n (by omega) (by omega), hk⟩
  have eqs : (dist n b).map (fun z => PyData.int ((((2 ^ n : Nat) : Int) - 2 * z) ^ (3 : Int).toNat)) = intsD ((dist n b).map fun z => (((2 ^ n : Nat) : Int) - 2 * z) ^ (3 : Int).toNat) := by
    unfold intsD
    rw [List.map_map]
    rfl
  rw [eqs]
  refine ⟨_, rfl, ?_⟩
  rw [sum_cubes]
  simp only [xss, xs, ev, evA, evT, evR, evO, evF, evI, cVar, cBin, cIdx, cB1, cIsi, cCall, cCio, cCnw, tru, vv, toVal, cv, asD, setAt, putT, putTs, bindT, setAll, augW, binW, cmpW, b1W, b2W, truth, seqOf, retW, wipeE, restore, keepI, retOk, fin, endsOf, List.getElem?_cons_zero, List.getElem?_cons_succ, List.getD_cons_zero, List.getD_cons_succ, List.set_cons_zero, List.set_cons_succ, List.length_cons, List.length_nil, List.nil_append, List.cons_append, reduceIte, isi_ii, isi_ib, isi_tt, eqW_int, Bool.not_true, Bool.not_false, Bool.false_eq_true, Option.some.injEq, exists_eq_left', exists_eq_left, true_and, and_true, Bool.true_eq_false, Prod.mk.injEq, decide_eq_true_eq, and_assoc, exists_and_left, at3_0, at3_1, at3_2, ix3_0, ix3_2, Nat.reduceAdd, PyData.int.injEq, PyData.bool.injEq, Int.toNat_natCast, b24_15]
  refine ⟨mul_l (by decide) (by decide), mul_l (by omega) (by omega), mul_l (by omega) (by omega), mul_l (by omega) (by omega), ?_⟩
  rw [decide_eq_true (let_cubes (by omega) b)]
  simp only [xss, xs, ev, evA, evT, evR, evO, evF, evI, cVar, cBin, cIdx, cB1, cIsi, cCall, cCio, cCnw, tru, vv, toVal, cv, asD, setAt, putT, putTs, bindT, setAll, augW, binW, cmpW, b1W, b2W, truth, seqOf, retW, wipeE, restore, keepI, retOk, fin, endsOf, List.getElem?_cons_zero, List.getElem?_cons_succ, List.getD_cons_zero, List.getD_cons_succ, List.set_cons_zero, List.set_cons_succ, List.length_cons, List.length_nil, List.nil_append, List.cons_append, reduceIte, isi_ii, isi_ib, isi_tt, eqW_int, Bool.not_true, Bool.not_false, Bool.false_eq_true, Option.some.injEq, exists_eq_left', exists_eq_left, true_and, and_true, Bool.true_eq_false, Prod.mk.injEq, decide_eq_true_eq, and_assoc, exists_and_left, at3_0, at3_1, at3_2, ix3_0, ix3_2, Nat.reduceAdd, PyData.int.injEq, PyData.bool.injEq, Int.toNat_natCast, b24_14, f23, i23, f11, i11, f22, i22]
  have rest : xss G Γ b24_13 (e24 p pds n b [some (.im (.int l')), none, none, some (.im (.int (letF n b))), some (.im (.int (S (2 ^ n) fun m => (((2 ^ n : Nat) : Int) - 2 * hd n b m) * (((2 ^ n : Nat) : Int) - 2 * hd n b m) * (((2 ^ n : Nat) : Int) - 2 * hd n b m)))), none, none, none, none]) E := by
    have go := t24_11 (p := p) (b := b) (E := E) (l5 := some (.im (.int l'))) (l9 := some (.im (.int (S (2 ^ n) fun m => (((2 ^ n : Nat) : Int) - 2 * hd n b m) * (((2 ^ n : Nat) : Int) - 2 * hd n b m) * (((2 ^ n : Nat) : Int) - 2 * hd n b m))))) h8 hp (by omega) fun pds' ρ hp' => hr _ _ (ret_kv rfl (hp'.up (by omega)))
    simp only [xss, xs, ev, evA, evT, evR, evO, evF, evI, cVar, cBin, cIdx, cB1, cIsi, cCall, cCio, cCnw, tru, vv, toVal, cv, asD, setAt, putT, putTs, bindT, setAll, augW, binW, cmpW, b1W, b2W, truth, seqOf, retW, wipeE, restore, keepI, retOk, fin, endsOf, List.getElem?_cons_zero, List.getElem?_cons_succ, List.getD_cons_zero, List.getD_cons_succ, List.set_cons_zero, List.set_cons_succ, List.length_cons, List.length_nil, List.nil_append, List.cons_append, reduceIte, isi_ii, isi_ib, isi_tt, eqW_int, Bool.not_true, Bool.not_false, Bool.false_eq_true, Option.some.injEq, exists_eq_left', exists_eq_left, true_and, and_true, Bool.true_eq_false, Prod.mk.injEq, decide_eq_true_eq, and_assoc, exists_and_left, at3_0, at3_1, at3_2, ix3_0, ix3_2, Nat.reduceAdd, PyData.int.injEq, PyData.bool.injEq, Int.toNat_natCast, b24_13]
    have hb := let_bound (n := n) (by omega) b (l := l') fun m hm => hmin' _ (mem_dist hm)
    refine ⟨mul_l (by omega) (by omega), mul_l (by omega) (by omega), ?_⟩
    rw [if_neg (by omega)]
    simp only [xss, xs, ev, evA, evT, evR, evO, evF, evI, cVar, cBin, cIdx, cB1, cIsi, cCall, cCio, cCnw, tru, vv, toVal, cv, asD, setAt, putT, putTs, bindT, setAll, augW, binW, cmpW, b1W, b2W, truth, seqOf, retW, wipeE, restore, keepI, retOk, fin, endsOf, List.getElem?_cons_zero, List.getElem?_cons_succ, List.getD_cons_zero, List.getD_cons_succ, List.set_cons_zero, List.set_cons_succ, List.length_cons, List.length_nil, List.nil_append, List.cons_append, reduceIte, isi_ii, isi_ib, isi_tt, eqW_int, Bool.not_true, Bool.not_false, Bool.false_eq_true, Option.some.injEq, exists_eq_left', exists_eq_left, true_and, and_true, Bool.true_eq_false, Prod.mk.injEq, decide_eq_true_eq, and_assoc, exists_and_left, at3_0, at3_1, at3_2, ix3_0, ix3_2, Nat.reduceAdd, PyData.int.injEq, PyData.bool.injEq, Int.toNat_natCast, b24_12, f11, i11, f6, i6]
    refine ⟨mul_l (by decide) (by decide), ?_⟩
    by_cases h4 : 4 * l' < ((2 ^ n : Nat) : Int)
    · rw [if_pos h4]
      refine run_pure (a := (n, b)) rfl h8 ?_
      refine ⟨dist n b, rfl, hl, ?_⟩
      have hix : (dist n b).idxOf l' < 2 ^ n := by
        have := List.idxOf_lt_length_of_mem hl
        rw [len_dist] at this
        exact this
      refine run_pure (a := (n, (dist n b).idxOf l')) rfl ⟨h8, hix⟩ ?_
      have e1 : hd n b ((dist n b).idxOf l') = l' := by
        have h1 : (dist n b)[(dist n b).idxOf l']'(List.idxOf_lt_length_of_mem hl) = l' := List.getElem_idxOf _
        have h2 : (dist n b)[(dist n b).idxOf l']'(List.idxOf_lt_length_of_mem hl) = hd n b ((dist n b).idxOf l') := by
          unfold dist
          rw [List.getElem_map, List.getElem_range]
        rw [← h2]
        exact h1
      refine eq_same (nice_mend _ _ : Nice 1 _) ?_ (by decide) ?_
      · exact congrArg PyData.tuple (mend_T (by rw [e1]; exact h4))
      · simp only [xss, xs, ev, evA, evT, evR, evO, evF, evI, cVar, cBin, cIdx, cB1, cIsi, cCall, cCio, cCnw, tru, vv, toVal, cv, asD, setAt, putT, putTs, bindT, setAll, augW, binW, cmpW, b1W, b2W, truth, seqOf, retW, wipeE, restore, keepI, retOk, fin, endsOf, List.getElem?_cons_zero, List.getElem?_cons_succ, List.getD_cons_zero, List.getD_cons_succ, List.set_cons_zero, List.set_cons_succ, List.length_cons, List.length_nil, List.nil_append, List.cons_append, reduceIte, isi_ii, isi_ib, isi_tt, eqW_int, Bool.not_true, Bool.not_false, Bool.false_eq_true, Option.some.injEq, exists_eq_left', exists_eq_left, true_and, and_true, Bool.true_eq_false, Prod.mk.injEq, decide_eq_true_eq, and_assoc, exists_and_left, at3_0, at3_1, at3_2, ix3_0, ix3_2, Nat.reduceAdd, PyData.int.injEq, PyData.bool.injEq, Int.toNat_natCast]
        exact go
    · rw [if_neg h4]
      exact go
  by_cases h64 : ((2 ^ n : Nat) : Int) ≤ 64
  · rw [if_pos h64]
    refine run_pure (a := (n, b)) rfl h8 ?_
    simp only [xss, xs, ev, evA, evT, evR, evO, evF, evI, cVar, cBin, cIdx, cB1, cIsi, cCall, cCio, cCnw, tru, vv, toVal, cv, asD, setAt, putT, putTs, bindT, setAll, augW, binW, cmpW, b1W, b2W, truth, seqOf, retW, wipeE, restore, keepI, retOk, fin, endsOf, List.getElem?_cons_zero, List.getElem?_cons_succ, List.getD_cons_zero, List.getD_cons_succ, List.set_cons_zero, List.set_cons_succ, List.length_cons, List.length_nil, List.nil_append, List.cons_append, reduceIte, isi_ii, isi_ib, isi_tt, eqW_int, Bool.not_true, Bool.not_false, Bool.false_eq_true, Option.some.injEq, exists_eq_left', exists_eq_left, true_and, and_true, Bool.true_eq_false, Prod.mk.injEq, decide_eq_true_eq, and_assoc, exists_and_left, at3_0, at3_1, at3_2, ix3_0, ix3_2, Nat.reduceAdd, PyData.int.injEq, PyData.bool.injEq, Int.toNat_natCast]
    refine run_pure (a := (n, b)) rfl h8 ?_
    refine run_pure (a := (n, b)) rfl h8 ?_
    refine eq_same (nice_mend _ _ : Nice 1 _) rfl (by decide) ?_
    simp only [xss, xs, ev, evA, evT, evR, evO, evF, evI, cVar, cBin, cIdx, cB1, cIsi, cCall, cCio, cCnw, tru, vv, toVal, cv, asD, setAt, putT, putTs, bindT, setAll, augW, binW, cmpW, b1W, b2W, truth, seqOf, retW, wipeE, restore, keepI, retOk, fin, endsOf, List.getElem?_cons_zero, List.getElem?_cons_succ, List.getD_cons_zero, List.getD_cons_succ, List.set_cons_zero, List.set_cons_succ, List.length_cons, List.length_nil, List.nil_append, List.cons_append, reduceIte, isi_ii, isi_ib, isi_tt, eqW_int, Bool.not_true, Bool.not_false, Bool.false_eq_true, Option.some.injEq, exists_eq_left', exists_eq_left, true_and, and_true, Bool.true_eq_false, Prod.mk.injEq, decide_eq_true_eq, and_assoc, exists_and_left, at3_0, at3_1, at3_2, ix3_0, ix3_2, Nat.reduceAdd, PyData.int.injEq, PyData.bool.injEq, Int.toNat_natCast]
    exact rest
  · rw [if_neg h64]
    exact rest
end K13

set_option Elab.async false
set_option linter.all false
set_option maxRecDepth 100000
set_option maxHeartbeats 4000000
namespace K13
open PySem L2 VL BF

theorem zip_T (n : Nat) (b c : Nat → Bool) : List.zipWith (fun x y => PyData.tuple [x, y]) (T n b) (T n c) = (List.range (2 ^ n)).map fun i => PyData.tuple [.int (b2i (b i)), .int (b2i (c i))] := by
  rw [T_eq, T_eq, List.zipWith_map]
  rw [List.zipWith_self]
theorem at_dist {n x : Nat} (b : Nat → Bool) (h : x < 2 ^ n) : atI (intsD (dist n b)) (x : Int) = some (.int (hd n b x)) := at_rng _ h
theorem dist_is {n : Nat} {b : Nat → Bool} {g : Nat → Int} (h : ∀ m, m < 2 ^ n → hd n b m = g m) : PyData.tuple (intsD (dist n b)) = .tuple ((List.range (2 ^ n)).map fun m => PyData.int (g m)) := by
  rw [rng_ints]
  unfold dist
  rw [map_rng h]
theorem T_is {n : Nat} {c : Nat → Bool} {g : Nat → Int} (h : ∀ x, x < 2 ^ n → b2i (c x) = g x) : (List.range (2 ^ n)).map (fun x => PyData.int (g x)) = T n c := by
  rw [rng_ints, ← map_rng h]
  rfl
theorem b2i_not (a : Bool) : 1 - b2i a = b2i (!a) := by cases a <;> rfl
theorem and_ne (x j : Nat) : (((x &&& 2 ^ j : Nat) : Int) != 0) = x.testBit j := by
  cases q : x.testBit j
  · rw [two_and0 q]
    rfl
  · rw [two_and q]
    have := Nat.two_pow_pos j
    have h : ((2 ^ j : Nat) : Int) ≠ 0 := by omega
    exact bne_iff_ne.mpr h
/-- which bits go where -/
def ordF (js : List Int) (t : Nat) : Nat := (js.getD t 0).toNat
theorem ord_at {js : List Int} {n t : Nat} (h : js.Perm ((List.range n).map fun i => ((i : Nat) : Int))) (ht : t < n) : atI (intsD js) (t : Int) = some (.int ((ordF js t : Nat) : Int)) ∧ ordF js t < n := by
  have hl : js.length = n := by have := h.length_eq; simpa using this
  have ht' : t < js.length := by omega
  have hm : js[t] ∈ (List.range n).map fun i => ((i : Nat) : Int) := h.mem_iff.mp (List.getElem_mem ht')
  obtain ⟨k, hk, e⟩ := List.mem_map.mp hm
  have hk := List.mem_range.mp hk
  have eo : ordF js t = k := by
    unfold ordF
    rw [List.getD_eq_getElem?_getD, List.getElem?_eq_getElem ht']
    show js[t].toNat = k
    rw [← e]
    omega
  rw [eo, ints_at rfl ht', ← e]
  exact ⟨rfl, hk⟩
theorem ord_inj {js : List Int} {n s t : Nat} (h : js.Perm ((List.range n).map fun i => ((i : Nat) : Int))) (hs : s < n) (ht : t < n) (e : ordF js s = ordF js t) : s = t := by
  have hl : js.length = n := by have := h.length_eq; simpa using this
  have nd : js.Nodup := h.symm.nodup (by
    rw [List.nodup_iff_pairwise_ne] at *
    rw [List.pairwise_map]
    exact (List.nodup_iff_pairwise_ne.mp (List.nodup_range (n := n))).imp fun h1 h2 => h1 (by omega))
  have a1 := (ord_at h hs).1
  have a2 := (ord_at h ht).1
  rw [ints_at rfl (by omega)] at a1 a2
  have x1 : js[s]'(by omega) = ((ordF js s : Nat) : Int) := PyData.int.inj (Option.some.inj a1)
  have x2 : js[t]'(by omega) = ((ordF js t : Nat) : Int) := PyData.int.inj (Option.some.inj a2)
  have e1 : js[s]'(by omega) = js[t]'(by omega) := by rw [x1, x2, e]
  have pw := List.pairwise_iff_getElem.mp nd
  rcases Nat.lt_trichotomy s t with q | q | q
  · exact absurd e1 (pw s t (by omega) (by omega) q)
  · exact q
  · exact absurd e1.symm (pw t s (by omega) (by omega) q)
theorem sum_mov {o : Nat → Nat} {x : Nat} : ∀ {n : Nat}, (∀ s t, s < n → t < n → o s = o t → s = t) → ((List.range n).filterMap fun t => if x.testBit t = true then some ((2 ^ o t : Nat) : Int) else none).sum = ((mov n o x : Nat) : Int)
  | 0, _ => rfl
  | n + 1, inj => by
    rw [List.range_succ, List.filterMap_append, sum_app, sum_mov fun s t hs ht => inj s t (by omega) (by omega), mov_succ]
    have out : (mov n o x).testBit (o n) = false := mov_out fun t ht e => by have := inj t n (by omega) (by omega) e; omega
    cases q : x.testBit n
    · simp [q]
    · rw [if_pos rfl, xor_on out]
      simp [q]

abbrev e25 (p : Addr) (pds : List D) (n : Nat) (b : Nat → Bool) (r : List (Option SV)) : VL.Env := some (.ow p pds) :: some (.im (.tuple (T n b))) :: some (.im (.int (n : Int))) :: some (.im (.int ((2 ^ n : Nat) : Int))) :: some (.tp (intsD (dist n b))) :: some (.im (.int (letF n b))) :: r
/-- the bits in another order -/
theorem t25_12 {p : Addr} {pds : List D} {c : Nat} {n : Nat} {b : Nat → Bool} {E : EndsD} {l6 l7 l12 l13 l14 l16 : Option SV} (h8 : n ≤ 8) (hp : Pot c pds) (hc : c + 1000 ≤ 10 ^ 8) (hE : ∀ pds' ρ, Pot (c + 1000) pds' → E.rt (.v (.bool true)) (some (.ow p pds') :: ρ)) :
    xss G Γ b25_12 (e25 p pds n b [l6, l7, none, none, none, none, l12, l13, l14, none, l16, none, none]) E := by
  have h9 := two8 h8
  have h0n : (0 : Int) ≤ ((2 ^ n : Nat) : Int) := Int.natCast_nonneg _
  simp only [xss, xs, ev, evA, evT, evR, evO, evF, evI, cVar, cBin, cIdx, cB1, cIsi, cCall, cCio, cCnw, tru, vv, toVal, cv, asD, setAt, putT, putTs, bindT, setAll, augW, binW, cmpW, b1W, b2W, truth, seqOf, retW, wipeE, restore, keepI, retOk, fin, endsOf, List.getElem?_cons_zero, List.getElem?_cons_succ, List.getD_cons_zero, List.getD_cons_succ, List.set_cons_zero, List.set_cons_succ, List.length_cons, List.length_nil, List.nil_append, List.cons_append, reduceIte, isi_ii, isi_ib, isi_tt, eqW_int, Bool.not_true, Bool.not_false, Bool.false_eq_true, Option.some.injEq, exists_eq_left', exists_eq_left, true_and, and_true, Bool.true_eq_false, Prod.mk.injEq, decide_eq_true_eq, and_assoc, exists_and_left, at3_0, at3_1, at3_2, ix3_0, ix3_2, Nat.reduceAdd, PyData.int.injEq, PyData.bool.injEq, Int.toNat_natCast, b25_12, f17, i17]
  refine ⟨by omega, by omega, fun q => ?_⟩
  have el : ((List.range n).map fun i => PyData.int (i : Nat)) = intsD ((List.range n).map fun i => ((i : Nat) : Int)) := rng_ints _
  rw [el]
  refine run_pot hp (by omega) ((List.range n).map fun i => ((i : Nat) : Int)) (by simp) (by simp; omega) fun d pds1 hd hp1 => ?_
  obtain ⟨js, rfl, hj⟩ := hd
  refine ⟨by decide, fun qa => ⟨by decide, fun qb => ?_⟩⟩
  simp only [xss, xs, ev, evA, evT, evR, evO, evF, evI, cVar, cBin, cIdx, cB1, cIsi, cCall, cCio, cCnw, tru, vv, toVal, cv, asD, setAt, putT, putTs, bindT, setAll, augW, binW, cmpW, b1W, b2W, truth, seqOf, retW, wipeE, restore, keepI, retOk, fin, endsOf, List.getElem?_cons_zero, List.getElem?_cons_succ, List.getD_cons_zero, List.getD_cons_succ, List.set_cons_zero, List.set_cons_succ, List.length_cons, List.length_nil, List.nil_append, List.cons_append, reduceIte, isi_ii, isi_ib, isi_tt, eqW_int, Bool.not_true, Bool.not_false, Bool.false_eq_true, Option.some.injEq, exists_eq_left', exists_eq_left, true_and, and_true, Bool.true_eq_false, Prod.mk.injEq, decide_eq_true_eq, and_assoc, exists_and_left, at3_0, at3_1, at3_2, ix3_0, ix3_2, Nat.reduceAdd, PyData.int.injEq, PyData.bool.injEq, Int.toNat_natCast, b25_11]
  refine ⟨by omega, by omega, ?_⟩
  refine forL_inv (fun i ρ => ∃ l15 l18, ρ = e25 p pds1 n b [l6, l7, none, none, none, none, l12, l13, some (.ow qa ((List.range i).map fun x => PyData.int (b2i (b (mov n (ordF js) x))))), l15, some (.ow qb ((List.range i).map fun x => PyData.int (hd n b (mov n (ordF js) x)))), some (.im (.list (intsD js))), l18]) ⟨none, none, rfl⟩ (fun i x ρ k hx h hk => ?_) fun ρ h => ?_
  · obtain ⟨l15, l18, rfl⟩ := h
    obtain ⟨hl, e⟩ := List.getElem?_eq_some_iff.mp hx
    simp at hl e
    subst e
    simp only [xss, xs, ev_var, ev_cst, ev_glo, ev_bin, ev_cmp, ev_chain, ev_and, ev_or, ev_not, ev_neg, ev_ife, ev_tup, ev_lst, ev_idx, ev_sl, ev_b1, ev_b2, ev_lrng, ev_isi, ev_call, ev_cio, ev_cnw, ev_lc, ev_pop, ev_tidx, ev_rep, evA, evT, evR, evO, evF, evI, cVar, cBin, cIdx, cB1, cIsi, cCall, cCio, cCnw, tru, vv, toVal, cv, asD, setAt, putT, putTs, bindT, setAll, augW, binW, cmpW, b1W, b2W, truth, seqOf, retW, wipeE, restore, keepI, retOk, fin, endsOf, List.getElem?_cons_zero, List.getElem?_cons_succ, List.getD_cons_zero, List.getD_cons_succ, List.set_cons_zero, List.set_cons_succ, List.length_cons, List.length_nil, List.nil_append, List.cons_append, reduceIte, isi_ii, isi_ib, isi_tt, eqW_int, Bool.not_true, Bool.not_false, Bool.false_eq_true, Option.some.injEq, exists_eq_left', exists_eq_left, true_and, and_true, Bool.true_eq_false, Prod.mk.injEq, decide_eq_true_eq, and_assoc, exists_and_left, at3_0, at3_1, at3_2, ix3_0, ix3_2, Nat.reduceAdd, PyData.int.injEq, PyData.bool.injEq, Int.toNat_natCast, b25_9]
    refine ⟨by omega, by omega, by simp; omega, fun q3 => ?_⟩
    refine compL_lstf (xs := List.range n) (u := fun j => PyData.int (j : Nat)) (fun t => (if i.testBit t = true then some ((2 ^ ordF js t : Nat) : Int) else none).map PyData.int) (fun t ht kk acc hk => ?_) ?_
    · have ht := List.mem_range.mp ht
      have ho := ord_at hj ht
      simp only [xss, xs, ev, evA, evT, evR, evO, evF, evI, cVar, cBin, cIdx, cB1, cIsi, cCall, cCio, cCnw, tru, vv, toVal, cv, asD, setAt, putT, putTs, bindT, setAll, augW, binW, cmpW, b1W, b2W, truth, seqOf, retW, wipeE, restore, keepI, retOk, fin, endsOf, List.getElem?_cons_zero, List.getElem?_cons_succ, List.getD_cons_zero, List.getD_cons_succ, List.set_cons_zero, List.set_cons_succ, List.length_cons, List.length_nil, List.nil_append, List.cons_append, reduceIte, isi_ii, isi_ib, isi_tt, eqW_int, Bool.not_true, Bool.not_false, Bool.false_eq_true, Option.some.injEq, exists_eq_left', exists_eq_left, true_and, and_true, Bool.true_eq_false, Prod.mk.injEq, decide_eq_true_eq, and_assoc, exists_and_left, at3_0, at3_1, at3_2, ix3_0, ix3_2, Nat.reduceAdd, PyData.int.injEq, PyData.bool.injEq, Int.toNat_natCast]
      rw [shr_nat, PyProof.Rows.bitAnd_m1, bit_mod]
      refine ⟨by omega, ?_⟩
      cases q4 : i.testBit t
      · rw [q4] at hk
        rw [if_neg (by decide)]
        exact sim_nil hk
      · rw [q4] at hk
        rw [if_pos (by decide)]
        refine ⟨_, ho.1, ?_⟩
        simp only [xss, xs, ev, evA, evT, evR, evO, evF, evI, cVar, cBin, cIdx, cB1, cIsi, cCall, cCio, cCnw, tru, vv, toVal, cv, asD, setAt, putT, putTs, bindT, setAll, augW, binW, cmpW, b1W, b2W, truth, seqOf, retW, wipeE, restore, keepI, retOk, fin, endsOf, List.getElem?_cons_zero, List.getElem?_cons_succ, List.getD_cons_zero, List.getD_cons_succ, List.set_cons_zero, List.set_cons_succ, List.length_cons, List.length_nil, List.nil_append, List.cons_append, reduceIte, isi_ii, isi_ib, isi_tt, eqW_int, Bool.not_true, Bool.not_false, Bool.false_eq_true, Option.some.injEq, exists_eq_left', exists_eq_left, true_and, and_true, Bool.true_eq_false, Prod.mk.injEq, decide_eq_true_eq, and_assoc, exists_and_left, at3_0, at3_1, at3_2, ix3_0, ix3_2, Nat.reduceAdd, PyData.int.injEq, PyData.bool.injEq, Int.toNat_natCast]
        rw [shl_nat]
        exact ⟨⟨by omega, by omega, by decide⟩, sim_one hk⟩
    · have es : (List.range n).filterMap (fun t => (if i.testBit t = true then some ((2 ^ ordF js t : Nat) : Int) else none).map PyData.int) = intsD ((List.range n).filterMap fun t => if i.testBit t = true then some ((2 ^ ordF js t : Nat) : Int) else none) := by
        unfold intsD
        rw [List.map_filterMap]
      rw [es]
      refine ⟨_, rfl, ?_⟩
      rw [sum_mov fun s t hs ht e => ord_inj hj hs ht e]
      have hmv : mov n (ordF js) i < 2 ^ n := mov_lt fun t ht => (ord_at hj ht).2
      simp only [xss, xs, ev, evA, evT, evR, evO, evF, evI, cVar, cBin, cIdx, cB1, cIsi, cCall, cCio, cCnw, tru, vv, toVal, cv, asD, setAt, putT, putTs, bindT, setAll, augW, binW, cmpW, b1W, b2W, truth, seqOf, retW, wipeE, restore, keepI, retOk, fin, endsOf, List.getElem?_cons_zero, List.getElem?_cons_succ, List.getD_cons_zero, List.getD_cons_succ, List.set_cons_zero, List.set_cons_succ, List.length_cons, List.length_nil, List.nil_append, List.cons_append, reduceIte, isi_ii, isi_ib, isi_tt, eqW_int, Bool.not_true, Bool.not_false, Bool.false_eq_true, Option.some.injEq, exists_eq_left', exists_eq_left, true_and, and_true, Bool.true_eq_false, Prod.mk.injEq, decide_eq_true_eq, and_assoc, exists_and_left, at3_0, at3_1, at3_2, ix3_0, ix3_2, Nat.reduceAdd, PyData.int.injEq, PyData.bool.injEq, Int.toNat_natCast, b25_8]
      refine ⟨_, at_T b hmv, ?_⟩
      simp only [xss, xs, ev, evA, evT, evR, evO, evF, evI, cVar, cBin, cIdx, cB1, cIsi, cCall, cCio, cCnw, tru, vv, toVal, cv, asD, setAt, putT, putTs, bindT, setAll, augW, binW, cmpW, b1W, b2W, truth, seqOf, retW, wipeE, restore, keepI, retOk, fin, endsOf, List.getElem?_cons_zero, List.getElem?_cons_succ, List.getD_cons_zero, List.getD_cons_succ, List.set_cons_zero, List.set_cons_succ, List.length_cons, List.length_nil, List.nil_append, List.cons_append, reduceIte, isi_ii, isi_ib, isi_tt, eqW_int, Bool.not_true, Bool.not_false, Bool.false_eq_true, Option.some.injEq, exists_eq_left', exists_eq_left, true_and, and_true, Bool.true_eq_false, Prod.mk.injEq, decide_eq_true_eq, and_assoc, exists_and_left, at3_0, at3_1, at3_2, ix3_0, ix3_2, Nat.reduceAdd, PyData.int.injEq, PyData.bool.injEq, Int.toNat_natCast, b25_7]
      refine ⟨by simp; omega, _, at_dist b hmv, by simp; omega, ?_⟩
      have o1 : (List.range i).map (fun x => PyData.int (b2i (b (mov n (ordF js) x)))) ++ [PyData.int (b2i (b (mov n (ordF js) i)))] = (List.range (i + 1)).map fun x => PyData.int (b2i (b (mov n (ordF js) x))) := by
        rw [List.range_succ, List.map_append]
        rfl
      have o2 : (List.range i).map (fun x => PyData.int (hd n b (mov n (ordF js) x))) ++ [PyData.int (hd n b (mov n (ordF js) i))] = (List.range (i + 1)).map fun x => PyData.int (hd n b (mov n (ordF js) x)) := by
        rw [List.range_succ, List.map_append]
        rfl
      rw [o1, o2]
      exact hk _ ⟨_, _, rfl⟩
  · obtain ⟨l15, l18, rfl⟩ := h
    have hl : ((List.range (2 ^ n)).map fun i => PyData.int (i : Nat)).length = 2 ^ n := by simp
    rw [hl]
    have hlt : ∀ x, x < 2 ^ n → mov n (ordF js) x < 2 ^ n := fun x _ => mov_lt fun t ht => (ord_at hj ht).2
    have hinj : ∀ x y, x < 2 ^ n → y < 2 ^ n → mov n (ordF js) x = mov n (ordF js) y → x = y := fun x y hx hy e => mov_inj (fun s t hs ht e => ord_inj hj hs ht e) hx hy e
    simp only [xss, xs, ev, evA, evT, evR, evO, evF, evI, cVar, cBin, cIdx, cB1, cIsi, cCall, cCio, cCnw, tru, vv, toVal, cv, asD, setAt, putT, putTs, bindT, setAll, augW, binW, cmpW, b1W, b2W, truth, seqOf, retW, wipeE, restore, keepI, retOk, fin, endsOf, List.getElem?_cons_zero, List.getElem?_cons_succ, List.getD_cons_zero, List.getD_cons_succ, List.set_cons_zero, List.set_cons_succ, List.length_cons, List.length_nil, List.nil_append, List.cons_append, reduceIte, isi_ii, isi_ib, isi_tt, eqW_int, Bool.not_true, Bool.not_false, Bool.false_eq_true, Option.some.injEq, exists_eq_left', exists_eq_left, true_and, and_true, Bool.true_eq_false, Prod.mk.injEq, decide_eq_true_eq, and_assoc, exists_and_left, at3_0, at3_1, at3_2, ix3_0, ix3_2, Nat.reduceAdd, PyData.int.injEq, PyData.bool.injEq, Int.toNat_natCast, b25_10, f7, i7, f10, i10]
    rw [← T_eq n fun x => b (mov n (ordF js) x)]
    refine run_pure (a := (n, fun x => b (mov n (ordF js) x))) rfl h8 ?_
    refine eq_same (nice_dist _ _ : Nice 1 _) (dist_is fun m hm => hd_map hlt hinj b fun x hx => par_mov (by omega) (fun t ht => (ord_at hj ht).2) (fun s t hs ht e => ord_inj hj hs ht e) hm hx) (by decide) ?_
    simp only [xss, xs, ev, evA, evT, evR, evO, evF, evI, cVar, cBin, cIdx, cB1, cIsi, cCall, cCio, cCnw, tru, vv, toVal, cv, asD, setAt, putT, putTs, bindT, setAll, augW, binW, cmpW, b1W, b2W, truth, seqOf, retW, wipeE, restore, keepI, retOk, fin, endsOf, List.getElem?_cons_zero, List.getElem?_cons_succ, List.getD_cons_zero, List.getD_cons_succ, List.set_cons_zero, List.set_cons_succ, List.length_cons, List.length_nil, List.nil_append, List.cons_append, reduceIte, isi_ii, isi_ib, isi_tt, eqW_int, Bool.not_true, Bool.not_false, Bool.false_eq_true, Option.some.injEq, exists_eq_left', exists_eq_left, true_and, and_true, Bool.true_eq_false, Prod.mk.injEq, decide_eq_true_eq, and_assoc, exists_and_left, at3_0, at3_1, at3_2, ix3_0, ix3_2, Nat.reduceAdd, PyData.int.injEq, PyData.bool.injEq, Int.toNat_natCast]
    refine run_pure (a := (n, fun x => b (mov n (ordF js) x))) rfl h8 ?_
    simp only [xss, xs, ev, evA, evT, evR, evO, evF, evI, cVar, cBin, cIdx, cB1, cIsi, cCall, cCio, cCnw, tru, vv, toVal, cv, asD, setAt, putT, putTs, bindT, setAll, augW, binW, cmpW, b1W, b2W, truth, seqOf, retW, wipeE, restore, keepI, retOk, fin, endsOf, List.getElem?_cons_zero, List.getElem?_cons_succ, List.getD_cons_zero, List.getD_cons_succ, List.set_cons_zero, List.set_cons_succ, List.length_cons, List.length_nil, List.nil_append, List.cons_append, reduceIte, isi_ii, isi_ib, isi_tt, eqW_int, Bool.not_true, Bool.not_false, Bool.false_eq_true, Option.some.injEq, exists_eq_left', exists_eq_left, true_and, and_true, Bool.true_eq_false, Prod.mk.injEq, decide_eq_true_eq, and_assoc, exists_and_left, at3_0, at3_1, at3_2, ix3_0, ix3_2, Nat.reduceAdd, PyData.int.injEq, PyData.bool.injEq, Int.toNat_natCast]
    rw [decide_eq_true (let_map hlt hinj b fun x y _ _ => mov_xor _ _ _ _)]
    exact hE _ _ hp1
end K13

set_option Elab.async false
set_option linter.all false
set_option maxRecDepth 100000
set_option maxHeartbeats 4000000
namespace K13
open PySem L2 VL BF

/-- one bit added to another -/
theorem t25_14 {p : Addr} {pds : List D} {c : Nat} {n : Nat} {b : Nat → Bool} {E : EndsD} {l6 l7 : Option SV} (h8 : n ≤ 8) (hn0 : 1 ≤ n) (hp : Pot c pds) (hc : c + 1002 ≤ 10 ^ 8) (hE : ∀ pds' ρ, Pot (c + 1002) pds' → E.rt (.v (.bool true)) (some (.ow p pds') :: ρ)) :
    xss G Γ b25_14 (e25 p pds n b [l6, l7, none, none, none, none, none, none, none, none, none, none, none]) E := by
  have h9 := two8 h8
  have h0n : (0 : Int) ≤ ((2 ^ n : Nat) : Int) := Int.natCast_nonneg _
  simp only [xss, xs, ev, evA, evT, evR, evO, evF, evI, cVar, cBin, cIdx, cB1, cIsi, cCall, cCio, cCnw, tru, vv, toVal, cv, asD, setAt, putT, putTs, bindT, setAll, augW, binW, cmpW, b1W, b2W, truth, seqOf, retW, wipeE, restore, keepI, retOk, fin, endsOf, List.getElem?_cons_zero, List.getElem?_cons_succ, List.getD_cons_zero, List.getD_cons_succ, List.set_cons_zero, List.set_cons_succ, List.length_cons, List.length_nil, List.nil_append, List.cons_append, reduceIte, isi_ii, isi_ib, isi_tt, eqW_int, Bool.not_true, Bool.not_false, Bool.false_eq_true, Option.some.injEq, exists_eq_left', exists_eq_left, true_and, and_true, Bool.true_eq_false, Prod.mk.injEq, decide_eq_true_eq, and_assoc, exists_and_left, at3_0, at3_1, at3_2, ix3_0, ix3_2, Nat.reduceAdd, PyData.int.injEq, PyData.bool.injEq, Int.toNat_natCast, b25_14, f14, i14]
  refine run_pot hp (by omega) _ rfl ⟨by omega, by omega⟩ fun d pds1 hd hp1 => ?_
  obtain ⟨i, rfl, i0, i1⟩ := hd
  obtain ⟨i, rfl⟩ := nat_of i0
  simp only [xss, xs, ev, evA, evT, evR, evO, evF, evI, cVar, cBin, cIdx, cB1, cIsi, cCall, cCio, cCnw, tru, vv, toVal, cv, asD, setAt, putT, putTs, bindT, setAll, augW, binW, cmpW, b1W, b2W, truth, seqOf, retW, wipeE, restore, keepI, retOk, fin, endsOf, List.getElem?_cons_zero, List.getElem?_cons_succ, List.getD_cons_zero, List.getD_cons_succ, List.set_cons_zero, List.set_cons_succ, List.length_cons, List.length_nil, List.nil_append, List.cons_append, reduceIte, isi_ii, isi_ib, isi_tt, eqW_int, Bool.not_true, Bool.not_false, Bool.false_eq_true, Option.some.injEq, exists_eq_left', exists_eq_left, true_and, and_true, Bool.true_eq_false, Prod.mk.injEq, decide_eq_true_eq, and_assoc, exists_and_left, at3_0, at3_1, at3_2, ix3_0, ix3_2, Nat.reduceAdd, PyData.int.injEq, PyData.bool.injEq, Int.toNat_natCast, f14, i14]
  rw [shl_nat]
  refine ⟨⟨by omega, by omega, by decide⟩, ?_⟩
  refine run_pot hp1 (by omega) _ rfl ⟨by omega, by omega⟩ fun d pds2 hd hp2 => ?_
  obtain ⟨j, rfl, j0, j1⟩ := hd
  obtain ⟨j, rfl⟩ := nat_of j0
  simp only [xss, xs, ev, evA, evT, evR, evO, evF, evI, cVar, cBin, cIdx, cB1, cIsi, cCall, cCio, cCnw, tru, vv, toVal, cv, asD, setAt, putT, putTs, bindT, setAll, augW, binW, cmpW, b1W, b2W, truth, seqOf, retW, wipeE, restore, keepI, retOk, fin, endsOf, List.getElem?_cons_zero, List.getElem?_cons_succ, List.getD_cons_zero, List.getD_cons_succ, List.set_cons_zero, List.set_cons_succ, List.length_cons, List.length_nil, List.nil_append, List.cons_append, reduceIte, isi_ii, isi_ib, isi_tt, eqW_int, Bool.not_true, Bool.not_false, Bool.false_eq_true, Option.some.injEq, exists_eq_left', exists_eq_left, true_and, and_true, Bool.true_eq_false, Prod.mk.injEq, decide_eq_true_eq, and_assoc, exists_and_left, at3_0, at3_1, at3_2, ix3_0, ix3_2, Nat.reduceAdd, PyData.int.injEq, PyData.bool.injEq, Int.toNat_natCast]
  rw [shl_nat]
  refine ⟨⟨by omega, by omega, by decide⟩, ?_⟩
  have go : ∀ {l12 l13 l14 l16 : Option SV}, xss G Γ b25_12 (e25 p pds2 n b [l6, l7, none, none, none, none, l12, l13, l14, none, l16, none, none]) E := fun {_ _ _ _} => t25_12 h8 hp2 (by omega) fun pds' ρ hp' => hE _ _ (hp'.up (by omega))
  simp only [xss, xs, ev, evA, evT, evR, evO, evF, evI, cVar, cBin, cIdx, cB1, cIsi, cCall, cCio, cCnw, tru, vv, toVal, cv, asD, setAt, putT, putTs, bindT, setAll, augW, binW, cmpW, b1W, b2W, truth, seqOf, retW, wipeE, restore, keepI, retOk, fin, endsOf, List.getElem?_cons_zero, List.getElem?_cons_succ, List.getD_cons_zero, List.getD_cons_succ, List.set_cons_zero, List.set_cons_succ, List.length_cons, List.length_nil, List.nil_append, List.cons_append, reduceIte, isi_ii, isi_ib, isi_tt, eqW_int, Bool.not_true, Bool.not_false, Bool.false_eq_true, Option.some.injEq, exists_eq_left', exists_eq_left, true_and, and_true, Bool.true_eq_false, Prod.mk.injEq, decide_eq_true_eq, and_assoc, exists_and_left, at3_0, at3_1, at3_2, ix3_0, ix3_2, Nat.reduceAdd, PyData.int.injEq, PyData.bool.injEq, Int.toNat_natCast, b25_13]
  by_cases hij : ((2 ^ i : Nat) : Int) = ((2 ^ j : Nat) : Int)
  · rw [decide_eq_true hij]
    simp only [xss, xs, ev, evA, evT, evR, evO, evF, evI, cVar, cBin, cIdx, cB1, cIsi, cCall, cCio, cCnw, tru, vv, toVal, cv, asD, setAt, putT, putTs, bindT, setAll, augW, binW, cmpW, b1W, b2W, truth, seqOf, retW, wipeE, restore, keepI, retOk, fin, endsOf, List.getElem?_cons_zero, List.getElem?_cons_succ, List.getD_cons_zero, List.getD_cons_succ, List.set_cons_zero, List.set_cons_succ, List.length_cons, List.length_nil, List.nil_append, List.cons_append, reduceIte, isi_ii, isi_ib, isi_tt, eqW_int, Bool.not_true, Bool.not_false, Bool.false_eq_true, Option.some.injEq, exists_eq_left', exists_eq_left, true_and, and_true, Bool.true_eq_false, Prod.mk.injEq, decide_eq_true_eq, and_assoc, exists_and_left, at3_0, at3_1, at3_2, ix3_0, ix3_2, Nat.reduceAdd, PyData.int.injEq, PyData.bool.injEq, Int.toNat_natCast]
    exact go
  · rw [decide_eq_false hij]
    simp only [xss, xs, ev, evA, evT, evR, evO, evF, evI, cVar, cBin, cIdx, cB1, cIsi, cCall, cCio, cCnw, tru, vv, toVal, cv, asD, setAt, putT, putTs, bindT, setAll, augW, binW, cmpW, b1W, b2W, truth, seqOf, retW, wipeE, restore, keepI, retOk, fin, endsOf, List.getElem?_cons_zero, List.getElem?_cons_succ, List.getD_cons_zero, List.getD_cons_succ, List.set_cons_zero, List.set_cons_succ, List.length_cons, List.length_nil, List.nil_append, List.cons_append, reduceIte, isi_ii, isi_ib, isi_tt, eqW_int, Bool.not_true, Bool.not_false, Bool.false_eq_true, Option.some.injEq, exists_eq_left', exists_eq_left, true_and, and_true, Bool.true_eq_false, Prod.mk.injEq, decide_eq_true_eq, and_assoc, exists_and_left, at3_0, at3_1, at3_2, ix3_0, ix3_2, Nat.reduceAdd, PyData.int.injEq, PyData.bool.injEq, Int.toNat_natCast]
    have ne : i ≠ j := fun e => hij (by rw [e])
    simp only [xss, xs, ev_var, ev_cst, ev_glo, ev_bin, ev_cmp, ev_chain, ev_and, ev_or, ev_not, ev_neg, ev_ife, ev_tup, ev_lst, ev_idx, ev_sl, ev_b1, ev_b2, ev_lrng, ev_isi, ev_call, ev_cio, ev_cnw, ev_lc, ev_pop, ev_tidx, ev_rep, evA, evT, evR, evO, evF, evI, cVar, cBin, cIdx, cB1, cIsi, cCall, cCio, cCnw, tru, vv, toVal, cv, asD, setAt, putT, putTs, bindT, setAll, augW, binW, cmpW, b1W, b2W, truth, seqOf, retW, wipeE, restore, keepI, retOk, fin, endsOf, List.getElem?_cons_zero, List.getElem?_cons_succ, List.getD_cons_zero, List.getD_cons_succ, List.set_cons_zero, List.set_cons_succ, List.length_cons, List.length_nil, List.nil_append, List.cons_append, reduceIte, isi_ii, isi_ib, isi_tt, eqW_int, Bool.not_true, Bool.not_false, Bool.false_eq_true, Option.some.injEq, exists_eq_left', exists_eq_left, true_and, and_true, Bool.true_eq_false, Prod.mk.injEq, decide_eq_true_eq, and_assoc, exists_and_left, at3_0, at3_1, at3_2, ix3_0, ix3_2, Nat.reduceAdd, PyData.int.injEq, PyData.bool.injEq, Int.toNat_natCast, b25_6]
    refine ⟨by omega, by omega, by simp; omega, fun q => ?_⟩
    refine compL_rng (fun x => PyData.int (b2i (b (shear i j x)))) (fun x hx kk acc hk => ?_) ?_
    · have hs := shear_lt (n := n) (j := j) (show i < n by omega) hx
      simp only [xss, xs, ev, evA, evT, evR, evO, evF, evI, cVar, cBin, cIdx, cB1, cIsi, cCall, cCio, cCnw, tru, vv, toVal, cv, asD, setAt, putT, putTs, bindT, setAll, augW, binW, cmpW, b1W, b2W, truth, seqOf, retW, wipeE, restore, keepI, retOk, fin, endsOf, List.getElem?_cons_zero, List.getElem?_cons_succ, List.getD_cons_zero, List.getD_cons_succ, List.set_cons_zero, List.set_cons_succ, List.length_cons, List.length_nil, List.nil_append, List.cons_append, reduceIte, isi_ii, isi_ib, isi_tt, eqW_int, Bool.not_true, Bool.not_false, Bool.false_eq_true, Option.some.injEq, exists_eq_left', exists_eq_left, true_and, and_true, Bool.true_eq_false, Prod.mk.injEq, decide_eq_true_eq, and_assoc, exists_and_left, at3_0, at3_1, at3_2, ix3_0, ix3_2, Nat.reduceAdd, PyData.int.injEq, PyData.bool.injEq, Int.toNat_natCast]
      rw [ba_nat, and_ne]
      unfold shear at hs hk
      cases q4 : x.testBit j
      · rw [q4] at hs hk
        rw [if_neg Bool.false_ne_true] at hs hk ⊢
        have : Builtin.bitXor (x : Int) 0 = ((x ^^^ 0 : Nat) : Int) := bx_nat x 0
        rw [this]
        exact ⟨_, at_T b hs, hk⟩
      · rw [q4] at hs hk
        rw [if_pos rfl] at hs hk ⊢
        rw [bx_nat]
        exact ⟨_, at_T b hs, hk⟩
    rw [← T_eq n fun x => b (shear i j x)]
    simp only [xss, xs, ev_var, ev_cst, ev_glo, ev_bin, ev_cmp, ev_chain, ev_and, ev_or, ev_not, ev_neg, ev_ife, ev_tup, ev_lst, ev_idx, ev_sl, ev_b1, ev_b2, ev_lrng, ev_isi, ev_call, ev_cio, ev_cnw, ev_lc, ev_pop, ev_tidx, ev_rep, evA, evT, evR, evO, evF, evI, cVar, cBin, cIdx, cB1, cIsi, cCall, cCio, cCnw, tru, vv, toVal, cv, asD, setAt, putT, putTs, bindT, setAll, augW, binW, cmpW, b1W, b2W, truth, seqOf, retW, wipeE, restore, keepI, retOk, fin, endsOf, List.getElem?_cons_zero, List.getElem?_cons_succ, List.getD_cons_zero, List.getD_cons_succ, List.set_cons_zero, List.set_cons_succ, List.length_cons, List.length_nil, List.nil_append, List.cons_append, reduceIte, isi_ii, isi_ib, isi_tt, eqW_int, Bool.not_true, Bool.not_false, Bool.false_eq_true, Option.some.injEq, exists_eq_left', exists_eq_left, true_and, and_true, Bool.true_eq_false, Prod.mk.injEq, decide_eq_true_eq, and_assoc, exists_and_left, at3_0, at3_1, at3_2, ix3_0, ix3_2, Nat.reduceAdd, PyData.int.injEq, PyData.bool.injEq, Int.toNat_natCast, b25_5]
    refine ⟨by omega, by omega, by simp; omega, fun q2 => ?_⟩
    refine compL_rng (fun x => PyData.int (hd n b (shear j i x))) (fun x hx kk acc hk => ?_) ?_
    · have hs := shear_lt (n := n) (j := i) (show j < n by omega) hx
      simp only [xss, xs, ev, evA, evT, evR, evO, evF, evI, cVar, cBin, cIdx, cB1, cIsi, cCall, cCio, cCnw, tru, vv, toVal, cv, asD, setAt, putT, putTs, bindT, setAll, augW, binW, cmpW, b1W, b2W, truth, seqOf, retW, wipeE, restore, keepI, retOk, fin, endsOf, List.getElem?_cons_zero, List.getElem?_cons_succ, List.getD_cons_zero, List.getD_cons_succ, List.set_cons_zero, List.set_cons_succ, List.length_cons, List.length_nil, List.nil_append, List.cons_append, reduceIte, isi_ii, isi_ib, isi_tt, eqW_int, Bool.not_true, Bool.not_false, Bool.false_eq_true, Option.some.injEq, exists_eq_left', exists_eq_left, true_and, and_true, Bool.true_eq_false, Prod.mk.injEq, decide_eq_true_eq, and_assoc, exists_and_left, at3_0, at3_1, at3_2, ix3_0, ix3_2, Nat.reduceAdd, PyData.int.injEq, PyData.bool.injEq, Int.toNat_natCast]
      rw [ba_nat, and_ne]
      unfold shear at hs hk
      cases q4 : x.testBit i
      · rw [q4] at hs hk
        rw [if_neg Bool.false_ne_true] at hs hk ⊢
        have : Builtin.bitXor (x : Int) 0 = ((x ^^^ 0 : Nat) : Int) := bx_nat x 0
        rw [this]
        exact ⟨_, at_dist b hs, hk⟩
      · rw [q4] at hs hk
        rw [if_pos rfl] at hs hk ⊢
        rw [bx_nat]
        exact ⟨_, at_dist b hs, hk⟩
    simp only [xss, xs, ev, evA, evT, evR, evO, evF, evI, cVar, cBin, cIdx, cB1, cIsi, cCall, cCio, cCnw, tru, vv, toVal, cv, asD, setAt, putT, putTs, bindT, setAll, augW, binW, cmpW, b1W, b2W, truth, seqOf, retW, wipeE, restore, keepI, retOk, fin, endsOf, List.getElem?_cons_zero, List.getElem?_cons_succ, List.getD_cons_zero, List.getD_cons_succ, List.set_cons_zero, List.set_cons_succ, List.length_cons, List.length_nil, List.nil_append, List.cons_append, reduceIte, isi_ii, isi_ib, isi_tt, eqW_int, Bool.not_true, Bool.not_false, Bool.false_eq_true, Option.some.injEq, exists_eq_left', exists_eq_left, true_and, and_true, Bool.true_eq_false, Prod.mk.injEq, decide_eq_true_eq, and_assoc, exists_and_left, at3_0, at3_1, at3_2, ix3_0, ix3_2, Nat.reduceAdd, PyData.int.injEq, PyData.bool.injEq, Int.toNat_natCast, b25_4, f7, i7, f10, i10]
    refine run_pure (a := (n, fun x => b (shear i j x))) rfl h8 ?_
    have hlt : ∀ x, x < 2 ^ n → shear i j x < 2 ^ n := fun x hx => shear_lt (show i < n by omega) hx
    have hinj : ∀ x y, x < 2 ^ n → y < 2 ^ n → shear i j x = shear i j y → x = y := fun x y _ _ e => shear_inj ne e
    refine eq_same (nice_dist _ _ : Nice 1 _) (dist_is fun m hm => hd_map hlt hinj b fun x hx => shear_par (by omega) (by omega) ne) (by decide) ?_
    simp only [xss, xs, ev, evA, evT, evR, evO, evF, evI, cVar, cBin, cIdx, cB1, cIsi, cCall, cCio, cCnw, tru, vv, toVal, cv, asD, setAt, putT, putTs, bindT, setAll, augW, binW, cmpW, b1W, b2W, truth, seqOf, retW, wipeE, restore, keepI, retOk, fin, endsOf, List.getElem?_cons_zero, List.getElem?_cons_succ, List.getD_cons_zero, List.getD_cons_succ, List.set_cons_zero, List.set_cons_succ, List.length_cons, List.length_nil, List.nil_append, List.cons_append, reduceIte, isi_ii, isi_ib, isi_tt, eqW_int, Bool.not_true, Bool.not_false, Bool.false_eq_true, Option.some.injEq, exists_eq_left', exists_eq_left, true_and, and_true, Bool.true_eq_false, Prod.mk.injEq, decide_eq_true_eq, and_assoc, exists_and_left, at3_0, at3_1, at3_2, ix3_0, ix3_2, Nat.reduceAdd, PyData.int.injEq, PyData.bool.injEq, Int.toNat_natCast]
    refine run_pure (a := (n, fun x => b (shear i j x))) rfl h8 ?_
    simp only [xss, xs, ev, evA, evT, evR, evO, evF, evI, cVar, cBin, cIdx, cB1, cIsi, cCall, cCio, cCnw, tru, vv, toVal, cv, asD, setAt, putT, putTs, bindT, setAll, augW, binW, cmpW, b1W, b2W, truth, seqOf, retW, wipeE, restore, keepI, retOk, fin, endsOf, List.getElem?_cons_zero, List.getElem?_cons_succ, List.getD_cons_zero, List.getD_cons_succ, List.set_cons_zero, List.set_cons_succ, List.length_cons, List.length_nil, List.nil_append, List.cons_append, reduceIte, isi_ii, isi_ib, isi_tt, eqW_int, Bool.not_true, Bool.not_false, Bool.false_eq_true, Option.some.injEq, exists_eq_left', exists_eq_left, true_and, and_true, Bool.true_eq_false, Prod.mk.injEq, decide_eq_true_eq, and_assoc, exists_and_left, at3_0, at3_1, at3_2, ix3_0, ix3_2, Nat.reduceAdd, PyData.int.injEq, PyData.bool.injEq, Int.toNat_natCast]
    rw [decide_eq_true (let_map hlt hinj b fun x y _ _ => shear_xor _ _ _ _)]
    simp only [xss, xs, ev, evA, evT, evR, evO, evF, evI, cVar, cBin, cIdx, cB1, cIsi, cCall, cCio, cCnw, tru, vv, toVal, cv, asD, setAt, putT, putTs, bindT, setAll, augW, binW, cmpW, b1W, b2W, truth, seqOf, retW, wipeE, restore, keepI, retOk, fin, endsOf, List.getElem?_cons_zero, List.getElem?_cons_succ, List.getD_cons_zero, List.getD_cons_succ, List.set_cons_zero, List.set_cons_succ, List.length_cons, List.length_nil, List.nil_append, List.cons_append, reduceIte, isi_ii, isi_ib, isi_tt, eqW_int, Bool.not_true, Bool.not_false, Bool.false_eq_true, Option.some.injEq, exists_eq_left', exists_eq_left, true_and, and_true, Bool.true_eq_false, Prod.mk.injEq, decide_eq_true_eq, and_assoc, exists_and_left, at3_0, at3_1, at3_2, ix3_0, ix3_2, Nat.reduceAdd, PyData.int.injEq, PyData.bool.injEq, Int.toNat_natCast]
    exact go
theorem ok25 : BodyOk G Γ 19 b25 (tS3 2000) := by
  refine body_pot fun a ha c pds hp hc p E hr => ?_
  obtain ⟨n, b⟩ := a
  have h8 : n ≤ 8 := ha
  have h9 := two8 h8
  have h0n : (0 : Int) ≤ ((2 ^ n : Nat) : Int) := Int.natCast_nonneg _
  have h1n : (1 : Int) ≤ ((2 ^ n : Nat) : Int) := by have := Nat.two_pow_pos n; omega
  show xss G Γ b25_20 [some (.ow p pds), some (.im (.tuple (T n b))), some (.im (.int (n : Int))), none, none, none, none, none, none, none, none, none, none, none, none, none, none, none, none] E
  simp only [xss, xs, ev, evA, evT, evR, evO, evF, evI, cVar, cBin, cIdx, cB1, cIsi, cCall, cCio, cCnw, tru, vv, toVal, cv, asD, setAt, putT, putTs, bindT, setAll, augW, binW, cmpW, b1W, b2W, truth, seqOf, retW, wipeE, restore, keepI, retOk, fin, endsOf, List.getElem?_cons_zero, List.getElem?_cons_succ, List.getD_cons_zero, List.getD_cons_succ, List.set_cons_zero, List.set_cons_succ, List.length_cons, List.length_nil, List.nil_append, List.cons_append, reduceIte, isi_ii, isi_ib, isi_tt, eqW_int, Bool.not_true, Bool.not_false, Bool.false_eq_true, Option.some.injEq, exists_eq_left', exists_eq_left, true_and, and_true, Bool.true_eq_false, Prod.mk.injEq, decide_eq_true_eq, and_assoc, exists_and_left, at3_0, at3_1, at3_2, ix3_0, ix3_2, Nat.reduceAdd, PyData.int.injEq, PyData.bool.injEq, Int.toNat_natCast, b25_20, len_T, f20, i20, f10, i10]
  refine run_pure (a := (n, b)) rfl h8 ?_
  refine run_pure (a := (n, b)) rfl h8 ?_
  simp only [xss, xs, ev, evA, evT, evR, evO, evF, evI, cVar, cBin, cIdx, cB1, cIsi, cCall, cCio, cCnw, tru, vv, toVal, cv, asD, setAt, putT, putTs, bindT, setAll, augW, binW, cmpW, b1W, b2W, truth, seqOf, retW, wipeE, restore, keepI, retOk, fin, endsOf, List.getElem?_cons_zero, List.getElem?_cons_succ, List.getD_cons_zero, List.getD_cons_succ, List.set_cons_zero, List.set_cons_succ, List.length_cons, List.length_nil, List.nil_append, List.cons_append, reduceIte, isi_ii, isi_ib, isi_tt, eqW_int, Bool.not_true, Bool.not_false, Bool.false_eq_true, Option.some.injEq, exists_eq_left', exists_eq_left, true_and, and_true, Bool.true_eq_false, Prod.mk.injEq, decide_eq_true_eq, and_assoc, exists_and_left, at3_0, at3_1, at3_2, ix3_0, ix3_2, Nat.reduceAdd, PyData.int.injEq, PyData.bool.injEq, Int.toNat_natCast, b25_19, f14, i14]
  refine run_pot hp (by omega) _ rfl ⟨h1n, by omega⟩ fun d pds1 hd hp1 => ?_
  obtain ⟨M, rfl, m0, m1⟩ := hd
  obtain ⟨M, rfl⟩ := nat_of m0
  simp only [xss, xs, ev_var, ev_cst, ev_glo, ev_bin, ev_cmp, ev_chain, ev_and, ev_or, ev_not, ev_neg, ev_ife, ev_tup, ev_lst, ev_idx, ev_sl, ev_b1, ev_b2, ev_lrng, ev_isi, ev_call, ev_cio, ev_cnw, ev_lc, ev_pop, ev_tidx, ev_rep, evA, evT, evR, evO, evF, evI, cVar, cBin, cIdx, cB1, cIsi, cCall, cCio, cCnw, tru, vv, toVal, cv, asD, setAt, putT, putTs, bindT, setAll, augW, binW, cmpW, b1W, b2W, truth, seqOf, retW, wipeE, restore, keepI, retOk, fin, endsOf, List.getElem?_cons_zero, List.getElem?_cons_succ, List.getD_cons_zero, List.getD_cons_succ, List.set_cons_zero, List.set_cons_succ, List.length_cons, List.length_nil, List.nil_append, List.cons_append, reduceIte, isi_ii, isi_ib, isi_tt, eqW_int, Bool.not_true, Bool.not_false, Bool.false_eq_true, Option.some.injEq, exists_eq_left', exists_eq_left, true_and, and_true, Bool.true_eq_false, Prod.mk.injEq, decide_eq_true_eq, and_assoc, exists_and_left, at3_0, at3_1, at3_2, ix3_0, ix3_2, Nat.reduceAdd, PyData.int.injEq, PyData.bool.injEq, Int.toNat_natCast, b25_18, f19, i19]
  refine run_pure (a := (n, M)) rfl ⟨h8, by show M < 2 ^ n; omega⟩ ?_
  show (List.zipWith (fun x y => PyData.tuple [x, y]) (T n b) (T n fun x => par 9 (x &&& M))).length ≤ 100000 ∧ _
  rw [zip_T]
  refine ⟨by simp; omega, fun q => ?_⟩
  refine compL_lst (fun x => PyData.int (b2i (b x ^^ par 9 (x &&& M)))) (fun x hx kk acc hk => ?_) ?_
  · simp only [xss, xs, ev, evA, evT, evR, evO, evF, evI, cVar, cBin, cIdx, cB1, cIsi, cCall, cCio, cCnw, tru, vv, toVal, cv, asD, setAt, putT, putTs, bindT, setAll, augW, binW, cmpW, b1W, b2W, truth, seqOf, retW, wipeE, restore, keepI, retOk, fin, endsOf, List.getElem?_cons_zero, List.getElem?_cons_succ, List.getD_cons_zero, List.getD_cons_succ, List.set_cons_zero, List.set_cons_succ, List.length_cons, List.length_nil, List.nil_append, List.cons_append, reduceIte, isi_ii, isi_ib, isi_tt, eqW_int, Bool.not_true, Bool.not_false, Bool.false_eq_true, Option.some.injEq, exists_eq_left', exists_eq_left, true_and, and_true, Bool.true_eq_false, Prod.mk.injEq, decide_eq_true_eq, and_assoc, exists_and_left, at3_0, at3_1, at3_2, ix3_0, ix3_2, Nat.reduceAdd, PyData.int.injEq, PyData.bool.injEq, Int.toNat_natCast]
    rw [bx_bit]
    exact hk
  rw [← T_eq n fun x => b x ^^ par 9 (x &&& M)]
  simp only [xss, xs, ev_var, ev_cst, ev_glo, ev_bin, ev_cmp, ev_chain, ev_and, ev_or, ev_not, ev_neg, ev_ife, ev_tup, ev_lst, ev_idx, ev_sl, ev_b1, ev_b2, ev_lrng, ev_isi, ev_call, ev_cio, ev_cnw, ev_lc, ev_pop, ev_tidx, ev_rep, evA, evT, evR, evO, evF, evI, cVar, cBin, cIdx, cB1, cIsi, cCall, cCio, cCnw, tru, vv, toVal, cv, asD, setAt, putT, putTs, bindT, setAll, augW, binW, cmpW, b1W, b2W, truth, seqOf, retW, wipeE, restore, keepI, retOk, fin, endsOf, List.getElem?_cons_zero, List.getElem?_cons_succ, List.getD_cons_zero, List.getD_cons_succ, List.set_cons_zero, List.set_cons_succ, List.length_cons, List.length_nil, List.nil_append, List.cons_append, reduceIte, isi_ii, isi_ib, isi_tt, eqW_int, Bool.not_true, Bool.not_false, Bool.false_eq_true, Option.some.injEq, exists_eq_left', exists_eq_left, true_and, and_true, Bool.true_eq_false, Prod.mk.injEq, decide_eq_true_eq, and_assoc, exists_and_left, at3_0, at3_1, at3_2, ix3_0, ix3_2, Nat.reduceAdd, PyData.int.injEq, PyData.bool.injEq, Int.toNat_natCast, b25_17, f7, i7, f10, i10]
  refine run_pure (a := (n, fun x => b x ^^ par 9 (x &&& M))) rfl h8 ?_
  refine ⟨by omega, by omega, by simp; omega, fun q2 => ?_⟩
  refine compL_rng (fun x => PyData.int (hd n b (x ^^^ M))) (fun x hx kk acc hk => ?_) ?_
  · simp only [xss, xs, ev, evA, evT, evR, evO, evF, evI, cVar, cBin, cIdx, cB1, cIsi, cCall, cCio, cCnw, tru, vv, toVal, cv, asD, setAt, putT, putTs, bindT, setAll, augW, binW, cmpW, b1W, b2W, truth, seqOf, retW, wipeE, restore, keepI, retOk, fin, endsOf, List.getElem?_cons_zero, List.getElem?_cons_succ, List.getD_cons_zero, List.getD_cons_succ, List.set_cons_zero, List.set_cons_succ, List.length_cons, List.length_nil, List.nil_append, List.cons_append, reduceIte, isi_ii, isi_ib, isi_tt, eqW_int, Bool.not_true, Bool.not_false, Bool.false_eq_true, Option.some.injEq, exists_eq_left', exists_eq_left, true_and, and_true, Bool.true_eq_false, Prod.mk.injEq, decide_eq_true_eq, and_assoc, exists_and_left, at3_0, at3_1, at3_2, ix3_0, ix3_2, Nat.reduceAdd, PyData.int.injEq, PyData.bool.injEq, Int.toNat_natCast]
    rw [bx_nat]
    exact ⟨_, at_dist b (xor_lt hx (by omega)), hk⟩
  refine eq_same (nice_dist _ _ : Nice 1 _) (dist_is fun m hm => hd_added n b M m) (by decide) ?_
  simp only [xss, xs, ev, evA, evT, evR, evO, evF, evI, cVar, cBin, cIdx, cB1, cIsi, cCall, cCio, cCnw, tru, vv, toVal, cv, asD, setAt, putT, putTs, bindT, setAll, augW, binW, cmpW, b1W, b2W, truth, seqOf, retW, wipeE, restore, keepI, retOk, fin, endsOf, List.getElem?_cons_zero, List.getElem?_cons_succ, List.getD_cons_zero, List.getD_cons_succ, List.set_cons_zero, List.set_cons_succ, List.length_cons, List.length_nil, List.nil_append, List.cons_append, reduceIte, isi_ii, isi_ib, isi_tt, eqW_int, Bool.not_true, Bool.not_false, Bool.false_eq_true, Option.some.injEq, exists_eq_left', exists_eq_left, true_and, and_true, Bool.true_eq_false, Prod.mk.injEq, decide_eq_true_eq, and_assoc, exists_and_left, at3_0, at3_1, at3_2, ix3_0, ix3_2, Nat.reduceAdd, PyData.int.injEq, PyData.bool.injEq, Int.toNat_natCast]
  refine run_pure (a := (n, fun x => b x ^^ par 9 (x &&& M))) rfl h8 ?_
  simp only [xss, xs, ev, evA, evT, evR, evO, evF, evI, cVar, cBin, cIdx, cB1, cIsi, cCall, cCio, cCnw, tru, vv, toVal, cv, asD, setAt, putT, putTs, bindT, setAll, augW, binW, cmpW, b1W, b2W, truth, seqOf, retW, wipeE, restore, keepI, retOk, fin, endsOf, List.getElem?_cons_zero, List.getElem?_cons_succ, List.getD_cons_zero, List.getD_cons_succ, List.set_cons_zero, List.set_cons_succ, List.length_cons, List.length_nil, List.nil_append, List.cons_append, reduceIte, isi_ii, isi_ib, isi_tt, eqW_int, Bool.not_true, Bool.not_false, Bool.false_eq_true, Option.some.injEq, exists_eq_left', exists_eq_left, true_and, and_true, Bool.true_eq_false, Prod.mk.injEq, decide_eq_true_eq, and_assoc, exists_and_left, at3_0, at3_1, at3_2, ix3_0, ix3_2, Nat.reduceAdd, PyData.int.injEq, PyData.bool.injEq, Int.toNat_natCast]
  rw [decide_eq_true (let_added n b M)]
  simp only [xss, xs, ev_var, ev_cst, ev_glo, ev_bin, ev_cmp, ev_chain, ev_and, ev_or, ev_not, ev_neg, ev_ife, ev_tup, ev_lst, ev_idx, ev_sl, ev_b1, ev_b2, ev_lrng, ev_isi, ev_call, ev_cio, ev_cnw, ev_lc, ev_pop, ev_tidx, ev_rep, evA, evT, evR, evO, evF, evI, cVar, cBin, cIdx, cB1, cIsi, cCall, cCio, cCnw, tru, vv, toVal, cv, asD, setAt, putT, putTs, bindT, setAll, augW, binW, cmpW, b1W, b2W, truth, seqOf, retW, wipeE, restore, keepI, retOk, fin, endsOf, List.getElem?_cons_zero, List.getElem?_cons_succ, List.getD_cons_zero, List.getD_cons_succ, List.set_cons_zero, List.set_cons_succ, List.length_cons, List.length_nil, List.nil_append, List.cons_append, reduceIte, isi_ii, isi_ib, isi_tt, eqW_int, Bool.not_true, Bool.not_false, Bool.false_eq_true, Option.some.injEq, exists_eq_left', exists_eq_left, true_and, and_true, Bool.true_eq_false, Prod.mk.injEq, decide_eq_true_eq, and_assoc, exists_and_left, at3_0, at3_1, at3_2, ix3_0, ix3_2, Nat.reduceAdd, PyData.int.injEq, PyData.bool.injEq, Int.toNat_natCast, b25_16, f7, i7]
  refine ⟨by rw [len_T]; omega, fun q3 => ?_⟩
  refine compL_T (fun x => PyData.int (b2i (!b x))) (fun x hx kk acc hk => ?_) ?_
  · simp only [xss, xs, ev, evA, evT, evR, evO, evF, evI, cVar, cBin, cIdx, cB1, cIsi, cCall, cCio, cCnw, tru, vv, toVal, cv, asD, setAt, putT, putTs, bindT, setAll, augW, binW, cmpW, b1W, b2W, truth, seqOf, retW, wipeE, restore, keepI, retOk, fin, endsOf, List.getElem?_cons_zero, List.getElem?_cons_succ, List.getD_cons_zero, List.getD_cons_succ, List.set_cons_zero, List.set_cons_succ, List.length_cons, List.length_nil, List.nil_append, List.cons_append, reduceIte, isi_ii, isi_ib, isi_tt, eqW_int, Bool.not_true, Bool.not_false, Bool.false_eq_true, Option.some.injEq, exists_eq_left', exists_eq_left, true_and, and_true, Bool.true_eq_false, Prod.mk.injEq, decide_eq_true_eq, and_assoc, exists_and_left, at3_0, at3_1, at3_2, ix3_0, ix3_2, Nat.reduceAdd, PyData.int.injEq, PyData.bool.injEq, Int.toNat_natCast]
    rw [b2i_not]
    exact hk
  rw [← T_eq n fun x => !b x]
  refine run_pure (a := (n, fun x => !b x)) rfl h8 ?_
  refine ⟨by rw [ints_len, len_dist]; omega, fun q4 => ?_⟩
  refine compL_lst (fun z => PyData.int (((2 ^ n : Nat) : Int) - z)) (fun z hz kk acc hk => ?_) ?_
  · simp only [xss, xs, ev, evA, evT, evR, evO, evF, evI, cVar, cBin, cIdx, cB1, cIsi, cCall, cCio, cCnw, tru, vv, toVal, cv, asD, setAt, putT, putTs, bindT, setAll, augW, binW, cmpW, b1W, b2W, truth, seqOf, retW, wipeE, restore, keepI, retOk, fin, endsOf, List.getElem?_cons_zero, List.getElem?_cons_succ, List.getD_cons_zero, List.getD_cons_succ, List.set_cons_zero, List.set_cons_succ, List.length_cons, List.length_nil, List.nil_append, List.cons_append, reduceIte, isi_ii, isi_ib, isi_tt, eqW_int, Bool.not_true, Bool.not_false, Bool.false_eq_true, Option.some.injEq, exists_eq_left', exists_eq_left, true_and, and_true, Bool.true_eq_false, Prod.mk.injEq, decide_eq_true_eq, and_assoc, exists_and_left, at3_0, at3_1, at3_2, ix3_0, ix3_2, Nat.reduceAdd, PyData.int.injEq, PyData.bool.injEq, Int.toNat_natCast]
    exact hk
  have ed : (dist n b).map (fun z => PyData.int (((2 ^ n : Nat) : Int) - z)) = (List.range (2 ^ n)).map fun m => PyData.int (((2 ^ n : Nat) : Int) - hd n b m) := by
    unfold dist
    rw [List.map_map]
    rfl
  rw [ed]
  refine eq_same (nice_dist _ _ : Nice 1 _) (dist_is fun m hm => hd_not n b m) (by decide) ?_
  simp only [xss, xs, ev, evA, evT, evR, evO, evF, evI, cVar, cBin, cIdx, cB1, cIsi, cCall, cCio, cCnw, tru, vv, toVal, cv, asD, setAt, putT, putTs, bindT, setAll, augW, binW, cmpW, b1W, b2W, truth, seqOf, retW, wipeE, restore, keepI, retOk, fin, endsOf, List.getElem?_cons_zero, List.getElem?_cons_succ, List.getD_cons_zero, List.getD_cons_succ, List.set_cons_zero, List.set_cons_succ, List.length_cons, List.length_nil, List.nil_append, List.cons_append, reduceIte, isi_ii, isi_ib, isi_tt, eqW_int, Bool.not_true, Bool.not_false, Bool.false_eq_true, Option.some.injEq, exists_eq_left', exists_eq_left, true_and, and_true, Bool.true_eq_false, Prod.mk.injEq, decide_eq_true_eq, and_assoc, exists_and_left, at3_0, at3_1, at3_2, ix3_0, ix3_2, Nat.reduceAdd, PyData.int.injEq, PyData.bool.injEq, Int.toNat_natCast, b25_15]
  by_cases hn0 : (n : Int) = 0
  · rw [if_pos hn0]
    simp only [xss, xs, ev, evA, evT, evR, evO, evF, evI, cVar, cBin, cIdx, cB1, cIsi, cCall, cCio, cCnw, tru, vv, toVal, cv, asD, setAt, putT, putTs, bindT, setAll, augW, binW, cmpW, b1W, b2W, truth, seqOf, retW, wipeE, restore, keepI, retOk, fin, endsOf, List.getElem?_cons_zero, List.getElem?_cons_succ, List.getD_cons_zero, List.getD_cons_succ, List.set_cons_zero, List.set_cons_succ, List.length_cons, List.length_nil, List.nil_append, List.cons_append, reduceIte, isi_ii, isi_ib, isi_tt, eqW_int, Bool.not_true, Bool.not_false, Bool.false_eq_true, Option.some.injEq, exists_eq_left', exists_eq_left, true_and, and_true, Bool.true_eq_false, Prod.mk.injEq, decide_eq_true_eq, and_assoc, exists_and_left, at3_0, at3_1, at3_2, ix3_0, ix3_2, Nat.reduceAdd, PyData.int.injEq, PyData.bool.injEq, Int.toNat_natCast, b25_2]
    exact hr _ _ (ret_kv rfl (hp1.up (by omega)))
  · rw [if_neg hn0]
    exact t25_14 h8 (by omega) hp1 (by omega) fun pds' ρ hp' => hr _ _ (ret_kv rfl (hp'.up (by omega)))
end K13

set_option Elab.async false
set_option linter.all false
set_option maxRecDepth 100000
set_option maxHeartbeats 4000000
namespace K13
open PySem L2 VL BF

theorem range_app (a b : Nat) (g : Nat → D) : (List.range (a + b)).map g = (List.range a).map g ++ (List.range b).map fun y => g (a + y) := by
  rw [List.range_add, List.map_append, List.map_map]
  rfl
theorem block (i K : Nat) (g : Nat → D) : (List.range ((i + 1) * K)).map g = (List.range (i * K)).map g ++ (List.range K).map fun y => g (i * K + y) := by
  rw [Nat.succ_mul, range_app]
theorem len_out (N : Nat) (g : Nat → D) : ((List.range N).map g).length = N := by simp
abbrev e26 (p : Addr) (pds : List D) (n k : Nat) (b c : Nat → Bool) (r : List (Option SV)) : VL.Env := some (.ow p pds) :: some (.im (.int (n : Int))) :: some (.im (.int (k : Int))) :: some (.im (.tuple (T n b))) :: some (.im (.tuple (T k c))) :: r
theorem t26_5 {p q : Addr} {pds : List D} {n k : Nat} {b c : Nat → Bool} {E : EndsD} {l6 l7 l8 l9 l10 : Option SV} {q2 : Addr} (h8 : n + k ≤ 8) (hE : ∀ ρ, E.rt (.v (.bool true)) (some (.ow p pds) :: ρ)) :
    xss G Γ b26_5 (e26 p pds n k b c [some (.ow q (T (n + k) (cat k b c))), l6, l7, l8, l9, l10, some (.ow q2 (intsD (dist (n + k) (cat k b c)))), none, none]) E := by
  have h9 := two8 h8
  have hn9 := two8 (show n ≤ 8 by omega)
  have hk9 := two8 (show k ≤ 8 by omega)
  simp only [xss, xs, ev, evA, evT, evR, evO, evF, evI, cVar, cBin, cIdx, cB1, cIsi, cCall, cCio, cCnw, tru, vv, toVal, cv, asD, setAt, putT, putTs, bindT, setAll, augW, binW, cmpW, b1W, b2W, truth, seqOf, retW, wipeE, restore, keepI, retOk, fin, endsOf, List.getElem?_cons_zero, List.getElem?_cons_succ, List.getD_cons_zero, List.getD_cons_succ, List.set_cons_zero, List.set_cons_succ, List.length_cons, List.length_nil, List.nil_append, List.cons_append, reduceIte, isi_ii, isi_ib, isi_tt, eqW_int, Bool.not_true, Bool.not_false, Bool.false_eq_true, Option.some.injEq, exists_eq_left', exists_eq_left, true_and, and_true, Bool.true_eq_false, Prod.mk.injEq, decide_eq_true_eq, and_assoc, exists_and_left, at3_0, at3_1, at3_2, ix3_0, ix3_2, Nat.reduceAdd, PyData.int.injEq, PyData.bool.injEq, Int.toNat_natCast, b26_5, f7, i7]
  refine run_pure (a := (n + k, cat k b c)) rfl h8 ?_
  refine eq_same (nice_dist _ _ : Nice 1 _) rfl (by decide) ?_
  simp only [xss, xs, ev_var, ev_cst, ev_glo, ev_bin, ev_cmp, ev_chain, ev_and, ev_or, ev_not, ev_neg, ev_ife, ev_tup, ev_lst, ev_idx, ev_sl, ev_b1, ev_b2, ev_lrng, ev_isi, ev_call, ev_cio, ev_cnw, ev_lc, ev_pop, ev_tidx, ev_rep, evA, evT, evR, evO, evF, evI, cVar, cBin, cIdx, cB1, cIsi, cCall, cCio, cCnw, tru, vv, toVal, cv, asD, setAt, putT, putTs, bindT, setAll, augW, binW, cmpW, b1W, b2W, truth, seqOf, retW, wipeE, restore, keepI, retOk, fin, endsOf, List.getElem?_cons_zero, List.getElem?_cons_succ, List.getD_cons_zero, List.getD_cons_succ, List.set_cons_zero, List.set_cons_succ, List.length_cons, List.length_nil, List.nil_append, List.cons_append, reduceIte, isi_ii, isi_ib, isi_tt, eqW_int, Bool.not_true, Bool.not_false, Bool.false_eq_true, Option.some.injEq, exists_eq_left', exists_eq_left, true_and, and_true, Bool.true_eq_false, Prod.mk.injEq, decide_eq_true_eq, and_assoc, exists_and_left, at3_0, at3_1, at3_2, ix3_0, ix3_2, Nat.reduceAdd, PyData.int.injEq, PyData.bool.injEq, Int.toNat_natCast, b26_4]
  refine ⟨by decide, by decide, fun q3 => ?_⟩
  refine compL_lst (xs := [(n, b), (k, c), (n + k, cat k b c)]) (u := fun a : TB => PyData.tuple (T a.1 a.2)) (fun a => PyData.int (2 * letF a.1 a.2 - ((2 ^ a.1 : Nat) : Int) * ((2 ^ a.1 : Nat) : Int))) (fun a ha kk acc hk => ?_) ?_
  · have ha8 : a.1 ≤ 8 := by
      simp at ha
      rcases ha with rfl | rfl | rfl
      · show n ≤ 8
        omega
      · show k ≤ 8
        omega
      · exact h8
    have ha9 := two8 ha8
    simp only [xss, xs, ev, evA, evT, evR, evO, evF, evI, cVar, cBin, cIdx, cB1, cIsi, cCall, cCio, cCnw, tru, vv, toVal, cv, asD, setAt, putT, putTs, bindT, setAll, augW, binW, cmpW, b1W, b2W, truth, seqOf, retW, wipeE, restore, keepI, retOk, fin, endsOf, List.getElem?_cons_zero, List.getElem?_cons_succ, List.getD_cons_zero, List.getD_cons_succ, List.set_cons_zero, List.set_cons_succ, List.length_cons, List.length_nil, List.nil_append, List.cons_append, reduceIte, isi_ii, isi_ib, isi_tt, eqW_int, Bool.not_true, Bool.not_false, Bool.false_eq_true, Option.some.injEq, exists_eq_left', exists_eq_left, true_and, and_true, Bool.true_eq_false, Prod.mk.injEq, decide_eq_true_eq, and_assoc, exists_and_left, at3_0, at3_1, at3_2, ix3_0, ix3_2, Nat.reduceAdd, PyData.int.injEq, PyData.bool.injEq, Int.toNat_natCast, f10, i10]
    refine run_pure (a := a) rfl ha8 ?_
    simp only [xss, xs, ev, evA, evT, evR, evO, evF, evI, cVar, cBin, cIdx, cB1, cIsi, cCall, cCio, cCnw, tru, vv, toVal, cv, asD, setAt, putT, putTs, bindT, setAll, augW, binW, cmpW, b1W, b2W, truth, seqOf, retW, wipeE, restore, keepI, retOk, fin, endsOf, List.getElem?_cons_zero, List.getElem?_cons_succ, List.getD_cons_zero, List.getD_cons_succ, List.set_cons_zero, List.set_cons_succ, List.length_cons, List.length_nil, List.nil_append, List.cons_append, reduceIte, isi_ii, isi_ib, isi_tt, eqW_int, Bool.not_true, Bool.not_false, Bool.false_eq_true, Option.some.injEq, exists_eq_left', exists_eq_left, true_and, and_true, Bool.true_eq_false, Prod.mk.injEq, decide_eq_true_eq, and_assoc, exists_and_left, at3_0, at3_1, at3_2, ix3_0, ix3_2, Nat.reduceAdd, PyData.int.injEq, PyData.bool.injEq, Int.toNat_natCast, len_T]
    have z := Int.natCast_nonneg (2 ^ a.1)
    exact ⟨mul_l (by decide) (by decide), mul_l z (by omega), hk⟩
  simp only [xss, xs, ev, evA, evT, evR, evO, evF, evI, cVar, cBin, cIdx, cB1, cIsi, cCall, cCio, cCnw, tru, vv, toVal, cv, asD, setAt, putT, putTs, bindT, setAll, augW, binW, cmpW, b1W, b2W, truth, seqOf, retW, wipeE, restore, keepI, retOk, fin, endsOf, List.getElem?_cons_zero, List.getElem?_cons_succ, List.getD_cons_zero, List.getD_cons_succ, List.set_cons_zero, List.set_cons_succ, List.length_cons, List.length_nil, List.nil_append, List.cons_append, reduceIte, isi_ii, isi_ib, isi_tt, eqW_int, Bool.not_true, Bool.not_false, Bool.false_eq_true, Option.some.injEq, exists_eq_left', exists_eq_left, true_and, and_true, Bool.true_eq_false, Prod.mk.injEq, decide_eq_true_eq, and_assoc, exists_and_left, at3_0, at3_1, at3_2, ix3_0, ix3_2, Nat.reduceAdd, PyData.int.injEq, PyData.bool.injEq, Int.toNat_natCast, b26_3, List.map_cons, List.map_nil]
  have l1 := let_range n b
  have l2 := sq_range (n := n) (by omega)
  refine ⟨mul_b (by omega) (by omega), ?_⟩
  rw [decide_eq_true (let_cat b c)]
  exact hE _
theorem t26_10 {p : Addr} {pds : List D} {n k : Nat} {b c : Nat → Bool} {E : EndsD} (h8 : n + k ≤ 8) (hE : ∀ ρ, E.rt (.v (.bool true)) (some (.ow p pds) :: ρ)) :
    xss G Γ b26_10 (e26 p pds n k b c [none, none, none, none, none, none, none, none, none]) E := by
  have h9 := two8 h8
  have hn9 := two8 (show n ≤ 8 by omega)
  have hk9 := two8 (show k ≤ 8 by omega)
  have e2 : 2 ^ n * 2 ^ k = 2 ^ (n + k) := (Nat.pow_add 2 n k).symm
  have blk : ∀ i, i < 2 ^ n → (i + 1) * 2 ^ k ≤ 256 := fun i hi => by
    have : (i + 1) * 2 ^ k ≤ 2 ^ n * 2 ^ k := Nat.mul_le_mul_right _ hi
    omega
  have bsz : ∀ i, i < 2 ^ n → i * 2 ^ k + 2 ^ k ≤ 256 := fun i hi => by
    have := blk i hi
    rw [Nat.succ_mul] at this
    exact this
  simp only [xss, xs, ev, evA, evT, evR, evO, evF, evI, cVar, cBin, cIdx, cB1, cIsi, cCall, cCio, cCnw, tru, vv, toVal, cv, asD, setAt, putT, putTs, bindT, setAll, augW, binW, cmpW, b1W, b2W, truth, seqOf, retW, wipeE, restore, keepI, retOk, fin, endsOf, List.getElem?_cons_zero, List.getElem?_cons_succ, List.getD_cons_zero, List.getD_cons_succ, List.set_cons_zero, List.set_cons_succ, List.length_cons, List.length_nil, List.nil_append, List.cons_append, reduceIte, isi_ii, isi_ib, isi_tt, eqW_int, Bool.not_true, Bool.not_false, Bool.false_eq_true, Option.some.injEq, exists_eq_left', exists_eq_left, true_and, and_true, Bool.true_eq_false, Prod.mk.injEq, decide_eq_true_eq, and_assoc, exists_and_left, at3_0, at3_1, at3_2, ix3_0, ix3_2, Nat.reduceAdd, PyData.int.injEq, PyData.bool.injEq, Int.toNat_natCast, b26_10]
  refine ⟨by decide, fun q => ?_⟩
  simp only [xss, xs, ev, evA, evT, evR, evO, evF, evI, cVar, cBin, cIdx, cB1, cIsi, cCall, cCio, cCnw, tru, vv, toVal, cv, asD, setAt, putT, putTs, bindT, setAll, augW, binW, cmpW, b1W, b2W, truth, seqOf, retW, wipeE, restore, keepI, retOk, fin, endsOf, List.getElem?_cons_zero, List.getElem?_cons_succ, List.getD_cons_zero, List.getD_cons_succ, List.set_cons_zero, List.set_cons_succ, List.length_cons, List.length_nil, List.nil_append, List.cons_append, reduceIte, isi_ii, isi_ib, isi_tt, eqW_int, Bool.not_true, Bool.not_false, Bool.false_eq_true, Option.some.injEq, exists_eq_left', exists_eq_left, true_and, and_true, Bool.true_eq_false, Prod.mk.injEq, decide_eq_true_eq, and_assoc, exists_and_left, at3_0, at3_1, at3_2, ix3_0, ix3_2, Nat.reduceAdd, PyData.int.injEq, PyData.bool.injEq, Int.toNat_natCast, b26_9]
  rw [T_eq n b]
  refine forL_inv (fun i ρ => ∃ l6, ρ = e26 p pds n k b c [some (.ow q ((List.range (i * 2 ^ k)).map fun x => PyData.int (b2i (cat k b c x)))), l6, none, none, none, none, none, none, none]) ⟨none, by rw [Nat.zero_mul, ← T_eq]; rfl⟩ (fun i x ρ kk hx h hk => ?_) fun ρ h => ?_
  · obtain ⟨l6, rfl⟩ := h
    obtain ⟨hl, e⟩ := List.getElem?_eq_some_iff.mp hx
    simp at hl e
    subst e
    simp only [xss, xs, ev_var, ev_cst, ev_glo, ev_bin, ev_cmp, ev_chain, ev_and, ev_or, ev_not, ev_neg, ev_ife, ev_tup, ev_lst, ev_idx, ev_sl, ev_b1, ev_b2, ev_lrng, ev_isi, ev_call, ev_cio, ev_cnw, ev_lc, ev_pop, ev_tidx, ev_rep, evA, evT, evR, evO, evF, evI, cVar, cBin, cIdx, cB1, cIsi, cCall, cCio, cCnw, tru, vv, toVal, cv, asD, setAt, putT, putTs, bindT, setAll, augW, binW, cmpW, b1W, b2W, truth, seqOf, retW, wipeE, restore, keepI, retOk, fin, endsOf, List.getElem?_cons_zero, List.getElem?_cons_succ, List.getD_cons_zero, List.getD_cons_succ, List.set_cons_zero, List.set_cons_succ, List.length_cons, List.length_nil, List.nil_append, List.cons_append, reduceIte, isi_ii, isi_ib, isi_tt, eqW_int, Bool.not_true, Bool.not_false, Bool.false_eq_true, Option.some.injEq, exists_eq_left', exists_eq_left, true_and, and_true, Bool.true_eq_false, Prod.mk.injEq, decide_eq_true_eq, and_assoc, exists_and_left, at3_0, at3_1, at3_2, ix3_0, ix3_2, Nat.reduceAdd, PyData.int.injEq, PyData.bool.injEq, Int.toNat_natCast, b26_0]
    refine ⟨by rw [len_T]; omega, fun q3 => ?_⟩
    refine compL_T (fun y => PyData.int (b2i (cat k b c (i * 2 ^ k + y)))) (fun y hy kk acc hk => ?_) ?_
    · simp only [xss, xs, ev, evA, evT, evR, evO, evF, evI, cVar, cBin, cIdx, cB1, cIsi, cCall, cCio, cCnw, tru, vv, toVal, cv, asD, setAt, putT, putTs, bindT, setAll, augW, binW, cmpW, b1W, b2W, truth, seqOf, retW, wipeE, restore, keepI, retOk, fin, endsOf, List.getElem?_cons_zero, List.getElem?_cons_succ, List.getD_cons_zero, List.getD_cons_succ, List.set_cons_zero, List.set_cons_succ, List.length_cons, List.length_nil, List.nil_append, List.cons_append, reduceIte, isi_ii, isi_ib, isi_tt, eqW_int, Bool.not_true, Bool.not_false, Bool.false_eq_true, Option.some.injEq, exists_eq_left', exists_eq_left, true_and, and_true, Bool.true_eq_false, Prod.mk.injEq, decide_eq_true_eq, and_assoc, exists_and_left, at3_0, at3_1, at3_2, ix3_0, ix3_2, Nat.reduceAdd, PyData.int.injEq, PyData.bool.injEq, Int.toNat_natCast]
      rw [bx_bit]
      rw [cat_at hy] at hk
      exact hk
    · simp only [xss, xs, ev, evA, evT, evR, evO, evF, evI, cVar, cBin, cIdx, cB1, cIsi, cCall, cCio, cCnw, tru, vv, toVal, cv, asD, setAt, putT, putTs, bindT, setAll, augW, binW, cmpW, b1W, b2W, truth, seqOf, retW, wipeE, restore, keepI, retOk, fin, endsOf, List.getElem?_cons_zero, List.getElem?_cons_succ, List.getD_cons_zero, List.getD_cons_succ, List.set_cons_zero, List.set_cons_succ, List.length_cons, List.length_nil, List.nil_append, List.cons_append, reduceIte, isi_ii, isi_ib, isi_tt, eqW_int, Bool.not_true, Bool.not_false, Bool.false_eq_true, Option.some.injEq, exists_eq_left', exists_eq_left, true_and, and_true, Bool.true_eq_false, Prod.mk.injEq, decide_eq_true_eq, and_assoc, exists_and_left, at3_0, at3_1, at3_2, ix3_0, ix3_2, Nat.reduceAdd, PyData.int.injEq, PyData.bool.injEq, Int.toNat_natCast]
      rw [← block]
      exact ⟨by rw [len_out, len_out]; have := bsz i hl; omega, hk _ ⟨_, rfl⟩⟩
  · obtain ⟨l6, rfl⟩ := h
    rw [len_out, e2, ← T_eq]
    simp only [xss, xs, ev, evA, evT, evR, evO, evF, evI, cVar, cBin, cIdx, cB1, cIsi, cCall, cCio, cCnw, tru, vv, toVal, cv, asD, setAt, putT, putTs, bindT, setAll, augW, binW, cmpW, b1W, b2W, truth, seqOf, retW, wipeE, restore, keepI, retOk, fin, endsOf, List.getElem?_cons_zero, List.getElem?_cons_succ, List.getD_cons_zero, List.getD_cons_succ, List.set_cons_zero, List.set_cons_succ, List.length_cons, List.length_nil, List.nil_append, List.cons_append, reduceIte, isi_ii, isi_ib, isi_tt, eqW_int, Bool.not_true, Bool.not_false, Bool.false_eq_true, Option.some.injEq, exists_eq_left', exists_eq_left, true_and, and_true, Bool.true_eq_false, Prod.mk.injEq, decide_eq_true_eq, and_assoc, exists_and_left, at3_0, at3_1, at3_2, ix3_0, ix3_2, Nat.reduceAdd, PyData.int.injEq, PyData.bool.injEq, Int.toNat_natCast, b26_8, f7, i7, len_T]
    refine run_pure (a := (n, b)) rfl (by show n ≤ 8; omega) ?_
    refine run_pure (a := (k, c)) rfl (by show k ≤ 8; omega) ?_
    simp only [xss, xs, ev, evA, evT, evR, evO, evF, evI, cVar, cBin, cIdx, cB1, cIsi, cCall, cCio, cCnw, tru, vv, toVal, cv, asD, setAt, putT, putTs, bindT, setAll, augW, binW, cmpW, b1W, b2W, truth, seqOf, retW, wipeE, restore, keepI, retOk, fin, endsOf, List.getElem?_cons_zero, List.getElem?_cons_succ, List.getD_cons_zero, List.getD_cons_succ, List.set_cons_zero, List.set_cons_succ, List.length_cons, List.length_nil, List.nil_append, List.cons_append, reduceIte, isi_ii, isi_ib, isi_tt, eqW_int, Bool.not_true, Bool.not_false, Bool.false_eq_true, Option.some.injEq, exists_eq_left', exists_eq_left, true_and, and_true, Bool.true_eq_false, Prod.mk.injEq, decide_eq_true_eq, and_assoc, exists_and_left, at3_0, at3_1, at3_2, ix3_0, ix3_2, Nat.reduceAdd, PyData.int.injEq, PyData.bool.injEq, Int.toNat_natCast, b26_7]
    refine ⟨by decide, fun q2 => ?_⟩
    simp only [xss, xs, ev, evA, evT, evR, evO, evF, evI, cVar, cBin, cIdx, cB1, cIsi, cCall, cCio, cCnw, tru, vv, toVal, cv, asD, setAt, putT, putTs, bindT, setAll, augW, binW, cmpW, b1W, b2W, truth, seqOf, retW, wipeE, restore, keepI, retOk, fin, endsOf, List.getElem?_cons_zero, List.getElem?_cons_succ, List.getD_cons_zero, List.getD_cons_succ, List.set_cons_zero, List.set_cons_succ, List.length_cons, List.length_nil, List.nil_append, List.cons_append, reduceIte, isi_ii, isi_ib, isi_tt, eqW_int, Bool.not_true, Bool.not_false, Bool.false_eq_true, Option.some.injEq, exists_eq_left', exists_eq_left, true_and, and_true, Bool.true_eq_false, Prod.mk.injEq, decide_eq_true_eq, and_assoc, exists_and_left, at3_0, at3_1, at3_2, ix3_0, ix3_2, Nat.reduceAdd, PyData.int.injEq, PyData.bool.injEq, Int.toNat_natCast, b26_6]
    have ed : intsD (dist n b) = (List.range (2 ^ n)).map fun m => PyData.int (hd n b m) := (rng_ints _).symm
    rw [ed]
    refine forL_inv (fun i ρ => ∃ l6, ρ = e26 p pds n k b c [some (.ow q (T (n + k) (cat k b c))), l6, none, some (.im (.tuple (intsD (dist n b)))), some (.im (.tuple (intsD (dist k c)))), some (.im (.int ((2 ^ (n + k) : Nat) : Int))), some (.ow q2 ((List.range (i * 2 ^ k)).map fun x => PyData.int (hd (n + k) (cat k b c) x))), none, none]) ⟨l6, by rw [Nat.zero_mul, ← ed]; rfl⟩ (fun i x ρ kk hx h hk => ?_) fun ρ h => ?_
    · obtain ⟨l6, rfl⟩ := h
      obtain ⟨hl, e⟩ := List.getElem?_eq_some_iff.mp hx
      simp at hl e
      subst e
      simp only [xss, xs, ev_var, ev_cst, ev_glo, ev_bin, ev_cmp, ev_chain, ev_and, ev_or, ev_not, ev_neg, ev_ife, ev_tup, ev_lst, ev_idx, ev_sl, ev_b1, ev_b2, ev_lrng, ev_isi, ev_call, ev_cio, ev_cnw, ev_lc, ev_pop, ev_tidx, ev_rep, evA, evT, evR, evO, evF, evI, cVar, cBin, cIdx, cB1, cIsi, cCall, cCio, cCnw, tru, vv, toVal, cv, asD, setAt, putT, putTs, bindT, setAll, augW, binW, cmpW, b1W, b2W, truth, seqOf, retW, wipeE, restore, keepI, retOk, fin, endsOf, List.getElem?_cons_zero, List.getElem?_cons_succ, List.getD_cons_zero, List.getD_cons_succ, List.set_cons_zero, List.set_cons_succ, List.length_cons, List.length_nil, List.nil_append, List.cons_append, reduceIte, isi_ii, isi_ib, isi_tt, eqW_int, Bool.not_true, Bool.not_false, Bool.false_eq_true, Option.some.injEq, exists_eq_left', exists_eq_left, true_and, and_true, Bool.true_eq_false, Prod.mk.injEq, decide_eq_true_eq, and_assoc, exists_and_left, at3_0, at3_1, at3_2, ix3_0, ix3_2, Nat.reduceAdd, PyData.int.injEq, PyData.bool.injEq, Int.toNat_natCast, b26_1]
      refine ⟨by rw [ints_len, len_dist]; omega, fun q3 => ?_⟩
      have fin : kk (e26 p pds n k b c [some (.ow q (T (n + k) (cat k b c))), some (.im (.int (hd n b i))), none, some (.im (.tuple (intsD (dist n b)))), some (.im (.tuple (intsD (dist k c)))), some (.im (.int ((2 ^ (n + k) : Nat) : Int))), some (.ow q2 ((List.range (i * 2 ^ k)).map (fun x => PyData.int (hd (n + k) (cat k b c) x)) ++ (List.range (2 ^ k)).map fun y => PyData.int (hd (n + k) (cat k b c) (i * 2 ^ k + y)))), none, none]) := by
        rw [← block (g := fun x => PyData.int (hd (n + k) (cat k b c) x))]
        exact hk _ ⟨_, rfl⟩
      have r1 := hd_range n b i
      have z1 := Int.natCast_nonneg (2 ^ n)
      refine compL_lst (fun z => PyData.int ((((2 ^ (n + k) : Nat) : Int) - (((2 ^ n : Nat) : Int) - 2 * hd n b i) * (((2 ^ k : Nat) : Int) - 2 * z)) / 2)) (fun z hz kk acc hk => ?_) ?_
      · simp only [xss, xs, ev, evA, evT, evR, evO, evF, evI, cVar, cBin, cIdx, cB1, cIsi, cCall, cCio, cCnw, tru, vv, toVal, cv, asD, setAt, putT, putTs, bindT, setAll, augW, binW, cmpW, b1W, b2W, truth, seqOf, retW, wipeE, restore, keepI, retOk, fin, endsOf, List.getElem?_cons_zero, List.getElem?_cons_succ, List.getD_cons_zero, List.getD_cons_succ, List.set_cons_zero, List.set_cons_succ, List.length_cons, List.length_nil, List.nil_append, List.cons_append, reduceIte, isi_ii, isi_ib, isi_tt, eqW_int, Bool.not_true, Bool.not_false, Bool.false_eq_true, Option.some.injEq, exists_eq_left', exists_eq_left, true_and, and_true, Bool.true_eq_false, Prod.mk.injEq, decide_eq_true_eq, and_assoc, exists_and_left, at3_0, at3_1, at3_2, ix3_0, ix3_2, Nat.reduceAdd, PyData.int.injEq, PyData.bool.injEq, Int.toNat_natCast, len_T]
        exact ⟨mul_l (by decide) (by decide), mul_l (by decide) (by decide), mul_b (by omega) (by omega), div_ok (by decide) (by decide), hk⟩
      · have eg : (dist k c).map (fun z => PyData.int ((((2 ^ (n + k) : Nat) : Int) - (((2 ^ n : Nat) : Int) - 2 * hd n b i) * (((2 ^ k : Nat) : Int) - 2 * z)) / 2)) = (List.range (2 ^ k)).map fun y => PyData.int (hd (n + k) (cat k b c) (i * 2 ^ k + y)) := by
          unfold dist
          rw [List.map_map]
          refine List.map_congr_left fun y hy => ?_
          have hc := hd_cat (n := n) (k := k) (by omega) b c hl (List.mem_range.mp hy)
          simp only [Function.comp_apply]
          congr 1
          omega
        rw [eg]
        refine ⟨?_, fin⟩
        show (List.map _ _).length + (List.map _ _).length ≤ 100000
        rw [len_out, len_out]
        have := bsz i hl
        omega
    · obtain ⟨l6, rfl⟩ := h
      rw [len_out, e2]
      have eo : (List.range (2 ^ (n + k))).map (fun x => PyData.int (hd (n + k) (cat k b c) x)) = intsD (dist (n + k) (cat k b c)) := rng_ints _
      rw [eo]
      exact t26_5 h8 hE
theorem ok26 : BodyOk G Γ 14 b26 (tS1 5000) := by
  refine body_pot fun a ha c pds hp hc p E hr => ?_
  show xss G Γ b26_12 [some (.ow p pds), none, none, none, none, none, none, none, none, none, none, none, none, none] E
  have key : ∀ (n k : Nat) pds1, n + k ≤ 8 → Pot (c + 1) pds1 → xss G Γ b26_11 [some (.ow p pds1), some (.im (.int (n : Int))), some (.im (.int (k : Int))), none, none, none, none, none, none, none, none, none, none, none] E := fun n k pds1 h8 hp1 => by
    simp only [xss, xs, ev, evA, evT, evR, evO, evF, evI, cVar, cBin, cIdx, cB1, cIsi, cCall, cCio, cCnw, tru, vv, toVal, cv, asD, setAt, putT, putTs, bindT, setAll, augW, binW, cmpW, b1W, b2W, truth, seqOf, retW, wipeE, restore, keepI, retOk, fin, endsOf, List.getElem?_cons_zero, List.getElem?_cons_succ, List.getD_cons_zero, List.getD_cons_succ, List.set_cons_zero, List.set_cons_succ, List.length_cons, List.length_nil, List.nil_append, List.cons_append, reduceIte, isi_ii, isi_ib, isi_tt, eqW_int, Bool.not_true, Bool.not_false, Bool.false_eq_true, Option.some.injEq, exists_eq_left', exists_eq_left, true_and, and_true, Bool.true_eq_false, Prod.mk.injEq, decide_eq_true_eq, and_assoc, exists_and_left, at3_0, at3_1, at3_2, ix3_0, ix3_2, Nat.reduceAdd, PyData.int.injEq, PyData.bool.injEq, Int.toNat_natCast, b26_11, f21, i21]
    refine run_pot hp1 (by omega) n rfl (by show n ≤ 8; omega) fun d pds2 hd hp2 => ?_
    obtain ⟨b1, rfl⟩ := hd
    refine run_pot hp2 (by omega) k rfl (by show k ≤ 8; omega) fun d pds3 hd hp3 => ?_
    obtain ⟨b2, rfl⟩ := hd
    exact t26_10 h8 fun ρ => hr _ _ (ret_kv rfl (hp3.up (by omega)))
  simp only [xss, xs, ev, evA, evT, evR, evO, evF, evI, cVar, cBin, cIdx, cB1, cIsi, cCall, cCio, cCnw, tru, vv, toVal, cv, asD, setAt, putT, putTs, bindT, setAll, augW, binW, cmpW, b1W, b2W, truth, seqOf, retW, wipeE, restore, keepI, retOk, fin, endsOf, List.getElem?_cons_zero, List.getElem?_cons_succ, List.getD_cons_zero, List.getD_cons_succ, List.set_cons_zero, List.set_cons_succ, List.length_cons, List.length_nil, List.nil_append, List.cons_append, reduceIte, isi_ii, isi_ib, isi_tt, eqW_int, Bool.not_true, Bool.not_false, Bool.false_eq_true, Option.some.injEq, exists_eq_left', exists_eq_left, true_and, and_true, Bool.true_eq_false, Prod.mk.injEq, decide_eq_true_eq, and_assoc, exists_and_left, at3_0, at3_1, at3_2, ix3_0, ix3_2, Nat.reduceAdd, PyData.int.injEq, PyData.bool.injEq, Int.toNat_natCast, b26_12, f16, i16]
  refine ⟨by decide, by decide, by decide, by decide, by decide, by decide, by decide, fun q => ?_⟩
  refine run_pot hp (by omega) _ rfl ⟨by decide, by decide⟩ fun d pds1 hd hp1 => ?_
  simp only [List.mem_cons, List.not_mem_nil, or_false] at hd
  rcases hd with rfl | rfl | rfl | rfl | rfl | rfl
  · exact ⟨rfl, key 2 3 pds1 (by decide) hp1⟩
  · exact ⟨rfl, key 3 3 pds1 (by decide) hp1⟩
  · exact ⟨rfl, key 4 4 pds1 (by decide) hp1⟩
  · exact ⟨rfl, key 0 5 pds1 (by decide) hp1⟩
  · exact ⟨rfl, key 1 6 pds1 (by decide) hp1⟩
  · exact ⟨rfl, key 4 2 pds1 (by decide) hp1⟩
theorem ok27 : BodyOk G Γ 3 b27 (tS1 10000) := by
  refine body_pot fun a ha c pds hp hc p E hr => ?_
  show xss G Γ b27_2 [some (.ow p pds), none, none] E
  have key : ∀ (n : Nat) pds1, n ≤ 8 → Pot (c + 1) pds1 → xss G Γ b27_1 [some (.ow p pds1), some (.im (.int (n : Int))), none] E := fun n pds1 h8 hp1 => by
    simp only [xss, xs, ev, evA, evT, evR, evO, evF, evI, cVar, cBin, cIdx, cB1, cIsi, cCall, cCio, cCnw, tru, vv, toVal, cv, asD, setAt, putT, putTs, bindT, setAll, augW, binW, cmpW, b1W, b2W, truth, seqOf, retW, wipeE, restore, keepI, retOk, fin, endsOf, List.getElem?_cons_zero, List.getElem?_cons_succ, List.getD_cons_zero, List.getD_cons_succ, List.set_cons_zero, List.set_cons_succ, List.length_cons, List.length_nil, List.nil_append, List.cons_append, reduceIte, isi_ii, isi_ib, isi_tt, eqW_int, Bool.not_true, Bool.not_false, Bool.false_eq_true, Option.some.injEq, exists_eq_left', exists_eq_left, true_and, and_true, Bool.true_eq_false, Prod.mk.injEq, decide_eq_true_eq, and_assoc, exists_and_left, at3_0, at3_1, at3_2, ix3_0, ix3_2, Nat.reduceAdd, PyData.int.injEq, PyData.bool.injEq, Int.toNat_natCast, b27_1, f21, i21]
    refine run_pot hp1 (by omega) n rfl h8 fun d pds2 hd hp2 => ?_
    obtain ⟨b, rfl⟩ := hd
    simp only [xss, xs, ev, evA, evT, evR, evO, evF, evI, cVar, cBin, cIdx, cB1, cIsi, cCall, cCio, cCnw, tru, vv, toVal, cv, asD, setAt, putT, putTs, bindT, setAll, augW, binW, cmpW, b1W, b2W, truth, seqOf, retW, wipeE, restore, keepI, retOk, fin, endsOf, List.getElem?_cons_zero, List.getElem?_cons_succ, List.getD_cons_zero, List.getD_cons_succ, List.set_cons_zero, List.set_cons_succ, List.length_cons, List.length_nil, List.nil_append, List.cons_append, reduceIte, isi_ii, isi_ib, isi_tt, eqW_int, Bool.not_true, Bool.not_false, Bool.false_eq_true, Option.some.injEq, exists_eq_left', exists_eq_left, true_and, and_true, Bool.true_eq_false, Prod.mk.injEq, decide_eq_true_eq, and_assoc, exists_and_left, at3_0, at3_1, at3_2, ix3_0, ix3_2, Nat.reduceAdd, PyData.int.injEq, PyData.bool.injEq, Int.toNat_natCast, b27_0, f24, i24, f25, i25, f26, i26]
    refine run_pot hp2 (by omega) (n, b) rfl h8 fun d pds3 hd hp3 => ?_
    subst hd
    simp only [xss, xs, ev, evA, evT, evR, evO, evF, evI, cVar, cBin, cIdx, cB1, cIsi, cCall, cCio, cCnw, tru, vv, toVal, cv, asD, setAt, putT, putTs, bindT, setAll, augW, binW, cmpW, b1W, b2W, truth, seqOf, retW, wipeE, restore, keepI, retOk, fin, endsOf, List.getElem?_cons_zero, List.getElem?_cons_succ, List.getD_cons_zero, List.getD_cons_succ, List.set_cons_zero, List.set_cons_succ, List.length_cons, List.length_nil, List.nil_append, List.cons_append, reduceIte, isi_ii, isi_ib, isi_tt, eqW_int, Bool.not_true, Bool.not_false, Bool.false_eq_true, Option.some.injEq, exists_eq_left', exists_eq_left, true_and, and_true, Bool.true_eq_false, Prod.mk.injEq, decide_eq_true_eq, and_assoc, exists_and_left, at3_0, at3_1, at3_2, ix3_0, ix3_2, Nat.reduceAdd, PyData.int.injEq, PyData.bool.injEq, Int.toNat_natCast]
    refine run_pot hp3 (by omega) (n, b) rfl h8 fun d pds4 hd hp4 => ?_
    subst hd
    simp only [xss, xs, ev, evA, evT, evR, evO, evF, evI, cVar, cBin, cIdx, cB1, cIsi, cCall, cCio, cCnw, tru, vv, toVal, cv, asD, setAt, putT, putTs, bindT, setAll, augW, binW, cmpW, b1W, b2W, truth, seqOf, retW, wipeE, restore, keepI, retOk, fin, endsOf, List.getElem?_cons_zero, List.getElem?_cons_succ, List.getD_cons_zero, List.getD_cons_succ, List.set_cons_zero, List.set_cons_succ, List.length_cons, List.length_nil, List.nil_append, List.cons_append, reduceIte, isi_ii, isi_ib, isi_tt, eqW_int, Bool.not_true, Bool.not_false, Bool.false_eq_true, Option.some.injEq, exists_eq_left', exists_eq_left, true_and, and_true, Bool.true_eq_false, Prod.mk.injEq, decide_eq_true_eq, and_assoc, exists_and_left, at3_0, at3_1, at3_2, ix3_0, ix3_2, Nat.reduceAdd, PyData.int.injEq, PyData.bool.injEq, Int.toNat_natCast]
    refine run_pot hp4 (by omega) () rfl trivial fun d pds5 hd hp5 => ?_
    subst hd
    exact hr _ _ (ret_kv rfl (hp5.up (by omega)))
  simp only [xss, xs, ev, evA, evT, evR, evO, evF, evI, cVar, cBin, cIdx, cB1, cIsi, cCall, cCio, cCnw, tru, vv, toVal, cv, asD, setAt, putT, putTs, bindT, setAll, augW, binW, cmpW, b1W, b2W, truth, seqOf, retW, wipeE, restore, keepI, retOk, fin, endsOf, List.getElem?_cons_zero, List.getElem?_cons_succ, List.getD_cons_zero, List.getD_cons_succ, List.set_cons_zero, List.set_cons_succ, List.length_cons, List.length_nil, List.nil_append, List.cons_append, reduceIte, isi_ii, isi_ib, isi_tt, eqW_int, Bool.not_true, Bool.not_false, Bool.false_eq_true, Option.some.injEq, exists_eq_left', exists_eq_left, true_and, and_true, Bool.true_eq_false, Prod.mk.injEq, decide_eq_true_eq, and_assoc, exists_and_left, at3_0, at3_1, at3_2, ix3_0, ix3_2, Nat.reduceAdd, PyData.int.injEq, PyData.bool.injEq, Int.toNat_natCast, b27_2, f16, i16]
  refine ⟨by decide, fun q => ?_⟩
  refine run_pot hp (by omega) _ rfl ⟨by decide, by decide⟩ fun d pds1 hd hp1 => ?_
  simp only [List.mem_cons, List.not_mem_nil, or_false] at hd
  rcases hd with rfl | rfl | rfl | rfl | rfl | rfl | rfl | rfl
  · exact key 0 pds1 (by decide) hp1
  · exact key 1 pds1 (by decide) hp1
  · exact key 2 pds1 (by decide) hp1
  · exact key 3 pds1 (by decide) hp1
  · exact key 4 pds1 (by decide) hp1
  · exact key 5 pds1 (by decide) hp1
  · exact key 6 pds1 (by decide) hp1
  · exact key 8 pds1 (by decide) hp1
theorem ok28 : BodyOk G Γ 2 b28 (lawSpec 63) := by
  intro ns hns p
  refine body_of fun E hn hr => ?_
  have hns : ns.length ≤ 63 := hns
  show xss G Γ b28_3 [some (.im (.list (intsD ns))), none] E
  simp only [xss, xs, ev, evA, evT, evR, evO, evF, evI, cVar, cBin, cIdx, cB1, cIsi, cCall, cCio, cCnw, tru, vv, toVal, cv, asD, setAt, putT, putTs, bindT, setAll, augW, binW, cmpW, b1W, b2W, truth, seqOf, retW, wipeE, restore, keepI, retOk, fin, endsOf, List.getElem?_cons_zero, List.getElem?_cons_succ, List.getD_cons_zero, List.getD_cons_succ, List.set_cons_zero, List.set_cons_succ, List.length_cons, List.length_nil, List.nil_append, List.cons_append, reduceIte, isi_ii, isi_ib, isi_tt, eqW_int, Bool.not_true, Bool.not_false, Bool.false_eq_true, Option.some.injEq, exists_eq_left', exists_eq_left, true_and, and_true, Bool.true_eq_false, Prod.mk.injEq, decide_eq_true_eq, and_assoc, exists_and_left, at3_0, at3_1, at3_2, ix3_0, ix3_2, Nat.reduceAdd, PyData.int.injEq, PyData.bool.injEq, Int.toNat_natCast, b28_3, f15, i15]
  refine run_pure (a := (ns, 2)) rfl ⟨(by decide : (1 : Nat) ≤ 2), (by decide : (2 : Nat) ≤ 100), by show ns.length ≤ 10000; omega⟩ ?_
  simp only [xss, xs, ev, evA, evT, evR, evO, evF, evI, cVar, cBin, cIdx, cB1, cIsi, cCall, cCio, cCnw, tru, vv, toVal, cv, asD, setAt, putT, putTs, bindT, setAll, augW, binW, cmpW, b1W, b2W, truth, seqOf, retW, wipeE, restore, keepI, retOk, fin, endsOf, List.getElem?_cons_zero, List.getElem?_cons_succ, List.getD_cons_zero, List.getD_cons_succ, List.set_cons_zero, List.set_cons_succ, List.length_cons, List.length_nil, List.nil_append, List.cons_append, reduceIte, isi_ii, isi_ib, isi_tt, eqW_int, Bool.not_true, Bool.not_false, Bool.false_eq_true, Option.some.injEq, exists_eq_left', exists_eq_left, true_and, and_true, Bool.true_eq_false, Prod.mk.injEq, decide_eq_true_eq, and_assoc, exists_and_left, at3_0, at3_1, at3_2, ix3_0, ix3_2, Nat.reduceAdd, PyData.int.injEq, PyData.bool.injEq, Int.toNat_natCast]
  refine forL_inv (fun i ρ => ∃ l, ρ = [some (.im (.list (intsD ns))), l]) ⟨none, rfl⟩ (fun i x ρ k hx h hk => ?_) fun ρ h => ?_
  · obtain ⟨l, rfl⟩ := h
    obtain ⟨hl, e⟩ := List.getElem?_eq_some_iff.mp hx
    simp at hl e
    subst e
    simp only [xss, xs, ev, evA, evT, evR, evO, evF, evI, cVar, cBin, cIdx, cB1, cIsi, cCall, cCio, cCnw, tru, vv, toVal, cv, asD, setAt, putT, putTs, bindT, setAll, augW, binW, cmpW, b1W, b2W, truth, seqOf, retW, wipeE, restore, keepI, retOk, fin, endsOf, List.getElem?_cons_zero, List.getElem?_cons_succ, List.getD_cons_zero, List.getD_cons_succ, List.set_cons_zero, List.set_cons_succ, List.length_cons, List.length_nil, List.nil_append, List.cons_append, reduceIte, isi_ii, isi_ib, isi_tt, eqW_int, Bool.not_true, Bool.not_false, Bool.false_eq_true, Option.some.injEq, exists_eq_left', exists_eq_left, true_and, and_true, Bool.true_eq_false, Prod.mk.injEq, decide_eq_true_eq, and_assoc, exists_and_left, at3_0, at3_1, at3_2, ix3_0, ix3_2, Nat.reduceAdd, PyData.int.injEq, PyData.bool.injEq, Int.toNat_natCast, b28_1, f13, i13, f27, i27]
    refine run_gen (a := (ns, i)) rfl ⟨by show i ≤ 10000; omega, by show ns.length ≤ 10000; omega⟩ fun d hd => ?_
    obtain ⟨ds, rfl, hp⟩ := hd
    simp only [xss, xs, ev, evA, evT, evR, evO, evF, evI, cVar, cBin, cIdx, cB1, cIsi, cCall, cCio, cCnw, tru, vv, toVal, cv, asD, setAt, putT, putTs, bindT, setAll, augW, binW, cmpW, b1W, b2W, truth, seqOf, retW, wipeE, restore, keepI, retOk, fin, endsOf, List.getElem?_cons_zero, List.getElem?_cons_succ, List.getD_cons_zero, List.getD_cons_succ, List.set_cons_zero, List.set_cons_succ, List.length_cons, List.length_nil, List.nil_append, List.cons_append, reduceIte, isi_ii, isi_ib, isi_tt, eqW_int, Bool.not_true, Bool.not_false, Bool.false_eq_true, Option.some.injEq, exists_eq_left', exists_eq_left, true_and, and_true, Bool.true_eq_false, Prod.mk.injEq, decide_eq_true_eq, and_assoc, exists_and_left, at3_0, at3_1, at3_2, ix3_0, ix3_2, Nat.reduceAdd, PyData.int.injEq, PyData.bool.injEq, Int.toNat_natCast]
    intro q
    refine run_pot hp (by decide) () rfl trivial fun d pds' hd hp' => ?_
    subst hd
    simp only [xss, xs, ev, evA, evT, evR, evO, evF, evI, cVar, cBin, cIdx, cB1, cIsi, cCall, cCio, cCnw, tru, vv, toVal, cv, asD, setAt, putT, putTs, bindT, setAll, augW, binW, cmpW, b1W, b2W, truth, seqOf, retW, wipeE, restore, keepI, retOk, fin, endsOf, List.getElem?_cons_zero, List.getElem?_cons_succ, List.getD_cons_zero, List.getD_cons_succ, List.set_cons_zero, List.set_cons_succ, List.length_cons, List.length_nil, List.nil_append, List.cons_append, reduceIte, isi_ii, isi_ib, isi_tt, eqW_int, Bool.not_true, Bool.not_false, Bool.false_eq_true, Option.some.injEq, exists_eq_left', exists_eq_left, true_and, and_true, Bool.true_eq_false, Prod.mk.injEq, decide_eq_true_eq, and_assoc, exists_and_left, at3_0, at3_1, at3_2, ix3_0, ix3_2, Nat.reduceAdd, PyData.int.injEq, PyData.bool.injEq, Int.toNat_natCast]
    exact hk _ ⟨_, rfl⟩
  · obtain ⟨l, rfl⟩ := h
    simp only [xss, xs, ev, evA, evT, evR, evO, evF, evI, cVar, cBin, cIdx, cB1, cIsi, cCall, cCio, cCnw, tru, vv, toVal, cv, asD, setAt, putT, putTs, bindT, setAll, augW, binW, cmpW, b1W, b2W, truth, seqOf, retW, wipeE, restore, keepI, retOk, fin, endsOf, List.getElem?_cons_zero, List.getElem?_cons_succ, List.getD_cons_zero, List.getD_cons_succ, List.set_cons_zero, List.set_cons_succ, List.length_cons, List.length_nil, List.nil_append, List.cons_append, reduceIte, isi_ii, isi_ib, isi_tt, eqW_int, Bool.not_true, Bool.not_false, Bool.false_eq_true, Option.some.injEq, exists_eq_left', exists_eq_left, true_and, and_true, Bool.true_eq_false, Prod.mk.injEq, decide_eq_true_eq, and_assoc, exists_and_left, at3_0, at3_1, at3_2, ix3_0, ix3_2, Nat.reduceAdd, PyData.int.injEq, PyData.bool.injEq, Int.toNat_natCast, b28_2]
    exact hr _ _ rfl
end K13

set_option Elab.async false
set_option linter.all false
set_option maxRecDepth 100000
set_option maxHeartbeats 4000000
namespace K13
open PySem L2 VL
theorem rel_i (i : Int) (t : Tok) : RelV (.int i) (.int i t) := ⟨t, rfl⟩
theorem all_mk {l : PySem.W.OpenLaw} {w : World} {K : PySem.W.Frag} {h : Heap} {mg : Str → Option Value} {fa : Addr} {f0 f1 f2 f3 f4 f5 f6 f7 f8 f9 f10 f11 f12 f13 f14 f15 f16 f17 f18 f19 f20 f21 f22 f23 f24 f25 f26 f27 f28 : Addr} (X : K.In h) (Gm : h.Ns mainGlobals mg) (hfa : mg "law" = some (.ref fa))
    {od0 an0 : Option Addr} {sl0 : Array (Option Value)} {oc0 kV0 dc0 pm0 cd0 ct0 : Value}
    (a0 : PySem.W.nsIn K mainGlobals "is_integer" = some (some (.ref f0))) (l0 : K.lookup f0 = some ⟨oc0, od0, .func (PySem.W.fnOf "is_integer" "is_integer" (defArgs (top 5)) (defBody (top 5)) (defScope (top 5)) .none kV0 dc0 pm0 an0 cd0 ct0), sl0⟩) (c0 : PySem.W.codeIn K cd0 "is_integer" = true) (k0 : PySem.W.keepIn K (.ref f0) = true)
    {od1 an1 : Option Addr} {sl1 : Array (Option Value)} {oc1 kV1 dc1 pm1 cd1 ct1 : Value}
    (a1 : PySem.W.nsIn K mainGlobals "is_index" = some (some (.ref f1))) (l1 : K.lookup f1 = some ⟨oc1, od1, .func (PySem.W.fnOf "is_index" "is_index" (defArgs (top 6)) (defBody (top 6)) (defScope (top 6)) .none kV1 dc1 pm1 an1 cd1 ct1), sl1⟩) (c1 : PySem.W.codeIn K cd1 "is_index" = true) (k1 : PySem.W.keepIn K (.ref f1) = true)
    {od2 an2 : Option Addr} {sl2 : Array (Option Value)} {oc2 kV2 dc2 pm2 cd2 ct2 : Value}
    (a2 : PySem.W.nsIn K mainGlobals "power" = some (some (.ref f2))) (l2 : K.lookup f2 = some ⟨oc2, od2, .func (PySem.W.fnOf "power" "power" (defArgs (top 7)) (defBody (top 7)) (defScope (top 7)) .none kV2 dc2 pm2 an2 cd2 ct2), sl2⟩) (c2 : PySem.W.codeIn K cd2 "power" = true) (k2 : PySem.W.keepIn K (.ref f2) = true)
    {od3 an3 : Option Addr} {sl3 : Array (Option Value)} {oc3 kV3 dc3 pm3 cd3 ct3 : Value}
    (a3 : PySem.W.nsIn K mainGlobals "check_bits" = some (some (.ref f3))) (l3 : K.lookup f3 = some ⟨oc3, od3, .func (PySem.W.fnOf "check_bits" "check_bits" (defArgs (top 13)) (defBody (top 13)) (defScope (top 13)) .none kV3 dc3 pm3 an3 cd3 ct3), sl3⟩) (c3 : PySem.W.codeIn K cd3 "check_bits" = true) (k3 : PySem.W.keepIn K (.ref f3) = true)
    {od4 an4 : Option Addr} {sl4 : Array (Option Value)} {oc4 kV4 dc4 pm4 cd4 ct4 : Value}
    (a4 : PySem.W.nsIn K mainGlobals "check_many" = some (some (.ref f4))) (l4 : K.lookup f4 = some ⟨oc4, od4, .func (PySem.W.fnOf "check_many" "check_many" (defArgs (top 14)) (defBody (top 14)) (defScope (top 14)) .none kV4 dc4 pm4 an4 cd4 ct4), sl4⟩) (c4 : PySem.W.codeIn K cd4 "check_many" = true) (k4 : PySem.W.keepIn K (.ref f4) = true)
    {od5 an5 : Option Addr} {sl5 : Array (Option Value)} {oc5 kV5 dc5 pm5 cd5 ct5 : Value}
    (a5 : PySem.W.nsIn K mainGlobals "parity" = some (some (.ref f5))) (l5 : K.lookup f5 = some ⟨oc5, od5, .func (PySem.W.fnOf "parity" "parity" (defArgs (top 15)) (defBody (top 15)) (defScope (top 15)) .none kV5 dc5 pm5 an5 cd5 ct5), sl5⟩) (c5 : PySem.W.codeIn K cd5 "parity" = true) (k5 : PySem.W.keepIn K (.ref f5) = true)
    {od6 an6 : Option Addr} {sl6 : Array (Option Value)} {oc6 kV6 dc6 pm6 cd6 ct6 : Value}
    (a6 : PySem.W.nsIn K mainGlobals "straight_table" = some (some (.ref f6))) (l6 : K.lookup f6 = some ⟨oc6, od6, .func (PySem.W.fnOf "straight_table" "straight_table" (defArgs (top 16)) (defBody (top 16)) (defScope (top 16)) .none kV6 dc6 pm6 an6 cd6 ct6), sl6⟩) (c6 : PySem.W.codeIn K cd6 "straight_table" = true) (k6 : PySem.W.keepIn K (.ref f6) = true)
    {od7 an7 : Option Addr} {sl7 : Array (Option Value)} {oc7 kV7 dc7 pm7 cd7 ct7 : Value}
    (a7 : PySem.W.nsIn K mainGlobals "straight_distances" = some (some (.ref f7))) (l7 : K.lookup f7 = some ⟨oc7, od7, .func (PySem.W.fnOf "straight_distances" "straight_distances" (defArgs (top 17)) (defBody (top 17)) (defScope (top 17)) .none kV7 dc7 pm7 an7 cd7 ct7), sl7⟩) (c7 : PySem.W.codeIn K cd7 "straight_distances" = true) (k7 : PySem.W.keepIn K (.ref f7) = true)
    {od8 an8 : Option Addr} {sl8 : Array (Option Value)} {oc8 kV8 dc8 pm8 cd8 ct8 : Value}
    (a8 : PySem.W.nsIn K mainGlobals "nearest_straight" = some (some (.ref f8))) (l8 : K.lookup f8 = some ⟨oc8, od8, .func (PySem.W.fnOf "nearest_straight" "nearest_straight" (defArgs (top 18)) (defBody (top 18)) (defScope (top 18)) .none kV8 dc8 pm8 an8 cd8 ct8), sl8⟩) (c8 : PySem.W.codeIn K cd8 "nearest_straight" = true) (k8 : PySem.W.keepIn K (.ref f8) = true)
    {od9 an9 : Option Addr} {sl9 : Array (Option Value)} {oc9 kV9 dc9 pm9 cd9 ct9 : Value}
    (a9 : PySem.W.nsIn K mainGlobals "ones_at" = some (some (.ref f9))) (l9 : K.lookup f9 = some ⟨oc9, od9, .func (PySem.W.fnOf "ones_at" "ones_at" (defArgs (top 19)) (defBody (top 19)) (defScope (top 19)) .none kV9 dc9 pm9 an9 cd9 ct9), sl9⟩) (c9 : PySem.W.codeIn K cd9 "ones_at" = true) (k9 : PySem.W.keepIn K (.ref f9) = true)
    {od10 an10 : Option Addr} {sl10 : Array (Option Value)} {oc10 kV10 dc10 pm10 cd10 ct10 : Value}
    (a10 : PySem.W.nsIn K mainGlobals "pairs_let" = some (some (.ref f10))) (l10 : K.lookup f10 = some ⟨oc10, od10, .func (PySem.W.fnOf "pairs_let" "pairs_let" (defArgs (top 20)) (defBody (top 20)) (defScope (top 20)) .none kV10 dc10 pm10 an10 cd10 ct10), sl10⟩) (c10 : PySem.W.codeIn K cd10 "pairs_let" = true) (k10 : PySem.W.keepIn K (.ref f10) = true)
    {od11 an11 : Option Addr} {sl11 : Array (Option Value)} {oc11 kV11 dc11 pm11 cd11 ct11 : Value}
    (a11 : PySem.W.nsIn K mainGlobals "mended_bits" = some (some (.ref f11))) (l11 : K.lookup f11 = some ⟨oc11, od11, .func (PySem.W.fnOf "mended_bits" "mended_bits" (defArgs (top 21)) (defBody (top 21)) (defScope (top 21)) .none kV11 dc11 pm11 an11 cd11 ct11), sl11⟩) (c11 : PySem.W.codeIn K cd11 "mended_bits" = true) (k11 : PySem.W.keepIn K (.ref f11) = true)
    {od12 an12 : Option Addr} {sl12 : Array (Option Value)} {oc12 kV12 dc12 pm12 cd12 ct12 : Value}
    (a12 : PySem.W.nsIn K mainGlobals "rows_let" = some (some (.ref f12))) (l12 : K.lookup f12 = some ⟨oc12, od12, .func (PySem.W.fnOf "rows_let" "rows_let" (defArgs (top 22)) (defBody (top 22)) (defScope (top 22)) .none kV12 dc12 pm12 an12 cd12 ct12), sl12⟩) (c12 : PySem.W.codeIn K cd12 "rows_let" = true) (k12 : PySem.W.keepIn K (.ref f12) = true)
    {od13 an13 : Option Addr} {sl13 : Array (Option Value)} {oc13 kV13 dc13 pm13 cd13 ct13 : Value}
    (a13 : PySem.W.nsIn K mainGlobals "_law_pot" = some (some (.ref f13))) (l13 : K.lookup f13 = some ⟨oc13, od13, .func (PySem.W.fnOf "_law_pot" "_law_pot" (defArgs (top 24)) (defBody (top 24)) (defScope (top 24)) .none kV13 dc13 pm13 an13 cd13 ct13), sl13⟩) (c13 : PySem.W.codeIn K cd13 "_law_pot" = true) (k13 : PySem.W.keepIn K (.ref f13) = true)
    {od14 an14 : Option Addr} {sl14 : Array (Option Value)} {oc14 kV14 dc14 pm14 cd14 ct14 : Value}
    (a14 : PySem.W.nsIn K mainGlobals "_law_take" = some (some (.ref f14))) (l14 : K.lookup f14 = some ⟨oc14, od14, .func (PySem.W.fnOf "_law_take" "_law_take" (defArgs (top 25)) (defBody (top 25)) (defScope (top 25)) .none kV14 dc14 pm14 an14 cd14 ct14), sl14⟩) (c14 : PySem.W.codeIn K cd14 "_law_take" = true) (k14 : PySem.W.keepIn K (.ref f14) = true)
    {od15 an15 : Option Addr} {sl15 : Array (Option Value)} {oc15 kV15 dc15 pm15 cd15 ct15 : Value}
    (a15 : PySem.W.nsIn K mainGlobals "_law_cells" = some (some (.ref f15))) (l15 : K.lookup f15 = some ⟨oc15, od15, .func (PySem.W.fnOf "_law_cells" "_law_cells" (defArgs (top 26)) (defBody (top 26)) (defScope (top 26)) .none kV15 dc15 pm15 an15 cd15 ct15), sl15⟩) (c15 : PySem.W.codeIn K cd15 "_law_cells" = true) (k15 : PySem.W.keepIn K (.ref f15) = true)
    {od16 an16 : Option Addr} {sl16 : Array (Option Value)} {oc16 kV16 dc16 pm16 cd16 ct16 : Value}
    (a16 : PySem.W.nsIn K mainGlobals "_law_of" = some (some (.ref f16))) (l16 : K.lookup f16 = some ⟨oc16, od16, .func (PySem.W.fnOf "_law_of" "_law_of" (defArgs (top 27)) (defBody (top 27)) (defScope (top 27)) .none kV16 dc16 pm16 an16 cd16 ct16), sl16⟩) (c16 : PySem.W.codeIn K cd16 "_law_of" = true) (k16 : PySem.W.keepIn K (.ref f16) = true)
    {od17 an17 : Option Addr} {sl17 : Array (Option Value)} {oc17 kV17 dc17 pm17 cd17 ct17 : Value}
    (a17 : PySem.W.nsIn K mainGlobals "_law_some" = some (some (.ref f17))) (l17 : K.lookup f17 = some ⟨oc17, od17, .func (PySem.W.fnOf "_law_some" "_law_some" (defArgs (top 28)) (defBody (top 28)) (defScope (top 28)) .none kV17 dc17 pm17 an17 cd17 ct17), sl17⟩) (c17 : PySem.W.codeIn K cd17 "_law_some" = true) (k17 : PySem.W.keepIn K (.ref f17) = true)
    {od18 an18 : Option Addr} {sl18 : Array (Option Value)} {oc18 kV18 dc18 pm18 cd18 ct18 : Value}
    (a18 : PySem.W.nsIn K mainGlobals "_law_odd" = some (some (.ref f18))) (l18 : K.lookup f18 = some ⟨oc18, od18, .func (PySem.W.fnOf "_law_odd" "_law_odd" (defArgs (top 29)) (defBody (top 29)) (defScope (top 29)) .none kV18 dc18 pm18 an18 cd18 ct18), sl18⟩) (c18 : PySem.W.codeIn K cd18 "_law_odd" = true) (k18 : PySem.W.keepIn K (.ref f18) = true)
    {od19 an19 : Option Addr} {sl19 : Array (Option Value)} {oc19 kV19 dc19 pm19 cd19 ct19 : Value}
    (a19 : PySem.W.nsIn K mainGlobals "_law_straight" = some (some (.ref f19))) (l19 : K.lookup f19 = some ⟨oc19, od19, .func (PySem.W.fnOf "_law_straight" "_law_straight" (defArgs (top 30)) (defBody (top 30)) (defScope (top 30)) .none kV19 dc19 pm19 an19 cd19 ct19), sl19⟩) (c19 : PySem.W.codeIn K cd19 "_law_straight" = true) (k19 : PySem.W.keepIn K (.ref f19) = true)
    {od20 an20 : Option Addr} {sl20 : Array (Option Value)} {oc20 kV20 dc20 pm20 cd20 ct20 : Value}
    (a20 : PySem.W.nsIn K mainGlobals "_law_distances" = some (some (.ref f20))) (l20 : K.lookup f20 = some ⟨oc20, od20, .func (PySem.W.fnOf "_law_distances" "_law_distances" (defArgs (top 31)) (defBody (top 31)) (defScope (top 31)) .none kV20 dc20 pm20 an20 cd20 ct20), sl20⟩) (c20 : PySem.W.codeIn K cd20 "_law_distances" = true) (k20 : PySem.W.keepIn K (.ref f20) = true)
    {od21 an21 : Option Addr} {sl21 : Array (Option Value)} {oc21 kV21 dc21 pm21 cd21 ct21 : Value}
    (a21 : PySem.W.nsIn K mainGlobals "_law_drawn_bits" = some (some (.ref f21))) (l21 : K.lookup f21 = some ⟨oc21, od21, .func (PySem.W.fnOf "_law_drawn_bits" "_law_drawn_bits" (defArgs (top 32)) (defBody (top 32)) (defScope (top 32)) .none kV21 dc21 pm21 an21 cd21 ct21), sl21⟩) (c21 : PySem.W.codeIn K cd21 "_law_drawn_bits" = true) (k21 : PySem.W.keepIn K (.ref f21) = true)
    {od22 an22 : Option Addr} {sl22 : Array (Option Value)} {oc22 kV22 dc22 pm22 cd22 ct22 : Value}
    (a22 : PySem.W.nsIn K mainGlobals "_law_mended" = some (some (.ref f22))) (l22 : K.lookup f22 = some ⟨oc22, od22, .func (PySem.W.fnOf "_law_mended" "_law_mended" (defArgs (top 33)) (defBody (top 33)) (defScope (top 33)) .none kV22 dc22 pm22 an22 cd22 ct22), sl22⟩) (c22 : PySem.W.codeIn K cd22 "_law_mended" = true) (k22 : PySem.W.keepIn K (.ref f22) = true)
    {od23 an23 : Option Addr} {sl23 : Array (Option Value)} {oc23 kV23 dc23 pm23 cd23 ct23 : Value}
    (a23 : PySem.W.nsIn K mainGlobals "_law_pairs" = some (some (.ref f23))) (l23 : K.lookup f23 = some ⟨oc23, od23, .func (PySem.W.fnOf "_law_pairs" "_law_pairs" (defArgs (top 34)) (defBody (top 34)) (defScope (top 34)) .none kV23 dc23 pm23 an23 cd23 ct23), sl23⟩) (c23 : PySem.W.codeIn K cd23 "_law_pairs" = true) (k23 : PySem.W.keepIn K (.ref f23) = true)
    {od24 an24 : Option Addr} {sl24 : Array (Option Value)} {oc24 kV24 dc24 pm24 cd24 ct24 : Value}
    (a24 : PySem.W.nsIn K mainGlobals "_law_is_table_right" = some (some (.ref f24))) (l24 : K.lookup f24 = some ⟨oc24, od24, .func (PySem.W.fnOf "_law_is_table_right" "_law_is_table_right" (defArgs (top 35)) (defBody (top 35)) (defScope (top 35)) .none kV24 dc24 pm24 an24 cd24 ct24), sl24⟩) (c24 : PySem.W.codeIn K cd24 "_law_is_table_right" = true) (k24 : PySem.W.keepIn K (.ref f24) = true)
    {od25 an25 : Option Addr} {sl25 : Array (Option Value)} {oc25 kV25 dc25 pm25 cd25 ct25 : Value}
    (a25 : PySem.W.nsIn K mainGlobals "_law_is_led_right" = some (some (.ref f25))) (l25 : K.lookup f25 = some ⟨oc25, od25, .func (PySem.W.fnOf "_law_is_led_right" "_law_is_led_right" (defArgs (top 36)) (defBody (top 36)) (defScope (top 36)) .none kV25 dc25 pm25 an25 cd25 ct25), sl25⟩) (c25 : PySem.W.codeIn K cd25 "_law_is_led_right" = true) (k25 : PySem.W.keepIn K (.ref f25) = true)
    {od26 an26 : Option Addr} {sl26 : Array (Option Value)} {oc26 kV26 dc26 pm26 cd26 ct26 : Value}
    (a26 : PySem.W.nsIn K mainGlobals "_law_are_two_right" = some (some (.ref f26))) (l26 : K.lookup f26 = some ⟨oc26, od26, .func (PySem.W.fnOf "_law_are_two_right" "_law_are_two_right" (defArgs (top 37)) (defBody (top 37)) (defScope (top 37)) .none kV26 dc26 pm26 an26 cd26 ct26), sl26⟩) (c26 : PySem.W.codeIn K cd26 "_law_are_two_right" = true) (k26 : PySem.W.keepIn K (.ref f26) = true)
    {od27 an27 : Option Addr} {sl27 : Array (Option Value)} {oc27 kV27 dc27 pm27 cd27 ct27 : Value}
    (a27 : PySem.W.nsIn K mainGlobals "_law_right" = some (some (.ref f27))) (l27 : K.lookup f27 = some ⟨oc27, od27, .func (PySem.W.fnOf "_law_right" "_law_right" (defArgs (top 38)) (defBody (top 38)) (defScope (top 38)) .none kV27 dc27 pm27 an27 cd27 ct27), sl27⟩) (c27 : PySem.W.codeIn K cd27 "_law_right" = true) (k27 : PySem.W.keepIn K (.ref f27) = true)
    {od28 an28 : Option Addr} {sl28 : Array (Option Value)} {oc28 kV28 dc28 pm28 cd28 ct28 : Value}
    (a28 : PySem.W.nsIn K mainGlobals "law" = some (some (.ref f28))) (l28 : K.lookup f28 = some ⟨oc28, od28, .func (PySem.W.fnOf "law" "law" (defArgs (top 39)) (defBody (top 39)) (defScope (top 39)) .none kV28 dc28 pm28 an28 cd28 ct28), sl28⟩) (c28 : PySem.W.codeIn K cd28 "law" = true) (k28 : PySem.W.keepIn K (.ref f28) = true)
    {t0 : Tok} (v0 : PySem.W.nsIn K mainGlobals "MOST_NAMES" = some (some (.int 8 t0)))
    {t1 : Tok} (v1 : PySem.W.nsIn K mainGlobals "MOST_ROWS" = some (some (.int 40 t1)))
    {t2 : Tok} (v2 : PySem.W.nsIn K mainGlobals "BITS" = some (some (.int 2 t2)))
    {g3 : Addr} {gd3 : Option Addr} {gn3 : Nat} {gs3 : Array (Option Value)} {t3_0 t3_1 t3_2 t3_3 t3_4 t3_5 t3_6 t3_7 t3_8 : Tok} (v3 : PySem.W.nsIn K mainGlobals "SIZES" = some (some (.ref g3))) (w3 : K.lookup g3 = some ⟨.type "tuple", gd3, .seq #[.int 1 t3_0, .int 2 t3_1, .int 4 t3_2, .int 8 t3_3, .int 16 t3_4, .int 32 t3_5, .int 64 t3_6, .int 128 t3_7, .int 256 t3_8] gn3, gs3⟩)
    (zabs : PySem.W.nsIn K mainGlobals "abs" = some none)
    (zall : PySem.W.nsIn K mainGlobals "all" = some none)
    (zbool : PySem.W.nsIn K mainGlobals "bool" = some none)
    (zenumerate : PySem.W.nsIn K mainGlobals "enumerate" = some none)
    (zint : PySem.W.nsIn K mainGlobals "int" = some none)
    (zisinstance : PySem.W.nsIn K mainGlobals "isinstance" = some none)
    (zlen : PySem.W.nsIn K mainGlobals "len" = some none)
    (zlist : PySem.W.nsIn K mainGlobals "list" = some none)
    (zmax : PySem.W.nsIn K mainGlobals "max" = some none)
    (zmin : PySem.W.nsIn K mainGlobals "min" = some none)
    (zrange : PySem.W.nsIn K mainGlobals "range" = some none)
    (zsum : PySem.W.nsIn K mainGlobals "sum" = some none)
    (ztuple : PySem.W.nsIn K mainGlobals "tuple" = some none)
    (zzip : PySem.W.nsIn K mainGlobals "zip" = some none)
    : ∃ fd : FuncData, (∀ (s : Shared) (v : Value), BindsTo s fd ⟨[v], []⟩ [("script", v)]) ∧ ∀ base : Heap, K.In base → base.Ns mainGlobals mg → FnOk l.prog w K mg base CX0 29 fa fd ["script"] (spOf K (lawSpec 63)) := by
  have e := hfa.symm.trans (PySem.W.mg_of X Gm a28)
  cases e
  have B : ∀ x ∈ G.blt, mg x = none := fun x hx => by
    simp only [G, List.mem_cons, List.not_mem_nil, or_false] at hx
    rcases hx with rfl | rfl | rfl | rfl | rfl | rfl | rfl | rfl | rfl | rfl | rfl | rfl | rfl | rfl
    · exact PySem.W.mg_none_of X Gm zabs
    · exact PySem.W.mg_none_of X Gm zall
    · exact PySem.W.mg_none_of X Gm zbool
    · exact PySem.W.mg_none_of X Gm zenumerate
    · exact PySem.W.mg_none_of X Gm zint
    · exact PySem.W.mg_none_of X Gm zisinstance
    · exact PySem.W.mg_none_of X Gm zlen
    · exact PySem.W.mg_none_of X Gm zlist
    · exact PySem.W.mg_none_of X Gm zmax
    · exact PySem.W.mg_none_of X Gm zmin
    · exact PySem.W.mg_none_of X Gm zrange
    · exact PySem.W.mg_none_of X Gm zsum
    · exact PySem.W.mg_none_of X Gm ztuple
    · exact PySem.W.mg_none_of X Gm zzip
  have V : ∀ (g : Nat) (x : Str) (d : D), G.gc[g]? = some (x, d) → ∃ u v, mg x = some u ∧ RelV v u ∧ ∀ H : Hp, Dp K H v d := fun g x d e => by
    match g, e with
    | 0, e => cases e; exact ⟨_, .int 8, PySem.W.mg_of X Gm v0, ⟨_, rfl⟩, fun H => .int 8⟩
    | 1, e => cases e; exact ⟨_, .int 40, PySem.W.mg_of X Gm v1, ⟨_, rfl⟩, fun H => .int 40⟩
    | 2, e => cases e; exact ⟨_, .int 2, PySem.W.mg_of X Gm v2, ⟨_, rfl⟩, fun H => .int 2⟩
    | 3, e => cases e; exact ⟨_, .ref g3, PySem.W.mg_of X Gm v3, rfl, fun H => .tup (.inr ⟨_, _, _, w3, rfl, rfl, (by show 9 ≤ sizeLine; decide), (.cons (rel_i 1 t3_0) (.cons (rel_i 2 t3_1) (.cons (rel_i 4 t3_2) (.cons (rel_i 8 t3_3) (.cons (rel_i 16 t3_4) (.cons (rel_i 32 t3_5) (.cons (rel_i 64 t3_6) (.cons (rel_i 128 t3_7) (.cons (rel_i 256 t3_8) .nil)))))))))⟩) (dps_of_ints [1, 2, 4, 8, 16, 32, 64, 128, 256])⟩
    | q + 4, e => exact absurd (List.getElem?_eq_some_iff.mp e).1 (by show ¬ q + 4 < 4; omega)
  have C0 : ∀ base, CtxOk G Γ 0 l.prog w K mg base := fun base => ⟨fun f x hf _ => absurd hf (Nat.not_lt_zero f), V, B⟩
  have F0 : DefIn K mg "is_integer" (top 5) ["value"] f0 _ := ⟨PySem.W.mg_of X Gm a0, fun_mk (st := top 5) l0 c0 k0, (fun_mk (st := top 5) l0 c0 k0).binds (ps := ["value"]) fun _ _ _ _ _ _ us hl => match us, hl with | [_], _ => rfl⟩
  have F1 : DefIn K mg "is_index" (top 6) ["value", "many"] f1 _ := ⟨PySem.W.mg_of X Gm a1, fun_mk (st := top 6) l1 c1 k1, (fun_mk (st := top 6) l1 c1 k1).binds (ps := ["value", "many"]) fun _ _ _ _ _ _ us hl => match us, hl with | [_, _], _ => rfl⟩
  have F2 : DefIn K mg "power" (top 7) ["base", "many"] f2 _ := ⟨PySem.W.mg_of X Gm a2, fun_mk (st := top 7) l2 c2 k2, (fun_mk (st := top 7) l2 c2 k2).binds (ps := ["base", "many"]) fun _ _ _ _ _ _ us hl => match us, hl with | [_, _], _ => rfl⟩
  have F3 : DefIn K mg "check_bits" (top 13) ["bits"] f3 _ := ⟨PySem.W.mg_of X Gm a3, fun_mk (st := top 13) l3 c3 k3, (fun_mk (st := top 13) l3 c3 k3).binds (ps := ["bits"]) fun _ _ _ _ _ _ us hl => match us, hl with | [_], _ => rfl⟩
  have F4 : DefIn K mg "check_many" (top 14) ["value", "many"] f4 _ := ⟨PySem.W.mg_of X Gm a4, fun_mk (st := top 14) l4 c4 k4, (fun_mk (st := top 14) l4 c4 k4).binds (ps := ["value", "many"]) fun _ _ _ _ _ _ us hl => match us, hl with | [_, _], _ => rfl⟩
  have F5 : DefIn K mg "parity" (top 15) ["number"] f5 _ := ⟨PySem.W.mg_of X Gm a5, fun_mk (st := top 15) l5 c5 k5, (fun_mk (st := top 15) l5 c5 k5).binds (ps := ["number"]) fun _ _ _ _ _ _ us hl => match us, hl with | [_], _ => rfl⟩
  have F6 : DefIn K mg "straight_table" (top 16) ["many", "mask"] f6 _ := ⟨PySem.W.mg_of X Gm a6, fun_mk (st := top 16) l6 c6 k6, (fun_mk (st := top 16) l6 c6 k6).binds (ps := ["many", "mask"]) fun _ _ _ _ _ _ us hl => match us, hl with | [_, _], _ => rfl⟩
  have F7 : DefIn K mg "straight_distances" (top 17) ["bits"] f7 _ := ⟨PySem.W.mg_of X Gm a7, fun_mk (st := top 17) l7 c7 k7, (fun_mk (st := top 17) l7 c7 k7).binds (ps := ["bits"]) fun _ _ _ _ _ _ us hl => match us, hl with | [_], _ => rfl⟩
  have F8 : DefIn K mg "nearest_straight" (top 18) ["bits"] f8 _ := ⟨PySem.W.mg_of X Gm a8, fun_mk (st := top 18) l8 c8 k8, (fun_mk (st := top 18) l8 c8 k8).binds (ps := ["bits"]) fun _ _ _ _ _ _ us hl => match us, hl with | [_], _ => rfl⟩
  have F9 : DefIn K mg "ones_at" (top 19) ["bits", "place"] f9 _ := ⟨PySem.W.mg_of X Gm a9, fun_mk (st := top 19) l9 c9 k9, (fun_mk (st := top 19) l9 c9 k9).binds (ps := ["bits", "place"]) fun _ _ _ _ _ _ us hl => match us, hl with | [_, _], _ => rfl⟩
  have F10 : DefIn K mg "pairs_let" (top 20) ["bits"] f10 _ := ⟨PySem.W.mg_of X Gm a10, fun_mk (st := top 20) l10 c10 k10, (fun_mk (st := top 20) l10 c10 k10).binds (ps := ["bits"]) fun _ _ _ _ _ _ us hl => match us, hl with | [_], _ => rfl⟩
  have F11 : DefIn K mg "mended_bits" (top 21) ["bits"] f11 _ := ⟨PySem.W.mg_of X Gm a11, fun_mk (st := top 21) l11 c11 k11, (fun_mk (st := top 21) l11 c11 k11).binds (ps := ["bits"]) fun _ _ _ _ _ _ us hl => match us, hl with | [_], _ => rfl⟩
  have F12 : DefIn K mg "rows_let" (top 22) ["bits", "many"] f12 _ := ⟨PySem.W.mg_of X Gm a12, fun_mk (st := top 22) l12 c12 k12, (fun_mk (st := top 22) l12 c12 k12).binds (ps := ["bits", "many"]) fun _ _ _ _ _ _ us hl => match us, hl with | [_, _], _ => rfl⟩
  have F13 : DefIn K mg "_law_pot" (top 24) ["script", "place"] f13 _ := ⟨PySem.W.mg_of X Gm a13, fun_mk (st := top 24) l13 c13 k13, (fun_mk (st := top 24) l13 c13 k13).binds (ps := ["script", "place"]) fun _ _ _ _ _ _ us hl => match us, hl with | [_, _], _ => rfl⟩
  have F14 : DefIn K mg "_law_take" (top 25) ["pot", "upto"] f14 _ := ⟨PySem.W.mg_of X Gm a14, fun_mk (st := top 25) l14 c14 k14, (fun_mk (st := top 25) l14 c14 k14).binds (ps := ["pot", "upto"]) fun _ _ _ _ _ _ us hl => match us, hl with | [_, _], _ => rfl⟩
  have F15 : DefIn K mg "_law_cells" (top 26) ["script", "upto"] f15 _ := ⟨PySem.W.mg_of X Gm a15, fun_mk (st := top 26) l15 c15 k15, (fun_mk (st := top 26) l15 c15 k15).binds (ps := ["script", "upto"]) fun _ _ _ _ _ _ us hl => match us, hl with | [_, _], _ => rfl⟩
  have F16 : DefIn K mg "_law_of" (top 27) ["pot", "some"] f16 _ := ⟨PySem.W.mg_of X Gm a16, fun_mk (st := top 27) l16 c16 k16, (fun_mk (st := top 27) l16 c16 k16).binds (ps := ["pot", "some"]) fun _ _ _ _ _ _ us hl => match us, hl with | [_, _], _ => rfl⟩
  have F17 : DefIn K mg "_law_some" (top 28) ["pot", "some", "many"] f17 _ := ⟨PySem.W.mg_of X Gm a17, fun_mk (st := top 28) l17 c17 k17, (fun_mk (st := top 28) l17 c17 k17).binds (ps := ["pot", "some", "many"]) fun _ _ _ _ _ _ us hl => match us, hl with | [_, _, _], _ => rfl⟩
  have F18 : DefIn K mg "_law_odd" (top 29) ["number"] f18 _ := ⟨PySem.W.mg_of X Gm a18, fun_mk (st := top 29) l18 c18 k18, (fun_mk (st := top 29) l18 c18 k18).binds (ps := ["number"]) fun _ _ _ _ _ _ us hl => match us, hl with | [_], _ => rfl⟩
  have F19 : DefIn K mg "_law_straight" (top 30) ["many", "mask"] f19 _ := ⟨PySem.W.mg_of X Gm a19, fun_mk (st := top 30) l19 c19 k19, (fun_mk (st := top 30) l19 c19 k19).binds (ps := ["many", "mask"]) fun _ _ _ _ _ _ us hl => match us, hl with | [_, _], _ => rfl⟩
  have F20 : DefIn K mg "_law_distances" (top 31) ["bits"] f20 _ := ⟨PySem.W.mg_of X Gm a20, fun_mk (st := top 31) l20 c20 k20, (fun_mk (st := top 31) l20 c20 k20).binds (ps := ["bits"]) fun _ _ _ _ _ _ us hl => match us, hl with | [_], _ => rfl⟩
  have F21 : DefIn K mg "_law_drawn_bits" (top 32) ["pot", "many"] f21 _ := ⟨PySem.W.mg_of X Gm a21, fun_mk (st := top 32) l21 c21 k21, (fun_mk (st := top 32) l21 c21 k21).binds (ps := ["pot", "many"]) fun _ _ _ _ _ _ us hl => match us, hl with | [_, _], _ => rfl⟩
  have F22 : DefIn K mg "_law_mended" (top 33) ["bits"] f22 _ := ⟨PySem.W.mg_of X Gm a22, fun_mk (st := top 33) l22 c22 k22, (fun_mk (st := top 33) l22 c22 k22).binds (ps := ["bits"]) fun _ _ _ _ _ _ us hl => match us, hl with | [_], _ => rfl⟩
  have F23 : DefIn K mg "_law_pairs" (top 34) ["bits"] f23 _ := ⟨PySem.W.mg_of X Gm a23, fun_mk (st := top 34) l23 c23 k23, (fun_mk (st := top 34) l23 c23 k23).binds (ps := ["bits"]) fun _ _ _ _ _ _ us hl => match us, hl with | [_], _ => rfl⟩
  have F24 : DefIn K mg "_law_is_table_right" (top 35) ["pot", "bits", "many"] f24 _ := ⟨PySem.W.mg_of X Gm a24, fun_mk (st := top 35) l24 c24 k24, (fun_mk (st := top 35) l24 c24 k24).binds (ps := ["pot", "bits", "many"]) fun _ _ _ _ _ _ us hl => match us, hl with | [_, _, _], _ => rfl⟩
  have F25 : DefIn K mg "_law_is_led_right" (top 36) ["pot", "bits", "many"] f25 _ := ⟨PySem.W.mg_of X Gm a25, fun_mk (st := top 36) l25 c25 k25, (fun_mk (st := top 36) l25 c25 k25).binds (ps := ["pot", "bits", "many"]) fun _ _ _ _ _ _ us hl => match us, hl with | [_, _, _], _ => rfl⟩
  have F26 : DefIn K mg "_law_are_two_right" (top 37) ["pot"] f26 _ := ⟨PySem.W.mg_of X Gm a26, fun_mk (st := top 37) l26 c26 k26, (fun_mk (st := top 37) l26 c26 k26).binds (ps := ["pot"]) fun _ _ _ _ _ _ us hl => match us, hl with | [_], _ => rfl⟩
  have F27 : DefIn K mg "_law_right" (top 38) ["pot"] f27 _ := ⟨PySem.W.mg_of X Gm a27, fun_mk (st := top 38) l27 c27 k27, (fun_mk (st := top 38) l27 c27 k27).binds (ps := ["pot"]) fun _ _ _ _ _ _ us hl => match us, hl with | [_], _ => rfl⟩
  have F28 : DefIn K mg "law" (top 39) ["script"] fa _ := ⟨PySem.W.mg_of X Gm a28, fun_mk (st := top 39) l28 c28 k28, (fun_mk (st := top 39) l28 c28 k28).binds (ps := ["script"]) fun _ _ _ _ _ _ us hl => match us, hl with | [_], _ => rfl⟩
  refine ⟨PySem.W.fnOf "law" "law" (defArgs (top 39)) (defBody (top 39)) (defScope (top 39)) .none kV28 dc28 pm28 an28 cd28 ct28, fun s v => .of_eq rfl, fun base _ _ => ?_⟩
  have C1 := (C0 base).add F0 rfl sc0 ck0 rfl ok0
  have C2 := C1.add F1 rfl sc1 ck1 rfl ok1
  have C3 := C2.add F2 rfl sc2 ck2 rfl ok2
  have C4 := C3.add F3 rfl sc3 ck3 rfl ok3
  have C5 := C4.add F4 rfl sc4 ck4 rfl ok4
  have C6 := C5.add F5 rfl sc5 ck5 rfl ok5
  have C7 := C6.add F6 rfl sc6 ck6 rfl ok6
  have C8 := C7.add F7 rfl sc7 ck7 rfl ok7
  have C9 := C8.add F8 rfl sc8 ck8 rfl ok8
  have C10 := C9.add F9 rfl sc9 ck9 rfl ok9
  have C11 := C10.add F10 rfl sc10 ck10 rfl ok10
  have C12 := C11.add F11 rfl sc11 ck11 rfl ok11
  have C13 := C12.add F12 rfl sc12 ck12 rfl ok12
  have C14 := C13.add F13 rfl sc13 ck13 rfl ok13
  have C15 := C14.add F14 rfl sc14 ck14 rfl ok14
  have C16 := C15.add F15 rfl sc15 ck15 rfl ok15
  have C17 := C16.add F16 rfl sc16 ck16 rfl ok16
  have C18 := C17.add F17 rfl sc17 ck17 rfl ok17
  have C19 := C18.add F18 rfl sc18 ck18 rfl ok18
  have C20 := C19.add F19 rfl sc19 ck19 rfl ok19
  have C21 := C20.add F20 rfl sc20 ck20 rfl ok20
  have C22 := C21.add F21 rfl sc21 ck21 rfl ok21
  have C23 := C22.add F22 rfl sc22 ck22 rfl ok22
  have C24 := C23.add F23 rfl sc23 ck23 rfl ok23
  have C25 := C24.add F24 rfl sc24 ck24 rfl ok24
  have C26 := C25.add F25 rfl sc25 ck25 rfl ok25
  have C27 := C26.add F26 rfl sc26 ck26 rfl ok26
  have C28 := C27.add F27 rfl sc27 ck27 rfl ok27
  exact def_fn C28 F28 sc28 ck28 rfl ok28
theorem walk {l : PySem.W.OpenLaw} {q : Program} {loose : List Str} {XP : (Str → Option Value) → Heap → Prop} {YP : World → Heap → Prop} {d : DefRec} {K : Params → PySem.W.Frag} (hn : l.most = some 63) (hdf : d.params.defaults = [])
    (hY : ∀ (w : World) (h : Heap), YP w h → (K w.params).In h)
    (F : ∀ (w : World) (mg : Str → Option Value) (fa : Addr) (h : Heap), (K w.params).In h → h.Ns mainGlobals mg → mg d.name = some (.ref fa) →
      ∃ fd : FuncData, (∀ (s : Shared) (u : Value), BindsTo s fd ⟨[u], []⟩ [("script", u)]) ∧ ∀ base : Heap, (K w.params).In base → base.Ns mainGlobals mg → FnOk l.prog w (K w.params) mg base CX0 29 fa fd ["script"] (spOf (K w.params) (lawSpec 63))) :
    PySem.W.WalkO q loose XP YP l.row.toRowW d [] (fun f vs => PySem.call f vs) :=
  L2.walk_of (n := 63) (k := 29) (x := "script") (CX := fun _ => CX0) (sp := fun w => spOf (K w.params) (lawSpec 63)) hn (by decide) hdf ⟨rfl, by decide, by decide⟩ hY F (fun _ _ _ _ hl _ hS => law_sp hl hS) fun _ _ _ _ _ z => z
end K13

open PySem PySem.W PyProof.Rows in
set_option maxRecDepth 100000 in
set_option maxHeartbeats 0 in
theorem PySem.Challenge.cw_fewthrows_k13_whole_bit_tables_added_and_holds : PySem.Challenge.rw_fewthrows_k13_whole_bit_tables_added_and.Holds := by
  w_on; o_law; k_head; (case hw => w_witness2)
  k_fill
  refine K13.walk (l := PySem.Challenge.rw_fewthrows_k13_whole_bit_tables_added_and) rfl rfl (fun w h Y => PySem.W.kIn_of Y) ?F
  case F =>
    intro w mg fa h KX G hmg
    refine' K13.all_mk KX G hmg ?a0 ?l0 ?c0 ?k0 ?a1 ?l1 ?c1 ?k1 ?a2 ?l2 ?c2 ?k2 ?a3 ?l3 ?c3 ?k3 ?a4 ?l4 ?c4 ?k4 ?a5 ?l5 ?c5 ?k5 ?a6 ?l6 ?c6 ?k6 ?a7 ?l7 ?c7 ?k7 ?a8 ?l8 ?c8 ?k8 ?a9 ?l9 ?c9 ?k9 ?a10 ?l10 ?c10 ?k10 ?a11 ?l11 ?c11 ?k11 ?a12 ?l12 ?c12 ?k12 ?a13 ?l13 ?c13 ?k13 ?a14 ?l14 ?c14 ?k14 ?a15 ?l15 ?c15 ?k15 ?a16 ?l16 ?c16 ?k16 ?a17 ?l17 ?c17 ?k17 ?a18 ?l18 ?c18 ?k18 ?a19 ?l19 ?c19 ?k19 ?a20 ?l20 ?c20 ?k20 ?a21 ?l21 ?c21 ?k21 ?a22 ?l22 ?c22 ?k22 ?a23 ?l23 ?c23 ?k23 ?a24 ?l24 ?c24 ?k24 ?a25 ?l25 ?c25 ?k25 ?a26 ?l26 ?c26 ?k26 ?a27 ?l27 ?c27 ?k27 ?a28 ?l28 ?c28 ?k28 ?v0 ?v1 ?v2 ?v3 ?w3 ?zabs ?zall ?zbool ?zenumerate ?zint ?zisinstance ?zlen ?zlist ?zmax ?zmin ?zrange ?zsum ?ztuple ?zzip
    (case a0 => k_is)
    (case l0 => k_is)
    (case c0 => k_is)
    (case k0 => k_is)
    (case a1 => k_is)
    (case l1 => k_is)
    (case c1 => k_is)
    (case k1 => k_is)
    (case a2 => k_is)
    (case l2 => k_is)
    (case c2 => k_is)
    (case k2 => k_is)
    (case a3 => k_is)
    (case l3 => k_is)
    (case c3 => k_is)
    (case k3 => k_is)
    (case a4 => k_is)
    (case l4 => k_is)
    (case c4 => k_is)
    (case k4 => k_is)
    (case a5 => k_is)
    (case l5 => k_is)
    (case c5 => k_is)
    (case k5 => k_is)
    (case a6 => k_is)
    (case l6 => k_is)
    (case c6 => k_is)
    (case k6 => k_is)
    (case a7 => k_is)
    (case l7 => k_is)
    (case c7 => k_is)
    (case k7 => k_is)
    (case a8 => k_is)
    (case l8 => k_is)
    (case c8 => k_is)
    (case k8 => k_is)
    (case a9 => k_is)
    (case l9 => k_is)
    (case c9 => k_is)
    (case k9 => k_is)
    (case a10 => k_is)
    (case l10 => k_is)
    (case c10 => k_is)
    (case k10 => k_is)
    (case a11 => k_is)
    (case l11 => k_is)
    (case c11 => k_is)
    (case k11 => k_is)
    (case a12 => k_is)
    (case l12 => k_is)
    (case c12 => k_is)
    (case k12 => k_is)
    (case a13 => k_is)
    (case l13 => k_is)
    (case c13 => k_is)
    (case k13 => k_is)
    (case a14 => k_is)
    (case l14 => k_is)
    (case c14 => k_is)
    (case k14 => k_is)
    (case a15 => k_is)
    (case l15 => k_is)
    (case c15 => k_is)
    (case k15 => k_is)
    (case a16 => k_is)
    (case l16 => k_is)
    (case c16 => k_is)
    (case k16 => k_is)
    (case a17 => k_is)
    (case l17 => k_is)
    (case c17 => k_is)
    (case k17 => k_is)
    (case a18 => k_is)
    (case l18 => k_is)
    (case c18 => k_is)
    (case k18 => k_is)
    (case a19 => k_is)
    (case l19 => k_is)
    (case c19 => k_is)
    (case k19 => k_is)
    (case a20 => k_is)
    (case l20 => k_is)
    (case c20 => k_is)
    (case k20 => k_is)
    (case a21 => k_is)
    (case l21 => k_is)
    (case c21 => k_is)
    (case k21 => k_is)
    (case a22 => k_is)
    (case l22 => k_is)
    (case c22 => k_is)
    (case k22 => k_is)
    (case a23 => k_is)
    (case l23 => k_is)
    (case c23 => k_is)
    (case k23 => k_is)
    (case a24 => k_is)
    (case l24 => k_is)
    (case c24 => k_is)
    (case k24 => k_is)
    (case a25 => k_is)
    (case l25 => k_is)
    (case c25 => k_is)
    (case k25 => k_is)
    (case a26 => k_is)
    (case l26 => k_is)
    (case c26 => k_is)
    (case k26 => k_is)
    (case a27 => k_is)
    (case l27 => k_is)
    (case c27 => k_is)
    (case k27 => k_is)
    (case a28 => k_is)
    (case l28 => k_is)
    (case c28 => k_is)
    (case k28 => k_is)
    (case v0 => k_is)
    (case v1 => k_is)
    (case v2 => k_is)
    (case v3 => k_is)
    (case w3 => k_is)
    (case zabs => k_is)
    (case zall => k_is)
    (case zbool => k_is)
    (case zenumerate => k_is)
    (case zint => k_is)
    (case zisinstance => k_is)
    (case zlen => k_is)
    (case zlist => k_is)
    (case zmax => k_is)
    (case zmin => k_is)
    (case zrange => k_is)
    (case zsum => k_is)
    (case ztuple => k_is)
    (case zzip => k_is)

