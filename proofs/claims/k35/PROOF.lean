import PyProof.Rows.All
import Wide.All
import OpenK.AllK
import Wide.FinOn
import HandS.ForMost
import HandS.ForExc
import HandS.Wide
import HandS.CallSlots
import HandS.ExcOwn
import HandS.TupAny
import HandS.List
import HandS.Property
import HandS.Defaults
import HandS.More
import HandS.Walk
import HandS.Zip
import HandS.Style
import HandS.Comp
import HandS.SetFor
import HandS.Text
import HandS.IsInst
import PyProof.ReprRoads
import PyProof.ReprLen
import HandS.OwnEq
import KE.KStar
import KE.KRevSl
import KE.GoesMore
import HandS.Dict
import PyProof.RulesMatch
import HandS.Ends
import HandS.HeadEnd
import HandS.HeadHook1
import HandS.HeadHook2
import HandS.HeadHook3
import HandS.Head0
import HandS.Head1
import HandS.Head2
import PySem.Challenge.RW_liftsteps_k35_rounded_lifts
set_option Elab.async false
set_option linter.all false
section
set_option maxRecDepth 100000
namespace LD
open PySem PySem.Spec PyProof.Rows L2

/-! ### data -/
inductive D where
  | non | bl (b : Bool) | int (i : Int) | str (x : Str)
  | tup (xs : List D) | lst (xs : List D) | frz (xs : List D)
  | obj (C : Addr) (ns : List Str) (ds : List D)
  | ref (a : Addr)
  deriving Inhabited

inductive MO where
  | lst (xs : List D)
  | ins (C : Addr) (ns : List Str) (ds : List D)

abbrev DM := Addr → Option MO
def updM (M : DM) (a : Addr) (o : MO) : DM := fun b => if b = a then some o else M b
def delM (M : DM) (a : Addr) : DM := fun b => if b = a then none else M b
theorem updM_same {M : DM} {a : Addr} {o : MO} : updM M a o a = some o := by unfold updM; rw [if_pos rfl]
theorem updM_ne {M : DM} {a b : Addr} {o : MO} (h : b ≠ a) : updM M a o b = M b := by unfold updM; rw [if_neg h]
theorem delM_same {M : DM} {a : Addr} : delM M a a = none := by unfold delM; rw [if_pos rfl]
theorem delM_ne {M : DM} {a b : Addr} (h : b ≠ a) : delM M a b = M b := by unfold delM; rw [if_neg h]
theorem updM_updM {M : DM} {a : Addr} {o u : MO} : updM (updM M a o) a u = updM M a u := by
  funext b; unfold updM; split <;> rfl
theorem delM_updM {M : DM} {a : Addr} {o : MO} (h : M a = none) : delM (updM M a o) a = M := by
  funext b; unfold delM updM; split
  · rename_i e; rw [e, h]
  · rfl

abbrev DSt := List (Option D)

/-- a list that is looked at alone: locked, or the module's own -/
def SqF (K : PySem.W.Frag) (H : Hp) (a : Addr) (vs : List V) : Prop := (∃ o, H a = some (.frz o (.lst vs))) ∨ ∃ (o : Obj) (its : Array Value) (n : Nat), K.lookup a = some o ∧ o.cls = .type "list" ∧ o.dict = none ∧ o.data = .seq its n ∧ its.size ≤ sizeLine ∧ Vals vs its.toList
theorem SqF.l {K : PySem.W.Frag} {H : Hp} {a : Addr} {vs : List V} (h : SqF K H a vs) : SqL K H a vs := h.elim (fun h => .inl (.inr h)) .inr
section
variable (K : PySem.W.Frag) (H : Hp) (M : DM)
mutual
def Rep : D → V → Prop
  | .non, v => v = .non
  | .bl b, v => v = .bl b
  | .int i, v => v = .int i
  | .str x, v => v = .str x
  | .tup ds, v => ∃ a vs, v = .ref a ∧ SqT K H a vs ∧ Reps ds vs
  | .lst ds, v => ∃ a vs, v = .ref a ∧ M a = none ∧ H a = some (.lst vs) ∧ Reps ds vs
  | .frz ds, v => ∃ a vs, v = .ref a ∧ SqF K H a vs ∧ Reps ds vs
  | .obj C ns ds, v => ∃ a dx vs, v = .ref a ∧ M a = none ∧ H a = some (.ins C dx (ns.zip vs)) ∧ ns.length = vs.length ∧ Reps ds vs
  | .ref a, v => v = .ref a
def Reps : List D → List V → Prop
  | [], vs => vs = []
  | d :: ds, vs => ∃ w ws, vs = w :: ws ∧ Rep d w ∧ Reps ds ws
end
def MOk (a : Addr) : MO → Prop
  | .lst ds => ∃ vs, H a = some (.lst vs) ∧ Reps K H M ds vs
  | .ins C ns ds => ∃ dx vs, H a = some (.ins C dx (ns.zip vs)) ∧ ns.length = vs.length ∧ Reps K H M ds vs
def MR : Prop := ∀ a o, M a = some o → MOk K H M a o
def EnvR (σd : DSt) (σ : L2.St) : Prop := σd.length = σ.length ∧ ∀ (i : Nat) (d : D), σd[i]? = some (some d) → ∃ v, σ[i]? = some (some v) ∧ Rep K H M d v
end
/-- what is not among the changing things stays -/
def Ext (H : Hp) (M : DM) (H' : Hp) (M' : DM) : Prop := ∀ a o, H a = some o → M a = none → H' a = some o ∧ M' a = none

section
variable {K : PySem.W.Frag} {H H' H'' : Hp} {M M' M'' : DM}
theorem Ext.refl : Ext H M H M := fun _ _ h m => ⟨h, m⟩
theorem Ext.trans (x : Ext H M H' M') (y : Ext H' M' H'' M'') : Ext H M H'' M'' := fun a o h m => let ⟨h1, m1⟩ := x a o h m; y a o h1 m1
/-- what is described may be forgotten, new things may come -/
structure Ext2 (K : PySem.W.Frag) (H : Hp) (M : DM) (H' : Hp) (M' : DM) : Prop where
  e : Ext H M H' M'
  t : ∀ a vs, SqT K H a vs → SqT K H' a vs
theorem tupM (mr : MR K H M) {a : Addr} {o : HO} (h : H a = some o) (n : ∀ vs, o ≠ .lst vs) (m : ∀ C dx fs, o ≠ .ins C dx fs) : M a = none := by
  cases q : M a with
  | none => rfl
  | some u =>
    have z := mr a u q
    cases u with
    | lst ds => obtain ⟨vs, e, _⟩ := z; rw [h] at e; exact absurd (Option.some.inj e) (n _)
    | ins C ns ds => obtain ⟨dx, vs, e, _⟩ := z; rw [h] at e; exact absurd (Option.some.inj e) (m _ _ _)
theorem Ext.sqT (x : Ext H M H' M') (mr : MR K H M) {a : Addr} {vs : List V} (h : SqT K H a vs) : SqT K H' a vs := by
  rcases h with (h | ⟨o, h⟩) | h
  · exact .inl (.inl (x a _ h (tupM mr h (fun _ z => by cases z) (fun _ _ _ z => by cases z))).1)
  · exact .inl (.inr ⟨o, (x a _ h (tupM mr h (fun _ z => by cases z) (fun _ _ _ z => by cases z))).1⟩)
  · exact .inr h
mutual
theorem Rep.ext (x : Ext H M H' M') (mr : MR K H M) : ∀ {d : D} {v : V}, Rep K H M d v → Rep K H' M' d v
  | .non, _, h => h
  | .bl _, _, h => h
  | .int _, _, h => h
  | .str _, _, h => h
  | .ref _, _, h => h
  | .tup ds, v, h => by
    unfold Rep at h ⊢
    obtain ⟨a, vs, e, s, r⟩ := h
    exact ⟨a, vs, e, x.sqT mr s, Reps.ext x mr r⟩
  | .lst ds, v, h => by
    unfold Rep at h ⊢
    obtain ⟨a, vs, e, m, s, r⟩ := h
    exact ⟨a, vs, e, (x a _ s m).2, (x a _ s m).1, Reps.ext x mr r⟩
  | .frz ds, v, h => by
    unfold Rep at h ⊢
    obtain ⟨a, vs, e, s, r⟩ := h
    refine ⟨a, vs, e, ?_, Reps.ext x mr r⟩
    rcases s with ⟨o, s⟩ | s
    · exact .inl ⟨o, (x a _ s (tupM mr s (fun _ z => by cases z) (fun _ _ _ z => by cases z))).1⟩
    · exact .inr s
  | .obj C ns ds, v, h => by
    unfold Rep at h ⊢
    obtain ⟨a, dx, vs, e, m, s, l, r⟩ := h
    exact ⟨a, dx, vs, e, (x a _ s m).2, (x a _ s m).1, l, Reps.ext x mr r⟩
theorem Reps.ext (x : Ext H M H' M') (mr : MR K H M) : ∀ {ds : List D} {vs : List V}, Reps K H M ds vs → Reps K H' M' ds vs
  | [], _, h => by unfold Reps at h ⊢; exact h
  | d :: ds, vs, h => by
    unfold Reps at h ⊢
    obtain ⟨w, ws, e, r, rs⟩ := h
    exact ⟨w, ws, e, r.ext x mr, Reps.ext x mr rs⟩
end
theorem EnvR.ext (x : Ext H M H' M') (mr : MR K H M) {σd : DSt} {σ : L2.St} (h : EnvR K H M σd σ) : EnvR K H' M' σd σ :=
  ⟨h.1, fun i d e => let ⟨v, e1, r⟩ := h.2 i d e; ⟨v, e1, r.ext x mr⟩⟩
theorem Reps.len : ∀ {ds : List D} {vs : List V}, Reps K H M ds vs → ds.length = vs.length
  | [], _, h => by unfold Reps at h; rw [h]; rfl
  | d :: ds, vs, h => by
    unfold Reps at h
    obtain ⟨w, ws, e, r, rs⟩ := h
    rw [e, List.length_cons, List.length_cons, rs.len]
theorem Reps.nil : Reps K H M [] [] := by unfold Reps; rfl
theorem Reps.cons {d : D} {v : V} {ds : List D} {vs : List V} (r : Rep K H M d v) (rs : Reps K H M ds vs) : Reps K H M (d :: ds) (v :: vs) := by
  unfold Reps; exact ⟨v, vs, rfl, r, rs⟩
theorem Reps.get : ∀ {ds : List D} {vs : List V} {i : Nat} {d : D}, Reps K H M ds vs → ds[i]? = some d → ∃ v, vs[i]? = some v ∧ Rep K H M d v
  | [], _, _, _, _, e => by simp at e
  | d :: ds, vs, 0, d', h, e => by
    unfold Reps at h
    obtain ⟨w, ws, q, r, rs⟩ := h
    simp at e; subst e; subst q; exact ⟨w, rfl, r⟩
  | d :: ds, vs, i + 1, d', h, e => by
    unfold Reps at h
    obtain ⟨w, ws, q, r, rs⟩ := h
    subst q
    obtain ⟨v, e1, r1⟩ := rs.get (i := i) (d := d') (by simpa using e)
    exact ⟨v, by simpa using e1, r1⟩
theorem Reps.getV : ∀ {ds : List D} {vs : List V} {i : Nat} {v : V}, Reps K H M ds vs → vs[i]? = some v → ∃ d, ds[i]? = some d ∧ Rep K H M d v
  | [], _, _, _, h, e => by unfold Reps at h; subst h; simp at e
  | d :: ds, vs, 0, v, h, e => by
    unfold Reps at h
    obtain ⟨w, ws, q, r, rs⟩ := h
    subst q; simp at e; subst e; exact ⟨d, rfl, r⟩
  | d :: ds, vs, i + 1, v, h, e => by
    unfold Reps at h
    obtain ⟨w, ws, q, r, rs⟩ := h
    subst q
    obtain ⟨d', e1, r1⟩ := rs.getV (i := i) (v := v) (by simpa using e)
    exact ⟨d', by simpa using e1, r1⟩
theorem Reps.append : ∀ {ds es : List D} {vs ws : List V}, Reps K H M ds vs → Reps K H M es ws → Reps K H M (ds ++ es) (vs ++ ws)
  | [], _, _, _, h, h' => by unfold Reps at h; subst h; exact h'
  | d :: ds, es, vs, ws, h, h' => by
    unfold Reps at h
    obtain ⟨w, ws', q, r, rs⟩ := h
    subst q; exact .cons r (rs.append h')
theorem Reps.set : ∀ {ds : List D} {vs : List V} {d : D} {v : V} (i : Nat), Reps K H M ds vs → Rep K H M d v → Reps K H M (ds.set i d) (vs.set i v)
  | [], _, _, _, _, h, _ => by unfold Reps at h; subst h; exact .nil
  | d :: ds, vs, d', v, 0, h, r' => by
    unfold Reps at h
    obtain ⟨w, ws', q, r, rs⟩ := h
    subst q; exact .cons r' rs
  | d :: ds, vs, d', v, i + 1, h, r' => by
    unfold Reps at h
    obtain ⟨w, ws', q, r, rs⟩ := h
    subst q; exact .cons r (rs.set i r')
theorem Reps.take : ∀ {ds : List D} {vs : List V} (n : Nat), Reps K H M ds vs → Reps K H M (ds.take n) (vs.take n)
  | [], _, n, h => by unfold Reps at h; subst h; simp only [List.take_nil]; exact .nil
  | d :: ds, vs, 0, h => by simp only [List.take_zero]; exact .nil
  | d :: ds, vs, n + 1, h => by
    unfold Reps at h
    obtain ⟨w, ws', q, r, rs⟩ := h
    subst q; simp only [List.take_succ_cons]; exact .cons r (rs.take n)
theorem Reps.drop : ∀ {ds : List D} {vs : List V} (n : Nat), Reps K H M ds vs → Reps K H M (ds.drop n) (vs.drop n)
  | [], _, n, h => by unfold Reps at h; subst h; simp only [List.drop_nil]; exact .nil
  | d :: ds, vs, 0, h => h
  | d :: ds, vs, n + 1, h => by
    unfold Reps at h
    obtain ⟨w, ws', q, r, rs⟩ := h
    subst q; simp only [List.drop_succ_cons]; exact rs.drop n
theorem Reps.single {d : D} {v : V} (r : Rep K H M d v) : Reps K H M [d] [v] := .cons r .nil
theorem Reps.inv {d : D} {ds : List D} {vs : List V} (h : Reps K H M (d :: ds) vs) : ∃ w ws, vs = w :: ws ∧ Rep K H M d w ∧ Reps K H M ds ws := by unfold Reps at h; exact h
theorem Reps.inv0 {vs : List V} (h : Reps K H M [] vs) : vs = [] := by unfold Reps at h; exact h
/-- a new thing is laid and tracked as changing -/
theorem Ext.laid {p : Addr} {o : HO} {mo : MO} (hp : H p = none) : Ext H M (upd H p o) (updM M p mo) := fun a u h m => by
  have ne : a ≠ p := ne_of_none h hp
  rw [upd_ne ne, updM_ne ne]; exact ⟨h, m⟩
/-- .. as standing -/
theorem Ext.laid0 {p : Addr} {o : HO} (hp : H p = none) : Ext H M (upd H p o) M := fun a u h m => by
  rw [upd_ne (ne_of_none h hp)]; exact ⟨h, m⟩
theorem MR.free (mr : MR K H M) {p : Addr} (hp : H p = none) : M p = none := by
  cases q : M p with
  | none => rfl
  | some u =>
    have z := mr p u q
    cases u with
    | lst ds => obtain ⟨vs, e, _⟩ := z; rw [hp] at e; cases e
    | ins C ns ds => obtain ⟨dx, vs, e, _⟩ := z; rw [hp] at e; cases e
theorem MOk.ext (x : Ext H M H' M') (mr : MR K H M) {a : Addr} {o : MO} (h : MOk K H M a o) (k : H' a = H a) : MOk K H' M' a o := by
  cases o with
  | lst ds => obtain ⟨vs, e, r⟩ := h; exact ⟨vs, k.trans e, r.ext x mr⟩
  | ins C ns ds => obtain ⟨dx, vs, e, l, r⟩ := h; exact ⟨dx, vs, k.trans e, l, r.ext x mr⟩
theorem MR.laid (mr : MR K H M) {p : Addr} {o : HO} {mo : MO} (hp : H p = none) (new : MOk K (upd H p o) (updM M p mo) p mo) : MR K (upd H p o) (updM M p mo) := fun a u e => by
  by_cases hb : a = p
  · subst hb; rw [updM_same] at e; cases e; exact new
  · rw [updM_ne hb] at e
    exact (mr a u e).ext (Ext.laid hp) mr (upd_ne hb)
theorem MR.laid0 (mr : MR K H M) {p : Addr} {o : HO} (hp : H p = none) : MR K (upd H p o) M := fun a u e =>
  (mr a u e).ext (Ext.laid0 hp) mr (upd_ne (fun z => by rw [z, mr.free hp] at e; cases e))
/-- a changing thing is changed -/
theorem Ext.wrote {p : Addr} {o : HO} {mo mo' : MO} (hp : M p = some mo) : Ext H M (upd H p o) (updM M p mo') := fun a u h m => by
  have ne : a ≠ p := fun z => by rw [z, hp] at m; cases m
  rw [upd_ne ne, updM_ne ne]; exact ⟨h, m⟩
theorem MR.wrote (mr : MR K H M) {p : Addr} {o : HO} {mo mo' : MO} (hp : M p = some mo) (new : MOk K (upd H p o) (updM M p mo') p mo') : MR K (upd H p o) (updM M p mo') := fun a u e => by
  by_cases hb : a = p
  · subst hb; rw [updM_same] at e; cases e; exact new
  · rw [updM_ne hb] at e
    exact (mr a u e).ext (Ext.wrote hp) mr (upd_ne hb)
/-- a changing thing is from now on a standing one -/
theorem Ext.froze {p : Addr} : Ext H M H (delM M p) := fun a u h m => ⟨h, by unfold delM; split; rfl; exact m⟩
theorem MR.froze (mr : MR K H M) {p : Addr} : MR K H (delM M p) := fun a u e => by
  have ne : a ≠ p := fun z => by rw [z, delM_same] at e; cases e
  rw [delM_ne ne] at e
  exact (mr a u e).ext Ext.froze mr rfl
end

/-! ### readings over data -/
abbrev DK := D → DM → Prop
abbrev DX := Addr → D → DM → Prop
abbrev DTE := DSt → DM → DK → DX → Prop
abbrev DTT := DSt → DM → (Bool → DM → Prop) → DX → Prop
abbrev DTA := DSt → DM → (List D → DM → Prop) → DX → Prop
abbrev DSp := List D → DM → DK → DX → Prop

def vName : Str := "value"
/-- an exception's own dict -/
def RepX (K : PySem.W.Frag) (H : Hp) (M : DM) (dv : D) (d : Option Addr) : Prop := ∃ dd vv, d = some dd ∧ H dd = some (.xd [(vName, vv)]) ∧ M dd = none ∧ Rep K H M dv vv
def Fwd (K : PySem.W.Frag) (H : Hp) (M : DM) (R : DK) (Q : VK) : Prop := ∀ v H' M' d, Ext H M H' M' → MR K H' M' → Rep K H' M' d v → R d M' → Q v H'
def FwdX (K : PySem.W.Frag) (H : Hp) (M : DM) (Ex : DX) (E : XK) : Prop := ∀ C d H' M' dv, Ext H M H' M' → MR K H' M' → RepX K H' M' dv d → Ex C dv M' → E (.ref C) d H'
theorem Fwd.ext {K : PySem.W.Frag} {H H' : Hp} {M M' : DM} {R : DK} {Q : VK} (f : Fwd K H M R Q) (x : Ext H M H' M') : Fwd K H' M' R Q := fun v H2 M2 d e => f v H2 M2 d (x.trans e)
theorem FwdX.ext {K : PySem.W.Frag} {H H' : Hp} {M M' : DM} {Ex : DX} {E : XK} (f : FwdX K H M Ex E) (x : Ext H M H' M') : FwdX K H' M' Ex E := fun C d H2 M2 dv e => f C d H2 M2 dv (x.trans e)

def lift (K : PySem.W.Frag) (W : WX) (t : DTE) : TE := fun σ H Q => ∃ σd M R Ex, EnvR K H M σd σ ∧ MR K H M ∧ t σd M R Ex ∧ Fwd K H M R Q ∧ FwdX K H M Ex (WE W σ)
def liftT (K : PySem.W.Frag) (W : WX) (t : DTT) : TT := fun σ H Q => ∃ σd M R Ex, EnvR K H M σd σ ∧ MR K H M ∧ t σd M R Ex ∧ (∀ b H' M', Ext H M H' M' → MR K H' M' → R b M' → Q b H') ∧ FwdX K H M Ex (WE W σ)
def liftA (K : PySem.W.Frag) (W : WX) (t : DTA) : TA := fun σ H Q => ∃ σd M R Ex, EnvR K H M σd σ ∧ MR K H M ∧ t σd M R Ex ∧ (∀ vs H' M' ds, Ext H M H' M' → MR K H' M' → Reps K H' M' ds vs → R ds M' → Q vs H') ∧ FwdX K H M Ex (WE W σ)
def liftSp (K : PySem.W.Frag) (t : DSp) : Sp := fun vs H Q E => ∃ ds M R Ex, Reps K H M ds vs ∧ MR K H M ∧ t ds M R Ex ∧ Fwd K H M R Q ∧ FwdX K H M Ex E

abbrev DE (X : Cx) (W : WX) (e : Expr) (t : DTE) : Prop := PE X e (lift X.K W t)
abbrev DT (X : Cx) (W : WX) (e : Expr) (t : DTT) : Prop := PT X e (liftT X.K W t)
abbrev DA (X : Cx) (W : WX) (es : List Expr) (t : DTA) : Prop := PA X es (liftA X.K W t)

theorem _root_.L2.PE.imp {X : Cx} {e : Expr} {t u : TE} (h : PE X e t) (i : ∀ σ H Q, u σ H Q → t σ H Q) : PE X e u := ⟨fun pins s σ H Q I q => h.run pins s σ H Q I (i σ H Q q)⟩
theorem _root_.L2.PT.imp {X : Cx} {e : Expr} {t u : TT} (h : PT X e t) (i : ∀ σ H Q, u σ H Q → t σ H Q) : PT X e u := ⟨fun pins s σ H Q I q => h.run pins s σ H Q I (i σ H Q q)⟩
theorem _root_.L2.PA.imp {X : Cx} {es : List Expr} {t u : TA} (h : PA X es t) (i : ∀ σ H Q, u σ H Q → t σ H Q) : PA X es u := ⟨fun pos pins s σ H Q I q => h.run pos pins s σ H Q I (i σ H Q q)⟩

section
variable {X : Cx} {W : WX} {a b c : Expr} {ta tb tc : DTE} {pos : Pos}

/-- a name -/
def dVar (i : Nat) : DTE := fun σ M R _ => ∃ d, σ[i]? = some (some d) ∧ R d M
theorem de_var {i : Nat} {x : Str} (hN : X.N[i]? = some x) (hv : Vis X.env.scope x) (hd : (x == ("__debug__" : Str)) = false) (hcd : (x == ("__classdict__" : Str)) = false) : DE X W (.Name x pos) (dVar i) :=
  (pe_var hN hv hd hcd).imp fun σ H Q ⟨σd, M, R, Ex, er, mr, ⟨d, e, r⟩, f, _⟩ =>
    let ⟨v, e1, rp⟩ := er.2 i d e
    ⟨v, e1, f v H M d .refl mr rp r⟩
/-- a constant -/
def dC (d : D) : DTE := fun _ M R _ => R d M
theorem de_c {e : Expr} {d : D} {v : V} (h : PE X e (tC v)) (r : ∀ H M, Rep X.K H M d v) : DE X W e (dC d) :=
  h.imp fun σ H Q ⟨σd, M, R, Ex, er, mr, q, f, _⟩ => f v H M d .refl mr (r H M) q
theorem de_int {i j} : DE X W (.Constant (.int i) j pos) (dC (.int i)) := de_c pe_int fun _ _ => rfl
theorem de_bl {i j} : DE X W (.Constant (.bool i) j pos) (dC (.bl i)) := de_c pe_bl fun _ _ => rfl
theorem de_non {j} : DE X W (.Constant .none j pos) (dC .non) := de_c pe_non fun _ _ => rfl
theorem de_str {x j} : DE X W (.Constant (.str x) j pos) (dC (.str x)) := de_c pe_str fun _ _ => rfl

/-- one after another -/
theorem lift_bind {K : PySem.W.Frag} {σ : L2.St} {H : Hp} {ta : DTE} {σd : DSt} {M : DM} {R : DK} {Ex : DX} {Q : VK} (er : EnvR K H M σd σ) (mr : MR K H M) (h : ta σd M R Ex) (fx : FwdX K H M Ex (WE W σ))
    (k : ∀ v H' M' d, Ext H M H' M' → MR K H' M' → Rep K H' M' d v → R d M' → Q v H') : lift K W ta σ H Q := ⟨σd, M, R, Ex, er, mr, h, k, fx⟩

/-- an operation on two values -/
abbrev DOp2 := D → D → DM → DK → Prop
def OpOk (K : PySem.W.Frag) (r : R2) (t : DOp2) : Prop := ∀ x y vx vy H M R Q, Rep K H M x vx → Rep K H M y vy → MR K H M → t x y M R → Fwd K H M R Q → r vx vy H Q
def dOp (t : DOp2) (ta tb : DTE) : DTE := fun σ M R Ex => ta σ M (fun x M1 => tb σ M1 (fun y M2 => t x y M2 R) Ex) Ex
theorem tOp_of {r : R2} {t : DOp2} (ok : OpOk X.K r t) : ∀ σ H Q, lift X.K W (dOp t ta tb) σ H Q → tOp r (lift X.K W ta) (lift X.K W tb) σ H Q := fun σ H Q ⟨σd, M, R, Ex, er, mr, q, f, fx⟩ =>
  lift_bind er mr q fx fun v H1 M1 x e1 mr1 rx q1 => lift_bind (er.ext e1 mr) mr1 q1 (fx.ext e1) fun w H2 M2 y e2 mr2 ry q2 =>
    ok x y v w H2 M2 R Q (rx.ext e2 mr1) ry mr2 q2 ((f.ext e1).ext e2)
theorem de_op {op : Operator} {r : R2} {t : DOp2} (ho : OpR X (binaryOp op) r) (ok : OpOk X.K r t) (ha : DE X W a ta) (hb : DE X W b tb) : DE X W (.BinOp a op b pos) (dOp t ta tb) :=
  (pe_op ho ha hb).imp (tOp_of ok)
theorem de_cmp {op : CmpOp} {r : R2} {t : DOp2} (ho : OpR X (compareOp op) r) (ok : OpOk X.K r t) (ha : DE X W a ta) (hb : DE X W b tb) (hm : behindInMarks op b = false) : DE X W (.Compare a [op] [b] pos) (dOp t ta tb) :=
  (pe_cmpR ho ha hb hm).imp (tOp_of ok)
end
end LD
end

section
set_option maxRecDepth 100000
set_option maxHeartbeats 1000000
namespace LD
open PySem PySem.Spec PyProof.Rows L2

/-! ### lists and tuples seen as such -/
def isL (M : DM) : D → Option (List D)
  | .lst ds => some ds
  | .frz ds => some ds
  | .ref a => match M a with
    | some (.lst ds) => some ds
    | _ => none
  | _ => none
/-- .. but the locked script -/
def isL0 (M : DM) : D → Option (List D)
  | .lst ds => some ds
  | .ref a => match M a with
    | some (.lst ds) => some ds
    | _ => none
  | _ => none
def isT : D → Option (List D)
  | .tup ds => some ds
  | _ => none
def isS (M : DM) : D → Option (List D)
  | .tup ds => some ds
  | .lst ds => some ds
  | .frz ds => some ds
  | .ref a => match M a with
    | some (.lst ds) => some ds
    | _ => none
  | _ => none
section
variable {K : PySem.W.Frag} {H : Hp} {M : DM} {d : D} {v : V} {ds : List D}
theorem plain_of (r : Rep K H M d v) (mr : MR K H M) (h : isL0 M d = some ds) : ∃ p vs, v = .ref p ∧ H p = some (.lst vs) ∧ Reps K H M ds vs := by
  cases d with
  | lst xs => cases h; unfold Rep at r; obtain ⟨a, vs, e, m, s, q⟩ := r; exact ⟨a, vs, e, s, q⟩
  | ref a =>
    unfold Rep at r
    unfold isL0 at h
    cases e : M a with
    | none => simp [e] at h
    | some o =>
      cases o with
      | ins C ns xs => simp [e] at h
      | lst xs =>
        simp [e] at h; subst h
        obtain ⟨vs, e1, q⟩ := mr a _ e
        exact ⟨a, vs, r, e1, q⟩
  | _ => cases h
theorem sqL_of (r : Rep K H M d v) (mr : MR K H M) (h : isL M d = some ds) : ∃ p vs, v = .ref p ∧ SqL K H p vs ∧ Reps K H M ds vs := by
  cases d with
  | frz xs => cases h; unfold Rep at r; obtain ⟨a, vs, e, s, q⟩ := r; exact ⟨a, vs, e, s.l, q⟩
  | lst xs => obtain ⟨p, vs, e, s, q⟩ := plain_of r mr (ds := ds) h; exact ⟨p, vs, e, SqL.of s, q⟩
  | ref a => obtain ⟨p, vs, e, s, q⟩ := plain_of r mr (ds := ds) h; exact ⟨p, vs, e, SqL.of s, q⟩
  | _ => cases h
theorem sqT_of (r : Rep K H M d v) (h : isT d = some ds) : ∃ p vs, v = .ref p ∧ SqT K H p vs ∧ Reps K H M ds vs := by
  cases d with
  | tup xs => cases h; unfold Rep at r; exact r
  | _ => cases h
theorem isS_cases (h : isS M d = some ds) : isL M d = some ds ∨ isT d = some ds := by
  cases d with
  | tup xs => exact .inr h
  | lst xs => exact .inl h
  | frz xs => exact .inl h
  | ref a => exact .inl h
  | _ => cases h
theorem int_of {i : Int} (r : Rep K H M (.int i) v) : v = .int i := r
end

/-! ### the operations -/
def MulOk (i j : Int) : Prop := IntMulOk i j
def DivOk (j : Int) : Prop := j ≠ 0 ∧ j.natAbs.log2 < 9000
def PowOk (i j : Int) : Prop := 0 ≤ j ∧ (Builtin.Int.intBits i : Int) * j ≤ 2 ^ 27
def oAdd : DOp2 := fun x y M R => match x, y with
  | .int i, .int j => R (.int (i + j)) M
  | .tup a, .tup b => a.length + b.length ≤ sizeLine ∧ R (.tup (a ++ b)) M
  | .str a, .str b => a.length + b.length ≤ sizeLine ∧ R (.str (a ++ b)) M
  | x, y => ∃ a b, isL0 M x = some a ∧ isL0 M y = some b ∧ a.length + b.length ≤ sizeLine ∧ ∀ p, M p = none → R (.ref p) (updM M p (.lst (a ++ b)))
def oSub : DOp2 := fun x y M R => match x, y with
  | .int i, .int j => R (.int (i - j)) M
  | _, _ => False
def oMul : DOp2 := fun x y M R => match x, y with
  | .int i, .int j => MulOk i j ∧ R (.int (i * j)) M
  | x, .int j => ∃ a, isL0 M x = some a ∧ -(2 ^ 63) ≤ j ∧ j < 2 ^ 63 ∧ a.length * j.toNat ≤ sizeLine ∧ ∀ p, M p = none → R (.ref p) (updM M p (.lst (List.replicate j.toNat a).flatten))
  | _, _ => False
def oDiv : DOp2 := fun x y M R => match x, y with
  | .int i, .int j => DivOk j ∧ R (.int (i.fdiv j)) M
  | _, _ => False
def oMod : DOp2 := fun x y M R => match x, y with
  | .int i, .int j => j ≠ 0 ∧ R (.int (i.fmod j)) M
  | _, _ => False
def oPow : DOp2 := fun x y M R => match x, y with
  | .int i, .int j => PowOk i j ∧ R (.int (i ^ j.toNat)) M
  | _, _ => False
def oLt : DOp2 := fun x y M R => match x, y with
  | .int i, .int j => R (.bl (decide (i < j))) M
  | _, _ => False
def oLe : DOp2 := fun x y M R => match x, y with
  | .int i, .int j => R (.bl (decide (i ≤ j))) M
  | _, _ => False
def oGt : DOp2 := fun x y M R => match x, y with
  | .int i, .int j => R (.bl (decide (j < i))) M
  | _, _ => False
def oGe : DOp2 := fun x y M R => match x, y with
  | .int i, .int j => R (.bl (decide (j ≤ i))) M
  | _, _ => False

mutual
def toP0 : D → Option PyData
  | .non => some .none
  | .bl b => some (.bool b)
  | .int i => some (.int i)
  | .str x => some (.str x)
  | .tup ds => (toPs ds).map .tuple
  | .lst ds => (toPs ds).map .list
  | .frz ds => (toPs ds).map .list
  | .obj _ _ _ => none
  | .ref _ => none
def toPs : List D → Option (List PyData)
  | [] => some []
  | d :: ds => match toP0 d, toPs ds with
    | some p, some ps => some (p :: ps)
    | _, _ => none
end
def toP (M : DM) : D → Option PyData
  | .ref a => match M a with
    | some (.lst ds) => (toPs ds).map .list
    | _ => none
  | d => toP0 d
section
variable {K : PySem.W.Frag} {H : Hp} {M : DM}
mutual
theorem dp0 : ∀ {d : D} {v : V} {p : PyData}, Rep K H M d v → toP0 d = some p → Dp K H v p
  | .non, v, p, r, h => by cases h; cases r; exact .non
  | .bl b, v, p, r, h => by cases h; cases r; exact .bl b
  | .int b, v, p, r, h => by cases h; cases r; exact .int b
  | .str b, v, p, r, h => by cases h; cases r; exact .str b
  | .tup ds, v, p, r, h => by
    unfold Rep at r
    obtain ⟨a, vs, e, s, q⟩ := r
    unfold toP0 at h
    cases e2 : toPs ds with
    | none => simp [e2] at h
    | some ps => simp [e2] at h; subst h; subst e; exact .tup s (dps q e2)
  | .lst ds, v, p, r, h => by
    unfold Rep at r
    obtain ⟨a, vs, e, m, s, q⟩ := r
    unfold toP0 at h
    cases e2 : toPs ds with
    | none => simp [e2] at h
    | some ps => simp [e2] at h; subst h; subst e; exact .lst (SqL.of s) (dps q e2)
  | .frz ds, v, p, r, h => by
    unfold Rep at r
    obtain ⟨a, vs, e, s, q⟩ := r
    unfold toP0 at h
    cases e2 : toPs ds with
    | none => simp [e2] at h
    | some ps => simp [e2] at h; subst h; subst e; exact .lst s.l (dps q e2)
  | .obj _ _ _, v, p, r, h => by cases h
  | .ref _, v, p, r, h => by cases h
theorem dps : ∀ {ds : List D} {vs : List V} {ps : List PyData}, Reps K H M ds vs → toPs ds = some ps → DpAll K H vs ps
  | [], vs, ps, r, h => by cases h; have := r.inv0; subst this; exact .nil
  | d :: ds, vs, ps, r, h => by
    obtain ⟨w, ws, e, r1, r2⟩ := r.inv
    unfold toPs at h
    cases e1 : toP0 d with
    | none => simp [e1] at h
    | some p =>
      cases e2 : toPs ds with
      | none => simp [e1, e2] at h
      | some qs => simp [e1, e2] at h; subst h; subst e; exact .cons (dp0 r1 e1) (dps r2 e2)
end
theorem dp_of {d : D} {v : V} {p : PyData} (r : Rep K H M d v) (mr : MR K H M) (h : toP M d = some p) : Dp K H v p := by
  cases d with
  | ref a =>
    unfold Rep at r
    unfold toP at h
    cases e : M a with
    | none => simp [e] at h
    | some o =>
      cases o with
      | ins C ns xs => simp [e] at h
      | lst xs =>
        simp [e] at h
        obtain ⟨ps, e2, rfl⟩ := h
        obtain ⟨vs, e1, q⟩ := mr a _ e
        subst r
        exact .lst (SqL.of e1) (dps q e2)
  | _ => exact dp0 r h
end
def oEq : DOp2 := fun x y M R => (∃ p q, toP M x = some p ∧ toP M y = some q ∧ SeqAt.shaped p = true ∧ SeqAt.shaped q = true ∧ R (.bl (PyData.eqv p q)) M) ∨ ∃ a b : Str, x = .str a ∧ y = .str b ∧ R (.bl (decide (a = b))) M
def oNe : DOp2 := fun x y M R => (∃ p q, toP M x = some p ∧ toP M y = some q ∧ SeqAt.shaped p = true ∧ SeqAt.shaped q = true ∧ R (.bl (!PyData.eqv p q)) M) ∨ ∃ a b : Str, x = .str a ∧ y = .str b ∧ R (.bl (!decide (a = b))) M
def isNon : D → Bool
  | .non => true
  | _ => false
def oIs : DOp2 := fun x y M R => match y with
  | .non => R (.bl (isNon x)) M
  | _ => False
def oIsNot : DOp2 := fun x y M R => match y with
  | .non => R (.bl (!isNon x)) M
  | _ => False
/-- a flat thing in a list or tuple of flat things -/
def dflat : D → Option V
  | .non => some .non
  | .bl b => some (.bl b)
  | .int i => some (.int i)
  | .str x => some (.str x)
  | _ => none
def oIn (neg : Bool) : DOp2 := fun x y M R => ∃ ds xv vs, isS M y = some ds ∧ dflat x = some xv ∧ ds.mapM dflat = some vs ∧ R (.bl (if neg then !inV xv vs else inV xv vs)) M

section
variable {K : PySem.W.Frag}
theorem dflat_of {H : Hp} {M : DM} {d : D} {v w : V} (r : Rep K H M d v) (h : dflat d = some w) : v = w ∧ flatV v = true := by
  cases d <;> first | (cases h; cases r; exact ⟨rfl, rfl⟩) | cases h
theorem dflats_of {H : Hp} {M : DM} : ∀ {ds : List D} {vs ws : List V}, Reps K H M ds vs → ds.mapM dflat = some ws → vs = ws ∧ vs.all flatV = true
  | [], vs, ws, r, h => by have := r.inv0; subst this; simp at h; subst h; exact ⟨rfl, rfl⟩
  | d :: ds, vs, ws, r, h => by
    obtain ⟨w, ws', e, r1, r2⟩ := r.inv
    rw [List.mapM_cons] at h
    cases e1 : dflat d with
    | none => rw [e1] at h; simp at h
    | some x =>
      cases e2 : ds.mapM dflat with
      | none => rw [e1, e2] at h; simp at h
      | some xs =>
        rw [e1, e2] at h; simp at h
        obtain ⟨h1, h2⟩ := dflat_of r1 e1
        obtain ⟨h3, h4⟩ := dflats_of r2 e2
        subst h; subst e
        refine ⟨by rw [h1, h3], by simp [List.all_cons, h2]; simpa using h4⟩
end

section
variable {X : Cx} {K : PySem.W.Frag}
def rAddA (K : PySem.W.Frag) : R2 := fun x y H Q => rI0 (fun i j => .int (i + j)) x y H Q ∨ rCatA K x y H Q ∨ rCat x y H Q ∨ ∃ i j, x = .str i ∧ y = .str j ∧ i.length + j.length ≤ sizeLine ∧ Q (.str (i ++ j)) H
theorem op_addA : OpR X (binaryOp .Add) (rAddA X.K) := op_add.or (op_catA.or (op_cat.or op_add_str))
theorem Fwd.int {H : Hp} {M : DM} {R : DK} {Q : VK} (f : Fwd K H M R Q) (mr : MR K H M) {i : Int} (h : R (.int i) M) : Q (.int i) H := f _ H M (.int i) .refl mr rfl h
theorem Fwd.bl {H : Hp} {M : DM} {R : DK} {Q : VK} (f : Fwd K H M R Q) (mr : MR K H M) {i : Bool} (h : R (.bl i) M) : Q (.bl i) H := f _ H M (.bl i) .refl mr rfl h
theorem Fwd.str {H : Hp} {M : DM} {R : DK} {Q : VK} (f : Fwd K H M R Q) (mr : MR K H M) {i : Str} (h : R (.str i) M) : Q (.str i) H := f _ H M (.str i) .refl mr rfl h
theorem Fwd.non {H : Hp} {M : DM} {R : DK} {Q : VK} (f : Fwd K H M R Q) (mr : MR K H M) (h : R .non M) : Q .non H := f _ H M .non .refl mr rfl h
theorem Fwd.same {H : Hp} {M : DM} {R : DK} {Q : VK} (f : Fwd K H M R Q) (mr : MR K H M) {d : D} {v : V} (r : Rep K H M d v) (h : R d M) : Q v H := f _ H M _ .refl mr r h
/-- a new list comes, to be changed -/
theorem Fwd.newL {H : Hp} {M : DM} {R : DK} {Q : VK} (f : Fwd K H M R Q) (mr : MR K H M) {ds : List D} {vs : List V} (r : Reps K H M ds vs) (h : ∀ p, M p = none → R (.ref p) (updM M p (.lst ds))) {p : Addr} (hp : H p = none) : Q (.ref p) (upd H p (.lst vs)) :=
  f _ _ (updM M p (.lst ds)) (.ref p) (Ext.laid hp) (mr.laid hp ⟨vs, upd_same, r.ext (Ext.laid hp) mr⟩) rfl (h p (mr.free hp))
/-- a new tuple -/
theorem Fwd.newT {H : Hp} {M : DM} {R : DK} {Q : VK} (f : Fwd K H M R Q) (mr : MR K H M) {ds : List D} {vs : List V} (r : Reps K H M ds vs) (h : R (.tup ds) M) {p : Addr} (hp : H p = none) : Q (.ref p) (upd H p (.tup vs)) :=
  f _ _ M (.tup ds) (Ext.laid0 hp) (mr.laid0 hp) (by unfold Rep; exact ⟨p, vs, rfl, SqT.of upd_same, r.ext (Ext.laid0 hp) mr⟩) h
/-- a changing list is changed -/
theorem Fwd.wrote {H : Hp} {M : DM} {R : DK} {Q : VK} (f : Fwd K H M R Q) (mr : MR K H M) {a : Addr} {o : MO} {ds : List D} {vs : List V} (ha : M a = some o) (r : Reps K H M ds vs) {d : D} {v : V} (rv : Rep K H M d v) (h : R d (updM M a (.lst ds))) : Q v (upd H a (.lst vs)) :=
  f _ _ (updM M a (.lst ds)) d (Ext.wrote ha) (mr.wrote ha ⟨vs, upd_same, r.ext (Ext.wrote ha) mr⟩) (rv.ext (Ext.wrote ha) mr) h
theorem Rep.rf {H : Hp} {M : DM} {a : Addr} {v : V} (r : Rep K H M (.ref a) v) : v = .ref a := r
theorem mref {M : DM} {d : D} {ds : List D} (h : isL0 M d = some ds) : (∃ a, d = .ref a ∧ M a = some (.lst ds)) ∨ d = .lst ds := by
  cases d with
  | lst xs => cases h; exact .inr rfl
  | ref a =>
    unfold isL0 at h
    cases e : M a with
    | none => simp [e] at h
    | some o =>
      cases o with
      | ins C ns xs => simp [e] at h
      | lst xs => simp [e] at h; subst h; exact .inl ⟨a, rfl, e⟩
  | _ => cases h

theorem ok_add : OpOk K (rAddA K) oAdd := by
  intro x y vx vy H M R Q rx ry mr h f
  have lists : (∃ a b, isL0 M x = some a ∧ isL0 M y = some b ∧ a.length + b.length ≤ sizeLine ∧ ∀ p, M p = none → R (.ref p) (updM M p (.lst (a ++ b)))) → rAddA K vx vy H Q := by
    rintro ⟨a, b, h1, h2, hl, k⟩
    obtain ⟨p, vs, e1, s1, q1⟩ := plain_of rx mr h1
    obtain ⟨p2, ws, e2, s2, q2⟩ := plain_of ry mr h2
    refine .inr (.inr (.inl ⟨p, p2, vs, ws, e1, e2, s1, s2, by rw [← q1.len, ← q2.len]; exact hl, fun z hz => ?_⟩))
    exact f.newL mr (q1.append q2) k hz
  cases x <;> cases y <;> first
    | exact lists h
    | (cases rx; cases ry; exact .inl ⟨_, _, rfl, rfl, f.int mr h⟩)
    | (cases rx; cases ry; exact .inr (.inr (.inr ⟨_, _, rfl, rfl, h.1, f.str mr h.2⟩)))
    | skip
  rename_i a b
  obtain ⟨p, vs, e1, s1, q1⟩ := sqT_of (ds := a) rx rfl
  obtain ⟨p2, ws, e2, s2, q2⟩ := sqT_of (ds := b) ry rfl
  refine .inr (.inl ⟨p, p2, vs, ws, e1, e2, s1, s2, by rw [← q1.len, ← q2.len]; exact h.1, ?_⟩)
  have l1 := q1.len
  have l2 := q2.len
  refine ⟨fun e => ?_, fun e e' => ?_, fun e e' q hq => f.newT mr (q1.append q2) h.2 hq⟩
  · subst e
    cases a with
    | cons _ _ => simp at l1
    | nil => subst e2; exact f.same mr ry (by simpa using h.2)
  · subst e'
    cases b with
    | cons _ _ => simp at l2
    | nil => subst e1; exact f.same mr rx (by simpa using h.2)
def rMulA : R2 := fun x y H Q => rI MulOk (fun i j => .int (i * j)) x y H Q ∨ rRep x y H Q
theorem op_mulA : OpR X (binaryOp .Mult) rMulA := OpR.or (opI fun _ _ _ _ _ _ _ hc q => mul_int q hc) op_rep
theorem Reps.rep {H : Hp} {M : DM} {ds : List D} {vs : List V} (r : Reps K H M ds vs) : ∀ n : Nat, Reps K H M (List.replicate n ds).flatten (List.replicate n vs).flatten
  | 0 => .nil
  | n + 1 => by
    rw [List.replicate_succ, List.replicate_succ, List.flatten_cons, List.flatten_cons]
    exact r.append (r.rep n)
theorem ok_mul : OpOk K rMulA oMul := by
  intro x y vx vy H M R Q rx ry mr h f
  cases y with
  | int j =>
    cases ry
    have lists : (∃ a, isL0 M x = some a ∧ -(2 ^ 63) ≤ j ∧ j < 2 ^ 63 ∧ a.length * j.toNat ≤ sizeLine ∧ ∀ p, M p = none → R (.ref p) (updM M p (.lst (List.replicate j.toNat a).flatten))) → rMulA vx (.int j) H Q := by
      rintro ⟨a, h1, h2, h3, hl, k⟩
      obtain ⟨p, vs, e1, s1, q1⟩ := plain_of rx mr h1
      exact .inr ⟨p, j, vs, e1, rfl, s1, h2, h3, by rw [← q1.len]; exact hl, fun z hz => f.newL mr (q1.rep _) k hz⟩
    cases x with
    | int i => cases rx; exact .inl ⟨_, _, rfl, rfl, h.1, f.int mr h.2⟩
    | _ => exact lists h
  | _ => cases x <;> exact h.elim
theorem ok_sub : OpOk K (rI0 fun i j => .int (i - j)) oSub := by
  intro x y vx vy H M R Q rx ry mr h f
  cases x <;> cases y <;> first | exact h.elim | skip
  cases rx; cases ry; exact ⟨_, _, rfl, rfl, f.int mr h⟩
theorem op_divA : OpR X (binaryOp .FloorDiv) (rI (fun _ j => DivOk j) fun i j => .int (i.fdiv j)) := opI fun _ _ _ _ _ _ _ hc q => floordiv_int hc.1 q (.inl (PyProof.noPylong_of_log2 hc.2))
theorem ok_div : OpOk K (rI (fun _ j => DivOk j) fun i j => .int (i.fdiv j)) oDiv := by
  intro x y vx vy H M R Q rx ry mr h f
  cases x <;> cases y <;> first | exact h.elim | skip
  cases rx; cases ry; exact ⟨_, _, rfl, rfl, h.1, f.int mr h.2⟩
theorem ok_mod : OpOk K (rI (fun _ j => j ≠ 0) fun i j => .int (i.fmod j)) oMod := by
  intro x y vx vy H M R Q rx ry mr h f
  cases x <;> cases y <;> first | exact h.elim | skip
  cases rx; cases ry; exact ⟨_, _, rfl, rfl, h.1, f.int mr h.2⟩
theorem op_powA : OpR X (binaryOp .Pow) (rI PowOk fun i j => .int (i ^ j.toNat)) := opI fun _ _ _ _ _ _ _ hc q => pow_int hc.1 hc.2 q
theorem ok_pow : OpOk K (rI PowOk fun i j => .int (i ^ j.toNat)) oPow := by
  intro x y vx vy H M R Q rx ry mr h f
  cases x <;> cases y <;> first | exact h.elim | skip
  cases rx; cases ry; exact ⟨_, _, rfl, rfl, h.1, f.int mr h.2⟩
theorem ok_lt : OpOk K (rI0 fun i j => .bl (decide (i < j))) oLt := by
  intro x y vx vy H M R Q rx ry mr h f
  cases x <;> cases y <;> first | exact h.elim | skip
  cases rx; cases ry; exact ⟨_, _, rfl, rfl, f.bl mr h⟩
theorem ok_le : OpOk K (rI0 fun i j => .bl (decide (i ≤ j))) oLe := by
  intro x y vx vy H M R Q rx ry mr h f
  cases x <;> cases y <;> first | exact h.elim | skip
  cases rx; cases ry; exact ⟨_, _, rfl, rfl, f.bl mr h⟩
theorem ok_gt : OpOk K (rI0 fun i j => .bl (decide (j < i))) oGt := by
  intro x y vx vy H M R Q rx ry mr h f
  cases x <;> cases y <;> first | exact h.elim | skip
  cases rx; cases ry; exact ⟨_, _, rfl, rfl, f.bl mr h⟩
theorem ok_ge : OpOk K (rI0 fun i j => .bl (decide (j ≤ i))) oGe := by
  intro x y vx vy H M R Q rx ry mr h f
  cases x <;> cases y <;> first | exact h.elim | skip
  cases rx; cases ry; exact ⟨_, _, rfl, rfl, f.bl mr h⟩
def rEqA (K : PySem.W.Frag) : R2 := fun x y H Q => rEqD K x y H Q ∨ rEq x y H Q
def rNeA (K : PySem.W.Frag) : R2 := fun x y H Q => rNeD K x y H Q ∨ rNe x y H Q
theorem strV {a b : Str} : decide (V.str a = V.str b) = decide (a = b) := by
  by_cases h : a = b
  · subst h; rw [decide_eq_true rfl, decide_eq_true rfl]
  · rw [decide_eq_false h, decide_eq_false fun e => h (V.str.inj e)]
theorem ok_eq : OpOk K (rEqA K) oEq := by
  intro x y vx vy H M R Q rx ry mr h f
  rcases h with ⟨p, q, h1, h2, h3, h4, h5⟩ | ⟨a, b, rfl, rfl, h⟩
  · exact .inl ⟨p, q, dp_of rx mr h1, dp_of ry mr h2, h3, h4, f.bl mr h5⟩
  · cases rx; cases ry
    exact .inr ⟨rfl, by rw [strV]; exact f.bl mr h⟩
theorem ok_ne : OpOk K (rNeA K) oNe := by
  intro x y vx vy H M R Q rx ry mr h f
  rcases h with ⟨p, q, h1, h2, h3, h4, h5⟩ | ⟨a, b, rfl, rfl, h⟩
  · exact .inl ⟨p, q, dp_of rx mr h1, dp_of ry mr h2, h3, h4, f.bl mr h5⟩
  · cases rx; cases ry
    exact .inr ⟨rfl, by rw [strV]; exact f.bl mr h⟩
theorem isNon_of {H : Hp} {M : DM} {x : D} {v : V} (r : Rep K H M x v) : decide (v = .non) = isNon x := by
  cases x with
  | non => cases r; rfl
  | bl b => cases r; rfl
  | int b => cases r; rfl
  | str b => cases r; rfl
  | ref b => cases r; rfl
  | tup ds => unfold Rep at r; obtain ⟨a, vs, e, _⟩ := r; subst e; rfl
  | lst ds => unfold Rep at r; obtain ⟨a, vs, e, _⟩ := r; subst e; rfl
  | frz ds => unfold Rep at r; obtain ⟨a, vs, e, _⟩ := r; subst e; rfl
  | obj C ns ds => unfold Rep at r; obtain ⟨a, dx, vs, e, _⟩ := r; subst e; rfl
theorem ok_is : OpOk K (fun x y H Q => y = .non ∧ Q (.bl (decide (x = .non))) H) oIs := by
  intro x y vx vy H M R Q rx ry mr h f
  cases y <;> first | exact h.elim | skip
  cases ry
  exact ⟨rfl, by rw [isNon_of rx]; exact f.bl mr h⟩
theorem ok_isnot : OpOk K (fun x y H Q => y = .non ∧ Q (.bl (!decide (x = .non))) H) oIsNot := by
  intro x y vx vy H M R Q rx ry mr h f
  cases y <;> first | exact h.elim | skip
  cases ry
  exact ⟨rfl, by rw [isNon_of rx]; exact f.bl mr h⟩
theorem ok_in (neg : Bool) : OpOk K (rIn K neg) (oIn neg) := by
  intro x y vx vy H M R Q rx ry mr ⟨ds, xv, vs, h1, h2, h3, h⟩ f
  obtain ⟨e1, f1⟩ := dflat_of rx h2
  subst e1
  have r := f.bl mr h
  rcases isS_cases h1 with h1 | h1
  · obtain ⟨p, ws, e, s, q⟩ := sqL_of ry mr h1
    obtain ⟨e2, f2⟩ := dflats_of q h3
    subst e2
    exact ⟨p, ws, e, .inl s, f1, f2, r⟩
  · obtain ⟨p, ws, e, s, q⟩ := sqT_of ry h1
    obtain ⟨e2, f2⟩ := dflats_of q h3
    subst e2
    exact ⟨p, ws, e, .inr s, f1, f2, r⟩

/-! ### one value -/
def oNeg (x : D) (M : DM) (R : DK) : Prop := match x with
  | .int i => R (.int (-i)) M
  | _ => False
def dUn (t : D → DM → DK → Prop) (ta : DTE) : DTE := fun σ M R Ex => ta σ M (fun x M1 => t x M1 R) Ex
variable {W : WX} {a b c : Expr} {ta tb tc : DTE} {pos : Pos}
theorem de_neg (ha : DE X W a ta) : DE X W (.UnaryOp .USub a pos) (dUn oNeg ta) :=
  (pe_un un_neg ha).imp fun σ H Q ⟨σd, M, R, Ex, er, mr, q, f, fx⟩ => lift_bind er mr q fx fun v H1 M1 x e1 mr1 rx q1 => by
    cases x <;> first | exact False.elim q1 | skip
    cases rx; exact ⟨_, rfl, (f.ext e1).int mr1 q1⟩

/-! ### subscripts -/
def oIdx : DOp2 := fun x y M R => match y with
  | .int i => match x with
    | .str z => ∃ c, z.length ≤ sizeLine ∧ atI z.cps.toList i = some c ∧ R (.str ⟨#[c]⟩) M
    | x => ∃ ds d, isS M x = some ds ∧ atI ds i = some d ∧ R d M
  | _ => False
theorem Reps.atI {H : Hp} {M : DM} {ds : List D} {vs : List V} {i : Int} {d : D} (r : Reps K H M ds vs) (h : L2.atI ds i = some d) : ∃ v, L2.atI vs i = some v ∧ Rep K H M d v := by
  unfold L2.atI at h ⊢
  rw [r.len] at h
  cases e : ixN vs.length i with
  | none => rw [e] at h; cases h
  | some j => rw [e] at h; exact r.get h
theorem ok_idx : OpOk K (rIx K) oIdx := by
  intro x y vx vy H M R Q rx ry mr h f
  cases y <;> first | exact h.elim | skip
  rename_i i
  cases ry
  have go : (∃ ds d, isS M x = some ds ∧ atI ds i = some d ∧ R d M) → rIx K vx (.int i) H Q := by
    rintro ⟨ds, d, h1, h2, h3⟩
    rcases isS_cases h1 with h1 | h1
    · obtain ⟨p, ws, e, s, q⟩ := sqL_of rx mr h1
      obtain ⟨v, e2, r2⟩ := q.atI h2
      exact .inl ⟨p, ws, i, v, e, rfl, s, e2, f.same mr r2 h3⟩
    · obtain ⟨p, ws, e, s, q⟩ := sqT_of rx h1
      obtain ⟨v, e2, r2⟩ := q.atI h2
      exact .inr (.inl ⟨p, ws, i, v, e, rfl, s, e2, f.same mr r2 h3⟩)
  cases x with
  | str z =>
    cases rx
    obtain ⟨c, h1, h2, h3⟩ := h
    exact .inr (.inr ⟨z, i, c, rfl, rfl, h1, h2, f.str mr h3⟩)
  | _ => exact go h
theorem de_idx (ha : DE X W a ta) (hb : DE X W b tb) (hs : PlainIx b) : DE X W (.Subscript a b pos) (dOp oIdx ta tb) := (pe_ix ix_seq ha hb hs).imp (tOp_of ok_idx)

/-! ### arguments -/
def dNil : DTA := fun _ M R _ => R [] M
def dCons (ta : DTE) (tr : DTA) : DTA := fun σ M R Ex => ta σ M (fun x M1 => tr σ M1 (fun xs M2 => R (x :: xs) M2) Ex) Ex
theorem da_nil : DA X W [] dNil := pa_nil.imp fun σ H Q ⟨σd, M, R, Ex, er, mr, q, f, fx⟩ => f [] H M [] .refl mr .nil q
theorem da_cons {e : Expr} {es : List Expr} {te : DTE} {t : DTA} (ha : DE X W e te) (hr : DA X W es t) (hs : starEach (e :: es) X.env = (false, eval e X.env) :: starEach es X.env) : DA X W (e :: es) (dCons te t) :=
  (pa_cons ha hr hs).imp fun σ H Q ⟨σd, M, R, Ex, er, mr, q, f, fx⟩ => lift_bind er mr q fx fun v H1 M1 x e1 mr1 rx q1 =>
    ⟨σd, M1, _, Ex, er.ext e1 mr, mr1, q1, fun vs H2 M2 xs e2 mr2 rxs q2 => f _ H2 M2 (x :: xs) (e1.trans e2) mr2 (.cons (rx.ext e2 mr1) rxs) q2, fx.ext e1⟩
def dTup (t : DTA) : DTE := fun σ M R Ex => t σ M (fun xs M1 => xs.length ≤ sizeLine ∧ R (.tup xs) M1) Ex
def dLst (t : DTA) : DTE := fun σ M R Ex => t σ M (fun xs M1 => xs.length ≤ sizeLine ∧ ∀ p, M1 p = none → R (.ref p) (updM M1 p (.lst xs))) Ex
variable {es : List Expr} {t : DTA}
theorem de_tup {k} (h : DA X W es t) : DE X W (.Tuple es k pos) (dTup t) :=
  (pe_tup h).imp fun σ H Q ⟨σd, M, R, Ex, er, mr, q, f, fx⟩ => ⟨σd, M, _, Ex, er, mr, q, fun vs H1 M1 xs e1 mr1 rx q1 => ⟨by rw [← rx.len]; exact q1.1, fun p hp => (f.ext e1).newT mr1 rx q1.2 hp⟩, fx⟩
theorem de_lst (h : DA X W es t) : DE X W (.List es pos) (dLst t) :=
  (pe_lst h).imp fun σ H Q ⟨σd, M, R, Ex, er, mr, q, f, fx⟩ => ⟨σd, M, _, Ex, er, mr, q, fun vs H1 M1 xs e1 mr1 rx q1 => ⟨by rw [← rx.len]; exact q1.1, fun p hp => (f.ext e1).newL mr1 rx q1.2 hp⟩, fx⟩

/-! ### built-ins by name -/
abbrev DCall := List D → DM → DK → Prop
def COk (K : PySem.W.Frag) (r : List V → Hp → VK → Prop) (t : DCall) : Prop := ∀ ds vs H M R Q, Reps K H M ds vs → MR K H M → t ds M R → Fwd K H M R Q → r vs H Q
def dCall (c : DCall) (t : DTA) : DTE := fun σ M R Ex => t σ M (fun xs M1 => c xs M1 R) Ex
theorem tCB_of {r : List V → Hp → VK → Prop} {c : DCall} (ok : COk X.K r c) : ∀ σ H Q, lift X.K W (dCall c t) σ H Q → tCB r (liftA X.K W t) σ H Q := fun σ H Q ⟨σd, M, R, Ex, er, mr, q, f, fx⟩ =>
  ⟨σd, M, _, Ex, er, mr, q, fun vs H1 M1 xs e1 mr1 rx q1 => ok xs vs H1 M1 R Q rx mr1 q1 (f.ext e1), fx⟩
def cLen : DCall := fun xs M R => match xs with
  | [.str z] => z.length ≤ sizeLine ∧ R (.int z.length) M
  | [x] => ∃ ds, isS M x = some ds ∧ R (.int ds.length) M
  | _ => False
theorem ok_len : COk K (fun xs H Q => ∃ x n, xs = [x] ∧ LenV K x H n ∧ Q (.int n) H) cLen := by
  intro ds vs H M R Q r mr h f
  cases ds with
  | nil => exact h.elim
  | cons x xs =>
    cases xs with
    | cons _ _ => cases x <;> exact h.elim
    | nil =>
      obtain ⟨v, ws, e, rx, r0⟩ := r.inv
      have := r0.inv0; subst this; subst e
      have go : (∃ ds, isS M x = some ds ∧ R (.int ds.length) M) → ∃ y n, [v] = [y] ∧ LenV K y H n ∧ Q (.int n) H := by
        rintro ⟨ds, h1, h2⟩
        rcases isS_cases h1 with h1 | h1
        · obtain ⟨p, ws, e, s, q⟩ := sqL_of rx mr h1
          subst e
          exact ⟨.ref p, _, rfl, .inl ⟨ws, s, rfl⟩, by rw [← q.len]; exact f.int mr h2⟩
        · obtain ⟨p, ws, e, s, q⟩ := sqT_of rx h1
          subst e
          exact ⟨.ref p, _, rfl, .inr ⟨ws, s, rfl⟩, by rw [← q.len]; exact f.int mr h2⟩
      cases x with
      | str z => cases rx; exact ⟨_, _, rfl, ⟨h.1, rfl⟩, f.int mr h.2⟩
      | _ => exact go h
def cAbs : DCall := fun xs M R => match xs with
  | [.int i] => R (.int (if i < 0 then -i else i)) M
  | _ => False
def cMax2 : DCall := fun xs M R => match xs with
  | [.int i, .int j] => R (.int (if j > i then j else i)) M
  | _ => False
def cMin2 : DCall := fun xs M R => match xs with
  | [.int i, .int j] => R (.int (if j < i then j else i)) M
  | _ => False
def cInt : DCall := fun xs M R => match xs with
  | [.int i] => R (.int i) M
  | [.bl b] => R (.int (if b then 1 else 0)) M
  | _ => False
def cList : DCall := fun xs M R => match xs with
  | [x] => ∃ ds, isS M x = some ds ∧ ∀ p, M p = none → R (.ref p) (updM M p (.lst ds))
  | _ => False
def cTuple : DCall := fun xs M R => match xs with
  | [x] => ∃ ds, isS M x = some ds ∧ R (.tup ds) M
  | _ => False
theorem Reps.inv1 {H : Hp} {M : DM} {x : D} {vs : List V} (r : Reps K H M [x] vs) : ∃ v, vs = [v] ∧ Rep K H M x v := by
  obtain ⟨v, ws, e, rx, r0⟩ := r.inv
  have := r0.inv0; subst this; exact ⟨v, e, rx⟩
theorem Reps.inv2 {H : Hp} {M : DM} {x y : D} {vs : List V} (r : Reps K H M [x, y] vs) : ∃ v w, vs = [v, w] ∧ Rep K H M x v ∧ Rep K H M y w := by
  obtain ⟨v, ws, e, rx, r0⟩ := r.inv
  obtain ⟨w, e1, ry⟩ := r0.inv1
  subst e1; exact ⟨v, w, e, rx, ry⟩
theorem one_of {ds : List D} {P : D → Prop} (h : match ds with | [x] => P x | _ => False) : ∃ x, ds = [x] ∧ P x := by
  match ds, h with
  | [x], h => exact ⟨x, rfl, h⟩
theorem ok_abs : COk K (fun xs H Q => ∃ i, xs = [.int i] ∧ Q (.int (if i < 0 then -i else i)) H) cAbs := by
  intro ds vs H M R Q r mr h f
  unfold cAbs at h
  split at h
  · obtain ⟨v, e, rx⟩ := r.inv1; cases rx; exact ⟨_, e, f.int mr h⟩
  · exact h.elim
theorem ok_max2 : COk K (fun xs H Q => ∃ i j, xs = [.int i, .int j] ∧ Q (.int (if j > i then j else i)) H) cMax2 := by
  intro ds vs H M R Q r mr h f
  unfold cMax2 at h
  split at h
  · obtain ⟨v, w, e, rx, ry⟩ := r.inv2; cases rx; cases ry; exact ⟨_, _, e, f.int mr h⟩
  · exact h.elim
theorem ok_min2 : COk K (fun xs H Q => ∃ i j, xs = [.int i, .int j] ∧ Q (.int (if j < i then j else i)) H) cMin2 := by
  intro ds vs H M R Q r mr h f
  unfold cMin2 at h
  split at h
  · obtain ⟨v, w, e, rx, ry⟩ := r.inv2; cases rx; cases ry; exact ⟨_, _, e, f.int mr h⟩
  · exact h.elim
theorem ok_int : COk K (fun xs H Q => (∃ i, xs = [.int i] ∧ Q (.int i) H) ∨ ∃ k, xs = [.bl k] ∧ Q (.int (if k then 1 else 0)) H) cInt := by
  intro ds vs H M R Q r mr h f
  unfold cInt at h
  split at h
  · obtain ⟨v, e, rx⟩ := r.inv1; cases rx; exact .inl ⟨_, e, f.int mr h⟩
  · obtain ⟨v, e, rx⟩ := r.inv1; cases rx; exact .inr ⟨_, e, f.int mr h⟩
  · exact h.elim
theorem ok_list : COk K (fun xs H Q => ∃ p ys, xs = [.ref p] ∧ (SqL K H p ys ∨ SqT K H p ys) ∧ ∀ l, H l = none → Q (.ref l) (upd H l (.lst ys))) cList := by
  intro ds vs H M R Q r mr h f
  unfold cList at h
  split at h
  · obtain ⟨v, e, rx⟩ := r.inv1
    obtain ⟨es, h1, h2⟩ := h
    rcases isS_cases h1 with h1 | h1
    · obtain ⟨p, ws, e1, s, q⟩ := sqL_of rx mr h1
      subst e1
      exact ⟨p, ws, e, .inl s, fun l hl => f.newL mr q h2 hl⟩
    · obtain ⟨p, ws, e1, s, q⟩ := sqT_of rx h1
      subst e1
      exact ⟨p, ws, e, .inr s, fun l hl => f.newL mr q h2 hl⟩
  · exact h.elim
theorem ok_tuple : COk K (fun xs H Q => ∃ p ys, xs = [.ref p] ∧ ((SqL K H p ys ∧ ∀ l, H l = none → Q (.ref l) (upd H l (.tup ys))) ∨ (SqT K H p ys ∧ Q (.ref p) H))) cTuple := by
  intro ds vs H M R Q r mr h f
  unfold cTuple at h
  split at h
  · obtain ⟨v, e, rx⟩ := r.inv1
    obtain ⟨es, h1, h2⟩ := h
    rcases isS_cases h1 with h1 | h1
    · obtain ⟨p, ws, e1, s, q⟩ := sqL_of rx mr h1
      subst e1
      exact ⟨p, ws, e, .inl ⟨s, fun l hl => f.newT mr q h2 hl⟩⟩
    · obtain ⟨p, ws, e1, s, q⟩ := sqT_of rx h1
      subst e1
      exact ⟨p, ws, e, .inr ⟨s, f.same mr (by unfold Rep; exact ⟨p, ws, rfl, s, q⟩) h2⟩⟩
  · exact h.elim
end
end LD
end

section
set_option maxRecDepth 100000
set_option maxHeartbeats 1000000
namespace LD
open PySem PySem.Spec PyProof.Rows L2
/-! ### shapes of the text -/
def notStar : Expr → Bool
  | .Starred _ _ => false
  | _ => true
theorem starEach_ns {e : Expr} {es : List Expr} {env : Env} (h : notStar e = true) : starEach (e :: es) env = (false, eval e env) :: starEach es env := by
  cases e <;> first | rfl | cases h
theorem plain_args {env : Env} {pos : Pos} : ∀ {es : List Expr}, es.all notStar = true → (backTo pos (starEach es env)).any (·.1) = false
  | [], _ => rfl
  | e :: es, h => by
    simp only [List.all_cons, Bool.and_eq_true] at h
    rw [starEach_ns h.1]
    show (false || _) = false
    rw [Bool.false_or]
    exact plain_args (es := es) h.2
theorem noStar_all {env : Env} {pos : Pos} : ∀ {es : List Expr}, es.all notStar = true → (backTo pos (starEach es env)).all (!·.1) = true
  | [], _ => rfl
  | e :: es, h => by
    simp only [List.all_cons, Bool.and_eq_true] at h
    rw [starEach_ns h.1]
    show (true && _) = true
    rw [Bool.true_and]
    exact noStar_all (es := es) h.2
theorem kwNames_all {env : Env} {pos : Pos} : ∀ {ks : List Keyword}, ks.all (·.arg.isSome) = true → (backToKw pos (keywordEach ks env)).all (·.1.isSome) = true
  | [], _ => rfl
  | ⟨n, v, p⟩ :: ks, h => by
    simp only [List.all_cons, Bool.and_eq_true] at h
    show (n.isSome && (backToKw pos (keywordEach ks env)).all (·.1.isSome)) = true
    rw [h.1, Bool.true_and]
    exact kwNames_all (ks := ks) h.2
def plainBase : Expr → Bool
  | .Call (.Name _ _) [] [] _ => false
  | _ => true
theorem attrBase {o : Expr} {f : Str} {env : Env} (h : plainBase o = true) : attributeBase o f env (eval o env) = eval o env := by
  unfold attributeBase
  split
  · cases h
  · rfl
theorem meth_shape {o : Expr} {args : List Expr} {kws : List Keyword} {m : Str} {apos pos : Pos} {env : Env} (hb : attributeBase o m env (eval o env) = eval o env) (hl : (apos.endLine == pos.line) = true)
    (hf : args.all notStar = true) (hn : (decide (args.length + kws.length + (if kws.isEmpty then 0 else 1) < 30)) = true) (hk : kws.all (·.arg.isSome) = true) : eval (.Call (.Attribute o m apos) args kws pos) env = (do
      let ov ← eval o env
      standAt apos.atName
      let (f, first) ← holding [ov] (getMethod ov m (do return (← importBound o env).getD true))
      callWith pos f first (backTo pos (starEach args env)) (backToKw pos (keywordEach kws env))) := by
  show (do
    let ov ← attributeBase o m env (eval o env)
    standAt apos.atName
    methodCall o m apos pos env ov (args.length + kws.length) (backTo pos (starEach args env)) (backToKw pos (keywordEach kws env))) = _
  rw [hb]
  unfold methodCall
  have e : methodCallForm (args.length + kws.length) (backTo pos (starEach args env)) (backToKw pos (keywordEach kws env)) = true := by
    unfold methodCallForm
    rw [Bool.and_eq_true, Bool.and_eq_true]
    refine ⟨⟨noStar_all hf, kwNames_all hk⟩, ?_⟩
    have : (backToKw pos (keywordEach kws env)).isEmpty = kws.isEmpty := by
      cases kws with
      | nil => rfl
      | cons k ks => obtain ⟨n, v, p⟩ := k; rfl
    rw [this]; exact hn
  rw [e]
  have e2 : methodCallPos true o env apos pos = pure pos := by
    unfold methodCallPos
    simp only [hl]
    rfl
  rw [e2]
  rfl
def noComp : Expr → Bool
  | .ListComp .. => false
  | .SetComp .. => false
  | .DictComp .. => false
  | _ => true
theorem swaps_no {e : Expr} {t : Option Expr} {l : Nat} {env : Env} (h : noComp e = true) : swapsWith e t l env = pure false := by
  cases e <;> first | rfl | cases h
theorem swaps_sub {e : Expr} {a b : Expr} {p : Pos} {l : Nat} {env : Env} : swapsWith e (some (.Subscript a b p)) l env = pure false := by
  cases e <;> rfl
def plainTest : Expr → Bool
  | .BoolOp .. => false
  | .UnaryOp .Not _ _ => false
  | .Compare .. => false
  | .IfExp .. => false
  | .NamedExpr .. => false
  | _ => true
theorem isTrue_plain {e : Expr} {env : Env} (h : plainTest e = true) :
    ∀ whole, isTrue e env whole = (do let v ← whole; standAt e.pos; holding [v] (truthy v)) := by
  intro whole
  cases e <;> first | rfl | cases h | skip
  rename_i op _ _
  cases op <;> first | rfl | cases h
def plainIxB : Expr → Bool
  | .Slice .. => false
  | _ => true
theorem plainIx_of {b : Expr} (h : plainIxB b = true) : PlainIx b := by
  intro o i
  cases b <;> first | rfl | cases h

/-! ### tests -/
section
variable {X : Cx} {W : WX} {a b c : Expr} {ta tb tc : DTE} {ua ub : DTT} {pos : Pos}
theorem liftT_bind {K : PySem.W.Frag} {σ : L2.St} {H : Hp} {ta : DTT} {σd : DSt} {M : DM} {R : Bool → DM → Prop} {Ex : DX} {Q : Bool → Hp → Prop} (er : EnvR K H M σd σ) (mr : MR K H M) (h : ta σd M R Ex) (fx : FwdX K H M Ex (WE W σ))
    (k : ∀ b H' M', Ext H M H' M' → MR K H' M' → R b M' → Q b H') : liftT K W ta σ H Q := ⟨σd, M, R, Ex, er, mr, h, k, fx⟩
/-- a value's truth -/
def truD (M : DM) (d : D) : Option Bool := match d with
  | .non => some false
  | .bl b => some b
  | .int i => some (i != 0)
  | .str y => if y.length ≤ sizeLine then some ((y.length : Int) != 0) else none
  | d => match isS M d with
    | some ds => some !ds.isEmpty
    | none => none
def tTru (ta : DTE) : DTT := fun σ M R Ex => ta σ M (fun x M1 => ∃ k, truD M1 x = some k ∧ R k M1) Ex
theorem isEmpty_reps {K : PySem.W.Frag} {H : Hp} {M : DM} {ds : List D} {vs : List V} (r : Reps K H M ds vs) : ds.isEmpty = vs.isEmpty := by
  have := r.len
  cases ds <;> cases vs <;> first | rfl | simp at this
theorem tru_of {K : PySem.W.Frag} {H : Hp} {M : DM} {d : D} {v : V} {k : Bool} (r : Rep K H M d v) (mr : MR K H M) (h : truD M d = some k) : TruV K v H k := by
  have go : isS M d = none ∨ ∃ ds, isS M d = some ds ∧ (some (!ds.isEmpty) = some k → TruV K v H k) := by
    cases e : isS M d with
    | none => exact .inl rfl
    | some ds =>
      refine .inr ⟨ds, rfl, fun q => ?_⟩
      cases q
      rcases isS_cases e with e | e
      · obtain ⟨p, vs, e1, s, q⟩ := sqL_of r mr e
        subst e1
        exact .inl ⟨vs, s, by rw [isEmpty_reps q]⟩
      · obtain ⟨p, vs, e1, s, q⟩ := sqT_of r e
        subst e1
        exact .inr (.inl ⟨vs, s, by rw [isEmpty_reps q]⟩)
  cases d with
  | non => cases r; cases h; rfl
  | bl b => cases r; cases h; rfl
  | int i => cases r; cases h; rfl
  | str y =>
    cases r
    unfold truD at h
    simp only at h
    split at h
    · cases h; rename_i q; exact ⟨q, rfl⟩
    · cases h
  | _ =>
    unfold truD at h
    simp only at h
    rcases go with e | ⟨ds, e, f⟩
    · rw [e] at h; cases h
    · rw [e] at h; exact f h
theorem dt_tru (ha : DE X W a ta) (hp : ∀ whole, isTrue a X.env whole = (do let v ← whole; standAt a.pos; holding [v] (truthy v))) : DT X W a (tTru ta) :=
  (pt_truth ha hp).imp fun σ H Q ⟨σd, M, R, Ex, er, mr, q, f, fx⟩ => lift_bind er mr q fx fun v H1 M1 x e1 mr1 rx ⟨k, h1, h2⟩ => ⟨k, tru_of rx mr1 h1, f k H1 M1 e1 mr1 h2⟩
/-- a test by a comparison -/
def tBl (ta : DTE) : DTT := fun σ M R Ex => ta σ M (fun x M1 => ∃ k, x = .bl k ∧ R k M1) Ex
theorem dt_cmp {op : CmpOp} {r : R2} {t : DOp2} (ho : OpR X (compareOp op) r) (ok : OpOk X.K r t) (ha : DE X W a ta) (hb : DE X W b tb) (hm : behindInMarks op b = false) : DT X W (.Compare a [op] [b] pos) (tBl (dOp t ta tb)) :=
  (pt_cmpR ho ha hb hm).imp fun σ H Q ⟨σd, M, R, Ex, er, mr, q, f, fx⟩ => tOp_of ok σ H _ ⟨σd, M, _, Ex, er, mr, q, fun v H1 M1 d e1 mr1 rd ⟨k, h1, h2⟩ => by
    subst h1; cases rd; exact ⟨k, rfl, f k H1 M1 e1 mr1 h2⟩, fx⟩
/-- a chain of two comparisons -/
def dChain (t t' : DOp2) (ta tb tc : DTE) : DTE := fun σ M R Ex => ta σ M (fun x M1 => tb σ M1 (fun y M2 => t x y M2 fun z M3 => ∃ k, z = .bl k ∧ if k = true then tc σ M3 (fun w M4 => t' y w M4 R) Ex else R (.bl false) M3) Ex) Ex
end
end LD
end

section
set_option maxRecDepth 100000
set_option maxHeartbeats 1000000
namespace LD
open PySem PySem.Spec PyProof.Rows L2
section
variable {X : Cx} {W : WX} {a b c e o : Expr} {es rest : List Expr} {ta tb tc : DTE} {ua ub : DTT} {t : DTA} {pos p apos : Pos}
/-! ### chains, and, or, not, if -/
theorem tChain_of {r r' : R2} {t t' : DOp2} (ok : OpOk X.K r t) (ok' : OpOk X.K r' t') : ∀ σ H Q, lift X.K W (dChain t t' ta tb tc) σ H Q → tChain r r' (lift X.K W ta) (lift X.K W tb) (lift X.K W tc) σ H Q := fun σ H Q ⟨σd, M, R, Ex, er, mr, q, f, fx⟩ =>
  lift_bind er mr q fx fun v H1 M1 x e1 mr1 rx q1 => lift_bind (er.ext e1 mr) mr1 q1 (fx.ext e1) fun w H2 M2 y e2 mr2 ry q2 =>
    ok x y v w H2 M2 _ _ (rx.ext e2 mr1) ry mr2 q2 fun z H3 M3 zd e3 mr3 rz ⟨k, hk, q3⟩ => by
      subst hk; cases rz
      refine ⟨k, rfl, ?_⟩
      have e03 := (e1.trans e2).trans e3
      cases k with
      | false => exact (f.ext e03).bl mr3 q3
      | true => exact lift_bind (er.ext e03 mr) mr3 q3 (fx.ext e03) fun w' H4 M4 wd e4 mr4 rw q4 => ok' y wd w w' H4 M4 R Q ((ry.ext e3 mr2).ext e4 mr3) rw mr4 q4 (f.ext (e03.trans e4))
theorem de_chain {op op' : CmpOp} {r r' : R2} {t t' : DOp2} (ho : OpR X (compareOp op) r) (ok : OpOk X.K r t) (ho' : OpR X (compareOp op') r') (ok' : OpOk X.K r' t') (ha : DE X W a ta) (hb : DE X W b tb) (hc : DE X W c tc)
    (hm : lastMarks [op, op'] [b, c] = false) : DE X W (.Compare a [op, op'] [b, c] pos) (dChain t t' ta tb tc) := (pe_chain ho ho' ha hb hc hm).imp (tChain_of ok ok')
theorem dt_chain {op op' : CmpOp} {r r' : R2} {t t' : DOp2} (ho : OpR X (compareOp op) r) (ok : OpOk X.K r t) (ho' : OpR X (compareOp op') r') (ok' : OpOk X.K r' t') (ha : DE X W a ta) (hb : DE X W b tb) (hc : DE X W c tc)
    (hm : lastMarks [op, op'] [b, c] = false) : DT X W (.Compare a [op, op'] [b, c] pos) (tBl (dChain t t' ta tb tc)) :=
  (pt_chain ho ho' ha hb hc hm).imp fun σ H Q ⟨σd, M, R, Ex, er, mr, q, f, fx⟩ => tChain_of ok ok' σ H _ ⟨σd, M, _, Ex, er, mr, q, fun v H1 M1 d e1 mr1 rd ⟨k, h1, h2⟩ => by
    subst h1; cases rd; exact ⟨k, rfl, f k H1 M1 e1 mr1 h2⟩, fx⟩
abbrev DW (X : Cx) (W : WX) (e : Expr) (t : DTT) : Prop := PW X e (liftT X.K W t)
def tAndD (u v : DTT) : DTT := fun σ M R Ex => u σ M (fun k M1 => if k = true then v σ M1 R Ex else R false M1) Ex
def tOrD (u v : DTT) : DTT := fun σ M R Ex => u σ M (fun k M1 => if k = true then R true M1 else v σ M1 R Ex) Ex
def tNotD (u : DTT) : DTT := fun σ M R Ex => u σ M (fun k M1 => R (!k) M1) Ex
theorem _root_.L2.PW.imp {X : Cx} {e : Expr} {t u : TT} (h : PW X e t) (i : ∀ σ H Q, u σ H Q → t σ H Q) : PW X e u := ⟨fun wh pins s σ H Q I q => h.run wh pins s σ H Q I (i σ H Q q)⟩
theorem dw_and (ha : DT X W a ua) (hb : DW X W (.BoolOp .And (b :: rest) pos) ub) : DW X W (.BoolOp .And (a :: b :: rest) pos) (tAndD ua ub) :=
  (pw_and ha hb).imp fun σ H Q ⟨σd, M, R, Ex, er, mr, q, f, fx⟩ => liftT_bind er mr q fx fun k H1 M1 e1 mr1 q1 => by
    cases k with
    | false => exact f _ H1 M1 e1 mr1 q1
    | true => exact ⟨σd, M1, R, Ex, er.ext e1 mr, mr1, q1, fun b H2 M2 e2 => f b H2 M2 (e1.trans e2), fx.ext e1⟩
theorem dw_or (ha : DT X W a ua) (hb : DW X W (.BoolOp .Or (b :: rest) pos) ub) : DW X W (.BoolOp .Or (a :: b :: rest) pos) (tOrD ua ub) :=
  (pw_or ha hb).imp fun σ H Q ⟨σd, M, R, Ex, er, mr, q, f, fx⟩ => liftT_bind er mr q fx fun k H1 M1 e1 mr1 q1 => by
    cases k with
    | true => exact f _ H1 M1 e1 mr1 q1
    | false => exact ⟨σd, M1, R, Ex, er.ext e1 mr, mr1, q1, fun b H2 M2 e2 => f b H2 M2 (e1.trans e2), fx.ext e1⟩
theorem dt_not (ha : DT X W a ua) : DT X W (.UnaryOp .Not a pos) (tNotD ua) :=
  (pt_not ha).imp fun σ H Q ⟨σd, M, R, Ex, er, mr, q, f, fx⟩ => liftT_bind er mr q fx fun k H1 M1 e1 mr1 q1 => f _ H1 M1 e1 mr1 q1
/-- and, or, not of truth values -/
def dAndV (ta tb : DTE) : DTE := fun σ M R Ex => ta σ M (fun x M1 => ∃ c, x = .bl c ∧ if c = true then tb σ M1 R Ex else R (.bl false) M1) Ex
def dOrV (ta tb : DTE) : DTE := fun σ M R Ex => ta σ M (fun x M1 => ∃ c, x = .bl c ∧ if c = true then R (.bl true) M1 else tb σ M1 R Ex) Ex
def dNotV (ta : DTE) : DTE := fun σ M R Ex => ta σ M (fun x M1 => ∃ c, x = .bl c ∧ R (.bl (!c)) M1) Ex
theorem de_one {op} (h : DE X W a ta) : DE X W (.BoolOp op [a] pos) ta := pe_one h
theorem de_and (ha : DE X W a ta) (hb : DE X W (.BoolOp .And (b :: rest) pos) tb) : DE X W (.BoolOp .And (a :: b :: rest) pos) (dAndV ta tb) :=
  (pe_and ha hb).imp fun σ H Q ⟨σd, M, R, Ex, er, mr, q, f, fx⟩ => lift_bind er mr q fx fun v H1 M1 x e1 mr1 rx ⟨k, hk, q1⟩ => by
    subst hk; cases rx
    refine ⟨k, rfl, ?_⟩
    cases k with
    | false => exact (f.ext e1).bl mr1 q1
    | true => exact ⟨σd, M1, R, Ex, er.ext e1 mr, mr1, q1, f.ext e1, fx.ext e1⟩
theorem de_or (ha : DE X W a ta) (hb : DE X W (.BoolOp .Or (b :: rest) pos) tb) : DE X W (.BoolOp .Or (a :: b :: rest) pos) (dOrV ta tb) :=
  (pe_or ha hb).imp fun σ H Q ⟨σd, M, R, Ex, er, mr, q, f, fx⟩ => lift_bind er mr q fx fun v H1 M1 x e1 mr1 rx ⟨k, hk, q1⟩ => by
    subst hk; cases rx
    refine ⟨k, rfl, ?_⟩
    cases k with
    | true => exact (f.ext e1).bl mr1 q1
    | false => exact ⟨σd, M1, R, Ex, er.ext e1 mr, mr1, q1, f.ext e1, fx.ext e1⟩
theorem de_not (ha : DE X W a ta) : DE X W (.UnaryOp .Not a pos) (dNotV ta) :=
  (pe_not ha).imp fun σ H Q ⟨σd, M, R, Ex, er, mr, q, f, fx⟩ => lift_bind er mr q fx fun v H1 M1 x e1 mr1 rx ⟨k, hk, q1⟩ => by
    subst hk; cases rx
    exact ⟨k, rfl, (f.ext e1).bl mr1 q1⟩
def dIf (u : DTT) (ta tb : DTE) : DTE := fun σ M R Ex => u σ M (fun k M1 => if k = true then ta σ M1 R Ex else tb σ M1 R Ex) Ex
theorem de_if (hc : DT X W c ua) (ha : DE X W a ta) (hb : DE X W b tb) : DE X W (.IfExp c a b pos) (dIf ua ta tb) :=
  (pe_ifExp hc ha hb).imp fun σ H Q ⟨σd, M, R, Ex, er, mr, q, f, fx⟩ => liftT_bind er mr q fx fun k H1 M1 e1 mr1 q1 => by
    cases k with
    | true => exact ⟨σd, M1, R, Ex, er.ext e1 mr, mr1, q1, f.ext e1, fx.ext e1⟩
    | false => exact ⟨σd, M1, R, Ex, er.ext e1 mr, mr1, q1, f.ext e1, fx.ext e1⟩

/-! ### from now on a standing thing -/
def dFrz (ta : DTE) : DTE := fun σ M R Ex => ta σ M (fun d M1 => match d with
  | .ref a => match M1 a with
    | some (.lst ds) => R (.lst ds) (delM M1 a)
    | some (.ins C ns ds) => R (.obj C ns ds) (delM M1 a)
    | none => False
  | d => R d M1) Ex
theorem de_frz (ha : DE X W a ta) : DE X W a (dFrz ta) :=
  ha.imp fun σ H Q ⟨σd, M, R, Ex, er, mr, q, f, fx⟩ => lift_bind er mr q fx fun v H1 M1 x e1 mr1 rx q1 => by
    cases x with
    | ref p =>
      cases rx
      simp only at q1
      cases h : M1 p with
      | none => simp only [h] at q1
      | some m =>
        cases m with
        | lst ds =>
          simp only [h] at q1
          obtain ⟨vs, h1, r1⟩ := mr1 p _ h
          exact f (.ref p) H1 (delM M1 p) (.lst ds) (e1.trans Ext.froze) mr1.froze (by unfold Rep; exact ⟨p, vs, rfl, delM_same, h1, r1.ext Ext.froze mr1⟩) q1
        | ins C ns ds =>
          simp only [h] at q1
          obtain ⟨dx, vs, h1, l1, r1⟩ := mr1 p _ h
          exact f (.ref p) H1 (delM M1 p) (.obj C ns ds) (e1.trans Ext.froze) mr1.froze (by unfold Rep; exact ⟨p, dx, vs, rfl, delM_same, h1, l1, r1.ext Ext.froze mr1⟩) q1
    | _ => exact f v H1 M1 _ e1 mr1 rx q1

/-! ### arguments with keywords -/
def DKw (X : Cx) (W : WX) (kws : List Keyword) (t : DTA) : Prop := PK X kws (liftA X.K W t)
theorem _root_.L2.PK.imp {X : Cx} {es : List Keyword} {t u : TA} (h : PK X es t) (i : ∀ σ H Q, u σ H Q → t σ H Q) : PK X es u := ⟨fun pos pins s σ H Q I q => h.run pos pins s σ H Q I (i σ H Q q)⟩
theorem dk_nil : DKw X W [] dNil := pk_nil.imp fun σ H Q ⟨σd, M, R, Ex, er, mr, q, f, fx⟩ => f [] H M [] .refl mr .nil q
theorem dk_cons {nm : Option Str} {kpos : Pos} {kws : List Keyword} {te : DTE} (ha : DE X W e te) (hr : DKw X W kws t) : DKw X W (⟨nm, e, kpos⟩ :: kws) (dCons te t) :=
  (pk_cons ha hr).imp fun σ H Q ⟨σd, M, R, Ex, er, mr, q, f, fx⟩ => lift_bind er mr q fx fun v H1 M1 x e1 mr1 rx q1 =>
    ⟨σd, M1, _, Ex, er.ext e1 mr, mr1, q1, fun vs H2 M2 xs e2 mr2 rxs q2 => f _ H2 M2 (x :: xs) (e1.trans e2) mr2 (.cons (rx.ext e2 mr1) rxs) q2, fx.ext e1⟩
theorem kwNone_all {env : Env} {pos : Pos} : ∀ {ks : List Keyword}, ks.all (·.arg.isSome) = true → (backToKw pos (keywordEach ks env)).any (·.1.isNone) = false
  | [], _ => rfl
  | ⟨n, v, p⟩ :: ks, h => by
    simp only [List.all_cons, Bool.and_eq_true] at h
    show (n.isNone || (backToKw pos (keywordEach ks env)).any (·.1.isNone)) = false
    rw [kwNone_all (ks := ks) h.2]
    cases n <;> first | rfl | cases h.1
theorem kwNames {env : Env} {pos : Pos} : ∀ {ks : List Keyword}, (backToKw pos (keywordEach ks env)).filterMap (·.1) = ks.filterMap (·.arg)
  | [] => rfl
  | ⟨n, v, p⟩ :: ks => by
    show ((n, _) :: backToKw pos (keywordEach ks env)).filterMap (·.1) = _
    rw [List.filterMap_cons, List.filterMap_cons, kwNames (ks := ks)]
def dArgs (t tk : DTA) : DTA := fun σ M R Ex => t σ M (fun xs M1 => tk σ M1 (fun zs M2 => R (xs ++ zs) M2) Ex) Ex
/-- what the callee is handed -/
theorem args_kw {f : Value} {first : List Value} {kws : List Keyword} {tk : DTA} {pins : List (Addr × Obj)} {s : Shared} {σ : L2.St} {H : Hp} {Q : Value → Shared → Prop} {R : List V → List V → Hp → Prop} (I : Inv X pins σ H s) (hk : PySem.W.keepIn X.K f = true)
    (ha : DA X W es t) (hkw : DKw X W kws tk) (h0 : es = [] → t = dNil) (hs : es.all notStar = true) (hn : kws.all (·.arg.isSome) = true) (h : liftA X.K W t σ H fun vs H1 => liftA X.K W tk σ H1 fun zs H2 => R vs zs H2)
    (k : ∀ us ws s2 H2 vs zs, Inv X pins σ H2 s2 → Vals vs us → Vals zs ws → R vs zs H2 → wpAny (model X.prog X.w) X.A (call f (first ++ us) ((kws.filterMap (·.arg)).zip ws)) Q X.xe s2) :
    wpAny (model X.prog X.w) X.A (callWith pos f first (backTo pos (starEach es X.env)) (backToKw pos (keywordEach kws X.env))) Q X.xe s := by
  have hkN : (backToKw pos (keywordEach kws X.env)).filterMap (·.1) = kws.filterMap (·.arg) := kwNames
  have hp : ((backTo pos (starEach es X.env)).any (·.1) || (backToKw pos (keywordEach kws X.env)).any (·.1.isNone)) = false := by
    rw [plain_args hs, kwNone_all hn]; rfl
  cases es with
  | nil =>
    refine PySem.W.callWith_KW0 (h₀ := X.base) I.ok.mod.kin hk (kwNames_all hn) ?_ hp
    rw [hkN]
    obtain ⟨σd, M, R', Ex, er, mr, q, fw, fx⟩ := h
    rw [h0 rfl] at q
    have q1 := fw [] H M [] .refl mr .nil q
    refine thn (hkw.run pos pins s σ H _ I q1) fun ws s2 ⟨zs, H2, I2, rz, q2⟩ => ⟨I2.kIn, ?_⟩
    exact k [] ws s2 H2 [] zs I2 .nil rz q2
  | cons e es =>
    simp only [List.all_cons, Bool.and_eq_true] at hs
    refine PySem.W.callWith_KW (h₀ := X.base) I.ok.mod.kin hk (kwNames_all hn) ?_ hp (starEach_ns hs.1)
    refine thn (ha.run pos pins s σ H _ I h) fun us s1 ⟨vs, H1, I1, r, q⟩ => ?_
    refine thn (hkw.run pos pins s1 σ H1 _ I1 q) fun ws s2 ⟨zs, H2, I2, rz, q2⟩ => ⟨I2.kIn, ?_⟩
    rw [hkN]
    exact k us ws s2 H2 vs zs I2 r rz q2
/-- how arguments and keywords bind -/
def KB (K : PySem.W.Frag) (fd : FuncData) (ps ks : List Str) : Prop := ∀ (s : Shared) (us ws : List Value), K.In s.heap → (us ++ ws).length = ps.length → ws.length = ks.length → BindsTo s fd ⟨us, ks.zip ws⟩ (ps.zip (us ++ ws))
theorem kb_nil {K : PySem.W.Frag} {fd : FuncData} {ps : List Str} (h : Binds K fd ps []) : KB K fd ps [] := fun s us ws hk hl hw => by
  cases ws with
  | cons _ _ => simp at hw
  | nil => exact h s us hk hl
/-! ### a def's promise where no guard stands around -/
structure FnG (P : Program) (w : World) (K : PySem.W.Frag) (mg : Str → Option Value) (base : Heap) (C : CXT) (k : Nat) (f : Addr) (fd : FuncData) (ps : List Str) (sp : Sp) : Prop where
  len : ∀ xs H Q E, sp xs H Q E → xs.length = ps.length
  run : ∀ (A : Around) (outer : List Env) (s : Shared) (H : Hp) (args : Args) (us : List Value) (vs : List V) (Q : VK) (E : XK), Room k A → A.guards = some [] → Env0 P w K mg base A outer s H → BindsTo s fd args (ps.zip us) → Vals vs us → sp vs H Q E →
    codeAny (model P w) A (.call (.ref f) args) (CR C outer P w H s Q E) s
/-! ### a def's promise, in the order in which a call hands the arguments in -/
structure FnS (P : Program) (w : World) (K : PySem.W.Frag) (mg : Str → Option Value) (base : Heap) (C : CXT) (k : Nat) (f : Addr) (ks : List Str) (sp : Sp) : Prop where
  run : ∀ (A : Around) (outer : List Env) (s : Shared) (H : Hp) (us ws : List Value) (vs zs : List V) (Q : VK) (E : XK), Room k A → A.guards = some [] → Env0 P w K mg base A outer s H → K.In s.heap → Vals vs us → Vals zs ws → zs.length = ks.length → sp (vs ++ zs) H Q E →
    codeAny (model P w) A (.call (.ref f) ⟨us, ks.zip ws⟩) (CR C outer P w H s Q E) s
theorem FnG.s {P : Program} {w : World} {K : PySem.W.Frag} {mg : Str → Option Value} {base : Heap} {C : CXT} {k : Nat} {f : Addr} {fd : FuncData} {ps ks : List Str} {sp : Sp} (F : FnG P w K mg base C k f fd ps sp) (hb : KB K fd ps ks) : FnS P w K mg base C k f ks sp :=
  ⟨fun A outer s H us ws vs zs Q E hr hgd e0 hk r rz hl h => by
    have r2 : Vals (vs ++ zs) (us ++ ws) := r.append rz
    have hl2 : (us ++ ws).length = ps.length := by rw [← r2.length]; exact F.len _ _ _ _ h
    exact F.run A outer s H ⟨us, ks.zip ws⟩ (us ++ ws) (vs ++ zs) Q E hr hgd e0 (hb s us ws hk hl2 (by rw [← rz.length]; exact hl)) r2 h⟩
/-- the things at these places -/
def pick {α : Type} : List Nat → List α → List α
  | [], _ => []
  | i :: g, xs => match xs[i]? with
    | some x => x :: pick g xs
    | none => pick g xs
theorem vals_get : ∀ {vs : List V} {us : List Value} {i : Nat} {v : V}, Vals vs us → vs[i]? = some v → ∃ u, us[i]? = some u ∧ RelV v u
  | _, _, _, _, .nil, h => by simp at h
  | _, _, 0, _, .cons r _, h => by simp at h; subst h; exact ⟨_, rfl, r⟩
  | _, _, i + 1, _, .cons _ r, h => by
    simp at h
    obtain ⟨u, hu, q⟩ := vals_get r h
    exact ⟨u, by simpa using hu, q⟩
theorem pick_vals {vs : List V} {us : List Value} (r : Vals vs us) : ∀ g : List Nat, Vals (pick g vs) (pick g us)
  | [] => .nil
  | i :: g => by
    have ih := pick_vals r g
    have hl := r.length
    unfold pick
    by_cases h : i < vs.length
    · obtain ⟨u, hu, ru⟩ := vals_get r (List.getElem?_eq_getElem h)
      rw [List.getElem?_eq_getElem h, hu]
      exact .cons ru ih
    · rw [List.getElem?_eq_none (by omega), List.getElem?_eq_none (by omega)]
      exact ih
theorem pick_reps {K : PySem.W.Frag} {H : Hp} {M : DM} {ds : List D} {vs : List V} (r : Reps K H M ds vs) : ∀ g : List Nat, Reps K H M (pick g ds) (pick g vs)
  | [] => .nil
  | i :: g => by
    have ih := pick_reps r g
    have hl := r.len
    unfold pick
    by_cases h : i < ds.length
    · obtain ⟨v, hv, rv⟩ := r.get (List.getElem?_eq_getElem h)
      rw [List.getElem?_eq_getElem h, hv]
      exact .cons rv ih
    · rw [List.getElem?_eq_none (by omega), List.getElem?_eq_none (by omega)]
      exact ih
/-- arguments by name, in another order -/
def KBp (K : PySem.W.Frag) (fd : FuncData) (ps ks : List Str) (g : List Nat) : Prop := ∀ (s : Shared) (us ws : List Value), K.In s.heap → (us ++ ws).length = ps.length → ws.length = ks.length → BindsTo s fd ⟨us, ks.zip ws⟩ (ps.zip (pick g (us ++ ws)))
theorem FnG.perm {P : Program} {w : World} {K : PySem.W.Frag} {mg : Str → Option Value} {base : Heap} {C : CXT} {k : Nat} {f : Addr} {fd : FuncData} {ps ks : List Str} {sp sp0 : DSp} {g : List Nat} (F : FnG P w K mg base C k f fd ps (liftSp K sp0)) (hb : KBp K fd ps ks g)
    (hs : ∀ ds M R Ex, sp ds M R Ex → ds.length = ps.length ∧ sp0 (pick g ds) M R Ex) : FnS P w K mg base C k f ks (liftSp K sp) :=
  ⟨fun A outer s H us ws vs zs Q E hr hgd e0 hk r rz hl h => by
    have r2 : Vals (vs ++ zs) (us ++ ws) := r.append rz
    obtain ⟨ds, M, R, Ex, rd, mr, q, fw, fx⟩ := h
    obtain ⟨h1, h2⟩ := hs ds M R Ex q
    have hl2 : (us ++ ws).length = ps.length := by rw [← r2.length, ← rd.len]; exact h1
    exact F.run A outer s H ⟨us, ks.zip ws⟩ (pick g (us ++ ws)) (pick g (vs ++ zs)) Q E hr hgd e0 (hb s us ws hk hl2 (by rw [← rz.length]; exact hl)) (pick_vals r2 g) ⟨pick g ds, M, R, Ex, pick_reps rd g, mr, h2, fw, fx⟩⟩
theorem make_guards {A : Around} {C : Addr} {us : List Value} {kw : List (Str × Value)} (h : A.guards = some []) : (A.under (.builtin "type.__call__" ⟨.ref C :: us, kw⟩)).guards = some [] := by
  show pushGuards (Code.guards (.builtin "type.__call__" ⟨.ref C :: us, kw⟩)) A.guards = some []
  rw [h]
  rfl
/-- the callee runs -/
theorem run_fnKS {CX : CXT} {f : Addr} {k : Nat} {ks : List Str} {sp : Sp} {E : L2.St → XK} {pins : List (Addr × Obj)} {σ : L2.St} {H : Hp} {s : Shared} {Q : VK} {us ws : List Value} {vs zs : List V} (F : FnS X.prog X.w X.K X.mg X.base CX k f ks sp) (hr : Room k X.A) (hgd : X.A.guards = some [])
    (hx : PassesAt CX X σ (E σ)) (I : Inv X pins σ H s) (r : Vals vs us) (rz : Vals zs ws) (hl : zs.length = ks.length) (h : sp (vs ++ zs) H Q (E σ)) : wpAny (model X.prog X.w) X.A (call (.ref f) us (ks.zip ws)) (EP X pins σ Q) X.xe s := by
  refine wpAny_call (codeAny_mono (F.run X.A X.stack s H us ws vs zs Q (E σ) hr hgd I.env0 I.kIn r rz hl h) fun r s' hq => ?_)
  cases r with
  | error e => exact hx pins H s e s' I hq
  | ok fl =>
    cases fl with
    | ret u => exact I.after hq
    | next => exact False.elim hq
    | brk => exact False.elim hq
    | cont => exact False.elim hq
theorem run_makeKS {CX : CXT} {C f : Addr} {k : Nat} {ks : List Str} {sp : Sp} {E : L2.St → XK} {pins : List (Addr × Obj)} {σ : L2.St} {H : Hp} {s : Shared} {Q : VK} {us ws : List Value} {vs zs : List V} (M : Mk X.K C f) (F : FnS X.prog X.w X.K X.mg X.base CX k f ks sp) (hr : Room (k + 1) X.A) (hgd : X.A.guards = some [])
    (hx : PassesAt CX X σ (E σ)) (I : Inv X pins σ H s) (r : Vals vs us) (rz : Vals zs ws) (hlz : zs.length = ks.length)
    (h : ∀ x dx, H x = none → H dx = none → dx ≠ x → sp (.ref x :: (vs ++ zs)) (upd (upd H dx (.own x)) x (.ins C dx [])) (fun v H2 => v = .non ∧ Q (.ref x) H2) (E σ)) :
    wpAny (model X.prog X.w) X.A (call (.ref C) us (ks.zip ws)) (EP X pins σ Q) X.xe s := by
  have hq := h (s.heap.objs.size + 1) s.heap.objs.size (I.hok.fresh (Nat.le_succ _)) (I.hok.fresh (Nat.le_refl _)) (Nat.ne_of_lt (Nat.lt_succ_self _))
  have I2 := Inv.made (C := C) I
  refine wpAny_call (make_map (f := f) I.kIn M.makes M.init (beq_iff_eq.mp M.fn) (codeAny_mono (F.run _ X.stack _ _ (Value.ref (s.heap.objs.size + 1) :: us) ws (V.ref (s.heap.objs.size + 1) :: vs) zs _ (E σ) (hr.make C us (ks.zip ws)) (make_guards hgd)
    (I2.env0.make C us (ks.zip ws)) I2.kIn (.cons rfl r) rz hlz hq) fun r s' hq' => ?_))
  cases r with
  | error e => exact hx pins _ _ e s' I2 hq'
  | ok fl =>
    cases fl with
    | ret u =>
      obtain ⟨v, H', I3, rv, ev, q3⟩ := I2.after hq'
      subst ev
      exact ⟨rv, ⟨V.ref (s.heap.objs.size + 1), H', I3, rfl, q3⟩⟩
    | next => exact False.elim hq'
    | brk => exact False.elim hq'
    | cont => exact False.elim hq'

/-! ### calls of the text's own defs, classes, methods -/
def dCallF (n : Nat) (sp : DSp) (t tk : DTA) : DTE := fun σ M R Ex => t σ M (fun xs M1 => tk σ M1 (fun zs M2 => zs.length = n ∧ sp (xs ++ zs) M2 R Ex) Ex) Ex
/-- a def of the text by its name -/
structure FnE (P : Program) (w : World) (K : PySem.W.Frag) (mg : Str → Option Value) (base : Heap) (A : Around) (x : Str) (ks : List Str) (sp : DSp) : Prop where
  ex : ∃ (k : Nat) (f : Addr), FnS P w K mg base (L2.CX P w) k f ks (liftSp K sp) ∧ Room k A ∧ mg x = some (.ref f) ∧ PySem.W.keepIn K (.ref f) = true
variable {kws : List Keyword} {tk : DTA}
theorem de_call {x : Str} {ks : List Str} {sp : DSp} (hgd : X.A.guards = some []) (tw : Takes X W) (F : FnE X.prog X.w X.K X.mg X.base X.A x ks sp) (hg : Gl X x) (ha : DA X W es t) (hkw : DKw X W kws tk) (h0 : es = [] → t = dNil) (hdb : (x == ("__debug__" : Str)) = false)
    (hs : es.all notStar = true) (hn : kws.all (·.arg.isSome) = true) (hks : kws.filterMap (·.arg) = ks) : DE X W (.Call (.Name x p) es kws pos) (dCallF ks.length sp t tk) := by
  obtain ⟨k, f, G, hr, hm, hk⟩ := F.ex
  refine ⟨fun pins s σ H Q I h => ?_⟩
  refine wpAny_Call_Name_kw (ld_glob I hg hm ?_ hdb)
  obtain ⟨σd, M, R, Ex, er, mr, q, fw, fx⟩ := h
  refine args_kw (R := fun vs zs H2 => zs.length = ks.length ∧ liftSp X.K sp (vs ++ zs) H2 Q (WE W σ)) (first := []) I hk ha hkw h0 hs hn ⟨σd, M, _, Ex, er, mr, q, fun vs H1 M1 xs e1 mr1 rx q1 => ⟨σd, M1, _, Ex, er.ext e1 mr, mr1, q1, fun zvs H2 M2 zs e2 mr2 rz q2 =>
    ⟨by rw [← rz.len]; exact q2.1, xs ++ zs, M2, R, Ex, (rx.ext e2 mr1).append rz, mr2, q2.2, fw.ext (e1.trans e2), fx.ext (e1.trans e2)⟩, fx.ext e1⟩, fx⟩ fun us ws s2 H2 vs zs I2 r rz hq => ?_
  rw [hks]
  exact run_fnKS G hr hgd (passAt tw σ) I2 r rz hq.1 hq.2
/-- a class of the text -/
structure ClE (P : Program) (w : World) (K : PySem.W.Frag) (mg : Str → Option Value) (base : Heap) (A : Around) (x : Str) (ks : List Str) (C : Addr) (sp : DSp) : Prop where
  ex : ∃ (k : Nat) (f : Addr), FnS P w K mg base (L2.CX P w) k f ks (liftSp K sp) ∧ Room (k + 1) A ∧ mg x = some (.ref C) ∧ Mk K C f
/-- C(..): a new instance, __init__ is run on it -/
def spMake (C : Addr) (sp : DSp) : DSp := fun xs M R Ex => ∀ x, M x = none → sp (.ref x :: xs) (updM M x (.ins C [] [])) (fun d M2 => d = .non ∧ R (.ref x) M2) Ex
theorem de_make {x : Str} {ks : List Str} {C : Addr} {sp : DSp} (hgd : X.A.guards = some []) (tw : Takes X W) (F : ClE X.prog X.w X.K X.mg X.base X.A x ks C sp) (hg : Gl X x) (ha : DA X W es t) (hkw : DKw X W kws tk) (h0 : es = [] → t = dNil) (hdb : (x == ("__debug__" : Str)) = false)
    (hs : es.all notStar = true) (hn : kws.all (·.arg.isSome) = true) (hks : kws.filterMap (·.arg) = ks) : DE X W (.Call (.Name x p) es kws pos) (dCallF ks.length (spMake C sp) t tk) := by
  obtain ⟨k, f, G, hr, hm, mk⟩ := F.ex
  refine ⟨fun pins s σ H Q I h => ?_⟩
  refine wpAny_Call_Name_kw (ld_glob I hg hm ?_ hdb)
  obtain ⟨σd, M, R, Ex, er, mr, q, fw, fx⟩ := h
  refine args_kw (R := fun vs zs H2 => zs.length = ks.length ∧ ∀ x dx, H2 x = none → H2 dx = none → dx ≠ x → liftSp X.K sp (.ref x :: (vs ++ zs)) (upd (upd H2 dx (.own x)) x (.ins C dx [])) (fun v H3 => v = .non ∧ Q (.ref x) H3) (WE W σ)) (first := []) I mk.kp ha hkw h0 hs hn
    ⟨σd, M, _, Ex, er, mr, q, fun vs H1 M1 xs e1 mr1 rx q1 => ⟨σd, M1, _, Ex, er.ext e1 mr, mr1, q1, fun zvs H2 M2 zs e2 mr2 rz q2 => ⟨by rw [← rz.len]; exact q2.1, fun x dx hx hdx hne => ?_⟩, fx.ext e1⟩, fx⟩ fun us ws s2 H2 vs zs I2 r rz hq => ?_
  · have x1 : Ext H2 M2 (upd H2 dx (.own x)) M2 := Ext.laid0 hdx
    have m1 := mr2.laid0 (o := .own x) hdx
    have hx1 : (upd H2 dx (.own x)) x = none := by rw [upd_ne hne.symm]; exact hx
    have x2 : Ext (upd H2 dx (.own x)) M2 (upd (upd H2 dx (.own x)) x (.ins C dx [])) (updM M2 x (.ins C [] [])) := Ext.laid hx1
    have m2 : MR X.K (upd (upd H2 dx (.own x)) x (.ins C dx [])) (updM M2 x (.ins C [] [])) := m1.laid hx1 ⟨dx, [], upd_same, rfl, .nil⟩
    have x12 := x1.trans x2
    have xa := (e1.trans e2).trans x12
    refine ⟨.ref x :: (xs ++ zs), _, fun d M3 => d = .non ∧ R (.ref x) M3, Ex, .cons rfl (((rx.ext e2 mr1).append rz).ext x12 mr2), m2, q2.2 x (mr2.free hx), fun v H3 M3 d e3 mr3 rd q3 => ?_, fx.ext xa⟩
    obtain ⟨rfl, q3⟩ := q3
    exact ⟨rd, fw (.ref x) H3 M3 (.ref x) (xa.trans e3) mr3 rfl q3⟩
  · rw [hks]
    exact run_makeKS mk G hr hgd (passAt tw σ) I2 r rz hq.1 hq.2
/-- a method of a class of the text -/
structure MtE (P : Program) (w : World) (K : PySem.W.Frag) (mg : Str → Option Value) (base : Heap) (A : Around) (m : Str) (ks : List Str) (C : Addr) (sp : DSp) : Prop where
  ex : ∃ (k : Nat) (f : Addr), FnS P w K mg base (L2.CX P w) k f ks (liftSp K sp) ∧ Room k A ∧ Cls K C ∧ Meth K C m f
/-- an instance of that class, without an attribute of that name -/
def isObjOf (C : Addr) (m : Str) (M : DM) (d : D) : Prop := match d with
  | .obj C' ns _ => C' = C ∧ m ∉ ns
  | .ref a => match M a with
    | some (.ins C' ns _) => C' = C ∧ m ∉ ns
    | _ => False
  | _ => False
theorem lookup_zip_none {m : Str} : ∀ {ns : List Str} {vs : List V}, m ∉ ns → (ns.zip vs).lookup m = none
  | [], _, _ => rfl
  | _ :: _, [], _ => rfl
  | n :: ns, v :: vs, h => by
    simp only [List.mem_cons, not_or] at h
    rw [List.zip_cons_cons, List.lookup_cons]
    have : (m == n) = false := by simpa using h.1
    rw [this]
    exact lookup_zip_none h.2
theorem obj_of {K : PySem.W.Frag} {H : Hp} {M : DM} {C : Addr} {m : Str} {d : D} {v : V} (r : Rep K H M d v) (mr : MR K H M) (h : isObjOf C m M d) : ∃ a dx fs, v = .ref a ∧ H a = some (.ins C dx fs) ∧ fs.lookup m = none := by
  cases d with
  | obj C' ns ds =>
    unfold Rep at r
    obtain ⟨a, dx, vs, e, _, e1, l, _⟩ := r
    obtain ⟨rfl, h⟩ : C' = C ∧ m ∉ ns := h
    exact ⟨a, dx, _, e, e1, lookup_zip_none h⟩
  | ref a =>
    unfold Rep at r
    unfold isObjOf at h
    simp only at h
    cases e : M a with
    | none => simp [e] at h
    | some o =>
      cases o with
      | lst xs => simp [e] at h
      | ins C' ns xs =>
        simp only [e] at h
        obtain ⟨rfl, h⟩ := h
        obtain ⟨dx, vs, e1, l, q⟩ := mr a _ e
        exact ⟨a, dx, _, r, e1, lookup_zip_none h⟩
  | _ => exact h.elim
def dMeth (C : Addr) (m : Str) (n : Nat) (sp : DSp) (ta : DTE) (t tk : DTA) : DTE := fun σ M R Ex => ta σ M (fun x M1 => isObjOf C m M1 x ∧ t σ M1 (fun xs M2 => tk σ M2 (fun zs M3 => zs.length = n ∧ sp (x :: (xs ++ zs)) M3 R Ex) Ex) Ex) Ex
theorem de_meth {m : Str} {ks : List Str} {C : Addr} {sp : DSp} (hgd : X.A.guards = some []) (tw : Takes X W) (F : MtE X.prog X.w X.K X.mg X.base X.A m ks C sp) (ho : DE X W o ta) (ha : DA X W es t) (hkw : DKw X W kws tk) (h0 : es = [] → t = dNil)
    (hb : plainBase o = true) (hl : (apos.endLine == pos.line) = true) (hcnt : (decide (es.length + kws.length + (if kws.isEmpty then 0 else 1) < 30)) = true)
    (hs : es.all notStar = true) (hn : kws.all (·.arg.isSome) = true) (hks : kws.filterMap (·.arg) = ks) : DE X W (.Call (.Attribute o m apos) es kws pos) (dMeth C m ks.length sp ta t tk) := by
  obtain ⟨k, f, G, hr, hc, hm⟩ := F.ex
  refine ⟨fun pins s σ H Q I h => ?_⟩
  obtain ⟨σd, M, R, Ex, er, mr, q, fw, fx⟩ := h
  refine PySem.W.methodCall_KW (pl := do return (← importBound o X.env).getD true) (thn (ho.run pins s σ H (fun x H1 => ∃ a dx fs, x = .ref a ∧ H1 a = some (.ins C dx fs) ∧ fs.lookup m = none ∧ liftA X.K W t σ H1 fun vs H2 => liftA X.K W tk σ H2 fun zs H3 => zs.length = ks.length ∧ liftSp X.K sp (x :: (vs ++ zs)) H3 Q (WE W σ)) I
    ⟨σd, M, _, Ex, er, mr, q, fun v H1 M1 x e1 mr1 rx q1 => ?_, fx⟩) fun u s1 ⟨x, H1, I1, rx, a, dx, fs, ex, ea, l, q1⟩ => ?_) (meth_shape (attrBase hb) hl hs hcnt hn)
  · obtain ⟨a, dx, fs, ev, eh, l⟩ := obj_of rx mr1 q1.1
    refine ⟨a, dx, fs, ev, eh, l, σd, M1, _, Ex, er.ext e1 mr, mr1, q1.2, fun vs H2 M2 xs e2 mr2 rxs q2 => ⟨σd, M2, _, Ex, er.ext (e1.trans e2) mr, mr2, q2, fun zvs H3 M3 zs e3 mr3 rz q3 => ?_, fx.ext (e1.trans e2)⟩, fx.ext e1⟩
    exact ⟨by rw [← rz.len]; exact q3.1, x :: (xs ++ zs), M3, R, Ex, .cons (rx.ext (e2.trans e3) mr1) ((rxs.ext e3 mr2).append rz), mr3, q3.2, fw.ext ((e1.trans e2).trans e3), fx.ext ((e1.trans e2).trans e3)⟩
  · subst ex
    obtain rfl : u = Value.ref a := rx
    refine getmeth_ok I1 ea hc hm l ?_
    refine args_kw (R := fun vs zs H2 => zs.length = ks.length ∧ liftSp X.K sp (.ref a :: (vs ++ zs)) H2 Q (WE W σ)) (first := [.ref a]) I1 hm.kp ha hkw h0 hs hn q1 fun us ws s2 H2 vs zs I2 r rz hq => ?_
    rw [hks]
    exact run_fnKS (us := .ref a :: us) (vs := .ref a :: vs) G hr hgd (passAt tw σ) I2 (.cons rfl r) rz hq.1 hq.2

/-! ### attributes -/
def fldD (C : Addr) (f : Str) (M : DM) (d : D) : Option D := match d with
  | .obj C' ns ds => if C' = C then (ns.zip ds).lookup f else none
  | .ref a => match M a with
    | some (.ins C' ns ds) => if C' = C then (ns.zip ds).lookup f else none
    | _ => none
  | _ => none
theorem lookup_zip {K : PySem.W.Frag} {H : Hp} {M : DM} {f : Str} {d : D} : ∀ {ns : List Str} {ds : List D} {vs : List V}, Reps K H M ds vs → (ns.zip ds).lookup f = some d → ∃ v, (ns.zip vs).lookup f = some v ∧ Rep K H M d v
  | [], _, _, _, h => by simp at h
  | _ :: _, [], _, _, h => by simp at h
  | n :: ns, d' :: ds, vs, r, h => by
    obtain ⟨w, ws, e, r1, r2⟩ := r.inv
    subst e
    rw [List.zip_cons_cons, List.lookup_cons] at h ⊢
    cases q : f == n with
    | true => rw [q] at h; simp at h; subst h; exact ⟨w, rfl, r1⟩
    | false => rw [q] at h; simp only at h; exact lookup_zip r2 h
theorem fld_of {K : PySem.W.Frag} {H : Hp} {M : DM} {C : Addr} {f : Str} {d x : D} {v : V} (r : Rep K H M d v) (mr : MR K H M) (h : fldD C f M d = some x) : ∃ a dx fs y, v = .ref a ∧ H a = some (.ins C dx fs) ∧ fs.lookup f = some y ∧ Rep K H M x y := by
  cases d with
  | obj C' ns ds =>
    unfold Rep at r
    obtain ⟨a, dx, vs, e, _, e1, l, q⟩ := r
    unfold fldD at h
    simp only at h
    split at h
    · rename_i hc; subst hc
      obtain ⟨y, e2, ry⟩ := lookup_zip q h
      exact ⟨a, dx, _, y, e, e1, e2, ry⟩
    · cases h
  | ref a =>
    unfold Rep at r
    unfold fldD at h
    simp only at h
    cases e : M a with
    | none => simp [e] at h
    | some o =>
      cases o with
      | lst xs => simp [e] at h
      | ins C' ns xs =>
        simp only [e] at h
        split at h
        · rename_i hc; subst hc
          obtain ⟨dx, vs, e1, l, q⟩ := mr a _ e
          obtain ⟨y, e2, ry⟩ := lookup_zip q h
          exact ⟨a, dx, _, y, r, e1, e2, ry⟩
        · cases h
  | _ => cases h
def dFld (C : Addr) (f : Str) (ta : DTE) : DTE := fun σ M R Ex => ta σ M (fun x M1 => ∃ d, fldD C f M1 x = some d ∧ R d M1) Ex
theorem de_fld {C : Addr} {f : Str} (hc : Cls X.K C) (hn : NoAttr X.K C f) (ho : DE X W o ta) (hb : plainBase o = true) : DE X W (.Attribute o f pos) (dFld C f ta) :=
  (pe_fld ho (attrBase hb)).imp fun σ H Q ⟨σd, M, R, Ex, er, mr, q, fw, fx⟩ => lift_bind er mr q fx fun v H1 M1 x e1 mr1 rx ⟨d, h1, h2⟩ => by
    obtain ⟨a, dx, fs, y, e, eh, el, ry⟩ := fld_of rx mr1 h1
    exact ⟨a, C, dx, fs, y, e, eh, hc, hn, el, (fw.ext e1).same mr1 ry h2⟩
/-- a property of a class of the text; it raises nothing -/
structure PrE (P : Program) (w : World) (K : PySem.W.Frag) (mg : Str → Option Value) (base : Heap) (A : Around) (m : Str) (C : Addr) (sp : DSp) : Prop where
  ex : ∃ (k : Nat) (f g : Addr) (fd : FuncData) (ps : List Str), FnG P w K mg base (L2.CX P w) k g fd ps (liftSp K sp) ∧ Room (k + 1) A ∧ Cls K C ∧ PropOf K C m f g ∧ Binds K fd ps []
def dProp (C : Addr) (m : Str) (sp : DSp) (ta : DTE) : DTE := fun σ M R Ex => ta σ M (fun x M1 => isObjOf C m M1 x ∧ sp [x] M1 R fun _ _ _ => False) Ex
/-- e.f, a property: its getter runs -/
theorem run_prop {C f' a : Addr} {g : Addr} {k : Nat} {fd : FuncData} {ps : List Str} {sp : Sp} {m : Str} {pins : List (Addr × Obj)} {σ : L2.St} {H : Hp} {s : Shared} {Q : VK} {b : Bool} {E' : Value → Shared → Prop} {dx : Addr} {fs : List (Str × V)} (I : Inv X pins σ H s) (ea : H a = some (.ins C dx fs))
    (c : Cls X.K C) (hp : PropOf X.K C m f' g) (F : FnG X.prog X.w X.K X.mg X.base (L2.CX X.prog X.w) k g fd ps sp) (hr : Room (k + 1) X.A) (hgd : X.A.guards = some []) (hb : Binds X.K fd ps []) (h : sp [.ref a] H Q E0) :
    wpAny (model X.prog X.w) X.A (getAttr (.ref a) m b) (EP X pins σ Q) E' s := by
  obtain ⟨mA, O, _, _, _, _⟩ := ins_get I.hok ea
  obtain ⟨od, J, _⟩ := O.look
  obtain ⟨rest, hrec⟩ := hp.rec_
  have I1 := I.tok (s.toks + 1)
  have hl : ([Value.ref a] ++ []).length = ps.length := F.len _ _ _ _ h
  have hc : (PySem.W.clsIn X.K C).isSome = true := by
    obtain ⟨cd, hc, _⟩ := PySem.W.any_some c.hd
    rw [hc]; rfl
  refine PySem.W.get_bind I.kIn J (PySem.W.plainGet_of (c.get m)).1 (PySem.W.findObj_data hc hp.at_ hp.get hp.tak) (PySem.W.plainGet_of (c.get m)).2
    (wpAny_call (PySem.W.prop_get (s := { s with toks := s.toks + 1 }) I.kIn hrec (codeAny_mono (F.run X.A.in1 X.stack _ H ⟨[.ref a], []⟩ [.ref a] [.ref a] Q E0 hr.in1 hgd I1.env0.in1 (hb _ [.ref a] I1.kIn hl) (.cons rfl .nil) h) fun r s' hq => ?_)))
  cases r with
  | error er => exact False.elim (passL (X := X.nox) pins σ H _ er s' (I1.wish _) hq)
  | ok fl =>
    cases fl with
    | ret u =>
      obtain ⟨v, H', I3, rv, q3⟩ := I1.after hq
      show wpAny _ _ (handedOut u) _ _ _
      rw [PySem.W.handedOut_of (handed_of rv)]
      exact wpAny_pure ⟨v, H', I3, rv, q3⟩
    | next => exact hq.elim
    | brk => exact hq.elim
    | cont => exact hq.elim
theorem de_prop {m : Str} {C : Addr} {sp : DSp} (hgd : X.A.guards = some []) (F : PrE X.prog X.w X.K X.mg X.base X.A m C sp) (ho : DE X W o ta) (hb : plainBase o = true) : DE X W (.Attribute o m pos) (dProp C m sp ta) := by
  obtain ⟨k, f, g, fd, ps, G, hr, hc, hp, hbi⟩ := F.ex
  refine ⟨fun pins s σ H Q I ⟨σd, M, R, Ex, er, mr, q, fw, fx⟩ => attr_of (attrBase hb) (thn (ho.run pins s σ H (fun x H1 => ∃ a dx fs, x = .ref a ∧ H1 a = some (.ins C dx fs) ∧ liftSp X.K sp [.ref a] H1 Q E0) I
    (lift_bind er mr q fx fun v H1 M1 x e1 mr1 rx q1 => ?_)) fun u s1 ⟨x, H1, I1, rx, a, dx, fs, ex, ea, q1⟩ => ?_)⟩
  · obtain ⟨a, dx, fs, ev, eh, l⟩ := obj_of rx mr1 q1.1
    subst ev
    exact ⟨a, dx, fs, rfl, eh, [x], M1, R, _, .single rx, mr1, q1.2, fw.ext e1, fun _ _ _ _ _ _ _ _ z => z⟩
  · subst ex
    obtain rfl : u = Value.ref a := rx
    exact run_prop I1 ea hc hp G hr hgd hbi q1
end
end LD
end

section
set_option maxRecDepth 100000
set_option maxHeartbeats 1000000
namespace LD
open PySem PySem.Spec PyProof.Rows L2
/-! ### statements over data -/
structure DEnds where
  nx : DSt → DM → Prop
  rt : DK
  bk : DSt → DM → Prop := fun _ _ => False
  ct : DSt → DM → Prop := fun _ _ => False
  ex : DSt → DX := fun _ _ _ _ => False
abbrev DTS := DEnds → DSt → DM → Prop
def FwdS (K : PySem.W.Frag) (H : Hp) (M : DM) (R : DSt → DM → Prop) (Q : L2.St → Hp → Prop) : Prop := ∀ σ' H' σd' M', Ext H M H' M' → MR K H' M' → EnvR K H' M' σd' σ' → R σd' M' → Q σ' H'
def FwdXS (K : PySem.W.Frag) (H : Hp) (M : DM) (Ex : DSt → DX) (W : WX) : Prop := ∀ C d σ' H' σd' M' dv, Ext H M H' M' → MR K H' M' → EnvR K H' M' σd' σ' → RepX K H' M' dv d → Ex σd' C dv M' → W (.ref C) d σ' H'
structure EndsR (K : PySem.W.Frag) (W : WX) (H : Hp) (M : DM) (D : DEnds) (E : L2.Ends) : Prop where
  nx : FwdS K H M D.nx E.nx
  rt : Fwd K H M D.rt E.rt
  bk : FwdS K H M D.bk E.bk
  ct : FwdS K H M D.ct E.ct
  ex : FwdXS K H M D.ex W
section
variable {K : PySem.W.Frag} {W : WX} {H H' : Hp} {M M' : DM} {D : DEnds} {E : L2.Ends}
theorem FwdS.ext {R : DSt → DM → Prop} {Q : L2.St → Hp → Prop} (f : FwdS K H M R Q) (x : Ext H M H' M') : FwdS K H' M' R Q := fun σ' H2 σd' M2 e => f σ' H2 σd' M2 (x.trans e)
theorem FwdXS.ext {R : DSt → DX} (f : FwdXS K H M R W) (x : Ext H M H' M') : FwdXS K H' M' R W := fun C d σ' H2 σd' M2 dv e => f C d σ' H2 σd' M2 dv (x.trans e)
theorem EndsR.ext (r : EndsR K W H M D E) (x : Ext H M H' M') : EndsR K W H' M' D E := ⟨r.nx.ext x, r.rt.ext x, r.bk.ext x, r.ct.ext x, r.ex.ext x⟩
theorem FwdXS.at {R : DSt → DX} {σd : DSt} {σ : L2.St} (f : FwdXS K H M R W) (er : EnvR K H M σd σ) (mr : MR K H M) : FwdX K H M (R σd) (WE W σ) := fun C d H' M' dv e mr' rx h => f C d σ H' σd M' dv e mr' (er.ext e mr) rx h
theorem FwdXS.wf {R : DSt → DX} (h : ∀ σd C d M, ¬ R σd C d M) : FwdXS K H M R W := fun C d σ' H2 σd' M2 dv _ _ _ _ z => (h _ _ _ _ z).elim
end
def liftS (K : PySem.W.Frag) (W : WX) (t : DTS) : L2.TS := fun E σ H => ∃ σd M D, EnvR K H M σd σ ∧ MR K H M ∧ t D σd M ∧ EndsR K W H M D E
abbrev DS (X : Cx) (W : WX) (st : Stmt) (t : DTS) : Prop := PS X st (liftS X.K W t)
abbrev DSs (X : Cx) (W : WX) (st : List Stmt) (t : DTS) : Prop := PSs X st (liftS X.K W t)
theorem _root_.L2.PS.imp {X : Cx} {st : Stmt} {t u : L2.TS} (h : PS X st t) (i : ∀ E σ H, u E σ H → t E σ H) : PS X st u := ⟨fun pins s σ H D I q => h.run pins s σ H D I (i D σ H q)⟩
theorem _root_.L2.PSs.imp {X : Cx} {st : List Stmt} {t u : L2.TS} (h : PSs X st t) (i : ∀ E σ H, u E σ H → t E σ H) : PSs X st u := ⟨fun pins s σ H D I q => h.run pins s σ H D I (i D σ H q)⟩
theorem _root_.L2.PG.imp {X : Cx} {tg : Expr} {t u : TG} (h : PG X tg t) (i : ∀ v σ H Q, u v σ H Q → t v σ H Q) : PG X tg u := ⟨fun pins s σ H v w Q I r q => h.run pins s σ H v w Q I r (i v σ H Q q)⟩

section
variable {X : Cx} {W : WX} {st : Stmt} {sts : List Stmt} {e o a b : Expr} {pos : Pos} {te ta tb to ti : DTE} {t u : DTS} {uc : DTT}
def sNext : DTS := fun D σ M => D.nx σ M
def sSeq (t u : DTS) : DTS := fun D σ M => t { D with nx := u D } σ M
theorem ss_nil : DSs X W [] sNext := pss_nil.imp fun E σ H ⟨σd, M, D, er, mr, q, r⟩ => r.nx σ H σd M .refl mr er q
theorem ss_cons (h1 : DS X W st t) (h2 : DSs X W sts u) : DSs X W (st :: sts) (sSeq t u) :=
  (pss_cons h1 h2).imp fun E σ H ⟨σd, M, D, er, mr, q, r⟩ => ⟨σd, M, _, er, mr, q, fun σ' H' σd' M' x m e h => ⟨σd', M', D, e, m, h, r.ext x⟩, r.rt, r.bk, r.ct, r.ex⟩
theorem ds_pass : DS X W (.Pass pos) sNext := ps_pass.imp fun E σ H ⟨σd, M, D, er, mr, q, r⟩ => r.nx σ H σd M .refl mr er q
theorem ds_doc {x j pos'} : DS X W (.Expr (.Constant (.str x) j pos) pos') sNext := ps_doc.imp fun E σ H ⟨σd, M, D, er, mr, q, r⟩ => r.nx σ H σd M .refl mr er q
def sBreak : DTS := fun D σ M => D.bk σ M
def sCont : DTS := fun D σ M => D.ct σ M
theorem ds_break : DS X W (.Break pos) sBreak := ps_break.imp fun E σ H ⟨σd, M, D, er, mr, q, r⟩ => r.bk σ H σd M .refl mr er q
theorem ds_cont : DS X W (.Continue pos) sCont := ps_continue.imp fun E σ H ⟨σd, M, D, er, mr, q, r⟩ => r.ct σ H σd M .refl mr er q
def sDrop (te : DTE) : DTS := fun D σ M => te σ M (fun _ M1 => D.nx σ M1) (D.ex σ)
theorem ds_expr (he : DE X W e te) (hs : noComp e = true) : DS X W (.Expr e pos) (sDrop te) :=
  (ps_expr he (swaps_no hs)).imp fun E σ H ⟨σd, M, D, er, mr, q, r⟩ => lift_bind er mr q (r.ex.at er mr) fun v H1 M1 d e1 mr1 rd h => r.nx σ H1 σd M1 e1 mr1 (er.ext e1 mr) h
def sRet (te : DTE) : DTS := fun D σ M => te σ M D.rt (D.ex σ)
theorem ds_ret (he : DE X W e te) : DS X W (.Return (some e) pos) (sRet te) :=
  (ps_ret he).imp fun E σ H ⟨σd, M, D, er, mr, q, r⟩ => lift_bind er mr q (r.ex.at er mr) fun v H1 M1 d e1 mr1 rd h => r.rt v H1 M1 d e1 mr1 rd h
def sRetN : DTS := fun D _ M => D.rt .non M
theorem ds_retN : DS X W (.Return none pos) sRetN := ps_retN.imp fun E σ H ⟨σd, M, D, er, mr, q, r⟩ => r.rt .non H M .non .refl mr rfl q
def sIf (c : DTT) (t u : DTS) : DTS := fun D σ M => c σ M (fun k M1 => if k = true then t D σ M1 else u D σ M1) (D.ex σ)
theorem ds_if {sa sb : List Stmt} (hc : DT X W e uc) (ha : DSs X W sa t) (hb : DSs X W sb u) : DS X W (.If e sa sb pos) (sIf uc t u) :=
  (ps_if hc ha hb).imp fun E σ H ⟨σd, M, D, er, mr, q, r⟩ => liftT_bind er mr q (r.ex.at er mr) fun k H1 M1 e1 mr1 h => by
    cases k with
    | true => exact ⟨σd, M1, D, er.ext e1 mr, mr1, h, r.ext e1⟩
    | false => exact ⟨σd, M1, D, er.ext e1 mr, mr1, h, r.ext e1⟩
/-! ### names stored -/
theorem EnvR.set {K : PySem.W.Frag} {H : Hp} {M : DM} {σd : DSt} {σ : L2.St} (er : EnvR K H M σd σ) {i : Nat} {d : D} {v : V} (r : Rep K H M d v) : EnvR K H M (σd.set i (some d)) (σ.set i (some v)) := by
  refine ⟨by rw [List.length_set, List.length_set]; exact er.1, fun j d' h => ?_⟩
  by_cases hj : i = j
  · subst hj
    by_cases hi : i < σd.length
    · rw [List.getElem?_set_self hi] at h
      cases h
      exact ⟨v, List.getElem?_set_self (by rw [← er.1]; exact hi), r⟩
    · rw [List.getElem?_eq_none (by rw [List.length_set]; omega)] at h
      cases h
  · rw [List.getElem?_set_ne hj] at h ⊢
    exact er.2 j d' h
def sSet (i : Nat) (te : DTE) : DTS := fun D σ M => te σ M (fun d M1 => D.nx (σ.set i (some d)) M1) (D.ex σ)
theorem tAsgN_of {i : Nat} : ∀ E σ H, liftS X.K W (sSet i te) E σ H → tAsg (lift X.K W te) (gName i) E σ H := fun E σ H ⟨σd, M, D, er, mr, q, r⟩ =>
  lift_bind er mr q (r.ex.at er mr) fun v H1 M1 d e1 mr1 rd h => r.nx _ H1 _ M1 e1 mr1 ((er.ext e1 mr).set rd) h
theorem ds_set {i : Nat} {x : Str} {p : Pos} (hN : X.N.Nodup) (hi : X.N[i]? = some x) (hx : Loc X.env.scope x) (hf : X.fn x = true ∨ X.env.scope.names.lookup x = some .local) (he : DE X W e te) (hs : swapsWith e (some (.Name x p)) pos.line X.env = pure false) : DS X W (.Assign [.Name x p] e pos) (sSet i te) :=
  (ps_set hN hi hx he hs hf).imp tAsgN_of
/-- a pattern of names: what is stored -/
inductive Pat where
  | name (i : Nat) | nil | cons (p ps : Pat) | tup (ps : Pat)
mutual
def gPat (K : PySem.W.Frag) : Pat → TG
  | .name i => gName i
  | .tup ps => fun v σ H Q => (∃ a xs, v = .ref a ∧ (SqT K H a xs ∨ SqL K H a xs) ∧ xs.length = lPat ps ∧ gPats K ps xs σ H Q)
  | .nil => fun _ _ _ _ => False
  | .cons _ _ => fun _ _ _ _ => False
def gPats (K : PySem.W.Frag) : Pat → TGs
  | .nil => gNil
  | .cons p ps => gCons (gPat K p) (gPats K ps)
  | .name _ => fun _ _ _ _ => False
  | .tup _ => fun _ _ _ _ => False
def lPat : Pat → Nat
  | .cons _ ps => lPat ps + 1
  | _ => 0
end
mutual
def stP (M : DM) : Pat → D → DSt → Option DSt
  | .name i, d, σ => some (σ.set i (some d))
  | .tup ps, d, σ => match isS M d with
    | some ds => stPs M ps ds σ
    | none => none
  | .nil, _, _ => none
  | .cons _ _, _, _ => none
def stPs (M : DM) : Pat → List D → DSt → Option DSt
  | .nil, [], σ => some σ
  | .cons p ps, d :: ds, σ => match stP M p d σ with
    | some σ1 => stPs M ps ds σ1
    | none => none
  | _, _, _ => none
end
def namesP : Pat → List Nat
  | .name i => [i]
  | .nil => []
  | .cons p ps => namesP p ++ namesP ps
  | .tup ps => namesP ps
theorem wipe_set {σ : L2.St} {i : Nat} {v : Option V} : ∀ {vs : List Nat}, i ∈ vs → wipe (σ.set i v) vs = wipe σ vs
  | [], h => by cases h
  | w :: vs, h => by
    show (wipe (σ.set i v) vs).set w none = (wipe σ vs).set w none
    by_cases hi : i ∈ vs
    · rw [wipe_set hi]
    · have e : i = w := by
        rcases List.mem_cons.mp h with z | z
        · exact z
        · exact absurd z hi
      subst e
      have : ∀ (vs : List Nat), i ∉ vs → wipe (σ.set i v) vs = (wipe σ vs).set i v := by
        intro vs
        induction vs with
        | nil => intro _; rfl
        | cons u us ih =>
          intro hn
          simp only [List.mem_cons, not_or] at hn
          show (wipe (σ.set i v) us).set u none = ((wipe σ us).set u none).set i v
          rw [ih hn.2, List.set_comm _ _ hn.1]
      rw [this vs hi, List.set_set]
theorem lPat_of {M : DM} : ∀ {p : Pat} {ds : List D} {σ σ' : DSt}, stPs M p ds σ = some σ' → ds.length = lPat p
  | .nil, [], _, _, _ => rfl
  | .cons p ps, d :: ds, σ, σ', h => by
    unfold stPs at h
    split at h
    · rename_i σ1 _
      have := lPat_of (p := ps) h
      simp only [List.length_cons, lPat, this]
    · cases h
  | .nil, _ :: _, _, _, h => by cases h
  | .cons _ _, [], _, _, h => by cases h
  | .name _, _, _, _, h => by simp [stPs] at h
  | .tup _, _, _, _, h => by simp [stPs] at h
mutual
theorem gPat_of {K : PySem.W.Frag} {H : Hp} {M : DM} (mr : MR K H M) : ∀ {p : Pat} {d : D} {v : V} {σd σd' : DSt} {σ : L2.St} {Q : L2.St → Hp → Prop}, stP M p d σd = some σd' → Rep K H M d v → EnvR K H M σd σ →
    (∀ σ', EnvR K H M σd' σ' → (∀ vs : List Nat, (∀ i ∈ namesP p, i ∈ vs) → wipe σ' vs = wipe σ vs) → Q σ' H) → gPat K p v σ H Q
  | .name i, d, v, σd, σd', σ, Q, h, r, er, k => by
    cases h
    exact k _ (er.set r) fun vs hv => wipe_set (hv i (by simp [namesP]))
  | .tup ps, d, v, σd, σd', σ, Q, h, r, er, k => by
    unfold stP at h
    cases e : isS M d with
    | none => simp [e] at h
    | some ds =>
      simp only [e] at h
      have hl := lPat_of h
      unfold gPat
      rcases isS_cases e with e | e
      · obtain ⟨a, vs, e1, s, q⟩ := sqL_of r mr e
        exact ⟨a, vs, e1, .inr s, by rw [← q.len, hl], gPats_of mr h q er k⟩
      · obtain ⟨a, vs, e1, s, q⟩ := sqT_of r e
        exact ⟨a, vs, e1, .inl s, by rw [← q.len, hl], gPats_of mr h q er k⟩
  | .nil, _, _, _, _, _, _, h, _, _, _ => by simp [stP] at h
  | .cons _ _, _, _, _, _, _, _, h, _, _, _ => by simp [stP] at h
theorem gPats_of {K : PySem.W.Frag} {H : Hp} {M : DM} (mr : MR K H M) : ∀ {p : Pat} {ds : List D} {vs : List V} {σd σd' : DSt} {σ : L2.St} {Q : L2.St → Hp → Prop}, stPs M p ds σd = some σd' → Reps K H M ds vs → EnvR K H M σd σ →
    (∀ σ', EnvR K H M σd' σ' → (∀ vs : List Nat, (∀ i ∈ namesP p, i ∈ vs) → wipe σ' vs = wipe σ vs) → Q σ' H) → gPats K p vs σ H Q
  | .nil, [], vs, σd, σd', σ, Q, h, r, er, k => by
    cases h
    have := r.inv0
    exact ⟨this, k σ er fun _ _ => rfl⟩
  | .cons p ps, d :: ds, vs, σd, σd', σ, Q, h, r, er, k => by
    obtain ⟨w, ws, e, r1, r2⟩ := r.inv
    unfold stPs at h
    cases e1 : stP M p d σd with
    | none => simp [e1] at h
    | some σ1 =>
      simp only [e1] at h
      refine ⟨w, ws, e, gPat_of mr e1 r1 er fun σ' er' hw => ?_⟩
      refine gPats_of mr h r2 er' fun σ2 er2 hw2 => k σ2 er2 fun us hu => ?_
      rw [hw2 us fun i hi => hu i (by simp [namesP, hi]), hw us fun i hi => hu i (by simp [namesP, hi])]
  | .nil, _ :: _, _, _, _, _, _, h, _, _, _ => by cases h
  | .cons _ _, [], _, _, _, _, _, h, _, _, _ => by cases h
  | .name _, _, _, _, _, _, _, h, _, _, _ => by simp [stPs] at h
  | .tup _, _, _, _, _, _, _, h, _, _, _ => by simp [stPs] at h
end
theorem assign1 {tg : Expr} {env : Env} (h : notStar tg = true) : (assignEach [tg] env).map (·.2) = [assign tg env] := by
  cases tg <;> first | rfl | cases h
theorem pg_or {X : Cx} {tg : Expr} {t u : TG} (h : PG X tg t) (h' : PG X tg u) : PG X tg fun v σ H Q => t v σ H Q ∨ u v σ H Q := ⟨fun pins s σ H v w Q I r q => q.elim (h.run pins s σ H v w Q I r) (h'.run pins s σ H v w Q I r)⟩
theorem gPats_mono {K : PySem.W.Frag} {p : Pat} : True := trivial
theorem pg_pat_tup {es : List Expr} {k : Nat} {ps : Pat} (hc : X.calm = true) (h : PGs X es (gPats X.K ps)) (hn : (assignEach es X.env).length = lPat ps) (hst : (assignEach es X.env).findIdx? (·.1) = none) : PG X (.Tuple es k pos) (gPat X.K (.tup ps)) :=
  (pg_or (pg_tup hc h hn hst) (pg_lst hc h hn hst)).imp fun v σ H Q ⟨a, xs, e, s, l, q⟩ => s.elim (fun s => .inl ⟨a, xs, e, s, l, q⟩) fun s => .inr ⟨a, xs, e, s, l, q⟩
/-- a, b, .. = e, by a tuple or list -/
def sUnp (p : Pat) (te : DTE) : DTS := fun D σ M => te σ M (fun d M1 => ∃ σ', stP M1 p d σ = some σ' ∧ D.nx σ' M1) (D.ex σ)
theorem ds_unp {tg : Expr} {p : Pat} (he : DE X W e te) (hg : PG X tg (gPat X.K p)) (hns : notStar tg = true) (hs : swapsWithSole [tg] e pos.line X.env = pure false) (hw : swappedStores [tg] e X.env = pure none) : DS X W (.Assign [tg] e pos) (sUnp p te) :=
  (ps_asg he hg hs hw (assign1 hns)).imp fun E σ H ⟨σd, M, D, er, mr, q, r⟩ => lift_bind er mr q (r.ex.at er mr) fun v H1 M1 d e1 mr1 rd ⟨σ', h1, h2⟩ =>
    gPat_of mr1 h1 rd (er.ext e1 mr) fun σ2 er2 _ => r.nx σ2 H1 σ' M1 e1 mr1 er2 h2
/-- two names at once -/
def sPar2 (i j : Nat) (t : DTA) : DTS := fun D σ M => t σ M (fun xs M1 => ∃ v w, xs = [v, w] ∧ D.nx ((σ.set i (some v)).set j (some w)) M1) (D.ex σ)
theorem ds_par2 {i j : Nat} {x y : Str} {px py pt : Pos} {kt k2 pt2} {t : DTA} (hc : X.calm = true) (hN : X.N.Nodup) (hi : X.N[i]? = some x) (hj : X.N[j]? = some y) (hij : i ≠ j)
    (hx : X.env.scope.names.lookup x = some .local) (hy : X.env.scope.names.lookup y = some .local) (ha : DA X W [a, b] t)
    (hw : swappedStores [.Tuple [.Name x px, .Name y py] kt pt] (.Tuple [a, b] k2 pt2) X.env = pure (some [x, y])) :
    DS X W (.Assign [.Tuple [.Name x px, .Name y py] kt pt] (.Tuple [a, b] k2 pt2) pos) (sPar2 i j t) :=
  (ps_par hc hN hi hj hij hx hy ha hw).imp fun E σ H ⟨σd, M, D, er, mr, q, r⟩ => ⟨σd, M, _, D.ex σd, er, mr, q, fun vs H1 M1 xs e1 mr1 rx ⟨v, w, hv, h⟩ => by
    subst hv
    obtain ⟨v', w', e, rv, rw'⟩ := rx.inv2
    exact ⟨v', w', e, r.nx _ H1 _ M1 e1 mr1 (((er.ext e1 mr).set rv).set rw') h⟩, r.ex.at er mr⟩

/-! ### subscripts stored -/
/-- o[i] = d for a list that may change -/
def oSetL (o i d : D) (M : DM) (R : DM → Prop) : Prop := match o, i with
  | .ref a, .int k => match M a with
    | some (.lst ds) => ∃ j, ixN ds.length k = some j ∧ R (updM M a (.lst (ds.set j d)))
    | _ => False
  | _, _ => False
theorem setL_of {K : PySem.W.Frag} {H : Hp} {M : DM} {o i d : D} {ov iv dv : V} {R : DM → Prop} {Q : Hp → Prop} (ro : Rep K H M o ov) (ri : Rep K H M i iv) (rd : Rep K H M d dv) (mr : MR K H M) (h : oSetL o i d M R)
    (f : ∀ H' M', Ext H M H' M' → MR K H' M' → R M' → Q H') : rSetL ov iv dv H Q := by
  cases o <;> cases i <;> first | exact h.elim | skip
  rename_i a k
  cases ro; cases ri
  unfold oSetL at h
  simp only at h
  cases e : M a with
  | none => simp [e] at h
  | some m =>
    cases m with
    | ins C ns xs => simp [e] at h
    | lst ds =>
      simp only [e] at h
      obtain ⟨j, h1, h2⟩ := h
      obtain ⟨vs, e1, q⟩ := mr a _ e
      refine ⟨a, vs, k, j, rfl, rfl, e1, by rw [← q.len]; exact h1, ?_⟩
      exact f _ (updM M a (.lst (ds.set j d))) (Ext.wrote e) (mr.wrote (mo' := .lst (ds.set j d)) e ⟨vs.set j dv, upd_same, ((q.set j rd)).ext (Ext.wrote e) mr⟩) h2
def sSub (to ti te : DTE) : DTS := fun D σ M => te σ M (fun d M1 => to σ M1 (fun o M2 => ti σ M2 (fun i M3 => oSetL o i d M3 fun M4 => D.nx σ M4) (D.ex σ)) (D.ex σ)) (D.ex σ)
/-- a subscript as a target, at slots that stay -/
theorem gSub_of {σd : DSt} {σ : L2.St} {H : Hp} {M : DM} {d : D} {v : V} {Ex : DX} {R : DM → Prop} {Q : L2.St → Hp → Prop} (er : EnvR X.K H M σd σ) (mr : MR X.K H M) (rd : Rep X.K H M d v) (fx : FwdX X.K H M Ex (WE W σ))
    (h : to σd M (fun o M2 => ti σd M2 (fun i M3 => oSetL o i d M3 R) Ex) Ex) (f : ∀ H' M', Ext H M H' M' → MR X.K H' M' → R M' → Q σ H') : gSub (lift X.K W to) (lift X.K W ti) rSetL v σ H Q :=
  lift_bind er mr h fx fun ov H2 M2 o e2 mr2 ro h2 => lift_bind (er.ext e2 mr) mr2 h2 (fx.ext e2) fun iv H3 M3 i e3 mr3 ri h3 =>
    setL_of (ro.ext e3 mr2) ri (rd.ext (e2.trans e3) mr) mr3 h3 fun H' M' x => f H' M' ((e2.trans e3).trans x)
theorem swapped_sub {o i e : Expr} {p : Pos} {env : Env} : swappedStores [.Subscript o i p] e env = pure none := by
  cases e <;> rfl
theorem asgSub {o i : Expr} {p : Pos} {env : Env} (h : plainIxB i = true) : ∀ v, assign (.Subscript o i p) env v = (do let ov ← holding [v] (eval o env); let iv ← holding [v, ov] (eval i env); standAt p; holding [v, ov, iv] (setItem ov iv v); release [v, ov, iv] []) := by
  intro v
  cases i <;> first | rfl | cases h
theorem ds_sub {p : Pos} {i : Expr} (hp : plainIxB i = true) (ho : DE X W o to) (hi : DE X W i ti) (he : DE X W e te) : DS X W (.Assign [.Subscript o i p] e pos) (sSub to ti te) :=
  (ps_asg he (pg_sub ho hi set_list (asgSub hp)) (show swapsWith e (some (.Subscript o i p)) pos.line X.env = pure false from swaps_sub) swapped_sub).imp fun E σ H ⟨σd, M, D, er, mr, q, r⟩ => lift_bind er mr q (r.ex.at er mr) fun v H1 M1 d e1 mr1 rd h1 =>
    gSub_of (er.ext e1 mr) mr1 rd ((r.ex.at er mr).ext e1) h1 fun H4 M4 x mr4 h4 => r.nx σ H4 σd M4 (e1.trans x) mr4 (er.ext (e1.trans x) mr) h4
/-- o1[i1], o2[i2] = e, by a tuple -/
def sSub2 (to ti to2 ti2 te : DTE) : DTS := fun D σ M => te σ M (fun d M1 => ∃ x y, isT d = some [x, y] ∧ to σ M1 (fun o M2 => ti σ M2 (fun i M3 => oSetL o i x M3 fun M4 =>
  to2 σ M4 (fun o2 M5 => ti2 σ M5 (fun i2 M6 => oSetL o2 i2 y M6 fun M7 => D.nx σ M7) (D.ex σ)) (D.ex σ)) (D.ex σ)) (D.ex σ)) (D.ex σ)
theorem swapped_sub2 {o i o2 i2 e : Expr} {p p2 p3 : Pos} {k : Nat} {env : Env} : swappedStores [.Tuple [.Subscript o i p, .Subscript o2 i2 p2] k p3] e env = pure none := by
  cases e <;> first | rfl | skip
  unfold swappedStores
  simp only [List.length_cons, List.length_nil]
  split <;> first | rfl | skip
  split <;> first | rfl | skip
theorem ds_sub2 {p p2 p3 : Pos} {i o2 i2 : Expr} {k : Nat} {to2 ti2 : DTE} (hp : plainIxB i = true) (hp2 : plainIxB i2 = true) (hc : X.calm = true) (ho : DE X W o to) (hi : DE X W i ti) (ho2 : DE X W o2 to2) (hi2 : DE X W i2 ti2) (he : DE X W e te) (hs : noComp e = true) :
    DS X W (.Assign [.Tuple [.Subscript o i p, .Subscript o2 i2 p2] k p3] e pos) (sSub2 to ti to2 ti2 te) :=
  (ps_asg he (pg_tup (n := 2) hc (pgs_cons (pg_sub ho hi set_list (asgSub hp)) (pgs_cons (pg_sub ho2 hi2 set_list (asgSub hp2)) pgs_nil)) rfl rfl) (show swapsWith e (some (.Tuple [.Subscript o i p, .Subscript o2 i2 p2] k p3)) pos.line X.env = pure false from swaps_no hs) swapped_sub2).imp fun E σ H ⟨σd, M, D, er, mr, q, r⟩ => lift_bind er mr q (r.ex.at er mr) fun v H1 M1 d e1 mr1 rd ⟨x, y, hd, h1⟩ => by
    obtain ⟨a, vs, ev, s, rs⟩ := sqT_of rd hd
    obtain ⟨v1, v2, e3, r1, r2⟩ := rs.inv2
    subst e3
    refine ⟨a, _, ev, s, rfl, v1, [v2], rfl, ?_⟩
    refine gSub_of (er.ext e1 mr) mr1 r1 ((r.ex.at er mr).ext e1) h1 fun H4 M4 x4 mr4 h4 => ?_
    refine ⟨v2, [], rfl, ?_⟩
    refine gSub_of (er.ext (e1.trans x4) mr) mr4 (r2.ext x4 mr1) ((r.ex.at er mr).ext (e1.trans x4)) h4 fun H7 M7 x7 mr7 h7 => ?_
    exact ⟨rfl, r.nx σ H7 σd M7 ((e1.trans x4).trans x7) mr7 (er.ext ((e1.trans x4).trans x7) mr) h7⟩
/-! ### x op= e -/
def IpOk (K : PySem.W.Frag) (r : TIp) (t : DOp2) : Prop := ∀ x y vx vy H M R Q, Rep K H M x vx → Rep K H M y vy → MR K H M → t x y M R → Fwd K H M R Q → r vx vy H Q
def oAddI : DOp2 := fun x y M R => match x, y with
  | .int i, .int j => R (.int (i + j)) M
  | _, _ => False
def oMulI : DOp2 := fun x y M R => match x, y with
  | .int i, .int j => MulOk i j ∧ R (.int (i * j)) M
  | _, _ => False
theorem ip_mulA {X : Cx} : PIp X .Mult fun x y H Q => ∃ i j, x = .int i ∧ y = .int j ∧ MulOk i j ∧ Q (.int (i * j)) H := by
  intro pins s σ H x y xv yv Q I rx ry h
  obtain ⟨i, j, rfl, rfl, hm, q⟩ := h
  obtain ⟨t, rfl⟩ := rx
  obtain ⟨t', rfl⟩ := ry
  exact imul_int ⟨.int _, H, I.tok _, ⟨_, rfl⟩, q⟩ hm
theorem ipok_add {K : PySem.W.Frag} : IpOk K (ipI fun i j => i + j) oAddI := by
  intro x y vx vy H M R Q rx ry mr h f
  cases x <;> cases y <;> first | exact h.elim | skip
  cases rx; cases ry; exact ⟨_, _, rfl, rfl, f.int mr h⟩
theorem ipok_sub {K : PySem.W.Frag} : IpOk K (ipI fun i j => i - j) oSub := by
  intro x y vx vy H M R Q rx ry mr h f
  cases x <;> cases y <;> first | exact h.elim | skip
  cases rx; cases ry; exact ⟨_, _, rfl, rfl, f.int mr h⟩
theorem ipok_mul {K : PySem.W.Frag} : IpOk K (fun x y H Q => ∃ i j, x = .int i ∧ y = .int j ∧ MulOk i j ∧ Q (.int (i * j)) H) oMulI := by
  intro x y vx vy H M R Q rx ry mr h f
  cases x <;> cases y <;> first | exact h.elim | skip
  cases rx; cases ry; exact ⟨_, _, rfl, rfl, h.1, f.int mr h.2⟩
def sAug (i : Nat) (te : DTE) (t : DOp2) : DTS := fun D σ M => ∃ x, σ[i]? = some (some x) ∧ te σ M (fun y M1 => t x y M1 fun z M2 => D.nx (σ.set i (some z)) M2) (D.ex σ)
theorem ds_aug {i : Nat} {x : Str} {op : Operator} {r : TIp} {t : DOp2} {p : Pos} (hN : X.N.Nodup) (hi : X.N[i]? = some x) (hx : Loc X.env.scope x) (hf : X.fn x = true ∨ X.env.scope.names.lookup x = some .local) (he : DE X W e te) (ho : PIp X op r) (ok : IpOk X.K r t) : DS X W (.AugAssign (.Name x p) op e pos) (sAug i te t) :=
  (ps_aug hN hi hx he ho hf).imp fun E σ H ⟨σd, M, D, er, mr, ⟨x, hx, q⟩, rr⟩ => by
    obtain ⟨v, hv, rv⟩ := er.2 i x hx
    exact ⟨v, hv, lift_bind er mr q (rr.ex.at er mr) fun w H1 M1 y e1 mr1 ry h => ok x y v w H1 M1 _ _ (rv.ext e1 mr) ry mr1 h fun z H2 M2 zd e2 mr2 rz h2 => rr.nx _ H2 _ M2 (e1.trans e2) mr2 ((er.ext (e1.trans e2) mr).set rz) h2⟩
/-- o[i] op= e -/
def oIdxL (x y : D) (M : DM) (R : DK) : Prop := match y with
  | .int i => 0 ≤ i ∧ ∃ ds d, isL M x = some ds ∧ ds[i.toNat]? = some d ∧ R d M
  | _ => False
def rGetL (K : PySem.W.Frag) : V → V → Hp → VK → Prop := fun x y H Q => ∃ p xs i v, x = .ref p ∧ y = .int i ∧ SqL K H p xs ∧ 0 ≤ i ∧ xs[i.toNat]? = some v ∧ Q v H
theorem pget_list {X : Cx} : PGet X (rGetL X.K) := by
  intro pins s σ H x y v u Q I rx ry h
  obtain ⟨p, xs, i, z, rfl, rfl, hq, h0, he, q⟩ := h
  cases rx
  obtain ⟨t, rfl⟩ := ry
  obtain ⟨its, r, pl, hz⟩ := I.list hq
  obtain ⟨w, ew, rw'⟩ := r.get he
  have hl := r.length
  have hn := line63
  have hlt := (List.getElem?_eq_some_iff.mp he).1
  exact wpAny_getItem_list (x := w) pl.isList h0 (by omega) (by simpa using ew) ⟨z, H, I, rw', q⟩
def sAugS (to ti te : DTE) (t : DOp2) : DTS := fun D σ M => to σ M (fun o M1 => ti σ M1 (fun i M2 => oIdxL o i M2 fun x M3 => te σ M3 (fun y M4 => t x y M4 fun z M5 => oSetL o i z M5 fun M6 => D.nx σ M6) (D.ex σ)) (D.ex σ)) (D.ex σ)
theorem augSt {i : Expr} (h : plainIxB i = true) : ∀ ov iv new, augStore i ov iv new = (do holding [new, ov, iv] (setItem ov iv new); release [new, ov, iv] []; pure .next) := by
  intro ov iv new
  cases i <;> first | rfl | cases h
theorem ds_augS {op : Operator} {r : TIp} {t : DOp2} {p : Pos} {i : Expr} (hpi : plainIxB i = true) (ho : DE X W o to) (hi : DE X W i ti) (he : DE X W e te) (hp : PIp X op r) (ok : IpOk X.K r t) : DS X W (.AugAssign (.Subscript o i p) op e pos) (sAugS to ti te t) :=
  (ps_augS ho hi pget_list he hp set_list (augSt hpi)).imp fun E σ H ⟨σd, M, D, er, mr, q, rr⟩ => by
    have fx := rr.ex.at er mr
    refine lift_bind er mr q fx fun ov H1 M1 o e1 mr1 ro h1 => ?_
    refine lift_bind (er.ext e1 mr) mr1 h1 (fx.ext e1) fun iv H2 M2 i e2 mr2 ri h2 => ?_
    cases i <;> first | exact h2.elim | skip
    rename_i k
    obtain ⟨h0, ds, d, hd, hk, h3⟩ := h2
    obtain ⟨p, vs, ep, s, rs⟩ := sqL_of (ro.ext e2 mr1) mr2 hd
    obtain ⟨v, hv, rv⟩ := rs.get hk
    cases ri
    refine ⟨p, vs, k, v, ep, rfl, s, h0, hv, ?_⟩
    have e12 := e1.trans e2
    refine lift_bind (er.ext e12 mr) mr2 h3 (fx.ext e12) fun w H4 M4 y e4 mr4 ry h4 => ?_
    refine ok d y v w H4 M4 _ _ (rv.ext e4 mr2) ry mr4 h4 fun z H5 M5 zd e5 mr5 rz h5 => ?_
    have e14 := (e12.trans e4).trans e5
    exact setL_of (i := .int k) (((ro.ext e2 mr1).ext e4 mr2).ext e5 mr4) rfl rz mr5 h5 fun H6 M6 e6 mr6 h6 => rr.nx σ H6 σd M6 (e14.trans e6) mr6 (er.ext (e14.trans e6) mr) h6
end
end LD
end

section
set_option maxRecDepth 100000
set_option maxHeartbeats 1000000
namespace LD
open PySem PySem.Spec PyProof.Rows L2
/-! ### what is walked -/
abbrev DTI := DSt → DM → (List D → (DM → Prop) → DM → Prop) → DX → Prop
structure ItOk (K : PySem.W.Frag) (H1 : Hp) (M1 : DM) (J : It) (ds : List D) (chk : DM → Prop) : Prop where
  ex : ∃ (G : Hp → Prop) (Y : Nat → Hp → V → Hp → Prop), L2.Walk J ds.length G Y ∧ (∀ H M, Ext H1 M1 H M → MR K H M → chk M → G H) ∧
    ∀ i H M x H', i < ds.length → Ext H1 M1 H M → MR K H M → chk M → Y i H x H' → ∃ d, ds[i]? = some d ∧ Ext H M H' M ∧ MR K H' M ∧ Rep K H' M d x
def liftI (K : PySem.W.Frag) (W : WX) (t : DTI) : TI := fun σ H R => ∃ σd M Rd Ex, EnvR K H M σd σ ∧ MR K H M ∧ t σd M Rd Ex ∧ (∀ J H' M' ds chk, Ext H M H' M' → MR K H' M' → ItOk K H' M' J ds chk → Rd ds chk M' → R J H') ∧ FwdX K H M Ex (WE W σ)
abbrev DI (X : Cx) (W : WX) (tg iter : Expr) (t : DTI) : Prop := PI X tg iter (liftI X.K W t)
theorem _root_.L2.PI.imp {X : Cx} {tg e : Expr} {t u : TI} (h : PI X tg e t) (i : ∀ σ H Q, u σ H Q → t σ H Q) : PI X tg e u := ⟨fun pins s σ H Q I q => h.run pins s σ H Q I (i σ H Q q)⟩
theorem pi_or {X : Cx} {tg e : Expr} {t u : TI} (h : PI X tg e t) (h' : PI X tg e u) : PI X tg e fun σ H R => t σ H R ∨ u σ H R := ⟨fun pins s σ H Q I q => q.elim (h.run pins s σ H Q I) (h'.run pins s σ H Q I)⟩
section
variable {K : PySem.W.Frag} {H : Hp} {M : DM}
theorem isL_keep {M M' : DM} {d : D} {ds es : List D} (h : isL M d = some ds) (h' : isS M' d = some es) : isL M' d = some es := by
  cases d with
  | tup xs => cases h
  | lst xs => exact h'
  | frz xs => exact h'
  | ref a => exact h'
  | _ => cases h
theorem it_seq {d : D} {v : V} {ds : List D} (r : Rep K H M d v) (mr : MR K H M) (h : isS M d = some ds) : (∃ p, v = .ref p ∧ (∃ vs, SqL K H p vs) ∧ ItOk K H M (Itl K p) ds (fun M' => isS M' d = some ds)) ∨ (∃ p, v = .ref p ∧ (∃ vs, SqT K H p vs) ∧ ItOk K H M (Itt K p) ds (fun M' => isS M' d = some ds)) := by
  rcases isS_cases h with e | e
  · obtain ⟨p, vs, ev, s, q⟩ := sqL_of r mr e
    refine .inl ⟨p, ev, ⟨vs, s⟩, ⟨fun H' => ∃ M', Ext H M H' M' ∧ MR K H' M' ∧ isS M' d = some ds, fun i H' x H'' => H'' = H' ∧ ∀ xs, SqL K H' p xs → xs[i]? = some x, ⟨?_, ?_, ?_⟩, fun H' M' x m c => ⟨M', x, m, c⟩, ?_⟩⟩
    · rintro i H' hi ⟨M', x, m, c⟩
      have c' : isL M' d = some ds := isL_keep e c
      obtain ⟨p', vs', e1, s1, q1⟩ := sqL_of (r.ext x mr) m c'
      rw [ev] at e1; cases e1
      obtain ⟨v, hv, _⟩ := q1.get (List.getElem?_eq_getElem hi)
      exact ⟨vs', v, s1, hv⟩
    · rintro H' ⟨M', x, m, c⟩
      have c' : isL M' d = some ds := isL_keep e c
      obtain ⟨p', vs', e1, s1, q1⟩ := sqL_of (r.ext x mr) m c'
      rw [ev] at e1; cases e1
      exact ⟨vs', s1, by rw [q1.len]; exact Nat.le_refl _⟩
    · rintro i H' x H'' hi _ ⟨y1, y2⟩
      exact ⟨y1, y2⟩
    · rintro i H' M' x H'' hi e1 m c ⟨rfl, y⟩
      have c' : isL M' d = some ds := isL_keep e c
      obtain ⟨p', vs', e2, s1, q1⟩ := sqL_of (r.ext e1 mr) m c'
      rw [ev] at e2; cases e2
      obtain ⟨d', hd, rd⟩ := q1.getV (y _ s1)
      exact ⟨d', hd, .refl, m, rd⟩
  · obtain ⟨p, vs, ev, s, q⟩ := sqT_of r e
    refine .inr ⟨p, ev, ⟨vs, s⟩, ⟨fun H' => ∃ M', Ext H M H' M' ∧ MR K H' M', fun i H' x H'' => H'' = H' ∧ ∀ xs, SqT K H' p xs → xs[i]? = some x, ⟨?_, ?_, ?_⟩, fun H' M' x m c => ⟨M', x, m⟩, ?_⟩⟩
    · rintro i H' hi ⟨M', x, m⟩
      obtain ⟨v, hv, _⟩ := q.get (List.getElem?_eq_getElem hi)
      exact ⟨vs, v, x.sqT mr s, hv⟩
    · rintro H' ⟨M', x, m⟩
      exact ⟨vs, x.sqT mr s, by rw [q.len]; exact Nat.le_refl _⟩
    · rintro i H' x H'' hi _ ⟨y1, y2⟩
      exact ⟨y1, y2⟩
    · rintro i H' M' x H'' hi e1 m c ⟨rfl, y⟩
      obtain ⟨d', hd, rd⟩ := (q.ext e1 mr).getV (y _ (e1.sqT mr s))
      exact ⟨d', hd, .refl, m, rd⟩
end
section
variable {X : Cx} {W : WX} {tg e e2 : Expr} {te : DTE} {t : DTA} {p pos : Pos}
/-- a list or a tuple -/
def iSeq (te : DTE) : DTI := fun σ M R Ex => te σ M (fun d M1 => ∃ ds, isS M1 d = some ds ∧ R ds (fun M' => isS M' d = some ds) M1) Ex
def iSeqV (K : PySem.W.Frag) (tl : TE) : TI := fun σ H R => tl σ H fun x H1 => (∃ a, x = .ref a ∧ (∃ xs, SqL K H1 a xs) ∧ R (Itl K a) H1) ∨ (∃ a, x = .ref a ∧ (∃ xs, SqT K H1 a xs) ∧ R (Itt K a) H1)
theorem pi_seqV {l : Expr} {tl : TE} (hl : PE X l tl) : PI X tg l (iSeqV X.K tl) := by
  refine ⟨fun pins s σ H R I h => ?_⟩
  refine thn (hl.run pins s σ H _ I h) fun v s1 ⟨x, H1, I1, r1, q1⟩ => ?_
  rcases q1 with ⟨a, e, ⟨xs, hq⟩, q⟩ | ⟨a, e, ⟨xs, hq⟩, q⟩
  · subst e
    cases r1
    obtain ⟨its, rv, p, hz⟩ := I1.list hq
    refine wpAny_pyIter_list p.isList ?_
    refine ⟨s1.heap.objs.size, [s1.heap.objs.size], _, _, H1, rfl, I1.kept (t' := s1.toks) fun b o e => Heap.get?_push_of_some _ e, turn_list a _, ⟨_, Heap.get?_push_size _ rfl, rfl, rfl⟩, fun b hb => ?_, q⟩
    have e : b = s1.heap.objs.size := by simpa using hb
    subst e
    exact I1.fpOk (Nat.le_refl _) (I1.hok.fresh (Nat.le_refl _))
  · subst e
    cases r1
    obtain ⟨its, rv, p, hz⟩ := I1.tuple hq
    refine wpAny_pyIter_tuple (show s1.heap.IsTuple a its.toArray from p) ?_
    refine ⟨s1.heap.objs.size, [s1.heap.objs.size], _, _, H1, rfl, I1.kept (t' := s1.toks) fun b o e => Heap.get?_push_of_some _ e, turn_tuple a _, ⟨_, Heap.get?_push_size _ rfl, rfl, rfl⟩, fun b hb => ?_, q⟩
    have e : b = s1.heap.objs.size := by simpa using hb
    subst e
    exact I1.fpOk (Nat.le_refl _) (I1.hok.fresh (Nat.le_refl _))
theorem di_seq (he : DE X W e te) : DI X W tg e (iSeq te) :=
  (pi_seqV he).imp fun σ H R ⟨σd, M, Rd, Ex, er, mr, q, f, fx⟩ => lift_bind er mr q fx fun v H1 M1 d e1 mr1 rd ⟨ds, h1, h2⟩ => by
    rcases it_seq rd mr1 h1 with ⟨p, ev, s, ok⟩ | ⟨p, ev, s, ok⟩
    · exact .inl ⟨p, ev, s, f _ H1 M1 ds _ e1 mr1 ok h2⟩
    · exact .inr ⟨p, ev, s, f _ H1 M1 ds _ e1 mr1 ok h2⟩
/-- range(n), range(a, b) -/
def rangeD (lo : Int) (n : Nat) : List D := (List.range n).map fun i => .int (lo + (i : Nat))
def small62 (i : Int) : Prop := -(2 ^ 62) ≤ i ∧ i < 2 ^ 62
def iRange1 (t : DTA) : DTI := fun σ M R Ex => t σ M (fun xs M1 => match xs with
  | [.int j] => small62 j ∧ R (rangeD 0 j.toNat) (fun _ => True) M1
  | _ => False) Ex
def iRange2 (t : DTA) : DTI := fun σ M R Ex => t σ M (fun xs M1 => match xs with
  | [.int i, .int j] => small62 i ∧ small62 j ∧ R (rangeD i (j - i).toNat) (fun _ => True) M1
  | _ => False) Ex
theorem rangeD_get {lo : Int} {n i : Nat} (h : i < n) : (rangeD lo n)[i]? = some (.int (lo + (i : Nat))) := by
  unfold rangeD
  rw [List.getElem?_map, List.getElem?_range h]
  rfl
theorem rangeD_len {lo : Int} {n : Nat} : (rangeD lo n).length = n := by unfold rangeD; simp
theorem it_range {K : PySem.W.Frag} {H : Hp} {M : DM} {lo : Int} {n : Nat} : ItOk K H M (Itr lo n) (rangeD lo n) (fun _ => True) :=
  ⟨fun _ => True, fun i H x H' => H' = H ∧ x = .int (lo + (i : Nat)), by rw [rangeD_len]; exact L2.walk_range, fun _ _ _ _ _ => trivial, fun i H' M' x H'' hi e m c y => by
    obtain ⟨rfl, rfl⟩ := y
    rw [rangeD_len] at hi
    exact ⟨_, rangeD_get hi, .refl, m, rfl⟩⟩
theorem star2 {a b : Expr} {env : Env} (ha : notStar a = true) (hb : notStar b = true) : starEach [a, b] env = [(false, eval a env), (false, eval b env)] := by
  rw [starEach_ns ha, starEach_ns hb]; rfl
theorem star1 {a : Expr} {env : Env} (ha : notStar a = true) : starEach [a] env = [(false, eval a env)] := by
  rw [starEach_ns ha]; rfl
theorem di_range1 (hg : Gl X "range") (hm : X.mg "range" = none) (ha : DA X W [e] t) (hs : notStar e = true) : DI X W tg (.Call (.Name "range" p) [e] [] pos) (iRange1 t) :=
  (pi_range1 hg hm ha (star1 hs)).imp fun σ H R ⟨σd, M, Rd, Ex, er, mr, q, f, fx⟩ => ⟨σd, M, _, Ex, er, mr, q, fun vs H1 M1 xs e1 mr1 rx q1 => by
    split at q1
    · obtain ⟨v, ev, rv⟩ := rx.inv1
      cases rv
      exact ⟨_, ev, q1.1.1, q1.1.2, f _ H1 M1 _ _ e1 mr1 it_range q1.2⟩
    · exact q1.elim, fx⟩
theorem di_range2 (hg : Gl X "range") (hm : X.mg "range" = none) (ha : DA X W [e, e2] t) (hs : notStar e = true) (hs2 : notStar e2 = true) : DI X W tg (.Call (.Name "range" p) [e, e2] [] pos) (iRange2 t) :=
  (pi_range2 hg hm ha (star2 hs hs2) (star1 hs2)).imp fun σ H R ⟨σd, M, Rd, Ex, er, mr, q, f, fx⟩ => ⟨σd, M, _, Ex, er, mr, q, fun vs H1 M1 xs e1 mr1 rx q1 => by
    split at q1
    · obtain ⟨v, w, ev, rv, rw'⟩ := rx.inv2
      cases rv; cases rw'
      exact ⟨_, _, ev, ⟨q1.1.1, q1.1.2, q1.2.1.1, q1.2.1.2⟩, f _ H1 M1 _ _ e1 mr1 it_range q1.2.2⟩
    · exact q1.elim, fx⟩
/-- enumerate(list) -/
def enumD (ds : List D) : List D := ds.zipIdx.map fun (d, i) => .tup [.int (i : Nat), d]
theorem enumD_get {ds : List D} {i : Nat} {d : D} (h : ds[i]? = some d) : (enumD ds)[i]? = some (.tup [.int (i : Nat), d]) := by
  unfold enumD
  rw [List.getElem?_map, List.getElem?_zipIdx, h]
  simp
theorem enumD_len {ds : List D} : (enumD ds).length = ds.length := by unfold enumD; simp
theorem it_enum {K : PySem.W.Frag} {H : Hp} {M : DM} {d : D} {v : V} {ds : List D} (r : Rep K H M d v) (mr : MR K H M) (h : isL M d = some ds) : ∃ p vs, v = .ref p ∧ SqL K H p vs ∧ ItOk K H M (Ite K p) (enumD ds) (fun M' => isS M' d = some ds) := by
  obtain ⟨p, vs, ev, s, q⟩ := sqL_of r mr h
  refine ⟨p, vs, ev, s, ⟨fun H' => ∃ M', Ext H M H' M' ∧ MR K H' M' ∧ isS M' d = some ds, fun i H' x H'' => ∃ T y, x = .ref T ∧ H' T = none ∧ H'' = upd H' T (.tup [.int (i : Nat), y]) ∧ ∀ xs, SqL K H' p xs → xs[i]? = some y, ⟨?_, ?_, ?_⟩, fun H' M' x m c => ⟨M', x, m, c⟩, ?_⟩⟩
  · rintro i H' hi ⟨M', x, m, c⟩
    rw [enumD_len] at hi
    obtain ⟨p', vs', e1, s1, q1⟩ := sqL_of (r.ext x mr) m (isL_keep h c)
    rw [ev] at e1; cases e1
    obtain ⟨v, hv, _⟩ := q1.get (List.getElem?_eq_getElem hi)
    exact ⟨vs', v, s1, hv⟩
  · rintro H' ⟨M', x, m, c⟩
    obtain ⟨p', vs', e1, s1, q1⟩ := sqL_of (r.ext x mr) m (isL_keep h c)
    rw [ev] at e1; cases e1
    exact ⟨vs', s1, by rw [enumD_len, q1.len]; exact Nat.le_refl _⟩
  · rintro i H' x H'' hi _ y
    exact y
  · rintro i H' M' x H'' hi e1 m c ⟨T, y, rfl, hT, rfl, hy⟩
    obtain ⟨p', vs', e2, s1, q1⟩ := sqL_of (r.ext e1 mr) m (isL_keep h c)
    rw [ev] at e2; cases e2
    obtain ⟨d', hd, rd⟩ := q1.getV (hy _ s1)
    refine ⟨_, enumD_get hd, Ext.laid0 hT, m.laid0 hT, ?_⟩
    unfold Rep
    exact ⟨T, _, rfl, SqT.of upd_same, .cons rfl (.single (rd.ext (Ext.laid0 hT) m))⟩
def iEnumD (t : DTA) : DTI := fun σ M R Ex => t σ M (fun xs M1 => match xs with
  | [x] => ∃ ds, isL M1 x = some ds ∧ R (enumD ds) (fun M' => isS M' x = some ds) M1
  | _ => False) Ex
theorem di_enum {tpos : Pos} {elts : List Expr} {kk : Nat} (hg : Gl X "enumerate") (hm : X.mg "enumerate" = none) (ha : DA X W [e] t) (hs : notStar e = true) : DI X W (.Tuple elts kk tpos) (.Call (.Name "enumerate" p) [e] [] pos) (iEnumD t) :=
  (pi_enum hg hm ha (star1 hs)).imp fun σ H R ⟨σd, M, Rd, Ex, er, mr, q, f, fx⟩ => ⟨σd, M, _, Ex, er, mr, q, fun vs H1 M1 xs e1 mr1 rx q1 => by
    split at q1
    · obtain ⟨v, ev, rv⟩ := rx.inv1
      obtain ⟨ds, h1, h2⟩ := q1
      obtain ⟨p, ws, e2, s, ok⟩ := it_enum rv mr1 h1
      subst e2
      exact ⟨p, ws, ev, s, f _ H1 M1 _ _ e1 mr1 ok h2⟩
    · exact q1.elim, fx⟩
/-- zip of two lists, of two tuples -/
def zipD (xs ys : List D) : List D := List.zipWith (fun x y => .tup [x, y]) xs ys
theorem zipD_get {xs ys : List D} {i : Nat} {x y : D} (hx : xs[i]? = some x) (hy : ys[i]? = some y) : (zipD xs ys)[i]? = some (.tup [x, y]) := by
  unfold zipD
  rw [List.getElem?_zipWith, hx, hy]
theorem zipD_len {xs ys : List D} : (zipD xs ys).length = min xs.length ys.length := by unfold zipD; simp
theorem it_zipL {K : PySem.W.Frag} {H : Hp} {M : DM} {d d2 : D} {v v2 : V} {ds es : List D} (r : Rep K H M d v) (r2 : Rep K H M d2 v2) (mr : MR K H M) (h : isL M d = some ds) (h2 : isL M d2 = some es) :
    ∃ p p2 vs ws, v = .ref p ∧ v2 = .ref p2 ∧ SqL K H p vs ∧ SqL K H p2 ws ∧ ItOk K H M (Itz K p p2) (zipD ds es) (fun M' => isS M' d = some ds ∧ isS M' d2 = some es) := by
  obtain ⟨p, vs, ev, s, q⟩ := sqL_of r mr h
  obtain ⟨p2, ws, ev2, s2, q2⟩ := sqL_of r2 mr h2
  refine ⟨p, p2, vs, ws, ev, ev2, s, s2, ⟨fun H' => ∃ M', Ext H M H' M' ∧ MR K H' M' ∧ isS M' d = some ds ∧ isS M' d2 = some es, fun i H' x H'' => ∃ T y z, x = .ref T ∧ H' T = none ∧ H'' = upd H' T (.tup [y, z]) ∧ (∀ xs, SqL K H' p xs → xs[i]? = some y) ∧ ∀ xs, SqL K H' p2 xs → xs[i]? = some z, ⟨?_, ?_, ?_⟩, fun H' M' x m c => ⟨M', x, m, c⟩, ?_⟩⟩
  · rintro i H' hi ⟨M', x, m, c, c2⟩
    rw [zipD_len] at hi
    obtain ⟨p', vs', e1, s1, q1⟩ := sqL_of (r.ext x mr) m (isL_keep h c)
    obtain ⟨p2', vs2', e2, s2', q2'⟩ := sqL_of (r2.ext x mr) m (isL_keep h2 c2)
    rw [ev] at e1; cases e1
    rw [ev2] at e2; cases e2
    obtain ⟨v, hv, _⟩ := q1.get (List.getElem?_eq_getElem (show i < ds.length by omega))
    obtain ⟨w, hw, _⟩ := q2'.get (List.getElem?_eq_getElem (show i < es.length by omega))
    exact ⟨vs', vs2', v, w, s1, s2', hv, hw⟩
  · rintro H' ⟨M', x, m, c, c2⟩
    obtain ⟨p', vs', e1, s1, q1⟩ := sqL_of (r.ext x mr) m (isL_keep h c)
    obtain ⟨p2', vs2', e2, s2', q2'⟩ := sqL_of (r2.ext x mr) m (isL_keep h2 c2)
    rw [ev] at e1; cases e1
    rw [ev2] at e2; cases e2
    refine ⟨vs', vs2', s1, s2', ?_⟩
    rw [zipD_len, ← q1.len, ← q2'.len]; omega
  · rintro i H' x H'' hi _ y
    exact y
  · rintro i H' M' x H'' hi e1 m ⟨c, c2⟩ ⟨T, y, z, rfl, hT, rfl, hy, hz⟩
    obtain ⟨p', vs', e3, s1, q1⟩ := sqL_of (r.ext e1 mr) m (isL_keep h c)
    obtain ⟨p2', vs2', e4, s2', q2'⟩ := sqL_of (r2.ext e1 mr) m (isL_keep h2 c2)
    rw [ev] at e3; cases e3
    rw [ev2] at e4; cases e4
    obtain ⟨d', hd, rd⟩ := q1.getV (hy _ s1)
    obtain ⟨d2', hd2, rd2⟩ := q2'.getV (hz _ s2')
    refine ⟨_, zipD_get hd hd2, Ext.laid0 hT, m.laid0 hT, ?_⟩
    unfold Rep
    exact ⟨T, _, rfl, SqT.of upd_same, .cons (rd.ext (Ext.laid0 hT) m) (.single (rd2.ext (Ext.laid0 hT) m))⟩
theorem it_zipT {K : PySem.W.Frag} {H : Hp} {M : DM} {d d2 : D} {v v2 : V} {ds es : List D} (r : Rep K H M d v) (r2 : Rep K H M d2 v2) (mr : MR K H M) (h : isT d = some ds) (h2 : isT d2 = some es) :
    ∃ p p2 vs ws, v = .ref p ∧ v2 = .ref p2 ∧ SqT K H p vs ∧ SqT K H p2 ws ∧ ItOk K H M (RZ.ItzT K p p2) (zipD ds es) (fun _ => True) := by
  obtain ⟨p, vs, ev, s, q⟩ := sqT_of r h
  obtain ⟨p2, ws, ev2, s2, q2⟩ := sqT_of r2 h2
  refine ⟨p, p2, vs, ws, ev, ev2, s, s2, ⟨fun H' => ∃ M', Ext H M H' M' ∧ MR K H' M', fun i H' x H'' => ∃ T y z, x = .ref T ∧ H' T = none ∧ H'' = upd H' T (.tup [y, z]) ∧ (∀ xs, SqT K H' p xs → xs[i]? = some y) ∧ ∀ xs, SqT K H' p2 xs → xs[i]? = some z, ⟨?_, ?_, ?_⟩, fun H' M' x m c => ⟨M', x, m⟩, ?_⟩⟩
  · rintro i H' hi ⟨M', x, m⟩
    rw [zipD_len] at hi
    obtain ⟨v, hv, _⟩ := q.get (List.getElem?_eq_getElem (show i < ds.length by omega))
    obtain ⟨w, hw, _⟩ := q2.get (List.getElem?_eq_getElem (show i < es.length by omega))
    exact ⟨vs, ws, v, w, x.sqT mr s, x.sqT mr s2, hv, hw⟩
  · rintro H' ⟨M', x, m⟩
    refine ⟨vs, ws, x.sqT mr s, x.sqT mr s2, ?_⟩
    rw [zipD_len, ← q.len, ← q2.len]; omega
  · rintro i H' x H'' hi _ y
    exact y
  · rintro i H' M' x H'' hi e1 m _ ⟨T, y, z, rfl, hT, rfl, hy, hz⟩
    obtain ⟨d', hd, rd⟩ := (q.ext e1 mr).getV (hy _ (e1.sqT mr s))
    obtain ⟨d2', hd2, rd2⟩ := (q2.ext e1 mr).getV (hz _ (e1.sqT mr s2))
    refine ⟨_, zipD_get hd hd2, Ext.laid0 hT, m.laid0 hT, ?_⟩
    unfold Rep
    exact ⟨T, _, rfl, SqT.of upd_same, .cons (rd.ext (Ext.laid0 hT) m) (.single (rd2.ext (Ext.laid0 hT) m))⟩
/-- is it a list here, is it a tuple -/
def iZipD (t : DTA) : DTI := fun σ M R Ex => t σ M (fun xs M1 => match xs with
  | [.tup as, .tup bs] => R (zipD as bs) (fun _ => True) M1
  | [x, y] => ∃ as bs, isL M1 x = some as ∧ isL M1 y = some bs ∧ R (zipD as bs) (fun M' => isS M' x = some as ∧ isS M' y = some bs) M1
  | _ => False) Ex
theorem di_zip {tpos : Pos} {elts : List Expr} {kk : Nat} (hg : Gl X "zip") (hm : X.mg "zip" = none) (ha : DA X W [e, e2] t) (hs : notStar e = true) (hs2 : notStar e2 = true) : DI X W (.Tuple elts kk tpos) (.Call (.Name "zip" p) [e, e2] [] pos) (iZipD t) :=
  (RZ.pi_zipA hg hm ha (by rw [starEach_ns hs]) (plain_args (by simp [hs2]))).imp fun σ H R ⟨σd, M, Rd, Ex, er, mr, q, f, fx⟩ => ⟨σd, M, _, Ex, er, mr, q, fun vs H1 M1 xs e1 mr1 rx q1 => by
    split at q1
    · obtain ⟨v, w, ev, rv, rw'⟩ := rx.inv2
      rename_i as bs
      obtain ⟨p, p2, us, ws, e3, e4, s3, s4, ok⟩ := it_zipT (ds := as) (es := bs) rv rw' mr1 rfl rfl
      subst e3; subst e4
      exact ⟨p, p2, us, ws, ev, .inr ⟨s3, s4, f _ H1 M1 _ _ e1 mr1 ok q1⟩⟩
    · obtain ⟨v, w, ev, rv, rw'⟩ := rx.inv2
      obtain ⟨as, bs, h1, h2, h3⟩ := q1
      obtain ⟨p, p2, us, ws, e3, e4, s3, s4, ok⟩ := it_zipL rv rw' mr1 h1 h2
      subst e3; subst e4
      exact ⟨p, p2, us, ws, ev, .inl ⟨s3, s4, f _ H1 M1 _ _ e1 mr1 ok h3⟩⟩
    · exact q1.elim, fx⟩
end
/-! ### for -/
section
variable {X : Cx} {W : WX} {tg iter e : Expr} {body : List Stmt} {it : DTI} {p : Pat} {tb : DTS} {pos : Pos} {uc : DTT}
def sLoop (p : Pat) (tb : DTS) (chk : DM → Prop) : List D → DTS
  | [], D, σ, M => chk M ∧ D.nx σ M
  | d :: ds, D, σ, M => chk M ∧ ∃ σ1, stP M p d σ = some σ1 ∧ tb { D with nx := sLoop p tb chk ds D, ct := sLoop p tb chk ds D, bk := D.nx } σ1 M
def sFor (it : DTI) (p : Pat) (tb : DTS) : DTS := fun D σ M => it σ M (fun ds chk M1 => sLoop p tb chk ds D σ M1) (D.ex σ)
theorem sLoop_chk {p : Pat} {tb : DTS} {chk : DM → Prop} {ds : List D} {D : DEnds} {σ : DSt} {M : DM} (h : sLoop p tb chk ds D σ M) : chk M := by
  cases ds <;> exact h.1
theorem ds_for (hp : PassesOwn (model X.prog X.w) X.A X.env X.xe) (hc : X.calm = true) (hi : DI X W tg iter it) (hg : PG X tg (gPat X.K p)) (hb : DSs X W body tb) (hs : ∀ x, foldedSetIterable iter X.env x = pure x) : DS X W (.For tg iter body [] pos) (sFor it p tb) :=
  (ps_for hp hc hi hg hb hs).imp fun E σ H ⟨σd, M, D, er, mr, q, r⟩ => ⟨σd, M, _, D.ex σd, er, mr, q, fun J H1 M1 ds chk e1 mr1 ok q1 => by
    obtain ⟨G, Y, w, hG, hY⟩ := ok.ex
    refine L2.for_it w (fun i σ' H' => ∃ σd' M', Ext H1 M1 H' M' ∧ EnvR X.K H' M' σd' σ' ∧ MR X.K H' M' ∧ sLoop p tb chk (ds.drop i) D σd' M') ⟨σd, M1, .refl, er.ext e1 mr, mr1, q1⟩ (fun i σ' H' _ ⟨σd', M', x, er', mr', q'⟩ => hG H' M' x mr' (sLoop_chk q')) ?_ ?_
    · rintro i x σ' H2 H3 hi ⟨σd', M', x2, er', mr', q'⟩ y
      obtain ⟨d, hd, x3, mr3, rd⟩ := hY i H2 M' x H3 hi x2 mr' (sLoop_chk q') y
      have hdr : ds.drop i = d :: ds.drop (i + 1) := by
        rw [List.drop_eq_getElem_cons hi]
        congr 1
        exact Option.some.inj ((List.getElem?_eq_getElem hi).symm.trans hd)
      rw [hdr] at q'
      obtain ⟨_, σ1, h1, h2⟩ := q'
      refine gPat_of mr3 h1 rd (er'.ext x3 mr') fun σ2 er2 _ => ?_
      have ex : Ext H M H3 M' := (e1.trans x2).trans x3
      have nxt : FwdS X.K H3 M' (sLoop p tb chk (ds.drop (i + 1)) D) fun σ' H' => ∃ σd' M', Ext H1 M1 H' M' ∧ EnvR X.K H' M' σd' σ' ∧ MR X.K H' M' ∧ sLoop p tb chk (ds.drop (i + 1)) D σd' M' :=
        fun σ4 H4 σd4 M4 x4 mr4 er4 q4 => ⟨σd4, M4, (x2.trans x3).trans x4, er4, mr4, q4⟩
      exact ⟨σ1, M', _, er2, mr3, h2, ⟨nxt, r.rt.ext ex, r.nx.ext ex, nxt, r.ex.ext ex⟩⟩
    · rintro σ' H2 ⟨σd', M', x2, er', mr', q'⟩
      rw [List.drop_eq_nil_of_le (Nat.le_refl _)] at q'
      exact r.nx σ' H2 σd' M' (e1.trans x2) mr' er' q'.2, r.ex.at er mr⟩
/-! ### while -/
def sWh (c : DTT) (tb : DTS) : Nat → DTS
  | 0, _, _, _ => False
  | n + 1, D, σ, M => c σ M (fun k M1 => if k = true then tb { D with nx := sWh c tb n D, ct := sWh c tb n D, bk := D.nx } σ M1 else D.nx σ M1) (D.ex σ)
def sWhile (c : DTT) (tb : DTS) : DTS := fun D σ M => ∃ n, sWh c tb n D σ M
theorem ds_while (hp : PassesOwn (model X.prog X.w) X.A X.env X.xe) (hc : DT X W e uc) (hb : DSs X W body tb) : DS X W (.While e body [] pos) (sWhile uc tb) :=
  (ps_while hp hc hb).imp fun E σ H ⟨σd, M, D, er, mr, ⟨n, q⟩, r⟩ => by
    refine ⟨fun m σ' H' => ∃ σd' M', Ext H M H' M' ∧ EnvR X.K H' M' σd' σ' ∧ MR X.K H' M' ∧ sWh uc tb m D σd' M', ⟨n, σd, M, .refl, er, mr, q⟩, ?_⟩
    rintro m σ' H' ⟨σd', M', x, er', mr', q'⟩
    cases m with
    | zero => exact q'.elim
    | succ m =>
      refine liftT_bind er' mr' q' ((r.ex.ext x).at er' mr') fun k H1 M1 e1 mr1 h1 => ?_
      cases k with
      | false => exact r.nx _ H1 _ M1 (x.trans e1) mr1 (er'.ext e1 mr') h1
      | true =>
        refine ⟨fun σ2 H2 => ∃ σd2 M2, Ext H M H2 M2 ∧ EnvR X.K H2 M2 σd2 σ2 ∧ MR X.K H2 M2 ∧ sWh uc tb m D σd2 M2, fun σ2 H2 h => ⟨m, Nat.lt_succ_self _, h⟩, ?_⟩
        have ex := x.trans e1
        have nxt : FwdS X.K H1 M1 (sWh uc tb m D) fun σ2 H2 => ∃ σd2 M2, Ext H M H2 M2 ∧ EnvR X.K H2 M2 σd2 σ2 ∧ MR X.K H2 M2 ∧ sWh uc tb m D σd2 M2 := fun σ4 H4 σd4 M4 x4 mr4 er4 q4 => ⟨σd4, M4, ex.trans x4, er4, mr4, q4⟩
        exact ⟨σd', M1, _, er'.ext e1 mr', mr1, h1, ⟨nxt, r.rt.ext ex, r.nx.ext ex, nxt, r.ex.ext ex⟩⟩
/-! ### comprehensions -/
def wipeD (σ : DSt) : List Nat → DSt
  | [] => σ
  | v :: vs => (wipeD σ vs).set v none
theorem wipeD_length (σ : DSt) : ∀ vs : List Nat, (wipeD σ vs).length = σ.length
  | [] => rfl
  | v :: vs => by unfold wipeD; rw [List.length_set, wipeD_length σ vs]
theorem EnvR.unset {K : PySem.W.Frag} {H : Hp} {M : DM} {σd : DSt} {σ : L2.St} (er : EnvR K H M σd σ) {i : Nat} : EnvR K H M (σd.set i none) (σ.set i none) := by
  refine ⟨by rw [List.length_set, List.length_set]; exact er.1, fun j d' h => ?_⟩
  by_cases hj : i = j
  · subst hj
    by_cases hi : i < σd.length
    · rw [List.getElem?_set_self hi] at h; cases h
    · rw [List.getElem?_eq_none (by rw [List.length_set]; omega)] at h; cases h
  · rw [List.getElem?_set_ne hj] at h ⊢
    exact er.2 j d' h
theorem EnvR.wipe {K : PySem.W.Frag} {H : Hp} {M : DM} {σd : DSt} {σ : L2.St} (er : EnvR K H M σd σ) : ∀ vs : List Nat, EnvR K H M (wipeD σd vs) (L2.wipe σ vs)
  | [] => er
  | _ :: vs => (er.wipe vs).unset
def noX : DX := fun _ _ _ => False
def lcLoop (p : Pat) (c : Option DTT) (te : DTE) (chk : DM → Prop) (a : Addr) (σ : DSt) (R : DK) : List D → List D → DM → Prop
  | [], acc, M => chk M ∧ M a = some (.lst acc) ∧ R (.ref a) M
  | d :: ds, acc, M => chk M ∧ ∃ σ1, stP M p d σ = some σ1 ∧ (match c with
    | none => te σ1 M (fun y M3 => M3 a = some (.lst acc) ∧ acc.length < sizeLine ∧ lcLoop p c te chk a σ R ds (acc ++ [y]) (updM M3 a (.lst (acc ++ [y])))) noX
    | some u => u σ1 M (fun k M2 => if k = true then te σ1 M2 (fun y M3 => M3 a = some (.lst acc) ∧ acc.length < sizeLine ∧ lcLoop p c te chk a σ R ds (acc ++ [y]) (updM M3 a (.lst (acc ++ [y])))) noX else M2 a = some (.lst acc) ∧ lcLoop p c te chk a σ R ds acc M2) noX)
def dLc (it : DTI) (p : Pat) (c : Option DTT) (te : DTE) (own : List Nat) : DTE := fun σ M R Ex => it σ M (fun ds chk M1 => ∀ a, M1 a = none → lcLoop p c te chk a (wipeD σ own) R ds [] (updM M1 a (.lst []))) Ex
theorem lcLoop_chk {p : Pat} {c : Option DTT} {te : DTE} {chk : DM → Prop} {a : Addr} {σ : DSt} {R : DK} {ds acc : List D} {M : DM} (h : lcLoop p c te chk a σ R ds acc M) : chk M := by
  cases ds <;> exact h.1
/-- the tests' reading -/
def ttOf (K : PySem.W.Frag) : Option DTT → TT
  | none => L2.tYes
  | some u => liftT K (fun _ _ _ _ => False) u
theorem noX_fwd {K : PySem.W.Frag} {H : Hp} {M : DM} {E : XK} : FwdX K H M noX E := fun _ _ _ _ _ _ _ _ z => z.elim
theorem tLc_of {c : Option DTT} {te : DTE} {own : List Nat} (hown : ∀ i ∈ namesP p, i ∈ own) : ∀ σ H Q, lift X.K W (dLc it p c te own) σ H Q →
    L2.tLc (liftI X.K W it) (gPat X.K p) (ttOf X.K c) (lift X.K (fun _ _ _ _ => False) te) own σ H Q := fun σ H Q ⟨σd, M, R, Ex, er, mr, q, f, fx⟩ => ⟨σd, M, _, Ex, er, mr, q, fun J H1 M1 ds chk e1 mr1 ok q1 => by
  obtain ⟨G, Y, w, hG, hY⟩ := ok.ex
  intro L hL
  have q2 := q1 L (mr1.free hL)
  have xL : Ext H1 M1 (upd H1 L (.lst [])) (updM M1 L (.lst [])) := Ext.laid hL
  have mL : MR X.K (upd H1 L (.lst [])) (updM M1 L (.lst [])) := mr1.laid hL ⟨[], upd_same, .nil⟩
  refine L2.lc_it w (fun i H' => ∃ M' acc, Ext H1 M1 H' M' ∧ MR X.K H' M' ∧ lcLoop p c te chk L (wipeD σd own) R (ds.drop i) acc M') ⟨_, [], xL, mL, q2⟩ (fun i H' _ ⟨M', acc, x, mr', q'⟩ => hG H' M' x mr' (lcLoop_chk q')) ?_ ?_
  · rintro i x H2 H3 hi ⟨M', acc, x2, mr', q'⟩ y
    obtain ⟨d, hd, x3, mr3, rd⟩ := hY i H2 M' x H3 hi x2 mr' (lcLoop_chk q') y
    have hdr : ds.drop i = d :: ds.drop (i + 1) := by
      rw [List.drop_eq_getElem_cons hi]
      congr 1
      exact Option.some.inj ((List.getElem?_eq_getElem hi).symm.trans hd)
    rw [hdr] at q'
    obtain ⟨_, σ1, h1, h2⟩ := q'
    have er3 : EnvR X.K H3 M' (wipeD σd own) (L2.wipe σ own) := (er.wipe own).ext ((e1.trans x2).trans x3) mr
    refine gPat_of mr3 h1 rd er3 fun σ2 er2 hw => ⟨by
      rw [hw own hown]
      have : ∀ vs : List Nat, ∀ v ∈ vs, (L2.wipe σ vs).set v none = L2.wipe σ vs := by
        intro vs
        induction vs with
        | nil => intro v hv; cases hv
        | cons u us ih =>
          intro v hv
          show ((L2.wipe σ us).set u none).set v none = (L2.wipe σ us).set u none
          by_cases e : u = v
          · subst e; rw [List.set_set]
          · rcases List.mem_cons.mp hv with z | z
            · exact absurd z.symm e
            · rw [List.set_comm _ _ e, ih v z]
      have : ∀ ws : List Nat, (∀ v ∈ ws, v ∈ own) → L2.wipe (L2.wipe σ own) ws = L2.wipe σ own := by
        intro ws
        induction ws with
        | nil => intro _; rfl
        | cons u us ih =>
          intro h
          show (L2.wipe (L2.wipe σ own) us).set u none = L2.wipe σ own
          rw [ih fun v hv => h v (List.mem_cons_of_mem _ hv)]
          exact this own u (h u List.mem_cons_self)
      exact (this own fun v hv => hv), ?_⟩
    have el : ∀ M4 H4, Ext H3 M' H4 M4 → MR X.K H4 M4 → te σ1 M4 (fun y M3 => M3 L = some (.lst acc) ∧ acc.length < sizeLine ∧ lcLoop p c te chk L (wipeD σd own) R (ds.drop (i + 1)) (acc ++ [y]) (updM M3 L (.lst (acc ++ [y])))) noX →
        lift X.K (fun _ _ _ _ => False) te σ2 H4 fun y H5 => ∃ acc, H5 L = some (.lst acc) ∧ acc.length < sizeLine ∧ ∃ M' acc', Ext H1 M1 (upd H5 L (.lst (acc ++ [y]))) M' ∧ MR X.K (upd H5 L (.lst (acc ++ [y]))) M' ∧ lcLoop p c te chk L (wipeD σd own) R (ds.drop (i + 1)) acc' M' := fun M4 H4 x4 mr4 hq =>
      ⟨σ1, M4, _, noX, er2.ext x4 mr3, mr4, hq, fun v H5 M5 yd x5 mr5 ry ⟨h3, h4, h5⟩ => by
        obtain ⟨vs, e6, r6⟩ := mr5 L _ h3
        refine ⟨vs, e6, by rw [← r6.len]; exact h4, _, _, ?_, ?_, h5⟩
        · exact (((x2.trans x3).trans x4).trans x5).trans (Ext.wrote h3)
        · exact mr5.wrote (mo' := .lst (acc ++ [yd])) h3 ⟨_, upd_same, (r6.append (.single ry)).ext (Ext.wrote h3) mr5⟩, noX_fwd⟩
    cases c with
    | none =>
      simp only [ttOf, L2.tYes, ↓reduceIte]
      exact el M' H3 .refl mr3 h2
    | some u =>
      refine ⟨σ1, M', _, noX, er2, mr3, h2, fun k H4 M4 x4 mr4 h3 => ?_, noX_fwd⟩
      cases k with
      | true => exact el M4 H4 x4 mr4 h3
      | false => exact ⟨M4, acc, (x2.trans x3).trans x4, mr4, h3.2⟩
  · rintro H2 ⟨M', acc, x2, mr', q'⟩
    rw [List.drop_eq_nil_of_le (Nat.le_refl _)] at q'
    exact f (.ref L) H2 M' (.ref L) (e1.trans x2) mr' rfl q'.2.2, fx⟩
end
end LD
end

section
set_option maxRecDepth 100000
set_option maxHeartbeats 1000000
namespace LD
open PySem PySem.Spec PyProof.Rows L2
section
variable {X : Cx} {W : WX} {tg iter e o elt : Expr} {es ifs : List Expr} {it : DTI} {p : Pat} {te to ta : DTE} {t : DTA} {pos apos cpos : Pos} {c : Option DTT}
abbrev W0 : WX := fun _ _ _ _ => False
theorem de_lc {scope : Scope} {own : List (Str × Nat)} (hc : X.calm = true) (hN : X.N.Nodup) (hi : DI X W tg iter it) (ok : BlkOk X.N X.env.scope scope own) (hown : ∀ i ∈ namesP p, i ∈ own.map (·.2))
    (hg : ∀ (s : Shared) (H : Hp) (C : Addr) (cl : List (Str × Addr)) (fp : List Addr), PG (X.blk s H scope (compEnvC scope cl C X.env) fp) tg (gPat X.K p))
    (ht : ∀ (s : Shared) (H : Hp) (C : Addr) (cl : List (Str × Addr)) (fp : List Addr), PTs (X.blk s H scope (compEnvC scope cl C X.env) fp) ifs (ttOf X.K c))
    (he : ∀ (s : Shared) (H : Hp) (C : Addr) (cl : List (Str × Addr)) (fp : List Addr), DE (X.blk s H scope (compEnvC scope cl C X.env) fp) W0 elt te) (hs : ∀ x, foldedSetIterable iter X.env x = pure x) :
    DE X W (.ListComp elt [⟨tg, iter, ifs, 0⟩] scope pos) (dLc it p c te (own.map (·.2))) :=
  (pe_lc hc hN hi ok hg ht he hs).imp (tLc_of hown)
theorem ds_setLc {i : Nat} {y : Str} {py spos : Pos} {scope : Scope} {own : List (Str × Nat)} (hc : X.calm = true) (hN : X.N.Nodup) (hy : X.N[i]? = some y) (hyl : X.env.scope.names.lookup y = some .local)
    (hsw : swapsWith (.ListComp elt [⟨tg, iter, ifs, 0⟩] scope pos) (some (.Name y py)) spos.line X.env = pure true) (hi : DI X W tg iter it) (ok : BlkOk X.N X.env.scope scope own) (hown : ∀ i ∈ namesP p, i ∈ own.map (·.2))
    (hg : ∀ (s : Shared) (H : Hp) (C : Addr) (cl : List (Str × Addr)) (fp : List Addr), PG (X.blk s H scope (compEnvC scope cl C X.env) fp) tg (gPat X.K p))
    (ht : ∀ (s : Shared) (H : Hp) (C : Addr) (cl : List (Str × Addr)) (fp : List Addr), PTs (X.blk s H scope (compEnvC scope cl C X.env) fp) ifs (ttOf X.K c))
    (he : ∀ (s : Shared) (H : Hp) (C : Addr) (cl : List (Str × Addr)) (fp : List Addr), DE (X.blk s H scope (compEnvC scope cl C X.env) fp) W0 elt te) (hs : ∀ x, foldedSetIterable iter X.env x = pure x) (frz : Bool) :
    DS X W (.Assign [.Name y py] (.ListComp elt [⟨tg, iter, ifs, 0⟩] scope pos) spos) (sSet i (if frz then dFrz (dLc it p c te (own.map (·.2))) else dLc it p c te (own.map (·.2)))) := by
  refine (ps_setLc (te := lift X.K W0 te) hc hN hy hyl hsw hi ok hg ht he hs).imp fun E σ H h => ?_
  cases frz with
  | false =>
    have h0 : liftS X.K W (sSet i (dLc it p c te (own.map (·.2)))) E σ H := by simpa using h
    have h' := tAsgN_of (X := X) (W := W) (i := i) (te := dLc it p c te (own.map (·.2))) E σ H h0
    exact tLc_of hown σ H _ h'
  | true =>
    have h0 : liftS X.K W (sSet i (dFrz (dLc it p c te (own.map (·.2))))) E σ H := by simpa using h
    obtain ⟨σd, M, D, er, mr, q, r⟩ := h0
    refine tLc_of hown σ H _ ⟨σd, M, _, D.ex σd, er, mr, q, fun v H1 M1 x e1 mr1 rx q1 => ?_, r.ex.at er mr⟩
    have go : ∀ M2 d, Ext H1 M1 H1 M2 → MR X.K H1 M2 → Rep X.K H1 M2 d v → D.nx (σd.set i (some d)) M2 → gName i v σ H1 E.nx := fun M2 d e2 mr2 rd h => r.nx _ H1 _ M2 (e1.trans e2) mr2 ((er.ext (e1.trans e2) mr).set rd) h
    cases x with
    | ref a =>
      cases rx
      simp only at q1
      cases h : M1 a with
      | none => simp only [h] at q1
      | some m =>
        cases m with
        | lst ds =>
          simp only [h] at q1
          obtain ⟨vs, h1, r1⟩ := mr1 a _ h
          exact go (delM M1 a) (.lst ds) Ext.froze mr1.froze (by unfold Rep; exact ⟨a, vs, rfl, delM_same, h1, r1.ext Ext.froze mr1⟩) q1
        | ins C ns ds =>
          simp only [h] at q1
          obtain ⟨dx, vs, h1, l1, r1⟩ := mr1 a _ h
          exact go (delM M1 a) (.obj C ns ds) Ext.froze mr1.froze (by unfold Rep; exact ⟨a, dx, vs, rfl, delM_same, h1, l1, r1.ext Ext.froze mr1⟩) q1
    | _ => exact go M1 _ .refl mr1 rx q1

/-! ### methods of the built-in types -/
abbrev DMt := D → List D → DM → DK → Prop
def MOk2 (K : PySem.W.Frag) (r : V → List V → Hp → VK → Prop) (t : DMt) : Prop := ∀ x xs vx vxs H M R Q, Rep K H M x vx → Reps K H M xs vxs → MR K H M → t x xs M R → Fwd K H M R Q → r vx vxs H Q
def dBM (ty : DM → D → Prop) (t : DMt) (to : DTE) (ta : DTA) : DTE := fun σ M R Ex => to σ M (fun x M1 => ty M1 x ∧ ta σ M1 (fun xs M2 => t x xs M2 R) Ex) Ex
theorem few_of {es : List Expr} {env : Env} {cpos : Pos} (hs : es.all notStar = true) (hn : decide (es.length < 30) = true) : ((backTo cpos (starEach es env)).all (fun x => !x.1) && (backToKw cpos (keywordEach [] env)).all (fun x => x.1.isSome)
      && decide (es.length + ([] : List Keyword).length + (if ([] : List Keyword).isEmpty then 0 else 1) < 30)) = true := by
  rw [noStar_all hs]
  show (true && true && decide (es.length + 0 + 0 < 30)) = true
  simpa using hn
theorem de_bm {T : String} {name : Str} {id : String} {r : V → List V → Hp → VK → Prop} {ty : DM → D → Prop} {t' : DMt} (pa : PlainAttrs T) (slot : Slot T name id) (hty : typeOf (.builtin id) = pure (.type "method_descriptor")) (hm : MtR X id r)
    (hok : MOk2 X.K r t') (hT : ∀ x vx H M, Rep X.K H M x vx → MR X.K H M → ty M x → tyV X.K T vx H) (ho : DE X W o to) (ha : DA X W (e :: es) t) (hb : plainBase o = true) (hs : (e :: es).all notStar = true) (hn : decide ((e :: es).length < 30) = true) (hl : (apos.endLine == cpos.line) = true) :
    DE X W (.Call (.Attribute o name apos) (e :: es) [] cpos) (dBM ty t' to t) := by
  have hs' := hs
  simp only [List.all_cons, Bool.and_eq_true] at hs'
  exact (pe_bm pa slot hty hm ho ha (attrBase hb) (few_of hs hn) hl (starEach_ns hs'.1) (plain_args hs'.2)).imp fun σ H Q ⟨σd, M, R, Ex, er, mr, q, f, fx⟩ => lift_bind er mr q fx fun v H1 M1 x e1 mr1 rx ⟨q1, q2⟩ =>
    ⟨hT x v H1 M1 rx mr1 q1, σd, M1, _, Ex, er.ext e1 mr, mr1, q2, fun vs H2 M2 xs e2 mr2 rxs q3 => hok x xs v vs H2 M2 R Q (rx.ext e2 mr1) rxs mr2 q3 (f.ext (e1.trans e2)), fx.ext e1⟩
theorem de_bm0 {T : String} {name : Str} {id : String} {r : V → List V → Hp → VK → Prop} {ty : DM → D → Prop} {t' : DMt} (pa : PlainAttrs T) (slot : Slot T name id) (hty : typeOf (.builtin id) = pure (.type "method_descriptor")) (hm : MtR X id r)
    (hok : MOk2 X.K r t') (hT : ∀ x vx H M, Rep X.K H M x vx → MR X.K H M → ty M x → tyV X.K T vx H) (ho : DE X W o to) (hb : plainBase o = true) (hl : (apos.endLine == cpos.line) = true) :
    DE X W (.Call (.Attribute o name apos) [] [] cpos) (dBM ty t' to dNil) :=
  (pe_bm0 pa slot hty hm ho (attrBase hb) hl).imp fun σ H Q ⟨σd, M, R, Ex, er, mr, q, f, fx⟩ => lift_bind er mr q fx fun v H1 M1 x e1 mr1 rx ⟨q1, q2⟩ =>
    ⟨hT x v H1 M1 rx mr1 q1, hok x [] v [] H1 M1 R Q rx .nil mr1 q2 (f.ext e1)⟩
def tyL (M : DM) (x : D) : Prop := ∃ ds, isL M x = some ds
theorem tyL_of {K : PySem.W.Frag} : ∀ x vx H M, Rep K H M x vx → MR K H M → tyL M x → tyV K "list" vx H := fun x vx H M rx mr ⟨ds, h⟩ => by
  obtain ⟨p, vs, e, s, q⟩ := sqL_of rx mr h
  subst e
  exact .inl ⟨rfl, vs, s⟩
def mAppend : DMt := fun x xs M R => match x, xs with
  | .ref a, [y] => match M a with
    | some (.lst ds) => ds.length < sizeLine ∧ R .non (updM M a (.lst (ds ++ [y])))
    | _ => False
  | _, _ => False
theorem mok_append {K : PySem.W.Frag} : MOk2 K rAppend mAppend := by
  intro x xs vx vxs H M R Q rx rxs mr h f
  unfold mAppend at h
  split at h
  · rename_i a y
    split at h
    · rename_i ds e
      obtain ⟨v, ev, rv⟩ := rxs.inv1
      obtain ⟨vs, e1, q⟩ := mr a _ e
      exact ⟨a, vs, v, rx, ev, e1, by rw [← q.len]; exact h.1, f.wrote mr e (q.append (.single rv)) (d := .non) rfl h.2⟩
    · exact h.elim
  · exact h.elim
def mExtend : DMt := fun x xs M R => match x, xs with
  | .ref a, [y] => match M a with
    | some (.lst ds) => ∃ es, isL0 M y = some es ∧ ds.length + es.length ≤ sizeLine ∧ R .non (updM M a (.lst (ds ++ es)))
    | _ => False
  | _, _ => False
theorem mok_extend {K : PySem.W.Frag} : MOk2 K rExtend mExtend := by
  intro x xs vx vxs H M R Q rx rxs mr h f
  unfold mExtend at h
  split at h
  · rename_i a y
    split at h
    · rename_i ds e
      obtain ⟨es, h1, h2, h3⟩ := h
      obtain ⟨v, ev, rv⟩ := rxs.inv1
      obtain ⟨vs, e1, q⟩ := mr a _ e
      obtain ⟨p, ws, e2, s2, q2⟩ := plain_of rv mr h1
      subst e2
      exact ⟨a, p, vs, ws, rx, ev, e1, s2, by rw [← q.len, ← q2.len]; exact h2, f.wrote mr e (q.append q2) (d := .non) rfl h3⟩
    · exact h.elim
  · exact h.elim
theorem Reps.dropLast {K : PySem.W.Frag} {H : Hp} {M : DM} {ds : List D} {vs : List V} (r : Reps K H M ds vs) : Reps K H M ds.dropLast vs.dropLast := by
  rw [List.dropLast_eq_take, List.dropLast_eq_take, r.len]
  exact r.take _
def mPop : DMt := fun x xs M R => match x, xs with
  | .ref a, [] => match M a with
    | some (.lst ds) => ∃ y, ds[ds.length - 1]? = some y ∧ R y (updM M a (.lst ds.dropLast))
    | _ => False
  | _, _ => False
theorem mok_pop {K : PySem.W.Frag} : MOk2 K rPop mPop := by
  intro x xs vx vxs H M R Q rx rxs mr h f
  unfold mPop at h
  split at h
  · rename_i a
    split at h
    · rename_i ds e
      obtain ⟨y, h1, h2⟩ := h
      obtain ⟨vs, e1, q⟩ := mr a _ e
      obtain ⟨v, hv, rv⟩ := q.get h1
      exact ⟨a, vs, v, rx, rxs.inv0, e1, by rw [← q.len]; exact hv, f.wrote mr e q.dropLast rv h2⟩
    · exact h.elim
  · exact h.elim
theorem Reps.reverse {K : PySem.W.Frag} {H : Hp} {M : DM} : ∀ {ds : List D} {vs : List V}, Reps K H M ds vs → Reps K H M ds.reverse vs.reverse
  | [], vs, r => by have := r.inv0; subst this; exact .nil
  | d :: ds, vs, r => by
    obtain ⟨w, ws, e, r1, r2⟩ := r.inv
    subst e
    rw [List.reverse_cons, List.reverse_cons]
    exact r2.reverse.append (.single r1)
def mReverse : DMt := fun x xs M R => match x, xs with
  | .ref a, [] => match M a with
    | some (.lst ds) => R .non (updM M a (.lst ds.reverse))
    | _ => False
  | _, _ => False
theorem mok_reverse {K : PySem.W.Frag} : MOk2 K rReverse mReverse := by
  intro x xs vx vxs H M R Q rx rxs mr h f
  unfold mReverse at h
  split at h
  · rename_i a
    split at h
    · rename_i ds e
      obtain ⟨vs, e1, q⟩ := mr a _ e
      exact ⟨a, vs, rx, rxs.inv0, e1, f.wrote mr e q.reverse (d := .non) rfl h⟩
    · exact h.elim
  · exact h.elim
/-! ### sum, min, max of a list -/
theorem Reps.ints {K : PySem.W.Frag} {H : Hp} {M : DM} : ∀ {ns : List Int} {vs : List V}, Reps K H M (ns.map .int) vs → vs = ns.map V.int
  | [], vs, r => r.inv0
  | n :: ns, vs, r => by
    obtain ⟨w, ws, e, r1, r2⟩ := r.inv
    cases r1
    rw [e, r2.ints]; rfl
def cSum : DCall := fun xs M R => match xs with
  | [x] => ∃ ns : List Int, isL M x = some (ns.map .int) ∧ R (.int ns.sum) M
  | _ => False
theorem ok_sum {K : PySem.W.Frag} : COk K (rSum K) cSum := by
  intro ds vs H M R Q r mr h f
  unfold cSum at h
  split at h
  · obtain ⟨v, e, rx⟩ := r.inv1
    obtain ⟨ns, h1, h2⟩ := h
    obtain ⟨p, ws, e1, s, q⟩ := sqL_of rx mr h1
    have := q.ints
    subst this; subst e1
    exact ⟨p, ns, e, s, f.int mr h2⟩
  · exact h.elim
/-! ### slices -/
abbrev DTO := DSt → DM → (Option Int → DM → Prop) → DX → Prop
def oPart (t : DTE) : DTO := fun σ M R Ex => t σ M (fun x M1 => match x with
  | .int i => R (some i) M1
  | _ => False) Ex
def oNo : DTO := fun _ M R _ => R none M
def liftO (K : PySem.W.Frag) (W : WX) (t : DTO) : TO := fun σ H Q => ∃ σd M R Ex, EnvR K H M σd σ ∧ MR K H M ∧ t σd M R Ex ∧ (∀ o H' M', Ext H M H' M' → MR K H' M' → R o M' → Q o H') ∧ FwdX K H M Ex (WE W σ)
theorem _root_.L2.PO.imp {X : Cx} {e : Option Expr} {t u : TO} (h : PO X e t) (i : ∀ σ H Q, u σ H Q → t σ H Q) : PO X e u := ⟨fun pins s σ H Q I q => h.run pins s σ H Q I (i σ H Q q)⟩
theorem do_none : PO X none (liftO X.K W oNo) := po_none.imp fun σ H Q ⟨σd, M, R, Ex, er, mr, q, f, fx⟩ => f none H M .refl mr q
theorem do_some (h : DE X W e te) : PO X (some e) (liftO X.K W (oPart te)) := (po_some h).imp fun σ H Q ⟨σd, M, R, Ex, er, mr, q, f, fx⟩ => lift_bind er mr q fx fun v H1 M1 x e1 mr1 rx q1 => by
  cases x <;> first | exact False.elim q1 | skip
  cases rx
  exact ⟨_, rfl, f _ H1 M1 e1 mr1 q1⟩
def cutD (ds : List D) (lo hi : Option Int) : List D := (ds.drop (HT.sIx ds.length 0 lo)).take (HT.sIx ds.length ds.length hi - HT.sIx ds.length 0 lo)
theorem Reps.cut {K : PySem.W.Frag} {H : Hp} {M : DM} {ds : List D} {vs : List V} (r : Reps K H M ds vs) (lo hi : Option Int) : Reps K H M (cutD ds lo hi) (cutV vs lo hi) := by
  unfold cutD cutV
  rw [r.len]
  exact (r.drop _).take _
def oSlice (x : D) (lo hi : Option Int) (M : DM) (R : DK) : Prop := match x with
  | .tup ds => R (.tup (cutD ds lo hi)) M
  | .str z => z.length ≤ sizeLine ∧ R (.str (cutS z lo hi)) M
  | x => ∃ ds, isL M x = some ds ∧ ∀ p, M p = none → R (.ref p) (updM M p (.lst (cutD ds lo hi)))
def rSlAll (K : PySem.W.Frag) : V → Option Int → Option Int → Hp → VK → Prop := fun x lo hi H Q => rSlL K x lo hi H Q ∨ rSlA K x lo hi H Q ∨ rSlS x lo hi H Q
theorem sl_all : SlR X (rSlAll X.K) := sl_list.or (sl_tupA.or sl_str)
theorem ok_slice {K : PySem.W.Frag} {x : D} {v : V} {lo hi : Option Int} {H : Hp} {M : DM} {R : DK} {Q : VK} (rx : Rep K H M x v) (mr : MR K H M) (h : oSlice x lo hi M R) (f : Fwd K H M R Q) : rSlAll K v lo hi H Q := by
  have go : (∃ ds, isL M x = some ds ∧ ∀ p, M p = none → R (.ref p) (updM M p (.lst (cutD ds lo hi)))) → rSlAll K v lo hi H Q := by
    rintro ⟨ds, h1, h2⟩
    obtain ⟨p, vs, e, s, q⟩ := sqL_of rx mr h1
    exact .inl ⟨p, vs, e, s, fun z hz => f.newL mr (q.cut lo hi) h2 hz⟩
  cases x with
  | str z => cases rx; exact .inr (.inr ⟨z, rfl, h.1, f.str mr h.2⟩)
  | tup ds =>
    obtain ⟨p, vs, e, s, q⟩ := sqT_of (ds := ds) rx rfl
    refine .inr (.inl ⟨p, vs, e, s, fun hw => ?_, fun _ z hz => f.newT mr (q.cut lo hi) h hz⟩)
    have : cutD ds lo hi = ds := by
      unfold cutD
      rw [q.len, hw.1, hw.2, ← q.len]
      simp
    have h' : R (.tup (cutD ds lo hi)) M := h
    rw [this] at h'
    subst e
    exact f.same mr rx h'
  | _ => exact go h
def dSlice (te : DTE) (tl th : DTO) : DTE := fun σ M R Ex => te σ M (fun x M1 => tl σ M1 (fun lo M2 => th σ M2 (fun hi M3 => oSlice x lo hi M3 R) Ex) Ex) Ex
theorem de_slice {lo hi : Option Expr} {tl th : DTO} {p2 : Pos} (he : DE X W e te) (hl : PO X lo (liftO X.K W tl)) (hh : PO X hi (liftO X.K W th)) : DE X W (.Subscript e (.Slice lo hi none p2) pos) (dSlice te tl th) :=
  (pe_slice sl_all he hl hh).imp fun σ H Q ⟨σd, M, R, Ex, er, mr, q, f, fx⟩ => lift_bind er mr q fx fun v H1 M1 x e1 mr1 rx q1 =>
    ⟨σd, M1, _, Ex, er.ext e1 mr, mr1, q1, fun l H2 M2 e2 mr2 q2 => ⟨σd, M2, _, Ex, er.ext (e1.trans e2) mr, mr2, q2, fun u H3 M3 e3 mr3 q3 => ok_slice (rx.ext (e2.trans e3) mr1) mr3 q3 (f.ext ((e1.trans e2).trans e3)), fx.ext (e1.trans e2)⟩, fx.ext e1⟩
/-! ### attributes stored -/
def putZ {α : Type} (f : Str) (v : α) : List Str → List α → List Str × List α
  | n :: ns, w :: vs => if n = f then (n :: ns, v :: vs) else ((n :: (putZ f v ns vs).1), (w :: (putZ f v ns vs).2))
  | _, _ => ([f], [v])
theorem putF_zip {f : Str} {v : V} : ∀ {ns : List Str} {vs : List V}, ns.length = vs.length → putF f v (ns.zip vs) = (putZ f v ns vs).1.zip (putZ f v ns vs).2
  | [], [], _ => rfl
  | [], _ :: _, h => by simp at h
  | _ :: _, [], h => by simp at h
  | n :: ns, w :: vs, h => by
    have ih := putF_zip (f := f) (v := v) (ns := ns) (vs := vs) (by simpa using h)
    rw [List.zip_cons_cons]
    unfold putF putZ
    by_cases hn : n = f
    · subst hn; simp
    · simp only [hn, if_false, List.zip_cons_cons, ih]
theorem putZ_len {α : Type} {f : Str} {v : α} : ∀ {ns : List Str} {vs : List α}, ns.length = vs.length → (putZ f v ns vs).1.length = (putZ f v ns vs).2.length
  | [], [], _ => rfl
  | [], _ :: _, h => by simp at h
  | _ :: _, [], h => by simp at h
  | n :: ns, w :: vs, h => by
    have ih := putZ_len (f := f) (v := v) (ns := ns) (vs := vs) (by simpa using h)
    unfold putZ
    split
    · simpa using h
    · simp [ih]
theorem putZ_names {α β : Type} {f : Str} {v : α} {w : β} : ∀ {ns : List Str} {vs : List α} {ws : List β}, vs.length = ws.length → (putZ f v ns vs).1 = (putZ f w ns ws).1
  | [], _, _, _ => rfl
  | n :: ns, [], [], _ => rfl
  | n :: ns, _ :: _, [], h => by simp at h
  | n :: ns, [], _ :: _, h => by simp at h
  | n :: ns, a :: vs, b :: ws, h => by
    have ih := putZ_names (f := f) (v := v) (w := w) (ns := ns) (vs := vs) (ws := ws) (by simpa using h)
    unfold putZ
    split
    · rfl
    · simp [ih]
theorem Reps.put {K : PySem.W.Frag} {H : Hp} {M : DM} {f : Str} {d : D} {v : V} (rd : Rep K H M d v) : ∀ {ns : List Str} {ds : List D} {vs : List V}, Reps K H M ds vs → Reps K H M (putZ f d ns ds).2 (putZ f v ns vs).2
  | [], _, _, _ => .single rd
  | n :: ns, [], vs, r => by have := r.inv0; subst this; exact .single rd
  | n :: ns, d' :: ds, vs, r => by
    obtain ⟨w, ws, e, r1, r2⟩ := r.inv
    subst e
    unfold putZ
    split
    · exact .cons rd r2
    · exact .cons r1 (Reps.put rd r2)
def sAttr (C : Addr) (f : Str) (to te : DTE) : DTS := fun D σ M => te σ M (fun d M1 => to σ M1 (fun o M2 => match o with
  | .ref a => match M2 a with
    | some (.ins C' ns ds) => C' = C ∧ ns.length < 1000 ∧ D.nx σ (updM M2 a (.ins C (putZ f d ns ds).1 (putZ f d ns ds).2))
    | _ => False
  | _ => False) (D.ex σ)) (D.ex σ)
theorem swaps_attr {e a : Expr} {f : Str} {p : Pos} {l : Nat} {env : Env} : swapsWith e (some (.Attribute a f p)) l env = pure false := by
  cases e <;> rfl
theorem ds_attr {C : Addr} {f : Str} {pos' : Pos} (hc : Cls X.K C) (hn : NoAttr X.K C f) (ho : DE X W o to) (he : DE X W e te) : DS X W (.Assign [.Attribute o f pos'] e pos) (sAttr C f to te) :=
  (ps_fld ho he swaps_attr).imp fun E σ H ⟨σd, M, D, er, mr, q, r⟩ => by
    have fx := r.ex.at er mr
    refine lift_bind er mr q fx fun v H1 M1 d e1 mr1 rd h1 => lift_bind (er.ext e1 mr) mr1 h1 (fx.ext e1) fun ov H2 M2 x e2 mr2 ro h2 => ?_
    cases x <;> first | exact False.elim h2 | skip
    rename_i a
    cases ro
    simp only at h2
    split at h2
    · rename_i C' ns ds e
      obtain ⟨rfl, h3, h4⟩ := h2
      obtain ⟨dx, vs, e3, l3, q3⟩ := mr2 a _ e
      refine ⟨a, C', dx, _, rfl, e3, hc, hn, by rw [List.length_zip, ← l3, Nat.min_self]; exact h3, ?_⟩
      have rd2 := rd.ext e2 mr1
      have hnm : (putZ f d ns ds).1 = (putZ f v ns vs).1 := putZ_names q3.len
      rw [putF_zip l3, ← hnm]
      exact r.nx σ _ σd _ ((e1.trans e2).trans (Ext.wrote e)) (mr2.wrote (mo' := .ins C' (putZ f d ns ds).1 (putZ f d ns ds).2) e ⟨dx, _, upd_same, by rw [hnm]; exact putZ_len l3, (Reps.put rd2 q3).ext (Ext.wrote e) mr2⟩) (er.ext ((e1.trans e2).trans (Ext.wrote e)) mr) h4
    · exact h2.elim
end
end LD
end

section
set_option maxRecDepth 100000
set_option maxHeartbeats 2000000
namespace LD
open PySem PySem.Spec PyProof.Rows L2
section
variable {X : Cx} {W : WX} {a b c e o : Expr} {es : List Expr} {t : DTA} {ta te to : DTE} {pos apos cpos : Pos}
/-! ### a written dict: NAME.get(e), NAME[e] -/
/-- at d stands a written dict that holds tb (a key told with nothing: it is not there) -/
def KD (K : PySem.W.Frag) (w : World) (d : Addr) (tb : List (Str × Option D)) : Prop := ∃ es n, KDict K w d es n ∧ ∀ z r, (z, r) ∈ tb → match r with
  | none => PySem.W.nsIn K d z = some none
  | some q => ∃ u v, PySem.W.nsIn K d z = some (some u) ∧ RelV v u ∧ ∀ H M, Rep K H M q v
def dKGet (tb : List (Str × Option D)) (ta : DTE) : DTE := fun σ M R Ex => ta σ M (fun x M1 => ∃ z r, x = .str z ∧ tb.lookup z = some r ∧ R (r.getD .non) M1) Ex
theorem lookup_mem {α : Type} {z : Str} {r : α} : ∀ {tb : List (Str × α)}, tb.lookup z = some r → (z, r) ∈ tb
  | [], h => by cases h
  | (y, q) :: tb, h => by
    rw [List.lookup_cons] at h
    cases e : z == y with
    | true => rw [e] at h; cases h; rw [beq_iff_eq.mp e]; exact List.mem_cons_self
    | false => rw [e] at h; exact List.mem_cons_of_mem _ (lookup_mem h)
theorem de_kget {x : Str} {p : Pos} {d : Addr} {tb : List (Str × Option D)} (hg : Gl X x) (hm : X.mg x = some (.ref d)) (hdb : (x == ("__debug__" : Str)) = false) (kd : KD X.K X.w d tb) (he : DE X W e te) (hs : notStar e = true) (hl : (apos.endLine == cpos.line) = true) :
    DE X W (.Call (.Attribute (.Name x p) "get" apos) [e] [] cpos) (dKGet tb te) := by
  obtain ⟨es, n, D, hD⟩ := kd
  refine ⟨fun pins s σ H Q I ⟨σd, M, R, Ex, er, mr, q, f, fx⟩ => ?_⟩
  refine wpAny_Call_method (attrBase (o := .Name x p) rfl) (few_of (es := [e]) (by simp [hs]) rfl) hl PySem.F.plainAttrs_dict PySem.F.slot_dict_get PySem.F.type_dict_get (ld_glob I hg hm ?_ hdb)
  have hmo := PySem.W.mapOf_K (prog := X.prog) (w := X.w) I.kIn D.at_ D.lit
  refine ⟨hmo.typeIs, fun a e' => ?_, ?_⟩
  · cases e'
    exact ⟨_, I.kIn _ _ D.at_, rfl⟩
  · have hst : starEach [e] X.env = (false, eval e X.env) :: starEach [] X.env := starEach_ns hs
    rw [hst]
    refine Calls.callWith_builtin rfl (Calls.evalArgs_plain (Calls.spliced_cons (thn (he.run pins s σ H (fun y H2 => ∃ z r, y = .str z ∧ tb.lookup z = some r ∧ ∀ v u, RelV v u → (∀ H M, Rep X.K H M (r.getD .non) v) → Q v H2) I
      (lift_bind er mr q fx fun v H1 M1 y e1 mr1 ry ⟨z, r, ey, el, q1⟩ => ?_)) fun iv s2 ⟨y, H2, I2, ry, z, r, ey, el, q2⟩ => Calls.spliced_nil ?_)))
    · subst ey
      cases ry
      exact ⟨z, r, rfl, el, fun v u _ rv => f v H1 M1 _ e1 mr1 (rv H1 M1) q1⟩
    · subst ey
      obtain ⟨tk, rfl⟩ := (show ∃ tk, iv = Value.str z tk from ry)
      have hmo2 := PySem.W.mapOf_K (prog := X.prog) (w := X.w) I2.kIn D.at_ D.lit
      have hh := hD z r (lookup_mem el)
      refine call_meetsIn PySem.F.slot_dict_get hmo2.typeIs PySem.F.entry_dict_get (PySem.F.args_dict_get_2 _ _) (meets_dict_get (strKind X.prog X.w) d (strKind_is X.prog X.w z tk) D.low) ⟨_, hmo2, ?_⟩
      cases r with
      | none =>
        rw [PySem.W.find_K D.at_ hh]
        exact ⟨.non, H2, I2.tok _, rfl, q2 .non .none rfl fun _ _ => rfl⟩
      | some d' =>
        obtain ⟨u, v, e1, rv, rp⟩ := hh
        rw [PySem.W.find_K D.at_ e1]
        exact ⟨v, H2, I2.tok _, rv, q2 v u rv rp⟩
/-! ### xs[::-1] -/
def dRev (te : DTE) : DTE := fun σ M R Ex => te σ M (fun x M1 => ∃ ds, isL M1 x = some ds ∧ ∀ p, M1 p = none → R (.ref p) (updM M1 p (.lst ds.reverse))) Ex
theorem de_rev {k : Nat} {p1 p2 p3 : Pos} (he : DE X W e te) : DE X W (.Subscript e (.Slice none none (some (.UnaryOp .USub (.Constant (.int 1) k p1) p2)) p3) pos) (dRev te) :=
  (pe_revL he).imp fun σ H Q ⟨σd, M, R, Ex, er, mr, q, f, fx⟩ => lift_bind er mr q fx fun v H1 M1 x e1 mr1 rx ⟨ds, h1, h2⟩ => by
    obtain ⟨a, vs, ev, s, r⟩ := sqL_of rx mr1 h1
    exact ⟨a, vs, ev, s, fun p hp => (f.ext e1).newL mr1 r.reverse h2 hp⟩
/-! ### repr -/
theorem toPs_noDict : ∀ {ds : List D} {ps : List PyData}, toPs ds = some ps → PyData.hasDictAll ps = false := by
  intro ds
  have key : ∀ n, (∀ d p, sizeOf d < n → toP0 d = some p → PyData.hasDict p = false) ∧ (∀ ds ps, sizeOf ds < n → toPs ds = some ps → PyData.hasDictAll ps = false) := by
    intro n
    induction n with
    | zero => exact ⟨fun _ _ h => by omega, fun _ _ h => by omega⟩
    | succ n ih =>
      refine ⟨fun d p hs h => ?_, fun ds ps hs h => ?_⟩
      · cases d with
        | non => cases h; simp only [PyData.hasDict]
        | bl b => cases h; simp only [PyData.hasDict]
        | int b => cases h; simp only [PyData.hasDict]
        | str b => cases h; simp only [PyData.hasDict]
        | obj _ _ _ => cases h
        | ref _ => cases h
        | tup xs =>
          unfold toP0 at h
          cases e2 : toPs xs with
          | none => simp [e2] at h
          | some ps => simp [e2] at h; subst h; simp only [PyData.hasDict]; exact ih.2 xs ps (by simp at hs; omega) e2
        | lst xs =>
          unfold toP0 at h
          cases e2 : toPs xs with
          | none => simp [e2] at h
          | some ps => simp [e2] at h; subst h; simp only [PyData.hasDict]; exact ih.2 xs ps (by simp at hs; omega) e2
        | frz xs =>
          unfold toP0 at h
          cases e2 : toPs xs with
          | none => simp [e2] at h
          | some ps => simp [e2] at h; subst h; simp only [PyData.hasDict]; exact ih.2 xs ps (by simp at hs; omega) e2
      · cases ds with
        | nil => cases h; simp only [PyData.hasDictAll]
        | cons d ds =>
          unfold toPs at h
          cases e1 : toP0 d with
          | none => simp [e1] at h
          | some p =>
            cases e2 : toPs ds with
            | none => simp [e1, e2] at h
            | some qs =>
              simp [e1, e2] at h; subst h
              simp only [PyData.hasDictAll, ih.1 d p (by simp at hs; omega) e1, ih.2 ds qs (by simp at hs; omega) e2, Bool.or_self]
  exact fun {ps} h => (key (sizeOf ds + 1)).2 ds ps (by omega) h
def cRepr : DCall := fun xs M R => match xs with
  | [x] => ∃ ds ps p, isS M x = some ds ∧ toPs ds = some ps ∧ toP M x = some p ∧ p.showable = true ∧ p.depth ≤ 60 ∧ p.shown.length ≤ sizeLine ∧ R (.str p.shown) M
  | _ => False
theorem toP_noDict {M : DM} {x : D} {ds : List D} {ps : List PyData} {p : PyData} (h : isS M x = some ds) (e : toPs ds = some ps) (hp : toP M x = some p) : p.hasDict = false := by
  have nd := toPs_noDict e
  cases x with
  | tup xs =>
    have : xs = ds := by simpa [isS] using h
    subst this
    simp [toP, toP0, e] at hp
    subst hp; simpa only [PyData.hasDict] using nd
  | lst xs =>
    have : xs = ds := by simpa [isS] using h
    subst this
    simp [toP, toP0, e] at hp
    subst hp; simpa only [PyData.hasDict] using nd
  | frz xs =>
    have : xs = ds := by simpa [isS] using h
    subst this
    simp [toP, toP0, e] at hp
    subst hp; simpa only [PyData.hasDict] using nd
  | ref a =>
    unfold isS at h
    unfold toP at hp
    cases q : M a with
    | none => simp [q] at hp
    | some o =>
      cases o with
      | ins C ns xs => simp [q] at hp
      | lst xs =>
        simp [q] at h hp
        subst h
        simp [e] at hp
        subst hp; simpa only [PyData.hasDict] using nd
  | _ => simp [isS] at h
def rRepr (K : PySem.W.Frag) : List V → Hp → VK → Prop := fun xs H Q => ∃ a p, xs = [.ref a] ∧ Dp K H (.ref a) p ∧ p.hasDict = false ∧ p.showable = true ∧ p.depth ≤ 60 ∧ p.shown.length ≤ sizeLine ∧ Q (.str p.shown) H
theorem call_repr_dp (hu : X.A.units + 64 < cLine) (hg : X.A.guards = some []) : CallR X (.builtin "repr") (rRepr X.K) := by
  intro pins s σ H xs us Q I r h
  obtain ⟨a, p, rfl, dp, hd, hs, hp, hz, q⟩ := h
  obtain ⟨u, rfl, ru⟩ := vals1 r
  cases (show u = Value.ref a from ru)
  obtain ⟨as, rd⟩ := Dp.reads I p _ _ dp rfl
  exact repr_of_reads' rd hs (PyData.noDict_hsm hd) hg (by omega) (fun _ _ e => e) (fun h' u tk hk => ⟨.str p.shown, H, I.kept (t' := tk) hk, ⟨u, rfl⟩, q⟩) hz
theorem isS_ref' {K : PySem.W.Frag} {H : Hp} {M : DM} {x : D} {v : V} {ds : List D} (r : Rep K H M x v) (mr : MR K H M) (h : isS M x = some ds) : ∃ a, v = .ref a := by
  rcases isS_cases h with h | h
  · obtain ⟨p, vs, e, _⟩ := sqL_of r mr h; exact ⟨p, e⟩
  · obtain ⟨p, vs, e, _⟩ := sqT_of r h; exact ⟨p, e⟩
theorem ok_repr {K : PySem.W.Frag} : COk K (rRepr K) cRepr := by
  intro ds vs H M R Q r mr h f
  unfold cRepr at h
  split at h
  · obtain ⟨v, e, rx⟩ := r.inv1
    obtain ⟨xs, ps, p, h1, h2, h3, h4, h5, h6, h7⟩ := h
    obtain ⟨a, ev⟩ := isS_ref' rx mr h1
    subst ev
    exact ⟨a, p, e, dp_of rx mr h3, toP_noDict h1 h2 h3, h4, h5, h6, f.str mr h7⟩
  · exact h.elim
/-! ### isinstance -/
/-- a value's class -/
inductive Ty where
  | b (n : String)
  | own (C : Addr)
  deriving DecidableEq
def tyD (M : DM) : D → Option Ty
  | .non => some (.b "NoneType")
  | .bl _ => some (.b "bool")
  | .int _ => some (.b "int")
  | .str _ => some (.b "str")
  | .tup _ => some (.b "tuple")
  | .lst _ => some (.b "list")
  | .frz _ => some (.b "list")
  | .obj C _ _ => some (.own C)
  | .ref a => match M a with
    | some (.lst _) => some (.b "list")
    | some (.ins C _ _) => some (.own C)
    | none => none
def Ty.v : Ty → Value
  | .b n => .type n
  | .own C => .ref C
/-- a class of the text as isinstance asks it -/
structure IsC (K : PySem.W.Frag) (C : Addr) : Prop where
  cl : Cls K C
  ha : PySem.W.findIn K (.ref C) "__class__" = some (some (.builtin "object.__class__"))
  hn : PySem.W.specialIn K (.builtin "object.__class__") "__get__" = some (some (.builtin "getset_descriptor.__get__"))
  ht : PySem.W.takesIn K (.builtin "object.__class__") = some true
  hm : PySem.W.mroIn K C (.type "object") = some true
theorem tyx_of {K : PySem.W.Frag} {H : Hp} {M : DM} {x : D} {v : V} {T : Ty} (r : Rep K H M x v) (mr : MR K H M) (h : tyD M x = some T) (hc : ∀ C, T = .own C → IsC K C) : TyX K H v T.v := by
  cases x with
  | non => cases h; cases r; exact .base .non
  | bl b => cases h; cases r; exact .base (.bl b)
  | int b => cases h; cases r; exact .base (.int b)
  | str b => cases h; cases r; exact .base (.str b)
  | tup ds =>
    cases h
    unfold Rep at r
    obtain ⟨a, vs, rfl, s, q⟩ := r
    rcases s with (s | ⟨o, s⟩) | ⟨o, items, n, e1, e2, e3, e4, e5⟩
    · exact .base (.tup s)
    · exact .fTuple s
    · exact .kTuple e1 e2
  | lst ds =>
    cases h
    unfold Rep at r
    obtain ⟨a, vs, rfl, m, s, q⟩ := r
    exact .base (.lst s)
  | frz ds =>
    cases h
    unfold Rep at r
    obtain ⟨a, vs, rfl, s, q⟩ := r
    rcases s with ⟨o, s⟩ | ⟨o, its, n, e1, e2, _⟩
    · exact .base (.frz s)
    · exact .kList e1 e2
  | obj C ns ds =>
    cases h
    unfold Rep at r
    obtain ⟨a, dx, vs, rfl, m, s, l, q⟩ := r
    have k := hc C rfl
    exact .base (.ins s k.cl k.ha k.hn k.ht k.hm)
  | ref a =>
    unfold Rep at r
    unfold tyD at h
    cases q : M a with
    | none => simp [q] at h
    | some o =>
      subst r
      cases o with
      | lst xs =>
        simp [q] at h; subst h
        obtain ⟨vs, e, _⟩ := mr a _ q
        exact .base (.lst e)
      | ins C ns xs =>
        simp [q] at h; subst h
        obtain ⟨dx, vs, e, _⟩ := mr a _ q
        have k := hc C rfl
        exact .base (.ins e k.cl k.ha k.hn k.ht k.hm)
/-- isinstance(x, T): tb tells the answer by x's class -/
def dIsi (tb : List (Ty × Bool)) (ta : DTE) : DTE := fun σ M R Ex => ta σ M (fun x M1 => ∃ T b, tyD M1 x = some T ∧ tb.lookup T = some b ∧ R (.bl b) M1) Ex
/-- the name x stands for the class u -/
structure ClsN (mg : Str → Option Value) (x : Str) (v : V) (u : Value) : Prop where
  k : ClsV v u
  at_ : mg x = some u ∨ (mg x = none ∧ bootBuiltins x = some u ∧ x ≠ "__name__")
theorem pe_cls {x : Str} {v : V} {u : Value} {p : Pos} (hg : Gl X x) (hdb : (x == ("__debug__" : Str)) = false) (c : ClsN X.mg x v u) : PE X (.Name x p) (tC v) := by
  have r : RelV v u := by
    cases c.k <;> rfl
  rcases c.at_ with h | ⟨h1, h2, h3⟩
  · exact pe_glob hg h r hdb
  · exact pe_bltn hg h1 h2 r h3 hdb
/-- what isinstance answers -/
def IsOk (K : PySem.W.Frag) (us : List Value) (tb : List (Ty × Bool)) : Prop := ∀ T b, tb.lookup T = some b → PySem.W.kitAny K T.v us = some b ∧ ∀ C, T = .own C → IsC K C
theorem kitOne_of {K : PySem.W.Frag} {t u : Value} {b : Bool} (h : PySem.W.kitAny K t [u] = some b) : PySem.W.kitOne K t u = some b := by
  unfold PySem.W.kitAny at h
  split at h
  · rename_i e; cases h; exact e
  · rename_i e; cases h; exact e
  · cases h
theorem boot_isi : bootBuiltins ("isinstance" : Str) = some (.builtin "isinstance") := by decide +kernel
theorem de_isi1 {x : Str} {v : V} {u : Value} {p p2 : Pos} {tb : List (Ty × Bool)} (hi : Gl X "isinstance") (hm : X.mg "isinstance" = none) (he : DE X W e te) (hs : notStar e = true) (hg : Gl X x) (hdb : (x == ("__debug__" : Str)) = false) (c : ClsN X.mg x v u) (ok : IsOk X.K [u] tb) :
    DE X W (.Call (.Name "isinstance" p) [e, .Name x p2] [] pos) (dIsi tb te) :=
  (pe_callB (call_isi (X := X)) hi hm boot_isi (pa_cons he (pa_cons (pe_cls hg hdb c) pa_nil) (starEach_ns hs)) (by decide +kernel) (by decide +kernel) (starEach_ns hs)).imp fun σ H Q ⟨σd, M, R, Ex, er, mr, q, f, fx⟩ =>
    lift_bind er mr q fx fun w H1 M1 y e1 mr1 ry ⟨T, b, h1, h2, h3⟩ => by
      obtain ⟨k, hc⟩ := ok T b h2
      exact ⟨w, v, T.v, u, b, rfl, c.k, tyx_of ry mr1 h1 hc, kitOne_of k, (f.ext e1).bl mr1 h3⟩
/-- .. of a tuple of classes -/
inductive ClsNs (X : Cx) : List Expr → List V → List Value → Prop where
  | nil : ClsNs X [] [] []
  | cons {x : Str} {p : Pos} {es : List Expr} {v : V} {u : Value} {vs : List V} {us : List Value} (hg : Gl X x) (hdb : (x == ("__debug__" : Str)) = false) (c : ClsN X.mg x v u) (r : ClsNs X es vs us) : ClsNs X (.Name x p :: es) (v :: vs) (u :: us)
theorem ClsNs.paired : ∀ {es : List Expr} {vs : List V} {us : List Value}, ClsNs X es vs us → Paired ClsV vs us
  | _, _, _, .nil => .nil
  | _, _, _, .cons _ _ c r => .cons c.k r.paired
def tCs : List V → TA
  | [] => tNil
  | v :: vs => tCons (tC v) (tCs vs)
theorem ClsNs.pa : ∀ {es : List Expr} {vs : List V} {us : List Value}, ClsNs X es vs us → PA X es (tCs vs)
  | _, _, _, .nil => pa_nil
  | _, _, _, .cons hg hdb c r => pa_cons (pe_cls hg hdb c) r.pa
theorem tCs_ok : ∀ {vs : List V} {σ : L2.St} {H : Hp} {Q : List V → Hp → Prop}, Q vs H → tCs vs σ H Q
  | [], _, _, _, h => h
  | _ :: vs, _, _, _, h => tCs_ok (vs := vs) h
theorem de_isiT {cs : List Expr} {vs : List V} {us : List Value} {k : Nat} {p p2 : Pos} {tb : List (Ty × Bool)} (hi : Gl X "isinstance") (hm : X.mg "isinstance" = none) (he : DE X W e te) (hs : notStar e = true) (c : ClsNs X cs vs us) (hz : vs.length ≤ sizeLine) (ok : IsOk X.K us tb) :
    DE X W (.Call (.Name "isinstance" p) [e, .Tuple cs k p2] [] pos) (dIsi tb te) :=
  (pe_callB (call_isiT (X := X)) hi hm boot_isi (pa_cons he (pa_cons (pe_tup c.pa) pa_nil) (starEach_ns hs)) (by decide +kernel) (by decide +kernel) (starEach_ns hs)).imp fun σ H Q ⟨σd, M, R, Ex, er, mr, q, f, fx⟩ =>
    lift_bind er mr q fx fun w H1 M1 y e1 mr1 ry ⟨T, b, h1, h2, h3⟩ => by
      refine tCs_ok ⟨hz, fun tp htp => ?_⟩
      obtain ⟨k, hc⟩ := ok T b h2
      have x1 : Ext H1 M1 (upd H1 tp (.tup vs)) M1 := Ext.laid0 htp
      have m1 := mr1.laid0 (o := .tup vs) htp
      exact ⟨w, tp, vs, T.v, us, b, rfl, upd_same, c.paired, tyx_of (ry.ext x1 mr1) m1 h1 hc, k, ((f.ext e1).ext x1).bl m1 h3⟩
end
end LD
end

section
set_option maxRecDepth 100000
set_option maxHeartbeats 2000000
namespace LD
open PySem PySem.Spec PyProof.Rows L2
/-! ### own == and != -/
section
variable {prog : Program} {w : World} {A : Around} {E : Value → Shared → Prop} {s : Shared} {K : PySem.W.Frag} {x C L f : Addr} {h₀ : Heap} {m : Str → Option Value} {ox : Obj} {od : Option Obj} {b tb : Value}
theorem ne_own {Q : Value → Shared → Prop} (hu : A.units + 1 < cLine) (X : K.In s.heap) (I : PySem.W.InstAt s.heap x ox C od) (hb : PySem.W.Looks (model prog w) s.heap (typeOf b) tb) (hn : PySem.W.notFirst K C tb = true)
    (hne : PySem.W.findIn K (.ref C) "__ne__" = some (some (.builtin "object.__ne__"))) (hm : PySem.W.mroIn K C (.type "object") = some true)
    (hs : PySem.W.findIn K (.ref C) "__eq__" = some (some (.ref f))) (hf : PySem.W.isFn K (.ref f) = true)
    (h : wpAny (model prog w) A.in1 (call (.ref f) [.ref x, b]) (fun v s' => ∃ r, v = .bool r ∧ Q (.bool (!r)) s') E s) : wpAny (model prog w) A (richCompare .NotEq (.ref x) b) Q E s := by
  have entry : wpAny (model prog w) A.in1 (Builtin.«object.__ne__» ⟨[.ref x, b], []⟩) (fun f s' => ∃ r, f = .done (.ret (.bool r)) ∧ Q (.bool r) s') E s := by
    unfold Builtin.«object.__ne__»
    repeat (first
      | with_reducible refine wpAny_cRoomFor hu ?_
      | (refine wpAny_bind (m := callSpecialIfBound? (.ref x) (Str.ofString "__eq__") [b])
          (PySem.W.ifBound_K X I hs hf (wpAny_mono h (fun r s' hr => by
            obtain ⟨b, rfl, hq⟩ := hr
            repeat (first | exact ⟨_, rfl, hq⟩ | exact wpAny_pure ⟨_, rfl, hq⟩ | exact wpAny_truthy_bool ⟨_, rfl, hq⟩ | (refine wpAny_bind (m := truthy (.bool _)) (wpAny_truthy_bool ?_)) | wp_step)) fun _ _ e => e)))
      | wp_step)
  have one : wpAny (model prog w) A (tryCompare (.ref x) "__ne__" b) (fun r s' => ∃ v, r = some v ∧ Q v s') E s := by
    unfold tryCompare
    have ibo : wpAny (model prog w) A (callSpecialIfBound? (.ref x) "__ne__" [b]) (fun r s' => ∃ v, r = some (.bool v) ∧ Q (.bool v) s') E s := by
      have hcall : wpAny (model prog w) A (call (.builtin "object.__ne__") [.ref x, b]) (fun v s' => ∃ r, v = .bool r ∧ Q (.bool r) s') E s :=
        wpAny_call (codeAny_call_builtin F.cmp_object.ne.plain F.cmpEntry_ne (PySem.W.check_slot F.cmpKind_ne F.cmpSplit_ne (I.type.andThen (PySem.W.looks_mroIn X hm)) (F.cmpArgs_ne _ _) (wpAny_mono entry (fun r s' hr => by
          obtain ⟨q, rfl, hq⟩ := hr
          exact ⟨q, rfl, hq⟩) fun _ _ e => e)))
      simp only [callSpecialIfBound?, bindSpecialIfBound?]
      refine wpAny_holding (wpAny_bind (wpAny_bind (wpAny_bind (I.type.here ((PySem.W.looks_findIn X hne).here ?_)))))
      refine wpAny_bind (wpAny_askSetting (wpAny_ite ?_))
      have fin : wpAny (model prog w) A (call (.builtin "object.__ne__") ([.ref x] ++ [b]) >>= fun v => pure (some v)) (fun r s' => ∃ v, r = some (.bool v) ∧ Q (.bool v) s') E s := wpAny_bind (wpAny_mono hcall (fun v s' h' => by
        obtain ⟨r, rfl, hq⟩ := h'
        exact wpAny_pure ⟨r, rfl, hq⟩) fun _ _ h' => h')
      split
      · exact wpAny_bind (wpAny_of_eq (F.cmp_object.ne.bind _) (wpAny_pure (by exact fin)))
      · exact wpAny_tryCatch (wpAny_bind (wpAny_of_eq (F.cmp_object.ne.bind _) (wpAny_pure (by exact fin))))
    refine wpAny_bind (wpAny_mono ibo (fun r s' hr => ?_) fun _ _ e => e)
    obtain ⟨v, rfl, hq⟩ := hr
    exact wpAny_pure ⟨_, rfl, hq⟩
  unfold richCompare
  simp only [oneThing_ref]
  refine wpAny_holding (wpAny_bind (wpAny_cRoomFor (by omega) ?_))
  refine wpAny_bind (I.type.here (wpAny_bind (hb.here ?_)))
  split
  · rename_i q
    have e : PySem.W.subIn K tb (.ref C) = some false := by
      rcases Bool.or_eq_true_iff.mp hn with e | e
      · rw [beq_iff_eq.mp e] at q; simp at q
      · exact beq_iff_eq.mp e
    refine wpAny_bind ((PySem.W.looks_subIn X e).here ?_)
    simp only [Bool.false_eq_true, if_false]
    refine wpAny_bind (wpAny_mono one (fun r s' z => ?_) fun _ _ e => e)
    obtain ⟨v, rfl, hq⟩ := z
    exact wpAny_pure hq
  · refine wpAny_bind (wpAny_pure ?_)
    simp only [Bool.false_eq_true, if_false]
    refine wpAny_bind (wpAny_mono one (fun r s' z => ?_) fun _ _ e => e)
    obtain ⟨v, rfl, hq⟩ := z
    exact wpAny_pure hq
theorem sub_b {n : String} {ms : List String} (e : fastBuiltinMro n = some (ms.map Value.type)) : PySem.W.subIn K (.type n) (.ref C) = some false := by
  show (fastBuiltinMro n).map (·.contains (.ref C)) = some false
  rw [e]
  simp
end
/-- a class that == of an instance of C may meet -/
def tyEq (C : Addr) : Ty → Bool
  | .own D => decide (D = C)
  | .b n => decide (n = "NoneType") || decide (n = "bool") || decide (n = "int") || decide (n = "str") || decide (n = "tuple") || decide (n = "list")
theorem notFirst_of {K : PySem.W.Frag} {C : Addr} {T : Ty} (h : tyEq C T = true) : PySem.W.notFirst K C T.v = true := by
  cases T with
  | own D =>
    have e : D = C := of_decide_eq_true h
    subst e
    simp [PySem.W.notFirst, Ty.v]
  | b n =>
    have g : PySem.W.subIn K (.type n) (.ref C) = some false := by
      unfold tyEq at h
      simp only [Bool.or_eq_true, decide_eq_true_eq] at h
      rcases h with ((((rfl | rfl) | rfl) | rfl) | rfl) | rfl
      · exact sub_b (ms := ["NoneType", "object"]) (by decide +kernel)
      · exact sub_b (ms := ["bool", "int", "object"]) (by decide +kernel)
      · exact sub_b (ms := ["int", "object"]) (by decide +kernel)
      · exact sub_b (ms := ["str", "object"]) (by decide +kernel)
      · exact sub_b (ms := ["tuple", "object"]) (by decide +kernel)
      · exact sub_b (ms := ["list", "object"]) (by decide +kernel)
    simp [PySem.W.notFirst, Ty.v, g]
/-- x == y, x != y by x's own __eq__ -/
def oOwn (ne : Bool) (C : Addr) (sp : DSp) : DOp2 := fun x y M R => tyD M x = some (.own C) ∧ (∃ T, tyD M y = some T ∧ tyEq C T = true) ∧ sp [x, y] M (fun d M2 => ∃ b, d = .bl b ∧ R (.bl (ne ^^ b)) M2) fun _ _ _ => False
def rOwn (ne : Bool) (K : PySem.W.Frag) (C : Addr) (sp : DSp) : R2 := fun x y H Q => ∃ a dx fs t, x = .ref a ∧ H a = some (.ins C dx fs) ∧ TyX K H y t ∧ PySem.W.notFirst K C t = true ∧ liftSp K sp [x, y] H (fun v H' => ∃ b, v = .bl b ∧ Q (.bl (ne ^^ b)) H') fun _ _ _ => False
theorem insD {K : PySem.W.Frag} {H : Hp} {M : DM} {C : Addr} {d : D} {v : V} (r : Rep K H M d v) (mr : MR K H M) (h : tyD M d = some (.own C)) : ∃ a dx fs, v = .ref a ∧ H a = some (.ins C dx fs) := by
  cases d with
  | obj C' ns ds =>
    cases h
    unfold Rep at r
    obtain ⟨a, dx, vs, rfl, m, s, l, q⟩ := r
    exact ⟨a, dx, _, rfl, s⟩
  | ref a =>
    unfold Rep at r
    unfold tyD at h
    cases q : M a with
    | none => simp [q] at h
    | some o =>
      subst r
      cases o with
      | lst xs => simp [q] at h
      | ins C' ns xs =>
        simp [q] at h; subst h
        obtain ⟨dx, vs, e, _⟩ := mr a _ q
        exact ⟨a, dx, _, rfl, e⟩
  | _ => cases h
theorem ok_own {K : PySem.W.Frag} {ne : Bool} {C : Addr} {sp : DSp} (ic : IsC K C) : OpOk K (rOwn ne K C sp) (oOwn ne C sp) := fun x y vx vy H M R Q rx ry mr ⟨h1, ⟨T, h2, h3⟩, h4⟩ f => by
  obtain ⟨a, dx, fs, rfl, ea⟩ := insD rx mr h1
  refine ⟨a, dx, fs, T.v, rfl, ea, tyx_of ry mr h2 fun C' e => ?_, notFirst_of h3, [x, y], M, _, _, .cons rx (.single ry), mr, h4, fun v H' M' d e1 mr1 rd ⟨b, eb, q⟩ => ?_, fun _ _ _ _ _ _ _ _ z => z⟩
  · subst e
    have : C' = C := of_decide_eq_true h3
    rw [this]; exact ic
  · subst eb
    cases rd
    exact ⟨b, rfl, f (.bl (ne ^^ b)) H' M' (.bl (ne ^^ b)) e1 mr1 rfl q⟩
/-- the class's own == -/
structure EqE (P : Program) (w : World) (K : PySem.W.Frag) (mg : Str → Option Value) (base : Heap) (A : Around) (C : Addr) (sp : DSp) : Prop where
  ex : ∃ (k : Nat) (f : Addr) (fd : FuncData) (ps : List Str), FnG P w K mg base (L2.CX P w) k f fd ps (liftSp K sp) ∧ Room (k + 1) A ∧ IsC K C ∧ Meth K C "__eq__" f ∧ Binds K fd ps []
  ne : PySem.W.findIn K (.ref C) "__ne__" = some (some (.builtin "object.__ne__"))
section
variable {X : Cx}
theorem run_eq {k : Nat} {f a : Addr} {fd : FuncData} {ps : List Str} {sp : Sp} {A : Around} {ne : Bool} {y : V} {u : Value} {pins : List (Addr × Obj)} {σ : L2.St} {H : Hp} {s : Shared} {Q : VK} {E' : Value → Shared → Prop} (I : Inv X pins σ H s) (F : FnG X.prog X.w X.K X.mg X.base (L2.CX X.prog X.w) k f fd ps sp) (hr : Room k A) (hgd : A.guards = some [])
    (hb : Binds X.K fd ps []) (ry : RelV y u) (h : sp [.ref a, y] H (fun v H' => ∃ b, v = .bl b ∧ Q (.bl (ne ^^ b)) H') E0) (e0 : Env0 X.prog X.w X.K X.mg X.base A X.stack s H) :
    wpAny (model X.prog X.w) A (call (.ref f) [.ref a, u]) (fun v s' => ∃ b, v = .bool b ∧ EP X pins σ Q (.bool (ne ^^ b)) s') E' s := by
  have hl : ([Value.ref a, u] ++ []).length = ps.length := F.len _ _ _ _ h
  refine wpAny_call (codeAny_mono (F.run A X.stack s H ⟨[.ref a, u], []⟩ [.ref a, u] [.ref a, y] _ E0 hr hgd e0 (hb s [.ref a, u] I.kIn hl) (.cons rfl (.cons ry .nil)) h) fun r s' hq => ?_)
  cases r with
  | error er => exact False.elim (passL (X := X.nox) pins σ H s er s' (I.wish _) hq)
  | ok fl =>
    cases fl with
    | ret u' =>
      obtain ⟨v, H', I', rz, b, eb, q⟩ := I.after hq
      subst eb
      cases rz
      exact ⟨b, rfl, .bl (ne ^^ b), H', I', rfl, q⟩
    | next => exact hq.elim
    | brk => exact hq.elim
    | cont => exact hq.elim
theorem op_eqOwn {C : Addr} {sp : DSp} (hgd : X.A.guards = some []) (F : EqE X.prog X.w X.K X.mg X.base X.A C sp) : OpR X (compareOp .Eq) (rOwn false X.K C sp) := by
  intro pins s σ H x y v u Q I rx ry ⟨a, dx, fs, t, ex, ea, ty, nf, q⟩
  obtain ⟨k, f, fd, ps, G, hr, ic, hm, hb⟩ := F.ex
  subst ex
  obtain rfl : v = Value.ref a := rx
  obtain ⟨mA, O, _⟩ := ins_get I.hok ea
  obtain ⟨od, J, _⟩ := O.look
  obtain ⟨m, hF⟩ := I.fr
  obtain ⟨P, kx, hP, _⟩ := kit_of I ry ty
  show wpAny (model X.prog X.w) X.A (richCompare .Eq (.ref a) u) (EP X pins σ Q) X.xe s
  refine PySem.W.cmp_K (op := .Eq) (tb := t) hr.units0 hF I.ok.mod.kin J (kx.ty _ _ I.kIn hP) nf hm.at_ hm.fn ?_
  refine wpAny_mono (run_eq (ne := false) (E' := X.xe) I G (hr.mono (Nat.le_succ k)) hgd hb ry q I.env0) (fun r s' ⟨b, e, z⟩ => ?_) fun _ _ z => z
  subst e
  show EP X pins σ Q (.bool b) s'
  simpa using z
theorem op_neOwn {C : Addr} {sp : DSp} (hgd : X.A.guards = some []) (F : EqE X.prog X.w X.K X.mg X.base X.A C sp) : OpR X (compareOp .NotEq) (rOwn true X.K C sp) := by
  intro pins s σ H x y v u Q I rx ry ⟨a, dx, fs, t, ex, ea, ty, nf, q⟩
  obtain ⟨k, f, fd, ps, G, hr, ic, hm, hb⟩ := F.ex
  subst ex
  obtain rfl : v = Value.ref a := rx
  obtain ⟨mA, O, _⟩ := ins_get I.hok ea
  obtain ⟨od, J, _⟩ := O.look
  obtain ⟨P, kx, hP, _⟩ := kit_of I ry ty
  show wpAny (model X.prog X.w) X.A (richCompare .NotEq (.ref a) u) (EP X pins σ Q) X.xe s
  refine ne_own (tb := t) (by have := hr.un; omega) I.kIn J (kx.ty _ _ I.kIn hP) nf F.ne ic.hm hm.at_ hm.fn ?_
  refine wpAny_mono (run_eq (ne := true) (E' := X.xe) I G hr.in1 hgd hb ry q I.env0.in1) (fun r s' ⟨b, e, z⟩ => ⟨b, e, ?_⟩) fun _ _ z => z
  simpa using z
end
/-! ### len of an instance -/
def cLenO (C : Addr) (sp : DSp) (ta : DTE) : DTE := fun σ M R Ex => ta σ M (fun x M1 => tyD M1 x = some (.own C) ∧ sp [x] M1 (fun d M2 => ∃ n : Nat, d = .int n ∧ n < 2 ^ 62 ∧ R (.int n) M2) fun _ _ _ => False) Ex
structure LnE (P : Program) (w : World) (K : PySem.W.Frag) (mg : Str → Option Value) (base : Heap) (A : Around) (C : Addr) (sp : DSp) : Prop where
  ex : ∃ (k : Nat) (f : Addr) (fd : FuncData) (ps : List Str), FnG P w K mg base (L2.CX P w) k f fd ps (liftSp K sp) ∧ Room (k + 1) A ∧ Meth K C "__len__" f ∧ Binds K fd ps []
section
variable {X : Cx} {W : WX} {e : Expr} {te : DTE} {p pos : Pos}
theorem boot_len : bootBuiltins ("len" : Str) = some (.builtin "len") := by decide +kernel
theorem de_lno {C : Addr} {sp : DSp} (hgd : X.A.guards = some []) (F : LnE X.prog X.w X.K X.mg X.base X.A C sp) (hi : Gl X "len") (hm : X.mg "len" = none) (he : DE X W e te) (hs : notStar e = true) : DE X W (.Call (.Name "len" p) [e] [] pos) (cLenO C sp te) := by
  obtain ⟨k, f, fd, ps, G, hr, hme, hb⟩ := F.ex
  have cr : CallR X (.builtin "len") (fun xs H Q => ∃ a dx fs, xs = [.ref a] ∧ H a = some (.ins C dx fs) ∧ liftSp X.K sp [.ref a] H (fun v H' => ∃ n : Nat, v = .int n ∧ n < 2 ^ 62 ∧ Q (.int n) H') E0) := by
    intro pins s σ H xs us Q I r ⟨a, dx, fs, exs, ea, q⟩
    subst exs
    cases r with
    | cons r1 r2 =>
    cases r2
    obtain rfl := (show _ = Value.ref a from r1)
    obtain ⟨mA, O, _⟩ := ins_get I.hok ea
    obtain ⟨od, J, _⟩ := O.look
    obtain ⟨m, hF⟩ := I.fr
    have hl : ([Value.ref a] ++ []).length = ps.length := G.len _ _ _ _ q
    refine PySem.W.len_K hF I.ok.mod.kin J hme.at_ hme.fn ?_
    refine wpAny_call (codeAny_mono (G.run X.A.in1 X.stack s H ⟨[.ref a], []⟩ [.ref a] [.ref a] _ E0 hr.in1 hgd I.env0.in1 (hb s [.ref a] I.kIn hl) (.cons rfl .nil) q) fun r s' hq => ?_)
    cases r with
    | error er => exact False.elim (passL (X := X.nox) pins σ H s er s' (I.wish _) hq)
    | ok fl =>
      cases fl with
      | ret u' =>
        obtain ⟨v, H', I', rz, n, en, hn, q⟩ := I.after hq
        subst en
        obtain ⟨t, rfl⟩ := (show ∃ t, u' = Value.int n t from rz)
        exact ⟨⟨by omega, by omega⟩, .int n, H', I'.tok _, ⟨_, rfl⟩, q⟩
      | next => exact hq.elim
      | brk => exact hq.elim
      | cont => exact hq.elim
  exact (pe_callB cr hi hm boot_len (pa_cons he pa_nil (starEach_ns hs)) (by decide +kernel) (by decide +kernel) (starEach_ns hs)).imp fun σ H Q ⟨σd, M, R, Ex, er, mr, q, f, fx⟩ =>
    lift_bind er mr q fx fun v H1 M1 x e1 mr1 rx ⟨h1, h2⟩ => by
      obtain ⟨a, dx, fs, rfl, ea⟩ := insD rx mr1 h1
      refine ⟨a, dx, fs, rfl, ea, [x], M1, _, _, .single rx, mr1, h2, fun v H' M' d e2 mr2 rd ⟨n, en, hn, q⟩ => ?_, fun _ _ _ _ _ _ _ _ z => z⟩
      subst en
      cases rd
      exact ⟨n, rfl, hn, f (.int n) H' M' (.int n) (e1.trans e2) mr2 rfl q⟩
end
end LD
end

section
set_option maxRecDepth 100000
set_option maxHeartbeats 2000000
namespace LD
open PySem PySem.Spec PyProof.Rows L2
/-! ### t[::-1] of a tuple -/
section
variable {prog : Program} {w : World} {A : Around} {E : Value → Shared → Prop} {s : Shared}
theorem adjust_rev (n : Nat) : Builtin.Slice.sliceAdjust none none (-1) (n : Int) = ((n : Int) - 1, -1) := by
  unfold Builtin.Slice.sliceAdjust
  simp
theorem places_rev (n : Nat) : Builtin.Slice.slicePlaces ((n : Int) - 1) (-1) (-1) = n := by
  unfold Builtin.Slice.slicePlaces
  have h1 : ¬ ((-1 : Int) > 0) := by omega
  simp only [h1, if_false]
  have e : (- -1 : Int) = 1 := by decide
  rw [e, Int.ediv_one]
  split <;> omega
theorem sliceApplied_rev {sl : Addr} {vs : Value} {n : Nat} {Q : Int × Int × Nat → Shared → Prop} (hs : s.heap.IsSliceOf sl .none .none vs) (ps : IsPart vs (some (-1)))
    (h : Q ((n : Int) - 1, -1, n) s) : wpAny (model prog w) A (Builtin.Slice.sliceApplied (.ref sl) (pure (n : Int))) Q E s := by
  obtain ⟨os, hos, hcs, hds⟩ := id hs
  unfold Builtin.Slice.sliceApplied Builtin.Slice.sliceFields
  refine wpAny_bind (wpAny_bind (wpAny_field hos hds (x := .none) rfl (wpAny_bind (wpAny_field hos hds (x := .none) rfl (wpAny_bind (wpAny_field hos hds (x := vs) rfl (wpAny_pure ?_)))))))
  refine wpAny_bind (HT.slicePart_ ps ?_)
  show wpAny _ _ (if ((-1 : Int) == 0) = true then _ else _) _ _ s
  rw [if_neg (by decide)]
  refine wpAny_bind (HT.slicePart_ .none (wpAny_bind (HT.slicePart_ .none (wpAny_bind (wpAny_pure ?_)))))
  show wpAny _ _ (match Builtin.Slice.sliceAdjust none none (-1) (n : Int) with | (lo, hi) => pure (lo, (-1 : Int), Builtin.Slice.slicePlaces lo hi (-1))) _ _ s
  rw [adjust_rev n]
  show wpAny _ _ (pure ((n : Int) - 1, (-1 : Int), Builtin.Slice.slicePlaces ((n : Int) - 1) (-1) (-1))) _ _ s
  rw [places_rev]
  exact wpAny_pure h
theorem pick_rev (xs : Array Value) : ((List.range xs.size).filterMap fun (m : Nat) => xs[(((xs.size : Int) - 1) + (m : Int) * -1).toNat]?).toArray = xs.toList.reverse.toArray := by
  have e : (List.range xs.size).filterMap (fun (m : Nat) => xs[(((xs.size : Int) - 1) + (m : Int) * -1).toNat]?) = ((List.range xs.size).map fun k => xs.size - 1 - k).filterMap (xs[·]?) := by
    have e1 : (List.range xs.size).map (fun (m : Nat) => xs[(((xs.size : Int) - 1) + (m : Int) * -1).toNat]?) = (List.range xs.size).map (fun m => xs[xs.size - 1 - m]?) := by
      apply List.map_congr_left
      intro m hm
      have := List.mem_range.mp hm
      congr 1
      omega
    have e2 : ∀ g : Nat → Option Value, (List.range xs.size).filterMap g = ((List.range xs.size).map g).filterMap id := fun g => by
      rw [List.filterMap_map]; rfl
    rw [List.filterMap_map, e2, e1, ← e2]
    rfl
  rw [e, PySem.W.krv_range, List.filterMap_reverse, PySem.W.krv_all]
theorem getItem_tuple_rev {t sl : Addr} {items : Array Value} {vs : Value} {Q : Value → Shared → Prop} (ht : IsTup s.heap t items) (hs : s.heap.IsSliceOf sl .none .none vs) (ps : IsPart vs (some (-1)))
    (h : Q (.ref s.heap.objs.size) { s with heap := s.heap.push { cls := .type "tuple", data := .seq items.toList.reverse.toArray } })
    (hsz : items.size ≤ sizeLine) : wpAny (model prog w) A (getItem (.ref t) (.ref sl)) Q E s := by
  have htake : sizeOk (.seq items.toList.reverse.toArray) := by
    show items.toList.reverse.toArray.size ≤ sizeLine
    rw [List.size_toArray, List.length_reverse, Array.length_toList]
    exact hsz
  obtain ⟨os, hos, hcs, hds⟩ := id hs
  have hTs : s.TypeIs (.ref sl) "slice" := ⟨os, hos, hcs⟩
  unfold getItem
  try with_reducible refine wpAny_holding ?_
  first | refine wpAny_bind (wpAny_pure ?_) | skip
  refine wpAny_bind (wpAny_sequenceKey ht.typeIs (by decide) ?_)
  refine wpAny_bind (wpAny_callSpecial?_slot (name := Str.ofString "__getitem__") ht.typeIs PyProof.Rows.slot_tuple_getitem
    (wpAny_call_entry PyProof.Rows.slot_tuple_getitem ht.typeIs entry_tuple_getitem ?_ (args_tuple_getitem _ _)))
  show wpAny _ _ (Builtin.Tuple.tupleItemsOf (.ref t) >>= _) _ _ s
  refine wpAny_bind (tupleItemsOf_ ht ?_)
  refine wpAny_bind (wpAny_typeOf hTs ?_)
  rw [if_pos (by decide)]
  refine wpAny_bind (sliceApplied_rev hs ps ?_)
  have hno : ¬ ((((items.size : Int) - 1) == 0 && (-1 : Int) == 1 && items.size == items.size) = true) := by
    have : ((-1 : Int) == 1) = false := by decide
    rw [this]; simp
  show wpAny _ _ (if (((items.size : Int) - 1) == 0 && (-1 : Int) == 1 && items.size == items.size) = true then _ else _) _ _ s
  rw [if_neg hno, pick_rev]
  first
    | exact wpAny_bind (m := Builtin.Tuple.tupleExact _) (wpAny_newObj_type (wpAny_pure ⟨_, rfl, wpAny_pure h⟩) htake)
    | exact wpAny_bind (m := Builtin.Tuple.tupleExact _) (wpAny_newObj_type (wpAny_bind (wpAny_pure (wpAny_pure ⟨_, rfl, wpAny_pure h⟩))) htake)
    | exact wpAny_bind (wpAny_bind (m := Builtin.Tuple.tupleExact _) (wpAny_newObj_type (wpAny_pure (wpAny_pure ⟨_, rfl, wpAny_pure h⟩)) htake))
    | exact wpAny_bind (wpAny_bind (m := Builtin.Tuple.tupleExact _) (wpAny_newObj_type (wpAny_pure ⟨_, rfl, wpAny_pure h⟩) htake))
end
section
variable {X : Cx} {W : WX} {e : Expr} {es : List Expr} {te : DTE} {t : DTA} {p pos : Pos}
/-- a list or a tuple -/
def SqAny (K : PySem.W.Frag) (H : Hp) (a : Addr) (xs : List V) : Prop := SqL K H a xs ∨ SqT K H a xs
def tRevA (K : PySem.W.Frag) (te : TE) : TE := fun σ H Q => te σ H fun x H1 => ∃ a xs, x = .ref a ∧ ((SqL K H1 a xs ∧ ∀ p, H1 p = none → Q (.ref p) (upd H1 p (.lst xs.reverse))) ∨ (SqT K H1 a xs ∧ ∀ p, H1 p = none → Q (.ref p) (upd H1 p (.tup xs.reverse))))
theorem pe_revA {te : TE} {k : Nat} {p1 p2 p3 pos : Pos} (he : PE X e te) : PE X (.Subscript e (.Slice none none (some (.UnaryOp .USub (.Constant (.int 1) k p1) p2)) p3) pos) (tRevA X.K te) := by
  refine ⟨fun pins s σ H Q I h => ?_⟩
  refine Subscript_ (thn (he.run pins s σ H _ I h) fun v s1 ⟨x, H1, I1, r1, q1⟩ => ?_)
  obtain ⟨a, xs, ex, q⟩ := q1
  subst ex
  cases r1
  have hst : PO X (some (.UnaryOp .USub (.Constant (.int 1) k p1) p2)) (tPart (tUn (rU fun i => .int (-i)) (tC (.int 1)))) := po_some (pe_un un_neg pe_int)
  refine wpAny_Slice (thn (po_none.run pins s1 σ H1 (fun o H2 => o = none ∧ H2 = H1) I1 ⟨rfl, rfl⟩) fun vl s2 ⟨l, H2, I2, pl, el, e2⟩ => ?_)
  subst el e2
  refine thn (po_none.run pins s2 σ H2 (fun o H3 => o = none ∧ H3 = H2) I2 ⟨rfl, rfl⟩) fun vu s3 ⟨u, H3, I3, pu, eu, e3⟩ => ?_
  subst eu e3
  refine thn (hst.run pins s3 σ H3 (fun o H4 => o = some (-1) ∧ H4 = H3) I3 ⟨1, rfl, -1, rfl, rfl, rfl⟩) fun vs s4 ⟨o, H4, I4, ps, eo, e4⟩ => ?_
  subst eo e4
  have I5 : Inv X pins σ H4 { s4 with heap := s4.heap.push { cls := .type "slice", data := .fields #[vl, vu, vs] } } := I4.kept (t' := s4.toks) fun b ob q => Heap.get?_push_of_some _ q
  show wpAny (model X.prog X.w) X.A (subscriptTail e (.Slice none none (some (.UnaryOp .USub (.Constant (.int 1) k p1) p2)) p3) (.ref a) (.ref s4.heap.objs.size)) (EP X pins σ Q) X.xe { s4 with heap := s4.heap.push { cls := .type "slice", data := .fields #[vl, vu, vs] } }
  rcases q with ⟨hx, q⟩ | ⟨hx, q⟩
  · obtain ⟨its, r, ht, hz⟩ := I5.list hx
    have hlen := r.length
    refine tail_any (ops := [.ref a, .ref s4.heap.objs.size]) ht.isList.typeIs (PySem.slot_list_getitem.lookup) ?_ (by with_unfolding_all rfl)
    refine wpAny_getItem_list_slice ht.isList (Heap.IsSliceOf.new _ vl vu vs) pl pu ps (by decide) ?_ (by rw [List.size_toArray]; omega)
    rw [PySem.W.krv_pick]
    refine ⟨.ref _, _, I5.laid (t' := s4.toks) (o := .lst xs.reverse) (fun b ob q => Heap.get?_push_of_some _ q) (Nat.le_refl _) ?_, rfl, q _ (I5.hok.fresh (Nat.le_refl _))⟩
    exact ⟨by rw [List.length_reverse]; exact hz, _, 0, r.reverse, Heap.get?_push_size _ rfl⟩
  · obtain ⟨its, r, ht, hz⟩ := I5.tuple hx
    have hlen := r.length
    cases pl
    cases pu
    refine tail_any (ops := [.ref a, .ref s4.heap.objs.size]) ht.typeIs PyProof.Rows.slot_tuple_getitem.lookup ?_ (by with_unfolding_all rfl)
    refine getItem_tuple_rev ht (Heap.IsSliceOf.new _ .none .none vs) ps ?_ (by rw [List.size_toArray]; omega)
    refine ⟨.ref _, _, I5.laid (t' := s4.toks) (o := .tup xs.reverse) (fun b ob q => Heap.get?_push_of_some _ q) (Nat.le_refl _) ?_, rfl, q _ (I5.hok.fresh (Nat.le_refl _))⟩
    exact ⟨by rw [List.length_reverse]; exact hz, _, r.reverse, IsTup.new _ _⟩
def dRevA (te : DTE) : DTE := fun σ M R Ex => te σ M (fun x M1 => (∃ ds, isL M1 x = some ds ∧ ∀ p, M1 p = none → R (.ref p) (updM M1 p (.lst ds.reverse))) ∨ ∃ ds, x = .tup ds ∧ R (.tup ds.reverse) M1) Ex
theorem de_revA {k : Nat} {p1 p2 p3 : Pos} (he : DE X W e te) : DE X W (.Subscript e (.Slice none none (some (.UnaryOp .USub (.Constant (.int 1) k p1) p2)) p3) pos) (dRevA te) :=
  (pe_revA he).imp fun σ H Q ⟨σd, M, R, Ex, er, mr, q, f, fx⟩ => lift_bind er mr q fx fun v H1 M1 x e1 mr1 rx q1 => by
    rcases q1 with ⟨ds, h1, h2⟩ | ⟨ds, h1, h2⟩
    · obtain ⟨a, vs, ev, s, r⟩ := sqL_of rx mr1 h1
      exact ⟨a, vs, ev, .inl ⟨s, fun p hp => (f.ext e1).newL mr1 r.reverse h2 hp⟩⟩
    · subst h1
      obtain ⟨a, vs, ev, s, r⟩ := sqT_of rx (ds := ds) rfl
      exact ⟨a, vs, ev, .inr ⟨s, fun p hp => (f.ext e1).newT mr1 r.reverse h2 hp⟩⟩
/-! ### *xs in a display -/
def tConsS (K : PySem.W.Frag) (te : TE) (tr : TA) : TA := fun σ H Q => te σ H fun x H1 => ∃ a ys, x = .ref a ∧ SqAny K H1 a ys ∧ tr σ H1 fun xs H2 => Q (ys ++ xs) H2
theorem star_of {pins : List (Addr × Obj)} {σ : L2.St} {H : Hp} {s : Shared} {a : Addr} {ys : List V} {Q : List Value → Shared → Prop} (I : Inv X pins σ H s) (h : SqAny X.K H a ys) (k : ∀ us s', Vals ys us → Inv X pins σ H s' → Q us s') :
    PySem.W.StarOf (model X.prog X.w) X.A X.xe (.ref a) Q s := by
  have key : ∀ {o : Obj} {its : List Value} {n : Nat} {T : String}, s.heap.get? a = some o → o.cls = .type T → o.data = .seq its.toArray n → (T = "list" ∨ T = "tuple") → Vals ys its → ys.length ≤ sizeLine → PySem.W.StarOf (model X.prog X.w) X.A X.xe (.ref a) Q s := by
    intro o its n T e1 e2 e3 hT r hz
    have hT' : s.TypeIs (.ref a) T := ⟨o, e1, e2⟩
    have z : wpAny (model X.prog X.w) X.A (collect (.ref a)) Q X.xe s :=
      wpAny_collect_seq a hT e1 e2 e3 (fun h' hk => k _ _ r (I.kept (t' := s.toks) hk)) (by rw [List.size_toArray, ← r.length]; exact hz)
    unfold PySem.W.StarOf notIterableAtAll
    rcases hT with rfl | rfl
    · exact wpAny_bind (wpAny_specialOf hT' PySem.F.slot_list_iter.lookup (wpAny_pure ⟨rfl, z⟩))
    · exact wpAny_bind (wpAny_specialOf hT' PySem.F.slot_tuple_iter.lookup (wpAny_pure ⟨rfl, z⟩))
  rcases h with h | h
  · obtain ⟨its, r, ⟨o, n, e1, e2, _, e3⟩, hz⟩ := I.list h
    exact key e1 e2 e3 (.inl rfl) r hz
  · obtain ⟨its, r, ht, hz⟩ := I.tuple h
    obtain ⟨o, e1, e2, n, e3⟩ := ht
    exact key e1 e2 e3 (.inr rfl) r hz
theorem pa_consS {te : TE} {t : TA} (ha : PE X e te) (hr : PA X es t) : PA X (.Starred e p :: es) (tConsS X.K te t) := by
  refine ⟨fun pos pins s σ H Q I h => ?_⟩
  refine PySem.W.items_star (thn (ha.run pins s σ H _ I h) fun u s1 ⟨x, H1, I1, r1, a, ys, ex, hs, q1⟩ => ?_)
  subst ex
  cases r1
  refine star_of I1 hs fun us s2 rys I2 => ?_
  exact thn (hr.run pos pins s2 σ H1 _ I2 q1) fun vs s3 ⟨xs, H3, I3, r3, q3⟩ => ⟨ys ++ xs, H3, I3, rys.append r3, q3⟩
def dConsS (te : DTE) (tr : DTA) : DTA := fun σ M R Ex => te σ M (fun x M1 => ∃ ds, isS M1 x = some ds ∧ tr σ M1 (fun xs M2 => R (ds ++ xs) M2) Ex) Ex
theorem da_consS (ha : DE X W e te) (hr : DA X W es t) : DA X W (.Starred e p :: es) (dConsS te t) :=
  (pa_consS ha hr).imp fun σ H Q ⟨σd, M, R, Ex, er, mr, q, f, fx⟩ => lift_bind er mr q fx fun v H1 M1 x e1 mr1 rx ⟨ds, h1, h2⟩ => by
    have fin : ∀ {a : Addr} {vs : List V}, v = .ref a → SqAny X.K H1 a vs → Reps X.K H1 M1 ds vs → ∃ a ys, v = .ref a ∧ SqAny X.K H1 a ys ∧ liftA X.K W t σ H1 fun xs H2 => Q (ys ++ xs) H2 := fun {a vs} ev s r =>
      ⟨a, vs, ev, s, σd, M1, _, Ex, er.ext e1 mr, mr1, h2, fun ws H2 M2 es2 e2 mr2 r2 q2 => f _ H2 M2 _ (e1.trans e2) mr2 ((r.ext e2 mr1).append r2) q2, fx.ext e1⟩
    rcases isS_cases h1 with h | h
    · obtain ⟨a, vs, ev, s, r⟩ := sqL_of rx mr1 h
      exact fin ev (.inl s) r
    · obtain ⟨a, vs, ev, s, r⟩ := sqT_of rx h
      exact fin ev (.inr s) r
end
end LD
end

section
set_option maxRecDepth 100000
set_option maxHeartbeats 2000000
namespace LD
open PySem PySem.Spec PyProof.Rows L2
/-! ### xs[::k] of a list, k 1 or -1 -/
section
variable {X : Cx} {W : WX} {e st : Expr} {te ts : DTE} {pos p3 : Pos}
def dirV {α : Type} (j : Int) (xs : List α) : List α := if j = 1 then xs else xs.reverse
theorem pick_dir {its : List Value} {j : Int} (h : j = 1 ∨ j = -1) : slicePick its.toArray none none (some j) = (dirV j its).toArray := by
  rcases h with rfl | rfl
  · show slicePick its.toArray none none none = _
    rw [slicePick_cut]
    simp [HT.sIx, dirV]
  · rw [PySem.W.krv_pick]
    simp [dirV]
theorem vals_dir {xs : List V} {us : List Value} {j : Int} (r : Vals xs us) : Vals (dirV j xs) (dirV j us) := by
  unfold dirV
  split
  · exact r
  · exact r.reverse
theorem reps_dir {K : PySem.W.Frag} {H : Hp} {M : DM} {ds : List D} {vs : List V} {j : Int} (r : Reps K H M ds vs) : Reps K H M (dirV j ds) (dirV j vs) := by
  unfold dirV
  split
  · exact r
  · exact r.reverse
theorem dir_len {α : Type} {j : Int} {xs : List α} : (dirV j xs).length = xs.length := by
  unfold dirV
  split
  · rfl
  · exact List.length_reverse
def tStL (K : PySem.W.Frag) (te ts : TE) : TE := fun σ H Q => te σ H fun x H1 => ts σ H1 fun y H2 => ∃ a xs j, x = .ref a ∧ y = .int j ∧ SqL K H2 a xs ∧ (j = 1 ∨ j = -1) ∧ ∀ p, H2 p = none → Q (.ref p) (upd H2 p (.lst (dirV j xs)))
theorem pe_stL {te ts : TE} (he : PE X e te) (hs : PE X st ts) : PE X (.Subscript e (.Slice none none (some st) p3) pos) (tStL X.K te ts) := by
  refine ⟨fun pins s σ H Q I h => ?_⟩
  refine Subscript_ (thn (he.run pins s σ H _ I h) fun v s1 ⟨x, H1, I1, r1, q1⟩ => ?_)
  refine wpAny_Slice (thn (po_none.run pins s1 σ H1 (fun o H2 => o = none ∧ H2 = H1) I1 ⟨rfl, rfl⟩) fun vl s2 ⟨l, H2, I2, pl, el, e2⟩ => ?_)
  subst el e2
  refine thn (po_none.run pins s2 σ H2 (fun o H3 => o = none ∧ H3 = H2) I2 ⟨rfl, rfl⟩) fun vu s3 ⟨u, H3, I3, pu, eu, e3⟩ => ?_
  subst eu e3
  rw [evalPart_some]
  refine thn (hs.run pins s3 σ H3 _ I3 q1) fun vs s4 ⟨y, H4, I4, ry, a, xs, j, ex, ey, hx, hj, q⟩ => ?_
  subst ex ey
  cases r1
  obtain ⟨tk, rfl⟩ := (show ∃ t, vs = Value.int j t from ry)
  have I5 : Inv X pins σ H4 { s4 with heap := s4.heap.push { cls := .type "slice", data := .fields #[vl, vu, .int j tk] } } := I4.kept (t' := s4.toks) fun b ob q => Heap.get?_push_of_some _ q
  show wpAny (model X.prog X.w) X.A (subscriptTail e (.Slice none none (some st) p3) (.ref a) (.ref s4.heap.objs.size)) (EP X pins σ Q) X.xe { s4 with heap := s4.heap.push { cls := .type "slice", data := .fields #[vl, vu, .int j tk] } }
  obtain ⟨its, r, ht, hz⟩ := I5.list hx
  have hlen := r.length
  refine tail_any (ops := [.ref a, .ref s4.heap.objs.size]) ht.isList.typeIs (PySem.slot_list_getitem.lookup) ?_ (by with_unfolding_all rfl)
  refine wpAny_getItem_list_slice ht.isList (Heap.IsSliceOf.new _ vl vu (.int j tk)) pl pu (.int j tk) (by rcases hj with rfl | rfl <;> decide) ?_ (by rw [List.size_toArray]; omega)
  rw [pick_dir hj]
  refine ⟨.ref _, _, I5.laid (t' := s4.toks) (o := .lst (dirV j xs)) (fun b ob q => Heap.get?_push_of_some _ q) (Nat.le_refl _) ?_, rfl, q _ (I5.hok.fresh (Nat.le_refl _))⟩
  exact ⟨by rw [dir_len]; exact hz, _, 0, vals_dir r, Heap.get?_push_size _ rfl⟩
def dStL (te ts : DTE) : DTE := fun σ M R Ex => te σ M (fun x M1 => ts σ M1 (fun y M2 => ∃ ds j, isL M2 x = some ds ∧ y = .int j ∧ (j = 1 ∨ j = -1) ∧ ∀ p, M2 p = none → R (.ref p) (updM M2 p (.lst (dirV j ds)))) Ex) Ex
theorem de_stL (he : DE X W e te) (hs : DE X W st ts) : DE X W (.Subscript e (.Slice none none (some st) p3) pos) (dStL te ts) :=
  (pe_stL he hs).imp fun σ H Q ⟨σd, M, R, Ex, er, mr, q, f, fx⟩ => lift_bind er mr q fx fun v H1 M1 x e1 mr1 rx q1 =>
    lift_bind (er.ext e1 mr) mr1 q1 (fx.ext e1) fun w H2 M2 y e2 mr2 ry ⟨ds, j, h1, h2, h3, h4⟩ => by
      obtain ⟨a, vs, ev, s, r⟩ := sqL_of (rx.ext e2 mr1) mr2 h1
      subst h2
      cases ry
      exact ⟨a, vs, j, ev, rfl, s, h3, fun p hp => (f.ext (e1.trans e2)).newL mr2 (reps_dir r) h4 hp⟩
end
end LD
end

section
set_option maxRecDepth 100000
set_option maxHeartbeats 2000000
namespace LD
open PySem PySem.Spec PyProof.Rows L2
open AutoSeq1 (wpAny_loadPart')
/-! ### enumerate of a tuple -/
theorem enum_newT (l : Addr) (items : Array Value) (n : Nat) (dct : Option Addr) (sl : Array (Option Value)) :
    Meets (Builtin.«enumerate.__new__» ⟨[.type "enumerate", .ref l], []⟩) (fun _ R s => s.heap.get? l = some { cls := .type "tuple", dict := dct, data := .seq items n, slots := sl } ∧
      R (.ok (.ret (.ref (s.heap.push { cls := .type "tuple_iterator", data := .fields #[.ref l, .int 0 0] }).objs.size)))
        { s with heap := (s.heap.push { cls := .type "tuple_iterator", data := .fields #[.ref l, .int 0 0] }).push { cls := .type "enumerate", data := .fields #[.none, .bool false, .ref s.heap.objs.size, rawInt 0, .none, .none] } }) :=
  .of_wp fun prog w A R s h => by
    obtain ⟨hp, g, d, tk, os⟩ := s; obtain ⟨hl, h⟩ := h
    have hsub := sub_enumerate
    have hL : Heap.IsTuple (Shared.heap ⟨hp, g, d, tk, os⟩) l items := ⟨_, hl, rfl, n, rfl⟩
    wp_walk using wpAny_loadPart' hl
    refine wpAny_stack_any fun st => wpAny_pure ?_
    split
    · rename_i c _ _ _ _ _
      cases (c == Value.type "enumerate")
      · wp_walk using wpAny_loadPart' hl, wpAny_pyIter_tuple hL
        exact ⟨_, rfl, h⟩
      · wp_walk using wpAny_loadPart' hl, wpAny_pyIter_tuple hL
        exact ⟨_, rfl, h⟩
    · wp_walk using wpAny_loadPart' hl, wpAny_pyIter_tuple hL
      exact ⟨_, rfl, h⟩
section
variable {prog : Program} {w : World} {A : Around} {E : Value → Shared → Prop} {s : Shared}
theorem call_enumT {l : Addr} {items : Array Value} {Q : Value → Shared → Prop} (hL : s.heap.IsTuple l items)
    (h : ∀ h', IsEnum h' (s.heap.objs.size + 1) s.heap.objs.size 0 .none → h'.IsTupleIter s.heap.objs.size l 0 → h'.objs.size = s.heap.objs.size + 2 →
      (∀ b o, s.heap.get? b = some o → h'.get? b = some o) → Q (.ref (s.heap.objs.size + 1)) { s with heap := h' }) :
    wpAny (model prog w) A (call (.type "enumerate") [.ref l]) Q E s := by
  obtain ⟨⟨c, dct, dt, sl⟩, hl, hc, n, hd⟩ := hL
  replace hc : c = .type "tuple" := hc
  replace hd : dt = .seq items n := hd
  subst hc hd
  refine callType_new F.called_enumerate (by decide) (F.typeCall_enumerate_1 _) (F.newCall_enumerate_1 _) (fun obj => F.args_object_init_2 obj _) F.entry_enumerate_new
    (enum_newT l items n dct sl) ⟨hl, ?_⟩
  have hz : (s.heap.push { cls := .type "tuple_iterator", data := .fields #[.ref l, .int 0 0] }).objs.size = s.heap.objs.size + 1 := Heap.size_push ..
  show _ ∧ _
  rw [hz]
  have he : IsEnum ((s.heap.push { cls := .type "tuple_iterator", data := .fields #[.ref l, .int 0 0] }).push
      { cls := .type "enumerate", data := .fields #[.none, .bool false, .ref s.heap.objs.size, rawInt 0, .none, .none] }) (s.heap.objs.size + 1) s.heap.objs.size 0 .none := by
    have := Heap.get?_push_size (s.heap.push { cls := .type "tuple_iterator", data := .fields #[.ref l, .int 0 0] })
      (o := { cls := .type "enumerate", data := .fields #[.none, .bool false, .ref s.heap.objs.size, rawInt 0, .none, .none] }) rfl
    rw [hz] at this; exact this
  refine ⟨⟨_, he, rfl⟩, h _ he ⟨_, Heap.get?_push_of_some _ (Heap.get?_push_size _ rfl), rfl, rfl⟩ (by rw [Heap.size_push, hz]) fun b o x => Heap.get?_push_of_some _ (Heap.get?_push_of_some _ x)⟩
end
/-- the tuple at a, each item in a new pair -/
def IteT (K : PySem.W.Frag) (a : Addr) : It :=
  ⟨fun i H => ∃ (xs : List V) (x : V), SqT K H a xs ∧ xs[i]? = some x, fun i H v H' => ∃ T x, v = .ref T ∧ H T = none ∧ H' = upd H T (.tup [.int (i : Nat), x]) ∧ ∀ xs, SqT K H a xs → xs[i]? = some x, fun i H => ∃ xs : List V, SqT K H a xs ∧ xs.length ≤ i⟩
theorem turn_enumT {P : Program} {w : World} {K : PySem.W.Frag} {elts : List Expr} {kk : Nat} {tpos : Pos} (a e it : Addr) (hai : a ≠ it) (hae : a ≠ e) :
    Turn P w K (.Tuple elts kk tpos) (IteT K a) [e, it] e (fun i h => (∃ old, IsEnum h e it ((i : Nat) : Int) old) ∧ h.IsTupleIter it a i ∧ e ≠ it) where
  mem := by simp
  obj := fun i h st b hb => by
    obtain ⟨⟨old, he⟩, ⟨o, ho, hc, hd⟩, _⟩ := st
    have e' : b = e ∨ b = it := by simpa using hb
    rcases e' with z | z
    · rw [z]; exact ⟨_, he, fun v q => nomatch q⟩
    · rw [z]; exact ⟨o, ho, fun v q => by rw [hd] at q; cases q⟩
  keep := fun i h h' st k => let ⟨⟨old, he⟩, hi, hne⟩ := st; ⟨⟨old, k e (by simp) _ he⟩, hi.at fun o q => k it (by simp) o q, hne⟩
  item := by
    intro X hP hw hK hc i pins s σ H E I hf st hg
    subst hP hw hK
    obtain ⟨⟨old, he⟩, hit, hne⟩ := st
    obtain ⟨xs, x, hq, hx⟩ := hg
    obtain ⟨its, rv, p, hz⟩ := I.tuple hq
    obtain ⟨u, hu, ru⟩ := rv.get hx
    have hel : e < s.heap.objs.size := Heap.lt_size he
    have hil : it < s.heap.objs.size := by obtain ⟨_, q, _⟩ := hit; exact Heap.lt_size q
    have hlt : i < its.toArray.size := by
      have := (List.getElem?_eq_some_iff.mp hu).1
      simpa using this
    refine wpAny_pyNext_enum_itemD (Draws.tuple (A := X.A.in1) (show X.A.in1.handled = none from I.ok.hd hc) it a hai its.toArray) he ⟨hit, p⟩ hlt hne (by simp [hne, Ne.symm hae]) fun u' h' tk hu' ho st' hT hsz hk => ?_
    have eu : u' = u := by
      have h1 : its.toArray[i]? = some u' := hu'
      simp only [List.getElem?_toArray] at h1
      rw [hu] at h1
      exact (Option.some.inj h1).symm
    subst eu
    obtain ⟨hit', _⟩ := st'
    refine ⟨_, rfl, wpAny_letOwnedTupleGo_enum (s := { s with heap := h', toks := tk + 1 }) ho fun h'' he' sb => ?_⟩
    have hT2 : h''.get? s.heap.objs.size = some { cls := .type "tuple", data := .seq #[.int i tk, u'] } := (sb.2 _ (Nat.ne_of_gt hel)).trans hT
    have new : ObjOk X.prog X.w (upd H s.heap.objs.size (.tup [.int (i : Nat), x])) h'' s.heap.objs.size (.tup [.int (i : Nat), x]) :=
      ⟨by show 2 ≤ sizeLine; decide, [.int i tk, u'], .cons ⟨_, rfl⟩ (.cons ru .nil), ⟨_, hT2, rfl, _, rfl⟩⟩
    have I1 : Inv X pins σ (upd H s.heap.objs.size (.tup [.int (i : Nat), x])) { s with heap := h'', toks := tk + 1 } :=
      I.turnedNew (ch := [e, it]) (fun b ob hb q => (sb.2 b (fun z => hb (by simp [z]))).trans (hk b ob (fun z => hb (by simp [z])) (fun z => hb (by simp [z])) q)) hf (Nat.le_refl _) new
    refine ⟨.ref s.heap.objs.size, _, I1, rfl, ⟨_, x, rfl, I.hok.fresh (Nat.le_refl _), rfl, fun ys hy => by rw [I.tuple_inj hy hq]; exact hx⟩, ⟨⟨u', ?_⟩, hit'.at fun o q => (sb.2 it (Ne.symm hne)).trans q, hne⟩, fun b hb => ?_⟩
    · have e1 : ((i + 1 : Nat) : Int) = (i : Int) + 1 := by omega
      rw [e1]; exact he'
    · have hb' : b < s.heap.objs.size := by
        have e' : b = e ∨ b = it := by simpa using hb
        rcases e' with z | z
        · rw [z]; exact hel
        · rw [z]; exact hil
      rw [upd_ne (Nat.ne_of_lt hb')]
      exact (hf b hb).1
  done := by
    intro X hP hw hK hc i pins s σ H E I hf st hg
    subst hP hw hK
    obtain ⟨⟨old, he⟩, hit, hne⟩ := st
    obtain ⟨xs, hq, hx⟩ := hg
    obtain ⟨its, rv, p, hz⟩ := I.tuple hq
    obtain ⟨f0, f1, f2, f3, f4, f5⟩ := hf it (by simp)
    have hl := rv.length
    have hT : s.TypeIs (.ref e) "enumerate" := ⟨_, he, rfl⟩
    show wpAny _ _ (pyNext (.ref e)) _ _ _
    unfold pyNext
    refine wpAny_bind (wpAny_attempt (wpAny_callSpecial?_slot (name := Str.ofString "__next__") hT F.slot_enumerate_next
      (wpAny_call_entry F.slot_enumerate_next hT F.entry_enumerate_next ?_ (F.args_enumerate_next_1 _))))
    show wpAny _ _ (field (.ref e) 2 >>= _) _ _ _
    refine wpAny_bind (wpAny_field he rfl (x := .ref it) rfl ?_)
    refine wpAny_bind (wpAny_nextOf_tuple_end (show X.A.in1.handled = none from I.ok.hd hc) hit p (by simp; omega) fun h' x he' hx' => ?_)
    obtain ⟨o, ho, hco⟩ := hx'
    refine wpAny_bind (wpAny_isInstance (T := "StopIteration") (b := true) ⟨o, ho, hco⟩ isSubtype_stop ?_)
    exact wpAny_pure ⟨rfl, I.turned (t' := s.toks) (fun b o hb q => he' b o hb q) f0 f1 f3 f4 f5⟩
  self := fun A i s Q E st h => let ⟨⟨_, he⟩, _⟩ := st; wpAny_pyIter_enum he h
def iEnumA (K : PySem.W.Frag) (ta : TA) : TI := fun σ H R => ta σ H fun vs H1 => ∃ a xs, vs = [.ref a] ∧ ((SqL K H1 a xs ∧ R (Ite K a) H1) ∨ (SqT K H1 a xs ∧ R (IteT K a) H1))
theorem pi_enumA {X : Cx} {e : Expr} {ta : TA} {p pos tpos : Pos} {elts : List Expr} {kk : Nat} (hg : Gl X "enumerate") (hm : X.mg "enumerate" = none) (ha : PA X [e] ta) (hs : starEach [e] X.env = [(false, eval e X.env)] := by rfl) :
    PI X (.Tuple elts kk tpos) (.Call (.Name "enumerate" p) [e] [] pos) (iEnumA X.K ta) := by
  refine ⟨fun pins s σ H R I h => ?_⟩
  refine Call_ (ld_blt I hg hm boot_enumerate (PyProof.Rows.callWith_type1 (thn (ha.run pos pins s σ H _ I h) fun us s1 ⟨vs, H1, I1, r1, q1⟩ => ?_) hs rfl))
  obtain ⟨a, xs, ex, q1⟩ := q1
  subst ex
  cases r1 with
  | cons r rr =>
    cases rr
    cases r
    have fp : ∀ b ∈ [s1.heap.objs.size + 1, s1.heap.objs.size], s1.heap.objs.size ≤ b := fun b hb => by
      have e' : b = s1.heap.objs.size + 1 ∨ b = s1.heap.objs.size := by simpa using hb
      rcases e' with z | z
      · rw [z]; exact Nat.le_add_right _ _
      · rw [z]; exact Nat.le_refl _
    rcases q1 with ⟨hq, q⟩ | ⟨hq, q⟩
    · obtain ⟨its, rv, p', hz⟩ := I1.list hq
      refine call_enumerate_list p'.isList fun h' he hit hsz hk => wpAny_pyIter_enum he ?_
      have I2 : Inv X pins σ H1 { s1 with heap := h' } := I1.kept (t' := s1.toks) hk
      exact ⟨s1.heap.objs.size + 1, [s1.heap.objs.size + 1, s1.heap.objs.size], _, _, H1, rfl, I2, turn_enum a (s1.heap.objs.size + 1) s1.heap.objs.size, ⟨⟨.none, he⟩, hit, Nat.succ_ne_self _⟩, fun b hb => I1.fpOk (fp b hb) (I1.hok.fresh (fp b hb)), q⟩
    · obtain ⟨its, rv, p', hz⟩ := I1.tuple hq
      have ha : a < s1.heap.objs.size := by obtain ⟨_, q, _⟩ := p'; exact Heap.lt_size q
      refine call_enumT p' fun h' he hit hsz hk => wpAny_pyIter_enum he ?_
      have I2 : Inv X pins σ H1 { s1 with heap := h' } := I1.kept (t' := s1.toks) hk
      exact ⟨s1.heap.objs.size + 1, [s1.heap.objs.size + 1, s1.heap.objs.size], _, _, H1, rfl, I2, turn_enumT a (s1.heap.objs.size + 1) s1.heap.objs.size (Nat.ne_of_lt ha) (Nat.ne_of_lt (Nat.lt_succ_of_lt ha)), ⟨⟨.none, he⟩, hit, Nat.succ_ne_self _⟩, fun b hb => I1.fpOk (fp b hb) (I1.hok.fresh (fp b hb)), q⟩
section
variable {X : Cx} {W : WX} {e : Expr} {t : DTA} {p pos : Pos}
theorem it_enumT {K : PySem.W.Frag} {H : Hp} {M : DM} {v : V} {ds : List D} (r : Rep K H M (.tup ds) v) (mr : MR K H M) : ∃ p vs, v = .ref p ∧ SqT K H p vs ∧ ItOk K H M (IteT K p) (enumD ds) (fun _ => True) := by
  obtain ⟨p, vs, ev, s, q⟩ := sqT_of (ds := ds) r rfl
  refine ⟨p, vs, ev, s, ⟨fun H' => ∃ M', Ext H M H' M' ∧ MR K H' M', fun i H' x H'' => ∃ T y, x = .ref T ∧ H' T = none ∧ H'' = upd H' T (.tup [.int (i : Nat), y]) ∧ ∀ xs, SqT K H' p xs → xs[i]? = some y, ⟨?_, ?_, ?_⟩, fun H' M' x m c => ⟨M', x, m⟩, ?_⟩⟩
  · rintro i H' hi ⟨M', x, m⟩
    rw [enumD_len] at hi
    obtain ⟨p', vs', e1, s1, q1⟩ := sqT_of (ds := ds) (r.ext x mr) rfl
    rw [ev] at e1; cases e1
    obtain ⟨v, hv, _⟩ := q1.get (List.getElem?_eq_getElem hi)
    exact ⟨vs', v, s1, hv⟩
  · rintro H' ⟨M', x, m⟩
    obtain ⟨p', vs', e1, s1, q1⟩ := sqT_of (ds := ds) (r.ext x mr) rfl
    rw [ev] at e1; cases e1
    exact ⟨vs', s1, by rw [enumD_len, q1.len]; exact Nat.le_refl _⟩
  · rintro i H' x H'' hi _ y
    exact y
  · rintro i H' M' x H'' hi e1 m c ⟨T, y, rfl, hT, rfl, hy⟩
    obtain ⟨p', vs', e2, s1, q1⟩ := sqT_of (ds := ds) (r.ext e1 mr) rfl
    rw [ev] at e2; cases e2
    obtain ⟨d', hd, rd⟩ := q1.getV (hy _ s1)
    refine ⟨_, enumD_get hd, Ext.laid0 hT, m.laid0 hT, ?_⟩
    unfold Rep
    exact ⟨T, _, rfl, SqT.of upd_same, .cons rfl (.single (rd.ext (Ext.laid0 hT) m))⟩
/-- enumerate of a list or a tuple -/
def iEnumT (t : DTA) : DTI := fun σ M R Ex => t σ M (fun xs M1 => match xs with
  | [.tup ds] => R (enumD ds) (fun _ => True) M1
  | [x] => ∃ ds, isL M1 x = some ds ∧ R (enumD ds) (fun M' => isS M' x = some ds) M1
  | _ => False) Ex
theorem di_enumT {tpos : Pos} {elts : List Expr} {kk : Nat} (hg : Gl X "enumerate") (hm : X.mg "enumerate" = none) (ha : DA X W [e] t) (hs : notStar e = true) : DI X W (.Tuple elts kk tpos) (.Call (.Name "enumerate" p) [e] [] pos) (iEnumT t) :=
  (pi_enumA hg hm ha (star1 hs)).imp fun σ H R ⟨σd, M, Rd, Ex, er, mr, q, f, fx⟩ => ⟨σd, M, _, Ex, er, mr, q, fun vs H1 M1 xs e1 mr1 rx q1 => by
    split at q1
    · obtain ⟨v, ev, rv⟩ := rx.inv1
      obtain ⟨p, ws, e2, s, ok⟩ := it_enumT rv mr1
      subst e2
      exact ⟨p, ws, ev, .inr ⟨s, f _ H1 M1 _ _ e1 mr1 ok q1⟩⟩
    · obtain ⟨v, ev, rv⟩ := rx.inv1
      obtain ⟨ds, h1, h2⟩ := q1
      obtain ⟨p, ws, e2, s, ok⟩ := it_enum rv mr1 h1
      subst e2
      exact ⟨p, ws, ev, .inl ⟨s, f _ H1 M1 _ _ e1 mr1 ok h2⟩⟩
    · exact q1.elim, fx⟩
end
end LD
end

section
set_option maxRecDepth 100000
set_option maxHeartbeats 2000000
namespace LD
open PySem PySem.Spec PyProof.Rows L2
/-! ### a dict that nothing else sees is filled -/
section
variable {K : PySem.W.Frag} {H : Hp} {M : DM} {p : Addr} {o : HO} {kvs : List (Key × V)}
theorem sqT_alt (hp : H p = some (.dK kvs)) {a : Addr} {vs : List V} (h : SqT K H a vs) : SqT K (upd H p o) a vs := by
  have ne : ∀ {u : HO}, H a = some u → u ≠ .dK kvs → a ≠ p := fun {u} e n z => by
    rw [z, hp] at e; exact n (Option.some.inj e).symm
  rcases h with (h | ⟨ob, h⟩) | h
  · exact .inl (.inl (by rw [upd_ne (ne h (fun z => by cases z))]; exact h))
  · exact .inl (.inr ⟨ob, by rw [upd_ne (ne h (fun z => by cases z))]; exact h⟩)
  · exact .inr h
mutual
theorem Rep.alt (hp : H p = some (.dK kvs)) : ∀ {d : D} {v : V}, Rep K H M d v → Rep K (upd H p o) M d v
  | .non, _, h => h
  | .bl _, _, h => h
  | .int _, _, h => h
  | .str _, _, h => h
  | .ref _, _, h => h
  | .tup ds, v, h => by
    unfold Rep at h ⊢
    obtain ⟨a, vs, e, s, r⟩ := h
    exact ⟨a, vs, e, sqT_alt hp s, Reps.alt hp r⟩
  | .lst ds, v, h => by
    unfold Rep at h ⊢
    obtain ⟨a, vs, e, m, s, r⟩ := h
    exact ⟨a, vs, e, m, by rw [upd_ne (fun z => by rw [z, hp] at s; cases s)]; exact s, Reps.alt hp r⟩
  | .frz ds, v, h => by
    unfold Rep at h ⊢
    obtain ⟨a, vs, e, s, r⟩ := h
    refine ⟨a, vs, e, ?_, Reps.alt hp r⟩
    rcases s with ⟨ob, s⟩ | s
    · exact .inl ⟨ob, by rw [upd_ne (fun z => by rw [z, hp] at s; cases s)]; exact s⟩
    · exact .inr s
  | .obj C ns ds, v, h => by
    unfold Rep at h ⊢
    obtain ⟨a, dx, vs, e, m, s, l, r⟩ := h
    exact ⟨a, dx, vs, e, m, by rw [upd_ne (fun z => by rw [z, hp] at s; cases s)]; exact s, l, Reps.alt hp r⟩
theorem Reps.alt (hp : H p = some (.dK kvs)) : ∀ {ds : List D} {vs : List V}, Reps K H M ds vs → Reps K (upd H p o) M ds vs
  | [], _, h => by unfold Reps at h ⊢; exact h
  | d :: ds, vs, h => by
    unfold Reps at h ⊢
    obtain ⟨w, ws, e, r, rs⟩ := h
    exact ⟨w, ws, e, Rep.alt hp r, Reps.alt hp rs⟩
end
theorem MR.alt (mr : MR K H M) (hp : H p = some (.dK kvs)) : MR K (upd H p o) M := fun a u e => by
  have z := mr a u e
  cases u with
  | lst ds =>
    obtain ⟨vs, e1, r⟩ := z
    exact ⟨vs, by rw [upd_ne (fun z => by rw [z, hp] at e1; cases e1)]; exact e1, r.alt hp⟩
  | ins C ns ds =>
    obtain ⟨dx, vs, e1, l, r⟩ := z
    exact ⟨dx, vs, by rw [upd_ne (fun z => by rw [z, hp] at e1; cases e1)]; exact e1, l, r.alt hp⟩
end
/-- {k: a, ..}[e] with four texts as keys -/
def dSel (k1 k2 k3 k4 : Str) (ta tb tc td te : DTE) : DTE := fun σ M R Ex => ta σ M (fun x M1 => tb σ M1 (fun y M2 => tc σ M2 (fun z M3 => td σ M3 (fun w M4 => te σ M4 (fun u M5 =>
  (u = .str k1 ∧ R x M5) ∨ (u = .str k2 ∧ R y M5) ∨ (u = .str k3 ∧ R z M5) ∨ (u = .str k4 ∧ R w M5)) Ex) Ex) Ex) Ex) Ex
section
variable {X : Cx} {W : WX} {a b c d e : Expr} {ta tb tc td te : DTE} {pos : Pos}
theorem val4 {k1 k2 k3 k4 : Str} (hd : [k1, k2, k3, k4].Nodup) (v1 v2 v3 v4 : V) :
    valV (mergeK [] [((.inr k1 : Key), v1), (.inr k2, v2), (.inr k3, v3), (.inr k4, v4)]) (.inr k1) = some v1 ∧ valV (mergeK [] [((.inr k1 : Key), v1), (.inr k2, v2), (.inr k3, v3), (.inr k4, v4)]) (.inr k2) = some v2 ∧
    valV (mergeK [] [((.inr k1 : Key), v1), (.inr k2, v2), (.inr k3, v3), (.inr k4, v4)]) (.inr k3) = some v3 ∧ valV (mergeK [] [((.inr k1 : Key), v1), (.inr k2, v2), (.inr k3, v3), (.inr k4, v4)]) (.inr k4) = some v4 := by
  simp only [List.nodup_cons, List.mem_cons, List.not_mem_nil, or_false, not_or, not_false_eq_true, and_true, List.nodup_nil] at hd
  obtain ⟨⟨h1, h2, h3⟩, ⟨h4, h5⟩, h6⟩ := hd
  simp only [mergeK, List.foldl_cons, List.foldl_nil, valV_put, Sum.inr.injEq, h1, h2, h3, h4, h5, h6, Ne.symm h1, Ne.symm h2, Ne.symm h3, Ne.symm h4, Ne.symm h5, Ne.symm h6, if_true, if_false, and_self]
theorem de_sel {k1 k2 k3 k4 : Str} {n1 n2 n3 n4} {p1 p2 p3 p4 p : Pos} (hd : [k1, k2, k3, k4].Nodup) (hu : X.A.units + 64 < cLine) (ha : DE X W a ta) (hb : DE X W b tb) (hc : DE X W c tc) (hdd : DE X W d td) (he : DE X W e te) (hs : PlainIx e) :
    DE X W (.Subscript (.Dict [some (.Constant (.str k1) n1 p1), some (.Constant (.str k2) n2 p2), some (.Constant (.str k3) n3 p3), some (.Constant (.str k4) n4 p4)] [a, b, c, d] p) e pos) (dSel k1 k2 k3 k4 ta tb tc td te) := by
  refine (pe_dget (by omega) (pe_disp (pps_cons pe_str ha (pps_cons pe_str hb (pps_cons pe_str hc (pps_cons pe_str hdd pps_nil)))) rfl rfl (by simp) (Nat.le_of_ble_eq_true rfl)) he hs).imp fun σ H Q ⟨σd, M, R, Ex, er, mr, q, f, fx⟩ => ?_
  intro p hp
  have e0 : Ext H M (upd H p (.dK [])) M := Ext.laid0 hp
  have m0 : MR X.K (upd H p (.dK [])) M := mr.laid0 hp
  have np : M p = none := mr.free hp
  refine lift_bind (er.ext e0 mr) m0 q (fx.ext e0) fun v1 H1 M1 x1 e1 m1 r1 q1 => ?_
  refine lift_bind ((er.ext e0 mr).ext e1 m0) m1 q1 ((fx.ext e0).ext e1) fun v2 H2 M2 x2 e2 m2 r2 q2 => ?_
  refine lift_bind (((er.ext e0 mr).ext e1 m0).ext e2 m1) m2 q2 (((fx.ext e0).ext e1).ext e2) fun v3 H3 M3 x3 e3 m3 r3 q3 => ?_
  refine lift_bind ((((er.ext e0 mr).ext e1 m0).ext e2 m1).ext e3 m2) m3 q3 ((((fx.ext e0).ext e1).ext e2).ext e3) fun v4 H4 M4 x4 e4 m4 r4 q4 => ?_
  have e14 := ((e1.trans e2).trans e3).trans e4
  have hp4 : H4 p = some (.dK []) := (e14 p _ upd_same np).1
  refine ⟨hp4, [(.inr k1, v1), (.inr k2, v2), (.inr k3, v3), (.inr k4, v4)], rfl, Nat.le_of_ble_eq_true rfl, ?_⟩
  have e5 : Ext H M (upd H4 p (.dK (mergeK [] [((.inr k1 : Key), v1), (.inr k2, v2), (.inr k3, v3), (.inr k4, v4)]))) M4 := fun a u h m => by
    have ne : a ≠ p := ne_of_none h hp
    rw [upd_ne ne]
    exact e14 a u (by rw [upd_ne ne]; exact h) m
  have m5 := m4.alt (o := .dK (mergeK [] [((.inr k1 : Key), v1), (.inr k2, v2), (.inr k3, v3), (.inr k4, v4)])) hp4
  have hp5 : M4 p = none := (e14 p _ upd_same np).2
  refine lift_bind (er.ext e5 mr) m5 q4 (fx.ext e5) fun y H6 M6 u e6 m6 ry q5 => ?_
  have hp6 : H6 p = some (.dK (mergeK [] [((.inr k1 : Key), v1), (.inr k2, v2), (.inr k3, v3), (.inr k4, v4)])) := (e6 p _ upd_same hp5).1
  obtain ⟨w1, w2, w3, w4⟩ := val4 hd v1 v2 v3 v4
  have s1 := ((((r1.ext e2 m1).ext e3 m2).ext e4 m3).alt (o := .dK (mergeK [] [((.inr k1 : Key), v1), (.inr k2, v2), (.inr k3, v3), (.inr k4, v4)])) hp4).ext e6 m5
  have s2 := (((r2.ext e3 m2).ext e4 m3).alt (o := .dK (mergeK [] [((.inr k1 : Key), v1), (.inr k2, v2), (.inr k3, v3), (.inr k4, v4)])) hp4).ext e6 m5
  have s3 := ((r3.ext e4 m3).alt (o := .dK (mergeK [] [((.inr k1 : Key), v1), (.inr k2, v2), (.inr k3, v3), (.inr k4, v4)])) hp4).ext e6 m5
  have s4 := (r4.alt (o := .dK (mergeK [] [((.inr k1 : Key), v1), (.inr k2, v2), (.inr k3, v3), (.inr k4, v4)])) hp4).ext e6 m5
  have fin : ∀ {k : Str} {v : V} {x : D}, y = .str k → valV (mergeK [] [((.inr k1 : Key), v1), (.inr k2, v2), (.inr k3, v3), (.inr k4, v4)]) (.inr k) = some v → Rep X.K H6 M6 x v → R x M6 → ∃ a v, V.ref p = .ref a ∧ DGet H6 a y (some v) ∧ Q v H6 := fun {k v x} ey ev rx hr =>
    ⟨p, v, rfl, .inl ⟨_, .inr k, .of hp6, ey, ev.symm⟩, f v H6 M6 x (e5.trans e6) m6 rx hr⟩
  rcases q5 with ⟨eu, hr⟩ | ⟨eu, hr⟩ | ⟨eu, hr⟩ | ⟨eu, hr⟩ <;> subst eu <;> cases ry
  · exact fin rfl w1 s1 hr
  · exact fin rfl w2 s2 hr
  · exact fin rfl w3 s3 hr
  · exact fin rfl w4 s4 hr
end
/-! ### match over texts -/
/-- the cases, the subject read -/
structure PM (X : Cx) (cases : List MatchCase) (t : V → TS) : Prop where
  run : ∀ (pins : List (Addr × Obj)) (s : Shared) (σ : L2.St) (H : Hp) (D : Ends) (v : V) (u : Value) (first : Bool), Inv X pins σ H s → RelV v u → t v D σ H → wpAny (model X.prog X.w) X.A (matchCases cases X.env u first) (SP X pins D) X.xe s
theorem PM.imp {X : Cx} {cs : List MatchCase} {t u : V → TS} (h : PM X cs t) (i : ∀ v D σ H, u v D σ H → t v D σ H) : PM X cs u := ⟨fun pins s σ H D v w first I r q => h.run pins s σ H D v w first I r (i v D σ H q)⟩
theorem pm_nil {X : Cx} : PM X [] (fun _ => tNext) := ⟨fun pins s σ H D v u first I r q => wpAny_matchCases_nil ⟨σ, H, I, q⟩⟩
theorem pm_cons {X : Cx} {x : Str} {n} {p p2 : Pos} {body : List Stmt} {rest : List MatchCase} {tb : TS} {t : V → TS} (hb : PSs X body tb) (hr : PM X rest t) :
    PM X ({ pattern := .MatchValue (.Constant (.str x) n p) p2, guard := none, body := body } :: rest) (fun v D σ H => ∃ y : Str, v = .str y ∧ if y = x then tb D σ H else t v D σ H) := by
  refine ⟨fun pins s σ H D v u first I r ⟨y, ev, q⟩ => ?_⟩
  subst ev
  refine wpAny_matchCases_cons (wpAny_matchPattern_Value ?_)
  refine wpAny_mono ((pe_str (X := X) (x := x) (j := n) (pos := p)).run pins s σ H (fun w H' => w = .str x ∧ H' = H) I ⟨rfl, rfl⟩) (fun c s1 hc => ?_) fun _ _ z => z
  obtain ⟨w, H1, I1, rw1, e1, e2⟩ := hc
  rw [e2] at I1
  subst e1
  refine wpAny_mono (op_eq (X := X) pins s1 σ H (.str y) (.str x) u c (fun z H' => z = .bl (decide (y = x)) ∧ H' = H) I1 r rw1 ⟨rfl, by rw [strV]; exact ⟨rfl, rfl⟩⟩) (fun b s2 hb2 => ?_) fun _ _ z => z
  obtain ⟨z, H2, I2, rz, e3, e4⟩ := hb2
  rw [e4] at I2
  subst e3
  cases rz
  refine wpAny_truthy_bool ?_
  by_cases h : y = x
  · rw [if_pos h] at q
    rw [decide_eq_true h]
    refine wpAny_assignInOrder_none ?_
    exact hb.run pins s2 σ H D I2 q
  · rw [if_neg h] at q
    rw [decide_eq_false h]
    exact hr.run pins s2 σ H D (.str y) u false I2 r q
def tMatch (te : TE) (t : V → TS) : TS := fun D σ H => te σ H fun v H1 => t v D σ H1
theorem ps_match {X : Cx} {e : Expr} {cs : List MatchCase} {te : TE} {t : V → TS} {pos : Pos} (he : PE X e te) (hc : PM X cs t) : PS X (.Match e cs pos) (tMatch te t) :=
  ⟨fun pins s σ H D I q => wpAny_Match (wpAny_mono (he.run pins s σ H _ I q) (fun u s1 ⟨v, H1, I1, r, q1⟩ => hc.run pins s1 σ H1 D v u true I1 r q1) fun _ _ z => z)⟩
end LD
end

section
set_option maxRecDepth 100000
set_option maxHeartbeats 2000000
namespace LD
open PySem PySem.Spec PyProof.Rows L2
/-! ### the small language -/
inductive Op2 where
  | add | sub | mul | div | mod | pow
inductive Cmp where
  | eq | ne | lt | le | gt | ge | is | isnot | inn | notin
inductive BF where
  | len | abs | max2 | min2 | int | list | tuple | sum | repr
  deriving DecidableEq
inductive BM where
  | append | extend | pop | reverse
def Op2.ast : Op2 → Operator
  | .add => .Add | .sub => .Sub | .mul => .Mult | .div => .FloorDiv | .mod => .Mod | .pow => .Pow
def Op2.ev : Op2 → DOp2
  | .add => oAdd | .sub => oSub | .mul => oMul | .div => oDiv | .mod => oMod | .pow => oPow
def Cmp.ast : Cmp → CmpOp
  | .eq => .Eq | .ne => .NotEq | .lt => .Lt | .le => .LtE | .gt => .Gt | .ge => .GtE | .is => .Is | .isnot => .IsNot | .inn => .In | .notin => .NotIn
def Cmp.ev : Cmp → DOp2
  | .eq => oEq | .ne => oNe | .lt => oLt | .le => oLe | .gt => oGt | .ge => oGe | .is => oIs | .isnot => oIsNot | .inn => oIn false | .notin => oIn true
def BF.name : BF → Str
  | .len => "len" | .abs => "abs" | .max2 => "max" | .min2 => "min" | .int => "int" | .list => "list" | .tuple => "tuple" | .sum => "sum" | .repr => "repr"
def BF.ev : BF → DCall
  | .len => cLen | .abs => cAbs | .max2 => cMax2 | .min2 => cMin2 | .int => cInt | .list => cList | .tuple => cTuple | .sum => cSum | .repr => cRepr
def BM.name : BM → Str
  | .append => "append" | .extend => "extend" | .pop => "pop" | .reverse => "reverse"
def BM.ev : BM → DMt
  | .append => mAppend | .extend => mExtend | .pop => mPop | .reverse => mReverse
inductive E where
  | var (i : Nat) | int (i : Int) | str (x : Str) | bl (b : Bool) | non
  | cst (k : Nat)
  | bin (o : Op2) (a b : E)
  | neg (a : E)
  | cmp (o : Cmp) (a b : E)
  | chain (o o' : Cmp) (a b c : E)
  | and (a b : E) | or (a b : E) | not (a : E)
  | ifx (c a b : E)
  | nil | cons (a as : E)
  | tup (as : E) | lst (as : E)
  | idx (a b : E) | sl (a lo hi : E)
  | call (f : Nat) (as kws : E)
  | meth (m : Nat) (o as kws : E)
  | fld (f : Nat) (o : E) | prop (m : Nat) (o : E)
  | bcall (b : BF) (as : E)
  | bmeth (m : BM) (o as : E)
  | lc (it : E) (p : Pat) (c elt : E) (own : List Nat)
  | frz (a : E)
  | kget (k : Nat) (a : E) | rev (a : E) | isi (k : Nat) (a : E)
  | eqo (k : Nat) (ne : Bool) (a b : E) | lno (k : Nat) (a : E) | consS (a as : E) | slst (a b : E)
  | dsel (k1 k2 k3 k4 : Str) (a b c d u : E)
  | rng1 (as : E) | rng2 (as : E) | enum (as : E) | zip (as : E)
/-- what the names of the text mean -/
structure Sg where
  fn : Nat → DSp
  mt : Nat → DSp
  mc : Nat → Addr
  mn : Nat → Str
  ml : Nat → Nat
  fl : Nat → Nat
  fc : Nat → Addr
  fnm : Nat → Str
  pr : Nat → DSp
  pc : Nat → Addr
  pn : Nat → Str
  cs : Nat → D
  kd : Nat → List (Str × Option D) := fun _ => []
  is : Nat → List (Ty × Bool) := fun _ => []
  eq : Nat → DSp := fun _ _ _ _ _ => False
  ec : Nat → Addr := fun _ => 0
  ln : Nat → DSp := fun _ _ _ _ _ => False
  lc : Nat → Addr := fun _ => 0
structure Ev where
  e : DTE
  t : DTT
  a : DTA
  i : DTI
  o : DTO
def Ev.of (e : DTE) : Ev := ⟨e, tTru e, fun _ _ _ _ => False, iSeq e, oPart e⟩
def evN : DTE := fun _ _ _ _ => False
def Ev.none : Ev := ⟨evN, fun _ _ _ _ => False, fun _ _ _ _ => False, fun _ _ _ _ => False, fun _ _ _ _ => False⟩
def isNil : E → Bool
  | .nil => true
  | _ => false
def ev (S : Sg) : E → Ev
  | .var i => .of (dVar i)
  | .int i => .of (dC (.int i))
  | .str x => .of (dC (.str x))
  | .bl b => .of (dC (.bl b))
  | .non => .of (dC .non)
  | .cst k => .of (dC (S.cs k))
  | .bin o a b => .of (dOp o.ev (ev S a).e (ev S b).e)
  | .neg a => .of (dUn oNeg (ev S a).e)
  | .cmp o a b => { Ev.of (dOp o.ev (ev S a).e (ev S b).e) with t := tBl (dOp o.ev (ev S a).e (ev S b).e) }
  | .chain o o' a b c => { Ev.of (dChain o.ev o'.ev (ev S a).e (ev S b).e (ev S c).e) with t := tBl (dChain o.ev o'.ev (ev S a).e (ev S b).e (ev S c).e) }
  | .and a b => { Ev.of (dAndV (ev S a).e (ev S b).e) with t := tAndD (ev S a).t (ev S b).t }
  | .or a b => { Ev.of (dOrV (ev S a).e (ev S b).e) with t := tOrD (ev S a).t (ev S b).t }
  | .not a => { Ev.of (dNotV (ev S a).e) with t := tNotD (ev S a).t }
  | .ifx c a b => .of (dIf (ev S c).t (ev S a).e (ev S b).e)
  | .nil => { Ev.none with a := dNil, o := oNo }
  | .cons a as => { Ev.none with a := dCons (ev S a).e (ev S as).a }
  | .tup as => .of (dTup (ev S as).a)
  | .lst as => .of (dLst (ev S as).a)
  | .idx a b => .of (dOp oIdx (ev S a).e (ev S b).e)
  | .sl a lo hi => .of (dSlice (ev S a).e (ev S lo).o (ev S hi).o)
  | .call f as kws => .of (dCallF (S.fl f) (S.fn f) (ev S as).a (ev S kws).a)
  | .meth m o as kws => .of (dMeth (S.mc m) (S.mn m) (S.ml m) (S.mt m) (ev S o).e (ev S as).a (ev S kws).a)
  | .fld f o => .of (dFld (S.fc f) (S.fnm f) (ev S o).e)
  | .prop m o => .of (dProp (S.pc m) (S.pn m) (S.pr m) (ev S o).e)
  | .bcall b as => .of (dCall b.ev (ev S as).a)
  | .bmeth m o as => .of (dBM tyL m.ev (ev S o).e (ev S as).a)
  | .lc it p c elt own => .of (dLc (ev S it).i p (if isNil c then none else some (ev S c).t) (ev S elt).e own)
  | .frz a => .of (dFrz (ev S a).e)
  | .kget k a => .of (dKGet (S.kd k) (ev S a).e)
  | .rev a => .of (dRevA (ev S a).e)
  | .eqo k ne a b => { Ev.of (dOp (oOwn ne (S.ec k) (S.eq k)) (ev S a).e (ev S b).e) with t := tBl (dOp (oOwn ne (S.ec k) (S.eq k)) (ev S a).e (ev S b).e) }
  | .slst a b => .of (dStL (ev S a).e (ev S b).e)
  | .lno k a => .of (cLenO (S.lc k) (S.ln k) (ev S a).e)
  | .consS a as => { Ev.none with a := dConsS (ev S a).e (ev S as).a }
  | .isi k a => .of (dIsi (S.is k) (ev S a).e)
  | .dsel k1 k2 k3 k4 a b c d u => .of (dSel k1 k2 k3 k4 (ev S a).e (ev S b).e (ev S c).e (ev S d).e (ev S u).e)
  | .rng1 as => { Ev.none with i := iRange1 (ev S as).a }
  | .rng2 as => { Ev.none with i := iRange2 (ev S as).a }
  | .enum as => { Ev.none with i := iEnumT (ev S as).a }
  | .zip as => { Ev.none with i := iZipD (ev S as).a }

/-! ### the look at the text -/
abbrev SC := List (Str × NameKind)
structure Cfg where
  N : List Str
  fn : List (Str × List Str) := []
  mt : List (Str × List Str) := []
  fl : List Str := []
  pr : List Str := []
  cs : List Str := []
  bi : List Str := []
  kd : List Str := []
  is : List (List Str) := []
  eq : List Str := []
  ln : List Str := []
structure Chk where
  e : SC → Expr → Bool
  t : SC → Expr → Bool
  a : SC → List Expr → Bool
  k : SC → List Keyword → Bool
  av : SC → List Expr → Bool
  ov : SC → List Expr → Bool
  at' : SC → List Expr → Bool
  ot : SC → List Expr → Bool
  i : SC → Expr → Expr → Bool
  o : SC → Option Expr → Bool
  d : SC → List Expr → Bool
def one1 (e : SC → Expr → Bool) : SC → List Expr → Bool := fun sc xs => match xs with
  | [x] => e sc x
  | _ => false
def no1 {α : Type} : SC → α → Bool := fun _ _ => false
def noSet : Expr → Bool
  | .Set _ _ _ => false
  | _ => true
def Chk.of (e t : SC → Expr → Bool) : Chk := ⟨e, t, no1, no1, one1 e, one1 e, one1 t, one1 t, fun sc _ x => noSet x && e sc x, fun sc x => match x with | some y => e sc y | _ => false, no1⟩
def Chk.tru (e : SC → Expr → Bool) : Chk := .of e fun sc x => plainTest x && e sc x
def Chk.none : Chk := ⟨no1, no1, no1, no1, no1, no1, no1, no1, fun _ _ _ => false, no1, no1⟩
def kindIs (sc : SC) (x : Str) (k : NameKind) : Bool := match sc.lookup x with
  | some k' => decide (k' = k)
  | _ => false
def visB (sc : SC) (x : Str) : Bool := kindIs sc x .local || kindIs sc x .cell || kindIs sc x .free
def locB (sc : SC) (x : Str) : Bool := kindIs sc x .local || kindIs sc x .cell
def glB (sc : SC) (x : Str) : Bool := kindIs sc x .globalImplicit && !(x == ("__debug__" : Str))
def nameB (G : Cfg) (i : Nat) (x : Str) : Bool := match G.N[i]? with
  | some y => decide (y = x)
  | _ => false
def eqS (x y : Str) : Bool := decide (x = y)
def atB {α : Type} (l : List α) (i : Nat) (p : α → Bool) : Bool := match l[i]? with
  | some a => p a
  | _ => false
mutual
def chkP (G : Cfg) : Pat → SC → Expr → Bool
  | .name i, sc, x => match x with
    | .Name y _ => nameB G i y && locB sc y
    | _ => false
  | .tup ps, sc, x => match x with
    | .Tuple es _ _ => chkPs G ps sc es
    | _ => false
  | .nil, _, _ => false
  | .cons _ _, _, _ => false
def chkPs (G : Cfg) : Pat → SC → List Expr → Bool
  | .nil, _, xs => match xs with
    | [] => true
    | _ => false
  | .cons p ps, sc, xs => match xs with
    | x :: xs => notStar x && chkP G p sc x && chkPs G ps sc xs
    | _ => false
  | .name _, _, _ => false
  | .tup _, _, _ => false
end
def kwNms (ks : List Keyword) (ns : List Str) : Bool := ks.all (·.arg.isSome) && decide (ks.filterMap (·.arg) = ns)
def ownOf (G : Cfg) (own : List Nat) : List (Str × Nat) := own.filterMap fun i => (G.N[i]?).map fun x => (x, i)
def scopeOf (sc : SC) : Scope := { kind := .function, names := sc, isGenerator := false, isCoroutine := false }
def opB : Operator → Op2 → Bool
  | .Add, .add => true | .Sub, .sub => true | .Mult, .mul => true | .FloorDiv, .div => true | .Mod, .mod => true | .Pow, .pow => true | _, _ => false
def cmpB (a : CmpOp) (b : Cmp) : Bool := decide (a = b.ast)
def biB (G : Cfg) (sc : SC) (x : Str) : Bool := glB sc x && decide (x ∈ G.bi) && !(eqS x "__name__")
def clsBs (sc : SC) : List Str → List Expr → Bool
  | [], [] => true
  | x :: xs, .Name y _ :: es => eqS x y && glB sc y && clsBs sc xs es
  | _, _ => false
def clsB (sc : SC) (xs : List Str) : Expr → Bool
  | .Name y p => clsBs sc xs [.Name y p]
  | .Tuple es _ _ => clsBs sc xs es
  | _ => false
def chk (G : Cfg) : E → Chk
  | .var i => .tru fun sc x => match x with
    | .Name y _ => nameB G i y && visB sc y && !(y == ("__debug__" : Str)) && !(y == ("__classdict__" : Str))
    | _ => false
  | .int i => .tru fun _ x => match x with
    | .Constant (.int j) _ _ => decide (i = j)
    | _ => false
  | .str s => .tru fun _ x => match x with
    | .Constant (.str j) _ _ => decide (s = j)
    | _ => false
  | .bl b => .tru fun _ x => match x with
    | .Constant (.bool j) _ _ => decide (b = j)
    | _ => false
  | .non => .tru fun _ x => match x with
    | .Constant .none _ _ => true
    | _ => false
  | .cst k => .tru fun sc x => match x with
    | .Name y _ => glB sc y && atB G.cs k (eqS y)
    | _ => false
  | .bin o a b => .tru fun sc x => match x with
    | .BinOp l p r _ => opB p o && (chk G a).e sc l && (chk G b).e sc r
    | _ => false
  | .neg a => .tru fun sc x => match x with
    | .UnaryOp .USub y _ => (chk G a).e sc y
    | _ => false
  | .cmp o a b => .of (fun sc x => match x with
    | .Compare l [p] [r] _ => cmpB p o && noSet r && (chk G a).e sc l && (chk G b).e sc r
    | _ => false) (fun sc x => match x with
    | .Compare l [p] [r] _ => cmpB p o && noSet r && (chk G a).e sc l && (chk G b).e sc r
    | _ => false)
  | .chain o o' a b c => .of (fun sc x => match x with
    | .Compare l [p, p'] [r, q] _ => cmpB p o && cmpB p' o' && noSet q && (chk G a).e sc l && (chk G b).e sc r && (chk G c).e sc q
    | _ => false) (fun sc x => match x with
    | .Compare l [p, p'] [r, q] _ => cmpB p o && cmpB p' o' && noSet q && (chk G a).e sc l && (chk G b).e sc r && (chk G c).e sc q
    | _ => false)
  | .and a b =>
    let e := fun sc x => match x with
      | .BoolOp .And (y :: z :: zs) _ => (chk G a).e sc y && (chk G b).av sc (z :: zs)
      | _ => false
    let t := fun sc x => match x with
      | .BoolOp .And (y :: z :: zs) _ => (chk G a).t sc y && (chk G b).at' sc (z :: zs)
      | _ => false
    { Chk.of e t with
      av := fun sc xs => match xs with
        | [x] => e sc x
        | y :: z :: zs => (chk G a).e sc y && (chk G b).av sc (z :: zs)
        | _ => false
      at' := fun sc xs => match xs with
        | [x] => t sc x
        | y :: z :: zs => (chk G a).t sc y && (chk G b).at' sc (z :: zs)
        | _ => false }
  | .or a b =>
    let e := fun sc x => match x with
      | .BoolOp .Or (y :: z :: zs) _ => (chk G a).e sc y && (chk G b).ov sc (z :: zs)
      | _ => false
    let t := fun sc x => match x with
      | .BoolOp .Or (y :: z :: zs) _ => (chk G a).t sc y && (chk G b).ot sc (z :: zs)
      | _ => false
    { Chk.of e t with
      ov := fun sc xs => match xs with
        | [x] => e sc x
        | y :: z :: zs => (chk G a).e sc y && (chk G b).ov sc (z :: zs)
        | _ => false
      ot := fun sc xs => match xs with
        | [x] => t sc x
        | y :: z :: zs => (chk G a).t sc y && (chk G b).ot sc (z :: zs)
        | _ => false }
  | .not a => .of (fun sc x => match x with
    | .UnaryOp .Not y _ => (chk G a).e sc y
    | _ => false) (fun sc x => match x with
    | .UnaryOp .Not y _ => (chk G a).t sc y
    | _ => false)
  | .ifx c a b => .of (fun sc x => match x with
    | .IfExp u v w _ => (chk G c).t sc u && (chk G a).e sc v && (chk G b).e sc w
    | _ => false) no1
  | .nil => { Chk.none with
      a := fun _ xs => xs.isEmpty
      k := fun _ xs => xs.isEmpty
      o := fun _ x => x.isNone
      d := fun _ xs => xs.isEmpty }
  | .cons a as => { Chk.none with
      a := fun sc xs => match xs with
        | x :: xs => notStar x && (chk G a).e sc x && (chk G as).a sc xs
        | _ => false
      k := fun sc xs => match xs with
        | x :: xs => (chk G a).e sc x.value && (chk G as).k sc xs
        | _ => false
      d := fun sc xs => match xs with
        | x :: xs => notStar x && (chk G a).e sc x && (chk G as).d sc xs
        | _ => false }
  | .consS a as => { Chk.none with
      d := fun sc xs => match xs with
        | .Starred x _ :: xs => (chk G a).e sc x && (chk G as).d sc xs
        | _ => false }
  | .tup as => .tru fun sc x => match x with
    | .Tuple es _ _ => (chk G as).d sc es
    | _ => false
  | .lst as => .tru fun sc x => match x with
    | .List es _ => (chk G as).d sc es
    | _ => false
  | .idx a b => .tru fun sc x => match x with
    | .Subscript y z _ => plainIxB z && (chk G a).e sc y && (chk G b).e sc z
    | _ => false
  | .sl a lo hi => .tru fun sc x => match x with
    | .Subscript y (.Slice l h none _) _ => (chk G a).e sc y && (chk G lo).o sc l && (chk G hi).o sc h
    | _ => false
  | .call f as kws => .tru fun sc x => match x with
    | .Call (.Name y _) es ks _ => glB sc y && atB G.fn f (fun p => eqS p.1 y && kwNms ks p.2) && (chk G as).a sc es && (chk G kws).k sc ks
    | _ => false
  | .meth m o as kws => .tru fun sc x => match x with
    | .Call (.Attribute y n ap) es ks p => plainBase y && decide (ap.endLine = p.line) && decide (es.length + ks.length + (if ks.isEmpty then 0 else 1) < 30) &&
      atB G.mt m (fun p => eqS p.1 n && kwNms ks p.2) && (chk G o).e sc y && (chk G as).a sc es && (chk G kws).k sc ks
    | _ => false
  | .fld f o => .tru fun sc x => match x with
    | .Attribute y n _ => plainBase y && atB G.fl f (eqS n) && (chk G o).e sc y
    | _ => false
  | .prop m o => .tru fun sc x => match x with
    | .Attribute y n _ => plainBase y && atB G.pr m (eqS n) && (chk G o).e sc y
    | _ => false
  | .bcall b as => .tru fun sc x => match x with
    | .Call (.Name y _) (e :: es) [] _ => eqS y b.name && biB G sc y && (chk G as).a sc (e :: es)
    | _ => false
  | .bmeth m o as => .tru fun sc x => match x with
    | .Call (.Attribute y n ap) es [] p => plainBase y && decide (ap.endLine = p.line) && decide (es.length < 30) && eqS n m.name && (chk G o).e sc y && (chk G as).a sc es
    | _ => false
  | .lc it p c elt own => .tru fun sc x => match x with
    | .ListComp el [⟨tg, iter, ifs, 0⟩] scope _ => (chk G it).i sc tg iter && blkC G.N (scopeOf sc) scope (ownOf G own) && decide ((ownOf G own).map (·.2) = own) && (namesP p).all (fun i => decide (i ∈ own)) && noSet iter &&
      chkP G p scope.names tg && (match ifs with
        | [] => isNil c
        | [y] => !isNil c && (chk G c).t scope.names y
        | _ => false) && (chk G elt).e scope.names el
    | _ => false
  | .frz a => .tru (chk G a).e
  | .kget k a => .tru fun sc x => match x with
    | .Call (.Attribute (.Name y _) n ap) [e] [] p => eqS n "get" && glB sc y && atB G.kd k (eqS y) && notStar e && decide (ap.endLine = p.line) && (chk G a).e sc e
    | _ => false
  | .rev a => .tru fun sc x => match x with
    | .Subscript y (.Slice none none (some (.UnaryOp .USub (.Constant (.int 1) _ _) _)) _) _ => (chk G a).e sc y
    | _ => false
  | .isi k a => .tru fun sc x => match x with
    | .Call (.Name y _) [e, c] [] _ => eqS y "isinstance" && biB G sc y && notStar e && (chk G a).e sc e && atB G.is k (fun xs => clsB sc xs c)
    | _ => false
  | .eqo k ne a b => .of (fun sc x => match x with
    | .Compare l [p] [r] _ => decide (p = if ne then .NotEq else .Eq) && noSet r && atB G.eq k (fun _ => true) && (chk G a).e sc l && (chk G b).e sc r
    | _ => false) (fun sc x => match x with
    | .Compare l [p] [r] _ => decide (p = if ne then .NotEq else .Eq) && noSet r && atB G.eq k (fun _ => true) && (chk G a).e sc l && (chk G b).e sc r
    | _ => false)
  | .slst a b => .tru fun sc x => match x with
    | .Subscript y (.Slice none none (some z) _) _ => (chk G a).e sc y && (chk G b).e sc z
    | _ => false
  | .lno k a => .tru fun sc x => match x with
    | .Call (.Name y _) [e] [] _ => eqS y "len" && biB G sc y && notStar e && atB G.ln k (fun _ => true) && (chk G a).e sc e
    | _ => false
  | .dsel k1 k2 k3 k4 a b c d u => .tru fun sc x => match x with
    | .Subscript (.Dict [some (.Constant (.str j1) _ _), some (.Constant (.str j2) _ _), some (.Constant (.str j3) _ _), some (.Constant (.str j4) _ _)] [p, q, r, s] _) z _ => decide (k1 = j1) && decide (k2 = j2) && decide (k3 = j3) && decide (k4 = j4) && decide ([k1, k2, k3, k4].Nodup) && plainIxB z &&
      (chk G a).e sc p && (chk G b).e sc q && (chk G c).e sc r && (chk G d).e sc s && (chk G u).e sc z
    | _ => false
  | .rng1 as => { Chk.none with i := fun sc _ x => match x with
    | .Call (.Name y _) [u] [] _ => eqS y "range" && biB G sc y && (chk G as).a sc [u]
    | _ => false }
  | .rng2 as => { Chk.none with i := fun sc _ x => match x with
    | .Call (.Name y _) [u, v] [] _ => eqS y "range" && biB G sc y && (chk G as).a sc [u, v]
    | _ => false }
  | .enum as => { Chk.none with i := fun sc tg x => match tg, x with
    | .Tuple _ _ _, .Call (.Name y _) [u] [] _ => eqS y "enumerate" && biB G sc y && (chk G as).a sc [u]
    | _, _ => false }
  | .zip as => { Chk.none with i := fun sc tg x => match tg, x with
    | .Tuple _ _ _, .Call (.Name y _) [u, v] [] _ => eqS y "zip" && biB G sc y && (chk G as).a sc [u, v]
    | _, _ => false }
end LD
end

section
set_option maxRecDepth 100000
set_option maxHeartbeats 4000000
namespace LD
open PySem PySem.Spec PyProof.Rows L2
/-- what the text's names stand for, as the top has left them -/
def ClsM (mg : Str → Option Value) : List Str → List V → List Value → Prop
  | [], [], [] => True
  | x :: xs, v :: vs, u :: us => ClsN mg x v u ∧ ClsM mg xs vs us
  | _, _, _ => False
structure Tab (G : Cfg) (S : Sg) (P : Program) (w : World) (K : PySem.W.Frag) (mg : Str → Option Value) (base : Heap) (A : Around) : Prop where
  fn : ∀ f x ks, G.fn[f]? = some (x, ks) → S.fl f = ks.length ∧ (FnE P w K mg base A x ks (S.fn f) ∨ ∃ C sp, S.fn f = spMake C sp ∧ ClE P w K mg base A x ks C sp)
  mt : ∀ m x ks, G.mt[m]? = some (x, ks) → S.mn m = x ∧ S.ml m = ks.length ∧ MtE P w K mg base A x ks (S.mc m) (S.mt m)
  fl : ∀ f x, G.fl[f]? = some x → S.fnm f = x ∧ Cls K (S.fc f) ∧ NoAttr K (S.fc f) x
  pr : ∀ m x, G.pr[m]? = some x → S.pn m = x ∧ PrE P w K mg base A x (S.pc m) (S.pr m)
  cs : ∀ k x, G.cs[k]? = some x → ∃ v u, mg x = some u ∧ RelV v u ∧ ∀ H M, Rep K H M (S.cs k) v
  bi : ∀ x ∈ G.bi, mg x = none
  kd : ∀ k x, G.kd[k]? = some x → ∃ d, mg x = some (.ref d) ∧ KD K w d (S.kd k)
  is : ∀ k xs, G.is[k]? = some xs → ∃ vs us, ClsM mg xs vs us ∧ IsOk K us (S.is k) ∧ vs.length ≤ sizeLine
  eq : ∀ k x, G.eq[k]? = some x → EqE P w K mg base A (S.ec k) (S.eq k)
  ln : ∀ k x, G.ln[k]? = some x → LnE P w K mg base A (S.lc k) (S.ln k)
structure Good (G : Cfg) (S : Sg) (sc : SC) (X : Cx) (W : WX) : Prop where
  hN : X.N = G.N
  nd : G.N.Nodup
  calm : X.calm = true
  tk : Takes X W
  po : PassesOwn (model X.prog X.w) X.A X.env X.xe
  un : X.A.units + 64 < cLine
  gd : X.A.guards = some []
  fk : X.env.scope.kind = .function
  scr : ∀ x k, sc.lookup x = some k → X.env.scope.names.lookup x = some k ∨ (k = .free ∧ X.env.scope.names.lookup x = some .cell)
  fnx : ∀ x, sc.lookup x = some .cell → X.fn x = true
  tab : Tab G S X.prog X.w X.K X.mg X.base X.A
section
variable {G : Cfg} {S : Sg} {sc : SC} {X : Cx} {W : WX}
theorem kindIs_of {x : Str} {k : NameKind} (h : kindIs sc x k = true) : sc.lookup x = some k := by
  unfold kindIs at h
  split at h
  · rename_i k' e; rw [e, of_decide_eq_true h]
  · cases h
theorem Good.at (g : Good G S sc X W) {x : Str} {k : NameKind} (h : kindIs sc x k = true) (hk : k ≠ .free) : X.env.scope.names.lookup x = some k := by
  rcases g.scr x k (kindIs_of h) with z | ⟨z, _⟩
  · exact z
  · exact absurd z hk
theorem Good.vis (g : Good G S sc X W) {x : Str} (h : visB sc x = true) : Vis X.env.scope x := by
  unfold visB at h
  rw [Bool.or_eq_true, Bool.or_eq_true] at h
  rcases h with (h | h) | h
  · exact .inl (g.at h (by intro z; cases z))
  · exact .inr (.inl (g.at h (by intro z; cases z)))
  · rcases g.scr x .free (kindIs_of h) with z | ⟨_, z⟩
    · exact .inr (.inr z)
    · exact .inr (.inl z)
theorem Good.loc (g : Good G S sc X W) {x : Str} (h : locB sc x = true) : Loc X.env.scope x ∧ (X.fn x = true ∨ X.env.scope.names.lookup x = some .local) := by
  unfold locB at h
  rw [Bool.or_eq_true] at h
  rcases h with h | h
  · exact ⟨.inl (g.at h (by intro z; cases z)), .inr (g.at h (by intro z; cases z))⟩
  · exact ⟨.inr (g.at h (by intro z; cases z)), .inl (g.fnx x (kindIs_of h))⟩
theorem Good.gl (g : Good G S sc X W) {x : Str} (h : glB sc x = true) : Gl X x ∧ (x == ("__debug__" : Str)) = false := by
  unfold glB at h
  rw [Bool.and_eq_true] at h
  exact ⟨g.at h.1 (by intro z; cases z), by simpa using h.2⟩
theorem Good.nm (g : Good G S sc X W) {i : Nat} {x : Str} (h : nameB G i x = true) : X.N[i]? = some x := by
  unfold nameB at h
  rw [g.hN]
  split at h
  · rename_i y e; rw [e, of_decide_eq_true h]
  · cases h
theorem Good.ndX (g : Good G S sc X W) : X.N.Nodup := by rw [g.hN]; exact g.nd
theorem atB_of {α : Type} {l : List α} {i : Nat} {p : α → Bool} (h : atB l i p = true) : ∃ a, l[i]? = some a ∧ p a = true := by
  unfold atB at h
  split at h
  · rename_i a e; exact ⟨a, e, h⟩
  · cases h
theorem eqS_of {x y : Str} (h : eqS x y = true) : x = y := of_decide_eq_true h
theorem Good.bi (g : Good G S sc X W) {x : Str} (h : biB G sc x = true) : Gl X x ∧ (x == ("__debug__" : Str)) = false ∧ X.mg x = none ∧ x ≠ "__name__" := by
  unfold biB at h
  rw [Bool.and_eq_true, Bool.and_eq_true] at h
  obtain ⟨⟨h1, h2⟩, h3⟩ := h
  refine ⟨(g.gl h1).1, (g.gl h1).2, g.tab.bi x (of_decide_eq_true h2), fun e => ?_⟩
  rw [e] at h3
  simp [eqS] at h3
theorem clsBs_of (g : Good G S sc X W) : ∀ {xs : List Str} {es : List Expr} {vs : List V} {us : List Value}, clsBs sc xs es = true → ClsM X.mg xs vs us → ClsNs X es vs us
  | [], [], [], [], _, _ => .nil
  | [], [], _ :: _, _, _, c => c.elim
  | [], [], [], _ :: _, _, c => c.elim
  | [], _ :: _, _, _, h, _ => by cases h
  | _ :: _, [], _, _, h, _ => by cases h
  | x :: xs, e :: es, vs, us, h, c => by
    cases e <;> first | (cases h; done) | skip
    rename_i y p
    unfold clsBs at h
    simp only [Bool.and_eq_true] at h
    obtain ⟨⟨h1, h2⟩, h3⟩ := h
    cases eqS_of h1
    match vs, us, c with
    | v :: vs, u :: us, c => exact .cons (g.gl h2).1 (g.gl h2).2 c.1 (clsBs_of g h3 c.2)
/-! patterns -/
mutual
theorem chkP_of (g : Good G S sc X W) : ∀ {p : Pat} {x : Expr}, chkP G p sc x = true → PG X x (gPat X.K p) ∧ notStar x = true
  | .name i, x, h => by
    cases x <;> first | (cases h; done) | skip
    rename_i y pos
    unfold chkP at h
    rw [Bool.and_eq_true] at h
    obtain ⟨l, f⟩ := g.loc h.2
    exact ⟨pg_name g.ndX (g.nm h.1) l f, rfl⟩
  | .tup ps, x, h => by
    cases x <;> first | (cases h; done) | skip
    rename_i es k pos
    obtain ⟨h1, h2, h3⟩ := chkPs_of g (p := ps) (xs := es) h
    exact ⟨pg_pat_tup g.calm h1 h2 h3, rfl⟩
  | .nil, x, h => by cases h
  | .cons _ _, x, h => by cases h
theorem chkPs_of (g : Good G S sc X W) : ∀ {p : Pat} {xs : List Expr}, chkPs G p sc xs = true → PGs X xs (gPats X.K p) ∧ (assignEach xs X.env).length = lPat p ∧ (assignEach xs X.env).findIdx? (·.1) = none
  | .nil, xs, h => by
    cases xs with
    | nil => exact ⟨pgs_nil, rfl, rfl⟩
    | cons _ _ => cases h
  | .cons p ps, xs, h => by
    cases xs with
    | nil => cases h
    | cons x xs =>
      unfold chkPs at h
      simp only [Bool.and_eq_true] at h
      obtain ⟨⟨h1, h2⟩, h3⟩ := h
      obtain ⟨a1, _⟩ := chkP_of g h2
      obtain ⟨b1, b2, b3⟩ := chkPs_of g h3
      have e : assignEach (x :: xs) X.env = (false, assign x X.env) :: assignEach xs X.env := by
        cases x <;> first | rfl | cases h1
      refine ⟨pgs_cons a1 b1 (by rw [e]; rfl), ?_, ?_⟩
      · rw [e, List.length_cons, b2]; rfl
      · rw [e, List.findIdx?_cons]
        simp only [Bool.false_eq_true, ↓reduceIte, b3, Option.map_none]
  | .name _, xs, h => by cases h
  | .tup _, xs, h => by cases h
end
/-! operators -/
theorem opB_of {p : Operator} {o : Op2} (h : opB p o = true) : p = o.ast := by
  cases p <;> cases o <;> first | rfl | cases h
theorem op_snd (o : Op2) : ∃ r, OpR X (binaryOp o.ast) r ∧ OpOk X.K r o.ev := by
  cases o with
  | add => exact ⟨_, op_addA, ok_add⟩
  | sub => exact ⟨_, op_sub, ok_sub⟩
  | mul => exact ⟨_, op_mulA, ok_mul⟩
  | div => exact ⟨_, op_divA, ok_div⟩
  | mod => exact ⟨_, op_modN, ok_mod⟩
  | pow => exact ⟨_, op_powA, ok_pow⟩
theorem cmp_snd (hu : X.A.units + 64 < cLine) (o : Cmp) : ∃ r, OpR X (compareOp o.ast) r ∧ OpOk X.K r o.ev := by
  cases o with
  | eq => exact ⟨_, (op_eqD hu).or op_eq, ok_eq⟩
  | ne => exact ⟨_, (op_neD hu).or op_ne, ok_ne⟩
  | lt => exact ⟨_, op_lt, ok_lt⟩
  | le => exact ⟨_, op_le, ok_le⟩
  | gt => exact ⟨_, op_gt, ok_gt⟩
  | ge => exact ⟨_, op_ge, ok_ge⟩
  | is => exact ⟨_, op_isN, ok_is⟩
  | isnot => exact ⟨_, op_notN, ok_isnot⟩
  | inn => exact ⟨_, op_in_seq, ok_in false⟩
  | notin => exact ⟨_, op_notIn_seq, ok_in true⟩
theorem noSet_of {x : Expr} {op : CmpOp} (h : noSet x = true) : behindInMarks op x = false := by
  cases x <;> first | rfl | cases h
theorem noSet2 {op op' : CmpOp} {b c : Expr} (h : noSet c = true) : lastMarks [op, op'] [b, c] = false := by
  show behindInMarks op' c = false
  exact noSet_of h
theorem folded_of {x : Expr} (h : noSet x = true) : ∀ (env : Env) (y : Value), foldedSetIterable x env y = pure y := by
  intro env y
  cases x <;> first | rfl | cases h
/-! the built-ins -/
theorem bf_snd (b : BF) (hc : X.calm = true) (hu : X.A.units + 64 < cLine) (hgd : X.A.guards = some []) {y : Str} {e : Expr} {es : List Expr} {t : DTA} {p pos : Pos} (hy : y = b.name) (hg : Gl X y) (hm : X.mg y = none) (ha : DA X W (e :: es) t) (hs : (e :: es).all notStar = true) :
    DE X W (.Call (.Name y p) (e :: es) [] pos) (dCall b.ev t) := by
  simp only [List.all_cons, Bool.and_eq_true] at hs
  subst hy
  cases b with
  | len => exact (pe_callB call_len hg hm (by decide +kernel) ha (by decide +kernel) (by decide +kernel) (starEach_ns hs.1) (plain_args hs.2)).imp (tCB_of ok_len)
  | abs => exact (pe_callB call_abs hg hm (by decide +kernel) ha (by decide +kernel) (by decide +kernel) (starEach_ns hs.1) (plain_args hs.2)).imp (tCB_of ok_abs)
  | max2 => exact (pe_callB (call_max2 hc) hg hm (by decide +kernel) ha (by decide +kernel) (by decide +kernel) (starEach_ns hs.1) (plain_args hs.2)).imp (tCB_of ok_max2)
  | min2 => exact (pe_callB (call_min2 hc) hg hm (by decide +kernel) ha (by decide +kernel) (by decide +kernel) (starEach_ns hs.1) (plain_args hs.2)).imp (tCB_of ok_min2)
  | sum => exact (pe_callB (cr_sum hc) hg hm (by decide +kernel) ha (by decide +kernel) (by decide +kernel) (starEach_ns hs.1) (plain_args hs.2)).imp (tCB_of ok_sum)
  | repr => exact (pe_callB (call_repr_dp hu hgd) hg hm (by decide +kernel) ha (by decide +kernel) (by decide +kernel) (starEach_ns hs.1) (plain_args hs.2)).imp (tCB_of ok_repr)
  | int => exact (pe_callTy call_int1 hg hm (by decide +kernel) ha (by decide +kernel) (by decide +kernel) (starEach_ns hs.1) (plain_args hs.2)).imp (tCB_of ok_int)
  | list => exact (pe_callTy call_list_of hg hm (by decide +kernel) ha (by decide +kernel) (by decide +kernel) (starEach_ns hs.1) (plain_args hs.2)).imp (tCB_of ok_list)
  | tuple => exact (pe_callTy call_tuple_of hg hm (by decide +kernel) ha (by decide +kernel) (by decide +kernel) (starEach_ns hs.1) (plain_args hs.2)).imp (tCB_of ok_tuple)
theorem _root_.L2.MtM.r {X : Cx} {id : String} {r : V → List V → Hp → VK → Prop} (h : MtM X id r) : MtR X id r := h
theorem bm_snd (m : BM) {y : Expr} {n : Str} {es : List Expr} {to : DTE} {t : DTA} {ap pos : Pos} (hn : n = m.name) (ho : DE X W y to) (ha : DA X W es t) (h0 : es = [] → t = dNil) (hb : plainBase y = true) (hs : es.all notStar = true) (hl : (ap.endLine == pos.line) = true) (hf : decide (es.length < 30) = true) :
    DE X W (.Call (.Attribute y n ap) es [] pos) (dBM tyL m.ev to t) := by
  subst hn
  cases es with
  | nil =>
    rw [h0 rfl]
    cases m with
    | append => exact (de_bm0 PySem.F.plainAttrs_list PySem.F.slot_list_append PySem.F.type_list_append (MtM.r mt_append) mok_append tyL_of ho hb hl)
    | extend => exact (de_bm0 PySem.F.plainAttrs_list PySem.F.slot_list_extend PySem.F.type_list_extend (MtM.r mt_extend) mok_extend tyL_of ho hb hl)
    | pop => exact (de_bm0 PySem.F.plainAttrs_list PySem.F.slot_list_pop PySem.F.type_list_pop (MtM.r mt_pop) mok_pop tyL_of ho hb hl)
    | reverse => exact (de_bm0 PySem.F.plainAttrs_list PySem.F.slot_list_reverse PySem.F.type_list_reverse (MtM.r mt_reverse) mok_reverse tyL_of ho hb hl)
  | cons e es =>
    cases m with
    | append => exact (de_bm PySem.F.plainAttrs_list PySem.F.slot_list_append PySem.F.type_list_append (MtM.r mt_append) mok_append tyL_of ho ha hb hs hf hl)
    | extend => exact (de_bm PySem.F.plainAttrs_list PySem.F.slot_list_extend PySem.F.type_list_extend (MtM.r mt_extend) mok_extend tyL_of ho ha hb hs hf hl)
    | pop => exact (de_bm PySem.F.plainAttrs_list PySem.F.slot_list_pop PySem.F.type_list_pop (MtM.r mt_pop) mok_pop tyL_of ho ha hb hs hf hl)
    | reverse => exact (de_bm PySem.F.plainAttrs_list PySem.F.slot_list_reverse PySem.F.type_list_reverse (MtM.r mt_reverse) mok_reverse tyL_of ho ha hb hs hf hl)
/-! comprehensions' blocks -/
theorem relab_lookup {env : Env} {x : Str} {k : NameKind} : ∀ {names : List (Str × NameKind)}, names.lookup x = some k →
    (names.map fun (n, k) => if (k == NameKind.free && env.scope.kind == .function && env.kindOf n == some .cell) then (n, NameKind.cell) else (n, k)).lookup x = some k ∨
    (k = .free ∧ (names.map fun (n, k) => if (k == NameKind.free && env.scope.kind == .function && env.kindOf n == some .cell) then (n, NameKind.cell) else (n, k)).lookup x = some .cell)
  | [], h => by simp at h
  | (n, k') :: r, h => by
    have ih := @relab_lookup env x k r
    cases hx : x == n with
    | true =>
      simp only [List.lookup_cons, hx] at h
      cases h
      simp only [List.map_cons]
      by_cases hc : (k == NameKind.free && env.scope.kind == .function && env.kindOf n == some .cell) = true
      · right
        have : k = .free := by
          simp only [Bool.and_eq_true, beq_iff_eq] at hc
          exact hc.1.1
        refine ⟨this, ?_⟩
        rw [if_pos hc, List.lookup_cons, hx]
      · left
        rw [if_neg hc, List.lookup_cons, hx]
    | false =>
      simp only [List.lookup_cons, hx] at h
      simp only [List.map_cons]
      by_cases hc : (k' == NameKind.free && env.scope.kind == .function && env.kindOf n == some .cell) = true
      · rw [if_pos hc, List.lookup_cons, hx]; exact ih h
      · rw [if_neg hc, List.lookup_cons, hx]; exact ih h
theorem Good.blk (g : Good G S sc X W) (s : Shared) (H : Hp) (scope : Scope) (C : Addr) (cl : List (Str × Addr)) (fp : List Addr) (hk : scope.kind = .function) : Good G S scope.names (X.blk s H scope (compEnvC scope cl C X.env) fp) W0 where
  hN := g.hN
  nd := g.nd
  calm := g.calm
  tk := takes0
  po := PassesOwn.never
  un := g.un
  gd := g.gd
  fk := hk
  scr := fun x k h => relab_lookup (env := X.env) h
  fnx := fun x h => by show (scope.names.lookup x == some .cell) = true; rw [h]; rfl
  tab := g.tab
theorem Good.blkOk (g : Good G S sc X W) {scope : Scope} {own : List (Str × Nat)} (h : blkC G.N (scopeOf sc) scope own = true) : BlkOk X.N X.env.scope scope own := by
  have b := blkOk_by h
  rw [g.hN]
  refine ⟨b.kind, b.uniq, b.ix, fun y hy e => ?_, b.own⟩
  rcases b.free y hy e with z | z
  · rcases g.scr y.1 .cell z with q | ⟨q, _⟩
    · exact .inl q
    · cases q
  · rcases g.scr y.1 .free z with q | ⟨_, q⟩
    · exact .inr q
    · exact .inl q
end
/-! ### the look at an expression says what it means -/
structure Snd (G : Cfg) (S : Sg) (u : E) : Prop where
  e : ∀ {sc X W x}, Good G S sc X W → (chk G u).e sc x = true → DE X W x (ev S u).e
  t : ∀ {sc X W x}, Good G S sc X W → (chk G u).t sc x = true → DT X W x (ev S u).t
  a : ∀ {sc X W xs}, Good G S sc X W → (chk G u).a sc xs = true → DA X W xs (ev S u).a ∧ xs.all notStar = true ∧ (xs = [] → (ev S u).a = dNil)
  k : ∀ {sc X W ks}, Good G S sc X W → (chk G u).k sc ks = true → DKw X W ks (ev S u).a
  av : ∀ {sc X W xs pos}, Good G S sc X W → (chk G u).av sc xs = true → DE X W (.BoolOp .And xs pos) (ev S u).e
  ov : ∀ {sc X W xs pos}, Good G S sc X W → (chk G u).ov sc xs = true → DE X W (.BoolOp .Or xs pos) (ev S u).e
  at' : ∀ {sc X W xs pos}, Good G S sc X W → (chk G u).at' sc xs = true → DW X W (.BoolOp .And xs pos) (ev S u).t
  ot : ∀ {sc X W xs pos}, Good G S sc X W → (chk G u).ot sc xs = true → DW X W (.BoolOp .Or xs pos) (ev S u).t
  i : ∀ {sc X W tg x}, Good G S sc X W → (chk G u).i sc tg x = true → DI X W tg x (ev S u).i
  o : ∀ {sc X W x}, Good G S sc X W → (chk G u).o sc x = true → PO X x (liftO X.K W (ev S u).o)
  d : ∀ {sc X W xs}, Good G S sc X W → (chk G u).d sc xs = true → DA X W xs (ev S u).a
section
variable {G : Cfg} {S : Sg} {u : E}
theorem Snd.of {e t : SC → Expr → Bool} (hc : chk G u = Chk.of e t) (hi : (ev S u).i = iSeq (ev S u).e) (ho : (ev S u).o = oPart (ev S u).e)
    (he : ∀ {sc X W x}, Good G S sc X W → e sc x = true → DE X W x (ev S u).e) (ht : ∀ {sc X W x}, Good G S sc X W → t sc x = true → DT X W x (ev S u).t) : Snd G S u := by
  have one : ∀ {f : SC → Expr → Bool} {sc : SC} {xs : List Expr}, one1 f sc xs = true → ∃ x, xs = [x] ∧ f sc x = true := fun {f sc xs} h => by
    match xs, h with
    | [x], h => exact ⟨x, rfl, h⟩
  refine ⟨fun g h => ?_, fun g h => ?_, fun g h => ?_, fun g h => ?_, fun g h => ?_, fun g h => ?_, fun g h => ?_, fun g h => ?_, fun g h => ?_, fun g h => ?_, fun g h => ?_⟩ <;> rw [hc] at h
  · exact he g h
  · exact ht g h
  · cases h
  · cases h
  · obtain ⟨x, rfl, h⟩ := one h; exact de_one (he g h)
  · obtain ⟨x, rfl, h⟩ := one h; exact de_one (he g h)
  · obtain ⟨x, rfl, h⟩ := one h; exact pw_and1 (ht g h)
  · obtain ⟨x, rfl, h⟩ := one h; exact pw_or1 (ht g h)
  · rw [hi]
    have h' : (noSet _ && e _ _) = true := h
    rw [Bool.and_eq_true] at h'
    exact di_seq (he g h'.2)
  · rw [ho]
    rename_i x
    cases x with
    | none => cases h
    | some y => exact do_some (he g h)
  · cases h
theorem Snd.tru {e : SC → Expr → Bool} (hc : chk G u = Chk.tru e) (hv : ev S u = Ev.of (ev S u).e)
    (he : ∀ {sc X W x}, Good G S sc X W → e sc x = true → DE X W x (ev S u).e) : Snd G S u :=
  .of hc (by rw [hv]; rfl) (by rw [hv]; rfl) he fun g h => by
    have h' : (plainTest _ && e _ _) = true := h
    rw [Bool.and_eq_true] at h'
    rw [hv]
    exact dt_tru (he g h'.2) (isTrue_plain h'.1)
end
end LD
end

section
set_option maxRecDepth 100000
set_option maxHeartbeats 4000000
namespace LD
open PySem PySem.Spec PyProof.Rows L2
variable {G : Cfg} {S : Sg}
theorem star1' {u : Expr} {xs : List Expr} (h : (u :: xs).all notStar = true) : notStar u = true := by
  simp only [List.all_cons, Bool.and_eq_true] at h; exact h.1
theorem star2' {u v : Expr} {xs : List Expr} (h : (u :: v :: xs).all notStar = true) : notStar v = true := by
  simp only [List.all_cons, Bool.and_eq_true] at h; exact h.2.1
theorem snd (u : E) : Snd G S u := by
  induction u with
  | var i =>
    refine .tru rfl rfl fun g h => ?_
    rename_i x
    try dsimp only [chk, Chk.of, Chk.tru] at h
    split at h
    · rename_i y p
      simp only [Bool.and_eq_true] at h
      exact de_var (g.nm h.1.1.1) (g.vis h.1.1.2) (by simpa using h.1.2) (by simpa using h.2)
    · cases h
  | int i =>
    refine .tru rfl rfl fun g h => ?_
    rename_i x
    try dsimp only [chk, Chk.of, Chk.tru] at h
    split at h
    · rename_i j k p
      cases of_decide_eq_true h; exact de_int
    · cases h
  | str i =>
    refine .tru rfl rfl fun g h => ?_
    rename_i x
    try dsimp only [chk, Chk.of, Chk.tru] at h
    split at h
    · rename_i j k p
      cases of_decide_eq_true h; exact de_str
    · cases h
  | bl i =>
    refine .tru rfl rfl fun g h => ?_
    rename_i x
    try dsimp only [chk, Chk.of, Chk.tru] at h
    split at h
    · rename_i j k p
      cases of_decide_eq_true h; exact de_bl
    · cases h
  | non =>
    refine .tru rfl rfl fun g h => ?_
    rename_i x
    try dsimp only [chk, Chk.of, Chk.tru] at h
    split at h
    · rename_i k p
      exact de_non
    · cases h
  | cst k =>
    refine .tru rfl rfl fun g h => ?_
    rename_i x
    try dsimp only [chk, Chk.of, Chk.tru] at h
    split at h
    · rename_i y p
      simp only [Bool.and_eq_true] at h
      obtain ⟨y, h1, h2⟩ := atB_of h.2
      cases eqS_of h2
      obtain ⟨v, w, hm, r, rp⟩ := g.tab.cs k _ h1
      exact de_c (pe_glob (g.gl h.1).1 hm r (g.gl h.1).2) rp
    · cases h
  | bin o a b iha ihb =>
    refine .tru rfl rfl fun g h => ?_
    rename_i x
    try dsimp only [chk, Chk.of, Chk.tru] at h
    split at h
    · rename_i l p r q
      simp only [Bool.and_eq_true] at h
      cases opB_of h.1.1
      obtain ⟨r, h1, h2⟩ := op_snd (X := _) o
      exact de_op h1 h2 (iha.e g h.1.2) (ihb.e g h.2)
    · cases h
  | neg a iha =>
    refine .tru rfl rfl fun g h => ?_
    rename_i x
    try dsimp only [chk, Chk.of, Chk.tru] at h
    split at h
    · rename_i y p
      exact de_neg (iha.e g h)
    · cases h
  | cmp o a b iha ihb =>
    refine .of rfl rfl rfl (fun g h => ?_) fun g h => ?_
    · rename_i x
      try dsimp only [chk, Chk.of, Chk.tru] at h
      split at h
      · rename_i l p r pos
        simp only [Bool.and_eq_true] at h
        obtain ⟨⟨⟨h1, h2⟩, h3⟩, h4⟩ := h
        cases of_decide_eq_true h1
        obtain ⟨r, q1, q2⟩ := cmp_snd g.un o
        exact de_cmp q1 q2 (iha.e g h3) (ihb.e g h4) (noSet_of h2)
      · cases h
    · rename_i x
      try dsimp only [chk, Chk.of, Chk.tru] at h
      split at h
      · rename_i l p r pos
        simp only [Bool.and_eq_true] at h
        obtain ⟨⟨⟨h1, h2⟩, h3⟩, h4⟩ := h
        cases of_decide_eq_true h1
        obtain ⟨r, q1, q2⟩ := cmp_snd g.un o
        exact dt_cmp q1 q2 (iha.e g h3) (ihb.e g h4) (noSet_of h2)
      · cases h
  | chain o o' a b c iha ihb ihc =>
    refine .of rfl rfl rfl (fun g h => ?_) fun g h => ?_
    · rename_i x
      try dsimp only [chk, Chk.of, Chk.tru] at h
      split at h
      · rename_i l p p' r q pos
        simp only [Bool.and_eq_true] at h
        obtain ⟨⟨⟨⟨⟨h1, h2⟩, h3⟩, h4⟩, h5⟩, h6⟩ := h
        cases of_decide_eq_true h1
        cases of_decide_eq_true h2
        obtain ⟨r, q1, q2⟩ := cmp_snd g.un o
        obtain ⟨r', q3, q4⟩ := cmp_snd g.un o'
        exact de_chain q1 q2 q3 q4 (iha.e g h4) (ihb.e g h5) (ihc.e g h6) (noSet2 h3)
      · cases h
    · rename_i x
      try dsimp only [chk, Chk.of, Chk.tru] at h
      split at h
      · rename_i l p p' r q pos
        simp only [Bool.and_eq_true] at h
        obtain ⟨⟨⟨⟨⟨h1, h2⟩, h3⟩, h4⟩, h5⟩, h6⟩ := h
        cases of_decide_eq_true h1
        cases of_decide_eq_true h2
        obtain ⟨r, q1, q2⟩ := cmp_snd g.un o
        obtain ⟨r', q3, q4⟩ := cmp_snd g.un o'
        exact dt_chain q1 q2 q3 q4 (iha.e g h4) (ihb.e g h5) (ihc.e g h6) (noSet2 h3)
      · cases h
  | and a b iha ihb =>
    have he : ∀ {sc X W x}, Good G S sc X W → (chk G (.and a b)).e sc x = true → DE X W x (ev S (.and a b)).e := fun {sc X W x} g h => by
      try dsimp only [chk, Chk.of, Chk.tru] at h
      split at h
      · rename_i y z zs p
        have h' : ((chk G a).e sc y && (chk G b).av sc (z :: zs)) = true := h
        rw [Bool.and_eq_true] at h'
        exact de_and (iha.e g h'.1) (ihb.av g h'.2)
      · cases h
    have ht : ∀ {sc X W x}, Good G S sc X W → (chk G (.and a b)).t sc x = true → PW X x (liftT X.K W (ev S (.and a b)).t) := fun {sc X W x} g h => by
      try dsimp only [chk, Chk.of, Chk.tru] at h
      split at h
      · rename_i y z zs p
        have h' : ((chk G a).t sc y && (chk G b).at' sc (z :: zs)) = true := h
        rw [Bool.and_eq_true] at h'
        exact dw_and (iha.t g h'.1) (ihb.at' g h'.2)
      · cases h
    refine ⟨he, fun g h => (ht g h).pt, fun g h => (by cases h), fun g h => (by cases h), fun g h => ?_, fun g h => ?_, fun g h => ?_, fun g h => ?_, fun g h => ?_, fun g h => ?_, fun g h => (by cases h)⟩
    · rename_i xs pos
      match xs, h with
      | [x], h => exact de_one (he g h)
      | y :: z :: zs, h =>
        have h' : ((chk G a).e _ y && (chk G b).av _ (z :: zs)) = true := h
        rw [Bool.and_eq_true] at h'
        exact de_and (iha.e g h'.1) (ihb.av g h'.2)
    · rename_i xs pos
      match xs, h with
      | [x], h => exact de_one (he g h)
    · rename_i xs pos
      match xs, h with
      | [x], h => exact pw_and1 (ht g h).pt
      | y :: z :: zs, h =>
        have h' : ((chk G a).t _ y && (chk G b).at' _ (z :: zs)) = true := h
        rw [Bool.and_eq_true] at h'
        exact dw_and (iha.t g h'.1) (ihb.at' g h'.2)
    · rename_i xs pos
      match xs, h with
      | [x], h => exact pw_or1 (ht g h).pt
    · have h' : (noSet _ && (chk G (.and a b)).e _ _) = true := h
      rw [Bool.and_eq_true] at h'
      exact di_seq (he g h'.2)
    · rename_i x
      cases x with
      | none => cases h
      | some y => exact do_some (he g h)
  | or a b iha ihb =>
    have he : ∀ {sc X W x}, Good G S sc X W → (chk G (.or a b)).e sc x = true → DE X W x (ev S (.or a b)).e := fun {sc X W x} g h => by
      try dsimp only [chk, Chk.of, Chk.tru] at h
      split at h
      · rename_i y z zs p
        have h' : ((chk G a).e sc y && (chk G b).ov sc (z :: zs)) = true := h
        rw [Bool.and_eq_true] at h'
        exact de_or (iha.e g h'.1) (ihb.ov g h'.2)
      · cases h
    have ht : ∀ {sc X W x}, Good G S sc X W → (chk G (.or a b)).t sc x = true → PW X x (liftT X.K W (ev S (.or a b)).t) := fun {sc X W x} g h => by
      try dsimp only [chk, Chk.of, Chk.tru] at h
      split at h
      · rename_i y z zs p
        have h' : ((chk G a).t sc y && (chk G b).ot sc (z :: zs)) = true := h
        rw [Bool.and_eq_true] at h'
        exact dw_or (iha.t g h'.1) (ihb.ot g h'.2)
      · cases h
    refine ⟨he, fun g h => (ht g h).pt, fun g h => (by cases h), fun g h => (by cases h), fun g h => ?_, fun g h => ?_, fun g h => ?_, fun g h => ?_, fun g h => ?_, fun g h => ?_, fun g h => (by cases h)⟩
    · rename_i xs pos
      match xs, h with
      | [x], h => exact de_one (he g h)
    · rename_i xs pos
      match xs, h with
      | [x], h => exact de_one (he g h)
      | y :: z :: zs, h =>
        have h' : ((chk G a).e _ y && (chk G b).ov _ (z :: zs)) = true := h
        rw [Bool.and_eq_true] at h'
        exact de_or (iha.e g h'.1) (ihb.ov g h'.2)
    · rename_i xs pos
      match xs, h with
      | [x], h => exact pw_and1 (ht g h).pt
    · rename_i xs pos
      match xs, h with
      | [x], h => exact pw_or1 (ht g h).pt
      | y :: z :: zs, h =>
        have h' : ((chk G a).t _ y && (chk G b).ot _ (z :: zs)) = true := h
        rw [Bool.and_eq_true] at h'
        exact dw_or (iha.t g h'.1) (ihb.ot g h'.2)
    · have h' : (noSet _ && (chk G (.or a b)).e _ _) = true := h
      rw [Bool.and_eq_true] at h'
      exact di_seq (he g h'.2)
    · rename_i x
      cases x with
      | none => cases h
      | some y => exact do_some (he g h)
  | not a iha =>
    refine .of rfl rfl rfl (fun g h => ?_) fun g h => ?_
    · rename_i x
      try dsimp only [chk, Chk.of, Chk.tru] at h
      split at h
      · rename_i y p
        exact de_not (iha.e g h)
      · cases h
    · rename_i x
      try dsimp only [chk, Chk.of, Chk.tru] at h
      split at h
      · rename_i y p
        exact dt_not (iha.t g h)
      · cases h
  | ifx c a b ihc iha ihb =>
    refine .of rfl rfl rfl (fun g h => ?_) fun g h => (by cases h)
    rename_i x
    try dsimp only [chk, Chk.of, Chk.tru] at h
    split at h
    · rename_i y z w q
      simp only [Bool.and_eq_true] at h
      exact de_if (ihc.t g h.1.1) (iha.e g h.1.2) (ihb.e g h.2)
    · cases h
  | nil =>
    refine ⟨fun g h => (by cases h), fun g h => (by cases h), fun g h => ?_, fun g h => ?_, fun g h => (by cases h), fun g h => (by cases h), fun g h => (by cases h), fun g h => (by cases h), fun g h => (by cases h), fun g h => ?_, fun g h => ?_⟩
    · rename_i xs
      cases xs with
      | nil => exact ⟨da_nil, rfl, fun _ => rfl⟩
      | cons _ _ => cases h
    · rename_i xs
      cases xs with
      | nil => exact dk_nil
      | cons _ _ => cases h
    · rename_i x
      cases x with
      | none => exact do_none
      | some y => cases h
    · rename_i xs
      cases xs with
      | nil => exact da_nil
      | cons _ _ => cases h
  | cons a as iha ihs =>
    refine ⟨fun g h => (by cases h), fun g h => (by cases h), fun g h => ?_, fun g h => ?_, fun g h => (by cases h), fun g h => (by cases h), fun g h => (by cases h), fun g h => (by cases h), fun g h => (by cases h), fun g h => (by cases h), fun g h => ?_⟩
    · rename_i sc X W xs
      cases xs with
      | nil => cases h
      | cons x xs =>
        have h' : (notStar x && (chk G a).e sc x && (chk G as).a sc xs) = true := h
        simp only [Bool.and_eq_true] at h'
        obtain ⟨q1, q2, q3⟩ := ihs.a g h'.2
        exact ⟨da_cons (iha.e g h'.1.2) q1 (starEach_ns h'.1.1), by simp only [List.all_cons, Bool.and_eq_true]; exact ⟨h'.1.1, q2⟩, fun z => by cases z⟩
    · rename_i sc X W ks
      cases ks with
      | nil => cases h
      | cons k ks =>
        obtain ⟨n, v, p⟩ := k
        have h' : ((chk G a).e sc v && (chk G as).k sc ks) = true := h
        rw [Bool.and_eq_true] at h'
        exact dk_cons (iha.e g h'.1) (ihs.k g h'.2)
    · rename_i sc X W xs
      cases xs with
      | nil => cases h
      | cons x xs =>
        have h' : (notStar x && (chk G a).e sc x && (chk G as).d sc xs) = true := h
        simp only [Bool.and_eq_true] at h'
        exact da_cons (iha.e g h'.1.2) (ihs.d g h'.2) (starEach_ns h'.1.1)
  | consS a as iha ihs =>
    refine ⟨fun g h => (by cases h), fun g h => (by cases h), fun g h => (by cases h), fun g h => (by cases h), fun g h => (by cases h), fun g h => (by cases h), fun g h => (by cases h), fun g h => (by cases h), fun g h => (by cases h), fun g h => (by cases h), fun g h => ?_⟩
    rename_i sc X W xs
    cases xs with
    | nil => cases h
    | cons x xs =>
      cases x <;> first | (cases h; done) | skip
      rename_i y p
      have h' : ((chk G a).e sc y && (chk G as).d sc xs) = true := h
      simp only [Bool.and_eq_true] at h'
      exact da_consS (iha.e g h'.1) (ihs.d g h'.2)
  | tup as ihs =>
    refine .tru rfl rfl fun g h => ?_
    rename_i x
    try dsimp only [chk, Chk.of, Chk.tru] at h
    split at h
    · rename_i es k q
      exact de_tup (ihs.d g h)
    · cases h
  | lst as ihs =>
    refine .tru rfl rfl fun g h => ?_
    rename_i x
    try dsimp only [chk, Chk.of, Chk.tru] at h
    split at h
    · rename_i es q
      exact de_lst (ihs.d g h)
    · cases h
  | idx a b iha ihb =>
    refine .tru rfl rfl fun g h => ?_
    rename_i x
    try dsimp only [chk, Chk.of, Chk.tru] at h
    split at h
    · rename_i y z q
      simp only [Bool.and_eq_true] at h
      exact de_idx (iha.e g h.1.2) (ihb.e g h.2) (plainIx_of h.1.1)
    · cases h
  | sl a lo hi iha ihl ihh =>
    refine .tru rfl rfl fun g h => ?_
    rename_i x
    try dsimp only [chk, Chk.of, Chk.tru] at h
    split at h
    · rename_i y l hh p q
      simp only [Bool.and_eq_true] at h
      exact de_slice (iha.e g h.1.1) (ihl.o g h.1.2) (ihh.o g h.2)
    · cases h
  | call f as kws ihs ihk =>
    refine .tru rfl rfl fun g h => ?_
    rename_i sc X W x
    try dsimp only [chk, Chk.of, Chk.tru] at h
    split at h
    · rename_i y p es ks q
      simp only [Bool.and_eq_true] at h
      obtain ⟨⟨⟨h1, h2⟩, h3⟩, h4⟩ := h
      obtain ⟨⟨n, ns⟩, e1, e2⟩ := atB_of h2
      simp only [Bool.and_eq_true] at e2
      cases eqS_of e2.1
      have e3 := e2.2
      unfold kwNms at e3
      rw [Bool.and_eq_true] at e3
      obtain ⟨q1, q2, q3⟩ := ihs.a g h3
      obtain ⟨fl, F⟩ := g.tab.fn f _ _ e1
      have goal : DE X W (.Call (.Name y p) es ks q) (dCallF (S.fl f) (S.fn f) (ev S as).a (ev S kws).a) := by
        rw [fl]
        rcases F with F | ⟨C, sp, e, F⟩
        · exact de_call g.gd g.tk F (g.gl h1).1 q1 (ihk.k g h4) q3 (g.gl h1).2 q2 e3.1 (of_decide_eq_true e3.2)
        · rw [e]
          exact de_make g.gd g.tk F (g.gl h1).1 q1 (ihk.k g h4) q3 (g.gl h1).2 q2 e3.1 (of_decide_eq_true e3.2)
      exact goal
    · cases h
  | meth m o as kws iho ihs ihk =>
    refine .tru rfl rfl fun g h => ?_
    rename_i sc X W x
    try dsimp only [chk, Chk.of, Chk.tru] at h
    split at h
    · rename_i y n ap es ks q
      simp only [Bool.and_eq_true] at h
      obtain ⟨⟨⟨⟨⟨⟨h1, h2⟩, h3⟩, h4⟩, h5⟩, h6⟩, h7⟩ := h
      obtain ⟨⟨n', ns⟩, e1, e2⟩ := atB_of h4
      simp only [Bool.and_eq_true] at e2
      cases eqS_of e2.1
      have e3 := e2.2
      unfold kwNms at e3
      rw [Bool.and_eq_true] at e3
      obtain ⟨q1, q2, q3⟩ := ihs.a g h6
      obtain ⟨mn, ml, F⟩ := g.tab.mt m _ _ e1
      have goal : DE X W (.Call (.Attribute y n ap) es ks q) (dMeth (S.mc m) (S.mn m) (S.ml m) (S.mt m) (ev S o).e (ev S as).a (ev S kws).a) := by
        rw [mn, ml]
        exact de_meth g.gd g.tk F (iho.e g h5) q1 (ihk.k g h7) q3 h1 (by simpa using of_decide_eq_true h2) h3 q2 e3.1 (of_decide_eq_true e3.2)
      exact goal
    · cases h
  | fld f o iho =>
    refine .tru rfl rfl fun g h => ?_
    rename_i sc X W x
    try dsimp only [chk, Chk.of, Chk.tru] at h
    split at h
    · rename_i y nm q
      simp only [Bool.and_eq_true] at h
      obtain ⟨n', e1, e2⟩ := atB_of h.1.2
      cases eqS_of e2
      obtain ⟨fn, c, n⟩ := g.tab.fl f _ e1
      have goal : DE X W (.Attribute y nm q) (dFld (S.fc f) (S.fnm f) (ev S o).e) := by
        rw [fn]
        exact de_fld c n (iho.e g h.2) h.1.1
      exact goal
    · cases h
  | prop m o iho =>
    refine .tru rfl rfl fun g h => ?_
    rename_i sc X W x
    try dsimp only [chk, Chk.of, Chk.tru] at h
    split at h
    · rename_i y nm q
      simp only [Bool.and_eq_true] at h
      obtain ⟨n', e1, e2⟩ := atB_of h.1.2
      cases eqS_of e2
      obtain ⟨fn, F⟩ := g.tab.pr m _ e1
      have goal : DE X W (.Attribute y nm q) (dProp (S.pc m) (S.pn m) (S.pr m) (ev S o).e) := by
        rw [fn]
        exact de_prop g.gd F (iho.e g h.2) h.1.1
      exact goal
    · cases h
  | bcall b as ihs =>
    refine .tru rfl rfl fun g h => ?_
    rename_i x
    try dsimp only [chk, Chk.of, Chk.tru] at h
    split at h
    · rename_i y p e es q
      simp only [Bool.and_eq_true] at h
      obtain ⟨g1, g2, g3, g4⟩ := g.bi h.1.2
      obtain ⟨q1, q2, q3⟩ := ihs.a g h.2
      exact bf_snd b g.calm g.un g.gd (eqS_of h.1.1) g1 g3 q1 q2
    · cases h
  | bmeth m o as iho ihs =>
    refine .tru rfl rfl fun g h => ?_
    rename_i x
    try dsimp only [chk, Chk.of, Chk.tru] at h
    split at h
    · rename_i y n ap es q
      simp only [Bool.and_eq_true] at h
      obtain ⟨⟨⟨⟨⟨h1, h2⟩, h3⟩, h4⟩, h5⟩, h6⟩ := h
      obtain ⟨q1, q2, q3⟩ := ihs.a g h6
      exact bm_snd m (eqS_of h4) (iho.e g h5) q1 q3 h1 q2 (by simpa using of_decide_eq_true h2) h3
    · cases h
  | lc it p c elt own ihi ihc ihe =>
    refine .tru rfl rfl fun g h => ?_
    rename_i sc X W x
    try dsimp only [chk, Chk.of, Chk.tru] at h
    split at h
    · rename_i el tg iter ifs scope pos
      simp only [Bool.and_eq_true] at h
      obtain ⟨⟨⟨⟨⟨⟨⟨h1, h2⟩, h3⟩, h4⟩, h5⟩, h6⟩, h7⟩, h8⟩ := h
      have ok := g.blkOk h2
      have gb := fun s H C cl fp => g.blk s H scope C cl fp ok.kind
      have hown := of_decide_eq_true h3
      have e := de_lc (W := W) (c := if isNil c then none else some (ev S c).t) (te := (ev S elt).e) (pos := pos) g.calm g.ndX (ihi.i g h1) ok (p := p) (fun i hi => by
          rw [hown]
          exact of_decide_eq_true (List.all_eq_true.mp h4 i hi)) (fun s H C cl fp => (chkP_of (gb s H C cl fp) h6).1) (ifs := ifs) (fun s H C cl fp => by
          match ifs, h7 with
          | [], h7 => rw [if_pos h7]; exact pts_nil
          | [y], h7 =>
            simp only [Bool.and_eq_true, Bool.not_eq_true'] at h7
            rw [if_neg (by rw [h7.1]; simp)]
            exact pts_one (ihc.t (gb s H C cl fp) h7.2)) (fun s H C cl fp => ihe.e (gb s H C cl fp) h8) (folded_of h5 _)
      rw [hown] at e
      exact e
    · cases h
  | frz a iha =>
    refine .tru rfl rfl fun g h => ?_
    exact de_frz (iha.e g h)
  | kget k a iha =>
    refine .tru rfl rfl fun g h => ?_
    rename_i sc X W x
    try dsimp only [chk, Chk.of, Chk.tru] at h
    split at h
    · simp only [Bool.and_eq_true] at h
      obtain ⟨⟨⟨⟨⟨h1, h2⟩, h3⟩, h4⟩, h5⟩, h6⟩ := h
      cases eqS_of h1
      obtain ⟨y, e1, e2⟩ := atB_of h3
      cases eqS_of e2
      obtain ⟨d, hm, kd⟩ := g.tab.kd k _ e1
      exact de_kget (g.gl h2).1 hm (g.gl h2).2 kd (iha.e g h6) h4 (by simpa using of_decide_eq_true h5)
    · cases h
  | rev a iha =>
    refine .tru rfl rfl fun g h => ?_
    rename_i sc X W x
    try dsimp only [chk, Chk.of, Chk.tru] at h
    split at h
    · exact de_revA (iha.e g h)
    · cases h
  | isi k a iha =>
    refine .tru rfl rfl fun g h => ?_
    rename_i sc X W x
    try dsimp only [chk, Chk.of, Chk.tru] at h
    split at h
    · rename_i y p e c q
      simp only [Bool.and_eq_true] at h
      obtain ⟨⟨⟨⟨h1, h2⟩, h3⟩, h4⟩, h5⟩ := h
      cases eqS_of h1
      obtain ⟨g1, g2, g3, g4⟩ := g.bi h2
      obtain ⟨xs, e1, e2⟩ := atB_of h5
      obtain ⟨vs, us, hc, ok, hz⟩ := g.tab.is k _ e1
      cases c <;> first | (cases e2; done) | skip
      · rename_i x' p'
        have cs := clsBs_of g (es := [.Name x' p']) e2 hc
        match vs, us, cs with
        | [v], [u], .cons hg hdb c .nil => exact de_isi1 g1 g3 (iha.e g h4) h3 hg hdb c ok
      · rename_i es k2 p2
        exact de_isiT g1 g3 (iha.e g h4) h3 (clsBs_of g e2 hc) hz ok
    · cases h
  | eqo k ne a b iha ihb =>
    refine .of rfl rfl rfl (fun g h => ?_) fun g h => ?_
    · rename_i x
      try dsimp only [chk, Chk.of, Chk.tru] at h
      split at h
      · rename_i l p r pos
        simp only [Bool.and_eq_true] at h
        obtain ⟨⟨⟨⟨h1, h2⟩, h3⟩, h4⟩, h5⟩ := h
        obtain ⟨y, e1, _⟩ := atB_of h3
        have F := g.tab.eq k _ e1
        obtain ⟨_, _, _, _, _, _, ic, _, _⟩ := F.ex
        cases ne with
        | false =>
          cases of_decide_eq_true h1
          exact de_cmp (op_eqOwn g.gd F) (ok_own ic) (iha.e g h4) (ihb.e g h5) (noSet_of h2)
        | true =>
          cases of_decide_eq_true h1
          exact de_cmp (op_neOwn g.gd F) (ok_own ic) (iha.e g h4) (ihb.e g h5) (noSet_of h2)
      · cases h
    · rename_i x
      try dsimp only [chk, Chk.of, Chk.tru] at h
      split at h
      · rename_i l p r pos
        simp only [Bool.and_eq_true] at h
        obtain ⟨⟨⟨⟨h1, h2⟩, h3⟩, h4⟩, h5⟩ := h
        obtain ⟨y, e1, _⟩ := atB_of h3
        have F := g.tab.eq k _ e1
        obtain ⟨_, _, _, _, _, _, ic, _, _⟩ := F.ex
        cases ne with
        | false =>
          cases of_decide_eq_true h1
          exact dt_cmp (op_eqOwn g.gd F) (ok_own ic) (iha.e g h4) (ihb.e g h5) (noSet_of h2)
        | true =>
          cases of_decide_eq_true h1
          exact dt_cmp (op_neOwn g.gd F) (ok_own ic) (iha.e g h4) (ihb.e g h5) (noSet_of h2)
      · cases h
  | dsel k1 k2 k3 k4 a b c d u iha ihb ihc ihd ihu =>
    refine .tru rfl rfl fun g h => ?_
    rename_i x
    try dsimp only [chk, Chk.of, Chk.tru] at h
    split at h
    · simp only [Bool.and_eq_true] at h
      obtain ⟨⟨⟨⟨⟨⟨⟨⟨⟨⟨h1, h2⟩, h3⟩, h4⟩, h5⟩, h6⟩, h7⟩, h8⟩, h9⟩, h10⟩, h11⟩ := h
      cases of_decide_eq_true h1; cases of_decide_eq_true h2; cases of_decide_eq_true h3; cases of_decide_eq_true h4
      exact de_sel (of_decide_eq_true h5) g.un (iha.e g h7) (ihb.e g h8) (ihc.e g h9) (ihd.e g h10) (ihu.e g h11) (plainIx_of h6)
    · cases h
  | slst a b iha ihb =>
    refine .tru rfl rfl fun g h => ?_
    rename_i sc X W x
    try dsimp only [chk, Chk.of, Chk.tru] at h
    split at h
    · rw [Bool.and_eq_true] at h
      exact de_stL (iha.e g h.1) (ihb.e g h.2)
    · cases h
  | lno k a iha =>
    refine .tru rfl rfl fun g h => ?_
    rename_i sc X W x
    try dsimp only [chk, Chk.of, Chk.tru] at h
    split at h
    · simp only [Bool.and_eq_true] at h
      obtain ⟨⟨⟨⟨h1, h2⟩, h3⟩, h4⟩, h5⟩ := h
      cases eqS_of h1
      obtain ⟨g1, g2, g3, g4⟩ := g.bi h2
      obtain ⟨y, e1, _⟩ := atB_of h4
      exact de_lno g.gd (g.tab.ln k _ e1) g1 g3 (iha.e g h5) h3
    · cases h
  | rng1 as ihs =>
    refine ⟨fun g h => (by cases h), fun g h => (by cases h), fun g h => (by cases h), fun g h => (by cases h), fun g h => (by cases h), fun g h => (by cases h), fun g h => (by cases h), fun g h => (by cases h), fun g h => ?_, fun g h => (by cases h), fun g h => (by cases h)⟩
    rename_i x
    try dsimp only [chk, Chk.of, Chk.tru] at h
    split at h
    · rename_i y p u q
      have h' : (eqS y "range" && biB G _ y && (chk G as).a _ [u]) = true := h
      simp only [Bool.and_eq_true] at h'
      cases eqS_of h'.1.1
      obtain ⟨g1, g2, g3, g4⟩ := g.bi h'.1.2
      obtain ⟨q1, q2, q3⟩ := ihs.a g h'.2
      exact di_range1 g1 g3 q1 (star1' q2)
    · cases h
  | rng2 as ihs =>
    refine ⟨fun g h => (by cases h), fun g h => (by cases h), fun g h => (by cases h), fun g h => (by cases h), fun g h => (by cases h), fun g h => (by cases h), fun g h => (by cases h), fun g h => (by cases h), fun g h => ?_, fun g h => (by cases h), fun g h => (by cases h)⟩
    rename_i x
    try dsimp only [chk, Chk.of, Chk.tru] at h
    split at h
    · rename_i y p u v q
      have h' : (eqS y "range" && biB G _ y && (chk G as).a _ [u, v]) = true := h
      simp only [Bool.and_eq_true] at h'
      cases eqS_of h'.1.1
      obtain ⟨g1, g2, g3, g4⟩ := g.bi h'.1.2
      obtain ⟨q1, q2, q3⟩ := ihs.a g h'.2
      exact di_range2 g1 g3 q1 (star1' q2) (star2' q2)
    · cases h
  | enum as ihs =>
    refine ⟨fun g h => (by cases h), fun g h => (by cases h), fun g h => (by cases h), fun g h => (by cases h), fun g h => (by cases h), fun g h => (by cases h), fun g h => (by cases h), fun g h => (by cases h), fun g h => ?_, fun g h => (by cases h), fun g h => (by cases h)⟩
    rename_i tg x
    match tg, x, h with
    | .Tuple _ _ _, .Call (.Name y p) [u] [] q, h =>
      have h' : (eqS y "enumerate" && biB G _ y && (chk G as).a _ [u]) = true := h
      simp only [Bool.and_eq_true] at h'
      cases eqS_of h'.1.1
      obtain ⟨g1, g2, g3, g4⟩ := g.bi h'.1.2
      obtain ⟨q1, q2, q3⟩ := ihs.a g h'.2
      exact di_enumT g1 g3 q1 (star1' q2)
  | zip as ihs =>
    refine ⟨fun g h => (by cases h), fun g h => (by cases h), fun g h => (by cases h), fun g h => (by cases h), fun g h => (by cases h), fun g h => (by cases h), fun g h => (by cases h), fun g h => (by cases h), fun g h => ?_, fun g h => (by cases h), fun g h => (by cases h)⟩
    rename_i tg x
    match tg, x, h with
    | .Tuple _ _ _, .Call (.Name y p) [u, v] [] q, h =>
      have h' : (eqS y "zip" && biB G _ y && (chk G as).a _ [u, v]) = true := h
      simp only [Bool.and_eq_true] at h'
      cases eqS_of h'.1.1
      obtain ⟨g1, g2, g3, g4⟩ := g.bi h'.1.2
      obtain ⟨q1, q2, q3⟩ := ihs.a g h'.2
      exact di_zip g1 g3 q1 (star1' q2) (star2' q2)
end LD
end

section
set_option maxRecDepth 100000
set_option maxHeartbeats 4000000
namespace LD
open PySem PySem.Spec PyProof.Rows L2
inductive AOp where
  | add | sub | mul
def AOp.ast : AOp → Operator
  | .add => .Add | .sub => .Sub | .mul => .Mult
def AOp.ev : AOp → DOp2
  | .add => oAddI | .sub => oSub | .mul => oMulI
inductive St where
  | nil | cons (s ss : St)
  | set (i : Nat) (e : E)
  | unp (p : Pat) (e : E)
  | par2 (i j : Nat) (a b : E)
  | par3 (i j k : Nat) (a b c : E)
  | sub (o i e : E) | sub2 (o i o2 i2 e : E)
  | aug (i : Nat) (op : AOp) (e : E) | augs (o i : E) (op : AOp) (e : E)
  | attr (f : Nat) (o e : E)
  | expr (e : E) | ret (e : E) | retN | retg (is : List Nat) (e : E)
  | ife (c : E) (a b : St) | for (it : E) (p : Pat) (body : St) | while (c : E) (body : St)
  | mat (e : E) (cs : St) | cas (x : Str) (b rest : St)
  | pass | brk | cont | doc | never
def sPar3 (i j l : Nat) (t : DTA) : DTS := fun D σ M => t σ M (fun xs M1 => ∃ u v w, xs = [u, v, w] ∧ D.nx (((σ.set i (some u)).set j (some v)).set l (some w)) M1) (D.ex σ)
def sNever : DTS := fun _ _ _ => False
/-- what the def's own names held is let go -/
def forget (σ : DSt) : List Nat → DM → DM
  | [], M => M
  | i :: is, M => match σ[i]? with
    | some (some (.ref a)) => delM (forget σ is M) a
    | _ => forget σ is M
def sRetG (is : List Nat) (te : DTE) : DTS := fun D σ M => te σ M (fun d M1 => D.rt d (forget σ is M1)) (D.ex σ)
theorem forget_ext {K : PySem.W.Frag} {H : Hp} {M : DM} {σ : DSt} (mr : MR K H M) : ∀ is : List Nat, Ext H M H (forget σ is M) ∧ MR K H (forget σ is M)
  | [] => ⟨.refl, mr⟩
  | i :: is => by
    have ih := forget_ext (σ := σ) mr is
    unfold forget
    split
    · exact ⟨ih.1.trans Ext.froze, ih.2.froze⟩
    · exact ih
def sMatch (te : DTE) (m : D → DTS) : DTS := fun D σ M => te σ M (fun d M1 => m d D σ M1) (D.ex σ)
def sCase (x : Str) (b : DTS) (m : D → DTS) : D → DTS := fun d D σ M => ∃ y : Str, d = .str y ∧ if y = x then b D σ M else m d D σ M
structure EvS where
  s : DTS
  b : DTS
  m : D → DTS := fun _ => sNever
def EvS.of (t : DTS) : EvS := ⟨t, sNever, fun _ => sNever⟩
def evS (S : Sg) : St → EvS
  | .nil => ⟨sNever, sNext, fun _ => sNext⟩
  | .cons s ss => ⟨sNever, sSeq (evS S s).s (evS S ss).b, fun _ => sNever⟩
  | .mat e cs => .of (sMatch (ev S e).e (evS S cs).m)
  | .cas x b rest => ⟨sNever, sNever, sCase x (evS S b).b (evS S rest).m⟩
  | .set i e => .of (sSet i (ev S e).e)
  | .unp p e => .of (sUnp p (ev S e).e)
  | .par2 i j a b => .of (sPar2 i j (dCons (ev S a).e (dCons (ev S b).e dNil)))
  | .par3 i j k a b c => .of (sPar3 i j k (dCons (ev S a).e (dCons (ev S b).e (dCons (ev S c).e dNil))))
  | .sub o i e => .of (sSub (ev S o).e (ev S i).e (ev S e).e)
  | .sub2 o i o2 i2 e => .of (sSub2 (ev S o).e (ev S i).e (ev S o2).e (ev S i2).e (ev S e).e)
  | .aug i op e => .of (sAug i (ev S e).e op.ev)
  | .augs o i op e => .of (sAugS (ev S o).e (ev S i).e (ev S e).e op.ev)
  | .attr f o e => .of (sAttr (S.fc f) (S.fnm f) (ev S o).e (ev S e).e)
  | .expr e => .of (sDrop (ev S e).e)
  | .ret e => .of (sRet (ev S e).e)
  | .retN => .of sRetN
  | .retg is e => .of (sRetG is (ev S e).e)
  | .ife c a b => .of (sIf (ev S c).t (evS S a).b (evS S b).b)
  | .for it p body => .of (sFor (ev S it).i p (evS S body).b)
  | .while c body => .of (sWhile (ev S c).t (evS S body).b)
  | .pass => .of sNext
  | .brk => .of sBreak
  | .cont => .of sCont
  | .doc => .of sNext
  | .never => ⟨sNever, sNever, fun _ => sNever⟩
structure ChkS where
  s : SC → Stmt → Bool
  b : SC → List Stmt → Bool
  m : SC → List MatchCase → Bool
def ChkS.of (s : SC → Stmt → Bool) : ChkS := ⟨s, no1, no1⟩
def opA : Operator → AOp → Bool
  | .Add, .add => true | .Sub, .sub => true | .Mult, .mul => true | _, _ => false
def isLc : E → Bool
  | .lc .. => true
  | .frz (.lc ..) => true
  | _ => false
/-- the stores of a, b = c, d are exchanged -/
def parB (ts vs : List Expr) : Bool := !(vs.all (foldedForSure 8)) && !(vs.all (constantsAlone 8)) && vs.all notStar &&
  (match ts with
  | [.Name _ p, .Name _ q] => decide (p.line = q.line)
  | [.Name _ p, .Name _ q, .Name _ r] => decide (p.line = q.line) && decide (p.line = r.line)
  | _ => false)
def chkLc (G : Cfg) (sc : SC) (y : Str) (py : Pos) (x : Expr) : Bool := match x with
  | .ListComp _ _ scope pos => kindIs sc y .local && (py.line == pos.line) && !(scope.names.any fun (n, k) => n == y && (k == .local || k == .cell))
  | _ => false
def chkLc2 (sc : SC) (y : Str) (x : Expr) : Bool := match x with
  | .ListComp _ _ _ _ => kindIs sc y .cell
  | _ => false
def cellIn (sc : SC) (ts : List Expr) : Bool := ts.any fun x => match x with
  | .Name y _ => kindIs sc y .cell
  | _ => false
def chkS (G : Cfg) : St → ChkS
  | .nil => ⟨no1, fun _ xs => xs.isEmpty, fun _ xs => xs.isEmpty⟩
  | .cons s ss => ⟨no1, fun sc xs => match xs with
    | x :: xs => (chkS G s).s sc x && (chkS G ss).b sc xs
    | _ => false, no1⟩
  | .mat e cs => .of fun sc x => match x with
    | .Match y zs _ => (chk G e).e sc y && (chkS G cs).m sc zs
    | _ => false
  | .cas k b rest => ⟨no1, no1, fun sc xs => match xs with
    | ⟨.MatchValue (.Constant (.str j) _ _) _, none, body⟩ :: xs => decide (k = j) && (chkS G b).b sc body && (chkS G rest).m sc xs
    | _ => false⟩
  | .set i e => .of fun sc x => match x with
    | .Assign [.Name y p] v _ => nameB G i y && locB sc y && (chk G e).e sc v && (noComp v || (isLc e && (chkLc G sc y p v || chkLc2 sc y v)))
    | _ => false
  | .unp p e => .of fun sc x => match x with
    | .Assign [.Tuple ts k q] v _ => chkP G p sc (.Tuple ts k q) && (chk G e).e sc v && noComp v && (match v with
      | .Tuple .. => cellIn sc ts
      | _ => true)
    | _ => false
  | .par2 i j a b => .of fun sc x => match x with
    | .Assign [.Tuple [.Name y p, .Name z q] k r] (.Tuple [u, v] k2 r2) _ => nameB G i y && nameB G j z && decide (i ≠ j) && kindIs sc y .local && kindIs sc z .local && notStar u && notStar v && (chk G a).e sc u && (chk G b).e sc v && parB [.Name y p, .Name z q] [u, v]
    | _ => false
  | .par3 i j l a b c => .of fun sc x => match x with
    | .Assign [.Tuple [.Name y p, .Name z q, .Name w s] k r] (.Tuple [u, v, t] k2 r2) _ => nameB G i y && nameB G j z && nameB G l w && decide (i ≠ j) && decide (i ≠ l) && decide (j ≠ l) && kindIs sc y .local && kindIs sc z .local && kindIs sc w .local &&
      notStar u && notStar v && notStar t && (chk G a).e sc u && (chk G b).e sc v && (chk G c).e sc t && parB [.Name y p, .Name z q, .Name w s] [u, v, t]
    | _ => false
  | .sub o i e => .of fun sc x => match x with
    | .Assign [.Subscript y z _] v _ => plainIxB z && (chk G o).e sc y && (chk G i).e sc z && (chk G e).e sc v
    | _ => false
  | .sub2 o i o2 i2 e => .of fun sc x => match x with
    | .Assign [.Tuple [.Subscript y z _, .Subscript y2 z2 _] _ _] v _ => plainIxB z && plainIxB z2 && (chk G o).e sc y && (chk G i).e sc z && (chk G o2).e sc y2 && (chk G i2).e sc z2 && (chk G e).e sc v && noComp v
    | _ => false
  | .aug i op e => .of fun sc x => match x with
    | .AugAssign (.Name y _) p v _ => nameB G i y && locB sc y && opA p op && (chk G e).e sc v
    | _ => false
  | .augs o i op e => .of fun sc x => match x with
    | .AugAssign (.Subscript y z _) p v _ => plainIxB z && opA p op && (chk G o).e sc y && (chk G i).e sc z && (chk G e).e sc v
    | _ => false
  | .attr f o e => .of fun sc x => match x with
    | .Assign [.Attribute y n _] v _ => atB G.fl f (eqS n) && (chk G o).e sc y && (chk G e).e sc v
    | _ => false
  | .expr e => .of fun sc x => match x with
    | .Expr v _ => noComp v && (chk G e).e sc v
    | _ => false
  | .ret e => .of fun sc x => match x with
    | .Return (some v) _ => (chk G e).e sc v
    | _ => false
  | .retg _ e => .of fun sc x => match x with
    | .Return (some v) _ => (chk G e).e sc v
    | _ => false
  | .retN => .of fun _ x => match x with
    | .Return none _ => true
    | _ => false
  | .ife c a b => .of fun sc x => match x with
    | .If t u v _ => (chk G c).t sc t && (chkS G a).b sc u && (chkS G b).b sc v
    | _ => false
  | .for it p body => .of fun sc x => match x with
    | .For tg iter b [] _ => chkP G p sc tg && (chk G it).i sc tg iter && noSet iter && (chkS G body).b sc b
    | _ => false
  | .while c body => .of fun sc x => match x with
    | .While t b [] _ => (chk G c).t sc t && (chkS G body).b sc b
    | _ => false
  | .pass => .of fun _ x => match x with
    | .Pass _ => true
    | _ => false
  | .brk => .of fun _ x => match x with
    | .Break _ => true
    | _ => false
  | .cont => .of fun _ x => match x with
    | .Continue _ => true
    | _ => false
  | .doc => .of fun _ x => match x with
    | .Expr (.Constant (.str _) _ _) _ => true
    | _ => false
  | .never => ⟨fun _ _ => true, fun _ _ => true, no1⟩
/-! ### soundness -/
section
variable {G : Cfg} {S : Sg} {sc : SC} {X : Cx} {W : WX}
theorem opA_of {p : Operator} {o : AOp} (h : opA p o = true) : p = o.ast := by
  cases p <;> cases o <;> first | rfl | cases h
theorem aop_snd (o : AOp) : ∃ r, PIp X o.ast r ∧ IpOk X.K r o.ev := by
  cases o with
  | add => exact ⟨_, ip_add, ipok_add⟩
  | sub => exact ⟨_, ip_sub, ipok_sub⟩
  | mul => exact ⟨_, ip_mulA, ipok_mul⟩
theorem ds_retg {is : List Nat} {e : Expr} {te : DTE} {pos : Pos} (he : DE X W e te) : DS X W (.Return (some e) pos) (sRetG is te) :=
  (ps_ret he).imp fun E σ H ⟨σd, M, D, er, mr, q, r⟩ => lift_bind er mr q (r.ex.at er mr) fun v H1 M1 d e1 mr1 rd h => by
    have f := forget_ext (σ := σd) mr1 is
    exact r.rt v H1 _ d (e1.trans f.1) f.2 (rd.ext f.1 mr1) h
theorem ds_never {st : Stmt} : DS X W st sNever := ps_never.imp fun E σ H ⟨_, _, _, _, _, q, _⟩ => q.elim
theorem ds_par3 {i j l : Nat} {x y z : Str} {a b c : Expr} {px py pz pt pos : Pos} {kt k2 pt2} {t : DTA} (hc : X.calm = true) (hN : X.N.Nodup) (hi : X.N[i]? = some x) (hj : X.N[j]? = some y) (hl : X.N[l]? = some z) (hij : i ≠ j) (hil : i ≠ l) (hjl : j ≠ l)
    (hx : X.env.scope.names.lookup x = some .local) (hy : X.env.scope.names.lookup y = some .local) (hz : X.env.scope.names.lookup z = some .local) (ha : DA X W [a, b, c] t)
    (hw : swappedStores [.Tuple [.Name x px, .Name y py, .Name z pz] kt pt] (.Tuple [a, b, c] k2 pt2) X.env = pure (some [x, y, z])) :
    DS X W (.Assign [.Tuple [.Name x px, .Name y py, .Name z pz] kt pt] (.Tuple [a, b, c] k2 pt2) pos) (sPar3 i j l t) :=
  (ps_par3 hc hN hi hj hl hij hil hjl hx hy hz ha hw).imp fun E σ H ⟨σd, M, D, er, mr, q, r⟩ => ⟨σd, M, _, D.ex σd, er, mr, q, fun vs H1 M1 xs e1 mr1 rx ⟨u, v, w, hv, h⟩ => by
    subst hv
    obtain ⟨u', ws, e, ru, rr⟩ := rx.inv
    obtain ⟨v', w', e2, rv, rw'⟩ := rr.inv2
    subst e2
    exact ⟨u', v', w', e, r.nx _ H1 _ M1 e1 mr1 ((((er.ext e1 mr).set ru).set rv).set rw') h⟩, r.ex.at er mr⟩
theorem nostar_any {vs : List Expr} (h : vs.all notStar = true) : (vs.any fun | .Starred .. => true | _ => false) = false := by
  induction vs with
  | nil => rfl
  | cons v vs ih =>
    simp only [List.all_cons, Bool.and_eq_true] at h
    rw [List.any_cons, ih h.2, Bool.or_false]
    cases v <;> first | rfl | cases h.1
theorem dups2 {x y : Str} (h : x ≠ y) : ([x, y] : List Str).eraseDups = [x, y] := by
  have h' : (y == x) = false := by simpa using h.symm
  simp [List.eraseDups_cons, h, h.symm]
theorem dups3 {x y z : Str} (h : x ≠ y) (h2 : x ≠ z) (h3 : y ≠ z) : ([x, y, z] : List Str).eraseDups = [x, y, z] := by
  simp [List.eraseDups_cons, h, h.symm, h2, h2.symm, h3, h3.symm]
theorem swap2' {x y : Str} {px py pt : Pos} {kt k2 : Nat} {pt2 : Pos} {a b : Expr} {env : Env} (hk : env.scope.kind = .function) (hx : env.scope.names.lookup x = some .local) (hy : env.scope.names.lookup y = some .local) (hxy : x ≠ y) (h : parB [.Name x px, .Name y py] [a, b] = true) :
    swappedStores [.Tuple [.Name x px, .Name y py] kt pt] (.Tuple [a, b] k2 pt2) env = pure (some [x, y]) := by
  unfold parB at h
  simp only [Bool.and_eq_true, Bool.not_eq_true'] at h
  obtain ⟨⟨⟨h1, h2⟩, h3⟩, h4⟩ := h
  have h4' := of_decide_eq_true h4
  have kx : env.kindOf x = some .local := hx
  have ky : env.kindOf y = some .local := hy
  have hb : env.blockKind = .function := by unfold Env.blockKind; rw [hk]; rfl
  unfold swappedStores
  have hns := nostar_any h3
  simp only [List.length_cons, List.length_nil, hb, hns, kx, ky, Expr.pos, List.head?_cons, Option.map_some, Option.getD_some, List.filterMap_cons, List.filterMap_nil, h1, h2, h4', beq_self_eq_true, Bool.and_self, ↓reduceIte, dups2 hxy]
  rw [if_neg (show ¬ (_ = true) from by decide)]
  refine (if_neg (fun e => Bool.noConfusion (hns.symm.trans e))).trans ?_
  rfl
theorem swap3' {x y z : Str} {px py pz pt : Pos} {kt k2 : Nat} {pt2 : Pos} {a b c : Expr} {env : Env} (hk : env.scope.kind = .function) (hx : env.scope.names.lookup x = some .local) (hy : env.scope.names.lookup y = some .local) (hz : env.scope.names.lookup z = some .local) (hxy : x ≠ y) (hxz : x ≠ z) (hyz : y ≠ z) (h : parB [.Name x px, .Name y py, .Name z pz] [a, b, c] = true) :
    swappedStores [.Tuple [.Name x px, .Name y py, .Name z pz] kt pt] (.Tuple [a, b, c] k2 pt2) env = pure (some [x, y, z]) := by
  unfold parB at h
  simp only [Bool.and_eq_true, Bool.not_eq_true'] at h
  obtain ⟨⟨⟨h1, h2⟩, h3⟩, h4⟩ := h
  have h4' := of_decide_eq_true h4.1
  have h5' := of_decide_eq_true h4.2
  have kx : env.kindOf x = some .local := hx
  have ky : env.kindOf y = some .local := hy
  have kz : env.kindOf z = some .local := hz
  have hb : env.blockKind = .function := by unfold Env.blockKind; rw [hk]; rfl
  unfold swappedStores
  have hns := nostar_any h3
  simp only [List.length_cons, List.length_nil, hb, hns, kx, ky, kz, Expr.pos, List.head?_cons, Option.map_some, Option.getD_some, List.filterMap_cons, List.filterMap_nil, h1, h2, ← h4', ← h5', beq_self_eq_true, Bool.and_self, ↓reduceIte, dups3 hxy hxz hyz]
  rw [if_neg (show ¬ (_ = true) from by decide)]
  refine (if_neg (fun e => Bool.noConfusion (hns.symm.trans e))).trans ?_
  rfl
theorem noTup {tg v : Expr} {env : Env} (h : (match v with | .Tuple .. => false | _ => true) = true) : swappedStores [tg] v env = pure none := by
  cases v <;> first | (cases h; done) | (cases tg <;> rfl)

theorem sw_cell {elt : Expr} {gs : List Comprehension} {scope : Scope} {pos py : Pos} {y : Str} {l : Nat} {env : Env} (hy : env.scope.names.lookup y = some .cell) : swapsWith (.ListComp elt gs scope pos) (some (.Name y py)) l env = pure false := by
  have ky : env.kindOf y = some .cell := hy
  have e : (some NameKind.cell == some NameKind.local) = false := by decide
  unfold swapsWith
  simp only [ky, e, Bool.and_false, Bool.false_and]
theorem g_kind (g : Good G S sc X W) {x : Str} (h : kindIs sc x .local = true) : X.env.scope.names.lookup x = some .local := g.at h (by intro z; cases z)
theorem fm_short {α β : Type} {f : α → Option β} : ∀ {xs : List α} {x : α}, x ∈ xs → f x = none → (xs.filterMap f).length < xs.length
  | y :: ys, x, hx, e => by
    have le := List.length_filterMap_le f ys
    rcases List.mem_cons.mp hx with rfl | h
    · rw [List.filterMap_cons, e]
      simp only [List.length_cons]
      omega
    · have ih := fm_short h e
      rw [List.filterMap_cons]
      cases f y with
      | none => simp only [List.length_cons]; omega
      | some b => simp only [List.length_cons]; omega
theorem swap_cell (g : Good G S sc X W) {ts : List Expr} {k : Nat} {q : Pos} {v : Expr} (h : cellIn sc ts = true) : swappedStores [.Tuple ts k q] v X.env = pure none := by
  obtain ⟨x, hx, hc⟩ := List.any_eq_true.mp h
  cases x <;> first | (cases hc; done) | skip
  rename_i y p
  have ky : X.env.kindOf y = some .cell := g.at hc (by intro z; cases z)
  cases v <;> first | rfl | skip
  rename_i vs k2 p2
  unfold swappedStores
  dsimp only
  split
  · rfl
  · split
    · rfl
    · refine if_pos ?_
      rw [Bool.or_eq_true]
      left
      refine bne_iff_ne.mpr (Nat.ne_of_lt (fm_short hx ?_))
      show (if (X.env.kindOf y == some .local && _) = true then some y else none) = none
      rw [ky]
      rfl
theorem ne_names (g : Good G S sc X W) {i j : Nat} {x y : Str} (hi : X.N[i]? = some x) (hj : X.N[j]? = some y) (h : i ≠ j) : x ≠ y := fun e => by
  subst e
  exact h (nodup_ix g.ndX hi hj)
/-- name = [..] on one line -/
theorem setLc_snd (g : Good G S sc X W) {i : Nat} {y : Str} {py spos : Pos} {it : E} {p : Pat} {c elt : E} {own : List Nat} {v : Expr} (hy : X.N[i]? = some y) (h : (chk G (.lc it p c elt own)).e sc v = true) (hl : chkLc G sc y py v = true) (frz : Bool) :
    DS X W (.Assign [.Name y py] v spos) (sSet i (if frz then dFrz (ev S (.lc it p c elt own)).e else (ev S (.lc it p c elt own)).e)) := by
  dsimp only [chk, Chk.of, Chk.tru] at h
  split at h
  · rename_i el tg iter ifs scope pos
    simp only [Bool.and_eq_true] at h
    obtain ⟨⟨⟨⟨⟨⟨⟨h1, h2⟩, h3⟩, h4⟩, h5⟩, h6⟩, h7⟩, h8⟩ := h
    dsimp only [chkLc] at hl
    simp only [Bool.and_eq_true, Bool.not_eq_true'] at hl
    obtain ⟨⟨hl1, hl2⟩, hl3⟩ := hl
    have ok := g.blkOk h2
    have gb := fun s H C cl fp => g.blk s H scope C cl fp ok.kind
    have hown := of_decide_eq_true h3
    have e := ds_setLc (W := W) (c := if isNil c then none else some (ev S c).t) (te := (ev S elt).e) (pos := pos) (spos := spos) (py := py) (it := (ev S it).i) g.calm g.ndX hy (g_kind g hl1) (sw_true g.fk (g_kind g hl1) hl2 hl3) ((snd it).i g h1) ok (p := p) (fun i hi => by
        rw [hown]
        exact of_decide_eq_true (List.all_eq_true.mp h4 i hi)) (fun s H C cl fp => (chkP_of (gb s H C cl fp) h6).1) (ifs := ifs) (fun s H C cl fp => by
        split at h7
        · rw [if_pos h7]; exact pts_nil
        · simp only [Bool.and_eq_true, Bool.not_eq_true'] at h7
          rw [if_neg (by rw [h7.1]; simp)]
          exact pts_one ((snd c).t (gb s H C cl fp) h7.2)
        · cases h7) (fun s H C cl fp => (snd elt).e (gb s H C cl fp) h8) (folded_of h5 _) frz
    rw [hown] at e
    exact e
  · cases h
/-- the cases of a match -/
abbrev DMs (X : Cx) (W : WX) (cs : List MatchCase) (m : D → DTS) : Prop := PM X cs (fun v E σ H => ∃ (d : D) (σd : DSt) (M : DM) (D : DEnds), Rep X.K H M d v ∧ EnvR X.K H M σd σ ∧ MR X.K H M ∧ m d D σd M ∧ EndsR X.K W H M D E)
structure SndS (G : Cfg) (S : Sg) (u : St) : Prop where
  s : ∀ {sc X W x}, Good G S sc X W → (chkS G u).s sc x = true → DS X W x (evS S u).s
  b : ∀ {sc X W xs}, Good G S sc X W → (chkS G u).b sc xs = true → DSs X W xs (evS S u).b
  m : ∀ {sc X W xs}, Good G S sc X W → (chkS G u).m sc xs = true → DMs X W xs (evS S u).m
theorem SndS.of {u : St} {f : SC → Stmt → Bool} (hc : chkS G u = ChkS.of f) (h : ∀ {sc X W x}, Good G S sc X W → f sc x = true → DS X W x (evS S u).s) : SndS G S u :=
  ⟨fun g q => h g (by rw [hc] at q; exact q), fun g q => (by rw [hc] at q; cases q), fun g q => (by rw [hc] at q; cases q)⟩
end
theorem sndS {G : Cfg} {S : Sg} (u : St) : SndS G S u := by
  induction u with
  | nil =>
    refine ⟨fun g h => (by cases h), fun g h => ?_, fun g h => ?_⟩
    · rename_i xs
      cases xs with
      | nil => exact ss_nil
      | cons _ _ => cases h
    · rename_i xs
      cases xs with
      | nil => exact pm_nil.imp fun v E σ H ⟨d, σd, M, D, rd, er, mr, q, r⟩ => r.nx σ H σd M .refl mr er q
      | cons _ _ => cases h
  | mat e cs ih =>
    refine .of rfl fun {sc X W x} g h => ?_
    split at h
    · rw [Bool.and_eq_true] at h
      exact (ps_match ((snd e).e g h.1) (ih.m g h.2)).imp fun E σ H ⟨σd, M, D, er, mr, q, r⟩ => lift_bind er mr q (r.ex.at er mr) fun v H1 M1 d e1 mr1 rd q1 => ⟨d, σd, M1, D, rd, er.ext e1 mr, mr1, q1, r.ext e1⟩
    · cases h
  | cas k b rest ihb ihr =>
    refine ⟨fun g h => (by cases h), fun g h => (by cases h), fun {sc X W xs} g h => ?_⟩
    match xs, h with
    | ⟨.MatchValue (.Constant (.str j) _ _) _, none, body⟩ :: xs, h =>
      have h' : (decide (k = j) && (chkS G b).b sc body && (chkS G rest).m sc xs) = true := h
      simp only [Bool.and_eq_true] at h'
      cases of_decide_eq_true h'.1.1
      exact (pm_cons (ihb.b g h'.1.2) (ihr.m g h'.2)).imp fun v E σ H ⟨d, σd, M, D, rd, er, mr, ⟨y, ed, q⟩, r⟩ => by
        subst ed
        cases rd
        refine ⟨y, rfl, ?_⟩
        by_cases hy : y = k
        · rw [if_pos hy] at q ⊢
          exact ⟨σd, M, D, er, mr, q, r⟩
        · rw [if_neg hy] at q ⊢
          exact ⟨.str y, σd, M, D, rfl, er, mr, q, r⟩
  | cons s ss ihs ihb =>
    refine ⟨fun g h => (by cases h), fun {sc X W xs} g h => ?_, fun g h => (by cases h)⟩
    cases xs with
    | nil => cases h
    | cons x xs =>
      have h' : ((chkS G s).s sc x && (chkS G ss).b sc xs) = true := h
      rw [Bool.and_eq_true] at h'
      exact ss_cons (t := (evS S s).s) (u := (evS S ss).b) (ihs.s g h'.1) (ihb.b g h'.2)
  | set i e =>
    refine .of rfl fun {sc X W x} g h => ?_
    split at h
    · rename_i y p v q
      simp only [Bool.and_eq_true, Bool.or_eq_true] at h
      obtain ⟨⟨⟨h1, h2⟩, h3⟩, h4⟩ := h
      obtain ⟨l, f⟩ := g.loc h2
      rcases h4 with h4 | ⟨h4, h5 | h5⟩
      · exact ds_set g.ndX (g.nm h1) l f ((snd e).e g h3) (swaps_no h4)
      · unfold isLc at h4
        split at h4
        · exact setLc_snd g (g.nm h1) h3 h5 false
        · exact setLc_snd g (g.nm h1) h3 h5 true
        · cases h4
      · unfold chkLc2 at h5
        split at h5
        · exact ds_set g.ndX (g.nm h1) l f ((snd e).e g h3) (sw_cell (g.at h5 (by intro z; cases z)))
        · cases h5
    · cases h
  | unp p e =>
    refine .of rfl fun {sc X W x} g h => ?_
    split at h
    · rename_i ts k q v r
      simp only [Bool.and_eq_true] at h
      obtain ⟨⟨⟨h1, h2⟩, h3⟩, h4⟩ := h
      exact ds_unp ((snd e).e g h2) (chkP_of g h1).1 rfl (show swapsWith v (some (.Tuple ts k q)) r.line X.env = pure false from swaps_no h3) (by
        cases v <;> first | exact noTup rfl | exact swap_cell g h4)
    · cases h
  | par2 i j a b =>
    refine .of rfl fun {sc X W x} g h => ?_
    split at h
    · rename_i y p z q k r u v k2 r2 ps
      simp only [Bool.and_eq_true] at h
      obtain ⟨⟨⟨⟨⟨⟨⟨⟨⟨h1, h2⟩, h3⟩, h4⟩, h5⟩, h6⟩, h7⟩, h8⟩, h9⟩, h10⟩ := h
      have hij := of_decide_eq_true h3
      exact ds_par2 g.calm g.ndX (g.nm h1) (g.nm h2) hij (g_kind g h4) (g_kind g h5) (da_cons ((snd a).e g h8) (da_cons ((snd b).e g h9) da_nil (starEach_ns h7)) (starEach_ns h6)) (swap2' g.fk (g_kind g h4) (g_kind g h5) (ne_names g (g.nm h1) (g.nm h2) hij) h10)
    · cases h
  | par3 i j l a b c =>
    refine .of rfl fun {sc X W x} g h => ?_
    split at h
    · rename_i y p z q w s k r u v t k2 r2 ps
      simp only [Bool.and_eq_true] at h
      obtain ⟨⟨⟨⟨⟨⟨⟨⟨⟨⟨⟨⟨⟨⟨⟨h1, h2⟩, h3⟩, h4⟩, h5⟩, h6⟩, h7⟩, h8⟩, h9⟩, h10⟩, h11⟩, h12⟩, h13⟩, h14⟩, h15⟩, h16⟩ := h
      have hij := of_decide_eq_true h4
      have hil := of_decide_eq_true h5
      have hjl := of_decide_eq_true h6
      exact ds_par3 g.calm g.ndX (g.nm h1) (g.nm h2) (g.nm h3) hij hil hjl (g_kind g h7) (g_kind g h8) (g_kind g h9) (da_cons ((snd a).e g h13) (da_cons ((snd b).e g h14) (da_cons ((snd c).e g h15) da_nil (starEach_ns h12)) (starEach_ns h11)) (starEach_ns h10))
        (swap3' g.fk (g_kind g h7) (g_kind g h8) (g_kind g h9) (ne_names g (g.nm h1) (g.nm h2) hij) (ne_names g (g.nm h1) (g.nm h3) hil) (ne_names g (g.nm h2) (g.nm h3) hjl) h16)
    · cases h
  | sub o i e =>
    refine .of rfl fun {sc X W x} g h => ?_
    split at h
    · simp only [Bool.and_eq_true] at h
      exact ds_sub h.1.1.1 ((snd o).e g h.1.1.2) ((snd i).e g h.1.2) ((snd e).e g h.2)
    · cases h
  | sub2 o i o2 i2 e =>
    refine .of rfl fun {sc X W x} g h => ?_
    split at h
    · simp only [Bool.and_eq_true] at h
      obtain ⟨⟨⟨⟨⟨⟨⟨h1, h2⟩, h3⟩, h4⟩, h5⟩, h6⟩, h7⟩, h8⟩ := h
      exact ds_sub2 h1 h2 g.calm ((snd o).e g h3) ((snd i).e g h4) ((snd o2).e g h5) ((snd i2).e g h6) ((snd e).e g h7) h8
    · cases h
  | aug i op e =>
    refine .of rfl fun {sc X W x} g h => ?_
    split at h
    · simp only [Bool.and_eq_true] at h
      obtain ⟨⟨⟨h1, h2⟩, h3⟩, h4⟩ := h
      obtain ⟨l, f⟩ := g.loc h2
      cases opA_of h3
      obtain ⟨r, q1, q2⟩ := aop_snd (X := X) op
      exact ds_aug g.ndX (g.nm h1) l f ((snd e).e g h4) q1 q2
    · cases h
  | augs o i op e =>
    refine .of rfl fun {sc X W x} g h => ?_
    split at h
    · simp only [Bool.and_eq_true] at h
      obtain ⟨⟨⟨⟨h1, h2⟩, h3⟩, h4⟩, h5⟩ := h
      cases opA_of h2
      obtain ⟨r, q1, q2⟩ := aop_snd (X := X) op
      exact ds_augS h1 ((snd o).e g h3) ((snd i).e g h4) ((snd e).e g h5) q1 q2
    · cases h
  | attr f o e =>
    refine .of rfl fun {sc X W x} g h => ?_
    split at h
    · rename_i y n p v q
      simp only [Bool.and_eq_true] at h
      obtain ⟨n', e1, e2⟩ := atB_of h.1.1
      cases eqS_of e2
      obtain ⟨fn, c, nn⟩ := g.tab.fl f _ e1
      have goal : DS X W (.Assign [.Attribute y n p] v q) (sAttr (S.fc f) (S.fnm f) (ev S o).e (ev S e).e) := by
        rw [fn]
        exact ds_attr c nn ((snd o).e g h.1.2) ((snd e).e g h.2)
      exact goal
    · cases h
  | expr e =>
    refine .of rfl fun {sc X W x} g h => ?_
    split at h
    · rw [Bool.and_eq_true] at h
      exact ds_expr ((snd e).e g h.2) h.1
    · cases h
  | ret e =>
    refine .of rfl fun {sc X W x} g h => ?_
    split at h
    · exact ds_ret ((snd e).e g h)
    · cases h
  | retg is e =>
    refine .of rfl fun {sc X W x} g h => ?_
    split at h
    · exact ds_retg ((snd e).e g h)
    · cases h
  | retN =>
    refine .of rfl fun {sc X W x} g h => ?_
    split at h
    · exact ds_retN
    · cases h
  | ife c a b iha ihb =>
    refine .of rfl fun {sc X W x} g h => ?_
    split at h
    · simp only [Bool.and_eq_true] at h
      exact ds_if ((snd c).t g h.1.1) (iha.b g h.1.2) (ihb.b g h.2)
    · cases h
  | «for» it p body ihb =>
    refine .of rfl fun {sc X W x} g h => ?_
    split at h
    · simp only [Bool.and_eq_true] at h
      exact ds_for g.po g.calm ((snd it).i g h.1.1.2) (chkP_of g h.1.1.1).1 (ihb.b g h.2) (folded_of h.1.2 _)
    · cases h
  | «while» c body ihb =>
    refine .of rfl fun {sc X W x} g h => ?_
    split at h
    · rw [Bool.and_eq_true] at h
      exact ds_while g.po ((snd c).t g h.1) (ihb.b g h.2)
    · cases h
  | pass =>
    refine .of rfl fun {sc X W x} g h => ?_
    split at h
    · exact ds_pass
    · cases h
  | brk =>
    refine .of rfl fun {sc X W x} g h => ?_
    split at h
    · exact ds_break
    · cases h
  | cont =>
    refine .of rfl fun {sc X W x} g h => ?_
    split at h
    · exact ds_cont
    · cases h
  | doc =>
    refine .of rfl fun {sc X W x} g h => ?_
    split at h
    · exact ds_doc
    · cases h
  | never => exact ⟨fun g h => ds_never, fun g h => pss_never.imp fun E σ H ⟨_, _, _, _, _, q, _⟩ => q.elim, fun g h => (by cases h)⟩
/-! ### a def keeps its promise -/
def startD (N : List Str) (ds : List D) : DSt := ds.map some ++ List.replicate (N.length - ds.length) none
theorem start_rel {K : PySem.W.Frag} {H : Hp} {M : DM} {N : List Str} {ds : List D} {vs : List V} (r : Reps K H M ds vs) : EnvR K H M (startD N ds) (L2.start N vs) := by
  have hl := r.len
  refine ⟨by unfold startD L2.start; simp [hl], fun i d h => ?_⟩
  unfold startD at h
  unfold L2.start
  by_cases hi : i < ds.length
  · rw [List.getElem?_append_left (by simpa using hi), List.getElem?_map] at h
    rw [List.getElem?_append_left (by simpa [← hl] using hi), List.getElem?_map]
    cases e : ds[i]? with
    | none => rw [e] at h; cases h
    | some d' =>
      rw [e] at h; cases h
      obtain ⟨v, hv, rv⟩ := r.get e
      exact ⟨v, by rw [hv]; rfl, rv⟩
  · rw [List.getElem?_append_right (by simpa using Nat.le_of_not_lt hi)] at h
    rw [List.getElem?_replicate] at h
    split at h <;> cases h
/-- the look at a def: its slots, parameters, body -/
def fnB (N ps : List Str) (st : Stmt) : Bool :=
  (match (defScope st).kind with | .function => true | _ => false) && !(defScope st).isCoroutine && !(defScope st).isGenerator && decide N.Nodup && decide (N.take ps.length = ps) &&
    ps.all (fun x => locB (defScope st).names x) && (defScope st).names.all (fun y => !decide (y.2 = .free))
theorem fnB_of {N ps : List Str} {st : Stmt} (h : fnB N ps st = true) : FnScope N ps (defScope st) := by
  unfold fnB at h
  simp only [Bool.and_eq_true, Bool.not_eq_true', decide_eq_true_eq] at h
  obtain ⟨⟨⟨⟨⟨⟨h1, h2⟩, h3⟩, h4⟩, h5⟩, h6⟩, h7⟩ := h
  refine ⟨?_, h2, h3, h4, h5, fun x hx => ?_, fun y hy e => ?_⟩
  · split at h1
    · assumption
    · cases h1
  · have := List.all_eq_true.mp h6 x hx
    unfold locB at this
    rw [Bool.or_eq_true] at this
    exact this.elim (fun z => .inl (kindIs_of z)) fun z => .inr (kindIs_of z)
  · have := List.all_eq_true.mp h7 y hy
    simp [e] at this
def fnChk (G : Cfg) (ps : List Str) (u : St) (st : Stmt) : Bool := fnB G.N ps st && (chkS G u).b (defScope st).names (defBody st)
/-- a def's body, entered -/
theorem fn_ofG {CX : CXT} {P : Program} {w : World} {K : PySem.W.Frag} {mg : Str → Option Value} {base : Heap} {k : Nat} {f : Addr} {name qual : Str} {params : Arguments} {body : List Stmt} {scope : Scope} {dV kV doc pm cdv ct oc : Value} {an od : Option Addr} {osl : Array (Option Value)} {N ps : List Str} {sp : Sp}
    (lk : K.lookup f = some ⟨oc, od, .func (PySem.W.fnOf name qual params body scope dV kV doc pm an cdv ct), osl⟩) (hcd : PySem.W.codeIn K cdv qual = true) (S : FnScope N ps scope) (len : ∀ xs H Q E, sp xs H Q E → xs.length = ps.length)
    (hbody : ∀ (A : Around) (outer : List Env) (s : Shared) (H : Hp) (vs : List V) (Q : VK) (E : XK), Room k (A.deeper (envOfC qual scope s.heap.objs.size f cdv)) → A.guards = some [] → sp vs H Q E →
      ∃ t, PSs (cxOf CX P w K mg base N qual scope f cdv A outer s H E) body t ∧ t { nx := fun _ H' => Q .non H', rt := Q } (L2.start N vs) H) :
    FnG P w K mg base CX (k + 1) f (PySem.W.fnOf name qual params body scope dV kV doc pm an cdv ct) ps sp := by
  refine ⟨len, fun A outer s H args us vs Q E hr hgd e0 hb r hsp => ?_⟩
  have kx : K.In s.heap := e0.mod.kin.keeps fun b o e => (e0.bs b o e).1
  have nl : s.heap.NoLimit := e0.mod.nolimit.keeps fun b o e => (e0.bs b o e).1
  have kinds : ∀ y ∈ ps.zip us, scope.names.lookup y.1 = some .local ∨ (scope.names.lookup y.1 = some .cell ∧ ((cellsFrom (s.heap.objs.size + 1) scope.names []).lookup y.1).isSome = true) := fun ⟨n, v⟩ hy =>
    (S.par n (List.of_mem_zip hy).1).elim (fun q => .inl q) fun q => .inr ⟨q, PySem.W.cellsFrom_some _ _ _ (.inl q)⟩
  refine codeAny_call_function hr.depth (kx _ _ lk) rfl S.co S.gen rfl (PySem.W.codeRec_of kx hcd) (hb _ _ _ _ (wpAny_newFunctionEnv_cells S.kind kinds fun env he s1 x => ?_))
  subst he
  refine ⟨nl.keeps x.toInCall.keep, codeAny_func ?_⟩
  obtain ⟨t, ht, hq⟩ := hbody A outer s H vs Q E (hr.deeper _) hgd hsp
  have I : Inv (cxOf CX P w K mg base N qual scope f cdv A outer s H E) [] (L2.start N vs) H s1 := inv_start S hr.hd e0 (len _ _ _ _ hsp) r x
  have out : ∀ {σ' : L2.St} {H' : Hp} {v : V} {u : Value} {s' : Shared}, Inv (cxOf CX P w K mg base N qual scope f cdv A outer s H E) [] σ' H' s' → RelV v u → Q v H' → CE outer P w H s Q u s' := fun {σ' H' v u s'} J rv q => ⟨v, H', J.os, J.bare, J.base, J.hok, rv, q⟩
  refine wpAny_mono (ht.run [] s1 (L2.start N vs) H _ I hq) (fun fl s' hs => ?_) fun e s' hs => hs
  match fl, hs with
  | .ret u, hs =>
    obtain ⟨v, σ', H', J, rv, q⟩ := hs
    exact out J rv q
  | .next, hs =>
    obtain ⟨σ', H', J, q⟩ := hs
    exact out (v := V.non) (u := Value.none) J rfl q
  | .brk, ⟨_, _, _, q⟩ => exact q.elim
  | .cont, ⟨_, _, _, q⟩ => exact q.elim
/-- THE RULE: a def whose text is u keeps the promise sp -/
theorem fn_ok {P : Program} {w : World} {K : PySem.W.Frag} {mg : Str → Option Value} {base : Heap} {x qual : Str} {st : Stmt} {f : Addr} {fd : FuncData} {G : Cfg} {S : Sg} {ps : List Str} {u : St} {k : Nat} {sp : DSp} (F : Fun K x qual st f fd) (hc : fnChk G ps u st = true)
    (len : ∀ ds M R Ex, sp ds M R Ex → ds.length = ps.length) (tab : ∀ A, Room k A → Tab G S P w K mg base A)
    (h : ∀ ds M R Ex, sp ds M R Ex → (evS S u).b { nx := fun _ M' => R .non M', rt := R, ex := fun _ => Ex } (startD G.N ds) M) : FnG P w K mg base (L2.CX P w) (k + 1) f fd ps (liftSp K sp) := by
  unfold fnChk at hc
  rw [Bool.and_eq_true] at hc
  obtain ⟨oc, od, kV, doc, pm, an, cdv, ct, osl, rfl, lk, hcd⟩ := F.ex
  refine fn_ofG lk hcd (fnB_of hc.1) (fun vs H Q E ⟨ds, M, R, Ex, r, mr, q, _⟩ => by rw [← r.len]; exact len ds M R Ex q) fun A outer s H vs Q E hr hgd ⟨ds, M, R, Ex, r, mr, q, fw, fx⟩ => ?_
  have g : Good G S (defScope st).names (cxOf (L2.CX P w) P w K mg base G.N qual (defScope st) f cdv A outer s H E) (fun cls d _ H => E cls d H) :=
    ⟨rfl, (fnB_of hc.1).nd, rfl, takes_of rfl rfl rfl rfl, passes_of rfl, hr.units, hgd, (fnB_of hc.1).kind, fun _ _ h => .inl h, fun _ _ => rfl, tab _ hr⟩
  exact ⟨_, (sndS u).b g hc.2, startD G.N ds, M, _, start_rel r, mr, h ds M R Ex q, fun σ' H' σd' M' e m er z => fw .non H' M' .non e m rfl z, fw, fun _ _ _ _ _ _ _ z => False.elim z, fun _ _ _ _ _ _ _ z => False.elim z, fun C d σ' H' σd' M' dv e m er rx z => fx C d H' M' dv e m rx z⟩
end LD
end

section
set_option maxRecDepth 100000
set_option maxHeartbeats 1000000
namespace LD
open PySem PySem.Spec PyProof.Rows L2
/-! ### one step at a time -/
section
variable {σ : DSt} {M : DM} {R : DK} {Ex : DX} {Z : DEnds} {ta tb tc te to ti to2 ti2 : DTE} {uc ua ub : DTT} {t u : DTS} {aa ab : DTA} {d x y : D} {i j l : Nat} {n m : Int} {xs ys ds : List D} {a b : Addr} {k : Bool}
theorem s_var (h : σ[i]? = some (some d)) (r : R d M) : dVar i σ M R Ex := ⟨d, h, r⟩
theorem s_c (r : R d M) : dC d σ M R Ex := r
theorem s_op {o : DOp2} (h : ta σ M (fun x M1 => tb σ M1 (fun y M2 => o x y M2 R) Ex) Ex) : dOp o ta tb σ M R Ex := h
theorem s_un {o : D → DM → DK → Prop} (h : ta σ M (fun x M1 => o x M1 R) Ex) : dUn o ta σ M R Ex := h
theorem s_neg (r : R (.int (-n)) M) : oNeg (.int n) M R := r
theorem s_add (r : R (.int (n + m)) M) : oAdd (.int n) (.int m) M R := r
theorem s_addT (hl : xs.length + ys.length ≤ sizeLine) (r : R (.tup (xs ++ ys)) M) : oAdd (.tup xs) (.tup ys) M R := ⟨hl, r⟩
theorem s_sub (r : R (.int (n - m)) M) : oSub (.int n) (.int m) M R := r
theorem s_mul (h : MulOk n m) (r : R (.int (n * m)) M) : oMul (.int n) (.int m) M R := ⟨h, r⟩
theorem s_div (h : DivOk m) (r : R (.int (n.fdiv m)) M) : oDiv (.int n) (.int m) M R := ⟨h, r⟩
theorem s_mod (h : m ≠ 0) (r : R (.int (n.fmod m)) M) : oMod (.int n) (.int m) M R := ⟨h, r⟩
theorem s_pow (h : PowOk n m) (r : R (.int (n ^ m.toNat)) M) : oPow (.int n) (.int m) M R := ⟨h, r⟩
theorem s_lt (r : R (.bl (decide (n < m))) M) : oLt (.int n) (.int m) M R := r
theorem s_le (r : R (.bl (decide (n ≤ m))) M) : oLe (.int n) (.int m) M R := r
theorem s_gt (r : R (.bl (decide (m < n))) M) : oGt (.int n) (.int m) M R := r
theorem s_ge (r : R (.bl (decide (m ≤ n))) M) : oGe (.int n) (.int m) M R := r
theorem s_addI (r : R (.int (n + m)) M) : oAddI (.int n) (.int m) M R := r
theorem s_mulI (h : MulOk n m) (r : R (.int (n * m)) M) : oMulI (.int n) (.int m) M R := ⟨h, r⟩
theorem shaped_int (n : Int) : SeqAt.shaped (.int n) = true := by
  unfold SeqAt.shaped
  rw [Bool.and_eq_true]
  exact ⟨by simp [PyData.canLay0], by simp [PyData.depth]⟩
theorem s_eqI (r : R (.bl (decide (n = m))) M) : oEq (.int n) (.int m) M R := by
  refine .inl ⟨.int n, .int m, rfl, rfl, shaped_int n, shaped_int m, ?_⟩
  have e : PyData.eqv (.int n) (.int m) = decide (n = m) := by
    unfold PyData.eqv
    by_cases h : n = m
    · subst h; simp
    · simp [h]
  rw [e]; exact r
theorem s_neI (r : R (.bl (!decide (n = m))) M) : oNe (.int n) (.int m) M R := by
  refine .inl ⟨.int n, .int m, rfl, rfl, shaped_int n, shaped_int m, ?_⟩
  have e : PyData.eqv (.int n) (.int m) = decide (n = m) := by
    unfold PyData.eqv
    by_cases h : n = m
    · subst h; simp
    · simp [h]
  rw [e]; exact r
theorem s_isN (r : R (.bl (isNon x)) M) : oIs x .non M R := r
theorem s_isNotN (r : R (.bl (!isNon x)) M) : oIsNot x .non M R := r
theorem s_idx (h1 : isS M x = some ds) (h2 : atI ds n = some d) (r : R d M) : oIdx x (.int n) M R := by
  unfold oIdx
  cases x <;> first | exact ⟨ds, d, h1, h2, r⟩ | cases h1
theorem s_idxL (h0 : 0 ≤ n) (h1 : isL M x = some ds) (h2 : ds[n.toNat]? = some d) (r : R d M) : oIdxL x (.int n) M R := ⟨h0, ds, d, h1, h2, r⟩
theorem s_nil {R : List D → DM → Prop} (r : R [] M) : dNil σ M R Ex := r
theorem s_cons {R : List D → DM → Prop} (h : te σ M (fun x M1 => aa σ M1 (fun xs M2 => R (x :: xs) M2) Ex) Ex) : dCons te aa σ M R Ex := h
theorem s_tup (h : aa σ M (fun xs M1 => xs.length ≤ sizeLine ∧ R (.tup xs) M1) Ex) : dTup aa σ M R Ex := h
theorem s_lst (h : aa σ M (fun xs M1 => xs.length ≤ sizeLine ∧ ∀ p, M1 p = none → R (.ref p) (updM M1 p (.lst xs))) Ex) : dLst aa σ M R Ex := h
/-- a frozen display -/
theorem s_frzLst (h : aa σ M (fun xs M1 => xs.length ≤ sizeLine ∧ R (.lst xs) M1) Ex) (mono : ∀ {Q Q' : List D → DM → Prop}, (∀ xs M, Q xs M → Q' xs M) → aa σ M Q Ex → aa σ M Q' Ex) : dFrz (dLst aa) σ M R Ex :=
  mono (fun xs M1 ⟨h1, h2⟩ => ⟨h1, fun p hp => by simp only [updM_same, delM_updM hp]; exact h2⟩) h
theorem s_call {sp : DSp} {tk : DTA} (h : aa σ M (fun xs M1 => tk σ M1 (fun zs M2 => zs.length = i ∧ sp (xs ++ zs) M2 R Ex) Ex) Ex) : dCallF i sp aa tk σ M R Ex := h
theorem s_bcall {c : DCall} (h : aa σ M (fun xs M1 => c xs M1 R) Ex) : dCall c aa σ M R Ex := h
theorem s_bm {ty : DM → D → Prop} {tm : DMt} (h : to σ M (fun x M1 => ty M1 x ∧ aa σ M1 (fun xs M2 => tm x xs M2 R) Ex) Ex) : dBM ty tm to aa σ M R Ex := h
theorem s_fld {C : Addr} {f : Str} (h : to σ M (fun x M1 => ∃ d, fldD C f M1 x = some d ∧ R d M1) Ex) : dFld C f to σ M R Ex := h
theorem s_ifx (h : uc σ M (fun k M1 => if k = true then ta σ M1 R Ex else tb σ M1 R Ex) Ex) : dIf uc ta tb σ M R Ex := h
theorem s_andV (h : ta σ M (fun x M1 => ∃ c, x = .bl c ∧ if c = true then tb σ M1 R Ex else R (.bl false) M1) Ex) : dAndV ta tb σ M R Ex := h
theorem s_orV (h : ta σ M (fun x M1 => ∃ c, x = .bl c ∧ if c = true then R (.bl true) M1 else tb σ M1 R Ex) Ex) : dOrV ta tb σ M R Ex := h
theorem s_notV (h : ta σ M (fun x M1 => ∃ c, x = .bl c ∧ R (.bl (!c)) M1) Ex) : dNotV ta σ M R Ex := h
def fzK (d : D) (M1 : DM) (R : DK) : Prop := match d with
  | .ref a => match M1 a with
    | some (.lst ds) => R (.lst ds) (delM M1 a)
    | some (.ins C ns ds) => R (.obj C ns ds) (delM M1 a)
    | none => False
  | d => R d M1
theorem fz_lst {M : DM} {R : DK} {a : Addr} {ds : List D} (h : M a = some (.lst ds)) (r : R (.lst ds) (delM M a)) : fzK (.ref a) M R := by
  unfold fzK; simp only [h]; exact r
theorem fz_ins {M : DM} {R : DK} {a : Addr} {C : Addr} {ns : List Str} {ds : List D} (h : M a = some (.ins C ns ds)) (r : R (.obj C ns ds) (delM M a)) : fzK (.ref a) M R := by
  unfold fzK; simp only [h]; exact r
theorem s_frz (h : te σ M (fun d M1 => match d with
  | .ref a => match M1 a with
    | some (.lst ds) => R (.lst ds) (delM M1 a)
    | some (.ins C ns ds) => R (.obj C ns ds) (delM M1 a)
    | none => False
  | d => R d M1) Ex) : dFrz te σ M R Ex := h
/-! tests -/
theorem s_tru {R : Bool → DM → Prop} (h : ta σ M (fun x M1 => ∃ k, truD M1 x = some k ∧ R k M1) Ex) : tTru ta σ M R Ex := h
theorem s_bl {R : Bool → DM → Prop} (h : ta σ M (fun x M1 => ∃ k, x = .bl k ∧ R k M1) Ex) : tBl ta σ M R Ex := h
theorem s_and {R : Bool → DM → Prop} (h : ua σ M (fun k M1 => if k = true then ub σ M1 R Ex else R false M1) Ex) : tAndD ua ub σ M R Ex := h
theorem s_or {R : Bool → DM → Prop} (h : ua σ M (fun k M1 => if k = true then R true M1 else ub σ M1 R Ex) Ex) : tOrD ua ub σ M R Ex := h
theorem s_not {R : Bool → DM → Prop} (h : ua σ M (fun k M1 => R (!k) M1) Ex) : tNotD ua σ M R Ex := h
theorem s_exbl {R : Bool → Prop} (h : R k) : ∃ k', D.bl k = .bl k' ∧ R k' := ⟨k, rfl, h⟩
/-! statements -/
theorem s_seq (h : t { Z with nx := u Z } σ M) : sSeq t u Z σ M := h
theorem s_next (h : Z.nx σ M) : sNext Z σ M := h
theorem s_set (h : te σ M (fun d M1 => Z.nx (σ.set i (some d)) M1) (Z.ex σ)) : sSet i te Z σ M := h
theorem s_ret (h : te σ M Z.rt (Z.ex σ)) : sRet te Z σ M := h
theorem s_retg {is : List Nat} (h : te σ M (fun d M1 => Z.rt d (forget σ is M1)) (Z.ex σ)) : sRetG is te Z σ M := h
theorem s_retN (h : Z.rt .non M) : sRetN Z σ M := h
theorem s_drop (h : te σ M (fun _ M1 => Z.nx σ M1) (Z.ex σ)) : sDrop te Z σ M := h
theorem s_ife (h : uc σ M (fun k M1 => if k = true then t Z σ M1 else u Z σ M1) (Z.ex σ)) : sIf uc t u Z σ M := h
theorem s_unp {p : Pat} (h : te σ M (fun d M1 => ∃ σ', stP M1 p d σ = some σ' ∧ Z.nx σ' M1) (Z.ex σ)) : sUnp p te Z σ M := h
theorem s_par2 (h : aa σ M (fun xs M1 => ∃ v w, xs = [v, w] ∧ Z.nx ((σ.set i (some v)).set j (some w)) M1) (Z.ex σ)) : sPar2 i j aa Z σ M := h
theorem s_par3 (h : aa σ M (fun xs M1 => ∃ u v w, xs = [u, v, w] ∧ Z.nx (((σ.set i (some u)).set j (some v)).set l (some w)) M1) (Z.ex σ)) : sPar3 i j l aa Z σ M := h
theorem s_subs (h : te σ M (fun d M1 => to σ M1 (fun o M2 => ti σ M2 (fun i M3 => oSetL o i d M3 fun M4 => Z.nx σ M4) (Z.ex σ)) (Z.ex σ)) (Z.ex σ)) : LD.sSub to ti te Z σ M := h
theorem s_sub2 (h : te σ M (fun d M1 => ∃ x y, isT d = some [x, y] ∧ to σ M1 (fun o M2 => ti σ M2 (fun i M3 => oSetL o i x M3 fun M4 =>
  to2 σ M4 (fun o2 M5 => ti2 σ M5 (fun i2 M6 => oSetL o2 i2 y M6 fun M7 => Z.nx σ M7) (Z.ex σ)) (Z.ex σ)) (Z.ex σ)) (Z.ex σ)) (Z.ex σ)) : sSub2 to ti to2 ti2 te Z σ M := h
theorem s_aug {o : DOp2} (hx : σ[i]? = some (some x)) (h : te σ M (fun y M1 => o x y M1 fun z M2 => Z.nx (σ.set i (some z)) M2) (Z.ex σ)) : sAug i te o Z σ M := ⟨x, hx, h⟩
theorem s_augS {o : DOp2} (h : to σ M (fun p M1 => ti σ M1 (fun i M2 => oIdxL p i M2 fun x M3 => te σ M3 (fun y M4 => o x y M4 fun z M5 => oSetL p i z M5 fun M6 => Z.nx σ M6) (Z.ex σ)) (Z.ex σ)) (Z.ex σ)) : sAugS to ti te o Z σ M := h
theorem s_for {it : DTI} {p : Pat} (h : it σ M (fun ds chk M1 => sLoop p t chk ds Z σ M1) (Z.ex σ)) : sFor it p t Z σ M := h
theorem s_iseq {R : List D → (DM → Prop) → DM → Prop} (h : te σ M (fun d M1 => ∃ ds, isS M1 d = some ds ∧ R ds (fun M' => isS M' d = some ds) M1) Ex) : iSeq te σ M R Ex := h
theorem s_setL {Q : DM → Prop} (h1 : M a = some (.lst ds)) (h2 : ixN ds.length n = some j) (h : Q (updM M a (.lst (ds.set j d)))) : oSetL (.ref a) (.int n) d M Q := by
  unfold oSetL
  simp only [h1]
  exact ⟨j, h2, h⟩
theorem s_append (h1 : M a = some (.lst ds)) (h2 : ds.length < sizeLine) (r : R .non (updM M a (.lst (ds ++ [d])))) : mAppend (.ref a) [d] M R := by
  unfold mAppend
  simp only [h1]
  exact ⟨h2, r⟩
theorem s_tyL (h1 : M a = some (.lst ds)) : tyL M (.ref a) := ⟨ds, by simp only [isL, h1]⟩
/-! built-ins -/
theorem s_len (h1 : isS M x = some ds) (r : R (.int ds.length) M) : cLen [x] M R := by
  unfold cLen
  split
  · rename_i z e
    simp only [List.cons.injEq, and_true] at e
    subst e; cases h1
  · rename_i y _ e
    simp only [List.cons.injEq, and_true] at e
    subst e; exact ⟨ds, h1, r⟩
  · rename_i h2 h3
    exact absurd rfl (h3 x)
theorem s_abs (r : R (.int (if n < 0 then -n else n)) M) : cAbs [.int n] M R := r
theorem s_max (r : R (.int (if m > n then m else n)) M) : cMax2 [.int n, .int m] M R := r
theorem s_min (r : R (.int (if m < n then m else n)) M) : cMin2 [.int n, .int m] M R := r
theorem s_int (r : R (.int n) M) : cInt [.int n] M R := r
theorem s_intB (r : R (.int (if k then 1 else 0)) M) : cInt [.bl k] M R := r
theorem s_list (h1 : isS M x = some ds) (r : ∀ p, M p = none → R (.ref p) (updM M p (.lst ds))) : cList [x] M R := ⟨ds, h1, r⟩
theorem s_tuple (h1 : isS M x = some ds) (r : R (.tup ds) M) : cTuple [x] M R := ⟨ds, h1, r⟩
theorem s_sum {ns : List Int} (h1 : isL M x = some (ns.map .int)) (r : R (.int ns.sum) M) : cSum [x] M R := ⟨ns, h1, r⟩
/-! loops by induction -/
theorem loop_ind {p : Pat} {chk : DM → Prop} (I : List D → DSt → DM → Prop) (h0 : I ds σ M) (hchk : ∀ ds σ M, I ds σ M → chk M) (hnil : ∀ σ M, I [] σ M → Z.nx σ M)
    (hcons : ∀ d ds σ M, I (d :: ds) σ M → (∀ σ' M', I ds σ' M' → sLoop p t chk ds Z σ' M') → ∃ σ1, stP M p d σ = some σ1 ∧ t { Z with nx := sLoop p t chk ds Z, ct := sLoop p t chk ds Z, bk := Z.nx } σ1 M) : sLoop p t chk ds Z σ M := by
  induction ds generalizing σ M with
  | nil => exact ⟨hchk _ _ _ h0, hnil σ M h0⟩
  | cons d ds ih => exact ⟨hchk _ _ _ h0, hcons d ds σ M h0 fun σ' M' h => ih h⟩
theorem loop_nil {p : Pat} {chk : DM → Prop} (hc : chk M) (h : Z.nx σ M) : sLoop p t chk [] Z σ M := ⟨hc, h⟩
theorem loop_cons {p : Pat} {chk : DM → Prop} {σ1 : DSt} (hc : chk M) (hs : stP M p d σ = some σ1) (h : t { Z with nx := sLoop p t chk ds Z, ct := sLoop p t chk ds Z, bk := Z.nx } σ1 M) : sLoop p t chk (d :: ds) Z σ M := ⟨hc, σ1, hs, h⟩
theorem while_ind (I : Nat → DSt → DM → Prop) (f : Nat) (h0 : I f σ M) (hz : ∀ σ M, ¬ I 0 σ M)
    (hs : ∀ n σ M, I (n + 1) σ M → (∀ σ' M', I n σ' M' → sWh uc t n Z σ' M') → uc σ M (fun k M1 => if k = true then t { Z with nx := sWh uc t n Z, ct := sWh uc t n Z, bk := Z.nx } σ M1 else Z.nx σ M1) (Z.ex σ)) : sWhile uc t Z σ M := by
  refine ⟨f, ?_⟩
  induction f generalizing σ M with
  | zero => exact absurd h0 (hz σ M)
  | succ n ih => exact hs n σ M h0 fun σ' M' h => ih h
theorem lc_ind {p : Pat} {c : Option DTT} {chk : DM → Prop} {acc : List D} (I : List D → List D → DM → Prop) (h0 : I ds acc M) (hchk : ∀ ds acc M, I ds acc M → chk M ∧ M a = some (.lst acc)) (hnil : ∀ acc M, I [] acc M → R (.ref a) M)
    (hcons : ∀ d ds acc M, I (d :: ds) acc M → (∀ acc' M', I ds acc' M' → lcLoop p c te chk a σ R ds acc' M') → ∃ σ1, stP M p d σ = some σ1 ∧ (match c with
    | none => te σ1 M (fun y M3 => M3 a = some (.lst acc) ∧ acc.length < sizeLine ∧ lcLoop p c te chk a σ R ds (acc ++ [y]) (updM M3 a (.lst (acc ++ [y])))) noX
    | some u => u σ1 M (fun k M2 => if k = true then te σ1 M2 (fun y M3 => M3 a = some (.lst acc) ∧ acc.length < sizeLine ∧ lcLoop p c te chk a σ R ds (acc ++ [y]) (updM M3 a (.lst (acc ++ [y])))) noX else M2 a = some (.lst acc) ∧ lcLoop p c te chk a σ R ds acc M2) noX)) : lcLoop p c te chk a σ R ds acc M := by
  induction ds generalizing acc M with
  | nil => exact ⟨(hchk _ _ _ h0).1, (hchk _ _ _ h0).2, hnil acc M h0⟩
  | cons d ds ih => exact ⟨(hchk _ _ _ h0).1, hcons d ds acc M h0 fun σ' M' h => ih h⟩
end
/-! ### comprehensions of pure elements -/
/-- M' is M but for the new list at a -/
def OnlyAt (a : Addr) (M M' : DM) : Prop := ∀ b, b ≠ a → M' b = M b
theorem upd_only {a : Addr} {M M' : DM} {o : MO} (h : OnlyAt a M M') (hn : M a = none) : delM (updM M' a o) a = M := by
  funext b
  by_cases e : b = a
  · subst e; rw [delM_same, hn]
  · rw [delM_ne e, updM_ne e, h b e]
theorem lc_map {α : Type} {p : Pat} {te : DTE} {chk : DM → Prop} {a : Addr} {σ : DSt} {R : DK} {M : DM} (xs : List α) (enc f : α → D) (acc : List D) (M1 : DM) (o : OnlyAt a M M1) (hM : M1 a = some (.lst acc)) (hl : acc.length + xs.length ≤ sizeLine)
    (hc : ∀ M', OnlyAt a M M' → chk M')
    (hs : ∀ x ∈ xs, ∀ M', OnlyAt a M M' → (∃ l, M' a = some (.lst l)) → ∃ σ1, stP M' p (enc x) σ = some σ1 ∧ ∀ Q : DK, Q (f x) M' → te σ1 M' Q noX) (hr : ∀ M', OnlyAt a M M' → M' a = some (.lst (acc ++ xs.map f)) → R (.ref a) M') : lcLoop p none te chk a σ R (xs.map enc) acc M1 := by
  induction xs generalizing acc M1 with
  | nil => exact ⟨hc M1 o, hM, hr M1 o (by simpa using hM)⟩
  | cons x xs ih =>
    obtain ⟨σ1, e1, h1⟩ := hs x List.mem_cons_self M1 o ⟨_, hM⟩
    refine ⟨hc M1 o, σ1, e1, h1 _ ⟨hM, by simp at hl; omega, ?_⟩⟩
    refine ih (acc ++ [f x]) _ (fun b hb => by rw [updM_ne hb]; exact o b hb) updM_same (by simp at hl ⊢; omega) (fun y hy => hs y (List.mem_cons_of_mem _ hy)) fun M' o' h' => hr M' o' ?_
    rw [h']; simp
theorem lc_filt {α : Type} {p : Pat} {u : DTT} {te : DTE} {chk : DM → Prop} {a : Addr} {σ : DSt} {R : DK} {M : DM} (xs : List α) (enc f : α → D) (b : α → Bool) (acc : List D) (M1 : DM) (o : OnlyAt a M M1) (hM : M1 a = some (.lst acc)) (hl : acc.length + xs.length ≤ sizeLine)
    (hc : ∀ M', OnlyAt a M M' → chk M')
    (hs : ∀ x ∈ xs, ∀ M', OnlyAt a M M' → (∃ l, M' a = some (.lst l)) → ∃ σ1, stP M' p (enc x) σ = some σ1 ∧ (∀ Q : Bool → DM → Prop, Q (b x) M' → u σ1 M' Q noX) ∧ ∀ Q : DK, b x = true → Q (f x) M' → te σ1 M' Q noX)
    (hr : ∀ M', OnlyAt a M M' → M' a = some (.lst (acc ++ (xs.filter b).map f)) → R (.ref a) M') : lcLoop p (some u) te chk a σ R (xs.map enc) acc M1 := by
  induction xs generalizing acc M1 with
  | nil => exact ⟨hc M1 o, hM, hr M1 o (by simpa using hM)⟩
  | cons x xs ih =>
    obtain ⟨σ1, e1, h1, h2⟩ := hs x List.mem_cons_self M1 o ⟨_, hM⟩
    refine ⟨hc M1 o, σ1, e1, h1 _ ?_⟩
    cases hb : b x with
    | true =>
      rw [if_pos rfl]
      refine h2 _ hb ⟨hM, by simp at hl; omega, ?_⟩
      refine ih (acc ++ [f x]) _ (fun b hb => by rw [updM_ne hb]; exact o b hb) updM_same (by simp at hl ⊢; omega) (fun y hy => hs y (List.mem_cons_of_mem _ hy)) fun M' o' h' => hr M' o' ?_
      rw [h', List.filter_cons, if_pos hb]; simp
    | false =>
      rw [if_neg (by simp)]
      refine ⟨hM, ih acc _ o hM (by simp at hl ⊢; omega) (fun y hy => hs y (List.mem_cons_of_mem _ hy)) fun M' o' h' => hr M' o' ?_⟩
      rw [h', List.filter_cons, if_neg (by rw [hb]; simp)]
/-- [f x for x in xs if b x], standing -/
theorem s_lcIf {α : Type} {it : DTI} {p : Pat} {u : DTT} {te : DTE} {own : List Nat} {σ : DSt} {M : DM} {R : DK} {Ex : DX} (xs : List α) (enc f : α → D) (b : α → Bool) (hl : xs.length ≤ sizeLine)
    (hi : ∀ Q : List D → (DM → Prop) → DM → Prop, (∀ chk, (∀ a M', M a = none → OnlyAt a M M' → chk M') → Q (xs.map enc) chk M) → it σ M Q Ex)
    (hs : ∀ a, M a = none → ∀ x ∈ xs, ∀ M', OnlyAt a M M' → (∃ l, M' a = some (.lst l)) → ∃ σ1, stP M' p (enc x) (wipeD σ own) = some σ1 ∧ (∀ Q : Bool → DM → Prop, Q (b x) M' → u σ1 M' Q noX) ∧ ∀ Q : DK, b x = true → Q (f x) M' → te σ1 M' Q noX)
    (h : R (.lst ((xs.filter b).map f)) M) : dFrz (dLc it p (some u) te own) σ M R Ex := by
  refine hi _ fun chk hc a ha => ?_
  refine lc_filt xs enc f b [] (updM M a (.lst [])) (fun b hb => updM_ne hb) updM_same (by simpa using hl) (fun M' o => hc a M' ha o) (fun x hx M' o hM' => hs a ha x hx M' o hM') fun M' o h' => ?_
  simp only [List.nil_append] at h'
  simp only [h']
  have e : delM M' a = M := by
    funext b
    by_cases e : b = a
    · subst e; rw [delM_same, ha]
    · rw [delM_ne e, o b e]
  rw [e]
  exact h
/-- [f x for x in xs], standing -/
theorem s_lcMap {α : Type} {it : DTI} {p : Pat} {te : DTE} {own : List Nat} {σ : DSt} {M : DM} {R : DK} {Ex : DX} (xs : List α) (enc f : α → D) (hl : xs.length ≤ sizeLine)
    (hi : ∀ Q : List D → (DM → Prop) → DM → Prop, (∀ chk, (∀ a M', M a = none → OnlyAt a M M' → chk M') → Q (xs.map enc) chk M) → it σ M Q Ex)
    (hs : ∀ a, M a = none → ∀ x ∈ xs, ∀ M', OnlyAt a M M' → (∃ l, M' a = some (.lst l)) → ∃ σ1, stP M' p (enc x) (wipeD σ own) = some σ1 ∧ ∀ Q : DK, Q (f x) M' → te σ1 M' Q noX) (h : R (.lst (xs.map f)) M) : dFrz (dLc it p none te own) σ M R Ex := by
  refine hi _ fun chk hc a ha => ?_
  refine lc_map xs enc f [] (updM M a (.lst [])) (fun b hb => updM_ne hb) updM_same (by simpa using hl) (fun M' o => hc a M' ha o) (fun x hx M' o hM' => hs a ha x hx M' o hM') fun M' o h' => ?_
  simp only [List.nil_append] at h'
  simp only [h']
  have e : delM M' a = M := by
    funext b
    by_cases e : b = a
    · subst e; rw [delM_same, ha]
    · rw [delM_ne e, o b e]
  rw [e]
  exact h
end LD
namespace LD
open PySem PySem.Spec PyProof.Rows L2
section
variable {σ : DSt} {M : DM} {R : DK} {Ex : DX} {d x y : D} {ds : List D} {a b : Addr} {k : Bool} {p q : PyData}
theorem s_eqG (h1 : toP M x = some p) (h2 : toP M y = some q) (h3 : SeqAt.shaped p = true) (h4 : SeqAt.shaped q = true) (e : PyData.eqv p q = k) (r : R (.bl k) M) : oEq x y M R := .inl ⟨p, q, h1, h2, h3, h4, by rw [e]; exact r⟩
theorem s_neG (h1 : toP M x = some p) (h2 : toP M y = some q) (h3 : SeqAt.shaped p = true) (h4 : SeqAt.shaped q = true) (e : PyData.eqv p q = k) (r : R (.bl (!k)) M) : oNe x y M R := .inl ⟨p, q, h1, h2, h3, h4, by rw [e]; exact r⟩
theorem s_lenA {n : Nat} {A : Prop} (h : Nat.ble n sizeLine = true) (k : A) : n ≤ sizeLine ∧ A := ⟨Nat.le_of_ble_eq_true h, k⟩
theorem isS_ref (h : M a = some (.lst ds)) : isS M (.ref a) = some ds := by simp only [isS, h]
theorem isL_ref (h : M a = some (.lst ds)) : isL M (.ref a) = some ds := by simp only [isL, h]
theorem isL0_ref (h : M a = some (.lst ds)) : isL0 M (.ref a) = some ds := by simp only [isL0, h]
theorem len_le {n : Nat} (h : Nat.ble n sizeLine = true) : n ≤ sizeLine := Nat.le_of_ble_eq_true h
theorem ifT {A B : Prop} (h : A) : if true = true then A else B := by rw [if_pos rfl]; exact h
theorem ifF {A B : Prop} (h : B) : if false = true then A else B := by rw [if_neg Bool.false_ne_true]; exact h
theorem if2 {c A B : Prop} [Decidable c] (h1 : c → A) (h2 : ¬ c → B) : if decide c = true then A else B := by
  by_cases h : c
  · rw [decide_eq_true h]; exact ifT (h1 h)
  · rw [decide_eq_false h]; exact ifF (h2 h)
theorem if2n {c A B : Prop} [Decidable c] (h1 : ¬ c → A) (h2 : c → B) : if (!decide c) = true then A else B := by
  by_cases h : c
  · rw [decide_eq_true h]; exact ifF (h2 h)
  · rw [decide_eq_false h]; exact ifT (h1 h)
theorem ne_none {M : DM} {a b : Addr} {o : MO} (h : M a = some o) (hn : M b = none) : a ≠ b := fun e => by rw [e, hn] at h; cases h
theorem upd_keep {M : DM} {a b : Addr} {o u : MO} (h : M a = some o) (hn : M b = none) : updM M b u a = some o := by rw [updM_ne (ne_none h hn)]; exact h
theorem del_keep {M : DM} {a b : Addr} {o : MO} (h : M a = some o) (hn : a ≠ b) : delM M b a = some o := by rw [delM_ne hn]; exact h
theorem upd_non {M : DM} {a b : Addr} {u : MO} (h : M a = none) (hn : a ≠ b) : updM M b u a = none := by rw [updM_ne hn]; exact h
theorem upd_of_non {M : DM} {a b : Addr} {u : MO} (h : updM M b u a = none) : M a = none ∧ a ≠ b := by
  have ne : a ≠ b := fun e => by rw [e, updM_same] at h; cases h
  exact ⟨by rw [updM_ne ne] at h; exact h, ne⟩
theorem upd_swap {M : DM} {a b : Addr} {u v : MO} (h : a ≠ b) : updM (updM M a u) b v = updM (updM M b v) a u := by
  funext c
  by_cases h1 : c = a
  · subst h1; rw [updM_ne h, updM_same, updM_same]
  · by_cases h2 : c = b
    · subst h2; rw [updM_same, updM_ne h1, updM_same]
    · rw [updM_ne h2, updM_ne h1, updM_ne h1, updM_ne h2]
theorem upd_id {M : DM} {a : Addr} {u : MO} (h : M a = some u) : updM M a u = M := by
  funext c; unfold updM
  by_cases h1 : c = a
  · rw [if_pos h1, h1, h]
  · rw [if_neg h1]
theorem del_upd_ne {M : DM} {a b : Addr} {u : MO} (h : a ≠ b) : delM (updM M a u) b = updM (delM M b) a u := by
  funext c
  by_cases h1 : c = b
  · subst h1; rw [delM_same, updM_ne h.symm, delM_same]
  · by_cases h2 : c = a
    · subst h2; rw [delM_ne h1, updM_same, updM_same]
    · rw [delM_ne h1, updM_ne h2, updM_ne h2, delM_ne h1]
theorem del_non {M : DM} {a : Addr} (h : M a = none) : delM M a = M := by
  funext c; unfold delM
  by_cases h1 : c = a
  · rw [if_pos h1, h1, h]
  · rw [if_neg h1]
theorem mul_l {n m : Int} (h : n.natAbs < 2 ^ 60) : MulOk n m := IntMulOk.of_left (intBits_le_64 (by omega) (by omega))
theorem mul_r {n m : Int} (h : m.natAbs < 2 ^ 60) : MulOk n m := IntMulOk.of_right (intBits_le_64 (by omega) (by omega))
theorem div_ok2 {n : Int} (h : 1 ≤ n) (h2 : n < 2 ^ 200) : DivOk n := ⟨by omega, by
  have : n.natAbs < 2 ^ 200 := by omega
  have h3 : n.natAbs.log2 < 200 := (Nat.log2_lt (by omega)).mpr this
  omega⟩
theorem s_rng1 {t : DTA} {σ : DSt} {M : DM} {R : List D → (DM → Prop) → DM → Prop} {Ex : DX} (h : t σ M (fun xs M1 => match xs with
  | [.int j] => small62 j ∧ R (rangeD 0 j.toNat) (fun _ => True) M1
  | _ => False) Ex) : iRange1 t σ M R Ex := h
theorem s_rng2 {t : DTA} {σ : DSt} {M : DM} {R : List D → (DM → Prop) → DM → Prop} {Ex : DX} (h : t σ M (fun xs M1 => match xs with
  | [.int i, .int j] => small62 i ∧ small62 j ∧ R (rangeD i (j - i).toNat) (fun _ => True) M1
  | _ => False) Ex) : iRange2 t σ M R Ex := h
theorem s_enum {t : DTA} {σ : DSt} {M : DM} {R : List D → (DM → Prop) → DM → Prop} {Ex : DX} (h : t σ M (fun xs M1 => match xs with
  | [.tup ds] => R (enumD ds) (fun _ => True) M1
  | [x] => ∃ ds, isL M1 x = some ds ∧ R (enumD ds) (fun M' => isS M' x = some ds) M1
  | _ => False) Ex) : iEnumT t σ M R Ex := h
theorem en_l {M : DM} {R : List D → (DM → Prop) → DM → Prop} {x : D} {ds : List D} (h : isL M x = some ds) (r : R (enumD ds) (fun M' => isS M' x = some ds) M) : match [x] with
  | [.tup es] => R (enumD es) (fun _ => True) M
  | [y] => ∃ ds, isL M y = some ds ∧ R (enumD ds) (fun M' => isS M' y = some ds) M
  | _ => False := by
  cases x <;> first | exact ⟨_, h, r⟩ | cases h
theorem s_zip {t : DTA} {σ : DSt} {M : DM} {R : List D → (DM → Prop) → DM → Prop} {Ex : DX} (h : t σ M (fun xs M1 => match xs with
  | [.tup as, .tup bs] => R (zipD as bs) (fun _ => True) M1
  | [x, y] => ∃ as bs, isL M1 x = some as ∧ isL M1 y = some bs ∧ R (zipD as bs) (fun M' => isS M' x = some as ∧ isS M' y = some bs) M1
  | _ => False) Ex) : iZipD t σ M R Ex := h
def isiK (tb : List (Ty × Bool)) (R : DK) : DK := fun x M1 => ∃ T b, tyD M1 x = some T ∧ tb.lookup T = some b ∧ R (.bl b) M1
theorem s_kget {tb : List (Str × Option D)} {ta : DTE} {σ : DSt} {M : DM} {R : DK} {Ex : DX} (h : ta σ M (fun x M1 => ∃ z r, x = .str z ∧ tb.lookup z = some r ∧ R (r.getD .non) M1) Ex) : dKGet tb ta σ M R Ex := h
theorem s_rev {te : DTE} {σ : DSt} {M : DM} {R : DK} {Ex : DX} (h : te σ M (fun x M1 => (∃ ds, isL M1 x = some ds ∧ ∀ p, M1 p = none → R (.ref p) (updM M1 p (.lst ds.reverse))) ∨ ∃ ds, x = .tup ds ∧ R (.tup ds.reverse) M1) Ex) : dRevA te σ M R Ex := h
theorem rev_l {M : DM} {x : D} {ds : List D} {A B : List D → Prop} (h : isL M x = some ds) (k : A ds) : (∃ ds, isL M x = some ds ∧ A ds) ∨ ∃ ds, x = .tup ds ∧ B ds := .inl ⟨ds, h, k⟩
theorem rev_t {M : DM} {ds : List D} {A B : List D → Prop} (k : B ds) : (∃ es, isL M (.tup ds) = some es ∧ A es) ∨ ∃ es, D.tup ds = .tup es ∧ B es := .inr ⟨ds, rfl, k⟩
theorem s_consS {te : DTE} {tr : DTA} {σ : DSt} {M : DM} {R : List D → DM → Prop} {Ex : DX} (h : te σ M (fun x M1 => ∃ ds, isS M1 x = some ds ∧ tr σ M1 (fun xs M2 => R (ds ++ xs) M2) Ex) Ex) : dConsS te tr σ M R Ex := h
theorem s_stL {te ts : DTE} {σ : DSt} {M : DM} {R : DK} {Ex : DX} (h : te σ M (fun x M1 => ts σ M1 (fun y M2 => ∃ ds j, isL M2 x = some ds ∧ y = .int j ∧ (j = 1 ∨ j = -1) ∧ ∀ p, M2 p = none → R (.ref p) (updM M2 p (.lst (dirV j ds)))) Ex) Ex) : dStL te ts σ M R Ex := h
theorem fr_stL {te ts : DTE} {σ : DSt} {M : DM} {R : DK} {Ex : DX} (h : dStL te ts σ M (fun d M1 => fzK d M1 R) Ex) : dFrz (dStL te ts) σ M R Ex := h
theorem s_lno {C : Addr} {sp : DSp} {ta : DTE} {σ : DSt} {M : DM} {R : DK} {Ex : DX} (h : ta σ M (fun x M1 => tyD M1 x = some (.own C) ∧ sp [x] M1 (fun d M2 => ∃ n : Nat, d = .int n ∧ n < 2 ^ 62 ∧ R (.int n) M2) fun _ _ _ => False) Ex) : cLenO C sp ta σ M R Ex := h
theorem s_own {ne : Bool} {C : Addr} {sp : DSp} {x y : D} {T : Ty} {M : DM} {R : DK} (h1 : tyD M x = some (.own C)) (h2 : tyD M y = some T) (h3 : tyEq C T = true) (h : sp [x, y] M (fun d M2 => ∃ b, d = .bl b ∧ R (.bl (ne ^^ b)) M2) fun _ _ _ => False) : oOwn ne C sp x y M R := ⟨h1, ⟨T, h2, h3⟩, h⟩
theorem s_chain {t t' : DOp2} {ta tb tc : DTE} {σ : DSt} {M : DM} {R : DK} {Ex : DX} (h : ta σ M (fun x M1 => tb σ M1 (fun y M2 => t x y M2 (fun z M3 => ∃ k, z = .bl k ∧ if k = true then tc σ M3 (fun w M4 => t' y w M4 R) Ex else R (.bl false) M3)) Ex) Ex) : dChain t t' ta tb tc σ M R Ex := h
theorem s_frzR {te : DTE} {σ : DSt} {M : DM} {R : DK} {Ex : DX} (h : te σ M (fun d M1 => fzK d M1 R) Ex) : dFrz te σ M R Ex := h
theorem upd_ne1 {M : DM} {a b : Addr} {o u : MO} (h : M a = some o) (ne : a ≠ b) : updM M b u a = some o := by rw [updM_ne ne]; exact h
theorem upd_ne2 {M : DM} {a b : Addr} {o u : MO} (h : M a = some o) (ne : b ≠ a) : updM M b u a = some o := by rw [updM_ne ne.symm]; exact h
theorem fz_all {M : DM} {R : DK} {ds : List D} (r : R (.lst ds) M) : ∀ p, M p = none → fzK (.ref p) (updM M p (.lst ds)) R := fun p hp => fz_lst updM_same (by rw [delM_updM hp]; exact r)
theorem fz_tup {M : DM} {R : DK} {ds : List D} (r : R (.tup ds) M) : fzK (.tup ds) M R := r
theorem fz_lst0 {M : DM} {R : DK} {ds : List D} (r : R (.lst ds) M) : fzK (.lst ds) M R := r
theorem fz_str {M : DM} {R : DK} {x : Str} (r : R (.str x) M) : fzK (.str x) M R := r
theorem fz_int {M : DM} {R : DK} {i : Int} (r : R (.int i) M) : fzK (.int i) M R := r
theorem fz_obj {M : DM} {R : DK} {C ns ds} (r : R (.obj C ns ds) M) : fzK (.obj C ns ds) M R := r
theorem upd_norm {M : DM} {p l : Addr} {u v w : MO} (h : p ≠ l) : updM (updM (updM M p u) l v) p w = updM (updM M p w) l v := by rw [upd_swap h, updM_updM, upd_swap h.symm]
theorem ifNT {A B : Prop} (h : B) : if (!true) = true then A else B := by rw [if_neg (by decide)]; exact h
theorem ifNF {A B : Prop} (h : A) : if (!false) = true then A else B := by rw [if_pos (by decide)]; exact h
theorem ifO1 {A B : Prop} (h : A) : if isNon .non = true then A else B := by rw [if_pos (by rfl)]; exact h
section
variable {te : DTE} {aa tk : DTA} {R : DK} {Ex : DX} {σ : DSt} {M : DM}
theorem fr_lst (h : dLst aa σ M (fun d M1 => fzK d M1 R) Ex) : dFrz (dLst aa) σ M R Ex := h
theorem fr_call {c : DCall} (h : dCall c aa σ M (fun d M1 => fzK d M1 R) Ex) : dFrz (dCall c aa) σ M R Ex := h
theorem fr_op {o : DOp2} {ta tb : DTE} (h : dOp o ta tb σ M (fun d M1 => fzK d M1 R) Ex) : dFrz (dOp o ta tb) σ M R Ex := h
theorem fr_fn {n : Nat} {sp : DSp} (h : dCallF n sp aa tk σ M (fun d M1 => fzK d M1 R) Ex) : dFrz (dCallF n sp aa tk) σ M R Ex := h
theorem fr_mt {C : Addr} {m : Str} {n : Nat} {sp : DSp} {ta : DTE} (h : dMeth C m n sp ta aa tk σ M (fun d M1 => fzK d M1 R) Ex) : dFrz (dMeth C m n sp ta aa tk) σ M R Ex := h
theorem fr_prop {C : Addr} {m : Str} {sp : DSp} {ta : DTE} (h : dProp C m sp ta σ M (fun d M1 => fzK d M1 R) Ex) : dFrz (dProp C m sp ta) σ M R Ex := h
theorem fr_sl {tl th : DTO} (h : dSlice te tl th σ M (fun d M1 => fzK d M1 R) Ex) : dFrz (dSlice te tl th) σ M R Ex := h
theorem fr_var {i : Nat} (h : dVar i σ M (fun d M1 => fzK d M1 R) Ex) : dFrz (dVar i) σ M R Ex := h
theorem fr_rev (h : dRevA te σ M (fun d M1 => fzK d M1 R) Ex) : dFrz (dRevA te) σ M R Ex := h
theorem fr_if {u : DTT} {ta tb : DTE} (h : dIf u ta tb σ M (fun d M1 => fzK d M1 R) Ex) : dFrz (dIf u ta tb) σ M R Ex := h
theorem s_meth {C : Addr} {m : Str} {n : Nat} {sp : DSp} {ta : DTE} (h : ta σ M (fun x M1 => isObjOf C m M1 x ∧ aa σ M1 (fun xs M2 => tk σ M2 (fun zs M3 => zs.length = n ∧ sp (x :: (xs ++ zs)) M3 R Ex) Ex) Ex) Ex) : dMeth C m n sp ta aa tk σ M R Ex := h
theorem s_prop {C : Addr} {m : Str} {sp : DSp} {ta : DTE} (h : ta σ M (fun x M1 => isObjOf C m M1 x ∧ sp [x] M1 R fun _ _ _ => False) Ex) : dProp C m sp ta σ M R Ex := h
theorem s_sl {tl th : DTO} (h : te σ M (fun x M1 => tl σ M1 (fun lo M2 => th σ M2 (fun hi M3 => oSlice x lo hi M3 R) Ex) Ex) Ex) : dSlice te tl th σ M R Ex := h
theorem s_noPart {R : Option Int → DM → Prop} (h : R none M) : oNo σ M R Ex := h
theorem s_part {R : Option Int → DM → Prop} {ta : DTE} (h : ta σ M (fun x M1 => match x with
  | .int i => R (some i) M1
  | _ => False) Ex) : oPart ta σ M R Ex := h
theorem s_isi {tb : List (Ty × Bool)} {ta : DTE} (h : ta σ M (isiK tb R) Ex) : dIsi tb ta σ M R Ex := h
theorem isi_is {tb : List (Ty × Bool)} {x : D} {T : Ty} {b : Bool} (h1 : tyD M x = some T) (h2 : tb.lookup T = some b) (r : R (.bl b) M) : isiK tb R x M := ⟨T, b, h1, h2, r⟩
theorem s_while {uc : DTT} {t : DTS} {Z : DEnds} (h : ∃ n, sWh uc t n Z σ M) : sWhile uc t Z σ M := h
end
theorem ifO2 {x : D} {A B : Prop} (e : isNon x = false) (h : B) : if isNon x = true then A else B := by rw [e, if_neg (by decide)]; exact h
theorem up3 {M : DM} {p r f : Addr} {u v w z : MO} (h : p ≠ r) (h2 : p ≠ f) : updM (updM (updM (updM M p u) r v) f w) p z = updM (updM (updM M p z) r v) f w := by
  rw [upd_swap (M := updM (updM M p u) r v) h2.symm, upd_norm h]
theorem del_up {M : DM} {r f : Addr} {v w : MO} (h : M f = none) (h2 : M r = none) (hn : f ≠ r) : delM (delM (updM (updM M r v) f w) f) r = M := by
  rw [delM_updM (upd_non h hn), delM_updM h2]
theorem forget1 {σ : DSt} {i : Nat} {a : Addr} {M : DM} (h : σ[i]? = some (some (.ref a))) : forget σ [i] M = delM M a := by
  simp only [forget, h]
theorem kg_str {tb : List (Str × Option D)} {z : Str} {r : Option D} {M : DM} {R : DK} (h : tb.lookup z = some r) (k : R (r.getD .non) M) : ∃ (z' : Str) (r' : Option D), D.str z = .str z' ∧ tb.lookup z' = some r' ∧ R (r'.getD .non) M := ⟨z, r, rfl, h, k⟩
theorem ifdT {c A B : Prop} [Decidable c] (h : c) (k : A) : if decide c = true then A else B := by rw [decide_eq_true h]; exact ifT k
theorem ifdF {c A B : Prop} [Decidable c] (h : ¬ c) (k : B) : if decide c = true then A else B := by rw [decide_eq_false h]; exact ifF k
theorem ifnT {c A B : Prop} [Decidable c] (h : c) (k : B) : if (!decide c) = true then A else B := by rw [decide_eq_true h]; exact ifF k
theorem ifnF {c A B : Prop} [Decidable c] (h : ¬ c) (k : A) : if (!decide c) = true then A else B := by rw [decide_eq_false h]; exact ifT k
theorem s_eqStr {a b : Str} {M : DM} {R : DK} (r : R (.bl (decide (a = b))) M) : oEq (.str a) (.str b) M R := .inr ⟨a, b, rfl, rfl, r⟩
theorem s_neStr {a b : Str} {M : DM} {R : DK} (r : R (.bl (!decide (a = b))) M) : oNe (.str a) (.str b) M R := .inr ⟨a, b, rfl, rfl, r⟩
theorem s_addL {xs ys : List D} {M : DM} {R : DK} (h : xs.length + ys.length ≤ sizeLine) (r : ∀ p, M p = none → R (.ref p) (updM M p (.lst (xs ++ ys)))) : oAdd (.lst xs) (.lst ys) M R := ⟨xs, ys, rfl, rfl, h, r⟩
theorem s_mulL {xs : List D} {j : Int} {M : DM} {R : DK} (h0 : 0 ≤ j) (h1 : j < 2 ^ 63) (h : xs.length * j.toNat ≤ sizeLine) (r : ∀ p, M p = none → R (.ref p) (updM M p (.lst (List.replicate j.toNat xs).flatten))) : oMul (.lst xs) (.int j) M R := ⟨xs, rfl, by omega, h1, h, r⟩
end
end LD
end

section
set_option maxRecDepth 100000
set_option maxHeartbeats 400000
namespace LD
open PySem PySem.Spec PyProof.Rows L2
/-! ### values written as data: what == says of them -/
structure EncOk {α : Type} (d : α → D) (p : α → PyData) (k : Nat) : Prop where
  dp : ∀ a, toP0 (d a) = some (p a)
  lay : ∀ a, (p a).canLay0 = true
  dep : ∀ a, (p a).depth ≤ k
  eq : ∀ a b, PyData.eqv (p a) (p b) = true ↔ a = b
theorem toP_of0 {M : DM} {x : D} {q : PyData} (h : toP0 x = some q) : toP M x = some q := by
  cases x <;> first | exact h | cases h
namespace EncOk
variable {α β : Type} {d : α → D} {p : α → PyData} {k : Nat}
theorem int : EncOk D.int PyData.int 0 := ⟨fun _ => rfl, fun _ => rfl, fun _ => Nat.le_refl _, fun a b => by unfold PyData.eqv; exact beq_iff_eq⟩
theorem dps (e : EncOk d p k) : ∀ xs : List α, toPs (xs.map d) = some (xs.map p)
  | [] => rfl
  | x :: xs => by
    rw [List.map_cons, List.map_cons]
    unfold toPs
    rw [e.dp x, e.dps xs]
theorem lays (e : EncOk d p k) : ∀ xs : List α, PyData.canLayAll0 (xs.map p) = true
  | [] => rfl
  | x :: xs => by
    rw [List.map_cons]
    unfold PyData.canLayAll0
    rw [e.lay x, e.lays xs]; rfl
theorem deps (e : EncOk d p k) : ∀ xs : List α, PyData.depthAll (xs.map p) ≤ k
  | [] => Nat.zero_le _
  | x :: xs => by
    rw [List.map_cons]
    unfold PyData.depthAll
    exact Nat.max_le.mpr ⟨e.dep x, e.deps xs⟩
theorem eqs (e : EncOk d p k) : ∀ xs ys : List α, PyData.eqvAll (xs.map p) (ys.map p) = true ↔ xs = ys
  | [], [] => by unfold PyData.eqvAll; simp
  | [], _ :: _ => by simp [PyData.eqvAll]
  | _ :: _, [] => by simp [PyData.eqvAll]
  | x :: xs, y :: ys => by
    rw [List.map_cons, List.map_cons]
    unfold PyData.eqvAll
    rw [Bool.and_eq_true, e.eq x y, e.eqs xs ys, List.cons.injEq]
theorem tup (e : EncOk d p k) : EncOk (fun xs : List α => D.tup (xs.map d)) (fun xs => PyData.tuple (xs.map p)) (k + 1) :=
  ⟨fun xs => by simp only [toP0, e.dps xs, Option.map_some], fun xs => by simp only [PyData.canLay0]; exact e.lays xs, fun xs => by simp only [PyData.depth]; exact Nat.succ_le_succ (e.deps xs), fun xs ys => by simp only [PyData.eqv]; exact e.eqs xs ys⟩
theorem lst (e : EncOk d p k) : EncOk (fun xs : List α => D.lst (xs.map d)) (fun xs => PyData.list (xs.map p)) (k + 1) :=
  ⟨fun xs => by simp only [toP0, e.dps xs, Option.map_some], fun xs => by simp only [PyData.canLay0]; exact e.lays xs, fun xs => by simp only [PyData.depth]; exact Nat.succ_le_succ (e.deps xs), fun xs ys => by simp only [PyData.eqv]; exact e.eqs xs ys⟩
theorem shaped (e : EncOk d p k) (hk : k ≤ 64) (a : α) : SeqAt.shaped (p a) = true := by
  unfold SeqAt.shaped
  rw [e.lay a, decide_eq_true (Nat.le_trans (e.dep a) hk)]; rfl
theorem dec (e : EncOk d p k) (a b : α) [Decidable (a = b)] : PyData.eqv (p a) (p b) = decide (a = b) := by
  by_cases h : a = b
  · rw [decide_eq_true h]; exact (e.eq a b).mpr h
  · rw [decide_eq_false h]; exact Bool.eq_false_iff.mpr fun z => h ((e.eq a b).mp z)
end EncOk
section
variable {α : Type} {d : α → D} {p : α → PyData} {k : Nat} {M : DM} {R : DK} {a b : α} {x y : D} {xs ys : List α} {f : Addr}
theorem toP_ref (e : EncOk d p k) (h : M f = some (.lst (xs.map d))) : toP M (.ref f) = some (.list (xs.map p)) := by
  unfold toP; simp only [h, e.dps xs, Option.map_some]
theorem s_eqP [Decidable (a = b)] (e : EncOk d p k) (hk : k ≤ 64) (hx : toP M x = some (p a)) (hy : toP M y = some (p b)) (r : R (.bl (decide (a = b))) M) : oEq x y M R :=
  .inl ⟨p a, p b, hx, hy, e.shaped hk a, e.shaped hk b, by rw [e.dec]; exact r⟩
theorem s_neP [Decidable (a = b)] (e : EncOk d p k) (hk : k ≤ 64) (hx : toP M x = some (p a)) (hy : toP M y = some (p b)) (r : R (.bl (!decide (a = b))) M) : oNe x y M R :=
  .inl ⟨p a, p b, hx, hy, e.shaped hk a, e.shaped hk b, by rw [e.dec]; exact r⟩
theorem s_eqE [Decidable (a = b)] (e : EncOk d p k) (hk : k ≤ 64) (r : R (.bl (decide (a = b))) M) : oEq (d a) (d b) M R := s_eqP e hk (toP_of0 (e.dp a)) (toP_of0 (e.dp b)) r
theorem s_neE [Decidable (a = b)] (e : EncOk d p k) (hk : k ≤ 64) (r : R (.bl (!decide (a = b))) M) : oNe (d a) (d b) M R := s_neP e hk (toP_of0 (e.dp a)) (toP_of0 (e.dp b)) r
/-- a changing list against a standing one -/
theorem s_neRL [Decidable (xs = ys)] (e : EncOk d p k) (hk : k + 1 ≤ 64) (h : M f = some (.lst (xs.map d))) (r : R (.bl (!decide (xs = ys))) M) : oNe (.ref f) (.lst (ys.map d)) M R :=
  s_neP (a := xs) (b := ys) e.lst hk (toP_ref e h) (toP_of0 (e.lst.dp ys)) r
theorem s_eqRL [Decidable (xs = ys)] (e : EncOk d p k) (hk : k + 1 ≤ 64) (h : M f = some (.lst (xs.map d))) (r : R (.bl (decide (xs = ys))) M) : oEq (.ref f) (.lst (ys.map d)) M R :=
  s_eqP (a := xs) (b := ys) e.lst hk (toP_ref e h) (toP_of0 (e.lst.dp ys)) r
end
/-! ### repr -/
section
variable {α : Type} {d : α → D} {p : α → PyData} {k : Nat} {M : DM} {R : DK} {x : D} {a : α} {ds : List D} {ps : List PyData}
/-- numbers below 10^300, texts below 300 signs -/
def smallP (B : Nat) : PyData → Bool := PyData.leavesShort B
theorem s_repr {q : PyData} (h1 : isS M x = some ds) (h2 : toPs ds = some ps) (h3 : toP M x = some q) (h4 : q.showable = true) (h5 : q.depth ≤ 60) (h6 : q.shown.length ≤ sizeLine) (r : R (.str q.shown) M) : cRepr [x] M R := ⟨ds, ps, q, h1, h2, h3, h4, h5, h6, r⟩
end
end LD
end

section
set_option maxRecDepth 100000
set_option maxHeartbeats 400000
namespace LK
open PySem L2 LD
local macro_rules | `(tactic| walk_at "non") => `(tactic| first | assumption | (refine upd_non ?_ ?_ <;> first | assumption | (intro z; subst z; simp_all)))
local macro_rules | `(tactic| walk_at "mem") => `(tactic| first | rfl | exact updM_same | assumption | exact isS_ref updM_same | exact isL_ref updM_same | exact isL0_ref updM_same | (apply isS_ref; walk_at "mem") | (apply isL_ref; walk_at "mem") | (apply isL0_ref; walk_at "mem") | (refine upd_keep ?k1 ?k2; (case k2 => assumption); (case k1 => walk_at "mem")) | (refine upd_ne1 ?k1 ?k2; (case k2 => assumption); (case k1 => walk_at "mem")) | (refine upd_ne2 ?k1 ?k2; (case k2 => assumption); (case k1 => walk_at "mem")) | (refine del_keep ?_ ?_; all_goals first | assumption | walk_at "mem"))
local macro_rules | `(tactic| walk_at "side") => `(tactic| first | assumption | omega | decide)
local macro_rules | `(tactic| walk_at "mul") => `(tactic| first | assumption | (exact mul_l (by first | assumption | omega | decide)) | (exact mul_r (by first | assumption | omega | decide)))
local macro_rules | `(tactic| walk_at "div") => `(tactic| first | assumption | (exact div_ok2 (by first | assumption | omega | decide) (by first | assumption | omega | decide)))
local macro_rules | `(tactic| walk_at "ld") => `(tactic| first
  | with_reducible refine' s_seq ?_ | with_reducible refine' s_next ?_ | ((with_reducible refine' s_var ?k1 ?_); (case k1 => rfl)) | with_reducible refine' s_c ?_ | with_reducible refine' s_op ?_ | with_reducible refine' s_un ?_ | with_reducible refine' s_cons ?_ | with_reducible refine' s_nil ?_ | with_reducible refine' s_set ?_ | with_reducible refine' s_bcall ?_
  | with_reducible refine' s_tup ?_ | with_reducible refine' s_lst ?_ | with_reducible refine' s_ife ?_ | with_reducible refine' s_bl ?_ | with_reducible refine' s_exbl ?_ | with_reducible refine' ifT ?_ | with_reducible refine' ifF ?_ | with_reducible refine' ifNT ?_ | with_reducible refine' ifNF ?_ | with_reducible refine' ifO1 ?_ | with_reducible refine' ifO2 rfl ?_ | with_reducible refine' s_ret ?_ | with_reducible refine' s_retg ?_ | with_reducible refine' s_call ?_ | with_reducible refine' s_fld ?_ | with_reducible refine' s_drop ?_ | with_reducible refine' s_bm ?_
  | with_reducible refine' s_and ?_ | with_reducible refine' s_or ?_ | with_reducible refine' s_not ?_ | with_reducible refine' s_tru ?_ | with_reducible refine' s_ifx ?_ | with_reducible refine' s_andV ?_ | with_reducible refine' s_orV ?_ | with_reducible refine' s_notV ?_ | with_reducible refine' s_par2 ?_ | with_reducible refine' s_par3 ?_ | with_reducible refine' s_unp ?_ | with_reducible refine' s_subs ?_ | with_reducible refine' s_sub2 ?_ | with_reducible refine' s_augS ?_ | ((with_reducible refine' s_aug ?k1 ?_); (case k1 => rfl))
  | with_reducible refine' s_add ?_ | with_reducible refine' s_sub ?_ | with_reducible refine' s_neg ?_ | with_reducible refine' s_lt ?_ | with_reducible refine' s_le ?_ | with_reducible refine' s_gt ?_ | with_reducible refine' s_ge ?_ | with_reducible refine' s_addI ?_ | with_reducible refine' s_eqI ?_ | with_reducible refine' s_neI ?_
  | ((with_reducible refine' s_eqG (k := false) ?k1 ?k2 ?k3 ?k4 ?k5 ?_); (case k1 => rfl); (case k2 => rfl); (case k3 => decide +kernel); (case k4 => decide +kernel); (case k5 => decide +kernel)) | ((with_reducible refine' s_eqG (k := true) ?k1 ?k2 ?k3 ?k4 ?k5 ?_); (case k1 => rfl); (case k2 => rfl); (case k3 => decide +kernel); (case k4 => decide +kernel); (case k5 => decide +kernel))
  | ((with_reducible refine' s_neG (k := false) ?k1 ?k2 ?k3 ?k4 ?k5 ?_); (case k1 => rfl); (case k2 => rfl); (case k3 => decide +kernel); (case k4 => decide +kernel); (case k5 => decide +kernel)) | ((with_reducible refine' s_neG (k := true) ?k1 ?k2 ?k3 ?k4 ?k5 ?_); (case k1 => rfl); (case k2 => rfl); (case k3 => decide +kernel); (case k4 => decide +kernel); (case k5 => decide +kernel))
  | ((with_reducible refine' s_mod ?k1 ?_); (case k1 => walk_at "side")) | ((with_reducible refine' s_mul ?k1 ?_); (case k1 => walk_at "mul")) | ((with_reducible refine' s_div ?k1 ?_); (case k1 => walk_at "div"))
  | with_reducible refine' s_isN ?_ | with_reducible refine' s_isNotN ?_
  | ((with_reducible refine' s_idx ?k1 ?k2 ?_); (case k1 => walk_at "mem"); (case k2 => first | rfl | assumption))
  | ((with_reducible refine' s_list ?k1 ?_); (case k1 => walk_at "mem")) | ((with_reducible refine' s_tuple ?k1 ?_); (case k1 => walk_at "mem")) | ((with_reducible refine' s_len ?k1 ?_); (case k1 => walk_at "mem"))
  | with_reducible refine' s_abs ?_ | with_reducible refine' s_max ?_ | with_reducible refine' s_min ?_ | with_reducible refine' s_int ?_ | with_reducible refine' s_intB ?_
  | ((with_reducible refine' s_append ?k1 ?k2 ?_); (case k1 => walk_at "mem"); (case k2 => walk_at "side")) | ((with_reducible refine' ⟨s_tyL ?k1, ?_⟩); (case k1 => walk_at "mem"))
  | with_reducible refine' fr_lst ?_ | with_reducible refine' fr_call ?_ | with_reducible refine' fr_op ?_ | with_reducible refine' fr_fn ?_ | with_reducible refine' fr_mt ?_ | with_reducible refine' fr_prop ?_ | with_reducible refine' fr_sl ?_ | with_reducible refine' fr_var ?_ | with_reducible refine' fr_rev ?_ | with_reducible refine' fr_if ?_ | with_reducible refine' s_meth ?_ | with_reducible refine' s_prop ?_ | with_reducible refine' s_sl ?_ | with_reducible refine' s_noPart ?_ | with_reducible refine' s_part ?_ | with_reducible refine' s_isi ?_ | with_reducible refine' fz_all ?_ | with_reducible refine' fz_tup ?_ | with_reducible refine' fz_lst0 ?_ | with_reducible refine' fz_str ?_ | with_reducible refine' fz_int ?_ | with_reducible refine' fz_obj ?_ | with_reducible refine' s_kget ?_ | with_reducible refine' rev_t ?_ | ((with_reducible refine' rev_l ?k1 ?_); (case k1 => walk_at "mem")) | with_reducible refine' s_rev ?_ | with_reducible refine' s_consS ?_ | with_reducible refine' s_stL ?_ | with_reducible refine' fr_stL ?_ | with_reducible refine' s_lno ?_ | with_reducible refine' s_chain ?_ | with_reducible refine' s_rng1 ?_ | with_reducible refine' s_rng2 ?_ | with_reducible refine' s_enum ?_ | with_reducible refine' s_zip ?_
  | with_reducible refine' s_for ?_ | with_reducible refine' s_iseq ?_
  | ((with_reducible refine' s_setL ?k1 ?k2 ?_); (case k1 => walk_at "mem"); (case k2 => first | rfl | assumption))
  | ((with_reducible refine' s_lenA ?k1 ?_); (case k1 => rfl))
  | ((with_reducible refine' ⟨_, _, rfl, ?k1, ?_⟩); (case k1 => assumption)) | with_reducible refine' ⟨_, _, rfl, ?_⟩ | with_reducible refine' ⟨_, rfl, ?_⟩ | with_reducible refine' ⟨rfl, ?_⟩)
local macro_rules | `(tactic| walk_at "le") => `(tactic| first
  | with_reducible refine' s_next ?_ | ((with_reducible refine' s_var ?k1 ?_); (case k1 => rfl)) | with_reducible refine' s_c ?_ | with_reducible refine' s_op ?_ | with_reducible refine' s_un ?_ | with_reducible refine' s_cons ?_ | with_reducible refine' s_nil ?_ | with_reducible refine' s_set ?_ | with_reducible refine' s_bcall ?_
  | with_reducible refine' s_tup ?_ | with_reducible refine' s_lst ?_ | with_reducible refine' s_bl ?_ | with_reducible refine' s_exbl ?_ | with_reducible refine' ifT ?_ | with_reducible refine' ifF ?_ | with_reducible refine' ifNT ?_ | with_reducible refine' ifNF ?_ | with_reducible refine' ifO1 ?_ | with_reducible refine' ifO2 rfl ?_ | with_reducible refine' s_ret ?_ | with_reducible refine' s_retg ?_ | with_reducible refine' s_call ?_ | with_reducible refine' s_fld ?_ | with_reducible refine' s_drop ?_ | with_reducible refine' s_bm ?_
  | with_reducible refine' s_and ?_ | with_reducible refine' s_or ?_ | with_reducible refine' s_not ?_ | with_reducible refine' s_tru ?_ | with_reducible refine' s_ifx ?_ | with_reducible refine' s_andV ?_ | with_reducible refine' s_orV ?_ | with_reducible refine' s_notV ?_ | with_reducible refine' s_par2 ?_ | with_reducible refine' s_par3 ?_ | with_reducible refine' s_unp ?_ | with_reducible refine' s_subs ?_ | with_reducible refine' s_sub2 ?_ | with_reducible refine' s_augS ?_ | ((with_reducible refine' s_aug ?k1 ?_); (case k1 => rfl))
  | with_reducible refine' s_add ?_ | with_reducible refine' s_sub ?_ | with_reducible refine' s_neg ?_ | with_reducible refine' s_lt ?_ | with_reducible refine' s_le ?_ | with_reducible refine' s_gt ?_ | with_reducible refine' s_ge ?_ | with_reducible refine' s_addI ?_ | with_reducible refine' s_eqI ?_ | with_reducible refine' s_neI ?_
  | ((with_reducible refine' s_eqG (k := false) ?k1 ?k2 ?k3 ?k4 ?k5 ?_); (case k1 => rfl); (case k2 => rfl); (case k3 => decide +kernel); (case k4 => decide +kernel); (case k5 => decide +kernel)) | ((with_reducible refine' s_eqG (k := true) ?k1 ?k2 ?k3 ?k4 ?k5 ?_); (case k1 => rfl); (case k2 => rfl); (case k3 => decide +kernel); (case k4 => decide +kernel); (case k5 => decide +kernel))
  | ((with_reducible refine' s_neG (k := false) ?k1 ?k2 ?k3 ?k4 ?k5 ?_); (case k1 => rfl); (case k2 => rfl); (case k3 => decide +kernel); (case k4 => decide +kernel); (case k5 => decide +kernel)) | ((with_reducible refine' s_neG (k := true) ?k1 ?k2 ?k3 ?k4 ?k5 ?_); (case k1 => rfl); (case k2 => rfl); (case k3 => decide +kernel); (case k4 => decide +kernel); (case k5 => decide +kernel))
  | ((with_reducible refine' s_mod ?k1 ?_); (case k1 => walk_at "side")) | ((with_reducible refine' s_mul ?k1 ?_); (case k1 => walk_at "mul")) | ((with_reducible refine' s_div ?k1 ?_); (case k1 => walk_at "div"))
  | with_reducible refine' s_isN ?_ | with_reducible refine' s_isNotN ?_
  | ((with_reducible refine' s_idx ?k1 ?k2 ?_); (case k1 => walk_at "mem"); (case k2 => first | rfl | assumption))
  | ((with_reducible refine' s_list ?k1 ?_); (case k1 => walk_at "mem")) | ((with_reducible refine' s_tuple ?k1 ?_); (case k1 => walk_at "mem")) | ((with_reducible refine' s_len ?k1 ?_); (case k1 => walk_at "mem"))
  | with_reducible refine' s_abs ?_ | with_reducible refine' s_max ?_ | with_reducible refine' s_min ?_ | with_reducible refine' s_int ?_ | with_reducible refine' s_intB ?_
  | ((with_reducible refine' s_append ?k1 ?k2 ?_); (case k1 => walk_at "mem"); (case k2 => walk_at "side")) | ((with_reducible refine' ⟨s_tyL ?k1, ?_⟩); (case k1 => walk_at "mem"))
  | with_reducible refine' fr_lst ?_ | with_reducible refine' fr_call ?_ | with_reducible refine' fr_op ?_ | with_reducible refine' fr_fn ?_ | with_reducible refine' fr_mt ?_ | with_reducible refine' fr_prop ?_ | with_reducible refine' fr_sl ?_ | with_reducible refine' fr_var ?_ | with_reducible refine' fr_rev ?_ | with_reducible refine' fr_if ?_ | with_reducible refine' s_meth ?_ | with_reducible refine' s_prop ?_ | with_reducible refine' s_sl ?_ | with_reducible refine' s_noPart ?_ | with_reducible refine' s_part ?_ | with_reducible refine' s_isi ?_ | with_reducible refine' fz_all ?_ | with_reducible refine' fz_tup ?_ | with_reducible refine' fz_lst0 ?_ | with_reducible refine' fz_str ?_ | with_reducible refine' fz_int ?_ | with_reducible refine' fz_obj ?_ | with_reducible refine' s_kget ?_ | with_reducible refine' rev_t ?_ | ((with_reducible refine' rev_l ?k1 ?_); (case k1 => walk_at "mem")) | with_reducible refine' s_rev ?_ | with_reducible refine' s_consS ?_ | with_reducible refine' s_stL ?_ | with_reducible refine' fr_stL ?_ | with_reducible refine' s_lno ?_ | with_reducible refine' s_chain ?_ | with_reducible refine' s_rng1 ?_ | with_reducible refine' s_rng2 ?_ | with_reducible refine' s_enum ?_ | with_reducible refine' s_zip ?_
  | with_reducible refine' s_iseq ?_
  | ((with_reducible refine' s_setL ?k1 ?k2 ?_); (case k1 => walk_at "mem"); (case k2 => first | rfl | assumption))
  | ((with_reducible refine' s_lenA ?k1 ?_); (case k1 => rfl))
  | ((with_reducible refine' ⟨_, _, rfl, ?k1, ?_⟩); (case k1 => assumption)) | with_reducible refine' ⟨_, _, rfl, ?_⟩ | with_reducible refine' ⟨_, rfl, ?_⟩ | with_reducible refine' ⟨rfl, ?_⟩)
local macro_rules | `(tactic| walk_at "sq") => `(tactic| with_reducible refine' s_seq ?_)
local macro_rules | `(tactic| walk_at "if") => `(tactic| with_reducible refine' s_ife ?_)
local macro_rules | `(tactic| walk_at "for") => `(tactic| with_reducible refine' s_for ?_)
def g_is_step : Cfg := { N := ["step", "channels"], fn := [], mt := [], fl := [], pr := [], cs := [], bi := ["len"], kd := ["ITEMS"] }
def u_is_step : LD.St := .cons (.ife (.or (.cmp .ne (.kget 0 (.idx (.var 0) (.int 0))) (.bcall .len (.cons (.var 0) .nil))) (.not (.chain .le .lt (.int 0) (.idx (.var 0) (.int 1)) (.var 1)))) (.cons (.ret (.bl false)) .nil) .nil) (.cons (.ife (.cmp .eq (.idx (.var 0) (.int 0)) (.str ("swap" : Str))) (.cons (.ret (.chain .lt .lt (.idx (.var 0) (.int 1)) (.idx (.var 0) (.int 2)) (.var 1))) .nil) .nil) (.cons (.ife (.cmp .eq (.idx (.var 0) (.int 0)) (.str ("turn" : Str))) (.cons (.ret (.bl true)) .nil) .nil) (.cons (.ret (.and (.cmp .eq (.bcall .len (.cons (.idx (.var 0) (.int 2)) .nil)) (.var 1)) (.and (.cmp .eq (.idx (.idx (.var 0) (.int 2)) (.idx (.var 0) (.int 1))) (.int 0)) (.cmp .ge (.idx (.var 0) (.int 4)) (.int 1))))) .nil)))
def g_step_done : Cfg := { N := ["step", "vector", "found", "total", "word", "channel", "weights", "more", "divisor", "weight", "entry"], fn := [], mt := [], fl := [], pr := [], cs := [], bi := ["list", "sum", "zip", "tuple"] }
def u_step_done : LD.St := .cons (.set 2 (.bcall .list (.cons (.var 1) .nil))) (.cons (.ife (.cmp .eq (.idx (.var 0) (.int 0)) (.str ("swap" : Str))) (.cons (.sub2 (.var 2) (.idx (.var 0) (.int 1)) (.var 2) (.idx (.var 0) (.int 2)) (.tup (.cons (.idx (.var 1) (.idx (.var 0) (.int 2))) (.cons (.idx (.var 1) (.idx (.var 0) (.int 1))) .nil)))) .nil) (.cons (.ife (.cmp .eq (.idx (.var 0) (.int 0)) (.str ("turn" : Str))) (.cons (.sub (.var 2) (.idx (.var 0) (.int 1)) (.neg (.idx (.var 1) (.idx (.var 0) (.int 1))))) .nil) (.cons (.unp (.tup (.cons (.name 4) (.cons (.name 5) (.cons (.name 6) (.cons (.name 7) (.cons (.name 8) .nil)))))) (.var 0)) (.cons (.set 3 (.bcall .sum (.cons (.frz (.lc (.zip (.cons (.var 6) (.cons (.var 1) .nil))) (.tup (.cons (.name 9) (.cons (.name 10) .nil))) .nil (.bin .mul (.var 9) (.var 10)) [9, 10])) .nil))) (.cons (.augs (.var 2) (.var 5) .add (.bin .div (.bin .add (.var 3) (.var 7)) (.var 8))) .nil)))) .nil)) (.cons (.retg [2] (.bcall .tuple (.cons (.var 2) .nil))) .nil))
def g_Chain_init : Cfg := { N := ["self", "channels", "steps", "number", "step"], fn := [("is_step", [])], mt := [], fl := ["channel_count", "kept_steps"], pr := [], cs := ["CHANNEL_COUNTS"], bi := ["enumerate", "tuple"] }
def u_Chain_init : LD.St := .cons (.ife (.cmp .notin (.var 1) (.cst 0)) (.cons .never .nil) .nil) (.cons (.for (.enum (.cons (.var 2) .nil)) (.tup (.cons (.name 3) (.cons (.name 4) .nil))) (.cons (.ife (.not (.call 0 (.cons (.var 4) (.cons (.var 1) .nil)) .nil)) (.cons .never .nil) .nil) .nil)) (.cons (.attr 0 (.var 0) (.var 1)) (.cons (.attr 1 (.var 0) (.bcall .tuple (.cons (.var 2) .nil))) .nil)))
def g_Chain_channels : Cfg := { N := ["self"], fn := [], mt := [], fl := ["channel_count"], pr := [], cs := [], bi := [] }
def u_Chain_channels : LD.St := .cons (.ret (.fld 0 (.var 0))) .nil
def g_Chain_steps : Cfg := { N := ["self"], fn := [], mt := [], fl := ["kept_steps"], pr := [], cs := [], bi := ["list"] }
def u_Chain_steps : LD.St := .cons (.ret (.frz (.bcall .list (.cons (.fld 0 (.var 0)) .nil)))) .nil
def g_Chain_len : Cfg := { N := ["self"], fn := [], mt := [], fl := ["kept_steps"], pr := [], cs := [], bi := ["len"] }
def u_Chain_len : LD.St := .cons (.ret (.bcall .len (.cons (.fld 0 (.var 0)) .nil))) .nil
def g_Chain_at : Cfg := { N := ["self", "vector", "found", "step"], fn := [("step_done", [])], mt := [], fl := ["kept_steps"], pr := [], cs := [], bi := [] }
def u_Chain_at : LD.St := .cons (.set 2 (.var 1)) (.cons (.for (.fld 0 (.var 0)) (.name 3) (.cons (.set 2 (.call 0 (.cons (.var 3) (.cons (.var 2) .nil)) .nil)) .nil)) (.cons (.ret (.var 2)) .nil))
def g_Chain_path : Cfg := { N := ["self", "vector", "found", "step"], fn := [("step_done", [])], mt := [], fl := ["kept_steps"], pr := [], cs := [], bi := [] }
def u_Chain_path : LD.St := .cons (.set 2 (.lst (.cons (.var 1) .nil))) (.cons (.for (.fld 0 (.var 0)) (.name 3) (.cons (.expr (.bmeth .append (.var 2) (.cons (.call 0 (.cons (.var 3) (.cons (.idx (.var 2) (.neg (.int 1))) .nil)) .nil) .nil))) .nil)) (.cons (.ret (.var 2)) .nil))
def g_law_pool : Cfg := { N := ["script", "spot", "cell"], fn := [], mt := [], fl := [], pr := [], cs := [], bi := ["len", "int", "max", "abs"] }
def u_law_pool : LD.St := .cons (.set 2 (.int 0)) (.cons (.ife (.cmp .lt (.var 1) (.bcall .len (.cons (.var 0) .nil))) (.cons (.set 2 (.idx (.var 0) (.var 1))) .nil) .nil) (.cons (.ret (.lst (.cons (.bcall .max2 (.cons (.int 0) (.cons (.bin .sub (.bcall .abs (.cons (.var 2) .nil)) (.bin .pow (.int 10) (.int 18))) .nil))) (.cons (.bin .add (.bin .mod (.bcall .int (.cons (.var 2) .nil)) (.int 2305843009213693951)) (.bin .mul (.int 7368787) (.bin .add (.var 1) (.int 1)))) (.cons (.int 0) .nil))))) .nil))
def g_law_draw : Cfg := { N := ["pool", "many", "mixed", "drawn"], fn := [], mt := [], fl := [], pr := [], cs := [], bi := ["int"] }
def u_law_draw : LD.St := .cons (.ife (.cmp .gt (.idx (.var 0) (.int 0)) (.int 0)) (.cons (.set 3 (.bin .mod (.bcall .int (.cons (.idx (.var 0) (.int 0)) .nil)) (.var 1))) (.cons (.sub (.var 0) (.int 0) (.bin .div (.idx (.var 0) (.int 0)) (.var 1))) (.cons (.ret (.var 3)) .nil))) .nil) (.cons (.sub (.var 0) (.int 2) (.bin .add (.idx (.var 0) (.int 2)) (.int 1))) (.cons (.set 2 (.bin .mod (.bcall .int (.cons (.bin .pow (.bin .add (.idx (.var 0) (.int 1)) (.bin .mul (.int 15485863) (.idx (.var 0) (.int 2)))) (.int 3)) .nil)) (.int 162259276829213363391578010288127))) (.cons (.set 2 (.bin .mod (.bcall .int (.cons (.bin .pow (.bin .add (.var 2) (.bin .mul (.int 32452843) (.idx (.var 0) (.int 2)))) (.int 3)) .nil)) (.int 170141183460469231731687303715884105727))) (.cons (.ret (.bin .mod (.bcall .int (.cons (.bin .div (.var 2) (.int 1048576)) .nil)) (.var 1))) .nil))))
def g_law_divisor : Cfg := { N := ["pool", "room", "divisor"], fn := [("_law_draw", [])], mt := [], fl := [], pr := [], cs := [], bi := ["min"] }
def u_law_divisor : LD.St := .cons (.set 2 (.bin .add (.int 1) (.call 0 (.cons (.var 0) (.cons (.bcall .min2 (.cons (.int 6) (.cons (.idx (.var 1) (.int 0)) .nil))) .nil)) .nil))) (.cons (.sub (.var 1) (.int 0) (.bin .div (.idx (.var 1) (.int 0)) (.var 2))) (.cons (.ret (.var 2)) .nil))
def g_law_weights : Cfg := { N := ["pool", "many", "own", "found", "spot"], fn := [("_law_draw", [])], mt := [], fl := [], pr := [], cs := [], bi := ["range", "tuple"] }
def u_law_weights : LD.St := .cons (.set 3 (.lst .nil)) (.cons (.for (.rng1 (.cons (.var 1) .nil)) (.name 4) (.cons (.expr (.bmeth .append (.var 3) (.cons (.idx (.frz (.lst (.cons (.int 0) (.cons (.int 1) (.cons (.neg (.int 1)) (.cons (.bin .sub (.call 0 (.cons (.var 0) (.cons (.int 13) .nil)) .nil) (.int 6)) (.cons (.int 6) (.cons (.neg (.int 6)) .nil)))))))) (.call 0 (.cons (.var 0) (.cons (.int 6) .nil)) .nil)) .nil))) .nil)) (.cons (.sub (.var 3) (.var 2) (.int 0)) (.cons (.retg [3] (.bcall .tuple (.cons (.var 3) .nil))) .nil)))
def g_law_more : Cfg := { N := ["pool"], fn := [("_law_draw", [])], mt := [], fl := [], pr := [], cs := [], bi := [] }
def u_law_more : LD.St := .cons (.ret (.idx (.frz (.lst (.cons (.int 0) (.cons (.int 1) (.cons (.neg (.int 1)) (.cons (.bin .sub (.call 0 (.cons (.var 0) (.cons (.int 41) .nil)) .nil) (.int 20)) (.cons (.int 20) (.cons (.neg (.int 20)) .nil)))))))) (.call 0 (.cons (.var 0) (.cons (.int 6) .nil)) .nil))) .nil
def g_law_lift : Cfg := { N := ["pool", "many", "room", "own", "some", "more"], fn := [("_law_draw", []), ("_law_weights", []), ("_law_more", []), ("_law_divisor", [])], mt := [], fl := [], pr := [], cs := [], bi := [] }
def u_law_lift : LD.St := .cons (.set 3 (.call 0 (.cons (.var 0) (.cons (.var 1) .nil)) .nil)) (.cons (.par2 4 5 (.call 1 (.cons (.var 0) (.cons (.var 1) (.cons (.var 3) .nil))) .nil) (.call 2 (.cons (.var 0) .nil) .nil)) (.cons (.ret (.tup (.cons (.str ("lift" : Str)) (.cons (.var 3) (.cons (.var 4) (.cons (.var 5) (.cons (.call 3 (.cons (.var 0) (.cons (.var 2) .nil)) .nil) .nil))))))) .nil))
def g_law_plain : Cfg := { N := ["pool", "many", "low"], fn := [("_law_draw", [])], mt := [], fl := [], pr := [], cs := [], bi := [] }
def u_law_plain : LD.St := .cons (.ife (.cmp .eq (.call 0 (.cons (.var 0) (.cons (.int 2) .nil)) .nil) (.int 0)) (.cons (.ret (.tup (.cons (.str ("turn" : Str)) (.cons (.call 0 (.cons (.var 0) (.cons (.var 1) .nil)) .nil) .nil)))) .nil) .nil) (.cons (.set 2 (.call 0 (.cons (.var 0) (.cons (.bin .sub (.var 1) (.int 1)) .nil)) .nil)) (.cons (.ret (.tup (.cons (.str ("swap" : Str)) (.cons (.var 2) (.cons (.bin .add (.bin .add (.var 2) (.int 1)) (.call 0 (.cons (.var 0) (.cons (.bin .sub (.bin .sub (.var 1) (.int 1)) (.var 2)) .nil)) .nil)) .nil))))) .nil))
def g_law_back : Cfg := { N := ["one", "weight"], fn := [], mt := [], fl := [], pr := [], cs := [], bi := ["tuple"] }
def u_law_back : LD.St := .cons (.ife (.cmp .ne (.idx (.var 0) (.int 0)) (.str ("lift" : Str))) (.cons (.ret (.var 0)) .nil) .nil) (.cons (.ret (.tup (.cons (.str ("lift" : Str)) (.cons (.idx (.var 0) (.int 1)) (.cons (.bcall .tuple (.cons (.frz (.lc (.idx (.var 0) (.int 2)) (.name 1) .nil (.bin .sub (.int 0) (.var 1)) [1])) .nil)) (.cons (.bin .sub (.bin .sub (.idx (.var 0) (.int 4)) (.int 1)) (.idx (.var 0) (.int 3))) (.cons (.idx (.var 0) (.int 4)) .nil))))))) .nil)
def g_law_moves : Cfg := { N := ["pool", "many", "most", "product", "turn", "room", "found", "way", "one"], fn := [("_law_draw", []), ("_law_back", []), ("_law_lift", []), ("_law_plain", [])], mt := [], fl := [], pr := [], cs := [], bi := ["range", "abs"] }
def u_law_moves_1 : LD.St := .cons (.ife (.cmp .eq (.idx (.var 8) (.int 0)) (.str ("lift" : Str))) (.cons (.sub (.var 5) (.int 0) (.bin .div (.idx (.var 5) (.int 0)) (.idx (.var 8) (.int 4)))) .nil) .nil) .nil
def u_law_moves_2 : LD.St := .cons (.set 8 (.idx (.frz (.lst (.cons (.idx (.var 6) (.neg (.int 1))) (.cons (.call 1 (.cons (.idx (.var 6) (.neg (.int 1))) .nil) .nil) .nil)))) (.bin .sub (.var 7) (.int 7)))) (.cons (.ife (.and (.cmp .eq (.idx (.var 8) (.int 0)) (.str ("lift" : Str))) (.or (.cmp .gt (.idx (.var 8) (.int 4)) (.idx (.var 5) (.int 0))) (.cmp .gt (.bcall .abs (.cons (.idx (.var 8) (.int 3)) .nil)) (.int 20)))) (.cons (.set 8 .non) .nil) u_law_moves_1) .nil)
def u_law_moves_3 : LD.St := .cons (.expr (.bmeth .append (.var 6) (.cons (.var 8) .nil))) .nil
def u_law_moves_4 : LD.St := .cons (.ife (.cmp .is (.var 8) .non) (.cons (.set 8 (.ifx (.cmp .gt (.var 7) (.int 2)) (.call 2 (.cons (.var 0) (.cons (.var 1) (.cons (.var 5) .nil))) .nil) (.call 3 (.cons (.var 0) (.cons (.var 1) .nil)) .nil))) .nil) .nil) u_law_moves_3
def u_law_moves_5 : LD.St := .cons (.par2 7 8 (.call 0 (.cons (.var 0) (.cons (.int 9) .nil)) .nil) .non) (.cons (.ife (.and (.cmp .ne (.var 6) (.frz (.lst .nil))) (.cmp .gt (.var 7) (.int 6))) u_law_moves_2 .nil) u_law_moves_4)
def u_law_moves_6 : LD.St := .cons (.retg [5] (.frz (.var 6))) .nil
def u_law_moves : LD.St := .cons (.par2 5 6 (.lst (.cons (.var 3) .nil)) (.lst .nil)) (.cons (.for (.rng1 (.cons (.call 0 (.cons (.var 0) (.cons (.bin .add (.var 2) (.int 1)) .nil)) .nil) .nil)) (.name 4) u_law_moves_5) u_law_moves_6)
def g_law_entry : Cfg := { N := ["pool", "far", "some"], fn := [("_law_draw", [])], mt := [], fl := [], pr := [], cs := [], bi := [] }
def u_law_entry : LD.St := .cons (.set 2 (.frz (.lst (.cons (.bin .sub (.call 0 (.cons (.var 0) (.cons (.int 9) .nil)) .nil) (.int 4)) (.cons (.bin .sub (.call 0 (.cons (.var 0) (.cons (.int 61) .nil)) .nil) (.int 30)) (.cons (.bin .sub (.call 0 (.cons (.var 0) (.cons (.bin .add (.bin .mul (.int 2) (.var 1)) (.int 1)) .nil)) .nil) (.var 1)) .nil)))))) (.cons (.ret (.idx (.frz (.lst (.cons (.idx (.var 2) (.int 0)) (.cons (.idx (.var 2) (.int 1)) (.cons (.idx (.var 2) (.int 2)) (.cons (.var 1) (.cons (.bin .sub (.int 0) (.var 1)) .nil))))))) (.call 0 (.cons (.var 0) (.cons (.int 5) .nil)) .nil))) .nil)
def g_law_place : Cfg := { N := ["pool", "many", "far", "spot"], fn := [("_law_entry", [])], mt := [], fl := [], pr := [], cs := [], bi := ["tuple", "range"] }
def u_law_place : LD.St := .cons (.ret (.bcall .tuple (.cons (.frz (.lc (.rng1 (.cons (.var 1) .nil)) (.name 3) .nil (.call 0 (.cons (.var 0) (.cons (.var 2) .nil)) .nil) [3])) .nil))) .nil
def g_law_all : Cfg := { N := ["box", "found", "low", "high", "longer", "place", "entry"], fn := [], mt := [], fl := [], pr := [], cs := [], bi := ["range"] }
def u_law_all : LD.St := .cons (.set 1 (.frz (.lst (.cons (.tup .nil) .nil)))) (.cons (.for (.var 0) (.tup (.cons (.name 2) (.cons (.name 3) .nil))) (.cons (.set 4 (.lst .nil)) (.cons (.for (.var 1) (.name 5) (.cons (.expr (.bmeth .extend (.var 4) (.cons (.frz (.lc (.rng2 (.cons (.var 2) (.cons (.bin .add (.var 3) (.int 1)) .nil))) (.name 6) .nil (.bin .add (.var 5) (.tup (.cons (.var 6) .nil))) [6])) .nil))) .nil)) (.cons (.set 1 (.frz (.var 4))) .nil)))) (.cons (.retg [4] (.var 1)) .nil))
def g_law_done : Cfg := { N := ["one", "place", "found", "total", "weight", "entry"], fn := [], mt := [], fl := [], pr := [], cs := [], bi := ["list", "zip", "int", "tuple"] }
def u_law_done : LD.St := .cons (.set 2 (.bcall .list (.cons (.var 1) .nil))) (.cons (.ife (.cmp .eq (.idx (.var 0) (.int 0)) (.str ("swap" : Str))) (.cons (.sub2 (.var 2) (.idx (.var 0) (.int 1)) (.var 2) (.idx (.var 0) (.int 2)) (.tup (.cons (.idx (.var 1) (.idx (.var 0) (.int 2))) (.cons (.idx (.var 1) (.idx (.var 0) (.int 1))) .nil)))) .nil) (.cons (.ife (.cmp .eq (.idx (.var 0) (.int 0)) (.str ("turn" : Str))) (.cons (.sub (.var 2) (.idx (.var 0) (.int 1)) (.bin .sub (.int 0) (.idx (.var 1) (.idx (.var 0) (.int 1))))) .nil) (.cons (.set 3 (.idx (.var 0) (.int 3))) (.cons (.for (.zip (.cons (.idx (.var 0) (.int 2)) (.cons (.var 1) .nil))) (.tup (.cons (.name 4) (.cons (.name 5) .nil))) (.cons (.set 3 (.bin .add (.var 3) (.bin .mul (.var 4) (.var 5)))) .nil)) (.cons (.sub (.var 2) (.idx (.var 0) (.int 1)) (.bin .add (.idx (.var 1) (.idx (.var 0) (.int 1))) (.bin .div (.bcall .int (.cons (.var 3) .nil)) (.idx (.var 0) (.int 4))))) .nil)))) .nil)) (.cons (.retg [2] (.bcall .tuple (.cons (.var 2) .nil))) .nil))
def g_law_walk : Cfg := { N := ["moves", "place", "found", "one"], fn := [("_law_done", [])], mt := [], fl := [], pr := [], cs := [], bi := [] }
def u_law_walk : LD.St := .cons (.set 2 (.lst (.cons (.var 1) .nil))) (.cons (.for (.var 0) (.name 3) (.cons (.expr (.bmeth .append (.var 2) (.cons (.call 0 (.cons (.var 3) (.cons (.idx (.var 2) (.neg (.int 1))) .nil)) .nil) .nil))) .nil)) (.cons (.ret (.frz (.var 2))) .nil))
def g_law_end : Cfg := { N := ["moves", "place"], fn := [("_law_walk", [])], mt := [], fl := [], pr := [], cs := [], bi := [] }
def u_law_end : LD.St := .cons (.ret (.idx (.call 0 (.cons (.var 0) (.cons (.var 1) .nil)) .nil) (.neg (.int 1)))) .nil
def S0 : Sg := { fn := fun _ _ _ _ _ => False, mt := fun _ _ _ _ _ => False, mc := fun _ => 0, mn := fun _ => "", ml := fun _ => 0, fl := fun _ => 0, fc := fun _ => 0, fnm := fun _ => "", pr := fun _ _ _ _ _ => False, pc := fun _ => 0, pn := fun _ => "", cs := fun _ => .non }
def no : DSp := fun _ _ _ _ => False
/-- what a def's body has to do -/
def Does (S : Sg) (u : LD.St) (N : List Str) (sp : DSp) : Prop := ∀ (ds : List D) (M : DM) (R : DK) (Ex : DX), sp ds M R Ex → (evS S u).b { nx := fun _ M' => R .non M', rt := R, ex := fun _ => Ex } (startD N ds) M
/-! ### the pool -/
structure Pool where
  a : Int
  b : Int
  c : Int
def Pool.d (q : Pool) : MO := .lst [.int q.a, .int q.b, .int q.c]
def Pool.ok (q : Pool) (n : Nat) : Prop := 0 ≤ q.a ∧ 0 ≤ q.b ∧ q.b ≤ 2 ^ 62 ∧ 0 ≤ q.c ∧ q.c + n ≤ 2 ^ 60
theorem Pool.ok.mono {q : Pool} {m n : Nat} (h : q.ok n) (k : m ≤ n) : q.ok m := ⟨h.1, h.2.1, h.2.2.1, h.2.2.2.1, by have := h.2.2.2.2; omega⟩
def spDraw : DSp := fun ds M R _ => ∃ (p : Addr) (q : Pool) (n : Nat) (many : Int), ds = [.ref p, .int many] ∧ M p = some q.d ∧ q.ok (n + 1) ∧ 1 ≤ many ∧ many < 2 ^ 200 ∧ ∀ (d : Int) (q' : Pool), 0 ≤ d → d < many → q'.ok n → R (.int d) (updM M p q'.d)
theorem pow3_ok {n : Int} (h : n.natAbs < 2 ^ 200) : PowOk n 3 := by
  refine ⟨by decide, ?_⟩
  have : Builtin.Int.intBits n ≤ 2 ^ 20 := by
    have h3 : n.natAbs.log2 < 200 := by
      by_cases z : n.natAbs = 0
      · rw [z]; decide
      · exact (Nat.log2_lt z).mpr h
    unfold Builtin.Int.intBits
    split <;> omega
  omega
theorem fmod_b {a n : Int} (h : 1 ≤ n) : 0 ≤ a.fmod n ∧ a.fmod n < n := ⟨Int.fmod_nonneg_of_pos _ (by omega), Int.fmod_lt_of_pos _ (by omega)⟩
theorem fdiv_nn {a n : Int} (h : 0 ≤ a) (h2 : 1 ≤ n) : 0 ≤ a.fdiv n := Int.fdiv_nonneg h (by omega)
theorem does_draw : Does S0 u_law_draw g_law_draw.N spDraw := by
  rintro ds M R Ex ⟨p, ⟨a, b, c⟩, n, many, rfl, hp, ok, h1, h2, hR⟩
  dsimp only [Pool.ok, Pool.d] at ok hp
  obtain ⟨o1, o2, o3, o4, o5⟩ := ok
  dsimp only [u_law_draw, evS, ev, EvS.of, Ev.of, Op2.ev, Cmp.ev, BF.ev, AOp.ev, S0]
  have nz : many ≠ 0 := by omega
  repeat walk_at "ld"
  refine if2 (fun h => ?_) (fun h => ?_)
  · repeat walk_at "ld"
    exact hR _ ⟨a.fdiv many, b, c⟩ (fmod_b h1).1 (fmod_b h1).2 ⟨fdiv_nn (by omega) h1, o2, o3, o4, by show c + (n : Int) ≤ _; omega⟩
  · repeat walk_at "ld"
    refine s_pow (pow3_ok (by omega)) ?_
    repeat walk_at "ld"
    obtain ⟨z0, z1⟩ := fmod_b (a := (b + 15485863 * (c + 1)) ^ Int.toNat 3) (n := 162259276829213363391578010288127) (by decide)
    generalize Int.fmod _ 162259276829213363391578010288127 = z at *
    refine s_pow (pow3_ok (by omega)) ?_
    repeat walk_at "ld"
    exact hR _ ⟨a, b, c + 1⟩ (fmod_b h1).1 (fmod_b h1).2 ⟨o1, o2, o3, by show 0 ≤ c + 1; omega, by show c + 1 + (n : Int) ≤ _; omega⟩
theorem s_draw {p : Addr} {q : Pool} {n : Nat} {many : Int} {M : DM} {R : DK} {Ex : DX} (hp : M p = some q.d) (ok : q.ok (n + 1)) (h1 : 1 ≤ many) (h2 : many < 2 ^ 200) (r : ∀ (d : Int) (q' : Pool), 0 ≤ d → d < many → q'.ok n → R (.int d) (updM M p q'.d)) :
    spDraw ([.ref p, .int many] ++ []) M R Ex := ⟨p, q, n, many, rfl, hp, ok, h1, h2, r⟩
/-! ### numbers out of the pool -/
def Sdraw (i : Nat) : Sg := { S0 with fn := fun j => if j = i then spDraw else no }
def spDivisor : DSp := fun ds M R _ => ∃ (p r : Addr) (q : Pool) (n : Nat) (room : Int), ds = [.ref p, .ref r] ∧ M p = some q.d ∧ M r = some (.lst [.int room]) ∧ p ≠ r ∧ q.ok (n + 1) ∧ 1 ≤ room ∧
  ∀ (d room' : Int) (q' : Pool), 1 ≤ d → d ≤ 6 → d ≤ room → 1 ≤ room' → d * room' ≤ room → q'.ok n → R (.int d) (updM (updM M p q'.d) r (.lst [.int room']))
theorem fdiv_ge1 {a d : Int} (h : 1 ≤ d) (h2 : d ≤ a) : 1 ≤ a.fdiv d := by
  rw [Int.fdiv_eq_ediv_of_nonneg _ (by omega)]
  exact (Int.le_ediv_iff_mul_le (by omega)).mpr (by omega)
theorem fdiv_le {a d : Int} (h : 1 ≤ d) : d * a.fdiv d ≤ a := by
  rw [Int.fdiv_eq_ediv_of_nonneg _ (by omega)]
  exact Int.mul_ediv_self_le (by omega)
theorem does_divisor : Does { S0 with fn := fun _ => spDraw } u_law_divisor g_law_divisor.N spDivisor := by
  rintro ds M R Ex ⟨p, r, q, n, room, rfl, hp, hr, hpr, ok, h1, hR⟩
  dsimp only [u_law_divisor, evS, ev, EvS.of, Ev.of, Op2.ev, Cmp.ev, BF.ev, AOp.ev, S0]
  repeat walk_at "ld"
  refine s_draw hp ok ?_ ?_ fun d q' d0 d1 ok' => ?_
  · split <;> omega
  · split <;> omega
  have hr' : (updM M p q'.d) r = some (.lst [.int room]) := by rw [updM_ne hpr.symm]; exact hr
  have d2 : 1 + d ≤ room ∧ 1 + d ≤ 6 := by split at d1 <;> omega
  repeat walk_at "ld"
  exact hR _ _ _ (by omega) (by omega) (by omega) (fdiv_ge1 (by omega) (by omega)) (fdiv_le (by omega)) ok'
theorem s_divisor {p r : Addr} {q : Pool} {n : Nat} {room : Int} {M : DM} {R : DK} {Ex : DX} (hp : M p = some q.d) (hr : M r = some (.lst [.int room])) (hpr : p ≠ r) (ok : q.ok (n + 1)) (h1 : 1 ≤ room)
    (k : ∀ (d room' : Int) (q' : Pool), 1 ≤ d → d ≤ 6 → d ≤ room → 1 ≤ room' → d * room' ≤ room → q'.ok n → R (.int d) (updM (updM M p q'.d) r (.lst [.int room']))) :
    spDivisor ([.ref p, .ref r] ++ []) M R Ex := ⟨p, r, q, n, room, rfl, hp, hr, hpr, ok, h1, k⟩
/-! steps -/
inductive Stp where
  | lift (c : Nat) (ws : List Int) (m d : Int)
  | swap (i j : Nat)
  | turn (i : Nat)
  deriving DecidableEq
def encV (v : List Int) : D := .tup (v.map .int)
def encS : Stp → D
  | .lift c ws m d => .tup [.str "lift", .int c, encV ws, .int m, .int d]
  | .swap i j => .tup [.str "swap", .int i, .int j]
  | .turn i => .tup [.str "turn", .int i]
def dOf : Stp → Int
  | .lift _ _ _ d => d
  | _ => 1
def dot (a b : List Int) : Int := (List.zipWith (· * ·) a b).sum
def sdone : Stp → List Int → List Int
  | .lift c ws m d, v => v.set c (v.getD c 0 + (dot ws v + m).fdiv d)
  | .swap i j, v => (v.set i (v.getD j 0)).set j (v.getD i 0)
  | .turn i, v => v.set i (-(v.getD i 0))
/-- a good step over n channels -/
def SOk (n : Nat) : Stp → Prop
  | .lift c ws m d => c < n ∧ ws.length = n ∧ ws.getD c 0 = 0 ∧ 1 ≤ d ∧ d < 2 ^ 60 ∧ m.natAbs < 2 ^ 60 ∧ ∀ w ∈ ws, w.natAbs < 2 ^ 60
  | .swap i j => i < j ∧ j < n
  | .turn i => i < n
/-- .. as the laws draw them -/
def SLw (n : Nat) : Stp → Prop
  | .lift c ws m d => c < n ∧ ws.length = n ∧ ws.getD c 0 = 0 ∧ 1 ≤ d ∧ d ≤ 12 ∧ m.natAbs ≤ 20 ∧ ∀ w ∈ ws, w.natAbs ≤ 6
  | .swap i j => i < j ∧ j < n
  | .turn i => i < n
theorem SLw.ok {n : Nat} {s : Stp} (h : SLw n s) : SOk n s := by
  cases s with
  | lift c ws m d => exact ⟨h.1, h.2.1, h.2.2.1, h.2.2.2.1, by have := h.2.2.2.2.1; omega, by have := h.2.2.2.2.2.1; omega, fun w hw => by have := h.2.2.2.2.2.2 w hw; omega⟩
  | swap i j => exact h
  | turn i => exact h
def spWeights : DSp := fun ds M R _ => ∃ (p : Addr) (q : Pool) (k : Nat) (n own : Nat), ds = [.ref p, .int n, .int own] ∧ M p = some q.d ∧ own < n ∧ n ≤ 3 ∧ q.ok (k + 6) ∧
  ∀ (ws : List Int) (q' : Pool), ws.length = n → ws.getD own 0 = 0 → (∀ w ∈ ws, w.natAbs ≤ 6) → q'.ok k → R (encV ws) (updM M p q'.d)
theorem ixN_nat {n i : Nat} (h : i < n) : ixN n (i : Int) = some i := by
  unfold ixN
  rw [if_pos (Int.natCast_nonneg _), if_pos (by omega)]
  rfl
theorem atI_map {v : List Int} {i : Nat} (h : i < v.length) : atI (v.map D.int) (i : Int) = some (.int (v.getD i 0)) := by
  refine atI_nat ?_
  rw [List.getElem?_map, List.getElem?_eq_getElem h]
  simp [List.getD_eq_getElem?_getD, h]
theorem map_set {v : List Int} {i : Nat} {x : Int} : (v.map D.int).set i (.int x) = (v.set i x).map D.int := by
  rw [List.map_set]
theorem pick6 {d : Int} (h0 : 0 ≤ d) (h1 : d < 6) (a b c y e f : Int) : ∃ w : Int, atI [D.int a, .int b, .int c, .int y, .int e, .int f] d = some (.int w) ∧ (w = a ∨ w = b ∨ w = c ∨ w = y ∨ w = e ∨ w = f) := by
  have : d = 0 ∨ d = 1 ∨ d = 2 ∨ d = 3 ∨ d = 4 ∨ d = 5 := by omega
  rcases this with rfl | rfl | rfl | rfl | rfl | rfl
  · exact ⟨a, rfl, by simp⟩
  · exact ⟨b, rfl, by simp⟩
  · exact ⟨c, rfl, by simp⟩
  · exact ⟨y, rfl, by simp⟩
  · exact ⟨e, rfl, by simp⟩
  · exact ⟨f, rfl, by simp⟩
theorem does_weights : Does { S0 with fn := fun _ => spDraw } u_law_weights g_law_weights.N spWeights := by
  rintro ds M R Ex ⟨p, q, k, n, own, rfl, hp, ho, hn, ok, hR⟩
  dsimp only [u_law_weights, evS, ev, EvS.of, Ev.of, Op2.ev, Cmp.ev, BF.ev, BM.ev, AOp.ev, S0]
  repeat walk_at "ld"
  intro l hl0
  have hlp : p ≠ l := ne_none hp hl0
  repeat walk_at "ld"
  refine ⟨by unfold small62; omega, loop_ind (fun rem σ M' => ∃ (x : Option D) (acc : List Int) (q' : Pool), σ = [some (.ref p), some (.int n), some (.int own), some (.ref l), x] ∧ M' = updM (updM M p q'.d) l (.lst (acc.map .int)) ∧ acc.length + rem.length = n ∧ (∀ w ∈ acc, w.natAbs ≤ 6) ∧ q'.ok (k + 2 * rem.length)) ?_ (fun _ _ _ _ => trivial) ?_ ?_⟩
  · refine ⟨none, [], q, rfl, by rw [upd_id hp]; rfl, by simp [rangeD_len], by simp, ok.mono ?_⟩
    rw [rangeD_len]; omega
  · rintro σ M' ⟨x, acc, q', rfl, rfl, hl, hw, ok⟩
    have e : ixN (acc.map D.int).length (own : Int) = some own := ixN_nat (by rw [List.length_map]; simp at hl; omega)
    repeat walk_at "ld"
    simp only [forget, List.getElem?_cons_succ, List.getElem?_cons_zero]
    rw [updM_updM, delM_updM (upd_non hl0 hlp.symm), map_set]
    simp only [List.length_nil, Nat.add_zero] at hl
    exact hR _ _ (by rw [List.length_set]; exact hl) (by simp [List.getD_eq_getElem?_getD, List.getElem?_set, hl, ho]) (fun w hm => by
      rcases List.mem_or_eq_of_mem_set hm with h | h
      · exact hw w h
      · rw [h]; decide) ok
  · rintro d rem σ M' ⟨x, acc, q', rfl, rfl, hl, hw, ok⟩ ih
    refine ⟨_, rfl, ?_⟩
    have ok1 : q'.ok (k + 2 * rem.length + 1 + 1) := ok
    have hl1 : acc.length < sizeLine := by
      simp only [List.length_cons] at hl
      have : 3 ≤ sizeLine := by decide
      omega
    repeat walk_at "ld"
    refine s_draw (by walk_at "mem") ok1 (by decide) (by decide) fun d1 q1 a1 b1 ok2 => ?_
    rw [upd_norm hlp]
    repeat walk_at "ld"
    refine s_draw (by walk_at "mem") ok2 (by decide) (by decide) fun d2 q2 a2 b2 ok3 => ?_
    rw [upd_norm hlp]
    obtain ⟨w, hz, hm⟩ := pick6 a2 b2 0 1 (-1) (d1 - 6) 6 (-6)
    have hl2 : (acc.map D.int).length < sizeLine := by rw [List.length_map]; exact hl1
    repeat walk_at "ld"
    refine ih _ _ ⟨_, acc ++ [w], q2, rfl, by rw [updM_updM, List.map_append]; rfl, ?_, fun y hy => ?_, ok3⟩
    · simp only [List.length_append, List.length_cons, List.length_nil] at hl ⊢; omega
    · rcases List.mem_append.mp hy with h | h
      · exact hw y h
      · simp only [List.mem_singleton] at h
        subst h
        omega
end LK
end

section
set_option maxRecDepth 100000
set_option maxHeartbeats 400000
namespace LK
open PySem L2 LD
local macro_rules | `(tactic| walk_at "non") => `(tactic| first | assumption | (refine upd_non ?_ ?_ <;> first | assumption | (intro z; subst z; simp_all)))
local macro_rules | `(tactic| walk_at "mem") => `(tactic| first | rfl | exact updM_same | assumption | exact isS_ref updM_same | exact isL_ref updM_same | exact isL0_ref updM_same | (apply isS_ref; walk_at "mem") | (apply isL_ref; walk_at "mem") | (apply isL0_ref; walk_at "mem") | (refine upd_keep ?k1 ?k2; (case k2 => assumption); (case k1 => walk_at "mem")) | (refine upd_ne1 ?k1 ?k2; (case k2 => assumption); (case k1 => walk_at "mem")) | (refine upd_ne2 ?k1 ?k2; (case k2 => assumption); (case k1 => walk_at "mem")) | (refine del_keep ?_ ?_; all_goals first | assumption | walk_at "mem"))
local macro_rules | `(tactic| walk_at "side") => `(tactic| first | assumption | omega | decide)
local macro_rules | `(tactic| walk_at "mul") => `(tactic| first | assumption | (exact mul_l (by first | assumption | omega | decide)) | (exact mul_r (by first | assumption | omega | decide)))
local macro_rules | `(tactic| walk_at "div") => `(tactic| first | assumption | (exact div_ok2 (by first | assumption | omega | decide) (by first | assumption | omega | decide)))
local macro_rules | `(tactic| walk_at "ld") => `(tactic| first
  | with_reducible refine' s_seq ?_ | with_reducible refine' s_next ?_ | ((with_reducible refine' s_var ?k1 ?_); (case k1 => rfl)) | with_reducible refine' s_c ?_ | with_reducible refine' s_op ?_ | with_reducible refine' s_un ?_ | with_reducible refine' s_cons ?_ | with_reducible refine' s_nil ?_ | with_reducible refine' s_set ?_ | with_reducible refine' s_bcall ?_
  | with_reducible refine' s_tup ?_ | with_reducible refine' s_lst ?_ | with_reducible refine' s_ife ?_ | with_reducible refine' s_bl ?_ | with_reducible refine' s_exbl ?_ | with_reducible refine' ifT ?_ | with_reducible refine' ifF ?_ | with_reducible refine' ifNT ?_ | with_reducible refine' ifNF ?_ | with_reducible refine' ifO1 ?_ | with_reducible refine' ifO2 rfl ?_ | with_reducible refine' s_ret ?_ | with_reducible refine' s_retg ?_ | with_reducible refine' s_call ?_ | with_reducible refine' s_fld ?_ | with_reducible refine' s_drop ?_ | with_reducible refine' s_bm ?_
  | with_reducible refine' s_and ?_ | with_reducible refine' s_or ?_ | with_reducible refine' s_not ?_ | with_reducible refine' s_tru ?_ | with_reducible refine' s_ifx ?_ | with_reducible refine' s_andV ?_ | with_reducible refine' s_orV ?_ | with_reducible refine' s_notV ?_ | with_reducible refine' s_par2 ?_ | with_reducible refine' s_par3 ?_ | with_reducible refine' s_unp ?_ | with_reducible refine' s_subs ?_ | with_reducible refine' s_sub2 ?_ | with_reducible refine' s_augS ?_ | ((with_reducible refine' s_aug ?k1 ?_); (case k1 => rfl))
  | with_reducible refine' s_add ?_ | with_reducible refine' s_sub ?_ | with_reducible refine' s_neg ?_ | with_reducible refine' s_lt ?_ | with_reducible refine' s_le ?_ | with_reducible refine' s_gt ?_ | with_reducible refine' s_ge ?_ | with_reducible refine' s_addI ?_ | with_reducible refine' s_eqI ?_ | with_reducible refine' s_neI ?_
  | ((with_reducible refine' s_eqG (k := false) ?k1 ?k2 ?k3 ?k4 ?k5 ?_); (case k1 => rfl); (case k2 => rfl); (case k3 => decide +kernel); (case k4 => decide +kernel); (case k5 => decide +kernel)) | ((with_reducible refine' s_eqG (k := true) ?k1 ?k2 ?k3 ?k4 ?k5 ?_); (case k1 => rfl); (case k2 => rfl); (case k3 => decide +kernel); (case k4 => decide +kernel); (case k5 => decide +kernel))
  | ((with_reducible refine' s_neG (k := false) ?k1 ?k2 ?k3 ?k4 ?k5 ?_); (case k1 => rfl); (case k2 => rfl); (case k3 => decide +kernel); (case k4 => decide +kernel); (case k5 => decide +kernel)) | ((with_reducible refine' s_neG (k := true) ?k1 ?k2 ?k3 ?k4 ?k5 ?_); (case k1 => rfl); (case k2 => rfl); (case k3 => decide +kernel); (case k4 => decide +kernel); (case k5 => decide +kernel))
  | ((with_reducible refine' s_mod ?k1 ?_); (case k1 => walk_at "side")) | ((with_reducible refine' s_mul ?k1 ?_); (case k1 => walk_at "mul")) | ((with_reducible refine' s_div ?k1 ?_); (case k1 => walk_at "div"))
  | with_reducible refine' s_isN ?_ | with_reducible refine' s_isNotN ?_
  | ((with_reducible refine' s_idx ?k1 ?k2 ?_); (case k1 => walk_at "mem"); (case k2 => first | rfl | assumption))
  | ((with_reducible refine' s_list ?k1 ?_); (case k1 => walk_at "mem")) | ((with_reducible refine' s_tuple ?k1 ?_); (case k1 => walk_at "mem")) | ((with_reducible refine' s_len ?k1 ?_); (case k1 => walk_at "mem"))
  | with_reducible refine' s_abs ?_ | with_reducible refine' s_max ?_ | with_reducible refine' s_min ?_ | with_reducible refine' s_int ?_ | with_reducible refine' s_intB ?_
  | ((with_reducible refine' s_append ?k1 ?k2 ?_); (case k1 => walk_at "mem"); (case k2 => walk_at "side")) | ((with_reducible refine' ⟨s_tyL ?k1, ?_⟩); (case k1 => walk_at "mem"))
  | with_reducible refine' fr_lst ?_ | with_reducible refine' fr_call ?_ | with_reducible refine' fr_op ?_ | with_reducible refine' fr_fn ?_ | with_reducible refine' fr_mt ?_ | with_reducible refine' fr_prop ?_ | with_reducible refine' fr_sl ?_ | with_reducible refine' fr_var ?_ | with_reducible refine' fr_rev ?_ | with_reducible refine' fr_if ?_ | with_reducible refine' s_meth ?_ | with_reducible refine' s_prop ?_ | with_reducible refine' s_sl ?_ | with_reducible refine' s_noPart ?_ | with_reducible refine' s_part ?_ | with_reducible refine' s_isi ?_ | with_reducible refine' fz_all ?_ | with_reducible refine' fz_tup ?_ | with_reducible refine' fz_lst0 ?_ | with_reducible refine' fz_str ?_ | with_reducible refine' fz_int ?_ | with_reducible refine' fz_obj ?_ | with_reducible refine' s_kget ?_ | with_reducible refine' rev_t ?_ | ((with_reducible refine' rev_l ?k1 ?_); (case k1 => walk_at "mem")) | with_reducible refine' s_rev ?_ | with_reducible refine' s_consS ?_ | with_reducible refine' s_stL ?_ | with_reducible refine' fr_stL ?_ | with_reducible refine' s_lno ?_ | with_reducible refine' s_chain ?_ | with_reducible refine' s_rng1 ?_ | with_reducible refine' s_rng2 ?_ | with_reducible refine' s_enum ?_ | with_reducible refine' s_zip ?_
  | with_reducible refine' s_for ?_ | with_reducible refine' s_iseq ?_
  | ((with_reducible refine' s_setL ?k1 ?k2 ?_); (case k1 => walk_at "mem"); (case k2 => first | rfl | assumption))
  | ((with_reducible refine' s_lenA ?k1 ?_); (case k1 => rfl))
  | ((with_reducible refine' ⟨_, _, rfl, ?k1, ?_⟩); (case k1 => assumption)) | with_reducible refine' ⟨_, _, rfl, ?_⟩ | with_reducible refine' ⟨_, rfl, ?_⟩ | with_reducible refine' ⟨rfl, ?_⟩)
local macro_rules | `(tactic| walk_at "le") => `(tactic| first
  | with_reducible refine' s_next ?_ | ((with_reducible refine' s_var ?k1 ?_); (case k1 => rfl)) | with_reducible refine' s_c ?_ | with_reducible refine' s_op ?_ | with_reducible refine' s_un ?_ | with_reducible refine' s_cons ?_ | with_reducible refine' s_nil ?_ | with_reducible refine' s_set ?_ | with_reducible refine' s_bcall ?_
  | with_reducible refine' s_tup ?_ | with_reducible refine' s_lst ?_ | with_reducible refine' s_bl ?_ | with_reducible refine' s_exbl ?_ | with_reducible refine' ifT ?_ | with_reducible refine' ifF ?_ | with_reducible refine' ifNT ?_ | with_reducible refine' ifNF ?_ | with_reducible refine' ifO1 ?_ | with_reducible refine' ifO2 rfl ?_ | with_reducible refine' s_ret ?_ | with_reducible refine' s_retg ?_ | with_reducible refine' s_call ?_ | with_reducible refine' s_fld ?_ | with_reducible refine' s_drop ?_ | with_reducible refine' s_bm ?_
  | with_reducible refine' s_and ?_ | with_reducible refine' s_or ?_ | with_reducible refine' s_not ?_ | with_reducible refine' s_tru ?_ | with_reducible refine' s_ifx ?_ | with_reducible refine' s_andV ?_ | with_reducible refine' s_orV ?_ | with_reducible refine' s_notV ?_ | with_reducible refine' s_par2 ?_ | with_reducible refine' s_par3 ?_ | with_reducible refine' s_unp ?_ | with_reducible refine' s_subs ?_ | with_reducible refine' s_sub2 ?_ | with_reducible refine' s_augS ?_ | ((with_reducible refine' s_aug ?k1 ?_); (case k1 => rfl))
  | with_reducible refine' s_add ?_ | with_reducible refine' s_sub ?_ | with_reducible refine' s_neg ?_ | with_reducible refine' s_lt ?_ | with_reducible refine' s_le ?_ | with_reducible refine' s_gt ?_ | with_reducible refine' s_ge ?_ | with_reducible refine' s_addI ?_ | with_reducible refine' s_eqI ?_ | with_reducible refine' s_neI ?_
  | ((with_reducible refine' s_eqG (k := false) ?k1 ?k2 ?k3 ?k4 ?k5 ?_); (case k1 => rfl); (case k2 => rfl); (case k3 => decide +kernel); (case k4 => decide +kernel); (case k5 => decide +kernel)) | ((with_reducible refine' s_eqG (k := true) ?k1 ?k2 ?k3 ?k4 ?k5 ?_); (case k1 => rfl); (case k2 => rfl); (case k3 => decide +kernel); (case k4 => decide +kernel); (case k5 => decide +kernel))
  | ((with_reducible refine' s_neG (k := false) ?k1 ?k2 ?k3 ?k4 ?k5 ?_); (case k1 => rfl); (case k2 => rfl); (case k3 => decide +kernel); (case k4 => decide +kernel); (case k5 => decide +kernel)) | ((with_reducible refine' s_neG (k := true) ?k1 ?k2 ?k3 ?k4 ?k5 ?_); (case k1 => rfl); (case k2 => rfl); (case k3 => decide +kernel); (case k4 => decide +kernel); (case k5 => decide +kernel))
  | ((with_reducible refine' s_mod ?k1 ?_); (case k1 => walk_at "side")) | ((with_reducible refine' s_mul ?k1 ?_); (case k1 => walk_at "mul")) | ((with_reducible refine' s_div ?k1 ?_); (case k1 => walk_at "div"))
  | with_reducible refine' s_isN ?_ | with_reducible refine' s_isNotN ?_
  | ((with_reducible refine' s_idx ?k1 ?k2 ?_); (case k1 => walk_at "mem"); (case k2 => first | rfl | assumption))
  | ((with_reducible refine' s_list ?k1 ?_); (case k1 => walk_at "mem")) | ((with_reducible refine' s_tuple ?k1 ?_); (case k1 => walk_at "mem")) | ((with_reducible refine' s_len ?k1 ?_); (case k1 => walk_at "mem"))
  | with_reducible refine' s_abs ?_ | with_reducible refine' s_max ?_ | with_reducible refine' s_min ?_ | with_reducible refine' s_int ?_ | with_reducible refine' s_intB ?_
  | ((with_reducible refine' s_append ?k1 ?k2 ?_); (case k1 => walk_at "mem"); (case k2 => walk_at "side")) | ((with_reducible refine' ⟨s_tyL ?k1, ?_⟩); (case k1 => walk_at "mem"))
  | with_reducible refine' fr_lst ?_ | with_reducible refine' fr_call ?_ | with_reducible refine' fr_op ?_ | with_reducible refine' fr_fn ?_ | with_reducible refine' fr_mt ?_ | with_reducible refine' fr_prop ?_ | with_reducible refine' fr_sl ?_ | with_reducible refine' fr_var ?_ | with_reducible refine' fr_rev ?_ | with_reducible refine' fr_if ?_ | with_reducible refine' s_meth ?_ | with_reducible refine' s_prop ?_ | with_reducible refine' s_sl ?_ | with_reducible refine' s_noPart ?_ | with_reducible refine' s_part ?_ | with_reducible refine' s_isi ?_ | with_reducible refine' fz_all ?_ | with_reducible refine' fz_tup ?_ | with_reducible refine' fz_lst0 ?_ | with_reducible refine' fz_str ?_ | with_reducible refine' fz_int ?_ | with_reducible refine' fz_obj ?_ | with_reducible refine' s_kget ?_ | with_reducible refine' rev_t ?_ | ((with_reducible refine' rev_l ?k1 ?_); (case k1 => walk_at "mem")) | with_reducible refine' s_rev ?_ | with_reducible refine' s_consS ?_ | with_reducible refine' s_stL ?_ | with_reducible refine' fr_stL ?_ | with_reducible refine' s_lno ?_ | with_reducible refine' s_chain ?_ | with_reducible refine' s_rng1 ?_ | with_reducible refine' s_rng2 ?_ | with_reducible refine' s_enum ?_ | with_reducible refine' s_zip ?_
  | with_reducible refine' s_iseq ?_
  | ((with_reducible refine' s_setL ?k1 ?k2 ?_); (case k1 => walk_at "mem"); (case k2 => first | rfl | assumption))
  | ((with_reducible refine' s_lenA ?k1 ?_); (case k1 => rfl))
  | ((with_reducible refine' ⟨_, _, rfl, ?k1, ?_⟩); (case k1 => assumption)) | with_reducible refine' ⟨_, _, rfl, ?_⟩ | with_reducible refine' ⟨_, rfl, ?_⟩ | with_reducible refine' ⟨rfl, ?_⟩)
local macro_rules | `(tactic| walk_at "sq") => `(tactic| with_reducible refine' s_seq ?_)
local macro_rules | `(tactic| walk_at "if") => `(tactic| with_reducible refine' s_ife ?_)
local macro_rules | `(tactic| walk_at "for") => `(tactic| with_reducible refine' s_for ?_)

theorem s_weights {p : Addr} {q : Pool} {k n own : Nat} {M : DM} {R : DK} {Ex : DX} (hp : M p = some q.d) (ho : own < n) (hn : n ≤ 3) (ok : q.ok (k + 6))
    (r : ∀ (ws : List Int) (q' : Pool), ws.length = n → ws.getD own 0 = 0 → (∀ w ∈ ws, w.natAbs ≤ 6) → q'.ok k → R (encV ws) (updM M p q'.d)) : spWeights ([.ref p, .int n, .int own] ++ []) M R Ex := ⟨p, q, k, n, own, rfl, hp, ho, hn, ok, r⟩
def spMore : DSp := fun ds M R _ => ∃ (p : Addr) (q : Pool) (k : Nat), ds = [.ref p] ∧ M p = some q.d ∧ q.ok (k + 2) ∧ ∀ (m : Int) (q' : Pool), m.natAbs ≤ 20 → q'.ok k → R (.int m) (updM M p q'.d)
theorem does_more : Does { S0 with fn := fun _ => spDraw } u_law_more g_law_more.N spMore := by
  rintro ds M R Ex ⟨p, q, k, rfl, hp, ok, hR⟩
  have ok1 : q.ok (k + 1 + 1) := ok
  dsimp only [u_law_more, evS, ev, EvS.of, Ev.of, Op2.ev, Cmp.ev, BF.ev, BM.ev, AOp.ev, S0]
  repeat walk_at "ld"
  refine s_draw hp ok1 (by decide) (by decide) fun d1 q1 a1 b1 ok2 => ?_
  repeat walk_at "ld"
  refine s_draw (by walk_at "mem") ok2 (by decide) (by decide) fun d2 q2 a2 b2 ok3 => ?_
  obtain ⟨w, hz, hm⟩ := pick6 a2 b2 0 1 (-1) (d1 - 20) 20 (-20)
  rw [updM_updM]
  repeat walk_at "ld"
  exact hR w q2 (by omega) ok3
theorem s_more {p : Addr} {q : Pool} {k : Nat} {M : DM} {R : DK} {Ex : DX} (hp : M p = some q.d) (ok : q.ok (k + 2)) (r : ∀ (m : Int) (q' : Pool), m.natAbs ≤ 20 → q'.ok k → R (.int m) (updM M p q'.d)) : spMore ([.ref p] ++ []) M R Ex := ⟨p, q, k, rfl, hp, ok, r⟩
theorem okc {q : Pool} {n : Nat} (h : q.ok n) (m : Nat) (e : n = m := by omega) : q.ok m := e ▸ h
def spLift : DSp := fun ds M R _ => ∃ (p r : Addr) (q : Pool) (k n : Nat) (room : Int), ds = [.ref p, .int n, .ref r] ∧ M p = some q.d ∧ M r = some (.lst [.int room]) ∧ p ≠ r ∧ q.ok (k + 10) ∧ 1 ≤ n ∧ n ≤ 3 ∧ 1 ≤ room ∧
  ∀ (c : Nat) (ws : List Int) (m d room' : Int) (q' : Pool), SLw n (.lift c ws m d) → d ≤ 6 → 1 ≤ room' → d * room' ≤ room → q'.ok k → R (encS (.lift c ws m d)) (updM (updM M p q'.d) r (.lst [.int room']))
theorem does_lift : Does { S0 with fn := fun j => match j with | 0 => spDraw | 1 => spWeights | 2 => spMore | _ => spDivisor } u_law_lift g_law_lift.N spLift := by
  rintro ds M R Ex ⟨p, r, q, k, n, room, rfl, hp, hr, hpr, ok, n1, n3, r1, hR⟩
  dsimp only [u_law_lift, evS, ev, EvS.of, Ev.of, Op2.ev, Cmp.ev, BF.ev, BM.ev, AOp.ev, S0]
  repeat walk_at "ld"
  refine s_draw hp (okc ok (k + 3 + 6 + 1)) (by omega) (by omega) fun c q1 c0 c1 ok1 => ?_
  obtain ⟨c, rfl⟩ := Int.eq_ofNat_of_zero_le c0
  repeat walk_at "ld"
  refine s_weights (by walk_at "mem") (by omega) n3 ok1 fun ws q2 w1 w2 w3 ok2 => ?_
  rw [updM_updM]
  repeat walk_at "ld"
  refine s_more (by walk_at "mem") (okc ok2 (k + 1 + 2)) fun m q3 m1 ok3 => ?_
  rw [updM_updM]
  repeat walk_at "ld"
  refine s_divisor (by walk_at "mem") (by walk_at "mem") hpr ok3 r1 fun d room' q4 d1 d2 d3 e1 e2 ok4 => ?_
  rw [updM_updM]
  repeat walk_at "ld"
  exact hR c ws m d room' q4 ⟨by omega, w1, w2, d1, by omega, m1, w3⟩ d2 e1 e2 ok4
theorem s_lift {p r : Addr} {q : Pool} {k n : Nat} {room : Int} {M : DM} {R : DK} {Ex : DX} (hp : M p = some q.d) (hr : M r = some (.lst [.int room])) (hpr : p ≠ r) (ok : q.ok (k + 10)) (n1 : 1 ≤ n) (n3 : n ≤ 3) (r1 : 1 ≤ room)
    (h : ∀ (c : Nat) (ws : List Int) (m d room' : Int) (q' : Pool), SLw n (.lift c ws m d) → d ≤ 6 → 1 ≤ room' → d * room' ≤ room → q'.ok k → R (encS (.lift c ws m d)) (updM (updM M p q'.d) r (.lst [.int room']))) :
    spLift ([.ref p, .int n, .ref r] ++ []) M R Ex := ⟨p, r, q, k, n, room, rfl, hp, hr, hpr, ok, n1, n3, r1, h⟩
def spPlain : DSp := fun ds M R _ => ∃ (p : Addr) (q : Pool) (k n : Nat), ds = [.ref p, .int n] ∧ M p = some q.d ∧ q.ok (k + 3) ∧ 2 ≤ n ∧ n ≤ 3 ∧ ∀ (s : Stp) (q' : Pool), SLw n s → dOf s = 1 → q'.ok k → R (encS s) (updM M p q'.d)
theorem does_plain : Does { S0 with fn := fun _ => spDraw } u_law_plain g_law_plain.N spPlain := by
  rintro ds M R Ex ⟨p, q, k, n, rfl, hp, ok, n1, n3, hR⟩
  dsimp only [u_law_plain, evS, ev, EvS.of, Ev.of, Op2.ev, Cmp.ev, BF.ev, BM.ev, AOp.ev, S0]
  repeat walk_at "ld"
  refine s_draw hp (okc ok (k + 2 + 1)) (by decide) (by decide) fun w q1 c0 c1 ok1 => ?_
  repeat walk_at "ld"
  refine if2 (fun h => ?_) (fun h => ?_)
  · repeat walk_at "ld"
    refine s_draw (by walk_at "mem") ok1 (by omega) (by omega) fun c q2 d0 d1 ok2 => ?_
    obtain ⟨c, rfl⟩ := Int.eq_ofNat_of_zero_le d0
    rw [updM_updM]
    repeat walk_at "ld"
    exact hR (.turn c) q2 (show c < n by omega) rfl (ok2.mono (by omega))
  · repeat walk_at "ld"
    refine s_draw (by walk_at "mem") ok1 (by omega) (by omega) fun c q2 d0 d1 ok2 => ?_
    obtain ⟨c, rfl⟩ := Int.eq_ofNat_of_zero_le d0
    rw [updM_updM]
    repeat walk_at "ld"
    refine s_draw (by walk_at "mem") ok2 (by omega) (by omega) fun e q3 e0 e1 ok3 => ?_
    obtain ⟨e, rfl⟩ := Int.eq_ofNat_of_zero_le e0
    rw [updM_updM]
    repeat walk_at "ld"
    exact hR (.swap c (c + 1 + e)) q3 ⟨by omega, by omega⟩ rfl ok3
theorem s_plain {p : Addr} {q : Pool} {k n : Nat} {M : DM} {R : DK} {Ex : DX} (hp : M p = some q.d) (ok : q.ok (k + 3)) (n1 : 2 ≤ n) (n3 : n ≤ 3) (r : ∀ (s : Stp) (q' : Pool), SLw n s → dOf s = 1 → q'.ok k → R (encS s) (updM M p q'.d)) :
    spPlain ([.ref p, .int n] ++ []) M R Ex := ⟨p, q, k, n, rfl, hp, ok, n1, n3, r⟩
/-- a lift's own way back; another step as it is -/
def back : Stp → Stp
  | .lift c ws m d => .lift c (ws.map fun w => -w) (d - 1 - m) d
  | s => s
def BOk : Stp → Prop
  | .lift _ ws _ _ => ws.length ≤ 3
  | _ => True
def spBack : DSp := fun ds M R _ => ∃ s : Stp, ds = [encS s] ∧ BOk s ∧ R (encS (back s)) M
theorem does_back : Does S0 u_law_back g_law_back.N spBack := by
  rintro ds M R Ex ⟨s, rfl, hl, hR⟩
  dsimp only [u_law_back, evS, ev, EvS.of, Ev.of, Op2.ev, Cmp.ev, BF.ev, BM.ev, AOp.ev, S0]
  cases s with
  | swap i j =>
    repeat walk_at "ld"
    exact hR
  | turn i =>
    repeat walk_at "ld"
    exact hR
  | lift c ws m d =>
    repeat walk_at "ld"
    refine s_lcMap ws D.int (fun w => .int (0 - w)) (Nat.le_trans (show ws.length ≤ 3 from hl) (by decide)) (fun Q h => ?_) (fun a ha w hw M' o hM' => ⟨_, rfl, fun Q hQ => ?_⟩) ?_
    · repeat walk_at "ld"
      exact h _ fun a M' ha o => rfl
    · repeat walk_at "ld"
      exact hQ
    · repeat walk_at "ld"
      have e : ws.map (fun w => D.int (0 - w)) = (ws.map fun w => -w).map D.int := by simp
      rw [e]
      exact hR
theorem s_back {s : Stp} {M : DM} {R : DK} {Ex : DX} (h : BOk s) (r : R (encS (back s)) M) : spBack ([encS s] ++ []) M R Ex := ⟨s, rfl, h, r⟩
end LK
end

section
set_option maxRecDepth 100000
set_option maxHeartbeats 400000
namespace LK
open PySem L2 LD
local macro_rules | `(tactic| walk_at "non") => `(tactic| first | assumption | (refine upd_non ?_ ?_ <;> first | assumption | (intro z; subst z; simp_all)))
local macro_rules | `(tactic| walk_at "mem") => `(tactic| first | rfl | exact updM_same | assumption | exact isS_ref updM_same | exact isL_ref updM_same | exact isL0_ref updM_same | (apply isS_ref; walk_at "mem") | (apply isL_ref; walk_at "mem") | (apply isL0_ref; walk_at "mem") | (refine upd_keep ?k1 ?k2; (case k2 => assumption); (case k1 => walk_at "mem")) | (refine upd_ne1 ?k1 ?k2; (case k2 => assumption); (case k1 => walk_at "mem")) | (refine upd_ne2 ?k1 ?k2; (case k2 => assumption); (case k1 => walk_at "mem")) | (refine del_keep ?_ ?_; all_goals first | assumption | walk_at "mem"))
local macro_rules | `(tactic| walk_at "side") => `(tactic| first | assumption | omega | decide)
local macro_rules | `(tactic| walk_at "mul") => `(tactic| first | assumption | (exact mul_l (by first | assumption | omega | decide)) | (exact mul_r (by first | assumption | omega | decide)))
local macro_rules | `(tactic| walk_at "div") => `(tactic| first | assumption | (exact div_ok2 (by first | assumption | omega | decide) (by first | assumption | omega | decide)))
local macro_rules | `(tactic| walk_at "ld") => `(tactic| first
  | with_reducible refine' s_seq ?_ | with_reducible refine' s_next ?_ | ((with_reducible refine' s_var ?k1 ?_); (case k1 => rfl)) | with_reducible refine' s_c ?_ | with_reducible refine' s_op ?_ | with_reducible refine' s_un ?_ | with_reducible refine' s_cons ?_ | with_reducible refine' s_nil ?_ | with_reducible refine' s_set ?_ | with_reducible refine' s_bcall ?_
  | with_reducible refine' s_tup ?_ | with_reducible refine' s_lst ?_ | with_reducible refine' s_ife ?_ | with_reducible refine' s_bl ?_ | with_reducible refine' s_exbl ?_ | with_reducible refine' ifT ?_ | with_reducible refine' ifF ?_ | with_reducible refine' ifNT ?_ | with_reducible refine' ifNF ?_ | with_reducible refine' ifO1 ?_ | with_reducible refine' ifO2 rfl ?_ | with_reducible refine' s_ret ?_ | with_reducible refine' s_retg ?_ | with_reducible refine' s_call ?_ | with_reducible refine' s_fld ?_ | with_reducible refine' s_drop ?_ | with_reducible refine' s_bm ?_
  | with_reducible refine' s_and ?_ | with_reducible refine' s_or ?_ | with_reducible refine' s_not ?_ | with_reducible refine' s_tru ?_ | with_reducible refine' s_ifx ?_ | with_reducible refine' s_andV ?_ | with_reducible refine' s_orV ?_ | with_reducible refine' s_notV ?_ | with_reducible refine' s_par2 ?_ | with_reducible refine' s_par3 ?_ | with_reducible refine' s_unp ?_ | with_reducible refine' s_subs ?_ | with_reducible refine' s_sub2 ?_ | with_reducible refine' s_augS ?_ | ((with_reducible refine' s_aug ?k1 ?_); (case k1 => rfl))
  | with_reducible refine' s_add ?_ | with_reducible refine' s_sub ?_ | with_reducible refine' s_neg ?_ | with_reducible refine' s_lt ?_ | with_reducible refine' s_le ?_ | with_reducible refine' s_gt ?_ | with_reducible refine' s_ge ?_ | with_reducible refine' s_addI ?_ | with_reducible refine' s_eqI ?_ | with_reducible refine' s_neI ?_
  | ((with_reducible refine' s_eqG (k := false) ?k1 ?k2 ?k3 ?k4 ?k5 ?_); (case k1 => rfl); (case k2 => rfl); (case k3 => decide +kernel); (case k4 => decide +kernel); (case k5 => decide +kernel)) | ((with_reducible refine' s_eqG (k := true) ?k1 ?k2 ?k3 ?k4 ?k5 ?_); (case k1 => rfl); (case k2 => rfl); (case k3 => decide +kernel); (case k4 => decide +kernel); (case k5 => decide +kernel))
  | ((with_reducible refine' s_neG (k := false) ?k1 ?k2 ?k3 ?k4 ?k5 ?_); (case k1 => rfl); (case k2 => rfl); (case k3 => decide +kernel); (case k4 => decide +kernel); (case k5 => decide +kernel)) | ((with_reducible refine' s_neG (k := true) ?k1 ?k2 ?k3 ?k4 ?k5 ?_); (case k1 => rfl); (case k2 => rfl); (case k3 => decide +kernel); (case k4 => decide +kernel); (case k5 => decide +kernel))
  | ((with_reducible refine' s_mod ?k1 ?_); (case k1 => walk_at "side")) | ((with_reducible refine' s_mul ?k1 ?_); (case k1 => walk_at "mul")) | ((with_reducible refine' s_div ?k1 ?_); (case k1 => walk_at "div"))
  | with_reducible refine' s_isN ?_ | with_reducible refine' s_isNotN ?_
  | ((with_reducible refine' s_idx ?k1 ?k2 ?_); (case k1 => walk_at "mem"); (case k2 => first | rfl | assumption))
  | ((with_reducible refine' s_list ?k1 ?_); (case k1 => walk_at "mem")) | ((with_reducible refine' s_tuple ?k1 ?_); (case k1 => walk_at "mem")) | ((with_reducible refine' s_len ?k1 ?_); (case k1 => walk_at "mem"))
  | with_reducible refine' s_abs ?_ | with_reducible refine' s_max ?_ | with_reducible refine' s_min ?_ | with_reducible refine' s_int ?_ | with_reducible refine' s_intB ?_
  | ((with_reducible refine' s_append ?k1 ?k2 ?_); (case k1 => walk_at "mem"); (case k2 => walk_at "side")) | ((with_reducible refine' ⟨s_tyL ?k1, ?_⟩); (case k1 => walk_at "mem"))
  | with_reducible refine' fr_lst ?_ | with_reducible refine' fr_call ?_ | with_reducible refine' fr_op ?_ | with_reducible refine' fr_fn ?_ | with_reducible refine' fr_mt ?_ | with_reducible refine' fr_prop ?_ | with_reducible refine' fr_sl ?_ | with_reducible refine' fr_var ?_ | with_reducible refine' fr_rev ?_ | with_reducible refine' fr_if ?_ | with_reducible refine' s_meth ?_ | with_reducible refine' s_prop ?_ | with_reducible refine' s_sl ?_ | with_reducible refine' s_noPart ?_ | with_reducible refine' s_part ?_ | with_reducible refine' s_isi ?_ | with_reducible refine' fz_all ?_ | with_reducible refine' fz_tup ?_ | with_reducible refine' fz_lst0 ?_ | with_reducible refine' fz_str ?_ | with_reducible refine' fz_int ?_ | with_reducible refine' fz_obj ?_ | with_reducible refine' s_kget ?_ | with_reducible refine' rev_t ?_ | ((with_reducible refine' rev_l ?k1 ?_); (case k1 => walk_at "mem")) | with_reducible refine' s_rev ?_ | with_reducible refine' s_consS ?_ | with_reducible refine' s_stL ?_ | with_reducible refine' fr_stL ?_ | with_reducible refine' s_lno ?_ | with_reducible refine' s_chain ?_ | with_reducible refine' s_rng1 ?_ | with_reducible refine' s_rng2 ?_ | with_reducible refine' s_enum ?_ | with_reducible refine' s_zip ?_
  | with_reducible refine' s_for ?_ | with_reducible refine' s_iseq ?_
  | ((with_reducible refine' s_setL ?k1 ?k2 ?_); (case k1 => walk_at "mem"); (case k2 => first | rfl | assumption))
  | ((with_reducible refine' s_lenA ?k1 ?_); (case k1 => rfl))
  | ((with_reducible refine' ⟨_, _, rfl, ?k1, ?_⟩); (case k1 => assumption)) | with_reducible refine' ⟨_, _, rfl, ?_⟩ | with_reducible refine' ⟨_, rfl, ?_⟩ | with_reducible refine' ⟨rfl, ?_⟩)
local macro_rules | `(tactic| walk_at "le") => `(tactic| first
  | with_reducible refine' s_next ?_ | ((with_reducible refine' s_var ?k1 ?_); (case k1 => rfl)) | with_reducible refine' s_c ?_ | with_reducible refine' s_op ?_ | with_reducible refine' s_un ?_ | with_reducible refine' s_cons ?_ | with_reducible refine' s_nil ?_ | with_reducible refine' s_set ?_ | with_reducible refine' s_bcall ?_
  | with_reducible refine' s_tup ?_ | with_reducible refine' s_lst ?_ | with_reducible refine' s_bl ?_ | with_reducible refine' s_exbl ?_ | with_reducible refine' ifT ?_ | with_reducible refine' ifF ?_ | with_reducible refine' ifNT ?_ | with_reducible refine' ifNF ?_ | with_reducible refine' ifO1 ?_ | with_reducible refine' ifO2 rfl ?_ | with_reducible refine' s_ret ?_ | with_reducible refine' s_retg ?_ | with_reducible refine' s_call ?_ | with_reducible refine' s_fld ?_ | with_reducible refine' s_drop ?_ | with_reducible refine' s_bm ?_
  | with_reducible refine' s_and ?_ | with_reducible refine' s_or ?_ | with_reducible refine' s_not ?_ | with_reducible refine' s_tru ?_ | with_reducible refine' s_ifx ?_ | with_reducible refine' s_andV ?_ | with_reducible refine' s_orV ?_ | with_reducible refine' s_notV ?_ | with_reducible refine' s_par2 ?_ | with_reducible refine' s_par3 ?_ | with_reducible refine' s_unp ?_ | with_reducible refine' s_subs ?_ | with_reducible refine' s_sub2 ?_ | with_reducible refine' s_augS ?_ | ((with_reducible refine' s_aug ?k1 ?_); (case k1 => rfl))
  | with_reducible refine' s_add ?_ | with_reducible refine' s_sub ?_ | with_reducible refine' s_neg ?_ | with_reducible refine' s_lt ?_ | with_reducible refine' s_le ?_ | with_reducible refine' s_gt ?_ | with_reducible refine' s_ge ?_ | with_reducible refine' s_addI ?_ | with_reducible refine' s_eqI ?_ | with_reducible refine' s_neI ?_
  | ((with_reducible refine' s_eqG (k := false) ?k1 ?k2 ?k3 ?k4 ?k5 ?_); (case k1 => rfl); (case k2 => rfl); (case k3 => decide +kernel); (case k4 => decide +kernel); (case k5 => decide +kernel)) | ((with_reducible refine' s_eqG (k := true) ?k1 ?k2 ?k3 ?k4 ?k5 ?_); (case k1 => rfl); (case k2 => rfl); (case k3 => decide +kernel); (case k4 => decide +kernel); (case k5 => decide +kernel))
  | ((with_reducible refine' s_neG (k := false) ?k1 ?k2 ?k3 ?k4 ?k5 ?_); (case k1 => rfl); (case k2 => rfl); (case k3 => decide +kernel); (case k4 => decide +kernel); (case k5 => decide +kernel)) | ((with_reducible refine' s_neG (k := true) ?k1 ?k2 ?k3 ?k4 ?k5 ?_); (case k1 => rfl); (case k2 => rfl); (case k3 => decide +kernel); (case k4 => decide +kernel); (case k5 => decide +kernel))
  | ((with_reducible refine' s_mod ?k1 ?_); (case k1 => walk_at "side")) | ((with_reducible refine' s_mul ?k1 ?_); (case k1 => walk_at "mul")) | ((with_reducible refine' s_div ?k1 ?_); (case k1 => walk_at "div"))
  | with_reducible refine' s_isN ?_ | with_reducible refine' s_isNotN ?_
  | ((with_reducible refine' s_idx ?k1 ?k2 ?_); (case k1 => walk_at "mem"); (case k2 => first | rfl | assumption))
  | ((with_reducible refine' s_list ?k1 ?_); (case k1 => walk_at "mem")) | ((with_reducible refine' s_tuple ?k1 ?_); (case k1 => walk_at "mem")) | ((with_reducible refine' s_len ?k1 ?_); (case k1 => walk_at "mem"))
  | with_reducible refine' s_abs ?_ | with_reducible refine' s_max ?_ | with_reducible refine' s_min ?_ | with_reducible refine' s_int ?_ | with_reducible refine' s_intB ?_
  | ((with_reducible refine' s_append ?k1 ?k2 ?_); (case k1 => walk_at "mem"); (case k2 => walk_at "side")) | ((with_reducible refine' ⟨s_tyL ?k1, ?_⟩); (case k1 => walk_at "mem"))
  | with_reducible refine' fr_lst ?_ | with_reducible refine' fr_call ?_ | with_reducible refine' fr_op ?_ | with_reducible refine' fr_fn ?_ | with_reducible refine' fr_mt ?_ | with_reducible refine' fr_prop ?_ | with_reducible refine' fr_sl ?_ | with_reducible refine' fr_var ?_ | with_reducible refine' fr_rev ?_ | with_reducible refine' fr_if ?_ | with_reducible refine' s_meth ?_ | with_reducible refine' s_prop ?_ | with_reducible refine' s_sl ?_ | with_reducible refine' s_noPart ?_ | with_reducible refine' s_part ?_ | with_reducible refine' s_isi ?_ | with_reducible refine' fz_all ?_ | with_reducible refine' fz_tup ?_ | with_reducible refine' fz_lst0 ?_ | with_reducible refine' fz_str ?_ | with_reducible refine' fz_int ?_ | with_reducible refine' fz_obj ?_ | with_reducible refine' s_kget ?_ | with_reducible refine' rev_t ?_ | ((with_reducible refine' rev_l ?k1 ?_); (case k1 => walk_at "mem")) | with_reducible refine' s_rev ?_ | with_reducible refine' s_consS ?_ | with_reducible refine' s_stL ?_ | with_reducible refine' fr_stL ?_ | with_reducible refine' s_lno ?_ | with_reducible refine' s_chain ?_ | with_reducible refine' s_rng1 ?_ | with_reducible refine' s_rng2 ?_ | with_reducible refine' s_enum ?_ | with_reducible refine' s_zip ?_
  | with_reducible refine' s_iseq ?_
  | ((with_reducible refine' s_setL ?k1 ?k2 ?_); (case k1 => walk_at "mem"); (case k2 => first | rfl | assumption))
  | ((with_reducible refine' s_lenA ?k1 ?_); (case k1 => rfl))
  | ((with_reducible refine' ⟨_, _, rfl, ?k1, ?_⟩); (case k1 => assumption)) | with_reducible refine' ⟨_, _, rfl, ?_⟩ | with_reducible refine' ⟨_, rfl, ?_⟩ | with_reducible refine' ⟨rfl, ?_⟩)
local macro_rules | `(tactic| walk_at "sq") => `(tactic| with_reducible refine' s_seq ?_)
local macro_rules | `(tactic| walk_at "if") => `(tactic| with_reducible refine' s_ife ?_)
local macro_rules | `(tactic| walk_at "for") => `(tactic| with_reducible refine' s_for ?_)

/-! ### the laws' chains -/
def pV (v : List Int) : PyData := .tuple (v.map .int)
theorem encOkV : EncOk encV pV 1 := EncOk.int.tup
def pS : Stp → PyData
  | .lift c ws m d => .tuple [.str "lift", .int c, pV ws, .int m, .int d]
  | .swap i j => .tuple [.str "swap", .int i, .int j]
  | .turn i => .tuple [.str "turn", .int i]
theorem encOkS : EncOk encS pS 2 := by
  refine ⟨fun s => ?_, fun s => ?_, fun s => ?_, fun s t => ?_⟩
  · cases s with
    | lift c ws m d =>
      have e := encOkV.dp ws
      simp only [encS, pS, toP0, toPs, e, Option.map_some]
    | swap i j => rfl
    | turn i => rfl
  · cases s with
    | lift c ws m d =>
      have e := encOkV.lay ws
      simp only [pS, PyData.canLay0, PyData.canLayAll0, e, Bool.and_true]
      decide +kernel
    | swap i j => simp only [pS, PyData.canLay0, PyData.canLayAll0, Bool.and_true]; decide +kernel
    | turn i => simp only [pS, PyData.canLay0, PyData.canLayAll0, Bool.and_true]; decide +kernel
  · cases s with
    | lift c ws m d =>
      have e := encOkV.dep ws
      simp only [pS, PyData.depth, PyData.depthAll]
      omega
    | swap i j => simp only [pS, PyData.depth, PyData.depthAll]; omega
    | turn i => simp only [pS, PyData.depth, PyData.depthAll]; omega
  · have h1 : (("lift" : Str) == ("swap" : Str)) = false := by decide +kernel
    have h2 : (("lift" : Str) == ("turn" : Str)) = false := by decide +kernel
    have h3 : (("swap" : Str) == ("lift" : Str)) = false := by decide +kernel
    have h4 : (("swap" : Str) == ("turn" : Str)) = false := by decide +kernel
    have h5 : (("turn" : Str) == ("lift" : Str)) = false := by decide +kernel
    have h6 : (("turn" : Str) == ("swap" : Str)) = false := by decide +kernel
    have ev := fun a b : List Int => encOkV.eq a b
    cases s <;> cases t <;> simp [pS, PyData.eqv, PyData.eqvAll, h1, h2, h3, h4, h5, h6, ev, Int.ofNat_inj]
/-- the product of the divisors -/
def grid : List Stp → Int
  | [] => 1
  | .lift _ _ _ d :: ss => d * grid ss
  | _ :: ss => grid ss
theorem grid_cons (s : Stp) (ss : List Stp) : grid (s :: ss) = dOf s * grid ss := by cases s <;> simp [grid, dOf]
theorem grid_app (a b : List Stp) : grid (a ++ b) = grid a * grid b := by
  induction a with
  | nil => simp [grid]
  | cons s a ih => rw [List.cons_append, grid_cons, grid_cons, ih, Int.mul_assoc]
theorem SLw.d1 {n : Nat} {s : Stp} (h : SLw n s) : 1 ≤ dOf s := by
  cases s with
  | lift c ws m d => exact h.2.2.2.1
  | _ => exact Int.le_refl _
theorem grid_pos {n : Nat} : ∀ {ss : List Stp}, (∀ s ∈ ss, SLw n s) → 1 ≤ grid ss
  | [], _ => Int.le_refl _
  | s :: ss, h => by
    rw [grid_cons]
    have h1 := (h s List.mem_cons_self).d1
    have h2 := grid_pos (ss := ss) fun t ht => h t (List.mem_cons_of_mem _ ht)
    have := Int.mul_le_mul h1 h2 (by omega) (by omega)
    omega
def spMoves : DSp := fun ds M R _ => ∃ (p : Addr) (q : Pool) (k n most : Nat) (pr : Int), ds = [.ref p, .int n, .int most, .int pr] ∧ M p = some q.d ∧ q.ok (k + 11 * most + 1) ∧ 2 ≤ n ∧ n ≤ 3 ∧ most ≤ 1000 ∧ 1 ≤ pr ∧
  ∀ (ss : List Stp) (q' : Pool), (∀ s ∈ ss, SLw n s) → ss.length ≤ most → grid ss ≤ pr → q'.ok k → R (.lst (ss.map encS)) (updM M p q'.d)
theorem s_moves {p : Addr} {q : Pool} {k n most : Nat} {pr : Int} {M : DM} {R : DK} {Ex : DX} (hp : M p = some q.d) (ok : q.ok (k + 11 * most + 1)) (n1 : 2 ≤ n) (n3 : n ≤ 3) (hm : most ≤ 1000) (h1 : 1 ≤ pr)
    (r : ∀ (ss : List Stp) (q' : Pool), (∀ s ∈ ss, SLw n s) → ss.length ≤ most → grid ss ≤ pr → q'.ok k → R (.lst (ss.map encS)) (updM M p q'.d)) : spMoves ([.ref p, .int n, .int most, .int pr] ++ []) M R Ex := ⟨p, q, k, n, most, pr, rfl, hp, ok, n1, n3, hm, h1, r⟩
def Smv : Sg := { S0 with fn := fun j => match j with | 0 => spDraw | 1 => spBack | 2 => spLift | _ => spPlain }
section
variable {M : DM} {Z : DEnds} {p r f : Addr} {q q' : Pool} {k n most : Nat} {pr way room : Int} {x4 : Option D} {ss : List Stp}
abbrev mSt (p r f : Addr) (n most : Nat) (pr : Int) (x4 : Option D) (x7 x8 : Option D) : DSt := [some (.ref p), some (.int n), some (.int most), some (.int pr), x4, some (.ref r), some (.ref f), x7, x8]
abbrev mM (M : DM) (p r f : Addr) (q : Pool) (room : Int) (ss : List Stp) : DM := updM (updM (updM M p q.d) r (.lst [.int room])) f (.lst (ss.map encS))
theorem movesB (hpr : p ≠ r) (hpf : p ≠ f) (hfr : f ≠ r) (ok : q.ok (k + 10)) (n1 : 2 ≤ n) (n3 : n ≤ 3) (r1 : 1 ≤ room) (hz : ss.length < sizeLine)
    (hk : ∀ (s : Stp) (q3 : Pool) (room' : Int), SLw n s → 1 ≤ room' → dOf s * room' ≤ room → q3.ok k → Z.nx (mSt p r f n most pr x4 (some (.int way)) (some (encS s))) (mM M p r f q3 room' (ss ++ [s]))) :
    (evS Smv u_law_moves_4).b Z (mSt p r f n most pr x4 (some (.int way)) (some .non)) (mM M p r f q room ss) := by
  dsimp only [u_law_moves_4, u_law_moves_3, evS, ev, EvS.of, Ev.of, Op2.ev, Cmp.ev, BF.ev, BM.ev, AOp.ev, S0, Smv]
  have hz' : (ss.map encS).length < sizeLine := by rw [List.length_map]; exact hz
  repeat walk_at "ld"
  refine if2 (fun hw => ?_) (fun hw => ?_)
  · repeat walk_at "ld"
    refine s_lift (by walk_at "mem") (by walk_at "mem") hpr ok (by omega) n3 r1 fun c ws m d room' q4 sl d6 e1 e2 ok4 => ?_
    rw [up3 hpr hpf, upd_norm hfr.symm]
    repeat walk_at "ld"
    rw [updM_updM]
    have h := hk (.lift c ws m d) q4 room' sl e1 e2 ok4
    rw [mM, List.map_append] at h
    exact h
  · repeat walk_at "ld"
    refine s_plain (by walk_at "mem") (ok.mono (show k + 3 ≤ _ by omega)) n1 n3 fun s q4 sl d1 ok4 => ?_
    rw [up3 hpr hpf]
    repeat walk_at "ld"
    rw [updM_updM]
    have h := hk s q4 room sl r1 (by rw [d1]; omega) ok4
    rw [mM, List.map_append] at h
    exact h
theorem isNonS (s : Stp) : isNon (encS s) = false := by cases s <;> rfl
theorem movesC {s : Stp} (hfr : f ≠ r) (hz : ss.length < sizeLine) (hk : Z.nx (mSt p r f n most pr x4 (some (.int way)) (some (encS s))) (mM M p r f q room (ss ++ [s]))) :
    (evS Smv u_law_moves_4).b Z (mSt p r f n most pr x4 (some (.int way)) (some (encS s))) (mM M p r f q room ss) := by
  dsimp only [u_law_moves_4, u_law_moves_3, evS, ev, EvS.of, Ev.of, Op2.ev, Cmp.ev, BF.ev, BM.ev, AOp.ev, S0, Smv]
  have hz' : (ss.map encS).length < sizeLine := by rw [List.length_map]; exact hz
  repeat walk_at "ld"
  refine ifO2 (isNonS s) ?_
  repeat walk_at "ld"
  rw [updM_updM]
  have h := hk
  rw [mM, List.map_append] at h
  exact h
theorem SLw_back {c : Nat} {ws : List Int} {m d : Int} (h : SLw n (.lift c ws m d)) (hm : (d - 1 - m).natAbs ≤ 20) : SLw n (back (.lift c ws m d)) := by
  refine ⟨h.1, by rw [List.length_map]; exact h.2.1, ?_, h.2.2.2.1, h.2.2.2.2.1, hm, fun w hw => ?_⟩
  · have := h.2.2.1
    rw [List.getD_eq_getElem?_getD] at this ⊢
    rw [List.getElem?_map]
    cases e : ws[c]? with
    | none => rfl
    | some w => rw [e] at this; simp at this; simp [this]
  · obtain ⟨w', h1, rfl⟩ := List.mem_map.mp hw
    have := h.2.2.2.2.2.2 w' h1
    omega
/-- what is done with the step t -/
theorem movesT {t : Stp} (hpr : p ≠ r) (hpf : p ≠ f) (hfr : f ≠ r) (r1 : 1 ≤ room) (ht : ∀ c ws m d, t = .lift c ws m d → 1 ≤ d ∧ d ≤ 12)
    (hk : ∀ room', 1 ≤ room' → dOf t * room' ≤ room → (∀ c ws m d, t = .lift c ws m d → m.natAbs ≤ 20) → Z.nx (mSt p r f n most pr x4 (some (.int way)) (some (encS t))) (mM M p r f q room' ss))
    (hn : Z.nx (mSt p r f n most pr x4 (some (.int way)) (some .non)) (mM M p r f q room ss)) :
    (evS Smv (.cons (.ife (.and (.cmp .eq (.idx (.var 8) (.int 0)) (.str ("lift" : Str))) (.or (.cmp .gt (.idx (.var 8) (.int 4)) (.idx (.var 5) (.int 0))) (.cmp .gt (.bcall .abs (.cons (.idx (.var 8) (.int 3)) .nil)) (.int 20)))) (.cons (.set 8 .non) .nil) u_law_moves_1) .nil)).b Z
      (mSt p r f n most pr x4 (some (.int way)) (some (encS t))) (mM M p r f q room ss) := by
  dsimp only [u_law_moves_1, evS, ev, EvS.of, Ev.of, Op2.ev, Cmp.ev, BF.ev, BM.ev, AOp.ev, S0, Smv]
  cases t with
  | swap i j =>
    repeat walk_at "ld"
    exact hk room r1 (by show 1 * room ≤ room; omega) (fun _ _ _ _ e => by cases e)
  | turn i =>
    repeat walk_at "ld"
    exact hk room r1 (by show 1 * room ≤ room; omega) (fun _ _ _ _ e => by cases e)
  | lift c ws m d =>
    obtain ⟨d1, d2⟩ := ht c ws m d rfl
    repeat walk_at "ld"
    refine if2 (fun h => ?_) (fun h => ?_)
    · repeat walk_at "ld"
      exact hn
    · repeat walk_at "ld"
      refine if2 (fun h2 => ?_) (fun h2 => ?_)
      · repeat walk_at "ld"
        exact hn
      · repeat walk_at "ld"
        have h3 := hk (room.fdiv d) (fdiv_ge1 d1 (by omega)) (fdiv_le d1) (fun c' ws' m' d' e => by
          cases e
          split at h2 <;> omega)
        rw [upd_norm hfr.symm]
        exact h3
theorem atI_last {xs : List D} {x : D} : atI (xs ++ [x]) (-1) = some x := by
  have e : ixN (xs ++ [x]).length (-1) = some xs.length := by
    unfold ixN
    rw [if_neg (by decide)]
    simp only [List.length_append, List.length_cons, List.length_nil]
    split
    · congr 1; omega
    · omega
  unfold atI
  rw [e]
  simp
theorem movesA {t0 : Stp} {ss0 : List Stp} (hss : ss = ss0 ++ [t0]) (hpr : p ≠ r) (hpf : p ≠ f) (hfr : f ≠ r) (r1 : 1 ≤ room) (w7 : 7 ≤ way) (w8 : way < 9) (hs : SLw n t0) (n3 : n ≤ 3)
    (hk : ∀ (t : Stp) (room' : Int), SLw n t → 1 ≤ room' → dOf t * room' ≤ room → Z.nx (mSt p r f n most pr x4 (some (.int way)) (some (encS t))) (mM M p r f q room' ss))
    (hn : Z.nx (mSt p r f n most pr x4 (some (.int way)) (some .non)) (mM M p r f q room ss)) :
    (evS Smv u_law_moves_2).b Z (mSt p r f n most pr x4 (some (.int way)) (some .non)) (mM M p r f q room ss) := by
  dsimp only [u_law_moves_2, evS, ev, EvS.of, Ev.of, Op2.ev, Cmp.ev, BF.ev, BM.ev, AOp.ev, S0, Smv]
  have a1 : atI (ss.map encS) (-1) = some (encS t0) := by rw [hss, List.map_append]; exact atI_last
  have hb : BOk t0 := by
    clear hk hn a1 hss
    cases t0 with
    | lift c ws m d => show ws.length ≤ 3; rw [hs.2.1]; exact n3
    | _ => trivial
  walk_at "sq"
  repeat walk_at "le"
  refine s_back hb ?_
  have a2 : ∃ t, atI [encS t0, encS (back t0)] (way - 7) = some (encS t) ∧ (t = t0 ∨ t = back t0) := by
    have : way = 7 ∨ way = 8 := by omega
    rcases this with rfl | rfl
    · exact ⟨t0, rfl, .inl rfl⟩
    · exact ⟨back t0, rfl, .inr rfl⟩
  obtain ⟨t, a3, a4⟩ := a2
  repeat walk_at "le"
  refine movesT hpr hpf hfr r1 (fun c ws m d e => ?_) (fun room' h1 h2 h3 => hk t room' ?_ h1 h2) hn
  · rcases a4 with rfl | rfl
    · subst e; exact ⟨hs.2.2.2.1, hs.2.2.2.2.1⟩
    · cases t0 with
      | lift c' ws' m' d' => cases e; exact ⟨hs.2.2.2.1, hs.2.2.2.2.1⟩
      | swap _ _ => cases e
      | turn _ => cases e
  · rcases a4 with rfl | rfl
    · exact hs
    · cases t0 with
      | lift c' ws' m' d' => exact SLw_back hs (h3 _ _ _ _ rfl)
      | swap _ _ => exact hs
      | turn _ => exact hs
theorem movesBody {x7 x8 : Option D} (hpr : p ≠ r) (hpf : p ≠ f) (hfr : f ≠ r) (ok : q.ok (k + 11)) (n1 : 2 ≤ n) (n3 : n ≤ 3) (hs : ∀ s ∈ ss, SLw n s) (r1 : 1 ≤ room) (hz : ss.length < sizeLine)
    (ih : ∀ (s : Stp) (q3 : Pool) (room' way : Int), SLw n s → 1 ≤ room' → dOf s * room' ≤ room → q3.ok k → Z.nx (mSt p r f n most pr x4 (some (.int way)) (some (encS s))) (mM M p r f q3 room' (ss ++ [s]))) :
    (evS Smv u_law_moves_5).b Z (mSt p r f n most pr x4 x7 x8) (mM M p r f q room ss) := by
  dsimp only [u_law_moves_5, evS, ev, EvS.of, Ev.of, Op2.ev, Cmp.ev, BF.ev, BM.ev, AOp.ev, S0, Smv]
  walk_at "sq"
  repeat walk_at "le"
  refine s_draw (by walk_at "mem") (okc ok (k + 10 + 1)) (by decide) (by decide) fun way q2 w0 w1 ok3 => ?_
  rw [up3 hpr hpf]
  repeat walk_at "le"
  walk_at "sq"
  walk_at "if"
  repeat walk_at "le"
  refine s_neRL (ys := []) encOkS (by decide) (xs := ss) updM_same ?_
  repeat walk_at "le"
  refine if2n (fun hn => ?_) (fun hn => ?_)
  · repeat walk_at "le"
    refine if2 (fun hw => ?_) (fun hw => ?_)
    · obtain ⟨ss0, t0, e⟩ : ∃ ss0 t0, ss = ss0 ++ [t0] := ⟨ss.dropLast, ss.getLast hn, (List.dropLast_concat_getLast hn).symm⟩
      refine movesA e hpr hpf hfr r1 (by omega) (by omega) (hs t0 (by rw [e]; simp)) n3 (fun t room' h1 h2 h3 => ?_) ?_
      · exact movesC hfr hz (ih t q2 room' way h1 h2 h3 (ok3.mono (by omega)))
      · exact movesB hpr hpf hfr ok3 n1 n3 r1 hz fun s q3 room' h1 h2 h3 h4 => ih s q3 room' way h1 h2 h3 h4
    · repeat walk_at "le"
      exact movesB hpr hpf hfr ok3 n1 n3 r1 hz fun s q3 room' h1 h2 h3 h4 => ih s q3 room' way h1 h2 h3 h4
  · repeat walk_at "le"
    exact movesB hpr hpf hfr ok3 n1 n3 r1 hz fun s q3 room' h1 h2 h3 h4 => ih s q3 room' way h1 h2 h3 h4
end
theorem does_moves : Does Smv u_law_moves g_law_moves.N spMoves := by
  rintro ds M R Ex ⟨p, q, k, n, most, pr, rfl, hp, ok, n1, n3, hm, h1, hR⟩
  dsimp only [u_law_moves, u_law_moves_6, evS, ev, EvS.of, Ev.of, Op2.ev, Cmp.ev, BF.ev, BM.ev, AOp.ev, S0, Smv]
  repeat walk_at "ld"
  intro r hr0
  have hpr : p ≠ r := ne_none hp hr0
  repeat walk_at "ld"
  intro f hf0
  obtain ⟨hf1, hfr⟩ := upd_of_non hf0
  have hpf : p ≠ f := ne_none hp hf1
  repeat walk_at "ld"
  refine s_draw (by walk_at "mem") ok (by omega) (by omega) fun t q1 t0 t1 ok1 => ?_
  rw [show M = updM M p q.d from (upd_id hp).symm, up3 hpr hpf]
  refine ⟨by unfold small62; omega, loop_ind (fun rem σ M' => ∃ (x4 x7 x8 : Option D) (ss : List Stp) (q' : Pool) (room : Int), σ = mSt p r f n most pr x4 x7 x8 ∧ M' = mM M p r f q' room ss ∧ ss.length + rem.length ≤ most ∧ (∀ s ∈ ss, SLw n s) ∧ 1 ≤ room ∧ grid ss * room ≤ pr ∧ q'.ok (k + 11 * rem.length)) ?_ (fun _ _ _ _ => trivial) ?_ ?_⟩
  · refine ⟨none, none, none, [], q1, pr, rfl, rfl, ?_, by simp, h1, by simp [grid], ok1.mono ?_⟩
    · rw [rangeD_len]; simp; omega
    · rw [rangeD_len]; omega
  · rintro σ M' ⟨x4, x7, x8, ss, q', room, rfl, rfl, hl, hs, r1, hg, ok'⟩
    repeat walk_at "ld"
    refine fz_lst updM_same ?_
    repeat walk_at "ld"
    simp only [forget, List.getElem?_cons_succ, List.getElem?_cons_zero]
    rw [del_up (upd_non hf1 hpf.symm) (upd_non hr0 hpr.symm) hfr]
    refine hR ss q' hs (by simpa using hl) ?_ (ok'.mono (by omega))
    have := Int.mul_le_mul_of_nonneg_left r1 (show 0 ≤ grid ss by have := grid_pos hs; omega)
    omega
  · rintro d rem σ M' ⟨x4, x7, x8, ss, q', room, rfl, rfl, hl, hs, r1, hg, ok'⟩ ih
    refine ⟨_, rfl, ?_⟩
    simp only [List.length_cons] at hl
    have hz : ss.length < sizeLine := by
      have : 1000 ≤ sizeLine := by decide
      omega
    refine movesBody (x4 := some d) hpr hpf hfr ok' n1 n3 hs r1 hz fun s q3 room' way h1 h2 h3 h4 => ih _ _ ⟨_, _, _, _, _, _, rfl, rfl, ?_, fun s' hs' => ?_, h2, ?_, h4⟩
    · simp; omega
    · rcases List.mem_append.mp hs' with h | h
      · exact hs s' h
      · simp only [List.mem_singleton] at h; subst h; exact h1
    · rw [grid_app]
      have e : grid [s] = dOf s := by rw [grid_cons]; simp [grid]
      rw [e, Int.mul_assoc]
      have := Int.mul_le_mul_of_nonneg_left h3 (show 0 ≤ grid ss by have := grid_pos hs; omega)
      omega
end LK
end

section
set_option maxRecDepth 100000
set_option maxHeartbeats 400000
namespace LK
open PySem L2 LD
local macro_rules | `(tactic| walk_at "non") => `(tactic| first | assumption | (refine upd_non ?_ ?_ <;> first | assumption | (intro z; subst z; simp_all)))
local macro_rules | `(tactic| walk_at "mem") => `(tactic| first | rfl | exact updM_same | assumption | exact isS_ref updM_same | exact isL_ref updM_same | exact isL0_ref updM_same | (apply isS_ref; walk_at "mem") | (apply isL_ref; walk_at "mem") | (apply isL0_ref; walk_at "mem") | (refine upd_keep ?k1 ?k2; (case k2 => assumption); (case k1 => walk_at "mem")) | (refine upd_ne1 ?k1 ?k2; (case k2 => assumption); (case k1 => walk_at "mem")) | (refine upd_ne2 ?k1 ?k2; (case k2 => assumption); (case k1 => walk_at "mem")) | (refine del_keep ?_ ?_; all_goals first | assumption | walk_at "mem"))
local macro_rules | `(tactic| walk_at "side") => `(tactic| first | assumption | omega | decide)
local macro_rules | `(tactic| walk_at "mul") => `(tactic| first | assumption | (exact mul_l (by first | assumption | omega | decide)) | (exact mul_r (by first | assumption | omega | decide)))
local macro_rules | `(tactic| walk_at "div") => `(tactic| first | assumption | (exact div_ok2 (by first | assumption | omega | decide) (by first | assumption | omega | decide)))
local macro_rules | `(tactic| walk_at "ld") => `(tactic| first
  | with_reducible refine' s_seq ?_ | with_reducible refine' s_next ?_ | ((with_reducible refine' s_var ?k1 ?_); (case k1 => rfl)) | with_reducible refine' s_c ?_ | with_reducible refine' s_op ?_ | with_reducible refine' s_un ?_ | with_reducible refine' s_cons ?_ | with_reducible refine' s_nil ?_ | with_reducible refine' s_set ?_ | with_reducible refine' s_bcall ?_
  | with_reducible refine' s_tup ?_ | with_reducible refine' s_lst ?_ | with_reducible refine' s_ife ?_ | with_reducible refine' s_bl ?_ | with_reducible refine' s_exbl ?_ | with_reducible refine' ifT ?_ | with_reducible refine' ifF ?_ | with_reducible refine' ifNT ?_ | with_reducible refine' ifNF ?_ | with_reducible refine' ifO1 ?_ | with_reducible refine' ifO2 rfl ?_ | with_reducible refine' s_ret ?_ | with_reducible refine' s_retg ?_ | with_reducible refine' s_call ?_ | with_reducible refine' s_fld ?_ | with_reducible refine' s_drop ?_ | with_reducible refine' s_bm ?_
  | with_reducible refine' s_and ?_ | with_reducible refine' s_or ?_ | with_reducible refine' s_not ?_ | with_reducible refine' s_tru ?_ | with_reducible refine' s_ifx ?_ | with_reducible refine' s_andV ?_ | with_reducible refine' s_orV ?_ | with_reducible refine' s_notV ?_ | with_reducible refine' s_par2 ?_ | with_reducible refine' s_par3 ?_ | with_reducible refine' s_unp ?_ | with_reducible refine' s_subs ?_ | with_reducible refine' s_sub2 ?_ | with_reducible refine' s_augS ?_ | ((with_reducible refine' s_aug ?k1 ?_); (case k1 => rfl))
  | with_reducible refine' s_add ?_ | with_reducible refine' s_sub ?_ | with_reducible refine' s_neg ?_ | with_reducible refine' s_lt ?_ | with_reducible refine' s_le ?_ | with_reducible refine' s_gt ?_ | with_reducible refine' s_ge ?_ | with_reducible refine' s_addI ?_ | with_reducible refine' s_eqI ?_ | with_reducible refine' s_neI ?_
  | ((with_reducible refine' s_eqG (k := false) ?k1 ?k2 ?k3 ?k4 ?k5 ?_); (case k1 => rfl); (case k2 => rfl); (case k3 => decide +kernel); (case k4 => decide +kernel); (case k5 => decide +kernel)) | ((with_reducible refine' s_eqG (k := true) ?k1 ?k2 ?k3 ?k4 ?k5 ?_); (case k1 => rfl); (case k2 => rfl); (case k3 => decide +kernel); (case k4 => decide +kernel); (case k5 => decide +kernel))
  | ((with_reducible refine' s_neG (k := false) ?k1 ?k2 ?k3 ?k4 ?k5 ?_); (case k1 => rfl); (case k2 => rfl); (case k3 => decide +kernel); (case k4 => decide +kernel); (case k5 => decide +kernel)) | ((with_reducible refine' s_neG (k := true) ?k1 ?k2 ?k3 ?k4 ?k5 ?_); (case k1 => rfl); (case k2 => rfl); (case k3 => decide +kernel); (case k4 => decide +kernel); (case k5 => decide +kernel))
  | ((with_reducible refine' s_mod ?k1 ?_); (case k1 => walk_at "side")) | ((with_reducible refine' s_mul ?k1 ?_); (case k1 => walk_at "mul")) | ((with_reducible refine' s_div ?k1 ?_); (case k1 => walk_at "div"))
  | with_reducible refine' s_isN ?_ | with_reducible refine' s_isNotN ?_
  | ((with_reducible refine' s_idx ?k1 ?k2 ?_); (case k1 => walk_at "mem"); (case k2 => first | rfl | assumption))
  | ((with_reducible refine' s_list ?k1 ?_); (case k1 => walk_at "mem")) | ((with_reducible refine' s_tuple ?k1 ?_); (case k1 => walk_at "mem")) | ((with_reducible refine' s_len ?k1 ?_); (case k1 => walk_at "mem"))
  | with_reducible refine' s_abs ?_ | with_reducible refine' s_max ?_ | with_reducible refine' s_min ?_ | with_reducible refine' s_int ?_ | with_reducible refine' s_intB ?_
  | ((with_reducible refine' s_append ?k1 ?k2 ?_); (case k1 => walk_at "mem"); (case k2 => walk_at "side")) | ((with_reducible refine' ⟨s_tyL ?k1, ?_⟩); (case k1 => walk_at "mem"))
  | with_reducible refine' fr_lst ?_ | with_reducible refine' fr_call ?_ | with_reducible refine' fr_op ?_ | with_reducible refine' fr_fn ?_ | with_reducible refine' fr_mt ?_ | with_reducible refine' fr_prop ?_ | with_reducible refine' fr_sl ?_ | with_reducible refine' fr_var ?_ | with_reducible refine' fr_rev ?_ | with_reducible refine' fr_if ?_ | with_reducible refine' s_meth ?_ | with_reducible refine' s_prop ?_ | with_reducible refine' s_sl ?_ | with_reducible refine' s_noPart ?_ | with_reducible refine' s_part ?_ | with_reducible refine' s_isi ?_ | with_reducible refine' fz_all ?_ | with_reducible refine' fz_tup ?_ | with_reducible refine' fz_lst0 ?_ | with_reducible refine' fz_str ?_ | with_reducible refine' fz_int ?_ | with_reducible refine' fz_obj ?_ | with_reducible refine' s_kget ?_ | with_reducible refine' rev_t ?_ | ((with_reducible refine' rev_l ?k1 ?_); (case k1 => walk_at "mem")) | with_reducible refine' s_rev ?_ | with_reducible refine' s_consS ?_ | with_reducible refine' s_stL ?_ | with_reducible refine' fr_stL ?_ | with_reducible refine' s_lno ?_ | with_reducible refine' s_chain ?_ | with_reducible refine' s_rng1 ?_ | with_reducible refine' s_rng2 ?_ | with_reducible refine' s_enum ?_ | with_reducible refine' s_zip ?_
  | with_reducible refine' s_for ?_ | with_reducible refine' s_iseq ?_
  | ((with_reducible refine' s_setL ?k1 ?k2 ?_); (case k1 => walk_at "mem"); (case k2 => first | rfl | assumption))
  | ((with_reducible refine' s_lenA ?k1 ?_); (case k1 => rfl))
  | ((with_reducible refine' ⟨_, _, rfl, ?k1, ?_⟩); (case k1 => assumption)) | with_reducible refine' ⟨_, _, rfl, ?_⟩ | with_reducible refine' ⟨_, rfl, ?_⟩ | with_reducible refine' ⟨rfl, ?_⟩)
local macro_rules | `(tactic| walk_at "le") => `(tactic| first
  | with_reducible refine' s_next ?_ | ((with_reducible refine' s_var ?k1 ?_); (case k1 => rfl)) | with_reducible refine' s_c ?_ | with_reducible refine' s_op ?_ | with_reducible refine' s_un ?_ | with_reducible refine' s_cons ?_ | with_reducible refine' s_nil ?_ | with_reducible refine' s_set ?_ | with_reducible refine' s_bcall ?_
  | with_reducible refine' s_tup ?_ | with_reducible refine' s_lst ?_ | with_reducible refine' s_bl ?_ | with_reducible refine' s_exbl ?_ | with_reducible refine' ifT ?_ | with_reducible refine' ifF ?_ | with_reducible refine' ifNT ?_ | with_reducible refine' ifNF ?_ | with_reducible refine' ifO1 ?_ | with_reducible refine' ifO2 rfl ?_ | with_reducible refine' s_ret ?_ | with_reducible refine' s_retg ?_ | with_reducible refine' s_call ?_ | with_reducible refine' s_fld ?_ | with_reducible refine' s_drop ?_ | with_reducible refine' s_bm ?_
  | with_reducible refine' s_and ?_ | with_reducible refine' s_or ?_ | with_reducible refine' s_not ?_ | with_reducible refine' s_tru ?_ | with_reducible refine' s_ifx ?_ | with_reducible refine' s_andV ?_ | with_reducible refine' s_orV ?_ | with_reducible refine' s_notV ?_ | with_reducible refine' s_par2 ?_ | with_reducible refine' s_par3 ?_ | with_reducible refine' s_unp ?_ | with_reducible refine' s_subs ?_ | with_reducible refine' s_sub2 ?_ | with_reducible refine' s_augS ?_ | ((with_reducible refine' s_aug ?k1 ?_); (case k1 => rfl))
  | with_reducible refine' s_add ?_ | with_reducible refine' s_sub ?_ | with_reducible refine' s_neg ?_ | with_reducible refine' s_lt ?_ | with_reducible refine' s_le ?_ | with_reducible refine' s_gt ?_ | with_reducible refine' s_ge ?_ | with_reducible refine' s_addI ?_ | with_reducible refine' s_eqI ?_ | with_reducible refine' s_neI ?_
  | ((with_reducible refine' s_eqG (k := false) ?k1 ?k2 ?k3 ?k4 ?k5 ?_); (case k1 => rfl); (case k2 => rfl); (case k3 => decide +kernel); (case k4 => decide +kernel); (case k5 => decide +kernel)) | ((with_reducible refine' s_eqG (k := true) ?k1 ?k2 ?k3 ?k4 ?k5 ?_); (case k1 => rfl); (case k2 => rfl); (case k3 => decide +kernel); (case k4 => decide +kernel); (case k5 => decide +kernel))
  | ((with_reducible refine' s_neG (k := false) ?k1 ?k2 ?k3 ?k4 ?k5 ?_); (case k1 => rfl); (case k2 => rfl); (case k3 => decide +kernel); (case k4 => decide +kernel); (case k5 => decide +kernel)) | ((with_reducible refine' s_neG (k := true) ?k1 ?k2 ?k3 ?k4 ?k5 ?_); (case k1 => rfl); (case k2 => rfl); (case k3 => decide +kernel); (case k4 => decide +kernel); (case k5 => decide +kernel))
  | ((with_reducible refine' s_mod ?k1 ?_); (case k1 => walk_at "side")) | ((with_reducible refine' s_mul ?k1 ?_); (case k1 => walk_at "mul")) | ((with_reducible refine' s_div ?k1 ?_); (case k1 => walk_at "div"))
  | with_reducible refine' s_isN ?_ | with_reducible refine' s_isNotN ?_
  | ((with_reducible refine' s_idx ?k1 ?k2 ?_); (case k1 => walk_at "mem"); (case k2 => first | rfl | assumption))
  | ((with_reducible refine' s_list ?k1 ?_); (case k1 => walk_at "mem")) | ((with_reducible refine' s_tuple ?k1 ?_); (case k1 => walk_at "mem")) | ((with_reducible refine' s_len ?k1 ?_); (case k1 => walk_at "mem"))
  | with_reducible refine' s_abs ?_ | with_reducible refine' s_max ?_ | with_reducible refine' s_min ?_ | with_reducible refine' s_int ?_ | with_reducible refine' s_intB ?_
  | ((with_reducible refine' s_append ?k1 ?k2 ?_); (case k1 => walk_at "mem"); (case k2 => walk_at "side")) | ((with_reducible refine' ⟨s_tyL ?k1, ?_⟩); (case k1 => walk_at "mem"))
  | with_reducible refine' fr_lst ?_ | with_reducible refine' fr_call ?_ | with_reducible refine' fr_op ?_ | with_reducible refine' fr_fn ?_ | with_reducible refine' fr_mt ?_ | with_reducible refine' fr_prop ?_ | with_reducible refine' fr_sl ?_ | with_reducible refine' fr_var ?_ | with_reducible refine' fr_rev ?_ | with_reducible refine' fr_if ?_ | with_reducible refine' s_meth ?_ | with_reducible refine' s_prop ?_ | with_reducible refine' s_sl ?_ | with_reducible refine' s_noPart ?_ | with_reducible refine' s_part ?_ | with_reducible refine' s_isi ?_ | with_reducible refine' fz_all ?_ | with_reducible refine' fz_tup ?_ | with_reducible refine' fz_lst0 ?_ | with_reducible refine' fz_str ?_ | with_reducible refine' fz_int ?_ | with_reducible refine' fz_obj ?_ | with_reducible refine' s_kget ?_ | with_reducible refine' rev_t ?_ | ((with_reducible refine' rev_l ?k1 ?_); (case k1 => walk_at "mem")) | with_reducible refine' s_rev ?_ | with_reducible refine' s_consS ?_ | with_reducible refine' s_stL ?_ | with_reducible refine' fr_stL ?_ | with_reducible refine' s_lno ?_ | with_reducible refine' s_chain ?_ | with_reducible refine' s_rng1 ?_ | with_reducible refine' s_rng2 ?_ | with_reducible refine' s_enum ?_ | with_reducible refine' s_zip ?_
  | with_reducible refine' s_iseq ?_
  | ((with_reducible refine' s_setL ?k1 ?k2 ?_); (case k1 => walk_at "mem"); (case k2 => first | rfl | assumption))
  | ((with_reducible refine' s_lenA ?k1 ?_); (case k1 => rfl))
  | ((with_reducible refine' ⟨_, _, rfl, ?k1, ?_⟩); (case k1 => assumption)) | with_reducible refine' ⟨_, _, rfl, ?_⟩ | with_reducible refine' ⟨_, rfl, ?_⟩ | with_reducible refine' ⟨rfl, ?_⟩)
local macro_rules | `(tactic| walk_at "sq") => `(tactic| with_reducible refine' s_seq ?_)
local macro_rules | `(tactic| walk_at "if") => `(tactic| with_reducible refine' s_ife ?_)
local macro_rules | `(tactic| walk_at "for") => `(tactic| with_reducible refine' s_for ?_)

inductive All2 {α β : Type} (P : α → β → Prop) : List α → List β → Prop where
  | nil : All2 P [] []
  | cons {a : α} {b : β} {as : List α} {bs : List β} (h : P a b) (r : All2 P as bs) : All2 P (a :: as) (b :: bs)
theorem All2.len {α β : Type} {P : α → β → Prop} : ∀ {as : List α} {bs : List β}, All2 P as bs → as.length = bs.length
  | _, _, .nil => rfl
  | _, _, .cons _ r => by rw [List.length_cons, List.length_cons, r.len]
theorem All2.snoc {α β : Type} {P : α → β → Prop} {a : α} {b : β} (h : P a b) : ∀ {as : List α} {bs : List β}, All2 P as bs → All2 P (as ++ [a]) (bs ++ [b])
  | _, _, .nil => .cons h .nil
  | _, _, .cons h' r => .cons h' (All2.snoc h r)
theorem All2.right {α β : Type} {P : α → β → Prop} : ∀ {as : List α} {bs : List β}, All2 P as bs → ∀ b ∈ bs, ∃ a, a ∈ as ∧ P a b
  | _, _, .nil, _, h => by cases h
  | _, _, .cons (a := a) h r, b, hb => by
    rcases List.mem_cons.mp hb with e | e
    · subst e; exact ⟨a, List.mem_cons_self, h⟩
    · obtain ⟨a', h1, h2⟩ := r.right b e
      exact ⟨a', List.mem_cons_of_mem _ h1, h2⟩
theorem fr_lc {it : DTI} {p : Pat} {c : Option DTT} {te : DTE} {own : List Nat} {σ : DSt} {M : DM} {R : DK} {Ex : DX} (h : dLc it p c te own σ M (fun d M1 => fzK d M1 R) Ex) : dFrz (dLc it p c te own) σ M R Ex := h
/-- a list of things drawn out of the pool -/
theorem s_lcPool {α : Type} {it : DTI} {i : Nat} {te : DTE} {own : List Nat} {σ : DSt} {M : DM} {R : DK} {Ex : DX} (enc : α → D) (P : D → α → Prop) (p : Addr) (q : Pool) (k c : Nat) (ds : List D) (hl : ds.length ≤ sizeLine)
    (hi : ∀ Q : List D → (DM → Prop) → DM → Prop, (∀ chk : DM → Prop, (∀ M', chk M') → Q ds chk M) → it σ M Q Ex) (hp : M p = some q.d) (ok : q.ok (k + c * ds.length))
    (hs : ∀ x ∈ ds, ∀ (M' : DM) (q' : Pool) (j : Nat), M' p = some q'.d → q'.ok (j + c) → ∀ Q : DK, (∀ (e : α) (q'' : Pool), P x e → q''.ok j → Q (enc e) (updM M' p q''.d)) → te ((wipeD σ own).set i (some x)) M' Q noX)
    (h : ∀ (es : List α) (q' : Pool), All2 P ds es → q'.ok k → R (.lst (es.map enc)) (updM M p q'.d)) : dFrz (dLc it (.name i) none te own) σ M R Ex := by
  refine fr_lc (hi _ fun chk hc a ha => ?_)
  have hpa : p ≠ a := ne_none hp ha
  refine lc_ind (fun rem acc M' => ∃ (ds0 : List D) (es : List α) (q' : Pool), ds = ds0 ++ rem ∧ acc = es.map enc ∧ M' = updM (updM M p q'.d) a (.lst (es.map enc)) ∧ All2 P ds0 es ∧ q'.ok (k + c * rem.length)) ⟨[], [], q, rfl, rfl, by rw [upd_id hp]; rfl, .nil, ok⟩ ?_ ?_ ?_
  · rintro rem acc M' ⟨ds0, es, q', e, rfl, rfl, f2, ok'⟩
    exact ⟨hc _, updM_same⟩
  · rintro acc M' ⟨ds0, es, q', e, rfl, rfl, f2, ok'⟩
    refine fz_lst updM_same ?_
    rw [delM_updM (upd_non ha hpa.symm)]
    rw [List.append_nil] at e
    subst e
    exact h es q' f2 ok'
  · rintro d rem acc M' ⟨ds0, es, q', e, rfl, rfl, f2, ok'⟩ ih
    refine ⟨_, rfl, hs d (by rw [e]; simp) _ q' (k + c * rem.length) (by walk_at "mem") (okc ok' _ (by simp [Nat.mul_add, Nat.add_assoc])) _ fun x q2 px ok2 => ?_⟩
    rw [upd_norm hpa]
    have hlen : es.length = ds0.length := f2.len.symm
    refine ⟨updM_same, ?_, ih _ _ ⟨ds0 ++ [d], es ++ [x], q2, by rw [e]; simp, by simp, by rw [updM_updM]; simp, ?_, ok2⟩⟩
    · rw [e] at hl
      simp only [List.length_append, List.length_cons, List.length_map] at hl ⊢
      omega
    · exact All2.snoc px f2
def spEntry : DSp := fun ds M R _ => ∃ (p : Addr) (q : Pool) (k : Nat) (far : Int), ds = [.ref p, .int far] ∧ M p = some q.d ∧ q.ok (k + 4) ∧ 0 ≤ far ∧ far < 2 ^ 190 ∧ ∀ (e : Int) (q' : Pool), e.natAbs ≤ far.toNat + 30 → q'.ok k → R (.int e) (updM M p q'.d)
theorem s_entry {p : Addr} {q : Pool} {k : Nat} {far : Int} {M : DM} {R : DK} {Ex : DX} (hp : M p = some q.d) (ok : q.ok (k + 4)) (f0 : 0 ≤ far) (f1 : far < 2 ^ 190) (h : ∀ (e : Int) (q' : Pool), e.natAbs ≤ far.toNat + 30 → q'.ok k → R (.int e) (updM M p q'.d)) :
    spEntry ([.ref p, .int far] ++ []) M R Ex := ⟨p, q, k, far, rfl, hp, ok, f0, f1, h⟩
theorem pick5 {d : Int} (h0 : 0 ≤ d) (h1 : d < 5) (a b c y e : Int) : ∃ w : Int, atI [D.int a, .int b, .int c, .int y, .int e] d = some (.int w) ∧ (w = a ∨ w = b ∨ w = c ∨ w = y ∨ w = e) := by
  have : d = 0 ∨ d = 1 ∨ d = 2 ∨ d = 3 ∨ d = 4 := by omega
  rcases this with rfl | rfl | rfl | rfl | rfl
  · exact ⟨a, rfl, by simp⟩
  · exact ⟨b, rfl, by simp⟩
  · exact ⟨c, rfl, by simp⟩
  · exact ⟨y, rfl, by simp⟩
  · exact ⟨e, rfl, by simp⟩
theorem does_entry : Does { S0 with fn := fun _ => spDraw } u_law_entry g_law_entry.N spEntry := by
  rintro ds M R Ex ⟨p, q, k, far, rfl, hp, ok, f0, f1, hR⟩
  dsimp only [u_law_entry, evS, ev, EvS.of, Ev.of, Op2.ev, Cmp.ev, BF.ev, BM.ev, AOp.ev, S0]
  repeat walk_at "ld"
  refine s_draw hp (okc ok (k + 3 + 1)) (by decide) (by decide) fun d1 q1 a1 b1 ok1 => ?_
  repeat walk_at "ld"
  refine s_draw (by walk_at "mem") (okc ok1 (k + 2 + 1)) (by decide) (by decide) fun d2 q2 a2 b2 ok2 => ?_
  rw [updM_updM]
  repeat walk_at "ld"
  refine s_draw (by walk_at "mem") (okc ok2 (k + 1 + 1)) (by omega) (by omega) fun d3 q3 a3 b3 ok3 => ?_
  rw [updM_updM]
  repeat walk_at "ld"
  refine s_draw (by walk_at "mem") (okc ok3 (k + 1)) (by decide) (by decide) fun d4 q4 a4 b4 ok4 => ?_
  rw [updM_updM]
  obtain ⟨w, hz, hm⟩ := pick5 a4 b4 (d1 - 4) (d2 - 30) (d3 - far) far (0 - far)
  repeat walk_at "ld"
  exact hR w q4 (by omega) ok4
def spPlace : DSp := fun ds M R _ => ∃ (p : Addr) (q : Pool) (k n : Nat) (far : Int), ds = [.ref p, .int n, .int far] ∧ M p = some q.d ∧ q.ok (k + 4 * n) ∧ n ≤ 1000 ∧ 0 ≤ far ∧ far < 2 ^ 190 ∧
  ∀ (v : List Int) (q' : Pool), v.length = n → (∀ e ∈ v, e.natAbs ≤ far.toNat + 30) → q'.ok k → R (encV v) (updM M p q'.d)
theorem s_place {p : Addr} {q : Pool} {k n : Nat} {far : Int} {M : DM} {R : DK} {Ex : DX} (hp : M p = some q.d) (ok : q.ok (k + 4 * n)) (hn : n ≤ 1000) (f0 : 0 ≤ far) (f1 : far < 2 ^ 190)
    (h : ∀ (v : List Int) (q' : Pool), v.length = n → (∀ e ∈ v, e.natAbs ≤ far.toNat + 30) → q'.ok k → R (encV v) (updM M p q'.d)) : spPlace ([.ref p, .int n, .int far] ++ []) M R Ex := ⟨p, q, k, n, far, rfl, hp, ok, hn, f0, f1, h⟩
theorem does_place : Does { S0 with fn := fun _ => spEntry } u_law_place g_law_place.N spPlace := by
  rintro ds M R Ex ⟨p, q, k, n, far, rfl, hp, ok, hn, f0, f1, hR⟩
  dsimp only [u_law_place, evS, ev, EvS.of, Ev.of, Op2.ev, Cmp.ev, BF.ev, BM.ev, AOp.ev, S0]
  repeat walk_at "ld"
  have e1 : ((n : Int)).toNat = n := by omega
  refine s_lcPool D.int (fun _ e => e.natAbs ≤ far.toNat + 30) p q k 4 (rangeD 0 n) (by rw [rangeD_len]; exact Nat.le_trans hn (by decide)) (fun Q h => ?_) hp (by rw [rangeD_len]; exact ok) (fun x hx M' q' j hp' ok' Q hQ => ?_) fun es q' f2 ok' => ?_
  · repeat walk_at "ld"
    refine ⟨by unfold small62; omega, h _ fun _ => trivial⟩
  · repeat walk_at "ld"
    exact s_entry hp' ok' f0 f1 fun e q'' h1 h2 => hQ e q'' h1 h2
  · repeat walk_at "ld"
    refine hR es q' ?_ (fun e he => (f2.right e he).elim fun x h => h.2) ok'
    rw [← f2.len, rangeD_len]
end LK
end

section
set_option maxRecDepth 100000
set_option maxHeartbeats 400000
namespace LK
open PySem L2 LD
local macro_rules | `(tactic| walk_at "non") => `(tactic| first | assumption | (refine upd_non ?_ ?_ <;> first | assumption | (intro z; subst z; simp_all)))
local macro_rules | `(tactic| walk_at "mem") => `(tactic| first | rfl | exact updM_same | assumption | exact isS_ref updM_same | exact isL_ref updM_same | exact isL0_ref updM_same | (apply isS_ref; walk_at "mem") | (apply isL_ref; walk_at "mem") | (apply isL0_ref; walk_at "mem") | (refine upd_keep ?k1 ?k2; (case k2 => assumption); (case k1 => walk_at "mem")) | (refine upd_ne1 ?k1 ?k2; (case k2 => assumption); (case k1 => walk_at "mem")) | (refine upd_ne2 ?k1 ?k2; (case k2 => assumption); (case k1 => walk_at "mem")) | (refine del_keep ?_ ?_; all_goals first | assumption | walk_at "mem"))
local macro_rules | `(tactic| walk_at "side") => `(tactic| first | assumption | omega | decide)
local macro_rules | `(tactic| walk_at "mul") => `(tactic| first | assumption | (exact mul_l (by first | assumption | omega | decide)) | (exact mul_r (by first | assumption | omega | decide)))
local macro_rules | `(tactic| walk_at "div") => `(tactic| first | assumption | (exact div_ok2 (by first | assumption | omega | decide) (by first | assumption | omega | decide)))
local macro_rules | `(tactic| walk_at "ld") => `(tactic| first
  | with_reducible refine' s_seq ?_ | with_reducible refine' s_next ?_ | ((with_reducible refine' s_var ?k1 ?_); (case k1 => rfl)) | with_reducible refine' s_c ?_ | with_reducible refine' s_op ?_ | with_reducible refine' s_un ?_ | with_reducible refine' s_cons ?_ | with_reducible refine' s_nil ?_ | with_reducible refine' s_set ?_ | with_reducible refine' s_bcall ?_
  | with_reducible refine' s_tup ?_ | with_reducible refine' s_lst ?_ | with_reducible refine' s_ife ?_ | with_reducible refine' s_bl ?_ | with_reducible refine' s_exbl ?_ | with_reducible refine' ifT ?_ | with_reducible refine' ifF ?_ | with_reducible refine' ifNT ?_ | with_reducible refine' ifNF ?_ | with_reducible refine' ifO1 ?_ | with_reducible refine' ifO2 rfl ?_ | with_reducible refine' s_ret ?_ | with_reducible refine' s_retg ?_ | with_reducible refine' s_call ?_ | with_reducible refine' s_fld ?_ | with_reducible refine' s_drop ?_ | with_reducible refine' s_bm ?_
  | with_reducible refine' s_and ?_ | with_reducible refine' s_or ?_ | with_reducible refine' s_not ?_ | with_reducible refine' s_tru ?_ | with_reducible refine' s_ifx ?_ | with_reducible refine' s_andV ?_ | with_reducible refine' s_orV ?_ | with_reducible refine' s_notV ?_ | with_reducible refine' s_par2 ?_ | with_reducible refine' s_par3 ?_ | with_reducible refine' s_unp ?_ | with_reducible refine' s_subs ?_ | with_reducible refine' s_sub2 ?_ | with_reducible refine' s_augS ?_ | ((with_reducible refine' s_aug ?k1 ?_); (case k1 => rfl))
  | with_reducible refine' s_add ?_ | with_reducible refine' s_sub ?_ | with_reducible refine' s_neg ?_ | with_reducible refine' s_lt ?_ | with_reducible refine' s_le ?_ | with_reducible refine' s_gt ?_ | with_reducible refine' s_ge ?_ | with_reducible refine' s_addI ?_ | with_reducible refine' s_eqI ?_ | with_reducible refine' s_neI ?_
  | ((with_reducible refine' s_eqG (k := false) ?k1 ?k2 ?k3 ?k4 ?k5 ?_); (case k1 => rfl); (case k2 => rfl); (case k3 => decide +kernel); (case k4 => decide +kernel); (case k5 => decide +kernel)) | ((with_reducible refine' s_eqG (k := true) ?k1 ?k2 ?k3 ?k4 ?k5 ?_); (case k1 => rfl); (case k2 => rfl); (case k3 => decide +kernel); (case k4 => decide +kernel); (case k5 => decide +kernel))
  | ((with_reducible refine' s_neG (k := false) ?k1 ?k2 ?k3 ?k4 ?k5 ?_); (case k1 => rfl); (case k2 => rfl); (case k3 => decide +kernel); (case k4 => decide +kernel); (case k5 => decide +kernel)) | ((with_reducible refine' s_neG (k := true) ?k1 ?k2 ?k3 ?k4 ?k5 ?_); (case k1 => rfl); (case k2 => rfl); (case k3 => decide +kernel); (case k4 => decide +kernel); (case k5 => decide +kernel))
  | ((with_reducible refine' s_mod ?k1 ?_); (case k1 => walk_at "side")) | ((with_reducible refine' s_mul ?k1 ?_); (case k1 => walk_at "mul")) | ((with_reducible refine' s_div ?k1 ?_); (case k1 => walk_at "div"))
  | with_reducible refine' s_isN ?_ | with_reducible refine' s_isNotN ?_
  | ((with_reducible refine' s_idx ?k1 ?k2 ?_); (case k1 => walk_at "mem"); (case k2 => first | rfl | assumption))
  | ((with_reducible refine' s_list ?k1 ?_); (case k1 => walk_at "mem")) | ((with_reducible refine' s_tuple ?k1 ?_); (case k1 => walk_at "mem")) | ((with_reducible refine' s_len ?k1 ?_); (case k1 => walk_at "mem"))
  | with_reducible refine' s_abs ?_ | with_reducible refine' s_max ?_ | with_reducible refine' s_min ?_ | with_reducible refine' s_int ?_ | with_reducible refine' s_intB ?_
  | ((with_reducible refine' s_append ?k1 ?k2 ?_); (case k1 => walk_at "mem"); (case k2 => walk_at "side")) | ((with_reducible refine' ⟨s_tyL ?k1, ?_⟩); (case k1 => walk_at "mem"))
  | with_reducible refine' fr_lst ?_ | with_reducible refine' fr_call ?_ | with_reducible refine' fr_op ?_ | with_reducible refine' fr_fn ?_ | with_reducible refine' fr_mt ?_ | with_reducible refine' fr_prop ?_ | with_reducible refine' fr_sl ?_ | with_reducible refine' fr_var ?_ | with_reducible refine' fr_rev ?_ | with_reducible refine' fr_if ?_ | with_reducible refine' s_meth ?_ | with_reducible refine' s_prop ?_ | with_reducible refine' s_sl ?_ | with_reducible refine' s_noPart ?_ | with_reducible refine' s_part ?_ | with_reducible refine' s_isi ?_ | with_reducible refine' fz_all ?_ | with_reducible refine' fz_tup ?_ | with_reducible refine' fz_lst0 ?_ | with_reducible refine' fz_str ?_ | with_reducible refine' fz_int ?_ | with_reducible refine' fz_obj ?_ | with_reducible refine' s_kget ?_ | with_reducible refine' rev_t ?_ | ((with_reducible refine' rev_l ?k1 ?_); (case k1 => walk_at "mem")) | with_reducible refine' s_rev ?_ | with_reducible refine' s_consS ?_ | with_reducible refine' s_stL ?_ | with_reducible refine' fr_stL ?_ | with_reducible refine' s_lno ?_ | with_reducible refine' s_chain ?_ | with_reducible refine' s_rng1 ?_ | with_reducible refine' s_rng2 ?_ | with_reducible refine' s_enum ?_ | with_reducible refine' s_zip ?_
  | with_reducible refine' s_for ?_ | with_reducible refine' s_iseq ?_
  | ((with_reducible refine' s_setL ?k1 ?k2 ?_); (case k1 => walk_at "mem"); (case k2 => first | rfl | assumption))
  | ((with_reducible refine' s_lenA ?k1 ?_); (case k1 => rfl))
  | ((with_reducible refine' ⟨_, _, rfl, ?k1, ?_⟩); (case k1 => assumption)) | with_reducible refine' ⟨_, _, rfl, ?_⟩ | with_reducible refine' ⟨_, rfl, ?_⟩ | with_reducible refine' ⟨rfl, ?_⟩)
local macro_rules | `(tactic| walk_at "le") => `(tactic| first
  | with_reducible refine' s_next ?_ | ((with_reducible refine' s_var ?k1 ?_); (case k1 => rfl)) | with_reducible refine' s_c ?_ | with_reducible refine' s_op ?_ | with_reducible refine' s_un ?_ | with_reducible refine' s_cons ?_ | with_reducible refine' s_nil ?_ | with_reducible refine' s_set ?_ | with_reducible refine' s_bcall ?_
  | with_reducible refine' s_tup ?_ | with_reducible refine' s_lst ?_ | with_reducible refine' s_bl ?_ | with_reducible refine' s_exbl ?_ | with_reducible refine' ifT ?_ | with_reducible refine' ifF ?_ | with_reducible refine' ifNT ?_ | with_reducible refine' ifNF ?_ | with_reducible refine' ifO1 ?_ | with_reducible refine' ifO2 rfl ?_ | with_reducible refine' s_ret ?_ | with_reducible refine' s_retg ?_ | with_reducible refine' s_call ?_ | with_reducible refine' s_fld ?_ | with_reducible refine' s_drop ?_ | with_reducible refine' s_bm ?_
  | with_reducible refine' s_and ?_ | with_reducible refine' s_or ?_ | with_reducible refine' s_not ?_ | with_reducible refine' s_tru ?_ | with_reducible refine' s_ifx ?_ | with_reducible refine' s_andV ?_ | with_reducible refine' s_orV ?_ | with_reducible refine' s_notV ?_ | with_reducible refine' s_par2 ?_ | with_reducible refine' s_par3 ?_ | with_reducible refine' s_unp ?_ | with_reducible refine' s_subs ?_ | with_reducible refine' s_sub2 ?_ | with_reducible refine' s_augS ?_ | ((with_reducible refine' s_aug ?k1 ?_); (case k1 => rfl))
  | with_reducible refine' s_add ?_ | with_reducible refine' s_sub ?_ | with_reducible refine' s_neg ?_ | with_reducible refine' s_lt ?_ | with_reducible refine' s_le ?_ | with_reducible refine' s_gt ?_ | with_reducible refine' s_ge ?_ | with_reducible refine' s_addI ?_ | with_reducible refine' s_eqI ?_ | with_reducible refine' s_neI ?_
  | ((with_reducible refine' s_eqG (k := false) ?k1 ?k2 ?k3 ?k4 ?k5 ?_); (case k1 => rfl); (case k2 => rfl); (case k3 => decide +kernel); (case k4 => decide +kernel); (case k5 => decide +kernel)) | ((with_reducible refine' s_eqG (k := true) ?k1 ?k2 ?k3 ?k4 ?k5 ?_); (case k1 => rfl); (case k2 => rfl); (case k3 => decide +kernel); (case k4 => decide +kernel); (case k5 => decide +kernel))
  | ((with_reducible refine' s_neG (k := false) ?k1 ?k2 ?k3 ?k4 ?k5 ?_); (case k1 => rfl); (case k2 => rfl); (case k3 => decide +kernel); (case k4 => decide +kernel); (case k5 => decide +kernel)) | ((with_reducible refine' s_neG (k := true) ?k1 ?k2 ?k3 ?k4 ?k5 ?_); (case k1 => rfl); (case k2 => rfl); (case k3 => decide +kernel); (case k4 => decide +kernel); (case k5 => decide +kernel))
  | ((with_reducible refine' s_mod ?k1 ?_); (case k1 => walk_at "side")) | ((with_reducible refine' s_mul ?k1 ?_); (case k1 => walk_at "mul")) | ((with_reducible refine' s_div ?k1 ?_); (case k1 => walk_at "div"))
  | with_reducible refine' s_isN ?_ | with_reducible refine' s_isNotN ?_
  | ((with_reducible refine' s_idx ?k1 ?k2 ?_); (case k1 => walk_at "mem"); (case k2 => first | rfl | assumption))
  | ((with_reducible refine' s_list ?k1 ?_); (case k1 => walk_at "mem")) | ((with_reducible refine' s_tuple ?k1 ?_); (case k1 => walk_at "mem")) | ((with_reducible refine' s_len ?k1 ?_); (case k1 => walk_at "mem"))
  | with_reducible refine' s_abs ?_ | with_reducible refine' s_max ?_ | with_reducible refine' s_min ?_ | with_reducible refine' s_int ?_ | with_reducible refine' s_intB ?_
  | ((with_reducible refine' s_append ?k1 ?k2 ?_); (case k1 => walk_at "mem"); (case k2 => walk_at "side")) | ((with_reducible refine' ⟨s_tyL ?k1, ?_⟩); (case k1 => walk_at "mem"))
  | with_reducible refine' fr_lst ?_ | with_reducible refine' fr_call ?_ | with_reducible refine' fr_op ?_ | with_reducible refine' fr_fn ?_ | with_reducible refine' fr_mt ?_ | with_reducible refine' fr_prop ?_ | with_reducible refine' fr_sl ?_ | with_reducible refine' fr_var ?_ | with_reducible refine' fr_rev ?_ | with_reducible refine' fr_if ?_ | with_reducible refine' s_meth ?_ | with_reducible refine' s_prop ?_ | with_reducible refine' s_sl ?_ | with_reducible refine' s_noPart ?_ | with_reducible refine' s_part ?_ | with_reducible refine' s_isi ?_ | with_reducible refine' fz_all ?_ | with_reducible refine' fz_tup ?_ | with_reducible refine' fz_lst0 ?_ | with_reducible refine' fz_str ?_ | with_reducible refine' fz_int ?_ | with_reducible refine' fz_obj ?_ | with_reducible refine' s_kget ?_ | with_reducible refine' rev_t ?_ | ((with_reducible refine' rev_l ?k1 ?_); (case k1 => walk_at "mem")) | with_reducible refine' s_rev ?_ | with_reducible refine' s_consS ?_ | with_reducible refine' s_stL ?_ | with_reducible refine' fr_stL ?_ | with_reducible refine' s_lno ?_ | with_reducible refine' s_chain ?_ | with_reducible refine' s_rng1 ?_ | with_reducible refine' s_rng2 ?_ | with_reducible refine' s_enum ?_ | with_reducible refine' s_zip ?_
  | with_reducible refine' s_iseq ?_
  | ((with_reducible refine' s_setL ?k1 ?k2 ?_); (case k1 => walk_at "mem"); (case k2 => first | rfl | assumption))
  | ((with_reducible refine' s_lenA ?k1 ?_); (case k1 => rfl))
  | ((with_reducible refine' ⟨_, _, rfl, ?k1, ?_⟩); (case k1 => assumption)) | with_reducible refine' ⟨_, _, rfl, ?_⟩ | with_reducible refine' ⟨_, rfl, ?_⟩ | with_reducible refine' ⟨rfl, ?_⟩)
local macro_rules | `(tactic| walk_at "sq") => `(tactic| with_reducible refine' s_seq ?_)
local macro_rules | `(tactic| walk_at "if") => `(tactic| with_reducible refine' s_ife ?_)
local macro_rules | `(tactic| walk_at "for") => `(tactic| with_reducible refine' s_for ?_)

theorem zipD_map (xs ys : List Int) : zipD (xs.map .int) (ys.map .int) = (xs.zip ys).map fun p => .tup [.int p.1, .int p.2] := by
  unfold zipD
  induction xs generalizing ys with
  | nil => simp
  | cons x xs ih => cases ys <;> simp_all
theorem dot_zip (a b : List Int) : dot a b = ((a.zip b).map fun p => p.1 * p.2).sum := by
  unfold dot
  induction a generalizing b with
  | nil => simp
  | cons x a ih => cases b with
    | nil => simp
    | cons y b => simp [ih]
def spDone : DSp := fun ds M R _ => ∃ (s : Stp) (v : List Int), ds = [encS s, encV v] ∧ SOk v.length s ∧ v.length ≤ 1000 ∧ R (encV (sdone s v)) M
theorem s_done {s : Stp} {v : List Int} {M : DM} {R : DK} {Ex : DX} (ok : SOk v.length s) (hl : v.length ≤ 1000) (r : R (encV (sdone s v)) M) : spDone ([encS s, encV v] ++ []) M R Ex := ⟨s, v, rfl, ok, hl, r⟩
theorem le_line {n : Nat} (h : n ≤ 1000) : n ≤ sizeLine := Nat.le_trans h (by decide)
theorem does_step_done : Does S0 u_step_done g_step_done.N spDone := by
  rintro ds M R Ex ⟨s, v, rfl, ok, hl, hR⟩
  dsimp only [u_step_done, evS, ev, EvS.of, Ev.of, Op2.ev, Cmp.ev, BF.ev, BM.ev, AOp.ev, S0]
  cases s with
  | turn i =>
    have ok : i < v.length := ok
    have e1 := atI_map ok
    have e2 : ixN (v.map D.int).length (i : Int) = some i := by rw [List.length_map]; exact ixN_nat ok
    repeat walk_at "ld"
    intro p hp
    repeat walk_at "ld"
    rw [map_set, updM_updM]
    rw [forget1 (a := p), delM_updM hp]
    · exact hR
    · rfl
  | swap i j =>
    have ok : i < j ∧ j < v.length := ok
    have e1 := atI_map ok.2
    have e2 := atI_map (show i < v.length by omega)
    have e3 : ixN (v.map D.int).length (i : Int) = some i := by rw [List.length_map]; exact ixN_nat (by omega)
    have e4 : ixN ((v.map D.int).set i (.int (v.getD j 0))).length (j : Int) = some j := by rw [List.length_set, List.length_map]; exact ixN_nat ok.2
    repeat walk_at "ld"
    intro p hp
    repeat walk_at "ld"
    rw [map_set, map_set, updM_updM, updM_updM]
    rw [forget1 (a := p), delM_updM hp]
    · exact hR
    · rfl
  | lift c ws m d =>
    obtain ⟨o1, o2, o3, o4, o5, o6, o7⟩ := ok
    repeat walk_at "ld"
    intro p hp
    repeat walk_at "ld"
    refine s_lcMap (ws.zip v) (fun p => .tup [.int p.1, .int p.2]) (fun p => .int (p.1 * p.2)) (le_line (by rw [List.length_zip]; omega)) (fun Q h => ?_) (fun a ha w hw M' o hM' => ⟨_, rfl, fun Q hQ => ?_⟩) ?_
    · repeat walk_at "ld"
      show Q (zipD (ws.map D.int) (v.map D.int)) _ _
      rw [zipD_map]
      exact h _ fun _ _ _ _ => trivial
    · have h7 := o7 w.1 (List.of_mem_zip hw).1
      repeat walk_at "ld"
      exact hQ
    · repeat walk_at "ld"
      have e : (ws.zip v).map (fun p => D.int (p.1 * p.2)) = ((ws.zip v).map fun p => p.1 * p.2).map D.int := by simp
      refine s_sum (ns := (ws.zip v).map fun p => p.1 * p.2) (congrArg some e) ?_
      rw [← dot_zip]
      have e1 : ixN (v.map D.int).length (c : Int) = some c := by rw [List.length_map]; exact ixN_nat o1
      have e2 : (v.map D.int)[((c : Nat) : Int).toNat]? = some (.int (v.getD c 0)) := by
        rw [show ((c : Nat) : Int).toNat = c by omega, List.getElem?_map, List.getElem?_eq_getElem o1]
        simp [List.getD_eq_getElem?_getD, o1]
      repeat walk_at "ld"
      refine s_idxL (by omega) (by walk_at "mem") e2 ?_
      repeat walk_at "ld"
      rw [map_set, updM_updM, forget1 (a := p), delM_updM hp]
      · exact hR
      · rfl
/-- the law's own way to do a step -/
theorem does_law_done : Does S0 u_law_done g_law_done.N spDone := by
  rintro ds M R Ex ⟨s, v, rfl, ok, hl, hR⟩
  dsimp only [u_law_done, evS, ev, EvS.of, Ev.of, Op2.ev, Cmp.ev, BF.ev, BM.ev, AOp.ev, S0]
  cases s with
  | turn i =>
    have ok : i < v.length := ok
    have e1 := atI_map ok
    have e2 : ixN (v.map D.int).length (i : Int) = some i := by rw [List.length_map]; exact ixN_nat ok
    repeat walk_at "ld"
    intro p hp
    repeat walk_at "ld"
    rw [map_set, updM_updM, Int.zero_sub]
    rw [forget1 (a := p), delM_updM hp]
    · exact hR
    · rfl
  | swap i j =>
    have ok : i < j ∧ j < v.length := ok
    have e1 := atI_map ok.2
    have e2 := atI_map (show i < v.length by omega)
    have e3 : ixN (v.map D.int).length (i : Int) = some i := by rw [List.length_map]; exact ixN_nat (by omega)
    have e4 : ixN ((v.map D.int).set i (.int (v.getD j 0))).length (j : Int) = some j := by rw [List.length_set, List.length_map]; exact ixN_nat ok.2
    repeat walk_at "ld"
    intro p hp
    repeat walk_at "ld"
    rw [map_set, map_set, updM_updM, updM_updM]
    rw [forget1 (a := p), delM_updM hp]
    · exact hR
    · rfl
  | lift c ws m d =>
    obtain ⟨o1, o2, o3, o4, o5, o6, o7⟩ := ok
    have a1 := atI_map o1
    have e1 : ixN (v.map D.int).length (c : Int) = some c := by rw [List.length_map]; exact ixN_nat o1
    repeat walk_at "ld"
    intro p hp
    repeat walk_at "ld"
    show sLoop _ _ (fun _ => True) (zipD (ws.map D.int) (v.map D.int)) _ _ _
    rw [zipD_map]
    refine loop_ind (fun rem σ M' => ∃ (ps : List (Int × Int)) (t : Int) (x4 x5 : Option D), rem = ps.map (fun p => .tup [.int p.1, .int p.2]) ∧ σ = [some (encS (.lift c ws m d)), some (encV v), some (.ref p), some (.int t), x4, x5] ∧ M' = updM M p (.lst (v.map D.int)) ∧
      t + (ps.map fun p => p.1 * p.2).sum = m + dot ws v ∧ ∀ z ∈ ps, z.1.natAbs < 2 ^ 60) ⟨ws.zip v, m, none, none, rfl, rfl, rfl, by rw [← dot_zip], fun z hz => o7 z.1 (List.of_mem_zip hz).1⟩ (fun _ _ _ _ => trivial) ?_ ?_
    · rintro σ M' ⟨ps, t, x4, x5, e, rfl, rfl, hs, hb⟩
      have : ps = [] := by cases ps <;> first | rfl | cases e
      subst this
      have ht : t = dot ws v + m := by simp at hs; omega
      subst ht
      repeat walk_at "ld"
      rw [map_set, updM_updM, forget1 (a := p), delM_updM hp]
      · exact hR
      · rfl
    · rintro d' rem σ M' ⟨ps, t, x4, x5, e, rfl, rfl, hs, hb⟩ ih
      cases ps with
      | nil => cases e
      | cons z ps =>
        cases e
        have hz := hb z List.mem_cons_self
        refine ⟨_, rfl, ?_⟩
        repeat walk_at "ld"
        refine ih _ _ ⟨ps, _, _, _, rfl, rfl, rfl, ?_, fun y hy => hb y (List.mem_cons_of_mem _ hy)⟩
        simp only [List.map_cons, List.sum_cons] at hs
        omega
end LK
end

section
set_option maxRecDepth 100000
set_option maxHeartbeats 400000
namespace LK
open PySem L2 LD
local macro_rules | `(tactic| walk_at "non") => `(tactic| first | assumption | (refine upd_non ?_ ?_ <;> first | assumption | (intro z; subst z; simp_all)))
local macro_rules | `(tactic| walk_at "mem") => `(tactic| first | rfl | exact updM_same | assumption | exact isS_ref updM_same | exact isL_ref updM_same | exact isL0_ref updM_same | (apply isS_ref; walk_at "mem") | (apply isL_ref; walk_at "mem") | (apply isL0_ref; walk_at "mem") | (refine upd_keep ?k1 ?k2; (case k2 => assumption); (case k1 => walk_at "mem")) | (refine upd_ne1 ?k1 ?k2; (case k2 => assumption); (case k1 => walk_at "mem")) | (refine upd_ne2 ?k1 ?k2; (case k2 => assumption); (case k1 => walk_at "mem")) | (refine del_keep ?_ ?_; all_goals first | assumption | walk_at "mem"))
local macro_rules | `(tactic| walk_at "side") => `(tactic| first | assumption | omega | decide)
local macro_rules | `(tactic| walk_at "mul") => `(tactic| first | assumption | (exact mul_l (by first | assumption | omega | decide)) | (exact mul_r (by first | assumption | omega | decide)))
local macro_rules | `(tactic| walk_at "div") => `(tactic| first | assumption | (exact div_ok2 (by first | assumption | omega | decide) (by first | assumption | omega | decide)))
local macro_rules | `(tactic| walk_at "ld") => `(tactic| first
  | with_reducible refine' s_seq ?_ | with_reducible refine' s_next ?_ | ((with_reducible refine' s_var ?k1 ?_); (case k1 => rfl)) | with_reducible refine' s_c ?_ | with_reducible refine' s_op ?_ | with_reducible refine' s_un ?_ | with_reducible refine' s_cons ?_ | with_reducible refine' s_nil ?_ | with_reducible refine' s_set ?_ | with_reducible refine' s_bcall ?_
  | with_reducible refine' s_tup ?_ | with_reducible refine' s_lst ?_ | with_reducible refine' s_ife ?_ | with_reducible refine' s_bl ?_ | with_reducible refine' s_exbl ?_ | with_reducible refine' ifT ?_ | with_reducible refine' ifF ?_ | with_reducible refine' ifNT ?_ | with_reducible refine' ifNF ?_ | with_reducible refine' ifO1 ?_ | with_reducible refine' ifO2 rfl ?_ | with_reducible refine' s_ret ?_ | with_reducible refine' s_retg ?_ | with_reducible refine' s_call ?_ | with_reducible refine' s_fld ?_ | with_reducible refine' s_drop ?_ | with_reducible refine' s_bm ?_
  | with_reducible refine' s_and ?_ | with_reducible refine' s_or ?_ | with_reducible refine' s_not ?_ | with_reducible refine' s_tru ?_ | with_reducible refine' s_ifx ?_ | with_reducible refine' s_andV ?_ | with_reducible refine' s_orV ?_ | with_reducible refine' s_notV ?_ | with_reducible refine' s_par2 ?_ | with_reducible refine' s_par3 ?_ | with_reducible refine' s_unp ?_ | with_reducible refine' s_subs ?_ | with_reducible refine' s_sub2 ?_ | with_reducible refine' s_augS ?_ | ((with_reducible refine' s_aug ?k1 ?_); (case k1 => rfl))
  | with_reducible refine' s_add ?_ | with_reducible refine' s_sub ?_ | with_reducible refine' s_neg ?_ | with_reducible refine' s_lt ?_ | with_reducible refine' s_le ?_ | with_reducible refine' s_gt ?_ | with_reducible refine' s_ge ?_ | with_reducible refine' s_addI ?_ | with_reducible refine' s_eqI ?_ | with_reducible refine' s_neI ?_
  | ((with_reducible refine' s_eqG (k := false) ?k1 ?k2 ?k3 ?k4 ?k5 ?_); (case k1 => rfl); (case k2 => rfl); (case k3 => decide +kernel); (case k4 => decide +kernel); (case k5 => decide +kernel)) | ((with_reducible refine' s_eqG (k := true) ?k1 ?k2 ?k3 ?k4 ?k5 ?_); (case k1 => rfl); (case k2 => rfl); (case k3 => decide +kernel); (case k4 => decide +kernel); (case k5 => decide +kernel))
  | ((with_reducible refine' s_neG (k := false) ?k1 ?k2 ?k3 ?k4 ?k5 ?_); (case k1 => rfl); (case k2 => rfl); (case k3 => decide +kernel); (case k4 => decide +kernel); (case k5 => decide +kernel)) | ((with_reducible refine' s_neG (k := true) ?k1 ?k2 ?k3 ?k4 ?k5 ?_); (case k1 => rfl); (case k2 => rfl); (case k3 => decide +kernel); (case k4 => decide +kernel); (case k5 => decide +kernel))
  | ((with_reducible refine' s_mod ?k1 ?_); (case k1 => walk_at "side")) | ((with_reducible refine' s_mul ?k1 ?_); (case k1 => walk_at "mul")) | ((with_reducible refine' s_div ?k1 ?_); (case k1 => walk_at "div"))
  | with_reducible refine' s_isN ?_ | with_reducible refine' s_isNotN ?_
  | ((with_reducible refine' s_idx ?k1 ?k2 ?_); (case k1 => walk_at "mem"); (case k2 => first | rfl | assumption))
  | ((with_reducible refine' s_list ?k1 ?_); (case k1 => walk_at "mem")) | ((with_reducible refine' s_tuple ?k1 ?_); (case k1 => walk_at "mem")) | ((with_reducible refine' s_len ?k1 ?_); (case k1 => walk_at "mem"))
  | with_reducible refine' s_abs ?_ | with_reducible refine' s_max ?_ | with_reducible refine' s_min ?_ | with_reducible refine' s_int ?_ | with_reducible refine' s_intB ?_
  | ((with_reducible refine' s_append ?k1 ?k2 ?_); (case k1 => walk_at "mem"); (case k2 => walk_at "side")) | ((with_reducible refine' ⟨s_tyL ?k1, ?_⟩); (case k1 => walk_at "mem"))
  | with_reducible refine' fr_lst ?_ | with_reducible refine' fr_call ?_ | with_reducible refine' fr_op ?_ | with_reducible refine' fr_fn ?_ | with_reducible refine' fr_mt ?_ | with_reducible refine' fr_prop ?_ | with_reducible refine' fr_sl ?_ | with_reducible refine' fr_var ?_ | with_reducible refine' fr_rev ?_ | with_reducible refine' fr_if ?_ | with_reducible refine' s_meth ?_ | with_reducible refine' s_prop ?_ | with_reducible refine' s_sl ?_ | with_reducible refine' s_noPart ?_ | with_reducible refine' s_part ?_ | with_reducible refine' s_isi ?_ | with_reducible refine' fz_all ?_ | with_reducible refine' fz_tup ?_ | with_reducible refine' fz_lst0 ?_ | with_reducible refine' fz_str ?_ | with_reducible refine' fz_int ?_ | with_reducible refine' fz_obj ?_ | with_reducible refine' s_kget ?_ | with_reducible refine' rev_t ?_ | ((with_reducible refine' rev_l ?k1 ?_); (case k1 => walk_at "mem")) | with_reducible refine' s_rev ?_ | with_reducible refine' s_consS ?_ | with_reducible refine' s_stL ?_ | with_reducible refine' fr_stL ?_ | with_reducible refine' s_lno ?_ | with_reducible refine' s_chain ?_ | with_reducible refine' s_rng1 ?_ | with_reducible refine' s_rng2 ?_ | with_reducible refine' s_enum ?_ | with_reducible refine' s_zip ?_
  | with_reducible refine' s_for ?_ | with_reducible refine' s_iseq ?_
  | ((with_reducible refine' s_setL ?k1 ?k2 ?_); (case k1 => walk_at "mem"); (case k2 => first | rfl | assumption))
  | ((with_reducible refine' s_lenA ?k1 ?_); (case k1 => rfl))
  | ((with_reducible refine' ⟨_, _, rfl, ?k1, ?_⟩); (case k1 => assumption)) | with_reducible refine' ⟨_, _, rfl, ?_⟩ | with_reducible refine' ⟨_, rfl, ?_⟩ | with_reducible refine' ⟨rfl, ?_⟩)
local macro_rules | `(tactic| walk_at "le") => `(tactic| first
  | with_reducible refine' s_next ?_ | ((with_reducible refine' s_var ?k1 ?_); (case k1 => rfl)) | with_reducible refine' s_c ?_ | with_reducible refine' s_op ?_ | with_reducible refine' s_un ?_ | with_reducible refine' s_cons ?_ | with_reducible refine' s_nil ?_ | with_reducible refine' s_set ?_ | with_reducible refine' s_bcall ?_
  | with_reducible refine' s_tup ?_ | with_reducible refine' s_lst ?_ | with_reducible refine' s_bl ?_ | with_reducible refine' s_exbl ?_ | with_reducible refine' ifT ?_ | with_reducible refine' ifF ?_ | with_reducible refine' ifNT ?_ | with_reducible refine' ifNF ?_ | with_reducible refine' ifO1 ?_ | with_reducible refine' ifO2 rfl ?_ | with_reducible refine' s_ret ?_ | with_reducible refine' s_retg ?_ | with_reducible refine' s_call ?_ | with_reducible refine' s_fld ?_ | with_reducible refine' s_drop ?_ | with_reducible refine' s_bm ?_
  | with_reducible refine' s_and ?_ | with_reducible refine' s_or ?_ | with_reducible refine' s_not ?_ | with_reducible refine' s_tru ?_ | with_reducible refine' s_ifx ?_ | with_reducible refine' s_andV ?_ | with_reducible refine' s_orV ?_ | with_reducible refine' s_notV ?_ | with_reducible refine' s_par2 ?_ | with_reducible refine' s_par3 ?_ | with_reducible refine' s_unp ?_ | with_reducible refine' s_subs ?_ | with_reducible refine' s_sub2 ?_ | with_reducible refine' s_augS ?_ | ((with_reducible refine' s_aug ?k1 ?_); (case k1 => rfl))
  | with_reducible refine' s_add ?_ | with_reducible refine' s_sub ?_ | with_reducible refine' s_neg ?_ | with_reducible refine' s_lt ?_ | with_reducible refine' s_le ?_ | with_reducible refine' s_gt ?_ | with_reducible refine' s_ge ?_ | with_reducible refine' s_addI ?_ | with_reducible refine' s_eqI ?_ | with_reducible refine' s_neI ?_
  | ((with_reducible refine' s_eqG (k := false) ?k1 ?k2 ?k3 ?k4 ?k5 ?_); (case k1 => rfl); (case k2 => rfl); (case k3 => decide +kernel); (case k4 => decide +kernel); (case k5 => decide +kernel)) | ((with_reducible refine' s_eqG (k := true) ?k1 ?k2 ?k3 ?k4 ?k5 ?_); (case k1 => rfl); (case k2 => rfl); (case k3 => decide +kernel); (case k4 => decide +kernel); (case k5 => decide +kernel))
  | ((with_reducible refine' s_neG (k := false) ?k1 ?k2 ?k3 ?k4 ?k5 ?_); (case k1 => rfl); (case k2 => rfl); (case k3 => decide +kernel); (case k4 => decide +kernel); (case k5 => decide +kernel)) | ((with_reducible refine' s_neG (k := true) ?k1 ?k2 ?k3 ?k4 ?k5 ?_); (case k1 => rfl); (case k2 => rfl); (case k3 => decide +kernel); (case k4 => decide +kernel); (case k5 => decide +kernel))
  | ((with_reducible refine' s_mod ?k1 ?_); (case k1 => walk_at "side")) | ((with_reducible refine' s_mul ?k1 ?_); (case k1 => walk_at "mul")) | ((with_reducible refine' s_div ?k1 ?_); (case k1 => walk_at "div"))
  | with_reducible refine' s_isN ?_ | with_reducible refine' s_isNotN ?_
  | ((with_reducible refine' s_idx ?k1 ?k2 ?_); (case k1 => walk_at "mem"); (case k2 => first | rfl | assumption))
  | ((with_reducible refine' s_list ?k1 ?_); (case k1 => walk_at "mem")) | ((with_reducible refine' s_tuple ?k1 ?_); (case k1 => walk_at "mem")) | ((with_reducible refine' s_len ?k1 ?_); (case k1 => walk_at "mem"))
  | with_reducible refine' s_abs ?_ | with_reducible refine' s_max ?_ | with_reducible refine' s_min ?_ | with_reducible refine' s_int ?_ | with_reducible refine' s_intB ?_
  | ((with_reducible refine' s_append ?k1 ?k2 ?_); (case k1 => walk_at "mem"); (case k2 => walk_at "side")) | ((with_reducible refine' ⟨s_tyL ?k1, ?_⟩); (case k1 => walk_at "mem"))
  | with_reducible refine' fr_lst ?_ | with_reducible refine' fr_call ?_ | with_reducible refine' fr_op ?_ | with_reducible refine' fr_fn ?_ | with_reducible refine' fr_mt ?_ | with_reducible refine' fr_prop ?_ | with_reducible refine' fr_sl ?_ | with_reducible refine' fr_var ?_ | with_reducible refine' fr_rev ?_ | with_reducible refine' fr_if ?_ | with_reducible refine' s_meth ?_ | with_reducible refine' s_prop ?_ | with_reducible refine' s_sl ?_ | with_reducible refine' s_noPart ?_ | with_reducible refine' s_part ?_ | with_reducible refine' s_isi ?_ | with_reducible refine' fz_all ?_ | with_reducible refine' fz_tup ?_ | with_reducible refine' fz_lst0 ?_ | with_reducible refine' fz_str ?_ | with_reducible refine' fz_int ?_ | with_reducible refine' fz_obj ?_ | with_reducible refine' s_kget ?_ | with_reducible refine' rev_t ?_ | ((with_reducible refine' rev_l ?k1 ?_); (case k1 => walk_at "mem")) | with_reducible refine' s_rev ?_ | with_reducible refine' s_consS ?_ | with_reducible refine' s_stL ?_ | with_reducible refine' fr_stL ?_ | with_reducible refine' s_lno ?_ | with_reducible refine' s_chain ?_ | with_reducible refine' s_rng1 ?_ | with_reducible refine' s_rng2 ?_ | with_reducible refine' s_enum ?_ | with_reducible refine' s_zip ?_
  | with_reducible refine' s_iseq ?_
  | ((with_reducible refine' s_setL ?k1 ?k2 ?_); (case k1 => walk_at "mem"); (case k2 => first | rfl | assumption))
  | ((with_reducible refine' s_lenA ?k1 ?_); (case k1 => rfl))
  | ((with_reducible refine' ⟨_, _, rfl, ?k1, ?_⟩); (case k1 => assumption)) | with_reducible refine' ⟨_, _, rfl, ?_⟩ | with_reducible refine' ⟨_, rfl, ?_⟩ | with_reducible refine' ⟨rfl, ?_⟩)
local macro_rules | `(tactic| walk_at "sq") => `(tactic| with_reducible refine' s_seq ?_)
local macro_rules | `(tactic| walk_at "if") => `(tactic| with_reducible refine' s_ife ?_)
local macro_rules | `(tactic| walk_at "for") => `(tactic| with_reducible refine' s_for ?_)

/-! ### walking a chain -/
def walk : List Stp → List Int → List (List Int)
  | [], v => [v]
  | s :: ss, v => v :: walk ss (sdone s v)
def fin : List Stp → List Int → List Int
  | [], v => v
  | s :: ss, v => fin ss (sdone s v)
theorem sdone_len (s : Stp) (v : List Int) : (sdone s v).length = v.length := by
  cases s <;> simp [sdone]
theorem fin_len (ss : List Stp) (v : List Int) : (fin ss v).length = v.length := by
  induction ss generalizing v with
  | nil => rfl
  | cons s ss ih => rw [fin, ih, sdone_len]
theorem fin_app (a b : List Stp) (v : List Int) : fin (a ++ b) v = fin b (fin a v) := by
  induction a generalizing v with
  | nil => rfl
  | cons s a ih => exact ih _
theorem walk_app (a : List Stp) (s : Stp) (v : List Int) : walk (a ++ [s]) v = walk a v ++ [sdone s (fin a v)] := by
  induction a generalizing v with
  | nil => rfl
  | cons t a ih => rw [List.cons_append, walk, ih]; rfl
theorem walk_last (a : List Stp) (v : List Int) : ∃ l, walk a v = l ++ [fin a v] := by
  induction a generalizing v with
  | nil => exact ⟨[], rfl⟩
  | cons t a ih => obtain ⟨l, e⟩ := ih (sdone t v); exact ⟨v :: l, by rw [walk, e]; rfl⟩
theorem walk_len (a : List Stp) (v : List Int) : (walk a v).length = a.length + 1 := by
  induction a generalizing v with
  | nil => rfl
  | cons t a ih => rw [walk, List.length_cons, ih, List.length_cons]
def SsOk (n : Nat) (ss : List Stp) : Prop := ∀ s ∈ ss, SOk n s
theorem atI_walk (a : List Stp) (v : List Int) : atI ((walk a v).map encV) (-1) = some (encV (fin a v)) := by
  obtain ⟨l, e⟩ := walk_last a v
  rw [e, List.map_append]
  exact atI_last
def spWalk : DSp := fun ds M R _ => ∃ (ss : List Stp) (v : List Int), ds = [.lst (ss.map encS), encV v] ∧ SsOk v.length ss ∧ v.length ≤ 1000 ∧ ss.length ≤ 1000 ∧ R (.lst ((walk ss v).map encV)) M
theorem s_walk {ss : List Stp} {v : List Int} {M : DM} {R : DK} {Ex : DX} (ok : SsOk v.length ss) (hl : v.length ≤ 1000) (hs : ss.length ≤ 1000) (r : R (.lst ((walk ss v).map encV)) M) : spWalk ([.lst (ss.map encS), encV v] ++ []) M R Ex := ⟨ss, v, rfl, ok, hl, hs, r⟩
theorem line1000 : 1001 ≤ sizeLine := by decide
theorem does_walk : Does { S0 with fn := fun _ => spDone } u_law_walk g_law_walk.N spWalk := by
  rintro ds M R Ex ⟨ss, v, rfl, ok, hl, hs, hR⟩
  dsimp only [u_law_walk, evS, ev, EvS.of, Ev.of, Op2.ev, Cmp.ev, BF.ev, BM.ev, AOp.ev, S0]
  repeat walk_at "ld"
  intro f hf
  repeat walk_at "ld"
  refine loop_ind (fun rem σ M' => ∃ (a b : List Stp) (x3 : Option D), ss = a ++ b ∧ rem = b.map encS ∧ σ = [some (.lst (ss.map encS)), some (encV v), some (.ref f), x3] ∧ M' = updM M f (.lst ((walk a v).map encV))) ⟨[], ss, none, rfl, rfl, rfl, rfl⟩ (fun _ _ _ _ => rfl) ?_ ?_
  · rintro σ M' ⟨a, b, x3, e, e2, rfl, rfl⟩
    have : b = [] := by cases b <;> first | rfl | cases e2
    subst this
    rw [List.append_nil] at e
    subst e
    repeat walk_at "ld"
    refine fz_lst updM_same ?_
    rw [delM_updM hf]
    exact hR
  · rintro d rem σ M' ⟨a, b, x3, e, e2, rfl, rfl⟩ ih
    cases b with
    | nil => cases e2
    | cons s b =>
      cases e2
      have a1 := atI_walk a v
      have ok1 : SOk (fin a v).length s := by rw [fin_len]; exact ok s (by rw [e]; simp)
      have z : ((walk a v).map encV).length < sizeLine := by
        rw [List.length_map, walk_len]
        have h1 : a.length < ss.length := by rw [e, List.length_append, List.length_cons]; omega
        have := line1000
        omega
      refine ⟨_, rfl, ?_⟩
      repeat walk_at "ld"
      refine s_done ok1 (by rw [fin_len]; exact hl) ?_
      repeat walk_at "ld"
      refine ih _ _ ⟨a ++ [s], b, _, by rw [e]; simp, rfl, rfl, ?_⟩
      rw [updM_updM, walk_app, List.map_append]
      rfl
def spEnd : DSp := fun ds M R _ => ∃ (ss : List Stp) (v : List Int), ds = [.lst (ss.map encS), encV v] ∧ SsOk v.length ss ∧ v.length ≤ 1000 ∧ ss.length ≤ 1000 ∧ R (encV (fin ss v)) M
theorem s_end {ss : List Stp} {v : List Int} {M : DM} {R : DK} {Ex : DX} (ok : SsOk v.length ss) (hl : v.length ≤ 1000) (hs : ss.length ≤ 1000) (r : R (encV (fin ss v)) M) : spEnd ([.lst (ss.map encS), encV v] ++ []) M R Ex := ⟨ss, v, rfl, ok, hl, hs, r⟩
theorem does_end : Does { S0 with fn := fun _ => spWalk } u_law_end g_law_end.N spEnd := by
  rintro ds M R Ex ⟨ss, v, rfl, ok, hl, hs, hR⟩
  dsimp only [u_law_end, evS, ev, EvS.of, Ev.of, Op2.ev, Cmp.ev, BF.ev, BM.ev, AOp.ev, S0]
  repeat walk_at "ld"
  refine s_walk ok hl hs ?_
  have a1 := atI_walk ss v
  repeat walk_at "ld"
  exact hR
/-! ### the pool of a law's round -/
def spPool : DSp := fun ds M R _ => ∃ (s : D) (ns : List Int) (i : Nat), ds = [s, .int i] ∧ isL M s = some (ns.map .int) ∧ ns.length ≤ 63 ∧ i ≤ 1000 ∧ ∀ (p : Addr) (q : Pool), M p = none → q.ok (2 ^ 40) → R (.ref p) (updM M p q.d)
theorem atI_get {ns : List Int} {i : Nat} (h : i < ns.length) : atI (ns.map D.int) (i : Int) = some (.int (ns.getD i 0)) := atI_map h
theorem isS_of_isL {M : DM} {x : D} {ds : List D} (h : isL M x = some ds) : isS M x = some ds := by
  cases x <;> first | exact h | cases h
theorem does_pool : Does S0 u_law_pool g_law_pool.N spPool := by
  rintro ds M R Ex ⟨s, ns, i, rfl, hs, hl, hi, hR⟩
  dsimp only [u_law_pool, evS, ev, EvS.of, Ev.of, Op2.ev, Cmp.ev, BF.ev, BM.ev, AOp.ev, S0]
  have hs' := isS_of_isL hs
  have key : ∀ c : Int, Pool.ok ⟨if (if c < 0 then -c else c) - 10 ^ Int.toNat 18 > 0 then (if c < 0 then -c else c) - 10 ^ Int.toNat 18 else 0, c.fmod 2305843009213693951 + 7368787 * (i + 1), 0⟩ (2 ^ 40) := fun c => by
    obtain ⟨f0, f1⟩ := fmod_b (a := c) (n := 2305843009213693951) (by decide)
    refine ⟨?_, ?_, ?_, Int.le_refl 0, show (0 : Int) + ((2 ^ 40 : Nat) : Int) ≤ 2 ^ 60 by decide⟩
    · show 0 ≤ ite _ _ _
      split <;> omega
    · show 0 ≤ c.fmod 2305843009213693951 + 7368787 * ((i : Int) + 1)
      omega
    · show c.fmod 2305843009213693951 + 7368787 * ((i : Int) + 1) ≤ 2 ^ 62
      omega
  have pk : PowOk 10 18 := ⟨by decide, by decide⟩
  repeat walk_at "ld"
  refine if2 (fun h => ?_) (fun h => ?_)
  · have a1 := atI_get (ns := ns) (i := i) (by rw [List.length_map] at h; omega)
    repeat walk_at "ld"
    refine s_pow pk ?_
    repeat walk_at "ld"
    intro p hp
    exact hR p _ hp (key _)
  · repeat walk_at "ld"
    refine s_pow pk ?_
    repeat walk_at "ld"
    intro p hp
    exact hR p _ hp (key 0)
end LK
end

section
set_option maxRecDepth 100000
set_option maxHeartbeats 400000
namespace LK
open PySem L2 LD
local macro_rules | `(tactic| walk_at "non") => `(tactic| first | assumption | (refine upd_non ?_ ?_ <;> first | assumption | (intro z; subst z; simp_all)))
local macro_rules | `(tactic| walk_at "mem") => `(tactic| first | rfl | exact updM_same | assumption | exact isS_ref updM_same | exact isL_ref updM_same | exact isL0_ref updM_same | (apply isS_ref; walk_at "mem") | (apply isL_ref; walk_at "mem") | (apply isL0_ref; walk_at "mem") | (refine upd_keep ?k1 ?k2; (case k2 => assumption); (case k1 => walk_at "mem")) | (refine upd_ne1 ?k1 ?k2; (case k2 => assumption); (case k1 => walk_at "mem")) | (refine upd_ne2 ?k1 ?k2; (case k2 => assumption); (case k1 => walk_at "mem")) | (refine del_keep ?_ ?_; all_goals first | assumption | walk_at "mem"))
local macro_rules | `(tactic| walk_at "side") => `(tactic| first | assumption | omega | decide)
local macro_rules | `(tactic| walk_at "mul") => `(tactic| first | assumption | (exact mul_l (by first | assumption | omega | decide)) | (exact mul_r (by first | assumption | omega | decide)))
local macro_rules | `(tactic| walk_at "div") => `(tactic| first | assumption | (exact div_ok2 (by first | assumption | omega | decide) (by first | assumption | omega | decide)))
local macro_rules | `(tactic| walk_at "ld") => `(tactic| first
  | with_reducible refine' s_seq ?_ | with_reducible refine' s_next ?_ | ((with_reducible refine' s_var ?k1 ?_); (case k1 => rfl)) | with_reducible refine' s_c ?_ | with_reducible refine' s_op ?_ | with_reducible refine' s_un ?_ | with_reducible refine' s_cons ?_ | with_reducible refine' s_nil ?_ | with_reducible refine' s_set ?_ | with_reducible refine' s_bcall ?_
  | with_reducible refine' s_tup ?_ | with_reducible refine' s_lst ?_ | with_reducible refine' s_ife ?_ | with_reducible refine' s_bl ?_ | with_reducible refine' s_exbl ?_ | with_reducible refine' ifT ?_ | with_reducible refine' ifF ?_ | with_reducible refine' ifNT ?_ | with_reducible refine' ifNF ?_ | with_reducible refine' ifO1 ?_ | with_reducible refine' ifO2 rfl ?_ | with_reducible refine' s_ret ?_ | with_reducible refine' s_retg ?_ | with_reducible refine' s_call ?_ | with_reducible refine' s_fld ?_ | with_reducible refine' s_drop ?_ | with_reducible refine' s_bm ?_
  | with_reducible refine' s_and ?_ | with_reducible refine' s_or ?_ | with_reducible refine' s_not ?_ | with_reducible refine' s_tru ?_ | with_reducible refine' s_ifx ?_ | with_reducible refine' s_andV ?_ | with_reducible refine' s_orV ?_ | with_reducible refine' s_notV ?_ | with_reducible refine' s_par2 ?_ | with_reducible refine' s_par3 ?_ | with_reducible refine' s_unp ?_ | with_reducible refine' s_subs ?_ | with_reducible refine' s_sub2 ?_ | with_reducible refine' s_augS ?_ | ((with_reducible refine' s_aug ?k1 ?_); (case k1 => rfl))
  | with_reducible refine' s_add ?_ | with_reducible refine' s_sub ?_ | with_reducible refine' s_neg ?_ | with_reducible refine' s_lt ?_ | with_reducible refine' s_le ?_ | with_reducible refine' s_gt ?_ | with_reducible refine' s_ge ?_ | with_reducible refine' s_addI ?_ | with_reducible refine' s_eqI ?_ | with_reducible refine' s_neI ?_
  | ((with_reducible refine' s_eqG (k := false) ?k1 ?k2 ?k3 ?k4 ?k5 ?_); (case k1 => rfl); (case k2 => rfl); (case k3 => decide +kernel); (case k4 => decide +kernel); (case k5 => decide +kernel)) | ((with_reducible refine' s_eqG (k := true) ?k1 ?k2 ?k3 ?k4 ?k5 ?_); (case k1 => rfl); (case k2 => rfl); (case k3 => decide +kernel); (case k4 => decide +kernel); (case k5 => decide +kernel))
  | ((with_reducible refine' s_neG (k := false) ?k1 ?k2 ?k3 ?k4 ?k5 ?_); (case k1 => rfl); (case k2 => rfl); (case k3 => decide +kernel); (case k4 => decide +kernel); (case k5 => decide +kernel)) | ((with_reducible refine' s_neG (k := true) ?k1 ?k2 ?k3 ?k4 ?k5 ?_); (case k1 => rfl); (case k2 => rfl); (case k3 => decide +kernel); (case k4 => decide +kernel); (case k5 => decide +kernel))
  | ((with_reducible refine' s_mod ?k1 ?_); (case k1 => walk_at "side")) | ((with_reducible refine' s_mul ?k1 ?_); (case k1 => walk_at "mul")) | ((with_reducible refine' s_div ?k1 ?_); (case k1 => walk_at "div"))
  | with_reducible refine' s_isN ?_ | with_reducible refine' s_isNotN ?_
  | ((with_reducible refine' s_idx ?k1 ?k2 ?_); (case k1 => walk_at "mem"); (case k2 => first | rfl | assumption))
  | ((with_reducible refine' s_list ?k1 ?_); (case k1 => walk_at "mem")) | ((with_reducible refine' s_tuple ?k1 ?_); (case k1 => walk_at "mem")) | ((with_reducible refine' s_len ?k1 ?_); (case k1 => walk_at "mem"))
  | with_reducible refine' s_abs ?_ | with_reducible refine' s_max ?_ | with_reducible refine' s_min ?_ | with_reducible refine' s_int ?_ | with_reducible refine' s_intB ?_
  | ((with_reducible refine' s_append ?k1 ?k2 ?_); (case k1 => walk_at "mem"); (case k2 => walk_at "side")) | ((with_reducible refine' ⟨s_tyL ?k1, ?_⟩); (case k1 => walk_at "mem"))
  | with_reducible refine' fr_lst ?_ | with_reducible refine' fr_call ?_ | with_reducible refine' fr_op ?_ | with_reducible refine' fr_fn ?_ | with_reducible refine' fr_mt ?_ | with_reducible refine' fr_prop ?_ | with_reducible refine' fr_sl ?_ | with_reducible refine' fr_var ?_ | with_reducible refine' fr_rev ?_ | with_reducible refine' fr_if ?_ | with_reducible refine' s_meth ?_ | with_reducible refine' s_prop ?_ | with_reducible refine' s_sl ?_ | with_reducible refine' s_noPart ?_ | with_reducible refine' s_part ?_ | with_reducible refine' s_isi ?_ | with_reducible refine' fz_all ?_ | with_reducible refine' fz_tup ?_ | with_reducible refine' fz_lst0 ?_ | with_reducible refine' fz_str ?_ | with_reducible refine' fz_int ?_ | with_reducible refine' fz_obj ?_ | with_reducible refine' s_kget ?_ | with_reducible refine' rev_t ?_ | ((with_reducible refine' rev_l ?k1 ?_); (case k1 => walk_at "mem")) | with_reducible refine' s_rev ?_ | with_reducible refine' s_consS ?_ | with_reducible refine' s_stL ?_ | with_reducible refine' fr_stL ?_ | with_reducible refine' s_lno ?_ | with_reducible refine' s_chain ?_ | with_reducible refine' s_rng1 ?_ | with_reducible refine' s_rng2 ?_ | with_reducible refine' s_enum ?_ | with_reducible refine' s_zip ?_
  | with_reducible refine' s_for ?_ | with_reducible refine' s_iseq ?_
  | ((with_reducible refine' s_setL ?k1 ?k2 ?_); (case k1 => walk_at "mem"); (case k2 => first | rfl | assumption))
  | ((with_reducible refine' s_lenA ?k1 ?_); (case k1 => rfl))
  | ((with_reducible refine' ⟨_, _, rfl, ?k1, ?_⟩); (case k1 => assumption)) | with_reducible refine' ⟨_, _, rfl, ?_⟩ | with_reducible refine' ⟨_, rfl, ?_⟩ | with_reducible refine' ⟨rfl, ?_⟩)
local macro_rules | `(tactic| walk_at "le") => `(tactic| first
  | with_reducible refine' s_next ?_ | ((with_reducible refine' s_var ?k1 ?_); (case k1 => rfl)) | with_reducible refine' s_c ?_ | with_reducible refine' s_op ?_ | with_reducible refine' s_un ?_ | with_reducible refine' s_cons ?_ | with_reducible refine' s_nil ?_ | with_reducible refine' s_set ?_ | with_reducible refine' s_bcall ?_
  | with_reducible refine' s_tup ?_ | with_reducible refine' s_lst ?_ | with_reducible refine' s_bl ?_ | with_reducible refine' s_exbl ?_ | with_reducible refine' ifT ?_ | with_reducible refine' ifF ?_ | with_reducible refine' ifNT ?_ | with_reducible refine' ifNF ?_ | with_reducible refine' ifO1 ?_ | with_reducible refine' ifO2 rfl ?_ | with_reducible refine' s_ret ?_ | with_reducible refine' s_retg ?_ | with_reducible refine' s_call ?_ | with_reducible refine' s_fld ?_ | with_reducible refine' s_drop ?_ | with_reducible refine' s_bm ?_
  | with_reducible refine' s_and ?_ | with_reducible refine' s_or ?_ | with_reducible refine' s_not ?_ | with_reducible refine' s_tru ?_ | with_reducible refine' s_ifx ?_ | with_reducible refine' s_andV ?_ | with_reducible refine' s_orV ?_ | with_reducible refine' s_notV ?_ | with_reducible refine' s_par2 ?_ | with_reducible refine' s_par3 ?_ | with_reducible refine' s_unp ?_ | with_reducible refine' s_subs ?_ | with_reducible refine' s_sub2 ?_ | with_reducible refine' s_augS ?_ | ((with_reducible refine' s_aug ?k1 ?_); (case k1 => rfl))
  | with_reducible refine' s_add ?_ | with_reducible refine' s_sub ?_ | with_reducible refine' s_neg ?_ | with_reducible refine' s_lt ?_ | with_reducible refine' s_le ?_ | with_reducible refine' s_gt ?_ | with_reducible refine' s_ge ?_ | with_reducible refine' s_addI ?_ | with_reducible refine' s_eqI ?_ | with_reducible refine' s_neI ?_
  | ((with_reducible refine' s_eqG (k := false) ?k1 ?k2 ?k3 ?k4 ?k5 ?_); (case k1 => rfl); (case k2 => rfl); (case k3 => decide +kernel); (case k4 => decide +kernel); (case k5 => decide +kernel)) | ((with_reducible refine' s_eqG (k := true) ?k1 ?k2 ?k3 ?k4 ?k5 ?_); (case k1 => rfl); (case k2 => rfl); (case k3 => decide +kernel); (case k4 => decide +kernel); (case k5 => decide +kernel))
  | ((with_reducible refine' s_neG (k := false) ?k1 ?k2 ?k3 ?k4 ?k5 ?_); (case k1 => rfl); (case k2 => rfl); (case k3 => decide +kernel); (case k4 => decide +kernel); (case k5 => decide +kernel)) | ((with_reducible refine' s_neG (k := true) ?k1 ?k2 ?k3 ?k4 ?k5 ?_); (case k1 => rfl); (case k2 => rfl); (case k3 => decide +kernel); (case k4 => decide +kernel); (case k5 => decide +kernel))
  | ((with_reducible refine' s_mod ?k1 ?_); (case k1 => walk_at "side")) | ((with_reducible refine' s_mul ?k1 ?_); (case k1 => walk_at "mul")) | ((with_reducible refine' s_div ?k1 ?_); (case k1 => walk_at "div"))
  | with_reducible refine' s_isN ?_ | with_reducible refine' s_isNotN ?_
  | ((with_reducible refine' s_idx ?k1 ?k2 ?_); (case k1 => walk_at "mem"); (case k2 => first | rfl | assumption))
  | ((with_reducible refine' s_list ?k1 ?_); (case k1 => walk_at "mem")) | ((with_reducible refine' s_tuple ?k1 ?_); (case k1 => walk_at "mem")) | ((with_reducible refine' s_len ?k1 ?_); (case k1 => walk_at "mem"))
  | with_reducible refine' s_abs ?_ | with_reducible refine' s_max ?_ | with_reducible refine' s_min ?_ | with_reducible refine' s_int ?_ | with_reducible refine' s_intB ?_
  | ((with_reducible refine' s_append ?k1 ?k2 ?_); (case k1 => walk_at "mem"); (case k2 => walk_at "side")) | ((with_reducible refine' ⟨s_tyL ?k1, ?_⟩); (case k1 => walk_at "mem"))
  | with_reducible refine' fr_lst ?_ | with_reducible refine' fr_call ?_ | with_reducible refine' fr_op ?_ | with_reducible refine' fr_fn ?_ | with_reducible refine' fr_mt ?_ | with_reducible refine' fr_prop ?_ | with_reducible refine' fr_sl ?_ | with_reducible refine' fr_var ?_ | with_reducible refine' fr_rev ?_ | with_reducible refine' fr_if ?_ | with_reducible refine' s_meth ?_ | with_reducible refine' s_prop ?_ | with_reducible refine' s_sl ?_ | with_reducible refine' s_noPart ?_ | with_reducible refine' s_part ?_ | with_reducible refine' s_isi ?_ | with_reducible refine' fz_all ?_ | with_reducible refine' fz_tup ?_ | with_reducible refine' fz_lst0 ?_ | with_reducible refine' fz_str ?_ | with_reducible refine' fz_int ?_ | with_reducible refine' fz_obj ?_ | with_reducible refine' s_kget ?_ | with_reducible refine' rev_t ?_ | ((with_reducible refine' rev_l ?k1 ?_); (case k1 => walk_at "mem")) | with_reducible refine' s_rev ?_ | with_reducible refine' s_consS ?_ | with_reducible refine' s_stL ?_ | with_reducible refine' fr_stL ?_ | with_reducible refine' s_lno ?_ | with_reducible refine' s_chain ?_ | with_reducible refine' s_rng1 ?_ | with_reducible refine' s_rng2 ?_ | with_reducible refine' s_enum ?_ | with_reducible refine' s_zip ?_
  | with_reducible refine' s_iseq ?_
  | ((with_reducible refine' s_setL ?k1 ?k2 ?_); (case k1 => walk_at "mem"); (case k2 => first | rfl | assumption))
  | ((with_reducible refine' s_lenA ?k1 ?_); (case k1 => rfl))
  | ((with_reducible refine' ⟨_, _, rfl, ?k1, ?_⟩); (case k1 => assumption)) | with_reducible refine' ⟨_, _, rfl, ?_⟩ | with_reducible refine' ⟨_, rfl, ?_⟩ | with_reducible refine' ⟨rfl, ?_⟩)
local macro_rules | `(tactic| walk_at "sq") => `(tactic| with_reducible refine' s_seq ?_)
local macro_rules | `(tactic| walk_at "if") => `(tactic| with_reducible refine' s_ife ?_)
local macro_rules | `(tactic| walk_at "for") => `(tactic| with_reducible refine' s_for ?_)

/-! ### boxes -/
def encP (b : Int × Int) : D := .tup [.int b.1, .int b.2]
def ext (lo hi : Int) (pl : List Int) : List (List Int) := (List.range (hi + 1 - lo).toNat).map fun i => pl ++ [lo + (i : Nat)]
def allStep (acc : List (List Int)) (b : Int × Int) : List (List Int) := acc.flatMap (ext b.1 b.2)
def allB (box : List (Int × Int)) : List (List Int) := box.foldl allStep [[]]
theorem allB_app (a : List (Int × Int)) (b : Int × Int) : allB (a ++ [b]) = (allB a).flatMap (ext b.1 b.2) := by unfold allB; rw [List.foldl_append]; rfl
theorem allB_len (a : List (Int × Int)) : ∀ pl ∈ allB a, pl.length = a.length := by
  suffices h : ∀ (n : Nat) (a : List (Int × Int)), a.length = n → ∀ pl ∈ allB a, pl.length = n from fun pl hp => h _ a rfl pl hp
  intro n
  induction n with
  | zero =>
    intro a ha pl hp
    have : a = [] := List.length_eq_zero_iff.mp ha
    subst this
    simp [allB] at hp
    subst hp; rfl
  | succ n ih =>
    intro a ha pl hp
    obtain ⟨b, c, rfl⟩ : ∃ b c, a = b ++ [c] := ⟨a.dropLast, a.getLast (by intro z; subst z; simp at ha), (List.dropLast_concat_getLast _).symm⟩
    rw [allB_app] at hp
    obtain ⟨x, hx, hy⟩ := List.mem_flatMap.mp hp
    obtain ⟨i, _, rfl⟩ := List.mem_map.mp hy
    have := ih b (by simpa using ha) x hx
    simp [this]
theorem s_extend {a : Addr} {y : D} {xs es : List D} {M : DM} {R : DK} (h1 : M a = some (.lst xs)) (h2 : isL0 M y = some es) (h3 : xs.length + es.length ≤ sizeLine) (r : R .non (updM M a (.lst (xs ++ es)))) : mExtend (.ref a) [y] M R := by
  unfold mExtend
  simp only [h1]
  exact ⟨es, h2, h3, r⟩
def BoxOk (box : List (Int × Int)) : Prop := box.length ≤ 1000 ∧ (∀ b ∈ box, small62 b.1 ∧ small62 (b.2 + 1)) ∧ ∀ n, (allB (box.take n)).length ≤ 1000000
def spAll : DSp := fun ds M R _ => ∃ box : List (Int × Int), ds = [.lst (box.map encP)] ∧ BoxOk box ∧ R (.lst ((allB box).map encV)) M
theorem s_all {box : List (Int × Int)} {M : DM} {R : DK} {Ex : DX} (ok : BoxOk box) (r : R (.lst ((allB box).map encV)) M) : spAll ([.lst (box.map encP)] ++ []) M R Ex := ⟨box, rfl, ok, r⟩
theorem million : 1000000 ≤ sizeLine := by decide
theorem flatMap_le {α β : Type} (f : α → List β) (a b : List α) : (a.flatMap f).length ≤ ((a ++ b).flatMap f).length := by simp
theorem allIn {Z : DEnds} {M : DM} {l : Addr} {box : List (Int × Int)} {acc : List (List Int)} {lo hi : Int} {x6 : Option D} (hl : M l = none) (hlo : small62 lo) (hhi : small62 (hi + 1)) (hlen : ∀ pl ∈ acc, pl.length ≤ 1000) (hz : (acc.flatMap (ext lo hi)).length ≤ 1000000)
    (hk : ∀ x5 x6, Z.nx [some (.lst (box.map encP)), some (.lst (acc.map encV)), some (.int lo), some (.int hi), some (.ref l), x5, x6] (updM M l (.lst ((acc.flatMap (ext lo hi)).map encV)))) {x5 : Option D} :
    (evS S0 (.for (.var 1) (.name 5) (.cons (.expr (.bmeth .extend (.var 4) (.cons (.frz (.lc (.rng2 (.cons (.var 2) (.cons (.bin .add (.var 3) (.int 1)) .nil))) (.name 6) .nil (.bin .add (.var 5) (.tup (.cons (.var 6) .nil))) [6])) .nil))) .nil))).s Z
      [some (.lst (box.map encP)), some (.lst (acc.map encV)), some (.int lo), some (.int hi), some (.ref l), x5, x6] (updM M l (.lst [])) := by
  dsimp only [evS, ev, EvS.of, Ev.of, Op2.ev, Cmp.ev, BF.ev, BM.ev, AOp.ev, S0, isNil]
  repeat walk_at "ld"
  refine loop_ind (fun rem σ M' => ∃ (a b : List (List Int)) (x5 x6 : Option D), acc = a ++ b ∧ rem = b.map encV ∧ σ = [some (.lst (box.map encP)), some (.lst (acc.map encV)), some (.int lo), some (.int hi), some (.ref l), x5, x6] ∧ M' = updM M l (.lst ((a.flatMap (ext lo hi)).map encV)))
    ⟨[], acc, _, _, rfl, rfl, rfl, rfl⟩ (fun _ _ _ _ => rfl) ?_ ?_
  · rintro σ M' ⟨a, b, x5, x6, e, e2, rfl, rfl⟩
    have : b = [] := by cases b <;> first | rfl | cases e2
    subst this
    rw [List.append_nil] at e
    subst e
    repeat walk_at "ld"
    exact hk _ _
  · rintro d rem σ M' ⟨a, b, x5, x6, e, e2, rfl, rfl⟩ ih
    cases b with
    | nil => cases e2
    | cons pl b =>
      cases e2
      have hpl : pl.length ≤ 1000 := hlen pl (by rw [e]; simp)
      have z1 : ((a ++ [pl]).flatMap (ext lo hi)).length ≤ 1000000 := by
        have := flatMap_le (ext lo hi) (a ++ [pl]) b
        rw [e] at hz
        simp only [List.append_assoc, List.cons_append, List.nil_append] at this
        omega
      have z2 : (ext lo hi pl).length ≤ 1000000 := by
        simp only [List.flatMap_append, List.flatMap_cons, List.flatMap_nil, List.append_nil, List.length_append] at z1
        omega
      refine ⟨_, rfl, ?_⟩
      repeat walk_at "ld"
      refine s_lcMap (List.range (hi + 1 - lo).toNat) (fun i => .int (lo + (i : Nat))) (fun i => encV (pl ++ [lo + (i : Nat)])) ?_ (fun Q h => ?_) (fun c hc i hi' M' o hM' => ⟨_, rfl, fun Q hQ => ?_⟩) ?_
      · have h1 : (ext lo hi pl).length = (List.range (hi + 1 - lo).toNat).length := by unfold ext; rw [List.length_map]
        rw [← h1]
        exact Nat.le_trans z2 million
      · repeat walk_at "ld"
        exact ⟨hlo, hhi, h _ fun _ _ _ _ => trivial⟩
      · repeat walk_at "ld"
        refine s_addT (by simp only [List.length_map, List.length_cons, List.length_nil]; have := line1000; omega) ?_
        have e : D.tup (pl.map D.int ++ [D.int (lo + (i : Nat))]) = encV (pl ++ [lo + (i : Nat)]) := by unfold encV; rw [List.map_append]; rfl
        rw [e]
        exact hQ
      · repeat walk_at "ld"
        have e3 : (List.range (hi + 1 - lo).toNat).map (fun i => encV (pl ++ [lo + (i : Nat)])) = (ext lo hi pl).map encV := by unfold ext; rw [List.map_map]; rfl
        rw [e3]
        refine s_extend updM_same rfl ?_ ?_
        · rw [List.length_map, List.length_map]
          simp only [List.flatMap_append, List.flatMap_cons, List.flatMap_nil, List.append_nil, List.length_append] at z1
          have := million
          omega
        · repeat walk_at "ld"
          refine ih _ _ ⟨a ++ [pl], b, _, _, by rw [e]; simp, rfl, rfl, ?_⟩
          rw [updM_updM, List.flatMap_append, List.map_append]
          simp
theorem does_all : Does S0 u_law_all g_law_all.N spAll := by
  rintro ds M R Ex ⟨box, rfl, ⟨bl, bb, bz⟩, hR⟩
  dsimp only [u_law_all, evS, ev, EvS.of, Ev.of, Op2.ev, Cmp.ev, BF.ev, BM.ev, AOp.ev, S0, isNil]
  repeat walk_at "ld"
  refine loop_ind (fun rem σ M' => ∃ (a b : List (Int × Int)) (x2 x3 x4 x5 x6 : Option D), box = a ++ b ∧ rem = b.map encP ∧ σ = [some (.lst (box.map encP)), some (.lst ((allB a).map encV)), x2, x3, x4, x5, x6] ∧ M' = M ∧ (x4 = none ∨ ∃ l, x4 = some (.ref l) ∧ M l = none))
    ⟨[], box, none, none, none, none, none, rfl, rfl, rfl, rfl, .inl rfl⟩ (fun _ _ _ _ => rfl) ?_ ?_
  · rintro σ M' ⟨a, b, x2, x3, x4, x5, x6, e, e2, rfl, rfl, hx⟩
    have : b = [] := by cases b <;> first | rfl | cases e2
    subst this
    rw [List.append_nil] at e
    subst e
    repeat walk_at "ld"
    rcases hx with rfl | ⟨l, rfl, hl⟩
    · exact hR
    · rw [forget1 (a := l), del_non hl]
      · exact hR
      · rfl
  · rintro d rem σ M' ⟨a, b, x2, x3, x4, x5, x6, e, e2, rfl, rfl, hx⟩ ih
    cases b with
    | nil => cases e2
    | cons bx b =>
      cases e2
      obtain ⟨lo, hi⟩ := bx
      refine ⟨_, rfl, ?_⟩
      walk_at "sq"
      repeat walk_at "le"
      intro l hl
      obtain ⟨h1, h2⟩ := bb (lo, hi) (by rw [e]; simp)
      have z := bz (a.length + 1)
      rw [e, show a ++ (lo, hi) :: b = (a ++ [(lo, hi)]) ++ b by simp, List.take_append_of_le_length (by simp), List.take_of_length_le (by simp), allB_app] at z
      have hal : a.length ≤ 1000 := by rw [e] at bl; simp at bl; omega
      walk_at "sq"
      refine allIn (box := box) hl h1 h2 (fun pl hp => by rw [allB_len a pl hp]; exact hal) z fun x5 x6 => ?_
      repeat walk_at "ld"
      refine fz_lst updM_same ?_
      rw [delM_updM hl]
      repeat walk_at "ld"
      refine ih _ _ ⟨a ++ [(lo, hi)], b, some (.int lo), some (.int hi), some (.ref l), x5, x6, by rw [e]; simp, rfl, ?_, rfl, .inr ⟨l, rfl, hl⟩⟩
      rw [allB_app]
      rfl
/-! ### the program's own chains -/
def encC (C : Addr) (n : Nat) (ss : List Stp) : D := .obj C ["channel_count", "kept_steps"] [.int n, .tup (ss.map encS)]
theorem fld_kept {C : Addr} {n : Nat} {ss : List Stp} {M : DM} : fldD C "kept_steps" M (encC C n ss) = some (.tup (ss.map encS)) := by
  show (if C = C then _ else _) = _
  rw [if_pos rfl]; rfl
theorem fld_count {C : Addr} {n : Nat} {ss : List Stp} {M : DM} : fldD C "channel_count" M (encC C n ss) = some (.int n) := by
  show (if C = C then _ else _) = _
  rw [if_pos rfl]; rfl
/-- what is_step says of a good step -/
def spIsStep : DSp := fun ds M R _ => ∃ (s : Stp) (n : Nat), ds = [encS s, .int n] ∧ SOk n s ∧ R (.bl true) M
theorem s_isStep {s : Stp} {n : Nat} {M : DM} {R : DK} {Ex : DX} (ok : SOk n s) (r : R (.bl true) M) : spIsStep ([encS s, .int n] ++ []) M R Ex := ⟨s, n, rfl, ok, r⟩
def items : List (Str × Option D) := [("lift", some (.int 5)), ("swap", some (.int 3)), ("turn", some (.int 2))]
def Sis : Sg := { S0 with kd := fun _ => items }
theorem bl_t {R : DK} {M : DM} {b : Bool} (h : b = true) (r : R (.bl true) M) : R (.bl b) M := by rw [h]; exact r
theorem does_isStep : Does Sis u_is_step g_is_step.N spIsStep := by
  rintro ds M R Ex ⟨s, n, rfl, ok, hR⟩
  dsimp only [u_is_step, evS, ev, EvS.of, Ev.of, Op2.ev, Cmp.ev, BF.ev, BM.ev, AOp.ev, S0, Sis]
  have g1 : items.lookup ("lift" : Str) = some (some (.int 5)) := rfl
  have g2 : items.lookup ("swap" : Str) = some (some (.int 3)) := rfl
  have g3 : items.lookup ("turn" : Str) = some (some (.int 2)) := rfl
  cases s with
  | swap i j =>
    have ok : i < j ∧ j < n := ok
    repeat walk_at "ld"
    rw [Option.getD_some]
    repeat walk_at "ld"
    refine ifnT rfl ?_
    repeat walk_at "ld"
    refine ifdT (by omega) ?_
    repeat walk_at "ld"
    refine ifnT (by omega) ?_
    repeat walk_at "ld"
    refine ifdT (by omega) ?_
    repeat walk_at "ld"
    exact bl_t (decide_eq_true (by omega)) hR
  | turn i =>
    have ok : i < n := ok
    repeat walk_at "ld"
    rw [Option.getD_some]
    repeat walk_at "ld"
    refine ifnT rfl ?_
    repeat walk_at "ld"
    refine ifdT (by omega) ?_
    repeat walk_at "ld"
    refine ifnT (by omega) ?_
    repeat walk_at "ld"
    exact hR
  | lift c ws m d =>
    obtain ⟨o1, o2, o3, o4, o5, o6, o7⟩ := ok
    have a1 := atI_map (v := ws) (i := c) (by omega)
    rw [o3] at a1
    repeat walk_at "ld"
    rw [Option.getD_some]
    repeat walk_at "ld"
    refine ifnT rfl ?_
    repeat walk_at "ld"
    refine ifdT (by omega) ?_
    repeat walk_at "ld"
    refine ifnT (by omega) ?_
    repeat walk_at "ld"
    refine ifdT (by rw [List.length_map]; omega) ?_
    repeat walk_at "ld"
    refine ifdT rfl ?_
    repeat walk_at "ld"
    exact bl_t (decide_eq_true (by omega)) hR
/-- Chain(n, steps) for good steps -/
def spInit (C : Addr) : DSp := fun ds M R _ => ∃ (x : Addr) (n : Nat) (ss : List Stp), ds = [.ref x, .int n, .lst (ss.map encS)] ∧ M x = some (.ins C [] []) ∧ (n = 2 ∨ n = 3) ∧ SsOk n ss ∧ ss.length ≤ 1000 ∧
  R .non (updM M x (.ins C ["channel_count", "kept_steps"] [.int n, .tup (ss.map encS)]))
def Sci (C : Addr) : Sg := { S0 with fn := fun _ => spIsStep, fl := fun _ => 0, fc := fun _ => C, fnm := fun j => match j with | 0 => "channel_count" | _ => "kept_steps", cs := fun _ => .tup [.int 2, .int 3] }
theorem enum_map (ss : List Stp) : enumD (ss.map encS) = (ss.zipIdx).map fun p => .tup [.int (p.2 : Nat), encS p.1] := by
  unfold enumD
  rw [List.zipIdx_map, List.map_map]
  rfl
theorem zipIdx_fst {α : Type} {xs : List α} {k : Nat} {p : α × Nat} (h : p ∈ xs.zipIdx k) : p.1 ∈ xs := by
  induction xs generalizing k with
  | nil => simp at h
  | cons x xs ih =>
    rw [List.zipIdx_cons] at h
    rcases List.mem_cons.mp h with e | e
    · subst e; exact List.mem_cons_self
    · exact List.mem_cons_of_mem _ (ih e)
theorem s_attrT {C : Addr} {f : Str} {to te : DTE} {Z : DEnds} {σ : DSt} {M : DM} (h : te σ M (fun d M1 => to σ M1 (fun o M2 => match o with
  | .ref a => match M2 a with
    | some (.ins C' ns ds) => C' = C ∧ ns.length < 1000 ∧ Z.nx σ (updM M2 a (.ins C (putZ f d ns ds).1 (putZ f d ns ds).2))
    | _ => False
  | _ => False) (Z.ex σ)) (Z.ex σ)) : sAttr C f to te Z σ M := h
theorem s_attr1 {C : Addr} {f : Str} {a : Addr} {ns : List Str} {ds : List D} {d : D} {M : DM} {Q : DM → Prop} (h : M a = some (.ins C ns ds)) (hl : ns.length < 1000) (k : Q (updM M a (.ins C (putZ f d ns ds).1 (putZ f d ns ds).2))) : match M a with
    | some (.ins C' ns ds) => C' = C ∧ ns.length < 1000 ∧ Q (updM M a (.ins C (putZ f d ns ds).1 (putZ f d ns ds).2))
    | _ => False := by
  rw [h]; exact ⟨rfl, hl, k⟩
theorem does_init (C : Addr) : Does (Sci C) u_Chain_init g_Chain_init.N (spInit C) := by
  rintro ds M R Ex ⟨x, n, ss, rfl, hx, hn, ok, hl, hR⟩
  dsimp only [u_Chain_init, evS, ev, EvS.of, Ev.of, Op2.ev, Cmp.ev, BF.ev, BM.ev, AOp.ev, S0, Sci]
  walk_at "sq"
  walk_at "if"
  repeat walk_at "le"
  refine ⟨[.int 2, .int 3], .int n, [.int 2, .int 3], rfl, rfl, rfl, ?_⟩
  have e : inV (V.int n) [V.int 2, V.int 3] = true := by rcases hn with rfl | rfl <;> rfl
  rw [e]
  repeat walk_at "le"
  show if false = true then _ else _
  repeat walk_at "ld"
  rw [enum_map]
  refine loop_ind (fun rem σ M' => ∃ (ps : List (Stp × Nat)) (x3 x4 : Option D), rem = ps.map (fun p => .tup [.int (p.2 : Nat), encS p.1]) ∧ (∀ p ∈ ps, p.1 ∈ ss) ∧ σ = [some (.ref x), some (.int n), some (.lst (ss.map encS)), x3, x4] ∧ M' = M)
    ⟨ss.zipIdx, none, none, rfl, fun p hp => zipIdx_fst hp, rfl, rfl⟩ (fun _ _ _ _ => rfl) ?_ ?_
  · rintro σ M' ⟨ps, x3, x4, e, hp, rfl, rfl⟩
    repeat walk_at "ld"
    refine s_attrT ?_
    repeat walk_at "ld"
    refine s_attr1 hx (by decide) ?_
    repeat walk_at "ld"
    refine s_attrT ?_
    repeat walk_at "ld"
    refine s_attr1 updM_same (show 1 < 1000 by decide) ?_
    rw [updM_updM]
    exact hR
  · rintro d rem σ M' ⟨ps, x3, x4, e, hp, rfl, rfl⟩ ih
    cases ps with
    | nil => cases e
    | cons p ps =>
      cases e
      refine ⟨_, rfl, ?_⟩
      repeat walk_at "ld"
      refine s_isStep (ok p.1 (hp p List.mem_cons_self)) ?_
      repeat walk_at "ld"
      exact ih _ _ ⟨ps, _, _, rfl, fun q hq => hp q (List.mem_cons_of_mem _ hq), rfl, rfl⟩
/-- what the chain's parts give -/
def spSteps (C : Addr) : DSp := fun ds M R _ => ∃ (n : Nat) (ss : List Stp), ds = [encC C n ss] ∧ R (.lst (ss.map encS)) M
def Skept (C : Addr) : Sg := { S0 with fn := fun _ => spDone, fl := fun _ => 0, fc := fun _ => C, fnm := fun _ => "kept_steps" }
theorem does_steps (C : Addr) : Does (Skept C) u_Chain_steps g_Chain_steps.N (spSteps C) := by
  rintro ds M R Ex ⟨n, ss, rfl, hR⟩
  dsimp only [u_Chain_steps, evS, ev, EvS.of, Ev.of, Op2.ev, Cmp.ev, BF.ev, BM.ev, AOp.ev, S0, Skept]
  repeat walk_at "ld"
  refine ⟨_, fld_kept, ?_⟩
  repeat walk_at "ld"
  exact hR
def spLen (C : Addr) : DSp := fun ds M R _ => ∃ (n : Nat) (ss : List Stp), ds = [encC C n ss] ∧ R (.int ss.length) M
theorem does_len (C : Addr) : Does (Skept C) u_Chain_len g_Chain_len.N (spLen C) := by
  rintro ds M R Ex ⟨n, ss, rfl, hR⟩
  dsimp only [u_Chain_len, evS, ev, EvS.of, Ev.of, Op2.ev, Cmp.ev, BF.ev, BM.ev, AOp.ev, S0, Skept]
  repeat walk_at "ld"
  refine ⟨_, fld_kept, ?_⟩
  repeat walk_at "ld"
  rw [List.length_map]
  exact hR
def spChannels (C : Addr) : DSp := fun ds M R _ => ∃ (n : Nat) (ss : List Stp), ds = [encC C n ss] ∧ R (.int n) M
theorem does_channels (C : Addr) : Does { S0 with fc := fun _ => C, fnm := fun _ => "channel_count" } u_Chain_channels g_Chain_channels.N (spChannels C) := by
  rintro ds M R Ex ⟨n, ss, rfl, hR⟩
  dsimp only [u_Chain_channels, evS, ev, EvS.of, Ev.of, Op2.ev, Cmp.ev, BF.ev, BM.ev, AOp.ev, S0]
  repeat walk_at "ld"
  exact ⟨_, fld_count, hR⟩
def spAt (C : Addr) : DSp := fun ds M R _ => ∃ (n : Nat) (ss : List Stp) (v : List Int), ds = [encC C n ss, encV v] ∧ SsOk v.length ss ∧ v.length ≤ 1000 ∧ R (encV (fin ss v)) M
theorem does_at (C : Addr) : Does (Skept C) u_Chain_at g_Chain_at.N (spAt C) := by
  rintro ds M R Ex ⟨n, ss, v, rfl, ok, hl, hR⟩
  dsimp only [u_Chain_at, evS, ev, EvS.of, Ev.of, Op2.ev, Cmp.ev, BF.ev, BM.ev, AOp.ev, S0, Skept]
  repeat walk_at "ld"
  refine ⟨_, fld_kept, ?_⟩
  repeat walk_at "ld"
  refine loop_ind (fun rem σ M' => ∃ (b : List Stp) (w : List Int) (x3 : Option D), rem = b.map encS ∧ σ = [some (encC C n ss), some (encV v), some (encV w), x3] ∧ M' = M ∧ w.length = v.length ∧ (∀ s ∈ b, SOk v.length s) ∧ fin b w = fin ss v)
    ⟨ss, v, none, rfl, rfl, rfl, rfl, ok, rfl⟩ (fun _ _ _ _ => rfl) ?_ ?_
  · rintro σ M' ⟨b, w, x3, e2, rfl, rfl, hw, hb, hf⟩
    have : b = [] := by cases b <;> first | rfl | cases e2
    subst this
    repeat walk_at "ld"
    rw [show w = fin ss v from hf]
    exact hR
  · rintro d rem σ M' ⟨b, w, x3, e2, rfl, rfl, hw, hb, hf⟩ ih
    cases b with
    | nil => cases e2
    | cons s b =>
      cases e2
      refine ⟨_, rfl, ?_⟩
      repeat walk_at "ld"
      refine s_done (by rw [hw]; exact hb s List.mem_cons_self) (by rw [hw]; exact hl) ?_
      repeat walk_at "ld"
      exact ih _ _ ⟨b, _, _, rfl, rfl, rfl, by rw [sdone_len]; exact hw, fun t ht => hb t (List.mem_cons_of_mem _ ht), hf⟩
def spPath (C : Addr) : DSp := fun ds M R _ => ∃ (n : Nat) (ss : List Stp) (v : List Int), ds = [encC C n ss, encV v] ∧ SsOk v.length ss ∧ v.length ≤ 1000 ∧ ss.length ≤ 1000 ∧ ∀ p, M p = none → R (.ref p) (updM M p (.lst ((walk ss v).map encV)))
theorem does_path (C : Addr) : Does (Skept C) u_Chain_path g_Chain_path.N (spPath C) := by
  rintro ds M R Ex ⟨n, ss, v, rfl, ok, hl, hs, hR⟩
  dsimp only [u_Chain_path, evS, ev, EvS.of, Ev.of, Op2.ev, Cmp.ev, BF.ev, BM.ev, AOp.ev, S0, Skept]
  repeat walk_at "ld"
  intro f hf
  repeat walk_at "ld"
  refine ⟨_, fld_kept, ?_⟩
  repeat walk_at "ld"
  refine loop_ind (fun rem σ M' => ∃ (a b : List Stp) (x3 : Option D), ss = a ++ b ∧ rem = b.map encS ∧ σ = [some (encC C n ss), some (encV v), some (.ref f), x3] ∧ M' = updM M f (.lst ((walk a v).map encV))) ⟨[], ss, none, rfl, rfl, rfl, rfl⟩ (fun _ _ _ _ => rfl) ?_ ?_
  · rintro σ M' ⟨a, b, x3, e, e2, rfl, rfl⟩
    have : b = [] := by cases b <;> first | rfl | cases e2
    subst this
    rw [List.append_nil] at e
    subst e
    repeat walk_at "ld"
    exact hR f hf
  · rintro d rem σ M' ⟨a, b, x3, e, e2, rfl, rfl⟩ ih
    cases b with
    | nil => cases e2
    | cons s b =>
      cases e2
      have a1 := atI_walk a v
      have ok1 : SOk (fin a v).length s := by rw [fin_len]; exact ok s (by rw [e]; simp)
      have z : ((walk a v).map encV).length < sizeLine := by
        rw [List.length_map, walk_len]
        have h1 : a.length < ss.length := by rw [e, List.length_append, List.length_cons]; omega
        have := line1000
        omega
      refine ⟨_, rfl, ?_⟩
      repeat walk_at "ld"
      refine s_done ok1 (by rw [fin_len]; exact hl) ?_
      repeat walk_at "ld"
      refine ih _ _ ⟨a ++ [s], b, _, by rw [e]; simp, rfl, rfl, ?_⟩
      rw [updM_updM, walk_app, List.map_append]
      rfl
end LK
end

section
set_option maxRecDepth 100000
set_option maxHeartbeats 400000
namespace LK
open PySem L2 LD
local macro_rules | `(tactic| walk_at "non") => `(tactic| first | assumption | (refine upd_non ?_ ?_ <;> first | assumption | (intro z; subst z; simp_all)))
local macro_rules | `(tactic| walk_at "mem") => `(tactic| first | rfl | exact updM_same | assumption | exact isS_ref updM_same | exact isL_ref updM_same | exact isL0_ref updM_same | (apply isS_ref; walk_at "mem") | (apply isL_ref; walk_at "mem") | (apply isL0_ref; walk_at "mem") | (refine upd_keep ?k1 ?k2; (case k2 => assumption); (case k1 => walk_at "mem")) | (refine upd_ne1 ?k1 ?k2; (case k2 => assumption); (case k1 => walk_at "mem")) | (refine upd_ne2 ?k1 ?k2; (case k2 => assumption); (case k1 => walk_at "mem")) | (refine del_keep ?_ ?_; all_goals first | assumption | walk_at "mem"))
local macro_rules | `(tactic| walk_at "side") => `(tactic| first | assumption | omega | decide)
local macro_rules | `(tactic| walk_at "mul") => `(tactic| first | assumption | (exact mul_l (by first | assumption | omega | decide)) | (exact mul_r (by first | assumption | omega | decide)))
local macro_rules | `(tactic| walk_at "div") => `(tactic| first | assumption | (exact div_ok2 (by first | assumption | omega | decide) (by first | assumption | omega | decide)))
local macro_rules | `(tactic| walk_at "ld") => `(tactic| first
  | with_reducible refine' s_seq ?_ | with_reducible refine' s_next ?_ | ((with_reducible refine' s_var ?k1 ?_); (case k1 => rfl)) | with_reducible refine' s_c ?_ | with_reducible refine' s_op ?_ | with_reducible refine' s_un ?_ | with_reducible refine' s_cons ?_ | with_reducible refine' s_nil ?_ | with_reducible refine' s_set ?_ | with_reducible refine' s_bcall ?_
  | with_reducible refine' s_tup ?_ | with_reducible refine' s_lst ?_ | with_reducible refine' s_ife ?_ | with_reducible refine' s_bl ?_ | with_reducible refine' s_exbl ?_ | with_reducible refine' ifT ?_ | with_reducible refine' ifF ?_ | with_reducible refine' ifNT ?_ | with_reducible refine' ifNF ?_ | with_reducible refine' ifO1 ?_ | with_reducible refine' ifO2 rfl ?_ | with_reducible refine' s_ret ?_ | with_reducible refine' s_retg ?_ | with_reducible refine' s_call ?_ | with_reducible refine' s_fld ?_ | with_reducible refine' s_drop ?_ | with_reducible refine' s_bm ?_
  | with_reducible refine' s_and ?_ | with_reducible refine' s_or ?_ | with_reducible refine' s_not ?_ | with_reducible refine' s_tru ?_ | with_reducible refine' s_ifx ?_ | with_reducible refine' s_andV ?_ | with_reducible refine' s_orV ?_ | with_reducible refine' s_notV ?_ | with_reducible refine' s_par2 ?_ | with_reducible refine' s_par3 ?_ | with_reducible refine' s_unp ?_ | with_reducible refine' s_subs ?_ | with_reducible refine' s_sub2 ?_ | with_reducible refine' s_augS ?_ | ((with_reducible refine' s_aug ?k1 ?_); (case k1 => rfl))
  | with_reducible refine' s_add ?_ | with_reducible refine' s_sub ?_ | with_reducible refine' s_neg ?_ | with_reducible refine' s_lt ?_ | with_reducible refine' s_le ?_ | with_reducible refine' s_gt ?_ | with_reducible refine' s_ge ?_ | with_reducible refine' s_addI ?_ | with_reducible refine' s_eqI ?_ | with_reducible refine' s_neI ?_
  | ((with_reducible refine' s_eqG (k := false) ?k1 ?k2 ?k3 ?k4 ?k5 ?_); (case k1 => rfl); (case k2 => rfl); (case k3 => decide +kernel); (case k4 => decide +kernel); (case k5 => decide +kernel)) | ((with_reducible refine' s_eqG (k := true) ?k1 ?k2 ?k3 ?k4 ?k5 ?_); (case k1 => rfl); (case k2 => rfl); (case k3 => decide +kernel); (case k4 => decide +kernel); (case k5 => decide +kernel))
  | ((with_reducible refine' s_neG (k := false) ?k1 ?k2 ?k3 ?k4 ?k5 ?_); (case k1 => rfl); (case k2 => rfl); (case k3 => decide +kernel); (case k4 => decide +kernel); (case k5 => decide +kernel)) | ((with_reducible refine' s_neG (k := true) ?k1 ?k2 ?k3 ?k4 ?k5 ?_); (case k1 => rfl); (case k2 => rfl); (case k3 => decide +kernel); (case k4 => decide +kernel); (case k5 => decide +kernel))
  | ((with_reducible refine' s_mod ?k1 ?_); (case k1 => walk_at "side")) | ((with_reducible refine' s_mul ?k1 ?_); (case k1 => walk_at "mul")) | ((with_reducible refine' s_div ?k1 ?_); (case k1 => walk_at "div"))
  | with_reducible refine' s_isN ?_ | with_reducible refine' s_isNotN ?_
  | ((with_reducible refine' s_idx ?k1 ?k2 ?_); (case k1 => walk_at "mem"); (case k2 => first | rfl | assumption))
  | ((with_reducible refine' s_list ?k1 ?_); (case k1 => walk_at "mem")) | ((with_reducible refine' s_tuple ?k1 ?_); (case k1 => walk_at "mem")) | ((with_reducible refine' s_len ?k1 ?_); (case k1 => walk_at "mem"))
  | with_reducible refine' s_abs ?_ | with_reducible refine' s_max ?_ | with_reducible refine' s_min ?_ | with_reducible refine' s_int ?_ | with_reducible refine' s_intB ?_
  | ((with_reducible refine' s_append ?k1 ?k2 ?_); (case k1 => walk_at "mem"); (case k2 => walk_at "side")) | ((with_reducible refine' ⟨s_tyL ?k1, ?_⟩); (case k1 => walk_at "mem"))
  | with_reducible refine' fr_lst ?_ | with_reducible refine' fr_call ?_ | with_reducible refine' fr_op ?_ | with_reducible refine' fr_fn ?_ | with_reducible refine' fr_mt ?_ | with_reducible refine' fr_prop ?_ | with_reducible refine' fr_sl ?_ | with_reducible refine' fr_var ?_ | with_reducible refine' fr_rev ?_ | with_reducible refine' fr_if ?_ | with_reducible refine' s_meth ?_ | with_reducible refine' s_prop ?_ | with_reducible refine' s_sl ?_ | with_reducible refine' s_noPart ?_ | with_reducible refine' s_part ?_ | with_reducible refine' s_isi ?_ | with_reducible refine' fz_all ?_ | with_reducible refine' fz_tup ?_ | with_reducible refine' fz_lst0 ?_ | with_reducible refine' fz_str ?_ | with_reducible refine' fz_int ?_ | with_reducible refine' fz_obj ?_ | with_reducible refine' s_kget ?_ | with_reducible refine' rev_t ?_ | ((with_reducible refine' rev_l ?k1 ?_); (case k1 => walk_at "mem")) | with_reducible refine' s_rev ?_ | with_reducible refine' s_consS ?_ | with_reducible refine' s_stL ?_ | with_reducible refine' fr_stL ?_ | with_reducible refine' s_lno ?_ | with_reducible refine' s_chain ?_ | with_reducible refine' s_rng1 ?_ | with_reducible refine' s_rng2 ?_ | with_reducible refine' s_enum ?_ | with_reducible refine' s_zip ?_
  | with_reducible refine' s_for ?_ | with_reducible refine' s_iseq ?_
  | ((with_reducible refine' s_setL ?k1 ?k2 ?_); (case k1 => walk_at "mem"); (case k2 => first | rfl | assumption))
  | ((with_reducible refine' s_lenA ?k1 ?_); (case k1 => rfl))
  | ((with_reducible refine' ⟨_, _, rfl, ?k1, ?_⟩); (case k1 => assumption)) | with_reducible refine' ⟨_, _, rfl, ?_⟩ | with_reducible refine' ⟨_, rfl, ?_⟩ | with_reducible refine' ⟨rfl, ?_⟩)
local macro_rules | `(tactic| walk_at "le") => `(tactic| first
  | with_reducible refine' s_next ?_ | ((with_reducible refine' s_var ?k1 ?_); (case k1 => rfl)) | with_reducible refine' s_c ?_ | with_reducible refine' s_op ?_ | with_reducible refine' s_un ?_ | with_reducible refine' s_cons ?_ | with_reducible refine' s_nil ?_ | with_reducible refine' s_set ?_ | with_reducible refine' s_bcall ?_
  | with_reducible refine' s_tup ?_ | with_reducible refine' s_lst ?_ | with_reducible refine' s_bl ?_ | with_reducible refine' s_exbl ?_ | with_reducible refine' ifT ?_ | with_reducible refine' ifF ?_ | with_reducible refine' ifNT ?_ | with_reducible refine' ifNF ?_ | with_reducible refine' ifO1 ?_ | with_reducible refine' ifO2 rfl ?_ | with_reducible refine' s_ret ?_ | with_reducible refine' s_retg ?_ | with_reducible refine' s_call ?_ | with_reducible refine' s_fld ?_ | with_reducible refine' s_drop ?_ | with_reducible refine' s_bm ?_
  | with_reducible refine' s_and ?_ | with_reducible refine' s_or ?_ | with_reducible refine' s_not ?_ | with_reducible refine' s_tru ?_ | with_reducible refine' s_ifx ?_ | with_reducible refine' s_andV ?_ | with_reducible refine' s_orV ?_ | with_reducible refine' s_notV ?_ | with_reducible refine' s_par2 ?_ | with_reducible refine' s_par3 ?_ | with_reducible refine' s_unp ?_ | with_reducible refine' s_subs ?_ | with_reducible refine' s_sub2 ?_ | with_reducible refine' s_augS ?_ | ((with_reducible refine' s_aug ?k1 ?_); (case k1 => rfl))
  | with_reducible refine' s_add ?_ | with_reducible refine' s_sub ?_ | with_reducible refine' s_neg ?_ | with_reducible refine' s_lt ?_ | with_reducible refine' s_le ?_ | with_reducible refine' s_gt ?_ | with_reducible refine' s_ge ?_ | with_reducible refine' s_addI ?_ | with_reducible refine' s_eqI ?_ | with_reducible refine' s_neI ?_
  | ((with_reducible refine' s_eqG (k := false) ?k1 ?k2 ?k3 ?k4 ?k5 ?_); (case k1 => rfl); (case k2 => rfl); (case k3 => decide +kernel); (case k4 => decide +kernel); (case k5 => decide +kernel)) | ((with_reducible refine' s_eqG (k := true) ?k1 ?k2 ?k3 ?k4 ?k5 ?_); (case k1 => rfl); (case k2 => rfl); (case k3 => decide +kernel); (case k4 => decide +kernel); (case k5 => decide +kernel))
  | ((with_reducible refine' s_neG (k := false) ?k1 ?k2 ?k3 ?k4 ?k5 ?_); (case k1 => rfl); (case k2 => rfl); (case k3 => decide +kernel); (case k4 => decide +kernel); (case k5 => decide +kernel)) | ((with_reducible refine' s_neG (k := true) ?k1 ?k2 ?k3 ?k4 ?k5 ?_); (case k1 => rfl); (case k2 => rfl); (case k3 => decide +kernel); (case k4 => decide +kernel); (case k5 => decide +kernel))
  | ((with_reducible refine' s_mod ?k1 ?_); (case k1 => walk_at "side")) | ((with_reducible refine' s_mul ?k1 ?_); (case k1 => walk_at "mul")) | ((with_reducible refine' s_div ?k1 ?_); (case k1 => walk_at "div"))
  | with_reducible refine' s_isN ?_ | with_reducible refine' s_isNotN ?_
  | ((with_reducible refine' s_idx ?k1 ?k2 ?_); (case k1 => walk_at "mem"); (case k2 => first | rfl | assumption))
  | ((with_reducible refine' s_list ?k1 ?_); (case k1 => walk_at "mem")) | ((with_reducible refine' s_tuple ?k1 ?_); (case k1 => walk_at "mem")) | ((with_reducible refine' s_len ?k1 ?_); (case k1 => walk_at "mem"))
  | with_reducible refine' s_abs ?_ | with_reducible refine' s_max ?_ | with_reducible refine' s_min ?_ | with_reducible refine' s_int ?_ | with_reducible refine' s_intB ?_
  | ((with_reducible refine' s_append ?k1 ?k2 ?_); (case k1 => walk_at "mem"); (case k2 => walk_at "side")) | ((with_reducible refine' ⟨s_tyL ?k1, ?_⟩); (case k1 => walk_at "mem"))
  | with_reducible refine' fr_lst ?_ | with_reducible refine' fr_call ?_ | with_reducible refine' fr_op ?_ | with_reducible refine' fr_fn ?_ | with_reducible refine' fr_mt ?_ | with_reducible refine' fr_prop ?_ | with_reducible refine' fr_sl ?_ | with_reducible refine' fr_var ?_ | with_reducible refine' fr_rev ?_ | with_reducible refine' fr_if ?_ | with_reducible refine' s_meth ?_ | with_reducible refine' s_prop ?_ | with_reducible refine' s_sl ?_ | with_reducible refine' s_noPart ?_ | with_reducible refine' s_part ?_ | with_reducible refine' s_isi ?_ | with_reducible refine' fz_all ?_ | with_reducible refine' fz_tup ?_ | with_reducible refine' fz_lst0 ?_ | with_reducible refine' fz_str ?_ | with_reducible refine' fz_int ?_ | with_reducible refine' fz_obj ?_ | with_reducible refine' s_kget ?_ | with_reducible refine' rev_t ?_ | ((with_reducible refine' rev_l ?k1 ?_); (case k1 => walk_at "mem")) | with_reducible refine' s_rev ?_ | with_reducible refine' s_consS ?_ | with_reducible refine' s_stL ?_ | with_reducible refine' fr_stL ?_ | with_reducible refine' s_lno ?_ | with_reducible refine' s_chain ?_ | with_reducible refine' s_rng1 ?_ | with_reducible refine' s_rng2 ?_ | with_reducible refine' s_enum ?_ | with_reducible refine' s_zip ?_
  | with_reducible refine' s_iseq ?_
  | ((with_reducible refine' s_setL ?k1 ?k2 ?_); (case k1 => walk_at "mem"); (case k2 => first | rfl | assumption))
  | ((with_reducible refine' s_lenA ?k1 ?_); (case k1 => rfl))
  | ((with_reducible refine' ⟨_, _, rfl, ?k1, ?_⟩); (case k1 => assumption)) | with_reducible refine' ⟨_, _, rfl, ?_⟩ | with_reducible refine' ⟨_, rfl, ?_⟩ | with_reducible refine' ⟨rfl, ?_⟩)
local macro_rules | `(tactic| walk_at "sq") => `(tactic| with_reducible refine' s_seq ?_)
local macro_rules | `(tactic| walk_at "if") => `(tactic| with_reducible refine' s_ife ?_)
local macro_rules | `(tactic| walk_at "for") => `(tactic| with_reducible refine' s_for ?_)

/-! ### sizes -/
def Bd (B : Nat) (v : List Int) : Prop := ∀ x ∈ v, x.natAbs ≤ B
theorem dot_bd {B : Nat} : ∀ {ws v : List Int}, (∀ w ∈ ws, w.natAbs ≤ 6) → Bd B v → (dot ws v).natAbs ≤ 6 * B * v.length
  | [], v, _, _ => by simp [dot]
  | w :: ws, [], _, _ => by simp [dot]
  | w :: ws, x :: v, hw, hv => by
    have ih := dot_bd (ws := ws) (v := v) (fun y hy => hw y (List.mem_cons_of_mem _ hy)) fun y hy => hv y (List.mem_cons_of_mem _ hy)
    have h1 := hw w List.mem_cons_self
    have h2 := hv x List.mem_cons_self
    have e : dot (w :: ws) (x :: v) = w * x + dot ws v := by simp [dot]
    rw [e, List.length_cons]
    have h3 : (w * x).natAbs ≤ 6 * B := by rw [Int.natAbs_mul]; exact Nat.mul_le_mul h1 h2
    have h4 := Int.natAbs_add_le (w * x) (dot ws v)
    have h5 : 6 * B * (v.length + 1) = 6 * B * v.length + 6 * B := by rw [Nat.mul_add, Nat.mul_one]
    omega
theorem fdiv_abs {a d : Int} (h : 1 ≤ d) : (a.fdiv d).natAbs ≤ a.natAbs := by
  rw [Int.fdiv_eq_ediv_of_nonneg _ (by omega)]
  rcases Int.le_total 0 a with h0 | h0
  · have h1 := Int.ediv_nonneg h0 (show 0 ≤ d by omega)
    have h2 := Int.ediv_le_self d h0
    omega
  · have h1 : a / d < 1 := (Int.ediv_lt_iff_lt_mul (by omega)).mpr (by omega)
    have h2 : a ≤ a / d := (Int.le_ediv_iff_mul_le (by omega)).mpr (by
      have h3 : a * d = a + a * (d - 1) := by rw [Int.mul_sub, Int.mul_one]; omega
      have h4 : a * (d - 1) ≤ 0 := Int.mul_nonpos_of_nonpos_of_nonneg h0 (by omega)
      omega)
    omega
theorem getD_bd {B : Nat} {v : List Int} (h : Bd B v) (i : Nat) : (v.getD i 0).natAbs ≤ B := by
  rw [List.getD_eq_getElem?_getD]
  cases e : v[i]? with
  | none => simp
  | some x => exact h x (List.mem_of_getElem? e)
theorem set_bd {B : Nat} {v : List Int} {i : Nat} {x : Int} (h : Bd B v) (hx : x.natAbs ≤ B) : Bd B (v.set i x) := fun y hy => by
  rcases List.mem_or_eq_of_mem_set hy with e | e
  · exact h y e
  · rw [e]; exact hx
theorem Bd.mono {B C : Nat} {v : List Int} (h : Bd B v) (k : B ≤ C) : Bd C v := fun x hx => Nat.le_trans (h x hx) k
theorem sdone_bd {B n : Nat} {s : Stp} {v : List Int} (ok : SLw n s) (hv : v.length ≤ 3) (hB : 1 ≤ B) (h : Bd B v) : Bd (40 * B) (sdone s v) := by
  have h40 : Bd (40 * B) v := h.mono (by omega)
  cases s with
  | swap i j => exact set_bd (set_bd h40 (getD_bd h40 j)) (getD_bd h40 i)
  | turn i => exact set_bd h40 (by rw [Int.natAbs_neg]; exact getD_bd h40 i)
  | lift c ws m d =>
    refine set_bd h40 ?_
    have h1 := getD_bd h c
    have h2 := dot_bd ok.2.2.2.2.2.2 h
    have h3 := fdiv_abs (a := dot ws v + m) ok.2.2.2.1
    have h4 := Int.natAbs_add_le (dot ws v) m
    have h5 := Int.natAbs_add_le (v.getD c 0) ((dot ws v + m).fdiv d)
    have h6 := ok.2.2.2.2.2.1
    have h7 : 6 * B * v.length ≤ 6 * B * 3 := Nat.mul_le_mul_left _ hv
    omega
theorem walk_bd {n : Nat} : ∀ {ss : List Stp} {v : List Int} {B : Nat}, (∀ s ∈ ss, SLw n s) → v.length ≤ 3 → 1 ≤ B → Bd B v → ∀ w ∈ walk ss v, Bd (40 ^ ss.length * B) w ∧ w.length = v.length
  | [], v, B, _, _, _, h, w, hw => by
    simp only [walk, List.mem_singleton] at hw
    subst hw
    exact ⟨by simpa using h, rfl⟩
  | s :: ss, v, B, ok, hv, hB, h, w, hw => by
    rw [walk, List.mem_cons] at hw
    have e : 40 ^ (ss.length + 1) * B = 40 ^ ss.length * (40 * B) := by rw [Nat.pow_succ, Nat.mul_assoc]
    rw [List.length_cons, e]
    rcases hw with rfl | hw
    · refine ⟨h.mono ?_, rfl⟩
      have h1 : 1 * (40 * B) ≤ 40 ^ ss.length * (40 * B) := Nat.mul_le_mul_right _ (Nat.one_le_pow _ _ (by decide))
      omega
    · have h1 := sdone_bd (ok s List.mem_cons_self) hv hB h
      have := walk_bd (ss := ss) (v := sdone s v) (B := 40 * B) (fun t ht => ok t (List.mem_cons_of_mem _ ht)) (by rw [sdone_len]; exact hv) (by omega) h1 w hw
      rw [sdone_len] at this
      exact this
/-! ### repr of vectors and of lists of vectors -/
theorem small_int {x : Int} (h : x.natAbs ≤ 10 ^ 60) : (PyData.int x).showable = true ∧ (PyData.int x).leavesShort 62 = true ∧ (PyData.int x).weight ≤ 204 := by
  have h1 : x.natAbs < 10 ^ 61 := by omega
  have h2 : x.natAbs < 2 ^ 203 := Nat.lt_of_lt_of_le h1 (by decide)
  have h3 : x.natAbs.log2 < 203 := by
    by_cases z : x.natAbs = 0
    · rw [z]; decide
    · exact (Nat.log2_lt z).mpr h2
  refine ⟨by simp only [PyData.showable]; exact decide_eq_true (by omega), ?_, ?_⟩
  · simp only [PyData.leavesShort]
    refine decide_eq_true ?_
    rw [PyData.shown_int]
    exact Nat.le_trans (Nat.le_of_eq (ofString_length _)) (int_text_length_le10 (k := 61) (by decide) h1)
  · simp only [PyData.weight]
    split <;> omega
theorem small_ints : ∀ {v : List Int}, Bd (10 ^ 60) v → PyData.showableAll (v.map .int) = true ∧ PyData.leavesShortAll 62 (v.map .int) = true ∧ PyData.weightAll (v.map .int) ≤ 205 * v.length
  | [], _ => ⟨rfl, rfl, Nat.le_refl _⟩
  | x :: v, h => by
    obtain ⟨a1, a2, a3⟩ := small_int (h x List.mem_cons_self)
    obtain ⟨b1, b2, b3⟩ := small_ints (v := v) fun y hy => h y (List.mem_cons_of_mem _ hy)
    simp only [List.map_cons, PyData.showableAll, PyData.leavesShortAll, PyData.weightAll, List.length_cons, a1, a2, b1, b2, Bool.and_self]
    refine ⟨trivial, trivial, ?_⟩
    omega
theorem small_vec {v : List Int} (h : Bd (10 ^ 60) v) (hv : v.length ≤ 3) : (pV v).showable = true ∧ (pV v).leavesShort 62 = true ∧ (pV v).weight ≤ 615 := by
  obtain ⟨a1, a2, a3⟩ := small_ints h
  refine ⟨?_, ?_, ?_⟩
  · simp only [pV, PyData.showable]; exact a1
  · simp only [pV, PyData.leavesShort]; exact a2
  · simp only [pV, PyData.weight]; omega
theorem small_vecs : ∀ {vs : List (List Int)}, (∀ v ∈ vs, Bd (10 ^ 60) v ∧ v.length ≤ 3) → PyData.showableAll (vs.map pV) = true ∧ PyData.leavesShortAll 62 (vs.map pV) = true ∧ PyData.weightAll (vs.map pV) ≤ 616 * vs.length
  | [], _ => ⟨rfl, rfl, Nat.le_refl _⟩
  | v :: vs, h => by
    obtain ⟨a1, a2, a3⟩ := small_vec (h v List.mem_cons_self).1 (h v List.mem_cons_self).2
    obtain ⟨b1, b2, b3⟩ := small_vecs (vs := vs) fun y hy => h y (List.mem_cons_of_mem _ hy)
    simp only [List.map_cons, PyData.showableAll, PyData.leavesShortAll, PyData.weightAll, List.length_cons, a1, a2, b1, b2, Bool.and_self]
    refine ⟨trivial, trivial, ?_⟩
    omega
theorem line_fits {n : Nat} (h : n ≤ 64 * 100000) : n ≤ sizeLine := Nat.le_trans h (by decide)
/-- repr of a vector -/
theorem s_reprV {v : List Int} {M : DM} {R : DK} (h : Bd (10 ^ 60) v) (hv : v.length ≤ 3) (r : R (.str (pV v).shown) M) : cRepr [encV v] M R := by
  obtain ⟨a1, a2, a3⟩ := small_vec h hv
  refine s_repr rfl (EncOk.int.dps v) (toP_of0 (encOkV.dp v)) a1 (Nat.le_trans (encOkV.dep v) (by decide)) (line_fits ?_) r
  have := PyData.shown_le 62 (by decide) (pV v) a2
  have h3 : (62 + 2) * (pV v).weight ≤ (62 + 2) * 615 := Nat.mul_le_mul_left _ a3
  omega
/-- .. of a list of vectors -/
theorem s_reprVs {vs : List (List Int)} {x : D} {M : DM} {R : DK} (hx : isS M x = some (vs.map encV)) (hp : toP M x = some (.list (vs.map pV))) (h : ∀ v ∈ vs, Bd (10 ^ 60) v ∧ v.length ≤ 3) (hl : vs.length ≤ 100) (r : R (.str (PyData.list (vs.map pV)).shown) M) : cRepr [x] M R := by
  obtain ⟨a1, a2, a3⟩ := small_vecs h
  refine s_repr hx (encOkV.dps vs) hp (by simp only [PyData.showable]; exact a1) (Nat.le_trans (encOkV.lst.dep vs) (by decide)) (line_fits ?_) r
  have := PyData.shown_le 62 (by decide) (.list (vs.map pV)) (by simp only [PyData.leavesShort]; exact a2)
  have e : (PyData.list (vs.map pV)).weight = PyData.weightAll (vs.map pV) := by simp only [PyData.weight]
  rw [e] at this
  have h3 : (62 + 2) * PyData.weightAll (vs.map pV) ≤ (62 + 2) * (616 * 100) := Nat.mul_le_mul_left _ (by omega)
  omega
end LK
end

section
set_option maxRecDepth 100000
set_option maxHeartbeats 400000
namespace LK
open PySem L2 LD
local macro_rules | `(tactic| walk_at "non") => `(tactic| first | assumption | (refine upd_non ?_ ?_ <;> first | assumption | (intro z; subst z; simp_all)))
local macro_rules | `(tactic| walk_at "mem") => `(tactic| first | rfl | exact updM_same | assumption | exact isS_ref updM_same | exact isL_ref updM_same | exact isL0_ref updM_same | (apply isS_ref; walk_at "mem") | (apply isL_ref; walk_at "mem") | (apply isL0_ref; walk_at "mem") | (refine upd_keep ?k1 ?k2; (case k2 => assumption); (case k1 => walk_at "mem")) | (refine upd_ne1 ?k1 ?k2; (case k2 => assumption); (case k1 => walk_at "mem")) | (refine upd_ne2 ?k1 ?k2; (case k2 => assumption); (case k1 => walk_at "mem")) | (refine del_keep ?_ ?_; all_goals first | assumption | walk_at "mem"))
local macro_rules | `(tactic| walk_at "side") => `(tactic| first | assumption | omega | decide)
local macro_rules | `(tactic| walk_at "mul") => `(tactic| first | assumption | (exact mul_l (by first | assumption | omega | decide)) | (exact mul_r (by first | assumption | omega | decide)))
local macro_rules | `(tactic| walk_at "div") => `(tactic| first | assumption | (exact div_ok2 (by first | assumption | omega | decide) (by first | assumption | omega | decide)))
local macro_rules | `(tactic| walk_at "ld") => `(tactic| first
  | with_reducible refine' s_seq ?_ | with_reducible refine' s_next ?_ | ((with_reducible refine' s_var ?k1 ?_); (case k1 => rfl)) | with_reducible refine' s_c ?_ | with_reducible refine' s_op ?_ | with_reducible refine' s_un ?_ | with_reducible refine' s_cons ?_ | with_reducible refine' s_nil ?_ | with_reducible refine' s_set ?_ | with_reducible refine' s_bcall ?_
  | with_reducible refine' s_tup ?_ | with_reducible refine' s_lst ?_ | with_reducible refine' s_ife ?_ | with_reducible refine' s_bl ?_ | with_reducible refine' s_exbl ?_ | with_reducible refine' ifT ?_ | with_reducible refine' ifF ?_ | with_reducible refine' ifNT ?_ | with_reducible refine' ifNF ?_ | with_reducible refine' ifO1 ?_ | with_reducible refine' ifO2 rfl ?_ | with_reducible refine' s_ret ?_ | with_reducible refine' s_retg ?_ | with_reducible refine' s_call ?_ | with_reducible refine' s_fld ?_ | with_reducible refine' s_drop ?_ | with_reducible refine' s_bm ?_
  | with_reducible refine' s_and ?_ | with_reducible refine' s_or ?_ | with_reducible refine' s_not ?_ | with_reducible refine' s_tru ?_ | with_reducible refine' s_ifx ?_ | with_reducible refine' s_andV ?_ | with_reducible refine' s_orV ?_ | with_reducible refine' s_notV ?_ | with_reducible refine' s_par2 ?_ | with_reducible refine' s_par3 ?_ | with_reducible refine' s_unp ?_ | with_reducible refine' s_subs ?_ | with_reducible refine' s_sub2 ?_ | with_reducible refine' s_augS ?_ | ((with_reducible refine' s_aug ?k1 ?_); (case k1 => rfl))
  | with_reducible refine' s_add ?_ | with_reducible refine' s_sub ?_ | with_reducible refine' s_neg ?_ | with_reducible refine' s_lt ?_ | with_reducible refine' s_le ?_ | with_reducible refine' s_gt ?_ | with_reducible refine' s_ge ?_ | with_reducible refine' s_addI ?_ | with_reducible refine' s_eqI ?_ | with_reducible refine' s_neI ?_
  | ((with_reducible refine' s_eqG (k := false) ?k1 ?k2 ?k3 ?k4 ?k5 ?_); (case k1 => rfl); (case k2 => rfl); (case k3 => decide +kernel); (case k4 => decide +kernel); (case k5 => decide +kernel)) | ((with_reducible refine' s_eqG (k := true) ?k1 ?k2 ?k3 ?k4 ?k5 ?_); (case k1 => rfl); (case k2 => rfl); (case k3 => decide +kernel); (case k4 => decide +kernel); (case k5 => decide +kernel))
  | ((with_reducible refine' s_neG (k := false) ?k1 ?k2 ?k3 ?k4 ?k5 ?_); (case k1 => rfl); (case k2 => rfl); (case k3 => decide +kernel); (case k4 => decide +kernel); (case k5 => decide +kernel)) | ((with_reducible refine' s_neG (k := true) ?k1 ?k2 ?k3 ?k4 ?k5 ?_); (case k1 => rfl); (case k2 => rfl); (case k3 => decide +kernel); (case k4 => decide +kernel); (case k5 => decide +kernel))
  | ((with_reducible refine' s_mod ?k1 ?_); (case k1 => walk_at "side")) | ((with_reducible refine' s_mul ?k1 ?_); (case k1 => walk_at "mul")) | ((with_reducible refine' s_div ?k1 ?_); (case k1 => walk_at "div"))
  | with_reducible refine' s_isN ?_ | with_reducible refine' s_isNotN ?_
  | ((with_reducible refine' s_idx ?k1 ?k2 ?_); (case k1 => walk_at "mem"); (case k2 => first | rfl | assumption))
  | ((with_reducible refine' s_list ?k1 ?_); (case k1 => walk_at "mem")) | ((with_reducible refine' s_tuple ?k1 ?_); (case k1 => walk_at "mem")) | ((with_reducible refine' s_len ?k1 ?_); (case k1 => walk_at "mem"))
  | with_reducible refine' s_abs ?_ | with_reducible refine' s_max ?_ | with_reducible refine' s_min ?_ | with_reducible refine' s_int ?_ | with_reducible refine' s_intB ?_
  | ((with_reducible refine' s_append ?k1 ?k2 ?_); (case k1 => walk_at "mem"); (case k2 => walk_at "side")) | ((with_reducible refine' ⟨s_tyL ?k1, ?_⟩); (case k1 => walk_at "mem"))
  | with_reducible refine' fr_lst ?_ | with_reducible refine' fr_call ?_ | with_reducible refine' fr_op ?_ | with_reducible refine' fr_fn ?_ | with_reducible refine' fr_mt ?_ | with_reducible refine' fr_prop ?_ | with_reducible refine' fr_sl ?_ | with_reducible refine' fr_var ?_ | with_reducible refine' fr_rev ?_ | with_reducible refine' fr_if ?_ | with_reducible refine' s_meth ?_ | with_reducible refine' s_prop ?_ | with_reducible refine' s_sl ?_ | with_reducible refine' s_noPart ?_ | with_reducible refine' s_part ?_ | with_reducible refine' s_isi ?_ | with_reducible refine' fz_all ?_ | with_reducible refine' fz_tup ?_ | with_reducible refine' fz_lst0 ?_ | with_reducible refine' fz_str ?_ | with_reducible refine' fz_int ?_ | with_reducible refine' fz_obj ?_ | with_reducible refine' s_kget ?_ | with_reducible refine' rev_t ?_ | ((with_reducible refine' rev_l ?k1 ?_); (case k1 => walk_at "mem")) | with_reducible refine' s_rev ?_ | with_reducible refine' s_consS ?_ | with_reducible refine' s_stL ?_ | with_reducible refine' fr_stL ?_ | with_reducible refine' s_lno ?_ | with_reducible refine' s_chain ?_ | with_reducible refine' s_rng1 ?_ | with_reducible refine' s_rng2 ?_ | with_reducible refine' s_enum ?_ | with_reducible refine' s_zip ?_
  | with_reducible refine' s_for ?_ | with_reducible refine' s_iseq ?_
  | ((with_reducible refine' s_setL ?k1 ?k2 ?_); (case k1 => walk_at "mem"); (case k2 => first | rfl | assumption))
  | ((with_reducible refine' s_lenA ?k1 ?_); (case k1 => rfl))
  | ((with_reducible refine' ⟨_, _, rfl, ?k1, ?_⟩); (case k1 => assumption)) | with_reducible refine' ⟨_, _, rfl, ?_⟩ | with_reducible refine' ⟨_, rfl, ?_⟩ | with_reducible refine' ⟨rfl, ?_⟩)
local macro_rules | `(tactic| walk_at "le") => `(tactic| first
  | with_reducible refine' s_next ?_ | ((with_reducible refine' s_var ?k1 ?_); (case k1 => rfl)) | with_reducible refine' s_c ?_ | with_reducible refine' s_op ?_ | with_reducible refine' s_un ?_ | with_reducible refine' s_cons ?_ | with_reducible refine' s_nil ?_ | with_reducible refine' s_set ?_ | with_reducible refine' s_bcall ?_
  | with_reducible refine' s_tup ?_ | with_reducible refine' s_lst ?_ | with_reducible refine' s_bl ?_ | with_reducible refine' s_exbl ?_ | with_reducible refine' ifT ?_ | with_reducible refine' ifF ?_ | with_reducible refine' ifNT ?_ | with_reducible refine' ifNF ?_ | with_reducible refine' ifO1 ?_ | with_reducible refine' ifO2 rfl ?_ | with_reducible refine' s_ret ?_ | with_reducible refine' s_retg ?_ | with_reducible refine' s_call ?_ | with_reducible refine' s_fld ?_ | with_reducible refine' s_drop ?_ | with_reducible refine' s_bm ?_
  | with_reducible refine' s_and ?_ | with_reducible refine' s_or ?_ | with_reducible refine' s_not ?_ | with_reducible refine' s_tru ?_ | with_reducible refine' s_ifx ?_ | with_reducible refine' s_andV ?_ | with_reducible refine' s_orV ?_ | with_reducible refine' s_notV ?_ | with_reducible refine' s_par2 ?_ | with_reducible refine' s_par3 ?_ | with_reducible refine' s_unp ?_ | with_reducible refine' s_subs ?_ | with_reducible refine' s_sub2 ?_ | with_reducible refine' s_augS ?_ | ((with_reducible refine' s_aug ?k1 ?_); (case k1 => rfl))
  | with_reducible refine' s_add ?_ | with_reducible refine' s_sub ?_ | with_reducible refine' s_neg ?_ | with_reducible refine' s_lt ?_ | with_reducible refine' s_le ?_ | with_reducible refine' s_gt ?_ | with_reducible refine' s_ge ?_ | with_reducible refine' s_addI ?_ | with_reducible refine' s_eqI ?_ | with_reducible refine' s_neI ?_
  | ((with_reducible refine' s_eqG (k := false) ?k1 ?k2 ?k3 ?k4 ?k5 ?_); (case k1 => rfl); (case k2 => rfl); (case k3 => decide +kernel); (case k4 => decide +kernel); (case k5 => decide +kernel)) | ((with_reducible refine' s_eqG (k := true) ?k1 ?k2 ?k3 ?k4 ?k5 ?_); (case k1 => rfl); (case k2 => rfl); (case k3 => decide +kernel); (case k4 => decide +kernel); (case k5 => decide +kernel))
  | ((with_reducible refine' s_neG (k := false) ?k1 ?k2 ?k3 ?k4 ?k5 ?_); (case k1 => rfl); (case k2 => rfl); (case k3 => decide +kernel); (case k4 => decide +kernel); (case k5 => decide +kernel)) | ((with_reducible refine' s_neG (k := true) ?k1 ?k2 ?k3 ?k4 ?k5 ?_); (case k1 => rfl); (case k2 => rfl); (case k3 => decide +kernel); (case k4 => decide +kernel); (case k5 => decide +kernel))
  | ((with_reducible refine' s_mod ?k1 ?_); (case k1 => walk_at "side")) | ((with_reducible refine' s_mul ?k1 ?_); (case k1 => walk_at "mul")) | ((with_reducible refine' s_div ?k1 ?_); (case k1 => walk_at "div"))
  | with_reducible refine' s_isN ?_ | with_reducible refine' s_isNotN ?_
  | ((with_reducible refine' s_idx ?k1 ?k2 ?_); (case k1 => walk_at "mem"); (case k2 => first | rfl | assumption))
  | ((with_reducible refine' s_list ?k1 ?_); (case k1 => walk_at "mem")) | ((with_reducible refine' s_tuple ?k1 ?_); (case k1 => walk_at "mem")) | ((with_reducible refine' s_len ?k1 ?_); (case k1 => walk_at "mem"))
  | with_reducible refine' s_abs ?_ | with_reducible refine' s_max ?_ | with_reducible refine' s_min ?_ | with_reducible refine' s_int ?_ | with_reducible refine' s_intB ?_
  | ((with_reducible refine' s_append ?k1 ?k2 ?_); (case k1 => walk_at "mem"); (case k2 => walk_at "side")) | ((with_reducible refine' ⟨s_tyL ?k1, ?_⟩); (case k1 => walk_at "mem"))
  | with_reducible refine' fr_lst ?_ | with_reducible refine' fr_call ?_ | with_reducible refine' fr_op ?_ | with_reducible refine' fr_fn ?_ | with_reducible refine' fr_mt ?_ | with_reducible refine' fr_prop ?_ | with_reducible refine' fr_sl ?_ | with_reducible refine' fr_var ?_ | with_reducible refine' fr_rev ?_ | with_reducible refine' fr_if ?_ | with_reducible refine' s_meth ?_ | with_reducible refine' s_prop ?_ | with_reducible refine' s_sl ?_ | with_reducible refine' s_noPart ?_ | with_reducible refine' s_part ?_ | with_reducible refine' s_isi ?_ | with_reducible refine' fz_all ?_ | with_reducible refine' fz_tup ?_ | with_reducible refine' fz_lst0 ?_ | with_reducible refine' fz_str ?_ | with_reducible refine' fz_int ?_ | with_reducible refine' fz_obj ?_ | with_reducible refine' s_kget ?_ | with_reducible refine' rev_t ?_ | ((with_reducible refine' rev_l ?k1 ?_); (case k1 => walk_at "mem")) | with_reducible refine' s_rev ?_ | with_reducible refine' s_consS ?_ | with_reducible refine' s_stL ?_ | with_reducible refine' fr_stL ?_ | with_reducible refine' s_lno ?_ | with_reducible refine' s_chain ?_ | with_reducible refine' s_rng1 ?_ | with_reducible refine' s_rng2 ?_ | with_reducible refine' s_enum ?_ | with_reducible refine' s_zip ?_
  | with_reducible refine' s_iseq ?_
  | ((with_reducible refine' s_setL ?k1 ?k2 ?_); (case k1 => walk_at "mem"); (case k2 => first | rfl | assumption))
  | ((with_reducible refine' s_lenA ?k1 ?_); (case k1 => rfl))
  | ((with_reducible refine' ⟨_, _, rfl, ?k1, ?_⟩); (case k1 => assumption)) | with_reducible refine' ⟨_, _, rfl, ?_⟩ | with_reducible refine' ⟨_, rfl, ?_⟩ | with_reducible refine' ⟨rfl, ?_⟩)
local macro_rules | `(tactic| walk_at "sq") => `(tactic| with_reducible refine' s_seq ?_)
local macro_rules | `(tactic| walk_at "if") => `(tactic| with_reducible refine' s_ife ?_)
local macro_rules | `(tactic| walk_at "for") => `(tactic| with_reducible refine' s_for ?_)
def g_inverse_step : Cfg := { N := ["step", "word", "channel", "weights", "more", "divisor", "weight"], fn := [], mt := [], fl := [], pr := [], cs := [], bi := ["tuple"] }
def u_inverse_step : LD.St := .cons (.ife (.cmp .ne (.idx (.var 0) (.int 0)) (.str ("lift" : Str))) (.cons (.ret (.var 0)) .nil) .nil) (.cons (.unp (.tup (.cons (.name 1) (.cons (.name 2) (.cons (.name 3) (.cons (.name 4) (.cons (.name 5) .nil)))))) (.var 0)) (.cons (.ret (.tup (.cons (.var 1) (.cons (.var 2) (.cons (.bcall .tuple (.cons (.frz (.lc (.var 3) (.name 6) .nil (.neg (.var 6)) [6])) .nil)) (.cons (.bin .sub (.bin .sub (.var 5) (.int 1)) (.var 4)) (.cons (.var 5) .nil))))))) .nil))
def g_Chain_inverse : Cfg := { N := ["self", "step"], fn := [("Chain", []), ("inverse_step", [])], mt := [], fl := ["kept_steps", "channel_count"], pr := [], cs := [], bi := [] }
def u_Chain_inverse : LD.St := .cons (.ret (.frz (.call 0 (.cons (.fld 1 (.var 0)) (.cons (.frz (.lc (.frz (.rev (.fld 0 (.var 0)))) (.name 1) .nil (.call 1 (.cons (.var 1) .nil) .nil) [1])) .nil)) .nil))) .nil
def g_Chain_eq : Cfg := { N := ["self", "other"], fn := [], mt := [], fl := ["kept_steps", "channel_count"], pr := [], cs := [], bi := ["isinstance"], is := [["Chain"]] }
def u_Chain_eq : LD.St := .cons (.ife (.not (.isi 0 (.var 1))) (.cons (.ret (.bl false)) .nil) .nil) (.cons (.ret (.and (.cmp .eq (.fld 1 (.var 0)) (.fld 1 (.var 1))) (.cmp .eq (.fld 0 (.var 0)) (.fld 0 (.var 1))))) .nil)
/-! ### the way back -/
theorem fneg {x d : Int} (h : 1 ≤ d) : (d - 1 - x).fdiv d = -(x.fdiv d) := by
  rw [Int.fdiv_eq_ediv_of_nonneg _ (by omega), Int.fdiv_eq_ediv_of_nonneg _ (by omega)]
  have e := Int.mul_ediv_add_emod x d
  have h1 := Int.emod_nonneg x (show d ≠ 0 by omega)
  have h2 := Int.emod_lt_of_pos x (show 0 < d by omega)
  have e2 : d - 1 - x = (d - 1 - x % d) + d * (-(x / d)) := by
    rw [Int.mul_neg]; omega
  rw [e2, Int.add_mul_ediv_left _ _ (by omega), Int.ediv_eq_zero_of_lt (by omega) (by omega)]
  omega
theorem dot_neg : ∀ (ws v : List Int), dot (ws.map fun w => -w) v = -(dot ws v)
  | [], v => by simp [dot]
  | w :: ws, [] => by simp [dot]
  | w :: ws, x :: v => by
    have e := dot_neg ws v
    unfold dot at e ⊢
    rw [List.map_cons, List.zipWith_cons_cons, List.zipWith_cons_cons, List.sum_cons, List.sum_cons, e, Int.neg_mul]
    omega
theorem dot_set : ∀ (ws v : List Int) (c : Nat) (x : Int), ws.getD c 0 = 0 → dot ws (v.set c x) = dot ws v
  | [], v, c, x, _ => by simp [dot]
  | w :: ws, [], c, x, _ => by simp [dot]
  | w :: ws, y :: v, 0, x, h => by
    have h : w = 0 := h
    subst h
    simp [dot]
  | w :: ws, y :: v, c + 1, x, h => by
    have e := dot_set ws v c x (by simpa using h)
    unfold dot at e ⊢
    rw [List.set_cons_succ, List.zipWith_cons_cons, List.zipWith_cons_cons, List.sum_cons, List.sum_cons, e]
theorem getD_set {v : List Int} {c : Nat} {x : Int} (h : c < v.length) : (v.set c x).getD c 0 = x := by
  simp [List.getD, h]
theorem getD_set_ne {v : List Int} {c e : Nat} {x : Int} (h : c ≠ e) : (v.set c x).getD e 0 = v.getD e 0 := by
  simp [List.getD, h]
theorem set_getD {v : List Int} {c : Nat} (h : c < v.length) : v.set c (v.getD c 0) = v := by
  apply List.ext_getElem?
  intro i
  rw [List.getElem?_set]
  split
  · rename_i e
    subst e
    simp [List.getD, h]
  · rfl
theorem sdone_back {s : Stp} {v : List Int} (ok : SOk v.length s) : sdone (back s) (sdone s v) = v := by
  cases s with
  | lift c ws m d =>
    obtain ⟨h1, h2, h3, h4, _⟩ := ok
    simp only [LK.back, sdone]
    rw [List.set_set, getD_set h1, dot_neg, dot_set _ _ _ _ h3]
    have e : -(dot ws v) + (d - 1 - m) = d - 1 - (dot ws v + m) := by omega
    rw [e, fneg h4]
    have e2 : v.getD c 0 + (dot ws v + m).fdiv d + -((dot ws v + m).fdiv d) = v.getD c 0 := by omega
    rw [e2, set_getD h1]
  | swap i j =>
    obtain ⟨h1, h2⟩ := ok
    simp only [LK.back, sdone]
    have hj : (((v.set i (v.getD j 0)).set j (v.getD i 0))).getD j 0 = v.getD i 0 := getD_set (by simpa using h2)
    have hi : (((v.set i (v.getD j 0)).set j (v.getD i 0))).getD i 0 = v.getD j 0 := by
      rw [getD_set_ne (by omega), getD_set (by omega)]
    rw [hj, hi]
    apply List.ext_getElem?
    intro t
    rw [List.getElem?_set, List.getElem?_set, List.getElem?_set, List.getElem?_set]
    have li : i < v.length := by omega
    by_cases e1 : j = t
    · subst e1
      simp [List.getD, h2]
    · by_cases e2 : i = t
      · subst e2
        simp [List.getD, li, e1]
      · simp [e1, e2]
  | turn i =>
    simp only [LK.back, sdone]
    rw [List.set_set, getD_set ok, Int.neg_neg, set_getD ok]
theorem back_back {s : Stp} : back (back s) = s := by
  cases s with
  | lift c ws m d =>
    show Stp.lift c _ _ d = _
    rw [List.map_map]
    have e : ((fun w : Int => -w) ∘ fun w => -w) = id := by
      funext w; simp
    rw [e, List.map_id]
    have e2 : d - 1 - (d - 1 - m) = m := by omega
    rw [e2]
  | swap i j => rfl
  | turn i => rfl
theorem SLw.back {n : Nat} {s : Stp} (h : SLw n s) : SOk n (back s) := by
  cases s with
  | lift c ws m d =>
    obtain ⟨h1, h2, h3, h4, h5, h6, h7⟩ := h
    refine ⟨h1, by rw [List.length_map]; exact h2, ?_, h4, by omega, by omega, fun w hw => ?_⟩
    · have h3' : (ws[c]?.getD 0 : Int) = 0 := by simpa [List.getD] using h3
      have hc : c < ws.length := by omega
      simp [List.getD, hc] at h3' ⊢
      exact h3'
    · obtain ⟨w', hw', rfl⟩ := List.mem_map.mp hw
      have := h7 w' hw'
      omega
  | swap i j => exact h
  | turn i => exact h
theorem SOk.b {n : Nat} {s : Stp} (hn : n ≤ 3) (h : SOk n s) : BOk s := by
  cases s with
  | lift c ws m d => exact Nat.le_trans (Nat.le_of_eq h.2.1) hn
  | swap i j => trivial
  | turn i => trivial
theorem BOk.of_back {s : Stp} (h : BOk (LK.back s)) : BOk s := by
  cases s with
  | lift c ws m d =>
    have h' : (ws.map fun w => -w).length ≤ 3 := h
    rw [List.length_map] at h'
    exact h'
  | swap i j => trivial
  | turn i => trivial
/-- the steps of the inverse -/
def inv (ss : List Stp) : List Stp := ss.reverse.map back
theorem inv_cons (s : Stp) (ss : List Stp) : inv (s :: ss) = inv ss ++ [back s] := by simp [inv]
theorem inv_len (ss : List Stp) : (inv ss).length = ss.length := by simp [inv]
theorem inv_inv (ss : List Stp) : inv (inv ss) = ss := by
  unfold inv
  rw [← List.map_reverse, List.reverse_reverse, List.map_map]
  have e : back ∘ back = id := funext fun s => back_back
  rw [e, List.map_id]
theorem fin_inv : ∀ {ss : List Stp} {v : List Int}, SsOk v.length ss → fin (inv ss) (fin ss v) = v
  | [], v, _ => rfl
  | s :: ss, v, h => by
    have ok := h s List.mem_cons_self
    have ih := fin_inv (ss := ss) (v := sdone s v) (by rw [sdone_len]; exact fun t ht => h t (List.mem_cons_of_mem _ ht))
    show fin (inv (s :: ss)) (fin ss (sdone s v)) = v
    rw [inv_cons, fin_app, ih]
    exact sdone_back ok
theorem walk_inv : ∀ {ss : List Stp} {v : List Int}, SsOk v.length ss → walk (inv ss) (fin ss v) = (walk ss v).reverse
  | [], v, _ => rfl
  | s :: ss, v, h => by
    have ok := h s List.mem_cons_self
    have h' : SsOk (sdone s v).length ss := by rw [sdone_len]; exact fun t ht => h t (List.mem_cons_of_mem _ ht)
    have ih := walk_inv (ss := ss) (v := sdone s v) h'
    show walk (inv (s :: ss)) (fin ss (sdone s v)) = (v :: walk ss (sdone s v)).reverse
    rw [inv_cons, walk_app, ih, fin_inv h', sdone_back ok, List.reverse_cons]
/-! ### the program's inverse -/
theorem does_inverse_step : Does S0 u_inverse_step g_inverse_step.N spBack := by
  rintro ds M R Ex ⟨s, rfl, hl, hR⟩
  dsimp only [u_inverse_step, evS, ev, EvS.of, Ev.of, Op2.ev, Cmp.ev, BF.ev, BM.ev, AOp.ev, S0]
  cases s with
  | swap i j =>
    repeat walk_at "ld"
    exact hR
  | turn i =>
    repeat walk_at "ld"
    exact hR
  | lift c ws m d =>
    repeat walk_at "ld"
    refine s_lcMap ws D.int (fun w => .int (-w)) (Nat.le_trans (show ws.length ≤ 3 from hl) (by decide)) (fun Q h => ?_) (fun a ha w hw M' o hM' => ⟨_, rfl, fun Q hQ => ?_⟩) ?_
    · repeat walk_at "ld"
      exact h _ fun a M' ha o => rfl
    · repeat walk_at "ld"
      exact hQ
    · repeat walk_at "ld"
      have e : ws.map (fun w => D.int (-w)) = (ws.map fun w => -w).map D.int := by simp
      rw [e]
      exact hR
theorem s_chainF {C : Addr} {n : Nat} {ss : List Stp} {M : DM} {R : DK} {Ex : DX} (hn : n = 2 ∨ n = 3) (ok : SsOk n ss) (hl : ss.length ≤ 1000) (r : R (encC C n ss) M) : spMake C (spInit C) ([.int n, .lst (ss.map encS)] ++ []) M (fun d M1 => fzK d M1 R) Ex :=
  fun x hx => ⟨x, n, ss, rfl, updM_same, hn, ok, hl, rfl, by
    rw [updM_updM]
    refine fz_ins updM_same ?_
    rw [delM_updM hx]
    exact r⟩
theorem isObj_chain {C : Addr} {n : Nat} {ss : List Stp} {M : DM} {m : Str} (h : m ∉ (["channel_count", "kept_steps"] : List Str)) : isObjOf C m M (encC C n ss) := ⟨rfl, h⟩
def spInverse (C : Addr) : DSp := fun ds M R _ => ∃ (n : Nat) (ss : List Stp), ds = [encC C n ss] ∧ (n = 2 ∨ n = 3) ∧ SsOk n (inv ss) ∧ ss.length ≤ 1000 ∧ R (encC C n (inv ss)) M
def Sinv (C : Addr) : Sg := { S0 with fn := fun j => match j with | 0 => spMake C (spInit C) | _ => spBack, fl := fun _ => 0, fc := fun _ => C, fnm := fun j => match j with | 0 => "kept_steps" | _ => "channel_count" }
theorem does_inverse (C : Addr) : Does (Sinv C) u_Chain_inverse g_Chain_inverse.N (spInverse C) := by
  rintro ds M R Ex ⟨n, ss, rfl, hn, ok, hl, hR⟩
  dsimp only [u_Chain_inverse, evS, ev, EvS.of, Ev.of, Op2.ev, Cmp.ev, BF.ev, BM.ev, AOp.ev, S0, Sinv]
  have hb : ∀ s ∈ ss.reverse, BOk s := fun s hs => ((ok (back s) (List.mem_map_of_mem hs)).b (by omega)).of_back
  have hz : ss.reverse.length ≤ sizeLine := by
    rw [List.length_reverse]
    have := line1000
    omega
  repeat walk_at "ld"
  refine ⟨_, fld_count, ?_⟩
  repeat walk_at "ld"
  refine s_lcMap ss.reverse encS (fun s => encS (back s)) hz (fun Q h => ?_) (fun a ha s hs M' o hM' => ⟨_, rfl, fun Q hQ => ?_⟩) ?_
  · repeat walk_at "ld"
    refine ⟨_, fld_kept, ?_⟩
    repeat walk_at "ld"
    rw [← List.map_reverse]
    exact h _ fun a M' ha o => rfl
  · repeat walk_at "ld"
    refine s_back (hb s hs) ?_
    repeat walk_at "ld"
    exact hQ
  · repeat walk_at "ld"
    have e : ss.reverse.map (fun s => encS (back s)) = (inv ss).map encS := by simp [inv]
    rw [e]
    refine s_chainF hn ok (by rw [inv_len]; exact hl) ?_
    repeat walk_at "ld"
    exact hR
/-! ### the program's == of chains -/
def tbE (C : Addr) : List (Ty × Bool) := [(.own C, true), (.b "list", false), (.b "tuple", false), (.b "NoneType", false), (.b "int", false), (.b "str", false)]
def spEqC (C : Addr) : DSp := fun ds M R _ => ∃ (n : Nat) (ss : List Stp) (y : D), ds = [encC C n ss, y] ∧ ((∃ n' ss', y = encC C n' ss' ∧ R (.bl (decide (n = n' ∧ ss = ss'))) M) ∨ ∃ T, tyD M y = some T ∧ (tbE C).lookup T = some false ∧ R (.bl false) M)
def SeqC (C : Addr) : Sg := { S0 with fl := fun _ => 0, fc := fun _ => C, fnm := fun j => match j with | 0 => "kept_steps" | _ => "channel_count", is := fun _ => tbE C }
theorem does_eqC (C : Addr) : Does (SeqC C) u_Chain_eq g_Chain_eq.N (spEqC C) := by
  rintro ds M R Ex ⟨n, ss, y, rfl, h⟩
  dsimp only [u_Chain_eq, evS, ev, EvS.of, Ev.of, Op2.ev, Cmp.ev, BF.ev, BM.ev, AOp.ev, S0, SeqC]
  rcases h with ⟨n', ss', rfl, hR⟩ | ⟨T, h1, h2, hR⟩
  · repeat walk_at "ld"
    refine isi_is (T := .own C) (b := true) rfl (by simp [tbE]) ?_
    repeat walk_at "ld"
    refine ⟨_, fld_count, ?_⟩
    repeat walk_at "ld"
    refine ⟨_, fld_count, ?_⟩
    repeat walk_at "ld"
    by_cases e : n = n'
    · subst e
      refine ifdT rfl ?_
      repeat walk_at "ld"
      refine ⟨_, fld_kept, ?_⟩
      repeat walk_at "ld"
      refine ⟨_, fld_kept, ?_⟩
      repeat walk_at "ld"
      refine s_eqE (a := ss) (b := ss') encOkS.tup (by decide) ?_
      simpa using hR
    · refine ifdF (by omega) ?_
      repeat walk_at "ld"
      have e2 : decide (n = n' ∧ ss = ss') = false := decide_eq_false fun z => e z.1
      rw [e2] at hR
      first | exact hR | (rw [decide_eq_false (by omega)]; exact hR)
  · repeat walk_at "ld"
    refine isi_is h1 h2 ?_
    repeat walk_at "ld"
    exact hR
end LK
end

section
set_option maxRecDepth 100000
set_option maxHeartbeats 1000000
namespace LD
open PySem PySem.Spec PyProof.Rows L2
/-! ### what the top has left, by names -/
/-- where a def stands -/
inductive Pl where
  | glo (x : Str) | meth (x m : Str) | get (x m : Str)
/-- a property's getter -/
def pgA (K : PySem.W.Frag) (C : Addr) (m : Str) : Addr := match PySem.W.recIn K (He.ma K C m) "property" with
  | some (.ref g :: _) => g
  | _ => 0
def Pl.a (K : PySem.W.Frag) : Pl → Addr
  | .glo x => He.ga K x
  | .meth x m => He.ma K (He.ga K x) m
  | .get x m => pgA K (He.ga K x) m
structure Df where
  pl : Pl
  name : Str
  qual : Str
  st : Stmt
def Df.obs (K : PySem.W.Frag) (d : Df) : He.FnV := match K.lookup (d.pl.a K) with
  | some ⟨_, _, .func fd, _⟩ => some (fd.name, fd.qualname, fd.params, fd.body, fd.scope, fd.globals, fd.closure, fd.defaults, fd.builtins)
  | _ => none
def Df.val (d : Df) : He.FnV := some (d.name, d.qual, defArgs d.st, .stmts (defBody d.st), defScope d.st, mainGlobals, [], .none, builtinsNs)
def Df.okB (K : PySem.W.Frag) (d : Df) : Bool := PySem.W.keepIn K (.ref (d.pl.a K)) && match K.lookup (d.pl.a K) with
  | some ⟨_, _, .func fd, _⟩ => PySem.W.codeIn K fd.code d.qual
  | _ => false
theorem Df.fun {K : PySem.W.Frag} {d : Df} (e : d.obs K = d.val) (c : d.okB K = true) : ∃ fd, Fun K d.name d.qual d.st (d.pl.a K) fd := by
  unfold Df.okB at c
  rw [Bool.and_eq_true] at c
  obtain ⟨c1, c2⟩ := c
  unfold Df.obs at e
  cases q : K.lookup (d.pl.a K) with
  | none => rw [q] at c2; cases c2
  | some o =>
    obtain ⟨oc, od, dt, osl⟩ := o
    rw [q] at c2 e
    cases dt with
    | func fd =>
      obtain ⟨n1, n2, n3, n4, n5, n6, n7, n8, n9, n10, n11, n12, n13, n14, n15⟩ := fd
      have e2 : (some (n1, n2, n3, n4, n5, n6, n7, n8, n15) : He.FnV) = d.val := e
      unfold Df.val at e2
      simp only [Option.some.injEq, Prod.mk.injEq] at e2
      obtain ⟨h1, h2, h3, h4, h5, h6, h7, h8, h9⟩ := e2
      subst h1 h2 h3 h4 h5 h6 h7 h8 h9
      exact ⟨_, ⟨oc, od, n9, n10, n11, n12, n13, n14, osl, rfl, q, c2⟩, c1⟩
    | _ => cases c2
/-- a value's class, by names -/
inductive TyN where
  | b (n : String) | own (x : Str)
def TyN.t (K : PySem.W.Frag) : TyN → Ty
  | .b n => .b n
  | .own x => .own (He.ga K x)
/-- a class as isinstance's second argument, by names -/
inductive CN where
  | b (x : Str) (n : String) | own (x : Str)
def CN.x : CN → Str
  | .b x _ => x
  | .own x => x
def CN.v (K : PySem.W.Frag) : CN → Value
  | .b _ n => .type n
  | .own x => .ref (He.ga K x)
def CN.V (K : PySem.W.Frag) : CN → V
  | .b _ n => .ty n
  | .own x => .ref (He.ga K x)
inductive Fc where
  | fa (f : He.Fa)
  | prop (x m : Str)
  | isc (x : Str)
  | nes (x : Str)
  | con (x : Str) (ns : List Int)
  | dic (x : Str) (tb : List (Str × Option Int))
  | isa (cs : List CN) (tb : List (TyN × Bool))
def Fc.ok (K : PySem.W.Frag) : Fc → Bool
  | .fa f => f.ok K
  | .prop x m => He.eqO (PySem.W.findIn K (.ref (He.ga K x)) m) (some (some (.ref (He.ma K (He.ga K x) m)))) && (He.eqO (PySem.W.specialIn K (.ref (He.ma K (He.ga K x) m)) "__get__") (some (some (.builtin "property.__get__"))) &&
      (decide (PySem.W.takesIn K (.ref (He.ma K (He.ga K x) m)) = some true) && match PySem.W.recIn K (He.ma K (He.ga K x) m) "property" with
        | some (.ref _ :: _) => true
        | _ => false))
  | .isc x => He.eqO (PySem.W.findIn K (.ref (He.ga K x)) "__class__") (some (some (.builtin "object.__class__"))) && (He.eqO (PySem.W.specialIn K (.builtin "object.__class__") "__get__") (some (some (.builtin "getset_descriptor.__get__"))) &&
      (decide (PySem.W.takesIn K (.builtin "object.__class__") = some true) && decide (PySem.W.mroIn K (He.ga K x) (.type "object") = some true)))
  | .nes x => He.eqO (PySem.W.findIn K (.ref (He.ga K x)) "__ne__") (some (some (.builtin "object.__ne__")))
  | .con x ns => He.tupB K x (ns.map .int)
  | .dic x tb => tb.all fun q => match PySem.W.nsIn K (He.ga K x) q.1, q.2 with
    | some (some u), some i => He.relB (.int i) u
    | some none, none => true
    | _, _ => false
  | .isa cs tb => tb.all fun q => decide (PySem.W.kitAny K (q.1.t K).v (cs.map (CN.v K)) = some q.2)
theorem fc_prop {K : PySem.W.Frag} {x m : Str} (c : (Fc.prop x m).ok K = true) : PropOf K (He.ga K x) m (He.ma K (He.ga K x) m) (pgA K (He.ga K x) m) := by
  obtain ⟨c1, c⟩ := He.ba c
  obtain ⟨c2, c⟩ := He.ba c
  obtain ⟨c3, c4⟩ := He.ba c
  refine ⟨He.eqO_ok c1, He.eqO_ok c2, of_decide_eq_true c3, ?_⟩
  unfold pgA
  split at c4
  · rename_i g r e; rw [e]; exact ⟨r, rfl⟩
  · cases c4
theorem fc_isc {K : PySem.W.Frag} {x : Str} (c0 : Cls K (He.ga K x)) (c : (Fc.isc x).ok K = true) : IsC K (He.ga K x) := by
  obtain ⟨c1, c⟩ := He.ba c
  obtain ⟨c2, c⟩ := He.ba c
  obtain ⟨c3, c4⟩ := He.ba c
  exact ⟨c0, He.eqO_ok c1, He.eqO_ok c2, of_decide_eq_true c3, of_decide_eq_true c4⟩
theorem fc_nes {K : PySem.W.Frag} {x : Str} (c : (Fc.nes x).ok K = true) : PySem.W.findIn K (.ref (He.ga K x)) "__ne__" = some (some (.builtin "object.__ne__")) := He.eqO_ok c
theorem reps_ints {K : PySem.W.Frag} {H : Hp} {M : DM} : ∀ ns : List Int, Reps K H M (ns.map .int) (ns.map V.int)
  | [] => .nil
  | _ :: ns => .cons rfl (reps_ints ns)
theorem fc_con {K : PySem.W.Frag} {x : Str} {ns : List Int} (c : (Fc.con x ns).ok K = true) (H : Hp) (M : DM) : Rep K H M (.tup (ns.map .int)) (.ref (He.ga K x)) := by
  unfold Rep
  refine ⟨_, ns.map V.int, rfl, ?_, reps_ints ns⟩
  have := He.tupB_ok c H
  rw [List.map_map] at this
  exact this
def tbI (tb : List (Str × Option Int)) : List (Str × Option D) := tb.map fun q => (q.1, q.2.map D.int)
theorem fc_dic {K : PySem.W.Frag} {w : World} {x : Str} {tb : List (Str × Option Int)} (D : ∃ es n, KDict K w (He.ga K x) es n) (c : (Fc.dic x tb).ok K = true) : KD K w (He.ga K x) (tbI tb) := by
  obtain ⟨es, n, kd⟩ := D
  refine ⟨es, n, kd, fun z r hm => ?_⟩
  obtain ⟨⟨z', r'⟩, hm', e⟩ := List.mem_map.mp hm
  cases e
  have h := List.all_eq_true.mp (show (tb.all fun q => _) = true from c) _ hm'
  simp only at h
  cases r' with
  | none =>
    simp only [Option.map_none]
    split at h
    · rename_i e2; cases e2
    · rename_i e1 e2; exact e1
    · cases h
  | some i =>
    simp only [Option.map_some]
    split at h
    · rename_i u j e1 e2
      cases e2
      exact ⟨u, .int i, e1, He.relB_ok h, fun _ _ => rfl⟩
    · rename_i e1 e2; cases e2
    · cases h
theorem lookup_memT {T : Ty} {b : Bool} : ∀ {tb : List (Ty × Bool)}, tb.lookup T = some b → (T, b) ∈ tb
  | [], h => by cases h
  | (U, q) :: tb, h => by
    rw [List.lookup_cons] at h
    cases e : T == U with
    | true => rw [e] at h; cases h; rw [beq_iff_eq.mp e]; exact List.mem_cons_self
    | false => rw [e] at h; exact List.mem_cons_of_mem _ (lookup_memT h)
def ownT (tb : List (TyN × Bool)) : List Str := tb.filterMap fun q => match q.1 with
  | .own x => some x
  | _ => none
theorem fc_isa {K : PySem.W.Frag} {cs : List CN} {tb : List (TyN × Bool)} (c : (Fc.isa cs tb).ok K = true) (hc : ∀ x ∈ ownT tb, IsC K (He.ga K x)) : IsOk K (cs.map (CN.v K)) (tb.map fun q => (q.1.t K, q.2)) := fun T b h => by
  obtain ⟨q, hq, e⟩ := List.mem_map.mp (lookup_memT h)
  cases e
  have h2 := List.all_eq_true.mp (show (tb.all fun q => _) = true from c) q hq
  refine ⟨of_decide_eq_true h2, fun C e => ?_⟩
  obtain ⟨t, b⟩ := q
  cases t with
  | b n => cases e
  | own x =>
    cases e
    exact hc x (List.mem_filterMap.mpr ⟨_, hq, rfl⟩)
/-! ### the Hook -/
abbrev Ob : Type := Bool × List He.FnV × List (Option (List (Option (Str × Int))))
def obsL (fs : List Fc) (ds : List Df) (ts : List (Str × List Str)) (K : PySem.W.Frag) : Ob := ((fs.all fun f => f.ok K) && ds.all fun d => d.okB K, ds.map fun d => d.obs K, ts.map fun t => He.dicW K (He.ga K t.1))
def valL (ds : List Df) (ts : List (Str × List Str)) (w : World) : Ob := (true, ds.map Df.val, ts.map fun t => some (He.keysIn w.params t.2))
def obsLG (n : Nat) (fs : List Fc) (ds : List Df) (ts : List (Str × List Str)) (g : Addr → Option Obj) : Ob := obsL fs ds ts (He.frG g (He.asD g n))
def SaysL (fs : List Fc) (ds : List Df) (ts : List (Str × List Str)) (w : World) (K : PySem.W.Frag) : Prop := obsL fs ds ts K = valL ds ts w
def hookL (n : Nat) (fs : List Fc) (ds : List Df) (ts : List (Str × List Str)) : PySem.W.Hook where
  α := Ob
  obs := fun s => obsLG n fs ds ts s.heap.get?
  val := fun w => valL ds ts w
  says := fun w h => ∃ K : PySem.W.Frag, K.In h ∧ SaysL fs ds ts w K
  of := fun _ _ e => ⟨_, He.frG_in, e⟩
  keeps := fun _ _ _ ⟨K, hK, c⟩ k => ⟨K, PySem.W.Frag.In.keeps hK k, c⟩
theorem obsLG_eq {n : Nat} {fs : List Fc} {ds : List Df} {ts : List (Str × List Str)} {g : Addr → Option Obj} {s : Shared} (h : ∀ a, g a = s.heap.get? a) : obsLG n fs ds ts g = (hookL n fs ds ts).obs s := by
  have e : g = s.heap.get? := funext h
  rw [e] <;> rfl
section
variable {fs : List Fc} {ds : List Df} {ts : List (Str × List Str)} {w : World} {K : PySem.W.Frag}
theorem SaysL.b (c : SaysL fs ds ts w K) : ((fs.all fun f => f.ok K) && ds.all fun d => d.okB K) = true := congrArg (fun z : Ob => z.1) c
theorem SaysL.fact (c : SaysL fs ds ts w K) (i : Nat) {f : Fc} (h : fs[i]? = some f := by rfl) : f.ok K = true := List.all_eq_true.mp (He.ba c.b).1 f (List.mem_of_getElem? h)
theorem SaysL.mem (c : SaysL fs ds ts w K) {f : Fc} (h : f ∈ fs) : f.ok K = true := List.all_eq_true.mp (He.ba c.b).1 f h
theorem SaysL.def_ (c : SaysL fs ds ts w K) (i : Nat) {d : Df} (h : ds[i]? = some d := by rfl) : ∃ fd, Fun K d.name d.qual d.st (d.pl.a K) fd := by
  have e : ds.map (fun d => d.obs K) = ds.map Df.val := congrArg (fun z : Ob => z.2.1) c
  have e2 : (ds.map fun d => d.obs K)[i]? = (ds.map Df.val)[i]? := by rw [e]
  rw [List.getElem?_map, List.getElem?_map, h] at e2
  exact Df.fun (Option.some.inj e2) (List.all_eq_true.mp (He.ba c.b).2 d (List.mem_of_getElem? h))
theorem SaysL.dict (c : SaysL fs ds ts w K) (i : Nat) {t : Str × List Str} (h : ts[i]? = some t := by rfl) : ∃ es n, KDict K w (He.ga K t.1) es n := by
  have e : ts.map (fun t => He.dicW K (He.ga K t.1)) = ts.map fun t => some (He.keysIn w.params t.2) := congrArg (fun z : Ob => z.2.2) c
  have e2 : (ts.map fun t => He.dicW K (He.ga K t.1))[i]? = (ts.map fun t => some (He.keysIn w.params t.2))[i]? := by rw [e]
  rw [List.getElem?_map, List.getElem?_map, h] at e2
  exact He.dicW_ok (Option.some.inj e2)
end
/-! ### the law's end -/
/-- the script, told from a heap in which at most the script itself is told -/
theorem law_core {P : Program} {w : World} {K : PySem.W.Frag} {mg mb : Str → Option Value} {k : Nat} {fa a : Addr} {fd : FuncData} {x : Str} {sp : DSp} {s₁ : Shared} {vs : List Value} {ns : List Int} {H : Hp}
    (kx : K.In s₁.heap) (hns : s₁.heap.Ns mainGlobals mg) (hbn : s₁.heap.Ns builtinsNs mb) (hbb : ∀ x : Str, x ≠ "__name__" → mb x = bootBuiltins x) (nl : s₁.heap.NoLimit) (hg : s₁.gens = #[]) (ha : s₁.heap.get? a = some { cls := .type "list", data := .seq vs.toArray }) (hr : Room k callerA)
    (F : ∀ base : Heap, K.In base → base.Ns mainGlobals mg → FnG P w K mg base (L2.CX P w) k fa fd [x] (liftSp K sp)) (hbind : ∀ (s : Shared) (u : Value), BindsTo s fd ⟨[u], []⟩ [(x, u)])
    (hsp : sp [.frz (ns.map .int)] (fun _ => none) (fun d _ => d = .bl true) fun _ _ _ => False) (hS : SqF K H a (ns.map V.int)) (hok : HOk P w H s₁.heap) (hO : ∀ b, H b = none ∨ ∃ o xs, H b = some (.frz o (.lst xs))) (hA : ∀ b, H b ≠ none → b = a) (hK : H a ≠ none → K.lookup a = none) :
    codeAny (model P w) callerA (.call (.ref fa) ⟨[.ref a], []⟩) (fun r s' => r = .ok (.ret (.bool true)) ∧ OldK s₁.heap s'.heap ∧ s'.os = s₁.os ∧ AllBare s'.gens) s₁ := by
  have isA : ∀ {b : Addr} {u : HO}, H b = some u → b = a := fun {b u} q => hA b (by rw [q]; exact Option.some_ne_none u)
  have freeD : ∀ {b : Addr} {o : Obj} {es : Array DictEntry} {ep : Nat}, s₁.heap.get? b = some o → o.data = .dict es ep → H b = none := fun {b o es ep} e d => by
    cases q : H b with
    | none => rfl
    | some u =>
      cases isA q
      rw [ha] at e; cases e
      cases (show Data.seq vs.toArray _ = Data.dict es ep from d)
  have nsB : ∀ {b : Addr} {m : Str → Option Value}, s₁.heap.Ns b m → (hidT s₁.heap H).Ns b m := fun {b m} ⟨o, es, ep, e, d, r⟩ => ⟨o, es, ep, hidT_get e (freeD e d), d, r⟩
  have kb : K.In (hidT s₁.heap H) := fun b o e => hidT_get (kx b o e) (by
    cases q : H b with
    | none => rfl
    | some u =>
      cases isA q
      rw [hK (by rw [q]; exact Option.some_ne_none u)] at e; cases e)
  have md : Mod K mg (hidT s₁.heap H) := ⟨kb, nsB hns, ⟨mb, nsB hbn, hbb⟩, nl.elim fun mc h => ⟨mc, nsB h.1, h.2⟩⟩
  have e0 : Env0 P w K mg (hidT s₁.heap H) callerA [] s₁ H := ⟨rfl, md, fun b o e => of_hidT e, Nat.le_of_eq (hidT_size _ _), trivial, fun b hb => (nomatch (show b ∈ ([] : List Addr) from hb)), hok, .of_eq hg⟩
  have pre : liftSp K sp [.ref a] H (fun v _ => v = .bl true) fun _ _ _ => False := by
    refine ⟨[.frz (ns.map .int)], fun _ => none, _, _, .single ?_, fun _ _ e => (by cases e), hsp, fun v H' M' d _ _ r e => ?_, fun _ _ _ _ _ _ _ _ z => z⟩
    · unfold Rep; exact ⟨a, _, rfl, hS, reps_ints ns⟩
    · have e' : d = .bl true := e
      subst e'; exact r
  refine codeAny_mono ((F _ kb (nsB hns)).run callerA [] s₁ H ⟨[.ref a], []⟩ [.ref a] [.ref a] _ _ hr rfl e0 (hbind s₁ (.ref a)) (.cons rfl .nil) pre) fun r s' h => ?_
  match r, h with
  | .error e, h =>
    obtain ⟨_, _, _, _, _, _, _, _, _, _, _, _, z⟩ := h
    exact z.elim
  | .ok (.ret u), h =>
    obtain ⟨v, H', os, bare, un, hok', r', q⟩ := h
    cases (show v = .bl true from q)
    cases (show u = Value.bool true from r')
    refine ⟨rfl, OldK.of_keep fun b o e => ?_, os, bare⟩
    rcases hO b with z | ⟨ob, xs, z⟩
    · exact un.keep b o e z (fun y => nomatch (show b ∈ ([] : List Addr) from y)) (by simp)
    · obtain ⟨e1, _⟩ := hok b _ z
      obtain ⟨e2, _⟩ := hok' b _ (un.frzs b ob _ z)
      rw [e] at e1; cases e1
      exact e2
  | .ok .next, h => exact h.elim
  | .ok .brk, h => exact h.elim
  | .ok .cont, h => exact h.elim
theorem walk_ofG {l : PySem.W.OpenLaw} {n k : Nat} {q : Program} {loose : List Str} {XP : (Str → Option Value) → Heap → Prop} {YP : World → Heap → Prop} {d : DefRec} {x : Str} (hn : l.most = some n) (hn2 : n ≤ sizeLine) (hdf : d.params.defaults = []) (hr : Room k callerA)
    (F : ∀ (w : World) (mg : Str → Option Value) (fa : Addr) (h : Heap), YP w h → h.Ns mainGlobals mg → mg d.name = some (.ref fa) → ∃ (K : PySem.W.Frag) (fd : FuncData) (sp : DSp), K.In h ∧ (∀ (s : Shared) (u : Value), BindsTo s fd ⟨[u], []⟩ [(x, u)]) ∧
      (∀ ns : List Int, ns.length ≤ n → sp [.frz (ns.map .int)] (fun _ => none) (fun d _ => d = .bl true) fun _ _ _ => False) ∧ ∀ base : Heap, K.In base → base.Ns mainGlobals mg → FnG l.prog w K mg base (L2.CX l.prog w) k fa fd [x] (liftSp K sp)) :
    PySem.W.WalkO q loose XP YP l.row.toRowW d [] (fun f vs => PySem.call f vs) := by
  refine Att.attach_call hn hdf fun w s₀ s₁ mg mb fa o pm cd doc a vs ns G Y ho hd hcd hmg hobj hints hlen hg => ?_
  obtain ⟨K, fd, sp, kx, hb, hsp, hF⟩ := F w mg fa _ Y G.T.g hmg
  have hl : ns.length ≤ sizeLine := Nat.le_trans hlen hn2
  have rv := vals_ints hints
  cases hk : K.lookup a with
  | some o' =>
    have e := kx a o' hk
    rw [hobj] at e; cases e
    exact law_core (H := fun _ => none) kx G.T.g G.T.b G.T.builtins G.T.nolimit hg hobj hr hF hb (hsp ns hlen) (.inr ⟨_, vs.toArray, _, hk, rfl, rfl, rfl, by rw [List.size_toArray, hints.length]; exact hl, by simpa using rv⟩)
      (fun b u z => nomatch z) (fun _ => .inl rfl) (fun b z => absurd rfl z) fun z => absurd rfl z
  | none =>
    have at_ : ∀ {b : Addr} {u : HO}, (if b = a then some (HO.frz { cls := .type "list", data := .seq vs.toArray } (.lst (ns.map V.int))) else none) = some u → b = a ∧ u = .frz { cls := .type "list", data := .seq vs.toArray } (.lst (ns.map V.int)) := fun {b u} z => by
      by_cases e : b = a
      · rw [if_pos e] at z; exact ⟨e, (Option.some.inj z).symm⟩
      · rw [if_neg e] at z; cases z
    refine law_core (H := fun b => if b = a then some (.frz { cls := .type "list", data := .seq vs.toArray } (.lst (ns.map V.int))) else none) kx G.T.g G.T.b G.T.builtins G.T.nolimit hg hobj hr hF hb (hsp ns hlen) (.inl ⟨_, if_pos rfl⟩) (fun b u z => ?_) (fun b => ?_) (fun b z => ?_) fun _ => hk
    · obtain ⟨rfl, rfl⟩ := at_ z
      exact ⟨hobj, by rw [List.length_map]; exact hl, vs, _, rv, hobj⟩
    · by_cases e : b = a
      · exact .inr ⟨_, _, if_pos e⟩
      · exact .inl (if_neg e)
    · cases q : (if b = a then some (HO.frz { cls := .type "list", data := .seq vs.toArray } (.lst (ns.map V.int))) else none) with
      | none => exact absurd q z
      | some u => exact (at_ q).1
end LD
end

section
set_option maxRecDepth 100000
set_option maxHeartbeats 1000000
namespace LD
open PySem PySem.Spec PyProof.Rows L2
/-! ### defs that keep their promise, as calls want them -/
section
variable {P : Program} {w : World} {K : PySem.W.Frag} {mg : Str → Option Value} {base : Heap} {j k : Nat} {A : Around} {x m : Str} {ks : List Str} {C : Addr} {sp : DSp}
theorem FnG.mono {CX : CXT} {f : Addr} {fd : FuncData} {ps : List Str} {sp : Sp} (F : FnG P w K mg base CX j f fd ps sp) (h : j ≤ k) : FnG P w K mg base CX k f fd ps sp :=
  ⟨F.len, fun A outer s H args us vs Q E hr => F.run A outer s H args us vs Q E (hr.mono h)⟩
/-- a def of the text -/
structure DOk (P : Program) (w : World) (K : PySem.W.Frag) (mg : Str → Option Value) (base : Heap) (x : Str) (ks : List Str) (sp : DSp) (k : Nat) : Prop where
  ex : ∃ f : Addr, FnS P w K mg base (L2.CX P w) k f ks (liftSp K sp) ∧ mg x = some (.ref f) ∧ PySem.W.keepIn K (.ref f) = true
theorem DOk.e (h : DOk P w K mg base x ks sp k) (hr : Room j A) (hj : k ≤ j) : FnE P w K mg base A x ks sp := by
  obtain ⟨f, G, hm, hk⟩ := h.ex
  exact ⟨k, f, G, hr.mono hj, hm, hk⟩
/-- a class of the text -/
structure KOk (P : Program) (w : World) (K : PySem.W.Frag) (mg : Str → Option Value) (base : Heap) (x : Str) (ks : List Str) (C : Addr) (sp : DSp) (k : Nat) : Prop where
  ex : ∃ f : Addr, FnS P w K mg base (L2.CX P w) k f ks (liftSp K sp) ∧ mg x = some (.ref C) ∧ Mk K C f
theorem KOk.e (h : KOk P w K mg base x ks C sp k) (hr : Room j A) (hj : k + 1 ≤ j) : ClE P w K mg base A x ks C sp := by
  obtain ⟨f, G, hm, hk⟩ := h.ex
  exact ⟨k, f, G, hr.mono hj, hm, hk⟩
/-- a method -/
structure MtOk (P : Program) (w : World) (K : PySem.W.Frag) (mg : Str → Option Value) (base : Heap) (m : Str) (ks : List Str) (C : Addr) (sp : DSp) (k : Nat) : Prop where
  ex : ∃ f : Addr, FnS P w K mg base (L2.CX P w) k f ks (liftSp K sp) ∧ Cls K C ∧ Meth K C m f
theorem MtOk.e (h : MtOk P w K mg base m ks C sp k) (hr : Room j A) (hj : k ≤ j) : MtE P w K mg base A m ks C sp := by
  obtain ⟨f, G, hc, hm⟩ := h.ex
  exact ⟨k, f, G, hr.mono hj, hc, hm⟩
/-- a property -/
structure POk (P : Program) (w : World) (K : PySem.W.Frag) (mg : Str → Option Value) (base : Heap) (m : Str) (C : Addr) (sp : DSp) (k : Nat) : Prop where
  ex : ∃ (f g : Addr) (fd : FuncData) (ps : List Str), FnG P w K mg base (L2.CX P w) k g fd ps (liftSp K sp) ∧ Cls K C ∧ PropOf K C m f g ∧ Binds K fd ps []
theorem POk.e (h : POk P w K mg base m C sp k) (hr : Room j A) (hj : k + 1 ≤ j) : PrE P w K mg base A m C sp := by
  obtain ⟨f, g, fd, ps, G, hc, hm, hb⟩ := h.ex
  exact ⟨k, f, g, fd, ps, G, hr.mono hj, hc, hm, hb⟩
/-- a class's own == -/
structure EqOk (P : Program) (w : World) (K : PySem.W.Frag) (mg : Str → Option Value) (base : Heap) (C : Addr) (sp : DSp) (k : Nat) : Prop where
  ex : ∃ (f : Addr) (fd : FuncData) (ps : List Str), FnG P w K mg base (L2.CX P w) k f fd ps (liftSp K sp) ∧ IsC K C ∧ Meth K C "__eq__" f ∧ Binds K fd ps []
  ne : PySem.W.findIn K (.ref C) "__ne__" = some (some (.builtin "object.__ne__"))
theorem EqOk.e (h : EqOk P w K mg base C sp k) (hr : Room j A) (hj : k + 1 ≤ j) : EqE P w K mg base A C sp := by
  obtain ⟨f, fd, ps, G, hc, hm, hb⟩ := h.ex
  exact ⟨⟨k, f, fd, ps, G, hr.mono hj, hc, hm, hb⟩, h.ne⟩
/-- a class's own len -/
structure LnOk (P : Program) (w : World) (K : PySem.W.Frag) (mg : Str → Option Value) (base : Heap) (C : Addr) (sp : DSp) (k : Nat) : Prop where
  ex : ∃ (f : Addr) (fd : FuncData) (ps : List Str), FnG P w K mg base (L2.CX P w) k f fd ps (liftSp K sp) ∧ Meth K C "__len__" f ∧ Binds K fd ps []
theorem LnOk.e (h : LnOk P w K mg base C sp k) (hr : Room j A) (hj : k + 1 ≤ j) : LnE P w K mg base A C sp := by
  obtain ⟨f, fd, ps, G, hm, hb⟩ := h.ex
  exact ⟨k, f, fd, ps, G, hr.mono hj, hm, hb⟩
theorem kb_of {x qual : Str} {st : Stmt} {f : Addr} {fd : FuncData} {ps ks : List Str} (nu nk : Nat) (F : Fun K x qual st f fd) (h1 : ps.length = nu + nk) (h2 : ks.length = nk)
    (h : ∀ (kV doc pm : Value) (an : Option Addr) (cdv ct : Value) (us ws : List Value), us.length = nu → ws.length = nk → bindArgs (PySem.W.fnOf x qual (defArgs st) (defBody st) (defScope st) .none kV doc pm an cdv ct) ⟨us, ks.zip ws⟩ = pure (ps.zip (us ++ ws))) : KB K fd ps ks := by
  obtain ⟨oc, od, kV, doc, pm, an, cdv, ct, osl, rfl, lk, hcd⟩ := F.ex
  intro s us ws hk hl hw
  rw [List.length_append] at hl
  exact .of_eq (h kV doc pm an cdv ct us ws (by omega) (by omega))
theorem kbp_of {x qual : Str} {st : Stmt} {f : Addr} {fd : FuncData} {ps ks : List Str} {g : List Nat} (nu nk : Nat) (F : Fun K x qual st f fd) (h1 : ps.length = nu + nk) (h2 : ks.length = nk)
    (h : ∀ (kV doc pm : Value) (an : Option Addr) (cdv ct : Value) (us ws : List Value), us.length = nu → ws.length = nk → bindArgs (PySem.W.fnOf x qual (defArgs st) (defBody st) (defScope st) .none kV doc pm an cdv ct) ⟨us, ks.zip ws⟩ = pure (ps.zip (pick g (us ++ ws)))) : KBp K fd ps ks g := by
  obtain ⟨oc, od, kV, doc, pm, an, cdv, ct, osl, rfl, lk, hcd⟩ := F.ex
  intro s us ws hk hl hw
  rw [List.length_append] at hl
  exact .of_eq (h kV doc pm an cdv ct us ws (by omega) (by omega))
theorem bind1_of {x qual y : Str} {st : Stmt} {f : Addr} {fd : FuncData} (F : Fun K x qual st f fd)
    (h : ∀ (kV doc pm : Value) (an : Option Addr) (cdv ct : Value) (v : Value), bindArgs (PySem.W.fnOf x qual (defArgs st) (defBody st) (defScope st) .none kV doc pm an cdv ct) ⟨[v], []⟩ = pure [(y, v)]) : ∀ (s : Shared) (v : Value), BindsTo s fd ⟨[v], []⟩ [(y, v)] := by
  obtain ⟨oc, od, kV, doc, pm, an, cdv, ct, osl, rfl, lk, hcd⟩ := F.ex
  exact fun s v => .of_eq (h kV doc pm an cdv ct v)
theorem binds_of {fd : FuncData} {ps : List Str} (h : KB K fd ps []) : Binds K fd ps [] := fun s us hk hl => h s us [] hk hl rfl
end
end LD
end

section
set_option maxRecDepth 100000
set_option maxHeartbeats 400000
namespace K35
open PySem L2 LD LK
local macro_rules | `(tactic| walk_at "non") => `(tactic| first | assumption | (refine upd_non ?_ ?_ <;> first | assumption | (intro z; subst z; simp_all)))
local macro_rules | `(tactic| walk_at "mem") => `(tactic| first | rfl | exact updM_same | assumption | exact isS_ref updM_same | exact isL_ref updM_same | exact isL0_ref updM_same | (apply isS_ref; walk_at "mem") | (apply isL_ref; walk_at "mem") | (apply isL0_ref; walk_at "mem") | (refine upd_keep ?k1 ?k2; (case k2 => assumption); (case k1 => walk_at "mem")) | (refine upd_ne1 ?k1 ?k2; (case k2 => assumption); (case k1 => walk_at "mem")) | (refine upd_ne2 ?k1 ?k2; (case k2 => assumption); (case k1 => walk_at "mem")) | (refine del_keep ?_ ?_; all_goals first | assumption | walk_at "mem"))
local macro_rules | `(tactic| walk_at "side") => `(tactic| first | assumption | omega | decide)
local macro_rules | `(tactic| walk_at "mul") => `(tactic| first | assumption | (exact mul_l (by first | assumption | omega | decide)) | (exact mul_r (by first | assumption | omega | decide)))
local macro_rules | `(tactic| walk_at "div") => `(tactic| first | assumption | (exact div_ok2 (by first | assumption | omega | decide) (by first | assumption | omega | decide)))
local macro_rules | `(tactic| walk_at "ld") => `(tactic| first
  | with_reducible refine' s_seq ?_ | with_reducible refine' s_next ?_ | ((with_reducible refine' s_var ?k1 ?_); (case k1 => rfl)) | with_reducible refine' s_c ?_ | with_reducible refine' s_op ?_ | with_reducible refine' s_un ?_ | with_reducible refine' s_cons ?_ | with_reducible refine' s_nil ?_ | with_reducible refine' s_set ?_ | with_reducible refine' s_bcall ?_
  | with_reducible refine' s_tup ?_ | with_reducible refine' s_lst ?_ | with_reducible refine' s_ife ?_ | with_reducible refine' s_bl ?_ | with_reducible refine' s_exbl ?_ | with_reducible refine' ifT ?_ | with_reducible refine' ifF ?_ | with_reducible refine' ifNT ?_ | with_reducible refine' ifNF ?_ | with_reducible refine' ifO1 ?_ | with_reducible refine' ifO2 rfl ?_ | with_reducible refine' s_ret ?_ | with_reducible refine' s_retg ?_ | with_reducible refine' s_call ?_ | with_reducible refine' s_fld ?_ | with_reducible refine' s_drop ?_ | with_reducible refine' s_bm ?_
  | with_reducible refine' s_and ?_ | with_reducible refine' s_or ?_ | with_reducible refine' s_not ?_ | with_reducible refine' s_tru ?_ | with_reducible refine' s_ifx ?_ | with_reducible refine' s_andV ?_ | with_reducible refine' s_orV ?_ | with_reducible refine' s_notV ?_ | with_reducible refine' s_par2 ?_ | with_reducible refine' s_par3 ?_ | with_reducible refine' s_unp ?_ | with_reducible refine' s_subs ?_ | with_reducible refine' s_sub2 ?_ | with_reducible refine' s_augS ?_ | ((with_reducible refine' s_aug ?k1 ?_); (case k1 => rfl))
  | with_reducible refine' s_add ?_ | with_reducible refine' s_sub ?_ | with_reducible refine' s_neg ?_ | with_reducible refine' s_lt ?_ | with_reducible refine' s_le ?_ | with_reducible refine' s_gt ?_ | with_reducible refine' s_ge ?_ | with_reducible refine' s_addI ?_ | with_reducible refine' s_eqI ?_ | with_reducible refine' s_neI ?_
  | ((with_reducible refine' s_eqG (k := false) ?k1 ?k2 ?k3 ?k4 ?k5 ?_); (case k1 => rfl); (case k2 => rfl); (case k3 => decide +kernel); (case k4 => decide +kernel); (case k5 => decide +kernel)) | ((with_reducible refine' s_eqG (k := true) ?k1 ?k2 ?k3 ?k4 ?k5 ?_); (case k1 => rfl); (case k2 => rfl); (case k3 => decide +kernel); (case k4 => decide +kernel); (case k5 => decide +kernel))
  | ((with_reducible refine' s_neG (k := false) ?k1 ?k2 ?k3 ?k4 ?k5 ?_); (case k1 => rfl); (case k2 => rfl); (case k3 => decide +kernel); (case k4 => decide +kernel); (case k5 => decide +kernel)) | ((with_reducible refine' s_neG (k := true) ?k1 ?k2 ?k3 ?k4 ?k5 ?_); (case k1 => rfl); (case k2 => rfl); (case k3 => decide +kernel); (case k4 => decide +kernel); (case k5 => decide +kernel))
  | ((with_reducible refine' s_mod ?k1 ?_); (case k1 => walk_at "side")) | ((with_reducible refine' s_mul ?k1 ?_); (case k1 => walk_at "mul")) | ((with_reducible refine' s_div ?k1 ?_); (case k1 => walk_at "div"))
  | with_reducible refine' s_isN ?_ | with_reducible refine' s_isNotN ?_
  | ((with_reducible refine' s_idx ?k1 ?k2 ?_); (case k1 => walk_at "mem"); (case k2 => first | rfl | assumption))
  | ((with_reducible refine' s_list ?k1 ?_); (case k1 => walk_at "mem")) | ((with_reducible refine' s_tuple ?k1 ?_); (case k1 => walk_at "mem")) | ((with_reducible refine' s_len ?k1 ?_); (case k1 => walk_at "mem"))
  | with_reducible refine' s_abs ?_ | with_reducible refine' s_max ?_ | with_reducible refine' s_min ?_ | with_reducible refine' s_int ?_ | with_reducible refine' s_intB ?_
  | ((with_reducible refine' s_append ?k1 ?k2 ?_); (case k1 => walk_at "mem"); (case k2 => walk_at "side")) | ((with_reducible refine' ⟨s_tyL ?k1, ?_⟩); (case k1 => walk_at "mem"))
  | with_reducible refine' fr_lst ?_ | with_reducible refine' fr_call ?_ | with_reducible refine' fr_op ?_ | with_reducible refine' fr_fn ?_ | with_reducible refine' fr_mt ?_ | with_reducible refine' fr_prop ?_ | with_reducible refine' fr_sl ?_ | with_reducible refine' fr_var ?_ | with_reducible refine' fr_rev ?_ | with_reducible refine' fr_if ?_ | with_reducible refine' s_meth ?_ | with_reducible refine' s_prop ?_ | with_reducible refine' s_sl ?_ | with_reducible refine' s_noPart ?_ | with_reducible refine' s_part ?_ | with_reducible refine' s_isi ?_ | with_reducible refine' fz_all ?_ | with_reducible refine' fz_tup ?_ | with_reducible refine' fz_lst0 ?_ | with_reducible refine' fz_str ?_ | with_reducible refine' fz_int ?_ | with_reducible refine' fz_obj ?_ | with_reducible refine' s_kget ?_ | with_reducible refine' rev_t ?_ | ((with_reducible refine' rev_l ?k1 ?_); (case k1 => walk_at "mem")) | with_reducible refine' s_rev ?_ | with_reducible refine' s_consS ?_ | with_reducible refine' s_stL ?_ | with_reducible refine' fr_stL ?_ | with_reducible refine' s_lno ?_ | with_reducible refine' s_chain ?_ | with_reducible refine' s_rng1 ?_ | with_reducible refine' s_rng2 ?_ | with_reducible refine' s_enum ?_ | with_reducible refine' s_zip ?_
  | with_reducible refine' s_for ?_ | with_reducible refine' s_iseq ?_
  | ((with_reducible refine' s_setL ?k1 ?k2 ?_); (case k1 => walk_at "mem"); (case k2 => first | rfl | assumption))
  | ((with_reducible refine' s_lenA ?k1 ?_); (case k1 => rfl))
  | ((with_reducible refine' ⟨_, _, rfl, ?k1, ?_⟩); (case k1 => assumption)) | with_reducible refine' ⟨_, _, rfl, ?_⟩ | with_reducible refine' ⟨_, rfl, ?_⟩ | with_reducible refine' ⟨rfl, ?_⟩)
local macro_rules | `(tactic| walk_at "le") => `(tactic| first
  | with_reducible refine' s_next ?_ | ((with_reducible refine' s_var ?k1 ?_); (case k1 => rfl)) | with_reducible refine' s_c ?_ | with_reducible refine' s_op ?_ | with_reducible refine' s_un ?_ | with_reducible refine' s_cons ?_ | with_reducible refine' s_nil ?_ | with_reducible refine' s_set ?_ | with_reducible refine' s_bcall ?_
  | with_reducible refine' s_tup ?_ | with_reducible refine' s_lst ?_ | with_reducible refine' s_bl ?_ | with_reducible refine' s_exbl ?_ | with_reducible refine' ifT ?_ | with_reducible refine' ifF ?_ | with_reducible refine' ifNT ?_ | with_reducible refine' ifNF ?_ | with_reducible refine' ifO1 ?_ | with_reducible refine' ifO2 rfl ?_ | with_reducible refine' s_ret ?_ | with_reducible refine' s_retg ?_ | with_reducible refine' s_call ?_ | with_reducible refine' s_fld ?_ | with_reducible refine' s_drop ?_ | with_reducible refine' s_bm ?_
  | with_reducible refine' s_and ?_ | with_reducible refine' s_or ?_ | with_reducible refine' s_not ?_ | with_reducible refine' s_tru ?_ | with_reducible refine' s_ifx ?_ | with_reducible refine' s_andV ?_ | with_reducible refine' s_orV ?_ | with_reducible refine' s_notV ?_ | with_reducible refine' s_par2 ?_ | with_reducible refine' s_par3 ?_ | with_reducible refine' s_unp ?_ | with_reducible refine' s_subs ?_ | with_reducible refine' s_sub2 ?_ | with_reducible refine' s_augS ?_ | ((with_reducible refine' s_aug ?k1 ?_); (case k1 => rfl))
  | with_reducible refine' s_add ?_ | with_reducible refine' s_sub ?_ | with_reducible refine' s_neg ?_ | with_reducible refine' s_lt ?_ | with_reducible refine' s_le ?_ | with_reducible refine' s_gt ?_ | with_reducible refine' s_ge ?_ | with_reducible refine' s_addI ?_ | with_reducible refine' s_eqI ?_ | with_reducible refine' s_neI ?_
  | ((with_reducible refine' s_eqG (k := false) ?k1 ?k2 ?k3 ?k4 ?k5 ?_); (case k1 => rfl); (case k2 => rfl); (case k3 => decide +kernel); (case k4 => decide +kernel); (case k5 => decide +kernel)) | ((with_reducible refine' s_eqG (k := true) ?k1 ?k2 ?k3 ?k4 ?k5 ?_); (case k1 => rfl); (case k2 => rfl); (case k3 => decide +kernel); (case k4 => decide +kernel); (case k5 => decide +kernel))
  | ((with_reducible refine' s_neG (k := false) ?k1 ?k2 ?k3 ?k4 ?k5 ?_); (case k1 => rfl); (case k2 => rfl); (case k3 => decide +kernel); (case k4 => decide +kernel); (case k5 => decide +kernel)) | ((with_reducible refine' s_neG (k := true) ?k1 ?k2 ?k3 ?k4 ?k5 ?_); (case k1 => rfl); (case k2 => rfl); (case k3 => decide +kernel); (case k4 => decide +kernel); (case k5 => decide +kernel))
  | ((with_reducible refine' s_mod ?k1 ?_); (case k1 => walk_at "side")) | ((with_reducible refine' s_mul ?k1 ?_); (case k1 => walk_at "mul")) | ((with_reducible refine' s_div ?k1 ?_); (case k1 => walk_at "div"))
  | with_reducible refine' s_isN ?_ | with_reducible refine' s_isNotN ?_
  | ((with_reducible refine' s_idx ?k1 ?k2 ?_); (case k1 => walk_at "mem"); (case k2 => first | rfl | assumption))
  | ((with_reducible refine' s_list ?k1 ?_); (case k1 => walk_at "mem")) | ((with_reducible refine' s_tuple ?k1 ?_); (case k1 => walk_at "mem")) | ((with_reducible refine' s_len ?k1 ?_); (case k1 => walk_at "mem"))
  | with_reducible refine' s_abs ?_ | with_reducible refine' s_max ?_ | with_reducible refine' s_min ?_ | with_reducible refine' s_int ?_ | with_reducible refine' s_intB ?_
  | ((with_reducible refine' s_append ?k1 ?k2 ?_); (case k1 => walk_at "mem"); (case k2 => walk_at "side")) | ((with_reducible refine' ⟨s_tyL ?k1, ?_⟩); (case k1 => walk_at "mem"))
  | with_reducible refine' fr_lst ?_ | with_reducible refine' fr_call ?_ | with_reducible refine' fr_op ?_ | with_reducible refine' fr_fn ?_ | with_reducible refine' fr_mt ?_ | with_reducible refine' fr_prop ?_ | with_reducible refine' fr_sl ?_ | with_reducible refine' fr_var ?_ | with_reducible refine' fr_rev ?_ | with_reducible refine' fr_if ?_ | with_reducible refine' s_meth ?_ | with_reducible refine' s_prop ?_ | with_reducible refine' s_sl ?_ | with_reducible refine' s_noPart ?_ | with_reducible refine' s_part ?_ | with_reducible refine' s_isi ?_ | with_reducible refine' fz_all ?_ | with_reducible refine' fz_tup ?_ | with_reducible refine' fz_lst0 ?_ | with_reducible refine' fz_str ?_ | with_reducible refine' fz_int ?_ | with_reducible refine' fz_obj ?_ | with_reducible refine' s_kget ?_ | with_reducible refine' rev_t ?_ | ((with_reducible refine' rev_l ?k1 ?_); (case k1 => walk_at "mem")) | with_reducible refine' s_rev ?_ | with_reducible refine' s_consS ?_ | with_reducible refine' s_stL ?_ | with_reducible refine' fr_stL ?_ | with_reducible refine' s_lno ?_ | with_reducible refine' s_chain ?_ | with_reducible refine' s_rng1 ?_ | with_reducible refine' s_rng2 ?_ | with_reducible refine' s_enum ?_ | with_reducible refine' s_zip ?_
  | with_reducible refine' s_iseq ?_
  | ((with_reducible refine' s_setL ?k1 ?k2 ?_); (case k1 => walk_at "mem"); (case k2 => first | rfl | assumption))
  | ((with_reducible refine' s_lenA ?k1 ?_); (case k1 => rfl))
  | ((with_reducible refine' ⟨_, _, rfl, ?k1, ?_⟩); (case k1 => assumption)) | with_reducible refine' ⟨_, _, rfl, ?_⟩ | with_reducible refine' ⟨_, rfl, ?_⟩ | with_reducible refine' ⟨rfl, ?_⟩)
local macro_rules | `(tactic| walk_at "sq") => `(tactic| with_reducible refine' s_seq ?_)
local macro_rules | `(tactic| walk_at "if") => `(tactic| with_reducible refine' s_ife ?_)
local macro_rules | `(tactic| walk_at "for") => `(tactic| with_reducible refine' s_for ?_)
def g_with_steps : Cfg := { N := ["chain", "steps"], fn := [("Chain", [])], mt := [], fl := ["channel_count"], pr := [], cs := [], bi := [] }
def u_with_steps : LD.St := .cons (.ret (.frz (.call 0 (.cons (.fld 0 (.var 0)) (.cons (.var 1) .nil)) .nil))) .nil
def g_added_by : Cfg := { N := ["way", "divisor"], fn := [], mt := [], fl := [], pr := [], cs := [], bi := [] }
def u_added_by : LD.St := .cons (.mat (.var 0) (.cas ("up" : Str) (.cons (.ret (.bin .sub (.var 1) (.int 1))) .nil) (.cas ("half up" : Str) (.cons (.ret (.bin .div (.var 1) (.int 2))) .nil) (.cas ("half down" : Str) (.cons (.ret (.bin .div (.bin .sub (.var 1) (.int 1)) (.int 2))) .nil) .nil)))) (.cons (.ret (.int 0)) .nil)
def g_rounded : Cfg := { N := ["chain", "number", "way", "steps", "word", "channel", "weights", "more", "divisor"], fn := [("added_by", []), ("with_steps", [])], mt := [], fl := ["kept_steps"], pr := [], cs := [], bi := ["list", "len"] }
def u_rounded : LD.St := .cons (.set 3 (.bcall .list (.cons (.fld 0 (.var 0)) .nil))) (.cons (.ife (.or (.not (.chain .le .lt (.int 0) (.var 1) (.bcall .len (.cons (.var 3) .nil)))) (.cmp .ne (.idx (.idx (.var 3) (.var 1)) (.int 0)) (.str ("lift" : Str)))) (.cons .never .nil) .nil) (.cons (.unp (.tup (.cons (.name 4) (.cons (.name 5) (.cons (.name 6) (.cons (.name 7) (.cons (.name 8) .nil)))))) (.idx (.var 3) (.var 1))) (.cons (.sub (.var 3) (.var 1) (.tup (.cons (.var 4) (.cons (.var 5) (.cons (.var 6) (.cons (.bin .add (.var 7) (.call 0 (.cons (.var 2) (.cons (.var 8) .nil)) .nil)) (.cons (.var 8) .nil))))))) (.cons (.retg [3] (.call 1 (.cons (.var 0) (.cons (.frz (.var 3)) .nil)) .nil)) .nil))))
def g_law_few : Cfg := { N := ["pool", "many", "most", "product", "spot", "room", "found"], fn := [("_law_draw", []), ("_law_lift", []), ("_law_plain", [])], mt := [], fl := [], pr := [], cs := [], bi := ["range"] }
def u_law_few : LD.St := .cons (.par2 5 6 (.lst (.cons (.var 3) .nil)) (.lst .nil)) (.cons (.for (.rng1 (.cons (.call 0 (.cons (.var 0) (.cons (.bin .add (.var 2) (.int 1)) .nil)) .nil) .nil)) (.name 4) (.cons (.expr (.bmeth .append (.var 6) (.cons (.ifx (.cmp .gt (.call 0 (.cons (.var 0) (.cons (.int 3) .nil)) .nil) (.int 0)) (.call 1 (.cons (.var 0) (.cons (.var 1) (.cons (.var 5) .nil))) .nil) (.call 2 (.cons (.var 0) (.cons (.var 1) .nil)) .nil)) .nil))) .nil)) (.cons (.ret (.frz (.var 6))) .nil))
def g_law_grown : Cfg := { N := ["one", "kind", "more"], fn := [], mt := [], fl := [], pr := [], cs := [], bi := [] }
def u_law_grown : LD.St := .cons (.set 2 (.dsel ("down" : Str) ("up" : Str) ("half up" : Str) ("half down" : Str) (.int 0) (.bin .sub (.idx (.var 0) (.int 4)) (.int 1)) (.bin .div (.idx (.var 0) (.int 4)) (.int 2)) (.bin .div (.bin .sub (.idx (.var 0) (.int 4)) (.int 1)) (.int 2)) (.var 1))) (.cons (.ret (.frz (.bin .add (.frz (.bin .add (.frz (.sl (.var 0) .nil (.int 3))) (.tup (.cons (.bin .add (.idx (.var 0) (.int 3)) (.var 2)) .nil)))) (.frz (.sl (.var 0) (.int 4) .nil))))) .nil)
def g_law_next_to : Cfg := { N := ["share", "total", "divisor", "kind", "away"], fn := [], mt := [], fl := [], pr := [], cs := [], bi := [] }
def u_law_next_to : LD.St := .cons (.set 4 (.bin .sub (.bin .mul (.var 2) (.var 0)) (.var 1))) (.cons (.ife (.cmp .eq (.var 3) (.str ("down" : Str))) (.cons (.ret (.chain .lt .le (.bin .sub (.int 0) (.var 2)) (.var 4) (.int 0))) .nil) .nil) (.cons (.ife (.cmp .eq (.var 3) (.str ("up" : Str))) (.cons (.ret (.chain .le .lt (.int 0) (.var 4) (.var 2))) .nil) .nil) (.cons (.ife (.cmp .eq (.var 3) (.str ("half up" : Str))) (.cons (.ret (.chain .lt .le (.bin .sub (.int 0) (.var 2)) (.bin .mul (.int 2) (.var 4)) (.var 2))) .nil) .nil) (.cons (.ret (.chain .le .lt (.bin .sub (.int 0) (.var 2)) (.bin .mul (.int 2) (.var 4)) (.var 2))) .nil))))
def g_law_lift_right : Cfg := { N := ["pool", "many", "one", "kind", "other", "turn", "place", "side", "later", "total", "weight", "entry", "spot"], fn := [("rounded", []), ("Chain", []), ("_law_draw", []), ("_law_place", []), ("_law_next_to", [])], mt := [("at", [])], fl := [], pr := [], cs := [], bi := ["int", "range", "zip"] }
def u_law_lift_right_1 : LD.St := .cons (.set 9 (.bin .add (.var 9) (.bin .mul (.var 10) (.var 11)))) .nil
def u_law_lift_right_2 : LD.St := .cons (.ife (.cmp .ne (.frz (.lc (.rng1 (.cons (.var 1) .nil)) (.name 12) (.and (.cmp .ne (.var 12) (.idx (.var 2) (.int 1))) (.cmp .ne (.idx (.var 8) (.var 12)) (.idx (.var 6) (.var 12)))) (.int 1) [12])) (.frz (.lst .nil))) (.cons (.ret (.bl false)) .nil) .nil) .nil
def u_law_lift_right_3 : LD.St := .cons (.ife (.not (.call 4 (.cons (.bin .sub (.idx (.var 8) (.idx (.var 2) (.int 1))) (.idx (.var 6) (.idx (.var 2) (.int 1)))) (.cons (.var 9) (.cons (.idx (.var 2) (.int 4)) (.cons (.var 3) .nil)))) .nil)) (.cons (.ret (.bl false)) .nil) .nil) u_law_lift_right_2
def u_law_lift_right_4 : LD.St := .cons (.set 6 (.frz (.bin .add (.frz (.bin .add (.frz (.sl (.var 6) .nil (.var 7))) (.tup (.cons (.bin .add (.idx (.var 6) (.var 7)) (.int 1)) .nil)))) (.frz (.sl (.var 6) (.bin .add (.var 7) (.int 1)) .nil))))) (.cons (.unp (.tup (.cons (.name 8) (.cons (.name 9) .nil))) (.tup (.cons (.meth 0 (.var 4) (.cons (.var 6) .nil) .nil) (.cons (.idx (.var 2) (.int 3)) .nil)))) (.cons (.for (.zip (.cons (.idx (.var 2) (.int 2)) (.cons (.var 6) .nil))) (.tup (.cons (.name 10) (.cons (.name 11) .nil))) u_law_lift_right_1) u_law_lift_right_3))
def u_law_lift_right_5 : LD.St := .cons (.ret (.bl true)) .nil
def u_law_lift_right : LD.St := .cons (.set 4 (.call 0 (.cons (.frz (.call 1 (.cons (.var 1) (.cons (.frz (.lst (.cons (.var 2) .nil))) .nil)) .nil)) (.cons (.int 0) (.cons (.var 3) .nil))) .nil)) (.cons (.unp (.tup (.cons (.name 6) (.cons (.name 7) .nil))) (.tup (.cons (.call 3 (.cons (.var 0) (.cons (.var 1) (.cons (.bin .sub (.bin .pow (.int 10) (.int 31)) (.int 9)) .nil))) .nil) (.cons (.bin .mod (.bcall .int (.cons (.bin .add (.bin .add (.idx (.var 2) (.int 1)) (.int 1)) (.call 2 (.cons (.var 0) (.cons (.bin .sub (.var 1) (.int 1)) .nil)) .nil)) .nil)) (.var 1)) .nil)))) (.cons (.for (.rng1 (.cons (.idx (.var 2) (.int 4)) .nil)) (.name 5) u_law_lift_right_4) u_law_lift_right_5))
def g_law_right : Cfg := { N := ["pool", "many", "moves", "spot", "made", "kind", "again", "told", "due"], fn := [("_law_few", []), ("_law_draw", []), ("_law_lift", []), ("Chain", []), ("rounded", ["chain", "way", "number"]), ("_law_grown", []), ("rounded", []), ("_law_lift_right", [])], mt := [], fl := [], pr := ["channels", "steps"], cs := [], bi := ["len", "range", "list", "repr"] }
def u_law_right_1 : LD.St := .cons (.ife (.not (.call 7 (.cons (.var 0) (.cons (.var 1) (.cons (.idx (.var 2) (.var 3)) (.cons (.var 5) .nil)))) .nil)) (.cons (.retg [8] (.bl false)) .nil) .nil) .nil
def u_law_right_2 : LD.St := .cons (.set 6 (.idx (.frz (.lst (.cons (.str ("down" : Str)) (.cons (.str ("up" : Str)) (.cons (.str ("half up" : Str)) (.cons (.str ("half down" : Str)) .nil)))))) (.call 1 (.cons (.var 0) (.cons (.int 4) .nil)) .nil))) (.cons (.sub (.var 8) (.var 3) (.call 5 (.cons (.idx (.var 8) (.var 3)) (.cons (.var 6) .nil)) .nil)) (.cons (.ife (.cmp .ne (.bcall .repr (.cons (.prop 1 (.call 6 (.cons (.var 7) (.cons (.var 3) (.cons (.var 6) .nil))) .nil)) .nil)) (.bcall .repr (.cons (.var 8) .nil))) (.cons (.retg [8] (.bl false)) .nil) .nil) u_law_right_1))
def u_law_right_3 : LD.St := .cons (.par2 7 8 (.call 4 .nil (.cons (.var 4) (.cons (.var 5) (.cons (.var 3) .nil)))) (.bcall .list (.cons (.var 2) .nil))) (.cons (.sub (.var 8) (.var 3) (.call 5 (.cons (.idx (.var 2) (.var 3)) (.cons (.var 5) .nil)) .nil)) (.cons (.ife (.or (.cmp .ne (.bcall .repr (.cons (.prop 1 (.var 7)) .nil)) (.bcall .repr (.cons (.var 8) .nil))) (.cmp .ne (.prop 0 (.var 7)) (.var 1))) (.cons (.retg [8] (.bl false)) .nil) .nil) u_law_right_2))
def u_law_right_4 : LD.St := .cons (.for (.tup (.cons (.str ("half down" : Str)) (.cons (.str ("up" : Str)) (.cons (.str ("down" : Str)) (.cons (.str ("half up" : Str)) .nil))))) (.name 5) u_law_right_3) .nil
def u_law_right_5 : LD.St := .cons (.retg [8] (.cmp .eq (.prop 1 (.var 4)) (.var 2))) .nil
def u_law_right : LD.St := .cons (.set 2 (.call 0 (.cons (.var 0) (.cons (.var 1) (.cons (.int 5) (.cons (.idx (.frz (.lst (.cons (.int 4) (.cons (.int 2) .nil)))) (.bin .sub (.var 1) (.int 2))) .nil)))) .nil)) (.cons (.set 3 (.call 1 (.cons (.var 0) (.cons (.bin .add (.bcall .len (.cons (.var 2) .nil)) (.int 1)) .nil)) .nil)) (.cons (.set 2 (.frz (.bin .add (.frz (.bin .add (.frz (.sl (.var 2) .nil (.var 3))) (.frz (.lst (.cons (.call 2 (.cons (.var 0) (.cons (.var 1) (.cons (.lst (.cons (.int 3) .nil)) .nil))) .nil) .nil))))) (.frz (.sl (.var 2) (.var 3) .nil))))) (.cons (.set 4 (.frz (.call 3 (.cons (.var 1) (.cons (.var 2) .nil)) .nil))) (.cons (.for (.frz (.lc (.rng1 (.cons (.bcall .len (.cons (.var 2) .nil)) .nil)) (.name 3) (.cmp .eq (.idx (.idx (.var 2) (.var 3)) (.int 0)) (.str ("lift" : Str))) (.var 3) [3])) (.name 3) u_law_right_4) u_law_right_5))))
def g_law : Cfg := { N := ["script", "spot", "pool", "many"], fn := [("_law_pool", []), ("_law_right", [])], mt := [], fl := [], pr := [], cs := [], bi := ["range", "max", "min", "len"] }
def u_law_1 : LD.St := .cons (.ife (.not (.call 1 (.cons (.var 2) (.cons (.var 3) .nil)) .nil)) (.cons (.ret (.bl false)) .nil) .nil) .nil
def u_law_2 : LD.St := .cons (.set 2 (.call 0 (.cons (.var 0) (.cons (.var 1) .nil)) .nil)) (.cons (.for (.tup (.cons (.int 2) (.cons (.int 3) .nil))) (.name 3) u_law_1) .nil)
def u_law_3 : LD.St := .cons (.ret (.bl true)) .nil
def u_law : LD.St := .cons (.for (.rng1 (.cons (.bcall .max2 (.cons (.int 1) (.cons (.bcall .min2 (.cons (.int 4) (.cons (.bcall .len (.cons (.var 0) .nil)) .nil))) .nil))) .nil)) (.name 1) u_law_2) u_law_3
theorem s_mat {te : DTE} {m : D → DTS} {Z : DEnds} {σ : DSt} {M : DM} (h : te σ M (fun d M1 => m d Z σ M1) (Z.ex σ)) : sMatch te m Z σ M := h
theorem s_casT {x : Str} {b : DTS} {m : D → DTS} {Z : DEnds} {σ : DSt} {M : DM} (h : b Z σ M) : sCase x b m (.str x) Z σ M := ⟨x, rfl, by rw [if_pos rfl]; exact h⟩
theorem s_casF {x y : Str} {b : DTS} {m : D → DTS} {Z : DEnds} {σ : DSt} {M : DM} (ne : y ≠ x) (h : m (.str y) Z σ M) : sCase x b m (.str y) Z σ M := ⟨y, rfl, by rw [if_neg ne]; exact h⟩
theorem s_sel {k1 k2 k3 k4 : Str} {ta tb tc td te : DTE} {σ : DSt} {M : DM} {R : DK} {Ex : DX} (h : ta σ M (fun x M1 => tb σ M1 (fun y M2 => tc σ M2 (fun z M3 => td σ M3 (fun w M4 => te σ M4 (fun u M5 =>
  (u = .str k1 ∧ R x M5) ∨ (u = .str k2 ∧ R y M5) ∨ (u = .str k3 ∧ R z M5) ∨ (u = .str k4 ∧ R w M5)) Ex) Ex) Ex) Ex) Ex) : dSel k1 k2 k3 k4 ta tb tc td te σ M R Ex := h
theorem pk31 : PowOk 10 31 := ⟨by decide, by decide⟩
/-! ### the ways to round -/
inductive Way where
  | down | up | hu | hd
def Way.s : Way → Str
  | .down => "down" | .up => "up" | .hu => "half up" | .hd => "half down"
def addBy : Way → Int → Int
  | .down, _ => 0
  | .up, d => d - 1
  | .hu, d => d.fdiv 2
  | .hd, d => (d - 1).fdiv 2
theorem addBy_le {w : Way} {d : Int} (h : 1 ≤ d) : 0 ≤ addBy w d ∧ addBy w d < d := by
  cases w <;> simp only [addBy]
  · omega
  · omega
  · rw [Int.fdiv_eq_ediv_of_nonneg _ (by decide)]; omega
  · rw [Int.fdiv_eq_ediv_of_nonneg _ (by decide)]; omega
theorem ne_ud : ("down" : Str) ≠ "up" := by decide +kernel
theorem ne_hd : ("down" : Str) ≠ "half up" := by decide +kernel
theorem ne_dd : ("down" : Str) ≠ "half down" := by decide +kernel
theorem ne_1 : ("half up" : Str) ≠ "up" := by decide +kernel
theorem ne_2 : ("half down" : Str) ≠ "up" := by decide +kernel
theorem ne_3 : ("half down" : Str) ≠ "half up" := by decide +kernel
theorem ne_4 : ("up" : Str) ≠ "down" := by decide +kernel
theorem ne_5 : ("half up" : Str) ≠ "down" := by decide +kernel
theorem ne_6 : ("half down" : Str) ≠ "down" := by decide +kernel
def spAdded : DSp := fun ds M R _ => ∃ (w : Way) (d : Int), ds = [.str w.s, .int d] ∧ R (.int (addBy w d)) M
theorem s_added {w : Way} {d : Int} {M : DM} {R : DK} {Ex : DX} (r : R (.int (addBy w d)) M) : spAdded ([.str w.s, .int d] ++ []) M R Ex := ⟨w, d, rfl, r⟩
theorem does_added : Does S0 u_added_by g_added_by.N spAdded := by
  rintro ds M R Ex ⟨w, d, rfl, hR⟩
  dsimp only [u_added_by, evS, ev, EvS.of, Ev.of, Op2.ev, Cmp.ev, BF.ev, BM.ev, AOp.ev, S0]
  walk_at "sq"
  refine s_mat ?_
  cases w with
  | down =>
    repeat walk_at "le"
    refine s_casF ne_ud (s_casF ne_hd (s_casF ne_dd ?_))
    repeat walk_at "le"
    walk_at "sq"
    repeat walk_at "le"
    exact hR
  | up =>
    repeat walk_at "le"
    refine s_casT ?_
    walk_at "sq"
    repeat walk_at "le"
    exact hR
  | hu =>
    repeat walk_at "le"
    refine s_casF ne_1 (s_casT ?_)
    walk_at "sq"
    repeat walk_at "le"
    exact hR
  | hd =>
    repeat walk_at "le"
    refine s_casF ne_2 (s_casF ne_3 (s_casT ?_))
    walk_at "sq"
    repeat walk_at "le"
    exact hR
def spWith (C : Addr) : DSp := fun ds M R _ => ∃ (n : Nat) (ss tt : List Stp), ds = [encC C n ss, .lst (tt.map encS)] ∧ (n = 2 ∨ n = 3) ∧ SsOk n tt ∧ tt.length ≤ 1000 ∧ R (encC C n tt) M
def Swi (C : Addr) : Sg := { S0 with fn := fun _ => spMake C (spInit C), fl := fun _ => 0, fc := fun _ => C, fnm := fun _ => "channel_count" }
theorem does_with (C : Addr) : Does (Swi C) u_with_steps g_with_steps.N (spWith C) := by
  rintro ds M R Ex ⟨n, ss, tt, rfl, hn, ok, hl, hR⟩
  dsimp only [u_with_steps, evS, ev, EvS.of, Ev.of, Op2.ev, Cmp.ev, BF.ev, BM.ev, AOp.ev, S0, Swi]
  repeat walk_at "ld"
  refine ⟨_, fld_count, ?_⟩
  repeat walk_at "ld"
  refine s_chainF hn ok hl ?_
  repeat walk_at "ld"
  exact hR
/-- the lift rounds so -/
def grown (w : Way) (c : Nat) (ws : List Int) (m d : Int) : Stp := .lift c ws (m + addBy w d) d
def spRounded (C : Addr) : DSp := fun ds M R _ => ∃ (n i : Nat) (ss : List Stp) (w : Way) (c : Nat) (ws : List Int) (m d : Int), ds = [encC C n ss, .int i, .str w.s] ∧ (n = 2 ∨ n = 3) ∧ ss[i]? = some (.lift c ws m d) ∧ SsOk n (ss.set i (grown w c ws m d)) ∧ ss.length ≤ 1000 ∧
  R (encC C n (ss.set i (grown w c ws m d))) M
theorem s_rounded {C : Addr} {n i : Nat} {ss : List Stp} {w : Way} {c : Nat} {ws : List Int} {m d : Int} {M : DM} {R : DK} {Ex : DX} (hn : n = 2 ∨ n = 3) (hi : ss[i]? = some (.lift c ws m d)) (ok : SsOk n (ss.set i (grown w c ws m d))) (hl : ss.length ≤ 1000)
    (r : R (encC C n (ss.set i (grown w c ws m d))) M) : spRounded C ([encC C n ss, .int i, .str w.s] ++ []) M R Ex := ⟨n, i, ss, w, c, ws, m, d, rfl, hn, hi, ok, hl, r⟩
def spRoundedP (C : Addr) : DSp := fun ds M R Ex => ∃ x w i, ds = [x, w, i] ∧ spRounded C [x, i, w] M R Ex
theorem perm_rounded {C : Addr} {ds : List D} {M : DM} {R : DK} {Ex : DX} (h : spRoundedP C ds M R Ex) : ds.length = (["chain", "number", "way"] : List Str).length ∧ spRounded C (pick [0, 2, 1] ds) M R Ex := by
  obtain ⟨x, w, i, rfl, q⟩ := h
  exact ⟨rfl, q⟩
def Sro (C : Addr) : Sg := { S0 with fn := fun j => match j with | 0 => spAdded | _ => spWith C, fl := fun _ => 0, fc := fun _ => C, fnm := fun _ => "kept_steps" }
theorem delM_delM {M : DM} {a : Addr} : delM (delM M a) a = delM M a := by
  funext b; unfold delM; split <;> rfl
theorem does_rounded (C : Addr) : Does (Sro C) u_rounded g_rounded.N (spRounded C) := by
  rintro ds M R Ex ⟨n, i, ss, w, c, ws, m, d, rfl, hn, hi, ok, hl, hR⟩
  dsimp only [u_rounded, evS, ev, EvS.of, Ev.of, Op2.ev, Cmp.ev, BF.ev, BM.ev, AOp.ev, S0, Sro]
  have il : i < ss.length := (List.getElem?_eq_some_iff.mp hi).1
  have e1 : atI (ss.map encS) (i : Int) = some (encS (.lift c ws m d)) := atI_nat (by rw [List.getElem?_map, hi]; rfl)
  have e2 : ixN (ss.map encS).length (i : Int) = some i := by rw [List.length_map]; exact ixN_nat il
  walk_at "sq"
  repeat walk_at "le"
  refine ⟨_, fld_kept, ?_⟩
  repeat walk_at "le"
  intro p hp
  repeat walk_at "le"
  walk_at "sq"
  walk_at "if"
  repeat walk_at "le"
  refine ifdT (by omega) ?_
  repeat walk_at "le"
  refine ifnT (by rw [List.length_map]; omega) ?_
  repeat walk_at "le"
  walk_at "sq"
  repeat walk_at "le"
  walk_at "sq"
  repeat walk_at "le"
  refine s_added ?_
  repeat walk_at "le"
  rw [updM_updM]
  walk_at "sq"
  repeat walk_at "le"
  refine fz_lst updM_same ?_
  rw [delM_updM hp]
  repeat walk_at "le"
  have e3 : (ss.map encS).set i (encS (grown w c ws m d)) = (ss.set i (grown w c ws m d)).map encS := by rw [List.map_set]
  refine ⟨n, ss, ss.set i (grown w c ws m d), by rw [← e3]; rfl, hn, ok, by rw [List.length_set]; exact hl, ?_⟩
  dsimp only
  rw [forget1 (a := p)]
  · have : delM M p = M := by
      funext b
      by_cases e : b = p
      · subst e; rw [delM_same, hp]
      · rw [delM_ne e]
    rw [this]
    exact hR
  · rfl

/-! ### a few steps -/
def spFew : DSp := fun ds M R _ => ∃ (p : Addr) (q : Pool) (k n most : Nat) (pr : Int), ds = [.ref p, .int n, .int most, .int pr] ∧ M p = some q.d ∧ q.ok (k + 11 * most + 1) ∧ 2 ≤ n ∧ n ≤ 3 ∧ most ≤ 1000 ∧ 1 ≤ pr ∧
  ∀ (ss : List Stp) (q' : Pool) (M' : DM), (∀ s ∈ ss, SLw n s) → ss.length ≤ most → M' p = some q'.d → q'.ok k → R (.lst (ss.map encS)) M'
theorem s_few {p : Addr} {q : Pool} {k n most : Nat} {pr : Int} {M : DM} {R : DK} {Ex : DX} (hp : M p = some q.d) (ok : q.ok (k + 11 * most + 1)) (n1 : 2 ≤ n) (n3 : n ≤ 3) (hm : most ≤ 1000) (h1 : 1 ≤ pr)
    (r : ∀ (ss : List Stp) (q' : Pool) (M' : DM), (∀ s ∈ ss, SLw n s) → ss.length ≤ most → M' p = some q'.d → q'.ok k → R (.lst (ss.map encS)) M') : spFew ([.ref p, .int n, .int most, .int pr] ++ []) M R Ex := ⟨p, q, k, n, most, pr, rfl, hp, ok, n1, n3, hm, h1, r⟩
def Sfew : Sg := { S0 with fn := fun j => match j with | 0 => spDraw | 1 => spLift | _ => spPlain }
theorem does_few : Does Sfew u_law_few g_law_few.N spFew := by
  rintro ds M R Ex ⟨p, q, k, n, most, pr, rfl, hp, ok, n1, n3, hm, h1, hR⟩
  dsimp only [u_law_few, evS, ev, EvS.of, Ev.of, Op2.ev, Cmp.ev, BF.ev, BM.ev, AOp.ev, S0, Sfew]
  repeat walk_at "ld"
  intro r hr0
  have hpr : p ≠ r := ne_none hp hr0
  repeat walk_at "ld"
  intro f hf0
  obtain ⟨hf1, hfr⟩ := upd_of_non hf0
  have hpf : p ≠ f := ne_none hp hf1
  repeat walk_at "ld"
  refine s_draw (by walk_at "mem") ok (by omega) (by omega) fun t q1 t0 t1 ok1 => ?_
  rw [show M = updM M p q.d from (upd_id hp).symm, up3 hpr hpf]
  refine ⟨by unfold small62; omega, loop_ind (fun rem σ M' => ∃ (x4 : Option D) (ss : List Stp) (q' : Pool) (room : Int), σ = [some (.ref p), some (.int n), some (.int most), some (.int pr), x4, some (.ref r), some (.ref f)] ∧ M' = mM M p r f q' room ss ∧ ss.length + rem.length ≤ most ∧ (∀ s ∈ ss, SLw n s) ∧ 1 ≤ room ∧ q'.ok (k + 11 * rem.length)) ?_ (fun _ _ _ _ => trivial) ?_ ?_⟩
  · refine ⟨none, [], q1, pr, rfl, rfl, ?_, by simp, h1, ok1.mono ?_⟩
    · rw [rangeD_len]; simp; omega
    · rw [rangeD_len]; omega
  · rintro σ M' ⟨x4, ss, q', room, rfl, rfl, hl, hs, r1, ok'⟩
    repeat walk_at "ld"
    refine fz_lst updM_same ?_
    refine hR ss q' _ hs (by simpa using hl) ?_ (ok'.mono (by omega))
    rw [delM_ne hpf]
    dsimp only [mM]
    rw [updM_ne hpf, updM_ne hpr, updM_same]
  · rintro d rem σ M' ⟨x4, ss, q', room, rfl, rfl, hl, hs, r1, ok'⟩ ih
    refine ⟨_, rfl, ?_⟩
    simp only [List.length_cons] at hl ok'
    have hz : (ss.map encS).length < sizeLine := by
      have : 1000 ≤ sizeLine := by decide
      rw [List.length_map]
      omega
    have next : ∀ (s : Stp) (q3 : Pool) (room' : Int), SLw n s → 1 ≤ room' → q3.ok (k + 11 * rem.length) → sLoop _ _ _ rem _ [some (.ref p), some (.int n), some (.int most), some (.int pr), some d, some (.ref r), some (.ref f)] (mM M p r f q3 room' (ss ++ [s])) := fun s q3 room' hs1 hr1 hq => ih _ _ ⟨_, _, _, _, rfl, rfl, by simp; omega, fun s' hs' => by
      rcases List.mem_append.mp hs' with h | h
      · exact hs s' h
      · simp only [List.mem_singleton] at h; subst h; exact hs1, hr1, hq⟩
    repeat walk_at "ld"
    refine s_draw (by walk_at "mem") (okc ok' (k + 11 * rem.length + 10 + 1)) (by decide) (by decide) fun e q2 e0 e1 ok2 => ?_
    rw [up3 hpr hpf]
    repeat walk_at "ld"
    refine if2 (fun hw => ?_) (fun hw => ?_)
    · repeat walk_at "ld"
      refine s_lift (by walk_at "mem") (by walk_at "mem") hpr ok2 (by omega) n3 r1 fun c ws m d room' q4 sl d6 e1 e2 ok4 => ?_
      rw [up3 hpr hpf, upd_norm hfr.symm]
      repeat walk_at "ld"
      rw [updM_updM]
      have h := next (.lift c ws m d) q4 room' sl e1 ok4
      rw [mM, List.map_append] at h
      exact h
    · repeat walk_at "ld"
      refine s_plain (by walk_at "mem") (ok2.mono (show k + 11 * rem.length + 3 ≤ _ by omega)) n1 n3 fun s q4 sl d1 ok4 => ?_
      rw [up3 hpr hpf]
      repeat walk_at "ld"
      rw [updM_updM]
      have h := next s q4 room sl r1 ok4
      rw [mM, List.map_append] at h
      exact h
/-! ### a lift grown -/
theorem s_cut5a {a b c d e : D} {M : DM} {R : DK} (r : R (.tup [a, b, c]) M) : oSlice (.tup [a, b, c, d, e]) none (some 3) M R := by
  have h : cutD [a, b, c, d, e] none (some 3) = [a, b, c] := rfl
  show R (.tup (cutD [a, b, c, d, e] none (some 3))) M
  rw [h]; exact r
theorem s_cut5b {a b c d e : D} {M : DM} {R : DK} (r : R (.tup [e]) M) : oSlice (.tup [a, b, c, d, e]) (some 4) none M R := by
  have h : cutD [a, b, c, d, e] (some 4) none = [e] := rfl
  show R (.tup (cutD [a, b, c, d, e] (some 4) none)) M
  rw [h]; exact r
def spGrown : DSp := fun ds M R _ => ∃ (c : Nat) (ws : List Int) (m d : Int) (w : Way), ds = [encS (.lift c ws m d), .str w.s] ∧ R (encS (grown w c ws m d)) M
theorem s_grown {c : Nat} {ws : List Int} {m d : Int} {w : Way} {M : DM} {R : DK} {Ex : DX} (r : R (encS (grown w c ws m d)) M) : spGrown ([encS (.lift c ws m d), .str w.s] ++ []) M R Ex := ⟨c, ws, m, d, w, rfl, r⟩
theorem grownB {c : Nat} {ws : List Int} {m d x : Int} {w : Way} {M : DM} {Z : DEnds} (r : Z.rt (encS (.lift c ws (m + x) d)) M) :
    (evS S0 (.cons (.ret (.frz (.bin .add (.frz (.bin .add (.frz (.sl (.var 0) .nil (.int 3))) (.tup (.cons (.bin .add (.idx (.var 0) (.int 3)) (.var 2)) .nil)))) (.frz (.sl (.var 0) (.int 4) .nil))))) .nil)).b Z [some (encS (.lift c ws m d)), some (.str w.s), some (.int x)] M := by
  dsimp only [evS, ev, EvS.of, Ev.of, Op2.ev, Cmp.ev, BF.ev, BM.ev, AOp.ev]
  repeat walk_at "ld"
  refine s_cut5a ?_
  repeat walk_at "ld"
  refine ⟨Nat.le_trans (show _ ≤ 4 from Nat.le_refl _) (by decide), ?_⟩
  repeat walk_at "ld"
  refine s_cut5b ?_
  repeat walk_at "ld"
  refine ⟨Nat.le_trans (show _ ≤ 5 from Nat.le_refl _) (by decide), ?_⟩
  repeat walk_at "ld"
  exact r
theorem does_grown : Does S0 u_law_grown g_law_grown.N spGrown := by
  rintro ds M R Ex ⟨c, ws, m, d, w, rfl, hR⟩
  dsimp only [u_law_grown, evS, EvS.of]
  walk_at "sq"
  dsimp only [ev, Ev.of, Op2.ev, Cmp.ev, BF.ev, BM.ev, AOp.ev, S0]
  walk_at "le"
  refine s_sel ?_
  have fin : ∀ x, x = addBy w d → (evS S0 (.cons (.ret (.frz (.bin .add (.frz (.bin .add (.frz (.sl (.var 0) .nil (.int 3))) (.tup (.cons (.bin .add (.idx (.var 0) (.int 3)) (.var 2)) .nil)))) (.frz (.sl (.var 0) (.int 4) .nil))))) .nil)).b { nx := fun _ M' => R .non M', rt := R, ex := fun _ => Ex } [some (encS (.lift c ws m d)), some (.str w.s), some (.int x)] M := fun x e => grownB (by rw [e]; exact hR)
  repeat walk_at "le"
  cases w with
  | down => exact .inl ⟨rfl, fin _ rfl⟩
  | up => exact .inr (.inl ⟨rfl, fin _ rfl⟩)
  | hu => exact .inr (.inr (.inl ⟨rfl, fin _ rfl⟩))
  | hd => exact .inr (.inr (.inr ⟨rfl, fin _ rfl⟩))
/-! ### next to the fraction -/
def NextP : Way → Int → Int → Prop
  | .down, a, d => 0 - d < a ∧ a ≤ 0
  | .up, a, d => 0 ≤ a ∧ a < d
  | .hu, a, d => 0 - d < 2 * a ∧ 2 * a ≤ d
  | .hd, a, d => 0 - d ≤ 2 * a ∧ 2 * a < d
def spNext : DSp := fun ds M R _ => ∃ (sh tot d : Int) (w : Way), ds = [.int sh, .int tot, .int d, .str w.s] ∧ 1 ≤ d ∧ d < 2 ^ 60 ∧ NextP w (d * sh - tot) d ∧ R (.bl true) M
theorem does_next : Does S0 u_law_next_to g_law_next_to.N spNext := by
  rintro ds M R Ex ⟨sh, tot, d, w, rfl, h1, h2, hn, hR⟩
  dsimp only [u_law_next_to, evS, ev, EvS.of, Ev.of, Op2.ev, Cmp.ev, BF.ev, BM.ev, AOp.ev, S0]
  repeat walk_at "ld"
  generalize d * sh - tot = a at hn ⊢
  cases w with
  | down =>
    obtain ⟨a1, a2⟩ := hn
    refine s_eqStr ?_
    repeat walk_at "ld"
    refine ifdT rfl ?_
    repeat walk_at "ld"
    refine ifdT a1 ?_
    repeat walk_at "ld"
    exact bl_t (decide_eq_true a2) hR
  | up =>
    obtain ⟨a1, a2⟩ := hn
    refine s_eqStr ?_
    repeat walk_at "ld"
    refine ifdF ne_4 ?_
    repeat walk_at "ld"
    refine ifdT a1 ?_
    repeat walk_at "ld"
    exact bl_t (decide_eq_true a2) hR
  | hu =>
    obtain ⟨a1, a2⟩ := hn
    refine s_eqStr ?_
    repeat walk_at "ld"
    refine ifdF ne_5 ?_
    repeat walk_at "ld"
    refine ifdT a1 ?_
    repeat walk_at "ld"
    exact bl_t (decide_eq_true a2) hR
  | hd =>
    obtain ⟨a1, a2⟩ := hn
    refine s_eqStr ?_
    repeat walk_at "ld"
    refine ifdF ne_6 ?_
    repeat walk_at "ld"
    refine ifdT a1 ?_
    repeat walk_at "ld"
    exact bl_t (decide_eq_true a2) hR
/-- the share that the grown lift adds -/
theorem next_to {w : Way} {d t : Int} (h : 1 ≤ d) : NextP w (d * ((t + addBy w d).fdiv d) - t) d := by
  have e := Int.mul_fdiv_add_fmod (t + addBy w d) d
  obtain ⟨r0, r1⟩ := fmod_b (a := t + addBy w d) h
  generalize (t + addBy w d).fmod d = r at *
  generalize (t + addBy w d).fdiv d = s at *
  have e2 : d * s - t = addBy w d - r := by omega
  rw [e2]
  cases w with
  | down => simp only [NextP, addBy]; omega
  | up => simp only [NextP, addBy]; omega
  | hu =>
    simp only [NextP, addBy]
    rw [Int.fdiv_eq_ediv_of_nonneg _ (by decide)]
    omega
  | hd =>
    simp only [NextP, addBy]
    rw [Int.fdiv_eq_ediv_of_nonneg _ (by decide)]
    omega
end K35
end

section
set_option maxRecDepth 100000
set_option maxHeartbeats 400000
namespace K35
open PySem L2 LD LK
local macro_rules | `(tactic| walk_at "non") => `(tactic| first | assumption | (refine upd_non ?_ ?_ <;> first | assumption | (intro z; subst z; simp_all)))
local macro_rules | `(tactic| walk_at "mem") => `(tactic| first | rfl | exact updM_same | assumption | exact isS_ref updM_same | exact isL_ref updM_same | exact isL0_ref updM_same | (apply isS_ref; walk_at "mem") | (apply isL_ref; walk_at "mem") | (apply isL0_ref; walk_at "mem") | (refine upd_keep ?k1 ?k2; (case k2 => assumption); (case k1 => walk_at "mem")) | (refine upd_ne1 ?k1 ?k2; (case k2 => assumption); (case k1 => walk_at "mem")) | (refine upd_ne2 ?k1 ?k2; (case k2 => assumption); (case k1 => walk_at "mem")) | (refine del_keep ?_ ?_; all_goals first | assumption | walk_at "mem"))
local macro_rules | `(tactic| walk_at "side") => `(tactic| first | assumption | omega | decide)
local macro_rules | `(tactic| walk_at "mul") => `(tactic| first | assumption | (exact mul_l (by first | assumption | omega | decide)) | (exact mul_r (by first | assumption | omega | decide)))
local macro_rules | `(tactic| walk_at "div") => `(tactic| first | assumption | (exact div_ok2 (by first | assumption | omega | decide) (by first | assumption | omega | decide)))
local macro_rules | `(tactic| walk_at "ld") => `(tactic| first
  | with_reducible refine' s_seq ?_ | with_reducible refine' s_next ?_ | ((with_reducible refine' s_var ?k1 ?_); (case k1 => rfl)) | with_reducible refine' s_c ?_ | with_reducible refine' s_op ?_ | with_reducible refine' s_un ?_ | with_reducible refine' s_cons ?_ | with_reducible refine' s_nil ?_ | with_reducible refine' s_set ?_ | with_reducible refine' s_bcall ?_
  | with_reducible refine' s_tup ?_ | with_reducible refine' s_lst ?_ | with_reducible refine' s_ife ?_ | with_reducible refine' s_bl ?_ | with_reducible refine' s_exbl ?_ | with_reducible refine' ifT ?_ | with_reducible refine' ifF ?_ | with_reducible refine' ifNT ?_ | with_reducible refine' ifNF ?_ | with_reducible refine' ifO1 ?_ | with_reducible refine' ifO2 rfl ?_ | with_reducible refine' s_ret ?_ | with_reducible refine' s_retg ?_ | with_reducible refine' s_call ?_ | with_reducible refine' s_fld ?_ | with_reducible refine' s_drop ?_ | with_reducible refine' s_bm ?_
  | with_reducible refine' s_and ?_ | with_reducible refine' s_or ?_ | with_reducible refine' s_not ?_ | with_reducible refine' s_tru ?_ | with_reducible refine' s_ifx ?_ | with_reducible refine' s_andV ?_ | with_reducible refine' s_orV ?_ | with_reducible refine' s_notV ?_ | with_reducible refine' s_par2 ?_ | with_reducible refine' s_par3 ?_ | with_reducible refine' s_unp ?_ | with_reducible refine' s_subs ?_ | with_reducible refine' s_sub2 ?_ | with_reducible refine' s_augS ?_ | ((with_reducible refine' s_aug ?k1 ?_); (case k1 => rfl))
  | with_reducible refine' s_add ?_ | with_reducible refine' s_sub ?_ | with_reducible refine' s_neg ?_ | with_reducible refine' s_lt ?_ | with_reducible refine' s_le ?_ | with_reducible refine' s_gt ?_ | with_reducible refine' s_ge ?_ | with_reducible refine' s_addI ?_ | with_reducible refine' s_eqI ?_ | with_reducible refine' s_neI ?_
  | ((with_reducible refine' s_eqG (k := false) ?k1 ?k2 ?k3 ?k4 ?k5 ?_); (case k1 => rfl); (case k2 => rfl); (case k3 => decide +kernel); (case k4 => decide +kernel); (case k5 => decide +kernel)) | ((with_reducible refine' s_eqG (k := true) ?k1 ?k2 ?k3 ?k4 ?k5 ?_); (case k1 => rfl); (case k2 => rfl); (case k3 => decide +kernel); (case k4 => decide +kernel); (case k5 => decide +kernel))
  | ((with_reducible refine' s_neG (k := false) ?k1 ?k2 ?k3 ?k4 ?k5 ?_); (case k1 => rfl); (case k2 => rfl); (case k3 => decide +kernel); (case k4 => decide +kernel); (case k5 => decide +kernel)) | ((with_reducible refine' s_neG (k := true) ?k1 ?k2 ?k3 ?k4 ?k5 ?_); (case k1 => rfl); (case k2 => rfl); (case k3 => decide +kernel); (case k4 => decide +kernel); (case k5 => decide +kernel))
  | ((with_reducible refine' s_mod ?k1 ?_); (case k1 => walk_at "side")) | ((with_reducible refine' s_mul ?k1 ?_); (case k1 => walk_at "mul")) | ((with_reducible refine' s_div ?k1 ?_); (case k1 => walk_at "div"))
  | with_reducible refine' s_isN ?_ | with_reducible refine' s_isNotN ?_
  | ((with_reducible refine' s_idx ?k1 ?k2 ?_); (case k1 => walk_at "mem"); (case k2 => first | rfl | assumption))
  | ((with_reducible refine' s_list ?k1 ?_); (case k1 => walk_at "mem")) | ((with_reducible refine' s_tuple ?k1 ?_); (case k1 => walk_at "mem")) | ((with_reducible refine' s_len ?k1 ?_); (case k1 => walk_at "mem"))
  | with_reducible refine' s_abs ?_ | with_reducible refine' s_max ?_ | with_reducible refine' s_min ?_ | with_reducible refine' s_int ?_ | with_reducible refine' s_intB ?_
  | ((with_reducible refine' s_append ?k1 ?k2 ?_); (case k1 => walk_at "mem"); (case k2 => walk_at "side")) | ((with_reducible refine' ⟨s_tyL ?k1, ?_⟩); (case k1 => walk_at "mem"))
  | with_reducible refine' fr_lst ?_ | with_reducible refine' fr_call ?_ | with_reducible refine' fr_op ?_ | with_reducible refine' fr_fn ?_ | with_reducible refine' fr_mt ?_ | with_reducible refine' fr_prop ?_ | with_reducible refine' fr_sl ?_ | with_reducible refine' fr_var ?_ | with_reducible refine' fr_rev ?_ | with_reducible refine' fr_if ?_ | with_reducible refine' s_meth ?_ | with_reducible refine' s_prop ?_ | with_reducible refine' s_sl ?_ | with_reducible refine' s_noPart ?_ | with_reducible refine' s_part ?_ | with_reducible refine' s_isi ?_ | with_reducible refine' fz_all ?_ | with_reducible refine' fz_tup ?_ | with_reducible refine' fz_lst0 ?_ | with_reducible refine' fz_str ?_ | with_reducible refine' fz_int ?_ | with_reducible refine' fz_obj ?_ | with_reducible refine' s_kget ?_ | with_reducible refine' rev_t ?_ | ((with_reducible refine' rev_l ?k1 ?_); (case k1 => walk_at "mem")) | with_reducible refine' s_rev ?_ | with_reducible refine' s_consS ?_ | with_reducible refine' s_stL ?_ | with_reducible refine' fr_stL ?_ | with_reducible refine' s_lno ?_ | with_reducible refine' s_chain ?_ | with_reducible refine' s_rng1 ?_ | with_reducible refine' s_rng2 ?_ | with_reducible refine' s_enum ?_ | with_reducible refine' s_zip ?_
  | with_reducible refine' s_for ?_ | with_reducible refine' s_iseq ?_
  | ((with_reducible refine' s_setL ?k1 ?k2 ?_); (case k1 => walk_at "mem"); (case k2 => first | rfl | assumption))
  | ((with_reducible refine' s_lenA ?k1 ?_); (case k1 => rfl))
  | ((with_reducible refine' ⟨_, _, rfl, ?k1, ?_⟩); (case k1 => assumption)) | with_reducible refine' ⟨_, _, rfl, ?_⟩ | with_reducible refine' ⟨_, rfl, ?_⟩ | with_reducible refine' ⟨rfl, ?_⟩)
local macro_rules | `(tactic| walk_at "le") => `(tactic| first
  | with_reducible refine' s_next ?_ | ((with_reducible refine' s_var ?k1 ?_); (case k1 => rfl)) | with_reducible refine' s_c ?_ | with_reducible refine' s_op ?_ | with_reducible refine' s_un ?_ | with_reducible refine' s_cons ?_ | with_reducible refine' s_nil ?_ | with_reducible refine' s_set ?_ | with_reducible refine' s_bcall ?_
  | with_reducible refine' s_tup ?_ | with_reducible refine' s_lst ?_ | with_reducible refine' s_bl ?_ | with_reducible refine' s_exbl ?_ | with_reducible refine' ifT ?_ | with_reducible refine' ifF ?_ | with_reducible refine' ifNT ?_ | with_reducible refine' ifNF ?_ | with_reducible refine' ifO1 ?_ | with_reducible refine' ifO2 rfl ?_ | with_reducible refine' s_ret ?_ | with_reducible refine' s_retg ?_ | with_reducible refine' s_call ?_ | with_reducible refine' s_fld ?_ | with_reducible refine' s_drop ?_ | with_reducible refine' s_bm ?_
  | with_reducible refine' s_and ?_ | with_reducible refine' s_or ?_ | with_reducible refine' s_not ?_ | with_reducible refine' s_tru ?_ | with_reducible refine' s_ifx ?_ | with_reducible refine' s_andV ?_ | with_reducible refine' s_orV ?_ | with_reducible refine' s_notV ?_ | with_reducible refine' s_par2 ?_ | with_reducible refine' s_par3 ?_ | with_reducible refine' s_unp ?_ | with_reducible refine' s_subs ?_ | with_reducible refine' s_sub2 ?_ | with_reducible refine' s_augS ?_ | ((with_reducible refine' s_aug ?k1 ?_); (case k1 => rfl))
  | with_reducible refine' s_add ?_ | with_reducible refine' s_sub ?_ | with_reducible refine' s_neg ?_ | with_reducible refine' s_lt ?_ | with_reducible refine' s_le ?_ | with_reducible refine' s_gt ?_ | with_reducible refine' s_ge ?_ | with_reducible refine' s_addI ?_ | with_reducible refine' s_eqI ?_ | with_reducible refine' s_neI ?_
  | ((with_reducible refine' s_eqG (k := false) ?k1 ?k2 ?k3 ?k4 ?k5 ?_); (case k1 => rfl); (case k2 => rfl); (case k3 => decide +kernel); (case k4 => decide +kernel); (case k5 => decide +kernel)) | ((with_reducible refine' s_eqG (k := true) ?k1 ?k2 ?k3 ?k4 ?k5 ?_); (case k1 => rfl); (case k2 => rfl); (case k3 => decide +kernel); (case k4 => decide +kernel); (case k5 => decide +kernel))
  | ((with_reducible refine' s_neG (k := false) ?k1 ?k2 ?k3 ?k4 ?k5 ?_); (case k1 => rfl); (case k2 => rfl); (case k3 => decide +kernel); (case k4 => decide +kernel); (case k5 => decide +kernel)) | ((with_reducible refine' s_neG (k := true) ?k1 ?k2 ?k3 ?k4 ?k5 ?_); (case k1 => rfl); (case k2 => rfl); (case k3 => decide +kernel); (case k4 => decide +kernel); (case k5 => decide +kernel))
  | ((with_reducible refine' s_mod ?k1 ?_); (case k1 => walk_at "side")) | ((with_reducible refine' s_mul ?k1 ?_); (case k1 => walk_at "mul")) | ((with_reducible refine' s_div ?k1 ?_); (case k1 => walk_at "div"))
  | with_reducible refine' s_isN ?_ | with_reducible refine' s_isNotN ?_
  | ((with_reducible refine' s_idx ?k1 ?k2 ?_); (case k1 => walk_at "mem"); (case k2 => first | rfl | assumption))
  | ((with_reducible refine' s_list ?k1 ?_); (case k1 => walk_at "mem")) | ((with_reducible refine' s_tuple ?k1 ?_); (case k1 => walk_at "mem")) | ((with_reducible refine' s_len ?k1 ?_); (case k1 => walk_at "mem"))
  | with_reducible refine' s_abs ?_ | with_reducible refine' s_max ?_ | with_reducible refine' s_min ?_ | with_reducible refine' s_int ?_ | with_reducible refine' s_intB ?_
  | ((with_reducible refine' s_append ?k1 ?k2 ?_); (case k1 => walk_at "mem"); (case k2 => walk_at "side")) | ((with_reducible refine' ⟨s_tyL ?k1, ?_⟩); (case k1 => walk_at "mem"))
  | with_reducible refine' fr_lst ?_ | with_reducible refine' fr_call ?_ | with_reducible refine' fr_op ?_ | with_reducible refine' fr_fn ?_ | with_reducible refine' fr_mt ?_ | with_reducible refine' fr_prop ?_ | with_reducible refine' fr_sl ?_ | with_reducible refine' fr_var ?_ | with_reducible refine' fr_rev ?_ | with_reducible refine' fr_if ?_ | with_reducible refine' s_meth ?_ | with_reducible refine' s_prop ?_ | with_reducible refine' s_sl ?_ | with_reducible refine' s_noPart ?_ | with_reducible refine' s_part ?_ | with_reducible refine' s_isi ?_ | with_reducible refine' fz_all ?_ | with_reducible refine' fz_tup ?_ | with_reducible refine' fz_lst0 ?_ | with_reducible refine' fz_str ?_ | with_reducible refine' fz_int ?_ | with_reducible refine' fz_obj ?_ | with_reducible refine' s_kget ?_ | with_reducible refine' rev_t ?_ | ((with_reducible refine' rev_l ?k1 ?_); (case k1 => walk_at "mem")) | with_reducible refine' s_rev ?_ | with_reducible refine' s_consS ?_ | with_reducible refine' s_stL ?_ | with_reducible refine' fr_stL ?_ | with_reducible refine' s_lno ?_ | with_reducible refine' s_chain ?_ | with_reducible refine' s_rng1 ?_ | with_reducible refine' s_rng2 ?_ | with_reducible refine' s_enum ?_ | with_reducible refine' s_zip ?_
  | with_reducible refine' s_iseq ?_
  | ((with_reducible refine' s_setL ?k1 ?k2 ?_); (case k1 => walk_at "mem"); (case k2 => first | rfl | assumption))
  | ((with_reducible refine' s_lenA ?k1 ?_); (case k1 => rfl))
  | ((with_reducible refine' ⟨_, _, rfl, ?k1, ?_⟩); (case k1 => assumption)) | with_reducible refine' ⟨_, _, rfl, ?_⟩ | with_reducible refine' ⟨_, rfl, ?_⟩ | with_reducible refine' ⟨rfl, ?_⟩)
local macro_rules | `(tactic| walk_at "sq") => `(tactic| with_reducible refine' s_seq ?_)
local macro_rules | `(tactic| walk_at "if") => `(tactic| with_reducible refine' s_ife ?_)
local macro_rules | `(tactic| walk_at "for") => `(tactic| with_reducible refine' s_for ?_)

/-! ### repr of lists of steps -/
theorem small_nat {i : Nat} (h : i ≤ 3) : (PyData.int i).showable = true ∧ (PyData.int i).leavesShort 62 = true ∧ (PyData.int i).weight ≤ 204 := small_int (x := (i : Int)) (by omega)
theorem w_lift : (PyData.str "lift").showable = true ∧ (PyData.str "lift").leavesShort 62 = true ∧ (PyData.str "lift").weight ≤ 204 := by decide +kernel
theorem w_swap : (PyData.str "swap").showable = true ∧ (PyData.str "swap").leavesShort 62 = true ∧ (PyData.str "swap").weight ≤ 204 := by decide +kernel
theorem w_turn : (PyData.str "turn").showable = true ∧ (PyData.str "turn").leavesShort 62 = true ∧ (PyData.str "turn").weight ≤ 204 := by decide +kernel
theorem small_step {n : Nat} {s : Stp} (hn : n ≤ 3) (ok : SOk n s) : (pS s).showable = true ∧ (pS s).leavesShort 62 = true ∧ (pS s).weight ≤ 2000 := by
  have b60 : 2 ^ 60 ≤ 10 ^ 60 := by decide
  cases s with
  | lift c ws m d =>
    obtain ⟨o1, o2, o3, o4, o5, o6, o7⟩ := ok
    obtain ⟨a1, a2, a3⟩ := w_lift
    obtain ⟨b1, b2, b3⟩ := small_nat (i := c) (by omega)
    obtain ⟨c1, c2, c3⟩ := small_vec (v := ws) (fun w hw => by have := o7 w hw; omega) (by omega)
    obtain ⟨d1, d2, d3⟩ := small_int (x := m) (by omega)
    obtain ⟨e1, e2, e3⟩ := small_int (x := d) (by omega)
    simp only [pS, PyData.showable, PyData.leavesShort, PyData.weight, PyData.showableAll, PyData.leavesShortAll, PyData.weightAll] at *
    refine ⟨by simp only [a1, b1, c1, d1, e1, Bool.and_self], by simp only [a2, b2, c2, d2, e2, Bool.and_self], by omega⟩
  | swap i j =>
    have ok : i < j ∧ j < n := ok
    obtain ⟨a1, a2, a3⟩ := w_swap
    obtain ⟨b1, b2, b3⟩ := small_nat (i := i) (by omega)
    obtain ⟨c1, c2, c3⟩ := small_nat (i := j) (by omega)
    simp only [pS, PyData.showable, PyData.leavesShort, PyData.weight, PyData.showableAll, PyData.leavesShortAll, PyData.weightAll] at *
    refine ⟨by simp only [a1, b1, c1, Bool.and_self], by simp only [a2, b2, c2, Bool.and_self], by omega⟩
  | turn i =>
    have ok : i < n := ok
    obtain ⟨a1, a2, a3⟩ := w_turn
    obtain ⟨b1, b2, b3⟩ := small_nat (i := i) (by omega)
    simp only [pS, PyData.showable, PyData.leavesShort, PyData.weight, PyData.showableAll, PyData.leavesShortAll, PyData.weightAll] at *
    refine ⟨by simp only [a1, b1, Bool.and_self], by simp only [a2, b2, Bool.and_self], by omega⟩
theorem small_steps {n : Nat} (hn : n ≤ 3) : ∀ {ss : List Stp}, SsOk n ss → PyData.showableAll (ss.map pS) = true ∧ PyData.leavesShortAll 62 (ss.map pS) = true ∧ PyData.weightAll (ss.map pS) ≤ 2001 * ss.length
  | [], _ => ⟨rfl, rfl, Nat.le_refl _⟩
  | s :: ss, h => by
    obtain ⟨a1, a2, a3⟩ := small_step hn (h s List.mem_cons_self)
    obtain ⟨b1, b2, b3⟩ := small_steps hn (ss := ss) fun y hy => h y (List.mem_cons_of_mem _ hy)
    simp only [List.map_cons, PyData.showableAll, PyData.leavesShortAll, PyData.weightAll, List.length_cons, a1, a2, b1, b2, Bool.and_self]
    refine ⟨trivial, trivial, ?_⟩
    omega
theorem s_reprSs {n : Nat} {ss : List Stp} {x : D} {M : DM} {R : DK} (hn : n ≤ 3) (ok : SsOk n ss) (hl : ss.length ≤ 20) (hx : isS M x = some (ss.map encS)) (hp : toP M x = some (.list (ss.map pS))) (r : R (.str (PyData.list (ss.map pS)).shown) M) : cRepr [x] M R := by
  obtain ⟨a1, a2, a3⟩ := small_steps hn ok
  refine s_repr hx (encOkS.dps ss) hp (by simp only [PyData.showable]; exact a1) (Nat.le_trans (encOkS.lst.dep ss) (by decide)) (line_fits ?_) r
  have := PyData.shown_le 62 (by decide) (.list (ss.map pS)) (by simp only [PyData.leavesShort]; exact a2)
  have e : (PyData.list (ss.map pS)).weight = PyData.weightAll (ss.map pS) := by simp only [PyData.weight]
  rw [e] at this
  have h3 : (62 + 2) * PyData.weightAll (ss.map pS) ≤ (62 + 2) * (2001 * 20) := Nat.mul_le_mul_left _ (by omega)
  omega
/-! ### a lift by itself -/
theorem cut_le {ds : List D} {lo hi : Option Int} : (cutD ds lo hi).length ≤ ds.length := by
  unfold cutD
  rw [List.length_take, List.length_drop]
  omega
def bump (v : List Int) (s : Nat) : List Int := v.set s (v.getD s 0 + 1)
theorem bump_eq {v : List Int} {s : Nat} (h : s < v.length) : cutD (v.map D.int) none (some (s : Int)) ++ [D.int (v.getD s 0 + 1)] ++ cutD (v.map D.int) (some ((s : Int) + 1)) none = (bump v s).map D.int := by
  have e : ((s : Int) + 1) = ((s + 1 : Nat) : Int) := by omega
  rw [e]
  unfold cutD bump
  rw [HT.sIx_none, HT.sIx_none, HT.sIx_nat, HT.sIx_nat, List.length_map, List.set_eq_take_append_cons_drop, if_pos h]
  simp only [List.drop_zero, Nat.sub_zero, List.map_append, List.map_cons, List.map_take, List.map_drop]
  have h2 : ((v.map D.int).drop (s + 1)).take (v.length - (s + 1)) = (v.map D.int).drop (s + 1) := List.take_of_length_le (by simp)
  rw [Nat.min_eq_left (by omega), Nat.min_eq_left (by omega), h2, List.append_assoc]
  rfl
theorem s_cutT {ds : List D} {lo hi : Option Int} {M : DM} {R : DK} (r : R (.tup (cutD ds lo hi)) M) : oSlice (.tup ds) lo hi M R := r
def spLR : DSp := fun ds M R _ => ∃ (p : Addr) (q : Pool) (k n c : Nat) (ws : List Int) (m d : Int) (w : Way), ds = [.ref p, .int n, encS (.lift c ws m d), .str w.s] ∧ M p = some q.d ∧ q.ok (k + 50) ∧ (n = 2 ∨ n = 3) ∧ SLw n (.lift c ws m d) ∧
  ∀ (q' : Pool) (M' : DM), M' p = some q'.d → q'.ok k → R (.bl true) M'
def Slr (C : Addr) : Sg := { S0 with fn := fun j => match j with | 0 => spRounded C | 1 => spMake C (spInit C) | 2 => spDraw | 3 => spPlace | _ => spNext, mt := fun _ => spAt C, mc := fun _ => C, mn := fun _ => "at", ml := fun _ => 0 }
theorem zip_sum_step (m a b : Int) : m + a + b = m + (a + b) := by omega
abbrev lSt (C p : Addr) (n c : Nat) (ws : List Int) (m d : Int) (w : Way) (x5 : Option D) (v : List Int) (side : Nat) (x8 x9 x10 x11 : Option D) : DSt :=
  [some (.ref p), some (.int n), some (encS (.lift c ws m d)), some (.str w.s), some (encC C n [grown w c ws m d]), x5, some (encV v), some (.int side), x8, x9, x10, x11, none]
theorem grown_ok {n c : Nat} {ws : List Int} {m d : Int} {w : Way} (sl : SLw n (.lift c ws m d)) : SOk n (grown w c ws m d) := by
  obtain ⟨o1, o2, o3, o4, o5, o6, o7⟩ := sl
  have h := addBy_le (w := w) o4
  exact ⟨o1, o2, o3, o4, by omega, by omega, fun x hx => by have := o7 x hx; omega⟩
theorem bump_len {v : List Int} {s : Nat} : (bump v s).length = v.length := by unfold bump; rw [List.length_set]
theorem lrEnd {C p : Addr} {n c : Nat} {ws v : List Int} {m d : Int} {w : Way} {x5 x10 x11 : Option D} {side : Nat} {M : DM} {Z : DEnds} (sl : SLw n (.lift c ws m d)) (hv : v.length = n) (hn : n = 2 ∨ n = 3)
    (hk : ∀ x8 x9, Z.nx (lSt C p n c ws m d w x5 v side x8 x9 x10 x11) M) :
    (evS (Slr C) u_law_lift_right_3).b Z (lSt C p n c ws m d w x5 v side (some (encV (sdone (grown w c ws m d) v))) (some (.int (m + dot ws v))) x10 x11) M := by
  obtain ⟨o1, o2, o3, o4, o5, o6, o7⟩ := sl
  have o1 : c < n := o1
  dsimp only [u_law_lift_right_3, u_law_lift_right_2, evS, ev, EvS.of, Ev.of, Op2.ev, Cmp.ev, BF.ev, BM.ev, AOp.ev, S0, Slr]
  have l1 : (sdone (grown w c ws m d) v).length = n := by rw [sdone_len]; exact hv
  have e1 : atI ((sdone (grown w c ws m d) v).map D.int) (c : Int) = some (.int ((sdone (grown w c ws m d) v).getD c 0)) := atI_map (by omega)
  have e2 : atI (v.map D.int) (c : Int) = some (.int (v.getD c 0)) := atI_map (by omega)
  have e3 : (sdone (grown w c ws m d) v).getD c 0 = v.getD c 0 + (m + dot ws v + addBy w d).fdiv d := by
    show (v.set c (v.getD c 0 + (dot ws v + (m + addBy w d)).fdiv d)).getD c 0 = _
    rw [List.getD_eq_getElem?_getD, List.getElem?_set_self (by omega)]
    have e : dot ws v + (m + addBy w d) = m + dot ws v + addBy w d := by omega
    rw [e]; rfl
  walk_at "sq"
  walk_at "if"
  repeat walk_at "le"
  refine ⟨_, _, d, w, rfl, o4, by omega, ?_, ?_⟩
  · rw [e3, show v.getD c 0 + (m + dot ws v + addBy w d).fdiv d - v.getD c 0 = (m + dot ws v + addBy w d).fdiv d by omega]
    exact next_to o4
  repeat walk_at "le"
  walk_at "sq"
  walk_at "if"
  repeat walk_at "le"
  refine s_lcIf (List.range n) (fun i : Nat => .int (0 + (i : Int))) (fun _ => .int 1) (fun _ => false) (by rw [List.length_range]; exact le_line (by omega)) (fun Q h => ?_) (fun a ha i hi M' oa hM' => ⟨_, rfl, fun Q hQ => ?_, fun Q hb _ => by cases hb⟩) ?_
  · repeat walk_at "le"
    refine ⟨by unfold small62; omega, ?_⟩
    show Q (rangeD 0 (n : Int).toNat) _ _
    rw [Int.toNat_natCast]
    exact h _ fun _ _ _ _ => trivial
  · have hi' := List.mem_range.mp hi
    rw [Int.zero_add]
    repeat walk_at "le"
    refine if2n (fun hne => ?_) (fun he => ?_)
    · have e4 : atI ((sdone (grown w c ws m d) v).map D.int) (i : Int) = some (.int ((sdone (grown w c ws m d) v).getD i 0)) := atI_map (by omega)
      have e5 : atI (v.map D.int) (i : Int) = some (.int (v.getD i 0)) := atI_map (by omega)
      have e6 : (sdone (grown w c ws m d) v).getD i 0 = v.getD i 0 := by
        show (v.set c (v.getD c 0 + (dot ws v + (m + addBy w d)).fdiv d)).getD i 0 = _
        rw [List.getD_eq_getElem?_getD, List.getElem?_set_ne (by omega), List.getD_eq_getElem?_getD]
      repeat walk_at "le"
      rw [e6, decide_eq_true rfl]
      exact hQ
    · repeat walk_at "le"
      exact hQ
  · have e0 : ((List.range n).filter fun _ => false).map (fun _ => D.int 1) = ([] : List Int).map D.int := by simp
    rw [e0]
    repeat walk_at "le"
    exact hk _ _
theorem lrBody {C p : Addr} {n c : Nat} {ws v : List Int} {m d : Int} {w : Way} {x5 x8 x9 x10 x11 : Option D} {side : Nat} {M : DM} {Z : DEnds} (sl : SLw n (.lift c ws m d)) (hv : v.length = n) (hn : n = 2 ∨ n = 3) (hs : side < n)
    (hk : ∀ x8 x9 x10 x11, Z.nx (lSt C p n c ws m d w x5 (bump v side) side x8 x9 x10 x11) M) :
    (evS (Slr C) u_law_lift_right_4).b Z (lSt C p n c ws m d w x5 v side x8 x9 x10 x11) M := by
  have o7 : ∀ x ∈ ws, x.natAbs ≤ 6 := sl.2.2.2.2.2.2
  have wl : ws.length = n := sl.2.1
  dsimp only [u_law_lift_right_4, evS, EvS.of]
  walk_at "sq"
  dsimp only [ev, Ev.of, Op2.ev, Cmp.ev, BF.ev, BM.ev, AOp.ev, S0, Slr]
  have e1 : atI (v.map D.int) (side : Int) = some (.int (v.getD side 0)) := atI_map (by omega)
  repeat walk_at "le"
  refine s_cutT ?_
  repeat walk_at "le"
  refine ⟨le_line ?_, ?_⟩
  · have h := cut_le (ds := v.map D.int) (lo := none) (hi := some (side : Int))
    rw [List.length_map] at h
    show _ + 1 ≤ 1000
    omega
  repeat walk_at "le"
  refine s_cutT ?_
  repeat walk_at "le"
  refine ⟨le_line ?_, ?_⟩
  · have h := cut_le (ds := v.map D.int) (lo := none) (hi := some (side : Int))
    have h2 := cut_le (ds := v.map D.int) (lo := some ((side : Int) + 1)) (hi := none)
    rw [List.length_map] at h h2
    rw [List.length_append]
    show _ + 1 + _ ≤ 1000
    omega
  repeat walk_at "le"
  rw [bump_eq (by omega)]
  have bl : (bump v side).length = n := by rw [bump_len]; exact hv
  generalize bump v side = v' at bl hk ⊢
  walk_at "sq"
  repeat walk_at "le"
  refine ⟨isObj_chain (by decide +kernel), ?_⟩
  repeat walk_at "le"
  refine ⟨n, [grown w c ws m d], v', rfl, fun s hs => ?_, by omega, ?_⟩
  · rw [List.mem_singleton.mp hs, bl]; exact grown_ok sl
  repeat walk_at "le"
  walk_at "sq"
  walk_at "for"
  repeat walk_at "le"
  show sLoop _ _ _ (zipD (ws.map D.int) (v'.map D.int)) _ _ _
  rw [zipD_map]
  refine loop_ind (fun rem σ M' => ∃ (a b : List (Int × Int)) (x10 x11 : Option D), ws.zip v' = a ++ b ∧ rem = b.map (fun p => .tup [.int p.1, .int p.2]) ∧ σ = lSt C p n c ws m d w x5 v' side (some (encV (sdone (grown w c ws m d) v'))) (some (.int (m + (a.map fun p => p.1 * p.2).sum))) x10 x11 ∧ M' = M)
    ⟨[], ws.zip v', x10, x11, rfl, rfl, by rw [show ((([] : List (Int × Int)).map fun p => p.1 * p.2).sum) = 0 from rfl, Int.add_zero]; rfl, rfl⟩ (fun _ _ _ _ => trivial) ?_ ?_
  · rintro σ M' ⟨a, b, x10, x11, e, e2, rfl, rfl⟩
    have : b = [] := by cases b <;> first | rfl | cases e2
    subst this
    rw [List.append_nil] at e
    rw [← e, ← dot_zip]
    dsimp only
    exact lrEnd (Z := Z) sl bl hn fun x8 x9 => hk x8 x9 x10 x11
  · rintro d' rem σ M' ⟨a, b, x10, x11, e, e2, rfl, rfl⟩ ih
    cases b with
    | nil => cases e2
    | cons z b =>
      cases e2
      refine ⟨_, rfl, ?_⟩
      have hz : z ∈ ws.zip v' := by rw [e]; simp
      have h7 := o7 z.1 (List.of_mem_zip hz).1
      dsimp only [u_law_lift_right_1, evS, ev, EvS.of, Ev.of, Op2.ev, Cmp.ev, BF.ev, BM.ev, AOp.ev, S0, Slr]
      repeat walk_at "ld"
      refine ih _ _ ⟨a ++ [z], b, some (.int z.1), some (.int z.2), by rw [e]; simp, rfl, ?_, rfl⟩
      rw [List.map_append, List.sum_append]
      simp only [List.map_cons, List.map_nil, List.sum_cons, List.sum_nil, Int.add_zero]
      rw [← zip_sum_step]
      rfl
theorem does_lr (C : Addr) : Does (Slr C) u_law_lift_right g_law_lift_right.N spLR := by
  rintro ds M R Ex ⟨p, q, k, n, c, ws, m, d, w, rfl, hp, ok, hn, sl, hR⟩
  have o4 : 1 ≤ d := sl.2.2.2.1
  have o5 : d ≤ 12 := sl.2.2.2.2.1
  have gok := grown_ok (w := w) sl
  dsimp only [u_law_lift_right, u_law_lift_right_5, evS, ev, EvS.of, Ev.of, Op2.ev, Cmp.ev, BF.ev, BM.ev, AOp.ev, S0, Slr]
  walk_at "sq"
  repeat walk_at "le"
  refine s_chainF (ss := [.lift c ws m d]) hn (fun s hs => by rw [List.mem_singleton.mp hs]; exact sl.ok) (show 1 ≤ 1000 by decide) ?_
  repeat walk_at "le"
  refine ⟨n, 0, [.lift c ws m d], w, c, ws, m, d, rfl, hn, rfl, fun s hs => ?_, show 1 ≤ 1000 by decide, ?_⟩
  · rw [List.mem_singleton.mp hs]; exact gok
  repeat walk_at "le"
  walk_at "sq"
  repeat walk_at "le"
  refine s_pow pk31 ?_
  repeat walk_at "le"
  refine s_place (k := k + 30) hp (ok.mono (by omega)) (by omega) (by decide) (by decide) fun v q1 v1 v2 ok1 => ?_
  have hp1 : (updM M p q1.d) p = some q1.d := updM_same
  generalize updM M p q1.d = M1 at hp1 ⊢
  repeat walk_at "le"
  refine s_draw hp1 (okc ok1 (k + 29 + 1)) (by omega) (by omega) fun e q2 e0 e1 ok2 => ?_
  have hp2 : (updM M1 p q2.d) p = some q2.d := updM_same
  generalize updM M1 p q2.d = M2 at hp2 ⊢
  obtain ⟨z0, z1⟩ := fmod_b (a := (c : Int) + 1 + e) (n := (n : Int)) (by omega)
  repeat walk_at "le"
  generalize ((c : Int) + 1 + e).fmod n = side at z0 z1 ⊢
  obtain ⟨side, rfl⟩ := Int.eq_ofNat_of_zero_le z0
  walk_at "sq"
  walk_at "for"
  repeat walk_at "le"
  refine ⟨by unfold small62; omega, ?_⟩
  refine loop_ind (fun rem σ M' => ∃ (x5 x8 x9 x10 x11 : Option D) (v : List Int), v.length = n ∧ σ = lSt C p n c ws m d w x5 v side x8 x9 x10 x11 ∧ M' = M2) ⟨none, none, none, none, none, v, v1, rfl, rfl⟩ (fun _ _ _ _ => trivial) ?_ ?_
  · rintro σ M' ⟨x5, x8, x9, x10, x11, v, hv, rfl, rfl⟩
    repeat walk_at "le"
    walk_at "sq"
    repeat walk_at "le"
    exact hR q2 _ hp2 (ok2.mono (by omega))
  · rintro d' rem σ M' ⟨x5, x8, x9, x10, x11, v, hv, rfl, rfl⟩ ih
    refine ⟨_, rfl, ?_⟩
    exact lrBody (x5 := some d') sl hv hn (by omega) fun x8 x9 x10 x11 => ih _ _ ⟨_, x8, x9, x10, x11, bump v side, by rw [bump_len]; exact hv, rfl, rfl⟩
end K35
end

section
set_option maxRecDepth 100000
set_option maxHeartbeats 400000
namespace K35
open PySem L2 LD LK
local macro_rules | `(tactic| walk_at "non") => `(tactic| first | assumption | (refine upd_non ?_ ?_ <;> first | assumption | (intro z; subst z; simp_all)))
local macro_rules | `(tactic| walk_at "mem") => `(tactic| first | rfl | exact updM_same | assumption | exact isS_ref updM_same | exact isL_ref updM_same | exact isL0_ref updM_same | (apply isS_ref; walk_at "mem") | (apply isL_ref; walk_at "mem") | (apply isL0_ref; walk_at "mem") | (refine upd_keep ?k1 ?k2; (case k2 => assumption); (case k1 => walk_at "mem")) | (refine upd_ne1 ?k1 ?k2; (case k2 => assumption); (case k1 => walk_at "mem")) | (refine upd_ne2 ?k1 ?k2; (case k2 => assumption); (case k1 => walk_at "mem")) | (refine del_keep ?_ ?_; all_goals first | assumption | walk_at "mem"))
local macro_rules | `(tactic| walk_at "side") => `(tactic| first | assumption | omega | decide)
local macro_rules | `(tactic| walk_at "mul") => `(tactic| first | assumption | (exact mul_l (by first | assumption | omega | decide)) | (exact mul_r (by first | assumption | omega | decide)))
local macro_rules | `(tactic| walk_at "div") => `(tactic| first | assumption | (exact div_ok2 (by first | assumption | omega | decide) (by first | assumption | omega | decide)))
local macro_rules | `(tactic| walk_at "ld") => `(tactic| first
  | with_reducible refine' s_seq ?_ | with_reducible refine' s_next ?_ | ((with_reducible refine' s_var ?k1 ?_); (case k1 => rfl)) | with_reducible refine' s_c ?_ | with_reducible refine' s_op ?_ | with_reducible refine' s_un ?_ | with_reducible refine' s_cons ?_ | with_reducible refine' s_nil ?_ | with_reducible refine' s_set ?_ | with_reducible refine' s_bcall ?_
  | with_reducible refine' s_tup ?_ | with_reducible refine' s_lst ?_ | with_reducible refine' s_ife ?_ | with_reducible refine' s_bl ?_ | with_reducible refine' s_exbl ?_ | with_reducible refine' ifT ?_ | with_reducible refine' ifF ?_ | with_reducible refine' ifNT ?_ | with_reducible refine' ifNF ?_ | with_reducible refine' ifO1 ?_ | with_reducible refine' ifO2 rfl ?_ | with_reducible refine' s_ret ?_ | with_reducible refine' s_retg ?_ | with_reducible refine' s_call ?_ | with_reducible refine' s_fld ?_ | with_reducible refine' s_drop ?_ | with_reducible refine' s_bm ?_
  | with_reducible refine' s_and ?_ | with_reducible refine' s_or ?_ | with_reducible refine' s_not ?_ | with_reducible refine' s_tru ?_ | with_reducible refine' s_ifx ?_ | with_reducible refine' s_andV ?_ | with_reducible refine' s_orV ?_ | with_reducible refine' s_notV ?_ | with_reducible refine' s_par2 ?_ | with_reducible refine' s_par3 ?_ | with_reducible refine' s_unp ?_ | with_reducible refine' s_subs ?_ | with_reducible refine' s_sub2 ?_ | with_reducible refine' s_augS ?_ | ((with_reducible refine' s_aug ?k1 ?_); (case k1 => rfl))
  | with_reducible refine' s_add ?_ | with_reducible refine' s_sub ?_ | with_reducible refine' s_neg ?_ | with_reducible refine' s_lt ?_ | with_reducible refine' s_le ?_ | with_reducible refine' s_gt ?_ | with_reducible refine' s_ge ?_ | with_reducible refine' s_addI ?_ | with_reducible refine' s_eqI ?_ | with_reducible refine' s_neI ?_
  | ((with_reducible refine' s_eqG (k := false) ?k1 ?k2 ?k3 ?k4 ?k5 ?_); (case k1 => rfl); (case k2 => rfl); (case k3 => decide +kernel); (case k4 => decide +kernel); (case k5 => decide +kernel)) | ((with_reducible refine' s_eqG (k := true) ?k1 ?k2 ?k3 ?k4 ?k5 ?_); (case k1 => rfl); (case k2 => rfl); (case k3 => decide +kernel); (case k4 => decide +kernel); (case k5 => decide +kernel))
  | ((with_reducible refine' s_neG (k := false) ?k1 ?k2 ?k3 ?k4 ?k5 ?_); (case k1 => rfl); (case k2 => rfl); (case k3 => decide +kernel); (case k4 => decide +kernel); (case k5 => decide +kernel)) | ((with_reducible refine' s_neG (k := true) ?k1 ?k2 ?k3 ?k4 ?k5 ?_); (case k1 => rfl); (case k2 => rfl); (case k3 => decide +kernel); (case k4 => decide +kernel); (case k5 => decide +kernel))
  | ((with_reducible refine' s_mod ?k1 ?_); (case k1 => walk_at "side")) | ((with_reducible refine' s_mul ?k1 ?_); (case k1 => walk_at "mul")) | ((with_reducible refine' s_div ?k1 ?_); (case k1 => walk_at "div"))
  | with_reducible refine' s_isN ?_ | with_reducible refine' s_isNotN ?_
  | ((with_reducible refine' s_idx ?k1 ?k2 ?_); (case k1 => walk_at "mem"); (case k2 => first | rfl | assumption))
  | ((with_reducible refine' s_list ?k1 ?_); (case k1 => walk_at "mem")) | ((with_reducible refine' s_tuple ?k1 ?_); (case k1 => walk_at "mem")) | ((with_reducible refine' s_len ?k1 ?_); (case k1 => walk_at "mem"))
  | with_reducible refine' s_abs ?_ | with_reducible refine' s_max ?_ | with_reducible refine' s_min ?_ | with_reducible refine' s_int ?_ | with_reducible refine' s_intB ?_
  | ((with_reducible refine' s_append ?k1 ?k2 ?_); (case k1 => walk_at "mem"); (case k2 => walk_at "side")) | ((with_reducible refine' ⟨s_tyL ?k1, ?_⟩); (case k1 => walk_at "mem"))
  | with_reducible refine' fr_lst ?_ | with_reducible refine' fr_call ?_ | with_reducible refine' fr_op ?_ | with_reducible refine' fr_fn ?_ | with_reducible refine' fr_mt ?_ | with_reducible refine' fr_prop ?_ | with_reducible refine' fr_sl ?_ | with_reducible refine' fr_var ?_ | with_reducible refine' fr_rev ?_ | with_reducible refine' fr_if ?_ | with_reducible refine' s_meth ?_ | with_reducible refine' s_prop ?_ | with_reducible refine' s_sl ?_ | with_reducible refine' s_noPart ?_ | with_reducible refine' s_part ?_ | with_reducible refine' s_isi ?_ | with_reducible refine' fz_all ?_ | with_reducible refine' fz_tup ?_ | with_reducible refine' fz_lst0 ?_ | with_reducible refine' fz_str ?_ | with_reducible refine' fz_int ?_ | with_reducible refine' fz_obj ?_ | with_reducible refine' s_kget ?_ | with_reducible refine' rev_t ?_ | ((with_reducible refine' rev_l ?k1 ?_); (case k1 => walk_at "mem")) | with_reducible refine' s_rev ?_ | with_reducible refine' s_consS ?_ | with_reducible refine' s_stL ?_ | with_reducible refine' fr_stL ?_ | with_reducible refine' s_lno ?_ | with_reducible refine' s_chain ?_ | with_reducible refine' s_rng1 ?_ | with_reducible refine' s_rng2 ?_ | with_reducible refine' s_enum ?_ | with_reducible refine' s_zip ?_
  | with_reducible refine' s_for ?_ | with_reducible refine' s_iseq ?_
  | ((with_reducible refine' s_setL ?k1 ?k2 ?_); (case k1 => walk_at "mem"); (case k2 => first | rfl | assumption))
  | ((with_reducible refine' s_lenA ?k1 ?_); (case k1 => rfl))
  | ((with_reducible refine' ⟨_, _, rfl, ?k1, ?_⟩); (case k1 => assumption)) | with_reducible refine' ⟨_, _, rfl, ?_⟩ | with_reducible refine' ⟨_, rfl, ?_⟩ | with_reducible refine' ⟨rfl, ?_⟩)
local macro_rules | `(tactic| walk_at "le") => `(tactic| first
  | with_reducible refine' s_next ?_ | ((with_reducible refine' s_var ?k1 ?_); (case k1 => rfl)) | with_reducible refine' s_c ?_ | with_reducible refine' s_op ?_ | with_reducible refine' s_un ?_ | with_reducible refine' s_cons ?_ | with_reducible refine' s_nil ?_ | with_reducible refine' s_set ?_ | with_reducible refine' s_bcall ?_
  | with_reducible refine' s_tup ?_ | with_reducible refine' s_lst ?_ | with_reducible refine' s_bl ?_ | with_reducible refine' s_exbl ?_ | with_reducible refine' ifT ?_ | with_reducible refine' ifF ?_ | with_reducible refine' ifNT ?_ | with_reducible refine' ifNF ?_ | with_reducible refine' ifO1 ?_ | with_reducible refine' ifO2 rfl ?_ | with_reducible refine' s_ret ?_ | with_reducible refine' s_retg ?_ | with_reducible refine' s_call ?_ | with_reducible refine' s_fld ?_ | with_reducible refine' s_drop ?_ | with_reducible refine' s_bm ?_
  | with_reducible refine' s_and ?_ | with_reducible refine' s_or ?_ | with_reducible refine' s_not ?_ | with_reducible refine' s_tru ?_ | with_reducible refine' s_ifx ?_ | with_reducible refine' s_andV ?_ | with_reducible refine' s_orV ?_ | with_reducible refine' s_notV ?_ | with_reducible refine' s_par2 ?_ | with_reducible refine' s_par3 ?_ | with_reducible refine' s_unp ?_ | with_reducible refine' s_subs ?_ | with_reducible refine' s_sub2 ?_ | with_reducible refine' s_augS ?_ | ((with_reducible refine' s_aug ?k1 ?_); (case k1 => rfl))
  | with_reducible refine' s_add ?_ | with_reducible refine' s_sub ?_ | with_reducible refine' s_neg ?_ | with_reducible refine' s_lt ?_ | with_reducible refine' s_le ?_ | with_reducible refine' s_gt ?_ | with_reducible refine' s_ge ?_ | with_reducible refine' s_addI ?_ | with_reducible refine' s_eqI ?_ | with_reducible refine' s_neI ?_
  | ((with_reducible refine' s_eqG (k := false) ?k1 ?k2 ?k3 ?k4 ?k5 ?_); (case k1 => rfl); (case k2 => rfl); (case k3 => decide +kernel); (case k4 => decide +kernel); (case k5 => decide +kernel)) | ((with_reducible refine' s_eqG (k := true) ?k1 ?k2 ?k3 ?k4 ?k5 ?_); (case k1 => rfl); (case k2 => rfl); (case k3 => decide +kernel); (case k4 => decide +kernel); (case k5 => decide +kernel))
  | ((with_reducible refine' s_neG (k := false) ?k1 ?k2 ?k3 ?k4 ?k5 ?_); (case k1 => rfl); (case k2 => rfl); (case k3 => decide +kernel); (case k4 => decide +kernel); (case k5 => decide +kernel)) | ((with_reducible refine' s_neG (k := true) ?k1 ?k2 ?k3 ?k4 ?k5 ?_); (case k1 => rfl); (case k2 => rfl); (case k3 => decide +kernel); (case k4 => decide +kernel); (case k5 => decide +kernel))
  | ((with_reducible refine' s_mod ?k1 ?_); (case k1 => walk_at "side")) | ((with_reducible refine' s_mul ?k1 ?_); (case k1 => walk_at "mul")) | ((with_reducible refine' s_div ?k1 ?_); (case k1 => walk_at "div"))
  | with_reducible refine' s_isN ?_ | with_reducible refine' s_isNotN ?_
  | ((with_reducible refine' s_idx ?k1 ?k2 ?_); (case k1 => walk_at "mem"); (case k2 => first | rfl | assumption))
  | ((with_reducible refine' s_list ?k1 ?_); (case k1 => walk_at "mem")) | ((with_reducible refine' s_tuple ?k1 ?_); (case k1 => walk_at "mem")) | ((with_reducible refine' s_len ?k1 ?_); (case k1 => walk_at "mem"))
  | with_reducible refine' s_abs ?_ | with_reducible refine' s_max ?_ | with_reducible refine' s_min ?_ | with_reducible refine' s_int ?_ | with_reducible refine' s_intB ?_
  | ((with_reducible refine' s_append ?k1 ?k2 ?_); (case k1 => walk_at "mem"); (case k2 => walk_at "side")) | ((with_reducible refine' ⟨s_tyL ?k1, ?_⟩); (case k1 => walk_at "mem"))
  | with_reducible refine' fr_lst ?_ | with_reducible refine' fr_call ?_ | with_reducible refine' fr_op ?_ | with_reducible refine' fr_fn ?_ | with_reducible refine' fr_mt ?_ | with_reducible refine' fr_prop ?_ | with_reducible refine' fr_sl ?_ | with_reducible refine' fr_var ?_ | with_reducible refine' fr_rev ?_ | with_reducible refine' fr_if ?_ | with_reducible refine' s_meth ?_ | with_reducible refine' s_prop ?_ | with_reducible refine' s_sl ?_ | with_reducible refine' s_noPart ?_ | with_reducible refine' s_part ?_ | with_reducible refine' s_isi ?_ | with_reducible refine' fz_all ?_ | with_reducible refine' fz_tup ?_ | with_reducible refine' fz_lst0 ?_ | with_reducible refine' fz_str ?_ | with_reducible refine' fz_int ?_ | with_reducible refine' fz_obj ?_ | with_reducible refine' s_kget ?_ | with_reducible refine' rev_t ?_ | ((with_reducible refine' rev_l ?k1 ?_); (case k1 => walk_at "mem")) | with_reducible refine' s_rev ?_ | with_reducible refine' s_consS ?_ | with_reducible refine' s_stL ?_ | with_reducible refine' fr_stL ?_ | with_reducible refine' s_lno ?_ | with_reducible refine' s_chain ?_ | with_reducible refine' s_rng1 ?_ | with_reducible refine' s_rng2 ?_ | with_reducible refine' s_enum ?_ | with_reducible refine' s_zip ?_
  | with_reducible refine' s_iseq ?_
  | ((with_reducible refine' s_setL ?k1 ?k2 ?_); (case k1 => walk_at "mem"); (case k2 => first | rfl | assumption))
  | ((with_reducible refine' s_lenA ?k1 ?_); (case k1 => rfl))
  | ((with_reducible refine' ⟨_, _, rfl, ?k1, ?_⟩); (case k1 => assumption)) | with_reducible refine' ⟨_, _, rfl, ?_⟩ | with_reducible refine' ⟨_, rfl, ?_⟩ | with_reducible refine' ⟨rfl, ?_⟩)
local macro_rules | `(tactic| walk_at "sq") => `(tactic| with_reducible refine' s_seq ?_)
local macro_rules | `(tactic| walk_at "if") => `(tactic| with_reducible refine' s_ife ?_)
local macro_rules | `(tactic| walk_at "for") => `(tactic| with_reducible refine' s_for ?_)

/-! ### the law's round -/
def spRight (C : Addr) : DSp := fun ds M R _ => ∃ (p : Addr) (q : Pool) (k n : Nat), ds = [.ref p, .int n] ∧ M p = some q.d ∧ q.ok (k + 4000) ∧ (n = 2 ∨ n = 3) ∧ ∀ (q' : Pool) (M' : DM), M' p = some q'.d → q'.ok k → R (.bl true) M'
theorem s_right {C p : Addr} {q : Pool} {k n : Nat} {M : DM} {R : DK} {Ex : DX} (hp : M p = some q.d) (ok : q.ok (k + 4000)) (hn : n = 2 ∨ n = 3) (r : ∀ (q' : Pool) (M' : DM), M' p = some q'.d → q'.ok k → R (.bl true) M') : spRight C ([.ref p, .int n] ++ []) M R Ex := ⟨p, q, k, n, rfl, hp, ok, hn, r⟩
def Sr (C : Addr) : Sg := { S0 with fn := fun j => match j with | 0 => spFew | 1 => spDraw | 2 => spLift | 3 => spMake C (spInit C) | 4 => spRoundedP C | 5 => spGrown | 6 => spRounded C | _ => spLR, fl := fun j => match j with | 4 => 3 | _ => 0, pr := fun j => match j with | 0 => spChannels C | _ => spSteps C, pc := fun _ => C, pn := fun j => match j with | 0 => "channels" | _ => "steps" }
abbrev rSt (p : Addr) (n : Nat) (tt : List Stp) (C : Addr) (x3 x5 x6 x7 x8 : Option D) : DSt := [some (.ref p), some (.int n), some (.lst (tt.map encS)), x3, some (encC C n tt), x5, x6, x7, x8]
theorem set_ok {n i : Nat} {tt : List Stp} {s : Stp} (h : SsOk n tt) (hs : SOk n s) : SsOk n (tt.set i s) := fun t ht => by
  rcases List.mem_or_eq_of_mem_set ht with h1 | h1
  · exact h t h1
  · rw [h1]; exact hs
theorem again4 {e : Int} (h0 : 0 ≤ e) (h1 : e < 4) : ∃ w : Way, atI [D.str ("down" : Str), .str ("up" : Str), .str ("half up" : Str), .str ("half down" : Str)] e = some (.str w.s) := by
  have : e = 0 ∨ e = 1 ∨ e = 2 ∨ e = 3 := by omega
  rcases this with rfl | rfl | rfl | rfl
  · exact ⟨.down, rfl⟩
  · exact ⟨.up, rfl⟩
  · exact ⟨.hu, rfl⟩
  · exact ⟨.hd, rfl⟩
theorem kindBody {C p : Addr} {q : Pool} {k n i c : Nat} {tt : List Stp} {ws : List Int} {m d : Int} {w : Way} {x6 x7 x8 : Option D} {M : DM} {Z : DEnds} (hm : M p = some q.d) (ok : q.ok (k + 51)) (hn : n = 2 ∨ n = 3) (tok : ∀ s ∈ tt, SLw n s) (tl : tt.length ≤ 11) (hi : tt[i]? = some (.lift c ws m d))
    (hk : ∀ (x6 x7 : Option D) (t : Addr) (q' : Pool) (M' : DM), p ≠ t → M' p = some q'.d → q'.ok k → Z.nx (rSt p n tt C (some (.int i)) (some (.str w.s)) x6 x7 (some (.ref t))) M') :
    (evS (Sr C) u_law_right_3).b Z (rSt p n tt C (some (.int i)) (some (.str w.s)) x6 x7 x8) M := by
  have il : i < tt.length := (List.getElem?_eq_some_iff.mp hi).1
  have sl : SLw n (.lift c ws m d) := tok _ (List.mem_of_getElem? hi)
  have o4 : 1 ≤ d := sl.2.2.2.1
  have tok' : SsOk n tt := fun s hs => (tok s hs).ok
  have gok := grown_ok (w := w) sl
  have ok1 : SsOk n (tt.set i (grown w c ws m d)) := set_ok tok' gok
  have n3 : n ≤ 3 := by omega
  have e1 : atI (tt.map encS) (i : Int) = some (encS (.lift c ws m d)) := atI_nat (by rw [List.getElem?_map, hi]; rfl)
  have e2 : ixN (tt.map encS).length (i : Int) = some i := by rw [List.length_map]; exact ixN_nat il
  have e3 : (tt.map encS).set i (encS (grown w c ws m d)) = (tt.set i (grown w c ws m d)).map encS := by rw [List.map_set]
  dsimp only [u_law_right_3, evS, EvS.of]
  walk_at "sq"
  dsimp only [ev, Ev.of, Op2.ev, Cmp.ev, BF.ev, BM.ev, AOp.ev, S0, Sr]
  repeat walk_at "le"
  refine ⟨_, _, _, rfl, n, i, tt, w, c, ws, m, d, rfl, hn, hi, ok1, by omega, ?_⟩
  repeat walk_at "le"
  intro t ht
  have hpt : p ≠ t := ne_none hm ht
  repeat walk_at "le"
  walk_at "sq"
  repeat walk_at "le"
  refine s_grown ?_
  repeat walk_at "le"
  rw [updM_updM, e3]
  have ht1 : (updM M t (.lst ((tt.set i (grown w c ws m d)).map encS))) t = some (.lst ((tt.set i (grown w c ws m d)).map encS)) := updM_same
  have hm1 : (updM M t (.lst ((tt.set i (grown w c ws m d)).map encS))) p = some q.d := upd_ne1 hm hpt
  have h1i : (tt.set i (grown w c ws m d))[i]? = some (grown w c ws m d) := List.getElem?_set_self il
  have l1 : (tt.set i (grown w c ws m d)).length ≤ 11 := by rw [List.length_set]; exact tl
  generalize updM M t (.lst ((tt.set i (grown w c ws m d)).map encS)) = M1 at ht1 hm1 ⊢
  generalize tt.set i (grown w c ws m d) = t1 at ht1 ok1 h1i l1 ⊢
  walk_at "sq"
  walk_at "if"
  repeat walk_at "le"
  refine ⟨isObj_chain (by decide +kernel), n, t1, rfl, ?_⟩
  repeat walk_at "le"
  refine s_reprSs n3 ok1 (by omega) rfl (toP_of0 (encOkS.lst.dp _)) ?_
  repeat walk_at "le"
  refine s_reprSs n3 ok1 (by omega) (isS_ref ht1) (toP_ref encOkS ht1) ?_
  repeat walk_at "le"
  refine s_neStr ?_
  repeat walk_at "le"
  refine ifnT rfl ?_
  repeat walk_at "le"
  refine ⟨isObj_chain (by decide +kernel), n, t1, rfl, ?_⟩
  repeat walk_at "le"
  refine ifnT rfl ?_
  repeat walk_at "le"
  dsimp only [u_law_right_2, evS, EvS.of]
  walk_at "sq"
  dsimp only [ev, Ev.of, Op2.ev, Cmp.ev, BF.ev, BM.ev, AOp.ev, S0, Sr]
  repeat walk_at "le"
  refine s_draw hm1 (okc ok (k + 50 + 1)) (by decide) (by decide) fun e q2 q0 q1 ok2 => ?_
  have ht2 : (updM M1 p q2.d) t = some (.lst (t1.map encS)) := upd_ne2 ht1 hpt
  have hm2 : (updM M1 p q2.d) p = some q2.d := updM_same
  generalize updM M1 p q2.d = M2 at ht2 hm2 ⊢
  obtain ⟨w2, hw2⟩ := again4 q0 q1
  repeat walk_at "le"
  have i1l : i < t1.length := (List.getElem?_eq_some_iff.mp h1i).1
  have f1 : atI (t1.map encS) (i : Int) = some (encS (grown w c ws m d)) := atI_nat (by rw [List.getElem?_map, h1i]; rfl)
  have f2 : ixN (t1.map encS).length (i : Int) = some i := by rw [List.length_map]; exact ixN_nat i1l
  have f3 : (t1.map encS).set i (encS (grown w2 c ws (m + addBy w d) d)) = (t1.set i (grown w2 c ws (m + addBy w d) d)).map encS := by rw [List.map_set]
  have g2 : SOk n (grown w2 c ws (m + addBy w d) d) := by
    obtain ⟨o1, o2, o3, o4, o5, o6, o7⟩ := sl
    have h := addBy_le (w := w) o4
    have h2 := addBy_le (w := w2) o4
    exact ⟨o1, o2, o3, o4, by omega, by omega, fun x hx => by have := o7 x hx; omega⟩
  have ok3 : SsOk n (t1.set i (grown w2 c ws (m + addBy w d) d)) := set_ok ok1 g2
  walk_at "sq"
  repeat walk_at "le"
  refine s_grown ?_
  repeat walk_at "le"
  rw [f3]
  have l2 : (t1.set i (grown w2 c ws (m + addBy w d) d)).length ≤ 11 := by rw [List.length_set]; exact l1
  have ht3 : (updM M2 t (.lst ((t1.set i (grown w2 c ws (m + addBy w d) d)).map encS))) t = some (.lst ((t1.set i (grown w2 c ws (m + addBy w d) d)).map encS)) := updM_same
  have hm3 : (updM M2 t (.lst ((t1.set i (grown w2 c ws (m + addBy w d) d)).map encS))) p = some q2.d := upd_ne1 hm2 hpt
  generalize updM M2 t (.lst ((t1.set i (grown w2 c ws (m + addBy w d) d)).map encS)) = M3 at ht3 hm3 ⊢
  walk_at "sq"
  walk_at "if"
  repeat walk_at "le"
  refine s_rounded hn h1i ok3 (by omega) ?_
  refine ⟨isObj_chain (by decide +kernel), n, t1.set i (grown w2 c ws (m + addBy w d) d), rfl, ?_⟩
  repeat walk_at "le"
  refine s_reprSs n3 ok3 (by omega) rfl (toP_of0 (encOkS.lst.dp _)) ?_
  repeat walk_at "le"
  refine s_reprSs n3 ok3 (by omega) (isS_ref ht3) (toP_ref encOkS ht3) ?_
  repeat walk_at "le"
  refine s_neStr ?_
  repeat walk_at "le"
  refine ifnT rfl ?_
  repeat walk_at "le"
  dsimp only [u_law_right_1, evS, EvS.of]
  walk_at "sq"
  dsimp only [ev, Ev.of, Op2.ev, Cmp.ev, BF.ev, BM.ev, AOp.ev, S0, Sr]
  walk_at "if"
  repeat walk_at "le"
  refine ⟨p, q2, k, n, c, ws, m, d, w, rfl, hm3, ok2, hn, sl, fun q4 M4 hm4 ok4 => ?_⟩
  repeat walk_at "le"
  exact hk _ _ t q4 M4 hpt hm4 ok4
end K35
end

section
set_option maxRecDepth 100000
set_option maxHeartbeats 400000
namespace K35
open PySem L2 LD LK
local macro_rules | `(tactic| walk_at "non") => `(tactic| first | assumption | (refine upd_non ?_ ?_ <;> first | assumption | (intro z; subst z; simp_all)))
local macro_rules | `(tactic| walk_at "mem") => `(tactic| first | rfl | exact updM_same | assumption | exact isS_ref updM_same | exact isL_ref updM_same | exact isL0_ref updM_same | (apply isS_ref; walk_at "mem") | (apply isL_ref; walk_at "mem") | (apply isL0_ref; walk_at "mem") | (refine upd_keep ?k1 ?k2; (case k2 => assumption); (case k1 => walk_at "mem")) | (refine upd_ne1 ?k1 ?k2; (case k2 => assumption); (case k1 => walk_at "mem")) | (refine upd_ne2 ?k1 ?k2; (case k2 => assumption); (case k1 => walk_at "mem")) | (refine del_keep ?_ ?_; all_goals first | assumption | walk_at "mem"))
local macro_rules | `(tactic| walk_at "side") => `(tactic| first | assumption | omega | decide)
local macro_rules | `(tactic| walk_at "mul") => `(tactic| first | assumption | (exact mul_l (by first | assumption | omega | decide)) | (exact mul_r (by first | assumption | omega | decide)))
local macro_rules | `(tactic| walk_at "div") => `(tactic| first | assumption | (exact div_ok2 (by first | assumption | omega | decide) (by first | assumption | omega | decide)))
local macro_rules | `(tactic| walk_at "ld") => `(tactic| first
  | with_reducible refine' s_seq ?_ | with_reducible refine' s_next ?_ | ((with_reducible refine' s_var ?k1 ?_); (case k1 => rfl)) | with_reducible refine' s_c ?_ | with_reducible refine' s_op ?_ | with_reducible refine' s_un ?_ | with_reducible refine' s_cons ?_ | with_reducible refine' s_nil ?_ | with_reducible refine' s_set ?_ | with_reducible refine' s_bcall ?_
  | with_reducible refine' s_tup ?_ | with_reducible refine' s_lst ?_ | with_reducible refine' s_ife ?_ | with_reducible refine' s_bl ?_ | with_reducible refine' s_exbl ?_ | with_reducible refine' ifT ?_ | with_reducible refine' ifF ?_ | with_reducible refine' ifNT ?_ | with_reducible refine' ifNF ?_ | with_reducible refine' ifO1 ?_ | with_reducible refine' ifO2 rfl ?_ | with_reducible refine' s_ret ?_ | with_reducible refine' s_retg ?_ | with_reducible refine' s_call ?_ | with_reducible refine' s_fld ?_ | with_reducible refine' s_drop ?_ | with_reducible refine' s_bm ?_
  | with_reducible refine' s_and ?_ | with_reducible refine' s_or ?_ | with_reducible refine' s_not ?_ | with_reducible refine' s_tru ?_ | with_reducible refine' s_ifx ?_ | with_reducible refine' s_andV ?_ | with_reducible refine' s_orV ?_ | with_reducible refine' s_notV ?_ | with_reducible refine' s_par2 ?_ | with_reducible refine' s_par3 ?_ | with_reducible refine' s_unp ?_ | with_reducible refine' s_subs ?_ | with_reducible refine' s_sub2 ?_ | with_reducible refine' s_augS ?_ | ((with_reducible refine' s_aug ?k1 ?_); (case k1 => rfl))
  | with_reducible refine' s_add ?_ | with_reducible refine' s_sub ?_ | with_reducible refine' s_neg ?_ | with_reducible refine' s_lt ?_ | with_reducible refine' s_le ?_ | with_reducible refine' s_gt ?_ | with_reducible refine' s_ge ?_ | with_reducible refine' s_addI ?_ | with_reducible refine' s_eqI ?_ | with_reducible refine' s_neI ?_
  | ((with_reducible refine' s_eqG (k := false) ?k1 ?k2 ?k3 ?k4 ?k5 ?_); (case k1 => rfl); (case k2 => rfl); (case k3 => decide +kernel); (case k4 => decide +kernel); (case k5 => decide +kernel)) | ((with_reducible refine' s_eqG (k := true) ?k1 ?k2 ?k3 ?k4 ?k5 ?_); (case k1 => rfl); (case k2 => rfl); (case k3 => decide +kernel); (case k4 => decide +kernel); (case k5 => decide +kernel))
  | ((with_reducible refine' s_neG (k := false) ?k1 ?k2 ?k3 ?k4 ?k5 ?_); (case k1 => rfl); (case k2 => rfl); (case k3 => decide +kernel); (case k4 => decide +kernel); (case k5 => decide +kernel)) | ((with_reducible refine' s_neG (k := true) ?k1 ?k2 ?k3 ?k4 ?k5 ?_); (case k1 => rfl); (case k2 => rfl); (case k3 => decide +kernel); (case k4 => decide +kernel); (case k5 => decide +kernel))
  | ((with_reducible refine' s_mod ?k1 ?_); (case k1 => walk_at "side")) | ((with_reducible refine' s_mul ?k1 ?_); (case k1 => walk_at "mul")) | ((with_reducible refine' s_div ?k1 ?_); (case k1 => walk_at "div"))
  | with_reducible refine' s_isN ?_ | with_reducible refine' s_isNotN ?_
  | ((with_reducible refine' s_idx ?k1 ?k2 ?_); (case k1 => walk_at "mem"); (case k2 => first | rfl | assumption))
  | ((with_reducible refine' s_list ?k1 ?_); (case k1 => walk_at "mem")) | ((with_reducible refine' s_tuple ?k1 ?_); (case k1 => walk_at "mem")) | ((with_reducible refine' s_len ?k1 ?_); (case k1 => walk_at "mem"))
  | with_reducible refine' s_abs ?_ | with_reducible refine' s_max ?_ | with_reducible refine' s_min ?_ | with_reducible refine' s_int ?_ | with_reducible refine' s_intB ?_
  | ((with_reducible refine' s_append ?k1 ?k2 ?_); (case k1 => walk_at "mem"); (case k2 => walk_at "side")) | ((with_reducible refine' ⟨s_tyL ?k1, ?_⟩); (case k1 => walk_at "mem"))
  | with_reducible refine' fr_lst ?_ | with_reducible refine' fr_call ?_ | with_reducible refine' fr_op ?_ | with_reducible refine' fr_fn ?_ | with_reducible refine' fr_mt ?_ | with_reducible refine' fr_prop ?_ | with_reducible refine' fr_sl ?_ | with_reducible refine' fr_var ?_ | with_reducible refine' fr_rev ?_ | with_reducible refine' fr_if ?_ | with_reducible refine' s_meth ?_ | with_reducible refine' s_prop ?_ | with_reducible refine' s_sl ?_ | with_reducible refine' s_noPart ?_ | with_reducible refine' s_part ?_ | with_reducible refine' s_isi ?_ | with_reducible refine' fz_all ?_ | with_reducible refine' fz_tup ?_ | with_reducible refine' fz_lst0 ?_ | with_reducible refine' fz_str ?_ | with_reducible refine' fz_int ?_ | with_reducible refine' fz_obj ?_ | with_reducible refine' s_kget ?_ | with_reducible refine' rev_t ?_ | ((with_reducible refine' rev_l ?k1 ?_); (case k1 => walk_at "mem")) | with_reducible refine' s_rev ?_ | with_reducible refine' s_consS ?_ | with_reducible refine' s_stL ?_ | with_reducible refine' fr_stL ?_ | with_reducible refine' s_lno ?_ | with_reducible refine' s_chain ?_ | with_reducible refine' s_rng1 ?_ | with_reducible refine' s_rng2 ?_ | with_reducible refine' s_enum ?_ | with_reducible refine' s_zip ?_
  | with_reducible refine' s_for ?_ | with_reducible refine' s_iseq ?_
  | ((with_reducible refine' s_setL ?k1 ?k2 ?_); (case k1 => walk_at "mem"); (case k2 => first | rfl | assumption))
  | ((with_reducible refine' s_lenA ?k1 ?_); (case k1 => rfl))
  | ((with_reducible refine' ⟨_, _, rfl, ?k1, ?_⟩); (case k1 => assumption)) | with_reducible refine' ⟨_, _, rfl, ?_⟩ | with_reducible refine' ⟨_, rfl, ?_⟩ | with_reducible refine' ⟨rfl, ?_⟩)
local macro_rules | `(tactic| walk_at "le") => `(tactic| first
  | with_reducible refine' s_next ?_ | ((with_reducible refine' s_var ?k1 ?_); (case k1 => rfl)) | with_reducible refine' s_c ?_ | with_reducible refine' s_op ?_ | with_reducible refine' s_un ?_ | with_reducible refine' s_cons ?_ | with_reducible refine' s_nil ?_ | with_reducible refine' s_set ?_ | with_reducible refine' s_bcall ?_
  | with_reducible refine' s_tup ?_ | with_reducible refine' s_lst ?_ | with_reducible refine' s_bl ?_ | with_reducible refine' s_exbl ?_ | with_reducible refine' ifT ?_ | with_reducible refine' ifF ?_ | with_reducible refine' ifNT ?_ | with_reducible refine' ifNF ?_ | with_reducible refine' ifO1 ?_ | with_reducible refine' ifO2 rfl ?_ | with_reducible refine' s_ret ?_ | with_reducible refine' s_retg ?_ | with_reducible refine' s_call ?_ | with_reducible refine' s_fld ?_ | with_reducible refine' s_drop ?_ | with_reducible refine' s_bm ?_
  | with_reducible refine' s_and ?_ | with_reducible refine' s_or ?_ | with_reducible refine' s_not ?_ | with_reducible refine' s_tru ?_ | with_reducible refine' s_ifx ?_ | with_reducible refine' s_andV ?_ | with_reducible refine' s_orV ?_ | with_reducible refine' s_notV ?_ | with_reducible refine' s_par2 ?_ | with_reducible refine' s_par3 ?_ | with_reducible refine' s_unp ?_ | with_reducible refine' s_subs ?_ | with_reducible refine' s_sub2 ?_ | with_reducible refine' s_augS ?_ | ((with_reducible refine' s_aug ?k1 ?_); (case k1 => rfl))
  | with_reducible refine' s_add ?_ | with_reducible refine' s_sub ?_ | with_reducible refine' s_neg ?_ | with_reducible refine' s_lt ?_ | with_reducible refine' s_le ?_ | with_reducible refine' s_gt ?_ | with_reducible refine' s_ge ?_ | with_reducible refine' s_addI ?_ | with_reducible refine' s_eqI ?_ | with_reducible refine' s_neI ?_
  | ((with_reducible refine' s_eqG (k := false) ?k1 ?k2 ?k3 ?k4 ?k5 ?_); (case k1 => rfl); (case k2 => rfl); (case k3 => decide +kernel); (case k4 => decide +kernel); (case k5 => decide +kernel)) | ((with_reducible refine' s_eqG (k := true) ?k1 ?k2 ?k3 ?k4 ?k5 ?_); (case k1 => rfl); (case k2 => rfl); (case k3 => decide +kernel); (case k4 => decide +kernel); (case k5 => decide +kernel))
  | ((with_reducible refine' s_neG (k := false) ?k1 ?k2 ?k3 ?k4 ?k5 ?_); (case k1 => rfl); (case k2 => rfl); (case k3 => decide +kernel); (case k4 => decide +kernel); (case k5 => decide +kernel)) | ((with_reducible refine' s_neG (k := true) ?k1 ?k2 ?k3 ?k4 ?k5 ?_); (case k1 => rfl); (case k2 => rfl); (case k3 => decide +kernel); (case k4 => decide +kernel); (case k5 => decide +kernel))
  | ((with_reducible refine' s_mod ?k1 ?_); (case k1 => walk_at "side")) | ((with_reducible refine' s_mul ?k1 ?_); (case k1 => walk_at "mul")) | ((with_reducible refine' s_div ?k1 ?_); (case k1 => walk_at "div"))
  | with_reducible refine' s_isN ?_ | with_reducible refine' s_isNotN ?_
  | ((with_reducible refine' s_idx ?k1 ?k2 ?_); (case k1 => walk_at "mem"); (case k2 => first | rfl | assumption))
  | ((with_reducible refine' s_list ?k1 ?_); (case k1 => walk_at "mem")) | ((with_reducible refine' s_tuple ?k1 ?_); (case k1 => walk_at "mem")) | ((with_reducible refine' s_len ?k1 ?_); (case k1 => walk_at "mem"))
  | with_reducible refine' s_abs ?_ | with_reducible refine' s_max ?_ | with_reducible refine' s_min ?_ | with_reducible refine' s_int ?_ | with_reducible refine' s_intB ?_
  | ((with_reducible refine' s_append ?k1 ?k2 ?_); (case k1 => walk_at "mem"); (case k2 => walk_at "side")) | ((with_reducible refine' ⟨s_tyL ?k1, ?_⟩); (case k1 => walk_at "mem"))
  | with_reducible refine' fr_lst ?_ | with_reducible refine' fr_call ?_ | with_reducible refine' fr_op ?_ | with_reducible refine' fr_fn ?_ | with_reducible refine' fr_mt ?_ | with_reducible refine' fr_prop ?_ | with_reducible refine' fr_sl ?_ | with_reducible refine' fr_var ?_ | with_reducible refine' fr_rev ?_ | with_reducible refine' fr_if ?_ | with_reducible refine' s_meth ?_ | with_reducible refine' s_prop ?_ | with_reducible refine' s_sl ?_ | with_reducible refine' s_noPart ?_ | with_reducible refine' s_part ?_ | with_reducible refine' s_isi ?_ | with_reducible refine' fz_all ?_ | with_reducible refine' fz_tup ?_ | with_reducible refine' fz_lst0 ?_ | with_reducible refine' fz_str ?_ | with_reducible refine' fz_int ?_ | with_reducible refine' fz_obj ?_ | with_reducible refine' s_kget ?_ | with_reducible refine' rev_t ?_ | ((with_reducible refine' rev_l ?k1 ?_); (case k1 => walk_at "mem")) | with_reducible refine' s_rev ?_ | with_reducible refine' s_consS ?_ | with_reducible refine' s_stL ?_ | with_reducible refine' fr_stL ?_ | with_reducible refine' s_lno ?_ | with_reducible refine' s_chain ?_ | with_reducible refine' s_rng1 ?_ | with_reducible refine' s_rng2 ?_ | with_reducible refine' s_enum ?_ | with_reducible refine' s_zip ?_
  | with_reducible refine' s_iseq ?_
  | ((with_reducible refine' s_setL ?k1 ?k2 ?_); (case k1 => walk_at "mem"); (case k2 => first | rfl | assumption))
  | ((with_reducible refine' s_lenA ?k1 ?_); (case k1 => rfl))
  | ((with_reducible refine' ⟨_, _, rfl, ?k1, ?_⟩); (case k1 => assumption)) | with_reducible refine' ⟨_, _, rfl, ?_⟩ | with_reducible refine' ⟨_, rfl, ?_⟩ | with_reducible refine' ⟨rfl, ?_⟩)
local macro_rules | `(tactic| walk_at "sq") => `(tactic| with_reducible refine' s_seq ?_)
local macro_rules | `(tactic| walk_at "if") => `(tactic| with_reducible refine' s_ife ?_)
local macro_rules | `(tactic| walk_at "for") => `(tactic| with_reducible refine' s_for ?_)

/-! ### cuts -/
def cutG {α : Type} (xs : List α) (lo hi : Option Int) : List α := (xs.drop (HT.sIx xs.length 0 lo)).take (HT.sIx xs.length xs.length hi - HT.sIx xs.length 0 lo)
theorem cut_map {α : Type} (f : α → D) (xs : List α) (lo hi : Option Int) : cutD (xs.map f) lo hi = (cutG xs lo hi).map f := by
  unfold cutD cutG
  rw [List.length_map, List.map_take, List.map_drop]
theorem cut_mem {α : Type} {xs : List α} {lo hi : Option Int} {x : α} (h : x ∈ cutG xs lo hi) : x ∈ xs := List.mem_of_mem_drop (List.mem_of_mem_take h)
theorem cut_len {α : Type} {xs : List α} {lo hi : Option Int} : (cutG xs lo hi).length ≤ xs.length := by
  unfold cutG
  rw [List.length_take, List.length_drop]
  omega
theorem s_cutS {ss : List Stp} {lo hi : Option Int} {M : DM} {R : DK} (r : R (.lst ((cutG ss lo hi).map encS)) M) : oSlice (.lst (ss.map encS)) lo hi M fun d M1 => fzK d M1 R := by
  refine ⟨_, rfl, ?_⟩
  rw [cut_map]
  exact fz_all r
theorem s_cat {ss tt : List Stp} {M : DM} {R : DK} (h1 : ss.length ≤ 500) (h2 : tt.length ≤ 500) (r : R (.lst ((ss ++ tt).map encS)) M) : oAdd (.lst (ss.map encS)) (.lst (tt.map encS)) M fun d M1 => fzK d M1 R := by
  refine s_addL ?_ ?_
  · rw [List.length_map, List.length_map]
    have := line1000
    omega
  · rw [← List.map_append]
    exact fz_all r
def Told (p : Addr) (x : Option D) : Prop := x = none ∨ ∃ t, x = some (.ref t) ∧ p ≠ t
theorem forgetT {p : Addr} {q : Pool} {σ : DSt} {M : DM} {i : Nat} {x : Option D} (hx : σ[i]? = some x) (ht : Told p x) (hm : M p = some q.d) : (forget σ [i] M) p = some q.d := by
  rcases ht with rfl | ⟨t, rfl, ne⟩
  · simp only [forget, hx]; exact hm
  · rw [forget1 hx]; exact del_keep hm ne
def isLift : Stp → Bool
  | .lift _ _ _ _ => true
  | _ => false
theorem does_right (C : Addr) : Does (Sr C) u_law_right g_law_right.N (spRight C) := by
  rintro ds M R Ex ⟨p, q, k, n, rfl, hp, ok, hn, hR⟩
  have n2 : 2 ≤ n ∧ n ≤ 3 := by omega
  dsimp only [u_law_right, evS, EvS.of]
  obtain ⟨pr, hpr, hpr1⟩ : ∃ pr, atI [D.int 4, .int 2] ((n : Int) - 2) = some (.int pr) ∧ 1 ≤ pr := by
    rcases hn with rfl | rfl
    · exact ⟨4, rfl, by decide⟩
    · exact ⟨2, rfl, by decide⟩
  walk_at "sq"
  dsimp only [ev, Ev.of, Op2.ev, Cmp.ev, BF.ev, BM.ev, AOp.ev, S0, Sr]
  repeat walk_at "le"
  refine s_few (k := k + 3000) (most := 5) hp (ok.mono (by omega)) n2.1 n2.2 (by decide) hpr1 fun ss q1 M1 sok sl hm1 ok1 => ?_
  repeat walk_at "le"
  walk_at "sq"
  repeat walk_at "le"
  refine s_draw hm1 (okc ok1 (k + 2999 + 1)) (by rw [List.length_map]; omega) (by rw [List.length_map]; omega) fun j q2 j0 j1 ok2 => ?_
  have hm2 : (updM M1 p q2.d) p = some q2.d := updM_same
  generalize updM M1 p q2.d = M2 at hm2 ⊢
  repeat walk_at "le"
  walk_at "sq"
  repeat walk_at "le"
  refine s_cutS ?_
  repeat walk_at "le"
  intro r hr
  have hpr2 : p ≠ r := ne_none hm2 hr
  repeat walk_at "le"
  refine s_lift (k := k + 2989) (by walk_at "mem") updM_same hpr2 (ok2.mono (by omega)) (by omega) n2.2 (by decide) fun c ws m d room' q4 sl4 d6 e1 e2 ok4 => ?_
  have hm4 : (updM (updM (updM M2 r (.lst [.int 3])) p q4.d) r (.lst [.int room'])) p = some q4.d := by rw [updM_ne hpr2, updM_same]
  generalize updM (updM (updM M2 r (.lst [.int 3])) p q4.d) r (.lst [.int room']) = M4 at hm4 ⊢
  have cl1 := cut_len (xs := ss) (lo := none) (hi := some j)
  have cl2 := cut_len (xs := ss) (lo := some j) (hi := none)
  repeat walk_at "le"
  refine s_cat (ss := cutG ss none (some j)) (tt := [Stp.lift c ws m d]) (by omega) (show 1 ≤ 500 by decide) ?_
  repeat walk_at "le"
  refine s_cutS ?_
  repeat walk_at "le"
  have cl3 : (cutG ss none (some j) ++ [Stp.lift c ws m d]).length ≤ 6 := by rw [List.length_append]; show _ + 1 ≤ 6; omega
  refine s_cat (by omega) (by omega) ?_
  repeat walk_at "le"
  have tok : ∀ s ∈ cutG ss none (some j) ++ [Stp.lift c ws m d] ++ cutG ss (some j) none, SLw n s := fun s hs => by
    rcases List.mem_append.mp hs with h | h
    · rcases List.mem_append.mp h with h | h
      · exact sok s (cut_mem h)
      · rw [List.mem_singleton.mp h]; exact sl4
    · exact sok s (cut_mem h)
  have tl : (cutG ss none (some j) ++ [Stp.lift c ws m d] ++ cutG ss (some j) none).length ≤ 11 := by rw [List.length_append]; omega
  generalize cutG ss none (some j) ++ [Stp.lift c ws m d] ++ cutG ss (some j) none = tt at tok tl ⊢
  walk_at "sq"
  repeat walk_at "le"
  refine s_chainF hn (fun s hs => (tok s hs).ok) (by omega) ?_
  repeat walk_at "le"
  walk_at "sq"
  walk_at "for"
  repeat walk_at "le"
  refine s_lcIf (List.range tt.length) (fun i : Nat => .int (0 + (i : Int))) (fun i : Nat => .int (0 + (i : Int))) (fun i => isLift (tt.getD i (.turn 0))) (by rw [List.length_range]; exact le_line (by omega)) (fun Q h => ?_) (fun a ha i hi M' oa hM' => ⟨_, rfl, fun Q hQ => ?_, fun Q _ hQ => ?_⟩) ?_
  · repeat walk_at "le"
    refine ⟨by unfold small62; rw [List.length_map]; omega, ?_⟩
    rw [List.length_map]
    show Q (rangeD 0 (tt.length : Int).toNat) _ _
    rw [Int.toNat_natCast]
    exact h _ fun _ _ _ _ => trivial
  · have hi' := List.mem_range.mp hi
    rw [Int.zero_add]
    have e1 : atI (tt.map encS) (i : Int) = some (encS (tt.getD i (.turn 0))) := atI_nat (by
      rw [List.getElem?_map, List.getElem?_eq_getElem hi']
      simp [List.getD_eq_getElem?_getD, hi'])
    generalize tt.getD i (.turn 0) = s at e1 hQ ⊢
    cases s with
    | lift c ws m d =>
      repeat walk_at "le"
      exact hQ
    | swap i j =>
      repeat walk_at "le"
      exact hQ
    | turn i =>
      repeat walk_at "le"
      exact hQ
  · repeat walk_at "le"
    exact hQ
  have ez : (fun i : Nat => D.int (0 + (i : Int))) = fun i : Nat => D.int (i : Int) := by
    funext i; rw [Int.zero_add]
  rw [ez]
  repeat walk_at "le"
  refine loop_ind (fun rem σ M' => ∃ (is : List Nat) (x3 x5 x6 x7 x8 : Option D) (q' : Pool), rem = is.map (fun i : Nat => .int (i : Int)) ∧ (∀ i ∈ is, ∃ (c : Nat) (ws : List Int) (m d : Int), tt[i]? = some (Stp.lift c ws m d)) ∧ σ = rSt p n tt C x3 x5 x6 x7 x8 ∧ Told p x8 ∧ M' p = some q'.d ∧ q'.ok (k + 204 * is.length))
    ⟨_, some (.int j), none, none, none, none, q4, rfl, fun i hi => ?_, rfl, .inl rfl, hm4, ok4.mono ?_⟩ (fun _ _ _ _ => rfl) ?_ ?_
  · obtain ⟨h1, h2⟩ := List.mem_filter.mp hi
    have hi' := List.mem_range.mp h1
    have e : tt[i]? = some (tt.getD i (.turn 0)) := by
      rw [List.getElem?_eq_getElem hi']
      simp [List.getD_eq_getElem?_getD, hi']
    generalize tt.getD i (.turn 0) = s at e h2
    cases s with
    | lift c ws m d => exact ⟨c, ws, m, d, e⟩
    | swap _ _ => cases h2
    | turn _ => cases h2
  · have := List.length_filter_le (fun i => isLift (tt.getD i (.turn 0))) (List.range tt.length)
    rw [List.length_range] at this
    omega
  · rintro σ M' ⟨is, x3, x5, x6, x7, x8, q', e, hi, rfl, ht, hm, ok'⟩
    dsimp only [u_law_right_5, evS, ev, EvS.of, Ev.of, Op2.ev, Cmp.ev, BF.ev, BM.ev, AOp.ev, S0, Sr]
    repeat walk_at "le"
    walk_at "sq"
    repeat walk_at "le"
    refine ⟨isObj_chain (by decide +kernel), n, tt, rfl, ?_⟩
    repeat walk_at "le"
    refine s_eqP (a := tt) (b := tt) encOkS.lst (by decide) (toP_of0 (encOkS.lst.dp tt)) (toP_of0 (encOkS.lst.dp tt)) ?_
    have fin := hR q' _ (forgetT (σ := rSt p n tt C x3 x5 x6 x7 x8) (i := 8) rfl ht hm) (ok'.mono (by omega))
    rw [decide_eq_true rfl]
    exact fin
  · rintro d' rem σ M' ⟨is, x3, x5, x6, x7, x8, q', e, hi, rfl, ht, hm, ok'⟩ ih
    cases is with
    | nil => cases e
    | cons i is =>
      cases e
      refine ⟨_, rfl, ?_⟩
      obtain ⟨c, ws, m, d, hti⟩ := hi i List.mem_cons_self
      simp only [List.length_cons] at ok'
      dsimp only [u_law_right_4, evS, EvS.of]
      walk_at "sq"
      walk_at "for"
      dsimp only [ev, Ev.of, Op2.ev, Cmp.ev, BF.ev, BM.ev, AOp.ev, S0]
      repeat walk_at "le"
      refine loop_ind (fun rem' σ M' => ∃ (wsL : List Way) (x5 x6 x7 x8 : Option D) (q' : Pool), rem' = wsL.map (fun w => .str w.s) ∧ σ = rSt p n tt C (some (.int (i : Int))) x5 x6 x7 x8 ∧ Told p x8 ∧ M' p = some q'.d ∧ q'.ok (k + 204 * is.length + 51 * wsL.length))
        ⟨[.hd, .up, .down, .hu], x5, x6, x7, x8, q', rfl, rfl, ht, hm, ok'.mono (by show _ + 51 * 4 ≤ _; omega)⟩ (fun _ _ _ _ => rfl) ?_ ?_
      · rintro σ M' ⟨wsL, x5, x6, x7, x8, q', e, rfl, ht, hm, ok'⟩
        repeat walk_at "le"
        exact ih _ _ ⟨is, _, x5, x6, x7, x8, q', rfl, fun i hi' => hi i (List.mem_cons_of_mem _ hi'), rfl, ht, hm, ok'.mono (by omega)⟩
      · rintro d' rem σ M' ⟨wsL, x5, x6, x7, x8, q', e, rfl, ht, hm, ok'⟩ ih2
        cases wsL with
        | nil => cases e
        | cons w wsL =>
          cases e
          refine ⟨_, rfl, ?_⟩
          simp only [List.length_cons] at ok'
          exact kindBody (k := k + 204 * is.length + 51 * wsL.length) (w := w) (x6 := x6) (x7 := x7) (x8 := x8) hm (ok'.mono (by omega)) hn tok tl hti fun x6 x7 t q3 M3 hpt hm3 ok3 => ih2 _ _ ⟨wsL, _, x6, x7, some (.ref t), q3, rfl, rfl, .inr ⟨t, rfl, hpt⟩, hm3, ok3⟩
theorem rangeD_succ {lo : Int} {n : Nat} : rangeD lo (n + 1) = .int lo :: rangeD (lo + 1) n := by
  unfold rangeD
  rw [List.range_succ_eq_map, List.map_cons, List.map_map]
  congr 1
  · simp
  · refine List.map_congr_left fun i _ => ?_
    simp only [Function.comp, Nat.succ_eq_add_one, Int.natCast_add]
    congr 1
    omega
def spLaw : DSp := fun ds M R _ => ∃ (s : D) (ns : List Int), ds = [s] ∧ isL M s = some (ns.map .int) ∧ (∃ xs, s = .frz xs) ∧ ns.length ≤ 63 ∧ ∀ M', R (.bl true) M'
def Sl (C : Addr) : Sg := { S0 with fn := fun j => match j with | 0 => spPool | _ => spRight C }
theorem isL_frz {M M' : DM} {s : D} {ds : List D} (h : ∃ xs, s = .frz xs) (e : isL M s = some ds) : isL M' s = some ds := by
  obtain ⟨xs, rfl⟩ := h
  exact e
theorem does_law (C : Addr) : Does (Sl C) u_law g_law.N spLaw := by
  rintro ds M R Ex ⟨s, ns, rfl, hs, hf, hl, hR⟩
  dsimp only [u_law, u_law_3, evS, ev, EvS.of, Ev.of, Op2.ev, Cmp.ev, BF.ev, BM.ev, AOp.ev, S0, Sl]
  have hs' := isS_of_isL hs
  repeat walk_at "ld"
  refine ⟨by unfold small62; rw [List.length_map]; split <;> split <;> omega, ?_⟩
  refine loop_ind (fun rem σ M' => ∃ (x1 x2 x3 : Option D) (lo len : Nat), rem = rangeD lo len ∧ lo + len ≤ 10 ∧ σ = [some s, x1, x2, x3]) ⟨none, none, none, 0, _, rfl, ?_, rfl⟩ (fun _ _ _ _ => trivial) ?_ ?_
  · rw [List.length_map]; split <;> split <;> omega
  · rintro σ M' ⟨x1, x2, x3, lo, len, e, hz, rfl⟩
    repeat walk_at "ld"
    exact hR _
  · rintro d rem σ M' ⟨x1, x2, x3, lo, len, e, hz, rfl⟩ ih
    cases len with
    | zero => cases e
    | succ len =>
      rw [rangeD_succ] at e
      cases e
      refine ⟨_, rfl, ?_⟩
      dsimp only [u_law_2, evS, ev, EvS.of, Ev.of, Op2.ev, Cmp.ev, BF.ev, BM.ev, AOp.ev, S0]
      repeat walk_at "le"
      walk_at "sq"
      repeat walk_at "le"
      refine ⟨s, ns, lo, rfl, isL_frz hf hs, hl, by omega, fun p q hp hq => ?_⟩
      repeat walk_at "le"
      walk_at "sq"
      walk_at "for"
      repeat walk_at "le"
      refine loop_ind (fun rem' σ M' => ∃ (xs : List Nat) (x3 : Option D) (q' : Pool), rem' = xs.map (fun n => .int (n : Nat)) ∧ (∀ n ∈ xs, n = 2 ∨ n = 3) ∧ σ = [some s, some (.int lo), some (.ref p), x3] ∧ M' p = some q'.d ∧ q'.ok (4000 * xs.length)) ⟨[2, 3], x3, q, rfl, by decide, rfl, updM_same, hq.mono (by decide)⟩ (fun _ _ _ _ => rfl) ?_ ?_
      · rintro σ M' ⟨xs, x3, q', e, hx, rfl, hm, hq⟩
        repeat walk_at "le"
        exact ih _ _ ⟨some (.int lo), some (.ref p), x3, lo + 1, len, by simp, by omega, rfl⟩
      · rintro d rem σ M' ⟨xs, x3, q', e, hx, rfl, hm, hq⟩ ih2
        cases xs with
        | nil => cases e
        | cons n xs =>
          cases e
          refine ⟨_, rfl, ?_⟩
          dsimp only [u_law_1, evS, ev, EvS.of, Ev.of, Op2.ev, Cmp.ev, BF.ev, BM.ev, AOp.ev, S0]
          walk_at "sq"
          walk_at "if"
          repeat walk_at "le"
          refine s_right hm (okc hq (4000 * xs.length + 4000) (by simp only [List.length_cons]; omega)) (hx n List.mem_cons_self) fun q2 M2 hm2 hq2 => ?_
          repeat walk_at "le"
          exact ih2 _ _ ⟨xs, _, q2, rfl, fun m h => hx m (List.mem_cons_of_mem _ h), rfl, hm2, hq2⟩
end K35
end

section
set_option maxRecDepth 100000
set_option maxHeartbeats 0
namespace K35
open PySem PySem.Spec PyProof.Rows L2 LD LK
abbrev PW : Program := PySem.Challenge.pw_liftsteps_k35_rounded_lifts
def top (i : Nat) : Stmt := PW.main.body.getD i (.Pass ⟨0, 0, 0, 0⟩)
theorem c_law_pool : fnChk g_law_pool ["script", "spot"] u_law_pool (top 16) = true := by decide +kernel
theorem c_law_draw : fnChk g_law_draw ["pool", "many"] u_law_draw (top 17) = true := by decide +kernel
theorem c_law_weights : fnChk g_law_weights ["pool", "many", "own"] u_law_weights (top 19) = true := by decide +kernel
theorem c_law_more : fnChk g_law_more ["pool"] u_law_more (top 20) = true := by decide +kernel
theorem c_law_divisor : fnChk g_law_divisor ["pool", "room"] u_law_divisor (top 18) = true := by decide +kernel
theorem c_law_lift : fnChk g_law_lift ["pool", "many", "room"] u_law_lift (top 21) = true := by decide +kernel
theorem c_law_plain : fnChk g_law_plain ["pool", "many"] u_law_plain (top 22) = true := by decide +kernel
theorem c_law_few : fnChk g_law_few ["pool", "many", "most", "product"] u_law_few (top 25) = true := by decide +kernel
theorem c_is_step : fnChk g_is_step ["step", "channels"] u_is_step (top 8) = true := by decide +kernel
theorem c_Chain_init : fnChk g_Chain_init ["self", "channels", "steps"] u_Chain_init (inClass (top 10) 0) = true := by decide +kernel
theorem c_added_by : fnChk g_added_by ["way", "divisor"] u_added_by (top 13) = true := by decide +kernel
theorem c_with_steps : fnChk g_with_steps ["chain", "steps"] u_with_steps (top 12) = true := by decide +kernel
theorem c_rounded : fnChk g_rounded ["chain", "number", "way"] u_rounded (top 14) = true := by decide +kernel
theorem c_law_grown : fnChk g_law_grown ["one", "kind"] u_law_grown (top 26) = true := by decide +kernel
theorem c_law_entry : fnChk g_law_entry ["pool", "far"] u_law_entry (top 23) = true := by decide +kernel
theorem c_law_place : fnChk g_law_place ["pool", "many", "far"] u_law_place (top 24) = true := by decide +kernel
theorem c_law_next_to : fnChk g_law_next_to ["share", "total", "divisor", "kind"] u_law_next_to (top 27) = true := by decide +kernel
theorem c_step_done : fnChk g_step_done ["step", "vector"] u_step_done (top 9) = true := by decide +kernel
theorem c_Chain_at : fnChk g_Chain_at ["self", "vector"] u_Chain_at (inClass (top 10) 5) = true := by decide +kernel
theorem c_law_lift_right : fnChk g_law_lift_right ["pool", "many", "one", "kind"] u_law_lift_right (top 28) = true := by decide +kernel
theorem c_Chain_channels : fnChk g_Chain_channels ["self"] u_Chain_channels (inClass (top 10) 1) = true := by decide +kernel
theorem c_Chain_steps : fnChk g_Chain_steps ["self"] u_Chain_steps (inClass (top 10) 2) = true := by decide +kernel
theorem c_law_right : fnChk g_law_right ["pool", "many"] u_law_right (top 29) = true := by decide +kernel
theorem c_law : fnChk g_law ["script"] u_law (top 30) = true := by decide +kernel
def ds : List Df := [⟨.glo "_law_pool", "_law_pool", "_law_pool", top 16⟩, ⟨.glo "_law_draw", "_law_draw", "_law_draw", top 17⟩, ⟨.glo "_law_weights", "_law_weights", "_law_weights", top 19⟩, ⟨.glo "_law_more", "_law_more", "_law_more", top 20⟩, ⟨.glo "_law_divisor", "_law_divisor", "_law_divisor", top 18⟩, ⟨.glo "_law_lift", "_law_lift", "_law_lift", top 21⟩, ⟨.glo "_law_plain", "_law_plain", "_law_plain", top 22⟩, ⟨.glo "_law_few", "_law_few", "_law_few", top 25⟩, ⟨.glo "is_step", "is_step", "is_step", top 8⟩, ⟨.meth "Chain" "__init__", "__init__", "Chain.__init__", inClass (top 10) 0⟩, ⟨.glo "added_by", "added_by", "added_by", top 13⟩, ⟨.glo "with_steps", "with_steps", "with_steps", top 12⟩, ⟨.glo "rounded", "rounded", "rounded", top 14⟩, ⟨.glo "_law_grown", "_law_grown", "_law_grown", top 26⟩, ⟨.glo "_law_entry", "_law_entry", "_law_entry", top 23⟩, ⟨.glo "_law_place", "_law_place", "_law_place", top 24⟩, ⟨.glo "_law_next_to", "_law_next_to", "_law_next_to", top 27⟩, ⟨.glo "step_done", "step_done", "step_done", top 9⟩, ⟨.meth "Chain" "at", "at", "Chain.at", inClass (top 10) 5⟩, ⟨.glo "_law_lift_right", "_law_lift_right", "_law_lift_right", top 28⟩, ⟨.get "Chain" "channels", "channels", "Chain.channels", inClass (top 10) 1⟩, ⟨.get "Chain" "steps", "steps", "Chain.steps", inClass (top 10) 2⟩, ⟨.glo "_law_right", "_law_right", "_law_right", top 29⟩, ⟨.glo "law", "law", "law", top 30⟩]
def fs : List Fc := [.fa (.free "abs"), .fa (.free "max"), .fa (.free "int"), .fa (.free "len"), .fa (.glo "_law_draw"), .fa (.free "tuple"), .fa (.free "range"), .fa (.free "min"), .fa (.glo "_law_weights"), .fa (.glo "_law_more"), .fa (.glo "_law_divisor"), .fa (.glo "_law_lift"), .fa (.glo "_law_plain"), .fa (.glo "ITEMS"), .dic "ITEMS" [("lift", some 5), ("swap", some 3), ("turn", some 2)], .fa (.glo "is_step"), .fa (.cls "Chain"), .fa (.noat "Chain" "channel_count"), .fa (.noat "Chain" "kept_steps"), .fa (.glo "CHANNEL_COUNTS"), .con "CHANNEL_COUNTS" [2, 3], .fa (.free "enumerate"), .fa (.glo "Chain"), .fa (.mkr "Chain"), .fa (.glo "added_by"), .fa (.glo "with_steps"), .fa (.free "list"), .fa (.glo "_law_entry"), .fa (.free "zip"), .fa (.free "sum"), .fa (.glo "step_done"), .fa (.glo "rounded"), .fa (.glo "_law_place"), .fa (.glo "_law_next_to"), .fa (.meth "Chain" "at"), .fa (.glo "_law_few"), .fa (.glo "_law_grown"), .fa (.glo "_law_lift_right"), .prop "Chain" "channels", .prop "Chain" "steps", .fa (.free "repr"), .fa (.glo "_law_pool"), .fa (.glo "_law_right"), .fa (.glo "law")]
def ts : List (Str × List Str) := [("ITEMS", ["lift", "swap", "turn"])]
def loose : List Str := (["_wall", "__name__", "LiftError", "InvalidChain", "InvalidNumber", "ITEMS", "CHANNEL_COUNTS", "is_step", "step_done", "Chain", "with_steps", "added_by", "rounded", "_law_pool", "_law_draw", "_law_divisor", "_law_weights", "_law_more", "_law_lift", "_law_plain"] : List Str) ++ (["_law_entry", "_law_place", "_law_few", "_law_grown", "_law_next_to", "_law_lift_right", "_law_right"] : List Str)
section
variable {w : World} {K : PySem.W.Frag} {mg : Str → Option Value} {base : Heap}
theorem mk_fn {x qual : Str} {st : Stmt} {f : Addr} {fd : FuncData} {G : Cfg} {S : Sg} {ps : List Str} {u : LD.St} {k : Nat} {sp : DSp} (F : Fun K x qual st f fd) (hc : fnChk G ps u st = true)
    (len : ∀ ds M R Ex, sp ds M R Ex → ds.length = ps.length) (tab : ∀ A, Room k A → Tab G S PW w K mg base A) (D : Does S u G.N sp) : FnG PW w K mg base (L2.CX PW w) (k + 1) f fd ps (liftSp K sp) := fn_ok F hc len tab D
theorem facts {h : Heap} (c : SaysL fs ds ts w K) (kx : K.In h) (G0 : h.Ns mainGlobals mg) : ∃ fd : FuncData, mg "law" = some (.ref (He.ga K "law")) ∧ (∀ (s : Shared) (u : Value), BindsTo s fd ⟨[u], []⟩ [("script", u)]) ∧ ∀ base : Heap, FnG PW w K mg base (L2.CX PW w) 8 (He.ga K "law") fd ["script"] (liftSp K (spLaw)) := by
  obtain ⟨fd_law_pool, F_law_pool⟩ := c.def_ 0 (d := ⟨.glo "_law_pool", "_law_pool", "_law_pool", top 16⟩) rfl
  obtain ⟨fd_law_draw, F_law_draw⟩ := c.def_ 1 (d := ⟨.glo "_law_draw", "_law_draw", "_law_draw", top 17⟩) rfl
  obtain ⟨fd_law_weights, F_law_weights⟩ := c.def_ 2 (d := ⟨.glo "_law_weights", "_law_weights", "_law_weights", top 19⟩) rfl
  obtain ⟨fd_law_more, F_law_more⟩ := c.def_ 3 (d := ⟨.glo "_law_more", "_law_more", "_law_more", top 20⟩) rfl
  obtain ⟨fd_law_divisor, F_law_divisor⟩ := c.def_ 4 (d := ⟨.glo "_law_divisor", "_law_divisor", "_law_divisor", top 18⟩) rfl
  obtain ⟨fd_law_lift, F_law_lift⟩ := c.def_ 5 (d := ⟨.glo "_law_lift", "_law_lift", "_law_lift", top 21⟩) rfl
  obtain ⟨fd_law_plain, F_law_plain⟩ := c.def_ 6 (d := ⟨.glo "_law_plain", "_law_plain", "_law_plain", top 22⟩) rfl
  obtain ⟨fd_law_few, F_law_few⟩ := c.def_ 7 (d := ⟨.glo "_law_few", "_law_few", "_law_few", top 25⟩) rfl
  obtain ⟨fd_is_step, F_is_step⟩ := c.def_ 8 (d := ⟨.glo "is_step", "is_step", "is_step", top 8⟩) rfl
  obtain ⟨fd_Chain_init, F_Chain_init⟩ := c.def_ 9 (d := ⟨.meth "Chain" "__init__", "__init__", "Chain.__init__", inClass (top 10) 0⟩) rfl
  obtain ⟨fd_added_by, F_added_by⟩ := c.def_ 10 (d := ⟨.glo "added_by", "added_by", "added_by", top 13⟩) rfl
  obtain ⟨fd_with_steps, F_with_steps⟩ := c.def_ 11 (d := ⟨.glo "with_steps", "with_steps", "with_steps", top 12⟩) rfl
  obtain ⟨fd_rounded, F_rounded⟩ := c.def_ 12 (d := ⟨.glo "rounded", "rounded", "rounded", top 14⟩) rfl
  obtain ⟨fd_law_grown, F_law_grown⟩ := c.def_ 13 (d := ⟨.glo "_law_grown", "_law_grown", "_law_grown", top 26⟩) rfl
  obtain ⟨fd_law_entry, F_law_entry⟩ := c.def_ 14 (d := ⟨.glo "_law_entry", "_law_entry", "_law_entry", top 23⟩) rfl
  obtain ⟨fd_law_place, F_law_place⟩ := c.def_ 15 (d := ⟨.glo "_law_place", "_law_place", "_law_place", top 24⟩) rfl
  obtain ⟨fd_law_next_to, F_law_next_to⟩ := c.def_ 16 (d := ⟨.glo "_law_next_to", "_law_next_to", "_law_next_to", top 27⟩) rfl
  obtain ⟨fd_step_done, F_step_done⟩ := c.def_ 17 (d := ⟨.glo "step_done", "step_done", "step_done", top 9⟩) rfl
  obtain ⟨fd_Chain_at, F_Chain_at⟩ := c.def_ 18 (d := ⟨.meth "Chain" "at", "at", "Chain.at", inClass (top 10) 5⟩) rfl
  obtain ⟨fd_law_lift_right, F_law_lift_right⟩ := c.def_ 19 (d := ⟨.glo "_law_lift_right", "_law_lift_right", "_law_lift_right", top 28⟩) rfl
  obtain ⟨fd_Chain_channels, F_Chain_channels⟩ := c.def_ 20 (d := ⟨.get "Chain" "channels", "channels", "Chain.channels", inClass (top 10) 1⟩) rfl
  obtain ⟨fd_Chain_steps, F_Chain_steps⟩ := c.def_ 21 (d := ⟨.get "Chain" "steps", "steps", "Chain.steps", inClass (top 10) 2⟩) rfl
  obtain ⟨fd_law_right, F_law_right⟩ := c.def_ 22 (d := ⟨.glo "_law_right", "_law_right", "_law_right", top 29⟩) rfl
  obtain ⟨fd_law, F_law⟩ := c.def_ 23 (d := ⟨.glo "law", "law", "law", top 30⟩) rfl
  have fr_abs : mg "abs" = none := He.free_ok kx G0 (c.fact 0 (f := .fa (.free "abs")))
  have fr_max : mg "max" = none := He.free_ok kx G0 (c.fact 1 (f := .fa (.free "max")))
  have fr_int : mg "int" = none := He.free_ok kx G0 (c.fact 2 (f := .fa (.free "int")))
  have fr_len : mg "len" = none := He.free_ok kx G0 (c.fact 3 (f := .fa (.free "len")))
  have gl_law_draw : mg "_law_draw" = some (.ref (He.ga K "_law_draw")) := He.glo_ok kx G0 (c.fact 4 (f := .fa (.glo "_law_draw")))
  have fr_tuple : mg "tuple" = none := He.free_ok kx G0 (c.fact 5 (f := .fa (.free "tuple")))
  have fr_range : mg "range" = none := He.free_ok kx G0 (c.fact 6 (f := .fa (.free "range")))
  have fr_min : mg "min" = none := He.free_ok kx G0 (c.fact 7 (f := .fa (.free "min")))
  have gl_law_weights : mg "_law_weights" = some (.ref (He.ga K "_law_weights")) := He.glo_ok kx G0 (c.fact 8 (f := .fa (.glo "_law_weights")))
  have gl_law_more : mg "_law_more" = some (.ref (He.ga K "_law_more")) := He.glo_ok kx G0 (c.fact 9 (f := .fa (.glo "_law_more")))
  have gl_law_divisor : mg "_law_divisor" = some (.ref (He.ga K "_law_divisor")) := He.glo_ok kx G0 (c.fact 10 (f := .fa (.glo "_law_divisor")))
  have gl_law_lift : mg "_law_lift" = some (.ref (He.ga K "_law_lift")) := He.glo_ok kx G0 (c.fact 11 (f := .fa (.glo "_law_lift")))
  have gl_law_plain : mg "_law_plain" = some (.ref (He.ga K "_law_plain")) := He.glo_ok kx G0 (c.fact 12 (f := .fa (.glo "_law_plain")))
  have gl_ITEMS : mg "ITEMS" = some (.ref (He.ga K "ITEMS")) := He.glo_ok kx G0 (c.fact 13 (f := .fa (.glo "ITEMS")))
  have dc_ITEMS : KD K w (He.ga K "ITEMS") (tbI [("lift", some 5), ("swap", some 3), ("turn", some 2)]) := fc_dic (c.dict 0 (t := ("ITEMS", ["lift", "swap", "turn"]))) (c.fact 14 (f := .dic "ITEMS" [("lift", some 5), ("swap", some 3), ("turn", some 2)]))
  have gl_is_step : mg "is_step" = some (.ref (He.ga K "is_step")) := He.glo_ok kx G0 (c.fact 15 (f := .fa (.glo "is_step")))
  have cl_Chain : Cls K (He.ga K "Chain") := He.cls_ok (c.fact 16 (f := .fa (.cls "Chain")))
  have na_Chain_channel_count : NoAttr K (He.ga K "Chain") "channel_count" := He.noat_ok (c.fact 17 (f := .fa (.noat "Chain" "channel_count")))
  have na_Chain_kept_steps : NoAttr K (He.ga K "Chain") "kept_steps" := He.noat_ok (c.fact 18 (f := .fa (.noat "Chain" "kept_steps")))
  have gl_CHANNEL_COUNTS : mg "CHANNEL_COUNTS" = some (.ref (He.ga K "CHANNEL_COUNTS")) := He.glo_ok kx G0 (c.fact 19 (f := .fa (.glo "CHANNEL_COUNTS")))
  have cn_CHANNEL_COUNTS : ∀ H M, Rep K H M (.tup (List.map D.int [2, 3])) (.ref (He.ga K "CHANNEL_COUNTS")) := fun H M => fc_con (c.fact 20 (f := .con "CHANNEL_COUNTS" [2, 3])) H M
  have fr_enumerate : mg "enumerate" = none := He.free_ok kx G0 (c.fact 21 (f := .fa (.free "enumerate")))
  have gl_Chain : mg "Chain" = some (.ref (He.ga K "Chain")) := He.glo_ok kx G0 (c.fact 22 (f := .fa (.glo "Chain")))
  have mk_Chain : Mk K (He.ga K "Chain") (He.ma K (He.ga K "Chain") "__init__") := He.mkr_ok (c.fact 23 (f := .fa (.mkr "Chain")))
  have gl_added_by : mg "added_by" = some (.ref (He.ga K "added_by")) := He.glo_ok kx G0 (c.fact 24 (f := .fa (.glo "added_by")))
  have gl_with_steps : mg "with_steps" = some (.ref (He.ga K "with_steps")) := He.glo_ok kx G0 (c.fact 25 (f := .fa (.glo "with_steps")))
  have fr_list : mg "list" = none := He.free_ok kx G0 (c.fact 26 (f := .fa (.free "list")))
  have gl_law_entry : mg "_law_entry" = some (.ref (He.ga K "_law_entry")) := He.glo_ok kx G0 (c.fact 27 (f := .fa (.glo "_law_entry")))
  have fr_zip : mg "zip" = none := He.free_ok kx G0 (c.fact 28 (f := .fa (.free "zip")))
  have fr_sum : mg "sum" = none := He.free_ok kx G0 (c.fact 29 (f := .fa (.free "sum")))
  have gl_step_done : mg "step_done" = some (.ref (He.ga K "step_done")) := He.glo_ok kx G0 (c.fact 30 (f := .fa (.glo "step_done")))
  have gl_rounded : mg "rounded" = some (.ref (He.ga K "rounded")) := He.glo_ok kx G0 (c.fact 31 (f := .fa (.glo "rounded")))
  have gl_law_place : mg "_law_place" = some (.ref (He.ga K "_law_place")) := He.glo_ok kx G0 (c.fact 32 (f := .fa (.glo "_law_place")))
  have gl_law_next_to : mg "_law_next_to" = some (.ref (He.ga K "_law_next_to")) := He.glo_ok kx G0 (c.fact 33 (f := .fa (.glo "_law_next_to")))
  have mt_Chain_at : Meth K (He.ga K "Chain") "at" (He.ma K (He.ga K "Chain") "at") := He.meth_ok (c.fact 34 (f := .fa (.meth "Chain" "at")))
  have gl_law_few : mg "_law_few" = some (.ref (He.ga K "_law_few")) := He.glo_ok kx G0 (c.fact 35 (f := .fa (.glo "_law_few")))
  have gl_law_grown : mg "_law_grown" = some (.ref (He.ga K "_law_grown")) := He.glo_ok kx G0 (c.fact 36 (f := .fa (.glo "_law_grown")))
  have gl_law_lift_right : mg "_law_lift_right" = some (.ref (He.ga K "_law_lift_right")) := He.glo_ok kx G0 (c.fact 37 (f := .fa (.glo "_law_lift_right")))
  have pr_Chain_channels : PropOf K (He.ga K "Chain") "channels" (He.ma K (He.ga K "Chain") "channels") (pgA K (He.ga K "Chain") "channels") := fc_prop (c.fact 38 (f := .prop "Chain" "channels"))
  have pr_Chain_steps : PropOf K (He.ga K "Chain") "steps" (He.ma K (He.ga K "Chain") "steps") (pgA K (He.ga K "Chain") "steps") := fc_prop (c.fact 39 (f := .prop "Chain" "steps"))
  have fr_repr : mg "repr" = none := He.free_ok kx G0 (c.fact 40 (f := .fa (.free "repr")))
  have gl_law_pool : mg "_law_pool" = some (.ref (He.ga K "_law_pool")) := He.glo_ok kx G0 (c.fact 41 (f := .fa (.glo "_law_pool")))
  have gl_law_right : mg "_law_right" = some (.ref (He.ga K "_law_right")) := He.glo_ok kx G0 (c.fact 42 (f := .fa (.glo "_law_right")))
  have gl_law : mg "law" = some (.ref (He.ga K "law")) := He.glo_ok kx G0 (c.fact 43 (f := .fa (.glo "law")))
  refine ⟨fd_law, gl_law, bind1_of F_law fun _ _ _ _ _ _ _ => rfl, fun base => ?_⟩
  have G_law_pool : FnG PW w K mg base (L2.CX PW w) 1 (Pl.a K (.glo "_law_pool")) fd_law_pool ["script", "spot"] (liftSp K (spPool)) := mk_fn F_law_pool c_law_pool (by intro _ _ _ _ h; (repeat (obtain ⟨_, h⟩ := h)); all_goals (subst_vars; rfl)) (fun A hr => {
    fn := fun n _ _ h => by cases n <;> cases (show (none : Option _) = some _ from h)
    mt := fun n _ _ h => by cases n <;> cases (show (none : Option _) = some _ from h)
    fl := fun n _ h => by cases n <;> cases (show (none : Option _) = some _ from h)
    pr := fun n _ h => by cases n <;> cases (show (none : Option _) = some _ from h)
    cs := fun n _ h => by cases n <;> cases (show (none : Option _) = some _ from h)
    bi := List.forall_mem_cons.mpr ⟨fr_len, List.forall_mem_cons.mpr ⟨fr_int, List.forall_mem_cons.mpr ⟨fr_max, List.forall_mem_cons.mpr ⟨fr_abs, fun _ h => nomatch h⟩⟩⟩⟩
    kd := fun n _ h => by cases n <;> cases (show (none : Option _) = some _ from h)
    is := fun n _ h => by cases n <;> cases (show (none : Option _) = some _ from h)
    eq := fun n _ h => by cases n <;> cases (show (none : Option _) = some _ from h)
    ln := fun n _ h => by cases n <;> cases (show (none : Option _) = some _ from h) }) (does_pool)
  have G_law_draw : FnG PW w K mg base (L2.CX PW w) 1 (Pl.a K (.glo "_law_draw")) fd_law_draw ["pool", "many"] (liftSp K (spDraw)) := mk_fn F_law_draw c_law_draw (by intro _ _ _ _ h; (repeat (obtain ⟨_, h⟩ := h)); all_goals (subst_vars; rfl)) (fun A hr => {
    fn := fun n _ _ h => by cases n <;> cases (show (none : Option _) = some _ from h)
    mt := fun n _ _ h => by cases n <;> cases (show (none : Option _) = some _ from h)
    fl := fun n _ h => by cases n <;> cases (show (none : Option _) = some _ from h)
    pr := fun n _ h => by cases n <;> cases (show (none : Option _) = some _ from h)
    cs := fun n _ h => by cases n <;> cases (show (none : Option _) = some _ from h)
    bi := List.forall_mem_cons.mpr ⟨fr_int, fun _ h => nomatch h⟩
    kd := fun n _ h => by cases n <;> cases (show (none : Option _) = some _ from h)
    is := fun n _ h => by cases n <;> cases (show (none : Option _) = some _ from h)
    eq := fun n _ h => by cases n <;> cases (show (none : Option _) = some _ from h)
    ln := fun n _ h => by cases n <;> cases (show (none : Option _) = some _ from h) }) (does_draw)
  have D_law_draw : DOk PW w K mg base "_law_draw" [] (spDraw) 1 := ⟨_, (G_law_draw.s (kb_of 2 0 F_law_draw rfl rfl fun _ _ _ _ _ _ us ws hl hw => match us, ws, hl, hw with | [_, _], [], _, _ => rfl)), gl_law_draw, F_law_draw.kp⟩
  have G_law_weights : FnG PW w K mg base (L2.CX PW w) 2 (Pl.a K (.glo "_law_weights")) fd_law_weights ["pool", "many", "own"] (liftSp K (spWeights)) := mk_fn F_law_weights c_law_weights (by intro _ _ _ _ h; (repeat (obtain ⟨_, h⟩ := h)); all_goals (subst_vars; rfl)) (fun A hr => {
    fn := fun n x0 x1 h => match n, h with | 0, h => by change some ((("_law_draw" : Str), ([] : List Str))) = some _ at h; cases h; exact ⟨rfl, .inl (D_law_draw.e hr (by decide))⟩ | n + 1, h => by change none = some _ at h; cases h
    mt := fun n _ _ h => by cases n <;> cases (show (none : Option _) = some _ from h)
    fl := fun n _ h => by cases n <;> cases (show (none : Option _) = some _ from h)
    pr := fun n _ h => by cases n <;> cases (show (none : Option _) = some _ from h)
    cs := fun n _ h => by cases n <;> cases (show (none : Option _) = some _ from h)
    bi := List.forall_mem_cons.mpr ⟨fr_range, List.forall_mem_cons.mpr ⟨fr_tuple, fun _ h => nomatch h⟩⟩
    kd := fun n _ h => by cases n <;> cases (show (none : Option _) = some _ from h)
    is := fun n _ h => by cases n <;> cases (show (none : Option _) = some _ from h)
    eq := fun n _ h => by cases n <;> cases (show (none : Option _) = some _ from h)
    ln := fun n _ h => by cases n <;> cases (show (none : Option _) = some _ from h) }) (does_weights)
  have G_law_more : FnG PW w K mg base (L2.CX PW w) 2 (Pl.a K (.glo "_law_more")) fd_law_more ["pool"] (liftSp K (spMore)) := mk_fn F_law_more c_law_more (by intro _ _ _ _ h; (repeat (obtain ⟨_, h⟩ := h)); all_goals (subst_vars; rfl)) (fun A hr => {
    fn := fun n x0 x1 h => match n, h with | 0, h => by change some ((("_law_draw" : Str), ([] : List Str))) = some _ at h; cases h; exact ⟨rfl, .inl (D_law_draw.e hr (by decide))⟩ | n + 1, h => by change none = some _ at h; cases h
    mt := fun n _ _ h => by cases n <;> cases (show (none : Option _) = some _ from h)
    fl := fun n _ h => by cases n <;> cases (show (none : Option _) = some _ from h)
    pr := fun n _ h => by cases n <;> cases (show (none : Option _) = some _ from h)
    cs := fun n _ h => by cases n <;> cases (show (none : Option _) = some _ from h)
    bi := fun _ h => nomatch h
    kd := fun n _ h => by cases n <;> cases (show (none : Option _) = some _ from h)
    is := fun n _ h => by cases n <;> cases (show (none : Option _) = some _ from h)
    eq := fun n _ h => by cases n <;> cases (show (none : Option _) = some _ from h)
    ln := fun n _ h => by cases n <;> cases (show (none : Option _) = some _ from h) }) (does_more)
  have G_law_divisor : FnG PW w K mg base (L2.CX PW w) 2 (Pl.a K (.glo "_law_divisor")) fd_law_divisor ["pool", "room"] (liftSp K (spDivisor)) := mk_fn F_law_divisor c_law_divisor (by intro _ _ _ _ h; (repeat (obtain ⟨_, h⟩ := h)); all_goals (subst_vars; rfl)) (fun A hr => {
    fn := fun n x0 x1 h => match n, h with | 0, h => by change some ((("_law_draw" : Str), ([] : List Str))) = some _ at h; cases h; exact ⟨rfl, .inl (D_law_draw.e hr (by decide))⟩ | n + 1, h => by change none = some _ at h; cases h
    mt := fun n _ _ h => by cases n <;> cases (show (none : Option _) = some _ from h)
    fl := fun n _ h => by cases n <;> cases (show (none : Option _) = some _ from h)
    pr := fun n _ h => by cases n <;> cases (show (none : Option _) = some _ from h)
    cs := fun n _ h => by cases n <;> cases (show (none : Option _) = some _ from h)
    bi := List.forall_mem_cons.mpr ⟨fr_min, fun _ h => nomatch h⟩
    kd := fun n _ h => by cases n <;> cases (show (none : Option _) = some _ from h)
    is := fun n _ h => by cases n <;> cases (show (none : Option _) = some _ from h)
    eq := fun n _ h => by cases n <;> cases (show (none : Option _) = some _ from h)
    ln := fun n _ h => by cases n <;> cases (show (none : Option _) = some _ from h) }) (does_divisor)
  have D_law_weights : DOk PW w K mg base "_law_weights" [] (spWeights) 2 := ⟨_, (G_law_weights.s (kb_of 3 0 F_law_weights rfl rfl fun _ _ _ _ _ _ us ws hl hw => match us, ws, hl, hw with | [_, _, _], [], _, _ => rfl)), gl_law_weights, F_law_weights.kp⟩
  have D_law_more : DOk PW w K mg base "_law_more" [] (spMore) 2 := ⟨_, (G_law_more.s (kb_of 1 0 F_law_more rfl rfl fun _ _ _ _ _ _ us ws hl hw => match us, ws, hl, hw with | [_], [], _, _ => rfl)), gl_law_more, F_law_more.kp⟩
  have D_law_divisor : DOk PW w K mg base "_law_divisor" [] (spDivisor) 2 := ⟨_, (G_law_divisor.s (kb_of 2 0 F_law_divisor rfl rfl fun _ _ _ _ _ _ us ws hl hw => match us, ws, hl, hw with | [_, _], [], _, _ => rfl)), gl_law_divisor, F_law_divisor.kp⟩
  have G_law_lift : FnG PW w K mg base (L2.CX PW w) 3 (Pl.a K (.glo "_law_lift")) fd_law_lift ["pool", "many", "room"] (liftSp K (spLift)) := mk_fn F_law_lift c_law_lift (by intro _ _ _ _ h; (repeat (obtain ⟨_, h⟩ := h)); all_goals (subst_vars; rfl)) (fun A hr => {
    fn := fun n x0 x1 h => match n, h with | 0, h => by change some ((("_law_draw" : Str), ([] : List Str))) = some _ at h; cases h; exact ⟨rfl, .inl (D_law_draw.e hr (by decide))⟩ | 1, h => by change some ((("_law_weights" : Str), ([] : List Str))) = some _ at h; cases h; exact ⟨rfl, .inl (D_law_weights.e hr (by decide))⟩ | 2, h => by change some ((("_law_more" : Str), ([] : List Str))) = some _ at h; cases h; exact ⟨rfl, .inl (D_law_more.e hr (by decide))⟩ | 3, h => by change some ((("_law_divisor" : Str), ([] : List Str))) = some _ at h; cases h; exact ⟨rfl, .inl (D_law_divisor.e hr (by decide))⟩ | n + 4, h => by change none = some _ at h; cases h
    mt := fun n _ _ h => by cases n <;> cases (show (none : Option _) = some _ from h)
    fl := fun n _ h => by cases n <;> cases (show (none : Option _) = some _ from h)
    pr := fun n _ h => by cases n <;> cases (show (none : Option _) = some _ from h)
    cs := fun n _ h => by cases n <;> cases (show (none : Option _) = some _ from h)
    bi := fun _ h => nomatch h
    kd := fun n _ h => by cases n <;> cases (show (none : Option _) = some _ from h)
    is := fun n _ h => by cases n <;> cases (show (none : Option _) = some _ from h)
    eq := fun n _ h => by cases n <;> cases (show (none : Option _) = some _ from h)
    ln := fun n _ h => by cases n <;> cases (show (none : Option _) = some _ from h) }) (does_lift)
  have G_law_plain : FnG PW w K mg base (L2.CX PW w) 2 (Pl.a K (.glo "_law_plain")) fd_law_plain ["pool", "many"] (liftSp K (spPlain)) := mk_fn F_law_plain c_law_plain (by intro _ _ _ _ h; (repeat (obtain ⟨_, h⟩ := h)); all_goals (subst_vars; rfl)) (fun A hr => {
    fn := fun n x0 x1 h => match n, h with | 0, h => by change some ((("_law_draw" : Str), ([] : List Str))) = some _ at h; cases h; exact ⟨rfl, .inl (D_law_draw.e hr (by decide))⟩ | n + 1, h => by change none = some _ at h; cases h
    mt := fun n _ _ h => by cases n <;> cases (show (none : Option _) = some _ from h)
    fl := fun n _ h => by cases n <;> cases (show (none : Option _) = some _ from h)
    pr := fun n _ h => by cases n <;> cases (show (none : Option _) = some _ from h)
    cs := fun n _ h => by cases n <;> cases (show (none : Option _) = some _ from h)
    bi := fun _ h => nomatch h
    kd := fun n _ h => by cases n <;> cases (show (none : Option _) = some _ from h)
    is := fun n _ h => by cases n <;> cases (show (none : Option _) = some _ from h)
    eq := fun n _ h => by cases n <;> cases (show (none : Option _) = some _ from h)
    ln := fun n _ h => by cases n <;> cases (show (none : Option _) = some _ from h) }) (does_plain)
  have D_law_lift : DOk PW w K mg base "_law_lift" [] (spLift) 3 := ⟨_, (G_law_lift.s (kb_of 3 0 F_law_lift rfl rfl fun _ _ _ _ _ _ us ws hl hw => match us, ws, hl, hw with | [_, _, _], [], _, _ => rfl)), gl_law_lift, F_law_lift.kp⟩
  have D_law_plain : DOk PW w K mg base "_law_plain" [] (spPlain) 2 := ⟨_, (G_law_plain.s (kb_of 2 0 F_law_plain rfl rfl fun _ _ _ _ _ _ us ws hl hw => match us, ws, hl, hw with | [_, _], [], _, _ => rfl)), gl_law_plain, F_law_plain.kp⟩
  have G_law_few : FnG PW w K mg base (L2.CX PW w) 4 (Pl.a K (.glo "_law_few")) fd_law_few ["pool", "many", "most", "product"] (liftSp K (spFew)) := mk_fn F_law_few c_law_few (by intro _ _ _ _ h; (repeat (obtain ⟨_, h⟩ := h)); all_goals (subst_vars; rfl)) (fun A hr => {
    fn := fun n x0 x1 h => match n, h with | 0, h => by change some ((("_law_draw" : Str), ([] : List Str))) = some _ at h; cases h; exact ⟨rfl, .inl (D_law_draw.e hr (by decide))⟩ | 1, h => by change some ((("_law_lift" : Str), ([] : List Str))) = some _ at h; cases h; exact ⟨rfl, .inl (D_law_lift.e hr (by decide))⟩ | 2, h => by change some ((("_law_plain" : Str), ([] : List Str))) = some _ at h; cases h; exact ⟨rfl, .inl (D_law_plain.e hr (by decide))⟩ | n + 3, h => by change none = some _ at h; cases h
    mt := fun n _ _ h => by cases n <;> cases (show (none : Option _) = some _ from h)
    fl := fun n _ h => by cases n <;> cases (show (none : Option _) = some _ from h)
    pr := fun n _ h => by cases n <;> cases (show (none : Option _) = some _ from h)
    cs := fun n _ h => by cases n <;> cases (show (none : Option _) = some _ from h)
    bi := List.forall_mem_cons.mpr ⟨fr_range, fun _ h => nomatch h⟩
    kd := fun n _ h => by cases n <;> cases (show (none : Option _) = some _ from h)
    is := fun n _ h => by cases n <;> cases (show (none : Option _) = some _ from h)
    eq := fun n _ h => by cases n <;> cases (show (none : Option _) = some _ from h)
    ln := fun n _ h => by cases n <;> cases (show (none : Option _) = some _ from h) }) (does_few)
  have G_is_step : FnG PW w K mg base (L2.CX PW w) 1 (Pl.a K (.glo "is_step")) fd_is_step ["step", "channels"] (liftSp K (spIsStep)) := mk_fn F_is_step c_is_step (by intro _ _ _ _ h; (repeat (obtain ⟨_, h⟩ := h)); all_goals (subst_vars; rfl)) (fun A hr => {
    fn := fun n _ _ h => by cases n <;> cases (show (none : Option _) = some _ from h)
    mt := fun n _ _ h => by cases n <;> cases (show (none : Option _) = some _ from h)
    fl := fun n _ h => by cases n <;> cases (show (none : Option _) = some _ from h)
    pr := fun n _ h => by cases n <;> cases (show (none : Option _) = some _ from h)
    cs := fun n _ h => by cases n <;> cases (show (none : Option _) = some _ from h)
    bi := List.forall_mem_cons.mpr ⟨fr_len, fun _ h => nomatch h⟩
    kd := fun n x0 h => match n, h with | 0, h => by change some (("ITEMS" : Str)) = some _ at h; cases h; exact ⟨_, gl_ITEMS, dc_ITEMS⟩ | n + 1, h => by change none = some _ at h; cases h
    is := fun n _ h => by cases n <;> cases (show (none : Option _) = some _ from h)
    eq := fun n _ h => by cases n <;> cases (show (none : Option _) = some _ from h)
    ln := fun n _ h => by cases n <;> cases (show (none : Option _) = some _ from h) }) (does_isStep)
  have D_is_step : DOk PW w K mg base "is_step" [] (spIsStep) 1 := ⟨_, (G_is_step.s (kb_of 2 0 F_is_step rfl rfl fun _ _ _ _ _ _ us ws hl hw => match us, ws, hl, hw with | [_, _], [], _, _ => rfl)), gl_is_step, F_is_step.kp⟩
  have G_Chain_init : FnG PW w K mg base (L2.CX PW w) 2 (Pl.a K (.meth "Chain" "__init__")) fd_Chain_init ["self", "channels", "steps"] (liftSp K (spInit (He.ga K "Chain"))) := mk_fn F_Chain_init c_Chain_init (by intro _ _ _ _ h; (repeat (obtain ⟨_, h⟩ := h)); all_goals (subst_vars; rfl)) (fun A hr => {
    fn := fun n x0 x1 h => match n, h with | 0, h => by change some ((("is_step" : Str), ([] : List Str))) = some _ at h; cases h; exact ⟨rfl, .inl (D_is_step.e hr (by decide))⟩ | n + 1, h => by change none = some _ at h; cases h
    mt := fun n _ _ h => by cases n <;> cases (show (none : Option _) = some _ from h)
    fl := fun n x0 h => match n, h with | 0, h => by change some (("channel_count" : Str)) = some _ at h; cases h; exact ⟨rfl, cl_Chain, na_Chain_channel_count⟩ | 1, h => by change some (("kept_steps" : Str)) = some _ at h; cases h; exact ⟨rfl, cl_Chain, na_Chain_kept_steps⟩ | n + 2, h => by change none = some _ at h; cases h
    pr := fun n _ h => by cases n <;> cases (show (none : Option _) = some _ from h)
    cs := fun n x0 h => match n, h with | 0, h => by change some (("CHANNEL_COUNTS" : Str)) = some _ at h; cases h; exact ⟨.ref _, _, gl_CHANNEL_COUNTS, rfl, cn_CHANNEL_COUNTS⟩ | n + 1, h => by change none = some _ at h; cases h
    bi := List.forall_mem_cons.mpr ⟨fr_enumerate, List.forall_mem_cons.mpr ⟨fr_tuple, fun _ h => nomatch h⟩⟩
    kd := fun n _ h => by cases n <;> cases (show (none : Option _) = some _ from h)
    is := fun n _ h => by cases n <;> cases (show (none : Option _) = some _ from h)
    eq := fun n _ h => by cases n <;> cases (show (none : Option _) = some _ from h)
    ln := fun n _ h => by cases n <;> cases (show (none : Option _) = some _ from h) }) (does_init (He.ga K "Chain"))
  have G_added_by : FnG PW w K mg base (L2.CX PW w) 1 (Pl.a K (.glo "added_by")) fd_added_by ["way", "divisor"] (liftSp K (spAdded)) := mk_fn F_added_by c_added_by (by intro _ _ _ _ h; (repeat (obtain ⟨_, h⟩ := h)); all_goals (subst_vars; rfl)) (fun A hr => {
    fn := fun n _ _ h => by cases n <;> cases (show (none : Option _) = some _ from h)
    mt := fun n _ _ h => by cases n <;> cases (show (none : Option _) = some _ from h)
    fl := fun n _ h => by cases n <;> cases (show (none : Option _) = some _ from h)
    pr := fun n _ h => by cases n <;> cases (show (none : Option _) = some _ from h)
    cs := fun n _ h => by cases n <;> cases (show (none : Option _) = some _ from h)
    bi := fun _ h => nomatch h
    kd := fun n _ h => by cases n <;> cases (show (none : Option _) = some _ from h)
    is := fun n _ h => by cases n <;> cases (show (none : Option _) = some _ from h)
    eq := fun n _ h => by cases n <;> cases (show (none : Option _) = some _ from h)
    ln := fun n _ h => by cases n <;> cases (show (none : Option _) = some _ from h) }) (does_added)
  have K_Chain : KOk PW w K mg base "Chain" [] (He.ga K "Chain") (spInit (He.ga K "Chain")) 2 := ⟨_, (G_Chain_init.s (kb_of 3 0 F_Chain_init rfl rfl fun _ _ _ _ _ _ us ws hl hw => match us, ws, hl, hw with | [_, _, _], [], _, _ => rfl)), gl_Chain, mk_Chain⟩
  have G_with_steps : FnG PW w K mg base (L2.CX PW w) 4 (Pl.a K (.glo "with_steps")) fd_with_steps ["chain", "steps"] (liftSp K (spWith (He.ga K "Chain"))) := mk_fn F_with_steps c_with_steps (by intro _ _ _ _ h; (repeat (obtain ⟨_, h⟩ := h)); all_goals (subst_vars; rfl)) (fun A hr => {
    fn := fun n x0 x1 h => match n, h with | 0, h => by change some ((("Chain" : Str), ([] : List Str))) = some _ at h; cases h; exact ⟨rfl, .inr ⟨_, _, rfl, K_Chain.e hr (by decide)⟩⟩ | n + 1, h => by change none = some _ at h; cases h
    mt := fun n _ _ h => by cases n <;> cases (show (none : Option _) = some _ from h)
    fl := fun n x0 h => match n, h with | 0, h => by change some (("channel_count" : Str)) = some _ at h; cases h; exact ⟨rfl, cl_Chain, na_Chain_channel_count⟩ | n + 1, h => by change none = some _ at h; cases h
    pr := fun n _ h => by cases n <;> cases (show (none : Option _) = some _ from h)
    cs := fun n _ h => by cases n <;> cases (show (none : Option _) = some _ from h)
    bi := fun _ h => nomatch h
    kd := fun n _ h => by cases n <;> cases (show (none : Option _) = some _ from h)
    is := fun n _ h => by cases n <;> cases (show (none : Option _) = some _ from h)
    eq := fun n _ h => by cases n <;> cases (show (none : Option _) = some _ from h)
    ln := fun n _ h => by cases n <;> cases (show (none : Option _) = some _ from h) }) (does_with (He.ga K "Chain"))
  have D_added_by : DOk PW w K mg base "added_by" [] (spAdded) 1 := ⟨_, (G_added_by.s (kb_of 2 0 F_added_by rfl rfl fun _ _ _ _ _ _ us ws hl hw => match us, ws, hl, hw with | [_, _], [], _, _ => rfl)), gl_added_by, F_added_by.kp⟩
  have D_with_steps : DOk PW w K mg base "with_steps" [] (spWith (He.ga K "Chain")) 4 := ⟨_, (G_with_steps.s (kb_of 2 0 F_with_steps rfl rfl fun _ _ _ _ _ _ us ws hl hw => match us, ws, hl, hw with | [_, _], [], _, _ => rfl)), gl_with_steps, F_with_steps.kp⟩
  have G_rounded : FnG PW w K mg base (L2.CX PW w) 5 (Pl.a K (.glo "rounded")) fd_rounded ["chain", "number", "way"] (liftSp K (spRounded (He.ga K "Chain"))) := mk_fn F_rounded c_rounded (by intro _ _ _ _ h; (repeat (obtain ⟨_, h⟩ := h)); all_goals (subst_vars; rfl)) (fun A hr => {
    fn := fun n x0 x1 h => match n, h with | 0, h => by change some ((("added_by" : Str), ([] : List Str))) = some _ at h; cases h; exact ⟨rfl, .inl (D_added_by.e hr (by decide))⟩ | 1, h => by change some ((("with_steps" : Str), ([] : List Str))) = some _ at h; cases h; exact ⟨rfl, .inl (D_with_steps.e hr (by decide))⟩ | n + 2, h => by change none = some _ at h; cases h
    mt := fun n _ _ h => by cases n <;> cases (show (none : Option _) = some _ from h)
    fl := fun n x0 h => match n, h with | 0, h => by change some (("kept_steps" : Str)) = some _ at h; cases h; exact ⟨rfl, cl_Chain, na_Chain_kept_steps⟩ | n + 1, h => by change none = some _ at h; cases h
    pr := fun n _ h => by cases n <;> cases (show (none : Option _) = some _ from h)
    cs := fun n _ h => by cases n <;> cases (show (none : Option _) = some _ from h)
    bi := List.forall_mem_cons.mpr ⟨fr_list, List.forall_mem_cons.mpr ⟨fr_len, fun _ h => nomatch h⟩⟩
    kd := fun n _ h => by cases n <;> cases (show (none : Option _) = some _ from h)
    is := fun n _ h => by cases n <;> cases (show (none : Option _) = some _ from h)
    eq := fun n _ h => by cases n <;> cases (show (none : Option _) = some _ from h)
    ln := fun n _ h => by cases n <;> cases (show (none : Option _) = some _ from h) }) (does_rounded (He.ga K "Chain"))
  have G_law_grown : FnG PW w K mg base (L2.CX PW w) 1 (Pl.a K (.glo "_law_grown")) fd_law_grown ["one", "kind"] (liftSp K (spGrown)) := mk_fn F_law_grown c_law_grown (by intro _ _ _ _ h; (repeat (obtain ⟨_, h⟩ := h)); all_goals (subst_vars; rfl)) (fun A hr => {
    fn := fun n _ _ h => by cases n <;> cases (show (none : Option _) = some _ from h)
    mt := fun n _ _ h => by cases n <;> cases (show (none : Option _) = some _ from h)
    fl := fun n _ h => by cases n <;> cases (show (none : Option _) = some _ from h)
    pr := fun n _ h => by cases n <;> cases (show (none : Option _) = some _ from h)
    cs := fun n _ h => by cases n <;> cases (show (none : Option _) = some _ from h)
    bi := fun _ h => nomatch h
    kd := fun n _ h => by cases n <;> cases (show (none : Option _) = some _ from h)
    is := fun n _ h => by cases n <;> cases (show (none : Option _) = some _ from h)
    eq := fun n _ h => by cases n <;> cases (show (none : Option _) = some _ from h)
    ln := fun n _ h => by cases n <;> cases (show (none : Option _) = some _ from h) }) (does_grown)
  have G_law_entry : FnG PW w K mg base (L2.CX PW w) 2 (Pl.a K (.glo "_law_entry")) fd_law_entry ["pool", "far"] (liftSp K (spEntry)) := mk_fn F_law_entry c_law_entry (by intro _ _ _ _ h; (repeat (obtain ⟨_, h⟩ := h)); all_goals (subst_vars; rfl)) (fun A hr => {
    fn := fun n x0 x1 h => match n, h with | 0, h => by change some ((("_law_draw" : Str), ([] : List Str))) = some _ at h; cases h; exact ⟨rfl, .inl (D_law_draw.e hr (by decide))⟩ | n + 1, h => by change none = some _ at h; cases h
    mt := fun n _ _ h => by cases n <;> cases (show (none : Option _) = some _ from h)
    fl := fun n _ h => by cases n <;> cases (show (none : Option _) = some _ from h)
    pr := fun n _ h => by cases n <;> cases (show (none : Option _) = some _ from h)
    cs := fun n _ h => by cases n <;> cases (show (none : Option _) = some _ from h)
    bi := fun _ h => nomatch h
    kd := fun n _ h => by cases n <;> cases (show (none : Option _) = some _ from h)
    is := fun n _ h => by cases n <;> cases (show (none : Option _) = some _ from h)
    eq := fun n _ h => by cases n <;> cases (show (none : Option _) = some _ from h)
    ln := fun n _ h => by cases n <;> cases (show (none : Option _) = some _ from h) }) (does_entry)
  have D_law_entry : DOk PW w K mg base "_law_entry" [] (spEntry) 2 := ⟨_, (G_law_entry.s (kb_of 2 0 F_law_entry rfl rfl fun _ _ _ _ _ _ us ws hl hw => match us, ws, hl, hw with | [_, _], [], _, _ => rfl)), gl_law_entry, F_law_entry.kp⟩
  have G_law_place : FnG PW w K mg base (L2.CX PW w) 3 (Pl.a K (.glo "_law_place")) fd_law_place ["pool", "many", "far"] (liftSp K (spPlace)) := mk_fn F_law_place c_law_place (by intro _ _ _ _ h; (repeat (obtain ⟨_, h⟩ := h)); all_goals (subst_vars; rfl)) (fun A hr => {
    fn := fun n x0 x1 h => match n, h with | 0, h => by change some ((("_law_entry" : Str), ([] : List Str))) = some _ at h; cases h; exact ⟨rfl, .inl (D_law_entry.e hr (by decide))⟩ | n + 1, h => by change none = some _ at h; cases h
    mt := fun n _ _ h => by cases n <;> cases (show (none : Option _) = some _ from h)
    fl := fun n _ h => by cases n <;> cases (show (none : Option _) = some _ from h)
    pr := fun n _ h => by cases n <;> cases (show (none : Option _) = some _ from h)
    cs := fun n _ h => by cases n <;> cases (show (none : Option _) = some _ from h)
    bi := List.forall_mem_cons.mpr ⟨fr_tuple, List.forall_mem_cons.mpr ⟨fr_range, fun _ h => nomatch h⟩⟩
    kd := fun n _ h => by cases n <;> cases (show (none : Option _) = some _ from h)
    is := fun n _ h => by cases n <;> cases (show (none : Option _) = some _ from h)
    eq := fun n _ h => by cases n <;> cases (show (none : Option _) = some _ from h)
    ln := fun n _ h => by cases n <;> cases (show (none : Option _) = some _ from h) }) (does_place)
  have G_law_next_to : FnG PW w K mg base (L2.CX PW w) 1 (Pl.a K (.glo "_law_next_to")) fd_law_next_to ["share", "total", "divisor", "kind"] (liftSp K (spNext)) := mk_fn F_law_next_to c_law_next_to (by intro _ _ _ _ h; (repeat (obtain ⟨_, h⟩ := h)); all_goals (subst_vars; rfl)) (fun A hr => {
    fn := fun n _ _ h => by cases n <;> cases (show (none : Option _) = some _ from h)
    mt := fun n _ _ h => by cases n <;> cases (show (none : Option _) = some _ from h)
    fl := fun n _ h => by cases n <;> cases (show (none : Option _) = some _ from h)
    pr := fun n _ h => by cases n <;> cases (show (none : Option _) = some _ from h)
    cs := fun n _ h => by cases n <;> cases (show (none : Option _) = some _ from h)
    bi := fun _ h => nomatch h
    kd := fun n _ h => by cases n <;> cases (show (none : Option _) = some _ from h)
    is := fun n _ h => by cases n <;> cases (show (none : Option _) = some _ from h)
    eq := fun n _ h => by cases n <;> cases (show (none : Option _) = some _ from h)
    ln := fun n _ h => by cases n <;> cases (show (none : Option _) = some _ from h) }) (does_next)
  have G_step_done : FnG PW w K mg base (L2.CX PW w) 1 (Pl.a K (.glo "step_done")) fd_step_done ["step", "vector"] (liftSp K (spDone)) := mk_fn F_step_done c_step_done (by intro _ _ _ _ h; (repeat (obtain ⟨_, h⟩ := h)); all_goals (subst_vars; rfl)) (fun A hr => {
    fn := fun n _ _ h => by cases n <;> cases (show (none : Option _) = some _ from h)
    mt := fun n _ _ h => by cases n <;> cases (show (none : Option _) = some _ from h)
    fl := fun n _ h => by cases n <;> cases (show (none : Option _) = some _ from h)
    pr := fun n _ h => by cases n <;> cases (show (none : Option _) = some _ from h)
    cs := fun n _ h => by cases n <;> cases (show (none : Option _) = some _ from h)
    bi := List.forall_mem_cons.mpr ⟨fr_list, List.forall_mem_cons.mpr ⟨fr_sum, List.forall_mem_cons.mpr ⟨fr_zip, List.forall_mem_cons.mpr ⟨fr_tuple, fun _ h => nomatch h⟩⟩⟩⟩
    kd := fun n _ h => by cases n <;> cases (show (none : Option _) = some _ from h)
    is := fun n _ h => by cases n <;> cases (show (none : Option _) = some _ from h)
    eq := fun n _ h => by cases n <;> cases (show (none : Option _) = some _ from h)
    ln := fun n _ h => by cases n <;> cases (show (none : Option _) = some _ from h) }) (does_step_done)
  have D_step_done : DOk PW w K mg base "step_done" [] (spDone) 1 := ⟨_, (G_step_done.s (kb_of 2 0 F_step_done rfl rfl fun _ _ _ _ _ _ us ws hl hw => match us, ws, hl, hw with | [_, _], [], _, _ => rfl)), gl_step_done, F_step_done.kp⟩
  have G_Chain_at : FnG PW w K mg base (L2.CX PW w) 2 (Pl.a K (.meth "Chain" "at")) fd_Chain_at ["self", "vector"] (liftSp K (spAt (He.ga K "Chain"))) := mk_fn F_Chain_at c_Chain_at (by intro _ _ _ _ h; (repeat (obtain ⟨_, h⟩ := h)); all_goals (subst_vars; rfl)) (fun A hr => {
    fn := fun n x0 x1 h => match n, h with | 0, h => by change some ((("step_done" : Str), ([] : List Str))) = some _ at h; cases h; exact ⟨rfl, .inl (D_step_done.e hr (by decide))⟩ | n + 1, h => by change none = some _ at h; cases h
    mt := fun n _ _ h => by cases n <;> cases (show (none : Option _) = some _ from h)
    fl := fun n x0 h => match n, h with | 0, h => by change some (("kept_steps" : Str)) = some _ at h; cases h; exact ⟨rfl, cl_Chain, na_Chain_kept_steps⟩ | n + 1, h => by change none = some _ at h; cases h
    pr := fun n _ h => by cases n <;> cases (show (none : Option _) = some _ from h)
    cs := fun n _ h => by cases n <;> cases (show (none : Option _) = some _ from h)
    bi := fun _ h => nomatch h
    kd := fun n _ h => by cases n <;> cases (show (none : Option _) = some _ from h)
    is := fun n _ h => by cases n <;> cases (show (none : Option _) = some _ from h)
    eq := fun n _ h => by cases n <;> cases (show (none : Option _) = some _ from h)
    ln := fun n _ h => by cases n <;> cases (show (none : Option _) = some _ from h) }) (does_at (He.ga K "Chain"))
  have D_rounded : DOk PW w K mg base "rounded" [] (spRounded (He.ga K "Chain")) 5 := ⟨_, (G_rounded.s (kb_of 3 0 F_rounded rfl rfl fun _ _ _ _ _ _ us ws hl hw => match us, ws, hl, hw with | [_, _, _], [], _, _ => rfl)), gl_rounded, F_rounded.kp⟩
  have D_law_place : DOk PW w K mg base "_law_place" [] (spPlace) 3 := ⟨_, (G_law_place.s (kb_of 3 0 F_law_place rfl rfl fun _ _ _ _ _ _ us ws hl hw => match us, ws, hl, hw with | [_, _, _], [], _, _ => rfl)), gl_law_place, F_law_place.kp⟩
  have D_law_next_to : DOk PW w K mg base "_law_next_to" [] (spNext) 1 := ⟨_, (G_law_next_to.s (kb_of 4 0 F_law_next_to rfl rfl fun _ _ _ _ _ _ us ws hl hw => match us, ws, hl, hw with | [_, _, _, _], [], _, _ => rfl)), gl_law_next_to, F_law_next_to.kp⟩
  have M_Chain_at : MtOk PW w K mg base "at" [] (He.ga K "Chain") (spAt (He.ga K "Chain")) 2 := ⟨_, (G_Chain_at.s (kb_of 2 0 F_Chain_at rfl rfl fun _ _ _ _ _ _ us ws hl hw => match us, ws, hl, hw with | [_, _], [], _, _ => rfl)), cl_Chain, mt_Chain_at⟩
  have G_law_lift_right : FnG PW w K mg base (L2.CX PW w) 6 (Pl.a K (.glo "_law_lift_right")) fd_law_lift_right ["pool", "many", "one", "kind"] (liftSp K (spLR)) := mk_fn F_law_lift_right c_law_lift_right (by intro _ _ _ _ h; (repeat (obtain ⟨_, h⟩ := h)); all_goals (subst_vars; rfl)) (fun A hr => {
    fn := fun n x0 x1 h => match n, h with | 0, h => by change some ((("rounded" : Str), ([] : List Str))) = some _ at h; cases h; exact ⟨rfl, .inl (D_rounded.e hr (by decide))⟩ | 1, h => by change some ((("Chain" : Str), ([] : List Str))) = some _ at h; cases h; exact ⟨rfl, .inr ⟨_, _, rfl, K_Chain.e hr (by decide)⟩⟩ | 2, h => by change some ((("_law_draw" : Str), ([] : List Str))) = some _ at h; cases h; exact ⟨rfl, .inl (D_law_draw.e hr (by decide))⟩ | 3, h => by change some ((("_law_place" : Str), ([] : List Str))) = some _ at h; cases h; exact ⟨rfl, .inl (D_law_place.e hr (by decide))⟩ | 4, h => by change some ((("_law_next_to" : Str), ([] : List Str))) = some _ at h; cases h; exact ⟨rfl, .inl (D_law_next_to.e hr (by decide))⟩ | n + 5, h => by change none = some _ at h; cases h
    mt := fun n x0 x1 h => match n, h with | 0, h => by change some ((("at" : Str), ([] : List Str))) = some _ at h; cases h; exact ⟨rfl, rfl, M_Chain_at.e hr (by decide)⟩ | n + 1, h => by change none = some _ at h; cases h
    fl := fun n _ h => by cases n <;> cases (show (none : Option _) = some _ from h)
    pr := fun n _ h => by cases n <;> cases (show (none : Option _) = some _ from h)
    cs := fun n _ h => by cases n <;> cases (show (none : Option _) = some _ from h)
    bi := List.forall_mem_cons.mpr ⟨fr_int, List.forall_mem_cons.mpr ⟨fr_range, List.forall_mem_cons.mpr ⟨fr_zip, fun _ h => nomatch h⟩⟩⟩
    kd := fun n _ h => by cases n <;> cases (show (none : Option _) = some _ from h)
    is := fun n _ h => by cases n <;> cases (show (none : Option _) = some _ from h)
    eq := fun n _ h => by cases n <;> cases (show (none : Option _) = some _ from h)
    ln := fun n _ h => by cases n <;> cases (show (none : Option _) = some _ from h) }) (does_lr (He.ga K "Chain"))
  have G_Chain_channels : FnG PW w K mg base (L2.CX PW w) 1 (Pl.a K (.get "Chain" "channels")) fd_Chain_channels ["self"] (liftSp K (spChannels (He.ga K "Chain"))) := mk_fn F_Chain_channels c_Chain_channels (by intro _ _ _ _ h; (repeat (obtain ⟨_, h⟩ := h)); all_goals (subst_vars; rfl)) (fun A hr => {
    fn := fun n _ _ h => by cases n <;> cases (show (none : Option _) = some _ from h)
    mt := fun n _ _ h => by cases n <;> cases (show (none : Option _) = some _ from h)
    fl := fun n x0 h => match n, h with | 0, h => by change some (("channel_count" : Str)) = some _ at h; cases h; exact ⟨rfl, cl_Chain, na_Chain_channel_count⟩ | n + 1, h => by change none = some _ at h; cases h
    pr := fun n _ h => by cases n <;> cases (show (none : Option _) = some _ from h)
    cs := fun n _ h => by cases n <;> cases (show (none : Option _) = some _ from h)
    bi := fun _ h => nomatch h
    kd := fun n _ h => by cases n <;> cases (show (none : Option _) = some _ from h)
    is := fun n _ h => by cases n <;> cases (show (none : Option _) = some _ from h)
    eq := fun n _ h => by cases n <;> cases (show (none : Option _) = some _ from h)
    ln := fun n _ h => by cases n <;> cases (show (none : Option _) = some _ from h) }) (does_channels (He.ga K "Chain"))
  have G_Chain_steps : FnG PW w K mg base (L2.CX PW w) 1 (Pl.a K (.get "Chain" "steps")) fd_Chain_steps ["self"] (liftSp K (spSteps (He.ga K "Chain"))) := mk_fn F_Chain_steps c_Chain_steps (by intro _ _ _ _ h; (repeat (obtain ⟨_, h⟩ := h)); all_goals (subst_vars; rfl)) (fun A hr => {
    fn := fun n _ _ h => by cases n <;> cases (show (none : Option _) = some _ from h)
    mt := fun n _ _ h => by cases n <;> cases (show (none : Option _) = some _ from h)
    fl := fun n x0 h => match n, h with | 0, h => by change some (("kept_steps" : Str)) = some _ at h; cases h; exact ⟨rfl, cl_Chain, na_Chain_kept_steps⟩ | n + 1, h => by change none = some _ at h; cases h
    pr := fun n _ h => by cases n <;> cases (show (none : Option _) = some _ from h)
    cs := fun n _ h => by cases n <;> cases (show (none : Option _) = some _ from h)
    bi := List.forall_mem_cons.mpr ⟨fr_list, fun _ h => nomatch h⟩
    kd := fun n _ h => by cases n <;> cases (show (none : Option _) = some _ from h)
    is := fun n _ h => by cases n <;> cases (show (none : Option _) = some _ from h)
    eq := fun n _ h => by cases n <;> cases (show (none : Option _) = some _ from h)
    ln := fun n _ h => by cases n <;> cases (show (none : Option _) = some _ from h) }) (does_steps (He.ga K "Chain"))
  have D_law_few : DOk PW w K mg base "_law_few" [] (spFew) 4 := ⟨_, (G_law_few.s (kb_of 4 0 F_law_few rfl rfl fun _ _ _ _ _ _ us ws hl hw => match us, ws, hl, hw with | [_, _, _, _], [], _, _ => rfl)), gl_law_few, F_law_few.kp⟩
  have D_rounded_chain_way_number : DOk PW w K mg base "rounded" ["chain", "way", "number"] (spRoundedP (He.ga K "Chain")) 5 := ⟨_, (G_rounded.perm (kbp_of (g := [0, 2, 1]) 0 3 F_rounded rfl rfl fun _ _ _ _ _ _ us ws hl hw => match us, ws, hl, hw with | [], [_, _, _], _, _ => rfl) (by intro _ _ _ _ h; exact perm_rounded h)), gl_rounded, F_rounded.kp⟩
  have D_law_grown : DOk PW w K mg base "_law_grown" [] (spGrown) 1 := ⟨_, (G_law_grown.s (kb_of 2 0 F_law_grown rfl rfl fun _ _ _ _ _ _ us ws hl hw => match us, ws, hl, hw with | [_, _], [], _, _ => rfl)), gl_law_grown, F_law_grown.kp⟩
  have D_law_lift_right : DOk PW w K mg base "_law_lift_right" [] (spLR) 6 := ⟨_, (G_law_lift_right.s (kb_of 4 0 F_law_lift_right rfl rfl fun _ _ _ _ _ _ us ws hl hw => match us, ws, hl, hw with | [_, _, _, _], [], _, _ => rfl)), gl_law_lift_right, F_law_lift_right.kp⟩
  have P_Chain_channels : POk PW w K mg base "channels" (He.ga K "Chain") (spChannels (He.ga K "Chain")) 1 := ⟨_, _, _, _, G_Chain_channels, cl_Chain, pr_Chain_channels, binds_of (kb_of 1 0 F_Chain_channels rfl rfl fun _ _ _ _ _ _ us ws hl hw => match us, ws, hl, hw with | [_], [], _, _ => rfl)⟩
  have P_Chain_steps : POk PW w K mg base "steps" (He.ga K "Chain") (spSteps (He.ga K "Chain")) 1 := ⟨_, _, _, _, G_Chain_steps, cl_Chain, pr_Chain_steps, binds_of (kb_of 1 0 F_Chain_steps rfl rfl fun _ _ _ _ _ _ us ws hl hw => match us, ws, hl, hw with | [_], [], _, _ => rfl)⟩
  have G_law_right : FnG PW w K mg base (L2.CX PW w) 7 (Pl.a K (.glo "_law_right")) fd_law_right ["pool", "many"] (liftSp K (spRight (He.ga K "Chain"))) := mk_fn F_law_right c_law_right (by intro _ _ _ _ h; (repeat (obtain ⟨_, h⟩ := h)); all_goals (subst_vars; rfl)) (fun A hr => {
    fn := fun n x0 x1 h => match n, h with | 0, h => by change some ((("_law_few" : Str), ([] : List Str))) = some _ at h; cases h; exact ⟨rfl, .inl (D_law_few.e hr (by decide))⟩ | 1, h => by change some ((("_law_draw" : Str), ([] : List Str))) = some _ at h; cases h; exact ⟨rfl, .inl (D_law_draw.e hr (by decide))⟩ | 2, h => by change some ((("_law_lift" : Str), ([] : List Str))) = some _ at h; cases h; exact ⟨rfl, .inl (D_law_lift.e hr (by decide))⟩ | 3, h => by change some ((("Chain" : Str), ([] : List Str))) = some _ at h; cases h; exact ⟨rfl, .inr ⟨_, _, rfl, K_Chain.e hr (by decide)⟩⟩ | 4, h => by change some ((("rounded" : Str), (["chain", "way", "number"] : List Str))) = some _ at h; cases h; exact ⟨rfl, .inl (D_rounded_chain_way_number.e hr (by decide))⟩ | 5, h => by change some ((("_law_grown" : Str), ([] : List Str))) = some _ at h; cases h; exact ⟨rfl, .inl (D_law_grown.e hr (by decide))⟩ | 6, h => by change some ((("rounded" : Str), ([] : List Str))) = some _ at h; cases h; exact ⟨rfl, .inl (D_rounded.e hr (by decide))⟩ | 7, h => by change some ((("_law_lift_right" : Str), ([] : List Str))) = some _ at h; cases h; exact ⟨rfl, .inl (D_law_lift_right.e hr (by decide))⟩ | n + 8, h => by change none = some _ at h; cases h
    mt := fun n _ _ h => by cases n <;> cases (show (none : Option _) = some _ from h)
    fl := fun n _ h => by cases n <;> cases (show (none : Option _) = some _ from h)
    pr := fun n x0 h => match n, h with | 0, h => by change some (("channels" : Str)) = some _ at h; cases h; exact ⟨rfl, P_Chain_channels.e hr (by decide)⟩ | 1, h => by change some (("steps" : Str)) = some _ at h; cases h; exact ⟨rfl, P_Chain_steps.e hr (by decide)⟩ | n + 2, h => by change none = some _ at h; cases h
    cs := fun n _ h => by cases n <;> cases (show (none : Option _) = some _ from h)
    bi := List.forall_mem_cons.mpr ⟨fr_len, List.forall_mem_cons.mpr ⟨fr_range, List.forall_mem_cons.mpr ⟨fr_list, List.forall_mem_cons.mpr ⟨fr_repr, fun _ h => nomatch h⟩⟩⟩⟩
    kd := fun n _ h => by cases n <;> cases (show (none : Option _) = some _ from h)
    is := fun n _ h => by cases n <;> cases (show (none : Option _) = some _ from h)
    eq := fun n _ h => by cases n <;> cases (show (none : Option _) = some _ from h)
    ln := fun n _ h => by cases n <;> cases (show (none : Option _) = some _ from h) }) (does_right (He.ga K "Chain"))
  have D_law_pool : DOk PW w K mg base "_law_pool" [] (spPool) 1 := ⟨_, (G_law_pool.s (kb_of 2 0 F_law_pool rfl rfl fun _ _ _ _ _ _ us ws hl hw => match us, ws, hl, hw with | [_, _], [], _, _ => rfl)), gl_law_pool, F_law_pool.kp⟩
  have D_law_right : DOk PW w K mg base "_law_right" [] (spRight (He.ga K "Chain")) 7 := ⟨_, (G_law_right.s (kb_of 2 0 F_law_right rfl rfl fun _ _ _ _ _ _ us ws hl hw => match us, ws, hl, hw with | [_, _], [], _, _ => rfl)), gl_law_right, F_law_right.kp⟩
  have G_law : FnG PW w K mg base (L2.CX PW w) 8 (Pl.a K (.glo "law")) fd_law ["script"] (liftSp K (spLaw)) := mk_fn F_law c_law (by intro _ _ _ _ h; (repeat (obtain ⟨_, h⟩ := h)); all_goals (subst_vars; rfl)) (fun A hr => {
    fn := fun n x0 x1 h => match n, h with | 0, h => by change some ((("_law_pool" : Str), ([] : List Str))) = some _ at h; cases h; exact ⟨rfl, .inl (D_law_pool.e hr (by decide))⟩ | 1, h => by change some ((("_law_right" : Str), ([] : List Str))) = some _ at h; cases h; exact ⟨rfl, .inl (D_law_right.e hr (by decide))⟩ | n + 2, h => by change none = some _ at h; cases h
    mt := fun n _ _ h => by cases n <;> cases (show (none : Option _) = some _ from h)
    fl := fun n _ h => by cases n <;> cases (show (none : Option _) = some _ from h)
    pr := fun n _ h => by cases n <;> cases (show (none : Option _) = some _ from h)
    cs := fun n _ h => by cases n <;> cases (show (none : Option _) = some _ from h)
    bi := List.forall_mem_cons.mpr ⟨fr_range, List.forall_mem_cons.mpr ⟨fr_max, List.forall_mem_cons.mpr ⟨fr_min, List.forall_mem_cons.mpr ⟨fr_len, fun _ h => nomatch h⟩⟩⟩⟩
    kd := fun n _ h => by cases n <;> cases (show (none : Option _) = some _ from h)
    is := fun n _ h => by cases n <;> cases (show (none : Option _) = some _ from h)
    eq := fun n _ h => by cases n <;> cases (show (none : Option _) = some _ from h)
    ln := fun n _ h => by cases n <;> cases (show (none : Option _) = some _ from h) }) (does_law (He.ga K "Chain"))
  exact G_law
end
abbrev RR : PySem.W.OpenRow := PySem.W.OpenLaw.row PySem.Challenge.rw_liftsteps_k35_rounded_lifts
abbrev hk : PySem.W.Hook := hookL 5 fs ds ts
def ob (s : PySem.W.SharedT) : Ob := obsLG 5 fs ds ts (HandSHeadRun.getT s)
theorem ob_eq (s : PySem.W.SharedT) : ob s = hk.obs s.abs := obsLG_eq (HandSHeadRun.getT_eq s)
theorem run (w : World) : HandSHeadRun.RunEq RR (PySem.W.view RR.prog [30]) hk ob 8000 loose w :=
  PySem.W.byRow2 "special-get-raises" (P := HandSHeadRun.RunEq RR (PySem.W.view RR.prog [30]) hk ob 8000 loose) (fun w => by intro os; kernel_rfl) (fun w => by intro os; kernel_rfl) w
def lawIx : Nat := 30
end K35
end

section
set_option maxRecDepth 100000
set_option maxHeartbeats 0
open PySem PySem.W PyProof.Rows
theorem PySem.Challenge.cw_liftsteps_k35_rounded_lifts_holds : PySem.Challenge.rw_liftsteps_k35_rounded_lifts.Holds := by
  w_on
  o_law
  refine HandSHeadRun.head_any (r := K35.RR) (q := view K35.RR.prog [30]) (H := K35.hk) (ob := K35.ob) (M := 8000) (loose := K35.loose) (d := HandSHeadRun.topDef K35.RR.prog 30) (kwd := []) K35.ob_eq
    (by kernel_rfl) (fun s => by kernel_rfl) K35.run (by kernel_rfl) (by kernel_rfl) (by kernel_rfl) (by rfl) (by first | assumption | decide +kernel) (by decide +kernel) ⟨rfl, rfl, rfl, rfl, rfl, by decide +kernel⟩ ?hw ?hc
  case hw => w_witness2
  case hc =>
    refine LD.walk_ofG (n := 63) (k := 8) (x := "script") rfl (by decide) (by kernel_rfl) ⟨rfl, by decide +kernel, by decide +kernel⟩ fun w mg fa h Y G hmg0 => ?_
    obtain ⟨K, kx, c⟩ := Y
    obtain ⟨fd, hl, hb, hF⟩ := K35.facts c kx G
    have e1 : (HandSHeadRun.topDef K35.RR.prog 30).name = "law" := by kernel_rfl
    rw [e1, hl] at hmg0
    cases hmg0
    exact ⟨K, fd, K35.spLaw, kx, hb, fun ns hns => ⟨_, ns, rfl, rfl, ⟨_, rfl⟩, hns, fun _ => rfl⟩, fun base _ _ => hF base⟩
end
