import PyProof.Rows.All
import Wide.All
import OpenK.AllK
import Wide.FinOn
import PyProof.EqAt
import PyProof.EqKinds
import PyProof.TupleCall
import PyProof.ReprNest
import PyProof.ReprDict
import HandS.Base
import HandS.Call
import HandS.List
import HandS.Comp
import HandS.Ends
import HandS.Words
import HandS.WordsExc
import HandS.Defaults
import HandS.Iter
import HandS.Conv
import HandS.Text
import HandS.IsInst
import HandS.TupAny
import HandS.TupMul
import HandS.Style
import HandS.Zip
import HandS.RevTup
import HandS.HeadEnd
import HandS.Wide
import HandS.Strs
import HandS.More
import PyProof.ReprRoads
import PyProof.StrLawsRepr
import HandS.RaiseMore
import HandS.SetKeys
import HandS.Dict
import Lean
import HandS.Property
import HandS.MakeKwOnly
import HandS.HeadHook2
import KE.GoesEnum
import HandS.SortInts
import HandS.ExcField
import HandS.TryOnly
import HandS.ExcOwn
import KE.KExcInit
import HandS.SetFor
import HandS.ListItems
import KE.KStateDown
import HandS.Head0
import HandS.Head1
import HandS.Head2
import HandS.HeadHook1
import PySem.Challenge.RW_forwardcalls_k05_arguments_bound
set_option Elab.async false
set_option linter.all false
set_option maxRecDepth 100000
set_option maxHeartbeats 4000000
/-! G1: data-level weakest preconditions over the hand layer: data, environments, expressions, tests, blocks; calls that know that no repr is under way. -/
namespace GG
open PySem PySem.Spec PyProof.Rows L2

/-! ### data -/
inductive D where
  | non | bl (b : Bool) | int (i : Int) | str (s : Str) | lst (ds : List D) | tup (ds : List D) | dct (kvs : List (Key × D)) | obj (C : Addr) (fs : List (Str × D)) | adr (a : Addr) | ty (n : String)

mutual
inductive DD (K : PySem.W.Frag) (S : Hp) : V → D → Prop
  | non : DD K S .non .non
  | bl (b : Bool) : DD K S (.bl b) (.bl b)
  | int (i : Int) : DD K S (.int i) (.int i)
  | str (s : Str) : DD K S (.str s) (.str s)
  | lst {a : Addr} {xs : List V} {ds : List D} (h : SqL K S a xs) (r : DDs K S xs ds) : DD K S (.ref a) (.lst ds)
  | tup {a : Addr} {xs : List V} {ds : List D} (h : SqT K S a xs) (r : DDs K S xs ds) : DD K S (.ref a) (.tup ds)
  | dct {a : Addr} {ws : List (Key × V)} {kvs : List (Key × D)} (h : S a = some (.dK ws)) (r : DDk K S ws kvs) : DD K S (.ref a) (.dct kvs)
  | obj {a C dx : Addr} {fs : List (Str × V)} {gs : List (Str × D)} (h : S a = some (.ins C dx fs)) (r : DDf K S fs gs) : DD K S (.ref a) (.obj C gs)
  | adr (a : Addr) : DD K S (.ref a) (.adr a)
  | ty (n : String) : DD K S (.ty n) (.ty n)
inductive DDs (K : PySem.W.Frag) (S : Hp) : List V → List D → Prop
  | nil : DDs K S [] []
  | cons {v : V} {vs : List V} {d : D} {ds : List D} (h : DD K S v d) (r : DDs K S vs ds) : DDs K S (v :: vs) (d :: ds)
inductive DDk (K : PySem.W.Frag) (S : Hp) : List (Key × V) → List (Key × D) → Prop
  | nil : DDk K S [] []
  | cons {k : Key} {v : V} {vs : List (Key × V)} {d : D} {ds : List (Key × D)} (h : DD K S v d) (r : DDk K S vs ds) : DDk K S ((k, v) :: vs) ((k, d) :: ds)
inductive DDf (K : PySem.W.Frag) (S : Hp) : List (Str × V) → List (Str × D) → Prop
  | nil : DDf K S [] []
  | cons {k : Str} {v : V} {vs : List (Str × V)} {d : D} {ds : List (Str × D)} (h : DD K S v d) (r : DDf K S vs ds) : DDf K S ((k, v) :: vs) ((k, d) :: ds)
end

section
variable {K : PySem.W.Frag} {S S' : Hp}
mutual
theorem DD.mono (e : Same S S') : ∀ {v : V} {d : D}, DD K S v d → DD K S' v d
  | _, _, .non => .non
  | _, _, .bl b => .bl b
  | _, _, .int i => .int i
  | _, _, .str s => .str s
  | _, _, .lst h r => .lst (e.seq h) (DDs.mono e r)
  | _, _, .tup h r => .tup (by
      rcases h with (h | ⟨o, h⟩) | h
      · exact .inl (.inl (e _ _ h))
      · exact .inl (.inr ⟨o, e _ _ h⟩)
      · exact .inr h) (DDs.mono e r)
  | _, _, .dct h r => .dct (e _ _ h) (DDk.mono e r)
  | _, _, .obj h r => .obj (e _ _ h) (DDf.mono e r)
  | _, _, .adr a => .adr a
  | _, _, .ty n => .ty n
theorem DDs.mono (e : Same S S') : ∀ {v : List V} {d : List D}, DDs K S v d → DDs K S' v d
  | _, _, .nil => .nil
  | _, _, .cons h r => .cons (DD.mono e h) (DDs.mono e r)
theorem DDk.mono (e : Same S S') : ∀ {v : List (Key × V)} {d : List (Key × D)}, DDk K S v d → DDk K S' v d
  | _, _, .nil => .nil
  | _, _, .cons h r => .cons (DD.mono e h) (DDk.mono e r)
theorem DDf.mono (e : Same S S') : ∀ {v : List (Str × V)} {d : List (Str × D)}, DDf K S v d → DDf K S' v d
  | _, _, .nil => .nil
  | _, _, .cons h r => .cons (DD.mono e h) (DDf.mono e r)
end
theorem same_sqT {a : Addr} {xs : List V} (e : Same S S') (h : SqT K S a xs) : SqT K S' a xs := by
  rcases h with (h | ⟨o, h⟩) | h
  · exact .inl (.inl (e _ _ h))
  · exact .inl (.inr ⟨o, e _ _ h⟩)
  · exact .inr h
theorem DDs.len : ∀ {vs : List V} {ds : List D}, DDs K S vs ds → vs.length = ds.length
  | _, _, .nil => rfl
  | _, _, .cons _ r => by rw [List.length_cons, List.length_cons, DDs.len r]
theorem DDs.get : ∀ {vs : List V} {ds : List D} {i : Nat} {d : D}, DDs K S vs ds → ds[i]? = some d → ∃ v, vs[i]? = some v ∧ DD K S v d
  | _, _, _, _, .nil, e => by simp at e
  | _, _, 0, _, .cons h _, e => by simp at e; subst e; exact ⟨_, rfl, h⟩
  | _, _, i + 1, d, .cons _ r, e => by
    obtain ⟨v, h1, h2⟩ := DDs.get (i := i) (d := d) r (by simpa using e)
    exact ⟨v, by simpa using h1, h2⟩
theorem DDs.getV : ∀ {vs : List V} {ds : List D} {i : Nat} {v : V}, DDs K S vs ds → vs[i]? = some v → ∃ d, ds[i]? = some d ∧ DD K S v d
  | _, _, _, _, .nil, e => by simp at e
  | _, _, 0, _, .cons h _, e => by simp at e; subst e; exact ⟨_, rfl, h⟩
  | _, _, i + 1, v, .cons _ r, e => by
    obtain ⟨d, h1, h2⟩ := DDs.getV (i := i) (v := v) r (by simpa using e)
    exact ⟨d, by simpa using h1, h2⟩
theorem DDs.append : ∀ {vs ws : List V} {ds es : List D}, DDs K S vs ds → DDs K S ws es → DDs K S (vs ++ ws) (ds ++ es)
  | _, _, _, _, .nil, q => q
  | _, _, _, _, .cons h r, q => .cons h (DDs.append r q)
theorem DDs.one {v : V} {d : D} (h : DD K S v d) : DDs K S [v] [d] := .cons h .nil
theorem DDs.take : ∀ {vs : List V} {ds : List D} (n : Nat), DDs K S vs ds → DDs K S (vs.take n) (ds.take n)
  | _, _, 0, _ => .nil
  | _, _, _ + 1, .nil => .nil
  | _, _, n + 1, .cons h r => .cons h (DDs.take n r)
theorem DDs.drop : ∀ {vs : List V} {ds : List D} (n : Nat), DDs K S vs ds → DDs K S (vs.drop n) (ds.drop n)
  | _, _, 0, h => h
  | _, _, _ + 1, .nil => .nil
  | _, _, n + 1, .cons _ r => DDs.drop n r
theorem DDs.reverse {vs : List V} {ds : List D} (h : DDs K S vs ds) : DDs K S vs.reverse ds.reverse := by
  induction vs generalizing ds with
  | nil => cases h; exact .nil
  | cons v vs ih =>
    cases h with
    | cons h r =>
      rw [List.reverse_cons, List.reverse_cons]
      exact (ih r).append (.one h)
end

/-! ### the heap without some addresses -/
def cut (M : List Addr) (H : Hp) : Hp := fun a => if a ∈ M then none else H a
theorem cut_sub (M : List Addr) (H : Hp) : Same (cut M H) H := fun a o h => by
  unfold cut at h
  split at h
  · cases h
  · exact h
theorem cut_same {M : List Addr} {H H' : Hp} (e : Same H H') : Same (cut M H) (cut M H') := fun a o h => by
  unfold cut at h ⊢
  split at h
  · cases h
  · rename_i hn
    rw [if_neg hn]
    exact e a o h
def Trk (M : List Addr) (H : Hp) : Prop := ∀ a ∈ M, H a ≠ none
theorem Trk.same {M : List Addr} {H H' : Hp} (t : Trk M H) (e : Same H H') : Trk M H' := fun a ha => by
  cases h : H a with
  | none => exact absurd h (t a ha)
  | some o => rw [e a o h]; exact fun z => by cases z
theorem same_new {H : Hp} {p : Addr} {o : HO} (h : H p = none) : Same H (upd H p o) := fun b u e => by
  rw [upd_ne (ne_of_none e h)]; exact e
theorem cut_new {M : List Addr} {H : Hp} {p : Addr} {o : HO} (t : Trk M H) (h : H p = none) : cut M (upd H p o) p = some o := by
  unfold cut
  rw [if_neg (fun m => t p m h), upd_same]

/-- what may change, and what is kept true of it (S: the part that stands; H: the whole, of which only the places M are looked at) -/
structure SJ where
  M : List Addr
  J : Hp → Hp → Prop
  st : ∀ S S' H H', J S H → Same S S' → (∀ a ∈ M, H' a = H a) → J S' H'
structure Step (C : SJ) (H H' : Hp) : Prop where
  same : Same (cut C.M H) (cut C.M H')
  trk : Trk C.M H'
  j : C.J (cut C.M H') H'
theorem Step.trans {C : SJ} {H H1 H2 : Hp} (a : Step C H H1) (b : Step C H1 H2) : Step C H H2 := ⟨a.same.trans b.same, b.trk, b.j⟩

/-! ### environments -/
abbrev En := List (Option D)
def Bnd (K : PySem.W.Frag) (S : Hp) (σ : L2.St) (Γ : En) : Prop := ∀ (i : Nat) (d : D), Γ[i]? = some (some d) → ∃ v, σ[i]? = some (some v) ∧ DD K S v d
theorem Bnd.mono {K : PySem.W.Frag} {S S' : Hp} {σ : L2.St} {Γ : En} (b : Bnd K S σ Γ) (e : Same S S') : Bnd K S' σ Γ := fun i d h => by
  obtain ⟨v, h1, h2⟩ := b i d h
  exact ⟨v, h1, h2.mono e⟩
theorem Bnd.set {K : PySem.W.Frag} {S : Hp} {σ : L2.St} {Γ : En} (b : Bnd K S σ Γ) (hl : σ.length = Γ.length) {i : Nat} {v : V} {d : D} (h : DD K S v d) : Bnd K S (σ.set i (some v)) (Γ.set i (some d)) := fun j e he => by
  by_cases hj : j = i
  · subst hj
    by_cases hlt : j < Γ.length
    · rw [List.getElem?_set_self hlt] at he
      cases he
      exact ⟨v, List.getElem?_set_self (by omega), h⟩
    · rw [List.getElem?_eq_none (by simpa using hlt)] at he
      cases he
  · rw [List.getElem?_set_ne (Ne.symm hj)] at he ⊢
    exact b j e he
structure Good (C : SJ) (K : PySem.W.Frag) (σ : L2.St) (H : Hp) (Γ : En) : Prop where
  len : σ.length = Γ.length
  trk : Trk C.M H
  j : C.J (cut C.M H) H
  bnd : Bnd K (cut C.M H) σ Γ
theorem Good.step {C : SJ} {K : PySem.W.Frag} {σ : L2.St} {H H' : Hp} {Γ : En} (g : Good C K σ H Γ) (s : Step C H H') : Good C K σ H' Γ := ⟨g.len, s.trk, s.j, g.bnd.mono s.same⟩
theorem Good.refl {C : SJ} {K : PySem.W.Frag} {σ : L2.St} {H : Hp} {Γ : En} (g : Good C K σ H Γ) : Step C H H := ⟨Same.refl _, g.trk, g.j⟩
theorem Good.same {C : SJ} {K : PySem.W.Frag} {σ : L2.St} {H H' : Hp} {Γ : En} (g : Good C K σ H Γ) (e : Same H H') : Step C H H' := ⟨cut_same e, g.trk.same e, C.st _ _ _ _ g.j (cut_same e) fun a ha => by
  cases h : H a with
  | none => exact absurd h (g.trk a ha)
  | some o => exact e a o h⟩
theorem Good.new {C : SJ} {K : PySem.W.Frag} {σ : L2.St} {H : Hp} {Γ : En} (g : Good C K σ H Γ) {p : Addr} {o : HO} (h : H p = none) : Step C H (upd H p o) := g.same (same_new h)

/-! ### what is asked of an expression, a test, arguments, a block -/
def WE (X : Cx) (e : Expr) : TE := fun σ H Q => ∀ pins s, Inv X pins σ H s → wpAny (model X.prog X.w) X.A (eval e X.env) (EP X pins σ Q) X.xe s
def WT (X : Cx) (e : Expr) : TT := fun σ H Q => ∀ pins s, Inv X pins σ H s → wpAny (model X.prog X.w) X.A (isTrue e X.env (eval e X.env)) (TP X pins σ Q) X.xe s
def WA (X : Cx) (es : List Expr) : TA := fun σ H Q => ∀ pos pins s, Inv X pins σ H s → wpAny (model X.prog X.w) X.A (spliced (backTo pos (starEach es X.env))) (AP X pins σ Q) X.xe s
def WS (X : Cx) (st : Stmt) : TS := fun D σ H => ∀ pins s, Inv X pins σ H s → wpAny (model X.prog X.w) X.A (exec st X.env) (SP X pins D) X.xe s
def WB (X : Cx) (sts : List Stmt) : TS := fun D σ H => ∀ pins s, Inv X pins σ H s → wpAny (model X.prog X.w) X.A (execs sts X.env) (SP X pins D) X.xe s
section
variable {X : Cx} {e : Expr} {es : List Expr} {st : Stmt} {sts : List Stmt} {σ : L2.St} {H : Hp}
theorem pe_we : PE X e (WE X e) := ⟨fun pins s _ _ _ I h => h pins s I⟩
theorem pt_wt : PT X e (WT X e) := ⟨fun pins s _ _ _ I h => h pins s I⟩
theorem pa_wa : PA X es (WA X es) := ⟨fun pos pins s _ _ _ I h => h pos pins s I⟩
theorem ps_ws : PS X st (WS X st) := ⟨fun pins s _ _ _ I h => h pins s I⟩
theorem pss_wb : PSs X sts (WB X sts) := ⟨fun pins s _ _ _ I h => h pins s I⟩
theorem we_of {t : TE} {Q : VK} (h : PE X e t) (q : t σ H Q) : WE X e σ H Q := fun pins s I => h.run pins s σ H Q I q
theorem wt_of {t : TT} {Q : Bool → Hp → Prop} (h : PT X e t) (q : t σ H Q) : WT X e σ H Q := fun pins s I => h.run pins s σ H Q I q
theorem wa_of {t : TA} {Q : List V → Hp → Prop} (h : PA X es t) (q : t σ H Q) : WA X es σ H Q := fun pos pins s I => h.run pos pins s σ H Q I q
theorem ws_of {t : TS} {D : Ends} (h : PS X st t) (q : t D σ H) : WS X st D σ H := fun pins s I => h.run pins s σ H D I q
theorem wb_of {t : TS} {D : Ends} (h : PSs X sts t) (q : t D σ H) : WB X sts D σ H := fun pins s I => h.run pins s σ H D I q
end

/-- e gives data with P -/
def Ev (X : Cx) (C : SJ) (Γ : En) (e : Expr) (P : D → Prop) : Prop :=
  ∀ σ H, Good C X.K σ H Γ → ∀ Q : VK, (∀ v d H', Step C H H' → DD X.K (cut C.M H') v d → P d → Q v H') → WE X e σ H Q
/-- a step that has laid a new list at p, on which nothing leans yet -/
structure FStep (C : SJ) (p : Addr) (H H' : Hp) : Prop where
  same : Same (cut C.M H) (cut (p :: C.M) H')
  trk : Trk C.M H'
  j : C.J (cut (p :: C.M) H') H'
theorem cut_less {M M' : List Addr} {H : Hp} (h : ∀ a ∈ M, a ∈ M') : Same (cut M' H) (cut M H) := fun a o e => by
  unfold cut at e ⊢
  split at e
  · cases e
  · rename_i hn
    rw [if_neg fun z => hn (h a z)]
    exact e
theorem FStep.step {C : SJ} {p : Addr} {H H' : Hp} (s : FStep C p H H') : Step C H H' :=
  ⟨s.same.trans (cut_less fun _ z => List.mem_cons_of_mem _ z), s.trk, C.st _ _ _ _ s.j (cut_less fun _ z => List.mem_cons_of_mem _ z) fun _ _ => rfl⟩
/-- e gives a new list of data with P -/
def EvF (X : Cx) (C : SJ) (Γ : En) (e : Expr) (P : List D → Prop) : Prop :=
  ∀ σ H, Good C X.K σ H Γ → ∀ Q : VK, (∀ p xs ds H', H p = none → FStep C p H H' → H' p = some (.lst xs) → DDs X.K (cut (p :: C.M) H') xs ds → P ds → Q (.ref p) H') → WE X e σ H Q
def EvT (X : Cx) (C : SJ) (Γ : En) (e : Expr) (P : Bool → Prop) : Prop :=
  ∀ σ H, Good C X.K σ H Γ → ∀ Q : Bool → Hp → Prop, (∀ b H', Step C H H' → P b → Q b H') → WT X e σ H Q
def EvA (X : Cx) (C : SJ) (Γ : En) (es : List Expr) (P : List D → Prop) : Prop :=
  ∀ σ H, Good C X.K σ H Γ → ∀ Q : List V → Hp → Prop, (∀ vs ds H', Step C H H' → DDs X.K (cut C.M H') vs ds → P ds → Q vs H') → WA X es σ H Q
/-- a block: N behind it, R at a return (for the context C0 of the def), B at a break, T at a continue -/
structure Out where
  C0 : SJ
  N : SJ → En → Prop
  R : D → Prop
  B : SJ → En → Prop := fun _ _ => False
  T : SJ → En → Prop := fun _ _ => False
  /-- at a return of a new list -/
  RF : List D → Prop := fun _ => False
  /-- at a return where the context has changed -/
  RX : SJ → D → Prop := fun _ _ => False
structure Bk (X : Cx) (C : SJ) (H : Hp) (O : Out) (E : Ends) : Prop where
  nx : ∀ C' σ' H' Γ', Same (cut C.M H) (cut C'.M H') → Good C' X.K σ' H' Γ' → O.N C' Γ' → E.nx σ' H'
  rt : ∀ v d H', Same (cut C.M H) (cut O.C0.M H') → Trk O.C0.M H' → O.C0.J (cut O.C0.M H') H' → DD X.K (cut O.C0.M H') v d → O.R d → E.rt v H'
  bk : ∀ C' σ' H' Γ', Same (cut C.M H) (cut C'.M H') → Good C' X.K σ' H' Γ' → O.B C' Γ' → E.bk σ' H'
  ct : ∀ C' σ' H' Γ', Same (cut C.M H) (cut C'.M H') → Good C' X.K σ' H' Γ' → O.T C' Γ' → E.ct σ' H'
  rf : ∀ p xs ds H', p ∉ O.C0.M → Same (cut C.M H) (cut (p :: O.C0.M) H') → Trk O.C0.M H' → O.C0.J (cut (p :: O.C0.M) H') H' → H' p = some (.lst xs) → DDs X.K (cut (p :: O.C0.M) H') xs ds → O.RF ds → E.rt (.ref p) H'
  rx : ∀ v d C' H', Same (cut C.M H) (cut C'.M H') → Trk C'.M H' → C'.J (cut C'.M H') H' → DD X.K (cut C'.M H') v d → O.RX C' d → E.rt v H'
def Bl (X : Cx) (C : SJ) (Γ : En) (sts : List Stmt) (O : Out) : Prop := ∀ σ H, Good C X.K σ H Γ → ∀ E : Ends, Bk X C H O E → WB X sts E σ H
theorem Bk.from {X : Cx} {C C' : SJ} {H H' : Hp} {O : Out} {E : Ends} (b : Bk X C H O E) (e : Same (cut C.M H) (cut C'.M H')) : Bk X C' H' O E :=
  ⟨fun D' σ' G' Γ' s => b.nx D' σ' G' Γ' (e.trans s), fun v d G' s => b.rt v d G' (e.trans s), fun D' σ' G' Γ' s => b.bk D' σ' G' Γ' (e.trans s), fun D' σ' G' Γ' s => b.ct D' σ' G' Γ' (e.trans s), fun p xs ds G' m s => b.rf p xs ds G' m (e.trans s), fun v d D' G' s => b.rx v d D' G' (e.trans s)⟩

section
variable {X : Cx} {C : SJ} {Γ : En}
theorem Ev.imp {e : Expr} {P P' : D → Prop} (h : Ev X C Γ e P) (k : ∀ d, P d → P' d) : Ev X C Γ e P' := fun σ H g Q q => h σ H g Q fun v d H' s r p => q v d H' s r (k d p)
theorem EvT.imp {e : Expr} {P P' : Bool → Prop} (h : EvT X C Γ e P) (k : ∀ b, P b → P' b) : EvT X C Γ e P' := fun σ H g Q q => h σ H g Q fun b H' s p => q b H' s (k b p)
theorem EvA.imp {es : List Expr} {P P' : List D → Prop} (h : EvA X C Γ es P) (k : ∀ d, P d → P' d) : EvA X C Γ es P' := fun σ H g Q q => h σ H g Q fun v d H' s r p => q v d H' s r (k d p)

/-! ### names, constants -/
theorem ev_var {P : D → Prop} (i : Nat) {x : Str} {pos : Pos} {d : D} (hΓ : Γ[i]? = some (some d)) (p : P d) (hN : X.N[i]? = some x := by rfl)
    (hv : Vis X.env.scope x := by first | exact Or.inl rfl | exact Or.inr (Or.inl rfl) | exact Or.inr (Or.inr rfl)) (hd : (x == ("__debug__" : Str)) = false := by decide) (hcd : (x == ("__classdict__" : Str)) = false := by decide) :
    Ev X C Γ (.Name x pos) P := fun σ H g Q q => by
  obtain ⟨v, e, r⟩ := g.bnd i d hΓ
  exact we_of (pe_var hN hv hd hcd) ⟨v, e, q v d H g.refl r p⟩
theorem ev_int {P : D → Prop} {i : Int} {j pos} (p : P (.int i)) : Ev X C Γ (.Constant (.int i) j pos) P := fun _ H g Q q => we_of pe_int (q _ _ H g.refl (.int i) p)
theorem ev_bl {P : D → Prop} {b : Bool} {j pos} (p : P (.bl b)) : Ev X C Γ (.Constant (.bool b) j pos) P := fun _ H g Q q => we_of pe_bl (q _ _ H g.refl (.bl b) p)
theorem ev_non {P : D → Prop} {j pos} (p : P .non) : Ev X C Γ (.Constant .none j pos) P := fun _ H g Q q => we_of pe_non (q _ _ H g.refl .non p)
theorem ev_str {P : D → Prop} {x : Str} {j pos} (p : P (.str x)) : Ev X C Γ (.Constant (.str x) j pos) P := fun _ H g Q q => we_of pe_str (q _ _ H g.refl (.str x) p)
/-- a module's constant -/
theorem ev_gstr {P : D → Prop} {x z : Str} {pos : Pos} (hm : ∃ t, X.mg x = some (.str z t)) (p : P (.str z)) (hg : Gl X x := by rfl) (hd : (x == ("__debug__" : Str)) = false := by decide) : Ev X C Γ (.Name x pos) P := fun _ H g Q q => by
  obtain ⟨t, e⟩ := hm
  exact we_of (pe_glob (v := .str z) hg e ⟨t, rfl⟩ hd) (q _ _ H g.refl (.str z) p)
theorem ev_gint {P : D → Prop} {x : Str} {i : Int} {pos : Pos} (hm : ∃ t, X.mg x = some (.int i t)) (p : P (.int i)) (hg : Gl X x := by rfl) (hd : (x == ("__debug__" : Str)) = false := by decide) : Ev X C Γ (.Name x pos) P := fun _ H g Q q => by
  obtain ⟨t, e⟩ := hm
  exact we_of (pe_glob (v := .int i) hg e ⟨t, rfl⟩ hd) (q _ _ H g.refl (.int i) p)

/-! ### two operands -/
/-- what an operator asks of data -/
def OpD (X : Cx) (r : R2) (G : D → D → (D → Prop) → Prop) : Prop :=
  ∀ (C : SJ) (H : Hp) (x y : V) (d e : D) (P : D → Prop) (Q : VK), Trk C.M H → C.J (cut C.M H) H → DD X.K (cut C.M H) x d → DD X.K (cut C.M H) y e → G d e P →
    (∀ v f H', Step C H H' → DD X.K (cut C.M H') v f → P f → Q v H') → r x y H Q
theorem op2 {a b : Expr} {r : R2} {G : D → D → (D → Prop) → Prop} {P : D → Prop} (hr : OpD X r G) (h : Ev X C Γ a fun d => Ev X C Γ b fun e => G d e P) {σ : L2.St} {H : Hp} (g : Good C X.K σ H Γ) {Q : VK}
    (q : ∀ v f H', Step C H H' → DD X.K (cut C.M H') v f → P f → Q v H') : tOp r (WE X a) (WE X b) σ H Q :=
  h σ H g _ fun x d H1 s1 r1 h1 => h1 σ H1 (g.step s1) _ fun y e H2 s2 r2 h2 =>
    hr C H2 x y d e P Q s2.trk s2.j (r1.mono s2.same) r2 h2 fun v f H3 s3 r3 p => q v f H3 ((s1.trans s2).trans s3) r3 p
theorem ev_op {a b : Expr} {op : Operator} {pos : Pos} {r : R2} {G : D → D → (D → Prop) → Prop} {P : D → Prop} (ho : OpR X (binaryOp op) r) (hr : OpD X r G) (h : Ev X C Γ a fun d => Ev X C Γ b fun e => G d e P) :
    Ev X C Γ (.BinOp a op b pos) P := fun _ _ g _ q => we_of (pe_op ho pe_we pe_we) (op2 hr h g q)
theorem ev_cmp {a b : Expr} {op : CmpOp} {pos : Pos} {r : R2} {G : D → D → (D → Prop) → Prop} {P : D → Prop} (ho : OpR X (compareOp op) r) (hr : OpD X r G) (hm : behindInMarks op b = false) (h : Ev X C Γ a fun d => Ev X C Γ b fun e => G d e P) :
    Ev X C Γ (.Compare a [op] [b] pos) P := fun _ _ g _ q => we_of (pe_cmpR ho pe_we pe_we hm) (op2 hr h g q)
end
end GG
set_option maxHeartbeats 4000000
/-! G2: rules for operators, comparisons, built-ins by name, subscripts, blocks. -/
namespace GG
open PySem PySem.Spec PyProof.Rows L2

/-! ### plain data -/
def keyPy : Key → PyData
  | .inl i => .int i
  | .inr x => .str x
mutual
def toPy : D → PyData
  | .non => .none
  | .bl b => .bool b
  | .int i => .int i
  | .str s => .str s
  | .lst ds => .list (toPys ds)
  | .tup ds => .tuple (toPys ds)
  | .dct kvs => .dict (toPyKv kvs)
  | .obj _ _ => .dict []
  | .adr _ => .dict []
  | .ty _ => .dict []
def toPys : List D → List PyData
  | [] => []
  | d :: ds => toPy d :: toPys ds
def toPyKv : List (Key × D) → List (PyData × PyData)
  | [] => []
  | (k, d) :: ds => (keyPy k, toPy d) :: toPyKv ds
end
mutual
/-- nothing but None, bools, ints, texts, lists and tuples -/
def plainD : D → Bool
  | .non => true
  | .bl _ => true
  | .int _ => true
  | .str _ => true
  | .lst ds => plainDs ds
  | .tup ds => plainDs ds
  | .dct _ => false
  | .obj _ _ => false
  | .adr _ => false
  | .ty _ => false
def plainDs : List D → Bool
  | [] => true
  | d :: ds => plainD d && plainDs ds
end
mutual
theorem plain_of : ∀ d : D, (toPy d).canLay0 = true → plainD d = true
  | .non, _ => rfl
  | .bl _, _ => rfl
  | .int _, _ => rfl
  | .str _, _ => rfl
  | .lst ds, h => by
    simp only [plainD]
    exact plains_of ds (by simpa [toPy, PyData.canLay0] using h)
  | .tup ds, h => by
    simp only [plainD]
    exact plains_of ds (by simpa [toPy, PyData.canLay0] using h)
  | .dct _, h => by simp [toPy, PyData.canLay0] at h
  | .obj _ _, h => by simp [toPy, PyData.canLay0] at h
  | .adr _, h => by simp [toPy, PyData.canLay0] at h
  | .ty _, h => by simp [toPy, PyData.canLay0] at h
theorem plains_of : ∀ ds : List D, PyData.canLayAll0 (toPys ds) = true → plainDs ds = true
  | [], _ => rfl
  | d :: ds, h => by
    simp only [toPys, PyData.canLayAll0, Bool.and_eq_true] at h
    simp only [plainDs, plain_of d h.1, plains_of ds h.2, Bool.and_self]
end
mutual
theorem dp_of {K : PySem.W.Frag} {S : Hp} : ∀ {v : V} {d : D}, DD K S v d → plainD d = true → Dp K S v (toPy d)
  | _, _, .non, _ => .non
  | _, _, .bl b, _ => .bl b
  | _, _, .int i, _ => .int i
  | _, _, .str s, _ => .str s
  | _, _, .lst h r, c => .lst h (dps_of r (by simpa only [plainD] using c))
  | _, _, .tup h r, c => .tup h (dps_of r (by simpa only [plainD] using c))
  | _, _, .dct h r, c => by simp [plainD] at c
  | _, _, .obj h r, c => by simp [plainD] at c
  | _, _, .adr a, c => by simp [plainD] at c
  | _, _, .ty n, c => by simp [plainD] at c
theorem dps_of {K : PySem.W.Frag} {S : Hp} : ∀ {vs : List V} {ds : List D}, DDs K S vs ds → plainDs ds = true → DpAll K S vs (toPys ds)
  | _, _, .nil, _ => .nil
  | _, _, .cons h r, c => by
    simp only [plainDs, Bool.and_eq_true] at c
    exact .cons (dp_of h c.1) (dps_of r c.2)
end
theorem Dp.same {K : PySem.W.Frag} {S S' : Hp} (e : Same S S') {v : V} {p : PyData} (h : Dp K S v p) : Dp K S' v p := by
  have key : (∀ v p, Dp K S v p → Dp K S' v p) ∧ ∀ vs ps, DpAll K S vs ps → DpAll K S' vs ps := by
    constructor
    · intro v p h
      exact Dp.rec (motive_1 := fun v p _ => Dp K S' v p) (motive_2 := fun vs ps _ => DpAll K S' vs ps) .non .bl .int .str (fun h _ r => .lst (e.seq h) r) (fun h _ r => .tup (same_sqT e h) r) .nil (fun _ _ h r => .cons h r) h
    · intro v p h
      exact DpAll.rec (motive_1 := fun v p _ => Dp K S' v p) (motive_2 := fun vs ps _ => DpAll K S' vs ps) .non .bl .int .str (fun h _ r => .lst (e.seq h) r) (fun h _ r => .tup (same_sqT e h) r) .nil (fun _ _ h r => .cons h r) h
  exact key.1 v p h
def shp (d : D) : Bool := SeqAt.shaped (toPy d)
def eqD (d e : D) : Bool := PyData.eqv (toPy d) (toPy e)
theorem shp_lay {d : D} (h : shp d = true) : plainD d = true := by
  unfold shp SeqAt.shaped at h
  rw [Bool.and_eq_true] at h
  exact plain_of d h.1
/-- the scalars whose == looks at nothing -/
def scalD : D → D → Bool
  | .non, .non => true | .non, .int _ => true | .int _, .non => true | .non, .bl _ => true | .bl _, .non => true | .non, .str _ => true | .str _, .non => true
  | .int _, .int _ => true | .bl _, .bl _ => true | .str _, .str _ => true
  | .int _, .str _ => true | .str _, .int _ => true | .bl _, .str _ => true | .str _, .bl _ => true
  | _, _ => false
theorem scal_of {K : PySem.W.Frag} {S : Hp} {x y : V} {d e : D} (hx : DD K S x d) (hy : DD K S y e) (h : scalD d e = true) : scal x y = true ∧ decide (x = y) = eqD d e := by
  cases hx <;> cases hy <;> first
    | (exfalso; revert h; decide)
    | (exfalso; exact Bool.false_ne_true h)
    | refine ⟨rfl, ?_⟩
  all_goals first
    | (simp [eqD, toPy, PyData.eqv]; done)
    | (rw [Bool.eq_iff_iff]; simp [eqD, toPy, PyData.eqv])

section
variable {X : Cx} {C : SJ} {Γ : En} {P : D → Prop}

/-- a step that changes nothing -/
theorem stay {H : Hp} (t : Trk C.M H) (j : C.J (cut C.M H) H) : Step C H H := ⟨Same.refl _, t, j⟩
theorem st_new {H : Hp} {p : Addr} {o : HO} (t : Trk C.M H) (j : C.J (cut C.M H) H) (h : H p = none) : Step C H (upd H p o) :=
  ⟨cut_same (same_new h), t.same (same_new h), C.st _ _ _ _ j (cut_same (same_new h)) fun a ha => upd_ne fun e => t a ha (by rw [e]; exact h)⟩
theorem sub_sqL {M : List Addr} {H : Hp} {K : PySem.W.Frag} {a : Addr} {xs : List V} (h : SqL K (cut M H) a xs) : SqL K H a xs := (cut_sub M H).seq h
theorem sub_sqT {M : List Addr} {H : Hp} {K : PySem.W.Frag} {a : Addr} {xs : List V} (h : SqT K (cut M H) a xs) : SqT K H a xs := same_sqT (cut_sub M H) h

/-! ### +, -, *, //, %, ** -/
def addG : D → D → (D → Prop) → Prop
  | .int i, .int j, P => P (.int (i + j))
  | .str s, .str t, P => s.length + t.length ≤ sizeLine ∧ P (.str (s ++ t))
  | .tup a, .tup b, P => a.length + b.length ≤ sizeLine ∧ P (.tup (a ++ b))
  | _, _, _ => False
def rAddA (K : PySem.W.Frag) : R2 := fun x y H Q => (rI0 fun i j => .int (i + j)) x y H Q ∨ (∃ i j, x = .str i ∧ y = .str j ∧ i.length + j.length ≤ sizeLine ∧ Q (.str (i ++ j)) H) ∨ rCatA K x y H Q
theorem op_addA : OpR X (binaryOp .Add) (rAddA X.K) := op_add.or (op_add_str.or op_catA)
theorem od_add : OpD X (rAddA X.K) addG := by
  intro C H x y d e P Q t j hx hy g q
  cases hx <;> cases hy <;> try exact False.elim g
  · exact .inl ⟨_, _, rfl, rfl, q _ _ H (stay t j) (.int _) g⟩
  · exact .inr (.inl ⟨_, _, rfl, rfl, g.1, q _ _ H (stay t j) (.str _) g.2⟩)
  · rename_i a xs ds ha ra b ys es hb rb
    refine .inr (.inr ⟨a, b, xs, ys, rfl, rfl, sub_sqT ha, sub_sqT hb, by rw [ra.len, rb.len]; exact g.1, fun e => ?_, fun n e => ?_, fun _ _ p hp => ?_⟩)
    · subst e
      cases ra
      exact q _ _ H (stay t j) (.tup hb rb) g.2
    · subst e
      cases rb
      have g2 := g.2
      rw [List.append_nil] at g2
      exact q _ _ H (stay t j) (.tup ha ra) g2
    · exact q _ _ _ (st_new t j hp) (.tup (.of (cut_new t hp)) ((ra.append rb).mono (cut_same (same_new hp)))) g.2
theorem ev_add {a b : Expr} {pos : Pos} (h : Ev X C Γ a fun d => Ev X C Γ b fun e => addG d e P) : Ev X C Γ (.BinOp a .Add b pos) P := ev_op op_addA od_add h
def intG (c : Int → Int → Prop) (f : Int → Int → Int) : D → D → (D → Prop) → Prop
  | .int i, .int j, P => c i j ∧ P (.int (f i j))
  | _, _, _ => False
theorem od_int {c : Int → Int → Prop} {f : Int → Int → Int} : OpD X (rI c fun i j => .int (f i j)) (intG c f) := by
  intro C H x y d e P Q t j hx hy g q
  cases hx <;> cases hy <;> try exact False.elim g
  exact ⟨_, _, rfl, rfl, g.1, q _ _ H (stay t j) (.int _) g.2⟩
theorem ev_sub {a b : Expr} {pos : Pos} (h : Ev X C Γ a fun d => Ev X C Γ b fun e => intG (fun _ _ => True) (fun i j => i - j) d e P) : Ev X C Γ (.BinOp a .Sub b pos) P :=
  ev_op (r := rI (fun _ _ => True) fun i j => .int (i - j)) (fun pins s σ H x y v u Q I rx ry ⟨i, j, e1, e2, _, q⟩ => op_sub pins s σ H x y v u Q I rx ry ⟨i, j, e1, e2, q⟩) od_int h
theorem ev_mul {a b : Expr} {pos : Pos} (h : Ev X C Γ a fun d => Ev X C Γ b fun e => intG CMul (fun i j => i * j) d e P) : Ev X C Γ (.BinOp a .Mult b pos) P := ev_op op_mul od_int h
theorem ev_fdiv {a b : Expr} {pos : Pos} (h : Ev X C Γ a fun d => Ev X C Γ b fun e => intG CDivW (fun i j => i / j) d e P) : Ev X C Γ (.BinOp a .FloorDiv b pos) P := ev_op op_fdivW od_int h
theorem ev_mod {a b : Expr} {pos : Pos} (h : Ev X C Γ a fun d => Ev X C Γ b fun e => intG (fun _ j => 0 < j) (fun i j => i % j) d e P) : Ev X C Γ (.BinOp a .Mod b pos) P := ev_op op_mod od_int h
theorem ev_pow {a b : Expr} {pos : Pos} (h : Ev X C Γ a fun d => Ev X C Γ b fun e => intG CPow (fun i j => i ^ j.toNat) d e P) : Ev X C Γ (.BinOp a .Pow b pos) P := ev_op op_pow od_int h
theorem ev_neg {a : Expr} {pos : Pos} (h : Ev X C Γ a fun d => ∃ i, d = .int i ∧ P (.int (-i))) : Ev X C Γ (.UnaryOp .USub a pos) P := fun σ H g Q q => by
  refine we_of (pe_un un_neg pe_we) ?_
  refine h σ H g _ fun v d H1 s1 r1 ⟨i, e, p⟩ => ?_
  subst e
  cases r1
  exact ⟨i, rfl, q _ _ H1 s1 (.int _) p⟩

/-! ### comparisons -/
def eqG (d e : D) (P : D → Prop) : Prop := (scalD d e = true ∨ (shp d = true ∧ shp e = true)) ∧ P (.bl (eqD d e))
def neG (d e : D) (P : D → Prop) : Prop := (scalD d e = true ∨ (shp d = true ∧ shp e = true)) ∧ P (.bl (!eqD d e))
def rEqA (K : PySem.W.Frag) : R2 := fun x y H Q => rEq x y H Q ∨ rEqD K x y H Q
def rNeA (K : PySem.W.Frag) : R2 := fun x y H Q => rNe x y H Q ∨ rNeD K x y H Q
theorem od_eq : OpD X (rEqA X.K) eqG := by
  intro C H x y d e P Q t j hx hy g q
  rcases g with ⟨g | ⟨g1, g2⟩, p⟩
  · obtain ⟨h1, h2⟩ := scal_of hx hy g
    refine .inl ⟨h1, ?_⟩
    rw [h2]
    exact q _ _ H (stay t j) (.bl _) p
  · exact .inr ⟨_, _, Dp.same (cut_sub _ _) (dp_of hx (shp_lay g1)), Dp.same (cut_sub _ _) (dp_of hy (shp_lay g2)), g1, g2, q _ _ H (stay t j) (.bl _) p⟩
theorem od_ne : OpD X (rNeA X.K) neG := by
  intro C H x y d e P Q t j hx hy g q
  rcases g with ⟨g | ⟨g1, g2⟩, p⟩
  · obtain ⟨h1, h2⟩ := scal_of hx hy g
    refine .inl ⟨h1, ?_⟩
    rw [h2]
    exact q _ _ H (stay t j) (.bl _) p
  · exact .inr ⟨_, _, Dp.same (cut_sub _ _) (dp_of hx (shp_lay g1)), Dp.same (cut_sub _ _) (dp_of hy (shp_lay g2)), g1, g2, q _ _ H (stay t j) (.bl _) p⟩
theorem ev_eq {a b : Expr} {pos : Pos} (hu : X.A.units + 64 < cLine) (h : Ev X C Γ a fun d => Ev X C Γ b fun e => eqG d e P) : Ev X C Γ (.Compare a [.Eq] [b] pos) P := ev_cmp (op_eq.or (op_eqD hu)) od_eq (nomark _) h
theorem ev_ne {a b : Expr} {pos : Pos} (hu : X.A.units + 64 < cLine) (h : Ev X C Γ a fun d => Ev X C Γ b fun e => neG d e P) : Ev X C Γ (.Compare a [.NotEq] [b] pos) P := ev_cmp (op_ne.or (op_neD hu)) od_ne (nomark _) h
def ordG (f : Int → Int → Bool) : D → D → (D → Prop) → Prop
  | .int i, .int j, P => P (.bl (f i j))
  | _, _, _ => False
theorem od_ord {f : Int → Int → Bool} : OpD X (rI0 fun i j => .bl (f i j)) (ordG f) := by
  intro C H x y d e P Q t j hx hy g q
  cases hx <;> cases hy <;> try exact False.elim g
  exact ⟨_, _, rfl, rfl, q _ _ H (stay t j) (.bl _) g⟩
def ltG : D → D → (D → Prop) → Prop
  | .int i, .int j, P => P (.bl (decide (i < j)))
  | .str i, .str j, P => P (.bl (decide (i.cps.toList < j.cps.toList)))
  | _, _, _ => False
def rLtA : R2 := fun x y H Q => (rI0 fun i j => .bl (decide (i < j))) x y H Q ∨ ∃ i j, x = .str i ∧ y = .str j ∧ Q (.bl (decide (i.cps.toList < j.cps.toList))) H
theorem od_lt : OpD X rLtA ltG := by
  intro C H x y d e P Q t j hx hy g q
  cases hx <;> cases hy <;> try exact False.elim g
  · exact .inl ⟨_, _, rfl, rfl, q _ _ H (stay t j) (.bl _) g⟩
  · exact .inr ⟨_, _, rfl, rfl, q _ _ H (stay t j) (.bl _) g⟩
theorem ev_lt {a b : Expr} {pos : Pos} (h : Ev X C Γ a fun d => Ev X C Γ b fun e => ltG d e P) : Ev X C Γ (.Compare a [.Lt] [b] pos) P := ev_cmp (op_lt.or op_lt_str) od_lt (nomark _) h
theorem ev_le {a b : Expr} {pos : Pos} (h : Ev X C Γ a fun d => Ev X C Γ b fun e => ordG (fun i j => decide (i ≤ j)) d e P) : Ev X C Γ (.Compare a [.LtE] [b] pos) P := ev_cmp op_le od_ord (nomark _) h
theorem ev_gt {a b : Expr} {pos : Pos} (h : Ev X C Γ a fun d => Ev X C Γ b fun e => ordG (fun i j => decide (j < i)) d e P) : Ev X C Γ (.Compare a [.Gt] [b] pos) P := ev_cmp op_gt od_ord (nomark _) h
theorem ev_ge {a b : Expr} {pos : Pos} (h : Ev X C Γ a fun d => Ev X C Γ b fun e => ordG (fun i j => decide (j ≤ i)) d e P) : Ev X C Γ (.Compare a [.GtE] [b] pos) P := ev_cmp op_ge od_ord (nomark _) h
/-- x is None, x is not None -/
def isNone : D → Bool
  | .non => true
  | _ => false
theorem isN_of {K : PySem.W.Frag} {S : Hp} {x : V} {d : D} (h : DD K S x d) : decide (x = .non) = isNone d := by cases h <;> first | rfl | exact decide_eq_false (fun e => by cases e)
theorem ev_isN {a : Expr} {j pos pos'} (h : Ev X C Γ a fun d => P (.bl (isNone d))) : Ev X C Γ (.Compare a [.Is] [.Constant .none j pos'] pos) P := fun σ H g Q q => by
  refine we_of (pe_cmp (pc_isN pe_we) rfl) ?_
  refine h σ H g _ fun v d H1 s1 r1 p => ?_
  show Q (.bl (decide (v = .non))) H1
  rw [isN_of r1]
  exact q _ _ H1 s1 (.bl _) p
theorem ev_notN {a : Expr} {j pos pos'} (h : Ev X C Γ a fun d => P (.bl (!isNone d))) : Ev X C Γ (.Compare a [.IsNot] [.Constant .none j pos'] pos) P := fun σ H g Q q => by
  refine we_of (pe_cmp (pc_notN pe_we) rfl) ?_
  refine h σ H g _ fun v d H1 s1 r1 p => ?_
  show Q (.bl (!decide (v = .non))) H1
  rw [isN_of r1]
  exact q _ _ H1 s1 (.bl _) p
/-- x in y, x not in y: a sign in a text; a plain thing in a list or tuple of plain things -/
def inG (f : Bool → Bool) : D → D → (D → Prop) → Prop
  | .str s, .str t, P => ∃ c, s = ⟨#[c]⟩ ∧ P (.bl (f (decide (c ∈ t.cps.toList))))
  | d, .tup es, P => shp d = true ∧ shp (.tup es) = true ∧ P (.bl (f (es.any fun e => eqD e d)))
  | d, .lst es, P => shp d = true ∧ shp (.lst es) = true ∧ P (.bl (f (es.any fun e => eqD e d)))
  | _, _, _ => False
theorem any_toPys (p : PyData) : ∀ es : List D, ((toPys es).any fun z => PyData.eqv z p) = es.any fun e => PyData.eqv (toPy e) p
  | [] => rfl
  | e :: es => by
    show (PyData.eqv (toPy e) p || (toPys es).any fun z => PyData.eqv z p) = _
    rw [any_toPys p es] <;> rfl
def rInA (K : PySem.W.Frag) : R2 := fun x y H Q => (∃ (c : Nat) (z : Str), x = .str ⟨#[c]⟩ ∧ y = .str z ∧ Q (.bl (decide (c ∈ z.cps.toList))) H) ∨
  ∃ d ds, Dp K H x d ∧ (Dp K H y (.list ds) ∨ Dp K H y (.tuple ds)) ∧ SeqAt.shaped d = true ∧ SeqAt.shaped (.list ds) = true ∧ Q (.bl (ds.any fun z => PyData.eqv z d)) H
def rNotInA (K : PySem.W.Frag) : R2 := fun x y H Q => (∃ (c : Nat) (z : Str), x = .str ⟨#[c]⟩ ∧ y = .str z ∧ Q (.bl (!decide (c ∈ z.cps.toList))) H) ∨
  ∃ d ds, Dp K H x d ∧ (Dp K H y (.list ds) ∨ Dp K H y (.tuple ds)) ∧ SeqAt.shaped d = true ∧ SeqAt.shaped (.list ds) = true ∧ Q (.bl (!ds.any fun z => PyData.eqv z d)) H
theorem room_in {A : Around} {ds : List PyData} {d : PyData} (h : SeqAt.shaped d = true) (hu : A.units + 65 < cLine) : A.units + 1 + min (PyData.depthAll ds) d.depth < cLine := by
  unfold SeqAt.shaped at h
  rw [Bool.and_eq_true] at h
  have := of_decide_eq_true h.2
  omega
theorem op_inA (hu : X.A.units + 65 < cLine) : OpR X (compareOp .In) (rInA X.K) := by
  refine OpR.or op_in_sign ?_
  intro pins s σ H x y v u Q I rx ry h
  obtain ⟨d, ds, hd, he, sd, se, q⟩ := h
  obtain ⟨as, r1⟩ := Dp.reads I d x v hd rx
  rcases he with he | he
  · obtain ⟨bs, r2⟩ := Dp.reads I (.list ds) y u he ry
    exact SeqAt.in_list_reads r2 r1 (SeqAt.canLay_of_shaped se) (SeqAt.canLay_of_shaped sd) (room_in sd hu) ⟨.bl _, H, I, rfl, q⟩
  · obtain ⟨bs, r2⟩ := Dp.reads I (.tuple ds) y u he ry
    exact SeqAt.in_tuple_reads r2 r1 (SeqAt.canLay_of_shaped se) (SeqAt.canLay_of_shaped sd) (room_in sd hu) ⟨.bl _, H, I, rfl, q⟩
theorem op_notInA (hu : X.A.units + 65 < cLine) : OpR X (compareOp .NotIn) (rNotInA X.K) := by
  refine OpR.or op_notIn_sign ?_
  intro pins s σ H x y v u Q I rx ry h
  obtain ⟨d, ds, hd, he, sd, se, q⟩ := h
  obtain ⟨as, r1⟩ := Dp.reads I d x v hd rx
  rcases he with he | he
  · obtain ⟨bs, r2⟩ := Dp.reads I (.list ds) y u he ry
    exact SeqAt.notIn_list_reads r2 r1 (SeqAt.canLay_of_shaped se) (SeqAt.canLay_of_shaped sd) (room_in sd hu) ⟨.bl _, H, I, rfl, q⟩
  · obtain ⟨bs, r2⟩ := Dp.reads I (.tuple ds) y u he ry
    exact SeqAt.notIn_tuple_reads r2 r1 (SeqAt.canLay_of_shaped se) (SeqAt.canLay_of_shaped sd) (room_in sd hu) ⟨.bl _, H, I, rfl, q⟩
theorem shp_list {es : List D} (h : shp (.tup es) = true) : SeqAt.shaped (.list (toPys es)) = true := h
theorem in_seq {f : Bool → Bool} {S : Hp} {x y : V} {d e : D} (hx : DD X.K S x d) (hy : DD X.K S y e) (g : inG f d e P) :
    (∃ c z, d = .str ⟨#[c]⟩ ∧ e = .str z ∧ P (.bl (f (decide (c ∈ z.cps.toList))))) ∨
    ∃ es, Dp X.K S x (toPy d) ∧ (Dp X.K S y (.list (toPys es)) ∨ Dp X.K S y (.tuple (toPys es))) ∧ SeqAt.shaped (toPy d) = true ∧ SeqAt.shaped (.list (toPys es)) = true ∧ P (.bl (f ((toPys es).any fun z => PyData.eqv z (toPy d)))) := by
  cases e with
  | str t =>
    cases d with
    | str s =>
      obtain ⟨c, rfl, p⟩ := g
      exact .inl ⟨c, t, rfl, rfl, p⟩
    | _ => exact False.elim g
  | tup es =>
    have g' : shp d = true ∧ shp (.tup es) = true ∧ P (.bl (f (es.any fun e => eqD e d))) := by cases d <;> exact g
    refine .inr ⟨es, dp_of hx (shp_lay g'.1), .inr (dp_of hy (shp_lay g'.2.1)), g'.1, g'.2.1, ?_⟩
    rw [any_toPys]
    exact g'.2.2
  | lst es =>
    have g' : shp d = true ∧ shp (.lst es) = true ∧ P (.bl (f (es.any fun e => eqD e d))) := by cases d <;> exact g
    refine .inr ⟨es, dp_of hx (shp_lay g'.1), .inl (dp_of hy (shp_lay g'.2.1)), g'.1, g'.2.1, ?_⟩
    rw [any_toPys]
    exact g'.2.2
  | _ => cases d <;> exact False.elim g
theorem od_in : OpD X (rInA X.K) (inG id) := by
  intro C H x y d e P Q t j hx hy g q
  rcases in_seq hx hy g with ⟨c, z, rfl, rfl, p⟩ | ⟨es, h1, h2, h3, h4, p⟩
  · cases hx
    cases hy
    exact .inl ⟨c, z, rfl, rfl, q _ _ H (stay t j) (.bl _) p⟩
  · exact .inr ⟨_, _, Dp.same (cut_sub _ _) h1, h2.imp (Dp.same (cut_sub _ _)) (Dp.same (cut_sub _ _)), h3, h4, q _ _ H (stay t j) (.bl _) p⟩
theorem od_notIn : OpD X (rNotInA X.K) (inG not) := by
  intro C H x y d e P Q t j hx hy g q
  rcases in_seq hx hy g with ⟨c, z, rfl, rfl, p⟩ | ⟨es, h1, h2, h3, h4, p⟩
  · cases hx
    cases hy
    exact .inl ⟨c, z, rfl, rfl, q _ _ H (stay t j) (.bl _) p⟩
  · exact .inr ⟨_, _, Dp.same (cut_sub _ _) h1, h2.imp (Dp.same (cut_sub _ _)) (Dp.same (cut_sub _ _)), h3, h4, q _ _ H (stay t j) (.bl _) p⟩
theorem ev_in {a b : Expr} {pos : Pos} (hu : X.A.units + 65 < cLine) (h : Ev X C Γ a fun d => Ev X C Γ b fun e => inG id d e P) (hm : behindInMarks .In b = false := by rfl) : Ev X C Γ (.Compare a [.In] [b] pos) P := ev_cmp (op_inA hu) od_in hm h
theorem ev_notIn {a b : Expr} {pos : Pos} (hu : X.A.units + 65 < cLine) (h : Ev X C Γ a fun d => Ev X C Γ b fun e => inG not d e P) (hm : behindInMarks .NotIn b = false := by rfl) : Ev X C Γ (.Compare a [.NotIn] [b] pos) P := ev_cmp (op_notInA hu) od_notIn hm h
/-- a op b op' c -/
def chG (G : D → D → (D → Prop) → Prop) (R : D → (D → Prop) → Prop) (P : D → Prop) (d e : D) : Prop := G d e fun z => ∃ k, z = .bl k ∧ (k = true → R e P) ∧ (k = false → P (.bl false))
theorem chain_red {a b c : Expr} {r r' : R2} {G G' : D → D → (D → Prop) → Prop} (hr : OpD X r G) (hr' : OpD X r' G') (h : Ev X C Γ a fun d => Ev X C Γ b fun e => chG G (fun e P => Ev X C Γ c fun f => G' e f P) P d e)
    {σ : L2.St} {H : Hp} (g : Good C X.K σ H Γ) {Q : VK} (q : ∀ v f H', Step C H H' → DD X.K (cut C.M H') v f → P f → Q v H') : tChain r r' (WE X a) (WE X b) (WE X c) σ H Q := by
  refine h σ H g _ fun x d H1 s1 r1 h1 => h1 σ H1 (g.step s1) _ fun y e H2 s2 r2 h2 => ?_
  refine hr C H2 x y d e _ _ s2.trk s2.j (r1.mono s2.same) r2 h2 fun z f H3 s3 r3 ⟨k, ek, kt, kf⟩ => ?_
  subst ek
  cases r3
  refine ⟨k, rfl, ?_⟩
  have s03 := (s1.trans s2).trans s3
  cases k with
  | true =>
    show WE X c σ H3 fun w H4 => r' y w H4 Q
    exact kt rfl σ H3 (g.step s03) _ fun w f2 H4 s4 r4 g4 => hr' C H4 y w e f2 P Q s4.trk s4.j (r2.mono (s3.trans s4).same) r4 g4 fun v f3 H5 s5 r5 p => q v f3 H5 ((s03.trans s4).trans s5) r5 p
  | false =>
    show Q (.bl false) H3
    exact q _ _ H3 s03 (.bl _) (kf rfl)
theorem ev_chain {a b c : Expr} {op op' : CmpOp} {pos : Pos} {r r' : R2} {G G' : D → D → (D → Prop) → Prop} (ho : OpR X (compareOp op) r) (hr : OpD X r G) (ho' : OpR X (compareOp op') r') (hr' : OpD X r' G') (hm : behindInMarks op' c = false)
    (h : Ev X C Γ a fun d => Ev X C Γ b fun e => chG G (fun e P => Ev X C Γ c fun f => G' e f P) P d e) : Ev X C Γ (.Compare a [op, op'] [b, c] pos) P := fun σ H g Q q => we_of (pe_chain ho ho' pe_we pe_we pe_we hm) (chain_red hr hr' h g q)
abbrev leG := ordG fun i j => decide (i ≤ j)
theorem ev_leLe {a b c : Expr} {pos : Pos} (h : Ev X C Γ a fun d => Ev X C Γ b fun e => chG leG (fun e P => Ev X C Γ c fun f => leG e f P) P d e) : Ev X C Γ (.Compare a [.LtE, .LtE] [b, c] pos) P := ev_chain op_le od_ord op_le od_ord (nomark _) h
theorem ev_leLt {a b c : Expr} {pos : Pos} (h : Ev X C Γ a fun d => Ev X C Γ b fun e => chG leG (fun e P => Ev X C Γ c fun f => ltG e f P) P d e) : Ev X C Γ (.Compare a [.LtE, .Lt] [b, c] pos) P := ev_chain op_le od_ord (op_lt.or op_lt_str) od_lt (nomark _) h

/-! ### tests -/
def boG (P : Bool → Prop) (d : D) : Prop := ∃ b, d = .bl b ∧ P b
theorem evt_val {e : Expr} {P : Bool → Prop} (h : Ev X C Γ e (boG P)) (he : ∀ whole, isTrue e X.env whole = (do let v ← whole; standAt e.pos; holding [v] (truthy v)) := by intro _; rfl) : EvT X C Γ e P := fun σ H g Q q => by
  refine wt_of (pt_val pe_we he) ?_
  refine h σ H g _ fun v d H1 s1 r1 ⟨b, e, p⟩ => ?_
  subst e
  cases r1
  exact ⟨b, rfl, q b H1 s1 p⟩
theorem evt_cmp {a b : Expr} {op : CmpOp} {pos : Pos} {r : R2} {G : D → D → (D → Prop) → Prop} {P : Bool → Prop} (ho : OpR X (compareOp op) r) (hr : OpD X r G) (hm : behindInMarks op b = false) (h : Ev X C Γ a fun d => Ev X C Γ b fun e => G d e (boG P)) :
    EvT X C Γ (.Compare a [op] [b] pos) P := fun σ H g Q q => by
  refine wt_of (pt_cmpR ho pe_we pe_we hm) ?_
  refine op2 hr h g fun v f H1 s1 r1 ⟨k, ek, p⟩ => ?_
  subst ek
  cases r1
  exact ⟨k, rfl, q k H1 s1 p⟩
theorem evt_chain {a b c : Expr} {op op' : CmpOp} {pos : Pos} {r r' : R2} {G G' : D → D → (D → Prop) → Prop} {P : Bool → Prop} (ho : OpR X (compareOp op) r) (hr : OpD X r G) (ho' : OpR X (compareOp op') r') (hr' : OpD X r' G') (hm : behindInMarks op' c = false)
    (h : Ev X C Γ a fun d => Ev X C Γ b fun e => chG G (fun e P => Ev X C Γ c fun f => G' e f P) (boG P) d e) : EvT X C Γ (.Compare a [op, op'] [b, c] pos) P := fun σ H g Q q => by
  refine wt_of (pt_chain ho ho' pe_we pe_we pe_we hm) ?_
  refine chain_red hr hr' h g fun v f H1 s1 r1 ⟨k, ek, p⟩ => ?_
  subst ek
  cases r1
  exact ⟨k, rfl, q k H1 s1 p⟩
section
variable {a b c : Expr} {pos : Pos} {T : Bool → Prop}
theorem et_eq (hu : X.A.units + 64 < cLine) (h : Ev X C Γ a fun d => Ev X C Γ b fun e => eqG d e (boG T)) : EvT X C Γ (.Compare a [.Eq] [b] pos) T := evt_cmp (op_eq.or (op_eqD hu)) od_eq (nomark _) h
theorem et_ne (hu : X.A.units + 64 < cLine) (h : Ev X C Γ a fun d => Ev X C Γ b fun e => neG d e (boG T)) : EvT X C Γ (.Compare a [.NotEq] [b] pos) T := evt_cmp (op_ne.or (op_neD hu)) od_ne (nomark _) h
theorem et_lt (h : Ev X C Γ a fun d => Ev X C Γ b fun e => ltG d e (boG T)) : EvT X C Γ (.Compare a [.Lt] [b] pos) T := evt_cmp (op_lt.or op_lt_str) od_lt (nomark _) h
theorem et_le (h : Ev X C Γ a fun d => Ev X C Γ b fun e => leG d e (boG T)) : EvT X C Γ (.Compare a [.LtE] [b] pos) T := evt_cmp op_le od_ord (nomark _) h
theorem et_gt (h : Ev X C Γ a fun d => Ev X C Γ b fun e => ordG (fun i j => decide (j < i)) d e (boG T)) : EvT X C Γ (.Compare a [.Gt] [b] pos) T := evt_cmp op_gt od_ord (nomark _) h
theorem et_ge (h : Ev X C Γ a fun d => Ev X C Γ b fun e => ordG (fun i j => decide (j ≤ i)) d e (boG T)) : EvT X C Γ (.Compare a [.GtE] [b] pos) T := evt_cmp op_ge od_ord (nomark _) h
theorem et_in (hu : X.A.units + 65 < cLine) (h : Ev X C Γ a fun d => Ev X C Γ b fun e => inG id d e (boG T)) (hm : behindInMarks .In b = false := by rfl) : EvT X C Γ (.Compare a [.In] [b] pos) T := evt_cmp (op_inA hu) od_in hm h
theorem et_notIn (hu : X.A.units + 65 < cLine) (h : Ev X C Γ a fun d => Ev X C Γ b fun e => inG not d e (boG T)) (hm : behindInMarks .NotIn b = false := by rfl) : EvT X C Γ (.Compare a [.NotIn] [b] pos) T := evt_cmp (op_notInA hu) od_notIn hm h
theorem et_leLe (h : Ev X C Γ a fun d => Ev X C Γ b fun e => chG leG (fun e P => Ev X C Γ c fun f => leG e f P) (boG T) d e) : EvT X C Γ (.Compare a [.LtE, .LtE] [b, c] pos) T := evt_chain op_le od_ord op_le od_ord (nomark _) h
theorem et_leLt (h : Ev X C Γ a fun d => Ev X C Γ b fun e => chG leG (fun e P => Ev X C Γ c fun f => ltG e f P) (boG T) d e) : EvT X C Γ (.Compare a [.LtE, .Lt] [b, c] pos) T := evt_chain op_le od_ord (op_lt.or op_lt_str) od_lt (nomark _) h
theorem et_isN {j pos'} (h : Ev X C Γ a fun d => T (isNone d)) : EvT X C Γ (.Compare a [.Is] [.Constant .none j pos'] pos) T := fun σ H g Q q => by
  refine wt_of (pt_cmp (pc_isN pe_we) rfl) ?_
  refine h σ H g _ fun v d H1 s1 r1 p => ?_
  exact ⟨_, rfl, by rw [isN_of r1]; exact q _ H1 s1 p⟩
theorem et_notN {j pos'} (h : Ev X C Γ a fun d => T (!isNone d)) : EvT X C Γ (.Compare a [.IsNot] [.Constant .none j pos'] pos) T := fun σ H g Q q => by
  refine wt_of (pt_cmp (pc_notN pe_we) rfl) ?_
  refine h σ H g _ fun v d H1 s1 r1 p => ?_
  exact ⟨_, rfl, by rw [isN_of r1]; exact q _ H1 s1 p⟩
theorem et_not (h : EvT X C Γ a fun b => T (!b)) : EvT X C Γ (.UnaryOp .Not a pos) T := fun σ H g Q q => wt_of (pt_not pt_wt) (h σ H g _ fun b H1 s1 p => q _ H1 s1 p)
/-- a test, whatever its whole is -/
def WW (X : Cx) (e : Expr) : TT := fun σ H Q => ∀ whole pins s, Inv X pins σ H s → wpAny (model X.prog X.w) X.A (isTrue e X.env whole) (TP X pins σ Q) X.xe s
def EvW (X : Cx) (C : SJ) (Γ : En) (e : Expr) (P : Bool → Prop) : Prop := ∀ σ H, Good C X.K σ H Γ → ∀ Q : Bool → Hp → Prop, (∀ b H', Step C H H' → P b → Q b H') → WW X e σ H Q
theorem pw_ww {e : Expr} : PW X e (WW X e) := ⟨fun wh pins s _ _ _ I h => h wh pins s I⟩
theorem et_w {e : Expr} (h : EvW X C Γ e T) : EvT X C Γ e T := fun σ H g Q q pins s I => h σ H g Q q _ pins s I
def if2 (b : Bool) (A B : Prop) : Prop := (b = true → A) ∧ (b = false → B)
theorem if2_of {b : Bool} {A B : Prop} (h : if2 b A B) : if b = true then A else B := by
  cases b with
  | true => rw [if_pos rfl]; exact h.1 rfl
  | false => rw [if_neg Bool.false_ne_true]; exact h.2 rfl
theorem ew_and1 (h : EvT X C Γ a T) : EvW X C Γ (.BoolOp .And [a] pos) T := fun σ H g Q q wh pins s I => (pw_and1 pt_wt).run wh pins s σ H Q I (h σ H g Q q)
theorem ew_or1 (h : EvT X C Γ a T) : EvW X C Γ (.BoolOp .Or [a] pos) T := fun σ H g Q q wh pins s I => (pw_or1 pt_wt).run wh pins s σ H Q I (h σ H g Q q)
theorem ew_and {rest : List Expr} (h : EvT X C Γ a fun k => if2 k (EvW X C Γ (.BoolOp .And (b :: rest) pos) T) (T false)) : EvW X C Γ (.BoolOp .And (a :: b :: rest) pos) T := fun σ H g Q q wh pins s I =>
  (pw_and pt_wt pw_ww).run wh pins s σ H Q I (h σ H g _ fun k H1 s1 p => by
    cases k with
    | true => exact p.1 rfl σ H1 (g.step s1) Q fun b H2 s2 pb => q b H2 (s1.trans s2) pb
    | false => exact q false H1 s1 (p.2 rfl))
theorem ew_or {rest : List Expr} (h : EvT X C Γ a fun k => if2 k (T true) (EvW X C Γ (.BoolOp .Or (b :: rest) pos) T)) : EvW X C Γ (.BoolOp .Or (a :: b :: rest) pos) T := fun σ H g Q q wh pins s I =>
  (pw_or pt_wt pw_ww).run wh pins s σ H Q I (h σ H g _ fun k H1 s1 p => by
    cases k with
    | true => exact q true H1 s1 (p.1 rfl)
    | false => exact p.2 rfl σ H1 (g.step s1) Q fun b H2 s2 pb => q b H2 (s1.trans s2) pb)
/-- the same as values -/
theorem ev_one {op} (h : Ev X C Γ a P) : Ev X C Γ (.BoolOp op [a] pos) P := fun σ H g Q q => we_of (pe_one pe_we) (h σ H g Q q)
theorem ev_and {rest : List Expr} (h : Ev X C Γ a (boG fun k => if2 k (Ev X C Γ (.BoolOp .And (b :: rest) pos) P) (P (.bl false)))) : Ev X C Γ (.BoolOp .And (a :: b :: rest) pos) P := fun σ H g Q q =>
  we_of (pe_and pe_we pe_we) (h σ H g _ fun v d H1 s1 r1 ⟨k, ek, p⟩ => by
    subst ek
    cases r1
    refine ⟨k, rfl, ?_⟩
    cases k with
    | true => exact p.1 rfl σ H1 (g.step s1) Q fun v d H2 s2 r2 pd => q v d H2 (s1.trans s2) r2 pd
    | false => exact q _ _ H1 s1 (.bl _) (p.2 rfl))
theorem ev_or {rest : List Expr} (h : Ev X C Γ a (boG fun k => if2 k (P (.bl true)) (Ev X C Γ (.BoolOp .Or (b :: rest) pos) P))) : Ev X C Γ (.BoolOp .Or (a :: b :: rest) pos) P := fun σ H g Q q =>
  we_of (pe_or pe_we pe_we) (h σ H g _ fun v d H1 s1 r1 ⟨k, ek, p⟩ => by
    subst ek
    cases r1
    refine ⟨k, rfl, ?_⟩
    cases k with
    | true => exact q _ _ H1 s1 (.bl _) (p.1 rfl)
    | false => exact p.2 rfl σ H1 (g.step s1) Q fun v d H2 s2 r2 pd => q v d H2 (s1.trans s2) r2 pd)
theorem ev_not (h : Ev X C Γ a (boG fun k => P (.bl (!k)))) : Ev X C Γ (.UnaryOp .Not a pos) P := fun σ H g Q q => we_of (pe_not pe_we) (h σ H g _ fun v d H1 s1 r1 ⟨k, ek, p⟩ => by
  subst ek
  cases r1
  exact ⟨k, rfl, q _ _ H1 s1 (.bl _) p⟩)
theorem ev_if (h : EvT X C Γ c fun k => if2 k (Ev X C Γ a P) (Ev X C Γ b P)) : Ev X C Γ (.IfExp c a b pos) P := fun σ H g Q q => we_of (pe_ifExp pt_wt pe_we pe_we) (h σ H g _ fun k H1 s1 p => by
  cases k with
  | true => exact p.1 rfl σ H1 (g.step s1) Q fun v d H2 s2 r2 pd => q v d H2 (s1.trans s2) r2 pd
  | false => exact p.2 rfl σ H1 (g.step s1) Q fun v d H2 s2 r2 pd => q v d H2 (s1.trans s2) r2 pd)
end

/-! ### arguments, displays, built-ins called by name -/
theorem ea_nil {P : List D → Prop} (p : P []) : EvA X C Γ [] P := fun σ H g Q q => wa_of pa_nil (q _ _ H g.refl .nil p)
theorem ea_cons {e : Expr} {es : List Expr} {P : List D → Prop} (h : Ev X C Γ e fun d => EvA X C Γ es fun ds => P (d :: ds)) (hs : starEach (e :: es) X.env = (false, eval e X.env) :: starEach es X.env := by rfl) : EvA X C Γ (e :: es) P := fun σ H g Q q =>
  wa_of (pa_cons pe_we pa_wa hs) (h σ H g _ fun v d H1 s1 r1 h1 => h1 σ H1 (g.step s1) _ fun vs ds H2 s2 r2 p => q _ _ H2 (s1.trans s2) (.cons (r1.mono s2.same) r2) p)
theorem ev_tup {es : List Expr} {x1 pos} (h : EvA X C Γ es fun ds => ds.length ≤ sizeLine ∧ P (.tup ds)) : Ev X C Γ (.Tuple es x1 pos) P := fun σ H g Q q =>
  we_of (pe_tup pa_wa) (h σ H g _ fun vs ds H1 s1 r1 ⟨z, p⟩ => ⟨by rw [r1.len]; exact z, fun a ha => q _ _ _ (s1.trans (st_new s1.trk s1.j ha)) (.tup (.of (cut_new s1.trk ha)) (r1.mono (cut_same (same_new ha)))) p⟩)
theorem dds_in {K : PySem.W.Frag} {M : List Addr} {H : Hp} {p : Addr} {o : HO} {vs : List V} {ds : List D} (h : DDs K (cut M H) vs ds) (hp : H p = none) : DDs K (cut (p :: M) (upd H p o)) vs ds := h.mono fun a u e => by
  unfold cut at e ⊢
  split at e
  · cases e
  · rename_i hn
    have hne : a ≠ p := fun z => by rw [z, hp] at e; cases e
    rw [if_neg (by simp only [List.mem_cons, not_or]; exact ⟨hne, hn⟩), upd_ne hne]
    exact e
theorem fst_new {C : SJ} {H H1 : Hp} {p : Addr} {o : HO} (s : Step C H H1) (hp : H1 p = none) : FStep C p H (upd H1 p o) := by
  have e : Same (cut C.M H1) (cut (p :: C.M) (upd H1 p o)) := fun a u h => by
    unfold cut at h ⊢
    split at h
    · cases h
    · rename_i hn
      have hne : a ≠ p := fun z => by rw [z, hp] at h; cases h
      rw [if_neg (by rw [List.mem_cons]; exact fun z => z.elim hne hn), upd_ne hne]
      exact h
  exact ⟨s.same.trans e, s.trk.same (same_new hp), C.st _ _ _ _ s.j e fun a ha => upd_ne fun z => s.trk a ha (by rw [z]; exact hp)⟩
theorem ef_lst {es : List Expr} {pos} {P : List D → Prop} (h : EvA X C Γ es fun ds => ds.length ≤ sizeLine ∧ P ds) : EvF X C Γ (.List es pos) P := fun σ H g Q q =>
  we_of (pe_lst pa_wa) (h σ H g _ fun vs ds H1 s1 r1 ⟨z, p⟩ => ⟨by rw [r1.len]; exact z, fun a ha => q a vs ds _ (by
    cases e : H a with
    | none => rfl
    | some o =>
      exfalso
      by_cases hm : a ∈ C.M
      · exact s1.trk a hm ha
      · have := s1.same a o (by unfold cut; rw [if_neg hm]; exact e)
        unfold cut at this
        rw [if_neg hm, ha] at this
        cases this) (fst_new s1 ha) upd_same (dds_in r1 ha) p⟩)
/-- a new list as data -/
theorem ev_F {e : Expr} (h : EvF X C Γ e fun ds => P (.lst ds)) : Ev X C Γ e P := fun σ H g Q q => h σ H g Q fun p xs ds H1 hp s1 hl r1 pd => by
  have hm : p ∉ C.M := fun m => g.trk p m hp
  have e : cut C.M H1 p = some (.lst xs) := by unfold cut; rw [if_neg hm]; exact hl
  refine q _ _ H1 s1.step (.lst (.of e) (r1.mono fun a u ha => ?_)) pd
  unfold cut at ha ⊢
  split at ha
  · cases ha
  · rename_i hn
    simp only [List.mem_cons, not_or] at hn
    rw [if_neg hn.2]
    exact ha
def CallD (X : Cx) (r : List V → Hp → VK → Prop) (G : List D → (D → Prop) → Prop) : Prop :=
  ∀ (C : SJ) (H : Hp) (vs : List V) (ds : List D) (P : D → Prop) (Q : VK), Trk C.M H → C.J (cut C.M H) H → DDs X.K (cut C.M H) vs ds → G ds P → (∀ v f H', Step C H H' → DD X.K (cut C.M H') v f → P f → Q v H') → r vs H Q
theorem ev_callB {id : String} {x : Str} {p pos : Pos} {e : Expr} {es : List Expr} {r : List V → Hp → VK → Prop} {G : List D → (D → Prop) → Prop} (hc : CallR X (.builtin id) r) (hr : CallD X r G) (hm : X.mg x = none) (hv : bootBuiltins x = some (.builtin id)) (h : EvA X C Γ (e :: es) fun ds => G ds P)
    (hg : Gl X x := by rfl) (hn : x ≠ "__name__" := by decide) (hdb : (x == ("__debug__" : Str)) = false := by decide)
    (he : starEach (e :: es) X.env = (false, eval e X.env) :: starEach es X.env := by rfl) (hpl : (backTo pos (starEach es X.env)).any (·.1) = false := by rfl) : Ev X C Γ (.Call (.Name x p) (e :: es) [] pos) P := fun σ H g Q q =>
  we_of (pe_callB hc hg hm hv pa_wa hn hdb he hpl) (h σ H g _ fun vs ds H1 s1 r1 hG => hr C H1 vs ds P Q s1.trk s1.j r1 hG fun v f H2 s2 r2 pf => q v f H2 (s1.trans s2) r2 pf)
theorem ev_callTy {T : String} {x : Str} {p pos : Pos} {e : Expr} {es : List Expr} {r : List V → Hp → VK → Prop} {G : List D → (D → Prop) → Prop} (hc : CallR X (.type T) r) (hr : CallD X r G) (hm : X.mg x = none) (hv : bootBuiltins x = some (.type T)) (h : EvA X C Γ (e :: es) fun ds => G ds P)
    (hg : Gl X x := by rfl) (hn : x ≠ "__name__" := by decide) (hdb : (x == ("__debug__" : Str)) = false := by decide)
    (he : starEach (e :: es) X.env = (false, eval e X.env) :: starEach es X.env := by rfl) (hpl : (backTo pos (starEach es X.env)).any (·.1) = false := by rfl) : Ev X C Γ (.Call (.Name x p) (e :: es) [] pos) P := fun σ H g Q q =>
  we_of (pe_callTy hc hg hm hv pa_wa hn hdb he hpl) (h σ H g _ fun vs ds H1 s1 r1 hG => hr C H1 vs ds P Q s1.trk s1.j r1 hG fun v f H2 s2 r2 pf => q v f H2 (s1.trans s2) r2 pf)
/-- the type's name, as a value -/
theorem ev_ty {x : Str} {T : String} {pos : Pos} (hm : X.mg x = none) (hv : bootBuiltins x = some (.type T)) (p : P (.ty T)) (hg : Gl X x := by rfl) (hn : x ≠ "__name__" := by decide) (hd : (x == ("__debug__" : Str)) = false := by decide) : Ev X C Γ (.Name x pos) P := fun σ H g Q q =>
  we_of (pe_bltn (v := .ty T) hg hm hv rfl hn hd) (q _ _ H g.refl (.ty T) p)
def tyOf : D → Option String
  | .non => some "NoneType" | .bl _ => some "bool" | .int _ => some "int" | .str _ => some "str" | .lst _ => some "list" | .tup _ => some "tuple" | .dct _ => some "dict" | _ => none
theorem tyx_of {K : PySem.W.Frag} {H : Hp} {M : List Addr} {v : V} {d : D} (h : DD K (cut M H) v d) {T : String} (e : tyOf d = some T) : TyX K H v (.type T) := by
  have back : ∀ {a : Addr} {o : HO}, cut M H a = some o → H a = some o := fun {a o} z => cut_sub M H a o z
  cases h with
  | non => cases e; exact .base .non
  | bl b => cases e; exact .base (.bl b)
  | int b => cases e; exact .base (.int b)
  | str b => cases e; exact .base (.str b)
  | lst h _ =>
    cases e
    rcases h with (h | ⟨o, h⟩) | ⟨o, its, n, hk, hc, _⟩
    · exact .base (.lst (back h))
    · exact .base (.frz (back h))
    · exact .kList hk hc
  | tup h _ =>
    cases e
    rcases h with (h | ⟨o, h⟩) | ⟨o, its, n, hk, hc, _⟩
    · exact .base (.tup (back h))
    · exact .fTuple (back h)
    · exact .kTuple hk hc
  | dct h _ => cases e; exact .base (.dK (back h))
  | _ => cases e
/-- isinstance(x, T), T a built-in class -/
def isiG : List D → (D → Prop) → Prop
  | [d, .ty T], P => ∃ t b, tyOf d = some t ∧ kitB t T = some b ∧ P (.bl b)
  | _, _ => False
theorem cd_isi : CallD X (rIsi X.K) isiG := by
  intro C H vs ds P Q t j r g q
  cases r with
  | nil => exact False.elim g
  | cons h r =>
    cases r with
    | nil => exact False.elim g
    | cons h2 r =>
      cases r with
      | nil =>
        cases h2 <;> try exact False.elim g
        obtain ⟨ty, b, e1, e2, p⟩ := g
        exact ⟨_, _, _, _, b, rfl, .ty _, tyx_of h e1, kit_ty e2, q _ _ H (stay t j) (.bl _) p⟩
      | cons h3 r => cases h2 <;> exact False.elim g
theorem ev_isi {p pos : Pos} {a b : Expr} (hm : X.mg "isinstance" = none) (h : EvA X C Γ [a, b] fun ds => isiG ds P) (hg : Gl X "isinstance" := by rfl) (he : starEach [a, b] X.env = (false, eval a X.env) :: starEach [b] X.env := by rfl)
    (hpl : (backTo pos (starEach [b] X.env)).any (·.1) = false := by rfl) : Ev X C Γ (.Call (.Name "isinstance" p) [a, b] [] pos) P := ev_callB call_isi cd_isi hm (by decide +kernel) h hg (by decide) (by decide) he hpl
/-- len -/
def lenG : List D → (D → Prop) → Prop
  | [.str z], P => z.length ≤ sizeLine ∧ P (.int z.length)
  | [.lst ds], P => P (.int ds.length)
  | [.tup ds], P => P (.int ds.length)
  | _, _ => False
theorem cd_len : CallD X (fun xs H Q => (∃ p ys, xs = [.ref p] ∧ (SqL X.K H p ys ∨ SqT X.K H p ys) ∧ Q (.int ys.length) H) ∨ ∃ z, xs = [.str z] ∧ z.length ≤ sizeLine ∧ Q (.int z.length) H) lenG := by
  intro C H vs ds P Q t j r g q
  cases r with
  | nil => exact False.elim g
  | cons h r =>
    cases r with
    | cons h2 r => cases h <;> exact False.elim g
    | nil =>
      cases h <;> try exact False.elim g
      · exact .inr ⟨_, rfl, g.1, q _ _ H (stay t j) (.int _) g.2⟩
      · rename_i a xs ds h r
        exact .inl ⟨a, xs, rfl, .inl (sub_sqL h), q _ _ H (stay t j) (.int _) (by rw [r.len]; exact g)⟩
      · rename_i a xs ds h r
        exact .inl ⟨a, xs, rfl, .inr (sub_sqT h), q _ _ H (stay t j) (.int _) (by rw [r.len]; exact g)⟩
theorem ev_len {p pos : Pos} {a : Expr} (hm : X.mg "len" = none) (h : Ev X C Γ a fun d => lenG [d] P) (hg : Gl X "len" := by rfl) (he : starEach [a] X.env = (false, eval a X.env) :: starEach [] X.env := by rfl) : Ev X C Γ (.Call (.Name "len" p) [a] [] pos) P :=
  ev_callB (call_len_seq.or call_len_str) cd_len hm PySem.boot_len (ea_cons (h.imp fun _ z => ea_nil z) he) hg (by decide) (by decide) he rfl
end
end GG
set_option maxHeartbeats 4000000
/-! G3: blocks; defs and their calls where no repr is under way; the law's end. -/
namespace GG
open PySem PySem.Spec PyProof.Rows L2

/-! ### contexts -/
structure Ext (C0 C : SJ) : Prop where
  sub : ∀ a ∈ C0.M, a ∈ C.M
  j : ∀ S H, C.J S H → C0.J S H
theorem Ext.rfl {C : SJ} : Ext C C := ⟨fun _ h => h, fun _ _ h => h⟩
theorem Ext.trk {C0 C : SJ} (x : Ext C0 C) {H : Hp} (t : Trk C.M H) : Trk C0.M H := fun a ha => t a (x.sub a ha)
theorem Ext.jj {C0 C : SJ} (x : Ext C0 C) {H : Hp} (h : C.J (cut C.M H) H) : C0.J (cut C0.M H) H := C0.st _ _ _ _ (x.j _ _ h) (cut_less x.sub) fun _ _ => Eq.refl _
theorem Good.set {C : SJ} {K : PySem.W.Frag} {σ : L2.St} {H : Hp} {Γ : En} (g : Good C K σ H Γ) {i : Nat} {v : V} {d : D} (h : DD K (cut C.M H) v d) : Good C K (σ.set i (some v)) H (Γ.set i (some d)) :=
  ⟨by rw [List.length_set, List.length_set]; exact g.len, g.trk, g.j, g.bnd.set g.len h⟩
theorem Step.goods {C : SJ} {K : PySem.W.Frag} {σ : L2.St} {H H' : Hp} {Γ : En} (g : Good C K σ H Γ) (s : Step C H H') : Good C K σ H' Γ := g.step s

section
variable {X : Cx} {C : SJ} {Γ : En} {O : Out} {rest : List Stmt} {pos : Pos}
/-- behind a statement -/
abbrev Out.to (X : Cx) (O : Out) (rest : List Stmt) : Out := { O with N := fun C' Γ' => Bl X C' Γ' rest O }
theorem bl_nil (h : O.N C Γ) : Bl X C Γ [] O := fun σ H g E b => wb_of pss_nil (b.nx C σ H Γ (Same.refl _) g h)
theorem bl_seq {st : Stmt} (h : ∀ σ H, Good C X.K σ H Γ → ∀ E : Ends, Bk X C H (O.to X rest) E → WS X st E σ H) : Bl X C Γ (st :: rest) O := fun σ H g E b =>
  wb_of (pss_cons ps_ws pss_wb) (h σ H g { E with nx := WB X rest E } ⟨fun C' σ' H' Γ' s g' n => n σ' H' g' E (b.from s), b.rt, b.bk, b.ct, b.rf, b.rx⟩)
theorem bl_ret {e : Expr} (x : Ext O.C0 C) (h : Ev X C Γ e O.R) : Bl X C Γ (.Return (some e) pos :: rest) O := bl_seq fun σ H g E b =>
  ws_of (ps_ret pe_we) (h σ H g _ fun v d H1 s1 r1 p => b.rt v d H1 (s1.same.trans (cut_less x.sub)) (x.trk s1.trk) (x.jj s1.j) (r1.mono (cut_less x.sub)) p)
theorem bl_retF {e : Expr} (x : Ext O.C0 C) (h : EvF X C Γ e O.RF) : Bl X C Γ (.Return (some e) pos :: rest) O := bl_seq fun σ H g E b =>
  ws_of (ps_ret pe_we) (h σ H g _ fun p xs ds H1 hp s1 hl r1 pd => by
    have hs : ∀ a ∈ p :: O.C0.M, a ∈ p :: C.M := fun a ha => by
      rcases List.mem_cons.mp ha with z | z
      · rw [z]; exact List.mem_cons_self
      · exact List.mem_cons_of_mem _ (x.sub _ z)
    exact b.rf p xs ds H1 (fun m => g.trk p (x.sub p m) hp) (s1.same.trans (cut_less hs)) (x.trk s1.trk) (O.C0.st _ _ _ _ (x.j _ _ s1.j) (cut_less hs) fun _ _ => Eq.refl _) hl (r1.mono (cut_less hs)) pd)
theorem bl_retX {e : Expr} (h : Ev X C Γ e (O.RX C)) : Bl X C Γ (.Return (some e) pos :: rest) O := bl_seq fun σ H g E b =>
  ws_of (ps_ret pe_we) (h σ H g _ fun v d H1 s1 r1 p => b.rx v d C H1 s1.same s1.trk s1.j r1 p)
theorem bl_retN (x : Ext O.C0 C) (h : O.R .non) : Bl X C Γ (.Return none pos :: rest) O := bl_seq fun σ H g E b =>
  ws_of ps_retN (b.rt .non .non H (cut_less x.sub) (x.trk g.trk) (x.jj g.j) .non h)
theorem bl_asg (i : Nat) {x : Str} {e : Expr} {pos' : Pos} (h : Ev X C Γ e fun d => Bl X C (Γ.set i (some d)) rest O) (hN : X.N.Nodup) (hi : X.N[i]? = some x := by rfl) (hx : Loc X.env.scope x := by first | exact Or.inl rfl | exact Or.inr rfl)
    (hs : swapsWith e (some (.Name x pos')) pos.line X.env = pure false := by rfl) (hf : X.fn x = true ∨ X.env.scope.names.lookup x = some .local := by first | exact .inl rfl | exact .inr rfl) : Bl X C Γ (.Assign [.Name x pos'] e pos :: rest) O := bl_seq fun σ H g E b =>
  ws_of (ps_set hN hi hx pe_we hs hf) (h σ H g _ fun v d H1 s1 r1 p => b.nx C _ H1 _ s1.same ((g.step s1).set r1) p)
theorem bl_expr {e : Expr} (h : Ev X C Γ e fun _ => Bl X C Γ rest O) (hs : swapsWith e none pos.line X.env = pure false := by rfl) : Bl X C Γ (.Expr e pos :: rest) O := bl_seq fun σ H g E b =>
  ws_of (ps_expr pe_we hs) (h σ H g _ fun v d H1 s1 r1 p => b.nx C σ H1 Γ s1.same (g.step s1) p)
theorem bl_if {c : Expr} {a a' : List Stmt} (h : EvT X C Γ c fun k => if2 k (Bl X C Γ a (O.to X rest)) (Bl X C Γ a' (O.to X rest))) : Bl X C Γ (.If c a a' pos :: rest) O := bl_seq fun σ H g E b =>
  ws_of (ps_if pt_wt pss_wb pss_wb) (h σ H g _ fun k H1 s1 p => by
    cases k with
    | true => exact p.1 rfl σ H1 (g.step s1) E (b.from s1.same)
    | false => exact p.2 rfl σ H1 (g.step s1) E (b.from s1.same))
theorem bl_pass (h : Bl X C Γ rest O) : Bl X C Γ (.Pass pos :: rest) O := bl_seq fun σ H g E b => ws_of ps_pass (b.nx C σ H Γ (Same.refl _) g h)
theorem bl_break (h : O.B C Γ) : Bl X C Γ (.Break pos :: rest) O := bl_seq fun σ H g E b => ws_of ps_break (b.bk C σ H Γ (Same.refl _) g h)
theorem bl_cont (h : O.T C Γ) : Bl X C Γ (.Continue pos :: rest) O := bl_seq fun σ H g E b => ws_of ps_continue (b.ct C σ H Γ (Same.refl _) g h)

/-! ### unpacking -/
def gNames : List Nat → TGs
  | [] => gNil
  | i :: is => gCons (gName i) (gNames is)
def sets (Γ : En) : List Nat → List D → En
  | i :: is, d :: ds => sets (Γ.set i (some d)) is ds
  | _, _ => Γ
theorem pgs_name {i : Nat} {is : List Nat} {x : Str} {p : Pos} {es : List Expr} (h : PGs X es (gNames is)) (hN : X.N.Nodup) (hi : X.N[i]? = some x := by rfl) (hx : Loc X.env.scope x := by first | exact Or.inl rfl | exact Or.inr rfl)
    (hf : X.fn x = true ∨ X.env.scope.names.lookup x = some .local := by first | exact .inl rfl | exact .inr rfl) (hn : (assignEach (.Name x p :: es) X.env).map (·.2) = assign (.Name x p) X.env :: (assignEach es X.env).map (·.2) := by rfl) : PGs X (.Name x p :: es) (gNames (i :: is)) := pgs_cons (pg_name hN hi hx hf) h hn
theorem gNames_ok {is : List Nat} : ∀ {ds : List D} {vs : List V} {σ : L2.St} {H : Hp} {Γ : En} {Q : L2.St → Hp → Prop}, Good C X.K σ H Γ → DDs X.K (cut C.M H) vs ds → ds.length = is.length → (∀ σ', Good C X.K σ' H (sets Γ is ds) → Q σ' H) → gNames is vs σ H Q := by
  induction is with
  | nil =>
    intro ds vs σ H Γ Q g r hl q
    cases r with
    | nil => exact ⟨rfl, q σ g⟩
    | cons _ _ => cases hl
  | cons i is ih =>
    intro ds vs σ H Γ Q g r hl q
    cases r with
    | nil => cases hl
    | cons h r => exact ⟨_, _, rfl, ih (g.set h) r (Nat.succ.inj hl) q⟩
theorem bl_asgT (is : List Nat) {es : List Expr} {k n : Nat} {e : Expr} {pt : Pos} (h : Ev X C Γ e fun d => ∃ ds, d = .tup ds ∧ ds.length = is.length ∧ Bl X C (sets Γ is ds) rest O) (hg : PG X (.Tuple es k pt) (gTup X.K n (gNames is))) (hn : n = is.length := by rfl)
    (hs : swapsWithSole [.Tuple es k pt] e pos.line X.env = pure false := by rfl) (hw : swappedStores [.Tuple es k pt] e X.env = pure none := by rfl) : Bl X C Γ (.Assign [.Tuple es k pt] e pos :: rest) O := bl_seq fun σ H g E b =>
  ws_of (ps_asg pe_we hg hs hw) (h σ H g _ fun v d H1 s1 r1 ⟨ds, ed, hl, p⟩ => by
    subst ed
    cases r1 with
    | tup ht r =>
      exact ⟨_, _, rfl, sub_sqT ht, by rw [r.len, hl, hn], gNames_ok (g.step s1) r hl fun σ' g' => b.nx C σ' H1 _ s1.same g' p⟩)
/-- a, b = e1, e2 -/
theorem bl_par (i j : Nat) {x y : Str} {a c : Expr} {px py pt : Pos} {kt k2 pt2} (h : EvA X C Γ [a, c] fun ds => ∃ d e, ds = [d, e] ∧ Bl X C ((Γ.set i (some d)).set j (some e)) rest O)
    (hp : PS X (.Assign [.Tuple [.Name x px, .Name y py] kt pt] (.Tuple [a, c] k2 pt2) pos) (tPar i j (WA X [a, c]))) : Bl X C Γ (.Assign [.Tuple [.Name x px, .Name y py] kt pt] (.Tuple [a, c] k2 pt2) pos :: rest) O := bl_seq fun σ H g E b =>
  ws_of hp (h σ H g _ fun vs ds H1 s1 r1 ⟨d, e, eds, p⟩ => by
    subst eds
    cases r1 with
    | cons h1 r =>
      cases r with
      | cons h2 r =>
        cases r
        exact ⟨_, _, rfl, b.nx C _ H1 _ s1.same (((g.step s1).set h1).set h2) p⟩)

/-! ### loops -/
structure LoopI (X : Cx) (O : Out) (rest : List Stmt) (I : Nat → SJ → En → Prop) (i : Nat) (C : SJ) (Γ : En) (body : List Stmt) : Prop where
  run : Bl X C Γ body { C0 := O.C0, N := I (i + 1), R := O.R, RF := O.RF, RX := O.RX, B := fun C' Γ' => Bl X C' Γ' rest O, T := I (i + 1) }
def PvOf (X : Cx) (C : SJ) (H : Hp) (I : Nat → SJ → En → Prop) (i : Nat) (σ : L2.St) (H' : Hp) : Prop := ∃ C' Γ', Same (cut C.M H) (cut C'.M H') ∧ Good C' X.K σ H' Γ' ∧ I i C' Γ'
theorem loop_turn {I : Nat → SJ → En → Prop} {H : Hp} {E : Ends} (b : Bk X C H (O.to X rest) E) {i : Nat} {C' : SJ} {H' : Hp} (s : Same (cut C.M H) (cut C'.M H')) :
    Bk X C' H' { C0 := O.C0, N := I (i + 1), R := O.R, RF := O.RF, RX := O.RX, B := fun C' Γ' => Bl X C' Γ' rest O, T := I (i + 1) } { E with nx := PvOf X C H I (i + 1), ct := PvOf X C H I (i + 1), bk := E.nx } :=
  ⟨fun D σ' H'' Γ' s' g' n => ⟨D, Γ', s.trans s', g', n⟩, fun v d H'' s' => b.rt v d H'' (s.trans s'), fun D σ' H'' Γ' s' => b.nx D σ' H'' Γ' (s.trans s'), fun D σ' H'' Γ' s' g' n => ⟨D, Γ', s.trans s', g', n⟩, fun p xs ds H'' m s' => b.rf p xs ds H'' m (s.trans s'), fun v d D' H'' s' => b.rx v d D' H'' (s.trans s')⟩
/-- for x in e, e a list | a tuple -/
theorem bl_forL (j : Nat) {x : Str} {px : Pos} {iter : Expr} {body : List Stmt} (I : Nat → SJ → En → Prop)
    (h : Ev X C Γ iter fun d => ∃ ds, d = .lst ds ∧ I 0 C Γ ∧ (∀ i y C' Γ', ds[i]? = some y → I i C' Γ' → LoopI X O rest I i C' (Γ'.set j (some y)) body) ∧ ∀ C' Γ', I ds.length C' Γ' → Bl X C' Γ' rest O)
    (hp : PassesOwn (model X.prog X.w) X.A X.env X.xe) (hN : X.N.Nodup) (hfs : ∀ z, foldedSetIterable iter X.env z = pure z := by intro _; rfl) (hc : X.calm = true := by rfl) (hi : X.N[j]? = some x := by rfl) (hx : Loc X.env.scope x := by first | exact Or.inl rfl | exact Or.inr rfl)
    (hf : X.fn x = true ∨ X.env.scope.names.lookup x = some .local := by first | exact .inl rfl | exact .inr rfl) : Bl X C Γ (.For (.Name x px) iter body [] pos :: rest) O := bl_seq fun σ H g E b => by
  refine ws_of (ps_for hp hc (pi_list pe_we) (pg_name hN hi hx hf) pss_wb hfs) ?_
  refine h σ H g _ fun v d H1 s1 r1 ⟨ds, ed, h0, hs, hd⟩ => ?_
  subst ed
  cases r1 with
  | @lst a xs _ hq r =>
    have g1 := g.step s1
    have b1 := b.from s1.same
    refine ⟨a, rfl, ⟨xs, sub_sqL hq⟩, for_list (xs := xs) (PvOf X C H1 I) ⟨C, Γ, Same.refl _, g1, h0⟩ ?_ ?_ ?_⟩
    · rintro i σ' H' _ ⟨C', Γ', s', _, _⟩
      exact sub_sqL (s'.seq hq)
    · rintro i y σ' H' hy ⟨C', Γ', s', g', hI⟩
      obtain ⟨d, hd1, hd2⟩ := r.getV hy
      exact (hs i d C' Γ' hd1 hI).run _ _ (g'.set (hd2.mono s')) _ (loop_turn b1 s')
    · rintro σ' H' ⟨C', Γ', s', g', hI⟩
      rw [r.len] at hI
      exact b1.nx C' σ' H' Γ' s' g' (hd C' Γ' hI)
theorem bl_forT (j : Nat) {x : Str} {px : Pos} {iter : Expr} {body : List Stmt} (I : Nat → SJ → En → Prop)
    (h : Ev X C Γ iter fun d => ∃ ds, d = .tup ds ∧ I 0 C Γ ∧ (∀ i y C' Γ', ds[i]? = some y → I i C' Γ' → LoopI X O rest I i C' (Γ'.set j (some y)) body) ∧ ∀ C' Γ', I ds.length C' Γ' → Bl X C' Γ' rest O)
    (hp : PassesOwn (model X.prog X.w) X.A X.env X.xe) (hN : X.N.Nodup) (hfs : ∀ z, foldedSetIterable iter X.env z = pure z := by intro _; rfl) (hc : X.calm = true := by rfl) (hi : X.N[j]? = some x := by rfl) (hx : Loc X.env.scope x := by first | exact Or.inl rfl | exact Or.inr rfl)
    (hf : X.fn x = true ∨ X.env.scope.names.lookup x = some .local := by first | exact .inl rfl | exact .inr rfl) : Bl X C Γ (.For (.Name x px) iter body [] pos :: rest) O := bl_seq fun σ H g E b => by
  refine ws_of (ps_for hp hc (pi_tup pe_we) (pg_name hN hi hx hf) pss_wb hfs) ?_
  refine h σ H g _ fun v d H1 s1 r1 ⟨ds, ed, h0, hs, hd⟩ => ?_
  subst ed
  cases r1 with
  | @tup a xs _ hq r =>
    have g1 := g.step s1
    have b1 := b.from s1.same
    refine ⟨a, rfl, ⟨xs, sub_sqT hq⟩, for_tup (xs := xs) (PvOf X C H1 I) ⟨C, Γ, Same.refl _, g1, h0⟩ ?_ ?_ ?_⟩
    · rintro i σ' H' _ ⟨C', Γ', s', _, _⟩
      exact sub_sqT (same_sqT s' hq)
    · rintro i y σ' H' hy ⟨C', Γ', s', g', hI⟩
      obtain ⟨d, hd1, hd2⟩ := r.getV hy
      exact (hs i d C' Γ' hd1 hI).run _ _ (g'.set (hd2.mono s')) _ (loop_turn b1 s')
    · rintro σ' H' ⟨C', Γ', s', g', hI⟩
      rw [r.len] at hI
      exact b1.nx C' σ' H' Γ' s' g' (hd C' Γ' hI)
/-- for k in range(n) -/
theorem bl_forR (j : Nat) {x : Str} {px p2 p3 : Pos} {a : Expr} {body : List Stmt} (I : Nat → SJ → En → Prop)
    (h : Ev X C Γ a fun d => ∃ n : Int, d = .int n ∧ -(2 ^ 62) ≤ n ∧ n < 2 ^ 62 ∧ I 0 C Γ ∧ (∀ i C' Γ', i < n.toNat → I i C' Γ' → LoopI X O rest I i C' (Γ'.set j (some (.int (i : Nat)))) body) ∧ ∀ C' Γ', I n.toNat C' Γ' → Bl X C' Γ' rest O)
    (hm : X.mg "range" = none) (hp : PassesOwn (model X.prog X.w) X.A X.env X.xe) (hN : X.N.Nodup) (hg : Gl X "range" := by rfl) (hs1 : starEach [a] X.env = [(false, eval a X.env)] := by rfl) (hc : X.calm = true := by rfl) (hi : X.N[j]? = some x := by rfl) (hx : Loc X.env.scope x := by first | exact Or.inl rfl | exact Or.inr rfl)
    (hf : X.fn x = true ∨ X.env.scope.names.lookup x = some .local := by first | exact .inl rfl | exact .inr rfl) : Bl X C Γ (.For (.Name x px) (.Call (.Name "range" p2) [a] [] p3) body [] pos :: rest) O := bl_seq fun σ H g E b => by
  refine ws_of (ps_for hp hc (pi_range1 hg hm (pa_cons pe_we pa_nil hs1) hs1) (pg_name hN hi hx hf) pss_wb) ?_
  refine h σ H g _ fun v d H1 s1 r1 ⟨n, ed, hn1, hn2, h0, hs, hd⟩ => ?_
  subst ed
  cases r1
  have g1 := g.step s1
  have b1 := b.from s1.same
  refine ⟨n, rfl, hn1, hn2, for_range (lo := 0) (n := n.toNat) (PvOf X C H1 I) ⟨C, Γ, Same.refl _, g1, h0⟩ ?_ ?_⟩
  · rintro i σ' H' hi' ⟨C', Γ', s', g', hI⟩
    have e0 : (0 : Int) + (i : Int) = (i : Int) := Int.zero_add _
    rw [e0]
    exact (hs i C' Γ' hi' hI).run _ _ (g'.set (.int _)) _ (loop_turn b1 s')
  · rintro σ' H' ⟨C', Γ', s', g', hI⟩
    exact b1.nx C' σ' H' Γ' s' g' (hd C' Γ' hI)
end

/-! ### defs, where no repr is under way -/
structure FnG (P : Program) (w : World) (K : PySem.W.Frag) (mg : Str → Option Value) (base : Heap) (CX : CXT) (k : Nat) (f : Addr) (fd : FuncData) (ps : List Str) (sp : Sp) : Prop where
  len : ∀ vs H Q E, sp vs H Q E → vs.length = ps.length
  run : ∀ (A : Around) (outer : List Env) (s : Shared) (H : Hp) (args : Args) (us : List Value) (vs : List V) (Q : VK) (E : XK), A.guards = some [] → Room k A → Env0 P w K mg base A outer s H →
    BindsTo s fd args (ps.zip us) → Vals vs us → sp vs H Q E → codeAny (model P w) A (.call (.ref f) args) (CR CX outer P w H s Q E) s
theorem FnG.mono {P : Program} {w : World} {K : PySem.W.Frag} {mg : Str → Option Value} {base : Heap} {CX : CXT} {j k : Nat} {f : Addr} {fd : FuncData} {ps : List Str} {sp : Sp} (F : FnG P w K mg base CX j f fd ps sp) (h : j ≤ k) :
    FnG P w K mg base CX k f fd ps sp := ⟨F.len, fun A outer s H args us vs Q E hg hr => F.run A outer s H args us vs Q E hg (hr.mono h)⟩
section
variable {P : Program} {w : World} {K : PySem.W.Frag} {mg : Str → Option Value} {base : Heap} {x qual : Str} {params : Arguments} {body : List Stmt} {scope : Scope} {dvs : List V} {kws : List (Str × V)} {f : Addr} {fd : FuncData}
/-- a def by its body -/
theorem fnG {CX : CXT} {N ps : List Str} {k : Nat} {sp : Sp} (F : FunD K x qual params body scope dvs kws f fd) (S : FnScope N ps scope) (len : ∀ vs H Q E, sp vs H Q E → vs.length = ps.length)
    (hb : ∀ (cdv : Value) (A : Around) (outer : List Env) (s : Shared) (H : Hp) (vs : List V) (Q : VK) (E : XK), A.guards = some [] → Room k (A.deeper (envOfC qual scope s.heap.objs.size f cdv)) → sp vs H Q E →
      WB (cxOf CX P w K mg base N qual scope f cdv A outer s H E) body { nx := fun _ H' => Q .non H', rt := Q } (start N vs) H) : FnG P w K mg base CX (k + 1) f fd ps sp := by
  obtain ⟨oc, od, dV, kV, doc, pm, an, cdv, ct, osl, rfl, lk, hcd, _, _⟩ := F.ex
  refine ⟨len, fun A outer s H args us vs Q E hG hr e0 hbd r hsp => ?_⟩
  have hl := len _ _ _ _ hsp
  have KX : K.In s.heap := e0.mod.kin.keeps fun b o e => (e0.bs b o e).1
  have lim : s.heap.NoLimit := e0.mod.nolimit.keeps fun b o e => (e0.bs b o e).1
  have hkd : ∀ y ∈ ps.zip us, scope.names.lookup y.1 = some .local ∨ (scope.names.lookup y.1 = some .cell ∧ ((cellsFrom (s.heap.objs.size + 1) scope.names []).lookup y.1).isSome = true) := fun ⟨n, v⟩ hy => by
    rcases S.par n (List.of_mem_zip hy).1 with q | q
    · exact .inl q
    · exact .inr ⟨q, PySem.W.cellsFrom_some _ _ _ (.inl q)⟩
  refine codeAny_call_function hr.depth (KX _ _ lk) rfl S.co S.gen rfl (PySem.W.codeRec_of KX hcd) (hbd _ _ _ _ ?_)
  refine wpAny_newFunctionEnv_cells S.kind hkd fun env he s1 z => ?_
  subst he
  refine ⟨lim.keeps z.toInCall.keep, codeAny_func ?_⟩
  have I : Inv (cxOf CX P w K mg base N qual scope f cdv A outer s H E) [] (start N vs) H s1 := inv_start S hr.hd e0 hl r z
  refine wpAny_mono (hb cdv A outer s H vs Q E hG (hr.deeper _) hsp [] s1 I) (fun fl s' hs => ?_) fun e s' hs => hs
  have fin : ∀ {σ' : L2.St} {H' : Hp} {v : V} {u : Value}, Inv (cxOf CX P w K mg base N qual scope f cdv A outer s H E) [] σ' H' s' → RelV v u → Q v H' → CE outer P w H s Q u s' :=
    fun {σ' H' v u} J rv q => ⟨v, H', J.os, J.bare, J.base, J.hok, rv, q⟩
  cases fl with
  | next => obtain ⟨σ', H', J, q⟩ := hs; exact fin (v := V.non) (u := Value.none) J rfl q
  | ret u => obtain ⟨v, σ', H', J, rv, q⟩ := hs; exact fin J rv q
  | brk => obtain ⟨_, _, _, q⟩ := hs; exact False.elim q
  | cont => obtain ⟨_, _, _, q⟩ := hs; exact False.elim q
end
end GG
set_option maxHeartbeats 4000000
/-! G4: promises over data; a def by its block; calls; the end of a law. -/
namespace GG
open PySem PySem.Spec PyProof.Rows L2

/-- a promise over data: R asks of the context, G of the arguments -/
def spC (K : PySem.W.Frag) (n : Nat) (R : SJ → List D → Prop) (G : List D → (D → Prop) → Prop) : Sp := fun vs H Q _ =>
  ∃ (C : SJ) (ds : List D) (P : D → Prop), ds.length = n ∧ R C ds ∧ Trk C.M H ∧ C.J (cut C.M H) H ∧ DDs K (cut C.M H) vs ds ∧ G ds P ∧ ∀ v d H', Step C H H' → DD K (cut C.M H') v d → P d → Q v H'
def start0 (N : List Str) (ds : List D) : En := ds.map some ++ List.replicate (N.length - ds.length) none
theorem good0 {C : SJ} {K : PySem.W.Frag} {H : Hp} {N : List Str} {vs : List V} {ds : List D} (t : Trk C.M H) (j : C.J (cut C.M H) H) (r : DDs K (cut C.M H) vs ds) : Good C K (L2.start N vs) H (start0 N ds) := by
  have hl := r.len
  refine ⟨?_, t, j, fun i d e => ?_⟩
  · unfold L2.start start0
    rw [List.length_append, List.length_append, List.length_map, List.length_map, List.length_replicate, List.length_replicate, hl]
  · unfold start0 at e
    by_cases hi : i < ds.length
    · rw [List.getElem?_append_left (by rw [List.length_map]; exact hi), List.getElem?_map] at e
      cases q : ds[i]? with
      | none => rw [q] at e; cases e
      | some d' =>
        rw [q] at e
        cases e
        obtain ⟨v, h1, h2⟩ := r.get q
        refine ⟨v, ?_, h2⟩
        unfold L2.start
        rw [List.getElem?_append_left (by rw [List.length_map, hl]; exact hi), List.getElem?_map, h1] <;> rfl
    · rw [List.getElem?_append_right (by rw [List.length_map]; omega), List.getElem?_replicate] at e
      split at e <;> cases e
section
variable {P : Program} {w : World} {K : PySem.W.Frag} {mg : Str → Option Value} {base : Heap} {x qual : Str} {params : Arguments} {body : List Stmt} {scope : Scope} {dvs : List V} {kws : List (Str × V)} {f : Addr} {fd : FuncData}
/-- a def that lets no exception out, by its block -/
theorem defC {N ps : List Str} {k n : Nat} {R : SJ → List D → Prop} {G : List D → (D → Prop) → Prop} (F : FunD K x qual params body scope dvs kws f fd) (S : FnScope N ps scope) (hn : ps.length = n)
    (hb : ∀ (cdv : Value) (A : Around) (outer : List Env) (s : Shared) (H : Hp) (E : XK) (C : SJ) (ds : List D) (T : D → Prop), A.guards = some [] → Room k (A.deeper (envOfC qual scope s.heap.objs.size f cdv)) → ds.length = n → R C ds → G ds T →
      Bl (cxOf CX0 P w K mg base N qual scope f cdv A outer s H E).nox C (start0 N ds) body { C0 := C, N := fun C' _ => Ext C C' ∧ T .non, R := T }) : FnG P w K mg base CX0 (k + 1) f fd ps (spC K n R G) := by
  refine fnG F S (fun vs H Q E ⟨C, ds, T, h1, _, _, _, r, _⟩ => by rw [r.len, h1, hn]) ?_
  intro cdv A outer s H vs Q E hG hr ⟨C, ds, T, h1, hR, t, j, r, g, q⟩
  have b := hb cdv A outer s H E C ds T hG hr h1 hR g
  intro pins s' I
  refine (PSs.nox (X := cxOf CX0 P w K mg base N qual scope f cdv A outer s H E) pss_wb).run pins s' _ H _ I ?_
  refine b (L2.start N vs) H (good0 t j r) { nx := fun _ H' => Q .non H', rt := Q } ⟨fun C' σ' H' Γ' e g' p => q .non .non H' ⟨e.trans (cut_less p.1.sub), p.1.trk g'.trk, p.1.jj g'.j⟩ .non p.2, fun v d H' e t' j' r' p => q v d H' ⟨e, t', j'⟩ r' p, fun _ _ _ _ _ _ z => z.elim, fun _ _ _ _ _ _ z => z.elim, fun _ _ _ _ _ _ _ _ _ _ z => z.elim, fun _ _ _ _ _ _ _ _ z => z.elim⟩
/-- the same, of a def that gives a new list -/
def spN (K : PySem.W.Frag) (n : Nat) (R : SJ → List D → Prop) (G : List D → (List D → Prop) → Prop) : Sp := fun vs H Q _ =>
  ∃ (C : SJ) (ds : List D) (P : List D → Prop), ds.length = n ∧ R C ds ∧ Trk C.M H ∧ C.J (cut C.M H) H ∧ DDs K (cut C.M H) vs ds ∧ G ds P ∧
    ∀ p xs es H', H p = none → FStep C p H H' → H' p = some (.lst xs) → DDs K (cut (p :: C.M) H') xs es → P es → Q (.ref p) H'
theorem defF {N ps : List Str} {k n : Nat} {R : SJ → List D → Prop} {G : List D → (List D → Prop) → Prop} (F : FunD K x qual params body scope dvs kws f fd) (S : FnScope N ps scope) (hn : ps.length = n)
    (hb : ∀ (cdv : Value) (A : Around) (outer : List Env) (s : Shared) (H : Hp) (E : XK) (C : SJ) (ds : List D) (T : List D → Prop), A.guards = some [] → Room k (A.deeper (envOfC qual scope s.heap.objs.size f cdv)) → ds.length = n → R C ds → G ds T →
      Bl (cxOf CX0 P w K mg base N qual scope f cdv A outer s H E).nox C (start0 N ds) body { C0 := C, N := fun _ _ => False, R := fun _ => False, RF := T }) : FnG P w K mg base CX0 (k + 1) f fd ps (spN K n R G) := by
  refine fnG F S (fun vs H Q E ⟨C, ds, T, h1, _, _, _, r, _⟩ => by rw [r.len, h1, hn]) ?_
  intro cdv A outer s H vs Q E hG hr ⟨C, ds, T, h1, hR, t, j, r, g, q⟩
  have b := hb cdv A outer s H E C ds T hG hr h1 hR g
  intro pins s' I
  refine (PSs.nox (X := cxOf CX0 P w K mg base N qual scope f cdv A outer s H E) pss_wb).run pins s' _ H _ I ?_
  refine b (L2.start N vs) H (good0 t j r) { nx := fun _ H' => Q .non H', rt := Q } ⟨fun _ _ _ _ _ _ z => z.elim, fun _ _ _ _ _ _ _ z => z.elim, fun _ _ _ _ _ _ z => z.elim, fun _ _ _ _ _ _ z => z.elim, fun p xs es H' m e t' j' hl r' z => q p xs es H' ?_ ⟨e, t', j'⟩ hl r' z, fun _ _ _ _ _ _ _ _ z => z.elim⟩
  cases h : H p with
  | none => rfl
  | some o =>
    have := e p o (by unfold cut; rw [if_neg m]; exact h)
    unfold cut at this
    rw [if_pos List.mem_cons_self] at this
    cases this
end
section
variable {X : Cx} {CX : CXT} {k n : Nat} {f : Addr} {fd : FuncData} {ps : List Str} {sp : Sp} {ds : List Value} {E : XK}
theorem run_fnG {pins : List (Addr × Obj)} {σ : L2.St} {H : Hp} {s : Shared} {Q : VK} {us dws : List Value} {vs dvs : List V} (F : FnG X.prog X.w X.K X.mg X.base CX k f fd ps sp) (hG : X.A.guards = some []) (hr : Room k X.A) (hb : Binds X.K fd ps dws) (hd : Vals dvs dws) (hx : Passes CX X E)
    (I : Inv X pins σ H s) (r : Vals vs us) (h : sp (vs ++ dvs) H Q E) : wpAny (model X.prog X.w) X.A (call (.ref f) us) (EP X pins σ Q) X.xe s := by
  have r2 : Vals (vs ++ dvs) (us ++ dws) := r.append hd
  have hl : (us ++ dws).length = ps.length := by rw [← r2.length]; exact F.len _ _ _ _ h
  refine wpAny_call (codeAny_mono (F.run X.A X.stack s H ⟨us, []⟩ (us ++ dws) (vs ++ dvs) Q E hG hr I.env0 (hb s us I.kIn hl) r2 h) fun z s' hq => ?_)
  cases z with
  | error e => exact hx pins σ H s e s' I hq
  | ok fl =>
    cases fl with
    | ret u => exact I.after hq
    | next | brk | cont => exact False.elim hq
theorem pe_callG {x : Str} {p pos : Pos} {e : Expr} {es : List Expr} {t : TA} {dws : List Value} {dvs : List V} (F : FnG X.prog X.w X.K X.mg X.base CX k f fd ps sp) (hG : X.A.guards = some []) (hr : Room k X.A) (hg : Gl X x) (hm : X.mg x = some (.ref f)) (hk : PySem.W.keepIn X.K (.ref f) = true) (hb : Binds X.K fd ps dws) (hd : Vals dvs dws)
    (hx : Passes CX X E) (ha : PA X (e :: es) t) (hdb : (x == ("__debug__" : Str)) = false := by decide) (he : starEach (e :: es) X.env = (false, eval e X.env) :: starEach es X.env := by rfl) (hpl : (backTo pos (starEach es X.env)).any (·.1) = false := by rfl) :
    PE X (.Call (.Name x p) (e :: es) [] pos) (tCall sp dvs E t) := by
  refine ⟨fun pins s σ H Q I h => wpAny_Call_Name_kw (ld_glob I hg hm ?_ hdb)⟩
  exact PySem.W.callWith_K (h₀ := X.base) I.ok.mod.kin hk (thn (ha.run pos pins s σ H _ I h) fun us s1 ⟨vs, H1, I1, r, q⟩ => ⟨I1.kIn, run_fnG F hG hr hb hd hx I1 r q⟩) he hpl
/-- what a call of a def of data leans on -/
structure Callee (X : Cx) (x : Str) (k n : Nat) (R : SJ → List D → Prop) (G : List D → (D → Prop) → Prop) : Prop where
  ex : ∃ (f : Addr) (fd : FuncData) (ps : List Str), FnG X.prog X.w X.K X.mg X.base CX0 k f fd ps (spC X.K n R G) ∧ X.mg x = some (.ref f) ∧ PySem.W.keepIn X.K (.ref f) = true ∧ Binds X.K fd ps []
theorem ev_call {C : SJ} {Γ : En} {P : D → Prop} {x : Str} {p pos : Pos} {e : Expr} {es : List Expr} {R : SJ → List D → Prop} {G : List D → (D → Prop) → Prop} (F : Callee X x k n R G) (hG : X.A.guards = some []) (hr : Room k X.A)
    (h : EvA X C Γ (e :: es) fun ds => ds.length = n ∧ R C ds ∧ G ds P) (hg : Gl X x := by rfl) (hdb : (x == ("__debug__" : Str)) = false := by decide) (he : starEach (e :: es) X.env = (false, eval e X.env) :: starEach es X.env := by rfl)
    (hpl : (backTo pos (starEach es X.env)).any (·.1) = false := by rfl) : Ev X C Γ (.Call (.Name x p) (e :: es) [] pos) P := fun σ H g Q q => by
  obtain ⟨f, fd, ps, F, hm, hk, hb⟩ := F.ex
  refine we_of (pe_callG F hG hr hg hm hk hb .nil pass0 pa_wa hdb he hpl) (h σ H g _ fun vs ds H1 s1 r1 ⟨hn, hR, hD⟩ => ?_)
  rw [List.append_nil]
  exact ⟨C, ds, P, hn, hR, s1.trk, s1.j, r1, hD, fun v d H2 s2 r2 p => q v d H2 (s1.trans s2) r2 p⟩
end

section
variable {X : Cx} {k n : Nat}
structure CalleeN (X : Cx) (x : Str) (k n : Nat) (R : SJ → List D → Prop) (G : List D → (List D → Prop) → Prop) : Prop where
  ex : ∃ (f : Addr) (fd : FuncData) (ps : List Str), FnG X.prog X.w X.K X.mg X.base CX0 k f fd ps (spN X.K n R G) ∧ X.mg x = some (.ref f) ∧ PySem.W.keepIn X.K (.ref f) = true ∧ Binds X.K fd ps []
theorem ef_call {C : SJ} {Γ : En} {P : List D → Prop} {x : Str} {p pos : Pos} {e : Expr} {es : List Expr} {R : SJ → List D → Prop} {G : List D → (List D → Prop) → Prop} (F : CalleeN X x k n R G) (hG : X.A.guards = some []) (hr : Room k X.A)
    (h : EvA X C Γ (e :: es) fun ds => ds.length = n ∧ R C ds ∧ G ds P) (hg : Gl X x := by rfl) (hdb : (x == ("__debug__" : Str)) = false := by decide) (he : starEach (e :: es) X.env = (false, eval e X.env) :: starEach es X.env := by rfl)
    (hpl : (backTo pos (starEach es X.env)).any (·.1) = false := by rfl) : EvF X C Γ (.Call (.Name x p) (e :: es) [] pos) P := fun σ H g Q q => by
  obtain ⟨f, fd, ps, F, hm, hk, hb⟩ := F.ex
  refine we_of (pe_callG F hG hr hg hm hk hb .nil pass0 pa_wa hdb he hpl) (h σ H g _ fun vs ds H1 s1 r1 ⟨hn, hR, hD⟩ => ?_)
  rw [List.append_nil]
  refine ⟨C, ds, P, hn, hR, s1.trk, s1.j, r1, hD, fun p xs es H2 hp s2 hl r2 z => q p xs es H2 ?_ ⟨s1.same.trans s2.same, s2.trk, s2.j⟩ hl r2 z⟩
  cases h0 : H p with
  | none => rfl
  | some o =>
    exfalso
    by_cases hm : p ∈ C.M
    · exact s1.trk p hm hp
    · have := s1.same p o (by unfold cut; rw [if_neg hm]; exact h0)
      unfold cut at this
      rw [if_neg hm, hp] at this
      cases this
end
/-! ### the end -/
/-- the law's promise: from the script -/
def spLaw (K : PySem.W.Frag) : Sp := fun vs H Q _ => ∃ (a : Addr) (ns : List Int), vs = [.ref a] ∧ SqL K H a (ns.map V.int) ∧ ns.length ≤ 63 ∧ ∀ H', Q (.bl true) H'
theorem bits_dds {K : PySem.W.Frag} {S : Hp} : ∀ ns : List Int, DDs K S (ns.map V.int) (ns.map D.int)
  | [] => .nil
  | n :: ns => .cons (.int n) (bits_dds ns)
theorem law_callG {P : Program} {w : World} {K : PySem.W.Frag} {mg mb : Str → Option Value} {k : Nat} {fa a : Addr} {fd : FuncData} {x : Str} {sp : Sp} {s₁ : Shared} {vs : List Value} {ns : List Int}
    (KX : K.In s₁.heap) (hns : s₁.heap.Ns mainGlobals mg) (hb : s₁.heap.Ns builtinsNs mb) (hbb : ∀ x : Str, x ≠ "__name__" → mb x = bootBuiltins x) (hlim : s₁.heap.NoLimit) (hg : s₁.gens = #[])
    (ha : s₁.heap.get? a = some { cls := .type "list", data := .seq vs.toArray }) (hi : IntsAre vs ns) (hl : ns.length ≤ sizeLine) (hr : Room k callerA)
    (F : ∀ base : Heap, K.In base → base.Ns mainGlobals mg → FnG P w K mg base CX0 k fa fd [x] sp) (hbd : ∀ (s : Shared) (u : Value), BindsTo s fd ⟨[u], []⟩ [(x, u)])
    (hsp : ∀ H : Hp, Only H → SqL K H a (ns.map V.int) → sp [.ref a] H (fun v _ => v = .bl true) fun _ _ _ => False) :
    codeAny (model P w) callerA (.call (.ref fa) ⟨[.ref a], []⟩) (fun r s' => r = .ok (.ret (.bool true)) ∧ OldK s₁.heap s'.heap ∧ s'.os = s₁.os ∧ AllBare s'.gens) s₁ := by
  have rv := vals_ints hi
  have lenV := hi.length
  suffices core : ∀ H : Hp, Only H → SqL K H a (ns.map V.int) → HOk P w H s₁.heap → (∀ b, H b ≠ none → b = a) → (H a ≠ none → K.lookup a = none) →
      codeAny (model P w) callerA (.call (.ref fa) ⟨[.ref a], []⟩) (fun r s' => r = .ok (.ret (.bool true)) ∧ OldK s₁.heap s'.heap ∧ s'.os = s₁.os ∧ AllBare s'.gens) s₁ by
    cases hk : K.lookup a with
    | some o =>
      have e := KX a o hk
      rw [ha] at e
      cases e
      refine core (fun _ => none) (fun _ => .inl rfl) (.inr ⟨_, vs.toArray, _, hk, rfl, rfl, rfl, ?_, ?_⟩) (fun b u z => ?_) (fun b z => absurd rfl z) fun z => absurd rfl z
      · rw [List.size_toArray, lenV]; exact hl
      · simpa using rv
      · have z' : (none : Option HO) = some u := z
        cases z'
    | none =>
      refine core (fun b => if b = a then some (.frz { cls := .type "list", data := .seq vs.toArray } (.lst (ns.map V.int))) else none) (fun b => ?_) (.inl (.inr ⟨{ cls := .type "list", data := .seq vs.toArray }, if_pos rfl⟩)) (fun b u z => ?_) (fun b z => ?_) fun _ => hk
      · by_cases hb : b = a
        · exact .inr ⟨_, _, if_pos hb⟩
        · exact .inl (if_neg hb)
      · by_cases hb : b = a
        · have z' := (if_pos hb).symm.trans z
          cases z'
          subst hb
          exact ⟨ha, by rw [List.length_map]; exact hl, vs, _, rv, ha⟩
        · cases (if_neg hb).symm.trans z
      · by_cases hb : b = a
        · exact hb
        · exact absurd (if_neg hb) z
  intro H hO hS hok hA hK
  have base_of : ∀ {b : Addr} {o : Obj}, s₁.heap.get? b = some o → H b = none → (hidT s₁.heap H).get? b = some o := fun e n => hidT_get e n
  have noA : ∀ {b : Addr} {o : Obj} {es : Array DictEntry} {ep : Nat}, s₁.heap.get? b = some o → o.data = .dict es ep → H b = none := fun {b o es ep} e d => by
    cases q : H b with
    | none => rfl
    | some u =>
      have e' : b = a := hA b (by rw [q]; exact fun z => by cases z)
      subst e'
      rw [ha] at e
      cases e
      have d' : Data.seq vs.toArray _ = Data.dict es ep := d
      cases d'
  have nsK : ∀ {b : Addr} {m : Str → Option Value}, s₁.heap.Ns b m → (hidT s₁.heap H).Ns b m := fun {b m} ⟨o, es, ep, e, d, r⟩ => ⟨o, es, ep, base_of e (noA e d), d, r⟩
  have hKb : K.In (hidT s₁.heap H) := fun b o e => base_of (KX b o e) (by
    cases q : H b with
    | none => rfl
    | some u =>
      have nz : H b ≠ none := by rw [q]; exact fun z => by cases z
      have e' : b = a := hA b nz
      subst e'
      rw [hK nz] at e
      cases e)
  have hM : Mod K mg (hidT s₁.heap H) := ⟨hKb, nsK hns, ⟨mb, nsK hb, hbb⟩, let ⟨mc, h1, h2⟩ := hlim; ⟨mc, nsK h1, h2⟩⟩
  have e0 : Env0 P w K mg (hidT s₁.heap H) callerA [] s₁ H := ⟨rfl, hM, fun b o e => of_hidT e, Nat.le_of_eq (hidT_size _ _), trivial, fun b z => absurd (show b ∈ ([] : List Addr) from z) (by simp), hok, .of_eq hg⟩
  refine codeAny_mono ((F _ hKb (nsK hns)).run callerA [] s₁ H ⟨[.ref a], []⟩ [.ref a] [.ref a] _ _ rfl hr e0 (hbd s₁ (.ref a)) (.cons rfl .nil) (hsp H hO hS)) fun r s' h => ?_
  cases r with
  | error e => exact h.elim
  | ok fl =>
    cases fl with
    | next | brk | cont => exact False.elim h
    | ret u =>
      obtain ⟨v, H', os, bare, un, hok', r', q⟩ := h
      have q' : v = .bl true := q
      subst q'
      obtain rfl : u = Value.bool true := r'
      refine ⟨rfl, OldK.of_keep fun b o e => ?_, os, bare⟩
      cases q : H b with
      | none => exact un.keep b o e q (by intro z; exact absurd (show b ∈ ([] : List Addr) from z) (by simp)) (by simp)
      | some u =>
        rcases hO b with z | ⟨ob, xs, z⟩
        · rw [q] at z; cases z
        · obtain ⟨e1, _⟩ := hok b _ z
          obtain ⟨e2, _⟩ := hok' b _ (un.frzs b ob _ z)
          rw [e] at e1
          cases e1
          exact e2
/-- a law whose def keeps spLaw -/
theorem walk_G {l : PySem.W.OpenLaw} {k : Nat} {q : Program} {loose : List Str} {XP : (Str → Option Value) → Heap → Prop} {YP : World → Heap → Prop} {d : DefRec} {x : Str}
    (hn : l.most = some 63) (hdf : d.params.defaults = []) (hr : Room k callerA)
    (F : ∀ (w : World) (mg : Str → Option Value) (fa : Addr) (h : Heap), YP w h → h.Ns mainGlobals mg → mg d.name = some (.ref fa) →
      ∃ (K : PySem.W.Frag) (fd : FuncData), K.In h ∧ (∀ (s : Shared) (u : Value), BindsTo s fd ⟨[u], []⟩ [(x, u)]) ∧ ∀ base : Heap, K.In base → base.Ns mainGlobals mg → FnG l.prog w K mg base CX0 k fa fd [x] (spLaw K)) :
    PySem.W.WalkO q loose XP YP l.row.toRowW d [] (fun f vs => PySem.call f vs) := by
  refine Att.attach_call hn hdf fun w s₀ s₁ mg mb fa o pm cd doc a vs ns G Y ho hd hcd hmg hobj hints hlen hg => ?_
  obtain ⟨K, fd, KX, hb, hF⟩ := F w mg fa _ Y G.T.g hmg
  exact law_callG KX G.T.g G.T.b G.T.builtins G.T.nolimit hg hobj hints (Nat.le_trans hlen (by decide)) hr hF hb fun H hO hS => ⟨a, ns, rfl, hS, hlen, fun _ => rfl⟩
end GG
set_option maxHeartbeats 4000000
/-! G5: lists of a def's own; what is walked; targets; loops and comprehensions over any of them. -/
namespace GG
open PySem PySem.Spec PyProof.Rows L2

/-! ### lists that the code changes -/
def own (K : PySem.W.Frag) (C : SJ) (ps : List Addr) (as : List (List D)) : SJ where
  M := ps ++ C.M
  J := fun S H => C.J S H ∧ (ps.Nodup ∧ ∀ p ∈ ps, p ∉ C.M) ∧ ∀ (i : Nat) (p : Addr) (a : List D), ps[i]? = some p → as[i]? = some a → ∃ xs, H p = some (.lst xs) ∧ DDs K S xs a
  st := fun S S' H H' ⟨h1, h2, h3⟩ e k => ⟨C.st S S' H H' h1 e fun a ha => k a (List.mem_append_right _ ha), h2, fun i p a hp ha => by
    obtain ⟨xs, q1, q2⟩ := h3 i p a hp ha
    exact ⟨xs, (k p (List.mem_append_left _ (List.mem_of_getElem? hp))).trans q1, q2.mono e⟩⟩
theorem ext_own {K : PySem.W.Frag} {C : SJ} {ps : List Addr} {as : List (List D)} : Ext C (own K C ps as) := ⟨fun _ h => List.mem_append_right _ h, fun _ _ h => h.1⟩
theorem Ext.own {K : PySem.W.Frag} {C0 C : SJ} (x : Ext C0 C) {ps : List Addr} {as : List (List D)} : Ext C0 (own K C ps as) := ⟨fun _ h => List.mem_append_right _ (x.sub _ h), fun _ _ h => x.j _ _ h.1⟩
theorem cut_same_upd {M : List Addr} {H : Hp} {p : Addr} {o : HO} (hp : p ∈ M) : cut M (upd H p o) = cut M H := by
  funext b
  unfold cut
  split
  · rfl
  · rename_i hn
    exact upd_ne fun e => hn (e ▸ hp)
theorem own_set {K : PySem.W.Frag} {C : SJ} {ps : List Addr} {as : List (List D)} {σ : L2.St} {H : Hp} {Γ : En} {i : Nat} {p : Addr} {xs : List V} {a : List D} (g : Good (own K C ps as) K σ H Γ) (hp : ps[i]? = some p) (r : DDs K (cut (ps ++ C.M) H) xs a) :
    Good (own K C ps (as.set i a)) K σ (upd H p (.lst xs)) Γ := by
  have hm : p ∈ ps := List.mem_of_getElem? hp
  have hm2 : p ∈ ps ++ C.M := List.mem_append_left _ hm
  obtain ⟨j1, j2, j3⟩ := g.j
  refine ⟨g.len, fun b hb => ?_, ⟨?_, j2, fun k q b hq hb => ?_⟩, ?_⟩
  · by_cases e : b = p
    · subst e; rw [upd_same]; exact fun z => by cases z
    · rw [upd_ne e]; exact g.trk b hb
  · show C.J (cut (ps ++ C.M) (upd H p (.lst xs))) _
    rw [cut_same_upd hm2]
    exact C.st _ _ _ _ j1 (Same.refl _) fun b hb => upd_ne fun e => j2.2 p hm (e ▸ hb)
  · show ∃ ys, upd H p (.lst xs) q = some (.lst ys) ∧ DDs K (cut (ps ++ C.M) (upd H p (.lst xs))) ys b
    rw [cut_same_upd hm2]
    by_cases e : k = i
    · subst e
      rw [hp] at hq
      cases hq
      by_cases hl : k < as.length
      · rw [List.getElem?_set_self hl] at hb
        cases hb
        exact ⟨xs, upd_same, r⟩
      · rw [List.getElem?_eq_none (by rw [List.length_set]; omega)] at hb
        cases hb
    · rw [List.getElem?_set_ne (Ne.symm e)] at hb
      obtain ⟨ys, q1, q2⟩ := j3 k q b hq hb
      have hne : q ≠ p := fun z => e (by
        subst z
        exact nd_ix j2.1 hq hp)
      exact ⟨ys, by rw [upd_ne hne]; exact q1, q2⟩
  · show Bnd K (cut (ps ++ C.M) (upd H p (.lst xs))) σ Γ
    rw [cut_same_upd hm2]
    exact g.bnd
/-- one more list -/
theorem own_new {K : PySem.W.Frag} {C : SJ} {ps : List Addr} {as : List (List D)} {σ : L2.St} {H : Hp} {Γ : En} {p : Addr} {xs : List V} {a : List D} (g : Good (own K C ps as) K σ H Γ) (hl : ps.length = as.length) (hp : H p = none) (r : DDs K (cut (ps ++ C.M) H) xs a) :
    Good (own K C (p :: ps) (a :: as)) K σ (upd H p (.lst xs)) Γ ∧ Same (cut (ps ++ C.M) H) (cut (p :: ps ++ C.M) (upd H p (.lst xs))) := by
  have e : cut (p :: ps ++ C.M) (upd H p (.lst xs)) = cut (ps ++ C.M) H := by
    funext b
    unfold cut
    by_cases hb : b = p
    · subst hb
      rw [if_pos (show b ∈ b :: ps ++ C.M from List.mem_cons_self), hp]
      split <;> rfl
    · by_cases hm : b ∈ ps ++ C.M
      · rw [if_pos hm, if_pos (show b ∈ p :: ps ++ C.M from List.mem_cons_of_mem _ hm)]
      · rw [if_neg hm, if_neg (by rw [List.cons_append, List.mem_cons]; exact fun z => z.elim hb hm), upd_ne hb]
  obtain ⟨j1, j2, j3⟩ := g.j
  have np : p ∉ ps ++ C.M := fun m => g.trk p m hp
  refine ⟨⟨g.len, fun b hb => ?_, ⟨?_, ⟨List.nodup_cons.mpr ⟨fun m => np (List.mem_append_left _ m), j2.1⟩, fun q hq m => ?_⟩, fun k q b hq hb => ?_⟩, ?_⟩, ?_⟩
  · by_cases z : b = p
    · subst z; rw [upd_same]; exact fun z => by cases z
    · rw [upd_ne z]
      exact g.trk b ((List.mem_cons.mp hb).resolve_left z)
  · show C.J (cut (p :: ps ++ C.M) _) _
    rw [e]
    exact C.st _ _ _ _ j1 (Same.refl _) fun b hb => upd_ne fun z => np (List.mem_append_right _ (z ▸ hb))
  · rcases List.mem_cons.mp hq with z | z
    · subst z; exact np (List.mem_append_right _ m)
    · exact j2.2 q z m
  · show ∃ ys, upd H p (.lst xs) q = some (.lst ys) ∧ DDs K (cut (p :: ps ++ C.M) (upd H p (.lst xs))) ys b
    rw [e]
    cases k with
    | zero =>
      cases hq
      cases hb
      exact ⟨xs, upd_same, r⟩
    | succ k =>
      have hq' : ps[k]? = some q := hq
      have hb' : as[k]? = some b := hb
      obtain ⟨ys, q1, q2⟩ := j3 k q b hq' hb'
      have hne : q ≠ p := fun z => np (List.mem_append_left _ (by rw [← z]; exact List.mem_of_getElem? hq'))
      exact ⟨ys, by rw [upd_ne hne]; exact q1, q2⟩
  · show Bnd K (cut (p :: ps ++ C.M) _) σ Γ
    rw [e]
    exact g.bnd
  · rw [e]
    exact Same.refl _

/-! ### what is walked -/
/-- the iterator gives the items ds, wherever S stands -/
def SrcOk (K : PySem.W.Frag) (S : Hp) (J : It) (ds : List D) : Prop := ∀ (M : List Addr) (H : Hp), Trk M H → Same S (cut M H) →
  (∀ (i : Nat) (d : D), ds[i]? = some d → J.go i H ∧ ∀ x H', J.yld i H x H' → Same H H' ∧ DD K (cut M H') x d) ∧ ∀ i, ds.length ≤ i → J.stop i H
def WI (X : Cx) (tg iter : Expr) : TI := fun σ H R => ∃ wi, PI X tg iter wi ∧ wi σ H R
theorem pi_wi {X : Cx} {tg iter : Expr} : PI X tg iter (WI X tg iter) := ⟨fun pins s σ H R I ⟨_, h, q⟩ => h.run pins s σ H R I q⟩
def EvI (X : Cx) (C : SJ) (Γ : En) (tg iter : Expr) (P : List D → Prop) : Prop :=
  ∀ σ H, Good C X.K σ H Γ → ∀ R : It → Hp → Prop, (∀ J ds H', Step C H H' → SrcOk X.K (cut C.M H') J ds → P ds → R J H') → WI X tg iter σ H R
section
variable {X : Cx} {C : SJ} {Γ : En} {P : List D → Prop} {tg : Expr}
theorem src_list {K : PySem.W.Frag} {S : Hp} {a : Addr} {xs : List V} {ds : List D} (hq : SqL K S a xs) (r : DDs K S xs ds) : SrcOk K S (Itl K a) ds := fun M H t e =>
  ⟨fun i d hd => by
    obtain ⟨v, hv, hvd⟩ := r.get hd
    exact ⟨⟨xs, v, sub_sqL (e.seq hq), hv⟩, fun x H' ⟨eH, y⟩ => by
      subst eH
      have := y xs (sub_sqL (e.seq hq))
      rw [hv] at this
      cases this
      exact ⟨Same.refl _, hvd.mono e⟩⟩, fun i hi => ⟨xs, sub_sqL (e.seq hq), by rw [r.len]; exact hi⟩⟩
theorem src_tup {K : PySem.W.Frag} {S : Hp} {a : Addr} {xs : List V} {ds : List D} (hq : SqT K S a xs) (r : DDs K S xs ds) : SrcOk K S (Itt K a) ds := fun M H t e =>
  ⟨fun i d hd => by
    obtain ⟨v, hv, hvd⟩ := r.get hd
    exact ⟨⟨xs, v, sub_sqT (same_sqT e hq), hv⟩, fun x H' ⟨eH, y⟩ => by
      subst eH
      have := y xs (sub_sqT (same_sqT e hq))
      rw [hv] at this
      cases this
      exact ⟨Same.refl _, hvd.mono e⟩⟩, fun i hi => ⟨xs, sub_sqT (same_sqT e hq), by rw [r.len]; exact hi⟩⟩
/-- a list -/
theorem ei_list {e : Expr} (h : Ev X C Γ e fun d => ∃ ds, d = .lst ds ∧ P ds) : EvI X C Γ tg e P := fun σ H g R q => ⟨_, pi_list pe_we, h σ H g _ fun v d H1 s1 r1 ⟨ds, ed, p⟩ => by
  subst ed
  cases r1 with
  | lst hq r => exact ⟨_, rfl, ⟨_, sub_sqL hq⟩, q _ ds H1 s1 (src_list hq r) p⟩⟩
/-- a tuple -/
theorem ei_tup {e : Expr} (h : Ev X C Γ e fun d => ∃ ds, d = .tup ds ∧ P ds) : EvI X C Γ tg e P := fun σ H g R q => ⟨_, pi_tup pe_we, h σ H g _ fun v d H1 s1 r1 ⟨ds, ed, p⟩ => by
  subst ed
  cases r1 with
  | tup hq r => exact ⟨_, rfl, ⟨_, sub_sqT hq⟩, q _ ds H1 s1 (src_tup hq r) p⟩⟩
/-- a text, sign by sign -/
def signs (x : Str) : List D := x.cps.toList.map fun c => .str ⟨#[c]⟩
theorem src_str {K : PySem.W.Frag} {S : Hp} {x : Str} : SrcOk K S (Its x) (signs x) := by
  intro M H t e
  refine ⟨fun i d hd => ?_, fun i hi => ?_⟩
  · unfold signs at hd
    rw [List.getElem?_map] at hd
    cases q : x.cps.toList[i]? with
    | none => rw [q] at hd; cases hd
    | some c =>
      rw [q] at hd
      cases hd
      have hc : x.cps[i]? = some c := by rw [← Array.getElem?_toList]; exact q
      have hi : i < x.cps.size := by
        rcases Nat.lt_or_ge i x.cps.size with z | z
        · exact z
        · rw [Array.getElem?_eq_none z] at hc; cases hc
      refine ⟨hi, fun y H' z => ?_⟩
      obtain ⟨eH, c', hc', ey⟩ := z
      subst eH ey
      rw [hc] at hc'
      cases hc'
      exact ⟨Same.refl _, .str _⟩
  · unfold signs at hi
    rw [List.length_map, Array.length_toList] at hi
    exact hi
theorem ei_str {e : Expr} (h : Ev X C Γ e fun d => ∃ x, d = .str x ∧ P (signs x)) : EvI X C Γ tg e P := fun σ H g R q => ⟨_, pi_str pe_we, h σ H g _ fun v d H1 s1 r1 ⟨x, ed, p⟩ => by
  subst ed
  cases r1
  exact ⟨x, rfl, q _ _ H1 s1 src_str p⟩⟩
/-- range(n), range(a, b) -/
def rangeD (lo : Int) (n : Nat) : List D := (List.range n).map fun i => .int (lo + (i : Nat))
theorem src_range {K : PySem.W.Frag} {S : Hp} {lo : Int} {n : Nat} : SrcOk K S (Itr lo n) (rangeD lo n) := by
  intro M H t e
  refine ⟨fun i d hd => ?_, fun i hi => ?_⟩
  · unfold rangeD at hd
    rw [List.getElem?_map] at hd
    by_cases hi : i < n
    · rw [List.getElem?_range hi] at hd
      cases hd
      refine ⟨hi, fun y H' z => ?_⟩
      obtain ⟨eH, ey⟩ := z
      subst eH ey
      exact ⟨Same.refl _, .int _⟩
    · rw [List.getElem?_eq_none (by rw [List.length_range]; omega)] at hd
      cases hd
  · unfold rangeD at hi
    rw [List.length_map, List.length_range] at hi
    exact hi
theorem ei_range {a : Expr} {p pos : Pos} (hm : X.mg "range" = none) (h : Ev X C Γ a fun d => ∃ n : Int, d = .int n ∧ -(2 ^ 62) ≤ n ∧ n < 2 ^ 62 ∧ P (rangeD 0 n.toNat)) (hg : Gl X "range" := by rfl) (hs : starEach [a] X.env = [(false, eval a X.env)] := by rfl) :
    EvI X C Γ tg (.Call (.Name "range" p) [a] [] pos) P := fun σ H g R q => ⟨_, pi_range1 hg hm (pa_cons pe_we pa_nil hs) hs, h σ H g _ fun v d H1 s1 r1 ⟨n, ed, h1, h2, p⟩ => by
  subst ed
  cases r1
  exact ⟨n, rfl, h1, h2, q _ _ H1 s1 src_range p⟩⟩
theorem ei_range2 {a b : Expr} {p pos : Pos} (hm : X.mg "range" = none) (h : Ev X C Γ a fun d => Ev X C Γ b fun e => ∃ i j : Int, d = .int i ∧ e = .int j ∧ (-(2 ^ 62) ≤ i ∧ i < 2 ^ 62 ∧ -(2 ^ 62) ≤ j ∧ j < 2 ^ 62) ∧ P (rangeD i (j - i).toNat)) (hg : Gl X "range" := by rfl)
    (hs : starEach [a, b] X.env = [(false, eval a X.env), (false, eval b X.env)] := by rfl) (hs2 : starEach [b] X.env = [(false, eval b X.env)] := by rfl) :
    EvI X C Γ tg (.Call (.Name "range" p) [a, b] [] pos) P := fun σ H g R q => ⟨_, pi_range2 hg hm (pa_cons pe_we (pa_cons pe_we pa_nil hs2) (hs.trans (by rw [hs2]))) hs hs2, h σ H g _ fun v d H1 s1 r1 h1 => h1 σ H1 (g.step s1) _ fun w e H2 s2 r2 ⟨i, j, ed, ee, hb, p⟩ => by
  subst ed ee
  cases r1
  cases r2
  exact ⟨i, j, rfl, hb, q _ _ H2 (s1.trans s2) src_range p⟩⟩
/-- enumerate(list) -/
def enumD (ds : List D) : List D := ds.zipIdx.map fun p => .tup [.int (p.2 : Nat), p.1]
theorem enumD_at {ds : List D} {i : Nat} {d : D} (h : (enumD ds)[i]? = some d) : ∃ e, ds[i]? = some e ∧ d = .tup [.int (i : Nat), e] := by
  unfold enumD at h
  rw [List.getElem?_map, List.getElem?_zipIdx] at h
  cases q : ds[i]? with
  | none => rw [q] at h; cases h
  | some e =>
    rw [q] at h
    simp at h
    exact ⟨e, rfl, h.symm⟩
theorem enumD_len (ds : List D) : (enumD ds).length = ds.length := by unfold enumD; rw [List.length_map, List.length_zipIdx]
theorem dd_pair {K : PySem.W.Frag} {M : List Addr} {H : Hp} {T : Addr} {x y : V} {d e : D} (t : Trk M H) (hT : H T = none) (hx : DD K (cut M H) x d) (hy : DD K (cut M H) y e) : DD K (cut M (upd H T (.tup [x, y]))) (.ref T) (.tup [d, e]) :=
  .tup (.of (cut_new t hT)) (.cons (hx.mono (cut_same (same_new hT))) (.cons (hy.mono (cut_same (same_new hT))) .nil))
theorem src_enum {K : PySem.W.Frag} {S : Hp} {a : Addr} {xs : List V} {ds : List D} (hq : SqL K S a xs) (r : DDs K S xs ds) : SrcOk K S (Ite K a) (enumD ds) := fun M H t e =>
  ⟨fun i d hd => by
    obtain ⟨f, hf, ed⟩ := enumD_at hd
    subst ed
    obtain ⟨v, hv, hvd⟩ := r.get hf
    exact ⟨⟨xs, v, sub_sqL (e.seq hq), hv⟩, fun x H' ⟨T, y, ex, hT, eH, k⟩ => by
      subst ex eH
      have := k xs (sub_sqL (e.seq hq))
      rw [hv] at this
      cases this
      exact ⟨same_new hT, dd_pair t hT (.int _) (hvd.mono e)⟩⟩, fun i hi => ⟨xs, sub_sqL (e.seq hq), by rw [r.len, ← enumD_len]; exact hi⟩⟩
theorem ei_enum {a : Expr} {p pos tpos : Pos} {elts : List Expr} {kk : Nat} (hm : X.mg "enumerate" = none) (h : Ev X C Γ a fun d => ∃ ds, d = .lst ds ∧ P (enumD ds)) (hg : Gl X "enumerate" := by rfl) (hs : starEach [a] X.env = [(false, eval a X.env)] := by rfl) :
    EvI X C Γ (.Tuple elts kk tpos) (.Call (.Name "enumerate" p) [a] [] pos) P := fun σ H g R q => ⟨_, pi_enum hg hm (pa_cons pe_we pa_nil hs) hs, h σ H g _ fun v d H1 s1 r1 ⟨ds, ed, pp⟩ => by
  subst ed
  cases r1 with
  | lst hq r => exact ⟨_, _, rfl, sub_sqL hq, q _ _ H1 s1 (src_enum hq r) pp⟩⟩
/-- zip of two lists, of two tuples -/
def zipD (ds es : List D) : List D := (ds.zip es).map fun p => .tup [p.1, p.2]
theorem zipD_at {ds es : List D} {i : Nat} {d : D} (h : (zipD ds es)[i]? = some d) : ∃ a b, ds[i]? = some a ∧ es[i]? = some b ∧ d = .tup [a, b] := by
  unfold zipD at h
  rw [List.getElem?_map] at h
  cases q : (ds.zip es)[i]? with
  | none => rw [q] at h; cases h
  | some e =>
    rw [q] at h
    cases h
    rw [List.getElem?_zip_eq_some] at q
    exact ⟨_, _, q.1, q.2, rfl⟩
theorem zipD_len (ds es : List D) : (zipD ds es).length = min ds.length es.length := by unfold zipD; rw [List.length_map, List.length_zip]
end

/-! ### targets -/
inductive Tgt where
  | one (j : Nat) | many (ts : List Tgt)
mutual
def Tgt.g (K : PySem.W.Frag) : Tgt → TG
  | .one j => gName j
  | .many ts => gTup K ts.length (Tgt.gs K ts)
def Tgt.gs (K : PySem.W.Frag) : List Tgt → TGs
  | [] => gNil
  | t :: ts => gCons (Tgt.g K t) (Tgt.gs K ts)
end
mutual
def Tgt.put : Tgt → En → D → Option En
  | .one j, Γ, d => some (Γ.set j (some d))
  | .many ts, Γ, .tup ds => Tgt.puts ts Γ ds
  | .many _, _, _ => none
def Tgt.puts : List Tgt → En → List D → Option En
  | [], Γ, [] => some Γ
  | t :: ts, Γ, d :: ds => (Tgt.put t Γ d).bind fun Γ' => Tgt.puts ts Γ' ds
  | _, _, _ => none
end
mutual
def Tgt.slots : Tgt → List Nat
  | .one j => [j]
  | .many ts => Tgt.slotss ts
def Tgt.slotss : List Tgt → List Nat
  | [] => []
  | t :: ts => Tgt.slots t ++ Tgt.slotss ts
end
def Alike (l : List Nat) (σ σ' : L2.St) : Prop := σ'.length = σ.length ∧ ∀ i, i ∉ l → σ'[i]? = σ[i]?
theorem Alike.refl {l : List Nat} {σ : L2.St} : Alike l σ σ := ⟨rfl, fun _ _ => rfl⟩
theorem Alike.trans {l l' : List Nat} {σ σ1 σ2 : L2.St} (a : Alike l σ σ1) (b : Alike l' σ1 σ2) : Alike (l ++ l') σ σ2 :=
  ⟨b.1.trans a.1, fun i hi => (b.2 i fun m => hi (List.mem_append_right _ m)).trans (a.2 i fun m => hi (List.mem_append_left _ m))⟩
mutual
theorem Tgt.ok {C : SJ} {K : PySem.W.Frag} : ∀ (t : Tgt) {d : D} {v : V} {σ : L2.St} {H : Hp} {Γ Γ' : En} {Q : L2.St → Hp → Prop}, Good C K σ H Γ → DD K (cut C.M H) v d → Tgt.put t Γ d = some Γ' →
    (∀ σ', Good C K σ' H Γ' → Alike t.slots σ σ' → Q σ' H) → t.g K v σ H Q
  | .one j, d, v, σ, H, Γ, Γ', Q, g, r, e, q => by
    have e' : some (Γ.set j (some d)) = some Γ' := by simpa [Tgt.put] using e
    cases e'
    have h := q _ (g.set r) ⟨List.length_set, fun i hi => List.getElem?_set_ne (by simp [Tgt.slots] at hi; exact fun z => hi z.symm)⟩
    have e2 : Tgt.g K (.one j) = gName j := by simp [Tgt.g]
    rw [e2]
    exact h
  | .many ts, d, v, σ, H, Γ, Γ', Q, g, r, e, q => by
    cases r with
    | @tup a xs ds hq r =>
      have e' : Tgt.puts ts Γ ds = some Γ' := by simpa [Tgt.put] using e
      have hlen : ∀ (ts : List Tgt) (Γ Γ' : En) (ds : List D), Tgt.puts ts Γ ds = some Γ' → ds.length = ts.length := by
        intro ts
        induction ts with
        | nil => intro Γ Γ' ds h; cases ds with
          | nil => rfl
          | cons a b => simp [Tgt.puts] at h
        | cons t ts ih => intro Γ Γ' ds h; cases ds with
          | nil => simp [Tgt.puts] at h
          | cons a b =>
            simp only [Tgt.puts, Option.bind_eq_some_iff] at h
            obtain ⟨Γ1, _, h2⟩ := h
            rw [List.length_cons, List.length_cons, ih _ _ _ h2]
      have h := Tgt.oks ts g r e' (Q := Q) fun σ' g' a => q σ' g' (by simpa [Tgt.slots] using a)
      have hl := hlen _ _ _ _ e'
      have goal : gTup K ts.length (Tgt.gs K ts) (.ref _) σ H Q := ⟨_, _, rfl, sub_sqT hq, by rw [r.len, hl], h⟩
      simpa [Tgt.g] using goal
    | _ => simp [Tgt.put] at e
theorem Tgt.oks {C : SJ} {K : PySem.W.Frag} : ∀ (ts : List Tgt) {ds : List D} {vs : List V} {σ : L2.St} {H : Hp} {Γ Γ' : En} {Q : L2.St → Hp → Prop}, Good C K σ H Γ → DDs K (cut C.M H) vs ds → Tgt.puts ts Γ ds = some Γ' →
    (∀ σ', Good C K σ' H Γ' → Alike (Tgt.slotss ts) σ σ' → Q σ' H) → Tgt.gs K ts vs σ H Q
  | [], ds, vs, σ, H, Γ, Γ', Q, g, r, e, q => by
    cases r with
    | nil =>
      have e' : some Γ = some Γ' := by simpa [Tgt.puts] using e
      cases e'
      have h : gNil [] σ H Q := ⟨rfl, q σ g .refl⟩
      simpa [Tgt.gs] using h
    | cons _ _ => simp [Tgt.puts] at e
  | t :: ts, ds, vs, σ, H, Γ, Γ', Q, g, r, e, q => by
    cases r with
    | nil => simp [Tgt.puts] at e
    | cons h r =>
      simp only [Tgt.puts, Option.bind_eq_some_iff] at e
      obtain ⟨Γ1, e1, e2⟩ := e
      have hh : gCons (Tgt.g K t) (Tgt.gs K ts) (_ :: _) σ H Q := ⟨_, _, rfl, Tgt.ok t g h e1 fun σ1 g1 a1 => Tgt.oks ts g1 r e2 fun σ2 g2 a2 => q σ2 g2 (by
        have := a1.trans a2
        simpa [Tgt.slotss] using this)⟩
      simpa [Tgt.gs] using hh
end

/-! ### for, over anything -/
section
variable {X : Cx} {C : SJ} {Γ : En} {O : Out} {rest : List Stmt} {pos : Pos}
theorem bl_for (T : Tgt) {tg iter : Expr} {body : List Stmt} (I : Nat → SJ → En → Prop)
    (h : EvI X C Γ tg iter fun ds => I 0 C Γ ∧ (∀ i y C' Γ', ds[i]? = some y → I i C' Γ' → ∃ Γ2, T.put Γ' y = some Γ2 ∧ LoopI X O rest I i C' Γ2 body) ∧ ∀ C' Γ', I ds.length C' Γ' → Bl X C' Γ' rest O)
    (hT : PG X tg (T.g X.K)) (hp : PassesOwn (model X.prog X.w) X.A X.env X.xe) (hfs : ∀ z, foldedSetIterable iter X.env z = pure z := by intro _; rfl) (hc : X.calm = true := by rfl) : Bl X C Γ (.For tg iter body [] pos :: rest) O := bl_seq fun σ H g E b => by
  refine ws_of (ps_for hp hc pi_wi hT pss_wb hfs) ?_
  refine h σ H g _ fun J ds H1 s1 src ⟨h0, hs, hd⟩ => ?_
  have g1 := g.step s1
  have b1 := b.from s1.same
  refine ⟨fun i m σ' H' => m = ds.length - i ∧ i ≤ ds.length ∧ PvOf X C H1 I i σ' H', ⟨ds.length, by simp, Nat.zero_le _, C, Γ, Same.refl _, g1, h0⟩, ?_⟩
  rintro i m σ' H' ⟨rfl, hi, C', Γ', s', g', hI⟩
  obtain ⟨src1, src2⟩ := src C'.M H' g'.trk s'
  by_cases hlt : i < ds.length
  · have hd' : ds[i]? = some ds[i] := List.getElem?_eq_getElem hlt
    obtain ⟨go, yl⟩ := src1 i _ hd'
    refine .inr ⟨go, PvOf X C H1 I (i + 1), fun σ'' H'' p => ⟨ds.length - (i + 1), by omega, rfl, hlt, p⟩, fun x H'' y => ?_⟩
    obtain ⟨sm, dd⟩ := yl x H'' y
    obtain ⟨Γ2, e2, L⟩ := hs i _ C' Γ' hd' hI
    have g2 := g'.step (g'.same sm)
    exact T.ok g2 dd e2 fun σ3 g3 _ => L.run σ3 H'' g3 _ (loop_turn b1 (s'.trans (cut_same sm)))
  · have e : i = ds.length := by omega
    subst e
    exact .inl ⟨src2 _ (Nat.le_refl _), b1.nx C' σ' H' Γ' s' g' (hd C' Γ' hI)⟩
end
end GG
set_option maxHeartbeats 4000000
/-! G6: list comprehensions over anything that is walked; lists of one's own: begun, grown, looked at, let go. -/
namespace GG
open PySem PySem.Spec PyProof.Rows L2

/-! ### targets as the layer's -/
section
variable {X : Cx} {pos : Pos}
theorem tgs_nil : PGs X [] (Tgt.gs X.K []) := by
  have e : Tgt.gs X.K [] = gNil := by simp [Tgt.gs]
  rw [e]
  exact pgs_nil
theorem tgs_cons {e : Expr} {es : List Expr} {t : Tgt} {ts : List Tgt} (h1 : PG X e (t.g X.K)) (h2 : PGs X es (Tgt.gs X.K ts))
    (hs : (assignEach (e :: es) X.env).map (·.2) = assign e X.env :: (assignEach es X.env).map (·.2) := by rfl) : PGs X (e :: es) (Tgt.gs X.K (t :: ts)) := by
  have e2 : Tgt.gs X.K (t :: ts) = gCons (t.g X.K) (Tgt.gs X.K ts) := by simp [Tgt.gs]
  rw [e2]
  exact pgs_cons h1 h2 hs
theorem tg_one {j : Nat} {x : Str} (hN : X.N.Nodup) (hi : X.N[j]? = some x := by rfl) (hx : Loc X.env.scope x := by first | exact Or.inl rfl | exact Or.inr rfl)
    (hf : X.fn x = true ∨ X.env.scope.names.lookup x = some .local := by first | exact .inl rfl | exact .inr rfl) : PG X (.Name x pos) ((Tgt.one j).g X.K) := by
  have e : (Tgt.one j).g X.K = gName j := by simp [Tgt.g]
  rw [e]
  exact pg_name hN hi hx hf
theorem tg_many {es : List Expr} {k : Nat} {ts : List Tgt} (hc : X.calm = true) (h : PGs X es (Tgt.gs X.K ts))
    (hn : (assignEach es X.env).length = ts.length := by rfl) (hst : (assignEach es X.env).findIdx? (·.1) = none := by rfl) : PG X (.Tuple es k pos) ((Tgt.many ts).g X.K) := by
  have e : (Tgt.many ts).g X.K = gTup X.K ts.length (Tgt.gs X.K ts) := by simp [Tgt.g]
  rw [e]
  exact pg_tup hc h hn hst
end

/-! ### names wiped -/
def wipeE (Γ : En) : List Nat → En
  | [] => Γ
  | v :: vs => (wipeE Γ vs).set v none
theorem Good.forget {C : SJ} {K : PySem.W.Frag} {σ : L2.St} {H : Hp} {Γ : En} (g : Good C K σ H Γ) (i : Nat) : Good C K (σ.set i none) H (Γ.set i none) :=
  ⟨by rw [List.length_set, List.length_set]; exact g.len, g.trk, g.j, fun j d e => by
    by_cases hj : j = i
    · subst hj
      by_cases hl : j < Γ.length
      · rw [List.getElem?_set_self hl] at e; cases e
      · rw [List.getElem?_eq_none (by rw [List.length_set]; omega)] at e; cases e
    · rw [List.getElem?_set_ne (Ne.symm hj)] at e ⊢
      exact g.bnd j d e⟩
theorem Good.wipe {C : SJ} {K : PySem.W.Frag} {σ : L2.St} {H : Hp} {Γ : En} (g : Good C K σ H Γ) : ∀ vs : List Nat, Good C K (wipe σ vs) H (wipeE Γ vs)
  | [] => g
  | v :: vs => (g.wipe vs).forget v
theorem wipe_in {σ : L2.St} {i : Nat} : ∀ {vs : List Nat}, i ∈ vs → (wipe σ vs)[i]? = if i < σ.length then some none else none
  | v :: vs, h => by
    unfold L2.wipe
    by_cases e : v = i
    · subst e
      by_cases hl : v < σ.length
      · rw [List.getElem?_set_self (by rw [wipe_length]; exact hl), if_pos hl]
      · rw [List.getElem?_eq_none (by rw [List.length_set, wipe_length]; omega), if_neg hl]
    · rw [List.getElem?_set_ne e]
      exact wipe_in ((List.mem_cons.mp h).resolve_left fun z => e z.symm)
theorem alike_wipe {σ σ2 : L2.St} {vs l : List Nat} (a : Alike l (wipe σ vs) σ2) (hl : ∀ i ∈ l, i ∈ vs) : wipe σ2 vs = wipe σ vs := by
  have el : σ2.length = σ.length := by rw [a.1, wipe_length]
  refine List.ext_getElem? fun i => ?_
  by_cases h : i ∈ vs
  · rw [wipe_in h, wipe_in h, el]
  · rw [wipe_out h, wipe_out h, a.2 i fun m => h (hl i m), wipe_out h]

/-! ### the clause's tests -/
def WTs (X : Cx) (ifs : List Expr) : TT := fun σ H Q => ∀ pins s, Inv X pins σ H s →
  wpAny (model X.prog X.w) X.A (forIn ifs true fun c r => if r = true then do let ok ← isTrue c X.env (eval c X.env); pure (ForInStep.yield ok) else pure (ForInStep.yield r)) (TP X pins σ Q) X.xe s
def EvTs (X : Cx) (C : SJ) (Γ : En) (ifs : List Expr) (P : Bool → Prop) : Prop := ∀ σ H, Good C X.K σ H Γ → ∀ Q : Bool → Hp → Prop, (∀ b H', Step C H H' → P b → Q b H') → WTs X ifs σ H Q
theorem ets_nil {X : Cx} {C : SJ} {Γ : En} {P : Bool → Prop} (p : P true) : EvTs X C Γ [] P := fun σ H g Q q pins s I => pts_nil.run pins s σ H Q I (q true H g.refl p)
theorem ets_one {X : Cx} {C : SJ} {Γ : En} {c : Expr} {P : Bool → Prop} (h : EvT X C Γ c P) : EvTs X C Γ [c] P := fun σ H g Q q pins s I => (pts_one pt_wt).run pins s σ H Q I (h σ H g Q q)

/-! ### comprehensions -/
abbrev blk' (X : Cx) (scope : Scope) (s : Shared) (H : Hp) (c : Addr) (cl : List (Str × Addr)) (fp : List Addr) : Cx := X.blk s H scope (compEnvC scope cl c X.env) fp
/-- one turn: y is put at the target, tested (B: how the test may end), the element reckoned -/
structure LcTurn (X : Cx) (C : SJ) (scope : Scope) (Γ2 : En) (ifs : List Expr) (elt : Expr) (acc : List D) (I : List D → Prop) (B : Bool → Prop) : Prop where
  test : ∀ (s : Shared) (H0 : Hp) (c : Addr) (cl : List (Str × Addr)) (fp : List Addr) (p : Addr), p ∉ C.M → EvTs (blk' X scope s H0 c cl fp) (own X.K C [p] [acc]) Γ2 ifs B
  elt : B true → ∀ (s : Shared) (H0 : Hp) (c : Addr) (cl : List (Str × Addr)) (fp : List Addr) (p : Addr), p ∉ C.M → Ev (blk' X scope s H0 c cl fp) (own X.K C [p] [acc]) Γ2 elt fun y => acc.length < sizeLine ∧ I (acc ++ [y])
  not : B false → I acc
section
variable {X : Cx} {C : SJ} {Γ : En} {elt tg iter : Expr} {ifs : List Expr} {scope : Scope}
theorem lc_read {vs : List Nat} {P : List D → Prop} (T : Tgt) (I : Nat → List D → Prop) (hv : ∀ i ∈ T.slots, i ∈ vs)
    (h : EvI X C Γ tg iter fun ds => I 0 [] ∧ (∀ i y acc, ds[i]? = some y → I i acc → ∃ Γ2 B, T.put (wipeE Γ vs) y = some Γ2 ∧ LcTurn X C scope Γ2 ifs elt acc (I (i + 1)) B) ∧ ∀ acc, I ds.length acc → P acc)
    {σ : L2.St} {H : Hp} (g : Good C X.K σ H Γ) {Q : VK} (q : ∀ p xs ds H', H p = none → FStep C p H H' → H' p = some (.lst xs) → DDs X.K (cut (p :: C.M) H') xs ds → P ds → Q (.ref p) H') :
    tLc (WI X tg iter) (T.g X.K) (fun σ H Q => ∀ s H0 c cl fp, WTs (blk' X scope s H0 c cl fp) ifs σ H Q) (fun σ H Q => ∀ s H0 c cl fp, WE (blk' X scope s H0 c cl fp) elt σ H Q) vs σ H Q := by
  refine h σ H g _ fun J ds H1 s1 src ⟨h0, hs, hd⟩ => ?_
  intro p hp
  have g1 := g.step s1
  have hpH : H p = none := by
    cases e : H p with
    | none => rfl
    | some o =>
      exfalso
      by_cases hm : p ∈ C.M
      · exact s1.trk p hm hp
      · have := s1.same p o (by unfold cut; rw [if_neg hm]; exact e)
        unfold cut at this
        rw [if_neg hm, hp] at this
        cases this
  have hpM : p ∉ C.M := fun m => g1.trk p m hp
  have go0 : Good (own X.K C [] []) X.K σ H1 Γ := ⟨g1.len, g1.trk, ⟨g1.j, ⟨List.nodup_nil, fun _ z => absurd z List.not_mem_nil⟩, fun i q a hq => by cases hq⟩, g1.bnd⟩
  obtain ⟨gn, sn⟩ := own_new (a := []) (xs := []) go0 rfl hp .nil
  -- the invariant
  refine ⟨fun i m H' => m = ds.length - i ∧ i ≤ ds.length ∧ ∃ acc, I i acc ∧ Same (cut C.M H1) (cut (p :: C.M) H') ∧ Good (own X.K C [p] [acc]) X.K (wipe σ vs) H' (wipeE Γ vs), ⟨ds.length, by simp, Nat.zero_le _, [], h0, sn, gn.wipe vs⟩, ?_⟩
  rintro i m H' ⟨rfl, hi, acc, hI, s', g'⟩
  obtain ⟨src1, src2⟩ := src (p :: C.M) H' g'.trk s'
  by_cases hlt : i < ds.length
  · have hd' : ds[i]? = some ds[i] := List.getElem?_eq_getElem hlt
    obtain ⟨go, yl⟩ := src1 i _ hd'
    refine .inr ⟨go, fun H'' => ∃ acc, I (i + 1) acc ∧ Same (cut C.M H1) (cut (p :: C.M) H'') ∧ Good (own X.K C [p] [acc]) X.K (wipe σ vs) H'' (wipeE Γ vs), fun H'' z => ⟨ds.length - (i + 1), by omega, rfl, hlt, z⟩, fun x H'' y => ?_⟩
    obtain ⟨sm, dd⟩ := yl x H'' y
    obtain ⟨Γ2, B, e2, L⟩ := hs i _ acc hd' hI
    have st2 : Step (own X.K C [p] [acc]) H' H'' := g'.same sm
    have g2 := g'.step st2
    refine T.ok g2 dd e2 fun σ3 g3 al => ⟨alike_wipe al hv, ?_⟩
    intro s H0 c cl fp
    refine L.test s H0 c cl fp p hpM σ3 H'' g3 _ fun b H3 s3 kb => ?_
    have s13 : Same (cut C.M H1) (cut (p :: C.M) H3) := (s'.trans st2.same).trans s3.same
    · cases b with
      | false => exact ⟨acc, L.not kb, s13, g'.step (st2.trans s3)⟩
      | true =>
        show ∀ s H0 c cl fp, WE (blk' X scope s H0 c cl fp) elt σ3 H3 _
        intro s H0 c cl fp
        refine L.elt kb s H0 c cl fp p hpM σ3 H3 (g3.step s3) _ fun v y H4 s4 r4 ⟨hz, hI4⟩ => ?_
        have gw := g'.step ((st2.trans s3).trans s4)
        obtain ⟨xs, hx, rx⟩ := gw.j.2.2 0 p acc rfl rfl
        refine ⟨xs, hx, by rw [rx.len]; exact hz, acc ++ [y], hI4, ?_, ?_⟩
        · rw [cut_same_upd List.mem_cons_self]
          exact s13.trans s4.same
        · exact own_set (i := 0) gw rfl (rx.append (.one r4))
  · have e : i = ds.length := by omega
    subst e
    refine .inl ⟨src2 _ (Nat.le_refl _), ?_⟩
    obtain ⟨xs, hx, rx⟩ := g'.j.2.2 0 p acc rfl rfl
    exact q p xs acc H' hpH ⟨s1.same.trans s', fun b hb => g'.trk b (List.mem_cons_of_mem _ hb), g'.j.1⟩ hx rx (hd acc hI)
/-- [elt for tg in iter if ..] -/
theorem ef_lc {ow : List (Str × Nat)} {pos : Pos} {P : List D → Prop} (T : Tgt) (I : Nat → List D → Prop)
    (h : EvI X C Γ tg iter fun ds => I 0 [] ∧ (∀ i y acc, ds[i]? = some y → I i acc → ∃ Γ2 B, T.put (wipeE Γ (ow.map (·.2))) y = some Γ2 ∧ LcTurn X C scope Γ2 ifs elt acc (I (i + 1)) B) ∧ ∀ acc, I ds.length acc → P acc)
    (ok : BlkOk X.N X.env.scope scope ow) (hT : ∀ (s : Shared) (H : Hp) (c : Addr) (cl : List (Str × Addr)) (fp : List Addr), PG (blk' X scope s H c cl fp) tg (T.g X.K)) (hN : X.N.Nodup) (hv : ∀ i ∈ T.slots, i ∈ ow.map (·.2) := by decide)
    (hc : X.calm = true := by rfl) (hs : ∀ x, foldedSetIterable iter X.env x = pure x := by intro _; rfl) : EvF X C Γ (.ListComp elt [⟨tg, iter, ifs, 0⟩] scope pos) P := fun σ H g Q q =>
  we_of (pe_lc hc hN pi_wi ok hT (fun s H c cl fp => ⟨fun pins s' _ _ _ I h => h s H c cl fp pins s' I⟩) (fun s H c cl fp => ⟨fun pins s' _ _ _ I h => h s H c cl fp pins s' I⟩) hs) (lc_read T I hv h g q)
/-- name = [elt for tg in iter if ..] -/
theorem bl_lc {O : Out} {rest : List Stmt} {ow : List (Str × Nat)} {pos py spos : Pos} {y : Str} (k : Nat) (T : Tgt) (I : Nat → List D → Prop)
    (h : EvI X C Γ tg iter fun ds => I 0 [] ∧ (∀ i y acc, ds[i]? = some y → I i acc → ∃ Γ2 B, T.put (wipeE Γ (ow.map (·.2))) y = some Γ2 ∧ LcTurn X C scope Γ2 ifs elt acc (I (i + 1)) B) ∧ ∀ acc, I ds.length acc → Bl X C (Γ.set k (some (.lst acc))) rest O)
    (ok : BlkOk X.N X.env.scope scope ow) (hT : ∀ (s : Shared) (H : Hp) (c : Addr) (cl : List (Str × Addr)) (fp : List Addr), PG (blk' X scope s H c cl fp) tg (T.g X.K)) (hN : X.N.Nodup)
    (hsw : swapsWith (.ListComp elt [⟨tg, iter, ifs, 0⟩] scope pos) (some (.Name y py)) spos.line X.env = pure true) (hy : X.N[k]? = some y := by rfl) (hyl : X.env.scope.names.lookup y = some .local := by rfl) (hv : ∀ i ∈ T.slots, i ∈ ow.map (·.2) := by decide)
    (hc : X.calm = true := by rfl) (hs : ∀ x, foldedSetIterable iter X.env x = pure x := by intro _; rfl) : Bl X C Γ (.Assign [.Name y py] (.ListComp elt [⟨tg, iter, ifs, 0⟩] scope pos) spos :: rest) O := bl_seq fun σ H g E b =>
  ws_of (ps_setLc hc hN hy hyl hsw pi_wi ok hT (fun s H c cl fp => ⟨fun pins s' _ _ _ I h => h s H c cl fp pins s' I⟩) (fun s H c cl fp => ⟨fun pins s' _ _ _ I h => h s H c cl fp pins s' I⟩) hs)
    (lc_read T I hv h g fun p xs ds H1 hp s1 hl r1 bl => by
      have hm : p ∉ C.M := fun m => g.trk p m hp
      have e : cut C.M H1 p = some (.lst xs) := by unfold cut; rw [if_neg hm]; exact hl
      exact b.nx C _ H1 _ s1.step.same ((g.step s1.step).set (.lst (.of e) (r1.mono (cut_less fun _ z => List.mem_cons_of_mem _ z)))) bl)
end

/-! ### lists of one's own -/
section
variable {X : Cx} {C : SJ} {Γ : En} {O : Out} {rest : List Stmt} {pos : Pos}
theorem good_own {K : PySem.W.Frag} {σ : L2.St} {H : Hp} (g : Good C K σ H Γ) : Good (own K C [] []) K σ H Γ := ⟨g.len, g.trk, ⟨g.j, ⟨List.nodup_nil, fun _ z => absurd z List.not_mem_nil⟩, fun i q a hq => by cases hq⟩, g.bnd⟩
theorem bl_own0 {sts : List Stmt} (h : Bl X (own X.K C [] []) Γ sts O) : Bl X C Γ sts O := fun σ H g E b => h σ H (good_own g) E (b.from (Same.refl _))
/-- x = a new list, which will be changed -/
theorem bl_mine (i : Nat) {ps : List Addr} {as : List (List D)} {x : Str} {e : Expr} {pos' : Pos} (hl : ps.length = as.length)
    (h : EvF X (own X.K C ps as) Γ e fun ds => ∀ p, Bl X (own X.K C (p :: ps) (ds :: as)) (Γ.set i (some (.adr p))) rest O) (hN : X.N.Nodup) (hi : X.N[i]? = some x := by rfl) (hx : Loc X.env.scope x := by first | exact Or.inl rfl | exact Or.inr rfl)
    (hs : swapsWith e (some (.Name x pos')) pos.line X.env = pure false := by rfl) (hf : X.fn x = true ∨ X.env.scope.names.lookup x = some .local := by first | exact .inl rfl | exact .inr rfl) : Bl X (own X.K C ps as) Γ (.Assign [.Name x pos'] e pos :: rest) O := bl_seq fun σ H g E b =>
  ws_of (ps_set hN hi hx pe_we hs hf) (h σ H g _ fun p xs ds H1 hp s1 hl1 r1 bl => by
    have hm : p ∉ ps ++ C.M := fun m => g.trk p m hp
    obtain ⟨j1, j2, j3⟩ := s1.j
    have trk : Trk (p :: ps ++ C.M) H1 := fun a ha => by
      rcases List.mem_cons.mp ha with z | z
      · subst z; rw [hl1]; exact fun z => by cases z
      · exact s1.trk a z
    have jj : (own X.K C (p :: ps) (ds :: as)).J (cut (p :: ps ++ C.M) H1) H1 := ⟨j1, ⟨List.nodup_cons.mpr ⟨fun z => hm (List.mem_append_left _ z), j2.1⟩, fun q hq m => by
      rcases List.mem_cons.mp hq with z | z
      · subst z; exact hm (List.mem_append_right _ m)
      · exact j2.2 q z m⟩, fun k q a hq ha => by
      cases k with
      | zero =>
        cases hq
        cases ha
        exact ⟨xs, hl1, r1⟩
      | succ k => exact j3 k q a hq ha⟩
    exact b.nx (own X.K C (p :: ps) (ds :: as)) _ H1 _ s1.same (Good.set ⟨g.len, trk, jj, g.bnd.mono s1.same⟩ (.adr p)) (bl p))
/-- x.append(e) -/
theorem bl_append (k : Nat) {ps : List Addr} {as : List (List D)} {a : List D} {p : Addr} {i : Nat} {o e : Expr} {apos cpos : Pos} (hp : ps[k]? = some p) (ha : as[k]? = some a)
    (ho : Ev X (own X.K C ps as) Γ o fun d => d = .adr p ∧ Ev X (own X.K C ps as) Γ e fun y => a.length < sizeLine ∧ Bl X (own X.K C ps (as.set k (a ++ [y]))) Γ rest O)
    (hbase : attributeBase o "append" X.env (eval o X.env) = eval o X.env := by rfl)
    (hfew : ((backTo cpos (starEach [e] X.env)).all (fun x => !x.1) && (backToKw cpos (keywordEach [] X.env)).all (fun x => x.1.isSome)
      && decide (([e] : List Expr).length + ([] : List Keyword).length + (if ([] : List Keyword).isEmpty then 0 else 1) < 30)) = true := by rfl)
    (hline : (apos.endLine == cpos.line) = true := by rfl) (hs1 : starEach [e] X.env = (false, eval e X.env) :: starEach [] X.env := by rfl) (hs : swapsWith (.Call (.Attribute o "append" apos) [e] [] cpos) none pos.line X.env = pure false := by rfl) :
    Bl X (own X.K C ps as) Γ (.Expr (.Call (.Attribute o "append" apos) [e] [] cpos) pos :: rest) O := bl_seq fun σ H g E b =>
  ws_of (ps_expr (pe_bm PySem.F.plainAttrs_list PySem.F.slot_list_append PySem.F.type_list_append mt_append pe_we (pa_cons pe_we pa_nil hs1) hbase hfew hline hs1 rfl) hs) (ho σ H g _ fun v d H1 s1 r1 ⟨ed, he⟩ => by
    subst ed
    cases r1
    obtain ⟨xs0, h0, _⟩ := s1.j.2.2 k p a hp ha
    refine ⟨.inl ⟨rfl, xs0, .of h0⟩, he σ H1 (g.step s1) _ fun w y H2 s2 r2 ⟨hz, bl⟩ => ?_⟩
    obtain ⟨xs, h2, rx⟩ := s2.j.2.2 k p a hp ha
    have g2 := g.step (s1.trans s2)
    refine ⟨p, xs, w, rfl, rfl, h2, by rw [rx.len]; exact hz, ?_⟩
    refine b.nx _ σ _ Γ ?_ (own_set (i := k) g2 hp (rx.append (.one r2))) bl
    have hm : p ∈ ps ++ C.M := List.mem_append_left _ (List.mem_of_getElem? hp)
    show Same (cut (ps ++ C.M) H) (cut (ps ++ C.M) (upd H2 p (.lst (xs ++ [w]))))
    rw [cut_same_upd hm]
    exact (s1.trans s2).same)
/-- the last begun list is not changed any more -/
theorem own_free {K : PySem.W.Frag} {σ : L2.St} {H : Hp} {p : Addr} {ps : List Addr} {a : List D} {as : List (List D)} {i : Nat} (g : Good (own K C (p :: ps) (a :: as)) K σ H Γ) (hΓ : Γ[i]? = some (some (.adr p))) :
    Good (own K C ps as) K σ H (Γ.set i (some (.lst a))) ∧ Same (cut (p :: ps ++ C.M) H) (cut (ps ++ C.M) H) := by
  have up : Same (cut (p :: ps ++ C.M) H) (cut (ps ++ C.M) H) := cut_less fun _ z => List.mem_cons_of_mem _ z
  obtain ⟨j1, j2, j3⟩ := g.j
  obtain ⟨hn1, hn2⟩ := List.nodup_cons.mp j2.1
  obtain ⟨xs, hx, rx⟩ := j3 0 p a rfl rfl
  have hpm : p ∉ ps ++ C.M := fun m => (List.mem_append.mp m).elim hn1 (j2.2 p List.mem_cons_self)
  refine ⟨⟨by rw [List.length_set]; exact g.len, fun b hb => g.trk b (List.mem_cons_of_mem _ hb), ⟨C.st _ _ _ _ j1 up fun _ _ => rfl, ⟨hn2, fun q hq => j2.2 q (List.mem_cons_of_mem _ hq)⟩, fun k q b hq hb => ?_⟩, fun k d e => ?_⟩, up⟩
  · obtain ⟨ys, h1, h2⟩ := j3 (k + 1) q b hq hb
    exact ⟨ys, h1, h2.mono up⟩
  · by_cases hk : k = i
    · subst hk
      obtain ⟨v, hv, rv⟩ := g.bnd k _ hΓ
      cases rv
      by_cases hl : k < Γ.length
      · rw [List.getElem?_set_self hl] at e
        cases e
        exact ⟨_, hv, .lst (.of (by show (if p ∈ ps ++ C.M then none else H p) = _; rw [if_neg hpm]; exact hx)) (rx.mono up)⟩
      · rw [List.getElem?_eq_none (by omega)] at hΓ
        cases hΓ
    · rw [List.getElem?_set_ne (Ne.symm hk)] at e
      obtain ⟨v, hv, rv⟩ := g.bnd k d e
      exact ⟨v, hv, rv.mono up⟩
theorem bl_free (i : Nat) {p : Addr} {ps : List Addr} {a : List D} {as : List (List D)} {sts : List Stmt} (hΓ : Γ[i]? = some (some (.adr p))) (h : Bl X (own X.K C ps as) (Γ.set i (some (.lst a))) sts O) : Bl X (own X.K C (p :: ps) (a :: as)) Γ sts O := fun σ H g E b => by
  obtain ⟨g', e⟩ := own_free g hΓ
  exact h σ H g' E (b.from e)
theorem bl_unown {sts : List Stmt} (h : Bl X C Γ sts O) : Bl X (own X.K C [] []) Γ sts O := fun σ H g E b => h σ H ⟨g.len, g.trk, g.j.1, g.bnd⟩ E (b.from (Same.refl _))
end
end GG
set_option maxHeartbeats 4000000
/-! G7: sorted of texts in a tuple, len(set(texts)); subscripts, slices, conversions, all, any. -/
namespace GG
open PySem PySem.Spec PyProof.Rows L2

/-! ### sorted(a tuple of texts) -/
section
variable {prog : Program} {w : World} {A : Around} {E : Value → Shared → Prop} {s : Shared}
theorem collect_tup {l : Addr} {vs : List Value} {Q : List Value → Shared → Prop} (hl : IsTup s.heap l vs.toArray)
    (h : Q vs { s with heap := (s.heap.push (seqObj "list" #[] 0)).update s.heap.objs.size (Obj.mapSeq (· ++ vs.toArray)) }) (hsz : vs.length ≤ sizeLine) : wpAny (model prog w) A (collect (.ref l)) Q E s := by
  obtain ⟨o, ho, hc, n, hd⟩ := id hl
  unfold collect
  refine wpAny_bind (wpAny_runValue (codeAny_builtin entry_proto_collect' ?_))
  show wpAny _ _ (do again (.builtin "list.__iadd__" ⟨[← newList [], .ref l], []⟩)) _ _ s
  refine wpAny_bind (wpAny_newList (wpAny_pure ⟨Code.quiet_builtin _ (by decide +kernel), codeAny_builtin entry_list_iadd' ?_⟩))
  show wpAny _ _ (Builtin.List.listExtendWith (.ref s.heap.objs.size) (.ref l) (.ref s.heap.objs.size)) _ _ { s with heap := s.heap.push (seqObj "list" #[] 0) }
  unfold Builtin.List.listExtendWith
  have hp : (s.heap.push (seqObj "list" #[] 0)).get? l = some o := Heap.get?_push_of_some _ ho
  have ht : (Value.type "tuple" == Value.type "tuple") = true := by rfl
  refine wpAny_bind (wpAny_typeOf (T := "tuple") ⟨o, hp, hc⟩ ?_)
  rw [if_pos (by rw [ht]; simp)]
  refine wpAny_bind (listItems_at hp hd (wpAny_bind (listItems_at (xs := #[]) (n := 0) (Heap.get?_push_size _ rfl) rfl ?_)))
  rw [if_neg (by simp)]
  refine wpAny_bind (listUpdate_at (xs := #[]) (n := 0) (Heap.get?_push_size _ rfl) rfl ?_ (Nat.zero_le _) (by show (#[] ++ vs.toArray).size ≤ sizeLine + 1; simp only [Array.size_append, List.size_toArray, List.length_nil]; omega))
  refine wpAny_pure ?_
  show wpAny (model prog w) A (do
      let o ← load s.heap.objs.size
      match o.data with
      | .seq xs _ => pure xs.toList
      | _ => unsupported "internal:collect") Q E { s with heap := (s.heap.push (seqObj "list" #[] 0)).update s.heap.objs.size (Obj.mapSeq (· ++ vs.toArray)) }
  refine wpAny_bind (wpAny_load (get?_update_seq (Heap.get?_push_size _ rfl) _) ?_)
  show wpAny _ _ (pure ((#[] : Array Value) ++ vs.toArray).toList) Q E _
  rw [show ((#[] : Array Value) ++ vs.toArray).toList = vs by simp]
  exact wpAny_pure h
theorem sorted_tupS {l : Addr} {vs : List Value} {ss : List Str} {Q : Value → Shared → Prop} (hl : IsTup s.heap l vs.toArray) (hS : StrsAre vs ss) (h64 : vs.length < 64)
    (h : ∀ (out : Array Value) (ss' : List Str), StrsAre out.toList ss' → ss'.Perm ss → sortedS ss' = true → Q (.ref (s.heap.objs.size + 1)) { s with heap := sortedAll s.heap vs out }) :
    wpAny (model prog w) A (call (.builtin "sorted") [.ref l]) Q E s := by
  refine Calls.call_function_entry kind_sorted plain_sorted entry_sorted (args_sorted1 _) ?_
  unfold Builtin.«sorted»
  refine wpAny_bind (m := checkCount "sorted" 1 1 _) (wpAny_pure (wpAny_bind (collect_tup hl (wpAny_bind (wpAny_newList ?_)) (by rw [sizeLine_eq]; omega))))
  have hsz : ((s.heap.push (seqObj "list" #[] 0)).update s.heap.objs.size (Obj.mapSeq (· ++ vs.toArray))).objs.size = s.heap.objs.size + 1 := by rw [Heap.size_update, size_push']
  have hoL : (((s.heap.push (seqObj "list" #[] 0)).update s.heap.objs.size (Obj.mapSeq (· ++ vs.toArray))).push (seqObj "list" vs.toArray 0)).get? (s.heap.objs.size + 1) = some (seqObj "list" vs.toArray 0) := by
    rw [← hsz]; exact Heap.get?_push_size _ rfl
  show wpAny _ _ _ _ _ { s with heap := ((s.heap.push (seqObj "list" #[] 0)).update s.heap.objs.size (Obj.mapSeq (· ++ vs.toArray))).push (seqObj "list" vs.toArray 0) }
  rw [hsz]
  refine wpAny_bind (wpAny_holding (wpAny_call_entry slot_list_sort ⟨_, hoL, rfl⟩ entry_list_sort (list_sort_treeK strKind_oneLt hoL hS.keysOf (fun v₁ v₂ rest e => keyKind_strs (by rw [← e]; exact hS)) h64 fun st' a1 a2 => ⟨_, rfl, ?_⟩) (args_list_sort _)))
  obtain ⟨ss', h1, h2, h3⟩ := sorted_out_str hS a1 a2
  exact wpAny_pure ⟨_, rfl, h _ ss' h1 h2 h3⟩
end
/-! texts in order -/
def leS (a b : Str) : Prop := ¬ b.cps.toList < a.cps.toList
theorem rising_pw : ∀ (l : List Str) (p : Str), risingS p l = true → (p :: l).Pairwise leS
  | [], p, _ => List.pairwise_singleton _ _
  | x :: r, p, h => by
    have h' : (!ltCps x.cps.toList p.cps.toList && risingS x r) = true := h
    rw [Bool.and_eq_true] at h'
    have ih := rising_pw r x h'.2
    have hx : leS p x := by
      have := h'.1
      rw [ltCps_eq] at this
      unfold leS
      simpa using this
    refine List.pairwise_cons.mpr ⟨fun y hy => ?_, ih⟩
    rcases List.mem_cons.mp hy with e | e
    · rw [e]; exact hx
    · have hxy : leS x y := (List.pairwise_cons.mp ih).1 y e
      unfold leS at hx hxy ⊢
      rw [List.not_lt] at hx hxy ⊢
      exact List.le_trans hx hxy
theorem sortedS_pw {l : List Str} (h : sortedS l = true) : l.Pairwise leS := by
  cases l with
  | nil => exact List.Pairwise.nil
  | cons x r => exact rising_pw r x h
theorem leS_anti {a b : Str} (h1 : leS a b) (h2 : leS b a) : a = b := by
  unfold leS at h1 h2
  rw [List.not_lt] at h1 h2
  have e := List.le_antisymm h1 h2
  cases a
  cases b
  simp only [Str.mk.injEq]
  exact Array.toList_inj.mp e
theorem sorted_one {l l' : List Str} (p : l.Perm l') (h : l.Pairwise leS) (h' : l'.Pairwise leS) : l = l' := List.Perm.eq_of_pairwise (fun a b _ _ h1 h2 => leS_anti h1 h2) h h' p
def insS (x : Str) : List Str → List Str
  | [] => [x]
  | y :: r => if y.cps.toList < x.cps.toList then y :: insS x r else x :: y :: r
def srtS : List Str → List Str
  | [] => []
  | x :: r => insS x (srtS r)
theorem insS_perm (x : Str) : ∀ l, (insS x l).Perm (x :: l)
  | [] => .refl _
  | y :: r => by
    unfold insS
    split
    · exact ((insS_perm x r).cons y).trans (.swap x y r)
    · exact .refl _
theorem srtS_perm : ∀ l, (srtS l).Perm l
  | [] => .refl _
  | x :: r => (insS_perm x _).trans ((srtS_perm r).cons x)
theorem insS_pw (x : Str) : ∀ {l : List Str}, l.Pairwise leS → (insS x l).Pairwise leS
  | [], _ => List.pairwise_singleton _ _
  | y :: r, h => by
    unfold insS
    obtain ⟨h1, h2⟩ := List.pairwise_cons.mp h
    split
    · rename_i hlt
      refine List.pairwise_cons.mpr ⟨fun z hz => ?_, insS_pw x h2⟩
      rcases List.mem_cons.mp ((insS_perm x r).mem_iff.mp hz) with e | e
      · rw [e]; unfold leS; rw [List.not_lt]; exact List.le_of_lt hlt
      · exact h1 z e
    · rename_i hlt
      refine List.pairwise_cons.mpr ⟨fun z hz => ?_, h⟩
      rcases List.mem_cons.mp hz with e | e
      · rw [e]; exact hlt
      · have := h1 z e
        unfold leS at this ⊢
        rw [List.not_lt] at this hlt ⊢
        exact List.le_trans hlt this
theorem srtS_pw : ∀ l, (srtS l).Pairwise leS
  | [] => .nil
  | x :: r => insS_pw x (srtS_pw r)
theorem srtS_of {ys xs : List Str} (p : ys.Perm xs) (h : sortedS ys = true) : ys = srtS xs := sorted_one (p.trans (srtS_perm xs).symm) (sortedS_pw h) (srtS_pw xs)
/-- data that are texts -/
theorem dds_strs {K : PySem.W.Frag} {S : Hp} : ∀ {vs : List V} {xs : List Str}, DDs K S vs (xs.map D.str) → vs = xs.map V.str
  | _, [], .nil => rfl
  | _, x :: xs, .cons h r => by
    cases h
    rw [dds_strs r] <;> rfl
theorem strs_dds {K : PySem.W.Frag} {S : Hp} : ∀ xs : List Str, DDs K S (xs.map V.str) (xs.map D.str)
  | [] => .nil
  | x :: xs => .cons (.str x) (strs_dds xs)
section
variable {X : Cx} {C : SJ} {Γ : En} {P : D → Prop}
theorem cr_sortedTS : CallR X (.builtin "sorted") (fun vs H Q => ∃ (a : Addr) (xs : List Str), vs = [V.ref a] ∧ SqT X.K H a (xs.map V.str) ∧ xs.length < 64 ∧ ∀ (ys : List Str) (p : Addr), ys.Perm xs → sortedS ys = true → H p = none → Q (.ref p) (upd H p (.lst (ys.map V.str)))) := by
  intro pins s σ H vs us Q I r h
  obtain ⟨a, xs, rfl, hs, h64, q⟩ := h
  obtain ⟨its, rv, hl, _⟩ := I.tuple hs
  rw [Vals.ref1 r]
  have hlen0 := rv.length
  rw [List.length_map] at hlen0
  refine sorted_tupS hl rv.strs (by rw [← hlen0]; exact h64) fun out ys h1 h2 h3 => ?_
  obtain ⟨ep, he'⟩ := PyProof.Rows.sortedAll_at s.heap its out
  have hlen : (ys.map V.str).length ≤ sizeLine := by rw [List.length_map, h2.length_eq]; exact small64 h64
  exact ⟨.ref _, upd H (s.heap.objs.size + 1) (.lst (ys.map V.str)), I.laid (t' := s.toks) (fun _ _ => PyProof.Rows.sortedAll_old) (Nat.le_succ _) ⟨hlen, out.toList, ep, vals_of_strs h1, he'⟩, rfl, q ys _ h2 h3 (I.hok.fresh (Nat.le_succ _))⟩
def sortG : List D → (List D → Prop) → Prop
  | [.tup ds], P => ∃ xs : List Str, ds = xs.map D.str ∧ xs.length < 64 ∧ P ((srtS xs).map D.str)
  | [.lst ds], P => ∃ xs : List Str, ds = xs.map D.str ∧ xs.length < 64 ∧ P ((srtS xs).map D.str)
  | _, _ => False
theorem ef_sorted {p pos : Pos} {a : Expr} {P : List D → Prop} (hm : X.mg "sorted" = none) (h : Ev X C Γ a fun d => sortG [d] P) (hg : Gl X "sorted" := by rfl) (he : starEach [a] X.env = (false, eval a X.env) :: starEach [] X.env := by rfl) :
    EvF X C Γ (.Call (.Name "sorted" p) [a] [] pos) P := fun σ H g Q q => by
  refine we_of (pe_callB (cr_sortedS.or cr_sortedTS) hg hm (by decide +kernel) (pa_cons pe_we pa_nil he) (by decide) (by decide) he rfl) ?_
  refine h σ H g _ fun v d H1 s1 r1 hG => ?_
  have nH : ∀ {l : Addr}, H1 l = none → H l = none := fun {l} hl => by
    cases e : H l with
    | none => rfl
    | some o =>
      exfalso
      by_cases hm : l ∈ C.M
      · exact s1.trk l hm hl
      · have := s1.same l o (by unfold cut; rw [if_neg hm]; exact e)
        unfold cut at this
        rw [if_neg hm, hl] at this
        cases this
  cases r1 with
  | lst hq r =>
    obtain ⟨xs, rfl, h64, p⟩ := hG
    rw [dds_strs r] at hq
    refine .inl ⟨_, xs, rfl, sub_sqL hq, h64, fun ys l hp hs hl => ?_⟩
    rw [srtS_of hp hs]
    exact q l _ _ _ (nH hl) (fst_new s1 hl) upd_same (strs_dds _) p
  | tup hq r =>
    obtain ⟨xs, rfl, h64, p⟩ := hG
    rw [dds_strs r] at hq
    refine .inr ⟨_, xs, rfl, sub_sqT hq, h64, fun ys l hp hs hl => ?_⟩
    rw [srtS_of hp hs]
    exact q l _ _ _ (nH hl) (fst_new s1 hl) upd_same (strs_dds _) p
  | _ => exact False.elim hG

/-! ### list(x), tuple(x) -/
def seqG : D → (List D → Prop) → Prop
  | .lst ds, P => P ds
  | .tup ds, P => P ds
  | _, _ => False
theorem nil_back {H H1 : Hp} (s1 : Step C H H1) {l : Addr} (hl : H1 l = none) : H l = none := by
  cases e : H l with
  | none => rfl
  | some o =>
    exfalso
    by_cases hm : l ∈ C.M
    · exact s1.trk l hm hl
    · have := s1.same l o (by unfold cut; rw [if_neg hm]; exact e)
      unfold cut at this
      rw [if_neg hm, hl] at this
      cases this
theorem dds_cut {K : PySem.W.Frag} {M : List Addr} {H : Hp} {p : Addr} {o : HO} {vs : List V} {ds : List D} (h : DDs K (cut M H) vs ds) (hp : H p = none) : DDs K (cut (p :: M) (upd H p o)) vs ds := dds_in h hp
theorem ef_list {p pos : Pos} {a : Expr} {P : List D → Prop} (hm : X.mg "list" = none) (h : Ev X C Γ a fun d => seqG d P) (hg : Gl X "list" := by rfl) (he : starEach [a] X.env = (false, eval a X.env) :: starEach [] X.env := by rfl) :
    EvF X C Γ (.Call (.Name "list" p) [a] [] pos) P := fun σ H g Q q => by
  refine we_of (pe_callTy call_list_of hg hm (by decide +kernel) (pa_cons pe_we pa_nil he) (by decide) (by decide) he rfl) ?_
  refine h σ H g _ fun v d H1 s1 r1 hG => ?_
  cases r1 with
  | lst hq r => exact ⟨_, _, rfl, .inl (sub_sqL hq), fun l hl => q l _ _ _ (nil_back s1 hl) (fst_new s1 hl) upd_same (dds_in r hl) hG⟩
  | tup hq r => exact ⟨_, _, rfl, .inr (sub_sqT hq), fun l hl => q l _ _ _ (nil_back s1 hl) (fst_new s1 hl) upd_same (dds_in r hl) hG⟩
  | _ => exact False.elim hG
theorem ev_tuple {p pos : Pos} {a : Expr} (hm : X.mg "tuple" = none) (h : Ev X C Γ a fun d => seqG d fun ds => P (.tup ds)) (hg : Gl X "tuple" := by rfl) (he : starEach [a] X.env = (false, eval a X.env) :: starEach [] X.env := by rfl) :
    Ev X C Γ (.Call (.Name "tuple" p) [a] [] pos) P := fun σ H g Q q => by
  refine we_of (pe_callTy call_tuple_of hg hm (by decide +kernel) (pa_cons pe_we pa_nil he) (by decide) (by decide) he rfl) ?_
  refine h σ H g _ fun v d H1 s1 r1 hG => ?_
  cases r1 with
  | lst hq r => exact ⟨_, _, rfl, .inl ⟨sub_sqL hq, fun l hl => q _ _ _ (s1.trans (st_new s1.trk s1.j hl)) (.tup (.of (cut_new s1.trk hl)) (r.mono (cut_same (same_new hl)))) hG⟩⟩
  | tup hq r => exact ⟨_, _, rfl, .inr ⟨sub_sqT hq, q _ _ _ s1 (.tup hq r) hG⟩⟩
  | _ => exact False.elim hG

/-! ### all, any -/
def boolsG (f : List Bool → Bool) : List D → (D → Prop) → Prop
  | [.lst ds], P => ∃ bs : List Bool, ds = bs.map D.bl ∧ P (.bl (f bs))
  | _, _ => False
theorem dds_bools {K : PySem.W.Frag} {S : Hp} : ∀ {vs : List V} {bs : List Bool}, DDs K S vs (bs.map D.bl) → vs = bs.map V.bl
  | _, [], .nil => rfl
  | _, x :: xs, .cons h r => by
    cases h
    rw [dds_bools r] <;> rfl
theorem cd_all : CallD X (rAll X.K) (boolsG fun bs => bs.all id) := by
  intro C H vs ds P Q t j r g q
  cases r with
  | nil => exact False.elim g
  | cons h r =>
    cases r with
    | cons h2 r => cases h <;> exact False.elim g
    | nil =>
      cases h <;> try exact False.elim g
      rename_i a xs es hq r
      obtain ⟨bs, rfl, p⟩ := g
      rw [dds_bools r] at hq
      exact ⟨a, bs, rfl, sub_sqL hq, q _ _ H (stay t j) (.bl _) p⟩
theorem cd_any : CallD X (rAny X.K) (boolsG fun bs => bs.any id) := by
  intro C H vs ds P Q t j r g q
  cases r with
  | nil => exact False.elim g
  | cons h r =>
    cases r with
    | cons h2 r => cases h <;> exact False.elim g
    | nil =>
      cases h <;> try exact False.elim g
      rename_i a xs es hq r
      obtain ⟨bs, rfl, p⟩ := g
      rw [dds_bools r] at hq
      exact ⟨a, bs, rfl, sub_sqL hq, q _ _ H (stay t j) (.bl _) p⟩
theorem ev_all {p pos : Pos} {a : Expr} (hm : X.mg "all" = none) (h : Ev X C Γ a fun d => boolsG (fun bs => bs.all id) [d] P) (hg : Gl X "all" := by rfl) (hc : X.calm = true := by rfl) (he : starEach [a] X.env = (false, eval a X.env) :: starEach [] X.env := by rfl) : Ev X C Γ (.Call (.Name "all" p) [a] [] pos) P :=
  ev_callB (cr_all hc) cd_all hm (by decide +kernel) (ea_cons (h.imp fun _ z => ea_nil z) he) hg (by decide) (by decide) he rfl
theorem ev_any {p pos : Pos} {a : Expr} (hm : X.mg "any" = none) (h : Ev X C Γ a fun d => boolsG (fun bs => bs.any id) [d] P) (hg : Gl X "any" := by rfl) (hc : X.calm = true := by rfl) (he : starEach [a] X.env = (false, eval a X.env) :: starEach [] X.env := by rfl) : Ev X C Γ (.Call (.Name "any" p) [a] [] pos) P :=
  ev_callB (cr_any hc) cd_any hm (by decide +kernel) (ea_cons (h.imp fun _ z => ea_nil z) he) hg (by decide) (by decide) he rfl

/-! ### subscripts -/
def ixG : D → D → (D → Prop) → Prop
  | .lst ds, .int i, P => ∃ d, atI ds i = some d ∧ P d
  | .tup ds, .int i, P => ∃ d, atI ds i = some d ∧ P d
  | .str z, .int i, P => z.length ≤ sizeLine ∧ ∃ c, atI z.cps.toList i = some c ∧ P (.str ⟨#[c]⟩)
  | _, _, _ => False
theorem at_dds {K : PySem.W.Frag} {S : Hp} {vs : List V} {ds : List D} (r : DDs K S vs ds) {i : Int} {d : D} (h : atI ds i = some d) : ∃ v, atI vs i = some v ∧ DD K S v d := by
  unfold atI at h ⊢
  rw [r.len]
  cases e : ixN ds.length i with
  | none => rw [e] at h; cases h
  | some j =>
    rw [e] at h
    obtain ⟨v, h1, h2⟩ := r.get (i := j) h
    exact ⟨v, h1, h2⟩
theorem od_ix : OpD X (rIx X.K) ixG := by
  intro C H x y d e P Q t j hx hy g q
  cases hx <;> cases hy <;> try exact False.elim g
  · obtain ⟨hz, c, hc, p⟩ := g
    exact .inr (.inr ⟨_, _, c, rfl, rfl, hz, hc, q _ _ H (stay t j) (.str _) p⟩)
  · rename_i a xs ds hq r i
    obtain ⟨f, hf, p⟩ := g
    obtain ⟨v, h1, h2⟩ := at_dds r hf
    exact .inl ⟨a, xs, i, v, rfl, rfl, sub_sqL hq, h1, q _ _ H (stay t j) h2 p⟩
  · rename_i a xs ds hq r i
    obtain ⟨f, hf, p⟩ := g
    obtain ⟨v, h1, h2⟩ := at_dds r hf
    exact .inr (.inl ⟨a, xs, i, v, rfl, rfl, sub_sqT hq, h1, q _ _ H (stay t j) h2 p⟩)
theorem ev_ix {a b : Expr} {pos : Pos} (h : Ev X C Γ a fun d => Ev X C Γ b fun e => ixG d e P) (hs : PlainIx b := by exact fun _ _ => rfl) : Ev X C Γ (.Subscript a b pos) P := fun _ _ g _ q => we_of (pe_ix ix_seq pe_we pe_we hs) (op2 od_ix h g q)

/-! ### slices -/
def cutD (ds : List D) (lo hi : Option Int) : List D := (ds.drop (HT.sIx ds.length 0 lo)).take (HT.sIx ds.length ds.length hi - HT.sIx ds.length 0 lo)
def EvO (X : Cx) (C : SJ) (Γ : En) (e : Option Expr) (P : Option Int → Prop) : Prop := match e with
  | none => P none
  | some e => Ev X C Γ e fun d => ∃ i, d = .int i ∧ P (some i)
def WO (X : Cx) (e : Option Expr) : TO := fun σ H Q => match e with
  | none => Q none H
  | some e => WE X e σ H fun x H1 => ∃ i, x = .int i ∧ Q (some i) H1
theorem po_wo : ∀ {e : Option Expr}, PO X e (WO X e)
  | none => po_none
  | some e => po_some pe_we
theorem eo_run {e : Option Expr} {P : Option Int → Prop} (h : EvO X C Γ e P) {σ : L2.St} {H : Hp} (g : Good C X.K σ H Γ) {Q : Option Int → Hp → Prop} (q : ∀ o H', Step C H H' → P o → Q o H') : WO X e σ H Q := by
  cases e with
  | none => exact q none H g.refl h
  | some e =>
    exact h σ H g _ fun v d H1 s1 r1 ⟨i, ed, p⟩ => by
      subst ed
      cases r1
      exact ⟨i, rfl, q _ H1 s1 p⟩
def slG (d : D) (lo hi : Option Int) (P : D → Prop) : Prop := match d with
  | .lst ds => P (.lst (cutD ds lo hi))
  | .tup ds => P (.tup (cutD ds lo hi))
  | _ => False
theorem cutV_dds {K : PySem.W.Frag} {S : Hp} {vs : List V} {ds : List D} (r : DDs K S vs ds) (lo hi : Option Int) : DDs K S (cutV vs lo hi) (cutD ds lo hi) := by
  unfold cutV cutD
  rw [r.len]
  exact (r.drop _).take _
theorem cutD_all {ds : List D} {lo hi : Option Int} (h : HT.sIx ds.length 0 lo = 0 ∧ HT.sIx ds.length ds.length hi = ds.length) : cutD ds lo hi = ds := by
  unfold cutD
  rw [h.1, h.2, List.drop_zero, Nat.sub_zero, List.take_length]
theorem ev_slice {e : Expr} {lo hi : Option Expr} {p2 pos : Pos} (h : Ev X C Γ e fun d => EvO X C Γ lo fun l => EvO X C Γ hi fun u => slG d l u P) : Ev X C Γ (.Subscript e (.Slice lo hi none p2) pos) P := fun σ H g Q q => by
  refine we_of (pe_slice (sl_list.or sl_tupA) pe_we po_wo po_wo) ?_
  refine h σ H g _ fun v d H1 s1 r1 h1 => eo_run h1 (g.step s1) fun l H2 s2 h2 => eo_run h2 (g.step (s1.trans s2)) fun u H3 s3 hG => ?_
  have s13 := (s1.trans s2).trans s3
  have r3 := r1.mono (s2.trans s3).same
  cases r3 with
  | lst hq r =>
    refine .inl ⟨_, _, rfl, sub_sqL hq, fun p hp => ?_⟩
    exact q _ _ _ (s13.trans (st_new s13.trk s13.j hp)) (.lst (.of (cut_new s13.trk hp)) ((cutV_dds r l u).mono (cut_same (same_new hp)))) hG
  | tup hq r =>
    refine .inr ⟨_, _, rfl, sub_sqT hq, fun hw => ?_, fun _ p hp => ?_⟩
    · rw [r.len] at hw
      have e := cutD_all hw
      have hG' : P (.tup (cutD _ l u)) := hG
      rw [e] at hG'
      exact q _ _ _ s13 (.tup hq r) hG'
    · exact q _ _ _ (s13.trans (st_new s13.trk s13.j hp)) (.tup (.of (cut_new s13.trk hp)) ((cutV_dds r l u).mono (cut_same (same_new hp)))) hG
  | _ => exact False.elim hG
/-- list slices as new lists -/
theorem ef_slice {e : Expr} {lo hi : Option Expr} {p2 pos : Pos} {P : List D → Prop} (h : Ev X C Γ e fun d => EvO X C Γ lo fun l => EvO X C Γ hi fun u => ∃ ds, d = .lst ds ∧ P (cutD ds l u)) : EvF X C Γ (.Subscript e (.Slice lo hi none p2) pos) P := fun σ H g Q q => by
  refine we_of (pe_slice sl_list pe_we po_wo po_wo) ?_
  refine h σ H g _ fun v d H1 s1 r1 h1 => eo_run h1 (g.step s1) fun l H2 s2 h2 => eo_run h2 (g.step (s1.trans s2)) fun u H3 s3 ⟨ds, ed, hP⟩ => ?_
  subst ed
  have s13 := (s1.trans s2).trans s3
  cases r1.mono (s2.trans s3).same with
  | lst hq r => exact ⟨_, _, rfl, sub_sqL hq, fun p hp => q p _ _ _ (nil_back s13 hp) (fst_new s13 hp) upd_same (dds_in (cutV_dds r l u) hp) hP⟩

/-! ### abs, max, min, int, str -/
def int1G (f : Int → Int) : List D → (D → Prop) → Prop
  | [.int i], P => P (.int (f i))
  | _, _ => False
def int2G (f : Int → Int → Int) : List D → (D → Prop) → Prop
  | [.int i, .int j], P => P (.int (f i j))
  | _, _ => False
theorem cd_int1 {f : Int → Int} : CallD X (fun xs H Q => ∃ i, xs = [.int i] ∧ Q (.int (f i)) H) (int1G f) := by
  intro C H vs ds P Q t j r g q
  cases r with
  | nil => exact False.elim g
  | cons h r =>
    cases r with
    | cons h2 r => cases h <;> exact False.elim g
    | nil =>
      cases h <;> try exact False.elim g
      exact ⟨_, rfl, q _ _ H (stay t j) (.int _) g⟩
theorem cd_int2 {f : Int → Int → Int} : CallD X (fun xs H Q => ∃ i j, xs = [.int i, .int j] ∧ Q (.int (f i j)) H) (int2G f) := by
  intro C H vs ds P Q t j r g q
  cases r with
  | nil => exact False.elim g
  | cons h r =>
    cases r with
    | nil => cases h <;> exact False.elim g
    | cons h2 r =>
      cases r with
      | cons h3 r => cases h <;> cases h2 <;> exact False.elim g
      | nil =>
        cases h <;> cases h2 <;> try exact False.elim g
        exact ⟨_, _, rfl, q _ _ H (stay t j) (.int _) g⟩
theorem ev_abs {p pos : Pos} {a : Expr} (hm : X.mg "abs" = none) (h : EvA X C Γ [a] fun ds => int1G (fun i => if i < 0 then -i else i) ds P) (hg : Gl X "abs" := by rfl) (he : starEach [a] X.env = (false, eval a X.env) :: starEach [] X.env := by rfl) : Ev X C Γ (.Call (.Name "abs" p) [a] [] pos) P :=
  ev_callB call_abs cd_int1 hm (by decide +kernel) h hg (by decide) (by decide) he rfl
theorem ev_max {p pos : Pos} {a b : Expr} (hm : X.mg "max" = none) (h : EvA X C Γ [a, b] fun ds => int2G (fun i j => if j > i then j else i) ds P) (hg : Gl X "max" := by rfl) (hc : X.calm = true := by rfl) (he : starEach [a, b] X.env = (false, eval a X.env) :: starEach [b] X.env := by rfl)
    (hpl : (backTo pos (starEach [b] X.env)).any (·.1) = false := by rfl) : Ev X C Γ (.Call (.Name "max" p) [a, b] [] pos) P := ev_callB (call_max2 hc) cd_int2 hm (by decide +kernel) h hg (by decide) (by decide) he hpl
theorem ev_min {p pos : Pos} {a b : Expr} (hm : X.mg "min" = none) (h : EvA X C Γ [a, b] fun ds => int2G (fun i j => if j < i then j else i) ds P) (hg : Gl X "min" := by rfl) (hc : X.calm = true := by rfl) (he : starEach [a, b] X.env = (false, eval a X.env) :: starEach [b] X.env := by rfl)
    (hpl : (backTo pos (starEach [b] X.env)).any (·.1) = false := by rfl) : Ev X C Γ (.Call (.Name "min" p) [a, b] [] pos) P := ev_callB (call_min2 hc) cd_int2 hm (by decide +kernel) h hg (by decide) (by decide) he hpl
def intOfG : List D → (D → Prop) → Prop
  | [.int i], P => P (.int i)
  | [.bl k], P => P (.int (if k then 1 else 0))
  | _, _ => False
theorem cd_intOf : CallD X (fun xs H Q => (∃ i, xs = [.int i] ∧ Q (.int i) H) ∨ ∃ k, xs = [.bl k] ∧ Q (.int (if k then 1 else 0)) H) intOfG := by
  intro C H vs ds P Q t j r g q
  cases r with
  | nil => exact False.elim g
  | cons h r =>
    cases r with
    | cons h2 r => cases h <;> exact False.elim g
    | nil =>
      cases h <;> try exact False.elim g
      · exact .inr ⟨_, rfl, q _ _ H (stay t j) (.int _) g⟩
      · exact .inl ⟨_, rfl, q _ _ H (stay t j) (.int _) g⟩
theorem ev_intOf {p pos : Pos} {a : Expr} (hm : X.mg "int" = none) (h : EvA X C Γ [a] fun ds => intOfG ds P) (hg : Gl X "int" := by rfl) (he : starEach [a] X.env = (false, eval a X.env) :: starEach [] X.env := by rfl) : Ev X C Γ (.Call (.Name "int" p) [a] [] pos) P :=
  ev_callTy call_int1 cd_intOf hm (by decide +kernel) h hg (by decide) (by decide) he rfl
end
end GG
set_option maxHeartbeats 4000000
/-! G8: repr of data; x[::-1]; len(set(texts)). -/
namespace GG
open PySem PySem.Spec PyProof.Rows L2

/-! ### repr -/
def atom : D → Bool
  | .non => true | .bl _ => true | .int _ => true | .str _ => true | _ => false
/-- a dict of atoms -/
def flatDict : D → Bool
  | .dct kvs => kvs.all fun p => atom p.2
  | _ => false
def sh (d : D) : Str := (toPy d).shown
/-- what repr may be asked of -/
structure Shw (d : D) : Prop where
  kind : plainD d = true ∨ flatDict d = true
  show_ : (toPy d).showable = true
  len : (sh d).length ≤ sizeLine
  deep : (toPy d).depth ≤ 60
section
variable {X : Cx} {pins : List (Addr × Obj)} {σ : L2.St} {H : Hp} {s : Shared}
theorem reads_plain (I : Inv X pins σ H s) {M : List Addr} {v : V} {u : Value} {d : D} (h : DD X.K (cut M H) v d) (r : RelV v u) (p : plainD d = true) : ∃ as, Reads s.heap u (toPy d) as := Dp.reads I _ v u (Dp.same (cut_sub _ _) (dp_of h p)) r
theorem plain_hd : ∀ d : D, plainD d = true → (toPy d).hasDict = false := by
  have key : (∀ d : D, plainD d = true → (toPy d).hasDict = false) ∧ ∀ ds : List D, plainDs ds = true → PyData.hasDictAll (toPys ds) = false := by
    refine ⟨fun d => ?_, fun ds => ?_⟩
    · exact D.rec (motive_1 := fun d => plainD d = true → (toPy d).hasDict = false) (motive_2 := fun ds => plainDs ds = true → PyData.hasDictAll (toPys ds) = false) (motive_3 := fun _ => True) (motive_4 := fun _ => True) (motive_5 := fun _ => True) (motive_6 := fun _ => True)
        (fun _ => by simp [toPy, PyData.hasDict]) (fun _ _ => by simp [toPy, PyData.hasDict]) (fun _ _ => by simp [toPy, PyData.hasDict]) (fun _ _ => by simp [toPy, PyData.hasDict])
        (fun ds ih h => by simpa [toPy, PyData.hasDict] using ih (by simpa [plainD] using h)) (fun ds ih h => by simpa [toPy, PyData.hasDict] using ih (by simpa [plainD] using h))
        (fun _ _ h => by simp [plainD] at h) (fun _ _ _ h => by simp [plainD] at h) (fun _ h => by simp [plainD] at h) (fun _ h => by simp [plainD] at h)
        (fun _ => by simp [toPys, PyData.hasDictAll]) (fun d ds h1 h2 h => by
          simp only [plainDs, Bool.and_eq_true] at h
          simp [toPys, PyData.hasDictAll, h1 h.1, h2 h.2]) trivial (fun _ _ _ _ => trivial) trivial (fun _ _ _ _ => trivial) (fun _ _ _ => trivial) (fun _ _ _ => trivial) d
    · induction ds with
      | nil => intro _; simp [toPys, PyData.hasDictAll]
      | cons d ds ih =>
        intro h
        simp only [plainDs, Bool.and_eq_true] at h
        have hd : (toPy d).hasDict = false :=
          D.rec (motive_1 := fun d => plainD d = true → (toPy d).hasDict = false) (motive_2 := fun ds => plainDs ds = true → PyData.hasDictAll (toPys ds) = false) (motive_3 := fun _ => True) (motive_4 := fun _ => True) (motive_5 := fun _ => True) (motive_6 := fun _ => True)
            (fun _ => by simp [toPy, PyData.hasDict]) (fun _ _ => by simp [toPy, PyData.hasDict]) (fun _ _ => by simp [toPy, PyData.hasDict]) (fun _ _ => by simp [toPy, PyData.hasDict])
            (fun ds ih h => by simpa [toPy, PyData.hasDict] using ih (by simpa [plainD] using h)) (fun ds ih h => by simpa [toPy, PyData.hasDict] using ih (by simpa [plainD] using h))
            (fun _ _ h => by simp [plainD] at h) (fun _ _ _ h => by simp [plainD] at h) (fun _ h => by simp [plainD] at h) (fun _ h => by simp [plainD] at h)
            (fun _ => by simp [toPys, PyData.hasDictAll]) (fun d ds h1 h2 h => by
              simp only [plainDs, Bool.and_eq_true] at h
              simp [toPys, PyData.hasDictAll, h1 h.1, h2 h.2]) trivial (fun _ _ _ _ => trivial) trivial (fun _ _ _ _ => trivial) (fun _ _ _ => trivial) (fun _ _ _ => trivial) d h.1
        simp [toPys, PyData.hasDictAll, hd, ih h.2]
  exact key.1
theorem reads_kv {P : Program} {w : World} {K : PySem.W.Frag} {S : Hp} {h : Heap} : ∀ {ws : List (Key × V)} {kvs : List (Key × D)} {vs : List (Key × Value)} {es : List DictEntry}, DDk K S ws kvs → (kvs.all fun p => atom p.2) = true → KV ws vs → Pairs (mixKind P w) es vs →
    ReadsAll h (es.map (·.key)) ((toPyKv kvs).map (·.1)) [] ∧ ReadsAll h (es.map (·.val)) ((toPyKv kvs).map (·.2)) []
  | _, _, _, _, .nil, _, .nil, .nil => ⟨.nil, .nil⟩
  | _, _, _, _, .cons (k := k) (d := dv) hd hr, a, .cons (b := kv) r1 r2, .cons (e := en) e1 e2 e3 => by
    rw [List.all_cons, Bool.and_eq_true] at a
    obtain ⟨i1, i2⟩ := reads_kv (h := h) hr a.2 r2 e3
    have hk : keyIs k en.key = true := by
      have z : k = kv.1 := r1.1
      rw [z]
      exact e1
    have k1 : Reads h en.key (keyPy k) [] := by
      rcases keyIs_shape hk with ⟨i, t, e, ev⟩ | ⟨x, t, e, ev⟩
      · rw [ev, e]; exact .int i t
      · rw [ev, e]; exact .str x t
    have v1 : Reads h en.val (toPy dv) [] := by
      have rv := r1.2
      have ha : atom dv = true := a.1
      rw [e2]
      cases hd with
      | non => rw [show _ = Value.none from rv]; exact .none
      | bl b => rw [show _ = Value.bool b from rv]; exact .bool b
      | int i => obtain ⟨t, e⟩ := rv; rw [e]; exact .int i t
      | str x => obtain ⟨t, e⟩ := rv; rw [e]; exact .str x t
      | _ => exact absurd ha Bool.false_ne_true
    exact ⟨.cons (as := []) (bs := []) k1 i1, .cons (as := []) (bs := []) v1 i2⟩
/-- repr(x) -/
def rRepr (K : PySem.W.Frag) : List V → Hp → VK → Prop := fun xs H Q => ∃ (x : V) (d : D) (M : List Addr), xs = [x] ∧ DD K (cut M H) x d ∧ Shw d ∧ Q (.str (sh d)) H
theorem call_repr (hG : X.A.guards = some []) (hu : X.A.units + 64 < cLine) : CallR X (.builtin "repr") (rRepr X.K) := by
  intro pins s σ H xs us Q I r h
  obtain ⟨x, d, M, rfl, hd, w, q⟩ := h
  obtain ⟨u, rfl, ru⟩ := vals1 r
  have hz := w.len
  have hsh := w.show_
  have hdp := w.deep
  have fin : ∀ {a : Addr} {as : List Addr}, u = .ref a → Reads s.heap (.ref a) (toPy d) as → ((toPy d).hasDict = true → sysModules ∉ as) → wpAny (model X.prog X.w) X.A (call (.builtin "repr") [u]) (EP X pins σ Q) X.xe s := fun {a as} eu rd hs => by
    subst eu
    exact repr_of_reads' rd hsh hs hG (by omega) (fun _ _ e => e) (fun h' u tk hk => ⟨.str (sh d), H, I.kept (t' := tk) hk, ⟨u, rfl⟩, q⟩) hz
  rcases w.kind with hp | hp
  · obtain ⟨as, rd⟩ := reads_plain I hd ru hp
    cases hd with
    | non => cases (show u = Value.none from ru); exact PySem.P.repr_of_none ⟨.str _, H, I.tok _, ⟨_, rfl⟩, q⟩
    | bl b => cases (show u = Value.bool b from ru); exact PySem.P.repr_of_bool ⟨.str (if b then "True" else "False"), H, I.tok _, ⟨_, rfl⟩, q⟩
    | int i =>
      obtain ⟨t, e⟩ := (show ∃ t, u = Value.int i t from ru)
      subst e
      exact PySem.P.repr_of_int (by simpa [toPy, PyData.showable] using hsh) ⟨.str _, H, I.tok _, ⟨_, rfl⟩, q⟩
    | str y =>
      obtain ⟨t, e⟩ := (show ∃ t, u = Value.str y t from ru)
      subst e
      exact PySem.P.repr_of_str ⟨.str _, H, I.tok _, ⟨_, rfl⟩, q⟩ hz
    | lst hq r => exact fin (show u = _ from ru) ((show u = _ from ru) ▸ rd) (PyData.noDict_hsm (plain_hd _ hp))
    | tup hq r => exact fin (show u = _ from ru) ((show u = _ from ru) ▸ rd) (PyData.noDict_hsm (plain_hd _ hp))
    | _ => simp [plainD] at hp
  · cases hd with
    | @dct a ws kvs hq rk =>
      obtain ⟨hl, lo, vs, kv, o, es, ep, ho, hx, hdt, hk, pr, nd⟩ := I.hok a _ (cut_sub _ _ _ _ hq)
      obtain ⟨k1, k2⟩ := reads_kv (h := s.heap) rk (show (kvs.all fun p => atom p.2) = true from hp) kv pr
      exact fin (show u = _ from ru) (.dict ho hx.1 hdt k1 k2) fun _ hm => by
        simp at hm
        rw [← hm] at lo
        simp at lo
    | _ => exact absurd hp (by simp [flatDict])
end
section
variable {X : Cx} {C : SJ} {Γ : En} {P : D → Prop}
def reprG : List D → (D → Prop) → Prop
  | [d], P => Shw d ∧ P (.str (sh d))
  | _, _ => False
theorem cd_repr : CallD X (rRepr X.K) reprG := by
  intro C H vs ds P Q t j r g q
  cases r with
  | nil => exact False.elim g
  | cons h r =>
    cases r with
    | cons h2 r => exact False.elim g
    | nil => exact ⟨_, _, C.M, rfl, h, g.1, q _ _ H (stay t j) (.str _) g.2⟩
theorem ev_repr {p pos : Pos} {a : Expr} (hm : X.mg "repr" = none) (hG : X.A.guards = some []) (hu : X.A.units + 64 < cLine) (h : Ev X C Γ a fun d => Shw d ∧ P (.str (sh d))) (hg : Gl X "repr" := by rfl) (he : starEach [a] X.env = (false, eval a X.env) :: starEach [] X.env := by rfl) :
    Ev X C Γ (.Call (.Name "repr" p) [a] [] pos) P := ev_callB (call_repr hG hu) cd_repr hm (by decide +kernel) (ea_cons (h.imp fun _ z => ea_nil z) he) hg (by decide) (by decide) he rfl
end
/-! how long it may be -/
theorem len_listText (ts : List Str) : (listText ts).length ≤ piled ts + 2 := by
  have h : (listText ts).length = (textFrom 0 "[" ts).length + 1 := by
    show (textFrom 0 "[" ts ++ "]").length = _
    rw [strLen_append]; rfl
  rw [h]
  cases ts with
  | nil => decide +kernel
  | cons t r =>
    have e : textFrom 0 "[" (t :: r) = textFrom 1 (("[" : Str) ++ ("" : String) ++ t) r := rfl
    rw [e, textFrom_length_pos r 1 _ (by decide), strLen_append, strLen_append, piled_cons]
    have e1 : (("[" : String) : Str).length = 1 := rfl
    have e2 : (("" : String) : Str).length = 0 := rfl
    omega
mutual
def wtD : D → Nat
  | .int i => if 0 ≤ i ∧ i < 10 ^ 100 then 100 else (toString i : Str).length
  | .str s => 10 * s.length + 2
  | .lst ds => wtDs ds + 2
  | .tup ds => wtDs ds + 2
  | _ => 5
def wtDs : List D → Nat
  | [] => 0
  | d :: ds => wtD d + 2 + wtDs ds
end
mutual
/-- texts of signs that repr writes in at most ten -/
def inkD : D → Bool
  | .str s => s.cps.toList.all fun c => decide (c < 16 ^ 8)
  | .lst ds => inkDs ds
  | .tup ds => inkDs ds
  | _ => true
def inkDs : List D → Bool
  | [] => true
  | d :: ds => inkD d && inkDs ds
end
theorem sh_tuple_len (ts : List Str) : (tupleText ts).length ≤ piled ts + 2 := by
  have e3 : (((if ts.length == 1 then ",)" else ")" : String) : Str)).length ≤ 2 := by split <;> decide +kernel
  have e1 : ((("(" : String) : Str)).length = 1 := rfl
  unfold tupleText
  rw [strLen_append, strLen_append, e1]
  by_cases h : ts = []
  · subst h
    decide +kernel
  · have := join_length_add ts h
    omega
mutual
theorem sh_len : ∀ d : D, plainD d = true → inkD d = true → (sh d).length ≤ wtD d
  | .non, _, _ => by show (("None" : String) : Str).length ≤ _; simp only [wtD]; decide +kernel
  | .bl b, _, _ => by
    have e : sh (.bl b) = if b then (("True" : String) : Str) else (("False" : String) : Str) := by simp [sh, toPy, PyData.shown]
    rw [e]
    simp only [wtD]
    cases b <;> decide +kernel
  | .int i, _, _ => by
    have e : sh (.int i) = (toString i : String) := by simp [sh, toPy, PyData.shown]
    rw [e]
    simp only [wtD]
    split
    · rename_i h
      exact PyProof.Rows.toString_length_le h.1 (by decide) h.2
    · exact Nat.le_refl _
  | .str s, _, h => by
    have e : sh (.str s) = reprText s := by simp [sh, toPy, PyData.shown]
    rw [e]
    simp only [wtD]
    exact StrLaws.reprText_len s fun c hc => of_decide_eq_true (List.all_eq_true.mp (by simpa only [inkD] using h) c hc)
  | .lst ds, p, h => by
    have e : sh (.lst ds) = listText (PyData.shownAll (toPys ds)) := by simp [sh, toPy, PyData.shown]
    rw [e]
    have h1 := len_listText (PyData.shownAll (toPys ds))
    have h2 := shs_len ds (by simpa only [plainD] using p) (by simpa only [inkD] using h)
    simp only [wtD]
    omega
  | .tup ds, p, h => by
    have e : sh (.tup ds) = tupleText (PyData.shownAll (toPys ds)) := by simp [sh, toPy, PyData.shown]
    rw [e]
    have h1 := sh_tuple_len (PyData.shownAll (toPys ds))
    have h2 := shs_len ds (by simpa only [plainD] using p) (by simpa only [inkD] using h)
    simp only [wtD]
    omega
  | .dct _, p, _ => by simp [plainD] at p
  | .obj _ _, p, _ => by simp [plainD] at p
  | .adr _, p, _ => by simp [plainD] at p
  | .ty _, p, _ => by simp [plainD] at p
theorem shs_len : ∀ ds : List D, plainDs ds = true → inkDs ds = true → piled (PyData.shownAll (toPys ds)) ≤ wtDs ds
  | [], _, _ => by simp [toPys, PyData.shownAll, wtDs, piled]
  | d :: ds, p, h => by
    simp only [plainDs, Bool.and_eq_true] at p
    simp only [inkDs, Bool.and_eq_true] at h
    have h1 := sh_len d p.1 h.1
    have h2 := shs_len ds p.2 h.2
    have h1' : ((toPy d).shown).length ≤ wtD d := h1
    simp only [toPys, PyData.shownAll, piled_cons, wtDs]
    omega
end
end GG
set_option maxHeartbeats 4000000
/-! G9: x[::-1] of tuples, zip, len(set(texts)), displays of dicts, the bag that a law draws from. -/
namespace GG
open PySem PySem.Spec PyProof.Rows L2

/-! ### t[::-1] -/
section
variable {prog : Program} {w : World} {A : Around} {E : Value → Shared → Prop} {s : Shared}
theorem back_places (n : Nat) : Builtin.Slice.slicePlaces ((n : Int) - 1) (-1) (-1) = n := by
  unfold Builtin.Slice.slicePlaces
  rw [if_neg (by omega), Int.neg_neg, Int.ediv_one]
  split <;> omega
theorem fm_map {α β : Type} {f : α → Option β} {g : α → β} : ∀ l : List α, (∀ a ∈ l, f a = some (g a)) → l.filterMap f = l.map g
  | [], _ => rfl
  | a :: l, h => by rw [List.filterMap_cons_some (h a List.mem_cons_self), List.map_cons, fm_map l fun b hb => h b (List.mem_cons_of_mem _ hb)]
theorem back_pick (xs : Array Value) : ((List.range xs.size).filterMap fun (m : Nat) => xs[((xs.size : Int) - 1 + (m : Int) * (-1)).toNat]?) = xs.toList.reverse := by
  refine List.ext_getElem? fun i => ?_
  have key : ((List.range xs.size).filterMap fun (m : Nat) => xs[((xs.size : Int) - 1 + (m : Int) * (-1)).toNat]?) = (List.range xs.size).map fun m => xs.getD (xs.size - 1 - m) .none := by
    refine fm_map _ fun m hm => ?_
    have hm' := List.mem_range.mp hm
    have e : ((xs.size : Int) - 1 + (m : Int) * (-1)).toNat = xs.size - 1 - m := by omega
    rw [e]
    have hl : xs.size - 1 - m < xs.size := by omega
    rw [Array.getElem?_eq_getElem hl]
    simp [hl]
  rw [key, List.getElem?_map]
  by_cases h : i < xs.size
  · rw [List.getElem?_range h, List.getElem?_reverse (by simpa using h)]
    have hl : xs.size - 1 - i < xs.size := by omega
    simp [hl]
  · rw [List.getElem?_eq_none (by simpa using h), List.getElem?_eq_none (by simpa using h)] <;> rfl
theorem back_applied {sl : Addr} {vl vu vs : Value} {n : Nat} {Q : Int × Int × Nat → Shared → Prop} (hs : s.heap.IsSliceOf sl vl vu vs) (pl : IsPart vl none) (pu : IsPart vu none) (ps : IsPart vs (some (-1)))
    (h : Q ((n : Int) - 1, -1, n) s) : wpAny (model prog w) A (Builtin.Slice.sliceApplied (.ref sl) (pure (n : Int))) Q E s := by
  obtain ⟨os, hos, hcs, hds⟩ := id hs
  unfold Builtin.Slice.sliceApplied Builtin.Slice.sliceFields
  refine wpAny_bind (wpAny_bind (wpAny_field hos hds (x := vl) rfl (wpAny_bind (wpAny_field hos hds (x := vu) rfl (wpAny_bind (wpAny_field hos hds (x := vs) rfl (wpAny_pure ?_)))))))
  refine wpAny_bind (HT.slicePart_ ps ?_)
  show wpAny _ _ (if ((-1 : Int) == 0) = true then _ else _) _ _ s
  rw [if_neg (by decide)]
  refine wpAny_bind (HT.slicePart_ pl (wpAny_bind (HT.slicePart_ pu (wpAny_bind (wpAny_pure ?_)))))
  show wpAny _ _ (pure ((n : Int) - 1, (-1 : Int), Builtin.Slice.slicePlaces ((n : Int) - 1) (-1) (-1))) _ _ s
  rw [back_places]
  exact wpAny_pure h
theorem getItem_tuple_back {t sl : Addr} {items : Array Value} {vl vu vs : Value} {Q : Value → Shared → Prop} (ht : IsTup s.heap t items) (hs : s.heap.IsSliceOf sl vl vu vs) (pl : IsPart vl none) (pu : IsPart vu none) (ps : IsPart vs (some (-1)))
    (h : Q (.ref s.heap.objs.size) { s with heap := s.heap.push { cls := .type "tuple", data := .seq items.toList.reverse.toArray } })
    (hsz : items.size ≤ sizeLine) : wpAny (model prog w) A (getItem (.ref t) (.ref sl)) Q E s := by
  have hz : sizeOk (.seq items.toList.reverse.toArray) := by
    show items.toList.reverse.toArray.size ≤ sizeLine
    rw [List.size_toArray, List.length_reverse, Array.length_toList]
    exact hsz
  obtain ⟨os, hos, hcs, hds⟩ := id hs
  have hT : s.TypeIs (.ref sl) "slice" := ⟨os, hos, hcs⟩
  unfold getItem
  try with_reducible refine wpAny_holding ?_
  first | refine wpAny_bind (wpAny_pure ?_) | skip
  refine wpAny_bind (wpAny_sequenceKey ht.typeIs (by decide) ?_)
  refine wpAny_bind (wpAny_callSpecial?_slot (name := Str.ofString "__getitem__") ht.typeIs PyProof.Rows.slot_tuple_getitem
    (wpAny_call_entry PyProof.Rows.slot_tuple_getitem ht.typeIs entry_tuple_getitem ?_ (args_tuple_getitem _ _)))
  show wpAny _ _ (Builtin.Tuple.tupleItemsOf (.ref t) >>= _) _ _ s
  refine wpAny_bind (tupleItemsOf_ ht ?_)
  refine wpAny_bind (wpAny_typeOf hT ?_)
  rw [if_pos (by decide)]
  refine wpAny_bind (back_applied hs pl pu ps ?_)
  have hno : ¬ ((((items.size : Int) - 1) == 0 && (-1 : Int) == 1 && items.size == items.size) = true) := by
    intro q
    rw [Bool.and_eq_true, Bool.and_eq_true] at q
    exact absurd (eq_of_beq q.1.2) (by decide)
  show wpAny _ _ (if (((items.size : Int) - 1) == 0 && (-1 : Int) == 1 && items.size == items.size) = true then _ else _) _ _ s
  rw [if_neg hno]
  show wpAny _ _ (Builtin.Tuple.tupleExact ((List.range items.size).filterMap fun (m : Nat) => items[((items.size : Int) - 1 + (m : Int) * (-1)).toNat]?).toArray >>= _) _ _ s
  rw [back_pick]
  first
    | exact wpAny_bind (m := Builtin.Tuple.tupleExact _) (wpAny_newObj_type (wpAny_pure ⟨_, rfl, wpAny_pure h⟩) hz)
    | exact wpAny_bind (m := Builtin.Tuple.tupleExact _) (wpAny_newObj_type (wpAny_bind (wpAny_pure (wpAny_pure ⟨_, rfl, wpAny_pure h⟩))) hz)
    | exact wpAny_bind (wpAny_bind (m := Builtin.Tuple.tupleExact _) (wpAny_newObj_type (wpAny_pure (wpAny_pure ⟨_, rfl, wpAny_pure h⟩)) hz))
    | exact wpAny_bind (wpAny_bind (m := Builtin.Tuple.tupleExact _) (wpAny_newObj_type (wpAny_pure ⟨_, rfl, wpAny_pure h⟩) hz))
end
section
variable {X : Cx} {C : SJ} {Γ : En} {P : D → Prop}
def tRevT (K : PySem.W.Frag) (te : TE) : TE := fun σ H Q => te σ H fun x H1 => ∃ a xs, x = .ref a ∧ SqT K H1 a xs ∧ ∀ p, H1 p = none → Q (.ref p) (upd H1 p (.tup xs.reverse))
theorem pe_revT {e : Expr} {te : TE} {k : Nat} {p1 p2 p3 pos : Pos} (he : PE X e te) : PE X (.Subscript e (.Slice none none (some (.UnaryOp .USub (.Constant (.int 1) k p1) p2)) p3) pos) (tRevT X.K te) := by
  refine ⟨fun pins s σ H Q I h => ?_⟩
  refine Subscript_ (thn (he.run pins s σ H _ I h) fun v s1 ⟨x, H1, I1, r1, q1⟩ => ?_)
  obtain ⟨a, xs, ex, hx, q⟩ := q1
  subst ex
  cases r1
  have hst : PO X (some (.UnaryOp .USub (.Constant (.int 1) k p1) p2)) (tPart (tUn (rU fun i => .int (-i)) (tC (.int 1)))) := po_some (pe_un un_neg pe_int)
  refine wpAny_Slice (thn (po_none.run pins s1 σ H1 (fun o H2 => o = none ∧ H2 = H1) I1 ⟨rfl, rfl⟩) fun vl s2 ⟨l, H2, I2, pl, el, e2⟩ => ?_)
  subst el e2
  refine thn (po_none.run pins s2 σ H2 (fun o H3 => o = none ∧ H3 = H2) I2 ⟨rfl, rfl⟩) fun vu s3 ⟨u, H3, I3, pu, eu, e3⟩ => ?_
  subst eu e3
  refine thn (hst.run pins s3 σ H3 (fun o H4 => o = some (-1) ∧ H4 = H3) I3 ⟨1, rfl, -1, rfl, rfl, rfl⟩) fun vs s4 ⟨o, H4, I4, ps, eo, e4⟩ => ?_
  subst eo e4
  have I5 : Inv X pins σ H4 { s4 with heap := s4.heap.push { cls := .type "slice", data := .fields #[vl, vu, vs] } } := I4.kept (t' := s4.toks) fun b ob q => Heap.get?_push_of_some _ q
  obtain ⟨its, r, ht, hz⟩ := I5.tuple hx
  have hlen := r.length
  show wpAny (model X.prog X.w) X.A (subscriptTail e (.Slice none none (some (.UnaryOp .USub (.Constant (.int 1) k p1) p2)) p3) (.ref a) (.ref s4.heap.objs.size)) (EP X pins σ Q) X.xe { s4 with heap := s4.heap.push { cls := .type "slice", data := .fields #[vl, vu, vs] } }
  refine tail_any (ops := [.ref a, .ref s4.heap.objs.size]) ht.typeIs (PyProof.Rows.slot_tuple_getitem.lookup) ?_ (by with_unfolding_all rfl)
  refine getItem_tuple_back ht (Heap.IsSliceOf.new _ vl vu vs) pl pu ps ?_ (by rw [List.size_toArray]; omega)
  refine ⟨.ref _, _, I5.laid (t' := s4.toks) (o := .tup xs.reverse) (fun b ob q => Heap.get?_push_of_some _ q) (Nat.le_refl _) ?_, rfl, q _ (I5.hok.fresh (Nat.le_refl _))⟩
  exact ⟨by rw [List.length_reverse]; exact hz, _, r.reverse, IsTup.new _ _⟩
theorem ev_revT {e : Expr} {k : Nat} {p1 p2 p3 pos : Pos} (h : Ev X C Γ e fun d => ∃ ds, d = .tup ds ∧ P (.tup ds.reverse)) : Ev X C Γ (.Subscript e (.Slice none none (some (.UnaryOp .USub (.Constant (.int 1) k p1) p2)) p3) pos) P := fun σ H g Q q =>
  we_of (pe_revT pe_we) (h σ H g _ fun v d H1 s1 r1 ⟨ds, ed, p⟩ => by
    subst ed
    cases r1 with
    | tup hq r => exact ⟨_, _, rfl, sub_sqT hq, fun a ha => q _ _ _ (s1.trans (st_new s1.trk s1.j ha)) (.tup (.of (cut_new s1.trk ha)) (r.reverse.mono (cut_same (same_new ha)))) p⟩)
theorem ev_revL {e : Expr} {k : Nat} {p1 p2 p3 pos : Pos} (h : Ev X C Γ e fun d => ∃ ds, d = .lst ds ∧ P (.lst ds.reverse)) : Ev X C Γ (.Subscript e (.Slice none none (some (.UnaryOp .USub (.Constant (.int 1) k p1) p2)) p3) pos) P := fun σ H g Q q =>
  we_of (pe_revL pe_we) (h σ H g _ fun v d H1 s1 r1 ⟨ds, ed, p⟩ => by
    subst ed
    cases r1 with
    | lst hq r => exact ⟨_, _, rfl, sub_sqL hq, fun a ha => q _ _ _ (s1.trans (st_new s1.trk s1.j ha)) (.lst (.of (cut_new s1.trk ha)) (r.reverse.mono (cut_same (same_new ha)))) p⟩)

/-! ### zip -/
theorem zip_get {ds es : List D} {i : Nat} {d : D} (h : (zipD ds es)[i]? = some d) : i < ds.length ∧ i < es.length := by
  obtain ⟨a, b, h1, h2, _⟩ := zipD_at h
  exact ⟨(List.getElem?_eq_some_iff.mp h1).1, (List.getElem?_eq_some_iff.mp h2).1⟩
theorem src_zipL {K : PySem.W.Frag} {S : Hp} {a b : Addr} {xs ys : List V} {ds es : List D} (hq : SqL K S a xs) (r : DDs K S xs ds) (hq2 : SqL K S b ys) (r2 : DDs K S ys es) : SrcOk K S (Itz K a b) (zipD ds es) := fun M H t e =>
  ⟨fun i d hd => by
    obtain ⟨f, f2, hf, hf2, ed⟩ := zipD_at hd
    subst ed
    obtain ⟨v, hv, hvd⟩ := r.get hf
    obtain ⟨v2, hv2, hvd2⟩ := r2.get hf2
    exact ⟨⟨xs, ys, v, v2, sub_sqL (e.seq hq), sub_sqL (e.seq hq2), hv, hv2⟩, fun x H' ⟨T, y, z, ex, hT, eH, k, k2⟩ => by
      subst ex eH
      have z1 := k xs (sub_sqL (e.seq hq))
      have z2 := k2 ys (sub_sqL (e.seq hq2))
      rw [hv] at z1
      rw [hv2] at z2
      cases z1
      cases z2
      exact ⟨same_new hT, dd_pair t hT (hvd.mono e) (hvd2.mono e)⟩⟩, fun i hi => ⟨xs, ys, sub_sqL (e.seq hq), sub_sqL (e.seq hq2), by rw [r.len, r2.len]; rw [zipD_len] at hi; omega⟩⟩
theorem src_zipT {K : PySem.W.Frag} {S : Hp} {a b : Addr} {xs ys : List V} {ds es : List D} (hq : SqT K S a xs) (r : DDs K S xs ds) (hq2 : SqT K S b ys) (r2 : DDs K S ys es) : SrcOk K S (RZ.ItzT K a b) (zipD ds es) := fun M H t e =>
  ⟨fun i d hd => by
    obtain ⟨f, f2, hf, hf2, ed⟩ := zipD_at hd
    subst ed
    obtain ⟨v, hv, hvd⟩ := r.get hf
    obtain ⟨v2, hv2, hvd2⟩ := r2.get hf2
    exact ⟨⟨xs, ys, v, v2, sub_sqT (same_sqT e hq), sub_sqT (same_sqT e hq2), hv, hv2⟩, fun x H' ⟨T, y, z, ex, hT, eH, k, k2⟩ => by
      subst ex eH
      have z1 := k xs (sub_sqT (same_sqT e hq))
      have z2 := k2 ys (sub_sqT (same_sqT e hq2))
      rw [hv] at z1
      rw [hv2] at z2
      cases z1
      cases z2
      exact ⟨same_new hT, dd_pair t hT (hvd.mono e) (hvd2.mono e)⟩⟩, fun i hi => ⟨xs, ys, sub_sqT (same_sqT e hq), sub_sqT (same_sqT e hq2), by rw [r.len, r2.len]; rw [zipD_len] at hi; omega⟩⟩
def zipG : List D → (List D → Prop) → Prop
  | [.lst ds, .lst es], P => P (zipD ds es)
  | [.tup ds, .tup es], P => P (zipD ds es)
  | _, _ => False
theorem ei_zip {P : List D → Prop} {a b : Expr} {p pos tpos : Pos} {elts : List Expr} {kk : Nat} (hm : X.mg "zip" = none) (h : EvA X C Γ [a, b] fun ds => zipG ds P) (hg : Gl X "zip" := by rfl)
    (hs : starEach [a, b] X.env = (false, eval a X.env) :: starEach [b] X.env := by rfl) (hpl : (backTo pos (starEach [b] X.env)).any (·.1) = false := by rfl) :
    EvI X C Γ (.Tuple elts kk tpos) (.Call (.Name "zip" p) [a, b] [] pos) P := fun σ H g R q => ⟨_, RZ.pi_zipA hg hm pa_wa hs hpl, h σ H g _ fun vs ds H1 s1 r1 hG => by
  cases r1 with
  | nil => exact False.elim hG
  | cons h1 r =>
    cases r with
    | nil => cases h1 <;> exact False.elim hG
    | cons h2 r =>
      cases r with
      | cons h3 r => cases h1 <;> cases h2 <;> exact False.elim hG
      | nil =>
        cases h1 <;> cases h2 <;> try exact False.elim hG
        · rename_i a xs ds hq r b ys es hq2 r2
          exact ⟨a, b, xs, ys, rfl, .inl ⟨sub_sqL hq, sub_sqL hq2, q _ _ H1 s1 (src_zipL hq r hq2 r2) hG⟩⟩
        · rename_i a xs ds hq r b ys es hq2 r2
          exact ⟨a, b, xs, ys, rfl, .inr ⟨sub_sqT hq, sub_sqT hq2, q _ _ H1 s1 (src_zipT hq r hq2 r2) hG⟩⟩⟩
end
end GG
set_option maxHeartbeats 4000000
/-! G10: len(set(texts)). -/
namespace GG
open PySem PySem.Spec PyProof.Rows L2

/-- the texts met so far, each once -/
def stepS (m : List Str) (v : Str) : List Str := if m.any (· == v) then m else m ++ [v]
def metS (xs : List Str) (i : Nat) : List Str := (xs.take i).foldl stepS []
theorem metS_succ {xs : List Str} {i : Nat} (h : i < xs.length) : metS xs (i + 1) = stepS (metS xs i) (xs.getD i Str.empty) := by
  unfold metS
  rw [List.take_succ_eq_append_getElem h, List.foldl_append]
  simp [List.getD, h]
theorem metS_le (xs : List Str) : ∀ i, i ≤ xs.length → (metS xs i).length ≤ i
  | 0, _ => by simp [metS]
  | i + 1, h => by
    rw [metS_succ (by omega)]
    have ih := metS_le xs i (by omega)
    unfold stepS
    split
    · omega
    · rw [List.length_append, List.length_singleton]; omega
theorem stepS_any (m : List Str) (v k : Str) : (stepS m v).any (· == k) = (m.any (· == k) || decide (k = v)) := by
  unfold stepS
  by_cases h : m.any (· == v) = true
  · rw [if_pos h]
    by_cases e : k = v
    · rw [e, h, Bool.true_or]
    · rw [decide_eq_false e, Bool.or_false]
  · rw [if_neg h, List.any_append, List.any_cons, List.any_nil, Bool.or_false]
    congr 1
    rw [Bool.eq_iff_iff, beq_iff_eq, decide_eq_true_eq]
    exact eq_comm
theorem stepS_length (m : List Str) (v : Str) : (stepS m v).length = if m.any (· == v) then m.length else m.length + 1 := by
  unfold stepS
  split <;> simp

section
variable {prog : Program} {w : World} {A : Around} {R : Result → Shared → Prop} {I : Addr} {fp wr : List Addr} {G : Array GenState → Array GenState → Prop} {n : Nat} {P : Nat → Value → Prop} {St : Nat → Shared → Prop}
/-- texts put into a set, one after the other -/
theorem loopMet (W : WalksS prog w A.in1 I fp wr G n P St) (S : Addr) (hSf : S ∉ fp) (xs : List Str) (hsz : xs.length = n) (hb : n + 1 < scanBound)
    (hval : ∀ i v, P i v → ∃ t, v = .str (xs.getD i Str.empty) t) :
    ∀ (k i : Nat) (s : Shared), n - i = k → i ≤ n → St i s → s.heap.SetOf (PySem.strKind prog w) S (fun k' => (metS xs i).any (· == k')) (metS xs i).length →
      (∀ s', Moved (S :: wr) G s s' → s'.heap.SetOf (PySem.strKind prog w) S (fun k' => (metS xs n).any (· == k')) (metS xs n).length → R (.ok (.ret .none)) s') →
      codeAny (model prog w) A (.builtin "set.update.loop" ⟨[.ref S, .ref I], []⟩) R s := by
  have notW : S ∉ wr := fun h => hSf (W.sub _ h)
  have more : ∀ b ∈ wr, b ∈ S :: wr := fun b h => List.mem_cons_of_mem _ h
  intro k
  induction k with
  | zero =>
    intro i s hk hi hst hS hR
    obtain rfl : i = n := by omega
    refine codeAny_builtin PyProof.Rows.F.entry_set_update_loop ?_
    rw [Around.under_plainId PyProof.Rows.F.plain_set_update_loop _]
    show wpAny _ A.in1 (pyNext (.ref I) >>= _) _ _ s
    refine wpAny_bind (W.done s _ _ hst fun s' hm => ?_)
    show wpAny _ A.in1 (ret Value.none) _ _ s'
    obtain ⟨o, es, ep, t, ho, rest⟩ := hS
    exact wpAny_pure (hR s' (hm.mono more) ⟨o, es, ep, t, hm.heap S _ notW ho, rest⟩)
  | succ k ih =>
    intro i s hk hi hst hS hR
    have hlt : i < n := by omega
    have hxl : i < xs.length := by omega
    refine codeAny_builtin PyProof.Rows.F.entry_set_update_loop ?_
    rw [Around.under_plainId PyProof.Rows.F.plain_set_update_loop _]
    show wpAny _ A.in1 (pyNext (.ref I) >>= _) _ _ s
    refine wpAny_bind (W.item i s _ _ hlt hst fun v s' hP hst' hm => ?_)
    obtain ⟨t, rfl⟩ := hval i v hP
    have hS' : s'.heap.SetOf (PySem.strKind prog w) S (fun k' => (metS xs i).any (· == k')) (metS xs i).length := by
      obtain ⟨o, es, ep, tb, ho, rest⟩ := hS
      exact ⟨o, es, ep, tb, hm.heap S _ notW ho, rest⟩
    show wpAny _ A.in1 (holding [Value.str (xs.getD i Str.empty) t] (setAdd S (.str (xs.getD i Str.empty) t)) >>= _) _ _ s'
    refine wpAny_bind (wpAny_holding ?_)
    unfold setAdd
    refine wpAny_holding (wpAny_bind ((PySem.strKind prog w).pyHash (k := xs.getD i Str.empty) (strKind_is _ _ _ _) ?_))
    have room : (metS xs i).length + 1 < scanBound := by have := metS_le xs i (by omega); omega
    refine wpAny_setAddHashed_of (knd := PySem.strKind prog w) (s := { s' with toks := s'.toks + 1 }) (strKind_is _ _ _ _) rfl hS' room fun h' hsb hS2 => ?_
    have hSi : h'.SetOf (PySem.strKind prog w) S (fun k' => (metS xs (i + 1)).any (· == k')) (metS xs (i + 1)).length :=
      SetOf_congr hS2 (fun k' => by rw [metS_succ hxl, stepS_any]) (by rw [metS_succ hxl, stepS_length])
    refine wpAny_pure ⟨plainId_quiet PyProof.Rows.F.plain_set_update_loop _, ih (i + 1) _ (by omega) hlt (W.frame _ s' _ _ hst' (Nat.le_succ _) fun b hb o e => ?_) hSi fun s'' hm'' hS'' => ?_⟩
    · exact (hsb.2 b fun z : b = S => hSf (z ▸ hb)).trans e
    · exact hR s'' (Moved.trans W.gtrans ((hm.mono more).then_heap (Nat.le_succ _) fun b o hb e => (hsb.2 b fun z : b = S => hb (by rw [z]; exact List.mem_cons_self)).trans e) hm'') hS''
end
section
variable {prog : Program} {w : World} {A : Around} {E : Value → Shared → Prop} {s : Shared}
theorem set_of_tup {l : Addr} {items : Array Value} {xs : List Str} {Q : Value → Shared → Prop}
    (hh : A.handled = none) (hl : s.heap.IsTuple l items) (hi : PyProof.Rows.StrsAre items.toList xs) (hb : xs.length + 1 < scanBound)
    (h : ∀ (h' : Heap) (tk : Nat), h'.SetOf (PySem.strKind prog w) s.heap.objs.size (fun k' => (metS xs items.size).any (· == k')) (metS xs items.size).length →
      (∀ b o, b < s.heap.objs.size → s.heap.get? b = some o → h'.get? b = some o) → Q (.ref s.heap.objs.size) { s with heap := h', toks := tk }) :
    wpAny (model prog w) A (call (.type "set") [.ref l]) Q E s := by
  obtain ⟨c, tl, hmro⟩ := PySem.F.called_set.mro
  have hmade := PySem.F.called_set.made
  have hsub := PySem.F.called_set.sub
  refine wpAny_call (codeAny_of_tree ?_)
  show wpAny _ _ (callAny (.type "set") _) _ _ _
  refine wpAny_pure ⟨Code.quiet_builtin _ (by decide +kernel), codeAny_builtin PySem.F.entry_type_call ?_⟩
  rw [Around.under_plain (weight_type_call_type "set" [.ref l] []) rfl]
  have h1 := PySem.F.called_set.notType
  have h2 := PySem.F.called_set.canCreate
  have hct := PySem.F.typeCall_set_1 (.ref l)
  repeat (any_goals (first | assumption | wp_step))

  refine codeAny_mono (code_set_new_1 (.ref l) (E := E) (Q₁ := fun obj s₁ => ∃ led : Bool, obj = .ref s.heap.objs.size ∧ s₁ = { s with heap := s.heap.push { cls := .type "set", dict := none, data := .set #[] 0 (.fresh 0 0 led) } }) fun led => ⟨led, rfl, rfl⟩) fun r s₁ hr => ?_
  cases r with
  | error e => exact hr
  | ok fl =>
    cases fl with
    | ret obj =>
      obtain ⟨led, rfl, rfl⟩ := hr
      have hS : (s.heap.push { cls := .type "set", dict := none, data := .set #[] 0 (.fresh 0 0 led) }).get? s.heap.objs.size = some { cls := .type "set", dict := none, data := .set #[] 0 (.fresh 0 0 led) } := Heap.get?_push_size _ rfl
      have hT : Shared.TypeIs { s with heap := s.heap.push { cls := .type "set", dict := none, data := .set #[] 0 (.fresh 0 0 led) } } (.ref s.heap.objs.size) "set" := ⟨_, hS, rfl⟩
      have hli := PySem.F.called_set.init.lookup
      have hbi := PySem.F.called_set.init.bind (.ref s.heap.objs.size)
      repeat (any_goals (first | assumption | wp_step))

      refine codeAny_mono (codeAny_call_builtin (R := wants (fun r s₂ => r = .none ∧ ∃ h' tk, s₂ = { s with heap := h', toks := tk } ∧
          h'.SetOf (PySem.strKind prog w) s.heap.objs.size (fun k' => (metS xs items.size).any (· == k')) (metS xs items.size).length ∧
          (∀ b o, b < s.heap.objs.size → s.heap.get? b = some o → h'.get? b = some o)) E) PySem.F.called_set.init.plain PySem.F.entry_set_init (check_set_init_1 hT ?_)) fun r₂ s₂ hr₂ => ?_
      · obtain ⟨ol, hol, hcl, nl, hdl⟩ := hl
        obtain ⟨ocls, odict, odata, oslots⟩ := ol
        simp only at hcl hdl
        subst hcl; subst hdl
        have hol' : (s.heap.push { cls := .type "set", dict := none, data := .set #[] 0 (.fresh 0 0 led) }).get? l = some { cls := .type "tuple", dict := odict, data := .seq items nl, slots := oslots } := Heap.get?_push_of_some _ hol
        have hsls := PySem.F.sub_tuple_set
        have hslf := PySem.F.sub_tuple_frozenset
        have hne : (Value.type "tuple" == Value.type "dict") = false := by decide
        have hl1 : (s.heap.push { cls := .type "set", dict := none, data := .set #[] 0 (.fresh 0 0 led) }).IsTuple l items := ⟨_, hol', rfl, nl, rfl⟩
        unfold Builtin.«set.__init__» noKeywords Builtin.Frozenset.updateFrom
        generalize hPI : pyIter = PI
        wp_walk
        subst hPI

        refine wpAny_pyIter_tuple hl1 ?_
        refine wpAny_bind (wpAny_runValue ?_)
        have hlS : l < s.heap.objs.size := Heap.lt_size hol
        have hh3 : A.in1.in1.in1.handled = none := by simp [hh]
        have hneI : l ≠ (s.heap.push { cls := .type "set", dict := none, data := .set #[] 0 (.fresh 0 0 led) }).objs.size := by
          rw [Heap.size_push]; exact Nat.ne_of_lt (Nat.lt_succ_of_lt hlS)
        have hSf : s.heap.objs.size ∉ [(s.heap.push { cls := .type "set", dict := none, data := .set #[] 0 (.fresh 0 0 led) }).objs.size, l] := by
          rw [Heap.size_push]; simp only [List.mem_cons, List.mem_singleton, List.not_mem_nil, or_false, not_or]
          exact ⟨Nat.ne_of_lt (Nat.lt_succ_self _), Nat.ne_of_gt hlS⟩
        have hsz : xs.length = items.size := by rw [← StrsAre.len_eq hi, Array.length_toList]
        have hval : ∀ (i : Nat) (v : Value), items[i]? = some v → ∃ t, v = .str (xs.getD i Str.empty) t := fun i v hv => SS.strs_at hi i v (by rw [Array.getElem?_toList]; exact hv)
        refine loopMet ((Walks.tuple hh3 _ l hneI items).toS) s.heap.objs.size
          hSf xs hsz (by rw [← hsz]; exact hb) hval (items.size - 0) 0 _ (by omega) (Nat.zero_le _)
          ⟨⟨_, Heap.get?_push_size _ rfl, rfl, rfl⟩, (hl1.push _)⟩ ?hS0 ?hR
        case hS0 =>
          have hget : ((s.heap.push { cls := .type "set", dict := none, data := .set #[] 0 (.fresh 0 0 led) }).push { cls := .type "tuple_iterator", data := .fields #[.ref l, .int 0 0] }).get? s.heap.objs.size
              = some { cls := .type "set", dict := none, data := .set #[] 0 (.fresh 0 0 led) } := Heap.get?_push_of_some _ hS
          exact PyProof.Rows.SetOf_congr ((PyProof.Rows.setObjOf_fresh (knd := PySem.strKind prog w) led).setOf hget (by unfold scanBound; omega)) (fun _ => rfl) rfl
        case hR =>
          intro s' hm hS'
          obtain ⟨h', g', d', tk', os'⟩ := s'
          have eg : g' = s.gens := hm.gens
          have ed : d' = s.drawn := hm.drawn
          have eo : os' = s.os := hm.os
          subst eg; subst ed; subst eo
          show wpAny _ _ _ _ _ _
          refine wpAny_pure ?_
          show wpAny _ _ (ret Value.none) _ _ _
          refine wpAny_pure ⟨rfl, h', tk', rfl, hS', fun b o hb e => ?_⟩
          have hb1 : b ≠ s.heap.objs.size := Nat.ne_of_lt hb
          have hb2 : b ≠ (s.heap.push { cls := .type "set", dict := none, data := .set #[] 0 (.fresh 0 0 led) }).objs.size := by
            rw [Heap.size_push]; exact Nat.ne_of_lt (Nat.lt_succ_of_lt hb)
          exact hm.heap b o (by simp only [List.mem_cons, List.mem_singleton, List.not_mem_nil, or_false, not_or]; exact ⟨hb1, hb2⟩) (Heap.get?_push_of_some _ (Heap.get?_push_of_some _ e))

      · cases r₂ with
        | error e => exact hr₂
        | ok fl₂ =>
          cases fl₂ with
          | ret r =>
            obtain ⟨rfl, h', tk, rfl, hS', hk'⟩ := hr₂
            repeat (any_goals (first | assumption | wp_step))
            exact h _ _ hS' hk'
          | _ => exact hr₂.elim
    | _ => exact hr.elim

end
section
variable {X : Cx} {C : SJ} {Γ : En} {P : D → Prop}
/-- len(set(a tuple of texts)) -/
def tLenSetT (K : PySem.W.Frag) (ta : TE) : TE := fun σ H Q => ta σ H fun x H1 => ∃ l, ∃ xs : List Str, x = .ref l ∧ SqT K H1 l (xs.map V.str) ∧ xs.length < 64 ∧ Q (.int (metS xs xs.length).length) H1
theorem pe_lenSetT {a : Expr} {ta : TE} {p p2 q pos : Pos} (hc : X.calm = true) (hg : Gl X "len") (hm : X.mg "len" = none) (hg2 : Gl X "set") (hm2 : X.mg "set" = none) (ha : PE X a ta)
    (na : starEach [a] X.env = (false, eval a X.env) :: starEach [] X.env := by rfl) : PE X (.Call (.Name "len" p) [.Call (.Name "set" p2) [a] [] q] [] pos) (tLenSetT X.K ta) := by
  refine ⟨fun pins s σ H Q I h => ?_⟩
  refine Call_ (ld_blt I hg hm boot_len (PyProof.Rows.callWith_builtin1 (PyProof.Rows.args_cons ?_ rfl) rfl rfl))
  refine Call_ (ld_blt I hg2 hm2 boot_set (PyProof.Rows.callWith_type1 (PyProof.Rows.args_cons (thn (ha.run pins s σ H _ I h) fun v s1 ⟨x, H1, I1, r1, q1⟩ => PyProof.Rows.args_nil ?_) na) na rfl))
  obtain ⟨l, xs, rfl, hq, h64, q1⟩ := q1
  cases r1
  obtain ⟨its, r, pl, hz⟩ := I1.tuple hq
  have hl : its.toArray.size = xs.length := by rw [List.size_toArray, ← r.length, List.length_map]
  have hsb : 64 < scanBound := by unfold scanBound; omega
  refine set_of_tup (I1.ok.hd hc) pl (by simpa using strsAre_of r) (by omega) fun h' tk hS hk => PyProof.Rows.args_nil ?_
  rw [hl] at hS
  have hle := metS_le xs xs.length (Nat.le_refl _)
  obtain ⟨o, es, ep, t, ho, hex, hd, _, _, _, hf, hn⟩ := hS
  have I2 : Inv X pins σ H1 { s1 with heap := h', toks := tk } := I1.kept fun b o e => hk b o (Heap.lt_size e) e
  refine call_len_set ho hex hd hf (by rw [hn] <;> omega) ⟨.int (metS xs xs.length).length, H1, I2.tok _, ⟨_, by rw [hn]⟩, q1⟩
theorem ev_lenSet {a : Expr} {p p2 q pos : Pos} (hm : X.mg "len" = none) (hm2 : X.mg "set" = none) (h : Ev X C Γ a fun d => ∃ xs : List Str, d = .tup (xs.map D.str) ∧ xs.length < 64 ∧ P (.int (metS xs xs.length).length)) (hg : Gl X "len" := by rfl) (hg2 : Gl X "set" := by rfl) (hc : X.calm = true := by rfl)
    (na : starEach [a] X.env = (false, eval a X.env) :: starEach [] X.env := by rfl) : Ev X C Γ (.Call (.Name "len" p) [.Call (.Name "set" p2) [a] [] q] [] pos) P := fun σ H g Q q' =>
  we_of (pe_lenSetT hc hg hm hg2 hm2 pe_we na) (h σ H g _ fun v d H1 s1 r1 ⟨xs, ed, h64, p⟩ => by
    subst ed
    cases r1 with
    | tup hq r =>
      rw [dds_strs r] at hq
      exact ⟨_, xs, rfl, sub_sqT hq, h64, q' _ _ H1 s1 (.int _) p⟩)
end
theorem stepS_nodup {m : List Str} {v : Str} (h : m.Nodup) : (stepS m v).Nodup := by
  unfold stepS
  split
  · exact h
  · rename_i hn
    rw [List.nodup_append]
    refine ⟨h, List.nodup_cons.mpr ⟨List.not_mem_nil, List.nodup_nil⟩, fun a ha b hb => ?_⟩
    rw [List.mem_singleton] at hb
    subst hb
    intro e
    subst e
    exact hn (List.any_eq_true.mpr ⟨_, ha, beq_self_eq_true _⟩)
/-- as many as they are: each is there once -/
theorem metS_full {xs : List Str} : (metS xs xs.length).length = xs.length ↔ xs.Nodup := by
  have key : ∀ (r l : List Str), l.Nodup → ((r.foldl stepS l).length ≤ l.length + r.length) ∧ ((r.foldl stepS l).length = l.length + r.length ↔ (l ++ r).Nodup) := by
    intro r
    induction r with
    | nil => intro l h; simp [h]
    | cons v r ih =>
      intro l h
      obtain ⟨h1, h2⟩ := ih (stepS l v) (stepS_nodup h)
      rw [List.foldl_cons]
      have hl := stepS_length l v
      by_cases hv : l.any (· == v) = true
      · rw [if_pos hv] at hl
        have hm : v ∈ l := by
          obtain ⟨w, hw, e⟩ := List.any_eq_true.mp hv
          rw [← eq_of_beq e]; exact hw
        refine ⟨by rw [List.length_cons]; omega, ⟨fun e => by rw [List.length_cons] at e; omega, fun nd => ?_⟩⟩
        exact absurd rfl ((List.nodup_append.mp nd).2.2 v hm v List.mem_cons_self)
      · rw [if_neg hv] at hl
        have e : stepS l v = l ++ [v] := by unfold stepS; rw [if_neg hv]
        refine ⟨by rw [List.length_cons]; omega, ?_⟩
        rw [List.length_cons, show l.length + (r.length + 1) = (stepS l v).length + r.length by omega, h2, e, List.append_assoc]
        rfl
  have := (key xs [] List.nodup_nil).2
  unfold metS
  rw [List.take_length]
  simpa using this
end GG
set_option maxHeartbeats 4000000
/-! G11: displays of dicts, the bag that a law draws from, weakening. -/
namespace GG
open PySem PySem.Spec PyProof.Rows L2

section
variable {X : Cx} {C : SJ} {Γ : En} {P : D → Prop}
/-! ### {}, {k: v} -/
theorem ev_d0 {pos : Pos} (p : P (.dct [])) : Ev X C Γ (.Dict [] [] pos) P := fun σ H g Q q =>
  we_of pe_dnewK fun a ha => q _ _ _ (st_new g.trk g.j ha) (.dct (cut_new g.trk ha) .nil) p
theorem upd_twice {H : Hp} {a : Addr} {x y : HO} : upd (upd H a x) a y = upd H a y := by
  funext b
  by_cases e : b = a
  · subst e; rw [upd_same, upd_same]
  · rw [upd_ne e, upd_ne e, upd_ne e]
/-- {'x': i} -/
theorem ev_d1si {x : Str} {i : Int} {j k : Nat} {p1 p2 pos : Pos} (p : P (.dct [(.inr x, .int i)])) : Ev X C Γ (.Dict [some (.Constant (.str x) j p1)] [.Constant (.int i) k p2] pos) P := fun σ H g Q q =>
  we_of (pe_disp (pps_cons pe_str pe_int pps_nil) rfl rfl (by simp) (show 1 ≤ 15 by decide)) fun a ha =>
    ⟨upd_same, [(.inr x, .int i)], rfl, (show 1 ≤ 15 by decide), by
      rw [upd_twice]
      exact q _ _ _ (st_new g.trk g.j ha) (.dct (cut_new g.trk ha) (.cons (.int i) .nil)) p⟩

/-! ### less is known -/
def Le (Γ' Γ : En) : Prop := Γ'.length = Γ.length ∧ ∀ (i : Nat) (d : D), Γ'[i]? = some (some d) → Γ[i]? = some (some d)
theorem Le.refl {Γ : En} : Le Γ Γ := ⟨rfl, fun _ _ h => h⟩
theorem Good.weak {K : PySem.W.Frag} {σ : L2.St} {H : Hp} {Γ' : En} (l : Le Γ' Γ) (g : Good C K σ H Γ) : Good C K σ H Γ' := ⟨g.len.trans l.1.symm, g.trk, g.j, fun i d e => g.bnd i d (l.2 i d e)⟩
theorem bl_weak {Γ' : En} {sts : List Stmt} {O : Out} (l : Le Γ' Γ) (h : Bl X C Γ' sts O) : Bl X C Γ sts O := fun σ H g E b => h σ H (g.weak l) E b

/-! ### a bag: the list of two ints that a law draws from -/
def bagJ (b : Addr) (H : Hp) : Prop := ∃ g m : Int, H b = some (.lst [.int g, .int m]) ∧ 0 ≤ g ∧ 0 ≤ m ∧ m < 2 ^ 32
structure HasBag (C : SJ) (b : Addr) : Prop where
  mem : b ∈ C.M
  get : ∀ S H, C.J S H → bagJ b H
  set : ∀ S H (g m : Int), C.J S H → 0 ≤ g → 0 ≤ m → m < 2 ^ 32 → C.J S (upd H b (.lst [.int g, .int m]))
theorem HasBag.own {K : PySem.W.Frag} {b : Addr} (h : HasBag C b) {ps : List Addr} {as : List (List D)} : HasBag (own K C ps as) b :=
  ⟨List.mem_append_right _ h.mem, fun S H j => h.get S H j.1, fun S H g m ⟨j1, j2, j3⟩ hg hm hm2 => ⟨h.set S H g m j1 hg hm hm2, j2, fun i p a hp ha => by
    obtain ⟨xs, q1, q2⟩ := j3 i p a hp ha
    exact ⟨xs, (upd_ne fun e : p = b => j2.2 p (List.mem_of_getElem? hp) (by rw [e]; exact h.mem)).trans q1, q2⟩⟩⟩
theorem HasBag.upd {b : Addr} (h : HasBag C b) {H : Hp} {g m : Int} (t : Trk C.M H) (j : C.J (cut C.M H) H) (hg : 0 ≤ g) (hm : 0 ≤ m) (hm2 : m < 2 ^ 32) : Step C H (upd H b (.lst [.int g, .int m])) := by
  have e : cut C.M (L2.upd H b (.lst [.int g, .int m])) = cut C.M H := cut_same_upd h.mem
  refine ⟨by rw [e]; exact Same.refl _, fun a ha => ?_, by rw [e]; exact h.set _ _ g m j hg hm hm2⟩
  by_cases z : a = b
  · subst z; rw [upd_same]; exact fun z => by cases z
  · rw [upd_ne z]; exact t a ha
/-- C with a bag of its own -/
def bagC (C : SJ) (b : Addr) : SJ where
  M := b :: C.M
  J := fun S H => C.J S H ∧ b ∉ C.M ∧ bagJ b H
  st := fun S S' H H' ⟨h1, h2, g, m, h3⟩ e k => ⟨C.st S S' H H' h1 e fun a ha => k a (List.mem_cons_of_mem _ ha), h2, g, m, (k b List.mem_cons_self).trans h3.1, h3.2⟩
theorem has_bagC {b : Addr} : HasBag (bagC C b) b := ⟨List.mem_cons_self, fun S H j => j.2.2, fun S H g m ⟨j1, j2, _⟩ hg hm hm2 => ⟨C.st S S H _ j1 (Same.refl _) fun a ha => upd_ne fun e => j2 (e ▸ ha), j2, g, m, upd_same, hg, hm, hm2⟩⟩
theorem ext_bag {b : Addr} : Ext C (bagC C b) := ⟨fun _ h => List.mem_cons_of_mem _ h, fun _ _ h => h.1⟩
theorem Ext.bag {C0 : SJ} {b : Addr} (x : Ext C0 C) : Ext C0 (bagC C b) := ⟨fun a h => List.mem_cons_of_mem _ (x.sub a h), fun S H h => x.j S H h.1⟩
/-- x = a new list of two ints, to be drawn from -/
theorem bl_bag (i : Nat) {O : Out} {rest : List Stmt} {pos pos' : Pos} {x : Str} {e : Expr}
    (h : EvF X C Γ e fun ds => (∃ g m : Int, ds = [.int g, .int m] ∧ 0 ≤ g ∧ 0 ≤ m ∧ m < 2 ^ 32) ∧ ∀ b, Bl X (bagC C b) (Γ.set i (some (.adr b))) rest O) (hN : X.N.Nodup) (hi : X.N[i]? = some x := by rfl) (hx : Loc X.env.scope x := by first | exact Or.inl rfl | exact Or.inr rfl)
    (hs : swapsWith e (some (.Name x pos')) pos.line X.env = pure false := by rfl) (hf : X.fn x = true ∨ X.env.scope.names.lookup x = some .local := by first | exact .inl rfl | exact .inr rfl) : Bl X C Γ (.Assign [.Name x pos'] e pos :: rest) O := bl_seq fun σ H g E b =>
  ws_of (ps_set hN hi hx pe_we hs hf) (h σ H g _ fun p xs ds H1 hp s1 hl r1 ⟨⟨n, m, ed, hn, hm, hm2⟩, bl⟩ => by
    subst ed
    have hpm : p ∉ C.M := fun z => g.trk p z hp
    have trk : Trk (p :: C.M) H1 := fun a ha => by
      rcases List.mem_cons.mp ha with z | z
      · subst z; rw [hl]; exact fun z => by cases z
      · exact s1.trk a z
    have hxs : xs = [.int n, .int m] := by
      cases r1 with
      | cons h1 r => cases r with
        | cons h2 r => cases r; cases h1; cases h2; rfl
    subst hxs
    have gd : Good (bagC C p) X.K σ H1 Γ := ⟨g.len, trk, ⟨s1.j, hpm, n, m, hl, hn, hm, hm2⟩, g.bnd.mono s1.same⟩
    exact b.nx (bagC C p) _ H1 _ s1.same (gd.set (.adr p)) (bl p))
/-- bag[0], bag[1] -/
theorem ev_bagix {o : Expr} {b : Addr} {k : Nat} {j : Nat} {p1 pos : Pos} (hb : HasBag C b) (hk : k < 2) (ho : Ev X C Γ o fun d => d = .adr b) (h : ∀ n : Int, 0 ≤ n → (k = 1 → n < 2 ^ 32) → P (.int n)) (hs : PlainIx (.Constant (.int (k : Nat)) j p1) := by exact fun _ _ => rfl) :
    Ev X C Γ (.Subscript o (.Constant (.int (k : Nat)) j p1) pos) P := fun σ H g Q q => by
  refine we_of (pe_ix ix_seq pe_we pe_int hs) (ho σ H g _ fun v d H1 s1 r1 ed => ?_)
  subst ed
  cases r1
  obtain ⟨n, m, e, hn, hm, hm2⟩ := hb.get _ _ s1.j
  have hk' : k = 0 ∨ k = 1 := by omega
  rcases hk' with rfl | rfl
  · exact .inl ⟨b, _, 0, .int n, rfl, rfl, .of e, rfl, q _ _ H1 s1 (.int n) (h n hn fun z => by cases z)⟩
  · exact .inl ⟨b, _, 1, .int m, rfl, rfl, .of e, rfl, q _ _ H1 s1 (.int m) (h m hm fun _ => hm2)⟩
/-- bag[0] = .., bag[1] = .. -/
theorem bl_bagset {O : Out} {rest : List Stmt} {o e : Expr} {b : Addr} {k : Nat} {j : Nat} {p1 pos spos : Pos} (hb : HasBag C b) (hk : k < 2) (he : Ev X C Γ e fun d => ∃ n : Int, d = .int n ∧ 0 ≤ n ∧ (k = 1 → n < 2 ^ 32) ∧ Ev X C Γ o fun d => d = .adr b ∧ Bl X C Γ rest O)
    (ha : ∀ v, assign (.Subscript o (.Constant (.int (k : Nat)) j p1) pos) X.env v = (do
      let ov ← holding [v] (eval o X.env)
      let iv ← holding [v, ov] (eval (.Constant (.int (k : Nat)) j p1) X.env)
      standAt pos
      holding [v, ov, iv] (setItem ov iv v)
      release [v, ov, iv] []) := by intro _; rfl) (hs : swapsWithSole [.Subscript o (.Constant (.int (k : Nat)) j p1) pos] e spos.line X.env = pure false := by rfl) (hw : swappedStores [.Subscript o (.Constant (.int (k : Nat)) j p1) pos] e X.env = pure none := by rfl) :
    Bl X C Γ (.Assign [.Subscript o (.Constant (.int (k : Nat)) j p1) pos] e spos :: rest) O := bl_seq fun σ H g E bk =>
  ws_of (ps_asg pe_we (pg_sub pe_we pe_int set_list ha) hs hw) (he σ H g _ fun v d H1 s1 r1 ⟨n, ed, hn, hn2, ho⟩ => by
    subst ed
    cases r1
    refine ho σ H1 (g.step s1) _ fun v d H2 s2 r2 ⟨ed, bl⟩ => ?_
    subst ed
    cases r2
    obtain ⟨n0, m0, e0, h1, h2, h3⟩ := hb.get _ _ s2.j
    have hk' : k = 0 ∨ k = 1 := by omega
    rcases hk' with rfl | rfl
    · have st := hb.upd (g := n) (m := m0) s2.trk s2.j hn h2 h3
      exact ⟨b, _, 0, 0, rfl, rfl, e0, rfl, bk.nx C σ _ Γ ((s1.trans s2).trans st).same (g.step ((s1.trans s2).trans st)) bl⟩
    · have st := hb.upd (g := n0) (m := n) s2.trk s2.j h1 hn (hn2 rfl)
      exact ⟨b, _, 1, 1, rfl, rfl, e0, rfl, bk.nx C σ _ Γ ((s1.trans s2).trans st).same (g.step ((s1.trans s2).trans st)) bl⟩)
end
end GG
set_option maxHeartbeats 4000000
/-! G12: what the walk leans on: each step's form by itself. -/
namespace GG
open PySem PySem.Spec PyProof.Rows L2
theorem u64 {k : Nat} {A : Around} (r : Room k A) : A.units + 64 < cLine := by have := r.un; omega
theorem u65 {k : Nat} {A : Around} (r : Room k A) : A.units + 65 < cLine := by have := r.un; omega
def Frees (mg : Str → Option Value) (l : List Str) : Prop := ∀ x ∈ l, mg x = none
theorem free_of {mg : Str → Option Value} {l : List Str} {x : Str} (h : Frees mg l) (m : l.contains x = true) : mg x = none := h x (by simpa using m)
section
variable {X : Cx} {C : SJ} {Γ : En} {P : D → Prop} {T : Bool → Prop} {Z : List D → Prop} {O : Out} {a b c e : Expr} {es : List Expr} {pos p q : Pos} {k : Nat} {x : Str} {sts rest : List Stmt} {op : CmpOp}
/-! the goal's kind -/
theorem is_ev (h : Ev X C Γ e P) : Ev X C Γ e P := h
theorem is_et (h : EvT X C Γ e T) : EvT X C Γ e T := h
theorem is_ew (h : EvW X C Γ e T) : EvW X C Γ e T := h
theorem is_ea (h : EvA X C Γ es Z) : EvA X C Γ es Z := h
theorem is_ef (h : EvF X C Γ e Z) : EvF X C Γ e Z := h
theorem is_bl (h : Bl X C Γ sts O) : Bl X C Γ sts O := h
theorem is_name (h : Ev X C Γ (.Name x pos) P) : Ev X C Γ (.Name x pos) P := h
theorem is_nm {y : String} (h : Ev X C Γ (.Name y pos) P) : Ev X C Γ (.Name y pos) P := h
theorem is_call {f : Expr} {ks : List Keyword} (h : Ev X C Γ (.Call f es ks pos) P) : Ev X C Γ (.Call f es ks pos) P := h
theorem is_fcall {f : Expr} {ks : List Keyword} (h : EvF X C Γ (.Call f es ks pos) Z) : EvF X C Γ (.Call f es ks pos) Z := h
theorem is_cmp {os : List CmpOp} (h : Ev X C Γ (.Compare a os es pos) P) : Ev X C Γ (.Compare a os es pos) P := h
theorem is_tcmp {os : List CmpOp} (h : EvT X C Γ (.Compare a os es pos) T) : EvT X C Γ (.Compare a os es pos) T := h
theorem is_bin {op : Operator} (h : Ev X C Γ (.BinOp a op b pos) P) : Ev X C Γ (.BinOp a op b pos) P := h
theorem is_sub (h : Ev X C Γ (.Subscript a b pos) P) : Ev X C Γ (.Subscript a b pos) P := h
theorem is_asg1 {pp : Pos} (h : Bl X C Γ (.Assign [.Name x pp] e pos :: rest) O) : Bl X C Γ (.Assign [.Name x pp] e pos :: rest) O := h
theorem is_c1 (op : CmpOp) (h : Ev X C Γ (.Compare a [op] [b] pos) P) : Ev X C Γ (.Compare a [op] [b] pos) P := h
theorem is_t1 (op : CmpOp) (h : EvT X C Γ (.Compare a [op] [b] pos) T) : EvT X C Γ (.Compare a [op] [b] pos) T := h
theorem f_1 {y : String} (h : EvF X C Γ (.Call (.Name y p) es [] pos) Z) : EvF X C Γ (.Call (.Name y p) es [] pos) Z := h
theorem is_at {α : Type} {l : List α} {i : Int} {d : Option α} (h : atI l i = d) : atI l i = d := h
theorem is_asg {ts : List Expr} (h : Bl X C Γ (.Assign ts e pos :: rest) O) : Bl X C Γ (.Assign ts e pos :: rest) O := h
theorem is_ret {o : Option Expr} (h : Bl X C Γ (.Return o pos :: rest) O) : Bl X C Γ (.Return o pos :: rest) O := h
theorem c_isi (h : Ev X C Γ (.Call (.Name "isinstance" p) [a, b] [] pos) P) : Ev X C Γ (.Call (.Name "isinstance" p) [a, b] [] pos) P := h
theorem c_len (h : Ev X C Γ (.Call (.Name "len" p) [a] [] pos) P) : Ev X C Γ (.Call (.Name "len" p) [a] [] pos) P := h
theorem c_lenSet {q2 : Pos} (h : Ev X C Γ (.Call (.Name "len" p) [.Call (.Name "set" q) [a] [] q2] [] pos) P) : Ev X C Γ (.Call (.Name "len" p) [.Call (.Name "set" q) [a] [] q2] [] pos) P := h
theorem c_1 {y : String} (h : Ev X C Γ (.Call (.Name y p) es [] pos) P) : Ev X C Γ (.Call (.Name y p) es [] pos) P := h
theorem n_int (hm : X.mg "int" = none) (p : P (.ty "int")) (hg : Gl X "int" := by rfl) : Ev X C Γ (.Name "int" pos) P := ev_ty hm (by decide +kernel) p hg (by decide) (by decide)
theorem n_bool (hm : X.mg "bool" = none) (p : P (.ty "bool")) (hg : Gl X "bool" := by rfl) : Ev X C Γ (.Name "bool" pos) P := ev_ty hm (by decide +kernel) p hg (by decide) (by decide)
theorem n_str (hm : X.mg "str" = none) (p : P (.ty "str")) (hg : Gl X "str" := by rfl) : Ev X C Γ (.Name "str" pos) P := ev_ty hm (by decide +kernel) p hg (by decide) (by decide)
theorem n_tuple (hm : X.mg "tuple" = none) (p : P (.ty "tuple")) (hg : Gl X "tuple" := by rfl) : Ev X C Γ (.Name "tuple" pos) P := ev_ty hm (by decide +kernel) p hg (by decide) (by decide)
theorem n_list (hm : X.mg "list" = none) (p : P (.ty "list")) (hg : Gl X "list" := by rfl) : Ev X C Γ (.Name "list" pos) P := ev_ty hm (by decide +kernel) p hg (by decide) (by decide)
theorem n_dict (hm : X.mg "dict" = none) (p : P (.ty "dict")) (hg : Gl X "dict" := by rfl) : Ev X C Γ (.Name "dict" pos) P := ev_ty hm (by decide +kernel) p hg (by decide) (by decide)
theorem ev_lstd (h : EvA X C Γ es fun ds => ds.length ≤ sizeLine ∧ P (.lst ds)) : Ev X C Γ (.List es pos) P := ev_F (ef_lst h)
/-! data -/
theorem d_addI {i j : Int} (h : P (.int (i + j))) : addG (.int i) (.int j) P := h
theorem d_addS {s t : Str} (h1 : s.length + t.length ≤ sizeLine) (h : P (.str (s ++ t))) : addG (.str s) (.str t) P := ⟨h1, h⟩
theorem d_addT {s t : List D} (h1 : s.length + t.length ≤ sizeLine) (h : P (.tup (s ++ t))) : addG (.tup s) (.tup t) P := ⟨h1, h⟩
theorem d_int {f : Int → Int → Int} {c : Int → Int → Prop} {i j : Int} (h1 : c i j) (h : P (.int (f i j))) : intG c f (.int i) (.int j) P := ⟨h1, h⟩
theorem d_sub {i j : Int} (h : P (.int (i - j))) : intG (fun _ _ => True) (fun i j => i - j) (.int i) (.int j) P := ⟨trivial, h⟩
theorem d_mul {i j : Int} (h1 : CMul i j) (h : P (.int (i * j))) : intG CMul (fun i j => i * j) (.int i) (.int j) P := ⟨h1, h⟩
theorem d_div {i j : Int} (h1 : CDivW i j) (h : P (.int (i / j))) : intG CDivW (fun i j => i / j) (.int i) (.int j) P := ⟨h1, h⟩
theorem d_mod {i j : Int} (h1 : 0 < j) (h : P (.int (i % j))) : intG (fun _ j => 0 < j) (fun i j => i % j) (.int i) (.int j) P := ⟨h1, h⟩
theorem d_pow {i j : Int} (h1 : CPow i j) (h : P (.int (i ^ j.toNat))) : intG CPow (fun i j => i ^ j.toNat) (.int i) (.int j) P := ⟨h1, h⟩
theorem eqD_int {i j : Int} : eqD (.int i) (.int j) = decide (i = j) := by
  rw [Bool.eq_iff_iff]; simp [eqD, toPy, PyData.eqv]
theorem eqD_str {i j : Str} : eqD (.str i) (.str j) = decide (i = j) := by
  rw [Bool.eq_iff_iff]; simp [eqD, toPy, PyData.eqv]
theorem d_eqI {i j : Int} (h : P (.bl (decide (i = j)))) : eqG (.int i) (.int j) P := ⟨.inl rfl, by rw [eqD_int]; exact h⟩
theorem d_eqS {i j : Str} (h : P (.bl (decide (i = j)))) : eqG (.str i) (.str j) P := ⟨.inl rfl, by rw [eqD_str]; exact h⟩
theorem d_neI {i j : Int} (h : P (.bl (!decide (i = j)))) : neG (.int i) (.int j) P := ⟨.inl rfl, by rw [eqD_int]; exact h⟩
theorem d_neS {i j : Str} (h : P (.bl (!decide (i = j)))) : neG (.str i) (.str j) P := ⟨.inl rfl, by rw [eqD_str]; exact h⟩
theorem d_le {i j : Int} (h : P (.bl (decide (i ≤ j)))) : ordG (fun i j => decide (i ≤ j)) (.int i) (.int j) P := h
theorem d_gt {i j : Int} (h : P (.bl (decide (j < i)))) : ordG (fun i j => decide (j < i)) (.int i) (.int j) P := h
theorem d_ge {i j : Int} (h : P (.bl (decide (j ≤ i)))) : ordG (fun i j => decide (j ≤ i)) (.int i) (.int j) P := h
theorem d_ltI {i j : Int} (h : P (.bl (decide (i < j)))) : ltG (.int i) (.int j) P := h
theorem d_ltS {i j : Str} (h : P (.bl (decide (i.cps.toList < j.cps.toList)))) : ltG (.str i) (.str j) P := h
theorem d_inS {n : Nat} {t : Str} (h : P (.bl (decide (n ∈ t.cps.toList)))) : inG id (.str ⟨#[n]⟩) (.str t) P := ⟨n, rfl, h⟩
@[reducible] def tyInt : D → Bool
  | .int _ => true | .bl _ => true | _ => false
@[reducible] def tyBl : D → Bool
  | .bl _ => true | _ => false
@[reducible] def tyStr : D → Bool
  | .str _ => true | _ => false
@[reducible] def tyTup : D → Bool
  | .tup _ => true | _ => false
@[reducible] def tyLst : D → Bool
  | .lst _ => true | _ => false
@[reducible] def tyDct : D → Bool
  | .dct _ => true | _ => false
def known (d : D) : Bool := (tyOf d).isSome
theorem is_known {d : D} (h : known d = true) : known d = true := h
theorem d_isiI {d : D} (hd : known d = true) (h : P (.bl (tyInt d))) : isiG [d, .ty "int"] P := by
  cases d <;> first | exact ⟨_, true, rfl, by decide +kernel, h⟩ | exact ⟨_, false, rfl, by decide +kernel, h⟩ | exact absurd hd Bool.false_ne_true
theorem d_isiB {d : D} (hd : known d = true) (h : P (.bl (tyBl d))) : isiG [d, .ty "bool"] P := by
  cases d <;> first | exact ⟨_, true, rfl, by decide +kernel, h⟩ | exact ⟨_, false, rfl, by decide +kernel, h⟩ | exact absurd hd Bool.false_ne_true
theorem d_isiS {d : D} (hd : known d = true) (h : P (.bl (tyStr d))) : isiG [d, .ty "str"] P := by
  cases d <;> first | exact ⟨_, true, rfl, by decide +kernel, h⟩ | exact ⟨_, false, rfl, by decide +kernel, h⟩ | exact absurd hd Bool.false_ne_true
theorem d_isiT {d : D} (hd : known d = true) (h : P (.bl (tyTup d))) : isiG [d, .ty "tuple"] P := by
  cases d <;> first | exact ⟨_, true, rfl, by decide +kernel, h⟩ | exact ⟨_, false, rfl, by decide +kernel, h⟩ | exact absurd hd Bool.false_ne_true
theorem d_isiL {d : D} (hd : known d = true) (h : P (.bl (tyLst d))) : isiG [d, .ty "list"] P := by
  cases d <;> first | exact ⟨_, true, rfl, by decide +kernel, h⟩ | exact ⟨_, false, rfl, by decide +kernel, h⟩ | exact absurd hd Bool.false_ne_true
theorem d_isiD {d : D} (hd : known d = true) (h : P (.bl (tyDct d))) : isiG [d, .ty "dict"] P := by
  cases d <;> first | exact ⟨_, true, rfl, by decide +kernel, h⟩ | exact ⟨_, false, rfl, by decide +kernel, h⟩ | exact absurd hd Bool.false_ne_true
theorem d_lenL {ds : List D} (h : P (.int ds.length)) : lenG [.lst ds] P := h
theorem d_lenT {ds : List D} (h : P (.int ds.length)) : lenG [.tup ds] P := h
theorem d_lenS {s : Str} (h1 : s.length ≤ sizeLine) (h : P (.int s.length)) : lenG [.str s] P := ⟨h1, h⟩
theorem d_bools {f : List Bool → Bool} {bs : List Bool} (h : P (.bl (f bs))) : boolsG f [.lst (bs.map D.bl)] P := ⟨bs, rfl, h⟩
theorem d_ixT {ds : List D} {i : Int} (h : ∃ d, atI ds i = some d ∧ P d) : ixG (.tup ds) (.int i) P := h
theorem d_ixL {ds : List D} {i : Int} (h : ∃ d, atI ds i = some d ∧ P d) : ixG (.lst ds) (.int i) P := h
theorem d_slL {ds : List D} {l u : Option Int} (h : P (.lst (cutD ds l u))) : slG (.lst ds) l u P := h
theorem d_slT {ds : List D} {l u : Option Int} (h : P (.tup (cutD ds l u))) : slG (.tup ds) l u P := h
theorem d_abs {i : Int} (h : P (.int (if i < 0 then -i else i))) : int1G (fun i => if i < 0 then -i else i) [.int i] P := h
theorem d_max {i j : Int} (h : P (.int (if j > i then j else i))) : int2G (fun i j => if j > i then j else i) [.int i, .int j] P := h
theorem d_min {i j : Int} (h : P (.int (if j < i then j else i))) : int2G (fun i j => if j < i then j else i) [.int i, .int j] P := h
theorem d_seqL {ds : List D} (h : Z ds) : seqG (.lst ds) Z := h
theorem d_seqT {ds : List D} (h : Z ds) : seqG (.tup ds) Z := h
theorem d_zipT {ds es : List D} (h : Z (zipD ds es)) : zipG [.tup ds, .tup es] Z := h
theorem d_zipL {ds es : List D} (h : Z (zipD ds es)) : zipG [.lst ds, .lst es] Z := h
theorem d_bo {k : Bool} (h : T k) : boG T (.bl k) := ⟨k, rfl, h⟩
theorem d_eo {o : Expr} {Y : Option Int → Prop} (h : Ev X C Γ o fun d => ∃ i, d = .int i ∧ Y (some i)) : EvO X C Γ (some o) Y := h
theorem d_eoN {Y : Option Int → Prop} (h : Y none) : EvO X C Γ none Y := h
theorem d_exI {Y : Int → Prop} {i : Int} (h : Y i) : ∃ j, D.int i = .int j ∧ Y j := ⟨i, rfl, h⟩
theorem d_chain {G : D → D → (D → Prop) → Prop} {R : D → (D → Prop) → Prop} {d e : D} (h : G d e fun z => boG (fun k => if2 k (R e P) (P (.bl false))) z) : chG G R P d e := by
  have q : (fun z => boG (fun k => if2 k (R e P) (P (.bl false))) z) = fun z => ∃ k, z = D.bl k ∧ (k = true → R e P) ∧ (k = false → P (.bl false)) := rfl
  unfold chG
  rw [← q]
  exact h
theorem is_bag0 {X : Cx} {C : SJ} {Γ : En} {P : D → Prop} {p p1 pos : Pos} {j : Nat} (h : Ev X C Γ (.Subscript (.Name "bag" p) (.Constant (.int 0) j p1) pos) P) : Ev X C Γ (.Subscript (.Name "bag" p) (.Constant (.int 0) j p1) pos) P := h
theorem is_bag1 {X : Cx} {C : SJ} {Γ : En} {P : D → Prop} {p p1 pos : Pos} {j : Nat} (h : Ev X C Γ (.Subscript (.Name "bag" p) (.Constant (.int 1) j p1) pos) P) : Ev X C Γ (.Subscript (.Name "bag" p) (.Constant (.int 1) j p1) pos) P := h
theorem is_bset0 {X : Cx} {C : SJ} {Γ : En} {O : Out} {e : Expr} {rest : List Stmt} {p p1 p2 pos : Pos} {j : Nat} (h : Bl X C Γ (.Assign [.Subscript (.Name "bag" p) (.Constant (.int 0) j p1) p2] e pos :: rest) O) : Bl X C Γ (.Assign [.Subscript (.Name "bag" p) (.Constant (.int 0) j p1) p2] e pos :: rest) O := h
theorem is_bset1 {X : Cx} {C : SJ} {Γ : En} {O : Out} {e : Expr} {rest : List Stmt} {p p1 p2 pos : Pos} {j : Nat} (h : Bl X C Γ (.Assign [.Subscript (.Name "bag" p) (.Constant (.int 1) j p1) p2] e pos :: rest) O) : Bl X C Γ (.Assign [.Subscript (.Name "bag" p) (.Constant (.int 1) j p1) p2] e pos :: rest) O := h
theorem d_bagget {b : Addr} {A : Prop} (h : A) : D.adr b = .adr b ∧ A := ⟨rfl, h⟩
theorem d_exS {Y : Int → Prop} {i : Int} (h : Y i) : ∃ j, D.int i = .int j ∧ Y j := ⟨i, rfl, h⟩
theorem is_sz {n : Nat} {A : Prop} (h : n ≤ sizeLine ∧ A) : n ≤ sizeLine ∧ A := h
theorem d_sz {n : Nat} {A : Prop} (h1 : Nat.ble n 64 = true) (h : A) : n ≤ sizeLine ∧ A := ⟨Nat.le_trans (Nat.le_of_ble_eq_true h1) (by decide +kernel), h⟩
theorem d_exT {Y : List D → Prop} {i : List D} (h : Y i) : ∃ j, D.tup i = .tup j ∧ Y j := ⟨i, rfl, h⟩
theorem d_exL {Y : List D → Prop} {i : List D} (h : Y i) : ∃ j, D.lst i = .lst j ∧ Y j := ⟨i, rfl, h⟩
theorem is_callee {ds : List D} {n : Nat} {A B : Prop} (h : ds.length = n ∧ A ∧ B) : ds.length = n ∧ A ∧ B := h
theorem not_t {b : Bool} (h : (!b) = true) : b = false := by cases b <;> first | rfl | exact absurd h Bool.false_ne_true
theorem not_f {b : Bool} (h : (!b) = false) : b = true := by cases b <;> first | rfl | exact absurd h.symm Bool.false_ne_true
theorem if2_t {A B : Prop} (h : A) : if2 true A B := ⟨fun _ => h, fun z => absurd z.symm Bool.false_ne_true⟩
theorem if2_f {A B : Prop} (h : B) : if2 false A B := ⟨fun z => absurd z Bool.false_ne_true, fun _ => h⟩
theorem if2_nt {A B : Prop} (h : B) : if2 (!true) A B := if2_f h
theorem if2_nf {A B : Prop} (h : A) : if2 (!false) A B := if2_t h
theorem if2_m {k : Bool} {A B : Prop} (h1 : k = true → A) (h2 : k = false → B) : if2 k A B := ⟨h1, h2⟩
end
/-! [elt for tg in iter] -/
section
variable {X : Cx} {C : SJ} {Γ : En} {elt tg iter : Expr} {scope : Scope}
theorem take_get {ds : List D} {i : Nat} {y : D} (h : ds[i]? = some y) : ds.take (i + 1) = ds.take i ++ [y] := by
  obtain ⟨hl, e⟩ := List.getElem?_eq_some_iff.mp h
  rw [List.take_succ_eq_append_getElem hl, e]
theorem ef_map {ow : List (Str × Nat)} {pos : Pos} {P : List D → Prop} (T : Tgt) (g : D → D) (ds : List D) (hl : ds.length ≤ sizeLine)
    (h : EvI X C Γ tg iter fun es => es = ds ∧ (∀ y ∈ ds, ∃ Γ2, T.put (wipeE Γ (ow.map (·.2))) y = some Γ2 ∧ ∀ s H0 c cl fp p acc, p ∉ C.M → Ev (blk' X scope s H0 c cl fp) (own X.K C [p] [acc]) Γ2 elt fun z => z = g y) ∧ P (ds.map g))
    (ok : BlkOk X.N X.env.scope scope ow) (hT : ∀ (s : Shared) (H : Hp) (c : Addr) (cl : List (Str × Addr)) (fp : List Addr), PG (blk' X scope s H c cl fp) tg (T.g X.K)) (hN : X.N.Nodup) (hv : ∀ i ∈ T.slots, i ∈ ow.map (·.2) := by decide)
    (hc : X.calm = true := by rfl) (hs : ∀ x, foldedSetIterable iter X.env x = pure x := by intro _; rfl) : EvF X C Γ (.ListComp elt [⟨tg, iter, [], 0⟩] scope pos) P :=
  ef_lc T (fun i acc => acc = (ds.take i).map g) (fun σ H gd R q => h σ H gd R fun J es H1 s1 src ⟨e, hy, hP⟩ => q J es H1 s1 src (by
    subst e
    refine ⟨rfl, fun i y acc hi ha => ?_, fun acc ha => ?_⟩
    · obtain ⟨Γ2, e2, hE⟩ := hy y (List.mem_of_getElem? hi)
      have hlt := (List.getElem?_eq_some_iff.mp hi).1
      refine ⟨Γ2, fun k => k = true, e2, ⟨fun s H0 c cl fp p _ => ets_nil rfl, fun _ s H0 c cl fp p hp => (hE s H0 c cl fp p acc hp).imp fun z ez => ⟨?_, ?_⟩, fun z => absurd z Bool.false_ne_true⟩⟩
      · rw [ha, List.length_map, List.length_take]; omega
      · rw [ez, ha, take_get hi, List.map_append] <;> rfl
    · rw [ha, List.take_length]; exact hP)) ok hT hN hv hc hs
end
/-! what a call leans on, by the module's names -/
structure Defd (P : Program) (w : World) (K : PySem.W.Frag) (mg : Str → Option Value) (base : Heap) (x : Str) (k n : Nat) (R : SJ → List D → Prop) (G : List D → (D → Prop) → Prop) : Prop where
  ex : ∃ (f : Addr) (fd : FuncData) (ps : List Str), FnG P w K mg base CX0 k f fd ps (spC K n R G) ∧ mg x = some (.ref f) ∧ PySem.W.keepIn K (.ref f) = true ∧ Binds K fd ps []
structure DefdN (P : Program) (w : World) (K : PySem.W.Frag) (mg : Str → Option Value) (base : Heap) (x : Str) (k n : Nat) (R : SJ → List D → Prop) (G : List D → (List D → Prop) → Prop) : Prop where
  ex : ∃ (f : Addr) (fd : FuncData) (ps : List Str), FnG P w K mg base CX0 k f fd ps (spN K n R G) ∧ mg x = some (.ref f) ∧ PySem.W.keepIn K (.ref f) = true ∧ Binds K fd ps []
section
variable {X : Cx} {C : SJ} {Γ : En} {P : D → Prop} {Z : List D → Prop} {x : Str} {p pos : Pos} {e : Expr} {es : List Expr} {R : SJ → List D → Prop} {G : List D → (D → Prop) → Prop} {GN : List D → (List D → Prop) → Prop} {k n : Nat}
theorem ev_callD (F : Defd X.prog X.w X.K X.mg X.base x k n R G) (hG : X.A.guards = some []) (hr : Room k X.A)
    (h : EvA X C Γ (e :: es) fun ds => ds.length = n ∧ R C ds ∧ G ds P) (hg : Gl X x := by rfl) (hdb : (x == ("__debug__" : Str)) = false := by decide) (he : starEach (e :: es) X.env = (false, eval e X.env) :: starEach es X.env := by rfl)
    (hpl : (backTo pos (starEach es X.env)).any (·.1) = false := by rfl) : Ev X C Γ (.Call (.Name x p) (e :: es) [] pos) P := ev_call ⟨F.ex⟩ hG hr h hg hdb he hpl
theorem ef_callD (F : DefdN X.prog X.w X.K X.mg X.base x k n R GN) (hG : X.A.guards = some []) (hr : Room k X.A)
    (h : EvA X C Γ (e :: es) fun ds => ds.length = n ∧ R C ds ∧ GN ds Z) (hg : Gl X x := by rfl) (hdb : (x == ("__debug__" : Str)) = false := by decide) (he : starEach (e :: es) X.env = (false, eval e X.env) :: starEach es X.env := by rfl)
    (hpl : (backTo pos (starEach es X.env)).any (·.1) = false := by rfl) : EvF X C Γ (.Call (.Name x p) (e :: es) [] pos) Z := ef_call ⟨F.ex⟩ hG hr h hg hdb he hpl
end
end GG
set_option maxHeartbeats 4000000
/-! G13: plain laws of data. -/
namespace GG
open PySem PySem.Spec PyProof.Rows L2
@[reducible] def arg : List D → Nat → D
  | d :: _, 0 => d
  | _ :: ds, n + 1 => arg ds n
  | [], _ => .non
theorem one_of {ds : List D} (h : ds.length = 1) : ∃ d, ds = [d] := by
  match ds, h with
  | [d], _ => exact ⟨d, rfl⟩
theorem two_of {ds : List D} (h : ds.length = 2) : ∃ d e, ds = [d, e] := by
  match ds, h with
  | [d, e], _ => exact ⟨d, e, rfl⟩
theorem three_of {ds : List D} (h : ds.length = 3) : ∃ d e f, ds = [d, e, f] := by
  match ds, h with
  | [d, e, f], _ => exact ⟨d, e, f, rfl⟩
theorem tb {T : D → Prop} {a b : Bool} (h : T (.bl a)) (e : a = b) : T (.bl b) := e ▸ h
/-- data of no great size -/
def sm : Nat → D → Prop
  | 0, d => known d = true ∧ ∀ s, d = .str s → s.length ≤ 1000 ∧ PyData.strOk s = true
  | n + 1, d => (known d = true ∧ ∀ s, d = .str s → s.length ≤ 1000 ∧ PyData.strOk s = true) ∧ ∀ ds, d = .tup ds → ds.length ≤ 40 ∧ ∀ e ∈ ds, sm n e
theorem sm.zero : ∀ {n : Nat} {d : D}, sm n d → sm 0 d
  | 0, _, h => h
  | _ + 1, _, h => h.1
theorem sm.down : ∀ {n : Nat} {d : D}, sm (n + 1) d → sm n d
  | 0, _, h => h.1
  | _ + 1, _, h => ⟨h.1, fun ds e => ⟨(h.2 ds e).1, fun x hx => ((h.2 ds e).2 x hx).down⟩⟩
theorem line1000 : 1000 ≤ sizeLine := by decide +kernel
theorem sm.str {n : Nat} {s : Str} (h : sm n (.str s)) : s.length ≤ sizeLine := Nat.le_trans (h.zero.2 s rfl).1 line1000
theorem sm.ok {n : Nat} {s : Str} (h : sm n (.str s)) : PyData.strOk s = true := (h.zero.2 s rfl).2
theorem sm.known {n : Nat} {d : D} (h : sm n d) : known d = true := h.zero.1
theorem sm.tup {n : Nat} {ds : List D} (h : sm (n + 1) (.tup ds)) : ds.length ≤ 40 ∧ ∀ e ∈ ds, sm n e := h.2 ds rfl
theorem canLay_strs : ∀ xs : List Str, (∀ x ∈ xs, PyData.strOk x = true) → PyData.canLayAll0 (toPys (xs.map D.str)) = true
  | [], _ => by simp [toPys, PyData.canLayAll0]
  | x :: xs, h => by
    have h1 := canLay_strs xs fun y hy => h y (List.mem_cons_of_mem _ hy)
    have h2 := h x List.mem_cons_self
    simp [toPys, toPy, PyData.canLayAll0, PyData.canLay0, h1, h2]
theorem depth_strs : ∀ xs : List Str, PyData.depthAll (toPys (xs.map D.str)) = 0
  | [] => by simp [toPys, PyData.depthAll]
  | x :: xs => by
    have := depth_strs xs
    simp [toPys, toPy, PyData.depthAll, PyData.depth, this]
theorem shp_strsL (xs : List Str) (h : ∀ x ∈ xs, PyData.strOk x = true) : shp (.lst (xs.map D.str)) = true := by
  have h1 := canLay_strs xs h
  have h2 := depth_strs xs
  simp [shp, SeqAt.shaped, toPy, PyData.canLay0, PyData.depth, h1, h2]
theorem eqv_strs : ∀ xs ys : List Str, PyData.eqvAll (toPys (xs.map D.str)) (toPys (ys.map D.str)) = decide (xs = ys)
  | [], [] => by simp [toPys, PyData.eqvAll]
  | [], y :: ys => by simp [toPys, PyData.eqvAll]
  | x :: xs, [] => by simp [toPys, PyData.eqvAll]
  | x :: xs, y :: ys => by
    have := eqv_strs xs ys
    simp only [List.map_cons, toPys, toPy, PyData.eqvAll, PyData.eqv, this]
    rw [Bool.eq_iff_iff]
    simp
theorem eqD_strsL (xs ys : List Str) : eqD (.lst (xs.map D.str)) (.lst (ys.map D.str)) = decide (xs = ys) := by
  simp only [eqD, toPy, PyData.eqv, eqv_strs]
theorem d_eqLs {P : D → Prop} {xs ys : List Str} (hx : ∀ x ∈ xs, PyData.strOk x = true) (hy : ∀ x ∈ ys, PyData.strOk x = true) (h : P (.bl (decide (xs = ys)))) : eqG (.lst (xs.map D.str)) (.lst (ys.map D.str)) P :=
  ⟨.inr ⟨shp_strsL xs hx, shp_strsL ys hy⟩, by rw [eqD_strsL]; exact h⟩
/-- the texts in data -/
def strD : D → Str
  | .str s => s
  | _ => ""
def strsD (ds : List D) : List Str := ds.map strD
theorem strs_of {ds : List D} (h : ∀ d ∈ ds, ∃ s, d = .str s) : ds = (strsD ds).map D.str := by
  induction ds with
  | nil => rfl
  | cons d ds ih =>
    obtain ⟨s, rfl⟩ := h d List.mem_cons_self
    show D.str s :: ds = D.str s :: (strsD ds).map D.str
    rw [← ih fun e he => h e (List.mem_cons_of_mem _ he)]
theorem bools_map {ds : List D} {g : D → Bool} : ds.map (fun d => D.bl (g d)) = (ds.map g).map D.bl := by rw [List.map_map] <;> rfl
theorem d_boolsM {P : D → Prop} {f : List Bool → Bool} {ds : List D} {g : D → Bool} (h : P (.bl (f (ds.map g)))) : boolsG f [.lst (ds.map fun d => D.bl (g d))] P := ⟨ds.map g, by rw [bools_map], h⟩
theorem all_id {α : Type} {l : List α} {g : α → Bool} : (l.map g).all id = l.all g := by rw [List.all_map]; rfl
theorem cutD_from (ds : List D) (k : Nat) : cutD ds (some (k : Int)) none = ds.drop k := by
  unfold cutD
  rw [HT.sIx_nat, HT.sIx_none]
  by_cases h : k ≤ ds.length
  · rw [Nat.min_eq_left h, List.take_of_length_le (by rw [List.length_drop]; exact Nat.le_refl _)]
  · rw [Nat.min_eq_right (by omega), List.drop_length, List.drop_of_length_le (by omega)] <;> simp
theorem cutD_to (ds : List D) (k : Nat) : cutD ds none (some (k : Int)) = ds.take k := by
  unfold cutD
  rw [HT.sIx_nat, HT.sIx_none, List.drop_zero, Nat.sub_zero]
  by_cases h : k ≤ ds.length
  · rw [Nat.min_eq_left h]
  · rw [Nat.min_eq_right (by omega), List.take_length, List.take_of_length_le (by omega)]
/-! texts that rise -/
def rises : List Str → Bool
  | [] => true
  | [_] => true
  | x :: y :: r => decide (x.cps.toList < y.cps.toList) && rises (y :: r)
theorem rises_iff : ∀ xs : List Str, rises xs = true ↔ xs.Nodup ∧ xs = srtS xs := by
  have pw : ∀ xs : List Str, rises xs = true ↔ xs.Pairwise fun a b => a.cps.toList < b.cps.toList := by
    intro xs
    induction xs with
    | nil => simp [rises]
    | cons x xs ih =>
      cases xs with
      | nil => simp [rises]
      | cons y r =>
        unfold rises
        rw [Bool.and_eq_true, decide_eq_true_eq, ih]
        refine ⟨fun ⟨h1, h2⟩ => List.pairwise_cons.mpr ⟨fun z hz => ?_, h2⟩, fun h => ⟨(List.pairwise_cons.mp h).1 y List.mem_cons_self, (List.pairwise_cons.mp h).2⟩⟩
        rcases List.mem_cons.mp hz with e | e
        · rw [e]; exact h1
        · exact List.lt_trans h1 ((List.pairwise_cons.mp h2).1 z e)
  intro xs
  rw [pw]
  constructor
  · intro h
    have h1 : xs.Nodup := h.imp fun hab e => by subst e; exact List.lt_irrefl _ hab
    have h2 : xs.Pairwise leS := h.imp fun hab => by unfold leS; rw [List.not_lt]; exact List.le_of_lt hab
    exact ⟨h1, sorted_one (srtS_perm xs).symm h2 (srtS_pw xs)⟩
  · rintro ⟨h1, h2⟩
    have h3 : xs.Pairwise leS := by rw [h2]; exact srtS_pw xs
    refine List.Pairwise.imp₂ (fun {a b} hne hle => ?_) h1 h3
    unfold leS at hle
    rw [List.not_lt] at hle
    rcases Classical.em (a.cps.toList < b.cps.toList) with h | h
    · exact h
    · exact absurd (leS_anti (by unfold leS; rw [List.not_lt]; exact hle) h) hne
/-- of a pair of texts: the one below the other -/
def pairLt : D → Bool
  | .tup [.str a, .str b] => decide (a.cps.toList < b.cps.toList)
  | _ => false
theorem rises_zip : ∀ xs : List Str, ((zipD (xs.map D.str) ((xs.map D.str).drop 1)).map pairLt).all id = rises xs
  | [] => rfl
  | [x] => rfl
  | x :: y :: r => by
    have ih := rises_zip (y :: r)
    show (decide (x.cps.toList < y.cps.toList) && ((zipD ((y :: r).map D.str) (((y :: r).map D.str).drop 1)).map pairLt).all id) = _
    rw [ih]
    rfl
end GG
set_option maxHeartbeats 4000000
/-! G14: list + list, draws, data fit to be shown. -/
namespace GG
open PySem PySem.Spec PyProof.Rows L2
section
variable {X : Cx} {C : SJ} {Γ : En}
/-- a list of one's own + a new list -/
theorem ef_cat (k : Nat) {ps : List Addr} {as : List (List D)} {a : List D} {p : Addr} {o e : Expr} {pos : Pos} {P : List D → Prop} (hp : ps[k]? = some p) (ha : as[k]? = some a)
    (ho : Ev X (own X.K C ps as) Γ o fun d => d = .adr p ∧ EvF X (own X.K C ps as) Γ e fun ds => a.length + ds.length ≤ sizeLine ∧ P (a ++ ds)) : EvF X (own X.K C ps as) Γ (.BinOp o .Add e pos) P := fun σ H g Q q => by
  refine we_of (pe_op op_cat pe_we pe_we) ?_
  refine ho σ H g _ fun v d H1 s1 r1 ⟨ed, h⟩ => ?_
  subst ed
  cases r1
  refine h σ H1 (g.step s1) _ fun b ys ds H2 hb s2 hl r2 ⟨hz, pp⟩ => ?_
  obtain ⟨xs, h2, rx⟩ := s2.j.2.2 k p a hp ha
  have up : Same (cut (b :: (own X.K C ps as).M) H2) (cut (own X.K C ps as).M H2) := cut_less fun _ z => List.mem_cons_of_mem _ z
  refine ⟨p, b, xs, ys, rfl, rfl, h2, hl, by rw [rx.len, r2.len]; exact hz, fun r hr => ?_⟩
  have st := s1.trans s2.step
  exact q r _ _ _ (nil_back st hr) (fst_new st hr) upd_same (dds_in ((rx.mono up).append (r2.mono up)) hr) pp
end
theorem cutD_mem {ds : List D} {l u : Option Int} {d : D} (h : d ∈ cutD ds l u) : d ∈ ds := List.mem_of_mem_drop (List.mem_of_mem_take h)
theorem cutD_len (ds : List D) (l u : Option Int) : (cutD ds l u).length ≤ ds.length := by
  unfold cutD
  rw [List.length_take, List.length_drop]
  omega
/-! less is known -/
theorem Le.set {Γ' Γ : En} (l : Le Γ' Γ) (i : Nat) (x : Option D) : Le (Γ'.set i x) (Γ.set i x) := ⟨by rw [List.length_set, List.length_set]; exact l.1, fun j d h => by
  by_cases e : j = i
  · subst e
    by_cases hl : j < Γ'.length
    · rw [List.getElem?_set_self hl] at h
      rw [List.getElem?_set_self (by rw [← l.1]; exact hl)]
      exact h
    · rw [List.getElem?_eq_none (by rw [List.length_set]; omega)] at h
      cases h
  · rw [List.getElem?_set_ne (Ne.symm e)] at h ⊢
    exact l.2 j d h⟩
theorem Le.trans {A B C : En} (a : Le A B) (b : Le B C) : Le A C := ⟨a.1.trans b.1, fun i d h => b.2 i d (a.2 i d h)⟩
def leB : En → En → Bool
  | [], [] => true
  | none :: a, _ :: b => leB a b
  | some _ :: a, some _ :: b => leB a b
  | _, _ => false
theorem Le.cons {a b : En} {x : Option D} (l : Le a b) : Le (x :: a) (x :: b) := ⟨by rw [List.length_cons, List.length_cons, l.1], fun i d h => by
  cases i with
  | zero => exact h
  | succ i => exact l.2 i d h⟩
theorem Le.drop {a b : En} {x : Option D} (l : Le a b) : Le (none :: a) (x :: b) := ⟨by rw [List.length_cons, List.length_cons, l.1], fun i d h => by
  cases i with
  | zero => cases h
  | succ i => exact l.2 i d h⟩
/-! the law's own start -/
def C00 : SJ := ⟨[], fun _ _ => True, fun _ _ _ _ _ _ _ => trivial⟩
abbrev RLaw : SJ → List D → Prop := fun _ ds => ∃ ns : List Int, ds = [.lst (ns.map D.int)] ∧ ns.length ≤ 63
theorem law_of {P : Program} {w : World} {K : PySem.W.Frag} {mg : Str → Option Value} {base : Heap} {k : Nat} {f : Addr} {fd : FuncData} {ps : List Str}
    (F : FnG P w K mg base CX0 k f fd ps (spC K 1 RLaw fun _ T => T (.bl true))) : FnG P w K mg base CX0 k f fd ps (spLaw K) := by
  have key : ∀ vs H Q E, spLaw K vs H Q E → spC K 1 RLaw (fun _ T => T (.bl true)) vs H Q E := by
    rintro vs H Q E ⟨a, ns, rfl, hS, hl, q⟩
    have ec : cut ([] : List Addr) H = H := by funext b; unfold cut; rw [if_neg List.not_mem_nil]
    refine ⟨C00, [.lst (ns.map D.int)], fun d => d = .bl true, rfl, ⟨ns, rfl, hl⟩, fun a h => absurd h List.not_mem_nil, trivial, ?_, rfl, ?_⟩
    · show DDs K (cut [] H) _ _
      rw [ec]
      exact .cons (.lst hS (bits_dds ns)) .nil
    · rintro v d H' _ r rfl
      cases r
      exact q H'
  exact ⟨fun vs H Q E h => F.len vs H Q E (key vs H Q E h), fun A outer s H args us vs Q E hg hr e0 hb r h => F.run A outer s H args us vs Q E hg hr e0 hb r (key vs H Q E h)⟩
theorem if2_same {x : Str} {A B : Prop} (h : B) : if2 (!decide (x = x)) A B := by
  rw [decide_eq_true rfl]
  exact if2_nt h
theorem is_shw {d : D} {A : Prop} (h : Shw d ∧ A) : Shw d ∧ A := h
/-! draws -/
theorem at_ok {α : Type} {l : List α} {r : Int} (h0 : 0 ≤ r) (h1 : r < l.length) : ∃ d, atI l r = some d ∧ d ∈ l := by
  have hlt : r.toNat < l.length := by omega
  refine ⟨l[r.toNat], ?_, List.getElem_mem hlt⟩
  have e : ixN l.length r = some r.toNat := by
    unfold ixN
    simp only [h0, if_true, hlt]
    first | rfl | (rw [if_pos (by omega)]) | simp [hlt]
  unfold atI
  rw [e]
  exact List.getElem?_eq_getElem hlt
theorem d_draw {P : D → Prop} {l : List D} {r : Int} (h0 : 0 ≤ r) (h1 : r < l.length) (h : ∀ d ∈ l, P d) : ixG (.lst l) (.int r) P := by
  obtain ⟨d, e, hm⟩ := at_ok h0 h1
  exact d_ixL ⟨d, e, h d hm⟩
theorem d_drawS {P : D → Prop} {z : Str} {r : Int} (h0 : 0 ≤ r) (h1 : r < z.length) (hz : z.length ≤ sizeLine) (h : ∀ c ∈ z.cps.toList, P (.str ⟨#[c]⟩)) : ixG (.str z) (.int r) P := by
  obtain ⟨c, e, hm⟩ := at_ok (l := z.cps.toList) h0 (by rw [Array.length_toList]; exact h1)
  exact ⟨hz, c, e, h c hm⟩
theorem all_cons {α : Type} {Q : α → Prop} {a : α} {l : List α} (h : Q a) (r : ∀ d, d ∈ l → Q d) : ∀ d, d ∈ a :: l → Q d := fun d hd => by
  rcases List.mem_cons.mp hd with e | e
  · rw [e]; exact h
  · exact r d e
theorem all_nil {α : Type} {Q : α → Prop} : ∀ d : α, d ∈ ([] : List α) → Q d := fun _ h => absurd h List.not_mem_nil
theorem strOk_app {a b : Str} (ha : PyData.strOk a = true) (hb : PyData.strOk b = true) : PyData.strOk (a ++ b) = true := by
  show (a.cps ++ b.cps).all _ = true
  rw [Array.all_append]
  unfold PyData.strOk at ha hb
  rw [ha, hb]
  rfl
theorem strOk_one {c : Nat} (h : c < 0x110000) : PyData.strOk ⟨#[c]⟩ = true := by
  unfold PyData.strOk
  simp [h]
/-! data fit to be shown, by levels -/
def okA (d : D) : Prop := d = .non ∨ (∃ b, d = .bl b) ∨ (∃ n : Int, d = .int n ∧ ((0 ≤ n ∧ n < 10 ^ 100) ∨ n = -1)) ∨ ∃ s, d = .str s ∧ s.length ≤ 40 ∧ PyData.strOk s = true
def okD : Nat → D → Prop
  | 0, d => okA d
  | n + 1, d => okA d ∨ ∃ ds, (d = .tup ds ∨ d = .lst ds) ∧ ds.length ≤ 30 ∧ ∀ e ∈ ds, okD n e
def okAb : D → Bool
  | .non => true
  | .bl _ => true
  | .int n => (decide (0 ≤ n) && decide (n < 10 ^ 100)) || decide (n = -1)
  | .str s => decide (s.length ≤ 40) && PyData.strOk s
  | _ => false
def okDb : Nat → D → Bool
  | 0, d => okAb d
  | n + 1, d => okAb d || match d with
    | .tup ds => decide (ds.length ≤ 30) && ds.all (okDb n)
    | .lst ds => decide (ds.length ≤ 30) && ds.all (okDb n)
    | _ => false
theorem okA_of {d : D} (h : okAb d = true) : okA d := by
  cases d with
  | non => exact .inl rfl
  | bl b => exact .inr (.inl ⟨b, rfl⟩)
  | int n =>
    have h' : ((decide (0 ≤ n) && decide (n < 10 ^ 100)) || decide (n = -1)) = true := h
    rw [Bool.or_eq_true, Bool.and_eq_true, decide_eq_true_eq, decide_eq_true_eq, decide_eq_true_eq] at h'
    exact .inr (.inr (.inl ⟨n, rfl, h'⟩))
  | str s =>
    have h' : (decide (s.length ≤ 40) && PyData.strOk s) = true := h
    rw [Bool.and_eq_true, decide_eq_true_eq] at h'
    exact .inr (.inr (.inr ⟨s, rfl, h'⟩))
  | _ => exact absurd h Bool.false_ne_true
theorem okD_of : ∀ {n : Nat} {d : D}, okDb n d = true → okD n d := by
  intro n
  induction n with
  | zero => exact fun h => okA_of h
  | succ n ih =>
    intro d h
    cases d with
    | tup ds =>
      have h' : (decide (ds.length ≤ 30) && ds.all (okDb n)) = true := h
      rw [Bool.and_eq_true, decide_eq_true_eq] at h'
      exact .inr ⟨ds, .inl rfl, h'.1, fun e he => ih (List.all_eq_true.mp h'.2 e he)⟩
    | lst ds =>
      have h' : (decide (ds.length ≤ 30) && ds.all (okDb n)) = true := h
      rw [Bool.and_eq_true, decide_eq_true_eq] at h'
      exact .inr ⟨ds, .inr rfl, h'.1, fun e he => ih (List.all_eq_true.mp h'.2 e he)⟩
    | _ => exact .inl (okA_of (by simpa [okDb] using h))
theorem okD.zero : ∀ {n : Nat} {d : D}, okD 0 d → okD n d
  | 0, _, h => h
  | _ + 1, _, h => .inl h
theorem okD.up : ∀ {n : Nat} {d : D}, okD n d → okD (n + 1) d
  | 0, _, h => .inl h
  | _ + 1, _, .inl h => .inl h
  | _ + 1, _, .inr ⟨ds, e, hl, h⟩ => .inr ⟨ds, e, hl, fun x hx => (h x hx).up⟩
theorem okD.sm : ∀ {n : Nat} {d : D}, okD n d → sm n d := by
  have z : ∀ {d : D}, okD 0 d → GG.sm 0 d := by
    rintro d (rfl | ⟨b, rfl⟩ | ⟨n, rfl, _⟩ | ⟨s, rfl, h1, h2⟩)
    · exact ⟨rfl, fun s e => by cases e⟩
    · exact ⟨rfl, fun s e => by cases e⟩
    · exact ⟨rfl, fun s e => by cases e⟩
    · exact ⟨rfl, fun t e => by cases e; exact ⟨by omega, h2⟩⟩
  have notup : ∀ {d : D} {ds : List D}, okD 0 d → d ≠ .tup ds := by
    rintro d ds (rfl | ⟨b, rfl⟩ | ⟨n, rfl, _⟩ | ⟨s, rfl, h1, h2⟩) e <;> cases e
  intro n
  induction n with
  | zero => exact fun h => z h
  | succ n ih =>
    rintro d (h | ⟨ds, e, hl, h⟩)
    · exact ⟨z h, fun ds e => absurd e (notup h)⟩
    · rcases e with rfl | rfl
      · exact ⟨⟨rfl, fun s e => by cases e⟩, fun es e => by cases e; exact ⟨by omega, fun x hx => ih (h x hx)⟩⟩
      · exact ⟨⟨rfl, fun s e => by cases e⟩, fun es e => by cases e⟩
def bnd : Nat → Nat
  | 0 => 402
  | n + 1 => 30 * (bnd n + 2) + 402
theorem ink_of {s : Str} (h : PyData.strOk s = true) : (s.cps.toList.all fun c => decide (c < 16 ^ 8)) = true := by
  rw [List.all_eq_true]
  intro c hc
  unfold PyData.strOk at h
  rw [Array.all_eq_true'] at h
  have := h c (by simpa using hc)
  have h2 : c < 0x110000 := by simpa using this
  exact decide_eq_true (by omega)
structure Fit (n : Nat) (d : D) : Prop where
  plain : plainD d = true
  ink : inkD d = true
  wt : wtD d ≤ bnd n
  showable : (toPy d).showable = true
  deep : (toPy d).depth ≤ n
structure Fits (n : Nat) (ds : List D) : Prop where
  plain : plainDs ds = true
  ink : inkDs ds = true
  wt : wtDs ds ≤ ds.length * (bnd n + 2)
  showable : PyData.showableAll (toPys ds) = true
  deep : PyData.depthAll (toPys ds) ≤ n
theorem fits_of {n : Nat} : ∀ {ds : List D}, (∀ e ∈ ds, Fit n e) → Fits n ds
  | [], _ => ⟨by simp [plainDs], by simp [inkDs], by simp [wtDs], by simp [toPys, PyData.showableAll], by simp [toPys, PyData.depthAll]⟩
  | d :: ds, h => by
    have a := h d List.mem_cons_self
    have b := fits_of fun e he => h e (List.mem_cons_of_mem _ he)
    refine ⟨by simp [plainDs, a.plain, b.plain], by simp [inkDs, a.ink, b.ink], ?_, by simp [toPys, PyData.showableAll, a.showable, b.showable], ?_⟩
    · have h1 := a.wt
      have h2 := b.wt
      simp only [wtDs, List.length_cons, Nat.add_mul, Nat.one_mul]
      omega
    · have h1 := a.deep
      have h2 := b.deep
      simp only [toPys, PyData.depthAll]
      omega
theorem log_100 {n : Int} (h : 0 ≤ n ∧ n < 10 ^ 100) : n.natAbs.log2 < 1920 := by
  by_cases z : n.natAbs = 0
  · rw [z]; decide
  · rw [Nat.log2_lt z]
    have : n.natAbs < 10 ^ 100 := by omega
    exact Nat.lt_trans this (by decide +kernel)
theorem okD.fit : ∀ {n : Nat} {d : D}, okD n d → Fit n d := by
  have z : ∀ {n : Nat} {d : D}, okD 0 d → Fit n d := by
    intro n d h
    have hb : 402 ≤ bnd n := by cases n <;> simp [bnd]
    rcases h with rfl | ⟨b, rfl⟩ | ⟨i, rfl, hi⟩ | ⟨s, rfl, h1, h2⟩
    · exact ⟨rfl, rfl, by simp only [wtD]; omega, by simp [toPy, PyData.showable], by simp [toPy, PyData.depth]⟩
    · exact ⟨rfl, rfl, by simp only [wtD]; omega, by simp [toPy, PyData.showable], by simp [toPy, PyData.depth]⟩
    · refine ⟨rfl, rfl, ?_, ?_, by simp [toPy, PyData.depth]⟩
      · simp only [wtD]
        split
        · omega
        · rcases hi with hi | rfl
          · exact absurd hi (by assumption)
          · exact Nat.le_trans (show (toString (-1 : Int) : Str).length ≤ 402 by decide +kernel) hb
      · have : i.natAbs.log2 < 1920 := by
          rcases hi with hi | rfl
          · exact log_100 hi
          · decide
        simp [toPy, PyData.showable, this]
    · refine ⟨rfl, by simp only [inkD]; exact ink_of h2, by simp only [wtD]; omega, by simp [toPy, PyData.showable], by simp [toPy, PyData.depth]⟩
  intro n
  induction n with
  | zero => exact fun h => z h
  | succ n ih =>
    rintro d (h | ⟨ds, e, hl, h⟩)
    · exact z h
    · have f := fits_of fun x hx => ih (h x hx)
      have hw : wtDs ds + 2 ≤ bnd (n + 1) := by
        have h1 := f.wt
        have h2 : ds.length * (bnd n + 2) ≤ 30 * (bnd n + 2) := Nat.mul_le_mul_right _ hl
        simp only [bnd]
        omega
      have h1 := f.deep
      rcases e with rfl | rfl
      · exact ⟨by simp only [plainD]; exact f.plain, by simp only [inkD]; exact f.ink, by simp only [wtD]; exact hw, by simp only [toPy, PyData.showable]; exact f.showable, by simp only [toPy, PyData.depth]; omega⟩
      · exact ⟨by simp only [plainD]; exact f.plain, by simp only [inkD]; exact f.ink, by simp only [wtD]; exact hw, by simp only [toPy, PyData.showable]; exact f.showable, by simp only [toPy, PyData.depth]; omega⟩
theorem okD.shw {n : Nat} {d : D} (h : okD n d) (hn : n ≤ 3) : Shw d := by
  have f := h.fit
  refine ⟨.inl f.plain, f.showable, ?_, by have := f.deep; omega⟩
  have h1 := sh_len d f.plain f.ink
  have h2 := f.wt
  have hb : bnd n ≤ sizeLine := by
    have : n = 0 ∨ n = 1 ∨ n = 2 ∨ n = 3 := by omega
    rcases this with rfl | rfl | rfl | rfl <;> decide +kernel
  omega
theorem okD.tup {n : Nat} {ds : List D} (hl : ds.length ≤ 30) (h : ∀ e ∈ ds, okD n e) : okD (n + 1) (.tup ds) := .inr ⟨ds, .inl rfl, hl, h⟩
theorem okD.lst {n : Nat} {ds : List D} (hl : ds.length ≤ 30) (h : ∀ e ∈ ds, okD n e) : okD (n + 1) (.lst ds) := .inr ⟨ds, .inr rfl, hl, h⟩
end GG
set_option maxHeartbeats 4000000
/-! G15: objects: fields, properties, methods, making; defs that ask nothing of repr. -/
namespace GG
open PySem PySem.Spec PyProof.Rows L2

/-! ### defs that ask nothing of repr -/
theorem FnG.of_ok {P : Program} {w : World} {K : PySem.W.Frag} {mg : Str → Option Value} {base : Heap} {CX : CXT} {k : Nat} {f : Addr} {fd : FuncData} {ps : List Str} {sp : Sp} (F : FnOk P w K mg base CX k f fd ps sp) : FnG P w K mg base CX k f fd ps sp :=
  ⟨F.len, fun A outer s H args us vs Q E _ => F.run A outer s H args us vs Q E⟩
section
variable {P : Program} {w : World} {K : PySem.W.Frag} {mg : Str → Option Value} {base : Heap} {x qual : Str} {params : Arguments} {body : List Stmt} {scope : Scope} {dvs : List V} {kws : List (Str × V)} {f : Addr} {fd : FuncData}
theorem defO {N ps : List Str} {k n : Nat} {R : SJ → List D → Prop} {G : List D → (D → Prop) → Prop} (F : FunD K x qual params body scope dvs kws f fd) (S : FnScope N ps scope) (hn : ps.length = n)
    (hb : ∀ (cdv : Value) (A : Around) (outer : List Env) (s : Shared) (H : Hp) (E : XK) (C : SJ) (ds : List D) (T : D → Prop), Room k (A.deeper (envOfC qual scope s.heap.objs.size f cdv)) → ds.length = n → R C ds → G ds T →
      Bl (cxOf CX0 P w K mg base N qual scope f cdv A outer s H E).nox C (start0 N ds) body { C0 := C, N := fun C' _ => Ext C C' ∧ T .non, R := T }) : FnOk P w K mg base CX0 (k + 1) f fd ps (spC K n R G) := by
  refine F.ok S (fun vs H Q E ⟨C, ds, T, h1, _, _, _, r, _⟩ => by rw [r.len, h1, hn]) ?_
  intro cdv A outer s H vs Q E hr ⟨C, ds, T, h1, hR, t, j, r, g, q⟩
  have b := hb cdv A outer s H E C ds T hr h1 hR g
  refine ⟨_, PSs.nox (X := cxOf CX0 P w K mg base N qual scope f cdv A outer s H E) pss_wb, ?_⟩
  exact b (L2.start N vs) H (good0 t j r) { nx := fun _ H' => Q .non H', rt := Q } ⟨fun C' σ' H' Γ' e g' p => q .non .non H' ⟨e.trans (cut_less p.1.sub), p.1.trk g'.trk, p.1.jj g'.j⟩ .non p.2, fun v d H' e t' j' r' p => q v d H' ⟨e, t', j'⟩ r' p, fun _ _ _ _ _ _ z => z.elim, fun _ _ _ _ _ _ z => z.elim, fun _ _ _ _ _ _ _ _ _ _ z => z.elim, fun _ _ _ _ _ _ _ _ z => z.elim⟩
end
structure DefdO (P : Program) (w : World) (K : PySem.W.Frag) (mg : Str → Option Value) (base : Heap) (x : Str) (k n : Nat) (R : SJ → List D → Prop) (G : List D → (D → Prop) → Prop) : Prop where
  ex : ∃ (f : Addr) (fd : FuncData) (ps : List Str), FnOk P w K mg base CX0 k f fd ps (spC K n R G) ∧ mg x = some (.ref f) ∧ PySem.W.keepIn K (.ref f) = true ∧ Binds K fd ps []
theorem DefdO.g {P : Program} {w : World} {K : PySem.W.Frag} {mg : Str → Option Value} {base : Heap} {x : Str} {k n : Nat} {R : SJ → List D → Prop} {G : List D → (D → Prop) → Prop} (F : DefdO P w K mg base x k n R G) : Defd P w K mg base x k n R G :=
  let ⟨f, fd, ps, h, r⟩ := F.ex; ⟨f, fd, ps, .of_ok h, r⟩
/-- a method of a class, its self counted -/
structure MethD (P : Program) (w : World) (K : PySem.W.Frag) (mg : Str → Option Value) (base : Heap) (Cl : Addr) (m : Str) (k n : Nat) (R : SJ → List D → Prop) (G : List D → (D → Prop) → Prop) : Prop where
  ex : ∃ (f : Addr) (fd : FuncData) (ps : List Str), FnOk P w K mg base CX0 k f fd ps (spC K n R G) ∧ Cls K Cl ∧ Meth K Cl m f ∧ Binds K fd ps []
structure PropD (P : Program) (w : World) (K : PySem.W.Frag) (mg : Str → Option Value) (base : Heap) (Cl : Addr) (m : Str) (k : Nat) (R : SJ → List D → Prop) (G : List D → (D → Prop) → Prop) : Prop where
  ex : ∃ (p f : Addr) (fd : FuncData) (ps : List Str), FnOk P w K mg base CX0 k f fd ps (spC K 1 R G) ∧ Cls K Cl ∧ PropOf K Cl m p f ∧ Binds K fd ps []

theorem DDf.get {K : PySem.W.Frag} {S : Hp} : ∀ {fs : List (Str × V)} {gs : List (Str × D)} {f : Str} {d : D}, DDf K S fs gs → gs.lookup f = some d → ∃ v, fs.lookup f = some v ∧ DD K S v d
  | _, _, _, _, .nil, e => by simp at e
  | _, _, f, d, .cons (k := k) (v := v) (vs := vs) h r, e => by
    rw [List.lookup_cons] at e ⊢
    cases b : f == k with
    | true => rw [b] at e; cases e; exact ⟨v, rfl, h⟩
    | false => rw [b] at e; exact DDf.get r e
theorem DDf.non {K : PySem.W.Frag} {S : Hp} : ∀ {fs : List (Str × V)} {gs : List (Str × D)} {f : Str}, DDf K S fs gs → gs.lookup f = none → fs.lookup f = none
  | _, _, _, .nil, _ => rfl
  | _, _, f, .cons (k := k) h r, e => by
    rw [List.lookup_cons] at e ⊢
    cases b : f == k with
    | true => rw [b] at e; cases e
    | false => rw [b] at e; exact DDf.non r e
theorem DDf.len {K : PySem.W.Frag} {S : Hp} : ∀ {fs : List (Str × V)} {gs : List (Str × D)}, DDf K S fs gs → fs.length = gs.length
  | _, _, .nil => rfl
  | _, _, .cons _ r => by rw [List.length_cons, List.length_cons, DDf.len r]
theorem ddf_mono {K : PySem.W.Frag} {S S' : Hp} (e : Same S S') {fs : List (Str × V)} {gs : List (Str × D)} (h : DDf K S fs gs) : DDf K S' fs gs := DDf.mono e h
def putD (f : Str) (v : D) : List (Str × D) → List (Str × D)
  | [] => [(f, v)]
  | (g, x) :: r => if g = f then (g, v) :: r else (g, x) :: putD f v r
theorem DDf.put {K : PySem.W.Frag} {S : Hp} {f : Str} {v : V} {d : D} (hv : DD K S v d) : ∀ {fs : List (Str × V)} {gs : List (Str × D)}, DDf K S fs gs → DDf K S (putF f v fs) (putD f d gs)
  | _, _, .nil => .cons hv .nil
  | _, _, .cons (k := k) h r => by
    unfold putF putD
    split
    · exact .cons hv r
    · exact .cons h (DDf.put hv r)
theorem putD_len (f : Str) (v : D) : ∀ gs : List (Str × D), (putD f v gs).length ≤ gs.length + 1
  | [] => Nat.le_refl _
  | (g, x) :: r => by
    unfold putD
    split
    · simp
    · have := putD_len f v r; simp; omega

section
variable {X : Cx} {C : SJ} {Γ : En} {P : D → Prop} {x f m : Str} {p pos apos : Pos} {e o : Expr} {es : List Expr} {R : SJ → List D → Prop} {G : List D → (D → Prop) → Prop} {k n : Nat} {Cl : Addr}
theorem ev_callO (F : DefdO X.prog X.w X.K X.mg X.base x k n R G) (hr : Room k X.A) (h : EvA X C Γ (e :: es) fun ds => ds.length = n ∧ R C ds ∧ G ds P) (hg : Gl X x := by rfl) (hdb : (x == ("__debug__" : Str)) = false := by decide)
    (he : starEach (e :: es) X.env = (false, eval e X.env) :: starEach es X.env := by rfl) (hpl : (backTo pos (starEach es X.env)).any (·.1) = false := by rfl) : Ev X C Γ (.Call (.Name x p) (e :: es) [] pos) P := fun σ H g Q q => by
  obtain ⟨f, fd, ps, F, hm, hk, hb⟩ := F.ex
  refine we_of (pe_call F hr hg hm hk hb .nil L2.pass0 pa_wa hdb he hpl) (h σ H g _ fun vs ds H1 s1 r1 ⟨hn, hR, hD⟩ => ?_)
  rw [List.append_nil]
  exact ⟨C, ds, P, hn, hR, s1.trk, s1.j, r1, hD, fun v d H2 s2 r2 p => q v d H2 (s1.trans s2) r2 p⟩
/-- e.f, a field of the instance -/
theorem ev_fld (hc : Cls X.K Cl) (hn : NoAttr X.K Cl f) (h : Ev X C Γ e fun d => ∃ gs, d = .obj Cl gs ∧ ∃ y, gs.lookup f = some y ∧ P y) (hb : attributeBase e f X.env (eval e X.env) = eval e X.env := by rfl) : Ev X C Γ (.Attribute e f pos) P := fun σ H g Q q =>
  we_of (pe_fld pe_we hb) (h σ H g _ fun v d H1 s1 r1 ⟨gs, ed, y, hy, p⟩ => by
    subst ed
    cases r1 with
    | obj hi hf =>
      obtain ⟨u, hu, ru⟩ := hf.get hy
      exact ⟨_, _, _, _, u, rfl, cut_sub _ _ _ _ hi, hc, hn, hu, q u y H1 s1 ru p⟩)
/-- e.f, a property -/
theorem ev_prop (F : PropD X.prog X.w X.K X.mg X.base Cl f k R G) (hr : Room (k + 1) X.A) (h : Ev X C Γ e fun d => ∃ gs, d = .obj Cl gs ∧ R C [d] ∧ G [d] P) (hb : attributeBase e f X.env (eval e X.env) = eval e X.env := by rfl) : Ev X C Γ (.Attribute e f pos) P := fun σ H g Q q => by
  obtain ⟨pa, fa, fd, ps, F, hc, hp, hbi⟩ := F.ex
  refine we_of (pe_prop pe_we hc hp F hr hbi .nil L2.pass0 hb) (h σ H g _ fun v d H1 s1 r1 ⟨gs, ed, hR, hG⟩ => ?_)
  subst ed
  cases r1 with
  | obj hi hf => exact ⟨_, _, _, rfl, cut_sub _ _ _ _ hi, C, [.obj Cl gs], P, rfl, hR, s1.trk, s1.j, .cons (.obj hi hf) .nil, hG, fun v d H2 s2 r2 p => q v d H2 (s1.trans s2) r2 p⟩
/-- o.m(e, ..) -/
theorem ev_meth {pl : Sem Bool} (F : MethD X.prog X.w X.K X.mg X.base Cl m k n R G) (hr : Room k X.A) (h : Ev X C Γ o fun d => ∃ gs, d = .obj Cl gs ∧ gs.lookup m = none ∧ EvA X C Γ (e :: es) fun ds => ds.length + 1 = n ∧ R C (d :: ds) ∧ G (d :: ds) P)
    (hst : starEach (e :: es) X.env = (false, eval e X.env) :: starEach es X.env := by rfl) (hpl : (backTo pos (starEach es X.env)).any (·.1) = false := by rfl)
    (ht : eval (.Call (.Attribute o m apos) (e :: es) [] pos) X.env = (do
      let ov ← eval o X.env
      standAt apos.atName
      let (f, first) ← holding [ov] (getMethod ov m pl)
      callWith pos f first (backTo pos (starEach (e :: es) X.env)) (backToKw pos (keywordEach [] X.env))) := by rfl) : Ev X C Γ (.Call (.Attribute o m apos) (e :: es) [] pos) P := fun σ H g Q q => by
  obtain ⟨fa, fd, ps, F, hc, hm, hb⟩ := F.ex
  refine we_of (pe_meth (pl := pl) pe_we hc hm F hr hb .nil L2.pass0 pa_wa hst hpl ht) (h σ H g _ fun v d H1 s1 r1 ⟨gs, ed, hl, h2⟩ => ?_)
  subst ed
  cases r1 with
  | obj hi hf =>
    refine ⟨_, _, _, rfl, cut_sub _ _ _ _ hi, hf.non hl, h2 σ H1 (g.step s1) _ fun vs ds H2 s2 r2 ⟨hn, hR, hG⟩ => ?_⟩
    rw [List.append_nil]
    exact ⟨C, .obj Cl gs :: ds, P, hn, hR, s2.trk, s2.j, .cons (DD.mono s2.same (.obj hi hf)) r2, hG, fun v d H3 s3 r3 p => q v d H3 ((s1.trans s2).trans s3) r3 p⟩
/-- o.m() -/
theorem ev_meth0 {pl : Sem Bool} (F : MethD X.prog X.w X.K X.mg X.base Cl m k 1 R G) (hr : Room k X.A) (h : Ev X C Γ o fun d => ∃ gs, d = .obj Cl gs ∧ gs.lookup m = none ∧ R C [d] ∧ G [d] P)
    (ht : eval (.Call (.Attribute o m apos) [] [] pos) X.env = (do
      let ov ← eval o X.env
      standAt apos.atName
      let (f, first) ← holding [ov] (getMethod ov m pl)
      callWith pos f first (backTo pos (starEach [] X.env)) (backToKw pos (keywordEach [] X.env))) := by rfl) : Ev X C Γ (.Call (.Attribute o m apos) [] [] pos) P := fun σ H g Q q => by
  obtain ⟨fa, fd, ps, F, hc, hm, hb⟩ := F.ex
  refine we_of (pe_meth0 (pl := pl) pe_we hc hm F hr hb .nil L2.pass0 ht) (h σ H g _ fun v d H1 s1 r1 ⟨gs, ed, hl, hR, hG⟩ => ?_)
  subst ed
  cases r1 with
  | obj hi hf =>
    exact ⟨_, _, _, rfl, cut_sub _ _ _ _ hi, hf.non hl, C, [.obj Cl gs], P, rfl, hR, s1.trk, s1.j, .cons (.obj hi hf) .nil, hG, fun v d H2 s2 r2 p => q v d H2 (s1.trans s2) r2 p⟩
end

/-! ### an object that is being made -/
def ownO (K : PySem.W.Frag) (C : SJ) (x dx Cl : Addr) (gs : List (Str × D)) : SJ where
  M := x :: dx :: C.M
  J := fun S H => C.J S H ∧ (x ≠ dx ∧ x ∉ C.M ∧ dx ∉ C.M) ∧ ∃ fs, H x = some (.ins Cl dx fs) ∧ H dx = some (.own x) ∧ DDf K S fs gs
  st := fun S S' H H' ⟨h1, h2, fs, h3, h4, h5⟩ e k => ⟨C.st S S' H H' h1 e fun a ha => k a (List.mem_cons_of_mem _ (List.mem_cons_of_mem _ ha)), h2, fs, (k x List.mem_cons_self).trans h3, (k dx (List.mem_cons_of_mem _ List.mem_cons_self)).trans h4, h5.mono e⟩
/-- the promise of __init__ -/
def spI (K : PySem.W.Frag) (Cl : Addr) (n : Nat) (R : SJ → List D → Prop) (G : List D → (List (Str × D) → Prop) → Prop) : Sp := fun vs H Q _ =>
  ∃ (C : SJ) (x dx : Addr) (us : List V) (ds : List D) (P : List (Str × D) → Prop), vs = .ref x :: us ∧ ds.length = n ∧ R C ds ∧ Trk (ownO K C x dx Cl []).M H ∧ (ownO K C x dx Cl []).J (cut (x :: dx :: C.M) H) H ∧ DDs K (cut (x :: dx :: C.M) H) us ds ∧ G ds P ∧
    ∀ gs H', Same (cut (x :: dx :: C.M) H) (cut (x :: dx :: C.M) H') → Trk (ownO K C x dx Cl gs).M H' → (ownO K C x dx Cl gs).J (cut (x :: dx :: C.M) H') H' → P gs → Q .non H'
section
variable {P : Program} {w : World} {K : PySem.W.Frag} {mg : Str → Option Value} {base : Heap} {x qual : Str} {params : Arguments} {body : List Stmt} {scope : Scope} {dvs : List V} {kws : List (Str × V)} {f : Addr} {fd : FuncData}
theorem defI {Cl : Addr} {N ps : List Str} {k n : Nat} {R : SJ → List D → Prop} {G : List D → (List (Str × D) → Prop) → Prop} (F : FunD K x qual params body scope dvs kws f fd) (S : FnScope N ps scope) (hn : ps.length = n + 1)
    (hb : ∀ (cdv : Value) (A : Around) (outer : List Env) (s : Shared) (H : Hp) (E : XK) (C : SJ) (a dx : Addr) (ds : List D) (T : List (Str × D) → Prop), Room k (A.deeper (envOfC qual scope s.heap.objs.size f cdv)) → ds.length = n → R C ds → G ds T →
      Bl (cxOf CX0 P w K mg base N qual scope f cdv A outer s H E).nox (ownO K C a dx Cl []) (start0 N (.adr a :: ds)) body { C0 := ownO K C a dx Cl [], N := fun C' _ => ∃ gs, C' = ownO K C a dx Cl gs ∧ T gs, R := fun _ => False }) : FnOk P w K mg base CX0 (k + 1) f fd ps (spI K Cl n R G) := by
  refine F.ok S (fun vs H Q E ⟨C, a, dx, us, ds, T, e, h1, _, _, _, r, _⟩ => by rw [e, List.length_cons, r.len, h1, hn]) ?_
  intro cdv A outer s H vs Q E hr ⟨C, a, dx, us, ds, T, ev, h1, hR, t, j, r, g, q⟩
  subst ev
  have b := hb cdv A outer s H E C a dx ds T hr h1 hR g
  refine ⟨_, PSs.nox (X := cxOf CX0 P w K mg base N qual scope f cdv A outer s H E) pss_wb, ?_⟩
  exact b (L2.start N (.ref a :: us)) H (good0 t j (.cons (.adr a) r)) { nx := fun _ H' => Q .non H', rt := Q } ⟨fun C' σ' H' Γ' e g' ⟨gs, ec, p⟩ => by subst ec; exact q gs H' e g'.trk g'.j p, fun _ _ _ _ _ _ _ z => z.elim, fun _ _ _ _ _ _ z => z.elim, fun _ _ _ _ _ _ z => z.elim, fun _ _ _ _ _ _ _ _ _ _ z => z.elim, fun _ _ _ _ _ _ _ _ z => z.elim⟩
end
section
variable {X : Cx} {C : SJ} {Γ : En} {O : Out} {rest : List Stmt}
/-- self.f = e -/
theorem bl_fld {x dx Cl : Addr} {gs : List (Str × D)} {o e : Expr} {f : Str} {pos' pos : Pos} (hc : Cls X.K Cl) (hn : NoAttr X.K Cl f) (hl : gs.length ≤ 900)
    (h : Ev X (ownO X.K C x dx Cl gs) Γ e fun y => Ev X (ownO X.K C x dx Cl gs) Γ o fun d => d = .adr x ∧ Bl X (ownO X.K C x dx Cl (putD f y gs)) Γ rest O) (hs : swapsWith e (some (.Attribute o f pos')) pos.line X.env = pure false := by rfl) :
    Bl X (ownO X.K C x dx Cl gs) Γ (.Assign [.Attribute o f pos'] e pos :: rest) O := bl_seq fun σ H g E b =>
  ws_of (ps_fld pe_we pe_we hs) (h σ H g _ fun v y H1 s1 r1 h1 => h1 σ H1 (g.step s1) _ fun u d H2 s2 r2 ⟨ed, bl⟩ => by
    subst ed
    cases r2
    have g2 := g.step (s1.trans s2)
    obtain ⟨j1, j2, fs, hx, hdx, hf⟩ := g2.j
    have em : cut (x :: dx :: C.M) (upd H2 x (.ins Cl dx (putF f v fs))) = cut (x :: dx :: C.M) H2 := cut_same_upd List.mem_cons_self
    refine ⟨x, Cl, dx, fs, rfl, hx, hc, hn, by rw [hf.len]; omega, ?_⟩
    refine b.nx (ownO X.K C x dx Cl (putD f y gs)) σ _ Γ ?_ ⟨g2.len, fun a ha => ?_, ⟨?_, j2, _, upd_same, by rw [upd_ne (Ne.symm j2.1)]; exact hdx, ?_⟩, ?_⟩ bl
    · show Same (cut (x :: dx :: C.M) H) (cut (x :: dx :: C.M) _)
      rw [em]
      exact (s1.trans s2).same
    · by_cases z : a = x
      · subst z; rw [upd_same]; exact fun z => by cases z
      · rw [upd_ne z]; exact g2.trk a ha
    · show C.J (cut (x :: dx :: C.M) _) _
      rw [em]
      exact C.st _ _ _ _ j1 (Same.refl _) fun a ha => upd_ne fun z => j2.2.1 (z ▸ ha)
    · show DDf X.K (cut (x :: dx :: C.M) _) _ _
      rw [em]
      exact DDf.put (r1.mono s2.same) hf
    · show Bnd X.K (cut (x :: dx :: C.M) _) σ Γ
      rw [em]
      exact g2.bnd)
end
/-! ### making, by keywords -/
def WK (X : Cx) (kws : List Keyword) : TA := fun σ H Q => ∀ (pos : Pos) pins s, Inv X pins σ H s → wpAny (model X.prog X.w) X.A (evalAll ((backToKw pos (keywordEach kws X.env)).map (·.2))) (AP X pins σ Q) X.xe s
theorem pk_wk {X : Cx} {kws : List Keyword} : PK X kws (WK X kws) := ⟨fun pos pins s _ _ _ I h => h pos pins s I⟩
def EvK (X : Cx) (C : SJ) (Γ : En) (kws : List Keyword) (P : List D → Prop) : Prop :=
  ∀ σ H, Good C X.K σ H Γ → ∀ Q : List V → Hp → Prop, (∀ vs ds H', Step C H H' → DDs X.K (cut C.M H') vs ds → P ds → Q vs H') → WK X kws σ H Q
section
variable {X : Cx} {C : SJ} {Γ : En}
theorem ek_nil {P : List D → Prop} (p : P []) : EvK X C Γ [] P := fun σ H g Q q pos pins s I => pk_nil.run pos pins s σ H Q I (q _ _ H g.refl .nil p)
theorem ek_cons {P : List D → Prop} {nm : Option Str} {e : Expr} {kpos : Pos} {kws : List Keyword} (h : Ev X C Γ e fun d => EvK X C Γ kws fun ds => P (d :: ds)) : EvK X C Γ (⟨nm, e, kpos⟩ :: kws) P := fun σ H g Q q pos pins s I =>
  (pk_cons pe_we pk_wk).run pos pins s σ H Q I (h σ H g _ fun v d H1 s1 r1 h1 => h1 σ H1 (g.step s1) _ fun vs ds H2 s2 r2 p => q _ _ H2 (s1.trans s2) (.cons (r1.mono s2.same) r2) p)
/-- a class that is made by keywords alone: ks the keywords' names as they are written, ord: the order in which the parameters take them -/
structure MakeD (P : Program) (w : World) (K : PySem.W.Frag) (mg : Str → Option Value) (base : Heap) (x : Str) (Cl : Addr) (k n : Nat) (ks : List Str) (ord : List D → List D) (R : SJ → List D → Prop) (G : List D → (List (Str × D) → Prop) → Prop) : Prop where
  ex : ∃ (f : Addr) (fd : FuncData) (ps : List Str) (g : List Value → List Value → List Value) (gV : List V → List V → List V), Mk K Cl f ∧ FnOk P w K mg base CX0 k f fd ps (spI K Cl n R G) ∧ mg x = some (.ref Cl) ∧ KBn K fd ps 1 ks g gV ∧
    ∀ (S : Hp) (a : Addr) (vs : List V) (ds : List D), DDs K S vs ds → ds.length = ks.length → ∃ us, gV [.ref a] vs = .ref a :: us ∧ DDs K S us (ord ds)
theorem ev_make {x : Str} {Cl : Addr} {k n : Nat} {ks : List Str} {ord : List D → List D} {R : SJ → List D → Prop} {G : List D → (List (Str × D) → Prop) → Prop} {P : D → Prop} {p pos : Pos} {kws : List Keyword} (F : MakeD X.prog X.w X.K X.mg X.base x Cl k n ks ord R G) (hr : Room (k + 1) X.A)
    (h : EvK X C Γ kws fun ds => ds.length = ks.length ∧ (ord ds).length = n ∧ R C (ord ds) ∧ G (ord ds) fun gs => P (.obj Cl gs)) (hg : Gl X x := by rfl)
    (hall : (backToKw pos (keywordEach kws X.env)).all (·.1.isSome) = true := by rfl) (hks : (backToKw pos (keywordEach kws X.env)).filterMap (·.1) = ks := by rfl) (hdb : (x == ("__debug__" : Str)) = false := by decide)
    (hpl : ((backTo pos (starEach [] X.env)).any (·.1) || (backToKw pos (keywordEach kws X.env)).any (·.1.isNone)) = false := by rfl) : Ev X C Γ (.Call (.Name x p) [] kws pos) P := fun σ H g Q q => by
  obtain ⟨f, fd, ps, gg, gV, M, F, hm, hb, ho⟩ := F.ex
  refine we_of (pe_makeK0 M F hr hg hm hb (E := fun _ _ _ => False) L2.pass0 pk_wk hall hks hdb hpl) ?_
  show WK X kws σ H _
  refine h σ H g _ fun vs ds H1 s1 r1 ⟨hk, hl, hR, hG⟩ => ⟨rfl, by rw [r1.len]; exact hk, fun a dx ha hdx hne => ?_⟩
  have am : a ∉ C.M := fun m => s1.trk a m ha
  have dm : dx ∉ C.M := fun m => s1.trk dx m hdx
  have hx : (upd (upd H1 dx (.own a)) a (.ins Cl dx [])) a = some (.ins Cl dx []) := upd_same
  have hd : (upd (upd H1 dx (.own a)) a (.ins Cl dx [])) dx = some (.own a) := by rw [upd_ne hne, upd_same]
  have out : ∀ b, b ≠ a → b ≠ dx → (upd (upd H1 dx (.own a)) a (.ins Cl dx [])) b = H1 b := fun b h1 h2 => by rw [upd_ne h1, upd_ne h2]
  have sm : Same (cut C.M H1) (cut (a :: dx :: C.M) (upd (upd H1 dx (.own a)) a (.ins Cl dx []))) := fun b o hb => by
    unfold cut at hb ⊢
    split at hb
    · cases hb
    · rename_i hn
      have n1 : b ≠ a := fun z => by rw [z, ha] at hb; cases hb
      have n2 : b ≠ dx := fun z => by rw [z, hdx] at hb; cases hb
      rw [if_neg (by simp only [List.mem_cons, not_or]; exact ⟨n1, n2, hn⟩), out b n1 n2]
      exact hb
  obtain ⟨us, eu, ru⟩ := ho _ a vs ds (r1.mono sm) hk
  rw [eu]
  refine ⟨C, a, dx, us, ord ds, _, rfl, hl, hR, fun b hb => ?_, ⟨C.st _ _ _ _ s1.j sm fun b hb => out b (fun z => am (z ▸ hb)) fun z => dm (z ▸ hb), ⟨Ne.symm hne, am, dm⟩, [], hx, hd, .nil⟩, ru, hG, fun gs H' se t j pg => ⟨rfl, ?_⟩⟩
  · rcases List.mem_cons.mp hb with z | z
    · rw [z, hx]; exact fun z => by cases z
    · rcases List.mem_cons.mp z with z | z
      · rw [z, hd]; exact fun z => by cases z
      · rw [out b (fun e => am (e ▸ z)) fun e => dm (e ▸ z)]; exact s1.trk b z
  · obtain ⟨j1, _, fs, h1, _, h3⟩ := j
    have less : Same (cut (a :: dx :: C.M) H') (cut C.M H') := cut_less fun _ z => List.mem_cons_of_mem _ (List.mem_cons_of_mem _ z)
    refine q (.ref a) (.obj Cl gs) H' ⟨((s1.same.trans sm).trans se).trans less, fun b hb => t b (List.mem_cons_of_mem _ (List.mem_cons_of_mem _ hb)), C.st _ _ _ _ j1 less fun _ _ => rfl⟩ (.obj (by unfold cut; rw [if_neg am]; exact h1) ?_) pg
    exact ddf_mono less h3
end
end GG
set_option maxHeartbeats 4000000
/-! G16: expressions that change what is the code's own: pops, dicts in the making, defs that change their caller's list. -/
namespace GG
open PySem PySem.Spec PyProof.Rows L2

/-! ### expressions behind which the context is another -/
def EvX (X : Cx) (C : SJ) (Γ : En) (e : Expr) (P : SJ → D → Prop) : Prop :=
  ∀ σ H, Good C X.K σ H Γ → ∀ Q : VK, (∀ v d C' H', Same (cut C.M H) (cut C'.M H') → Good C' X.K σ H' Γ → DD X.K (cut C'.M H') v d → P C' d → Q v H') → WE X e σ H Q
section
variable {X : Cx} {C : SJ} {Γ : En} {O : Out} {rest : List Stmt}
theorem ex_of {e : Expr} {P : SJ → D → Prop} (h : Ev X C Γ e (P C)) : EvX X C Γ e P := fun σ H g Q q => h σ H g Q fun v d H1 s1 r1 p => q v d C H1 s1.same (g.step s1) r1 p
theorem bl_asgX (i : Nat) {x : Str} {e : Expr} {pos pos' : Pos} (h : EvX X C Γ e fun C' d => Bl X C' (Γ.set i (some d)) rest O) (hN : X.N.Nodup) (hi : X.N[i]? = some x := by rfl) (hx : Loc X.env.scope x := by first | exact Or.inl rfl | exact Or.inr rfl)
    (hs : swapsWith e (some (.Name x pos')) pos.line X.env = pure false := by rfl) (hf : X.fn x = true ∨ X.env.scope.names.lookup x = some .local := by first | exact .inl rfl | exact .inr rfl) : Bl X C Γ (.Assign [.Name x pos'] e pos :: rest) O := bl_seq fun σ H g E b =>
  ws_of (ps_set hN hi hx pe_we hs hf) (h σ H g _ fun v d C' H1 s1 g1 r1 p => b.nx C' _ H1 _ s1 (g1.set r1) p)
end

/-! ### a list that is one of the context's own, with any content -/
structure FamL (K : PySem.W.Frag) (l : Addr) (CF : List D → SJ) : Prop where
  mem : ∀ a, l ∈ (CF a).M
  M : ∀ a a', (CF a').M = (CF a).M
  get : ∀ a S H, (CF a).J S H → ∃ xs, H l = some (.lst xs) ∧ DDs K S xs a
  set : ∀ a a' S H xs, (CF a).J S H → DDs K S xs a' → (CF a').J S (upd H l (.lst xs))
structure FamD (K : PySem.W.Frag) (l : Addr) (DF : List (Key × D) → SJ) : Prop where
  mem : ∀ a, l ∈ (DF a).M
  M : ∀ a a', (DF a').M = (DF a).M
  get : ∀ a S H, (DF a).J S H → ∃ xs, H l = some (.dK xs) ∧ DDk K S xs a
  set : ∀ a a' S H xs, (DF a).J S H → DDk K S xs a' → (DF a').J S (upd H l (.dK xs))
def ownD (K : PySem.W.Frag) (C : SJ) (q : Addr) (kvs : List (Key × D)) : SJ where
  M := q :: C.M
  J := fun S H => C.J S H ∧ q ∉ C.M ∧ ∃ ws, H q = some (.dK ws) ∧ DDk K S ws kvs
  st := fun S S' H H' ⟨h1, h2, ws, h3, h4⟩ e k => ⟨C.st S S' H H' h1 e fun a ha => k a (List.mem_cons_of_mem _ ha), h2, ws, (k q List.mem_cons_self).trans h3, h4.mono e⟩
section
variable {K : PySem.W.Frag} {l : Addr} {CF : List D → SJ} {DF : List (Key × D) → SJ}
theorem famL_own {C : SJ} : FamL K l fun a => own K C [l] [a] :=
  ⟨fun a => List.mem_cons_self, fun _ _ => rfl, fun a S H j => j.2.2 0 l a rfl rfl, fun a a' S H xs j r => ⟨C.st S S H _ j.1 (Same.refl _) fun b hb => upd_ne fun e => j.2.1.2 l List.mem_cons_self (e ▸ hb), j.2.1, fun i p b hp hb => by
    cases i with
    | zero => cases hp; cases hb; exact ⟨xs, upd_same, r⟩
    | succ i => cases hp⟩⟩
theorem FamL.own (F : FamL K l CF) {ps : List Addr} {as : List (List D)} : FamL K l fun a => GG.own K (CF a) ps as :=
  ⟨fun a => List.mem_append_right _ (F.mem a), fun a a' => congrArg (ps ++ ·) (F.M a a'), fun a S H j => F.get a S H j.1, fun a a' S H xs j r => ⟨F.set a a' S H xs j.1 r, ⟨j.2.1.1, fun p hp m => j.2.1.2 p hp (F.M a a' ▸ m)⟩, fun i p b hp hb => by
    obtain ⟨ys, q1, q2⟩ := j.2.2 i p b hp hb
    exact ⟨ys, (upd_ne fun e : p = l => j.2.1.2 p (List.mem_of_getElem? hp) (e ▸ F.mem a)).trans q1, q2⟩⟩⟩
theorem FamL.dict (F : FamL K l CF) {q : Addr} {kvs : List (Key × D)} : FamL K l fun a => ownD K (CF a) q kvs :=
  ⟨fun a => List.mem_cons_of_mem _ (F.mem a), fun a a' => congrArg (q :: ·) (F.M a a'), fun a S H j => F.get a S H j.1, fun a a' S H xs j r => ⟨F.set a a' S H xs j.1 r, fun m => j.2.1 (F.M a a' ▸ m), by
    obtain ⟨ws, q1, q2⟩ := j.2.2
    exact ⟨ws, (upd_ne fun e : q = l => j.2.1 (e ▸ F.mem a)).trans q1, q2⟩⟩⟩
theorem famD_own {C : SJ} : FamD K l fun a => ownD K C l a :=
  ⟨fun a => List.mem_cons_self, fun _ _ => rfl, fun a S H j => j.2.2, fun a a' S H xs j r => ⟨C.st S S H _ j.1 (Same.refl _) fun b hb => upd_ne fun e => j.2.1 (e ▸ hb), j.2.1, xs, upd_same, r⟩⟩
theorem FamD.own (F : FamD K l DF) {ps : List Addr} {as : List (List D)} : FamD K l fun a => GG.own K (DF a) ps as :=
  ⟨fun a => List.mem_append_right _ (F.mem a), fun a a' => congrArg (ps ++ ·) (F.M a a'), fun a S H j => F.get a S H j.1, fun a a' S H xs j r => ⟨F.set a a' S H xs j.1 r, ⟨j.2.1.1, fun p hp m => j.2.1.2 p hp (F.M a a' ▸ m)⟩, fun i p b hp hb => by
    obtain ⟨ys, q1, q2⟩ := j.2.2 i p b hp hb
    exact ⟨ys, (upd_ne fun e : p = l => j.2.1.2 p (List.mem_of_getElem? hp) (e ▸ F.mem a)).trans q1, q2⟩⟩⟩
theorem HasBag.dict {C : SJ} {b q : Addr} {kvs : List (Key × D)} (h : HasBag C b) : HasBag (ownD K C q kvs) b :=
  ⟨List.mem_cons_of_mem _ h.mem, fun S H j => h.get S H j.1, fun S H g m ⟨j1, j2, ws, q1, q2⟩ hg hm hm2 => ⟨h.set S H g m j1 hg hm hm2, j2, ws, (upd_ne fun e : q = b => j2 (e ▸ h.mem)).trans q1, q2⟩⟩
theorem FamL.good (F : FamL K l CF) {σ : L2.St} {H : Hp} {Γ : En} {a a' : List D} {xs : List V} (g : Good (CF a) K σ H Γ) (r : DDs K (cut (CF a).M H) xs a') :
    Good (CF a') K σ (upd H l (.lst xs)) Γ ∧ Same (cut (CF a).M H) (cut (CF a').M (upd H l (.lst xs))) := by
  have e : cut (CF a').M (upd H l (.lst xs)) = cut (CF a).M H := by rw [F.M a a', cut_same_upd (F.mem a)]
  refine ⟨⟨g.len, fun b hb => ?_, ?_, ?_⟩, ?_⟩
  · by_cases z : b = l
    · subst z; rw [upd_same]; exact fun z => by cases z
    · rw [upd_ne z]; exact g.trk b (F.M a a' ▸ hb)
  · rw [e]; exact F.set a a' _ _ xs g.j r
  · rw [e]; exact g.bnd
  · rw [e]; exact Same.refl _
theorem FamD.good (F : FamD K l DF) {σ : L2.St} {H : Hp} {Γ : En} {a a' : List (Key × D)} {xs : List (Key × V)} (g : Good (DF a) K σ H Γ) (r : DDk K (cut (DF a).M H) xs a') :
    Good (DF a') K σ (upd H l (.dK xs)) Γ ∧ Same (cut (DF a).M H) (cut (DF a').M (upd H l (.dK xs))) := by
  have e : cut (DF a').M (upd H l (.dK xs)) = cut (DF a).M H := by rw [F.M a a', cut_same_upd (F.mem a)]
  refine ⟨⟨g.len, fun b hb => ?_, ?_, ?_⟩, ?_⟩
  · by_cases z : b = l
    · subst z; rw [upd_same]; exact fun z => by cases z
    · rw [upd_ne z]; exact g.trk b (F.M a a' ▸ hb)
  · rw [e]; exact F.set a a' _ _ xs g.j r
  · rw [e]; exact g.bnd
  · rw [e]; exact Same.refl _
end
theorem DDs.erase {K : PySem.W.Frag} {S : Hp} : ∀ {vs : List V} {ds : List D} (k : Nat), DDs K S vs ds → DDs K S (vs.eraseIdx k) (ds.eraseIdx k)
  | _, _, _, .nil => .nil
  | _, _, 0, .cons _ r => r
  | _, _, k + 1, .cons h r => .cons h (DDs.erase k r)
section
variable {X : Cx} {Γ : En} {l : Addr} {CF : List D → SJ} {a : List D} {O : Out} {rest : List Stmt}
/-- o.pop(e) -/
theorem ex_popAt (F : FamL X.K l CF) {o e : Expr} {apos cpos : Pos} {P : SJ → D → Prop}
    (ho : Ev X (CF a) Γ o fun d => d = .adr l ∧ Ev X (CF a) Γ e fun i => ∃ r : Int, i = .int r ∧ -(2 ^ 63) ≤ r ∧ r < 2 ^ 63 ∧ ∃ k y, seqIndex? r a.length = some k ∧ a[k]? = some y ∧ P (CF (a.eraseIdx k)) y)
    (hbase : attributeBase o "pop" X.env (eval o X.env) = eval o X.env := by rfl)
    (hfew : ((backTo cpos (starEach [e] X.env)).all (fun x => !x.1) && (backToKw cpos (keywordEach [] X.env)).all (fun x => x.1.isSome)
      && decide (([e] : List Expr).length + ([] : List Keyword).length + (if ([] : List Keyword).isEmpty then 0 else 1) < 30)) = true := by rfl)
    (hline : (apos.endLine == cpos.line) = true := by rfl) (hs1 : starEach [e] X.env = (false, eval e X.env) :: starEach [] X.env := by rfl) : EvX X (CF a) Γ (.Call (.Attribute o "pop" apos) [e] [] cpos) P := fun σ H g Q q =>
  we_of (pe_bm PySem.F.plainAttrs_list PySem.F.slot_list_pop PySem.F.type_list_pop mt_popAt pe_we (pa_cons pe_we pa_nil hs1) hbase hfew hline hs1 rfl) (ho σ H g _ fun v d H1 s1 r1 ⟨ed, he⟩ => by
    subst ed
    cases r1
    obtain ⟨xs0, h0, _⟩ := F.get a _ _ s1.j
    refine ⟨.inl ⟨rfl, xs0, .of h0⟩, he σ H1 (g.step s1) _ fun w i H2 s2 r2 ⟨r, ei, hr1, hr2, k, y, hk, hy, p⟩ => ?_⟩
    subst ei
    cases r2
    have g2 := g.step (s1.trans s2)
    obtain ⟨xs, h2, rx⟩ := F.get a _ _ g2.j
    obtain ⟨u, hu, ru⟩ := rx.get hy
    refine ⟨l, xs, r, k, u, rfl, rfl, h2, hr1, hr2, by rw [rx.len]; exact hk, hu, ?_⟩
    obtain ⟨g3, s3⟩ := F.good g2 (rx.erase k)
    exact q u y (CF (a.eraseIdx k)) _ ((s1.trans s2).same.trans s3) g3 (ru.mono s3) p)
/-- o.append(e), e may change the context -/
theorem bl_appendX (F : FamL X.K l CF) {o e : Expr} {apos cpos pos : Pos}
    (ho : Ev X (CF a) Γ o fun d => d = .adr l ∧ EvX X (CF a) Γ e fun C' y => ∃ CF' acc, FamL X.K l CF' ∧ C' = CF' acc ∧ acc.length < sizeLine ∧ Bl X (CF' (acc ++ [y])) Γ rest O)
    (hbase : attributeBase o "append" X.env (eval o X.env) = eval o X.env := by rfl)
    (hfew : ((backTo cpos (starEach [e] X.env)).all (fun x => !x.1) && (backToKw cpos (keywordEach [] X.env)).all (fun x => x.1.isSome)
      && decide (([e] : List Expr).length + ([] : List Keyword).length + (if ([] : List Keyword).isEmpty then 0 else 1) < 30)) = true := by rfl)
    (hline : (apos.endLine == cpos.line) = true := by rfl) (hs1 : starEach [e] X.env = (false, eval e X.env) :: starEach [] X.env := by rfl) (hs : swapsWith (.Call (.Attribute o "append" apos) [e] [] cpos) none pos.line X.env = pure false := by rfl) :
    Bl X (CF a) Γ (.Expr (.Call (.Attribute o "append" apos) [e] [] cpos) pos :: rest) O := bl_seq fun σ H g E b =>
  ws_of (ps_expr (pe_bm PySem.F.plainAttrs_list PySem.F.slot_list_append PySem.F.type_list_append mt_append pe_we (pa_cons pe_we pa_nil hs1) hbase hfew hline hs1 rfl) hs) (ho σ H g _ fun v d H1 s1 r1 ⟨ed, he⟩ => by
    subst ed
    cases r1
    obtain ⟨xs0, h0, _⟩ := F.get a _ _ s1.j
    refine ⟨.inl ⟨rfl, xs0, .of h0⟩, he σ H1 (g.step s1) _ fun w y C' H2 s2 g2 r2 ⟨CF', acc, F', ec, hz, bl⟩ => ?_⟩
    subst ec
    obtain ⟨xs, h2, rx⟩ := F'.get acc _ _ g2.j
    refine ⟨l, xs, w, rfl, rfl, h2, by rw [rx.len]; exact hz, ?_⟩
    obtain ⟨g3, s3⟩ := F'.good g2 (rx.append (.one r2))
    exact b.nx _ σ _ Γ ((s1.same.trans s2).trans s3) g3 bl)
end

/-! ### dicts -/
def valD (kvs : List (Key × D)) (k : Key) : Option D := (kvs.find? fun p => decide (p.1 = k)).map (·.2)
def putKD (kvs : List (Key × D)) (k : Key) (v : D) : List (Key × D) := if (kvs.any fun p => decide (p.1 = k)) = true then kvs.map (fun p => if p.1 = k then (p.1, v) else p) else kvs ++ [(k, v)]
theorem DDk.val {K : PySem.W.Frag} {S : Hp} {k : Key} {d : D} : ∀ {ws : List (Key × V)} {kvs : List (Key × D)}, DDk K S ws kvs → valD kvs k = some d → ∃ v, valV ws k = some v ∧ DD K S v d
  | _, _, .nil, e => by simp [valD] at e
  | _, _, .cons (k := k') (v := v) (d := d') h r, e => by
    by_cases z : k' = k
    · have : d' = d := by simpa [valD, List.find?_cons, z] using e
      subst this
      exact ⟨v, by simp [valV, List.find?_cons, z], h⟩
    · obtain ⟨u, h1, h2⟩ := DDk.val (k := k) (d := d) r (by simpa [valD, List.find?_cons, z] using e)
      exact ⟨u, by simpa [valV, List.find?_cons, z] using h1, h2⟩
theorem DDk.any {K : PySem.W.Frag} {S : Hp} {k : Key} : ∀ {ws : List (Key × V)} {kvs : List (Key × D)}, DDk K S ws kvs → (ws.any fun p => decide (p.1 = k)) = kvs.any fun p => decide (p.1 = k)
  | _, _, .nil => rfl
  | _, _, .cons (k := k') h r => by rw [List.any_cons, List.any_cons, DDk.any r]
theorem DDk.map {K : PySem.W.Frag} {S : Hp} {k : Key} {v : V} {d : D} (hv : DD K S v d) : ∀ {ws : List (Key × V)} {kvs : List (Key × D)}, DDk K S ws kvs → DDk K S (ws.map fun p => if p.1 = k then (p.1, v) else p) (kvs.map fun p => if p.1 = k then (p.1, d) else p)
  | _, _, .nil => .nil
  | _, _, .cons (k := k') h r => by
    rw [List.map_cons, List.map_cons]
    by_cases z : k' = k
    · simp only [z, if_true]
      exact .cons hv (by simpa [z] using DDk.map hv r)
    · simp only [z, if_false]
      exact .cons h (DDk.map hv r)
theorem DDk.app {K : PySem.W.Frag} {S : Hp} : ∀ {ws ws' : List (Key × V)} {kvs kvs' : List (Key × D)}, DDk K S ws kvs → DDk K S ws' kvs' → DDk K S (ws ++ ws') (kvs ++ kvs')
  | _, _, _, _, .nil, q => q
  | _, _, _, _, .cons h r, q => .cons h (DDk.app r q)
theorem DDk.len {K : PySem.W.Frag} {S : Hp} : ∀ {ws : List (Key × V)} {kvs : List (Key × D)}, DDk K S ws kvs → ws.length = kvs.length
  | _, _, .nil => rfl
  | _, _, .cons _ r => by rw [List.length_cons, List.length_cons, DDk.len r]
theorem DDk.put {K : PySem.W.Frag} {S : Hp} {k : Key} {v : V} {d : D} (hv : DD K S v d) {ws : List (Key × V)} {kvs : List (Key × D)} (r : DDk K S ws kvs) : DDk K S (putK ws k v) (putKD kvs k d) := by
  unfold putK putKD
  rw [r.any]
  split
  · exact DDk.map hv r
  · exact r.app (.cons hv .nil)
def keyD : Key → D
  | .inl i => .int i
  | .inr x => .str x
theorem key_of {K : PySem.W.Frag} {S : Hp} {v : V} {k : Key} (h : DD K S v (keyD k)) : v = kV k := by
  cases k <;> (cases h; rfl)
section
variable {X : Cx} {C : SJ} {Γ : En} {q : Addr} {DF : List (Key × D) → SJ} {kvs : List (Key × D)} {O : Out} {rest : List Stmt}
/-- one[k], a dict as data -/
theorem ev_dget {P : D → Prop} {o i : Expr} {pos : Pos} (hu : X.A.units + 1 < cLine) (h : Ev X C Γ o fun d => ∃ kvs, d = .dct kvs ∧ Ev X C Γ i fun e => ∃ k v, e = keyD k ∧ valD kvs k = some v ∧ P v) (hs : NoSl i := by exact fun _ _ => rfl) : Ev X C Γ (.Subscript o i pos) P := fun σ H g Q qq =>
  we_of (pe_dget hu pe_we pe_we hs) (h σ H g _ fun v d H1 s1 r1 ⟨kvs, ed, h1⟩ => h1 σ H1 (g.step s1) _ fun u e H2 s2 r2 ⟨k, y, ee, hv, p⟩ => by
    subst ed ee
    have eu := key_of r2
    subst eu
    cases r1.mono s2.same with
    | dct hq rk =>
      obtain ⟨w, hw, rw'⟩ := rk.val hv
      exact ⟨_, w, rfl, hw ▸ DGet.k (cut_sub _ _ _ _ hq), qq w y H2 (s1.trans s2) rw' p⟩)
/-- one[k], one's own dict -/
theorem ev_dgetO (F : FamD X.K q DF) {P : D → Prop} {o i : Expr} {pos : Pos} (hu : X.A.units + 1 < cLine) (h : Ev X (DF kvs) Γ o fun d => d = .adr q ∧ Ev X (DF kvs) Γ i fun e => ∃ k v, e = keyD k ∧ valD kvs k = some v ∧ P v) (hs : NoSl i := by exact fun _ _ => rfl) : Ev X (DF kvs) Γ (.Subscript o i pos) P := fun σ H g Q qq =>
  we_of (pe_dget hu pe_we pe_we hs) (h σ H g _ fun v d H1 s1 r1 ⟨ed, h1⟩ => h1 σ H1 (g.step s1) _ fun u e H2 s2 r2 ⟨k, y, ee, hv, p⟩ => by
    subst ed ee
    have eu := key_of r2
    subst eu
    cases r1
    obtain ⟨ws, hq, rk⟩ := F.get kvs _ _ s2.j
    obtain ⟨w, hw, rw'⟩ := rk.val hv
    exact ⟨_, w, rfl, hw ▸ DGet.k hq, qq w y H2 (s1.trans s2) rw' p⟩)
/-- one[k] = e -/
theorem bl_dput {o i e : Expr} {pos pos' : Pos} (hu : X.A.units + 1 < cLine) (h : EvX X C Γ e fun C' y => ∃ q DF kvs, FamD X.K q DF ∧ C' = DF kvs ∧ kvs.length < 1000 ∧ Ev X C' Γ o fun d => d = .adr q ∧ Ev X C' Γ i fun kd => ∃ k, kd = keyD k ∧ Bl X (DF (putKD kvs k y)) Γ rest O)
    (hs : swapsWith e (some (.Subscript o i pos')) pos.line X.env = pure false := by rfl) : Bl X C Γ (.Assign [.Subscript o i pos'] e pos :: rest) O := bl_seq fun σ H g E b =>
  ws_of (ps_dput hu pe_we pe_we pe_we hs) (h σ H g _ fun v y C' H1 s1 g1 r1 ⟨q, DF, kvs, F, ec, hl, h1⟩ => h1 σ H1 g1 _ fun u d H2 s2 r2 ⟨ed, h2⟩ => h2 σ H2 (g1.step s2) _ fun u2 kd H3 s3 r3 ⟨k, ek, bl⟩ => by
    subst ec ed ek
    cases r2
    have eu := key_of r3
    subst eu
    have g3 := g1.step (s2.trans s3)
    obtain ⟨ws, hq, rk⟩ := F.get kvs _ _ g3.j
    obtain ⟨g4, s4⟩ := F.good g3 (rk.put (k := k) (r1.mono (s2.trans s3).same))
    exact ⟨q, _, rfl, DPut.k hq (by rw [rk.len, sizeLine_eq]; omega), b.nx _ σ _ Γ ((s1.trans (s2.trans s3).same).trans s4) g4 bl⟩)
/-- the dict is changed no more -/
theorem bl_dfree (i : Nat) {sts : List Stmt} (hΓ : Γ[i]? = some (some (.adr q))) (h : Bl X C (Γ.set i (some (.dct kvs))) sts O) : Bl X (ownD X.K C q kvs) Γ sts O := fun σ H g E b => by
  obtain ⟨j1, hq, ws, hw, rk⟩ := g.j
  have up : Same (cut (q :: C.M) H) (cut C.M H) := cut_less fun _ z => List.mem_cons_of_mem _ z
  refine h σ H ⟨by rw [List.length_set]; exact g.len, fun a ha => g.trk a (List.mem_cons_of_mem _ ha), C.st _ _ _ _ j1 up fun _ _ => rfl, fun k d e => ?_⟩ E (b.from up)
  by_cases hk : k = i
  · subst hk
    obtain ⟨v, hv, rv⟩ := g.bnd k _ hΓ
    cases rv
    by_cases hl : k < Γ.length
    · rw [List.getElem?_set_self hl] at e
      cases e
      exact ⟨_, hv, .dct (by unfold cut; rw [if_neg hq]; exact hw) (rk.mono up)⟩
    · rw [List.getElem?_eq_none (by omega)] at hΓ
      cases hΓ
  · rw [List.getElem?_set_ne (Ne.symm hk)] at e
    obtain ⟨v, hv, rv⟩ := g.bnd k d e
    exact ⟨v, hv, rv.mono up⟩
end
end GG
set_option maxHeartbeats 4000000
/-! G17: displays of dicts; defs that change a list of their caller. -/
namespace GG
open PySem PySem.Spec PyProof.Rows L2

/-! ### {k: v, ..}, to be changed -/
def wps (X : Cx) : List (Option Expr) → List Expr → List (TE × TE)
  | some k :: ks, v :: vs => (WE X k, WE X v) :: wps X ks vs
  | _, _ => []
theorem pps_wps {X : Cx} {pos : Pos} : ∀ {keys : List (Option Expr)} {vals : List Expr}, keys.all (·.isSome) = true → keys.length = vals.length → PPs X pos keys vals (wps X keys vals)
  | [], [], _, _ => pps_nil
  | some k :: ks, v :: vs, h, e => pps_cons pe_we pe_we (pps_wps (by simpa using h) (by simpa using e))
  | none :: ks, v :: vs, h, e => absurd h (by simp)
  | [], v :: vs, _, e => absurd e (by simp)
  | some k :: ks, [], _, e => absurd e (by simp)
  | none :: ks, [], _, e => absurd e (by simp)
/-- the pairs, from the left -/
def EvP (X : Cx) (C : SJ) (Γ : En) (keys : List (Option Expr)) (vals : List Expr) (P : List (Key × D) → Prop) : Prop :=
  ∀ σ H, Good C X.K σ H Γ → ∀ Q : List (V × V) → Hp → Prop, (∀ ps ws kvs H', Step C H H' → ps = ws.map (fun kv => (kV kv.1, kv.2)) → DDk X.K (cut C.M H') ws kvs → P kvs → Q ps H') → tPairs (wps X keys vals) σ H Q
section
variable {X : Cx} {C : SJ} {Γ : En} {O : Out} {rest : List Stmt}
theorem ep_nil {P : List (Key × D) → Prop} (p : P []) : EvP X C Γ [] [] P := fun σ H g Q q => q [] [] [] H g.refl rfl .nil p
theorem ep_cons {P : List (Key × D) → Prop} {ke ve : Expr} {ks : List (Option Expr)} {vs : List Expr} (h : Ev X C Γ ke fun a => ∃ k, a = keyD k ∧ Ev X C Γ ve fun d => EvP X C Γ ks vs fun kvs => P ((k, d) :: kvs)) : EvP X C Γ (some ke :: ks) (ve :: vs) P := fun σ H g Q q =>
  h σ H g _ fun v a H1 s1 r1 ⟨k, ea, h1⟩ => h1 σ H1 (g.step s1) _ fun u d H2 s2 r2 h2 => h2 σ H2 (g.step (s1.trans s2)) _ fun ps ws kvs H3 s3 e3 r3 p => by
    subst ea
    have ev := key_of r1
    subst ev
    exact q _ ((k, u) :: ws) _ H3 ((s1.trans s2).trans s3) (by rw [e3]; rfl) (.cons (r2.mono s3.same) r3) p
def mergeD (kvs more : List (Key × D)) : List (Key × D) := more.foldl (fun acc kv => putKD acc kv.1 kv.2) kvs
theorem DDk.merge {K : PySem.W.Frag} {S : Hp} : ∀ {more : List (Key × V)} {ms : List (Key × D)} {ws : List (Key × V)} {kvs : List (Key × D)}, DDk K S more ms → DDk K S ws kvs → DDk K S (mergeK ws more) (mergeD kvs ms)
  | _, _, _, _, .nil, q => q
  | _ :: more, _ :: ms, ws, kvs, .cons (k := k) (v := v) (d := d) h r, q => by
    have z := DDk.merge (more := more) (ms := ms) (ws := putK ws k v) (kvs := putKD kvs k d) r (q.put h)
    exact z
/-- x = {k: v, ..} -/
theorem bl_disp (i : Nat) {x : Str} {keys : List (Option Expr)} {vals : List Expr} {dpos pos pos' : Pos}
    (h : ∀ q, EvP X (ownD X.K C q []) Γ keys vals fun kvs => kvs.length ≤ 15 ∧ Bl X (ownD X.K C q (mergeD [] kvs)) (Γ.set i (some (.adr q))) rest O) (hN : X.N.Nodup) (hall : keys.all (·.isSome) = true := by rfl) (hl : keys.length = vals.length := by rfl) (h0 : keys ≠ [] := by exact fun z => nomatch z) (h15 : Nat.ble keys.length 15 = true := by rfl)
    (hi : X.N[i]? = some x := by rfl) (hx : Loc X.env.scope x := by first | exact Or.inl rfl | exact Or.inr rfl)
    (hs : swapsWith (.Dict keys vals dpos) (some (.Name x pos')) pos.line X.env = pure false := by rfl) (hf : X.fn x = true ∨ X.env.scope.names.lookup x = some .local := by first | exact .inl rfl | exact .inr rfl) : Bl X C Γ (.Assign [.Name x pos'] (.Dict keys vals dpos) pos :: rest) O := bl_seq fun σ H g E b =>
  ws_of (ps_set hN hi hx (pe_disp (pps_wps (pos := dpos) hall hl) hall hl h0 (Nat.le_of_ble_eq_true h15)) hs hf) fun q hq => by
    have qm : q ∉ C.M := fun m => g.trk q m hq
    have ec : cut (q :: C.M) (upd H q (.dK [])) = cut C.M H := by
      funext b
      unfold cut
      by_cases hb : b = q
      · subst hb
        rw [if_pos List.mem_cons_self, if_neg qm, hq]
      · by_cases hm : b ∈ C.M
        · rw [if_pos (List.mem_cons_of_mem _ hm), if_pos hm]
        · rw [if_neg (by rw [List.mem_cons]; exact fun z => z.elim hb hm), if_neg hm, upd_ne hb]
    have g0 : Good (ownD X.K C q []) X.K σ (upd H q (.dK [])) Γ := by
      refine ⟨g.len, fun a ha => ?_, ⟨?_, qm, [], upd_same, .nil⟩, ?_⟩
      · rcases List.mem_cons.mp ha with z | z
        · rw [z, upd_same]; exact fun z => by cases z
        · rw [upd_ne (fun e : a = q => qm (e ▸ z))]; exact g.trk a z
      · show C.J (cut (q :: C.M) _) _
        rw [ec]
        exact C.st _ _ _ _ g.j (Same.refl _) fun a ha => upd_ne fun e : a = q => qm (e ▸ ha)
      · show Bnd X.K (cut (q :: C.M) _) σ Γ
        rw [ec]
        exact g.bnd
    refine h q σ _ g0 _ fun ps ws kvs H2 s2 ep rk ⟨hz, bl⟩ => ?_
    obtain ⟨w0, hw0, r0⟩ := famD_own.get _ _ _ s2.j
    cases r0
    refine ⟨hw0, ws, ep, by rw [rk.len]; exact hz, ?_⟩
    have F : FamD X.K q fun a => ownD X.K C q a := famD_own
    have r1 : DDk X.K (cut (ownD X.K C q []).M H2) (mergeK [] ws) (mergeD [] kvs) := DDk.merge rk .nil
    obtain ⟨g3, s3⟩ := F.good (a' := mergeD [] kvs) (g0.step s2) r1
    refine b.nx _ _ _ _ ?_ (g3.set (.adr q)) bl
    have e0 : Same (cut C.M H) (cut (q :: C.M) (upd H q (.dK []))) := by rw [ec]; exact Same.refl _
    exact (e0.trans s2.same).trans s3
end

/-- len(one's own list) -/
theorem ev_lenL {X : Cx} {Γ : En} {l : Addr} {CF : List D → SJ} {a : List D} {P : D → Prop} {o : Expr} {p pos : Pos} (F : FamL X.K l CF) (hm : X.mg "len" = none) (h : Ev X (CF a) Γ o fun d => d = .adr l ∧ P (.int a.length)) (hg : Gl X "len" := by rfl)
    (he : starEach [o] X.env = (false, eval o X.env) :: starEach [] X.env := by rfl) : Ev X (CF a) Γ (.Call (.Name "len" p) [o] [] pos) P := fun σ H g Q q =>
  we_of (pe_callB call_len_seq hg hm PySem.boot_len (pa_cons pe_we pa_nil he) (by decide) (by decide) he rfl) (h σ H g _ fun v d H1 s1 r1 ⟨ed, p⟩ => by
    subst ed
    cases r1
    obtain ⟨xs, hx, rx⟩ := F.get a _ _ s1.j
    refine ⟨l, xs, rfl, .inl (.of hx), ?_⟩
    rw [rx.len]
    exact q _ _ H1 s1 (.int _) p)
/-! ### defs that change a list of their caller -/
def spL (K : PySem.W.Frag) (n : Nat) (R : (List D → SJ) → Addr → List D → List D → Prop) (G : List D → List D → (D → List D → Prop) → Prop) : Sp := fun vs H Q _ =>
  ∃ (CF : List D → SJ) (l : Addr) (a : List D) (ds : List D) (P : D → List D → Prop), FamL K l CF ∧ ds.length = n ∧ R CF l a ds ∧ Trk (CF a).M H ∧ (CF a).J (cut (CF a).M H) H ∧ DDs K (cut (CF a).M H) vs ds ∧ G a ds P ∧
    ∀ v d a' H', Same (cut (CF a).M H) (cut (CF a').M H') → Trk (CF a').M H' → (CF a').J (cut (CF a').M H') H' → DD K (cut (CF a').M H') v d → P d a' → Q v H'
section
variable {P : Program} {w : World} {K : PySem.W.Frag} {mg : Str → Option Value} {base : Heap} {x qual : Str} {params : Arguments} {body : List Stmt} {scope : Scope} {dvs : List V} {kws : List (Str × V)} {f : Addr} {fd : FuncData}
theorem defL {N ps : List Str} {k n : Nat} {R : (List D → SJ) → Addr → List D → List D → Prop} {G : List D → List D → (D → List D → Prop) → Prop} (F : FunD K x qual params body scope dvs kws f fd) (S : FnScope N ps scope) (hn : ps.length = n)
    (hb : ∀ (cdv : Value) (A : Around) (outer : List Env) (s : Shared) (H : Hp) (E : XK) (CF : List D → SJ) (l : Addr) (a ds : List D) (T : D → List D → Prop), FamL K l CF → Room k (A.deeper (envOfC qual scope s.heap.objs.size f cdv)) → ds.length = n → R CF l a ds → G a ds T →
      Bl (cxOf CX0 P w K mg base N qual scope f cdv A outer s H E).nox (CF a) (start0 N ds) body { C0 := CF a, N := fun C' _ => ∃ a', C' = CF a' ∧ T .non a', R := fun _ => False, RX := fun C' d => ∃ a', C' = CF a' ∧ T d a' }) : FnOk P w K mg base CX0 (k + 1) f fd ps (spL K n R G) := by
  refine F.ok S (fun vs H Q E ⟨CF, l, a, ds, T, _, h1, _, _, _, r, _⟩ => by rw [r.len, h1, hn]) ?_
  intro cdv A outer s H vs Q E hr ⟨CF, l, a, ds, T, FL, h1, hR, t, j, r, g, q⟩
  have b := hb cdv A outer s H E CF l a ds T FL hr h1 hR g
  refine ⟨_, PSs.nox (X := cxOf CX0 P w K mg base N qual scope f cdv A outer s H E) pss_wb, ?_⟩
  exact b (L2.start N vs) H (good0 t j r) { nx := fun _ H' => Q .non H', rt := Q } ⟨fun C' σ' H' Γ' e g' ⟨a', ec, p⟩ => by subst ec; exact q .non .non a' H' e g'.trk g'.j .non p, fun _ _ _ _ _ _ _ z => z.elim, fun _ _ _ _ _ _ z => z.elim, fun _ _ _ _ _ _ z => z.elim, fun _ _ _ _ _ _ _ _ _ _ z => z.elim, fun v d C' H' e t' j' r' ⟨a', ec, p⟩ => by subst ec; exact q v d a' H' e t' j' r' p⟩
end
structure DefdL (P : Program) (w : World) (K : PySem.W.Frag) (mg : Str → Option Value) (base : Heap) (x : Str) (k n : Nat) (R : (List D → SJ) → Addr → List D → List D → Prop) (G : List D → List D → (D → List D → Prop) → Prop) : Prop where
  ex : ∃ (f : Addr) (fd : FuncData) (ps : List Str), FnOk P w K mg base CX0 k f fd ps (spL K n R G) ∧ mg x = some (.ref f) ∧ PySem.W.keepIn K (.ref f) = true ∧ Binds K fd ps []
theorem ex_callL {X : Cx} {Γ : En} {l : Addr} {CF : List D → SJ} {a : List D} {P : SJ → D → Prop} {x : Str} {p pos : Pos} {e : Expr} {es : List Expr} {k n : Nat} {R : (List D → SJ) → Addr → List D → List D → Prop} {G : List D → List D → (D → List D → Prop) → Prop} (FL : FamL X.K l CF) (F : DefdL X.prog X.w X.K X.mg X.base x k n R G) (hr : Room k X.A)
    (h : EvA X (CF a) Γ (e :: es) fun ds => ds.length = n ∧ R CF l a ds ∧ G a ds fun d a' => P (CF a') d) (hg : Gl X x := by rfl) (hdb : (x == ("__debug__" : Str)) = false := by decide)
    (he : starEach (e :: es) X.env = (false, eval e X.env) :: starEach es X.env := by rfl) (hpl : (backTo pos (starEach es X.env)).any (·.1) = false := by rfl) : EvX X (CF a) Γ (.Call (.Name x p) (e :: es) [] pos) P := fun σ H g Q q => by
  obtain ⟨f, fd, ps, F, hm, hk, hb⟩ := F.ex
  refine we_of (pe_call F hr hg hm hk hb .nil L2.pass0 pa_wa hdb he hpl) (h σ H g _ fun vs ds H1 s1 r1 ⟨hn, hR, hD⟩ => ?_)
  rw [List.append_nil]
  refine ⟨CF, l, a, ds, _, FL, hn, hR, s1.trk, s1.j, r1, hD, fun v d a' H2 e2 t2 j2 r2 p => q v d (CF a') H2 (s1.same.trans e2) ⟨g.len, t2, j2, g.bnd.mono (s1.same.trans e2)⟩ r2 p⟩
end GG
set_option maxHeartbeats 4000000
/-! G18: the head's facts with properties. -/
namespace GG
open PySem PySem.Spec PyProof.Rows L2 He
/-- a property of a class: the class's name, the property's, its getter -/
structure PrD where
  cl : Str
  m : Str
  d : DefD
def propAt (K : PySem.W.Frag) (cl m : Str) : Addr := match PySem.W.findIn K (.ref (ga K cl)) m with
  | some (some (.ref p)) => p
  | _ => 0
def getAt (K : PySem.W.Frag) (cl m : Str) : Addr := match PySem.W.recIn K (propAt K cl m) "property" with
  | some (.ref g :: _) => g
  | _ => 0
def getB (K : PySem.W.Frag) (cl m : Str) : Bool := match PySem.W.recIn K (propAt K cl m) "property" with
  | some (.ref g :: _) => decide (g = getAt K cl m)
  | _ => false
def propB (K : PySem.W.Frag) (cl m : Str) : Bool := eqO (PySem.W.findIn K (.ref (ga K cl)) m) (some (some (.ref (propAt K cl m)))) &&
  (eqO (PySem.W.specialIn K (.ref (propAt K cl m)) "__get__") (some (some (.builtin "property.__get__"))) && (decide (PySem.W.takesIn K (.ref (propAt K cl m)) = some true) && getB K cl m))
theorem propB_ok {K : PySem.W.Frag} {cl m : Str} (h : propB K cl m = true) : PropOf K (ga K cl) m (propAt K cl m) (getAt K cl m) := by
  obtain ⟨h1, h⟩ := He.ba h
  obtain ⟨h2, h⟩ := He.ba h
  obtain ⟨h3, h4⟩ := He.ba h
  refine ⟨eqO_ok h1, eqO_ok h2, of_decide_eq_true h3, ?_⟩
  unfold getB at h4
  split at h4
  · rename_i g rest q
    exact ⟨rest, by rw [q, of_decide_eq_true h4]⟩
  · exact absurd h4 Bool.false_ne_true
def fnWa (K : PySem.W.Frag) (a : Addr) : FnW := match K.lookup a with
  | some ⟨_, _, .func fd, _⟩ => some (fd.name, fd.qualname, fd.params, fd.body, fd.scope, fd.globals, fd.closure, fd.builtins)
  | _ => none
def okAt (K : PySem.W.Frag) (a : Addr) (d : DefD) : Bool := PySem.W.keepIn K (.ref a) && (match K.lookup a with
  | some ⟨_, _, .func fd, _⟩ => PySem.W.codeIn K fd.code d.qual && (dflB K fd.defaults (d.dvs K) && kwdB K fd.kwdefaults (d.kws K))
  | _ => false)
theorem funD_at {K : PySem.W.Frag} {d : DefD} {a : Addr} (e : fnWa K a = d.val) (c : okAt K a d = true) : ∃ fd, FunD K d.name d.qual d.params d.body d.scope (d.dvs K) (d.kws K) a fd := by
  obtain ⟨kp, c2⟩ := He.ba c
  unfold fnWa at e
  cases q : K.lookup a with
  | none => rw [q] at c2; cases c2
  | some o =>
    obtain ⟨oc, od, dt, osl⟩ := o
    rw [q] at c2 e
    cases dt with
    | func fd =>
      obtain ⟨n1, n2, n3, n4, n5, n6, n7, n8, n9, n10, n11, n12, n13, n14, n15⟩ := fd
      have e2 : (some (n1, n2, n3, n4, n5, n6, n7, n15) : FnW) = some (d.name, d.qual, d.params, .stmts d.body, d.scope, mainGlobals, [], builtinsNs) := e
      simp only [Option.some.injEq, Prod.mk.injEq] at e2
      obtain ⟨h1, h2, h3, h4, h5, h6, h7, h8⟩ := e2
      subst h1 h2 h3 h4 h5 h6 h7 h8
      obtain ⟨k1, k2⟩ := He.ba (show (PySem.W.codeIn K n13 d.qual && (dflB K n8 (d.dvs K) && kwdB K n9 (d.kws K))) = true from c2)
      obtain ⟨k3, k4⟩ := He.ba k2
      exact ⟨_, ⟨oc, od, n8, n9, n10, n11, n12, n13, n14, osl, rfl, q, k1, dflB_ok k3, kwdB_ok k4⟩, kp⟩
    | _ => cases c2
/-! ### the Hook -/
abbrev AlP : Type := AlD × Bool × List FnW
def obsP (fa : List Fa) (fn : List DefD) (pr : List PrD) (K : PySem.W.Frag) : AlP := (obsD fa fn K, pr.all fun p => propB K p.cl p.m && okAt K (getAt K p.cl p.m) p.d, pr.map fun p => fnWa K (getAt K p.cl p.m))
def valP (fn : List DefD) (pr : List PrD) : AlP := (He.valD fn, true, pr.map fun p => p.d.val)
def SaysP (fa : List Fa) (fn : List DefD) (pr : List PrD) (K : PySem.W.Frag) : Prop := obsP fa fn pr K = valP fn pr
def obsPG (n : Nat) (fa : List Fa) (fn : List DefD) (pr : List PrD) (g : Addr → Option Obj) : AlP := obsP fa fn pr (frG g (asD g n))
def hookP (n : Nat) (fa : List Fa) (fn : List DefD) (pr : List PrD) : PySem.W.Hook where
  α := AlP
  obs := fun s => obsPG n fa fn pr s.heap.get?
  val := fun _ => valP fn pr
  says := fun _ h => ∃ K : PySem.W.Frag, K.In h ∧ SaysP fa fn pr K
  of := fun _ _ e => ⟨_, frG_in, e⟩
  keeps := fun _ _ _ ⟨K, hK, c⟩ k => ⟨K, PySem.W.Frag.In.keeps hK k, c⟩
theorem obsPG_eq {n : Nat} {fa : List Fa} {fn : List DefD} {pr : List PrD} {g : Addr → Option Obj} {s : Shared} (h : ∀ a, g a = s.heap.get? a) : obsPG n fa fn pr g = (hookP n fa fn pr).obs s := by
  have e : g = s.heap.get? := funext h
  rw [e] <;> rfl
section
variable {fa : List Fa} {fn : List DefD} {pr : List PrD} {K : PySem.W.Frag}
theorem SaysP.d (c : SaysP fa fn pr K) : SaysD fa fn K := congrArg (fun z : AlP => z.1) c
theorem SaysP.prop (c : SaysP fa fn pr K) (i : Nat) {p : PrD} (h : pr[i]? = some p := by rfl) :
    PropOf K (ga K p.cl) p.m (propAt K p.cl p.m) (getAt K p.cl p.m) ∧ ∃ fd, FunD K p.d.name p.d.qual p.d.params p.d.body p.d.scope (p.d.dvs K) (p.d.kws K) (getAt K p.cl p.m) fd := by
  have c1 : (pr.all fun p => propB K p.cl p.m && okAt K (getAt K p.cl p.m) p.d) = true := congrArg (fun z : AlP => z.2.1) c
  have c2 : (pr.map fun p => fnWa K (getAt K p.cl p.m)) = pr.map fun p => p.d.val := congrArg (fun z : AlP => z.2.2) c
  obtain ⟨h1, h2⟩ := He.ba (List.all_eq_true.mp c1 p (List.mem_of_getElem? h))
  have e2 : (pr.map fun p => fnWa K (getAt K p.cl p.m))[i]? = (pr.map fun p => p.d.val)[i]? := by rw [c2]
  rw [List.getElem?_map, List.getElem?_map, h] at e2
  exact ⟨propB_ok h1, funD_at (Option.some.inj e2) h2⟩
end
end GG
set_option maxHeartbeats 4000000
/-! G19: enumerate(tuple). -/
namespace GG
open PySem PySem.Spec PyProof.Rows L2
open AutoSeq1 (wpAny_loadPart')
theorem enum_newT (l : Addr) (items : Array Value) (n : Nat) (dct : Option Addr) (sl : Array (Option Value)) :
    Meets (Builtin.«enumerate.__new__» ⟨[.type "enumerate", .ref l], []⟩) (fun _ R s => s.heap.get? l = some { cls := .type "tuple", dict := dct, data := .seq items n, slots := sl } ∧
      R (.ok (.ret (.ref (s.heap.push { cls := .type "tuple_iterator", data := .fields #[.ref l, .int 0 0] }).objs.size)))
        { s with heap := (s.heap.push { cls := .type "tuple_iterator", data := .fields #[.ref l, .int 0 0] }).push { cls := .type "enumerate", data := .fields #[.none, .bool false, .ref s.heap.objs.size, rawInt 0, .none, .none] } }) :=
  .of_wp fun prog w A R s ⟨hl, h⟩ => by
    obtain ⟨hp, g, d, tk, os⟩ := s
    have hsub := sub_enumerate
    have hT : Heap.IsTuple (Shared.heap ⟨hp, g, d, tk, os⟩) l items := ⟨_, hl, rfl, n, rfl⟩
    wp_walk using wpAny_loadPart' hl
    refine wpAny_stack_any fun st => wpAny_pure ?_
    split
    · rename_i c _ _ _ _ _
      cases (c == Value.type "enumerate") <;> (wp_walk using wpAny_loadPart' hl, wpAny_pyIter_tuple hT; exact ⟨_, rfl, h⟩)
    · wp_walk using wpAny_loadPart' hl, wpAny_pyIter_tuple hT
      exact ⟨_, rfl, h⟩
section
variable {prog : Program} {w : World} {A : Around} {E : Value → Shared → Prop} {s : Shared}
theorem call_enumT {l : Addr} {items : Array Value} {Q : Value → Shared → Prop} (hL : IsTup s.heap l items)
    (h : ∀ h', IsEnum h' (s.heap.objs.size + 1) s.heap.objs.size 0 .none → h'.IsTupleIter s.heap.objs.size l 0 → h'.objs.size = s.heap.objs.size + 2 → (∀ b o, s.heap.get? b = some o → h'.get? b = some o) → Q (.ref (s.heap.objs.size + 1)) { s with heap := h' }) :
    wpAny (model prog w) A (call (.type "enumerate") [.ref l]) Q E s := by
  obtain ⟨⟨c, dct, dt, sl⟩, hl, hc, n, hd⟩ := hL
  obtain rfl : c = .type "tuple" := hc
  obtain rfl : dt = .seq items n := hd
  refine callType_new F.called_enumerate (by decide) (F.typeCall_enumerate_1 _) (F.newCall_enumerate_1 _) (fun obj => F.args_object_init_2 obj _) F.entry_enumerate_new (enum_newT l items n dct sl) ⟨hl, ?_⟩
  have hz : (s.heap.push { cls := .type "tuple_iterator", data := .fields #[.ref l, .int 0 0] }).objs.size = s.heap.objs.size + 1 := Heap.size_push ..
  show _ ∧ _
  rw [hz]
  have he : IsEnum ((s.heap.push { cls := .type "tuple_iterator", data := .fields #[.ref l, .int 0 0] }).push { cls := .type "enumerate", data := .fields #[.none, .bool false, .ref s.heap.objs.size, rawInt 0, .none, .none] }) (s.heap.objs.size + 1) s.heap.objs.size 0 .none := by
    have := Heap.get?_push_size (s.heap.push { cls := .type "tuple_iterator", data := .fields #[.ref l, .int 0 0] }) (o := { cls := .type "enumerate", data := .fields #[.none, .bool false, .ref s.heap.objs.size, rawInt 0, .none, .none] }) rfl
    rw [hz] at this
    exact this
  exact ⟨⟨_, he, rfl⟩, h _ he ⟨_, Heap.get?_push_of_some _ (Heap.get?_push_size _ rfl), rfl, rfl⟩ (by rw [Heap.size_push, hz]) fun b o x => Heap.get?_push_of_some _ (Heap.get?_push_of_some _ x)⟩
theorem next_enumT_end {e it l : Addr} {i : Nat} {items : Array Value} {old : Value} {Q : Option Value → Shared → Prop} (hh : A.handled = none) (he : IsEnum s.heap e it i old) (hit : s.heap.IsTupleIter it l i) (hl : s.heap.IsTuple l items) (hx : items[i]? = none)
    (hQ : ∀ h', Heap.ExtBut it s.heap h' → Q none { s with heap := h' }) : wpAny (model prog w) A (pyNext (.ref e)) Q E s := by
  have hE : s.TypeIs (.ref e) "enumerate" := ⟨_, he, rfl⟩
  unfold pyNext
  refine wpAny_bind (wpAny_attempt (wpAny_callSpecial?_slot (name := Str.ofString "__next__") hE F.slot_enumerate_next (wpAny_call_entry F.slot_enumerate_next hE F.entry_enumerate_next ?_ (F.args_enumerate_next_1 _))))
  show wpAny _ _ (field (.ref e) 2 >>= _) _ _ _
  refine wpAny_bind (wpAny_field he rfl (x := .ref it) rfl (wpAny_bind (wpAny_nextOf_tuple_end hh hit hl hx fun h' x h1 ⟨o, ho, hc⟩ => ?_)))
  exact wpAny_bind (wpAny_isInstance (T := "StopIteration") (b := true) ⟨o, ho, hc⟩ isSubtype_stop (wpAny_pure (hQ _ h1)))
end
/-- the tuple at a, each item in a new pair -/
def IteT (K : PySem.W.Frag) (a : Addr) : It :=
  ⟨fun i H => ∃ (xs : List V) (x : V), SqT K H a xs ∧ xs[i]? = some x, fun i H v H' => ∃ T x, v = .ref T ∧ H T = none ∧ H' = upd H T (.tup [.int (i : Nat), x]) ∧ ∀ xs, SqT K H a xs → xs[i]? = some x, fun i H => ∃ xs : List V, SqT K H a xs ∧ xs.length ≤ i⟩
theorem turn_enumT {P : Program} {w : World} {K : PySem.W.Frag} {elts : List Expr} {kk : Nat} {tpos : Pos} (a e it : Addr) :
    Turn P w K (.Tuple elts kk tpos) (IteT K a) [e, it] e (fun i h => (∃ old, IsEnum h e it ((i : Nat) : Int) old) ∧ h.IsTupleIter it a i ∧ e ≠ it ∧ a ≠ it ∧ e ≠ a) where
  mem := by simp
  obj := fun i h st b hb => by
    obtain ⟨⟨old, he⟩, ⟨o, ho, hc, hd⟩, _⟩ := st
    have e' : b = e ∨ b = it := by simpa using hb
    rcases e' with z | z
    · rw [z]; exact ⟨_, he, fun v q => nomatch q⟩
    · rw [z]; exact ⟨o, ho, fun v q => by rw [hd] at q; cases q⟩
  keep := fun i h h' st k => let ⟨⟨old, he⟩, hi, hne⟩ := st; ⟨⟨old, k e (by simp) _ he⟩, hi.at fun o q => k it (by simp) o q, hne⟩
  item := by
    intro X hP hw hK hc i pins s σ H E I hf st hg
    subst hP hw hK
    obtain ⟨⟨old, he⟩, hit, hne, hai, hea⟩ := st
    obtain ⟨xs, x, hq, hx⟩ := hg
    obtain ⟨its, rv, p, hz⟩ := I.tuple hq
    obtain ⟨u, hu, ru⟩ := rv.get hx
    have hel : e < s.heap.objs.size := Heap.lt_size he
    have hil : it < s.heap.objs.size := by obtain ⟨_, q, _⟩ := hit; exact Heap.lt_size q
    have hlt : i < its.toArray.size := by
      have := (List.getElem?_eq_some_iff.mp hu).1
      simpa using this
    have hh : X.A.in1.handled = none := I.ok.hd hc
    refine wpAny_pyNext_enum_itemC (Draws.tuple hh it a hai its.toArray) he ⟨hit, p⟩ hlt hne (by simp [hne, hea]) fun x' h' tk hP ho hst hT hsz hk => ?_
    have ex : x' = u := by
      have : its.toArray[i]? = some u := by simpa using hu
      rw [this] at hP
      exact (Option.some.inj hP).symm
    subst ex
    refine ⟨_, rfl, wpAny_letOwnedTupleGo_enum (s := { s with heap := h', toks := tk + 1 }) ho fun h'' he' sb => ?_⟩
    have hT2 : h''.get? s.heap.objs.size = some { cls := .type "tuple", data := .seq #[.int i tk, x'] } := (sb.2 _ (Nat.ne_of_gt hel)).trans hT
    have new : ObjOk X.prog X.w (upd H s.heap.objs.size (.tup [.int (i : Nat), x])) h'' s.heap.objs.size (.tup [.int (i : Nat), x]) :=
      ⟨by show 2 ≤ sizeLine; decide, [.int i tk, x'], .cons ⟨_, rfl⟩ (.cons ru .nil), ⟨_, hT2, rfl, _, rfl⟩⟩
    have I1 : Inv X pins σ (upd H s.heap.objs.size (.tup [.int (i : Nat), x])) { s with heap := h'', toks := tk + 1 } :=
      I.turnedNew (ch := [e, it]) (fun b ob hb q => (sb.2 b (fun z => hb (by simp [z]))).trans (hk b ob (fun z => hb (by simp [z])) (fun z => hb (by simp [z])) q)) hf (Nat.le_refl _) new
    refine ⟨.ref s.heap.objs.size, _, I1, rfl, ⟨_, x, rfl, I.hok.fresh (Nat.le_refl _), rfl, fun ys hy => by rw [I.tuple_inj hy hq]; exact hx⟩, ⟨⟨x', ?_⟩, hst.1.at fun o q => (sb.2 it (Ne.symm hne)).trans q, hne, hai, hea⟩, fun b hb => ?_⟩
    · have e1 : ((i + 1 : Nat) : Int) = (i : Int) + 1 := by omega
      rw [e1]; exact he'
    · have hb' : b < s.heap.objs.size := by
        have e' : b = e ∨ b = it := by simpa using hb
        rcases e' with z | z
        · rw [z]; exact hel
        · rw [z]; exact hil
      rw [upd_ne (Nat.ne_of_lt hb')]
      exact (hf b hb).1
  done := by
    intro X hP hw hK hc i pins s σ H E I hf st hg
    subst hP hw hK
    obtain ⟨⟨old, he⟩, hit, hne, hai, hea⟩ := st
    obtain ⟨xs, hq, hx⟩ := hg
    obtain ⟨its, rv, p, hz⟩ := I.tuple hq
    obtain ⟨f0, f1, f2, f3, f4, f5⟩ := hf it (by simp)
    have hl := rv.length
    exact next_enumT_end (I.ok.hd hc) he hit p (by simp; omega) fun h' eb => ⟨rfl, I.turned (t' := s.toks) (fun b o hb q => eb b o hb q) f0 f1 f3 f4 f5⟩
  self := fun A i s Q E st h => let ⟨⟨_, he⟩, _⟩ := st; wpAny_pyIter_enum he h
def iEnumT (K : PySem.W.Frag) (ta : TA) : TI := fun σ H R => ta σ H fun vs H1 => ∃ a xs, vs = [.ref a] ∧ SqT K H1 a xs ∧ R (IteT K a) H1
theorem pi_enumT {X : Cx} {e : Expr} {ta : TA} {p pos tpos : Pos} {elts : List Expr} {kk : Nat} (hg : Gl X "enumerate") (hm : X.mg "enumerate" = none) (ha : PA X [e] ta) (hs : starEach [e] X.env = [(false, eval e X.env)] := by rfl) :
    PI X (.Tuple elts kk tpos) (.Call (.Name "enumerate" p) [e] [] pos) (iEnumT X.K ta) := by
  refine ⟨fun pins s σ H R I h => ?_⟩
  refine Call_ (ld_blt I hg hm boot_enumerate (PyProof.Rows.callWith_type1 (thn (ha.run pos pins s σ H _ I h) fun us s1 ⟨vs, H1, I1, r1, a, xs, ex, hq, q⟩ => ?_) hs rfl))
  subst ex
  cases r1 with
  | cons r rr =>
    cases rr
    cases r
    obtain ⟨its, rv, p', hz⟩ := I1.tuple hq
    have hlt : a < s1.heap.objs.size := let ⟨o, ho, _⟩ := p'; Heap.lt_size ho
    refine call_enumT p' fun h' he hit hsz hk => wpAny_pyIter_enum he ?_
    have I2 : Inv X pins σ H1 { s1 with heap := h' } := I1.kept (t' := s1.toks) hk
    refine ⟨s1.heap.objs.size + 1, [s1.heap.objs.size + 1, s1.heap.objs.size], _, _, H1, rfl, I2, turn_enumT a (s1.heap.objs.size + 1) s1.heap.objs.size, ⟨⟨.none, he⟩, hit, Nat.succ_ne_self _, Nat.ne_of_lt hlt, Nat.ne_of_gt (Nat.lt_succ_of_lt hlt)⟩, fun b hb => ?_, q⟩
    have e' : b = s1.heap.objs.size + 1 ∨ b = s1.heap.objs.size := by simpa using hb
    have hle : s1.heap.objs.size ≤ b := by
      rcases e' with z | z
      · rw [z]; exact Nat.le_add_right _ _
      · rw [z]; exact Nat.le_refl _
    exact I1.fpOk hle (I1.hok.fresh hle)
theorem src_enumT {K : PySem.W.Frag} {S : Hp} {a : Addr} {xs : List V} {ds : List D} (hq : SqT K S a xs) (r : DDs K S xs ds) : SrcOk K S (IteT K a) (enumD ds) := fun M H t e =>
  ⟨fun i d hd => by
    obtain ⟨f, hf, ed⟩ := enumD_at hd
    subst ed
    obtain ⟨v, hv, hvd⟩ := r.get hf
    exact ⟨⟨xs, v, sub_sqT (same_sqT e hq), hv⟩, fun x H' ⟨T, y, ex, hT, eH, k⟩ => by
      subst ex eH
      have := k xs (sub_sqT (same_sqT e hq))
      rw [hv] at this
      cases this
      exact ⟨same_new hT, dd_pair t hT (.int _) (hvd.mono e)⟩⟩, fun i hi => ⟨xs, sub_sqT (same_sqT e hq), by rw [r.len, ← enumD_len]; exact hi⟩⟩
theorem ei_enumT {X : Cx} {C : SJ} {Γ : En} {P : List D → Prop} {a : Expr} {p pos tpos : Pos} {elts : List Expr} {kk : Nat} (hm : X.mg "enumerate" = none) (h : Ev X C Γ a fun d => ∃ ds, d = .tup ds ∧ P (enumD ds)) (hg : Gl X "enumerate" := by rfl) (hs : starEach [a] X.env = [(false, eval a X.env)] := by rfl) :
    EvI X C Γ (.Tuple elts kk tpos) (.Call (.Name "enumerate" p) [a] [] pos) P := fun σ H g R q => ⟨_, pi_enumT hg hm (pa_cons pe_we pa_nil hs) hs, h σ H g _ fun v d H1 s1 r1 ⟨ds, ed, pp⟩ => by
  subst ed
  cases r1 with
  | tup hq r => exact ⟨_, _, rfl, sub_sqT hq, q _ _ H1 s1 (src_enumT hq r) pp⟩⟩
end GG
set_option maxHeartbeats 4000000
/-! G20: a new list handed to a def that changes it. -/
namespace GG
open PySem PySem.Spec PyProof.Rows L2
section
variable {X : Cx} {C : SJ} {Γ : En}
theorem own_of {K : PySem.W.Frag} {σ : L2.St} {H H1 : Hp} {p : Addr} {xs : List V} {ds : List D} (g : Good C K σ H Γ) (hp : H p = none) (s : FStep C p H H1) (hl : H1 p = some (.lst xs)) (r : DDs K (cut (p :: C.M) H1) xs ds) : Good (own K C [p] [ds]) K σ H1 Γ := by
  have hm : p ∉ C.M := fun m => g.trk p m hp
  refine ⟨g.len, fun a ha => ?_, ⟨s.j, ⟨List.nodup_cons.mpr ⟨List.not_mem_nil, List.nodup_nil⟩, fun q hq m => by rw [List.mem_singleton.mp hq] at m; exact hm m⟩, fun k q a hq ha => ?_⟩, g.bnd.mono s.same⟩
  · rcases List.mem_cons.mp (show a ∈ p :: C.M from ha) with z | z
    · rw [z, hl]; exact fun z => by cases z
    · exact s.trk a z
  · cases k with
    | zero => cases hq; cases ha; exact ⟨xs, hl, r⟩
    | succ k => cases hq
/-- f(e1, a new list, e3) -/
theorem ev_callLF {P : D → Prop} {x : Str} {p pos : Pos} {e1 e2 e3 : Expr} {k : Nat} {R : (List D → SJ) → Addr → List D → List D → Prop} {G : List D → List D → (D → List D → Prop) → Prop} (F : DefdL X.prog X.w X.K X.mg X.base x k 3 R G) (hr : Room k X.A)
    (h : Ev X C Γ e1 fun d1 => EvF X C Γ e2 fun zs => ∀ l, Ev X (own X.K C [l] [zs]) Γ e3 fun d3 => R (fun a => own X.K C [l] [a]) l zs [d1, .adr l, d3] ∧ G zs [d1, .adr l, d3] fun d _ => P d) (hg : Gl X x := by rfl) (hdb : (x == ("__debug__" : Str)) = false := by decide)
    (he : starEach [e1, e2, e3] X.env = (false, eval e1 X.env) :: starEach [e2, e3] X.env := by rfl) (he2 : starEach [e2, e3] X.env = (false, eval e2 X.env) :: starEach [e3] X.env := by rfl) (he3 : starEach [e3] X.env = (false, eval e3 X.env) :: starEach [] X.env := by rfl)
    (hpl : (backTo pos (starEach [e2, e3] X.env)).any (·.1) = false := by rfl) : Ev X C Γ (.Call (.Name x p) [e1, e2, e3] [] pos) P := fun σ H g Q q => by
  obtain ⟨f, fd, ps, F, hm, hk, hb⟩ := F.ex
  refine we_of (pe_call F hr hg hm hk hb .nil L2.pass0 (pa_cons pe_we (pa_cons pe_we (pa_cons pe_we pa_nil he3) he2) he) hdb he hpl) ?_
  refine h σ H g _ fun v1 d1 H1 s1 r1 h1 => h1 σ H1 (g.step s1) _ fun l xs zs H2 hl s2 hl2 rz h2 => ?_
  have g2 := own_of (g.step s1) hl s2 hl2 rz
  refine h2 l σ H2 g2 _ fun v3 d3 H3 s3 r3 ⟨hR, hG⟩ => ?_
  have e3 : Same (cut C.M H1) (cut (l :: C.M) H3) := s2.same.trans s3.same
  show spL X.K 3 R G ([v1, .ref l, v3] ++ []) H3 Q L2.E0
  rw [List.append_nil]
  refine ⟨fun a => own X.K C [l] [a], l, zs, [d1, .adr l, d3], _, famL_own, rfl, hR, s3.trk, s3.j, .cons (r1.mono e3) (.cons (.adr l) (.cons r3 .nil)), hG, fun v d a' H4 e4 t4 j4 r4 p => ?_⟩
  have less : Same (cut (l :: C.M) H4) (cut C.M H4) := cut_less fun _ z => List.mem_cons_of_mem _ z
  exact q v d H4 ⟨((s1.same.trans e3).trans e4).trans less, fun b hb => t4 b (List.mem_cons_of_mem _ hb), C.st _ _ _ _ j4.1 less fun _ _ => rfl⟩ (r4.mono less) p
end
/-! ### a test, behind which more is alike -/
theorem Bl.impN {X : Cx} {C : SJ} {Γ : En} {O : Out} {sts : List Stmt} {I J : SJ → En → Prop} (h : Bl X C Γ sts { O with N := I }) (k : ∀ C' Γ', I C' Γ' → J C' Γ') : Bl X C Γ sts { O with N := J } := fun σ H g E b =>
  h σ H g E ⟨fun C' σ' H' Γ' s g' n => b.nx C' σ' H' Γ' s g' (k _ _ n), b.rt, b.bk, b.ct, b.rf, b.rx⟩
theorem bl_ifM {X : Cx} {C : SJ} {Γ : En} {O : Out} {rest : List Stmt} {pos : Pos} (I : SJ → En → Prop) {c : Expr} {a a' : List Stmt} (h : EvT X C Γ c fun k => if2 k (Bl X C Γ a { O with N := I }) (Bl X C Γ a' { O with N := I })) (hr : ∀ C' Γ', I C' Γ' → Bl X C' Γ' rest O) : Bl X C Γ (.If c a a' pos :: rest) O :=
  bl_if (h.imp fun k z => ⟨fun e => (z.1 e).impN hr, fun e => (z.2 e).impN hr⟩)
end GG
set_option maxHeartbeats 4000000
/-! G21: [elt for tg in iter if cond]; texts in tuples of texts. -/
namespace GG
open PySem PySem.Spec PyProof.Rows L2
section
variable {X : Cx} {C : SJ} {Γ : En} {elt tg iter cond : Expr} {scope : Scope}
theorem ef_filter {ow : List (Str × Nat)} {pos : Pos} {P : List D → Prop} (T : Tgt) (pr : D → Bool) (g : D → D) (ds : List D) (hl : ds.length ≤ sizeLine)
    (h : EvI X C Γ tg iter fun es => es = ds ∧ (∀ y ∈ ds, ∃ Γ2, T.put (wipeE Γ (ow.map (·.2))) y = some Γ2 ∧ ∀ s H0 c cl fp p acc, p ∉ C.M → EvT (blk' X scope s H0 c cl fp) (own X.K C [p] [acc]) Γ2 cond (fun b => b = pr y) ∧ Ev (blk' X scope s H0 c cl fp) (own X.K C [p] [acc]) Γ2 elt fun z => z = g y) ∧ P ((ds.filter pr).map g))
    (ok : BlkOk X.N X.env.scope scope ow) (hT : ∀ (s : Shared) (H : Hp) (c : Addr) (cl : List (Str × Addr)) (fp : List Addr), PG (blk' X scope s H c cl fp) tg (T.g X.K)) (hN : X.N.Nodup) (hv : ∀ i ∈ T.slots, i ∈ ow.map (·.2) := by decide)
    (hc : X.calm = true := by rfl) (hs : ∀ x, foldedSetIterable iter X.env x = pure x := by intro _; rfl) : EvF X C Γ (.ListComp elt [⟨tg, iter, [cond], 0⟩] scope pos) P :=
  ef_lc T (fun i acc => acc = ((ds.take i).filter pr).map g) (fun σ H gd R q => h σ H gd R fun J es H1 s1 src ⟨e, hy, hP⟩ => q J es H1 s1 src (by
    subst e
    refine ⟨rfl, fun i y acc hi ha => ?_, fun acc ha => ?_⟩
    · obtain ⟨Γ2, e2, hE⟩ := hy y (List.mem_of_getElem? hi)
      have hlt := (List.getElem?_eq_some_iff.mp hi).1
      have hst : ((es.take (i + 1)).filter pr).map g = ((es.take i).filter pr).map g ++ (if pr y = true then [g y] else []) := by
        rw [take_get hi, List.filter_append, List.map_append]
        congr 1
        by_cases z : pr y = true
        · rw [if_pos z, List.filter_cons_of_pos z, List.filter_nil]; rfl
        · rw [if_neg z, List.filter_cons_of_neg z, List.filter_nil]; rfl
      refine ⟨Γ2, fun k => k = pr y, e2, ⟨fun s H0 c cl fp p hp => ets_one (hE s H0 c cl fp p acc hp).1, fun kt s H0 c cl fp p hp => (hE s H0 c cl fp p acc hp).2.imp fun z ez => ⟨?_, ?_⟩, fun kf => ?_⟩⟩
      · have h1 : ((es.take i).filter pr).length ≤ (es.take i).length := List.length_filter_le _ _
        rw [List.length_take] at h1
        rw [ha, List.length_map]
        omega
      · rw [ez, ha, hst, if_pos kt.symm]
      · rw [ha, hst, if_neg (by rw [← kf]; exact Bool.false_ne_true), List.append_nil]
    · rw [ha, List.take_length]; exact hP)) ok hT hN hv hc hs
end
/-! a text in a tuple of texts -/
theorem shp_strsT (xs : List Str) (h : ∀ x ∈ xs, PyData.strOk x = true) : shp (.tup (xs.map D.str)) = true := by
  have h1 := canLay_strs xs h
  have h2 := depth_strs xs
  simp [shp, SeqAt.shaped, toPy, PyData.canLay0, PyData.depth, h1, h2]
theorem shp_str {x : Str} (h : PyData.strOk x = true) : shp (.str x) = true := by
  simp [shp, SeqAt.shaped, toPy, PyData.canLay0, PyData.depth, h]
theorem any_strs (x : Str) : ∀ xs : List Str, ((xs.map D.str).any fun e => eqD e (.str x)) = decide (x ∈ xs)
  | [] => by simp
  | y :: r => by
    rw [List.map_cons, List.any_cons, any_strs x r, eqD_str, Bool.eq_iff_iff]
    simp
    exact ⟨fun h => h.imp Eq.symm id, fun h => h.imp Eq.symm id⟩
theorem d_inT {P : D → Prop} {f : Bool → Bool} {x : Str} {xs : List Str} (hx : PyData.strOk x = true) (hxs : ∀ y ∈ xs, PyData.strOk y = true) (h : P (.bl (f (decide (x ∈ xs))))) : inG f (.str x) (.tup (xs.map D.str)) P := by
  refine ⟨shp_str hx, shp_strsT xs hxs, ?_⟩
  rw [any_strs]
  exact h
end GG
set_option maxHeartbeats 2000000
/-! G22: several attributes at once. -/
namespace GG
open PySem PySem.Spec PyProof.Rows L2
/-- o.f = .., as a target -/
def gFld (K : PySem.W.Frag) (to : TE) (f : Str) : TG := fun v σ H Q => to σ H fun x H1 => ∃ a C dx fs, x = .ref a ∧ H1 a = some (.ins C dx fs) ∧ Cls K C ∧ NoAttr K C f ∧ fs.length < 1000 ∧ Q σ (upd H1 a (.ins C dx (putF f v fs)))
theorem pg_fld {X : Cx} {o : Expr} {to : TE} {f : Str} {pos : Pos} (ho : PE X o to)
    (ha : ∀ v, assign (.Attribute o f pos) X.env v = (do
      let ov ← holding [v] (eval o X.env)
      standAt pos.atName
      holding [v, ov] (setAttr ov f v)
      release [v, ov] []) := by intro _; rfl) : PG X (.Attribute o f pos) (gFld X.K to f) := by
  refine ⟨fun pins s σ H v u Q I r h => ?_⟩
  rw [ha]
  refine wpAny_bind (wpAny_holding (thn (ho.run pins s σ H _ I h) fun ov s1 ⟨x, H1, I1, r1, a, C, dx, fs, ex, ea, c, n, l, q⟩ => ?_))
  subst ex
  obtain rfl : ov = Value.ref a := r1
  exact wpAny_bind (wpAny_standAt (wpAny_bind (wpAny_holding (setattr_ok I1 ea c n l r fun s3 I3 => wpAny_release ⟨σ, _, I3, q⟩))))
section
variable {X : Cx} {C : SJ} {Γ : En}
theorem own_put {x dx Cl : Addr} {gs : List (Str × D)} {f : Str} {σ : L2.St} {H : Hp} {v : V} {y : D} (g : Good (ownO X.K C x dx Cl gs) X.K σ H Γ) (r : DD X.K (cut (x :: dx :: C.M) H) v y) :
    ∃ fs, H x = some (.ins Cl dx fs) ∧ fs.length = gs.length ∧ Good (ownO X.K C x dx Cl (putD f y gs)) X.K σ (upd H x (.ins Cl dx (putF f v fs))) Γ ∧ Same (cut (x :: dx :: C.M) H) (cut (x :: dx :: C.M) (upd H x (.ins Cl dx (putF f v fs)))) := by
  obtain ⟨j1, j2, fs, hx, hdx, hf⟩ := g.j
  have em : cut (x :: dx :: C.M) (upd H x (.ins Cl dx (putF f v fs))) = cut (x :: dx :: C.M) H := cut_same_upd List.mem_cons_self
  refine ⟨fs, hx, hf.len, ⟨g.len, fun a ha => ?_, ⟨?_, j2, _, upd_same, by rw [upd_ne (Ne.symm j2.1)]; exact hdx, ?_⟩, ?_⟩, by rw [em]; exact Same.refl _⟩
  · by_cases z : a = x
    · subst z; rw [upd_same]; exact fun z => by cases z
    · rw [upd_ne z]; exact g.trk a ha
  · show C.J (cut (x :: dx :: C.M) _) _
    rw [em]
    exact C.st _ _ _ _ j1 (Same.refl _) fun a ha => upd_ne fun z : a = x => j2.2.1 (z ▸ ha)
  · show DDf X.K (cut (x :: dx :: C.M) _) _ _
    rw [em]
    exact DDf.put r hf
  · show Bnd X.K (cut (x :: dx :: C.M) _) σ Γ
    rw [em]
    exact g.bnd
/-- self.a, self.b, self.c = e -/
theorem bl_fld3 {O : Out} {rest : List Stmt} {x dx Cl : Addr} {gs : List (Str × D)} {o1 o2 o3 e : Expr} {f1 f2 f3 : Str} {p1 p2 p3 pt pos : Pos} {kk : Nat} (hc : Cls X.K Cl) (n1 : NoAttr X.K Cl f1) (n2 : NoAttr X.K Cl f2) (n3 : NoAttr X.K Cl f3) (hl : gs.length ≤ 900) (hcalm : X.calm = true)
    (h1 : ∀ gs', Ev X (ownO X.K C x dx Cl gs') Γ o1 fun d => d = .adr x) (h2 : ∀ gs', Ev X (ownO X.K C x dx Cl gs') Γ o2 fun d => d = .adr x) (h3 : ∀ gs', Ev X (ownO X.K C x dx Cl gs') Γ o3 fun d => d = .adr x)
    (h : Ev X (ownO X.K C x dx Cl gs) Γ e fun d => ∃ a b c, d = .tup [a, b, c] ∧ Bl X (ownO X.K C x dx Cl (putD f3 c (putD f2 b (putD f1 a gs)))) Γ rest O)
    (hs : swapsWithSole [.Tuple [.Attribute o1 f1 p1, .Attribute o2 f2 p2, .Attribute o3 f3 p3] kk pt] e pos.line X.env = pure false := by rfl) (hw : swappedStores [.Tuple [.Attribute o1 f1 p1, .Attribute o2 f2 p2, .Attribute o3 f3 p3] kk pt] e X.env = pure none := by rfl) :
    Bl X (ownO X.K C x dx Cl gs) Γ (.Assign [.Tuple [.Attribute o1 f1 p1, .Attribute o2 f2 p2, .Attribute o3 f3 p3] kk pt] e pos :: rest) O := bl_seq fun σ H g E bk =>
  ws_of (ps_asg pe_we (pg_tup (n := 3) hcalm (pgs_cons (pg_fld pe_we) (pgs_cons (pg_fld pe_we) (pgs_cons (pg_fld pe_we) pgs_nil)))) hs hw) (h σ H g _ fun v d H1 s1 r1 ⟨a, b, c, ed, bl⟩ => by
    subst ed
    cases r1 with
    | tup ht r =>
      cases r with
      | cons ra r =>
        cases r with
        | cons rb r =>
          cases r with
          | cons rc r =>
            cases r
            have g1 := g.step s1
            refine ⟨_, _, rfl, sub_sqT ht, rfl, _, _, rfl, h1 _ σ H1 g1 _ fun w d H2 s2 r2 ed => ?_⟩
            subst ed
            cases r2
            obtain ⟨fs1, x1, l1, g2, m1⟩ := own_put (f := f1) (g1.step s2) (ra.mono s2.same)
            refine ⟨x, Cl, dx, fs1, rfl, x1, hc, n1, by omega, _, _, rfl, h2 _ σ _ g2 _ fun w d H3 s3 r3 ed => ?_⟩
            subst ed
            cases r3
            have e3 := (s2.same.trans m1).trans s3.same
            obtain ⟨fs2, x2, l2, g3, m2⟩ := own_put (f := f2) (g2.step s3) (rb.mono e3)
            have q1 := putD_len f1 a gs
            refine ⟨x, Cl, dx, fs2, rfl, x2, hc, n2, by omega, _, _, rfl, h3 _ σ _ g3 _ fun w d H4 s4 r4 ed => ?_⟩
            subst ed
            cases r4
            have e4 := (e3.trans m2).trans s4.same
            obtain ⟨fs3, x3, l3, g4, m3⟩ := own_put (f := f3) (g3.step s4) (rc.mono e4)
            have q2 := putD_len f2 b (putD f1 a gs)
            exact ⟨x, Cl, dx, fs3, rfl, x3, hc, n3, by omega, rfl, bk.nx (ownO X.K C x dx Cl (putD f3 c (putD f2 b (putD f1 a gs)))) σ _ Γ (s1.same.trans (e4.trans m3)) g4 bl⟩)
end
end GG
set_option maxHeartbeats 2000000
/-! G23: one's own list .extend(a tuple). -/
namespace GG
open PySem PySem.Spec PyProof.Rows L2
open AutoSeq1 (wpAny_loadPart')
theorem ext_listT (l : Addr) (items : Array Value) (n : Nat) (b : Addr) (items2 : Array Value) (n2 : Nat) (dct : Option Addr) (sl : Array (Option Value)) (hs0 : ¬(!items.isEmpty && Builtin.List.listTooLong (items.size + items2.size)) = true) (hs1 : items.size ≤ sizeLine) (hs2 : items.size + items2.size ≤ sizeLine + 1) :
    Meets (Builtin.«list.extend» ⟨[.ref l, .ref b], []⟩) (fun _ R s => s.heap.get? l = some { cls := .type "list", data := .seq items n } ∧ s.heap.get? b = some { cls := .type "tuple", dict := dct, data := .seq items2 n2, slots := sl } ∧
      R (.ok (.ret Value.none)) { s with heap := s.heap.update l (Obj.mapSeq fun x => x ++ items2), toks := s.toks }) :=
  .of_wp fun prog w A R s ⟨hl, hb, h⟩ => by
    obtain ⟨hp, g, d, tk, os⟩ := s
    have f2 := AutoSeq1.sub_tuple_tuple
    have f3 := AutoSeq1.sub_list_list
    have f4 := AutoSeq1.sub_tuple_list
    have f5 := AutoSeq1.sub_list_tuple
    have hz' : (items ++ items2).size ≤ sizeLine + 1 := by rw [Array.size_append]; exact hs2
    wp_walk using (wpAny_updateSeq hl rfl (hz := hs1) (_hz' := hz')), wpAny_loadPart' hl, wpAny_loadPart' hb
    exact ⟨_, rfl, h⟩
section
variable {X : Cx} {Γ : En} {l : Addr} {CF : List D → SJ} {a : List D} {O : Out} {rest : List Stmt}
def rExtT (K : PySem.W.Frag) : V → List V → Hp → VK → Prop := fun x vs H Q => ∃ l b xs zs, x = .ref l ∧ vs = [.ref b] ∧ H l = some (.lst xs) ∧ SqT K H b zs ∧ xs.length + zs.length ≤ sizeLine ∧ Q .non (upd H l (.lst (xs ++ zs)))
theorem mt_extT : MtM X "list.extend" (rExtT X.K) := by
  intro pins s σ H x vs v us Q I rx rv h
  obtain ⟨l, b, xs, zs, rfl, rfl, hH, hB, hz, q⟩ := h
  cases rx
  obtain ⟨u, rfl, ru⟩ := rv.one
  cases ru
  obtain ⟨z, its, n, r, hl, e⟩ := I.lstM hH
  obtain ⟨its2, r2, ⟨⟨c2, dct, dt2, sl⟩, e2, hc2, n2, hd2⟩, hz2⟩ := I.tuple hB
  obtain rfl : c2 = .type "tuple" := hc2
  obtain rfl : dt2 = .seq its2.toArray n2 := hd2
  have hl2 := r2.length
  have hsz : its.toArray.size + its2.toArray.size ≤ sizeLine := by rw [List.size_toArray, List.size_toArray]; omega
  have hlong : ¬ (!its.toArray.isEmpty && Builtin.List.listTooLong (its.toArray.size + its2.toArray.size)) = true := by
    rw [notLongL hsz, Bool.and_false]
    exact Bool.false_ne_true
  refine call_meets F.slot_list_extend ⟨_, e, rfl⟩ F.entry_list_extend (F.args_list_extend_2 _ _) (ext_listT l its.toArray n b its2.toArray n2 dct sl hlong (by rw [List.size_toArray]; omega) (by omega)) ⟨e, e2, ?_⟩
  refine ⟨.non, _, I.lset (its' := its ++ its2) hH e (by simp) (r.append r2) ?_, rfl, q⟩
  rw [List.length_append]
  omega
/-- o.extend(a tuple) -/
theorem bl_extendT (F : FamL X.K l CF) {o e : Expr} {apos cpos pos : Pos}
    (ho : Ev X (CF a) Γ o fun d => d = .adr l ∧ Ev X (CF a) Γ e fun y => ∃ ds, y = .tup ds ∧ a.length + ds.length ≤ sizeLine ∧ Bl X (CF (a ++ ds)) Γ rest O)
    (hbase : attributeBase o "extend" X.env (eval o X.env) = eval o X.env := by rfl)
    (hfew : ((backTo cpos (starEach [e] X.env)).all (fun x => !x.1) && (backToKw cpos (keywordEach [] X.env)).all (fun x => x.1.isSome)
      && decide (([e] : List Expr).length + ([] : List Keyword).length + (if ([] : List Keyword).isEmpty then 0 else 1) < 30)) = true := by rfl)
    (hline : (apos.endLine == cpos.line) = true := by rfl) (hs1 : starEach [e] X.env = (false, eval e X.env) :: starEach [] X.env := by rfl) (hs : swapsWith (.Call (.Attribute o "extend" apos) [e] [] cpos) none pos.line X.env = pure false := by rfl) :
    Bl X (CF a) Γ (.Expr (.Call (.Attribute o "extend" apos) [e] [] cpos) pos :: rest) O := bl_seq fun σ H g E b =>
  ws_of (ps_expr (pe_bm PySem.F.plainAttrs_list PySem.F.slot_list_extend PySem.F.type_list_extend mt_extT pe_we (pa_cons pe_we pa_nil hs1) hbase hfew hline hs1 rfl) hs) (ho σ H g _ fun v d H1 s1 r1 ⟨ed, he⟩ => by
    subst ed
    cases r1
    obtain ⟨xs0, h0, _⟩ := F.get a _ _ s1.j
    refine ⟨.inl ⟨rfl, xs0, .of h0⟩, he σ H1 (g.step s1) _ fun w y H2 s2 r2 ⟨ds, ey, hz, bl⟩ => ?_⟩
    subst ey
    have g2 := g.step (s1.trans s2)
    obtain ⟨xs, h2, rx⟩ := F.get a _ _ g2.j
    cases r2 with
    | tup ht r =>
      obtain ⟨g3, s3⟩ := F.good g2 (rx.append r)
      exact ⟨l, _, xs, _, rfl, rfl, h2, sub_sqT ht, by rw [rx.len, r.len]; exact hz, b.nx _ σ _ Γ ((s1.trans s2).same.trans s3) g3 bl⟩)
end
end GG
set_option maxHeartbeats 4000000
/-! G24: sorted(booleans), filters into names (data, own), own.extend(new list), in own lists, unequal lists. -/
namespace GG
open PySem PySem.Spec PyProof.Rows L2 SrtO Srt
section
variable {prog : Program} {w : World} {A : Around} {E : Value → Shared → Prop} {s : Shared}
def bv : Value → Bool
  | .bool b => b
  | _ => false
def ltBv (v u : Value) : Bool := !bv v && bv u
theorem swo_bool : Swo ltBv := by
  refine ⟨fun x y h => ?_, fun x y z h1 h2 => ?_⟩
  · unfold ltBv at h ⊢
    revert h
    cases bv x <;> cases bv y <;> simp
  · unfold ltBv at h1 h2 ⊢
    revert h1 h2
    cases bv x <;> cases bv y <;> cases bv z <;> simp
theorem b2i_lt (a b : Bool) : decide ((if a = true then (1 : Int) else 0) < (if b = true then (1 : Int) else 0)) = (!a && b) := by cases a <;> cases b <;> decide
theorem call_bool_lt {a b : Bool} {Q : Value → Shared → Prop} (h : Q (.bool (!a && b)) s) : wpAny (model prog w) A (call (.builtin "int.__lt__") [.bool a, .bool b]) Q E s :=
  call_gives F.slot_bool_lt (typeIs_bool' s a) F.entry_int_lt (F.args_int_lt_2 _ _) (gives_int_lt_bools a b) (by
    show Q (.bool (decide ((if a = true then (1 : Int) else 0) < (if b = true then (1 : Int) else 0)))) s
    rw [b2i_lt]
    exact h)
theorem oneLt_bool {a b : Bool} {Q : Bool → Shared → Prop} (h : Q (!a && b) s) : wpAny (model prog w) A (oneLt' true (.bool a) (.bool b)) Q E s := by
  rw [oneLt'_eq]
  simp only [if_true]
  refine wpAny_bind (wpAny_cRoomFor_byValue rfl ?_)
  refine wpAny_bind (wpAny_callSpecialIfBound?_slot (typeIs_bool' s a) F.slot_bool_lt (call_bool_lt ?_))
  exact wpAny_truthy_bool h
theorem first_bool (b : Bool) : firstOfTuple' (.bool b) = pure none := rfl
theorem mapM_first_bools : ∀ bs : List Bool, (bs.map Value.bool).mapM firstOfTuple' = pure (bs.map fun _ => none)
  | [] => by simp
  | b :: bs => by rw [List.map_cons, List.mapM_cons, first_bool, mapM_first_bools bs]; simp
theorem mapM_typeOf_bools : ∀ bs : List Bool, (bs.map Value.bool).mapM typeOf = pure (bs.map fun _ => Value.type "bool")
  | [] => by simp
  | b :: bs => by
    rw [List.map_cons, List.mapM_cons, mapM_typeOf_bools bs]
    show (pure (Value.type "bool") >>= fun b => pure _ >>= fun bs => pure (b :: bs)) = _
    simp
theorem keyKind_bools (a b : Bool) (bs : List Bool) : keyKind' ((a :: b :: bs).map Value.bool).toArray = pure oneType' := by
  rw [keyKind'_eq, List.mapM_toArray, mapM_first_bools]
  simp only [map_pure, pure_bind]
  rw [if_neg (by simp), if_neg (by simp)]
  rw [oneTypeOnly'_eq, List.mapM_toArray, mapM_typeOf_bools]
  simp only [map_pure, pure_bind]
  have hall : ((List.map (fun _ => Value.type "bool") (a :: b :: bs)).toArray.all fun x => x == Value.type "bool") = true := by
    simp only [List.all_toArray, List.all_map, List.all_eq_true]
    intro _ _
    rfl
  have h0 : (List.map (fun _ => Value.type "bool") (a :: b :: bs)).toArray[0]? = some (Value.type "bool") := by simp
  rw [h0]
  simp only [hall, if_true, pure_bind, Option.isSome_some]
theorem bool_cmp {bs : List Bool} : Cmp prog w A s oneType' (fun p => p.1 ∈ bs.map Value.bool) (lt2 ltBv) := by
  intro p q hm hm'
  obtain ⟨a, _, e⟩ := List.mem_map.mp hm
  obtain ⟨b, _, e'⟩ := List.mem_map.mp hm'
  show wpAny (model prog w) A (keyLt' oneType' p.1 q.1) (fun r s' => s' = s ∧ r = ltBv p.1 q.1) (fun _ _ => False) s
  rw [← e, ← e', keyLt'_oneType]
  exact oneLt_bool ⟨rfl, rfl⟩
theorem bools_sortable {a : Addr} {bs : List Bool} (h2 : 2 ≤ (bs.map Value.bool).length) : SortableO prog w A s a (bs.map Value.bool) ltBv := by
  intro h' _
  refine ⟨oneType', fun Q E hq => ?_, bool_cmp⟩
  match bs, h2 with
  | v1 :: v2 :: rest, _ =>
    rw [keyKind_bools]
    exact wpAny_pure hq
  | [], h => exact absurd h (by decide)
  | [v], h => exact absurd h (by simp)
end
/-- a is not above b -/
def leB2 (a b : Bool) : Prop := (a && !b) = false
theorem leB2_anti {a b : Bool} (h1 : leB2 a b) (h2 : leB2 b a) : a = b := by
  unfold leB2 at h1 h2
  revert h1 h2
  cases a <;> cases b <;> simp
theorem vals_bools : ∀ {bs : List Bool} {us : List Value}, Vals (bs.map V.bl) us → us = bs.map Value.bool
  | [], _, r => by cases r; rfl
  | b :: bs, _, r => by
    cases r with
    | cons h r =>
      cases h
      rw [vals_bools r]
      rfl
theorem bools_vals : ∀ bs : List Bool, Vals (bs.map V.bl) (bs.map Value.bool)
  | [] => .nil
  | b :: bs => .cons rfl (bools_vals bs)
theorem bools_dds {K : PySem.W.Frag} {S : Hp} : ∀ bs : List Bool, DDs K S (bs.map V.bl) (bs.map D.bl)
  | [] => .nil
  | b :: bs => .cons (.bl b) (bools_dds bs)
theorem bools_back : ∀ {out : List Value}, (∀ v ∈ out, ∃ b, v = Value.bool b) → out = (out.map bv).map Value.bool
  | [], _ => rfl
  | v :: out, h => by
    obtain ⟨b, rfl⟩ := h v List.mem_cons_self
    rw [List.map_cons, List.map_cons, ← bools_back fun u hu => h u (List.mem_cons_of_mem _ hu)] <;> rfl
section
variable {X : Cx} {C : SJ} {Γ : En}
theorem cr_sortedB : CallR X (.builtin "sorted") (fun vs H Q => ∃ (a : Addr) (bs : List Bool), vs = [V.ref a] ∧ SqL X.K H a (bs.map V.bl) ∧ ∀ (cs : List Bool) (p : Addr), cs.Perm bs → cs.Pairwise leB2 → H p = none → Q (.ref p) (upd H p (.lst (cs.map V.bl)))) := by
  intro pins s σ H vs us Q I r h
  obtain ⟨a, bs, rfl, hs, q⟩ := h
  obtain ⟨its, rv, hl, hz⟩ := I.list hs
  rw [Vals.ref1 r]
  have hi := vals_bools rv
  subst hi
  rw [List.length_map] at hz
  refine SrtO.sorted_ord swo_bool hl.isList (by rw [List.length_map]; exact hz) (fun h2 h₁ a' _ _ => bools_sortable h2) fun out h1 h2 => ?_
  have hb : ∀ v ∈ out, ∃ b, v = Value.bool b := fun v hv => by
    obtain ⟨b, _, e⟩ := List.mem_map.mp (h2.perm.mem_iff.mp hv)
    exact ⟨b, e.symm⟩
  have eo := bools_back hb
  have hp : (out.map bv).Perm bs := by
    have := h2.perm.map bv
    rw [List.map_map] at this
    have e : (bv ∘ Value.bool) = id := by funext b; rfl
    rw [e, List.map_id] at this
    exact this
  have hs2 : (out.map bv).Pairwise leB2 := List.pairwise_map.mpr (h1.imp fun {x y} h => by
    have h : (!bv y && bv x) = false := h
    show (bv x && !bv y) = false
    rw [Bool.and_comm]
    exact h)
  obtain ⟨ep, he'⟩ := PyProof.Rows.sortedAll_at s.heap (bs.map Value.bool) out.toArray
  have hlen : ((out.map bv).map V.bl).length ≤ sizeLine := by
    rw [List.length_map, hp.length_eq]
    exact hz
  exact ⟨.ref _, upd H (s.heap.objs.size + 1) (.lst ((out.map bv).map V.bl)), I.laid (t' := s.toks) (fun _ _ => PyProof.Rows.sortedAll_old) (Nat.le_succ _) ⟨hlen, out, ep, by have := bools_vals (out.map bv); rw [← eo] at this; exact this, he'⟩, rfl, q _ _ hp hs2 (I.hok.fresh (Nat.le_succ _))⟩
theorem ef_sortedB {p pos : Pos} {a : Expr} {P : List D → Prop} (hm : X.mg "sorted" = none) (h : Ev X C Γ a fun d => ∃ bs : List Bool, d = .lst (bs.map D.bl) ∧ ∀ cs : List Bool, cs.Perm bs → cs.Pairwise leB2 → P (cs.map D.bl)) (hg : Gl X "sorted" := by rfl) (he : starEach [a] X.env = (false, eval a X.env) :: starEach [] X.env := by rfl) :
    EvF X C Γ (.Call (.Name "sorted" p) [a] [] pos) P := fun σ H g Q q => by
  refine we_of (pe_callB cr_sortedB hg hm (by decide +kernel) (pa_cons pe_we pa_nil he) (by decide) (by decide) he rfl) ?_
  refine h σ H g _ fun v d H1 s1 r1 ⟨bs, ed, hG⟩ => ?_
  subst ed
  cases r1 with
  | lst hq r =>
    rw [dds_bools r] at hq
    refine ⟨_, bs, rfl, sub_sqL hq, fun cs l hp hs hl => ?_⟩
    exact q l _ _ _ (nil_back s1 hl) (fst_new s1 hl) upd_same (bools_dds _) (hG cs hp hs)
end
/-! ### y = [elt for tg in iter if cond], on one line -/
section
variable {X : Cx} {C : SJ} {Γ : En} {elt tg iter cond : Expr} {ifs : List Expr} {scope : Scope} {O : Out} {rest : List Stmt}
theorem turns_filter {ow : List (Str × Nat)} {T : Tgt} {pr : D → Bool} {g : D → D} {ds : List D} (hl : ds.length ≤ sizeLine)
    (hy : ∀ y ∈ ds, ∃ Γ2, T.put (wipeE Γ (ow.map (·.2))) y = some Γ2 ∧ ∀ s H0 c cl fp p acc, p ∉ C.M → EvT (blk' X scope s H0 c cl fp) (own X.K C [p] [acc]) Γ2 cond (fun b => b = pr y) ∧ Ev (blk' X scope s H0 c cl fp) (own X.K C [p] [acc]) Γ2 elt fun z => z = g y) :
    ∀ i y acc, ds[i]? = some y → acc = ((ds.take i).filter pr).map g → ∃ Γ2 B, T.put (wipeE Γ (ow.map (·.2))) y = some Γ2 ∧ LcTurn X C scope Γ2 [cond] elt acc (fun acc => acc = ((ds.take (i + 1)).filter pr).map g) B := fun i y acc hi ha => by
  obtain ⟨Γ2, e2, hE⟩ := hy y (List.mem_of_getElem? hi)
  have hlt := (List.getElem?_eq_some_iff.mp hi).1
  have hst : ((ds.take (i + 1)).filter pr).map g = ((ds.take i).filter pr).map g ++ (if pr y = true then [g y] else []) := by
    rw [take_get hi, List.filter_append, List.map_append]
    congr 1
    by_cases z : pr y = true
    · rw [if_pos z, List.filter_cons_of_pos z, List.filter_nil]; rfl
    · rw [if_neg z, List.filter_cons_of_neg z, List.filter_nil]; rfl
  refine ⟨Γ2, fun k => k = pr y, e2, ⟨fun s H0 c cl fp p hp => ets_one (hE s H0 c cl fp p acc hp).1, fun kt s H0 c cl fp p hp => (hE s H0 c cl fp p acc hp).2.imp fun z ez => ⟨?_, ?_⟩, fun kf => ?_⟩⟩
  · have h1 : ((ds.take i).filter pr).length ≤ (ds.take i).length := List.length_filter_le _ _
    rw [List.length_take] at h1
    rw [ha, List.length_map]
    omega
  · rw [ez, ha, hst, if_pos kt.symm]
  · rw [ha, hst, if_neg (by rw [← kf]; exact Bool.false_ne_true), List.append_nil]
theorem turns_map {ow : List (Str × Nat)} {T : Tgt} {g : D → D} {ds : List D} (hl : ds.length ≤ sizeLine)
    (hy : ∀ y ∈ ds, ∃ Γ2, T.put (wipeE Γ (ow.map (·.2))) y = some Γ2 ∧ ∀ s H0 c cl fp p acc, p ∉ C.M → Ev (blk' X scope s H0 c cl fp) (own X.K C [p] [acc]) Γ2 elt fun z => z = g y) :
    ∀ i y acc, ds[i]? = some y → acc = (ds.take i).map g → ∃ Γ2 B, T.put (wipeE Γ (ow.map (·.2))) y = some Γ2 ∧ LcTurn X C scope Γ2 [] elt acc (fun acc => acc = (ds.take (i + 1)).map g) B := fun i y acc hi ha => by
  obtain ⟨Γ2, e2, hE⟩ := hy y (List.mem_of_getElem? hi)
  have hlt := (List.getElem?_eq_some_iff.mp hi).1
  refine ⟨Γ2, fun k => k = true, e2, ⟨fun s H0 c cl fp p _ => ets_nil rfl, fun _ s H0 c cl fp p hp => (hE s H0 c cl fp p acc hp).imp fun z ez => ⟨?_, ?_⟩, fun z => absurd z Bool.false_ne_true⟩⟩
  · rw [ha, List.length_map, List.length_take]; omega
  · rw [ez, ha, take_get hi, List.map_append] <;> rfl
theorem bl_filter {ow : List (Str × Nat)} {pos py spos : Pos} {y : Str} (k : Nat) (T : Tgt) (pr : D → Bool) (g : D → D) (ds : List D) (hl : ds.length ≤ sizeLine)
    (h : EvI X C Γ tg iter fun es => es = ds ∧ (∀ y ∈ ds, ∃ Γ2, T.put (wipeE Γ (ow.map (·.2))) y = some Γ2 ∧ ∀ s H0 c cl fp p acc, p ∉ C.M → EvT (blk' X scope s H0 c cl fp) (own X.K C [p] [acc]) Γ2 cond (fun b => b = pr y) ∧ Ev (blk' X scope s H0 c cl fp) (own X.K C [p] [acc]) Γ2 elt fun z => z = g y) ∧
      Bl X C (Γ.set k (some (.lst ((ds.filter pr).map g)))) rest O)
    (ok : BlkOk X.N X.env.scope scope ow) (hT : ∀ (s : Shared) (H : Hp) (c : Addr) (cl : List (Str × Addr)) (fp : List Addr), PG (blk' X scope s H c cl fp) tg (T.g X.K)) (hN : X.N.Nodup)
    (hsw : swapsWith (.ListComp elt [⟨tg, iter, [cond], 0⟩] scope pos) (some (.Name y py)) spos.line X.env = pure true) (hy : X.N[k]? = some y := by rfl) (hyl : X.env.scope.names.lookup y = some .local := by rfl) (hv : ∀ i ∈ T.slots, i ∈ ow.map (·.2) := by decide)
    (hc : X.calm = true := by rfl) (hs : ∀ x, foldedSetIterable iter X.env x = pure x := by intro _; rfl) : Bl X C Γ (.Assign [.Name y py] (.ListComp elt [⟨tg, iter, [cond], 0⟩] scope pos) spos :: rest) O :=
  bl_lc k T (fun i acc => acc = ((ds.take i).filter pr).map g) (fun σ H gd R q => h σ H gd R fun J es H1 s1 src ⟨e, hy, hP⟩ => q J es H1 s1 src (by
    subst e
    exact ⟨rfl, turns_filter hl hy, fun acc ha => by rw [ha, List.take_length]; exact hP⟩)) ok hT hN hsw hy hyl hv hc hs
theorem bl_map {ow : List (Str × Nat)} {pos py spos : Pos} {y : Str} (k : Nat) (T : Tgt) (g : D → D) (ds : List D) (hl : ds.length ≤ sizeLine)
    (h : EvI X C Γ tg iter fun es => es = ds ∧ (∀ y ∈ ds, ∃ Γ2, T.put (wipeE Γ (ow.map (·.2))) y = some Γ2 ∧ ∀ s H0 c cl fp p acc, p ∉ C.M → Ev (blk' X scope s H0 c cl fp) (own X.K C [p] [acc]) Γ2 elt fun z => z = g y) ∧
      Bl X C (Γ.set k (some (.lst (ds.map g)))) rest O)
    (ok : BlkOk X.N X.env.scope scope ow) (hT : ∀ (s : Shared) (H : Hp) (c : Addr) (cl : List (Str × Addr)) (fp : List Addr), PG (blk' X scope s H c cl fp) tg (T.g X.K)) (hN : X.N.Nodup)
    (hsw : swapsWith (.ListComp elt [⟨tg, iter, [], 0⟩] scope pos) (some (.Name y py)) spos.line X.env = pure true) (hy : X.N[k]? = some y := by rfl) (hyl : X.env.scope.names.lookup y = some .local := by rfl) (hv : ∀ i ∈ T.slots, i ∈ ow.map (·.2) := by decide)
    (hc : X.calm = true := by rfl) (hs : ∀ x, foldedSetIterable iter X.env x = pure x := by intro _; rfl) : Bl X C Γ (.Assign [.Name y py] (.ListComp elt [⟨tg, iter, [], 0⟩] scope pos) spos :: rest) O :=
  bl_lc k T (fun i acc => acc = (ds.take i).map g) (fun σ H gd R q => h σ H gd R fun J es H1 s1 src ⟨e, hy, hP⟩ => q J es H1 s1 src (by
    subst e
    exact ⟨rfl, turns_map hl hy, fun acc ha => by rw [ha, List.take_length]; exact hP⟩)) ok hT hN hsw hy hyl hv hc hs
/-- the same, into a list that will be changed -/
theorem bl_lcO {ow : List (Str × Nat)} {pos py spos : Pos} {y : Str} {ps : List Addr} {as : List (List D)} (k : Nat) (T : Tgt) (I : Nat → List D → Prop) (hl : ps.length = as.length)
    (h : EvI X (own X.K C ps as) Γ tg iter fun ds => I 0 [] ∧ (∀ i y acc, ds[i]? = some y → I i acc → ∃ Γ2 B, T.put (wipeE Γ (ow.map (·.2))) y = some Γ2 ∧ LcTurn X (own X.K C ps as) scope Γ2 ifs elt acc (I (i + 1)) B) ∧ ∀ acc, I ds.length acc → ∀ p, Bl X (own X.K C (p :: ps) (acc :: as)) (Γ.set k (some (.adr p))) rest O)
    (ok : BlkOk X.N X.env.scope scope ow) (hT : ∀ (s : Shared) (H : Hp) (c : Addr) (cl : List (Str × Addr)) (fp : List Addr), PG (blk' X scope s H c cl fp) tg (T.g X.K)) (hN : X.N.Nodup)
    (hsw : swapsWith (.ListComp elt [⟨tg, iter, ifs, 0⟩] scope pos) (some (.Name y py)) spos.line X.env = pure true) (hy : X.N[k]? = some y := by rfl) (hyl : X.env.scope.names.lookup y = some .local := by rfl) (hv : ∀ i ∈ T.slots, i ∈ ow.map (·.2) := by decide)
    (hc : X.calm = true := by rfl) (hs : ∀ x, foldedSetIterable iter X.env x = pure x := by intro _; rfl) : Bl X (own X.K C ps as) Γ (.Assign [.Name y py] (.ListComp elt [⟨tg, iter, ifs, 0⟩] scope pos) spos :: rest) O := bl_seq fun σ H g E b =>
  ws_of (ps_setLc hc hN hy hyl hsw pi_wi ok hT (fun s H c cl fp => ⟨fun pins s' _ _ _ I h => h s H c cl fp pins s' I⟩) (fun s H c cl fp => ⟨fun pins s' _ _ _ I h => h s H c cl fp pins s' I⟩) hs)
    (lc_read T I hv h g fun p xs ds H1 hp s1 hl1 r1 bl => by
      have hm : p ∉ ps ++ C.M := fun m => g.trk p m hp
      obtain ⟨j1, j2, j3⟩ := s1.j
      have trk : Trk (p :: ps ++ C.M) H1 := fun a ha => by
        rcases List.mem_cons.mp ha with z | z
        · subst z; rw [hl1]; exact fun z => by cases z
        · exact s1.trk a z
      have jj : (own X.K C (p :: ps) (ds :: as)).J (cut (p :: ps ++ C.M) H1) H1 := ⟨j1, ⟨List.nodup_cons.mpr ⟨fun z => hm (List.mem_append_left _ z), j2.1⟩, fun q hq m => by
        rcases List.mem_cons.mp hq with z | z
        · subst z; exact hm (List.mem_append_right _ m)
        · exact j2.2 q z m⟩, fun k q a hq ha => by
        cases k with
        | zero =>
          cases hq
          cases ha
          exact ⟨xs, hl1, r1⟩
        | succ k => exact j3 k q a hq ha⟩
      exact b.nx (own X.K C (p :: ps) (ds :: as)) _ H1 _ s1.same (Good.set ⟨g.len, trk, jj, g.bnd.mono s1.same⟩ (.adr p)) (bl p))
theorem bl_filterO {ow : List (Str × Nat)} {pos py spos : Pos} {y : Str} {ps : List Addr} {as : List (List D)} (k : Nat) (T : Tgt) (pr : D → Bool) (g : D → D) (ds : List D) (hl : ds.length ≤ sizeLine) (hlen : ps.length = as.length)
    (h : EvI X (own X.K C ps as) Γ tg iter fun es => es = ds ∧ (∀ y ∈ ds, ∃ Γ2, T.put (wipeE Γ (ow.map (·.2))) y = some Γ2 ∧ ∀ s H0 c cl fp p acc, p ∉ (own X.K C ps as).M → EvT (blk' X scope s H0 c cl fp) (own X.K (own X.K C ps as) [p] [acc]) Γ2 cond (fun b => b = pr y) ∧ Ev (blk' X scope s H0 c cl fp) (own X.K (own X.K C ps as) [p] [acc]) Γ2 elt fun z => z = g y) ∧
      ∀ p, Bl X (own X.K C (p :: ps) (((ds.filter pr).map g) :: as)) (Γ.set k (some (.adr p))) rest O)
    (ok : BlkOk X.N X.env.scope scope ow) (hT : ∀ (s : Shared) (H : Hp) (c : Addr) (cl : List (Str × Addr)) (fp : List Addr), PG (blk' X scope s H c cl fp) tg (T.g X.K)) (hN : X.N.Nodup)
    (hsw : swapsWith (.ListComp elt [⟨tg, iter, [cond], 0⟩] scope pos) (some (.Name y py)) spos.line X.env = pure true) (hy : X.N[k]? = some y := by rfl) (hyl : X.env.scope.names.lookup y = some .local := by rfl) (hv : ∀ i ∈ T.slots, i ∈ ow.map (·.2) := by decide)
    (hc : X.calm = true := by rfl) (hs : ∀ x, foldedSetIterable iter X.env x = pure x := by intro _; rfl) : Bl X (own X.K C ps as) Γ (.Assign [.Name y py] (.ListComp elt [⟨tg, iter, [cond], 0⟩] scope pos) spos :: rest) O :=
  bl_lcO k T (fun i acc => acc = ((ds.take i).filter pr).map g) hlen (fun σ H gd R q => h σ H gd R fun J es H1 s1 src ⟨e, hy, hP⟩ => q J es H1 s1 src (by
    subst e
    exact ⟨rfl, turns_filter hl hy, fun acc ha => by rw [ha, List.take_length]; exact hP⟩)) ok hT hN hsw hy hyl hv hc hs
end
/-! ### own lists -/
section
variable {X : Cx} {Γ : En} {l : Addr} {CF : List D → SJ} {a : List D} {O : Out} {rest : List Stmt}
/-- o.extend(a new list) -/
theorem bl_extendN (F : FamL X.K l CF) {o e : Expr} {apos cpos pos : Pos}
    (ho : Ev X (CF a) Γ o fun d => d = .adr l ∧ EvF X (CF a) Γ e fun ds => a.length + ds.length ≤ sizeLine ∧ Bl X (CF (a ++ ds)) Γ rest O)
    (hbase : attributeBase o "extend" X.env (eval o X.env) = eval o X.env := by rfl)
    (hfew : ((backTo cpos (starEach [e] X.env)).all (fun x => !x.1) && (backToKw cpos (keywordEach [] X.env)).all (fun x => x.1.isSome)
      && decide (([e] : List Expr).length + ([] : List Keyword).length + (if ([] : List Keyword).isEmpty then 0 else 1) < 30)) = true := by rfl)
    (hline : (apos.endLine == cpos.line) = true := by rfl) (hs1 : starEach [e] X.env = (false, eval e X.env) :: starEach [] X.env := by rfl) (hs : swapsWith (.Call (.Attribute o "extend" apos) [e] [] cpos) none pos.line X.env = pure false := by rfl) :
    Bl X (CF a) Γ (.Expr (.Call (.Attribute o "extend" apos) [e] [] cpos) pos :: rest) O := bl_seq fun σ H g E b =>
  ws_of (ps_expr (pe_bm PySem.F.plainAttrs_list PySem.F.slot_list_extend PySem.F.type_list_extend mt_extend pe_we (pa_cons pe_we pa_nil hs1) hbase hfew hline hs1 rfl) hs) (ho σ H g _ fun v d H1 s1 r1 ⟨ed, he⟩ => by
    subst ed
    cases r1
    obtain ⟨xs0, h0, _⟩ := F.get a _ _ s1.j
    refine ⟨.inl ⟨rfl, xs0, .of h0⟩, he σ H1 (g.step s1) _ fun p ys ds H2 hp s2 hl2 r2 ⟨hz, bl⟩ => ?_⟩
    have s2' := s2.step
    have g2 := g.step (s1.trans s2')
    obtain ⟨xs, h2, rx⟩ := F.get a _ _ g2.j
    obtain ⟨g3, s3⟩ := F.good g2 (rx.append (r2.mono (cut_less fun _ z => List.mem_cons_of_mem _ z)))
    exact ⟨l, _, xs, _, rfl, rfl, h2, hl2, by rw [rx.len, r2.len]; exact hz, b.nx _ σ _ Γ ((s1.trans s2').same.trans s3) g3 bl⟩)
theorem ev_inL (F : FamL X.K l CF) {P : D → Prop} {x o : Expr} {pos : Pos} (hu : X.A.units + 65 < cLine)
    (h : Ev X (CF a) Γ x fun d => shp d = true ∧ Ev X (CF a) Γ o fun e => e = .adr l ∧ shp (.lst a) = true ∧ P (.bl (a.any fun e => eqD e d))) (hm : behindInMarks .In o = false := by rfl) :
    Ev X (CF a) Γ (.Compare x [.In] [o] pos) P := fun σ H g Q q =>
  we_of (pe_cmpR (op_inA hu) pe_we pe_we hm) (h σ H g _ fun v d H1 s1 r1 ⟨hd, h2⟩ => h2 σ H1 (g.step s1) _ fun u e H2 s2 r2 ⟨ee, ha, p⟩ => by
    subst ee
    cases r2
    obtain ⟨xs, hx, rx⟩ := F.get a _ _ s2.j
    refine .inr ⟨toPy d, toPys a, Dp.same (cut_sub _ _) (dp_of (r1.mono s2.same) (shp_lay hd)), .inl (dp_of (K := X.K) (S := H2) (DD.lst (.of hx) (rx.mono (cut_sub _ _))) (shp_lay ha)), hd, ha, ?_⟩
    rw [any_toPys]
    exact q _ _ H2 (s1.trans s2) (.bl _) p)
end
/-! ### unequal lists -/
theorem eqD_strsT (xs ys : List Str) : eqD (.tup (xs.map D.str)) (.tup (ys.map D.str)) = decide (xs = ys) := by
  have h := eqv_strs xs ys
  rw [← h]
  simp [eqD, toPy, PyData.eqv]
theorem d_neLs {P : D → Prop} {xs ys : List Str} (hx : ∀ x ∈ xs, PyData.strOk x = true) (hy : ∀ x ∈ ys, PyData.strOk x = true) (h : P (.bl (!decide (xs = ys)))) : neG (.lst (xs.map D.str)) (.lst (ys.map D.str)) P :=
  ⟨.inr ⟨shp_strsL xs hx, shp_strsL ys hy⟩, by rw [eqD_strsL]; exact h⟩
theorem d_neTs {P : D → Prop} {xs ys : List Str} (hx : ∀ x ∈ xs, PyData.strOk x = true) (hy : ∀ x ∈ ys, PyData.strOk x = true) (h : P (.bl (!decide (xs = ys)))) : neG (.tup (xs.map D.str)) (.tup (ys.map D.str)) P :=
  ⟨.inr ⟨shp_strsT xs hx, shp_strsT ys hy⟩, by rw [eqD_strsT]; exact h⟩
theorem canLay_bools : ∀ bs : List Bool, PyData.canLayAll0 (toPys (bs.map D.bl)) = true
  | [] => by simp [toPys, PyData.canLayAll0]
  | b :: bs => by
    rw [List.map_cons]
    simp [toPys, toPy, PyData.canLayAll0, PyData.canLay0, canLay_bools bs]
theorem depth_bools : ∀ bs : List Bool, PyData.depthAll (toPys (bs.map D.bl)) = 0
  | [] => by simp [toPys, PyData.depthAll]
  | b :: bs => by
    rw [List.map_cons]
    simp [toPys, toPy, PyData.depthAll, PyData.depth, depth_bools bs]
theorem shp_boolsL (bs : List Bool) : shp (.lst (bs.map D.bl)) = true := by
  have h1 := canLay_bools bs
  have h2 := depth_bools bs
  simp [shp, SeqAt.shaped, toPy, PyData.canLay0, PyData.depth, h1, h2]
theorem eqv_bools : ∀ xs ys : List Bool, PyData.eqvAll (toPys (xs.map D.bl)) (toPys (ys.map D.bl)) = decide (xs = ys)
  | [], [] => by simp [toPys, PyData.eqvAll]
  | [], _ :: _ => by simp [toPys, PyData.eqvAll]
  | _ :: _, [] => by simp [toPys, PyData.eqvAll]
  | x :: xs, y :: ys => by
    rw [List.map_cons, List.map_cons]
    simp only [toPys, toPy, PyData.eqvAll]
    rw [eqv_bools xs ys, Bool.eq_iff_iff]
    cases x <;> cases y <;> simp [PyData.eqv]
theorem eqD_boolsL (xs ys : List Bool) : eqD (.lst (xs.map D.bl)) (.lst (ys.map D.bl)) = decide (xs = ys) := by
  have h := eqv_bools xs ys
  rw [← h]
  simp [eqD, toPy, PyData.eqv]
theorem d_neLb {P : D → Prop} {xs ys : List Bool} (h : P (.bl (!decide (xs = ys)))) : neG (.lst (xs.map D.bl)) (.lst (ys.map D.bl)) P :=
  ⟨.inr ⟨shp_boolsL xs, shp_boolsL ys⟩, by rw [eqD_boolsL]; exact h⟩
end GG
set_option maxHeartbeats 4000000
/-! G25: two attributes at once. -/
namespace GG
open PySem PySem.Spec PyProof.Rows L2
section
variable {X : Cx} {C : SJ} {Γ : En}
/-- self.a, self.b = e -/
theorem bl_fld2 {O : Out} {rest : List Stmt} {x dx Cl : Addr} {gs : List (Str × D)} {o1 o2 e : Expr} {f1 f2 : Str} {p1 p2 pt pos : Pos} {kk : Nat} (hc : Cls X.K Cl) (n1 : NoAttr X.K Cl f1) (n2 : NoAttr X.K Cl f2) (hl : gs.length ≤ 900) (hcalm : X.calm = true)
    (h1 : ∀ gs', Ev X (ownO X.K C x dx Cl gs') Γ o1 fun d => d = .adr x) (h2 : ∀ gs', Ev X (ownO X.K C x dx Cl gs') Γ o2 fun d => d = .adr x)
    (h : Ev X (ownO X.K C x dx Cl gs) Γ e fun d => ∃ a b, d = .tup [a, b] ∧ Bl X (ownO X.K C x dx Cl (putD f2 b (putD f1 a gs))) Γ rest O)
    (hs : swapsWithSole [.Tuple [.Attribute o1 f1 p1, .Attribute o2 f2 p2] kk pt] e pos.line X.env = pure false := by rfl) (hw : swappedStores [.Tuple [.Attribute o1 f1 p1, .Attribute o2 f2 p2] kk pt] e X.env = pure none := by rfl) :
    Bl X (ownO X.K C x dx Cl gs) Γ (.Assign [.Tuple [.Attribute o1 f1 p1, .Attribute o2 f2 p2] kk pt] e pos :: rest) O := bl_seq fun σ H g E bk =>
  ws_of (ps_asg pe_we (pg_tup (n := 2) hcalm (pgs_cons (pg_fld pe_we) (pgs_cons (pg_fld pe_we) pgs_nil))) hs hw) (h σ H g _ fun v d H1 s1 r1 ⟨a, b, ed, bl⟩ => by
    subst ed
    cases r1 with
    | tup ht r =>
      cases r with
      | cons ra r =>
        cases r with
        | cons rb r =>
          cases r
          have g1 := g.step s1
          refine ⟨_, _, rfl, sub_sqT ht, rfl, _, _, rfl, h1 _ σ H1 g1 _ fun w d H2 s2 r2 ed => ?_⟩
          subst ed
          cases r2
          obtain ⟨fs1, x1, l1, g2, m1⟩ := own_put (f := f1) (g1.step s2) (ra.mono s2.same)
          refine ⟨x, Cl, dx, fs1, rfl, x1, hc, n1, by omega, _, _, rfl, h2 _ σ _ g2 _ fun w d H3 s3 r3 ed => ?_⟩
          subst ed
          cases r3
          have e3 := (s2.same.trans m1).trans s3.same
          obtain ⟨fs2, x2, l2, g3, m2⟩ := own_put (f := f2) (g2.step s3) (rb.mono e3)
          have q1 := putD_len f1 a gs
          exact ⟨x, Cl, dx, fs2, rfl, x2, hc, n2, by omega, rfl, bk.nx (ownO X.K C x dx Cl (putD f2 b (putD f1 a gs))) σ _ Γ (s1.same.trans (e3.trans m2)) g3 bl⟩)
end
end GG
set_option maxHeartbeats 4000000
/-! G26: list(range(n)), new list + new list. -/
namespace GG
open PySem PySem.Spec PyProof.Rows L2
section
variable {X : Cx} {C : SJ} {Γ : En}
theorem ef_catFF {a b : Expr} {pos : Pos} {P : List D → Prop} (h : EvF X C Γ a fun ds => EvF X C Γ b fun es => ds.length + es.length ≤ sizeLine ∧ P (ds ++ es)) : EvF X C Γ (.BinOp a .Add b pos) P := fun σ H g Q q => by
  refine we_of (pe_op op_cat pe_we pe_we) ?_
  refine h σ H g _ fun p xs ds H1 hp s1 hl r1 h2 => ?_
  have pm : p ∉ C.M := fun m => g.trk p m hp
  refine h2 σ H1 (g.step s1.step) _ fun b ys es H2 hb s2 hl2 r2 ⟨hz, pp⟩ => ?_
  have e0 : cut C.M H1 p = some (.lst xs) := by unfold cut; rw [if_neg pm]; exact hl
  have e1 := cut_sub _ _ p _ (s2.same p _ e0)
  refine ⟨p, b, xs, ys, rfl, rfl, e1, hl2, by rw [r1.len, r2.len]; exact hz, fun r hr => ?_⟩
  have st := s1.step.trans s2.step
  have l1 : DDs X.K (cut C.M H2) xs ds := (r1.mono (cut_less fun _ z => List.mem_cons_of_mem _ z)).mono s2.step.same
  have l2 : DDs X.K (cut C.M H2) ys es := r2.mono (cut_less fun _ z => List.mem_cons_of_mem _ z)
  exact q r _ _ _ (nil_back st hr) (fst_new st hr) upd_same (dds_in (l1.append l2) hr) pp
theorem rg_dds {K : PySem.W.Frag} {S : Hp} (n : Nat) : DDs K S (rgV 0 (n : Int)) (rangeD 0 n) := by
  unfold rgV rangeD
  have e : ((n : Int) - 0).toNat = n := by omega
  rw [e]
  have : ∀ l : List Nat, DDs K S (l.map fun i => V.int (0 + (i : Nat))) (l.map fun i => D.int (0 + (i : Nat))) := fun l => by
    induction l with
    | nil => exact .nil
    | cons i l ih => exact .cons (.int _) ih
  exact this _
theorem ef_listRg {p p2 pos pos2 : Pos} {a : Expr} {P : List D → Prop} (hm : X.mg "list" = none) (hm2 : X.mg "range" = none) (h : Ev X C Γ a fun d => ∃ n : Nat, d = .int (n : Nat) ∧ n ≤ 16000000 ∧ P (rangeD 0 n)) (hc : X.calm = true := by rfl) (hg : Gl X "list" := by rfl) (hg2 : Gl X "range" := by rfl)
    (na : starEach [a] X.env = (false, eval a X.env) :: starEach [] X.env := by rfl)
    (na2 : starEach [.Call (.Name "range" p2) [a] [] pos2] X.env = (false, eval (.Call (.Name "range" p2) [a] [] pos2) X.env) :: starEach [] X.env := by rfl) :
    EvF X C Γ (.Call (.Name "list" p) [.Call (.Name "range" p2) [a] [] pos2] [] pos) P := fun σ H g Q q =>
  we_of (pe_listRg hc hg hm (prg_1 hg2 hm2 pe_we na) na2) (h σ H g _ fun v d H1 s1 r1 ⟨n, ed, hn, pp⟩ => by
    subst ed
    cases r1
    exact ⟨n, rfl, RgOk.of_le (Int.le_refl _) (by omega) (by decide) (by omega), fun r hr => q r _ _ _ (nil_back s1 hr) (fst_new s1 hr) upd_same (rg_dds n) pp⟩)
end
end GG
set_option maxHeartbeats 4000000
/-! G27: exceptions of a class of one's own over any base: what is asked of the class; blocks that raise, try, defs that may raise. -/
namespace PySem
namespace OwnX
open PySem.W PySem.Calls PyProof.Rows PySem.HandSPX
/-- what is asked of the class at C, its field f -/
def exB (K : Frag) (C : Addr) (f : Str) (tail : List Value) (newId : String) : Bool :=
  excInitIn K C tail newId && (excOver K C tail && (decide (takerIn K C f = some none) && (decide (findIn K (.ref C) "__setattr__" = some (some (.builtin "object.__setattr__"))) && (L2.xfB K C && (decide (findIn K (.ref C) f = some none) &&
    (keepIn K (.ref C) && (decide (subIn K (.ref C) (.type "BaseException") = some true) && (decide (typeIn K (.ref C) = some (.type "type")) && (decide (exmOne K (.ref C) (.ref C) = some true) &&
      (decide (findIn K (.ref C) "__init__" = some (some (.ref (He.ma K C "__init__")))) && decide (typeIn K (.ref (He.ma K C "__init__")) = some (.type "function"))))))))))))
structure ExT (K : Frag) (C : Addr) (f : Str) (tail : List Value) (newId : String) : Prop where
  cls : excInitIn K C tail newId = true
  over : excOver K C tail = true
  taker : takerIn K C f = some none
  sa : findIn K (.ref C) "__setattr__" = some (some (.builtin "object.__setattr__"))
  xf : L2.XfC K C
  noN : findIn K (.ref C) f = some none
  kC : keepIn K (.ref C) = true
  exC : subIn K (.ref C) (.type "BaseException") = some true
  tyC : typeIn K (.ref C) = some (.type "type")
  te : exmOne K (.ref C) (.ref C) = some true
  iC : findIn K (.ref C) "__init__" = some (some (.ref (He.ma K C "__init__")))
  tC : typeIn K (.ref (He.ma K C "__init__")) = some (.type "function")
theorem exB_ok {K : Frag} {C : Addr} {f : Str} {tail : List Value} {newId : String} (h : exB K C f tail newId = true) : ExT K C f tail newId := by
  obtain ⟨h1, h⟩ := Bool.and_eq_true_iff.mp h
  obtain ⟨h2, h⟩ := Bool.and_eq_true_iff.mp h
  obtain ⟨h3, h⟩ := Bool.and_eq_true_iff.mp h
  obtain ⟨h4, h⟩ := Bool.and_eq_true_iff.mp h
  obtain ⟨h5, h⟩ := Bool.and_eq_true_iff.mp h
  obtain ⟨h6, h⟩ := Bool.and_eq_true_iff.mp h
  obtain ⟨h7, h⟩ := Bool.and_eq_true_iff.mp h
  obtain ⟨h8, h⟩ := Bool.and_eq_true_iff.mp h
  obtain ⟨h9, h⟩ := Bool.and_eq_true_iff.mp h
  obtain ⟨h10, h⟩ := Bool.and_eq_true_iff.mp h
  obtain ⟨h11, h12⟩ := Bool.and_eq_true_iff.mp h
  exact ⟨h1, h2, of_decide_eq_true h3, of_decide_eq_true h4, L2.xfB_ok h5, of_decide_eq_true h6, h7, of_decide_eq_true h8, of_decide_eq_true h9, of_decide_eq_true h10, of_decide_eq_true h11, of_decide_eq_true h12⟩
section
open Builtin Builtin.ObjectAttr
variable {prog : Program} {w : World} {A : Around} {E : Value → Shared → Prop} {R : Result → Shared → Prop} {hp : Heap} {g : Array GenState} {d : Drawn} {t : Nat} {os : OsState}
/-- self.name = v on a fresh exception -/
theorem osa_first {K : Frag} {name : Str} {tk : Tok} {v : Value} {x C : Addr} {fv : Array Value} {B : String} {tail : List Value} (SF : StoreFacts B tail "object.__setattr__" "object") (X : K.In hp) (hx : hp.get? x = some { cls := .ref C, data := .fields fv })
    (ho : excOver K C tail = true) (ht : takerIn K C name = some none) (hh : hasDictIn K C = true)
    (hq : ∀ h2 tk2 dx, (∀ b o, b ≠ x → hp.get? b = some o → h2.get? b = some o) → hp.objs.size ≤ dx → dx ≠ x → h2.get? x = some { cls := .ref C, dict := some dx, data := .fields fv } → h2.Ns1 dx (fun y => if y = name then some v else none) → R (.ok (.ret .none)) ⟨h2, g, d, tk2, os⟩) :
    codeAny (model prog w) A (.call (.builtin "object.__setattr__") ⟨[.ref x, .str name tk, v], []⟩) R ⟨hp, g, d, t, os⟩ := by
  refine osa_openX (s := ⟨hp, g, d, t, os⟩) (od := none) SF X ⟨hx, rfl, rfl, trivial⟩ ho ht fun bb => ?_
  obtain ⟨cd, hc, hd1⟩ := any_some hh
  have look : Looks (model prog w) hp (classData C) cd := looks_clsIn X hc
  have apart : x ≠ hp.objs.size := Nat.ne_of_lt (Heap.lt_size hx)
  obtain ⟨c1, c2, c3, c4, c5, c6, c7, c8, c9, c10, c11⟩ := cd
  dsimp only at hd1
  subst hd1
  show wpAny _ _ (storeInOwnDict (.ref x) (.ref C) (.str name tk) name v bb) _ _ _
  unfold storeInOwnDict ownDictForStores
  repeat (first | with_reducible refine HandSPX.store_in_new ?_ ?_ | with_reducible refine wpAny_loadPart_at hx ?_ | with_reducible refine look.at ?_ | wp_step)
  · exact ⟨_, #[], _, (Heap.get?_update_ne _ _ _ _ apart.symm).trans (Heap.get?_push_at rfl rfl), rfl, fun u hu => absurd hu (by simp), fun _ => rfl⟩
  · intro h2 tk2 hn2 same
    have hx2 : (hp.push { cls := .type "dict", data := .dict #[] }).get? x = some { cls := .ref C, data := .fields fv } := Heap.get?_push_of_some _ hx
    refine hq h2 tk2 hp.objs.size (fun b o hb hbo => ?_) (Nat.le_refl _) apart.symm ?_ hn2
    · exact (same.2 b (Nat.ne_of_lt (Heap.lt_size hbo))).trans ((Heap.get?_update_ne _ _ _ _ hb).trans (Heap.get?_push_of_some _ hbo))
    · exact (same.2 x apart).trans (Heap.get?_update_self _ hx2 rfl)
end
/-! the text of __init__ -/
def iA (f : Str) (p1 p2 : Pos) : Arguments := { posonlyargs := [], args := [{ arg := "self", annotation := none, pos := p1 }, { arg := f, annotation := none, pos := p2 }], vararg := none, kwonlyargs := [], kw_defaults := [], kwarg := none, defaults := [] }
def iB (f : Str) (q1 q2 q3 q4 : Pos) : List Stmt := [.Assign [.Attribute (.Name "self" q1) f q2] (.Name f q3) q4]
def iS (f : Str) : Scope := { kind := .function, names := [("self", .local), (f, .local)], isGenerator := false, isCoroutine := false, more := [] }
/-- what __init__ leaves of a fresh exception at x -/
structure Ended (f : Str) (h h2 : Heap) (x C dx t1 : Addr) (v : Value) : Prop where
  keep : ∀ b o, b ≠ x → h.get? b = some o → h2.get? b = some o
  obj : h2.get? x = some { cls := .ref C, dict := some dx, data := .fields #[.ref t1, .none, .none, .none, .bool false, .none] }
  dbig : h.objs.size ≤ dx
  dne : dx ≠ x
  ns : h2.Ns1 dx (fun y => if y = f then some v else none)
/-- a made exception -/
structure Made (f : Str) (h h2 : Heap) (e C d : Addr) (v : Value) : Prop where
  keep : ∀ b o, h.get? b = some o → h2.get? b = some o
  new : h.objs.size ≤ e
  obj : ∃ oe vs, h2.get? e = some oe ∧ oe.cls = .ref C ∧ oe.dict = some d ∧ oe.data = .fields vs ∧ vs[1]? = some .none
  dbig : h.objs.size ≤ d
  dne : d ≠ e
  ns : h2.Ns1 d (fun y => if y = f then some v else none)
theorem one_size (v : Value) : [v].length ≤ sizeLine := by
  rw [sizeLine_eq]
  exact (by decide : 1 ≤ 16777216)
theorem ldL {M : Model} {s : Shared} {name : Str} {scope : Scope} {L a : Addr} {cd : Value} {m : Str → Option Value} {x : Str} {pos : Pos} {v : Value} {Q : Value → Shared → Prop} {A : Around} {E : Value → Shared → Prop} (hn : s.heap.Ns L m) (hv : m x = some v) (h : Q v s)
    (hk : scope.kind = .function := by rfl) (hl : (envOfC name scope L a cd).kindOf x = some .local := by rfl) (hd : (x == ("__debug__" : Str)) = false := by decide) :
    wpAny M A (eval (.Name x pos) (envOfC name scope L a cd)) Q E s := wpAny_Name (wpAny_loadName_local hk hl hn hv h) hd
end OwnX
end PySem
namespace L2
open PySem PySem.Spec PyProof.Rows
theorem relO_one {f0 : Str} {v : V} {v' : Value} (r : RelV v v') (f : Str) : RelO (List.lookup f [(f0, v)]) (if f = f0 then some v' else none) := by
  by_cases hw : f = f0
  · subst hw
    rw [if_pos rfl]
    have q : List.lookup f [(f, v)] = some v := by simp [List.lookup]
    rw [q]
    exact r
  · rw [if_neg hw]
    have qw : (f == f0) = false := by simpa using hw
    have q2 : List.lookup f [(f0, v)] = none := by simp [List.lookup, qw]
    rw [q2]
    trivial
/-- C(e), C such a class -/
def tMkX (f : Str) (C : Addr) (ta : TA) : St → Hp → XK → Prop := fun σ H Q => ta σ H fun vs H1 => ∃ v, vs = [v] ∧ ∀ d, H1 d = none → Q (.ref C) (some d) (upd H1 d (.xd [(f, v)]))
end L2
set_option maxHeartbeats 4000000
/-! G28: an own exception with the field reason. -/
namespace PySem
namespace OwnX
open PySem.W PySem.Calls PyProof.Rows PySem.HandSPX
section
variable {prog : Program} {w : World} {A : Around} {E : Value → Shared → Prop} {R : Result → Shared → Prop} {s : Shared} {K : Frag} {C fI : Addr} {fd : FuncData} {B newId initId : String} {tail : List Value} {qual : Str} {p1 p2 q1 q2 q3 q4 : Pos}
theorem reason_init (SF : StoreFacts B tail "object.__setattr__" "object") (T : ExT K C "reason" tail newId) (Fn : L2.FunD K "__init__" qual (iA "reason" p1 p2) (iB "reason" q1 q2 q3 q4) (iS "reason") [] [] fI fd) {x t0 : Addr} {v : Value} (X : K.In s.heap) (hlim : s.heap.NoLimit)
    (hx : s.heap.get? x = some (excO C t0)) (hnx : K.lookup x = none) (hroom : A.depth < recursionLimit) (hq : ∀ h2 tk dx, Ended "reason" s.heap h2 x C dx t0 v → R (.ok (.ret .none)) { s with heap := h2, toks := tk }) :
    codeAny (model prog w) A (.call (.ref fI) ⟨[.ref x, v], []⟩) R s := by
  obtain ⟨oc, od, dV, kV, doc, pm, an, cdv, ct, osl, rfl, lk, hcd, hD, hK⟩ := Fn.ex
  have hD0 : dV = .none := by
    rcases hD with ⟨_, e⟩ | ⟨e, _⟩
    · exact e
    · exact absurd rfl e
  subst hD0
  refine Att.call_fn (binds := [("self", .ref x), ("reason", v)]) X hlim lk hcd hroom (BindsTo.of_eq (by first | rfl | with_unfolding_all rfl)) (by first | rfl | decide | with_unfolding_all rfl) (fun s₁ IC => ?_) rfl rfl rfl
  obtain ⟨h₁, tk₁, rfl⟩ := IC.toInCall.same
  have k : ∀ b o, s.heap.get? b = some o → h₁.get? b = some o := IC.toInCall.keep
  have hn := IC.toInCall.ns
  have X₁ : K.In h₁ := X.keeps k
  have hx₁ := k _ _ hx
  show wpAny _ _ (execs _ _) _ _ _
  refine wpAny_execs_cons (plainObj_wpAny_Assign_Attribute ?_)
  refine ldL (v := v) hn (by first | rfl | with_unfolding_all rfl | kernel_rfl) (ldL (v := .ref x) hn (by first | rfl | with_unfolding_all rfl | kernel_rfl) ?_)
  refine set_plain X₁ (ox := excO C t0) (od := none) ⟨hx₁, rfl, rfl, trivial⟩ T.sa ?_
  refine osa_first SF X₁ hx₁ T.over T.taker T.xf.hdC (fun h₃ tk₃ dx k₃ dn dne hx₃ hn₃ => ?_)
  show wpAny _ _ (execs _ _) _ _ _
  have z : s.heap.objs.size < h₁.objs.size := hn.lt
  exact wpAny_execs_nil (hq h₃ tk₃ dx ⟨fun b o hb e => k₃ b o hb (k b o e), hx₃, Nat.le_of_lt (Nat.lt_of_lt_of_le z dn), dne, hn₃⟩)
theorem reason_made (SF : StoreFacts B tail "object.__setattr__" "object") (FB : ExcBaseFacts B newId initId tail) (T : ExT K C "reason" tail newId) (Fn : L2.FunD K "__init__" qual (iA "reason" p1 p2) (iB "reason" q1 q2 q3 q4) (iS "reason") [] [] (He.ma K C "__init__") fd) {v : Value}
    (X : K.In s.heap) (hlim : s.heap.NoLimit) (hroom : A.depth + 1 < recursionLimit) (hq : ∀ h2 tk e d, Made "reason" s.heap h2 e C d v → R (.ok (.ret (.ref e))) { s with heap := h2, toks := tk }) :
    codeAny (model prog w) A (.call (.ref C) ⟨[v], []⟩) R s := by
  obtain ⟨hp, g, dr, tk, os⟩ := s
  obtain ⟨nm, N, qn, bs, bm, hdct, sn, sub, ab, col, dd, k0, k1, k2, k3, k5, hC, hT⟩ := excInit_of (h := hp) X T.cls
  have k : ∀ b o, hp.get? b = some o → ((hp.push (kdv_tup [v])).push (excO C hp.objs.size)).get? b = some o := fun b o e => Heap.get?_push_of_some _ (Heap.get?_push_of_some _ e)
  have hget : ((hp.push (kdv_tup [v])).push (excO C hp.objs.size)).get? (hp.objs.size + 1) = some (excO C hp.objs.size) := by heap_get
  have hnx : K.lookup (hp.objs.size + 1) = none := by
    cases e : K.lookup (hp.objs.size + 1) with
    | none => rfl
    | some o =>
      have z : hp.get? (hp.objs.size + 1) = some o := X _ _ e
      exact absurd (Nat.lt_of_succ_lt (Heap.lt_size z)) (Nat.lt_irrefl _)
  refine HandSPX.call_own FB hT hC (looks_findIn X T.iC) (fun self => bind_fn X self T.tC) (one_size v) ?_
  refine reason_init (s := ⟨(hp.push (kdv_tup [v])).push (excO C hp.objs.size), g, dr, tk, os⟩) SF T Fn (X.keeps k) (hlim.keeps k) hget hnx ?_ fun h' tk' dx ⟨k', hx, dn, dne, hns⟩ => ?_
  · show A.depth + 1 < recursionLimit
    exact hroom
  · have old : ∀ b o, hp.get? b = some o → h'.get? b = some o := fun b o e => k' b o (Nat.ne_of_lt (Nat.lt_succ_of_lt (Heap.lt_size e))) (k b o e)
    have z : hp.objs.size + 1 + 1 ≤ dx := by
      first
        | (simpa only [Heap.size_push] using dn)
        | exact dn
        | (have q := dn; rw [Heap.size_push, Heap.size_push] at q; exact q)
    exact ⟨rfl, hq h' tk' (hp.objs.size + 1) dx ⟨old, Nat.le_succ _, ⟨_, _, hx, rfl, rfl, rfl, rfl⟩, Nat.le_trans (Nat.le_trans (Nat.le_succ _) (Nat.le_succ _)) z, dne, hns⟩⟩
end
end OwnX
end PySem
namespace L2
open PySem PySem.Spec PyProof.Rows
theorem pmk_reason {X : Cx} {C : Addr} {fd : FuncData} {B newId initId : String} {tail : List Value} {x qual : Str} {p1 p2 q1 q2 q3 q4 : Pos} {a : Expr} {ta : TA} {p pos : Pos} {k : Nat} (SF : StoreFacts B tail "object.__setattr__" "object") (FB : ExcBaseFacts B newId initId tail)
    (T : PySem.OwnX.ExT X.K C "reason" tail newId) (Fn : FunD X.K "__init__" qual (PySem.OwnX.iA "reason" p1 p2) (PySem.OwnX.iB "reason" q1 q2 q3 q4) (PySem.OwnX.iS "reason") [] [] (He.ma X.K C "__init__") fd) (gC : X.mg x = some (.ref C)) (hr : Room k X.A) (ha : PA X [a] ta) (hg : Gl X x := by rfl)
    (hdb : (x == ("__debug__" : Str)) = false := by decide) (he : starEach (a :: []) X.env = (false, eval a X.env) :: starEach [] X.env := by rfl) (hpl : (backTo pos (starEach [] X.env)).any (·.1) = false := by rfl) :
    PMk X (.Call (.Name x p) [a] [] pos) (tMkX "reason" C ta) := by
  intro pins s σ H Q I h
  refine wpAny_Call_Name_kw (ld_glob I hg gC ?_ hdb)
  refine PySem.W.callWith_K (h₀ := X.base) I.ok.mod.kin T.kC (thn (ha.run pos pins s σ H _ I h) fun us s1 hh => ?_) he hpl
  obtain ⟨vs, H1, I1, r1, v, ev, q1⟩ := hh
  subst ev
  refine ⟨I1.kIn, ?_⟩
  cases r1 with
  | cons rv rn =>
    rename_i v' us'
    cases rn
    show wpAny _ _ (call (.ref C) [v']) _ _ _
    have hlim := I1.nolimit
    obtain ⟨hp, g, dr, tk, os⟩ := s1
    refine wpAny_call (PySem.OwnX.reason_made SF FB T Fn I1.kIn hlim (by have := hr.dp; omega) fun h' tk' e d M => ?_)
    show MkP X pins σ Q (.ref e) ⟨h', g, dr, tk', os⟩
    obtain ⟨oe, fv, hoe, hc, hd, hdat, h1⟩ := M.obj
    have hns := M.ns
    obtain ⟨G', g1, g2⟩ := restrict h' fun b => decide (b ≠ e)
    have gk : ∀ b, b ≠ e → G'.get? b = h'.get? b := fun b hb => g1 b (decide_eq_true hb)
    have ge : G'.get? e = none := g2 e (by simp)
    have old : ∀ b o, hp.get? b = some o → G'.get? b = some o := fun b o q => (gk b (Nat.ne_of_lt (Nat.lt_of_lt_of_le (Heap.lt_size q) M.new))).trans (M.keep b o q)
    have ob : ObjOk X.prog X.w (upd H1 d (.xd [(("reason" : Str), v)])) G' d (.xd [(("reason" : Str), v)]) :=
      ⟨_, hns.at (fun o q => (gk d M.dne).trans q), fun f => relO_one rv f⟩
    have J : Inv X pins σ (upd H1 d (.xd [(("reason" : Str), v)])) ⟨G', g, dr, tk', os⟩ := I1.laid (t' := tk') old M.dbig ob
    refine ⟨e, oe, fv, ⟨G', g, dr, tk', os⟩, _, .ref C, some d, rfl, J, fun b o q => ?_, ge, hoe, ⟨hc, hd⟩, hdat, h1, ?_, rfl, I1.bare, raises_own T.exC T.tyC, q1 d (I1.hok.fresh M.dbig)⟩
    · by_cases hb : b = e
      · have q' : G'.get? b = some o := q
        rw [hb, ge] at q'; cases q'
      · exact (gk b hb).symm.trans q
    · rw [upd_ne (Ne.symm M.dne)]
      exact I1.hok.fresh M.new
end L2
set_option maxHeartbeats 4000000
/-! G29: defs that may raise, raise, try .. except X as e, e.f; the head's facts with exceptions. -/
namespace GG
open PySem PySem.Spec PyProof.Rows L2
/-- C, and what stands since S0 -/
def since (C : SJ) (S0 : Hp) : SJ where
  M := C.M
  J := fun S H => C.J S H ∧ Same S0 S
  st := fun S S' H H' ⟨h1, h2⟩ e k => ⟨C.st S S' H H' h1 e k, h2.trans e⟩
theorem ext_since {C : SJ} {S0 : Hp} : Ext C (since C S0) := ⟨fun _ h => h, fun _ _ h => h.1⟩
theorem Ext.trans {A B C : SJ} (a : Ext A B) (b : Ext B C) : Ext A C := ⟨fun x h => b.sub x (a.sub x h), fun S H h => a.j S H (b.j S H h)⟩
theorem Good.since {C : SJ} {K : PySem.W.Frag} {σ : L2.St} {H : Hp} {Γ : En} (g : Good C K σ H Γ) : Good (since C (cut C.M H)) K σ H Γ := ⟨g.len, g.trk, ⟨g.j, Same.refl _⟩, g.bnd⟩
theorem Good.unsince {C : SJ} {S0 : Hp} {K : PySem.W.Frag} {σ : L2.St} {H : Hp} {Γ : En} (g : Good (GG.since C S0) K σ H Γ) : Good C K σ H Γ := ⟨g.len, g.trk, g.j.1, g.bnd⟩
theorem Good.ext {C0 C : SJ} {K : PySem.W.Frag} {σ : L2.St} {H : Hp} {Γ : En} (g : Good C K σ H Γ) (x : Ext C0 C) : Good C0 K σ H Γ := ⟨g.len, x.trk g.trk, x.jj g.j, g.bnd.mono (cut_less x.sub)⟩
/-- where an exception of the class Cx with the field f, whose data keeps Z, is taken: in C1, the slots as Γe tells -/
structure Rz (X : Cx) (C1 : SJ) (Γe : En) (Cx : Addr) (f : Str) (Z : D → Prop) : Prop where
  ex : ∃ W : WX, Takes X W ∧ ∀ σ H v y d, Good C1 X.K σ H Γe → DD X.K (cut C1.M H) v y → Z y → cut C1.M H d = some (.xd [(f, v)]) → W (.ref Cx) (some d) σ H
theorem cut_at {M : List Addr} {H : Hp} {d : Addr} {o : HO} (t : Trk M H) (hd : H d = none) : cut M (upd H d o) d = some o := by
  unfold cut
  rw [if_neg fun m => t d m hd, upd_same]
section
variable {X : Cx} {C C1 : SJ} {Γ Γe : En} {O : Out} {rest : List Stmt} {Cx : Addr} {f : Str} {Z : D → Prop}
/-- raise X(e) -/
theorem bl_raise {x : Str} {e : Expr} {p pos pos2 : Pos} (rz : Rz X C1 Γe Cx f Z) (x1 : Ext C1 C) (l : Le Γe Γ) (hmk : ∀ ta, PA X [e] ta → PMk X (.Call (.Name x p) [e] [] pos) (tMkX f Cx ta)) (h : EvA X C Γ [e] fun ds => ∃ y, ds = [y] ∧ Z y) (hc : X.calm = true := by rfl) :
    Bl X C Γ (.Raise (some (.Call (.Name x p) [e] [] pos)) none pos2 :: rest) O := bl_seq fun σ H g E b => by
  obtain ⟨W, tk, hW⟩ := rz.ex
  refine ws_of (ps_raise hc tk (hmk _ pa_wa)) (h σ H g _ fun vs ds H1 s1 r1 ⟨y, ed, hz⟩ => ?_)
  subst ed
  cases r1 with
  | cons rv rn =>
    cases rn
    refine ⟨_, rfl, fun d hd => ?_⟩
    refine hW σ _ _ y d (((g.step (s1.trans (st_new s1.trk s1.j hd))).ext x1).weak l) ((rv.mono (cut_same (same_new hd))).mono (cut_less x1.sub)) hz ?_
    exact cut_at (x1.trk s1.trk) hd
theorem bl_nox {sts : List Stmt} (h : Bl X.nox C Γ sts O) : Bl X C Γ sts O := fun σ H g E b pins s I =>
  (PSs.nox (X := X) (pss_wb (X := X.nox) (sts := sts))).run pins s σ H E I (h σ H g E ⟨b.nx, b.rt, b.bk, b.ct, b.rf, b.rx⟩)
end
/-! ### defs that may raise -/
def spR (K : PySem.W.Frag) (n : Nat) (R : SJ → List D → Prop) (Cx : Addr) (f : Str) (G : List D → (D → Prop) → (D → Prop) → Prop) : Sp := fun vs H Q E =>
  ∃ (C : SJ) (ds : List D) (P Z : D → Prop), ds.length = n ∧ R C ds ∧ Trk C.M H ∧ C.J (cut C.M H) H ∧ DDs K (cut C.M H) vs ds ∧ G ds P Z ∧ (∀ v d H', Step C H H' → DD K (cut C.M H') v d → P d → Q v H') ∧
    ∀ v y d H', Step C H H' → DD K (cut C.M H') v y → Z y → cut C.M H' d = some (.xd [(f, v)]) → E (.ref Cx) (some d) H'
section
variable {P : Program} {w : World} {K : PySem.W.Frag} {mg : Str → Option Value} {base : Heap} {x qual : Str} {params : Arguments} {body : List Stmt} {scope : Scope} {dvs : List V} {kws : List (Str × V)} {fa : Addr} {fd : FuncData}
theorem defR {N ps : List Str} {k n : Nat} {R : SJ → List D → Prop} {Cx : Addr} {f : Str} {G : List D → (D → Prop) → (D → Prop) → Prop} (F : FunD K x qual params body scope dvs kws fa fd) (S : FnScope N ps scope) (hn : ps.length = n)
    (hb : ∀ (cdv : Value) (A : Around) (outer : List Env) (s : Shared) (H : Hp) (E : XK) (C : SJ) (S0 : Hp) (ds : List D) (T Z : D → Prop), Room k (A.deeper (envOfC qual scope s.heap.objs.size fa cdv)) → ds.length = n → R C ds → G ds T Z →
      Rz (cxOf (L2.CX P w) P w K mg base N qual scope fa cdv A outer s H E) (since C S0) (List.replicate (start0 N ds).length none) Cx f Z →
      Bl (cxOf (L2.CX P w) P w K mg base N qual scope fa cdv A outer s H E) (since C S0) (start0 N ds) body { C0 := since C S0, N := fun C' _ => Ext (since C S0) C' ∧ T .non, R := T }) : FnOk P w K mg base (L2.CX P w) (k + 1) fa fd ps (spR K n R Cx f G) := by
  refine F.ok S (fun vs H Q E ⟨C, ds, T, Z, h1, _, _, _, r, _⟩ => by rw [r.len, h1, hn]) ?_
  intro cdv A outer s H vs Q E hr ⟨C, ds, T, Z, h1, hR, t, j, r, g, q, qe⟩
  have rz : Rz (cxOf (L2.CX P w) P w K mg base N qual scope fa cdv A outer s H E) (since C (cut C.M H)) (List.replicate (start0 N ds).length none) Cx f Z :=
    ⟨fun cls d _ H => E cls d H, takes_of rfl rfl rfl rfl, fun σ H' v y d g' rv hz hd => qe v y d H' ⟨g'.j.2, g'.trk, g'.j.1⟩ rv hz hd⟩
  have b := hb cdv A outer s H E C (cut C.M H) ds T Z hr h1 hR g rz
  refine ⟨_, pss_wb, ?_⟩
  exact b (L2.start N vs) H (good0 t j r).since { nx := fun _ H' => Q .non H', rt := Q } ⟨fun C' σ' H' Γ' e g' p => q .non .non H' ⟨e.trans (cut_less p.1.sub), p.1.trk g'.trk, (p.1.jj g'.j).1⟩ .non p.2, fun v d H' e t' j' r' p => q v d H' ⟨e, t', j'.1⟩ r' p, fun _ _ _ _ _ _ z => z.elim, fun _ _ _ _ _ _ z => z.elim, fun _ _ _ _ _ _ _ _ _ _ z => z.elim, fun _ _ _ _ _ _ _ _ z => z.elim⟩
end
theorem le_none {Γ : En} : Le (List.replicate Γ.length none) Γ := ⟨by rw [List.length_replicate], fun i d h => by
  rw [List.getElem?_replicate] at h
  split at h <;> cases h⟩
structure MethR (P : Program) (w : World) (K : PySem.W.Frag) (mg : Str → Option Value) (base : Heap) (Cl : Addr) (m : Str) (k n : Nat) (R : SJ → List D → Prop) (Cx : Addr) (f : Str) (G : List D → (D → Prop) → (D → Prop) → Prop) : Prop where
  ex : ∃ (fa : Addr) (fd : FuncData) (ps : List Str), FnOk P w K mg base (L2.CX P w) k fa fd ps (spR K n R Cx f G) ∧ Cls K Cl ∧ Meth K Cl m fa ∧ Binds K fd ps []
structure DefdR (P : Program) (w : World) (K : PySem.W.Frag) (mg : Str → Option Value) (base : Heap) (x : Str) (k n : Nat) (R : SJ → List D → Prop) (Cx : Addr) (f : Str) (G : List D → (D → Prop) → (D → Prop) → Prop) : Prop where
  ex : ∃ (fa : Addr) (fd : FuncData) (ps : List Str), FnOk P w K mg base (L2.CX P w) k fa fd ps (spR K n R Cx f G) ∧ mg x = some (.ref fa) ∧ PySem.W.keepIn K (.ref fa) = true ∧ Binds K fd ps []
section
variable {X : Cx} {C C1 : SJ} {Γ Γe : En} {O : Out} {rest : List Stmt} {Cx Cl : Addr} {f m x : Str} {Z P : D → Prop} {k n : Nat} {R : SJ → List D → Prop} {G : List D → (D → Prop) → (D → Prop) → Prop} {o e : Expr} {es : List Expr} {apos pos p : Pos}
/-- o.m(e, ..), the wish of an exception by the slots -/
theorem pe_methA {CX : CXT} {fa : Addr} {fd : FuncData} {ps : List Str} {sp : Sp} {E : L2.St → XK} {ta : TE} {t : TA} {pl : Sem Bool} (he : PE X o ta) (c : Cls X.K Cl) (hm : Meth X.K Cl m fa) (F : FnOk X.prog X.w X.K X.mg X.base CX k fa fd ps sp) (hr : Room k X.A) (hb : Binds X.K fd ps [])
    (hx : ∀ σ, PassesAt CX X σ (E σ)) (ha : PA X (e :: es) t) (hst : starEach (e :: es) X.env = (false, eval e X.env) :: starEach es X.env := by rfl) (hpl : (backTo pos (starEach es X.env)).any (·.1) = false := by rfl)
    (ht : eval (.Call (.Attribute o m apos) (e :: es) [] pos) X.env = (do
      let ov ← eval o X.env
      standAt apos.atName
      let (f, first) ← holding [ov] (getMethod ov m pl)
      callWith pos f first (backTo pos (starEach (e :: es) X.env)) (backToKw pos (keywordEach [] X.env))) := by rfl) :
    PE X (.Call (.Attribute o m apos) (e :: es) [] pos) (fun σ H Q => ta σ H fun y H1 => ∃ a dx fs, y = .ref a ∧ H1 a = some (.ins Cl dx fs) ∧ fs.lookup m = none ∧ t σ H1 fun vs H2 => sp (.ref a :: vs) H2 Q (E σ)) := by
  refine ⟨fun pins s σ H Q I h => ?_⟩
  refine PySem.W.methodCall_KW (pl := pl) (thn (he.run pins s σ H _ I h) fun u s1 ⟨y, H1, I1, rx, a, dx, fs, ey, ea, l, q⟩ => ?_) ht
  subst ey
  obtain rfl : u = Value.ref a := rx
  refine getmeth_ok I1 ea c hm l ?_
  exact PySem.W.callWith_K (first := [.ref a]) (h₀ := X.base) I.ok.mod.kin hm.kp (thn (ha.run pos pins s1 σ H1 _ I1 q) fun us s2 ⟨vs, H2, I2, r, q2⟩ => ⟨I2.kIn, run_fnS (us := .ref a :: us) (vs := .ref a :: vs) F hr hb (hx σ) I2 (.cons rfl r) q2⟩) hst hpl
theorem ev_methR {pl : Sem Bool} (F : MethR X.prog X.w X.K X.mg X.base Cl m k n R Cx f G) (rz : Rz X C1 Γe Cx f Z) (hr : Room k X.A) (x1 : Ext C1 C) (l : Le Γe Γ)
    (h : Ev X C Γ o fun d => ∃ gs, d = .obj Cl gs ∧ gs.lookup m = none ∧ EvA X C Γ (e :: es) fun ds => ds.length + 1 = n ∧ R C (d :: ds) ∧ G (d :: ds) P Z)
    (hst : starEach (e :: es) X.env = (false, eval e X.env) :: starEach es X.env := by rfl) (hpl : (backTo pos (starEach es X.env)).any (·.1) = false := by rfl)
    (ht : eval (.Call (.Attribute o m apos) (e :: es) [] pos) X.env = (do
      let ov ← eval o X.env
      standAt apos.atName
      let (f, first) ← holding [ov] (getMethod ov m pl)
      callWith pos f first (backTo pos (starEach (e :: es) X.env)) (backToKw pos (keywordEach [] X.env))) := by rfl) : Ev X C Γ (.Call (.Attribute o m apos) (e :: es) [] pos) P := fun σ H g Q q => by
  obtain ⟨fa, fd, ps, F, hc, hm, hb⟩ := F.ex
  obtain ⟨W, tk, hW⟩ := rz.ex
  refine we_of (pe_methA (pl := pl) (E := L2.WE W) pe_we hc hm F hr hb (fun σ => passAt tk σ) pa_wa hst hpl ht) (h σ H g _ fun v d H1 s1 r1 ⟨gs, ed, hl, h2⟩ => ?_)
  subst ed
  cases r1 with
  | obj hi hf =>
    refine ⟨_, _, _, rfl, cut_sub _ _ _ _ hi, hf.non hl, h2 σ H1 (g.step s1) _ fun vs ds H2 s2 r2 ⟨hn, hR, hG⟩ => ?_⟩
    refine ⟨C, .obj Cl gs :: ds, P, Z, hn, hR, s2.trk, s2.j, .cons (DD.mono s2.same (.obj hi hf)) r2, hG, fun v d H3 s3 r3 pp => q v d H3 ((s1.trans s2).trans s3) r3 pp, fun v y d H3 s3 r3 hz hd => ?_⟩
    have g3 := ((g.step ((s1.trans s2).trans s3)).ext x1).weak l
    exact hW σ H3 v y d g3 (r3.mono (cut_less x1.sub)) hz (cut_less x1.sub d _ hd)
theorem ev_callR (F : DefdR X.prog X.w X.K X.mg X.base x k n R Cx f G) (rz : Rz X C1 Γe Cx f Z) (hr : Room k X.A) (x1 : Ext C1 C) (l : Le Γe Γ) (h : EvA X C Γ (e :: es) fun ds => ds.length = n ∧ R C ds ∧ G ds P Z) (hg : Gl X x := by rfl) (hdb : (x == ("__debug__" : Str)) = false := by decide)
    (he : starEach (e :: es) X.env = (false, eval e X.env) :: starEach es X.env := by rfl) (hpl : (backTo pos (starEach es X.env)).any (·.1) = false := by rfl) : Ev X C Γ (.Call (.Name x p) (e :: es) [] pos) P := fun σ H g Q q => by
  obtain ⟨fa, fd, ps, F, hm, hk, hb⟩ := F.ex
  obtain ⟨W, tk, hW⟩ := rz.ex
  refine we_of (pe_callS (E := L2.WE W) F hr hg hm hk hb (fun σ => passAt tk σ) pa_wa hdb he hpl) (h σ H g _ fun vs ds H1 s1 r1 ⟨hn, hR, hG⟩ => ?_)
  refine ⟨C, ds, P, Z, hn, hR, s1.trk, s1.j, r1, hG, fun v d H2 s2 r2 pp => q v d H2 (s1.trans s2) r2 pp, fun v y d H3 s3 r3 hz hd => ?_⟩
  have g3 := ((g.step (s1.trans s3)).ext x1).weak l
  exact hW σ H3 v y d g3 (r3.mono (cut_less x1.sub)) hz (cut_less x1.sub d _ hd)
/-- try: body except X as e: suite -/
theorem bl_tryAs {y : Str} (i : Nat) {xn : Str} {np tpos hpos : Pos} {body suite : List Stmt} {b0 : Stmt} (hc : Names X xn (.ref Cx)) (hte : PySem.W.exmOne X.K (.ref Cx) (.ref Cx) = some true) (hN : X.N.Nodup)
    (hbody : ∀ (S0 : Hp) (pn : List (Addr × Obj)) (xe : Value → Shared → Prop), Rz (X.tr pn xe) (since C S0) Γe Cx f Z → PassesOwn (model X.prog X.w) X.A X.env xe → Bl (X.tr pn xe) (since C S0) Γ body { O with N := fun C2 Γ2 => C2 = since C S0 ∧ Bl X C Γ2 rest O, B := fun C2 Γ2 => ∃ S1, C2 = since C S1 ∧ O.B C Γ2, T := fun C2 Γ2 => ∃ S1, C2 = since C S1 ∧ O.T C Γ2 })
    (hsuite : ∀ (S0 : Hp) (a : Addr) (oe : Obj) (d : Addr) (pn : List (Addr × Obj)) (v : V) (z : D), Zc (.ref Cx) (some d) oe → (∃ vs, oe.data = .fields vs) → Z z → DD X.K S0 v z → S0 d = some (.xd [(f, v)]) →
      Bl (X.suite a ((a, oe) :: pn)) (since C S0) (Γe.set i (some (.adr a))) (b0 :: suite) { O with N := fun C2 Γ2 => C2 = since C S0 ∧ Bl X C (Γ2.set i none) rest O, B := fun C2 Γ2 => ∃ S1, C2 = since C S1 ∧ O.B C (Γ2.set i none), T := fun C2 Γ2 => ∃ S1, C2 = since C S1 ∧ O.T C (Γ2.set i none) })
    (hs : X.stack = X.env :: X.outer := by rfl) (hf : X.env.frame = some X.env.locals := by rfl) (hi : X.N[i]? = some y := by rfl) (hln : X.env.kindOf y = some .local := by rfl) (Wout : WX := fun _ _ _ _ => False) (tk : Takes X Wout := by exact takes0) :
    Bl X C Γ (.Try body [.ExceptHandler (some (.Name xn np)) (some y) (b0 :: suite) hpos] [] [] tpos :: rest) O := bl_seq fun σ H g E b => by
  refine ws_of (ps_try_as (i := i) (tb := fun W D σ H => ∀ pn xe, Takes (X.tr pn xe) W → PassesOwn (model X.prog X.w) X.A X.env xe → WB (X.tr pn xe) body D σ H)
    (ts := fun a cls d D σ H => ∀ (oe : Obj) (pn : List (Addr × Obj)), Zc cls d oe → (∃ vs, oe.data = .fields vs) → WB (X.suite a ((a, oe) :: pn)) (b0 :: suite) D σ H) hs hf hN hi hln hc tk
    (fun W pn xe tk hp => ⟨fun pins s σ H D I h => h pn xe tk hp pins s I⟩) (fun a oe cls d pn hz hfv => ⟨fun pins s σ H D I h => h oe pn hz hfv pins s I⟩)) ?_
  intro pn xe tkW hpo
  have g1 := g.since
  have same0 : Same (cut C.M H) (cut (since C (cut C.M H)).M H) := Same.refl _
  refine hbody (cut C.M H) pn xe ⟨_, tkW, fun σ2 H2 v z d g2 rv hz hd => ?_⟩ hpo σ H g1 _ ⟨fun C' σ' H' Γ' s' g' ⟨ec, n⟩ => ?_, b.rt, fun C' σ' H' Γ' s' g' ⟨S1, ec, n⟩ => ?_, fun C' σ' H' Γ' s' g' ⟨S1, ec, n⟩ => ?_, b.rf, b.rx⟩
  · refine ⟨true, hte, fun _ a ha oe pn2 hzc hfv => ?_, fun z => Bool.noConfusion z⟩
    have am : a ∉ C.M := fun m => g2.trk a m ha
    have g3 : Good C X.K σ2 H2 Γe := g2.unsince
    have g4 : Good (since C (cut C.M H2)) X.K (σ2.set i (some (.ref a))) H2 (Γe.set i (some (.adr a))) := (g3.since).set (.adr a)
    have sm : Same (cut C.M H) (cut C.M H2) := g2.j.2
    refine hsuite (cut C.M H2) a oe d pn2 v z hzc hfv hz rv hd _ H2 g4 _ ⟨fun C' σ' H' Γ' s' g' ⟨ec, n⟩ => ?_, fun v d H' s' => b.rt v d H' (sm.trans s'), fun C' σ' H' Γ' s' g' ⟨S1, ec, n⟩ => ?_, fun C' σ' H' Γ' s' g' ⟨S1, ec, n⟩ => ?_, fun p xs ds H' mm s' => b.rf p xs ds H' mm (sm.trans s'), fun v d D' H' s' => b.rx v d D' H' (sm.trans s')⟩
    · subst ec
      exact b.nx C _ H' (Γ'.set i none) (sm.trans s') (g'.unsince.forget i) n
    · subst ec
      exact b.bk C _ H' (Γ'.set i none) (sm.trans s') (g'.unsince.forget i) n
    · subst ec
      exact b.ct C _ H' (Γ'.set i none) (sm.trans s') (g'.unsince.forget i) n
  · subst ec
    exact b.nx C _ H' Γ' s' g'.unsince n
  · subst ec
    exact b.bk C _ H' Γ' s' g'.unsince n
  · subst ec
    exact b.ct C _ H' Γ' s' g'.unsince n
/-- e.f in the suite -/
theorem ev_xf {S0 : Hp} {a d : Addr} {oe : Obj} {pn : List (Addr × Obj)} {v : V} {z : D} {e : Expr} {pos : Pos} (T : XfC X.K Cx) (hno : PySem.W.findIn X.K (.ref Cx) f = some none) (hz : Zc (.ref Cx) (some d) oe) (hf : ∃ vs, oe.data = .fields vs) (rv : DD X.K S0 v z) (hd : S0 d = some (.xd [(f, v)]))
    (h : Ev (X.suite a ((a, oe) :: pn)) (since C S0) Γ e fun u => u = .adr a ∧ P z) (hb : attributeBase e f X.env (eval e X.env) = eval e X.env := by rfl) : Ev (X.suite a ((a, oe) :: pn)) (since C S0) Γ (.Attribute e f pos) P := fun σ H g Q q =>
  we_of (pe_xf T hno hz hf pe_we hb) (h σ H g _ fun u d1 H1 s1 r1 ⟨ed, pz⟩ => by
    subst ed
    cases r1
    have sm := s1.j.2
    refine ⟨rfl, rfl, d, _, v, rfl, cut_sub _ _ _ _ (sm d _ hd), ?_, q v z H1 s1 (rv.mono sm) pz⟩
    simp [List.lookup])
end
/-! ### the head's facts, with exceptions -/
abbrev AlQ : Type := AlP × Bool
structure ExD where
  cl : Str
  f : Str
  tail : List Value
  newId : String
def exOk (K : PySem.W.Frag) (e : ExD) : Bool := PySem.OwnX.exB K (He.ga K e.cl) e.f e.tail e.newId
def obsQ (fa : List He.Fa) (fn : List He.DefD) (pr : List PrD) (ex : List ExD) (K : PySem.W.Frag) : AlQ := (obsP fa fn pr K, ex.all (exOk K))
def valQ (fn : List He.DefD) (pr : List PrD) : AlQ := (valP fn pr, true)
def SaysQ (fa : List He.Fa) (fn : List He.DefD) (pr : List PrD) (ex : List ExD) (K : PySem.W.Frag) : Prop := obsQ fa fn pr ex K = valQ fn pr
def obsQG (n : Nat) (fa : List He.Fa) (fn : List He.DefD) (pr : List PrD) (ex : List ExD) (g : Addr → Option Obj) : AlQ := obsQ fa fn pr ex (He.frG g (He.asD g n))
def hookQ (n : Nat) (fa : List He.Fa) (fn : List He.DefD) (pr : List PrD) (ex : List ExD) : PySem.W.Hook where
  α := AlQ
  obs := fun s => obsQG n fa fn pr ex s.heap.get?
  val := fun _ => valQ fn pr
  says := fun _ h => ∃ K : PySem.W.Frag, K.In h ∧ SaysQ fa fn pr ex K
  of := fun _ _ e => ⟨_, He.frG_in, e⟩
  keeps := fun _ _ _ ⟨K, hK, c⟩ k => ⟨K, PySem.W.Frag.In.keeps hK k, c⟩
theorem obsQG_eq {n : Nat} {fa : List He.Fa} {fn : List He.DefD} {pr : List PrD} {ex : List ExD} {g : Addr → Option Obj} {s : Shared} (h : ∀ a, g a = s.heap.get? a) : obsQG n fa fn pr ex g = (hookQ n fa fn pr ex).obs s := by
  have e : g = s.heap.get? := funext h
  rw [e] <;> rfl
theorem SaysQ.p {fa : List He.Fa} {fn : List He.DefD} {pr : List PrD} {ex : List ExD} {K : PySem.W.Frag} (c : SaysQ fa fn pr ex K) : SaysP fa fn pr K := congrArg (fun z : AlQ => z.1) c
theorem SaysQ.ex {fa : List He.Fa} {fn : List He.DefD} {pr : List PrD} {ex : List ExD} {K : PySem.W.Frag} (c : SaysQ fa fn pr ex K) (i : Nat) {e : ExD} (h : ex[i]? = some e := by rfl) : PySem.OwnX.ExT K (He.ga K e.cl) e.f e.tail e.newId :=
  PySem.OwnX.exB_ok (List.all_eq_true.mp (congrArg (fun z : AlQ => z.2) c) e (List.mem_of_getElem? h))
end GG
set_option maxHeartbeats 4000000
/-! G30: x = {}, to be changed. -/
namespace GG
open PySem PySem.Spec PyProof.Rows L2
theorem le_n {n : Nat} {Γ : En} (h : Γ.length = n) : Le (List.replicate n none) Γ := by
  subst h
  exact le_none
section
variable {X : Cx} {C : SJ} {Γ : En} {O : Out} {rest : List Stmt} {pos : Pos}
theorem good_dict0 {K : PySem.W.Frag} {σ : L2.St} {H : Hp} {q : Addr} (g : Good C K σ H Γ) (hq : H q = none) : Good (ownD K C q []) K σ (upd H q (.dK [])) Γ ∧ Same (cut C.M H) (cut (q :: C.M) (upd H q (.dK []))) := by
  have qm : q ∉ C.M := fun m => g.trk q m hq
  have ec : cut (q :: C.M) (upd H q (.dK [])) = cut C.M H := by
    funext b
    by_cases hb : b = q
    · subst hb
      show (if b ∈ b :: C.M then none else _) = if b ∈ C.M then none else H b
      rw [if_pos List.mem_cons_self, if_neg qm, hq]
    · show (if b ∈ q :: C.M then none else upd H q (.dK []) b) = if b ∈ C.M then none else H b
      by_cases hm : b ∈ C.M
      · rw [if_pos (List.mem_cons_of_mem _ hm), if_pos hm]
      · rw [if_neg (fun z => (List.mem_cons.mp z).elim hb hm), if_neg hm, upd_ne hb]
  refine ⟨⟨g.len, fun a ha => ?_, ⟨?_, qm, [], upd_same, .nil⟩, ?_⟩, by rw [ec]; exact Same.refl _⟩
  · rcases List.mem_cons.mp ha with z | z
    · rw [z, upd_same]; exact fun z => by cases z
    · rw [upd_ne (fun e : a = q => qm (e ▸ z))]; exact g.trk a z
  · show C.J (cut (q :: C.M) _) _
    rw [ec]
    exact C.st _ _ _ _ g.j (Same.refl _) fun a ha => upd_ne fun e : a = q => qm (e ▸ ha)
  · show Bnd K (cut (q :: C.M) _) σ Γ
    rw [ec]
    exact g.bnd
theorem bl_disp0 (i : Nat) {x : Str} {dpos pos' : Pos} (h : ∀ q, Bl X (ownD X.K C q []) (Γ.set i (some (.adr q))) rest O) (hN : X.N.Nodup) (hi : X.N[i]? = some x := by rfl) (hx : Loc X.env.scope x := by first | exact Or.inl rfl | exact Or.inr rfl)
    (hs : swapsWith (.Dict [] [] dpos) (some (.Name x pos')) pos.line X.env = pure false := by rfl) (hf : X.fn x = true ∨ X.env.scope.names.lookup x = some .local := by first | exact .inl rfl | exact .inr rfl) : Bl X C Γ (.Assign [.Name x pos'] (.Dict [] [] dpos) pos :: rest) O := bl_seq fun σ H g E b =>
  ws_of (ps_set hN hi hx pe_dnewK hs hf) fun q hq => by
    obtain ⟨g0, s0⟩ := good_dict0 g hq
    exact b.nx _ _ _ _ s0 (g0.set (.adr q)) (h q)
end
end GG
set_option maxHeartbeats 4000000
/-! G31: sets of texts that can be walked; sorted(set(texts)). -/
namespace GG
open PySem PySem.Spec PyProof.Rows L2
def keyT (e : Int × Value) : Str := match e.2 with
  | .str x _ => x
  | _ => Str.empty
def TxtE (w : World) (e : Int × Value) : Prop := ∃ x tk, e.2 = Value.str x tk ∧ e.1 = hashStr w x
/-- a table of the texts l that rises and can be walked -/
structure TTab (w : World) (ens : Array (Int × Value)) (tab : SetTable) (l : List Str) : Prop where
  txt : ∀ e ∈ ens.toList, TxtE w e
  per : (ens.toList.map keyT).Perm l
  few : ens.size < scanBound
  fit : tab.fits ens.size = true
  ris : Ris tab.place.toList
  led : w.params.followText "set-order" = true ∨ tab.led = true
/-- the set of the texts l at a -/
def TSet (w : World) (h : Heap) (a : Addr) (l : List Str) : Prop := l.Nodup ∧ ∃ (ob : Obj) (ens : Array (Int × Value)) (epo : Nat) (tab : SetTable), h.get? a = some ob ∧ ob.ExactSet ∧ ob.data = .set ens epo tab ∧ TTab w ens tab l
section
variable {P : Program} {w : World} {ens : Array (Int × Value)} {tab : SetTable} {l : List Str}
theorem TTab.elems (T : TTab w ens tab l) : ElemsOf (strKind P w) ens.toList := fun e he => by
  obtain ⟨x, tk, q1, q2⟩ := T.txt e he
  refine ⟨⟨x, ?_, q2⟩, ?_⟩
  · rw [q1]; exact strKind_is P w x tk
  · rw [q1]; rfl
theorem TTab.size (T : TTab w ens tab l) : ens.size = l.length := by rw [← T.per.length_eq, List.length_map, Array.length_toList]
theorem txt_is {e : Int × Value} (q : TxtE w e) (x : Str) : (strKind P w).is x e.2 = true ↔ keyT e = x := by
  obtain ⟨y, tk, q1, _⟩ := q
  unfold keyT
  rw [q1]
  show (Value.str y tk).isStrOf x = true ↔ y = x
  constructor
  · intro h
    obtain ⟨t, e⟩ := Value.isStrOf_shape h
    injection e
  · rintro rfl
    simp [Value.isStrOf]
theorem TTab.find_some (T : TTab w ens tab l) {x : Str} {j : Nat} (q : ens.toList.findIdx? (fun e => (strKind P w).is x e.2) = some j) : x ∈ l := by
  obtain ⟨hj, hp, _⟩ := List.findIdx?_eq_some_iff_getElem.mp q
  have hm := List.getElem_mem hj
  exact T.per.mem_iff.mp (List.mem_map.mpr ⟨_, hm, (txt_is (P := P) (T.txt _ hm) x).mp hp⟩)
theorem TTab.find_none (T : TTab w ens tab l) {x : Str} (q : ens.toList.findIdx? (fun e => (strKind P w).is x e.2) = none) : x ∉ l := fun hx => by
  obtain ⟨e, he, hk⟩ := List.mem_map.mp (T.per.mem_iff.mpr hx)
  have := List.findIdx?_eq_none_iff.mp q e he
  rw [(txt_is (P := P) (T.txt e he) x).mpr hk] at this
  cases this
end
section
variable {P : Program} {w : World} {A : Around} {E : Value → Shared → Prop} {s : Shared} {a : Addr} {l : List Str}
theorem tset_lay {ob : Obj} {ens new : Array (Int × Value)} {epo : Nat} {tab tab2 : SetTable} {full : Bool} {g : Bool → Sem Unit} (hg : ∀ (b : Bool) (s1 : Shared) (Y : Unit → Shared → Prop), Y () s1 → wpAny (model P w) A (g b) Y E s1)
    (ho : s.heap.get? a = some ob) (hx : ob.ExactSet) (hd : ob.data = .set ens epo tab) (T : TTab w new tab2 l) (nd : l.Nodup) {Y : Option Bool → Shared → Prop} (hY : ∀ h2, Heap.SameBut a s.heap h2 → TSet w h2 a l → Y (some true) { s with heap := h2 }) :
    wpAny (model P w) A (do
        storeSet a new tab2
        if (!full && tab2.tooFull) = true then do
            g (relayAll tab2 new (SetTable.grown new.size)).2.2
            storeSet a (relayAll tab2 new (SetTable.grown new.size)).1 (relayAll tab2 new (SetTable.grown new.size)).2.1
            pure (some true)
          else pure (some true)) Y E s := by
  refine wpAny_bind (wpAny_storeSet_of ho hd ?_ (fits_of_scanBound T.few))
  have ho2 := store_at (es' := new) (t' := tab2) ho hd
  have same1 := Heap.SameBut.update s.heap a (Obj.putSet new tab2)
  split
  · have rp := relayAll_perm tab2 new (SetTable.grown new.size)
    have rf := relayAll_fits tab2 new (SetTable.grown new.size)
    have rr := relayAll_ris tab2 new (SetTable.grown new.size)
    have rl := relayAll_led tab2 new (SetTable.grown new.size)
    generalize relayAll tab2 new (SetTable.grown new.size) = Z at rp rf rr rl ⊢
    obtain ⟨new2, tab3, gave⟩ := Z
    dsimp only at rp rf rr rl ⊢
    have es : new2.size = new.size := by rw [← Array.length_toList, rp.length_eq, Array.length_toList]
    have T2 : TTab w new2 tab3 l := ⟨fun e he => T.txt e (rp.mem_iff.mp he), (rp.map keyT).trans T.per, by rw [es]; exact T.few, rf, rr, T.led.imp id fun z => by rw [rl]; exact z⟩
    refine wpAny_bind (hg _ _ _ (wpAny_bind (wpAny_storeSet_of ho2 rfl ?_ (fits_of_scanBound T2.few))))
    exact wpAny_pure (hY _ (same1.trans (Heap.SameBut.update _ a _)) ⟨nd, _, new2, _, tab3, store_at (es' := new2) (t' := tab3) ho2 rfl, hx, rfl, T2⟩)
  · exact wpAny_pure (hY _ same1 ⟨nd, _, new, _, tab2, ho2, hx, rfl, T⟩)
theorem tset_add {x : Str} {tk : Tok} {Q : Bool → Shared → Prop} (R : TSet w s.heap a l) (room : l.length + 1 < scanBound) (hQ : ∀ b h2, Heap.SameBut a s.heap h2 → TSet w h2 a (stepS l x) → Q b { s with heap := h2 }) :
    wpAny (model P w) A (setAddHashed a (.str x tk) ((strKind P w).hash x)) Q E s := by
  obtain ⟨nd, ob, ens, epo, tab, ho, hx, hd, T⟩ := R
  have hel : ElemsOf (strKind P w) ens.toList := T.elems
  have hsc : (Value.str x tk).scannable = true := rfl
  unfold setAddHashed setAddHashedIn
  refine wpAny_holding (wpAny_bind (wpAny_setState_of ho hd T.fit ?_))
  dsimp only
  rw [byScan_of hsc T.few hel]
  simp only [↓reduceIte]
  unfold setAddByScan
  refine wpAny_bind ?_
  refine wpAny_bind (wpAny_rule (wpAny_bind (wpAny_setScan_of (strKind_is P w x tk) ho hd T.fit hel ?_)))
  cases hfi : ens.toList.findIdx? (fun e => (strKind P w).is x e.2) with
  | some j =>
    dsimp only
    have hin := T.find_some hfi
    have hst : stepS l x = l := by
      unfold stepS
      rw [if_pos (List.any_eq_true.mpr ⟨x, hin, by simp⟩)]
    refine wpAny_pure (wpAny_pure (hQ _ s.heap (Heap.SameBut.refl a s.heap) ?_))
    rw [hst]
    exact ⟨nd, ob, ens, epo, tab, ho, hx, hd, T⟩
  | none =>
    dsimp only
    have hin := T.find_none hfi
    have hst : stepS l x = l ++ [x] := by
      unfold stepS
      rw [if_neg fun z => by
        obtain ⟨y, hy, e⟩ := List.any_eq_true.mp z
        rw [beq_iff_eq] at e
        exact hin (e ▸ hy)]
    have nd2 : (l ++ [x]).Nodup := List.nodup_append.mpr ⟨nd, by simp, fun u hu v hv => by
      rw [List.mem_singleton] at hv
      subst hv
      exact fun z => hin (z ▸ hu)⟩
    have gone : ∀ (b : Bool) {s1 : Shared} {Y : Unit → Shared → Prop}, Y () s1 → wpAny (model P w) A (match b with | true => rule "set.scan.the-table-gave-way" | false => pure ()) Y E s1 :=
      fun b s1 Y q => by cases b <;> first | exact wpAny_pure q | exact wpAny_rule q
    have lp := layNew_perm tab ens ((strKind P w).hash x) (.str x tk)
    have lf := layNew_fits tab ens ((strKind P w).hash x) (.str x tk)
    have lr := layNew_ris tab ens ((strKind P w).hash x) (.str x tk) T.ris
    have ll := layNew_led tab ens ((strKind P w).hash x) (.str x tk)
    generalize layNew tab ens ((strKind P w).hash x) (.str x tk) = Z at lp lf lr ll ⊢
    obtain ⟨new, tab1, full, gave⟩ := Z
    dsimp only at lp lf lr ll ⊢
    rw [Array.toList_push] at lp
    have pk : (new.toList.map keyT).Perm (l ++ [x]) := by
      have q := lp.map keyT
      rw [List.map_append] at q
      exact q.trans (T.per.append_right _)
    have es : new.size = l.length + 1 := by rw [← Array.length_toList, ← List.length_map (f := keyT), pk.length_eq, List.length_append]; rfl
    have tx : ∀ e ∈ new.toList, TxtE w e := fun e he => by
      rcases List.mem_append.mp (lp.mem_iff.mp he) with z | z
      · exact T.txt e z
      · rw [List.mem_singleton] at z
        rw [z]
        exact ⟨x, tk, rfl, rfl⟩
    have hled : w.params.followText "set-order" = true ∨ tab1.led = true := T.led.imp id fun z => by rw [ll]; exact z
    have T1 : TTab w new tab1 (l ++ [x]) := ⟨tx, pk, by rw [es]; exact room, lf, lr, hled⟩
    rw [hst] at hQ
    refine wpAny_bind (gone _ ?_)
    split
    · refine wpAny_bind ?_
      rw [hashByValue_scannable 8 hsc]
      refine wpAny_pure ?_
      refine tset_lay ?_ ho hx hd (l := l ++ [x]) ?_ nd2 ?_
      · intro b s1 Y q; cases b <;> first | exact wpAny_pure q | exact wpAny_rule q
      · refine ⟨tx, pk, T1.few, ?_, ?_, ?_⟩
        · first | (split <;> first | exact lf | exact SetTable.fits_plain_off lf) | exact lf
        · first | (split <;> exact lr) | exact lr
        · first | (split <;> exact hled) | exact hled
      · intro h2 sb r; dsimp only; exact wpAny_pure (hQ _ h2 sb r)
    · refine wpAny_bind (wpAny_pure ?_)
      simp only [↓reduceIte]
      refine tset_lay ?_ ho hx hd T1 nd2 ?_
      · intro b s1 Y q; cases b <;> first | exact wpAny_pure q | exact wpAny_rule q
      · intro h2 sb r; dsimp only; exact wpAny_pure (hQ _ h2 sb r)
theorem tset_fresh {h : Heap} (w : World) : TSet w (h.push { cls := .type "set", dict := none, data := .set #[] 0 (.fresh 0 0 (!w.params.followText "set-order")) }) h.objs.size [] :=
  ⟨List.nodup_nil, _, #[], 0, _, Heap.get?_push_size _ rfl, ⟨rfl, rfl, rfl⟩, rfl, (fun e he => by simp at he), by simp, by decide, by rfl, List.Pairwise.nil, by
    show _ ∨ (!w.params.followText "set-order") = true
    cases w.params.followText "set-order" <;> simp⟩
theorem TSet.at {h h2 : Heap} (R : TSet w h a l) (k : ∀ o, h.get? a = some o → h2.get? a = some o) : TSet w h2 a l := by
  obtain ⟨nd, ob, ens, epo, tab, ho, r⟩ := R
  exact ⟨nd, ob, ens, epo, tab, k ob ho, r⟩
end
section
variable {prog : Program} {w : World} {A : Around} {R : Result → Shared → Prop} {I : Addr} {fp wr : List Addr} {G : Array GenState → Array GenState → Prop} {n : Nat} {P : Nat → Value → Prop} {St : Nat → Shared → Prop}
/-- texts put into a set that can be walked, one after the other -/
theorem loopT (W : WalksS prog w A.in1 I fp wr G n P St) (S : Addr) (hSf : S ∉ fp) (xs : List Str) (hsz : xs.length = n) (hb : n + 1 < scanBound)
    (hval : ∀ i v, P i v → ∃ t, v = .str (xs.getD i Str.empty) t) :
    ∀ (k i : Nat) (s : Shared), n - i = k → i ≤ n → St i s → TSet w s.heap S (metS xs i) →
      (∀ s', Moved (S :: wr) G s s' → TSet w s'.heap S (metS xs n) → R (.ok (.ret .none)) s') →
      codeAny (model prog w) A (.builtin "set.update.loop" ⟨[.ref S, .ref I], []⟩) R s := by
  have notW : S ∉ wr := fun h => hSf (W.sub _ h)
  have more : ∀ b ∈ wr, b ∈ S :: wr := fun b h => List.mem_cons_of_mem _ h
  intro k
  induction k with
  | zero =>
    intro i s hk hi hst hS hR
    obtain rfl : i = n := by omega
    refine codeAny_builtin PyProof.Rows.F.entry_set_update_loop ?_
    rw [Around.under_plainId PyProof.Rows.F.plain_set_update_loop _]
    show wpAny _ A.in1 (pyNext (.ref I) >>= _) _ _ s
    refine wpAny_bind (W.done s _ _ hst fun s' hm => ?_)
    show wpAny _ A.in1 (ret Value.none) _ _ s'
    exact wpAny_pure (hR s' (hm.mono more) (hS.at fun o e => hm.heap S o notW e))
  | succ k ih =>
    intro i s hk hi hst hS hR
    have hlt : i < n := by omega
    have hxl : i < xs.length := by omega
    refine codeAny_builtin PyProof.Rows.F.entry_set_update_loop ?_
    rw [Around.under_plainId PyProof.Rows.F.plain_set_update_loop _]
    show wpAny _ A.in1 (pyNext (.ref I) >>= _) _ _ s
    refine wpAny_bind (W.item i s _ _ hlt hst fun v s' hP hst' hm => ?_)
    obtain ⟨t, rfl⟩ := hval i v hP
    have hS' : TSet w s'.heap S (metS xs i) := hS.at fun o e => hm.heap S o notW e
    show wpAny _ A.in1 (holding [Value.str (xs.getD i Str.empty) t] (setAdd S (.str (xs.getD i Str.empty) t)) >>= _) _ _ s'
    refine wpAny_bind (wpAny_holding ?_)
    unfold setAdd
    refine wpAny_holding (wpAny_bind ((PySem.strKind prog w).pyHash (k := xs.getD i Str.empty) (strKind_is _ _ _ _) ?_))
    have room : (metS xs i).length + 1 < scanBound := by have := metS_le xs i (by omega); omega
    refine tset_add (s := { s' with toks := s'.toks + 1 }) hS' room fun b h' hsb hS2 => ?_
    rw [← metS_succ hxl] at hS2
    refine wpAny_pure ⟨plainId_quiet PyProof.Rows.F.plain_set_update_loop _, ih (i + 1) _ (by omega) hlt (W.frame _ s' _ _ hst' (Nat.le_succ _) fun b hb o e => ?_) hS2 fun s'' hm'' hS'' => ?_⟩
    · exact (hsb.2 b fun z : b = S => hSf (z ▸ hb)).trans e
    · exact hR s'' (Moved.trans W.gtrans ((hm.mono more).then_heap (Nat.le_succ _) fun b o hb e => (hsb.2 b fun z : b = S => hb (by rw [z]; exact List.mem_cons_self)).trans e) hm'') hS''
end
section
variable {prog : Program} {w : World} {A : Around} {E : Value → Shared → Prop} {s : Shared}
theorem tset_of_list {l : Addr} {items : Array Value} {xs : List Str} {Q : Value → Shared → Prop}
    (hh : A.handled = none) (hl : s.heap.IsList l items) (hi : PyProof.Rows.StrsAre items.toList xs) (hb : xs.length + 1 < scanBound)
    (h : ∀ (h' : Heap) (tk : Nat), TSet w h' s.heap.objs.size (metS xs items.size) →
      (∀ b o, s.heap.get? b = some o → h'.get? b = some o) → Q (.ref s.heap.objs.size) { s with heap := h', toks := tk }) :
    wpAny (model prog w) A (call (.type "set") [.ref l]) Q E s := by
  obtain ⟨c, tl, hmro⟩ := PySem.F.called_set.mro
  have hmade := PySem.F.called_set.made
  have hsub := PySem.F.called_set.sub
  refine wpAny_call (codeAny_of_tree ?_)
  show wpAny _ _ (callAny (.type "set") _) _ _ _
  refine wpAny_pure ⟨Code.quiet_builtin _ (by decide +kernel), codeAny_builtin PySem.F.entry_type_call ?_⟩
  rw [Around.under_plain (weight_type_call_type "set" [.ref l] []) rfl]
  have h1 := PySem.F.called_set.notType
  have h2 := PySem.F.called_set.canCreate
  have hct := PySem.F.typeCall_set_1 (.ref l)
  repeat (any_goals (first | assumption | wp_step))

  refine codeAny_mono (L2.code_set_led1 (.ref l) (E := E) (Q₁ := fun obj s₁ => obj = .ref s.heap.objs.size ∧ s₁ = { s with heap := s.heap.push { cls := .type "set", dict := none, data := .set #[] 0 (.fresh 0 0 (!w.params.followText "set-order")) } }) ⟨rfl, rfl⟩) fun r s₁ hr => ?_
  cases r with
  | error e => exact hr
  | ok fl =>
    cases fl with
    | ret obj =>
      obtain ⟨rfl, rfl⟩ := hr
      have hS : (s.heap.push { cls := .type "set", dict := none, data := .set #[] 0 (.fresh 0 0 (!w.params.followText "set-order")) }).get? s.heap.objs.size = some { cls := .type "set", dict := none, data := .set #[] 0 (.fresh 0 0 (!w.params.followText "set-order")) } := Heap.get?_push_size _ rfl
      have hT : Shared.TypeIs { s with heap := s.heap.push { cls := .type "set", dict := none, data := .set #[] 0 (.fresh 0 0 (!w.params.followText "set-order")) } } (.ref s.heap.objs.size) "set" := ⟨_, hS, rfl⟩
      have hli := PySem.F.called_set.init.lookup
      have hbi := PySem.F.called_set.init.bind (.ref s.heap.objs.size)
      repeat (any_goals (first | assumption | wp_step))

      refine codeAny_mono (codeAny_call_builtin (R := wants (fun r s₂ => r = .none ∧ ∃ h' tk, s₂ = { s with heap := h', toks := tk } ∧
          TSet w h' s.heap.objs.size (metS xs items.size) ∧
          (∀ b o, s.heap.get? b = some o → h'.get? b = some o)) E) PySem.F.called_set.init.plain PySem.F.entry_set_init (check_set_init_1 hT ?_)) fun r₂ s₂ hr₂ => ?_
      · obtain ⟨ol, hol, hcl, nl, hdl⟩ := hl
        obtain ⟨ocls, odict, odata, oslots⟩ := ol
        simp only at hcl hdl
        subst hcl; subst hdl
        have hol' : (s.heap.push { cls := .type "set", dict := none, data := .set #[] 0 (.fresh 0 0 (!w.params.followText "set-order")) }).get? l = some { cls := .type "list", dict := odict, data := .seq items nl, slots := oslots } := Heap.get?_push_of_some _ hol
        have hsls := PySem.F.sub_list_set
        have hslf := PySem.F.sub_list_frozenset
        have hne : (Value.type "list" == Value.type "dict") = false := by decide
        have hl1 : (s.heap.push { cls := .type "set", dict := none, data := .set #[] 0 (.fresh 0 0 (!w.params.followText "set-order")) }).IsList l items := ⟨_, hol', rfl, nl, rfl⟩
        unfold Builtin.«set.__init__» noKeywords Builtin.Frozenset.updateFrom
        generalize hPI : pyIter = PI
        wp_walk
        subst hPI

        refine wpAny_pyIter_list hl1 ?_
        refine wpAny_bind (wpAny_runValue ?_)
        have hlS : l < s.heap.objs.size := Heap.lt_size hol
        have hh3 : A.in1.in1.in1.handled = none := by simp [hh]
        have hneI : l ≠ (s.heap.push { cls := .type "set", dict := none, data := .set #[] 0 (.fresh 0 0 (!w.params.followText "set-order")) }).objs.size := by
          rw [Heap.size_push]; exact Nat.ne_of_lt (Nat.lt_succ_of_lt hlS)
        have hSf : s.heap.objs.size ∉ [(s.heap.push { cls := .type "set", dict := none, data := .set #[] 0 (.fresh 0 0 (!w.params.followText "set-order")) }).objs.size, l] := by
          rw [Heap.size_push]; simp only [List.mem_cons, List.mem_singleton, List.not_mem_nil, or_false, not_or]
          exact ⟨Nat.ne_of_lt (Nat.lt_succ_self _), Nat.ne_of_gt hlS⟩
        have hsz : xs.length = items.size := by rw [← StrsAre.len_eq hi, Array.length_toList]
        have hval : ∀ (i : Nat) (v : Value), items[i]? = some v → ∃ t, v = .str (xs.getD i Str.empty) t := fun i v hv => SS.strs_at hi i v (by rw [Array.getElem?_toList]; exact hv)
        refine loopT ((Walks.list hh3 _ l hneI items).toS) s.heap.objs.size
          hSf xs hsz (by rw [← hsz]; exact hb) hval (items.size - 0) 0 _ (by omega) (Nat.zero_le _)
          ⟨⟨_, Heap.get?_push_size _ rfl, rfl, rfl⟩, (hl1.push _)⟩ ?hS0 ?hR
        case hS0 =>
          exact TSet.at (tset_fresh (h := s.heap) w) fun o e => Heap.get?_push_of_some _ e
        case hR =>
          intro s' hm hS'
          obtain ⟨h', g', d', tk', os'⟩ := s'
          have eg : g' = s.gens := hm.gens
          have ed : d' = s.drawn := hm.drawn
          have eo : os' = s.os := hm.os
          subst eg; subst ed; subst eo
          show wpAny _ _ _ _ _ _
          refine wpAny_pure ?_
          show wpAny _ _ (ret Value.none) _ _ _
          refine wpAny_pure ⟨rfl, h', tk', rfl, hS', fun b o e => ?_⟩
          have hb0 : b < s.heap.objs.size := Heap.lt_size e
          have hb1 : b ≠ s.heap.objs.size := Nat.ne_of_lt hb0
          have hb2 : b ≠ (s.heap.push { cls := .type "set", dict := none, data := .set #[] 0 (.fresh 0 0 (!w.params.followText "set-order")) }).objs.size := by
            rw [Heap.size_push]; exact Nat.ne_of_lt (Nat.lt_succ_of_lt hb0)
          exact hm.heap b o (by simp only [List.mem_cons, List.mem_singleton, List.not_mem_nil, or_false, not_or]; exact ⟨hb1, hb2⟩) (Heap.get?_push_of_some _ (Heap.get?_push_of_some _ e))

      · cases r₂ with
        | error e => exact hr₂
        | ok fl₂ =>
          cases fl₂ with
          | ret r =>
            obtain ⟨rfl, h', tk, rfl, hS', hk'⟩ := hr₂
            repeat (any_goals (first | assumption | wp_step))
            exact h _ _ hS' hk'
          | _ => exact hr₂.elim
    | _ => exact hr.elim
theorem strs_of' : ∀ vs : List Value, (∀ v ∈ vs, ∃ x tk, v = Value.str x tk) → StrsAre vs (vs.map fun v => keyT (0, v))
  | [], _ => .nil
  | v :: vs, h => by
    obtain ⟨x, tk, e⟩ := h v List.mem_cons_self
    subst e
    exact .cons x tk (strs_of' vs fun u hu => h u (List.mem_cons_of_mem _ hu))
theorem sorted_tset {a : Addr} {l : List Str} {Q : Value → Shared → Prop} (R : TSet w s.heap a l) (hh : A.handled = none) (h64 : l.length < 64)
    (hQ : ∀ s' p (out : Array Value) (c : Nat), (∀ b o, s.heap.get? b = some o → s'.heap.get? b = some o) → s'.gens = s.gens → s'.os = s.os → s.heap.objs.size ≤ p →
      s'.heap.get? p = some (seqObj "list" out c) → StrsAre out.toList (srtS l) → Q (.ref p) s') :
    wpAny (model prog w) A (call (.builtin "sorted") [.ref a]) Q E s := by
  obtain ⟨nd, ob, ens, epo, tab, ho, hx, hd, T⟩ := R
  refine Calls.call_function_entry kind_sorted plain_sorted entry_sorted (args_sorted1 _) ?_
  unfold Builtin.«sorted»
  refine wpAny_bind (m := checkCount "sorted" 1 1 _) (wpAny_pure ?_)
  refine wpAny_bind (collect_set (A := A.in1) hh ⟨ob, ho, hx.1, hd⟩ T.fit T.few T.ris T.led fun s1 vs k1 hz g1 o1 pm => ?_)
  have hI : StrsAre vs (vs.map fun v => keyT (0, v)) := strs_of' vs fun v hv => by
    obtain ⟨e, he, q⟩ := List.mem_map.mp (pm.mem_iff.mp hv)
    obtain ⟨x, tk, h1, _⟩ := T.txt e he
    exact ⟨x, tk, by rw [← q]; exact h1⟩
  have pk : (vs.map fun v => keyT (0, v)).Perm l := by
    have q := pm.map fun v => keyT (0, v)
    rw [List.map_map] at q
    exact q.trans T.per
  have hvl : vs.length = l.length := by rw [← pk.length_eq, List.length_map]
  refine wpAny_bind (wpAny_newList ?_ (by rw [hvl, sizeLine_eq]; omega))
  have hoL : (s1.heap.push (seqObj "list" vs.toArray 0)).get? s1.heap.objs.size = some (seqObj "list" vs.toArray 0) := Heap.get?_push_size _ rfl
  refine wpAny_bind (wpAny_holding (wpAny_call_entry slot_list_sort ⟨_, hoL, rfl⟩ entry_list_sort (list_sort_treeK strKind_oneLt hoL hI.keysOf (fun v₁ v₂ rest e => keyKind_strs (by rw [← e]; exact hI)) (by rw [hvl]; exact h64) fun st' a1 a2 => ⟨_, rfl, ?_⟩) (args_list_sort _)))
  obtain ⟨ss', h1, h2, h3⟩ := sorted_out_str hI a1 a2
  obtain ⟨c, hc⟩ := sortedHeap_at (vs := vs) (out := _) hoL
  refine wpAny_pure ⟨_, rfl, hQ _ s1.heap.objs.size _ c (fun b u e => ?_) g1 o1 hz hc ?_⟩
  · have q := k1 b u e
    have hlt := Heap.lt_size q
    show (sortedHeap (s1.heap.push (seqObj "list" vs.toArray 0)) s1.heap.objs.size vs _).get? b = some u
    rw [sortedHeap_old (Nat.ne_of_lt hlt) (by rw [size_push']; exact Nat.lt_succ_of_lt hlt)]
    exact Heap.get?_push_of_some _ q
  · have e : ss' = srtS l := sorted_one (h2.trans (pk.trans (srtS_perm l).symm)) (sortedS_pw h3) (srtS_pw l)
    rw [← e]
    exact h1
end
end GG
set_option maxHeartbeats 4000000
/-! G32: sorted(set(texts)); a new dict handed to the caller; two at once where the second changes the context; items, pop; data fit to be shown by weight. -/
namespace GG
open PySem PySem.Spec PyProof.Rows L2
section
variable {X : Cx} {C : SJ} {Γ : En} {O : Out} {rest : List Stmt}
/-- sorted(set(a list of texts)) -/
def tSortSet (K : PySem.W.Frag) (ta : TE) : TE := fun σ H Q => ta σ H fun x H1 => ∃ l, ∃ xs : List Str, x = .ref l ∧ SqL K H1 l (xs.map V.str) ∧ xs.length < 64 ∧ ∀ p, H1 p = none → Q (.ref p) (upd H1 p (.lst ((srtS (metS xs xs.length)).map V.str)))
theorem pe_sortSet {a : Expr} {ta : TE} {p p2 q pos : Pos} (hc : X.calm = true) (hg : Gl X "sorted") (hm : X.mg "sorted" = none) (hg2 : Gl X "set") (hm2 : X.mg "set" = none) (ha : PE X a ta)
    (na : starEach [a] X.env = (false, eval a X.env) :: starEach [] X.env := by rfl) : PE X (.Call (.Name "sorted" p) [.Call (.Name "set" p2) [a] [] q] [] pos) (tSortSet X.K ta) := by
  refine ⟨fun pins s σ H Q I h => ?_⟩
  refine Call_ (ld_blt I hg hm (show bootBuiltins "sorted" = some (.builtin "sorted") by decide +kernel) (PyProof.Rows.callWith_builtin1 (PyProof.Rows.args_cons ?_ rfl) rfl rfl))
  refine Call_ (ld_blt I hg2 hm2 boot_set (PyProof.Rows.callWith_type1 (PyProof.Rows.args_cons (thn (ha.run pins s σ H _ I h) fun v s1 ⟨x, H1, I1, r1, q1⟩ => PyProof.Rows.args_nil ?_) na) na rfl))
  obtain ⟨l, xs, rfl, hq, h64, q1⟩ := q1
  cases r1
  obtain ⟨its, r, pl, hz⟩ := I1.list hq
  have hl : its.toArray.size = xs.length := by rw [List.size_toArray, ← r.length, List.length_map]
  have hsb : 64 < scanBound := by unfold scanBound; omega
  refine tset_of_list (I1.ok.hd hc) pl.isList (by simpa using strsAre_of r) (by omega) fun h' tk hS hk => PyProof.Rows.args_nil ?_
  rw [hl] at hS
  have hle := metS_le xs xs.length (Nat.le_refl _)
  have I2 : Inv X pins σ H1 { s1 with heap := h', toks := tk } := I1.kept hk
  refine sorted_tset hS (I2.ok.hd hc) (by omega) fun s' pp out c k1 g1 o1 hz1 hat hst => ?_
  have hlen : ((srtS (metS xs xs.length)).map V.str).length ≤ sizeLine := by
    rw [List.length_map, (srtS_perm _).length_eq]
    have := line1000
    omega
  have hn : H1 pp = none := I2.hok.fresh hz1
  have J : Inv X pins σ (upd H1 pp (.lst ((srtS (metS xs xs.length)).map V.str))) { ({ s1 with heap := h', toks := tk } : Shared) with heap := s'.heap, gens := s'.gens, drawn := s'.drawn, toks := s'.toks } :=
    I2.call (ch := []) (Un.laid k1 hz1 hn) (I2.hok.laid k1 hz1 ⟨hlen, out.toList, c, vals_of_strs hst, hat⟩) (by rw [g1]; exact I2.bare) (fun _ z => nomatch z)
  have e : s' = { s1 with heap := s'.heap, gens := s'.gens, drawn := s'.drawn, toks := s'.toks } := by
    cases s'
    cases s1
    cases o1
    rfl
  rw [e]
  exact ⟨.ref pp, _, J, rfl, q1 pp hn⟩
theorem ef_sortSet {a : Expr} {P : List D → Prop} {p p2 q pos : Pos} (hm : X.mg "sorted" = none) (hm2 : X.mg "set" = none) (h : Ev X C Γ a fun d => ∃ xs : List Str, d = .lst (xs.map D.str) ∧ xs.length < 64 ∧ P ((srtS (metS xs xs.length)).map D.str))
    (hg : Gl X "sorted" := by rfl) (hg2 : Gl X "set" := by rfl) (hc : X.calm = true := by rfl) (na : starEach [a] X.env = (false, eval a X.env) :: starEach [] X.env := by rfl) :
    EvF X C Γ (.Call (.Name "sorted" p) [.Call (.Name "set" p2) [a] [] q] [] pos) P := fun σ H g Q qq =>
  we_of (pe_sortSet hc hg hm hg2 hm2 pe_we na) (h σ H g _ fun v d H1 s1 r1 ⟨xs, ed, h64, p⟩ => by
    subst ed
    cases r1 with
    | lst hq r =>
      rw [dds_strs r] at hq
      exact ⟨_, xs, rfl, sub_sqL hq, h64, fun l hl => qq l _ _ _ (nil_back s1 hl) (fst_new s1 hl) upd_same (strs_dds _) p⟩)
/-- own lists with any content, at data level: the same -/
theorem ef_sortSetO {l : Addr} {CF : List D → SJ} {a : List D} (F : FamL X.K l CF) {o : Expr} {P : List D → Prop} {p p2 q pos : Pos} (hm : X.mg "sorted" = none) (hm2 : X.mg "set" = none) (h : Ev X (CF a) Γ o fun d => ∃ xs : List Str, d = .adr l ∧ a = xs.map D.str ∧ xs.length < 64 ∧ P ((srtS (metS xs xs.length)).map D.str))
    (hg : Gl X "sorted" := by rfl) (hg2 : Gl X "set" := by rfl) (hc : X.calm = true := by rfl) (na : starEach [o] X.env = (false, eval o X.env) :: starEach [] X.env := by rfl) :
    EvF X (CF a) Γ (.Call (.Name "sorted" p) [.Call (.Name "set" p2) [o] [] q] [] pos) P := fun σ H g Q qq =>
  we_of (pe_sortSet hc hg hm hg2 hm2 pe_we na) (h σ H g _ fun v d H1 s1 r1 ⟨xs, ed, ea, h64, p⟩ => by
    subst ed
    cases r1
    obtain ⟨ys, hy, ry⟩ := F.get a _ _ s1.j
    rw [ea] at ry
    rw [dds_strs ry] at hy
    exact ⟨_, xs, rfl, .of hy, h64, fun l hl => qq l _ _ _ (nil_back s1 hl) (fst_new s1 hl) upd_same (strs_dds _) p⟩)
/-! ### expressions that change the context, two at once -/
theorem ex_ofF {e : Expr} {P : SJ → D → Prop} (h : EvF X C Γ e fun ds => ∀ p, P (own X.K C [p] [ds]) (.adr p)) : EvX X C Γ e P := fun σ H g Q q => h σ H g _ fun p xs ds H1 hp s1 hl1 r1 pp => by
  have hm : p ∉ C.M := fun m => g.trk p m hp
  have trk : Trk (p :: C.M) H1 := fun a ha => by
    rcases List.mem_cons.mp ha with z | z
    · subst z; rw [hl1]; exact fun z => by cases z
    · exact s1.trk a z
  have jj : (own X.K C [p] [ds]).J (cut (p :: C.M) H1) H1 := ⟨s1.j, ⟨List.nodup_cons.mpr ⟨List.not_mem_nil, List.nodup_nil⟩, fun q hq m => by
    rw [List.mem_singleton] at hq
    subst hq
    exact hm m⟩, fun k q a hq ha => by
    cases k with
    | zero =>
      cases hq
      cases ha
      exact ⟨xs, hl1, r1⟩
    | succ k => cases hq⟩
  exact q _ _ (own X.K C [p] [ds]) H1 s1.same ⟨g.len, trk, jj, g.bnd.mono s1.same⟩ (.adr p) (pp p)
theorem ex_tup2 {a c : Expr} {k : Nat} {pos : Pos} {P : SJ → D → Prop} (h : Ev X C Γ a fun d => EvX X C Γ c fun C' e => P C' (.tup [d, e]))
    (h1 : starEach [a, c] X.env = (false, eval a X.env) :: starEach [c] X.env := by rfl) (h2 : starEach [c] X.env = (false, eval c X.env) :: starEach [] X.env := by rfl) : EvX X C Γ (.Tuple [a, c] k pos) P := fun σ H g Q q =>
  we_of (pe_tup (pa_cons pe_we (pa_cons pe_we pa_nil h2) h1)) (h σ H g _ fun v d H1 s1 r1 hc => hc σ H1 (g.step s1) _ fun u e C' H2 s2 g2 r2 p => ⟨by show 2 ≤ sizeLine; have := line1000; omega, fun l hl => by
    have s3 := g2.new (o := .tup [v, u]) hl
    exact q _ _ C' _ ((s1.same.trans s2).trans s3.same) (g2.step s3) (.tup (.of (cut_new g2.trk hl)) (DDs.mono s3.same (.cons (r1.mono s2) (.cons r2 .nil)))) p⟩)
/-- a, b = e1, e2 (plain local names), the second changes the context -/
theorem bl_parX (i j : Nat) {x y : Str} {a c : Expr} {px py pt pos : Pos} {kt k2 pt2} (h : Ev X C Γ a fun d => EvX X C Γ c fun C' e => Bl X C' ((Γ.set i (some d)).set j (some e)) rest O)
    (hp : PS X (.Assign [.Tuple [.Name x px, .Name y py] kt pt] (.Tuple [a, c] k2 pt2) pos) (tPar i j (WA X [a, c])))
    (h1 : starEach [a, c] X.env = (false, eval a X.env) :: starEach [c] X.env := by rfl) (h2 : starEach [c] X.env = (false, eval c X.env) :: starEach [] X.env := by rfl) : Bl X C Γ (.Assign [.Tuple [.Name x px, .Name y py] kt pt] (.Tuple [a, c] k2 pt2) pos :: rest) O := bl_seq fun σ H g E b =>
  ws_of hp (wa_of (pa_cons pe_we (pa_cons pe_we pa_nil h2) h1) (h σ H g _ fun v d H1 s1 r1 hc => hc σ H1 (g.step s1) _ fun u e C' H2 s2 g2 r2 p =>
    ⟨v, u, rfl, b.nx C' _ H2 _ (s1.same.trans s2) ((g2.set (r1.mono s2)).set r2) p⟩))
theorem bl_asgTX (is : List Nat) {es : List Expr} {k : Nat} {n : Nat} {e : Expr} {pt pos : Pos} (h : EvX X C Γ e fun C' d => ∃ ds, d = .tup ds ∧ ds.length = is.length ∧ Bl X C' (sets Γ is ds) rest O) (hg : PG X (.Tuple es k pt) (gTup X.K n (gNames is))) (hn : n = is.length := by rfl)
    (hs : swapsWithSole [.Tuple es k pt] e pos.line X.env = pure false := by rfl) (hw : swappedStores [.Tuple es k pt] e X.env = pure none := by rfl) : Bl X C Γ (.Assign [.Tuple es k pt] e pos :: rest) O := bl_seq fun σ H g E b =>
  ws_of (ps_asg pe_we hg hs hw) (h σ H g _ fun v d C' H1 s1 g1 r1 ⟨ds, ed, hl, p⟩ => by
    subst ed
    cases r1 with
    | tup ht r =>
      exact ⟨_, _, rfl, sub_sqT ht, by rw [r.len, hl, hn], gNames_ok g1 r hl fun σ' g' => b.nx C' σ' H1 _ s1 g' p⟩)
end
/-! ### a new dict handed to the caller -/
def spX (K : PySem.W.Frag) (n : Nat) (R : SJ → List D → Prop) (G : List D → (List (Key × D) → Prop) → Prop) : Sp := fun vs H Q _ =>
  ∃ (C : SJ) (ds : List D) (P : List (Key × D) → Prop), ds.length = n ∧ R C ds ∧ Trk C.M H ∧ C.J (cut C.M H) H ∧ DDs K (cut C.M H) vs ds ∧ G ds P ∧
    ∀ q kvs H', Same (cut C.M H) (cut (ownD K C q kvs).M H') → Trk (ownD K C q kvs).M H' → (ownD K C q kvs).J (cut (ownD K C q kvs).M H') H' → P kvs → Q (.ref q) H'
section
variable {P : Program} {w : World} {K : PySem.W.Frag} {mg : Str → Option Value} {base : Heap} {x qual : Str} {params : Arguments} {body : List Stmt} {scope : Scope} {dvs : List V} {kws : List (Str × V)} {f : Addr} {fd : FuncData}
theorem defX {N ps : List Str} {k n : Nat} {R : SJ → List D → Prop} {G : List D → (List (Key × D) → Prop) → Prop} (F : FunD K x qual params body scope dvs kws f fd) (S : FnScope N ps scope) (hn : ps.length = n)
    (hb : ∀ (cdv : Value) (A : Around) (outer : List Env) (s : Shared) (H : Hp) (E : XK) (C : SJ) (ds : List D) (T : List (Key × D) → Prop), Room k (A.deeper (envOfC qual scope s.heap.objs.size f cdv)) → ds.length = n → R C ds → G ds T →
      Bl (cxOf CX0 P w K mg base N qual scope f cdv A outer s H E).nox C (start0 N ds) body { C0 := C, N := fun _ _ => False, R := fun _ => False, RX := fun C' d => ∃ q kvs, C' = ownD K C q kvs ∧ d = .adr q ∧ T kvs }) : FnOk P w K mg base CX0 (k + 1) f fd ps (spX K n R G) := by
  refine F.ok S (fun vs H Q E ⟨C, ds, T, h1, _, _, _, r, _⟩ => by rw [r.len, h1, hn]) ?_
  intro cdv A outer s H vs Q E hr ⟨C, ds, T, h1, hR, t, j, r, g, q⟩
  have b := hb cdv A outer s H E C ds T hr h1 hR g
  refine ⟨_, PSs.nox (X := cxOf CX0 P w K mg base N qual scope f cdv A outer s H E) pss_wb, ?_⟩
  exact b (L2.start N vs) H (good0 t j r) { nx := fun _ H' => Q .non H', rt := Q } ⟨fun _ _ _ _ _ _ z => z.elim, fun _ _ _ _ _ _ _ z => z.elim, fun _ _ _ _ _ _ z => z.elim, fun _ _ _ _ _ _ z => z.elim, fun _ _ _ _ _ _ _ _ _ _ z => z.elim, fun v d C' H' e t' j' r' ⟨a, kvs, ec, ed, p⟩ => by
    subst ec ed
    cases r'
    exact q a kvs H' e t' j' p⟩
end
structure MethX (P : Program) (w : World) (K : PySem.W.Frag) (mg : Str → Option Value) (base : Heap) (Cl : Addr) (m : Str) (k n : Nat) (R : SJ → List D → Prop) (G : List D → (List (Key × D) → Prop) → Prop) : Prop where
  ex : ∃ (f : Addr) (fd : FuncData) (ps : List Str), FnOk P w K mg base CX0 k f fd ps (spX K n R G) ∧ Cls K Cl ∧ Meth K Cl m f ∧ Binds K fd ps []
section
variable {X : Cx} {C : SJ} {Γ : En} {O : Out} {rest : List Stmt} {Cl : Addr} {m : Str} {k n : Nat} {R : SJ → List D → Prop} {G : List D → (List (Key × D) → Prop) → Prop} {o e : Expr} {es : List Expr} {apos cpos pos : Pos}
theorem ex_methX {pl : Sem Bool} {P : SJ → D → Prop} (F : MethX X.prog X.w X.K X.mg X.base Cl m k n R G) (hr : Room k X.A)
    (h : Ev X C Γ o fun d => ∃ gs, d = .obj Cl gs ∧ gs.lookup m = none ∧ EvA X C Γ (e :: es) fun ds => ds.length + 1 = n ∧ R C (d :: ds) ∧ G (d :: ds) fun kvs => ∀ q, P (ownD X.K C q kvs) (.adr q))
    (hst : starEach (e :: es) X.env = (false, eval e X.env) :: starEach es X.env := by rfl) (hpl : (backTo pos (starEach es X.env)).any (·.1) = false := by rfl)
    (ht : eval (.Call (.Attribute o m apos) (e :: es) [] pos) X.env = (do
      let ov ← eval o X.env
      standAt apos.atName
      let (f, first) ← holding [ov] (getMethod ov m pl)
      callWith pos f first (backTo pos (starEach (e :: es) X.env)) (backToKw pos (keywordEach [] X.env))) := by rfl) : EvX X C Γ (.Call (.Attribute o m apos) (e :: es) [] pos) P := fun σ H g Q q => by
  obtain ⟨fa, fd, ps, F, hc, hm, hb⟩ := F.ex
  refine we_of (pe_meth (pl := pl) pe_we hc hm F hr hb .nil L2.pass0 pa_wa hst hpl ht) (h σ H g _ fun v d H1 s1 r1 ⟨gs, ed, hl, h2⟩ => ?_)
  subst ed
  cases r1 with
  | obj hi hf =>
    refine ⟨_, _, _, rfl, cut_sub _ _ _ _ hi, hf.non hl, h2 σ H1 (g.step s1) _ fun vs ds H2 s2 r2 ⟨hn, hR, hG⟩ => ?_⟩
    rw [List.append_nil]
    refine ⟨C, .obj Cl gs :: ds, _, hn, hR, s2.trk, s2.j, .cons (DD.mono s2.same (.obj hi hf)) r2, hG, fun a kvs H3 e3 t3 j3 p => ?_⟩
    have e13 := (s1.trans s2).same.trans e3
    exact q (.ref a) (.adr a) (ownD X.K C a kvs) H3 e13 ⟨g.len, t3, j3, g.bnd.mono e13⟩ (.adr a) (p a)
/-- the new dict as data -/
theorem ev_ofX {e : Expr} {P : D → Prop} (h : EvX X C Γ e fun C' d => ∃ q kvs, C' = ownD X.K C q kvs ∧ d = .adr q ∧ P (.dct kvs)) : Ev X C Γ e P := fun σ H g Q qq =>
  h σ H g Q fun v d C' H1 e1 g1 r1 ⟨q, kvs, ec, ed, p⟩ => by
    subst ec ed
    cases r1
    obtain ⟨j1, hq, ws, hw, rk⟩ := g1.j
    have up : Same (cut (q :: C.M) H1) (cut C.M H1) := cut_less fun _ z => List.mem_cons_of_mem _ z
    exact qq _ _ H1 ⟨e1.trans up, fun a ha => g1.trk a (List.mem_cons_of_mem _ ha), C.st _ _ _ _ j1 up fun _ _ => rfl⟩ (.dct (by unfold cut; rw [if_neg hq]; exact hw) (rk.mono up)) p
/-! ### list(d.items()), d.pop(k), isinstance(d, dict) -/
def itemsD (kvs : List (Key × D)) : List D := kvs.map fun p => .tup [keyD p.1, p.2]
theorem keyD_dd {K : PySem.W.Frag} {S : Hp} : ∀ k : Key, DD K S (kV k) (keyD k)
  | .inl i => .int i
  | .inr x => .str x
theorem items_dds {K : PySem.W.Frag} {H' : Hp} {M : List Addr} : ∀ {ts : List Addr} {ws : List (Key × V)} {kvs : List (Key × D)}, Paired (fun (t : Addr) (q : Key × V) => H' t = some (.tup [kV q.1, q.2])) ts ws → (∀ t ∈ ts, t ∉ M) → DDk K (cut M H') ws kvs → DDs K (cut M H') (ts.map V.ref) (itemsD kvs)
  | _, [], [], .nil, _, .nil => .nil
  | _ :: _, (k, v) :: ws, (k', d) :: kvs, .cons h r, hm, rk => by
    cases rk with
    | cons hv rk =>
      refine .cons (.tup (.of ?_) (.cons (keyD_dd k) (.cons hv .nil))) (items_dds r (fun t ht => hm t (List.mem_cons_of_mem _ ht)) rk)
      unfold cut
      rw [if_neg (hm _ List.mem_cons_self)]
      exact h
theorem items_core {σ : L2.St} {H1 : Hp} (g : Good C X.K σ H1 Γ) {d : Addr} {ws : List (Key × V)} {kvs : List (Key × D)} (hd : H1 d = some (.dK ws)) (rk : DDk X.K (cut C.M H1) ws kvs) {Q : VK}
    (q : ∀ p xs ds H', H1 p = none → FStep C p H1 H' → H' p = some (.lst xs) → DDs X.K (cut (p :: C.M) H') xs ds → ds = itemsD kvs → Q (.ref p) H') : LiI.rItemsL (.ref d) H1 Q := by
  refine ⟨d, ws, rfl, hd, fun H' p ts k hp ht hpt hl pr => ?_⟩
  have hm : p ∉ C.M := fun m => g.trk p m hp
  have sm : Same (cut C.M H1) (cut (p :: C.M) H') := fun a u e => by
    unfold cut at e ⊢
    split at e
    · cases e
    · rename_i hn
      have hne : a ≠ p := fun z => by rw [z, hp] at e; cases e
      rw [if_neg (by rw [List.mem_cons]; exact fun z => z.elim hne hn)]
      exact k a u e
  refine q p _ _ H' hp ⟨sm, fun a ha => ?_, C.st _ _ _ _ g.j sm fun a ha => ?_⟩ hl (items_dds pr (fun t htm z => ?_) (rk.mono sm)) rfl
  · cases e : H1 a with
    | none => exact absurd e (g.trk a ha)
    | some u => rw [k a u e]; exact fun z => by cases z
  · cases e : H1 a with
    | none => exact absurd e (g.trk a ha)
    | some u => exact k a u e
  · rcases List.mem_cons.mp z with z | z
    · exact hpt (z ▸ htm)
    · exact g.trk t z (ht t htm)
theorem ef_items {P : List D → Prop} {p : Pos} (hm : X.mg "list" = none) (h : Ev X C Γ o fun d => ∃ kvs, d = .dct kvs ∧ P (itemsD kvs)) (hg : Gl X "list" := by rfl) (hc : X.calm = true := by rfl) (hbase : attributeBase o "items" X.env (eval o X.env) = eval o X.env := by rfl) (hline : (apos.endLine == cpos.line) = true := by rfl)
    (hs : starEach [.Call (.Attribute o "items" apos) [] [] cpos] X.env = (false, eval (.Call (.Attribute o "items" apos) [] [] cpos) X.env) :: starEach [] X.env := by rfl) :
    EvF X C Γ (.Call (.Name "list" p) [.Call (.Attribute o "items" apos) [] [] cpos] [] pos) P := fun σ H g Q q =>
  we_of (LiI.pe_listItems hc pe_we hg hm (by decide +kernel) hbase hline hs) (h σ H g _ fun v d H1 s1 r1 ⟨kvs, ed, pp⟩ => by
    subst ed
    cases r1 with
    | dct hd rk =>
      exact items_core (g.step s1) (cut_sub _ _ _ _ hd) rk fun p xs ds H2 hp s2 hl r2 e => q p xs ds H2 (nil_back s1 hp) ⟨s1.same.trans s2.same, s2.trk, s2.j⟩ hl r2 (e ▸ pp))
theorem ef_itemsO {P : List D → Prop} {p : Pos} {qa : Addr} {DF : List (Key × D) → SJ} {kvs : List (Key × D)} (F : FamD X.K qa DF) (hm : X.mg "list" = none) (h : Ev X (DF kvs) Γ o fun d => d = .adr qa ∧ P (itemsD kvs)) (hg : Gl X "list" := by rfl) (hc : X.calm = true := by rfl) (hbase : attributeBase o "items" X.env (eval o X.env) = eval o X.env := by rfl) (hline : (apos.endLine == cpos.line) = true := by rfl)
    (hs : starEach [.Call (.Attribute o "items" apos) [] [] cpos] X.env = (false, eval (.Call (.Attribute o "items" apos) [] [] cpos) X.env) :: starEach [] X.env := by rfl) :
    EvF X (DF kvs) Γ (.Call (.Name "list" p) [.Call (.Attribute o "items" apos) [] [] cpos] [] pos) P := fun σ H g Q q =>
  we_of (LiI.pe_listItems hc pe_we hg hm (by decide +kernel) hbase hline hs) (h σ H g _ fun v d H1 s1 r1 ⟨ed, pp⟩ => by
    subst ed
    cases r1
    obtain ⟨ws, hd, rk⟩ := F.get kvs _ _ s1.j
    exact items_core (g.step s1) hd rk fun p xs ds H2 hp s2 hl r2 e => q p xs ds H2 (nil_back s1 hp) ⟨s1.same.trans s2.same, s2.trk, s2.j⟩ hl r2 (e ▸ pp))
theorem DDk.drop {K : PySem.W.Frag} {S : Hp} {k : Key} : ∀ {ws : List (Key × V)} {kvs : List (Key × D)}, DDk K S ws kvs → DDk K S (dropK ws k) (kvs.filter fun kv => decide (kv.1 ≠ k))
  | _, _, .nil => .nil
  | _, _, .cons (k := k') h r => by
    unfold dropK
    rw [List.filter_cons, List.filter_cons]
    by_cases z : k' = k
    · rw [if_neg (by simp [z]), if_neg (by simp [z])]
      exact DDk.drop r
    · rw [if_pos (by simp [z]), if_pos (by simp [z])]
      exact .cons h (DDk.drop r)
/-- o.pop(k), a key that is there, of one's own dict -/
theorem bl_dpop {qa : Addr} {DF : List (Key × D) → SJ} {kvs : List (Key × D)} (F : FamD X.K qa DF)
    (h : Ev X (DF kvs) Γ o fun d => d = .adr qa ∧ Ev X (DF kvs) Γ e fun kd => ∃ k v, kd = keyD k ∧ valD kvs k = some v ∧ Bl X (DF (kvs.filter fun kv => decide (kv.1 ≠ k))) Γ rest O)
    (m : M1 X o "pop" apos e cpos := by exact ⟨rfl, rfl, rfl, rfl⟩) (hs : swapsWith (.Call (.Attribute o "pop" apos) [e] [] cpos) none pos.line X.env = pure false := by rfl) :
    Bl X (DF kvs) Γ (.Expr (.Call (.Attribute o "pop" apos) [e] [] cpos) pos :: rest) O := bl_seq fun σ H g E b =>
  ws_of (ps_expr (pe_dpop1 pe_we pe_we m) hs) (h σ H g _ fun v d H1 s1 r1 ⟨ed, he⟩ => by
    subst ed
    cases r1
    obtain ⟨w0, h0, _⟩ := F.get kvs _ _ s1.j
    refine ⟨qa, rfl, .inl ⟨w0, .inl h0⟩, he σ H1 (g.step s1) _ fun u kd H2 s2 r2 ⟨k, y, ek, hv, bl⟩ => ?_⟩
    subst ek
    have eu := key_of r2
    subst eu
    have g2 := g.step (s1.trans s2)
    obtain ⟨ws, hq, rk⟩ := F.get kvs _ _ g2.j
    obtain ⟨w, hw, _⟩ := rk.val hv
    obtain ⟨g3, s3⟩ := F.good g2 (rk.drop (k := k))
    exact ⟨ws, k, w, hq, rfl, hw, b.nx _ σ _ Γ ((s1.trans s2).same.trans s3) g3 bl⟩)
theorem ev_isiO {P : D → Prop} {p : Pos} {a c : Expr} {qa : Addr} {DF : List (Key × D) → SJ} {kvs : List (Key × D)} (F : FamD X.K qa DF) (hm : X.mg "isinstance" = none) (h : EvA X (DF kvs) Γ [a, c] fun ds => ds = [.adr qa, .ty "dict"] ∧ P (.bl true)) (hg : Gl X "isinstance" := by rfl) (he : starEach [a, c] X.env = (false, eval a X.env) :: starEach [c] X.env := by rfl)
    (hpl : (backTo pos (starEach [c] X.env)).any (·.1) = false := by rfl) : Ev X (DF kvs) Γ (.Call (.Name "isinstance" p) [a, c] [] pos) P := fun σ H g Q q =>
  we_of (pe_callB call_isi hg hm (by decide +kernel) pa_wa (by decide) (by decide) he hpl) (h σ H g _ fun vs ds H1 s1 r1 ⟨ed, pp⟩ => by
    subst ed
    cases r1 with
    | cons h1 r =>
      cases r with
      | cons h2 r =>
        cases r
        cases h1
        cases h2
        obtain ⟨ws, hq, _⟩ := F.get kvs _ _ s1.j
        exact ⟨_, _, _, _, true, rfl, .ty _, .base (.dK hq), kit_ty (by decide +kernel), q _ _ H1 s1 (.bl _) pp⟩)
end
/-! ### data fit to be shown, by weight -/
structure FitW (b n : Nat) (d : D) : Prop where
  plain : plainD d = true
  ink : inkD d = true
  wt : wtD d ≤ b
  showable : (toPy d).showable = true
  deep : (toPy d).depth ≤ n
structure FitsW (b n : Nat) (ds : List D) : Prop where
  plain : plainDs ds = true
  ink : inkDs ds = true
  wt : wtDs ds ≤ ds.length * (b + 2)
  showable : PyData.showableAll (toPys ds) = true
  deep : PyData.depthAll (toPys ds) ≤ n
theorem fitsW_of {b n : Nat} : ∀ {ds : List D}, (∀ e ∈ ds, FitW b n e) → FitsW b n ds
  | [], _ => ⟨by simp [plainDs], by simp [inkDs], by simp [wtDs], by simp [toPys, PyData.showableAll], by simp [toPys, PyData.depthAll]⟩
  | d :: ds, h => by
    have a := h d List.mem_cons_self
    have b := fitsW_of fun e he => h e (List.mem_cons_of_mem _ he)
    refine ⟨by simp [plainDs, a.plain, b.plain], by simp [inkDs, a.ink, b.ink], ?_, by simp [toPys, PyData.showableAll, a.showable, b.showable], ?_⟩
    · have h1 := a.wt
      have h2 := b.wt
      simp only [wtDs, List.length_cons, Nat.add_mul, Nat.one_mul]
      omega
    · have h1 := a.deep
      have h2 := b.deep
      simp only [toPys, PyData.depthAll]
      omega
theorem okD.fitW {n : Nat} {d : D} (h : okD n d) : FitW (bnd n) n d := ⟨h.fit.plain, h.fit.ink, h.fit.wt, h.fit.showable, h.fit.deep⟩
theorem FitW.up {b b' n n' : Nat} {d : D} (h : FitW b n d) (hb : b ≤ b') (hn : n ≤ n') : FitW b' n' d := ⟨h.plain, h.ink, Nat.le_trans h.wt hb, h.showable, Nat.le_trans h.deep hn⟩
theorem FitW.tup {b n k : Nat} {ds : List D} (hl : ds.length ≤ k) (h : ∀ e ∈ ds, FitW b n e) : FitW (k * (b + 2) + 2) (n + 1) (.tup ds) := by
  have f := fitsW_of h
  have h1 := f.wt
  have h2 : ds.length * (b + 2) ≤ k * (b + 2) := Nat.mul_le_mul_right _ hl
  have h3 := f.deep
  exact ⟨by simp only [plainD]; exact f.plain, by simp only [inkD]; exact f.ink, by simp only [wtD]; omega, by simp only [toPy, PyData.showable]; exact f.showable, by simp only [toPy, PyData.depth]; omega⟩
theorem FitW.lst {b n k : Nat} {ds : List D} (hl : ds.length ≤ k) (h : ∀ e ∈ ds, FitW b n e) : FitW (k * (b + 2) + 2) (n + 1) (.lst ds) := by
  have f := fitsW_of h
  have h1 := f.wt
  have h2 : ds.length * (b + 2) ≤ k * (b + 2) := Nat.mul_le_mul_right _ hl
  have h3 := f.deep
  exact ⟨by simp only [plainD]; exact f.plain, by simp only [inkD]; exact f.ink, by simp only [wtD]; omega, by simp only [toPy, PyData.showable]; exact f.showable, by simp only [toPy, PyData.depth]; omega⟩
theorem FitW.shw {b n : Nat} {d : D} (f : FitW b n d) (hb : b ≤ sizeLine) (hn : n ≤ 60) : Shw d := by
  refine ⟨.inl f.plain, f.showable, ?_, by have := f.deep; omega⟩
  have h1 := sh_len d f.plain f.ink
  have h2 := f.wt
  omega
end GG
set_option maxHeartbeats 0
namespace K05
open PySem PySem.Spec PyProof.Rows L2
def top (i : Nat) : Stmt := PySem.Challenge.pw_forwardcalls_k05_arguments_bound.main.body.getD i (.Pass ⟨0, 0, 0, 0⟩)
def clsB : Stmt → List Stmt
  | .ClassDef (body := b) .. => b
  | _ => []
def mem (i j : Nat) : Stmt := (clsB (top i)).getD j (.Pass ⟨0, 0, 0, 0⟩)
def kwAt (c m x : Str) (K : PySem.W.Frag) : Addr := match K.lookup (He.fAd K (c, some m)) with
  | some ⟨_, _, .func fd, _⟩ => (match fd.kwdefaults with
    | .ref D => (match PySem.W.nsIn K D x with
      | some (some (.ref a)) => a
      | _ => 0)
    | _ => 0)
  | _ => 0
def mkD (x : Str) (i : Nat) : He.DefD := ⟨(x, none), x, x, defArgs (top i), defBody (top i), defScope (top i), [], []⟩
def mkM (c m : Str) (i j : Nat) : He.DefD := ⟨(c, some m), m, c ++ "." ++ m, defArgs (mem i j), defBody (mem i j), defScope (mem i j), [], []⟩
def fn : List He.DefD := [mkD "_wall" 0, mkD "parameters_text" 6, mkD "marked" 7, mkD "is_name" 12, mkD "are_names" 13, mkD "_law_bag" 16, mkD "_law_take" 17, mkD "_law_pool" 18, mkD "_law_picked" 19, mkD "_law_list" 20, mkD "_law_made" 21, mkD "_law_some_names" 22, mkD "_law_refusal" 23, mkD "_law_due" 24, mkD "_law_fitting" 25, mkD "_law_is_right" 26, mkD "law" 27, { mkM "Params" "__init__" 14 0 with kwd := [("only", .adr (kwAt "Params" "__init__" "only")), ("plain", .adr (kwAt "Params" "__init__" "plain")), ("rest", .non), ("named", .adr (kwAt "Params" "__init__" "named")), ("more", .non), ("defaults", .adr (kwAt "Params" "__init__" "defaults"))] }, mkM "Params" "parts" 14 8, mkM "Params" "__eq__" 14 9, mkM "Params" "__len__" 14 10, mkM "Params" "__str__" 14 11, mkM "Params" "__repr__" 14 12, mkM "Params" "extra" 14 13, mkM "Params" "refusal" 14 14, mkM "Params" "counts" 14 15, mkM "Params" "bind" 14 16, mkM "Params" "by_name" 14 17]
def pr : List GG.PrD := [⟨"Params", "only", mkM "Params" "only" 14 1⟩, ⟨"Params", "plain", mkM "Params" "plain" 14 2⟩, ⟨"Params", "rest", mkM "Params" "rest" 14 3⟩, ⟨"Params", "named", mkM "Params" "named" 14 4⟩, ⟨"Params", "more", mkM "Params" "more" 14 5⟩, ⟨"Params", "defaults", mkM "Params" "defaults" 14 6⟩, ⟨"Params", "positional", mkM "Params" "positional" 14 7⟩]
def fr : List Str := ["abs", "all", "any", "dict", "enumerate", "isinstance", "len", "list", "max", "min", "property", "range", "repr", "set", "sorted", "str", "tuple"]
def fb : List He.Fa := [.glo "_wall", .glo "parameters_text", .glo "marked", .glo "is_name", .glo "are_names", .glo "_law_bag", .glo "_law_take", .glo "_law_pool", .glo "_law_picked", .glo "_law_list", .glo "_law_made", .glo "_law_some_names", .glo "_law_refusal", .glo "_law_due", .glo "_law_fitting", .glo "_law_is_right", .glo "law", .glo "Params", .cls "Params", .noat "Params" "default_names", .noat "Params" "more_name", .noat "Params" "named_names", .noat "Params" "only_names", .noat "Params" "plain_names", .noat "Params" "rest_name", .mkr "Params", .meth "Params" "parts", .meth "Params" "__eq__", .meth "Params" "__len__", .meth "Params" "__str__", .meth "Params" "__repr__", .meth "Params" "extra", .meth "Params" "refusal", .meth "Params" "counts", .meth "Params" "bind", .meth "Params" "by_name"]
def fc : List He.Fa := [.str "ITEM_GAP" ", ", .str "LETTERS" "abcdefghijklmnopqrstuvwxyz", .int "MOST_LETTERS" (6), .int "MOST_PARAMETERS" (8)]
def fa : List He.Fa := fr.map .free ++ (fb ++ fc)
abbrev R : PySem.W.OpenRow := PySem.W.OpenLaw.row PySem.Challenge.rw_forwardcalls_k05_arguments_bound
abbrev hk : PySem.W.Hook := GG.hookP 6 fa fn pr
def ob (s : PySem.W.SharedT) : GG.AlP := GG.obsPG 6 fa fn pr (HandSHeadRun.getT s)
theorem ob_eq (s : PySem.W.SharedT) : ob s = hk.obs s.abs := GG.obsPG_eq (HandSHeadRun.getT_eq s)
def others : List Str := ["_wall", "NoParams", "Refused", "ITEM_GAP", "parameters_text", "marked", "LETTERS", "MOST_LETTERS", "MOST_PARAMETERS", "is_name", "are_names", "Params", "_law_bag", "_law_take", "_law_pool", "_law_picked", "_law_list", "_law_made", "_law_some_names", "_law_refusal", "_law_due", "_law_fitting", "_law_is_right"]
theorem run (w : World) : HandSHeadRun.RunEq R (PySem.W.view R.prog [27]) hk ob 4000 others w := by
  intro os
  kernel_rfl
end K05
set_option maxHeartbeats 4000000
local macro_rules | `(tactic| infer_instance) => `(tactic| first
  | ((with_reducible refine GG.is_bl ?_); first
    | ((with_reducible refine GG.is_ret ?_); refine GG.bl_ret (by first | exact GG.Ext.rfl | assumption | exact GG.ext_own | exact GG.ext_bag | exact GG.Ext.own (by assumption) | exact GG.Ext.bag (by assumption)) ?_)
    | (with_reducible refine GG.bl_nil ?_) | (with_reducible refine GG.bl_if ?_)
    | ((with_reducible refine GG.is_asg1 ?_); first
        | refine GG.bl_asg 0 ?_ (by assumption) | refine GG.bl_asg 1 ?_ (by assumption) | refine GG.bl_asg 2 ?_ (by assumption) | refine GG.bl_asg 3 ?_ (by assumption)
        | refine GG.bl_asg 4 ?_ (by assumption) | refine GG.bl_asg 5 ?_ (by assumption) | refine GG.bl_asg 6 ?_ (by assumption) | refine GG.bl_asg 7 ?_ (by assumption) | refine GG.bl_asg 8 ?_ (by assumption))
    | (with_reducible refine GG.bl_pass ?_) | (with_reducible refine GG.bl_break ?_) | (with_reducible refine GG.bl_cont ?_))
  | ((with_reducible refine GG.is_ev ?_); first
    | ((with_reducible refine GG.is_name ?_); first
        | refine GG.ev_var 0 rfl ?_ | refine GG.ev_var 1 rfl ?_ | refine GG.ev_var 2 rfl ?_ | refine GG.ev_var 3 rfl ?_ | refine GG.ev_var 4 rfl ?_ | refine GG.ev_var 5 rfl ?_ | refine GG.ev_var 6 rfl ?_
        | refine GG.ev_var 7 rfl ?_ | refine GG.ev_var 8 rfl ?_ | refine GG.ev_gint (by assumption) ?_ | refine GG.ev_gstr (by assumption) ?_ | ((with_reducible refine GG.is_nm (y := "int") ?_); refine GG.n_int (GG.free_of (by assumption) (by decide +kernel)) ?_) | ((with_reducible refine GG.is_nm (y := "bool") ?_); refine GG.n_bool (GG.free_of (by assumption) (by decide +kernel)) ?_) | ((with_reducible refine GG.is_nm (y := "str") ?_); refine GG.n_str (GG.free_of (by assumption) (by decide +kernel)) ?_) | ((with_reducible refine GG.is_nm (y := "tuple") ?_); refine GG.n_tuple (GG.free_of (by assumption) (by decide +kernel)) ?_) | ((with_reducible refine GG.is_nm (y := "list") ?_); refine GG.n_list (GG.free_of (by assumption) (by decide +kernel)) ?_) | ((with_reducible refine GG.is_nm (y := "dict") ?_); refine GG.n_dict (GG.free_of (by assumption) (by decide +kernel)) ?_))
    | (with_reducible refine GG.ev_int ?_) | (with_reducible refine GG.ev_str ?_) | (with_reducible refine GG.ev_bl ?_) | (with_reducible refine GG.ev_non ?_)
    | ((with_reducible refine GG.is_bin ?_); first
        | (with_reducible refine GG.ev_add ?_) | (with_reducible refine GG.ev_sub ?_) | (with_reducible refine GG.ev_mul ?_) | (with_reducible refine GG.ev_fdiv ?_) | (with_reducible refine GG.ev_mod ?_) | (with_reducible refine GG.ev_pow ?_))
    | ((with_reducible refine GG.is_cmp ?_); first
        | ((with_reducible refine GG.is_c1 PySem.CmpOp.Eq ?_); refine GG.ev_eq (GG.u64 (by assumption)) ?_) | ((with_reducible refine GG.is_c1 PySem.CmpOp.NotEq ?_); refine GG.ev_ne (GG.u64 (by assumption)) ?_) | (with_reducible refine GG.ev_lt ?_) | (with_reducible refine GG.ev_le ?_) | (with_reducible refine GG.ev_gt ?_) | (with_reducible refine GG.ev_ge ?_)
        | (with_reducible refine GG.ev_leLe ?_) | (with_reducible refine GG.ev_leLt ?_) | (with_reducible refine GG.ev_isN ?_) | (with_reducible refine GG.ev_notN ?_) | ((with_reducible refine GG.is_c1 PySem.CmpOp.In ?_); refine GG.ev_in (GG.u65 (by assumption)) ?_) | ((with_reducible refine GG.is_c1 PySem.CmpOp.NotIn ?_); refine GG.ev_notIn (GG.u65 (by assumption)) ?_))
    | (with_reducible refine GG.ev_one ?_) | (with_reducible refine GG.ev_and ?_) | (with_reducible refine GG.ev_or ?_) | (with_reducible refine GG.ev_not ?_) | (with_reducible refine GG.ev_neg ?_) | (with_reducible refine GG.ev_if ?_) | (with_reducible refine GG.ev_tup ?_)
    | ((with_reducible refine GG.is_sub ?_); first | (with_reducible refine GG.ev_slice ?_) | (with_reducible refine GG.ev_revT ?_) | refine GG.ev_ix ?_)
    | ((with_reducible refine GG.is_call ?_); first
        | ((with_reducible refine GG.c_isi ?_); refine GG.ev_isi (GG.free_of (by assumption) (by decide +kernel)) ?_)
        | ((with_reducible refine GG.c_lenSet ?_); refine GG.ev_lenSet (GG.free_of (by assumption) (by decide +kernel)) (GG.free_of (by assumption) (by decide +kernel)) ?_)
        | ((with_reducible refine GG.c_len ?_); refine GG.ev_len (GG.free_of (by assumption) (by decide +kernel)) ?_)
        | ((with_reducible refine GG.c_1 (y := "all") ?_); refine GG.ev_all (GG.free_of (by assumption) (by decide +kernel)) ?_)
        | ((with_reducible refine GG.c_1 (y := "any") ?_); refine GG.ev_any (GG.free_of (by assumption) (by decide +kernel)) ?_)
        | ((with_reducible refine GG.c_1 (y := "abs") ?_); refine GG.ev_abs (GG.free_of (by assumption) (by decide +kernel)) ?_)
        | ((with_reducible refine GG.c_1 (y := "max") ?_); refine GG.ev_max (GG.free_of (by assumption) (by decide +kernel)) ?_)
        | ((with_reducible refine GG.c_1 (y := "min") ?_); refine GG.ev_min (GG.free_of (by assumption) (by decide +kernel)) ?_)
        | ((with_reducible refine GG.c_1 (y := "tuple") ?_); refine GG.ev_tuple (GG.free_of (by assumption) (by decide +kernel)) ?_)
        | ((with_reducible refine GG.c_1 (y := "list") ?_); refine GG.ev_F (GG.ef_list (GG.free_of (by assumption) (by decide +kernel)) ?_))
        | ((with_reducible refine GG.c_1 (y := "sorted") ?_); refine GG.ev_F (GG.ef_sorted (GG.free_of (by assumption) (by decide +kernel)) ?_))
        | ((with_reducible refine GG.c_1 (y := "repr") ?_); refine GG.ev_repr (GG.free_of (by assumption) (by decide +kernel)) (by assumption) (GG.u64 (by assumption)) ?_)
        | refine GG.ev_callO (by assumption) (L2.Room.mono (by assumption) (by decide)) ?_
        | refine GG.ev_callD (by assumption) (by assumption) (L2.Room.mono (by assumption) (by decide)) ?_)
    | (with_reducible refine GG.ev_lstd ?_) | (with_reducible refine GG.ev_d0 ?_) | (with_reducible refine GG.ev_d1si ?_))
  | ((with_reducible refine GG.is_et ?_); first
    | ((with_reducible refine GG.is_tcmp ?_); first
        | ((with_reducible refine GG.is_t1 PySem.CmpOp.Eq ?_); refine GG.et_eq (GG.u64 (by assumption)) ?_) | ((with_reducible refine GG.is_t1 PySem.CmpOp.NotEq ?_); refine GG.et_ne (GG.u64 (by assumption)) ?_) | (with_reducible refine GG.et_lt ?_) | (with_reducible refine GG.et_le ?_) | (with_reducible refine GG.et_gt ?_) | (with_reducible refine GG.et_ge ?_)
        | (with_reducible refine GG.et_leLe ?_) | (with_reducible refine GG.et_leLt ?_) | (with_reducible refine GG.et_isN ?_) | (with_reducible refine GG.et_notN ?_) | ((with_reducible refine GG.is_t1 PySem.CmpOp.In ?_); refine GG.et_in (GG.u65 (by assumption)) ?_) | ((with_reducible refine GG.is_t1 PySem.CmpOp.NotIn ?_); refine GG.et_notIn (GG.u65 (by assumption)) ?_))
    | (with_reducible refine GG.et_not ?_) | ((with_reducible refine GG.et_w ?_); first | (with_reducible refine GG.ew_and1 ?_) | (with_reducible refine GG.ew_and ?_) | (with_reducible refine GG.ew_or1 ?_) | (with_reducible refine GG.ew_or ?_)) | refine GG.evt_val ?_)
  | ((with_reducible refine GG.is_ew ?_); first | (with_reducible refine GG.ew_and1 ?_) | (with_reducible refine GG.ew_and ?_) | (with_reducible refine GG.ew_or1 ?_) | (with_reducible refine GG.ew_or ?_))
  | ((with_reducible refine GG.is_ea ?_); first | (with_reducible refine GG.ea_nil ?_) | refine GG.ea_cons ?_)
  | ((with_reducible refine GG.is_ef ?_); first | (with_reducible refine GG.ef_lst ?_) | ((with_reducible refine GG.is_fcall ?_); first
        | ((with_reducible refine GG.f_1 (y := "sorted") ?_); refine GG.ef_sorted (GG.free_of (by assumption) (by decide +kernel)) ?_) | ((with_reducible refine GG.f_1 (y := "list") ?_); refine GG.ef_list (GG.free_of (by assumption) (by decide +kernel)) ?_)
        | refine GG.ef_callD (by assumption) (by assumption) (L2.Room.mono (by assumption) (by decide)) ?_) | (with_reducible refine GG.ef_slice ?_))
  | (with_reducible refine GG.if2_t ?_) | (with_reducible refine GG.if2_f ?_) | (with_reducible refine GG.if2_nt ?_) | (with_reducible refine GG.if2_same ?_) | (with_reducible refine GG.if2_nf ?_) | (with_reducible refine GG.if2_m (fun _ => ?_) (fun _ => ?_))
  | (with_reducible refine GG.d_bo ?_) | (with_reducible refine GG.d_addI ?_) | (with_reducible refine GG.d_addS ?_ ?_) | (with_reducible refine GG.d_addT ?_ ?_) | (with_reducible refine GG.d_sub ?_) | (with_reducible refine GG.d_mul ?_ ?_) | (with_reducible refine GG.d_div ?_ ?_)
  | (with_reducible refine GG.d_mod ?_ ?_) | (with_reducible refine GG.d_pow ?_ ?_) | (with_reducible refine GG.d_eqI ?_) | (with_reducible refine GG.d_eqS ?_) | (with_reducible refine GG.d_neI ?_) | (with_reducible refine GG.d_neS ?_)
  | (with_reducible refine GG.d_le ?_) | (with_reducible refine GG.d_gt ?_) | (with_reducible refine GG.d_ge ?_) | (with_reducible refine GG.d_ltI ?_) | (with_reducible refine GG.d_ltS ?_) | (with_reducible refine GG.d_inS ?_) | (with_reducible refine GG.d_chain ?_)
  | (with_reducible refine GG.d_isiI ?_ ?_) | (with_reducible refine GG.d_isiB ?_ ?_) | (with_reducible refine GG.d_isiS ?_ ?_) | (with_reducible refine GG.d_isiT ?_ ?_) | (with_reducible refine GG.d_isiL ?_ ?_) | (with_reducible refine GG.d_isiD ?_ ?_)
  | ((with_reducible refine GG.is_shw ?_); refine And.intro ?_ ?_) | ((with_reducible refine GG.is_sz ?_); refine GG.d_sz rfl ?_) | (with_reducible refine GG.d_bagget ?_) | ((with_reducible refine GG.is_callee ?_); refine And.intro rfl (And.intro ?_ ?_))
  | ((with_reducible refine GG.is_known ?_); first | rfl | assumption) | ((with_reducible refine GG.is_at ?_); rfl)
  | (with_reducible refine GG.d_lenL ?_) | (with_reducible refine GG.d_lenT ?_) | (with_reducible refine GG.d_lenS ?_ ?_) | (with_reducible refine GG.d_bools ?_) | (with_reducible refine GG.d_boolsM ?_) | ((with_reducible refine GG.d_ixT ?_); refine ⟨_, rfl, ?_⟩) | ((with_reducible refine GG.d_ixL ?_); refine ⟨_, rfl, ?_⟩) | (with_reducible refine GG.d_slL ?_) | (with_reducible refine GG.d_slT ?_)
  | (with_reducible refine GG.d_abs ?_) | (with_reducible refine GG.d_max ?_) | (with_reducible refine GG.d_min ?_) | (with_reducible refine GG.d_seqL ?_) | (with_reducible refine GG.d_seqT ?_) | (with_reducible refine GG.d_zipT ?_) | (with_reducible refine GG.d_zipL ?_)
  | (with_reducible refine GG.d_eo ?_) | (with_reducible refine GG.d_eoN ?_) | (with_reducible refine GG.d_exI ?_) | (with_reducible refine GG.d_exT ?_) | (with_reducible refine GG.d_exL ?_))
/-! K05A: names, the bag. -/
namespace K05
open PySem PySem.Spec PyProof.Rows L2 GG
abbrev FnP (K : PySem.W.Frag) (x : Str) (i : Nat) (f : Addr) (fd : FuncData) : Prop := FunD K x x (defArgs (top i)) (defBody (top i)) (defScope (top i)) [] [] f fd
/-! ### what they answer -/
def letters : Str := "abcdefghijklmnopqrstuvwxyz"
def isName : D → Bool
  | .str s => (decide (1 ≤ (s.length : Int)) && decide ((s.length : Int) ≤ 6)) && s.cps.toList.all fun c => decide (c ∈ letters.cps.toList)
  | _ => false
def areNames : D → Bool
  | .tup ds => ds.all isName && decide (((metS (strsD ds) (strsD ds).length).length : Int) = (ds.length : Int))
  | _ => false
theorem name_str {d : D} (h : isName d = true) : ∃ s, d = .str s := by
  cases d <;> first | exact ⟨_, rfl⟩ | exact absurd h Bool.false_ne_true
theorem names_strs {ds : List D} (h : ds.all isName = true) : ds = (strsD ds).map D.str := strs_of fun d hd => name_str (List.all_eq_true.mp h d hd)
section
variable {P : Program} {w : World} {K : PySem.W.Frag} {mg : Str → Option Value} {base : Heap} {f : Addr} {fd : FuncData}
abbrev Rs (n : Nat) : SJ → List D → Prop := fun _ ds => sm n (arg ds 0)
abbrev Gb (g : D → Bool) : List D → (D → Prop) → Prop := fun ds T => T (.bl (g (arg ds 0)))
theorem signs_len (x : Str) : (GG.signs x).length = x.length := by unfold GG.signs; rw [List.length_map, Array.length_toList] <;> rfl
def sg : D → Bool
  | .str c => decide (c.cps.toList.headD 0 ∈ letters.cps.toList)
  | _ => false
theorem isName_all {x : Str} (h1 : decide (1 ≤ (x.length : Int)) = true) (h2 : (!decide ((x.length : Int) ≤ 6)) = false) : isName (.str x) = ((GG.signs x).map sg).all id := by
  have h2' : decide ((x.length : Int) ≤ 6) = true := by
    cases h : decide ((x.length : Int) ≤ 6) with
    | true => rfl
    | false => rw [h] at h2; exact absurd h2 (by decide)
  show ((decide (1 ≤ (x.length : Int)) && decide ((x.length : Int) ≤ 6)) && x.cps.toList.all fun c => decide (c ∈ letters.cps.toList)) = _
  rw [h1, h2', all_id]
  unfold GG.signs
  rw [List.all_map]
  rfl
theorem isName_no {x : Str} (h : decide (1 ≤ (x.length : Int)) = false ∨ decide ((x.length : Int) ≤ 6) = false) : isName (.str x) = false := by
  show ((decide (1 ≤ (x.length : Int)) && decide ((x.length : Int) ≤ 6)) && x.cps.toList.all fun c => decide (c ∈ letters.cps.toList)) = false
  rcases h with h | h <;> rw [h] <;> simp
theorem ok_is_name (F : FnP K "is_name" 12 f fd) (hf : Frees mg fr) (gL : ∃ t, mg "LETTERS" = some (.str letters t)) (gM : ∃ t, mg "MOST_LETTERS" = some (.int 6 t)) : FnOk P w K mg base CX0 1 f fd ["thing"] (spC K 1 (Rs 0) (Gb isName)) := by
  refine defO F (N := ["thing", "sign"]) ⟨rfl, rfl, rfl, by decide +kernel, rfl, by decide +kernel, by decide +kernel⟩ rfl ?_
  intro cdv A outer s H E C ds T hr hl hR hT
  obtain ⟨d, rfl⟩ := one_of hl
  have hN : (["thing", "sign"] : List Str).Nodup := by decide +kernel
  have hT' : T (.bl (isName d)) := hT
  have hd : known d = true := hR.known
  refine bl_if ?_
  cases d with
  | str x =>
    have hz : x.length ≤ sizeLine := hR.str
    repeat' (first | infer_instance | assumption | done)
    · exact tb hT' (isName_no (.inr (by simp_all)))
    · refine ev_F (ef_map (ow := [("sign", 1)]) (.one 1) (fun z => .bl (sg z)) (GG.signs x) (by rw [signs_len]; exact hz) (ei_str (ev_var 0 rfl ⟨x, rfl, rfl, ?_, ?_⟩)) ?_ ?_ hN)
      · intro y hy
        obtain ⟨c, _, rfl⟩ := List.mem_map.mp hy
        refine ⟨_, rfl, fun s H0 k cl fp p acc hp => ?_⟩
        repeat' (first | infer_instance | done)
        rfl
      · exact d_boolsM (tb hT' (isName_all (by assumption) (by assumption)))
      · exact (show BlkOk ["thing", "sign"] (defScope (top 12)) _ _ from ⟨rfl, by decide +kernel, by decide +kernel, by decide +kernel, by decide +kernel⟩)
      · intro s H c cl fp
        exact tg_one hN
    · exact tb hT' (isName_no (.inl (by assumption)))
  | _ =>
    first
      | exact absurd hd Bool.false_ne_true
      | (repeat' (first | infer_instance | done)
         all_goals exact hT')
theorem ok_are_names (F : FnP K "are_names" 13 f fd) (hf : Frees mg fr) (c1 : DefdO P w K mg base "is_name" 1 1 (Rs 0) (Gb isName)) : FnOk P w K mg base CX0 2 f fd ["thing"] (spC K 1 (Rs 1) (Gb areNames)) := by
  refine defO F (N := ["thing", "one"]) ⟨rfl, rfl, rfl, by decide +kernel, rfl, by decide +kernel, by decide +kernel⟩ rfl ?_
  intro cdv A outer s H E C ds T hr hl hR hT
  obtain ⟨d, rfl⟩ := one_of hl
  have hN : (["thing", "one"] : List Str).Nodup := by decide +kernel
  have hT' : T (.bl (areNames d)) := hT
  have hd : known d = true := hR.known
  refine bl_if ?_
  cases d with
  | tup es =>
    obtain ⟨hz, he⟩ := sm.tup hR
    repeat' (first | infer_instance | assumption | done)
    refine ev_F (ef_map (ow := [("one", 1)]) (.one 1) (fun z => .bl (isName z)) es (by have := line1000; omega) (ei_tup (ev_var 0 rfl ⟨es, rfl, rfl, ?_, ?_⟩)) ?_ ?_ hN)
    · intro y hy
      refine ⟨_, rfl, fun s H0 k cl fp p acc hp => ?_⟩
      repeat' (first | infer_instance | done)
      · exact he y hy
      · rfl
    · repeat' (first | infer_instance | done)
      · exact tb hT' (by have h := not_t (by assumption); rw [all_id] at h; show (es.all isName && _) = false; rw [h]; rfl)
      · have h := not_f (by assumption)
        rw [all_id] at h
        refine ⟨strsD es, congrArg D.tup (names_strs h), by unfold strsD; rw [List.length_map]; omega, ?_⟩
        repeat' (first | infer_instance | done)
        exact tb hT' (by show (es.all isName && _) = _; rw [h]; rfl)
    · exact (show BlkOk ["thing", "one"] (defScope (top 13)) _ _ from ⟨rfl, by decide +kernel, by decide +kernel, by decide +kernel, by decide +kernel⟩)
    · intro s H c cl fp
      exact tg_one hN
  | _ =>
    first
      | exact absurd hd Bool.false_ne_true
      | (repeat' (first | infer_instance | done)
         all_goals exact hT')
def RTake : SJ → List D → Prop := fun C ds => ∃ b many, ds = [.adr b, .int many] ∧ HasBag C b ∧ 0 < many ∧ many < 2 ^ 32
def GTake : List D → (D → Prop) → Prop := fun ds T => ∀ (b : Addr) (many r : Int), ds = [.adr b, .int many] → 0 ≤ r → r < many → T (.int r)
theorem ok_take (F : FnP K "_law_take" 17 f fd) : FnOk P w K mg base CX0 1 f fd ["bag", "many"] (spC K 2 RTake GTake) := by
  refine defO F (N := ["bag", "many", "digit"]) ⟨rfl, rfl, rfl, by decide +kernel, rfl, by decide +kernel, by decide +kernel⟩ rfl ?_
  rintro cdv A outer s H E C _ T hr hl ⟨b, many, rfl, hb, hm, hm2⟩ hT
  have hN : (["bag", "many", "digit"] : List Str).Nodup := by decide +kernel
  have hT' : ∀ r, 0 ≤ r → r < many → T (.int r) := fun r h1 h2 => hT b many r rfl h1 h2
  have hlog : many.natAbs.log2 < 9000 := by
    have h1 : many.natAbs < 2 ^ 32 := by omega
    have := (Nat.log2_lt (n := many.natAbs) (k := 32) (by omega)).mpr h1
    omega
  refine bl_if ?_
  repeat' (first
    | ((with_reducible refine GG.is_bag0 ?_); refine ev_bagix (k := 0) hb (by decide) (ev_var 0 rfl rfl) fun n hn hn2 => ?_)
    | ((with_reducible refine GG.is_bag1 ?_); refine ev_bagix (k := 1) hb (by decide) (ev_var 0 rfl rfl) fun n hn hn2 => ?_)
    | ((with_reducible refine GG.is_bset0 ?_); refine bl_bagset (k := 0) hb (by decide) ?_)
    | ((with_reducible refine GG.is_bset1 ?_); refine bl_bagset (k := 1) hb (by decide) ?_)
    | infer_instance | assumption | exact ⟨hm, hlog⟩ | decide | exact .inl ⟨by omega, by omega⟩ | done)
  · refine ⟨Int.ediv_nonneg (by assumption) (by omega), fun z => absurd z (by decide), ?_⟩
    repeat' (first | infer_instance | done)
    exact hT' _ (Int.emod_nonneg _ (by omega)) (Int.emod_lt_of_pos _ hm)
  · refine ⟨Int.emod_nonneg _ (by decide), fun _ => Int.lt_trans (Int.emod_lt_of_pos _ (by decide)) (by decide), ?_⟩
    repeat' (first
      | ((with_reducible refine GG.is_bag0 ?_); refine ev_bagix (k := 0) hb (by decide) (ev_var 0 rfl rfl) fun n hn hn2 => ?_)
      | ((with_reducible refine GG.is_bag1 ?_); refine ev_bagix (k := 1) hb (by decide) (ev_var 0 rfl rfl) fun n hn hn2 => ?_)
      | ((with_reducible refine GG.is_bset0 ?_); refine bl_bagset (k := 0) hb (by decide) ?_)
      | ((with_reducible refine GG.is_bset1 ?_); refine bl_bagset (k := 1) hb (by decide) ?_)
      | infer_instance | assumption | exact ⟨hm, hlog⟩ | decide | exact .inl ⟨by omega, by omega⟩ | done)
    all_goals first
      | exact ⟨by decide, by decide⟩
      | exact hT' _ (Int.emod_nonneg _ (by omega)) (Int.emod_lt_of_pos _ hm)
      | trace_state
def RBag : SJ → List D → Prop := fun _ ds => ∃ (ns : List Int) (k : Int), ds = [.lst (ns.map D.int), .int k] ∧ ns.length ≤ 63 ∧ 0 ≤ k ∧ k < 100
def GBag : List D → (List D → Prop) → Prop := fun _ T => ∀ g m : Int, 0 ≤ g → 0 ≤ m → m < 2 ^ 32 → T [.int g, .int m]
theorem ok_bag (F : FnP K "_law_bag" 16 f fd) (hf : Frees mg fr) : FnG P w K mg base CX0 1 f fd ["script", "at"] (spN K 2 RBag GBag) := by
  refine defF F (N := ["script", "at", "cell", "mixed", "spot", "each"]) ⟨rfl, rfl, rfl, by decide +kernel, rfl, by decide +kernel, by decide +kernel⟩ rfl ?_
  rintro cdv A outer s H E C _ T hG hr hl ⟨ns, k, rfl, hn, hk, hk2⟩ hT
  have hN : (["script", "at", "cell", "mixed", "spot", "each"] : List Str).Nodup := by decide +kernel
  refine bl_asg 2 (Ev.imp (P := fun d => ∃ c : Int, d = .int c) ?_ ?_) hN
  · repeat' (first | infer_instance | assumption | done)
    · have h := of_decide_eq_true (by assumption : decide (k < (((ns.map D.int).length : Nat) : Int)) = true)
      exact d_draw hk h fun d hd => by
        obtain ⟨c, -, rfl⟩ := List.mem_map.mp hd
        exact ⟨c, rfl⟩
    · exact ⟨0, rfl⟩
  · rintro d ⟨c, rfl⟩
    repeat' (first | infer_instance | assumption | done)
    · exact .inl ⟨by decide, by decide⟩
    · refine bl_for (.many [.one 4, .one 5]) (fun _ C' Γ' => C' = C ∧ ∃ (m : Int) (x y : Option D), Γ' = [some (.lst (ns.map D.int)), some (.int k), some (.int c), some (.int m), x, y] ∧ 0 ≤ m ∧ m < 2 ^ 32)
        (ei_enum (free_of hf (by decide +kernel)) ?_) (tg_many rfl (tgs_cons (tg_one hN) (tgs_cons (tg_one hN) tgs_nil))) PassesOwn.never
      repeat' (first | infer_instance | done)
      refine ⟨⟨rfl, _, _, _, rfl, by omega, by omega⟩, ?_, ?_⟩
      · rintro i y C' Γ' hy ⟨rfl, m, x, z, rfl, hm, hm2⟩
        obtain ⟨e, he, rfl⟩ := enumD_at hy
        obtain ⟨v, -, rfl⟩ := List.mem_map.mp (cutD_mem (List.mem_of_getElem? he))
        refine ⟨_, rfl, ⟨?_⟩⟩
        repeat' (first | infer_instance | exact .inl ⟨by omega, by omega⟩ | exact .inr ⟨by omega, by omega⟩ | decide | done)
        exact ⟨rfl, _, _, _, rfl, Int.emod_nonneg _ (by decide), Int.lt_trans (Int.emod_lt_of_pos _ (by decide)) (by decide)⟩
      · rintro C' Γ' ⟨rfl, m, x, z, rfl, hm, hm2⟩
        refine bl_retF .rfl ?_
        repeat' (first | infer_instance | exact ⟨by decide, by decide, by decide⟩ | done)
        · exact hT _ _ (by split <;> omega) hm hm2
        · exact hT _ _ (Int.le_refl _) hm hm2
end
end K05
set_option maxHeartbeats 1000000
/-! K05B: pools, picks. -/
namespace K05
open PySem PySem.Spec PyProof.Rows L2 GG
section
variable {P : Program} {w : World} {K : PySem.W.Frag} {mg : Str → Option Value} {base : Heap} {f : Addr} {fd : FuncData}
def Pool (xs : List Str) : Prop := xs.length = 12 ∧ xs.Nodup ∧ ∀ x ∈ xs, isName (.str x) = true
def poolA : List Str := ["a", "b", "c", "d", "e", "f", "g", "h", "i", "j", "k", "l"]
def poolB : List Str := ["x", "xx", "xxx", "xxxx", "xy", "yx", "y", "yy", "z", "zz", "xxxxxx", "xxxxxy"]
def poolC : List Str := ["end", "or", "def", "a", "ab", "abc", "b", "ba", "bb", "zzzzzz", "zzzzzy", "azzzzz"]
theorem poolA_ok : Pool poolA := ⟨rfl, by decide +kernel, by decide +kernel⟩
theorem poolB_ok : Pool poolB := ⟨rfl, by decide +kernel, by decide +kernel⟩
theorem poolC_ok : Pool poolC := ⟨rfl, by decide +kernel, by decide +kernel⟩
def RB : SJ → List D → Prop := fun C ds => ∃ b, ds = [.adr b] ∧ HasBag C b
def GPool : List D → (D → Prop) → Prop := fun _ T => ∀ xs, Pool xs → T (.lst (xs.map D.str))
theorem ok_pool (F : FnP K "_law_pool" 18 f fd) (cT : DefdO P w K mg base "_law_take" 1 2 RTake GTake) : FnOk P w K mg base CX0 2 f fd ["bag"] (spC K 1 RB GPool) := by
  refine defO F (N := ["bag", "some"]) ⟨rfl, rfl, rfl, by decide +kernel, rfl, by decide +kernel, by decide +kernel⟩ rfl ?_
  rintro cdv A outer s H E C _ T hr hl ⟨b, rfl, hb⟩ hT
  have hN : (["bag", "some"] : List Str).Nodup := by decide +kernel
  refine bl_own0 ?_
  show Bl _ _ _ (.Assign [.Name _ _] _ _ :: _) _
  with_reducible refine is_asg1 ?_
  refine @bl_mine _ _ _ _ _ _ 1 [] [] _ _ _ rfl (ef_lst ?_) hN rfl (Or.inl rfl) rfl (.inl rfl)
  repeat' (first | infer_instance | done)
  intro p
  refine bl_append (i := 0) 0 rfl rfl (ev_var 1 rfl ⟨rfl, ?_⟩)
  repeat' (first | infer_instance | done)
  refine ⟨by decide +kernel, bl_append (i := 0) 0 rfl rfl (ev_var 1 rfl ⟨rfl, ?_⟩)⟩
  repeat' (first | infer_instance | done)
  refine ⟨by show 2 < sizeLine; decide +kernel, bl_free 1 rfl ?_⟩
  repeat' (first | infer_instance | done)
  · exact ⟨b, 3, rfl, hb.own, by decide, by decide⟩
  · intro b' many r e h0 h1
    cases e
    exact d_draw h0 h1 (all_cons (hT _ poolA_ok) (all_cons (hT _ poolB_ok) (all_cons (hT _ poolC_ok) all_nil)))
/-! picks -/
def RPick : (List D → SJ) → Addr → List D → List D → Prop := fun CF l a ds => ∃ (b : Addr) (most : Int) (zs : List Str), ds = [.adr b, .adr l, .int most] ∧ (∀ a, HasBag (CF a) b) ∧ 0 ≤ most ∧ most < 100 ∧ a = zs.map D.str ∧ zs.length ≤ 12
def GPick : List D → List D → (D → List D → Prop) → Prop := fun a ds T => ∀ (b l : Addr) (most : Int) (zs xs ys : List Str), ds = [.adr b, .adr l, .int most] → a = zs.map D.str → (xs ++ ys).Perm zs → (xs.length : Int) ≤ most → T (.tup (xs.map D.str)) (ys.map D.str)
theorem seqIndex_nat {r : Int} {n : Nat} (h0 : 0 ≤ r) (h1 : r < n) : seqIndex? r n = some r.toNat := by
  rw [seqIndex_of h0 h1]
theorem erase_perm : ∀ {ys : List Str} {k : Nat} {y : Str}, ys[k]? = some y → (y :: ys.eraseIdx k).Perm ys
  | [], _, _, h => by simp at h
  | z :: r, 0, y, h => by
    simp at h
    subst h
    exact .refl _
  | z :: r, k + 1, y, h => by
    have ih := erase_perm (ys := r) (k := k) (y := y) (by simpa using h)
    rw [List.eraseIdx_cons_succ]
    exact (List.Perm.swap z y _).trans (ih.cons z)
theorem map_erase : ∀ (ys : List Str) (k : Nat), (ys.eraseIdx k).map D.str = (ys.map D.str).eraseIdx k
  | [], _ => rfl
  | _ :: _, 0 => rfl
  | y :: r, k + 1 => by
    show D.str y :: (r.eraseIdx k).map D.str = D.str y :: (r.map D.str).eraseIdx k
    rw [map_erase r k]
theorem ok_picked (F : FnP K "_law_picked" 19 f fd) (hf : Frees mg fr) (cT : DefdO P w K mg base "_law_take" 1 2 RTake GTake) : FnOk P w K mg base CX0 2 f fd ["bag", "left", "most"] (spL K 3 RPick GPick) := by
  refine defL F (N := ["bag", "left", "most", "found", "turn"]) ⟨rfl, rfl, rfl, by decide +kernel, rfl, by decide +kernel, by decide +kernel⟩ rfl ?_
  rintro cdv A outer s H E CF l _ _ T FL hr hl ⟨b, most, zs, rfl, hb, hm, hm2, rfl, hz⟩ hT
  have hN : (["bag", "left", "most", "found", "turn"] : List Str).Nodup := by decide +kernel
  have hT' : ∀ xs ys : List Str, (xs ++ ys).Perm zs → (xs.length : Int) ≤ most → T (.tup (xs.map D.str)) (ys.map D.str) := fun xs ys h1 h2 => hT b l most zs xs ys rfl rfl h1 h2
  show Bl _ _ _ (_ :: _) _
  refine bl_own0 (bl_mine (ps := []) (as := []) 3 rfl (ef_lst ?_) hN)
  repeat' (first | infer_instance | done)
  intro p
  have len_of : ∀ xs : List Str, (xs.map D.str).length = xs.length := fun xs => List.length_map _
  refine bl_for (.one 4) (fun i C' Γ' => ∃ xs ys : List Str, C' = own K (CF (ys.map D.str)) [p] [xs.map D.str] ∧ (xs ++ ys).Perm zs ∧ xs.length = i ∧ Le [some (.adr b), some (.adr l), some (.int most), some (.adr p), none] Γ') (ei_range (free_of hf (by decide +kernel)) ?_) (tg_one hN) PassesOwn.never
  refine ev_min (free_of hf (by decide +kernel)) ?_
  repeat' (first | infer_instance | done)
  · exact ⟨b, most + 1, rfl, (hb _).own, by omega, by omega⟩
  · intro b' many r e h0 h1
    cases e
    refine ea_cons (ev_lenL (CF := fun a => own K (CF a) [p] [[]]) FL.own (free_of hf (by decide +kernel)) (ev_var 1 rfl ⟨rfl, ea_nil (d_min ?_)⟩))
    rw [len_of]
    refine ⟨_, rfl, by split <;> omega, by split <;> omega, ⟨[], zs, rfl, .refl _, rfl, .refl⟩, ?_, ?_⟩
    · rintro i y C' Γ' hy ⟨xs, ys, rfl, hp, hi, hle⟩
      have hrl : ∀ n, (rangeD 0 n).length = n := fun n => by unfold rangeD; rw [List.length_map, List.length_range]
      have hlt := (List.getElem?_eq_some_iff.mp hy).1
      rw [hrl] at hlt
      have hlen : xs.length + ys.length = zs.length := by rw [← List.length_append]; exact hp.length_eq
      have hpos : 0 < ys.length := by
        revert hlt
        split <;> omega
      refine ⟨_, rfl, ⟨bl_weak (hle.set 4 (some y)) ?_⟩⟩
      refine bl_appendX (l := p) (CF := fun acc => own K (CF (ys.map D.str)) [p] [acc]) (a := xs.map D.str) famL_own (ev_var 3 rfl ⟨rfl, ?_⟩)
      refine ex_popAt (l := l) (CF := fun a => own K (CF a) [p] [xs.map D.str]) (a := ys.map D.str) FL.own (ev_var 1 rfl ⟨rfl, ?_⟩)
      refine ev_callO cT (hr.mono (by decide)) (ea_cons (ev_var 0 rfl (ea_cons (ev_lenL (CF := fun a => own K (CF a) [p] [xs.map D.str]) FL.own (free_of hf (by decide +kernel)) (ev_var 1 rfl ⟨rfl, ea_nil ?_⟩)))))
      rw [len_of]
      refine ⟨rfl, ⟨b, ys.length, rfl, (hb _).own, by omega, by omega⟩, ?_⟩
      intro b' many r' e h2 h3
      cases e
      have hk : r'.toNat < ys.length := by omega
      have hy' : ys[r'.toNat]? = some ys[r'.toNat] := List.getElem?_eq_getElem hk
      refine ⟨r', rfl, by omega, by omega, r'.toNat, .str ys[r'.toNat], seqIndex_nat h2 (by first | omega | (rw [len_of]; omega)), by rw [List.getElem?_map, hy']; rfl, ?_⟩
      refine ⟨fun acc => own K (CF ((ys.map D.str).eraseIdx r'.toNat)) [p] [acc], xs.map D.str, famL_own, rfl, ?_, ?_⟩
      · rw [len_of]; have := line1000; omega
      · refine bl_nil ⟨xs ++ [ys[r'.toNat]], ys.eraseIdx r'.toNat, ?_, ?_, ?_, ?_⟩
        · rw [List.map_append, map_erase] <;> rfl
        · rw [List.append_assoc]
          exact ((erase_perm hy').append_left xs).trans hp
        · rw [List.length_append, hi]; rfl
        · exact .cons (.cons (.cons (.cons (.drop .refl))))
    · rintro C' Γ' ⟨xs, ys, rfl, hp, hi, hle⟩
      have hrl : ∀ n, (rangeD 0 n).length = n := fun n => by unfold rangeD; rw [List.length_map, List.length_range]
      rw [hrl] at hi
      refine bl_weak hle (bl_free 3 rfl (bl_unown (bl_retX (ev_tuple (free_of hf (by decide +kernel)) (ev_var 3 rfl ⟨_, rfl, hT' xs ys hp ?_⟩)))))
      rw [hi]
      split <;> omega
end
end K05
set_option maxHeartbeats 1000000
/-! K05C: some names. -/
namespace K05
open PySem PySem.Spec PyProof.Rows L2 GG
section
variable {P : Program} {w : World} {K : PySem.W.Frag} {mg : Str → Option Value} {base : Heap} {f : Addr} {fd : FuncData}
/-- names in order, taken from zs -/
def SomeOf (zs xs : List Str) : Prop := (∃ ys, (xs ++ ys).Perm zs) ∧ xs.Pairwise leS
def RSome : SJ → List D → Prop := fun C ds => ∃ (b : Addr) (most : Int) (zs : List Str), (ds = [.adr b, .lst (zs.map D.str), .int most] ∨ ds = [.adr b, .tup (zs.map D.str), .int most]) ∧ HasBag C b ∧ 0 ≤ most ∧ most < 100 ∧ zs.length ≤ 12
def GSome : List D → (D → Prop) → Prop := fun ds T => ∀ (b : Addr) (most : Int) (zs xs : List Str), (ds = [.adr b, .lst (zs.map D.str), .int most] ∨ ds = [.adr b, .tup (zs.map D.str), .int most]) → SomeOf zs xs → (xs.length : Int) ≤ most → T (.tup (xs.map D.str))
theorem ok_some (F : FnP K "_law_some_names" 22 f fd) (hf : Frees mg fr) (cP : DefdL P w K mg base "_law_picked" 2 3 RPick GPick) : FnOk P w K mg base CX0 3 f fd ["bag", "pool", "most"] (spC K 3 RSome GSome) := by
  refine defO F (N := ["bag", "pool", "most"]) ⟨rfl, rfl, rfl, by decide +kernel, rfl, by decide +kernel, by decide +kernel⟩ rfl ?_
  rintro cdv A outer s H E C ds T hr hl ⟨b, most, zs, hds, hb, hm, hm2, hz⟩ hT
  have hT' : ∀ xs, SomeOf zs xs → (xs.length : Int) ≤ most → T (.tup (xs.map D.str)) := fun xs h1 h2 => hT b most zs xs hds h1 h2
  have key : ∀ d : D, (d = .lst (zs.map D.str) ∨ d = .tup (zs.map D.str)) → Bl (cxOf CX0 P w K mg base ["bag", "pool", "most"] "_law_some_names" (defScope (top 22)) f cdv A outer s H E).nox C (start0 ["bag", "pool", "most"] [.adr b, d, .int most]) (defBody (top 22)) { C0 := C, N := fun C' _ => Ext C C' ∧ T .non, R := T } := by
    intro d hd
    refine bl_ret .rfl (ev_tuple (free_of hf (by decide +kernel)) (ev_F (ef_sorted (free_of hf (by decide +kernel)) ?_)))
    refine ev_callLF cP (hr.mono (by decide)) (ev_var 0 rfl (ef_list (free_of hf (by decide +kernel)) (ev_var 1 rfl ?_)))
    have fin : ∀ l, Ev (cxOf CX0 P w K mg base ["bag", "pool", "most"] "_law_some_names" (defScope (top 22)) f cdv A outer s H E).nox (own K C [l] [zs.map D.str]) (start0 ["bag", "pool", "most"] [.adr b, d, .int most]) (.Name "most" ⟨0, 0, 0, 0⟩) fun _ => True := fun l => ev_var 2 rfl trivial
    have rest : ∀ (l : Addr), RPick (fun a => own K C [l] [a]) l (zs.map D.str) [.adr b, .adr l, .int most] := fun l => ⟨b, most, zs, rfl, fun a => hb.own, hm, hm2, rfl, hz⟩
    rcases hd with rfl | rfl
    · intro l
      refine ev_var 2 rfl ⟨rest l, ?_⟩
      intro b' l' most' zs' xs ys e1 e2 hp hxl
      cases e1
      have ez : zs' = zs := (List.map_inj_right (fun a b h => by cases h; rfl)).mp e2.symm
      subst ez
      have hxs : xs.length ≤ 12 := by have := hp.length_eq; rw [List.length_append] at this; omega
      refine ⟨xs, rfl, by omega, hT' _ ⟨⟨ys, ((srtS_perm xs).append_right ys).trans hp⟩, srtS_pw xs⟩ ?_⟩
      rw [(srtS_perm xs).length_eq]
      exact hxl
    · intro l
      refine ev_var 2 rfl ⟨rest l, ?_⟩
      intro b' l' most' zs' xs ys e1 e2 hp hxl
      cases e1
      have ez : zs' = zs := (List.map_inj_right (fun a b h => by cases h; rfl)).mp e2.symm
      subst ez
      have hxs : xs.length ≤ 12 := by have := hp.length_eq; rw [List.length_append] at this; omega
      refine ⟨xs, rfl, by omega, hT' _ ⟨⟨ys, ((srtS_perm xs).append_right ys).trans hp⟩, srtS_pw xs⟩ ?_⟩
      rw [(srtS_perm xs).length_eq]
      exact hxl
  rcases hds with rfl | rfl
  · exact key _ (.inl rfl)
  · exact key _ (.inr rfl)
end
end K05
set_option maxHeartbeats 1000000
/-! K05D: lists of parameters. -/
namespace K05
open PySem PySem.Spec PyProof.Rows L2 GG
structure One where
  only : List Str
  plain : List Str
  rest : Option Str
  named : List Str
  more : Option Str
  defaults : List Str
def optD : Option Str → D
  | none => .non
  | some s => .str s
def One.d (o : One) : D := .dct [(.inr "rest", optD o.rest), (.inr "more", optD o.more), (.inr "only", .tup (o.only.map D.str)), (.inr "plain", .tup (o.plain.map D.str)), (.inr "named", .tup (o.named.map D.str)), (.inr "defaults", .tup (o.defaults.map D.str))]
def One.names (o : One) : List Str := o.rest.toList ++ o.more.toList ++ o.only ++ o.plain ++ o.named
structure One.Fine (o : One) : Prop where
  nodup : o.names.Nodup
  ok : ∀ x ∈ o.names, isName (.str x) = true
  few : o.only.length + o.plain.length + o.named.length ≤ 6
  dflt : ∃ (k : Nat) (ns : List Str), k ≤ (o.only ++ o.plain).length ∧ ns.Sublist o.named ∧ o.defaults = (o.only ++ o.plain).drop k ++ ns
section
variable {P : Program} {w : World} {K : PySem.W.Frag} {mg : Str → Option Value} {base : Heap} {f : Addr} {fd : FuncData}
def RList : SJ → List D → Prop := fun C ds => ∃ (b : Addr) (zs : List Str), ds = [.adr b, .lst (zs.map D.str)] ∧ HasBag C b ∧ Pool zs
def GList : List D → (D → Prop) → Prop := fun ds T => ∀ o : One, o.Fine → T o.d
theorem ok_list (F : FnP K "_law_list" 20 f fd) (hf : Frees mg fr) (cT : DefdO P w K mg base "_law_take" 1 2 RTake GTake) (cP : DefdL P w K mg base "_law_picked" 2 3 RPick GPick) : FnOk P w K mg base CX0 3 f fd ["bag", "pool"] (spC K 2 RList GList) := by
  refine defO F (N := ["bag", "pool", "left", "one", "most", "places", "free", "name"]) ⟨rfl, rfl, rfl, by decide +kernel, rfl, by decide +kernel, by decide +kernel⟩ rfl ?_
  rintro cdv A outer s H E C _ T hr hl ⟨b, zs, rfl, hb, hz⟩ hT
  have hN : (["bag", "pool", "left", "one", "most", "places", "free", "name"] : List Str).Nodup := by decide +kernel
  have hu : (cxOf CX0 P w K mg base ["bag", "pool", "left", "one", "most", "places", "free", "name"] "_law_list" (defScope (top 20)) f cdv A outer s H E).nox.A.units + 1 < cLine := by have := hr.un; show (A.deeper _).units + 1 < cLine; omega
  refine bl_own0 ?_
  show Bl _ _ _ (.Assign [.Name _ _] _ _ :: _) _
  with_reducible refine is_asg1 ?_
  refine @bl_mine _ _ _ _ _ _ 2 [] [] _ _ _ rfl (ef_list (free_of hf (by decide +kernel)) (ev_var 1 rfl ?_)) hN rfl (Or.inl rfl) rfl (.inl rfl)
  intro l
  refine bl_disp 3 (fun q => ?_) hN
  refine ep_cons (ev_str ⟨.inr "rest", rfl, ev_non (ep_cons (ev_str ⟨.inr "more", rfl, ev_non (ep_nil ⟨by decide, ?_⟩)⟩))⟩)
  have hm : mergeD [] [(.inr "rest", D.non), (.inr "more", D.non)] = [(.inr "rest", D.non), (.inr "more", D.non)] := by rfl
  rw [hm]
  have lenz : ∀ xs : List Str, (xs.map D.str).length = xs.length := fun xs => List.length_map _
  have rt : ∀ (C' : SJ) (many : Int), HasBag C' b → 0 < many → many < 2 ^ 32 → RTake C' [.adr b, .int many] := fun C' many h h1 h2 => ⟨b, many, rfl, h, h1, h2⟩
  have hbx : ∀ (ys : List Str) kvs, HasBag (ownD K (own K C [l] [ys.map D.str]) q kvs) b := fun ys kvs => hb.own.dict
  refine bl_ifM (fun C' Γ' => ∃ (r : Option Str) (ys : List Str), C' = ownD K (own K C [l] [ys.map D.str]) q [(.inr "rest", optD r), (.inr "more", .non)] ∧ (r.toList ++ ys).Perm zs ∧ Γ' = [some (.adr b), some (.lst (zs.map D.str)), some (.adr l), some (.adr q), none, none, none, none]) ?_ ?_
  · repeat' (first | infer_instance | done)
    · exact rt _ _ (hbx zs _) (by decide) (by decide)
    intro b' many r e h0 h1
    cases e
    repeat' (first | infer_instance | done)
    · refine bl_dput hu (ex_popAt (l := l) (CF := fun a => ownD K (own K C [l] [a]) q [(.inr "rest", D.non), (.inr "more", D.non)]) (a := zs.map D.str) famL_own.dict (ev_var 2 rfl ⟨rfl, ?_⟩))
      refine ev_callO cT (hr.mono (by decide)) (ea_cons (ev_var 0 rfl (ea_cons (ev_lenL (CF := fun a => ownD K (own K C [l] [a]) q [(.inr "rest", D.non), (.inr "more", D.non)]) famL_own.dict (free_of hf (by decide +kernel)) (ev_var 2 rfl ⟨rfl, ea_nil ?_⟩)))))
      rw [lenz]
      refine ⟨rfl, rt _ _ (hbx zs _) (by rw [hz.1]; decide) (by rw [hz.1]; decide), ?_⟩
      intro b' many r' e h2 h3
      cases e
      have hk : r'.toNat < zs.length := by omega
      have hy' : zs[r'.toNat]? = some zs[r'.toNat] := List.getElem?_eq_getElem hk
      refine ⟨r', rfl, by omega, by rw [hz.1] at h3; omega, r'.toNat, .str zs[r'.toNat], seqIndex_nat h2 (by first | omega | (rw [lenz]; omega)), by rw [List.getElem?_map, hy']; rfl, ?_⟩
      refine ⟨q, fun kvs => ownD K (own K C [l] [(zs.map D.str).eraseIdx r'.toNat]) q kvs, _, famD_own, rfl, (by show 2 < 1000; decide), ev_var 3 rfl ⟨rfl, ev_str ⟨.inr "rest", rfl, bl_nil ⟨some zs[r'.toNat], zs.eraseIdx r'.toNat, ?_, ?_, rfl⟩⟩⟩⟩
      · rw [← map_erase]
        rfl
      · exact erase_perm hy'
    · exact ⟨none, zs, rfl, .refl _, rfl⟩
  · rintro C' _ ⟨r, ys, rfl, hp, rfl⟩
    have hyl : r.toList.length + ys.length = 12 := by rw [← List.length_append, hp.length_eq, hz.1]
    have hrl : r.toList.length ≤ 1 := by cases r <;> simp
    refine bl_ifM (fun C' Γ' => ∃ (m : Option Str) (ws : List Str), C' = ownD K (own K C [l] [ws.map D.str]) q [(.inr "rest", optD r), (.inr "more", optD m)] ∧ (m.toList ++ ws).Perm ys ∧ Γ' = [some (.adr b), some (.lst (zs.map D.str)), some (.adr l), some (.adr q), none, none, none, none]) ?_ ?_
    · repeat' (first | infer_instance | done)
      · exact rt _ _ (hbx ys _) (by decide) (by decide)
      intro b' many r0 e h0 h1
      cases e
      repeat' (first | infer_instance | done)
      · refine bl_dput hu (ex_popAt (l := l) (CF := fun a => ownD K (own K C [l] [a]) q [(.inr "rest", optD r), (.inr "more", D.non)]) (a := ys.map D.str) famL_own.dict (ev_var 2 rfl ⟨rfl, ?_⟩))
        refine ev_callO cT (hr.mono (by decide)) (ea_cons (ev_var 0 rfl (ea_cons (ev_lenL (CF := fun a => ownD K (own K C [l] [a]) q [(.inr "rest", optD r), (.inr "more", D.non)]) famL_own.dict (free_of hf (by decide +kernel)) (ev_var 2 rfl ⟨rfl, ea_nil ?_⟩)))))
        rw [lenz]
        refine ⟨rfl, rt _ _ (hbx ys _) (by omega) (by omega), ?_⟩
        intro b' many r' e h2 h3
        cases e
        have hk : r'.toNat < ys.length := by omega
        have hy' : ys[r'.toNat]? = some ys[r'.toNat] := List.getElem?_eq_getElem hk
        refine ⟨r', rfl, by omega, by omega, r'.toNat, .str ys[r'.toNat], seqIndex_nat h2 (by first | omega | (rw [lenz]; omega)), by rw [List.getElem?_map, hy']; rfl, ?_⟩
        refine ⟨q, fun kvs => ownD K (own K C [l] [(ys.map D.str).eraseIdx r'.toNat]) q kvs, _, famD_own, rfl, (by show 2 < 1000; decide), ev_var 3 rfl ⟨rfl, ev_str ⟨.inr "more", rfl, bl_nil ⟨some ys[r'.toNat], ys.eraseIdx r'.toNat, ?_, ?_, rfl⟩⟩⟩⟩
        · rw [← map_erase]
          rfl
        · exact erase_perm hy'
      · exact ⟨none, ys, rfl, .refl _, rfl⟩
    · rintro C' _ ⟨m, ws, rfl, hpm, rfl⟩
      have hml : m.toList.length + ws.length = ys.length := by rw [← List.length_append, hpm.length_eq]
      have inj : ∀ {a c : List Str}, a.map D.str = c.map D.str → a = c := fun h => (List.map_inj_right (fun a b h => by cases h; rfl)).mp h
      refine bl_asg 4 (Ev.imp (P := fun d => ∃ n : Int, d = .int n ∧ 1 ≤ n ∧ n ≤ 6) ?_ ?_) hN
      · repeat' (first | infer_instance | done)
        · exact rt _ _ (hbx ws _) (by decide) (by decide)
        intro b' many r0 e h0 h1
        cases e
        exact d_draw h0 h1 (all_cons ⟨1, rfl, by decide, by decide⟩ (all_cons ⟨2, rfl, by decide, by decide⟩ (all_cons ⟨2, rfl, by decide, by decide⟩ (all_cons ⟨2, rfl, by decide, by decide⟩ (all_cons ⟨3, rfl, by decide, by decide⟩ (all_cons ⟨6, rfl, by decide, by decide⟩ all_nil))))))
      rintro _ ⟨n, rfl, hn1, hn2⟩
      refine bl_dput hu (ex_callL (l := l) (CF := fun a => ownD K (own K C [l] [a]) q [(.inr "rest", optD r), (.inr "more", optD m)]) (a := ws.map D.str) famL_own.dict cP (hr.mono (by decide)) ?_)
      repeat' (first | infer_instance | done)
      · exact ⟨b, n, ws, rfl, fun a => hb.own.dict, by omega, by omega, rfl, by omega⟩
      intro b1 l1 most1 zs1 only w1 e1 e2 hp1 ho
      cases e1
      cases inj e2
      refine ⟨q, fun kvs => ownD K (own K C [l] [w1.map D.str]) q kvs, _, famD_own, rfl, (by show 2 < 1000; decide), ev_var 3 rfl ⟨rfl, ev_str ⟨.inr "only", rfl, ?_⟩⟩⟩
      have k1 : putKD [(.inr "rest", optD r), (.inr "more", optD m)] (.inr "only") (.tup (only.map D.str)) = [(.inr "rest", optD r), (.inr "more", optD m), (.inr "only", .tup (only.map D.str))] := by rfl
      rw [k1]
      have hl1 : only.length + w1.length = ws.length := by rw [← List.length_append, hp1.length_eq]
      refine bl_dput hu (ex_callL (l := l) (CF := fun a => ownD K (own K C [l] [a]) q [(.inr "rest", optD r), (.inr "more", optD m), (.inr "only", .tup (only.map D.str))]) (a := w1.map D.str) famL_own.dict cP (hr.mono (by decide)) ?_)
      repeat' (first
        | ((with_reducible refine GG.is_sub ?_); refine ev_dgetO (q := q) (DF := fun kvs => ownD K (own K C [l] [w1.map D.str]) q kvs) (kvs := [(.inr "rest", optD r), (.inr "more", optD m), (.inr "only", .tup (only.map D.str))]) famD_own hu (ev_var 3 rfl ⟨rfl, ev_str ⟨.inr _, _, rfl, rfl, ?_⟩⟩))
        | infer_instance | done)
      · exact ⟨b, _, w1, rfl, fun a => hb.own.dict, by rw [lenz]; split <;> omega, by rw [lenz]; split <;> omega, rfl, by omega⟩
      intro b2 l2 most2 zs2 plain w2 e1 e2 hp2 hpl
      cases e1
      cases inj e2
      rw [lenz] at hpl
      refine ⟨q, fun kvs => ownD K (own K C [l] [w2.map D.str]) q kvs, _, famD_own, rfl, (by show 3 < 1000; decide), ev_var 3 rfl ⟨rfl, ev_str ⟨.inr "plain", rfl, ?_⟩⟩⟩
      have k2 : putKD [(.inr "rest", optD r), (.inr "more", optD m), (.inr "only", .tup (only.map D.str))] (.inr "plain") (.tup (plain.map D.str)) = [(.inr "rest", optD r), (.inr "more", optD m), (.inr "only", .tup (only.map D.str)), (.inr "plain", .tup (plain.map D.str))] := by rfl
      rw [k2]
      have hl2 : plain.length + w2.length = w1.length := by rw [← List.length_append, hp2.length_eq]
      have hop : (only.length : Int) + plain.length ≤ 6 := by
        revert hpl
        split <;> omega
      refine bl_dput hu (ex_callL (l := l) (CF := fun a => ownD K (own K C [l] [a]) q [(.inr "rest", optD r), (.inr "more", optD m), (.inr "only", .tup (only.map D.str)), (.inr "plain", .tup (plain.map D.str))]) (a := w2.map D.str) famL_own.dict cP (hr.mono (by decide)) ?_)
      repeat' (first
        | ((with_reducible refine GG.is_sub ?_); refine ev_dgetO (q := q) (DF := fun kvs => ownD K (own K C [l] [w2.map D.str]) q kvs) (kvs := [(.inr "rest", optD r), (.inr "more", optD m), (.inr "only", .tup (only.map D.str)), (.inr "plain", .tup (plain.map D.str))]) famD_own hu (ev_var 3 rfl ⟨rfl, ev_str ⟨.inr _, _, rfl, rfl, ?_⟩⟩))
        | infer_instance | done)
      · exact ⟨b, _, w2, rfl, fun a => hb.own.dict, by rw [lenz, lenz]; split <;> omega, by rw [lenz, lenz]; split <;> omega, rfl, by omega⟩
      intro b3 l3 most3 zs3 named w3 e1 e2 hp3 hnl
      cases e1
      cases inj e2
      rw [lenz, lenz] at hnl
      refine ⟨q, fun kvs => ownD K (own K C [l] [w3.map D.str]) q kvs, _, famD_own, rfl, (by show 4 < 1000; decide), ev_var 3 rfl ⟨rfl, ev_str ⟨.inr "named", rfl, ?_⟩⟩⟩
      have k3 : putKD [(.inr "rest", optD r), (.inr "more", optD m), (.inr "only", .tup (only.map D.str)), (.inr "plain", .tup (plain.map D.str))] (.inr "named") (.tup (named.map D.str)) = [(.inr "rest", optD r), (.inr "more", optD m), (.inr "only", .tup (only.map D.str)), (.inr "plain", .tup (plain.map D.str)), (.inr "named", .tup (named.map D.str))] := by rfl
      rw [k3]
      have hl3 : named.length + w3.length = w2.length := by rw [← List.length_append, hp3.length_eq]
      have hsum : (only.length : Int) + plain.length + named.length ≤ 6 := by
        revert hnl
        split <;> omega
      have h1000 := line1000
      refine bl_asg 5 (Ev.imp (P := fun d => d = .tup ((only ++ plain).map D.str)) ?_ ?_) hN
      · repeat' (first
          | ((with_reducible refine GG.is_sub ?_); refine ev_dgetO (q := q) (DF := fun kvs => ownD K (own K C [l] [w3.map D.str]) q kvs) (kvs := [(.inr "rest", optD r), (.inr "more", optD m), (.inr "only", .tup (only.map D.str)), (.inr "plain", .tup (plain.map D.str)), (.inr "named", .tup (named.map D.str))]) famD_own hu (ev_var 3 rfl ⟨rfl, ev_str ⟨.inr _, _, rfl, rfl, ?_⟩⟩))
          | infer_instance | done)
        · rw [lenz, lenz]; omega
        · rw [List.map_append]
      rintro _ rfl
      refine bl_own0 (bl_mine (ps := []) (as := []) 6 rfl (ef_list (free_of hf (by decide +kernel)) ?_) hN)
      repeat' (first | infer_instance | done)
      · exact rt _ _ hb.own.dict.own (by rw [lenz, List.length_append]; omega) (by rw [lenz, List.length_append]; omega)
      intro b' many rr e h0 h1
      cases e
      have hpl2 : (only ++ plain).length = only.length + plain.length := List.length_append
      have ek : (((((only ++ plain).map D.str).length : Nat) : Int) - rr) = (((only ++ plain).length - rr.toNat : Nat) : Int) := by
        rw [lenz] at h1 ⊢
        omega
      repeat' (first | infer_instance | done)
      intro p
      rw [ek, cutD_from, ← List.map_drop]
      generalize hkk : (only ++ plain).length - rr.toNat = kk
      have hkl : kk ≤ (only ++ plain).length := by omega
      have lend : ((only ++ plain).drop kk).length ≤ 6 := by rw [List.length_drop]; omega
      refine bl_for (.one 7) (fun i C' Γ' => ∃ ns : List Str, C' = own K (ownD K (own K C [l] [w3.map D.str]) q [(.inr "rest", optD r), (.inr "more", optD m), (.inr "only", .tup (only.map D.str)), (.inr "plain", .tup (plain.map D.str)), (.inr "named", .tup (named.map D.str))]) [p] [((only ++ plain).drop kk ++ ns).map D.str] ∧ ns.Sublist (named.take i) ∧
        Le [some (.adr b), some (.lst (zs.map D.str)), some (.adr l), some (.adr q), some (.int n), some (.tup ((only ++ plain).map D.str)), some (.adr p), none] Γ')
        (ei_tup (ev_dgetO (q := q) (DF := fun kvs => own K (ownD K (own K C [l] [w3.map D.str]) q kvs) [p] [((only ++ plain).drop kk).map D.str]) (kvs := [(.inr "rest", optD r), (.inr "more", optD m), (.inr "only", .tup (only.map D.str)), (.inr "plain", .tup (plain.map D.str)), (.inr "named", .tup (named.map D.str))]) famD_own.own hu (ev_var 3 rfl ⟨rfl, ev_str ⟨.inr _, _, rfl, rfl, _, rfl, ?_, ?_, ?_⟩⟩))) (tg_one hN) PassesOwn.never
      · exact ⟨[], by simp only [List.append_nil]; rfl, List.nil_sublist _, .refl⟩
      · rintro i y C' Γ' hy ⟨ns, rfl, hns, hle⟩
        rw [List.getElem?_map] at hy
        obtain ⟨nm, hnm, rfl⟩ := Option.map_eq_some_iff.mp hy
        have hns1 := hns.length_le
        rw [List.length_take] at hns1
        have htk : named.take (i + 1) = named.take i ++ [nm] := by
          obtain ⟨hlt, e⟩ := List.getElem?_eq_some_iff.mp hnm
          rw [List.take_succ_eq_append_getElem hlt, e]
        refine ⟨_, rfl, ⟨bl_weak (hle.set 7 (some (.str nm))) ?_⟩⟩
        repeat' (first | infer_instance | done)
        · exact rt _ _ hb.own.dict.own (by decide) (by decide)
        intro b' many r2 e h2 h3
        cases e
        repeat' (first | infer_instance | done)
        · refine bl_append (i := 0) 0 rfl rfl (ev_var 6 rfl ⟨rfl, ev_var 7 rfl ⟨?_, bl_nil (bl_nil ⟨ns ++ [nm], ?_, ?_, ?_⟩)⟩⟩)
          · rw [lenz, List.length_append]; omega
          · rw [← List.append_assoc, List.map_append (l₂ := [nm])] <;> rfl
          · rw [htk]
            exact hns.append (List.Sublist.refl _)
          · exact .cons (.cons (.cons (.cons (.cons (.cons (.cons (.drop .refl)))))))
        · exact ⟨ns, rfl, by rw [htk]; exact hns.trans (List.sublist_append_left _ _), .cons (.cons (.cons (.cons (.cons (.cons (.cons (.drop .refl)))))))⟩
      · rintro C' Γ' ⟨ns, rfl, hns, hle⟩
        rw [lenz, List.take_length] at hns
        refine bl_weak hle (bl_free 6 rfl (bl_unown (bl_dput hu (ex_of (ev_tuple (free_of hf (by decide +kernel)) (ev_var 6 rfl ?_))))))
        refine ⟨q, fun kvs => ownD K (own K C [l] [w3.map D.str]) q kvs, [(.inr "rest", optD r), (.inr "more", optD m), (.inr "only", .tup (only.map D.str)), (.inr "plain", .tup (plain.map D.str)), (.inr "named", .tup (named.map D.str))], famD_own, rfl, (by show 5 < 1000; decide), ev_var 3 rfl ⟨rfl, ev_str ⟨.inr "defaults", rfl, bl_dfree 3 rfl (bl_ret ext_own (ev_var 3 rfl ?_))⟩⟩⟩
        have hper : (r.toList ++ m.toList ++ only ++ plain ++ named ++ w3).Perm zs := by
          simp only [List.append_assoc]
          exact ((((((((hp3.append_left plain).trans hp2).append_left only).trans hp1).append_left m.toList).trans hpm).append_left r.toList).trans hp)
        refine hT ⟨only, plain, r, named, m, (only ++ plain).drop kk ++ ns⟩ ⟨(List.nodup_append.mp (hper.nodup_iff.mpr hz.2.1)).1, fun x hx => hz.2.2 x (hper.mem_iff.mp (List.mem_append_left _ hx)), by show only.length + plain.length + named.length ≤ 6; omega, kk, ns, hkl, hns, rfl⟩
end
end K05
set_option maxHeartbeats 1000000
/-! K05F: the properties of Params. -/
namespace K05
open PySem PySem.Spec PyProof.Rows L2 GG
abbrev FnM (K : PySem.W.Frag) (m : Str) (j : Nat) (f : Addr) (fd : FuncData) : Prop := FunD K m ("Params" ++ "." ++ m) (defArgs (mem 14 j)) (defBody (mem 14 j)) (defScope (mem 14 j)) [] [] f fd
section
variable {P : Program} {w : World} {K : PySem.W.Frag} {mg : Str → Option Value} {base : Heap} {f Cl : Addr} {fd : FuncData}
def RFld (Cl : Addr) (x : Str) : SJ → List D → Prop := fun _ ds => ∃ gs y, ds = [.obj Cl gs] ∧ gs.lookup x = some y
def GFld (Cl : Addr) (x : Str) : List D → (D → Prop) → Prop := fun ds T => ∀ gs y, ds = [.obj Cl gs] → gs.lookup x = some y → T y
theorem get_only (F : FnM K "only" 1 f fd) (hc : Cls K Cl) (hn : NoAttr K Cl "only_names") : FnOk P w K mg base CX0 1 f fd ["self"] (spC K 1 (RFld Cl "only_names") (GFld Cl "only_names")) := by
  refine defO F (N := ["self"]) ⟨rfl, rfl, rfl, by decide +kernel, rfl, by decide +kernel, by decide +kernel⟩ rfl ?_
  rintro cdv A outer s H E C _ T hr hl ⟨gs, y, rfl, hy⟩ hT
  show Bl _ _ _ (.Return (some _) _ :: _) _
  exact bl_ret .rfl (ev_fld hc hn (ev_var 0 rfl ⟨gs, rfl, y, hy, hT gs y rfl hy⟩))
theorem get_plain (F : FnM K "plain" 2 f fd) (hc : Cls K Cl) (hn : NoAttr K Cl "plain_names") : FnOk P w K mg base CX0 1 f fd ["self"] (spC K 1 (RFld Cl "plain_names") (GFld Cl "plain_names")) := by
  refine defO F (N := ["self"]) ⟨rfl, rfl, rfl, by decide +kernel, rfl, by decide +kernel, by decide +kernel⟩ rfl ?_
  rintro cdv A outer s H E C _ T hr hl ⟨gs, y, rfl, hy⟩ hT
  show Bl _ _ _ (.Return (some _) _ :: _) _
  exact bl_ret .rfl (ev_fld hc hn (ev_var 0 rfl ⟨gs, rfl, y, hy, hT gs y rfl hy⟩))
theorem get_rest (F : FnM K "rest" 3 f fd) (hc : Cls K Cl) (hn : NoAttr K Cl "rest_name") : FnOk P w K mg base CX0 1 f fd ["self"] (spC K 1 (RFld Cl "rest_name") (GFld Cl "rest_name")) := by
  refine defO F (N := ["self"]) ⟨rfl, rfl, rfl, by decide +kernel, rfl, by decide +kernel, by decide +kernel⟩ rfl ?_
  rintro cdv A outer s H E C _ T hr hl ⟨gs, y, rfl, hy⟩ hT
  show Bl _ _ _ (.Return (some _) _ :: _) _
  exact bl_ret .rfl (ev_fld hc hn (ev_var 0 rfl ⟨gs, rfl, y, hy, hT gs y rfl hy⟩))
theorem get_named (F : FnM K "named" 4 f fd) (hc : Cls K Cl) (hn : NoAttr K Cl "named_names") : FnOk P w K mg base CX0 1 f fd ["self"] (spC K 1 (RFld Cl "named_names") (GFld Cl "named_names")) := by
  refine defO F (N := ["self"]) ⟨rfl, rfl, rfl, by decide +kernel, rfl, by decide +kernel, by decide +kernel⟩ rfl ?_
  rintro cdv A outer s H E C _ T hr hl ⟨gs, y, rfl, hy⟩ hT
  show Bl _ _ _ (.Return (some _) _ :: _) _
  exact bl_ret .rfl (ev_fld hc hn (ev_var 0 rfl ⟨gs, rfl, y, hy, hT gs y rfl hy⟩))
theorem get_more (F : FnM K "more" 5 f fd) (hc : Cls K Cl) (hn : NoAttr K Cl "more_name") : FnOk P w K mg base CX0 1 f fd ["self"] (spC K 1 (RFld Cl "more_name") (GFld Cl "more_name")) := by
  refine defO F (N := ["self"]) ⟨rfl, rfl, rfl, by decide +kernel, rfl, by decide +kernel, by decide +kernel⟩ rfl ?_
  rintro cdv A outer s H E C _ T hr hl ⟨gs, y, rfl, hy⟩ hT
  show Bl _ _ _ (.Return (some _) _ :: _) _
  exact bl_ret .rfl (ev_fld hc hn (ev_var 0 rfl ⟨gs, rfl, y, hy, hT gs y rfl hy⟩))
theorem get_defaults (F : FnM K "defaults" 6 f fd) (hc : Cls K Cl) (hn : NoAttr K Cl "default_names") : FnOk P w K mg base CX0 1 f fd ["self"] (spC K 1 (RFld Cl "default_names") (GFld Cl "default_names")) := by
  refine defO F (N := ["self"]) ⟨rfl, rfl, rfl, by decide +kernel, rfl, by decide +kernel, by decide +kernel⟩ rfl ?_
  rintro cdv A outer s H E C _ T hr hl ⟨gs, y, rfl, hy⟩ hT
  show Bl _ _ _ (.Return (some _) _ :: _) _
  exact bl_ret .rfl (ev_fld hc hn (ev_var 0 rfl ⟨gs, rfl, y, hy, hT gs y rfl hy⟩))
def RPos (Cl : Addr) : SJ → List D → Prop := fun _ ds => ∃ gs, ∃ a b : List Str, ds = [.obj Cl gs] ∧ gs.lookup ("only_names" : Str) = some (.tup (a.map D.str)) ∧ gs.lookup ("plain_names" : Str) = some (.tup (b.map D.str)) ∧ a.length + b.length ≤ 1000
def GPos (Cl : Addr) : List D → (D → Prop) → Prop := fun ds T => ∀ gs, ∀ a b : List Str, ds = [.obj Cl gs] → gs.lookup ("only_names" : Str) = some (.tup (a.map D.str)) → gs.lookup ("plain_names" : Str) = some (.tup (b.map D.str)) → T (.tup ((a ++ b).map D.str))
theorem get_positional (F : FnM K "positional" 7 f fd) (hc : Cls K Cl) (h1 : NoAttr K Cl "only_names") (h2 : NoAttr K Cl "plain_names") : FnOk P w K mg base CX0 1 f fd ["self"] (spC K 1 (RPos Cl) (GPos Cl)) := by
  refine defO F (N := ["self"]) ⟨rfl, rfl, rfl, by decide +kernel, rfl, by decide +kernel, by decide +kernel⟩ rfl ?_
  rintro cdv A outer s H E C _ T hr hl ⟨gs, a, b, rfl, ha, hb, hz⟩ hT
  show Bl _ _ _ (.Return (some _) _ :: _) _
  refine bl_ret .rfl (ev_add (ev_fld hc h1 (ev_var 0 rfl ⟨gs, rfl, _, ha, ev_fld hc h2 (ev_var 0 rfl ⟨gs, rfl, _, hb, d_addT ?_ ?_⟩)⟩)))
  · rw [List.length_map, List.length_map]; have := line1000; omega
  · rw [← List.map_append]
    exact hT gs a b rfl ha hb
end
end K05
set_option maxHeartbeats 1000000
/-! K05G: extra. -/
namespace K05
open PySem PySem.Spec PyProof.Rows L2 GG
/-- the object of a list of parameters (its defaults as they stand in it, in order) -/
structure IsP (gs : List (Str × D)) (o : One) : Prop where
  only : gs.lookup ("only_names" : Str) = some (.tup (o.only.map D.str))
  plain : gs.lookup ("plain_names" : Str) = some (.tup (o.plain.map D.str))
  named : gs.lookup ("named_names" : Str) = some (.tup (o.named.map D.str))
  rest : gs.lookup ("rest_name" : Str) = some (optD o.rest)
  more : gs.lookup ("more_name" : Str) = some (optD o.more)
  dflt : gs.lookup ("default_names" : Str) = some (.tup ((srtS o.defaults).map D.str))
  few : o.only.length + o.plain.length + o.named.length ≤ 6
  ok : ∀ x ∈ o.names ++ o.defaults, PyData.strOk x = true
section
variable {P : Program} {w : World} {K : PySem.W.Frag} {mg : Str → Option Value} {base : Heap} {f Cl : Addr} {fd : FuncData}
theorem ev_get {X : Cx} {C : SJ} {Γ : En} {T : D → Prop} {m fld : Str} {e : Expr} {pos : Pos} {y : D} (F : PropD X.prog X.w X.K X.mg X.base Cl m 1 (RFld Cl fld) (GFld Cl fld)) (hr : Room 2 X.A)
    (h : Ev X C Γ e fun d => ∃ gs, d = .obj Cl gs ∧ gs.lookup fld = some y ∧ T y) (hb : attributeBase e m X.env (eval e X.env) = eval e X.env := by rfl) : Ev X C Γ (.Attribute e m pos) T :=
  ev_prop F hr (h.imp fun d ⟨gs, ed, hy, t⟩ => ⟨gs, ed, ⟨gs, y, by rw [ed], hy⟩, fun gs' y' e' h' => by
    rw [ed] at e'
    cases e'
    rw [hy] at h'
    cases h'
    exact t⟩) hb
def extra (o : One) (ns : List Str) : List Str := ns.filter fun x => !decide (x ∈ o.plain) && !decide (x ∈ o.named)
def RExt (Cl : Addr) : SJ → List D → Prop := fun _ ds => ∃ gs o, ∃ ns : List Str, ds = [.obj Cl gs, .tup (ns.map D.str)] ∧ IsP gs o ∧ ns.length ≤ 12 ∧ ∀ x ∈ ns, PyData.strOk x = true
def GExt (Cl : Addr) : List D → (D → Prop) → Prop := fun ds T => ∀ gs o, ∀ ns : List Str, ds = [.obj Cl gs, .tup (ns.map D.str)] → IsP gs o → T (.tup ((extra o ns).map D.str))
theorem ok_extra (F : FnM K "extra" 13 f fd) (hf : Frees mg fr) (c2 : PropD P w K mg base Cl "plain" 1 (RFld Cl "plain_names") (GFld Cl "plain_names")) (c4 : PropD P w K mg base Cl "named" 1 (RFld Cl "named_names") (GFld Cl "named_names")) :
    FnOk P w K mg base CX0 3 f fd ["self", "names"] (spC K 2 (RExt Cl) (GExt Cl)) := by
  refine defO F (N := ["self", "names", "name"]) ⟨rfl, rfl, rfl, by decide +kernel, rfl, by decide +kernel, by decide +kernel⟩ rfl ?_
  rintro cdv A outer s H E C _ T hr hl ⟨gs, o, ns, rfl, ho, hn, hok⟩ hT
  have hN : (["self", "names", "name"] : List Str).Nodup := by decide +kernel
  have hz := line1000
  show Bl _ _ _ (.Return (some _) _ :: _) _
  refine bl_ret .rfl (ev_tuple (free_of hf (by decide +kernel)) (ev_F (ef_filter (ow := [("name", 2)]) (.one 2) (fun y => match y with | .str x => !decide (x ∈ o.plain) && !decide (x ∈ o.named) | _ => false) id (ns.map D.str) (by rw [List.length_map]; omega) (ei_tup (ev_var 1 rfl ⟨_, rfl, rfl, ?_, ?_⟩)) ?_ ?_ hN)))
  · intro y hy
    obtain ⟨x, hx, rfl⟩ := List.mem_map.mp hy
    have hxo := hok x hx
    refine ⟨_, rfl, fun s H0 k cl fp p acc hp => ⟨et_w (ew_and (et_notIn (u65 hr) (ev_var 2 rfl (ev_get c2 hr (ev_var 0 rfl ⟨gs, rfl, ho.plain, d_inT hxo (fun z hz => ho.ok z (by simp [One.names, hz])) (d_bo ⟨fun h => ew_and1 (et_notIn (u65 hr) (ev_var 2 rfl (ev_get c4 hr (ev_var 0 rfl ⟨gs, rfl, ho.named, d_inT hxo (fun z hz => ho.ok z (by simp [One.names, hz])) (d_bo ?_)⟩)))), fun h => ?_⟩)⟩))))), ev_var 2 rfl rfl⟩⟩
    · show _ = (!decide (x ∈ o.plain) && !decide (x ∈ o.named))
      rw [h, Bool.true_and]
    · show false = (!decide (x ∈ o.plain) && !decide (x ∈ o.named))
      rw [h, Bool.false_and]
  · show T _
    have := hT gs o ns rfl ho
    unfold extra at this
    rw [List.map_id, List.filter_map]
    exact this
  · exact (show BlkOk ["self", "names", "name"] (defScope (mem 14 13)) _ _ from ⟨rfl, by decide +kernel, by decide +kernel, by decide +kernel, by decide +kernel⟩)
  · intro s H c cl fp
    exact tg_one hN
end
end K05
set_option maxHeartbeats 1000000
/-! K05H: refusal. -/
namespace K05
open PySem PySem.Spec PyProof.Rows L2 GG
def posn (o : One) : List Str := o.only ++ o.plain
def twc (o : One) (c : Int) (ns : List Str) : List Str := ((posn o).zipIdx.filter fun p => decide ((p.2 : Int) < c) && (decide (p.1 ∈ o.plain) && decide (p.1 ∈ ns))).map (·.1)
def mis1 (o : One) (c : Int) (ns : List Str) : List Str := ((posn o).drop c.toNat).filter fun x => decide (x ∈ o.only) || !decide (x ∈ ns)
def mis (o : One) (c : Int) (ns : List Str) : List Str := (mis1 o c ns ++ o.named.filter fun x => !decide (x ∈ ns)).filter fun x => !decide (x ∈ srtS o.defaults)
def rsnD (o : One) (c : Int) (ns : List Str) : D :=
  if o.rest = none ∧ ((posn o).length : Int) < c then .tup [.str "many"]
  else match twc o c ns with
    | t :: _ => .tup [.str "twice", .str t]
    | [] => if o.more = none ∧ extra o ns ≠ [] then .tup [.str "unknown"]
      else match mis o c ns with
        | m :: _ => .tup [.str "missing", .str m]
        | [] => .non
theorem enum_strs (xs : List Str) : enumD (xs.map D.str) = xs.zipIdx.map fun p => D.tup [.int (p.2 : Nat), .str p.1] := by
  unfold enumD
  rw [List.zipIdx_map, List.map_map]
  rfl
theorem enum_mem {xs : List Str} {y : D} (h : y ∈ enumD (xs.map D.str)) : ∃ (i : Nat) (x : Str), y = .tup [.int (i : Nat), .str x] ∧ x ∈ xs ∧ xs[i]? = some x := by
  rw [enum_strs] at h
  obtain ⟨p, hp, rfl⟩ := List.mem_map.mp h
  have := List.mem_zipIdx' hp
  refine ⟨p.2, p.1, rfl, ?_, ?_⟩
  · rw [this.2]; exact List.getElem_mem _
  · rw [this.2]; exact List.getElem?_eq_getElem _
@[reducible] def pr2 (f : Int → Str → Bool) : D → Bool
  | .tup [.int i, .str x] => f i x
  | _ => false
@[reducible] def snd2 : D → D
  | .tup [_, y] => y
  | d => d
theorem enum_filter (xs : List Str) (f : Int → Str → Bool) : ((enumD (xs.map D.str)).filter (pr2 f)).map snd2 = ((xs.zipIdx.filter fun p => f (p.2 : Int) p.1).map (·.1)).map D.str := by
  rw [enum_strs, List.filter_map, List.map_map, List.map_map]
  rfl
@[reducible] def pr1 (f : Str → Bool) : D → Bool
  | .str x => f x
  | _ => false
theorem strs_filter (xs : List Str) (f : Str → Bool) : ((xs.map D.str).filter (pr1 f)).map id = (xs.filter f).map D.str := by
  rw [List.map_id, List.filter_map]
  rfl
theorem isNone_opt (r : Option Str) : isNone (optD r) = decide (r = none) := by cases r <;> rfl
section
variable {P : Program} {w : World} {K : PySem.W.Frag} {mg : Str → Option Value} {base : Heap} {f Cl : Addr} {fd : FuncData}
theorem ev_pos {X : Cx} {C : SJ} {Γ : En} {T : D → Prop} {e : Expr} {pos : Pos} (F : PropD X.prog X.w X.K X.mg X.base Cl "positional" 1 (RPos Cl) (GPos Cl)) (hr : Room 2 X.A)
    (h : Ev X C Γ e fun d => ∃ gs o, d = .obj Cl gs ∧ IsP gs o ∧ T (.tup ((posn o).map D.str))) (hb : attributeBase e "positional" X.env (eval e X.env) = eval e X.env := by rfl) : Ev X C Γ (.Attribute e "positional" pos) T :=
  ev_prop F hr (h.imp fun d ⟨gs, o, ed, ho, t⟩ => ⟨gs, ed, ⟨gs, o.only, o.plain, by rw [ed], ho.only, ho.plain, by have := ho.few; omega⟩, fun gs' a b e' h1 h2 => by
    rw [ed] at e'
    cases e'
    have i1 : a.map D.str = o.only.map D.str := by have := h1.symm.trans ho.only; injection this with this; injection this
    have i2 : b.map D.str = o.plain.map D.str := by have := h2.symm.trans ho.plain; injection this with this; injection this
    have inj : ∀ {a c : List Str}, a.map D.str = c.map D.str → a = c := fun h => (List.map_inj_right (fun a b h => by cases h; rfl)).mp h
    rw [inj i1, inj i2]
    exact t⟩) hb
structure NoM (gs : List (Str × D)) : Prop where
  extra : gs.lookup ("extra" : Str) = none
  refusal : gs.lookup ("refusal" : Str) = none
  counts : gs.lookup ("counts" : Str) = none
  bind : gs.lookup ("bind" : Str) = none
  by_name : gs.lookup ("by_name" : Str) = none
  parts : gs.lookup ("parts" : Str) = none
def RRef (Cl : Addr) : SJ → List D → Prop := fun _ ds => ∃ gs o, ∃ c : Int, ∃ ns : List Str, ds = [.obj Cl gs, .tup [.int c, .tup (ns.map D.str)]] ∧ IsP gs o ∧ NoM gs ∧ 0 ≤ c ∧ ns.length ≤ 12 ∧ ∀ x ∈ ns, PyData.strOk x = true
def GRef (Cl : Addr) : List D → (D → Prop) → Prop := fun ds T => ∀ gs o, ∀ c : Int, ∀ ns : List Str, ds = [.obj Cl gs, .tup [.int c, .tup (ns.map D.str)]] → IsP gs o → T (rsnD o c ns)
structure Props (P : Program) (w : World) (K : PySem.W.Frag) (mg : Str → Option Value) (base : Heap) (Cl : Addr) : Prop where
  only : PropD P w K mg base Cl "only" 1 (RFld Cl "only_names") (GFld Cl "only_names")
  plain : PropD P w K mg base Cl "plain" 1 (RFld Cl "plain_names") (GFld Cl "plain_names")
  rest : PropD P w K mg base Cl "rest" 1 (RFld Cl "rest_name") (GFld Cl "rest_name")
  named : PropD P w K mg base Cl "named" 1 (RFld Cl "named_names") (GFld Cl "named_names")
  more : PropD P w K mg base Cl "more" 1 (RFld Cl "more_name") (GFld Cl "more_name")
  dflt : PropD P w K mg base Cl "defaults" 1 (RFld Cl "default_names") (GFld Cl "default_names")
  pos : PropD P w K mg base Cl "positional" 1 (RPos Cl) (GPos Cl)
structure IsP.Alike (o o' : One) : Prop where
  only : o.only = o'.only
  plain : o.plain = o'.plain
  named : o.named = o'.named
  dflt : srtS o.defaults = srtS o'.defaults
  rest : o.rest = o'.rest
  more : o.more = o'.more
theorem strs_inj : ∀ {a c : List Str}, a.map D.str = c.map D.str → a = c := fun h => (List.map_inj_right (fun a b h => by cases h; rfl)).mp h
theorem IsP.alike {gs : List (Str × D)} {o o' : One} (h : IsP gs o) (h' : IsP gs o') : IsP.Alike o o' := by
  have oi : ∀ {a b : Option Str}, some (optD a) = some (optD b) → a = b := fun {a b} h => by
    cases a <;> cases b <;> simp_all [optD]
  exact ⟨strs_inj (by have := h.only.symm.trans h'.only; injection this with this; injection this), strs_inj (by have := h.plain.symm.trans h'.plain; injection this with this; injection this),
    strs_inj (by have := h.named.symm.trans h'.named; injection this with this; injection this), strs_inj (by have := h.dflt.symm.trans h'.dflt; injection this with this; injection this),
    oi (h.rest.symm.trans h'.rest), oi (h.more.symm.trans h'.more)⟩
theorem IsP.inj {gs : List (Str × D)} {o o' : One} (h : IsP gs o) (h' : IsP gs o') (c : Int) (ns : List Str) : rsnD o c ns = rsnD o' c ns := by
  obtain ⟨e1, e2, e3, e4, e5, e6⟩ := h.alike h'
  unfold rsnD twc mis mis1 posn extra
  rw [e1, e2, e3, e4, e5, e6]
theorem IsP.ext {gs : List (Str × D)} {o o' : One} (h : IsP gs o) (h' : IsP gs o') (ns : List Str) : extra o ns = extra o' ns := by
  obtain ⟨e1, e2, e3, e4, e5, e6⟩ := h.alike h'
  unfold extra
  rw [e2, e3]
end
end K05
set_option maxHeartbeats 1000000
/-! K05P: plain law of refusals and counts. -/
namespace K05
open PySem PySem.Spec PyProof.Rows L2 GG
theorem filter_first {α : Type} {p : α → Bool} : ∀ {xs : List α} {i : Nat} {x : α}, xs[i]? = some x → p x = true → (∀ (j : Nat) y, j < i → xs[j]? = some y → p y = false) → ∃ r, xs.filter p = x :: r
  | [], i, x, h, _, _ => by simp at h
  | z :: xs, 0, x, h, hp, _ => by
    simp at h
    subst h
    exact ⟨_, List.filter_cons_of_pos hp⟩
  | z :: xs, i + 1, x, h, hp, hn => by
    have hz : p z = false := hn 0 z (by omega) (by simp)
    obtain ⟨r, e⟩ := filter_first (xs := xs) (i := i) (x := x) (by simpa using h) hp fun j y hj hy => hn (j + 1) y (by omega) (by simpa using hy)
    exact ⟨r, by rw [List.filter_cons_of_neg (by rw [hz]; exact Bool.false_ne_true), e]⟩
theorem filter_none {α : Type} {p : α → Bool} {xs : List α} (h : ∀ x ∈ xs, p x = false) : xs.filter p = [] := List.filter_eq_nil_iff.mpr fun x hx => by rw [h x hx]; exact Bool.false_ne_true
theorem zip_at {xs : List Str} {i : Nat} {p : Str × Nat} (h : xs.zipIdx[i]? = some p) : p.2 = i ∧ xs[i]? = some p.1 := by
  rw [List.getElem?_zipIdx] at h
  cases e : xs[i]? with
  | none => rw [e] at h; cases h
  | some x =>
    rw [e] at h
    cases h
    exact ⟨by simp, rfl⟩
theorem at_zip {xs : List Str} {i : Nat} {x : Str} (h : xs[i]? = some x) : xs.zipIdx[i]? = some (x, i) := by
  rw [List.getElem?_zipIdx, h]
  simp
section
variable {o : One} {c : Int} {ns : List Str}
theorem twc_nil (h : ∀ (i : Nat) x, (posn o)[i]? = some x → (i : Int) < c → x ∈ o.plain → x ∈ ns → False) : twc o c ns = [] := by
  unfold twc
  rw [filter_none, List.map_nil]
  intro p hp
  obtain ⟨i, hi⟩ := List.getElem?_of_mem hp
  obtain ⟨e1, e2⟩ := zip_at hi
  rw [Bool.eq_false_iff]
  intro z
  simp only [Bool.and_eq_true, decide_eq_true_eq] at z
  exact h i p.1 e2 (by rw [← e1]; exact z.1) z.2.1 z.2.2
theorem twc_cons {i : Nat} {x : Str} (h : (posn o)[i]? = some x) (h1 : (i : Int) < c) (h2 : x ∈ o.plain) (h3 : x ∈ ns) (hn : ∀ (j : Nat) y, j < i → (posn o)[j]? = some y → (j : Int) < c → y ∈ o.plain → y ∈ ns → False) : ∃ r, twc o c ns = x :: r := by
  obtain ⟨r, e⟩ := filter_first (p := fun p : Str × Nat => decide ((p.2 : Int) < c) && (decide (p.1 ∈ o.plain) && decide (p.1 ∈ ns))) (at_zip h) (by simp [h1, h2, h3]) fun j y hj hy => by
    obtain ⟨e1, e2⟩ := zip_at hy
    rw [Bool.eq_false_iff]
    intro z
    simp only [Bool.and_eq_true, decide_eq_true_eq] at z
    exact hn j y.1 hj e2 (by rw [← e1]; exact z.1) z.2.1 z.2.2
  exact ⟨r.map (·.1), by unfold twc; rw [e] <;> rfl⟩
theorem twc_mem {x : Str} (h : x ∈ twc o c ns) : ∃ i : Nat, (posn o)[i]? = some x ∧ (i : Int) < c ∧ x ∈ o.plain ∧ x ∈ ns := by
  unfold twc at h
  obtain ⟨p, hp, rfl⟩ := List.mem_map.mp h
  obtain ⟨hp1, hp2⟩ := List.mem_filter.mp hp
  obtain ⟨i, hi⟩ := List.getElem?_of_mem hp1
  obtain ⟨e1, e2⟩ := zip_at hi
  simp only [Bool.and_eq_true, decide_eq_true_eq] at hp2
  exact ⟨i, e2, by rw [← e1]; exact hp2.1, hp2.2.1, hp2.2.2⟩
theorem mis_eq : mis o c ns = (((posn o).drop c.toNat).filter fun x => (decide (x ∈ o.only) || !decide (x ∈ ns)) && !decide (x ∈ srtS o.defaults)) ++ o.named.filter fun x => !decide (x ∈ ns) && !decide (x ∈ srtS o.defaults) := by
  unfold mis mis1
  rw [List.filter_append, List.filter_filter, List.filter_filter]
  congr 1
  · exact List.filter_congr fun x _ => Bool.and_comm _ _
  · exact List.filter_congr fun x _ => Bool.and_comm _ _
theorem dflt_iff {x : Str} : x ∈ srtS o.defaults ↔ x ∈ o.defaults := (srtS_perm _).mem_iff
theorem misA_nil (h : ∀ (i : Nat) x, (posn o)[i]? = some x → c ≤ i → x ∉ o.defaults → (x ∈ o.only ∨ x ∉ ns) → False) (hc : 0 ≤ c) : (((posn o).drop c.toNat).filter fun x => (decide (x ∈ o.only) || !decide (x ∈ ns)) && !decide (x ∈ srtS o.defaults)) = [] := by
  refine filter_none fun x hx => ?_
  obtain ⟨i, hi⟩ := List.getElem?_of_mem hx
  rw [List.getElem?_drop] at hi
  rw [Bool.eq_false_iff]
  intro z
  simp only [Bool.and_eq_true, Bool.or_eq_true, Bool.not_eq_true', decide_eq_true_eq, decide_eq_false_iff_not, dflt_iff] at z
  exact h _ x hi (by omega) z.2 z.1
theorem misA_cons {i : Nat} {x : Str} (h : (posn o)[i]? = some x) (h1 : c ≤ i) (h2 : x ∉ o.defaults) (h3 : x ∈ o.only ∨ x ∉ ns) (hc : 0 ≤ c)
    (hn : ∀ (j : Nat) y, j < i → (posn o)[j]? = some y → c ≤ j → y ∉ o.defaults → (y ∈ o.only ∨ y ∉ ns) → False) : ∃ r, mis o c ns = x :: r := by
  have hi : ((posn o).drop c.toNat)[i - c.toNat]? = some x := by
    rw [List.getElem?_drop]
    rw [show c.toNat + (i - c.toNat) = i by omega]
    exact h
  obtain ⟨r, e⟩ := filter_first (p := fun x => (decide (x ∈ o.only) || !decide (x ∈ ns)) && !decide (x ∈ srtS o.defaults)) hi (by
    simp only [Bool.and_eq_true, Bool.or_eq_true, Bool.not_eq_true', decide_eq_true_eq, decide_eq_false_iff_not, dflt_iff]
    exact ⟨h3, h2⟩) fun j y hj hy => by
    rw [List.getElem?_drop] at hy
    rw [Bool.eq_false_iff]
    intro z
    simp only [Bool.and_eq_true, Bool.or_eq_true, Bool.not_eq_true', decide_eq_true_eq, decide_eq_false_iff_not, dflt_iff] at z
    exact hn _ y (by omega) hy (by omega) z.2 z.1
  exact ⟨_, by rw [mis_eq, e, List.cons_append]⟩
theorem misB_cons {i : Nat} {x : Str} (ha : ∀ (i : Nat) x, (posn o)[i]? = some x → c ≤ i → x ∉ o.defaults → (x ∈ o.only ∨ x ∉ ns) → False) (hc : 0 ≤ c) (h : o.named[i]? = some x) (h2 : x ∉ o.defaults) (h3 : x ∉ ns)
    (hn : ∀ (j : Nat) y, j < i → o.named[j]? = some y → y ∉ ns → y ∉ o.defaults → False) : ∃ r, mis o c ns = x :: r := by
  obtain ⟨r, e⟩ := filter_first (p := fun x => !decide (x ∈ ns) && !decide (x ∈ srtS o.defaults)) h (by
    simp only [Bool.and_eq_true, Bool.not_eq_true', decide_eq_false_iff_not, dflt_iff]
    exact ⟨h3, h2⟩) fun j y hj hy => by
    rw [Bool.eq_false_iff]
    intro z
    simp only [Bool.and_eq_true, Bool.not_eq_true', decide_eq_false_iff_not, dflt_iff] at z
    exact hn j y hj hy z.1 z.2
  exact ⟨_, by rw [mis_eq, misA_nil ha hc, e, List.nil_append]⟩
theorem mis_nil (ha : ∀ (i : Nat) x, (posn o)[i]? = some x → c ≤ i → x ∉ o.defaults → (x ∈ o.only ∨ x ∉ ns) → False) (hc : 0 ≤ c) (hb : ∀ x ∈ o.named, x ∉ ns → x ∉ o.defaults → False) : mis o c ns = [] := by
  rw [mis_eq, misA_nil ha hc, List.nil_append]
  refine filter_none fun x hx => ?_
  rw [Bool.eq_false_iff]
  intro z
  simp only [Bool.and_eq_true, Bool.not_eq_true', decide_eq_false_iff_not, dflt_iff] at z
  exact hb x hx z.1 z.2
theorem mis_memA {i : Nat} {x : Str} (hc : 0 ≤ c) (h : (posn o)[i]? = some x) (h1 : c ≤ i) (h2 : x ∉ o.defaults) (h3 : x ∈ o.only ∨ x ∉ ns) : mis o c ns ≠ [] := by
  rw [mis_eq]
  intro z
  have z := (List.append_eq_nil_iff.mp z).1
  have hx : x ∈ (posn o).drop c.toNat := by
    refine List.mem_of_getElem? (i := i - c.toNat) ?_
    rw [List.getElem?_drop, show c.toNat + (i - c.toNat) = i by omega]
    exact h
  refine absurd ?_ (List.filter_eq_nil_iff.mp z x hx)
  simp only [Bool.and_eq_true, Bool.or_eq_true, Bool.not_eq_true', decide_eq_true_eq, decide_eq_false_iff_not, dflt_iff]
  exact ⟨h3, h2⟩
theorem mis_memB {x : Str} (h : x ∈ o.named) (h2 : x ∉ o.defaults) (h3 : x ∉ ns) : mis o c ns ≠ [] := by
  rw [mis_eq]
  intro z
  have z := (List.append_eq_nil_iff.mp z).2
  refine absurd ?_ (List.filter_eq_nil_iff.mp z x h)
  simp only [Bool.and_eq_true, Bool.not_eq_true', decide_eq_false_iff_not, dflt_iff]
  exact ⟨h3, h2⟩
/-! the reasons in turn -/
theorem rsn_many (h : o.rest = none) (h2 : ((posn o).length : Int) < c) : rsnD o c ns = .tup [.str "many"] := by
  unfold rsnD
  rw [if_pos ⟨h, h2⟩]
theorem rsn_twice {t : Str} {r : List Str} (h : ¬(o.rest = none ∧ ((posn o).length : Int) < c)) (h2 : twc o c ns = t :: r) : rsnD o c ns = .tup [.str "twice", .str t] := by
  unfold rsnD
  rw [if_neg h, h2]
theorem rsn_unknown (h : ¬(o.rest = none ∧ ((posn o).length : Int) < c)) (h2 : twc o c ns = []) (h3 : o.more = none) (h4 : extra o ns ≠ []) : rsnD o c ns = .tup [.str "unknown"] := by
  unfold rsnD
  rw [if_neg h, h2]
  show (if o.more = none ∧ extra o ns ≠ [] then D.tup [.str "unknown"] else _) = _
  rw [if_pos ⟨h3, h4⟩]
theorem rsn_missing {t : Str} {r : List Str} (h : ¬(o.rest = none ∧ ((posn o).length : Int) < c)) (h2 : twc o c ns = []) (h3 : ¬(o.more = none ∧ extra o ns ≠ [])) (h4 : mis o c ns = t :: r) : rsnD o c ns = .tup [.str "missing", .str t] := by
  unfold rsnD
  rw [if_neg h, h2]
  show (if o.more = none ∧ extra o ns ≠ [] then D.tup [.str "unknown"] else _) = _
  rw [if_neg h3, h4]
theorem rsn_none (h : ¬(o.rest = none ∧ ((posn o).length : Int) < c)) (h2 : twc o c ns = []) (h3 : ¬(o.more = none ∧ extra o ns ≠ [])) (h4 : mis o c ns = []) : rsnD o c ns = .non := by
  unfold rsnD
  rw [if_neg h, h2]
  show (if o.more = none ∧ extra o ns ≠ [] then D.tup [.str "unknown"] else _) = _
  rw [if_neg h3, h4]
theorem rsn_iff : isNone (rsnD o c ns) = true ↔ ¬(o.rest = none ∧ ((posn o).length : Int) < c) ∧ twc o c ns = [] ∧ ¬(o.more = none ∧ extra o ns ≠ []) ∧ mis o c ns = [] := by
  constructor
  · intro h
    by_cases h1 : o.rest = none ∧ ((posn o).length : Int) < c
    · rw [rsn_many h1.1 h1.2] at h; cases h
    cases h2 : twc o c ns with
    | cons t r => rw [rsn_twice h1 h2] at h; cases h
    | nil =>
      by_cases h3 : o.more = none ∧ extra o ns ≠ []
      · rw [rsn_unknown h1 h2 h3.1 h3.2] at h; cases h
      cases h4 : mis o c ns with
      | cons t r => rw [rsn_missing h1 h2 h3 h4] at h; cases h
      | nil => exact ⟨h1, rfl, h3, rfl⟩
  · rintro ⟨h1, h2, h3, h4⟩
    rw [rsn_none h1 h2 h3 h4]; rfl
end
end K05
set_option maxHeartbeats 1000000
/-! K05I: refusal, its walk. -/
namespace K05
open PySem PySem.Spec PyProof.Rows L2 GG
section
variable {P : Program} {w : World} {K : PySem.W.Frag} {mg : Str → Option Value} {base : Heap} {f Cl : Addr} {fd : FuncData}
abbrev nRef : List Str := ["self", "call", "count", "names", "twice", "extra", "missing", "at", "name"]
theorem ok_refusal (F : FnM K "refusal" 14 f fd) (hf : Frees mg fr) (pc : Props P w K mg base Cl) (cx : MethD P w K mg base Cl "extra" 3 2 (RExt Cl) (GExt Cl)) :
    FnOk P w K mg base CX0 4 f fd ["self", "call"] (spC K 2 (RRef Cl) (GRef Cl)) := by
  refine defO F (N := ["self", "call", "count", "names", "twice", "extra", "missing", "at", "name"]) ⟨rfl, rfl, rfl, by decide +kernel, rfl, by decide +kernel, by decide +kernel⟩ rfl ?_
  rintro cdv A outer s H E C _ T hr hl ⟨gs, o, c, ns, rfl, ho, hm, hc, hn, hok⟩ hT
  have hN : (["self", "call", "count", "names", "twice", "extra", "missing", "at", "name"] : List Str).Nodup := by decide +kernel
  have hz := line1000
  have hT' : T (rsnD o c ns) := hT gs o c ns rfl ho
  have r2 := hr.mono (j := 2) (by decide)
  have hlen : (posn o).length ≤ 6 := by unfold posn; rw [List.length_append]; have := ho.few; omega
  have okp : ∀ z ∈ o.plain, PyData.strOk z = true := fun z hz => ho.ok z (by simp [One.names, hz])
  have oko : ∀ z ∈ o.only, PyData.strOk z = true := fun z hz => ho.ok z (by simp [One.names, hz])
  have okn : ∀ z ∈ o.named, PyData.strOk z = true := fun z hz => ho.ok z (by simp [One.names, hz])
  have okd : ∀ z ∈ srtS o.defaults, PyData.strOk z = true := fun z hz => ho.ok z (List.mem_append_right _ ((srtS_perm _).mem_iff.mp hz))
  have okq : ∀ z ∈ posn o, PyData.strOk z = true := fun z hz => (List.mem_append.mp hz).elim (oko z) (okp z)
  show Bl _ _ _ (.Assign [.Tuple _ _ _] _ _ :: _) _
  refine bl_asgT [2, 3] (ev_var 1 rfl ⟨_, rfl, rfl, ?_⟩) (pg_tup rfl (pgs_name (pgs_name pgs_nil hN) hN))
  have okt : ∀ z ∈ twc o c ns, PyData.strOk z = true := fun z hz => by
    unfold twc at hz
    obtain ⟨p, hp, rfl⟩ := List.mem_map.mp hz
    have h1 := (List.mem_filter.mp hp).2
    simp only [Bool.and_eq_true, decide_eq_true_eq] at h1
    exact okp _ h1.2.1
  have nil0 : ∀ z ∈ ([] : List Str), PyData.strOk z = true := fun z hz => absurd hz List.not_mem_nil
  -- many
  refine bl_ifM (fun C' Γ' => C = C' ∧ Γ' = [some (.obj Cl gs), some (.tup [.int c, .tup (ns.map D.str)]), some (.int c), some (.tup (ns.map D.str)), none, none, none, none, none] ∧ ¬(o.rest = none ∧ ((posn o).length : Int) < c)) ?_ ?_
  · refine et_w (ew_and (et_isN (ev_get pc.rest r2 (ev_var 0 rfl ⟨gs, rfl, ho.rest, ?_⟩))))
    rw [isNone_opt]
    refine if2_m (fun h => ?_) (fun h => if2_f (bl_nil ⟨rfl, rfl, fun z => of_decide_eq_false h z.1⟩))
    refine ew_and1 (et_gt (ev_var 2 rfl (ev_len (free_of hf (by decide +kernel)) (ev_pos pc.pos r2 (ev_var 0 rfl ⟨gs, o, rfl, ho, d_lenT (d_gt (d_bo ?_))⟩)))))
    rw [List.length_map]
    refine if2_m (fun h2 => ?_) (fun h2 => bl_nil ⟨rfl, rfl, fun z => of_decide_eq_false h2 z.2⟩)
    refine bl_ret (by first | exact GG.Ext.rfl | assumption) (ev_tup (ea_cons (ev_str (ea_nil ⟨by show 1 ≤ sizeLine; omega, ?_⟩))))
    have := hT'
    rw [rsn_many (of_decide_eq_true h) (of_decide_eq_true h2)] at this
    exact this
  rintro C' Γ' ⟨rfl, rfl, h1⟩
  -- twice
  refine bl_filter (ow := [("at", 7), ("name", 8)]) 4 (.many [.one 7, .one 8]) (pr2 fun i x => decide (i < c) && (decide (x ∈ o.plain) && decide (x ∈ ns))) snd2 (enumD ((posn o).map D.str)) (by rw [enumD_len, List.length_map]; omega)
    (ei_enumT (free_of hf (by decide +kernel)) (ev_pos pc.pos r2 (ev_var 0 rfl ⟨gs, o, rfl, ho, _, rfl, rfl, ?_, ?_⟩))) (show BlkOk nRef (defScope (mem 14 14)) _ _ from ⟨rfl, by decide +kernel, by decide +kernel, by decide +kernel, by decide +kernel⟩)
    (fun s H c cl fp => tg_many rfl (tgs_cons (tg_one hN) (tgs_cons (tg_one hN) tgs_nil))) hN (sw_true rfl rfl rfl (by decide +kernel))
  · intro y hy
    obtain ⟨i, x, rfl, hx, hi⟩ := enum_mem hy
    have hxo := okq x hx
    refine ⟨_, rfl, fun s H0 k cl fp p acc hp => ⟨?_, ev_var 8 rfl rfl⟩⟩
    refine et_w (ew_and (et_lt (ev_var 7 rfl (ev_var 2 rfl (d_ltI (d_bo ?_))))))
    refine if2_m (fun ha => ?_) (fun ha => ?_)
    · refine ew_and (et_in (u65 hr) (ev_var 8 rfl (ev_get pc.plain r2 (ev_var 0 rfl ⟨gs, rfl, ho.plain, d_inT hxo okp (d_bo ?_)⟩))))
      refine if2_m (fun hb => ?_) (fun hb => ?_)
      · refine ew_and1 (et_in (u65 hr) (ev_var 8 rfl (ev_var 3 rfl (d_inT hxo hok (d_bo ?_)))))
        show id (decide (x ∈ ns)) = (decide ((i : Int) < c) && (decide (x ∈ o.plain) && decide (x ∈ ns)))
        have hb : decide (x ∈ o.plain) = true := hb
        rw [ha, hb]; rfl
      · show false = (decide ((i : Int) < c) && (decide (x ∈ o.plain) && decide (x ∈ ns)))
        have hb : decide (x ∈ o.plain) = false := hb
        rw [ha, hb]; rfl
    · show false = (decide ((i : Int) < c) && (decide (x ∈ o.plain) && decide (x ∈ ns)))
      rw [ha]; rfl
  have e4 : ((enumD ((posn o).map D.str)).filter (pr2 fun i x => decide (i < c) && (decide (x ∈ o.plain) && decide (x ∈ ns)))).map snd2 = (twc o c ns).map D.str := enum_filter _ _
  rw [e4]
  -- twice, told
  refine bl_ifM (fun C' Γ' => C = C' ∧ Γ' = [some (.obj Cl gs), some (.tup [.int c, .tup (ns.map D.str)]), some (.int c), some (.tup (ns.map D.str)), some (.lst ((twc o c ns).map D.str)), none, none, none, none] ∧ twc o c ns = []) ?_ ?_
  · refine et_ne (u64 hr) (ev_var 4 rfl (ev_lstd (ea_nil ⟨Nat.zero_le _, d_neLs (xs := twc o c ns) (ys := []) okt nil0 (d_bo (if2_m (fun h => ?_) (fun h => bl_nil ⟨rfl, rfl, of_decide_eq_true (not_f h)⟩)))⟩)))
    have h := of_decide_eq_false (not_t h)
    cases ht : twc o c ns with
    | nil => exact absurd ht h
    | cons t r =>
      refine bl_ret (by first | exact GG.Ext.rfl | assumption) (ev_tup (ea_cons (ev_str (ea_cons (ev_ix (ev_var 4 rfl (ev_int (d_ixL ⟨.str t, atI_nat (j := 0) rfl, ea_nil ⟨by show 2 ≤ sizeLine; omega, ?_⟩⟩))))))))
      have := hT'
      rw [rsn_twice h1 ht] at this
      exact this
  rintro C' Γ' ⟨rfl, rfl, h2⟩
  -- extra
  refine bl_asg 5 (ev_meth cx hr (ev_var 0 rfl ⟨gs, rfl, hm.extra, ea_cons (ev_var 3 rfl (ea_nil ⟨rfl, ⟨gs, o, ns, rfl, ho, hn, hok⟩, fun gs' o' ns' e ho' => ?_⟩))⟩)) hN
  have e' : (.obj Cl gs : D) = .obj Cl gs' ∧ ns.map D.str = ns'.map D.str := by
    injection e with e1 e2
    injection e2 with e2 _
    injection e2 with e2
    exact ⟨e1, e2⟩
  obtain ⟨eg, en⟩ := e'
  injection eg with _ eg
  subst eg
  rw [← strs_inj en, ← ho.ext ho' ns]
  have oke : ∀ z ∈ extra o ns, PyData.strOk z = true := fun z hz => hok z (List.mem_filter.mp hz).1
  refine bl_ifM (fun C' Γ' => C = C' ∧ Γ' = [some (.obj Cl gs), some (.tup [.int c, .tup (ns.map D.str)]), some (.int c), some (.tup (ns.map D.str)), some (.lst ((twc o c ns).map D.str)), some (.tup ((extra o ns).map D.str)), none, none, none] ∧ ¬(o.more = none ∧ extra o ns ≠ [])) ?_ ?_
  · refine et_w (ew_and (et_isN (ev_get pc.more r2 (ev_var 0 rfl ⟨gs, rfl, ho.more, ?_⟩))))
    rw [isNone_opt]
    refine if2_m (fun h => ?_) (fun h => if2_f (bl_nil ⟨rfl, rfl, fun z => of_decide_eq_false h z.1⟩))
    refine ew_and1 (et_ne (u64 hr) (ev_var 5 rfl (ev_tup (ea_nil ⟨Nat.zero_le _, d_neTs (xs := extra o ns) (ys := []) oke nil0 (d_bo (if2_m (fun h3 => ?_) (fun h3 => bl_nil ⟨rfl, rfl, fun z => z.2 (of_decide_eq_true (not_f h3))⟩)))⟩))))
    refine bl_ret (by first | exact GG.Ext.rfl | assumption) (ev_tup (ea_cons (ev_str (ea_nil ⟨by show 1 ≤ sizeLine; omega, ?_⟩))))
    have := hT'
    rw [rsn_unknown h1 h2 (of_decide_eq_true h) (of_decide_eq_false (not_t h3))] at this
    exact this
  rintro C' Γ' ⟨rfl, rfl, h3⟩
  -- missing
  refine bl_own0 ?_
  refine bl_filterO (ow := [("name", 8)]) (ps := []) (as := []) 6 (.one 8) (pr1 fun x => decide (x ∈ o.only) || !decide (x ∈ ns)) id (((posn o).drop c.toNat).map D.str) (by rw [List.length_map, List.length_drop]; omega) rfl
    (ei_tup (ev_slice (ev_pos pc.pos r2 (ev_var 0 rfl ⟨gs, o, rfl, ho, d_eo (ev_var 2 rfl (d_exI (d_eoN (d_slT ⟨_, rfl, ?_, ?_, ?_⟩))))⟩))))
    (show BlkOk nRef (defScope (mem 14 14)) _ _ from ⟨rfl, by decide +kernel, by decide +kernel, by decide +kernel, by decide +kernel⟩) (fun s H c cl fp => tg_one hN) hN (sw_true rfl rfl rfl (by decide +kernel))
  · have ec : c = ((c.toNat : Nat) : Int) := by omega
    rw [ec, cutD_from, ← List.map_drop, ← ec]
  · intro y hy
    obtain ⟨x, hx, rfl⟩ := List.mem_map.mp hy
    have hxo := okq x (List.mem_of_mem_drop hx)
    refine ⟨_, rfl, fun s H0 k cl fp p acc hp => ⟨?_, ev_var 8 rfl rfl⟩⟩
    refine et_w (ew_or (et_in (u65 hr) (ev_var 8 rfl (ev_get pc.only r2 (ev_var 0 rfl ⟨gs, rfl, ho.only, d_inT hxo oko (d_bo ?_)⟩)))))
    refine if2_m (fun ha => ?_) (fun ha => ?_)
    · show true = (decide (x ∈ o.only) || !decide (x ∈ ns))
      have ha : decide (x ∈ o.only) = true := ha
      rw [ha]; rfl
    · refine ew_or1 (et_notIn (u65 hr) (ev_var 8 rfl (ev_var 3 rfl (d_inT hxo hok (d_bo ?_)))))
      show (!decide (x ∈ ns)) = (decide (x ∈ o.only) || !decide (x ∈ ns))
      have ha : decide (x ∈ o.only) = false := ha
      rw [ha]; rfl
  intro p
  rw [strs_filter]
  have hm1 : (((posn o).drop c.toNat).filter fun x => decide (x ∈ o.only) || !decide (x ∈ ns)) = mis1 o c ns := rfl
  rw [hm1]
  have lm1 : (mis1 o c ns).length ≤ 6 := by
    unfold mis1
    refine Nat.le_trans (List.length_filter_le _ _) ?_
    rw [List.length_drop]
    omega
  have lnm : o.named.length ≤ 6 := by have := ho.few; omega
  refine bl_extendN (CF := fun a => own K C [p] [a]) famL_own (ev_var 6 rfl ⟨rfl, ?_⟩)
  refine ef_filter (ow := [("name", 8)]) (.one 8) (pr1 fun x => !decide (x ∈ ns)) id (o.named.map D.str) (by rw [List.length_map]; omega) (ei_tup (ev_get pc.named r2 (ev_var 0 rfl ⟨gs, rfl, ho.named, _, rfl, rfl, ?_, ?_⟩)))
    (show BlkOk nRef (defScope (mem 14 14)) _ _ from ⟨rfl, by decide +kernel, by decide +kernel, by decide +kernel, by decide +kernel⟩) (fun s H c cl fp => tg_one hN) hN
  · intro y hy
    obtain ⟨x, hx, rfl⟩ := List.mem_map.mp hy
    have hxo := okn x hx
    refine ⟨_, rfl, fun s H0 k cl fp p acc hp => ⟨?_, ev_var 8 rfl rfl⟩⟩
    exact et_notIn (u65 hr) (ev_var 8 rfl (ev_var 3 rfl (d_inT hxo hok (d_bo rfl))))
  rw [strs_filter]
  have lnf : (o.named.filter fun x => !decide (x ∈ ns)).length ≤ 6 := Nat.le_trans (List.length_filter_le _ _) lnm
  refine ⟨by rw [List.length_map, List.length_map]; omega, ?_⟩
  rw [← List.map_append]
  refine bl_free 6 rfl (bl_unown ?_)
  refine bl_filter (ow := [("name", 8)]) 6 (.one 8) (pr1 fun x => !decide (x ∈ srtS o.defaults)) id ((mis1 o c ns ++ o.named.filter fun x => !decide (x ∈ ns)).map D.str) (by rw [List.length_map, List.length_append]; omega)
    (ei_list (ev_var 6 rfl ⟨_, rfl, rfl, ?_, ?_⟩)) (show BlkOk nRef (defScope (mem 14 14)) _ _ from ⟨rfl, by decide +kernel, by decide +kernel, by decide +kernel, by decide +kernel⟩) (fun s H c cl fp => tg_one hN) hN (sw_true rfl rfl rfl (by decide +kernel))
  · intro y hy
    obtain ⟨x, hx, rfl⟩ := List.mem_map.mp hy
    have hxo : PyData.strOk x = true := (List.mem_append.mp hx).elim (fun h => okq x (List.mem_of_mem_drop (List.mem_filter.mp h).1)) (fun h => okn x (List.mem_filter.mp h).1)
    refine ⟨_, rfl, fun s H0 k cl fp p acc hp => ⟨?_, ev_var 8 rfl rfl⟩⟩
    exact et_notIn (u65 hr) (ev_var 8 rfl (ev_get pc.dflt r2 (ev_var 0 rfl ⟨gs, rfl, ho.dflt, d_inT hxo okd (d_bo rfl)⟩)))
  rw [strs_filter]
  have hm2 : ((mis1 o c ns ++ o.named.filter fun x => !decide (x ∈ ns)).filter fun x => !decide (x ∈ srtS o.defaults)) = mis o c ns := rfl
  rw [hm2]
  have okm : ∀ z ∈ mis o c ns, PyData.strOk z = true := fun z hz => (List.mem_append.mp (List.mem_filter.mp hz).1).elim (fun h => okq z (List.mem_of_mem_drop (List.mem_filter.mp h).1)) (fun h => okn z (List.mem_filter.mp h).1)
  refine bl_ret (by first | exact GG.Ext.rfl | assumption) (ev_if (et_ne (u64 hr) (ev_var 6 rfl (ev_lstd (ea_nil ⟨Nat.zero_le _, d_neLs (xs := mis o c ns) (ys := []) okm nil0 (d_bo (if2_m (fun h => ?_) (fun h => ?_)))⟩)))))
  · have h := of_decide_eq_false (not_t h)
    cases ht : mis o c ns with
    | nil => exact absurd ht h
    | cons t r =>
      refine ev_tup (ea_cons (ev_str (ea_cons (ev_ix (ev_var 6 rfl (ev_int (d_ixL ⟨.str t, atI_nat (j := 0) rfl, ea_nil ⟨by show 2 ≤ sizeLine; omega, ?_⟩⟩)))))))
      have := hT'
      rw [rsn_missing h1 h2 h3 ht] at this
      exact this
  · have h := of_decide_eq_true (not_f h)
    refine ev_non ?_
    have := hT'
    rw [rsn_none h1 h2 h3 h] at this
    exact this
end
end K05
set_option maxHeartbeats 1000000
/-! K05K: the law's refusal, its walk. -/
namespace K05
open PySem PySem.Spec PyProof.Rows L2 GG
theorem cutD_seg (ds : List D) (a k : Nat) : GG.cutD ds (some (a : Int)) (some (k : Int)) = (ds.drop a).take (k - a) := by
  unfold GG.cutD
  rw [HT.sIx_nat, HT.sIx_nat]
  by_cases h : a ≤ ds.length
  · rw [Nat.min_eq_left h]
    by_cases h2 : k ≤ ds.length
    · rw [Nat.min_eq_left h2]
    · rw [Nat.min_eq_right (show ds.length ≤ k by omega), List.take_of_length_le (by rw [List.length_drop]; omega), List.take_of_length_le (by rw [List.length_drop]; omega)]
  · rw [Nat.min_eq_right (show ds.length ≤ a by omega), List.drop_length, List.drop_of_length_le (show ds.length ≤ a by omega)] <;> simp
theorem letters_ok : ∀ c ∈ letters.cps.toList, c < 0x110000 := by decide +kernel
theorem name_ok {x : Str} (h : isName (.str x) = true) : PyData.strOk x = true := by
  have h : ((decide (1 ≤ (x.length : Int)) && decide ((x.length : Int) ≤ 6)) && x.cps.toList.all fun c => decide (c ∈ letters.cps.toList)) = true := h
  rw [Bool.and_eq_true] at h
  have h2 := List.all_eq_true.mp h.2
  unfold PyData.strOk
  rw [← Array.all_toList]
  exact List.all_eq_true.mpr fun c hc => decide_eq_true (letters_ok c (of_decide_eq_true (h2 c hc)))
theorem One.Fine.strOk {o : One} (h : o.Fine) : ∀ x ∈ o.names ++ o.defaults, PyData.strOk x = true := fun x hx => by
  rcases List.mem_append.mp hx with q | q
  · exact name_ok (h.ok x q)
  · obtain ⟨k, nn, _, h2, h3⟩ := h.dflt
    rw [h3] at q
    rcases List.mem_append.mp q with q | q
    · refine name_ok (h.ok x ?_)
      unfold One.names
      have := List.mem_of_mem_drop q
      rcases List.mem_append.mp this with z | z
      · simp [z]
      · simp [z]
    · refine name_ok (h.ok x ?_)
      unfold One.names
      simp [h2.subset q]
theorem One.Fine.disj {o : One} (h : o.Fine) : ∀ x ∈ o.only, x ∉ o.plain := fun x hx hp => by
  have := h.nodup
  unfold One.names at this
  simp only [List.append_assoc] at this
  have h2 := (List.nodup_append.mp (List.nodup_append.mp (List.nodup_append.mp this).2.1).2.1)
  exact h2.2.2 x hx x (List.mem_append_left _ hp) rfl
/-- an item of the dict -/
theorem ev_itm {X : Cx} {C : SJ} {Γ : En} {T : D → Prop} {e : Expr} {k : Str} {j : Nat} {p1 pos : Pos} {kvs : List (Key × D)} (y : D) (hu : X.A.units + 65 < cLine) (h : Ev X C Γ e fun d => d = .dct kvs ∧ T y) (hv : valD kvs (.inr k) = some y := by rfl)
    (hs : NoSl (.Constant (.str k) j p1) := by exact fun _ _ => rfl) : Ev X C Γ (.Subscript e (.Constant (.str k) j p1) pos) T :=
  ev_dget (by omega) (h.imp fun d ⟨ed, t⟩ => ⟨kvs, ed, ev_str ⟨.inr k, y, rfl, hv, t⟩⟩) hs
section
variable {P : Program} {w : World} {K : PySem.W.Frag} {mg : Str → Option Value} {base : Heap} {f Cl : Addr} {fd : FuncData}
def RLRef : SJ → List D → Prop := fun _ ds => ∃ o : One, ∃ c : Int, ∃ ns : List Str, ds = [o.d, .tup [.int c, .tup (ns.map D.str)]] ∧ o.Fine ∧ 0 ≤ c ∧ ns.length ≤ 12 ∧ ∀ x ∈ ns, PyData.strOk x = true
def GLRef : List D → (D → Prop) → Prop := fun ds T => ∀ o : One, ∀ c : Int, ∀ ns : List Str, ds = [o.d, .tup [.int c, .tup (ns.map D.str)]] → o.Fine → T (rsnD o c ns)
abbrev nLRef : List Str := ["one", "call", "count", "names", "places", "name", "k"]
theorem ok_lrefusal (F : FnP K "_law_refusal" 23 f fd) (hf : Frees mg fr) : FnOk P w K mg base CX0 1 f fd ["one", "call"] (spC K 2 RLRef GLRef) := by
  refine defO F (N := ["one", "call", "count", "names", "places", "name", "k"]) ⟨rfl, rfl, rfl, by decide +kernel, rfl, by decide +kernel, by decide +kernel⟩ rfl ?_
  rintro cdv A outer s H E C _ T hr hl ⟨o, c, ns, rfl, ho, hc, hn, hok⟩ hT
  have hN : (["one", "call", "count", "names", "places", "name", "k"] : List Str).Nodup := by decide +kernel
  have hz := line1000
  have hT' : T (rsnD o c ns) := hT o c ns rfl ho
  have few := ho.few
  have hlen : (posn o).length ≤ 6 := by unfold posn; rw [List.length_append]; omega
  have all := ho.strOk
  have okp : ∀ z ∈ o.plain, PyData.strOk z = true := fun z hz => all z (by simp [One.names, hz])
  have oko : ∀ z ∈ o.only, PyData.strOk z = true := fun z hz => all z (by simp [One.names, hz])
  have okn : ∀ z ∈ o.named, PyData.strOk z = true := fun z hz => all z (by simp [One.names, hz])
  have okd : ∀ z ∈ o.defaults, PyData.strOk z = true := fun z hz => all z (List.mem_append_right _ hz)
  have okq : ∀ z ∈ posn o, PyData.strOk z = true := fun z hz => (List.mem_append.mp hz).elim (oko z) (okp z)
  have hu := u65 hr
  have ec : c = ((c.toNat : Nat) : Int) := by omega
  show Bl _ _ _ (.Assign [.Tuple _ _ _] _ _ :: _) _
  refine bl_asgT [2, 3] (ev_var 1 rfl ⟨_, rfl, rfl, ?_⟩) (pg_tup rfl (pgs_name (pgs_name pgs_nil hN) hN))
  refine bl_asg 4 (ev_add (ev_itm _ hu (ev_var 0 rfl ⟨rfl, ev_itm _ hu (ev_var 0 rfl ⟨rfl, d_addT ?_ ?_⟩)⟩))) hN
  · rw [List.length_map, List.length_map]; omega
  rw [← List.map_append]
  refine bl_ifM (fun C' Γ' => C = C' ∧ Γ' = [some o.d, some (.tup [.int c, .tup (ns.map D.str)]), some (.int c), some (.tup (ns.map D.str)), some (.tup ((posn o).map D.str)), none, none] ∧ ¬(o.rest = none ∧ ((posn o).length : Int) < c)) ?_ ?_
  · refine et_w (ew_and (et_isN (ev_itm _ hu (ev_var 0 rfl ⟨rfl, ?_⟩))))
    rw [isNone_opt]
    refine if2_m (fun h => ?_) (fun h => if2_f (bl_nil ⟨rfl, rfl, fun z => of_decide_eq_false h z.1⟩))
    refine ew_and1 (et_gt (ev_var 2 rfl (ev_len (free_of hf (by decide +kernel)) (ev_var 4 rfl (d_lenT (d_gt (d_bo ?_)))))))
    rw [List.length_map]
    refine if2_m (fun h2 => ?_) (fun h2 => bl_nil ⟨rfl, rfl, fun z => of_decide_eq_false h2 z.2⟩)
    refine bl_ret .rfl (ev_tup (ea_cons (ev_str (ea_nil ⟨by show 1 ≤ sizeLine; omega, ?_⟩))))
    have := hT'
    rw [rsn_many (of_decide_eq_true h) (of_decide_eq_true h2)] at this
    exact this
  rintro C' Γ' ⟨rfl, rfl, h1⟩
  -- twice
  have seg_at : ∀ {j : Nat} {x : Str}, (((posn o).drop o.only.length).take (c.toNat - o.only.length))[j]? = some x → (posn o)[o.only.length + j]? = some x ∧ ((o.only.length + j : Nat) : Int) < c ∧ x ∈ o.plain := fun {j x} h => by
    have hl := (List.getElem?_eq_some_iff.mp h).1
    rw [List.length_take] at hl
    rw [List.getElem?_take_of_lt (by omega), List.getElem?_drop] at h
    refine ⟨h, by omega, ?_⟩
    unfold posn at h
    rw [List.getElem?_append_right (by omega)] at h
    exact List.mem_of_getElem? h
  have seg_of : ∀ {i : Nat} {x : Str}, (posn o)[i]? = some x → (i : Int) < c → x ∈ o.plain → ∃ j, i = o.only.length + j ∧ (((posn o).drop o.only.length).take (c.toNat - o.only.length))[j]? = some x := fun {i x} h h2 h3 => by
    have hge : o.only.length ≤ i := by
      refine Nat.le_of_not_lt fun z => ?_
      unfold posn at h
      rw [List.getElem?_append_left z] at h
      exact ho.disj x (List.mem_of_getElem? h) h3
    refine ⟨i - o.only.length, by omega, ?_⟩
    rw [List.getElem?_take_of_lt (by omega), List.getElem?_drop, show o.only.length + (i - o.only.length) = i by omega]
    exact h
  refine bl_for (.one 5) (fun i C' Γ' => C = C' ∧ (∃ x y, Γ' = [some o.d, some (.tup [.int c, .tup (ns.map D.str)]), some (.int c), some (.tup (ns.map D.str)), some (.tup ((posn o).map D.str)), x, y]) ∧ ∀ (j : Nat) y, j < i → (((posn o).drop o.only.length).take (c.toNat - o.only.length))[j]? = some y → y ∉ ns)
    (ei_tup ?_) (tg_one hN) PassesOwn.never
  refine ev_slice (ev_var 4 rfl ?_)
  refine d_eo (ev_len (free_of hf (by decide +kernel)) (ev_itm _ hu (ev_var 0 rfl ⟨rfl, d_lenT (d_exI ?_)⟩)))
  refine d_eo (ev_var 2 rfl (d_exI (d_slT ⟨_, rfl, ⟨rfl, ⟨none, none, rfl⟩, fun j y hj => absurd hj (Nat.not_lt_zero _)⟩, ?_, ?_⟩)))
  · rintro i y C' Γ' hy ⟨rfl, ⟨x0, y0, rfl⟩, hI⟩
    rw [List.length_map, ec, cutD_seg, ← List.map_drop, ← List.map_take, List.getElem?_map] at hy
    obtain ⟨x, hx, rfl⟩ := Option.map_eq_some_iff.mp hy
    obtain ⟨p1, p2, p3⟩ := seg_at hx
    refine ⟨_, rfl, ⟨bl_if (et_in hu (ev_var 5 rfl (ev_var 3 rfl (d_inT (okp x p3) hok (d_bo ?_)))))⟩⟩
    refine if2_m (fun ha => ?_) (fun ha => ?_)
    · refine bl_ret .rfl (ev_tup (ea_cons (ev_str (ea_cons (ev_var 5 rfl (ea_nil ⟨by show 2 ≤ sizeLine; omega, ?_⟩))))))
      obtain ⟨r, er⟩ := twc_cons (o := o) (c := c) (ns := ns) p1 p2 p3 (of_decide_eq_true ha) fun j y hj hy hj2 hp hyn => by
        obtain ⟨j', e1, e2⟩ := seg_of hy hj2 hp
        exact hI j' y (by omega) e2 hyn
      have := hT'
      rw [rsn_twice h1 er] at this
      exact this
    · refine bl_nil (bl_nil ⟨rfl, ⟨_, _, rfl⟩, fun j y hj hj1 => ?_⟩)
      rcases Nat.lt_succ_iff_lt_or_eq.mp hj with q | q
      · exact hI j y q hj1
      · subst q
        rw [hx] at hj1
        cases hj1
        exact of_decide_eq_false ha
  rintro C' Γ' ⟨rfl, ⟨x0, y0, rfl⟩, hI⟩
  rw [List.length_map, ec, cutD_seg, ← List.map_drop, ← List.map_take, List.length_map] at hI
  have h2 : twc o c ns = [] := twc_nil fun i x hx hi hp hxn => by
    obtain ⟨j, e1, e2⟩ := seg_of hx hi hp
    exact hI j x (List.getElem?_eq_some_iff.mp e2).1 e2 hxn
  -- unknown
  refine bl_for (.one 5) (fun i C' Γ' => C = C' ∧ (∃ x y, Γ' = [some o.d, some (.tup [.int c, .tup (ns.map D.str)]), some (.int c), some (.tup (ns.map D.str)), some (.tup ((posn o).map D.str)), x, y]) ∧ ∀ (j : Nat) y, j < i → ns[j]? = some y → o.more = none → y ∈ o.plain ∨ y ∈ o.named)
    (ei_tup (ev_var 3 rfl ⟨_, rfl, ⟨rfl, ⟨x0, y0, rfl⟩, fun j y hj => absurd hj (Nat.not_lt_zero _)⟩, ?_, ?_⟩)) (tg_one hN) PassesOwn.never
  · rintro i y C' Γ' hy ⟨rfl, ⟨x1, y1, rfl⟩, hI⟩
    rw [List.getElem?_map] at hy
    obtain ⟨x, hx, rfl⟩ := Option.map_eq_some_iff.mp hy
    refine ⟨_, rfl, ⟨bl_if (et_w (ew_and (et_isN (ev_itm _ hu (ev_var 0 rfl ⟨rfl, ?_⟩)))))⟩⟩
    rw [isNone_opt]
    refine if2_m (fun ha => ?_) (fun ha => if2_f (bl_nil (bl_nil ⟨rfl, ⟨_, _, rfl⟩, fun j y hj hy hm => absurd hm (of_decide_eq_false ha)⟩)))
    refine ew_and1 (et_notIn hu (ev_var 5 rfl (ev_add (ev_itm _ hu (ev_var 0 rfl ⟨rfl, ev_itm _ hu (ev_var 0 rfl ⟨rfl, d_addT ?_ ?_⟩)⟩)))))
    · rw [List.length_map, List.length_map]; omega
    rw [← List.map_append]
    refine d_inT (hok x (List.mem_of_getElem? hx)) (fun z hz => (List.mem_append.mp hz).elim (okp z) (okn z)) (d_bo ?_)
    refine if2_m (fun hb => ?_) (fun hb => ?_)
    · refine bl_ret .rfl (ev_tup (ea_cons (ev_str (ea_nil ⟨by show 1 ≤ sizeLine; omega, ?_⟩))))
      have hb := of_decide_eq_false (not_t hb)
      have hx2 : x ∈ extra o ns := by
        unfold extra
        refine List.mem_filter.mpr ⟨List.mem_of_getElem? hx, ?_⟩
        simp only [Bool.and_eq_true, Bool.not_eq_true', decide_eq_false_iff_not]
        exact ⟨fun z => hb (List.mem_append_left _ z), fun z => hb (List.mem_append_right _ z)⟩
      have := hT'
      rw [rsn_unknown h1 h2 (of_decide_eq_true ha) (List.ne_nil_of_mem hx2)] at this
      exact this
    · refine bl_nil (bl_nil ⟨rfl, ⟨_, _, rfl⟩, fun j y hj hj1 hm => ?_⟩)
      rcases Nat.lt_succ_iff_lt_or_eq.mp hj with q | q
      · exact hI j y q hj1 hm
      · subst q
        rw [hx] at hj1
        cases hj1
        exact List.mem_append.mp (of_decide_eq_true (not_f hb))
  rintro C' Γ' ⟨rfl, ⟨x0, y0, rfl⟩, hI⟩
  rw [List.length_map] at hI
  have h3 : ¬(o.more = none ∧ extra o ns ≠ []) := fun ⟨z1, z2⟩ => by
    obtain ⟨x, hx⟩ := List.exists_mem_of_ne_nil _ z2
    unfold extra at hx
    obtain ⟨hx1, hx2⟩ := List.mem_filter.mp hx
    simp only [Bool.and_eq_true, Bool.not_eq_true', decide_eq_false_iff_not] at hx2
    obtain ⟨j, hj⟩ := List.getElem?_of_mem hx1
    exact (hI j x (List.getElem?_eq_some_iff.mp hj).1 hj z1).elim hx2.1 hx2.2
  -- missing, positional
  have lt_only : ∀ {i : Nat} {x : Str}, (posn o)[i]? = some x → (i < o.only.length ↔ x ∈ o.only) := fun {i x} h => by
    unfold posn at h
    constructor
    · intro z
      rw [List.getElem?_append_left z] at h
      exact List.mem_of_getElem? h
    · intro z
      refine Nat.lt_of_not_le fun q => ?_
      rw [List.getElem?_append_right q] at h
      exact ho.disj x z (List.mem_of_getElem? h)
  refine bl_for (.many [.one 6, .one 5]) (fun i C' Γ' => C = C' ∧ (∃ x y, Γ' = [some o.d, some (.tup [.int c, .tup (ns.map D.str)]), some (.int c), some (.tup (ns.map D.str)), some (.tup ((posn o).map D.str)), x, y]) ∧ ∀ (j : Nat) y, j < i → (posn o)[j]? = some y → c ≤ j → y ∉ o.defaults → (y ∈ o.only ∨ y ∉ ns) → False)
    (ei_enumT (free_of hf (by decide +kernel)) (ev_var 4 rfl ⟨_, rfl, ⟨rfl, ⟨x0, y0, rfl⟩, fun j y hj => absurd hj (Nat.not_lt_zero _)⟩, ?_, ?_⟩)) (tg_many rfl (tgs_cons (tg_one hN) (tgs_cons (tg_one hN) tgs_nil))) PassesOwn.never
  · rintro i y C' Γ' hy ⟨rfl, ⟨x1, y1, rfl⟩, hI⟩
    obtain ⟨e0, he0, rfl⟩ := enumD_at hy
    rw [List.getElem?_map] at he0
    obtain ⟨x, hx, rfl⟩ := Option.map_eq_some_iff.mp he0
    have hxo := okq x (List.mem_of_getElem? hx)
    have next : ∀ Γ', (∃ x y, Γ' = [some o.d, some (.tup [.int c, .tup (ns.map D.str)]), some (.int c), some (.tup (ns.map D.str)), some (.tup ((posn o).map D.str)), x, y]) → ¬(c ≤ i ∧ x ∉ o.defaults ∧ (x ∈ o.only ∨ x ∉ ns)) → C = C ∧ (∃ x y, Γ' = [some o.d, some (.tup [.int c, .tup (ns.map D.str)]), some (.int c), some (.tup (ns.map D.str)), some (.tup ((posn o).map D.str)), x, y]) ∧ ∀ (j : Nat) y, j < i + 1 → (posn o)[j]? = some y → c ≤ j → y ∉ o.defaults → (y ∈ o.only ∨ y ∉ ns) → False := fun Γ' h hn => ⟨rfl, h, fun j y hj hj1 q1 q2 q3 => by
      rcases Nat.lt_succ_iff_lt_or_eq.mp hj with q | q
      · exact hI j y q hj1 q1 q2 q3
      · subst q
        rw [hx] at hj1
        cases hj1
        exact hn ⟨q1, q2, q3⟩⟩
    have give : c ≤ i → x ∉ o.defaults → (x ∈ o.only ∨ x ∉ ns) → T (.tup [.str "missing", .str x]) := fun q1 q2 q3 => by
      obtain ⟨r, er⟩ := misA_cons (ns := ns) hx q1 q2 q3 hc hI
      have := hT'
      rw [rsn_missing h1 h2 h3 er] at this
      exact this
    refine ⟨_, rfl, ⟨bl_if (et_w (ew_and (et_ge (ev_var 6 rfl (ev_var 2 rfl (d_ge (d_bo ?_)))))))⟩⟩
    refine if2_m (fun ha => ?_) (fun ha => if2_f (bl_nil (bl_nil (next _ ⟨_, _, rfl⟩ fun z => of_decide_eq_false ha z.1))))
    refine ew_and (et_notIn hu (ev_var 5 rfl (ev_itm _ hu (ev_var 0 rfl ⟨rfl, d_inT hxo okd (d_bo ?_)⟩))))
    refine if2_m (fun hb => ?_) (fun hb => if2_f (bl_nil (bl_nil (next _ ⟨_, _, rfl⟩ fun z => z.2.1 (of_decide_eq_true (not_f hb))))))
    refine ew_and1 (et_w (ew_or (et_lt (ev_var 6 rfl (ev_len (free_of hf (by decide +kernel)) (ev_itm _ hu (ev_var 0 rfl ⟨rfl, d_lenT (d_ltI (d_bo ?_))⟩)))))))
    rw [List.length_map]
    refine if2_m (fun hc1 => ?_) (fun hc1 => ?_)
    · refine if2_t (bl_ret .rfl (ev_tup (ea_cons (ev_str (ea_cons (ev_var 5 rfl (ea_nil ⟨by show 2 ≤ sizeLine; omega, ?_⟩)))))))
      exact give (of_decide_eq_true ha) (of_decide_eq_false (not_t hb)) (.inl ((lt_only hx).mp (by have := of_decide_eq_true hc1; omega)))
    · refine ew_or1 (et_notIn hu (ev_var 5 rfl (ev_var 3 rfl (d_inT hxo hok (d_bo ?_)))))
      refine if2_m (fun hd => ?_) (fun hd => ?_)
      · refine bl_ret .rfl (ev_tup (ea_cons (ev_str (ea_cons (ev_var 5 rfl (ea_nil ⟨by show 2 ≤ sizeLine; omega, ?_⟩))))))
        exact give (of_decide_eq_true ha) (of_decide_eq_false (not_t hb)) (.inr (of_decide_eq_false (not_t hd)))
      · refine bl_nil (bl_nil (next _ ⟨_, _, rfl⟩ fun z => z.2.2.elim (fun q => ?_) fun q => q (of_decide_eq_true (not_f hd))))
        have := of_decide_eq_false hc1
        have := (lt_only hx).mpr q
        omega
  rintro C' Γ' ⟨rfl, ⟨x0, y0, rfl⟩, hI⟩
  rw [enumD_len, List.length_map] at hI
  have h4 : ∀ (j : Nat) y, (posn o)[j]? = some y → c ≤ j → y ∉ o.defaults → (y ∈ o.only ∨ y ∉ ns) → False := fun j y hy => hI j y (List.getElem?_eq_some_iff.mp hy).1 hy
  -- missing, named
  refine bl_for (.one 5) (fun i C' Γ' => C = C' ∧ (∃ x y, Γ' = [some o.d, some (.tup [.int c, .tup (ns.map D.str)]), some (.int c), some (.tup (ns.map D.str)), some (.tup ((posn o).map D.str)), x, y]) ∧ ∀ (j : Nat) y, j < i → o.named[j]? = some y → y ∉ ns → y ∉ o.defaults → False)
    (ei_tup (ev_itm _ hu (ev_var 0 rfl ⟨rfl, _, rfl, ⟨rfl, ⟨x0, y0, rfl⟩, fun j y hj => absurd hj (Nat.not_lt_zero _)⟩, ?_, ?_⟩))) (tg_one hN) PassesOwn.never
  · rintro i y C' Γ' hy ⟨rfl, ⟨x1, y1, rfl⟩, hI⟩
    rw [List.getElem?_map] at hy
    obtain ⟨x, hx, rfl⟩ := Option.map_eq_some_iff.mp hy
    have hxo := okn x (List.mem_of_getElem? hx)
    have next : ∀ Γ', (∃ x y, Γ' = [some o.d, some (.tup [.int c, .tup (ns.map D.str)]), some (.int c), some (.tup (ns.map D.str)), some (.tup ((posn o).map D.str)), x, y]) → ¬(x ∉ ns ∧ x ∉ o.defaults) → C = C ∧ (∃ x y, Γ' = [some o.d, some (.tup [.int c, .tup (ns.map D.str)]), some (.int c), some (.tup (ns.map D.str)), some (.tup ((posn o).map D.str)), x, y]) ∧ ∀ (j : Nat) y, j < i + 1 → o.named[j]? = some y → y ∉ ns → y ∉ o.defaults → False := fun Γ' h hn => ⟨rfl, h, fun j y hj hj1 q1 q2 => by
      rcases Nat.lt_succ_iff_lt_or_eq.mp hj with q | q
      · exact hI j y q hj1 q1 q2
      · subst q
        rw [hx] at hj1
        cases hj1
        exact hn ⟨q1, q2⟩⟩
    refine ⟨_, rfl, ⟨bl_if (et_w (ew_and (et_notIn hu (ev_var 5 rfl (ev_var 3 rfl (d_inT hxo hok (d_bo ?_)))))))⟩⟩
    refine if2_m (fun ha => ?_) (fun ha => if2_f (bl_nil (bl_nil (next _ ⟨_, _, rfl⟩ fun z => z.1 (of_decide_eq_true (not_f ha))))))
    refine ew_and1 (et_notIn hu (ev_var 5 rfl (ev_itm _ hu (ev_var 0 rfl ⟨rfl, d_inT hxo okd (d_bo ?_)⟩))))
    refine if2_m (fun hb => ?_) (fun hb => bl_nil (bl_nil (next _ ⟨_, _, rfl⟩ fun z => z.2 (of_decide_eq_true (not_f hb)))))
    refine bl_ret .rfl (ev_tup (ea_cons (ev_str (ea_cons (ev_var 5 rfl (ea_nil ⟨by show 2 ≤ sizeLine; omega, ?_⟩))))))
    obtain ⟨r, er⟩ := misB_cons (ns := ns) h4 hc hx (of_decide_eq_false (not_t hb)) (of_decide_eq_false (not_t ha)) hI
    have := hT'
    rw [rsn_missing h1 h2 h3 er] at this
    exact this
  rintro C' Γ' ⟨rfl, ⟨x0, y0, rfl⟩, hI⟩
  rw [List.length_map] at hI
  have h5 : mis o c ns = [] := mis_nil h4 hc fun x hx q1 q2 => by
    obtain ⟨j, hj⟩ := List.getElem?_of_mem hx
    exact hI j x (List.getElem?_eq_some_iff.mp hj).1 hj q1 q2
  refine bl_ret .rfl (ev_non ?_)
  have := hT'
  rw [rsn_none h1 h2 h3 h5] at this
  exact this
end
end K05
set_option maxHeartbeats 1000000
/-! K05L: __init__. -/
namespace K05
open PySem PySem.Spec PyProof.Rows L2 GG
def One.fs (o : One) : List (Str × D) := [("only_names", .tup (o.only.map D.str)), ("plain_names", .tup (o.plain.map D.str)), ("named_names", .tup (o.named.map D.str)), ("rest_name", optD o.rest), ("more_name", optD o.more), ("default_names", .tup ((srtS o.defaults).map D.str))]
theorem One.Fine.isP {o : One} (h : o.Fine) : IsP o.fs o := ⟨rfl, rfl, rfl, rfl, rfl, rfl, h.few, h.strOk⟩
theorem One.noM (o : One) : NoM o.fs := ⟨rfl, rfl, rfl, rfl, rfl, rfl⟩
def fs3 (o : One) : List (Str × D) := [("only_names", .tup (o.only.map D.str)), ("plain_names", .tup (o.plain.map D.str)), ("named_names", .tup (o.named.map D.str))]
def fs5 (o : One) : List (Str × D) := [("only_names", .tup (o.only.map D.str)), ("plain_names", .tup (o.plain.map D.str)), ("named_names", .tup (o.named.map D.str)), ("rest_name", optD o.rest), ("more_name", optD o.more)]
theorem One.Fine.pn {o : One} (h : o.Fine) : (posn o ++ o.named).Nodup := by
  have := h.nodup
  unfold One.names at this
  simp only [List.append_assoc] at this
  have h2 := (List.nodup_append.mp (List.nodup_append.mp this).2.1).2.1
  unfold posn
  rw [List.append_assoc]
  exact h2
theorem One.Fine.din {o : One} (h : o.Fine) : ∀ x ∈ o.defaults, x ∈ o.only ++ o.plain ++ o.named := fun x hx => by
  obtain ⟨k, nn, hk, hs, e⟩ := h.dflt
  rw [e] at hx
  rcases List.mem_append.mp hx with z | z
  · exact List.mem_append_left _ (List.mem_of_mem_drop z)
  · exact List.mem_append_right _ (hs.subset z)
theorem One.Fine.dname {o : One} (h : o.Fine) : ∀ x ∈ o.defaults, isName (.str x) = true := fun x hx => h.ok x (by
  have := h.din x hx
  unfold One.names
  simp only [List.mem_append] at this ⊢
  rcases this with (z | z) | z
  · exact .inl (.inl (.inr z))
  · exact .inl (.inr z)
  · exact .inr z)
theorem One.Fine.dnodup {o : One} (h : o.Fine) : o.defaults.Nodup := by
  obtain ⟨k, nn, hk, hs, e⟩ := h.dflt
  rw [e]
  obtain ⟨h1, h2, h3⟩ := List.nodup_append.mp h.pn
  exact List.nodup_append.mpr ⟨h1.sublist (List.drop_sublist _ _), h2.sublist hs, fun a ha b hb => h3 a (List.mem_of_mem_drop ha) b (hs.subset hb)⟩
def One.args (o : One) : List D := [.tup (o.only.map D.str), .tup (o.plain.map D.str), optD o.rest, .tup (o.named.map D.str), optD o.more, .tup (o.defaults.map D.str)]
theorem areNames_of {xs : List Str} (h : ∀ x ∈ xs, isName (.str x) = true) (hd : xs.Nodup) : areNames (.tup (xs.map D.str)) = true := by
  unfold areNames
  rw [Bool.and_eq_true]
  constructor
  · rw [List.all_map]
    exact List.all_eq_true.mpr fun x hx => h x hx
  · have e : strsD (xs.map D.str) = xs := by
      unfold strsD
      rw [List.map_map]
      have : (strD ∘ D.str) = id := by funext x; rfl
      rw [this, List.map_id]
    rw [e, metS_full.mpr hd, List.length_map]
    simp
theorem sm_name {x : Str} (h : isName (.str x) = true) : sm 0 (.str x) := by
  refine ⟨rfl, fun s e => ?_⟩
  cases e
  refine ⟨?_, name_ok h⟩
  have h : ((decide (1 ≤ (x.length : Int)) && decide ((x.length : Int) ≤ 6)) && x.cps.toList.all fun c => decide (c ∈ letters.cps.toList)) = true := h
  simp only [Bool.and_eq_true, decide_eq_true_eq] at h
  omega
theorem sm_names {xs : List Str} (h : ∀ x ∈ xs, isName (.str x) = true) (hl : xs.length ≤ 40) : sm 1 (.tup (xs.map D.str)) := by
  refine ⟨⟨rfl, fun s e => by cases e⟩, fun ds e => ?_⟩
  cases e
  refine ⟨by rw [List.length_map]; exact hl, fun e he => ?_⟩
  obtain ⟨x, hx, rfl⟩ := List.mem_map.mp he
  exact sm_name (h x hx)
theorem suffix_le {o : One} (h : o.Fine) : ((posn o).map fun x => decide (x ∈ o.defaults)).Pairwise leB2 := by
  obtain ⟨k, nn, hk, hs, e⟩ := h.dflt
  have hnd : (posn o).Nodup := by
    have := h.nodup
    unfold One.names at this
    simp only [List.append_assoc] at this
    have h2 := (List.nodup_append.mp (List.nodup_append.mp this).2.1).2.1
    unfold posn
    rw [← List.append_assoc] at h2
    exact (List.nodup_append.mp h2).1
  have hpn : ∀ x ∈ posn o, x ∉ o.named := fun x hx hx2 => by
    have := h.nodup
    unfold One.names at this
    simp only [List.append_assoc] at this
    have h2 := (List.nodup_append.mp (List.nodup_append.mp this).2.1).2.1
    rw [← List.append_assoc] at h2
    exact (List.nodup_append.mp h2).2.2 x hx x hx2 rfl
  have hin : ∀ i x, (posn o)[i]? = some x → (x ∈ o.defaults ↔ k ≤ i) := fun i x hi => by
    rw [e]
    have hx := List.mem_of_getElem? hi
    constructor
    · intro z
      rcases List.mem_append.mp z with z | z
      · obtain ⟨j, hj⟩ := List.getElem?_of_mem z
        rw [List.getElem?_drop] at hj
        have hj : (posn o)[k + j]? = some x := hj
        obtain ⟨l1, e1⟩ := List.getElem?_eq_some_iff.mp hi
        obtain ⟨l2, e2⟩ := List.getElem?_eq_some_iff.mp hj
        have := (List.getElem_inj (h₀ := l1) (h₁ := l2) hnd).mp (e1.trans e2.symm)
        omega
      · exact absurd (hs.subset z) (hpn x hx)
    · intro z
      refine List.mem_append_left _ (List.mem_of_getElem? (i := i - k) ?_)
      rw [List.getElem?_drop, show k + (i - k) = i by omega]
      exact hi
  rw [List.pairwise_iff_getElem]
  intro i j hi hj hij
  rw [List.getElem_map, List.getElem_map]
  rw [List.length_map] at hi hj
  have a1 := hin i _ (List.getElem?_eq_getElem hi)
  have a2 := hin j _ (List.getElem?_eq_getElem hj)
  unfold leB2
  rw [Bool.and_eq_false_iff, decide_eq_false_iff_not]
  by_cases z : k ≤ i
  · right
    rw [Bool.not_eq_false', decide_eq_true_eq]
    exact a2.mpr (by omega)
  · left
    exact fun q => z (a1.mp q)
/-- the parts as they are met -/
def parts (o : One) : List (Str × D × List Str) := [("only", .tup (o.only.map D.str), o.only), ("plain", .tup (o.plain.map D.str), o.plain), ("rest", optD o.rest, o.rest.toList), ("named", .tup (o.named.map D.str), o.named), ("more", optD o.more, o.more.toList)]
def metN (o : One) (i : Nat) : List Str := ((parts o).take i).flatMap fun p => p.2.2
theorem metN_succ {o : One} {i : Nat} {p : Str × D × List Str} (h : (parts o)[i]? = some p) : metN o (i + 1) = metN o i ++ p.2.2 := by
  obtain ⟨hl, e⟩ := List.getElem?_eq_some_iff.mp h
  unfold metN
  rw [List.take_succ_eq_append_getElem hl, e, List.flatMap_append]
  simp
theorem metN_all (o : One) : metN o 5 = o.only ++ (o.plain ++ (o.rest.toList ++ (o.named ++ o.more.toList))) := by
  unfold metN parts
  simp
theorem metN_perm (o : One) : (metN o 5).Perm o.names := by
  rw [metN_all]
  unfold One.names
  rw [List.perm_iff_count]
  intro a
  simp only [List.count_append]
  omega
theorem metN_pre (o : One) {i : Nat} (h : i ≤ 5) : ∃ r, metN o 5 = metN o i ++ r := by
  unfold metN
  have : (parts o).take 5 = (parts o).take i ++ ((parts o).take 5).drop i := by
    have e : (parts o).take i = ((parts o).take 5).take i := by rw [List.take_take, Nat.min_eq_left h]
    rw [e, List.take_append_drop]
  rw [this, List.flatMap_append]
  exact ⟨_, rfl⟩
/-- how a part's names are read -/
structure PartOk (pt : Str) (d : D) (xs : List Str) : Prop where
  ok : (decide (pt ∈ (["rest", "more"] : List Str)) = false ∧ d = .tup (xs.map D.str)) ∨ (decide (pt ∈ (["rest", "more"] : List Str)) = true ∧ ∃ r : Option Str, d = optD r ∧ xs = r.toList)
  str : PyData.strOk pt = true
theorem part_no : ∀ i : Fin 3, decide ((["only", "plain", "named"] : List Str)[i] ∈ (["rest", "more"] : List Str)) = false := by decide +kernel
theorem part_yes : ∀ i : Fin 2, decide ((["rest", "more"] : List Str)[i] ∈ (["rest", "more"] : List Str)) = true := by decide +kernel
theorem part_ok : ∀ i : Fin 5, PyData.strOk (["only", "plain", "named", "rest", "more"] : List Str)[i] = true := by decide +kernel
theorem parts_ok {o : One} {i : Nat} {p : Str × D × List Str} (h : (parts o)[i]? = some p) : PartOk p.1 p.2.1 p.2.2 := by
  have : ∀ q ∈ parts o, PartOk q.1 q.2.1 q.2.2 := by
    intro q hq
    simp only [parts, List.mem_cons, List.not_mem_nil, or_false] at hq
    rcases hq with rfl | rfl | rfl | rfl | rfl
    · exact ⟨.inl ⟨part_no 0, rfl⟩, part_ok 0⟩
    · exact ⟨.inl ⟨part_no 1, rfl⟩, part_ok 1⟩
    · exact ⟨.inr ⟨part_yes 0, _, rfl, rfl⟩, part_ok 3⟩
    · exact ⟨.inl ⟨part_no 2, rfl⟩, part_ok 2⟩
    · exact ⟨.inr ⟨part_yes 1, _, rfl, rfl⟩, part_ok 4⟩
  exact this p (List.mem_of_getElem? h)
section
variable {P : Program} {w : World} {K : PySem.W.Frag} {mg : Str → Option Value} {base : Heap} {f Cl : Addr} {fd : FuncData}
abbrev nIni : List Str := ["self", "only", "plain", "rest", "named", "more", "defaults", "met", "part", "value", "names", "given", "name"]
def RIni : SJ → List D → Prop := fun _ ds => ∃ o : One, ds = o.args ∧ o.Fine
def GIni : List D → (List (Str × D) → Prop) → Prop := fun ds T => ∀ o : One, ds = o.args → o.Fine → T o.fs
theorem ok_init {kws : List (Str × V)} (F : FunD K "__init__" ("Params" ++ "." ++ "__init__") (defArgs (mem 14 0)) (defBody (mem 14 0)) (defScope (mem 14 0)) [] kws f fd) (hf : Frees mg fr) (hc : Cls K Cl)
    (n1 : NoAttr K Cl "only_names") (n2 : NoAttr K Cl "plain_names") (n3 : NoAttr K Cl "named_names") (n4 : NoAttr K Cl "rest_name") (n5 : NoAttr K Cl "more_name") (n6 : NoAttr K Cl "default_names")
    (gP : ∃ t, mg "MOST_PARAMETERS" = some (.int 8 t)) (cA : DefdO P w K mg base "are_names" 2 1 (Rs 1) (Gb areNames)) :
    FnOk P w K mg base CX0 3 f fd ["self", "only", "plain", "rest", "named", "more", "defaults"] (spI K Cl 6 RIni GIni) := by
  refine defI F (N := ["self", "only", "plain", "rest", "named", "more", "defaults", "met", "part", "value", "names", "given", "name"]) ⟨rfl, rfl, rfl, by decide +kernel, rfl, by decide +kernel, by decide +kernel⟩ rfl ?_
  rintro cdv A outer s H E C a dx _ T hr hl ⟨o, rfl, ho⟩ hT
  have hN : (["self", "only", "plain", "rest", "named", "more", "defaults", "met", "part", "value", "names", "given", "name"] : List Str).Nodup := by decide +kernel
  have hz := line1000
  have hT' : T o.fs := hT o rfl ho
  have few := ho.few
  have hu := u65 hr
  have hP8 : (metN o 5).length ≤ 8 := by
    rw [metN_all]
    simp only [List.length_append]
    have : o.rest.toList.length ≤ 1 := by cases o.rest <;> simp
    have : o.more.toList.length ≤ 1 := by cases o.more <;> simp
    omega
  have hnd : (metN o 5).Nodup := (metN_perm o).nodup_iff.mpr ho.nodup
  have hnm : ∀ x ∈ metN o 5, isName (.str x) = true := fun x hx => ho.ok x ((metN_perm o).mem_iff.mp hx)
  refine bl_own0 ?_
  show Bl _ _ _ (.Assign [.Name _ _] _ _ :: _) _
  with_reducible refine is_asg1 ?_
  refine @bl_mine _ _ _ _ _ _ 7 [] [] _ _ _ rfl (ef_lst (ea_nil ⟨Nat.zero_le _, ?_⟩)) hN rfl (by first | exact Or.inl rfl | exact Or.inr rfl) rfl (by first | exact .inl rfl | exact .inr rfl)
  intro p
  refine bl_for (.many [.one 8, .one 9]) (fun i C' Γ' => own K (ownO K C a dx Cl []) [p] [(metN o i).map D.str] = C' ∧ ∃ x y z, Γ' = [some (.adr a), some (.tup (o.only.map D.str)), some (.tup (o.plain.map D.str)), some (optD o.rest), some (.tup (o.named.map D.str)), some (optD o.more), some (.tup (o.defaults.map D.str)), some (.adr p), x, y, z, none, none])
    (ei_list (ev_lstd ?_)) (tg_many rfl (tgs_cons (tg_one hN) (tgs_cons (tg_one hN) tgs_nil))) PassesOwn.never
  have two : 2 ≤ sizeLine := by omega
  refine ea_cons (ev_tup (ea_cons (ev_str (ea_cons (ev_var 1 rfl (ea_nil ⟨two, ?_⟩))))))
  refine ea_cons (ev_tup (ea_cons (ev_str (ea_cons (ev_var 2 rfl (ea_nil ⟨two, ?_⟩))))))
  refine ea_cons (ev_tup (ea_cons (ev_str (ea_cons (ev_var 3 rfl (ea_nil ⟨two, ?_⟩))))))
  refine ea_cons (ev_tup (ea_cons (ev_str (ea_cons (ev_var 4 rfl (ea_nil ⟨two, ?_⟩))))))
  refine ea_cons (ev_tup (ea_cons (ev_str (ea_cons (ev_var 5 rfl (ea_nil ⟨two, ?_⟩))))))
  refine ea_nil ⟨by show 5 ≤ sizeLine; omega, _, rfl, ?_, ?_, ?_⟩
  · exact ⟨rfl, none, none, none, rfl⟩
  · rintro i y C' Γ' hy ⟨rfl, x0, y0, z0, rfl⟩
    have hi5 := (List.getElem?_eq_some_iff.mp hy).1
    have hi5 : i < 5 := hi5
    have hy' : ((parts o).map fun p => D.tup [.str p.1, p.2.1])[i]? = some y := hy
    rw [List.getElem?_map] at hy'
    obtain ⟨⟨pt, d, xs⟩, hp, rfl⟩ := Option.map_eq_some_iff.mp hy'
    have hms := metN_succ hp
    obtain ⟨r5, e5⟩ := metN_pre o (i := i + 1) (by omega)
    rw [hms] at e5
    have hnd2 : (metN o i ++ xs).Nodup := by rw [e5] at hnd; exact (List.nodup_append.mp hnd).1
    have hnm2 : ∀ x ∈ metN o i ++ xs, isName (.str x) = true := fun x hx => hnm x (by rw [e5]; exact List.mem_append_left _ hx)
    have hP82 : (metN o i).length + xs.length ≤ 8 := by rw [e5, List.length_append, List.length_append] at hP8; have : (pt, d, xs).snd.snd.length = xs.length := rfl; omega
    obtain ⟨hpo, hps⟩ := parts_ok hp
    have oks : ∀ z ∈ (["rest", "more"] : List Str), PyData.strOk z = true := by decide +kernel
    refine ⟨_, rfl, ⟨?_⟩⟩
    refine bl_asg 10 (Ev.imp (P := fun d => d = .tup (xs.map D.str)) ?_ ?_) hN
    · refine ev_if (et_notIn hu (ev_var 8 rfl (ev_tup (ea_cons (ev_str (ea_cons (ev_str (ea_nil ⟨two, ?_⟩))))))))
      refine d_inT (xs := ["rest", "more"]) hps oks (d_bo ?_)
      rcases hpo with ⟨h1, h2⟩ | ⟨h1, r, h2, h3⟩
      · rw [h1]
        exact if2_nf (ev_var 9 rfl h2)
      · rw [h1]
        refine if2_nt (ev_if (et_isN (ev_var 9 rfl ?_)))
        have h2 : d = optD r := h2
        have h3 : xs = r.toList := h3
        rw [h2, h3]
        cases r with
        | none => exact if2_t (ev_tup (ea_nil ⟨Nat.zero_le _, rfl⟩))
        | some v => exact if2_f (ev_tup (ea_cons (ev_var 9 rfl (ea_nil ⟨by show 1 ≤ sizeLine; omega, rfl⟩))))
    rintro _ rfl
    have hdis := (List.nodup_append.mp hnd2).2.2
    have hxs : ∀ x ∈ xs, isName (.str x) = true := fun x hx => hnm2 x (List.mem_append_right _ hx)
    have hmo : ∀ x ∈ metN o i, PyData.strOk x = true := fun x hx => name_ok (hnm2 x (List.mem_append_left _ hx))
    refine bl_if (et_w (ew_or (et_not (evt_val (ev_callO cA hr (ea_cons (ev_var 10 rfl (ea_nil ⟨rfl, sm_names hxs (by omega), d_bo ?_⟩))))))))
    show if2 (!areNames (.tup (xs.map D.str))) _ _
    rw [areNames_of hxs (List.nodup_append.mp hnd2).2.1]
    refine if2_nt (ew_or (evt_val (ev_any (free_of hf (by decide +kernel)) (ev_F (ef_map (ow := [("name", 12)]) (.one 12) (fun z => .bl (pr1 (fun x => decide (x ∈ metN o i)) z)) (xs.map D.str) (by rw [List.length_map]; omega)
      (ei_tup (ev_var 10 rfl ⟨_, rfl, rfl, ?_, ?_⟩)) (show BlkOk nIni (defScope (mem 14 0)) _ _ from ⟨rfl, by decide +kernel, by decide +kernel, by decide +kernel, by decide +kernel⟩) (fun s H c cl fp => tg_one hN) hN)))))
    · intro y hy
      obtain ⟨x, hx, rfl⟩ := List.mem_map.mp hy
      refine ⟨_, rfl, fun s H0 k cl fp p' acc hp => ?_⟩
      refine ev_inL (l := p) (CF := fun m => own K (own K (ownO K C a dx Cl []) [p] [m]) [p'] [acc]) (a := (metN o i).map D.str) famL_own.own hu (ev_var 12 rfl ⟨shp_str (name_ok (hxs x hx)), ev_var 7 rfl ⟨rfl, shp_strsL _ hmo, ?_⟩⟩)
      rw [any_strs]
    · refine d_boolsM (d_bo ?_)
      have ea : ((xs.map D.str).map (pr1 fun x => decide (x ∈ metN o i))).any id = false := by
        rw [List.map_map, List.any_map, List.any_eq_false]
        intro x hx
        show ¬(decide (x ∈ metN o i) = true)
        rw [decide_eq_true_eq]
        exact fun z => hdis x z x hx rfl
      rw [ea]
      refine if2_f (ew_or1 (et_gt (ev_add (ev_lenL (l := p) (CF := fun m => own K (ownO K C a dx Cl []) [p] [m]) (a := (metN o i).map D.str) famL_own (free_of hf (by decide +kernel)) (ev_var 7 rfl ⟨rfl, ?_⟩)))))
      refine ev_len (free_of hf (by decide +kernel)) (ev_var 10 rfl (d_lenT (d_addI (ev_gint gP (d_gt (d_bo ?_))))))
      rw [List.length_map, List.length_map, decide_eq_false (by omega)]
      refine if2_f (bl_nil ?_)
      refine bl_extendT (l := p) (CF := fun m => own K (ownO K C a dx Cl []) [p] [m]) (a := (metN o i).map D.str) famL_own (ev_var 7 rfl ⟨rfl, ev_var 10 rfl ⟨_, rfl, by rw [List.length_map, List.length_map]; omega, bl_nil ⟨?_, _, _, _, rfl⟩⟩⟩)
      rw [hms, List.map_append]
  · rintro C' Γ' ⟨rfl, x0, y0, z0, rfl⟩
    refine bl_free 7 rfl (bl_unown ?_)
    refine bl_fld3 hc n1 n2 n3 (Nat.zero_le _) rfl (fun gs' => ev_var 0 rfl rfl) (fun gs' => ev_var 0 rfl rfl) (fun gs' => ev_var 0 rfl rfl) (ev_tup (ea_cons (ev_var 1 rfl (ea_cons (ev_var 2 rfl (ea_cons (ev_var 4 rfl (ea_nil ⟨by show 3 ≤ sizeLine; omega, _, _, _, rfl, ?_⟩))))))))
    have e3 : putD "named_names" (.tup (o.named.map D.str)) (putD "plain_names" (.tup (o.plain.map D.str)) (putD "only_names" (.tup (o.only.map D.str)) [])) = fs3 o := rfl
    rw [e3]
    refine bl_fld2 hc n4 n5 (by show 3 ≤ 900; decide) rfl (fun gs' => ev_var 0 rfl rfl) (fun gs' => ev_var 0 rfl rfl) (ev_tup (ea_cons (ev_var 3 rfl (ea_cons (ev_var 5 rfl (ea_nil ⟨two, _, _, rfl, ?_⟩))))))
    have e5 : putD "more_name" (optD o.more) (putD "rest_name" (optD o.rest) (fs3 o)) = fs5 o := rfl
    rw [e5]
    have l6 : o.defaults.length ≤ 6 := by
      obtain ⟨k, nn, hk, hs, e⟩ := ho.dflt
      rw [e, List.length_append, List.length_drop, List.length_append]
      have := hs.length_le
      omega
    have okd : ∀ z ∈ o.defaults, PyData.strOk z = true := fun z hz => ho.strOk z (List.mem_append_right _ hz)
    refine bl_if (et_w (ew_or (et_not (evt_val (ev_callO cA hr (ea_cons (ev_var 6 rfl (ea_nil ⟨rfl, sm_names ho.dname (by omega), d_bo ?_⟩))))))))
    show if2 (!areNames (.tup (o.defaults.map D.str))) _ _
    rw [areNames_of ho.dname ho.dnodup]
    refine if2_nt (ew_or1 (et_not (evt_val (ev_all (free_of hf (by decide +kernel)) (ev_F (ef_map (ow := [("name", 12)]) (.one 12) (fun z => .bl (pr1 (fun x => decide (x ∈ o.only ++ o.plain ++ o.named)) z)) (o.defaults.map D.str) (by rw [List.length_map]; omega)
      (ei_tup (ev_var 6 rfl ⟨_, rfl, rfl, ?_, ?_⟩)) (show BlkOk nIni (defScope (mem 14 0)) _ _ from ⟨rfl, by decide +kernel, by decide +kernel, by decide +kernel, by decide +kernel⟩) (fun s H c cl fp => tg_one hN) hN))))))
    · intro y hy
      obtain ⟨x, hx, rfl⟩ := List.mem_map.mp hy
      refine ⟨_, rfl, fun s H0 k cl fp p' acc hp => ?_⟩
      refine ev_in hu (ev_var 12 rfl (ev_add (ev_add (ev_var 1 rfl (ev_var 2 rfl (d_addT ?_ (ev_var 4 rfl (d_addT ?_ ?_))))))))
      · rw [List.length_map, List.length_map]; omega
      · rw [List.length_append, List.length_map, List.length_map, List.length_map]; omega
      · rw [← List.map_append, ← List.map_append]
        exact d_inT (okd x hx) (fun z hz => ho.strOk z (List.mem_append_left _ (by unfold One.names; simp only [List.mem_append] at hz ⊢; rcases hz with (z | z) | z <;> simp [z]))) rfl
    · refine d_boolsM (d_bo ?_)
      have ea : ((o.defaults.map D.str).map (pr1 fun x => decide (x ∈ o.only ++ o.plain ++ o.named))).all id = true := by
        rw [List.map_map, List.all_map, List.all_eq_true]
        intro x hx
        exact decide_eq_true (ho.din x hx)
      rw [ea]
      refine if2_nt (bl_nil ?_)
      refine bl_map (ow := [("name", 12)]) 11 (.one 12) (fun z => .bl (pr1 (fun x => decide (x ∈ o.defaults)) z)) ((posn o).map D.str) (by rw [List.length_map]; unfold posn; rw [List.length_append]; omega)
        (ei_tup (ev_add (ev_var 1 rfl (ev_var 2 rfl (d_addT ?_ ⟨_, rfl, ?_, ?_, ?_⟩))))) (show BlkOk nIni (defScope (mem 14 0)) _ _ from ⟨rfl, by decide +kernel, by decide +kernel, by decide +kernel, by decide +kernel⟩) (fun s H c cl fp => tg_one hN) hN (sw_true rfl rfl rfl (by decide +kernel))
      · rw [List.length_map, List.length_map]; omega
      · rw [← List.map_append] <;> rfl
      · intro y hy
        obtain ⟨x, hx, rfl⟩ := List.mem_map.mp hy
        refine ⟨_, rfl, fun s H0 k cl fp p' acc hp => ?_⟩
        exact ev_in hu (ev_var 12 rfl (ev_var 6 rfl (d_inT (ho.strOk x (List.mem_append_left _ (by unfold posn at hx; unfold One.names; simp only [List.mem_append] at hx ⊢; rcases hx with z | z <;> simp [z]))) okd rfl)))
      have eg : ((posn o).map D.str).map (fun z => D.bl (pr1 (fun x => decide (x ∈ o.defaults)) z)) = ((posn o).map fun x => decide (x ∈ o.defaults)).map D.bl := by
        rw [List.map_map, List.map_map]
        rfl
      rw [eg]
      refine bl_if (et_ne (u64 hr) (ev_var 11 rfl (ev_F (ef_sortedB (free_of hf (by decide +kernel)) (ev_var 11 rfl ⟨_, rfl, fun cs hp hs => ?_⟩)))))
      have ec : cs = (posn o).map fun x => decide (x ∈ o.defaults) := List.Perm.eq_of_pairwise (fun a b _ _ h1 h2 => leB2_anti h1 h2) hs (suffix_le ho) hp
      rw [ec]
      refine d_neLb (d_bo ?_)
      rw [decide_eq_true rfl]
      refine if2_nt (bl_nil ?_)
      refine bl_fld hc n6 (by show 5 ≤ 900; decide) (ev_tuple (free_of hf (by decide +kernel)) (ev_F (ef_sorted (free_of hf (by decide +kernel)) (ev_var 6 rfl ⟨o.defaults, rfl, by omega, ?_⟩))))
      exact ev_var 0 rfl ⟨rfl, bl_nil ⟨o.fs, rfl, hT'⟩⟩
end
end K05
set_option maxHeartbeats 1000000
/-! K05M: _law_made, the law. -/
namespace K05
open PySem PySem.Spec PyProof.Rows L2 GG
section
variable {P : Program} {w : World} {K : PySem.W.Frag} {mg : Str → Option Value} {base : Heap} {f Cl : Addr} {fd : FuncData}
def ksP : List Str := ["only", "plain", "rest", "named", "more", "defaults"]
def RMade : SJ → List D → Prop := fun _ ds => ∃ o : One, ds = [o.d] ∧ o.Fine
def GMade (Cl : Addr) : List D → (D → Prop) → Prop := fun ds T => ∀ o : One, ds = [o.d] → o.Fine → T (.obj Cl o.fs)
theorem ok_made (F : FnP K "_law_made" 21 f fd) (cM : MakeD P w K mg base "Params" Cl 3 6 ksP id RIni GIni) : FnOk P w K mg base CX0 5 f fd ["one"] (spC K 1 RMade (GMade Cl)) := by
  refine defO F (N := ["one"]) ⟨rfl, rfl, rfl, by decide +kernel, rfl, by decide +kernel, by decide +kernel⟩ rfl ?_
  rintro cdv A outer s H E C _ T hr hl ⟨o, rfl, ho⟩ hT
  have hN : (["one"] : List Str).Nodup := by decide +kernel
  have hT' : T (.obj Cl o.fs) := hT o rfl ho
  have hu := u65 hr
  show Bl _ _ _ (.Return (some _) _ :: _) _
  refine bl_ret .rfl (ev_make cM hr ?_)
  refine ek_cons (ev_itm _ hu (ev_var 0 rfl ⟨rfl, ?_⟩))
  refine ek_cons (ev_itm _ hu (ev_var 0 rfl ⟨rfl, ?_⟩))
  refine ek_cons (ev_itm _ hu (ev_var 0 rfl ⟨rfl, ?_⟩))
  refine ek_cons (ev_itm _ hu (ev_var 0 rfl ⟨rfl, ?_⟩))
  refine ek_cons (ev_itm _ hu (ev_var 0 rfl ⟨rfl, ?_⟩))
  refine ek_cons (ev_itm _ hu (ev_var 0 rfl ⟨rfl, ?_⟩))
  refine ek_nil ⟨rfl, rfl, ⟨o, rfl, ho⟩, fun o' e ho' => ?_⟩
  have h1 : o'.fs = o.fs := by
    have e : o.args = o'.args := e
    unfold One.args at e
    injection e with a1 e
    injection e with a2 e
    injection e with a3 e
    injection e with a4 e
    injection e with a5 e
    injection e with a6 e
    injection a1 with a1
    injection a2 with a2
    injection a4 with a4
    injection a6 with a6
    unfold One.fs
    rw [a1, a2, a3, a4, a5, strs_inj a6]
  rw [h1]
  exact hT'
end
end K05
set_option maxHeartbeats 1000000
/-! K05N: by_name, bind. -/
namespace K05
open PySem PySem.Spec PyProof.Rows L2 GG
def bynD (o : One) (x : Str) (ns : List Str) : D := if decide (x ∈ ns) = true ∧ decide (x ∈ o.only) = false then .tup [.str "key", .str x] else .tup [.str "default"]
def RByn (Cl : Addr) : SJ → List D → Prop := fun _ ds => ∃ gs o, ∃ x : Str, ∃ ns : List Str, ds = [.obj Cl gs, .str x, .tup (ns.map D.str)] ∧ IsP gs o ∧ PyData.strOk x = true ∧ ∀ x ∈ ns, PyData.strOk x = true
def GByn (Cl : Addr) : List D → (D → Prop) → Prop := fun ds T => ∀ gs o, ∀ x : Str, ∀ ns : List Str, ds = [.obj Cl gs, .str x, .tup (ns.map D.str)] → IsP gs o → T (bynD o x ns)
theorem IsP.byn {gs : List (Str × D)} {o o' : One} (h : IsP gs o) (h' : IsP gs o') (x : Str) (ns : List Str) : bynD o x ns = bynD o' x ns := by
  obtain ⟨e1, e2, e3, e4, e5, e6⟩ := h.alike h'
  unfold bynD
  rw [e1]
section
variable {P : Program} {w : World} {K : PySem.W.Frag} {mg : Str → Option Value} {base : Heap} {f Cl : Addr} {fd : FuncData}
theorem ok_by_name (F : FnM K "by_name" 17 f fd) (pc : Props P w K mg base Cl) : FnOk P w K mg base CX0 3 f fd ["self", "name", "names"] (spC K 3 (RByn Cl) (GByn Cl)) := by
  refine defO F (N := ["self", "name", "names"]) ⟨rfl, rfl, rfl, by decide +kernel, rfl, by decide +kernel, by decide +kernel⟩ rfl ?_
  rintro cdv A outer s H E C _ T hr hl ⟨gs, o, x, ns, rfl, ho, hx, hok⟩ hT
  have hz := line1000
  have hT' : T (bynD o x ns) := hT gs o x ns rfl ho
  have oko : ∀ z ∈ o.only, PyData.strOk z = true := fun z hz => ho.ok z (by simp [One.names, hz])
  show Bl _ _ _ (.Return (some _) _ :: _) _
  refine bl_ret .rfl (ev_if (et_w (ew_and (et_in (u65 hr) (ev_var 1 rfl (ev_var 2 rfl (d_inT hx hok (d_bo ?_))))))))
  have fin : ∀ a b, decide (x ∈ ns) = a → decide (x ∈ o.only) = b → T (if a = true ∧ b = false then .tup [.str "key", .str x] else .tup [.str "default"]) := fun a b ha hb => by
    rw [← ha, ← hb]; exact hT'
  refine if2_m (fun ha => ?_) (fun ha => if2_f ?_)
  · refine ew_and1 (et_notIn (u65 hr) (ev_var 1 rfl (ev_get pc.only hr (ev_var 0 rfl ⟨gs, rfl, ho.only, d_inT hx oko (d_bo ?_)⟩))))
    refine if2_m (fun hb => ?_) (fun hb => ?_)
    · exact ev_tup (ea_cons (ev_str (ea_cons (ev_var 1 rfl (ea_nil ⟨by show 2 ≤ sizeLine; omega, fin true false ha (not_t hb)⟩)))))
    · exact ev_tup (ea_cons (ev_str (ea_nil ⟨by show 1 ≤ sizeLine; omega, fin true true ha (not_f hb)⟩)))
  · refine ev_tup (ea_cons (ev_str (ea_nil ⟨by show 1 ≤ sizeLine; omega, ?_⟩)))
    have := fin false _ ha rfl
    rw [if_neg (fun z => Bool.false_ne_true z.1)] at this
    exact this
end

/-! ### what each parameter gets -/
def maxD (a b : Int) : Int := if b > a then b else a
def plcD (o : One) (c : Int) (ns : List Str) (p : Str × Nat) : D := if (p.2 : Int) < c then .tup [.str "at", .int (p.2 : Nat)] else bynD o p.1 ns
def due0 (o : One) (c : Int) (ns : List Str) : List (Str × D) := (posn o).zipIdx.map fun p => (p.1, plcD o c ns p)
def due1 (o : One) (c : Int) : List (Str × D) := match o.rest with
  | none => []
  | some r => [(r, .tup [.str "from", .int ((posn o).length : Nat), .int (maxD 0 (c - ((posn o).length : Nat)))])]
def due2 (o : One) (ns : List Str) : List (Str × D) := o.named.map fun x => (x, bynD o x ns)
def due3 (o : One) (ns : List Str) : List (Str × D) := match o.more with
  | none => []
  | some m => [(m, .tup [.str "keys", .tup ((extra o ns).map D.str)])]
def dueL (o : One) (c : Int) (ns : List Str) : List (Str × D) := due0 o c ns ++ due1 o c ++ due2 o ns ++ due3 o ns
def kvD (l : List (Str × D)) : List (Key × D) := l.map fun p => (.inr p.1, p.2)
def dueD (o : One) (c : Int) (ns : List Str) : D := .lst (itemsD (kvD (dueL o c ns)))
theorem due0_len {o : One} {c : Int} {ns : List Str} : (due0 o c ns).length = (posn o).length := by unfold due0; rw [List.length_map, List.length_zipIdx]
theorem due2_len {o : One} {ns : List Str} : (due2 o ns).length = o.named.length := List.length_map _
theorem due0_at {o : One} {c : Int} {ns : List Str} {i : Nat} {x : Str} (h : (posn o)[i]? = some x) : (due0 o c ns)[i]? = some (x, plcD o c ns (x, i)) := by
  unfold due0
  rw [List.getElem?_map, at_zip h] <;> rfl
theorem due2_at {o : One} {ns : List Str} {i : Nat} {x : Str} (h : o.named[i]? = some x) : (due2 o ns)[i]? = some (x, bynD o x ns) := by
  unfold due2
  rw [List.getElem?_map, h] <;> rfl
theorem take_next {α : Type} {l : List α} {i : Nat} {x : α} (h : l[i]? = some x) : l.take (i + 1) = l.take i ++ [x] := by
  rw [List.take_succ, h]
  rfl
theorem due_names {o : One} {c : Int} {ns : List Str} : ((dueL o c ns).map (·.1)) = posn o ++ o.rest.toList ++ o.named ++ o.more.toList := by
  have h0 : (due0 o c ns).map (·.1) = posn o := by
    unfold due0
    rw [List.map_map]
    show List.map Prod.fst _ = _
    rw [List.zipIdx_map_fst]
  have h1 : (due1 o c).map (·.1) = o.rest.toList := by unfold due1; cases o.rest <;> rfl
  have h2 : (due2 o ns).map (·.1) = o.named := by
    unfold due2
    rw [List.map_map]
    exact List.map_id _
  have h3 : (due3 o ns).map (·.1) = o.more.toList := by unfold due3; cases o.more <;> rfl
  unfold dueL
  rw [List.map_append, List.map_append, List.map_append, h0, h1, h2, h3]
theorem due_nodup {o : One} {c : Int} {ns : List Str} (h : o.names.Nodup) : ((dueL o c ns).map (·.1)).Nodup := by
  rw [due_names]
  refine (List.Perm.nodup_iff ?_).mp h
  unfold One.names posn
  rw [List.perm_iff_count]
  intro a
  simp only [List.count_append]
  omega
theorem put_next {l : List (Str × D)} {x : Str} {v : D} (nd : ((l ++ [(x, v)]).map (·.1)).Nodup) : putKD (kvD l) (.inr x) v = kvD (l ++ [(x, v)]) := by
  unfold putKD
  rw [if_neg fun z => ?_]
  · unfold kvD
    rw [List.map_append] <;> rfl
  · obtain ⟨p, hp, e⟩ := List.any_eq_true.mp z
    unfold kvD at hp
    obtain ⟨q, hq, rfl⟩ := List.mem_map.mp hp
    have e : (Sum.inr q.1 : Key) = .inr x := of_decide_eq_true e
    injection e with e
    rw [List.map_append] at nd
    exact (List.nodup_append.mp nd).2.2 q.1 (List.mem_map.mpr ⟨q, hq, rfl⟩) x (by simp) e
theorem pre_nodup {o : One} {c : Int} {ns : List Str} {l m : List (Str × D)} (h : o.names.Nodup) (e : dueL o c ns = l ++ m) : (l.map (·.1)).Nodup := by
  have q := due_nodup (c := c) (ns := ns) h
  rw [e, List.map_append] at q
  exact (List.nodup_append.mp q).1
theorem kv_len (l : List (Str × D)) : (kvD l).length = l.length := List.length_map _
theorem IsP.due {gs : List (Str × D)} {o o' : One} (h : IsP gs o) (h' : IsP gs o') (c : Int) (ns : List Str) : dueL o c ns = dueL o' c ns := by
  obtain ⟨e1, e2, e3, e4, e5, e6⟩ := h.alike h'
  unfold dueL due0 due1 due2 due3 plcD bynD posn extra
  rw [e1, e2, e3, e5, e6]
section
variable {P : Program} {w : World} {K : PySem.W.Frag} {mg : Str → Option Value} {base : Heap} {f Cl : Addr} {fd : FuncData}
def RBnd (Cl : Addr) : SJ → List D → Prop := fun _ ds => ∃ gs o, ∃ c : Int, ∃ ns : List Str, ds = [.obj Cl gs, .tup [.int c, .tup (ns.map D.str)]] ∧ IsP gs o ∧ NoM gs ∧ 0 ≤ c ∧ ns.length ≤ 12 ∧ (∀ x ∈ ns, PyData.strOk x = true) ∧ o.names.Nodup ∧ isNone (rsnD o c ns) = true
def GBnd (Cl : Addr) : List D → (List (Key × D) → Prop) → Prop := fun ds T => ∀ gs o, ∀ c : Int, ∀ ns : List Str, ds = [.obj Cl gs, .tup [.int c, .tup (ns.map D.str)]] → IsP gs o → T (kvD (dueL o c ns))
abbrev nBnd : List Str := ["self", "call", "reason", "count", "names", "found", "at", "name", "many"]
theorem ok_bind (F : FnM K "bind" 16 f fd) (hf : Frees mg fr) (pc : Props P w K mg base Cl) (cx : MethD P w K mg base Cl "extra" 3 2 (RExt Cl) (GExt Cl)) (cr : MethD P w K mg base Cl "refusal" 4 2 (RRef Cl) (GRef Cl))
    (cb : MethD P w K mg base Cl "by_name" 3 3 (RByn Cl) (GByn Cl)) : FnOk P w K mg base CX0 5 f fd ["self", "call"] (spX K 2 (RBnd Cl) (GBnd Cl)) := by
  refine defX F (N := ["self", "call", "reason", "count", "names", "found", "at", "name", "many"]) ⟨rfl, rfl, rfl, by decide +kernel, rfl, by decide +kernel, by decide +kernel⟩ rfl ?_
  rintro cdv A outer s H E C _ T hr hl ⟨gs, o, c, ns, rfl, ho, hm, hc, hn, hok, hnd, hnone⟩ hT
  have hN : (["self", "call", "reason", "count", "names", "found", "at", "name", "many"] : List Str).Nodup := by decide +kernel
  have hz := line1000
  have hT' : T (kvD (dueL o c ns)) := hT gs o c ns rfl ho
  have r2 := hr.mono (j := 2) (by decide)
  have hlen : (posn o).length ≤ 6 := by unfold posn; rw [List.length_append]; have := ho.few; omega
  have lnm : o.named.length ≤ 6 := by have := ho.few; omega
  have oko : ∀ z ∈ o.only, PyData.strOk z = true := fun z hz => ho.ok z (by simp [One.names, hz])
  have okp : ∀ z ∈ o.plain, PyData.strOk z = true := fun z hz => ho.ok z (by simp [One.names, hz])
  have okn : ∀ z ∈ o.named, PyData.strOk z = true := fun z hz => ho.ok z (by simp [One.names, hz])
  have okq : ∀ z ∈ posn o, PyData.strOk z = true := fun z hz => (List.mem_append.mp hz).elim (oko z) (okp z)
  have hu : (cxOf CX0 P w K mg base nBnd ("Params" ++ "." ++ "bind") (defScope (mem 14 16)) f cdv A outer s H E).nox.A.units + 1 < cLine := by have := hr.un; show (A.deeper _).units + 1 < cLine; omega
  have rr : RRef Cl C [.obj Cl gs, .tup [.int c, .tup (ns.map D.str)]] := ⟨gs, o, c, ns, rfl, ho, hm, hc, hn, hok⟩
  have call_inj : ∀ {gs' : List (Str × D)} {c' : Int} {ns' : List Str}, ([.obj Cl gs, .tup [.int c, .tup (ns.map D.str)]] : List D) = [.obj Cl gs', .tup [.int c', .tup (ns'.map D.str)]] → gs = gs' ∧ c = c' ∧ ns = ns' := fun e => by
    injection e with e1 e2
    injection e1 with _ e1
    injection e2 with e2 _
    injection e2 with e2
    injection e2 with e2 e3
    injection e2 with e2
    injection e3 with e3 _
    injection e3 with e3
    exact ⟨e1, e2, strs_inj e3⟩
  show Bl _ _ _ (.Assign [.Name _ _] _ _ :: _) _
  refine bl_asg 2 (ev_meth cr hr (ev_var 0 rfl ⟨gs, rfl, hm.refusal, ea_cons (ev_var 1 rfl (ea_nil ⟨rfl, rr, fun gs' o' c' ns' e ho' => ?_⟩))⟩)) hN
  obtain ⟨rfl, rfl, rfl⟩ := call_inj e
  rw [← ho.inj ho' c ns]
  refine bl_if (et_notN (ev_var 2 rfl ?_))
  rw [hnone]
  refine if2_f (bl_nil ?_)
  refine bl_asgT [3, 4] (ev_var 1 rfl ⟨_, rfl, rfl, ?_⟩) (pg_tup rfl (pgs_name (pgs_name pgs_nil hN) hN))
  refine bl_disp0 5 (fun q => ?_) hN
  have rby : ∀ (C2 : SJ) (x : Str), PyData.strOk x = true → RByn Cl C2 [.obj Cl gs, .str x, .tup (ns.map D.str)] := fun C2 x hx => ⟨gs, o, x, ns, rfl, ho, hx, hok⟩
  have gby : ∀ (x : Str) gs' o', ∀ x' : Str, ∀ ns' : List Str, ([.obj Cl gs, .str x, .tup (ns.map D.str)] : List D) = [.obj Cl gs', .str x', .tup (ns'.map D.str)] → IsP gs' o' → bynD o' x' ns' = bynD o x ns := fun x gs' o' x' ns' e ho' => by
    injection e with e1 e2
    injection e1 with _ e1
    injection e2 with e2 e3
    injection e2 with e2
    injection e3 with e3 _
    injection e3 with e3
    subst e1 e2
    rw [← strs_inj e3]
    exact ho'.byn ho x ns
  refine bl_for (.many [.one 6, .one 7]) (fun i C' Γ' => ownD K C q (kvD ((due0 o c ns).take i)) = C' ∧ ∃ x y, Γ' = [some (.obj Cl gs), some (.tup [.int c, .tup (ns.map D.str)]), some (rsnD o c ns), some (.int c), some (.tup (ns.map D.str)), some (.adr q), x, y, none])
    (ei_enumT (free_of hf (by decide +kernel)) (ev_pos pc.pos r2 (ev_var 0 rfl ⟨gs, o, rfl, ho, _, rfl, ?_, ?_, ?_⟩))) (tg_many rfl (tgs_cons (tg_one hN) (tgs_cons (tg_one hN) tgs_nil))) PassesOwn.never
  · exact ⟨rfl, none, none, rfl⟩
  · rintro i y C' Γ' hy ⟨rfl, x0, y0, rfl⟩
    have hi6 := (List.getElem?_eq_some_iff.mp hy).1
    rw [enumD_len, List.length_map] at hi6
    obtain ⟨e0, he0, rfl⟩ := enumD_at hy
    rw [List.getElem?_map] at he0
    obtain ⟨x, hx, rfl⟩ := Option.map_eq_some_iff.mp he0
    have hxo := okq x (List.mem_of_getElem? hx)
    have hnx := take_next (due0_at (c := c) (ns := ns) hx)
    have hpn : putKD (kvD ((due0 o c ns).take i)) (.inr x) (plcD o c ns (x, i)) = kvD ((due0 o c ns).take (i + 1)) := by
      rw [hnx]
      refine put_next (pre_nodup (c := c) (ns := ns) hnd (m := (due0 o c ns).drop (i + 1) ++ (due1 o c ++ due2 o ns ++ due3 o ns)) ?_)
      rw [← hnx, ← List.append_assoc, List.take_append_drop]
      unfold dueL
      simp only [List.append_assoc]
    refine ⟨_, rfl, ⟨bl_dput hu (ex_of (Ev.imp (P := fun d => d = plcD o c ns (x, i)) ?_ ?_))⟩⟩
    · refine ev_if (et_lt (ev_var 6 rfl (ev_var 3 rfl (d_ltI (d_bo (if2_m (fun h => ?_) (fun h => ?_)))))))
      · refine ev_tup (ea_cons (ev_str (ea_cons (ev_var 6 rfl (ea_nil ⟨by show 2 ≤ sizeLine; omega, ?_⟩)))))
        have h := of_decide_eq_true h
        unfold plcD
        rw [if_pos h]
      · refine ev_meth cb (hr.mono (by decide)) (ev_var 0 rfl ⟨gs, rfl, hm.by_name, ea_cons (ev_var 7 rfl (ea_cons (ev_var 4 rfl (ea_nil ⟨rfl, rby _ x hxo, fun gs' o' x' ns' e ho' => ?_⟩))))⟩)
        have h := of_decide_eq_false h
        unfold plcD
        rw [if_neg h, gby x gs' o' x' ns' e ho']
    · rintro d rfl
      refine ⟨q, fun kvs => ownD K C q kvs, kvD ((due0 o c ns).take i), famD_own, rfl, by rw [kv_len, List.length_take]; omega, ev_var 5 rfl ⟨rfl, ev_var 7 rfl ⟨.inr x, rfl, bl_nil ⟨by rw [hpn], _, _, rfl⟩⟩⟩⟩
  rintro C' Γ' ⟨rfl, x0, y0, rfl⟩
  rw [enumD_len, List.length_map, ← due0_len (o := o) (c := c) (ns := ns), List.take_length]
  have l0 : (due0 o c ns).length ≤ 6 := by rw [due0_len]; exact hlen
  have l1 : (due1 o c).length ≤ 1 := by unfold due1; cases o.rest <;> simp
  have l2 : (due2 o ns).length ≤ 6 := by rw [due2_len]; exact lnm
  -- rest
  refine bl_ifM (fun C' Γ' => ownD K C q (kvD (due0 o c ns ++ due1 o c)) = C' ∧ ∃ x y z, Γ' = [some (.obj Cl gs), some (.tup [.int c, .tup (ns.map D.str)]), some (rsnD o c ns), some (.int c), some (.tup (ns.map D.str)), some (.adr q), x, y, z]) ?_ ?_
  · refine et_notN (ev_get pc.rest r2 (ev_var 0 rfl ⟨gs, rfl, ho.rest, ?_⟩))
    cases hrr : o.rest with
    | none =>
      refine if2_f (bl_nil ⟨?_, _, _, _, rfl⟩)
      have e : due1 o c = [] := by unfold due1; rw [hrr]
      rw [e, List.append_nil]
    | some rn =>
      have e1 := ho.rest
      rw [hrr] at e1
      have ed : due1 o c = [(rn, .tup [.str "from", .int ((posn o).length : Nat), .int (maxD 0 (c - ((posn o).length : Nat)))])] := by unfold due1; rw [hrr]
      refine if2_t (bl_asg 8 (ev_len (free_of hf (by decide +kernel)) (ev_pos pc.pos r2 (ev_var 0 rfl ⟨gs, o, rfl, ho, d_lenT ?_⟩))) hN)
      rw [List.length_map]
      refine bl_dput hu (ex_of (ev_tup (ea_cons (ev_str (ea_cons (ev_var 8 rfl (ea_cons ?_)))))))
      refine ev_max (free_of hf (by decide +kernel)) (ea_cons (ev_int (ea_cons (ev_sub (ev_var 3 rfl (ev_var 8 rfl (d_sub (ea_nil (d_max (ea_nil ⟨by show 3 ≤ sizeLine; omega, ?_⟩))))))))))
      refine ⟨q, fun kvs => ownD K C q kvs, kvD (due0 o c ns), famD_own, rfl, by rw [kv_len]; omega, ev_var 5 rfl ⟨rfl, ev_get pc.rest r2 (ev_var 0 rfl ⟨gs, rfl, e1, .inr rn, rfl, bl_nil ⟨?_, _, _, _, rfl⟩⟩)⟩⟩
      rw [ed]
      have := put_next (l := due0 o c ns) (x := rn) (v := .tup [.str "from", .int ((posn o).length : Nat), .int (maxD 0 (c - ((posn o).length : Nat)))]) (pre_nodup (c := c) (ns := ns) hnd (m := due2 o ns ++ due3 o ns) (by unfold dueL; rw [ed]; simp only [List.append_assoc]))
      rw [← this]
      rfl
  rintro C' Γ' ⟨rfl, x0, y0, z0, rfl⟩
  refine bl_for (.one 7) (fun i C' Γ' => ownD K C q (kvD (due0 o c ns ++ due1 o c ++ (due2 o ns).take i)) = C' ∧ ∃ x y z, Γ' = [some (.obj Cl gs), some (.tup [.int c, .tup (ns.map D.str)]), some (rsnD o c ns), some (.int c), some (.tup (ns.map D.str)), some (.adr q), x, y, z])
    (ei_tup (ev_get pc.named r2 (ev_var 0 rfl ⟨gs, rfl, ho.named, _, rfl, ?_, ?_, ?_⟩))) (tg_one hN) PassesOwn.never
  · exact ⟨by rw [List.take_zero, List.append_nil], _, _, _, rfl⟩
  · rintro i y C' Γ' hy ⟨rfl, x0, y0, z0, rfl⟩
    have hi6 := (List.getElem?_eq_some_iff.mp hy).1
    rw [List.length_map] at hi6
    rw [List.getElem?_map] at hy
    obtain ⟨x, hx, rfl⟩ := Option.map_eq_some_iff.mp hy
    have hxo := okn x (List.mem_of_getElem? hx)
    have hnx := take_next (due2_at (ns := ns) hx)
    have hpn : putKD (kvD (due0 o c ns ++ due1 o c ++ (due2 o ns).take i)) (.inr x) (bynD o x ns) = kvD (due0 o c ns ++ due1 o c ++ (due2 o ns).take (i + 1)) := by
      rw [hnx, ← List.append_assoc]
      refine put_next (pre_nodup (c := c) (ns := ns) hnd (m := (due2 o ns).drop (i + 1) ++ due3 o ns) ?_)
      rw [List.append_assoc (due0 o c ns ++ due1 o c), ← hnx, List.append_assoc, ← List.append_assoc ((due2 o ns).take (i + 1)), List.take_append_drop]
      unfold dueL
      simp only [List.append_assoc]
    refine ⟨_, rfl, ⟨bl_dput hu (ex_of (Ev.imp (P := fun d => d = bynD o x ns) ?_ ?_))⟩⟩
    · exact ev_meth cb (hr.mono (by decide)) (ev_var 0 rfl ⟨gs, rfl, hm.by_name, ea_cons (ev_var 7 rfl (ea_cons (ev_var 4 rfl (ea_nil ⟨rfl, rby _ x hxo, fun gs' o' x' ns' e ho' => gby x gs' o' x' ns' e ho'⟩))))⟩)
    · rintro d rfl
      refine ⟨q, fun kvs => ownD K C q kvs, kvD (due0 o c ns ++ due1 o c ++ (due2 o ns).take i), famD_own, rfl, ?_, ev_var 5 rfl ⟨rfl, ev_var 7 rfl ⟨.inr x, rfl, bl_nil ⟨by rw [hpn], _, _, _, rfl⟩⟩⟩⟩
      rw [kv_len, List.length_append, List.length_append, List.length_take]
      omega
  rintro C' Γ' ⟨rfl, x0, y0, z0, rfl⟩
  rw [List.length_map, ← due2_len (o := o) (ns := ns), List.take_length]
  refine bl_ifM (fun C' Γ' => ownD K C q (kvD (dueL o c ns)) = C' ∧ ∃ x y z, Γ' = [some (.obj Cl gs), some (.tup [.int c, .tup (ns.map D.str)]), some (rsnD o c ns), some (.int c), some (.tup (ns.map D.str)), some (.adr q), x, y, z]) ?_ ?_
  · refine et_notN (ev_get pc.more r2 (ev_var 0 rfl ⟨gs, rfl, ho.more, ?_⟩))
    cases hrr : o.more with
    | none =>
      refine if2_f (bl_nil ⟨?_, _, _, _, rfl⟩)
      have e : due3 o ns = [] := by unfold due3; rw [hrr]
      unfold dueL
      rw [e, List.append_nil]
    | some rn =>
      have e1 := ho.more
      rw [hrr] at e1
      have ed : due3 o ns = [(rn, .tup [.str "keys", .tup ((extra o ns).map D.str)])] := by unfold due3; rw [hrr]
      refine if2_t (bl_dput hu (ex_of (ev_tup (ea_cons (ev_str (ea_cons ?_))))))
      refine ev_meth cx (hr.mono (by decide)) (ev_var 0 rfl ⟨gs, rfl, hm.extra, ea_cons (ev_var 4 rfl (ea_nil ⟨rfl, ⟨gs, o, ns, rfl, ho, hn, hok⟩, fun gs' o' ns' e ho' => ea_nil ⟨by show 2 ≤ sizeLine; omega, ?_⟩⟩))⟩)
      have ee : extra o' ns' = extra o ns := by
        injection e with e1 e2
        injection e1 with _ e1
        injection e2 with e2 _
        injection e2 with e2
        subst e1
        rw [← strs_inj e2]
        exact ho'.ext ho ns
      rw [ee]
      refine ⟨q, fun kvs => ownD K C q kvs, kvD (due0 o c ns ++ due1 o c ++ due2 o ns), famD_own, rfl, ?_, ev_var 5 rfl ⟨rfl, ev_get pc.more r2 (ev_var 0 rfl ⟨gs, rfl, e1, .inr rn, rfl, bl_nil ⟨?_, _, _, _, rfl⟩⟩)⟩⟩
      · rw [kv_len, List.length_append, List.length_append]
        omega
      · have hd : dueL o c ns = due0 o c ns ++ due1 o c ++ due2 o ns ++ [(rn, .tup [.str "keys", .tup ((extra o ns).map D.str)])] := by unfold dueL; rw [ed]
        rw [hd, put_next (by rw [← hd]; exact due_nodup hnd)]
  rintro C' Γ' ⟨rfl, x0, y0, z0, rfl⟩
  exact bl_retX (ev_var 5 rfl ⟨q, _, rfl, rfl, hT'⟩)
end
end K05
set_option maxHeartbeats 1000000
/-! K05O: _law_due. -/
namespace K05
open PySem PySem.Spec PyProof.Rows L2 GG
def rowsD (l : List (Str × D)) : List D := l.map fun p => .tup [.str p.1, p.2]
theorem items_rows (l : List (Str × D)) : itemsD (kvD l) = rowsD l := by
  unfold itemsD kvD rowsD
  rw [List.map_map] <;> rfl
theorem rows_app (l m : List (Str × D)) : rowsD (l ++ m) = rowsD l ++ rowsD m := List.map_append ..
theorem rows_len (l : List (Str × D)) : (rowsD l).length = l.length := List.length_map _
/-- the fifth slots of a rest: which names are among the only ones -/
theorem One.Fine.named_only {o : One} (h : o.Fine) : ∀ x ∈ o.named, x ∉ o.only := fun x hx hp => by
  have := h.nodup
  unfold One.names at this
  simp only [List.append_assoc] at this
  have h2 := (List.nodup_append.mp (List.nodup_append.mp (List.nodup_append.mp this).2.1).2.1)
  exact h2.2.2 x hp x (List.mem_append_right _ hx) rfl
section
variable {P : Program} {w : World} {K : PySem.W.Frag} {mg : Str → Option Value} {base : Heap} {f Cl : Addr} {fd : FuncData}
def GDue : List D → (D → Prop) → Prop := fun ds T => ∀ o : One, ∀ c : Int, ∀ ns : List Str, ds = [o.d, .tup [.int c, .tup (ns.map D.str)]] → o.Fine → T (.lst (rowsD (dueL o c ns)))
abbrev nDue : List Str := ["one", "call", "count", "names", "places", "found", "k", "name", "extra"]
theorem ok_due (F : FnP K "_law_due" 24 f fd) (hf : Frees mg fr) : FnOk P w K mg base CX0 1 f fd ["one", "call"] (spC K 2 RLRef GDue) := by
  refine defO F (N := ["one", "call", "count", "names", "places", "found", "k", "name", "extra"]) ⟨rfl, rfl, rfl, by decide +kernel, rfl, by decide +kernel, by decide +kernel⟩ rfl ?_
  rintro cdv A outer s H E C _ T hr hl ⟨o, c, ns, rfl, ho, hc, hn, hok⟩ hT
  have hN : (["one", "call", "count", "names", "places", "found", "k", "name", "extra"] : List Str).Nodup := by decide +kernel
  have hz := line1000
  have hT' : T (.lst (rowsD (dueL o c ns))) := hT o c ns rfl ho
  have few := ho.few
  have hlen : (posn o).length ≤ 6 := by unfold posn; rw [List.length_append]; omega
  have all := ho.strOk
  have okp : ∀ z ∈ o.plain, PyData.strOk z = true := fun z hz => all z (by simp [One.names, hz])
  have oko : ∀ z ∈ o.only, PyData.strOk z = true := fun z hz => all z (by simp [One.names, hz])
  have okn : ∀ z ∈ o.named, PyData.strOk z = true := fun z hz => all z (by simp [One.names, hz])
  have okq : ∀ z ∈ posn o, PyData.strOk z = true := fun z hz => (List.mem_append.mp hz).elim (oko z) (okp z)
  have hu := u65 hr
  have l0 : (due0 o c ns).length ≤ 6 := by rw [due0_len]; exact hlen
  have l1 : (due1 o c).length ≤ 1 := by unfold due1; cases o.rest <;> simp
  have l2 : (due2 o ns).length ≤ 6 := by rw [due2_len]; omega
  have lt_only : ∀ {i : Nat} {x : Str}, (posn o)[i]? = some x → (i < o.only.length ↔ x ∈ o.only) := fun {i x} h => by
    unfold posn at h
    constructor
    · intro z
      rw [List.getElem?_append_left z] at h
      exact List.mem_of_getElem? h
    · intro z
      refine Nat.lt_of_not_le fun q => ?_
      rw [List.getElem?_append_right q] at h
      exact ho.disj x z (List.mem_of_getElem? h)
  show Bl _ _ _ (.Assign [.Tuple _ _ _] _ _ :: _) _
  refine bl_asgT [2, 3] (ev_var 1 rfl ⟨_, rfl, rfl, ?_⟩) (pg_tup rfl (pgs_name (pgs_name pgs_nil hN) hN))
  refine bl_parX 4 5 (ev_add (ev_itm _ hu (ev_var 0 rfl ⟨rfl, ev_itm _ hu (ev_var 0 rfl ⟨rfl, d_addT ?_ ?_⟩)⟩))) (ps_par rfl hN rfl rfl (by decide) rfl rfl pa_wa rfl)
  · rw [List.length_map, List.length_map]; omega
  rw [← List.map_append, show o.only ++ o.plain = posn o from rfl]
  refine ex_ofF (ef_lst (ea_nil ⟨Nat.zero_le _, fun p => ?_⟩))
  refine bl_for (.many [.one 6, .one 7]) (fun i C' Γ' => own K C [p] [rowsD ((due0 o c ns).take i)] = C' ∧ ∃ x y, Γ' = [some o.d, some (.tup [.int c, .tup (ns.map D.str)]), some (.int c), some (.tup (ns.map D.str)), some (.tup ((posn o).map D.str)), some (.adr p), x, y, none])
    (ei_enumT (free_of hf (by decide +kernel)) (ev_var 4 rfl ⟨_, rfl, ?_, ?_, ?_⟩)) (tg_many rfl (tgs_cons (tg_one hN) (tgs_cons (tg_one hN) tgs_nil))) PassesOwn.never
  · exact ⟨rfl, none, none, rfl⟩
  · rintro i y C' Γ' hy ⟨rfl, x0, y0, rfl⟩
    obtain ⟨e0, he0, rfl⟩ := enumD_at hy
    rw [List.getElem?_map] at he0
    obtain ⟨x, hx, rfl⟩ := Option.map_eq_some_iff.mp he0
    have hxo := okq x (List.mem_of_getElem? hx)
    have hnx : rowsD ((due0 o c ns).take i) ++ [.tup [.str x, plcD o c ns (x, i)]] = rowsD ((due0 o c ns).take (i + 1)) := by
      rw [take_next (due0_at (c := c) (ns := ns) hx), rows_app] <;> rfl
    have hlt : (rowsD ((due0 o c ns).take i)).length < sizeLine := by rw [rows_len, List.length_take]; omega
    refine ⟨_, rfl, ⟨bl_if (et_lt (ev_var 6 rfl (ev_var 2 rfl (d_ltI (d_bo (if2_m (fun h => ?_) (fun h => ?_)))))))⟩⟩
    · refine bl_append (i := 0) 0 rfl rfl (ev_var 5 rfl ⟨rfl, ?_⟩)
      refine ev_tup (ea_cons (ev_var 7 rfl (ea_cons ?_)))
      refine ev_tup (ea_cons (ev_str (ea_cons (ev_var 6 rfl (ea_nil ⟨by show 2 ≤ sizeLine; omega, ?_⟩)))))
      refine ea_nil ⟨by show 2 ≤ sizeLine; omega, hlt, bl_nil (bl_nil ⟨?_, _, _, rfl⟩)⟩
      have h := of_decide_eq_true h
      rw [← hnx]
      unfold plcD
      rw [if_pos h] <;> rfl
    · have h := of_decide_eq_false h
      have ep : plcD o c ns (x, i) = bynD o x ns := by unfold plcD; rw [if_neg h]
      refine bl_if (et_w (ew_and (et_in hu (ev_var 7 rfl (ev_var 3 rfl (d_inT hxo hok (d_bo ?_)))))))
      refine if2_m (fun ha => ?_) (fun ha => if2_f ?_)
      · refine ew_and1 (et_ge (ev_var 6 rfl (ev_len (free_of hf (by decide +kernel)) (ev_itm _ hu (ev_var 0 rfl ⟨rfl, d_lenT (d_ge (d_bo ?_))⟩)))))
        rw [List.length_map]
        refine if2_m (fun hb => ?_) (fun hb => ?_)
        · have hb : o.only.length ≤ i := by have := of_decide_eq_true hb; omega
          have hno : x ∉ o.only := fun z => by have := (lt_only hx).mpr z; omega
          refine bl_append (i := 0) 0 rfl rfl (ev_var 5 rfl ⟨rfl, ?_⟩)
          refine ev_tup (ea_cons (ev_var 7 rfl (ea_cons ?_)))
          refine ev_tup (ea_cons (ev_str (ea_cons (ev_var 7 rfl (ea_nil ⟨by show 2 ≤ sizeLine; omega, ?_⟩)))))
          refine ea_nil ⟨by show 2 ≤ sizeLine; omega, hlt, bl_nil (bl_nil (bl_nil ⟨?_, _, _, rfl⟩))⟩
          rw [← hnx, ep]
          unfold bynD
          rw [if_pos ⟨ha, decide_eq_false hno⟩] <;> rfl
        · have hb : ¬ o.only.length ≤ i := by have := of_decide_eq_false hb; omega
          have hno : x ∈ o.only := (lt_only hx).mp (by omega)
          refine bl_append (i := 0) 0 rfl rfl (ev_var 5 rfl ⟨rfl, ?_⟩)
          refine ev_tup (ea_cons (ev_var 7 rfl (ea_cons ?_)))
          refine ev_tup (ea_cons (ev_str (ea_nil ⟨by show 1 ≤ sizeLine; omega, ?_⟩)))
          refine ea_nil ⟨by show 2 ≤ sizeLine; omega, hlt, bl_nil (bl_nil (bl_nil ⟨?_, _, _, rfl⟩))⟩
          rw [← hnx, ep]
          unfold bynD
          rw [if_neg (fun z => by have := z.2; rw [decide_eq_true hno] at this; cases this)] <;> rfl
      · refine bl_append (i := 0) 0 rfl rfl (ev_var 5 rfl ⟨rfl, ?_⟩)
        refine ev_tup (ea_cons (ev_var 7 rfl (ea_cons ?_)))
        refine ev_tup (ea_cons (ev_str (ea_nil ⟨by show 1 ≤ sizeLine; omega, ?_⟩)))
        refine ea_nil ⟨by show 2 ≤ sizeLine; omega, hlt, bl_nil (bl_nil (bl_nil ⟨?_, _, _, rfl⟩))⟩
        rw [← hnx, ep]
        unfold bynD
        rw [if_neg (fun z => Bool.false_ne_true (ha.symm.trans z.1))] <;> rfl
  rintro C' Γ' ⟨rfl, x0, y0, rfl⟩
  rw [enumD_len, List.length_map, ← due0_len (o := o) (c := c) (ns := ns), List.take_length]
  refine bl_ifM (fun C' Γ' => own K C [p] [rowsD (due0 o c ns ++ due1 o c)] = C' ∧ ∃ x y, Γ' = [some o.d, some (.tup [.int c, .tup (ns.map D.str)]), some (.int c), some (.tup (ns.map D.str)), some (.tup ((posn o).map D.str)), some (.adr p), x, y, none]) ?_ ?_
  · refine et_notN (ev_itm _ hu (ev_var 0 rfl ⟨rfl, ?_⟩))
    cases hrr : o.rest with
    | none =>
      have e : due1 o c = [] := by unfold due1; rw [hrr]
      exact if2_f (bl_nil ⟨by rw [e, List.append_nil], _, _, rfl⟩)
    | some rn =>
      have ed : due1 o c = [(rn, .tup [.str "from", .int ((posn o).length : Nat), .int (maxD 0 (c - ((posn o).length : Nat)))])] := by unfold due1; rw [hrr]
      have hv : valD [(.inr "rest", optD o.rest), (.inr "more", optD o.more), (.inr "only", D.tup (o.only.map D.str)), (.inr "plain", .tup (o.plain.map D.str)), (.inr "named", .tup (o.named.map D.str)), (.inr "defaults", .tup (o.defaults.map D.str))] (.inr "rest") = some (.str rn) := by rw [hrr]; rfl
      refine if2_t (bl_append (i := 0) 0 rfl rfl (ev_var 5 rfl ⟨rfl, ev_tup (ea_cons (ev_itm _ hu (ev_var 0 rfl ⟨rfl, ?_⟩) hv))⟩))
      refine ea_cons (ev_tup (ea_cons (ev_str (ea_cons (ev_len (free_of hf (by decide +kernel)) (ev_var 4 rfl (d_lenT ?_)))))))
      rw [List.length_map]
      refine ea_cons (ev_max (free_of hf (by decide +kernel)) (ea_cons (ev_int (ea_cons (ev_sub (ev_var 2 rfl (ev_len (free_of hf (by decide +kernel)) (ev_var 4 rfl (d_lenT ?_)))))))))
      rw [List.length_map]
      refine d_sub (ea_nil (d_max (ea_nil ⟨by show 3 ≤ sizeLine; omega, ea_nil ⟨by show 2 ≤ sizeLine; omega, by rw [rows_len]; omega, bl_nil ⟨?_, _, _, rfl⟩⟩⟩)))
      rw [ed, rows_app] <;> rfl
  rintro C' Γ' ⟨rfl, x0, y0, rfl⟩
  refine bl_for (.one 7) (fun i C' Γ' => own K C [p] [rowsD (due0 o c ns ++ due1 o c ++ (due2 o ns).take i)] = C' ∧ ∃ x y, Γ' = [some o.d, some (.tup [.int c, .tup (ns.map D.str)]), some (.int c), some (.tup (ns.map D.str)), some (.tup ((posn o).map D.str)), some (.adr p), x, y, none])
    (ei_tup (ev_itm _ hu (ev_var 0 rfl ⟨rfl, _, rfl, ?_, ?_, ?_⟩))) (tg_one hN) PassesOwn.never
  · exact ⟨by rw [List.take_zero, List.append_nil], _, _, rfl⟩
  · rintro i y C' Γ' hy ⟨rfl, x0, y0, rfl⟩
    rw [List.getElem?_map] at hy
    obtain ⟨x, hx, rfl⟩ := Option.map_eq_some_iff.mp hy
    have hxm := List.mem_of_getElem? hx
    have hxo := okn x hxm
    have hno := ho.named_only x hxm
    have hnx : rowsD (due0 o c ns ++ due1 o c ++ (due2 o ns).take i) ++ [.tup [.str x, bynD o x ns]] = rowsD (due0 o c ns ++ due1 o c ++ (due2 o ns).take (i + 1)) := by
      rw [take_next (due2_at (ns := ns) hx), ← List.append_assoc, rows_app (_ ++ _ ++ _)] <;> rfl
    have hlt : (rowsD (due0 o c ns ++ due1 o c ++ (due2 o ns).take i)).length < sizeLine := by rw [rows_len, List.length_append, List.length_append, List.length_take]; omega
    refine ⟨_, rfl, ⟨bl_append (i := 0) 0 rfl rfl (ev_var 5 rfl ⟨rfl, ev_tup (ea_cons (ev_var 7 rfl (ea_cons (Ev.imp (P := fun d => d = bynD o x ns) ?_ ?_))))⟩)⟩⟩
    · refine ev_if (et_in hu (ev_var 7 rfl (ev_var 3 rfl (d_inT hxo hok (d_bo (if2_m (fun ha => ?_) (fun ha => ?_)))))))
      · refine ev_tup (ea_cons (ev_str (ea_cons (ev_var 7 rfl (ea_nil ⟨by show 2 ≤ sizeLine; omega, ?_⟩)))))
        unfold bynD
        rw [if_pos ⟨ha, decide_eq_false hno⟩] <;> rfl
      · refine ev_tup (ea_cons (ev_str (ea_nil ⟨by show 1 ≤ sizeLine; omega, ?_⟩)))
        unfold bynD
        rw [if_neg (fun z => Bool.false_ne_true (ha.symm.trans z.1))] <;> rfl
    · rintro d rfl
      exact ea_nil ⟨by show 2 ≤ sizeLine; omega, hlt, bl_nil ⟨by rw [← hnx] <;> rfl, _, _, rfl⟩⟩
  rintro C' Γ' ⟨rfl, x0, y0, rfl⟩
  rw [List.length_map, ← due2_len (o := o) (ns := ns), List.take_length]
  refine bl_ifM (fun C' Γ' => own K C [p] [rowsD (dueL o c ns)] = C' ∧ ∃ x y z, Γ' = [some o.d, some (.tup [.int c, .tup (ns.map D.str)]), some (.int c), some (.tup (ns.map D.str)), some (.tup ((posn o).map D.str)), some (.adr p), x, y, z]) ?_ ?_
  · refine et_notN (ev_itm _ hu (ev_var 0 rfl ⟨rfl, ?_⟩))
    cases hrr : o.more with
    | none =>
      have e : due3 o ns = [] := by unfold due3; rw [hrr]
      exact if2_f (bl_nil ⟨by unfold dueL; rw [e, List.append_nil], _, _, _, rfl⟩)
    | some rn =>
      have ed : due3 o ns = [(rn, .tup [.str "keys", .tup ((extra o ns).map D.str)])] := by unfold due3; rw [hrr]
      have hv : valD [(.inr "rest", optD o.rest), (.inr "more", optD o.more), (.inr "only", D.tup (o.only.map D.str)), (.inr "plain", .tup (o.plain.map D.str)), (.inr "named", .tup (o.named.map D.str)), (.inr "defaults", .tup (o.defaults.map D.str))] (.inr "more") = some (.str rn) := by rw [hrr]; rfl
      refine if2_t ?_
      refine bl_filter (ow := [("name", 7)]) 8 (.one 7) (pr1 fun x => !decide (x ∈ o.plain ++ o.named)) id (ns.map D.str) (by rw [List.length_map]; omega)
        (ei_tup (ev_var 3 rfl ⟨_, rfl, rfl, ?_, ?_⟩)) (show BlkOk nDue (defScope (top 24)) _ _ from ⟨rfl, by decide +kernel, by decide +kernel, by decide +kernel, by decide +kernel⟩) (fun s H c cl fp => tg_one hN) hN (sw_true rfl rfl rfl (by decide +kernel))
      · intro y hy
        obtain ⟨x, hx, rfl⟩ := List.mem_map.mp hy
        refine ⟨_, rfl, fun s H0 k cl fp p acc hp => ⟨?_, ev_var 7 rfl rfl⟩⟩
        refine et_notIn (u65 hr) (ev_var 7 rfl (ev_add (ev_itm _ (u65 hr) (ev_var 0 rfl ⟨rfl, ev_itm _ (u65 hr) (ev_var 0 rfl ⟨rfl, d_addT ?_ ?_⟩)⟩))))
        · rw [List.length_map, List.length_map]; omega
        rw [← List.map_append]
        exact d_inT (hok x hx) (fun z hz => (List.mem_append.mp hz).elim (okp z) (okn z)) (d_bo rfl)
      rw [strs_filter]
      have ee : (ns.filter fun x => !decide (x ∈ o.plain ++ o.named)) = extra o ns := by
        unfold extra
        refine List.filter_congr fun x _ => ?_
        rw [Bool.eq_iff_iff]
        simp only [Bool.and_eq_true, Bool.not_eq_true', decide_eq_false_iff_not, List.mem_append, not_or]
      rw [ee]
      refine bl_append (i := 0) 0 rfl rfl (ev_var 5 rfl ⟨rfl, ev_tup (ea_cons (ev_itm _ hu (ev_var 0 rfl ⟨rfl, ?_⟩) hv))⟩)
      refine ea_cons (ev_tup (ea_cons (ev_str (ea_cons (ev_tuple (free_of hf (by decide +kernel)) (ev_var 8 rfl ?_))))))
      refine ea_nil ⟨by show 2 ≤ sizeLine; omega, ea_nil ⟨by show 2 ≤ sizeLine; omega, by rw [rows_len, List.length_append, List.length_append]; omega, bl_nil ⟨?_, _, _, _, rfl⟩⟩⟩
      unfold dueL
      rw [ed, rows_app (_ ++ _ ++ _)] <;> rfl
  rintro C' Γ' ⟨rfl, x0, y0, z0, rfl⟩
  exact bl_free 5 rfl (bl_unown (bl_ret .rfl (ev_var 5 rfl hT')))
end
end K05
set_option maxHeartbeats 1000000
/-! K05Q: _law_fitting; what is due is fit to be shown. -/
namespace K05
open PySem PySem.Spec PyProof.Rows L2 GG
theorem cpow1 : CPow 10 60 := ⟨by decide, by decide, by decide⟩
theorem stepS_sub {m : List Str} {v x : Str} (h : x ∈ stepS m v) : x ∈ m ∨ x = v := by
  unfold stepS at h
  split at h
  · exact .inl h
  · rcases List.mem_append.mp h with z | z
    · exact .inl z
    · exact .inr (List.mem_singleton.mp z)
theorem metS_sub {xs : List Str} {x : Str} {n : Nat} (h : x ∈ metS xs n) : x ∈ xs := by
  have key : ∀ (r l : List Str), x ∈ r.foldl stepS l → x ∈ l ∨ x ∈ r := by
    intro r
    induction r with
    | nil => intro l h; exact .inl h
    | cons v r ih =>
      intro l h
      rcases ih _ h with z | z
      · rcases stepS_sub z with q | q
        · exact .inl q
        · exact .inr (by rw [q]; exact List.mem_cons_self)
      · exact .inr (List.mem_cons_of_mem _ z)
  unfold metS at h
  rcases key _ _ h with z | z
  · cases z
  · exact List.mem_of_mem_take z
theorem name_short {x : Str} (h : isName (.str x) = true) : x.length ≤ 40 := by
  have h : ((decide (1 ≤ (x.length : Int)) && decide ((x.length : Int) ≤ 6)) && x.cps.toList.all fun c => decide (c ∈ letters.cps.toList)) = true := h
  simp only [Bool.and_eq_true, decide_eq_true_eq] at h
  omega
theorem okA_name {x : Str} (h : isName (.str x) = true) : okA (.str x) := .inr (.inr (.inr ⟨x, rfl, name_short h, name_ok h⟩))
theorem okA_int {n : Int} (h0 : 0 ≤ n) (h1 : n < 10 ^ 100) : okA (.int n) := .inr (.inr (.inl ⟨n, rfl, .inl ⟨h0, h1⟩⟩))
theorem okA_word {x : Str} (h1 : x.length ≤ 40) (h2 : PyData.strOk x = true) : okA (.str x) := .inr (.inr (.inr ⟨x, rfl, h1, h2⟩))
theorem byn_ok {o : One} {x : Str} {ns : List Str} (hx : isName (.str x) = true) : okD 1 (bynD o x ns) := by
  unfold bynD
  split
  · exact okD.tup (n := 0) (Nat.le_of_ble_eq_true rfl) (all_cons (okA_word (by decide +kernel) (by decide +kernel)) (all_cons (okA_name hx) all_nil))
  · exact okD.tup (n := 0) (Nat.le_of_ble_eq_true rfl) (all_cons (okA_word (by decide +kernel) (by decide +kernel)) all_nil)
theorem due_ok {o : One} {c : Int} {ns : List Str} (ho : o.Fine) (hc : 0 ≤ c) (hc2 : c < 10 ^ 100) (hn : ns.length ≤ 12) (hok : ∀ x ∈ ns, isName (.str x) = true) : ∀ p ∈ dueL o c ns, isName (.str p.1) = true ∧ okD 2 p.2 := by
  have few := ho.few
  have hlen : (posn o).length ≤ 6 := by unfold posn; rw [List.length_append]; omega
  have big : (100 : Int) < 10 ^ 100 := by decide
  intro p hp
  unfold dueL at hp
  rcases List.mem_append.mp hp with hp | hp
  · rcases List.mem_append.mp hp with hp | hp
    · rcases List.mem_append.mp hp with hp | hp
      · unfold due0 at hp
        obtain ⟨q, hq, rfl⟩ := List.mem_map.mp hp
        have hq2 := List.mem_zipIdx' hq
        have hx : isName (.str q.1) = true := by
          refine ho.ok q.1 ?_
          have hm : q.1 ∈ posn o := by rw [hq2.2]; exact List.getElem_mem _
          unfold posn at hm
          rcases List.mem_append.mp hm with z | z <;> simp [One.names, z]
        refine ⟨hx, ?_⟩
        show okD 2 (plcD o c ns q)
        unfold plcD
        split
        · exact okD.up (okD.tup (n := 0) (Nat.le_of_ble_eq_true rfl) (all_cons (okA_word (by decide +kernel) (by decide +kernel)) (all_cons (okA_int (by omega) (by omega)) all_nil)))
        · exact okD.up (byn_ok hx)
      · unfold due1 at hp
        cases hr : o.rest with
        | none => rw [hr] at hp; cases hp
        | some r =>
          rw [hr] at hp
          rw [List.mem_singleton.mp hp]
          refine ⟨ho.ok r (by simp [One.names, hr]), ?_⟩
          refine okD.up (okD.tup (n := 0) (Nat.le_of_ble_eq_true rfl) (all_cons (okA_word (by decide +kernel) (by decide +kernel)) (all_cons (okA_int (by omega) (by omega)) (all_cons (okA_int ?_ ?_) all_nil))))
          · unfold maxD; split <;> omega
          · unfold maxD; split <;> omega
    · unfold due2 at hp
      obtain ⟨x, hx, rfl⟩ := List.mem_map.mp hp
      have hx2 := ho.ok x (by simp [One.names, hx])
      exact ⟨hx2, okD.up (byn_ok hx2)⟩
  · unfold due3 at hp
    cases hr : o.more with
    | none => rw [hr] at hp; cases hp
    | some r =>
      rw [hr] at hp
      rw [List.mem_singleton.mp hp]
      refine ⟨ho.ok r (by simp [One.names, hr]), ?_⟩
      refine okD.tup (n := 1) (Nat.le_of_ble_eq_true rfl) (all_cons (okD.zero (okA_word (by decide +kernel) (by decide +kernel))) (all_cons (okD.tup (n := 0) ?_ ?_) all_nil))
      · rw [List.length_map]
        have := List.length_filter_le (fun x => !decide (x ∈ o.plain) && !decide (x ∈ o.named)) ns
        unfold extra
        omega
      · intro e he
        obtain ⟨x, hx, rfl⟩ := List.mem_map.mp he
        exact okA_name (hok x (List.mem_filter.mp hx).1)
theorem due_shw {o : One} {c : Int} {ns : List Str} (ho : o.Fine) (hc : 0 ≤ c) (hc2 : c < 10 ^ 100) (hn : ns.length ≤ 12) (hok : ∀ x ∈ ns, isName (.str x) = true) : Shw (.lst (rowsD (dueL o c ns))) := by
  have few := ho.few
  have l0 : (due0 o c ns).length ≤ 6 := by rw [due0_len]; unfold posn; rw [List.length_append]; omega
  have l1 : (due1 o c).length ≤ 1 := by unfold due1; cases o.rest <;> simp
  have l2 : (due2 o ns).length ≤ 6 := by rw [due2_len]; omega
  have l3 : (due3 o ns).length ≤ 1 := by unfold due3; cases o.more <;> simp
  have l : (rowsD (dueL o c ns)).length ≤ 14 := by rw [rows_len]; unfold dueL; simp only [List.length_append]; omega
  have f : FitW (14 * ((2 * (bnd 2 + 2) + 2) + 2) + 2) 4 (.lst (rowsD (dueL o c ns))) := FitW.lst l fun e he => by
    unfold rowsD at he
    obtain ⟨p, hp, rfl⟩ := List.mem_map.mp he
    obtain ⟨h1, h2⟩ := due_ok ho hc hc2 hn hok p hp
    exact FitW.tup (Nat.le_refl 2) (all_cons ((okD.zero (n := 2) (okA_name h1)).fitW) (all_cons h2.fitW all_nil))
  exact f.shw (by decide +kernel) (by decide)
section
variable {P : Program} {w : World} {K : PySem.W.Frag} {mg : Str → Option Value} {base : Heap} {f Cl : Addr} {fd : FuncData}
def RFit : SJ → List D → Prop := fun C ds => ∃ (b : Addr) (o : One) (zs : List Str), ds = [.adr b, o.d, .lst (zs.map D.str)] ∧ HasBag C b ∧ o.Fine ∧ Pool zs
def GFit : List D → (D → Prop) → Prop := fun _ T => ∀ (c : Int) (xs : List Str), 0 ≤ c → c < 10 ^ 100 → xs.length ≤ 12 → (∀ x ∈ xs, isName (.str x) = true) → T (.tup [.int c, .tup (xs.map D.str)])
abbrev nFit : List Str := ["bag", "one", "pool", "places", "count", "names", "k", "name"]
theorem ok_fitting (F : FnP K "_law_fitting" 25 f fd) (hf : Frees mg fr) (cT : DefdO P w K mg base "_law_take" 1 2 RTake GTake) (cS : DefdO P w K mg base "_law_some_names" 3 3 RSome GSome) : FnOk P w K mg base CX0 4 f fd ["bag", "one", "pool"] (spC K 3 RFit GFit) := by
  refine defO F (N := ["bag", "one", "pool", "places", "count", "names", "k", "name"]) ⟨rfl, rfl, rfl, by decide +kernel, rfl, by decide +kernel, by decide +kernel⟩ rfl ?_
  rintro cdv A outer s H E C _ T hr hl ⟨b, o, zs, rfl, hb, ho, hzs⟩ hT
  have hN : (["bag", "one", "pool", "places", "count", "names", "k", "name"] : List Str).Nodup := by decide +kernel
  have hz := line1000
  have hT' : ∀ (c : Int) (xs : List Str), 0 ≤ c → c < 10 ^ 100 → xs.length ≤ 12 → (∀ x ∈ xs, isName (.str x) = true) → T (.tup [.int c, .tup (xs.map D.str)]) := hT
  have few := ho.few
  have hlen : (posn o).length + o.named.length ≤ 6 := by unfold posn; rw [List.length_append]; omega
  have all := ho.strOk
  have okp : ∀ z ∈ o.plain, PyData.strOk z = true := fun z hz => all z (by simp [One.names, hz])
  have okn : ∀ z ∈ o.named, PyData.strOk z = true := fun z hz => all z (by simp [One.names, hz])
  have okd : ∀ z ∈ o.defaults, PyData.strOk z = true := fun z hz => all z (List.mem_append_right _ hz)
  have nmq : ∀ z ∈ posn o, isName (.str z) = true := fun z hz => ho.ok z (by unfold posn at hz; rcases List.mem_append.mp hz with q | q <;> simp [One.names, q])
  have nmn : ∀ z ∈ o.named, isName (.str z) = true := fun z hz => ho.ok z (by simp [One.names, hz])
  have hu := u65 hr
  have r1 := hr.mono (j := 1) (by decide)
  have rt : ∀ (C' : SJ) (many : Int), HasBag C' b → 0 < many → many < 2 ^ 32 → RTake C' [.adr b, .int many] := fun C' many h h1 h2 => ⟨b, many, rfl, h, h1, h2⟩
  have big : (10 : Int) ^ 60 + 100 < 10 ^ 100 := by decide
  show Bl _ _ _ (.Assign [.Name _ _] _ _ :: _) _
  refine bl_asg 3 (ev_add (ev_itm _ hu (ev_var 1 rfl ⟨rfl, ev_itm _ hu (ev_var 1 rfl ⟨rfl, d_addT ?_ ?_⟩)⟩))) hN
  · rw [List.length_map, List.length_map]; omega
  rw [← List.map_append, show o.only ++ o.plain = posn o from rfl]
  refine bl_asg 4 (ev_callO cT r1 (ea_cons (ev_var 0 rfl (ea_cons (ev_add (ev_len (free_of hf (by decide +kernel)) (ev_var 3 rfl (d_lenT (ev_int (d_addI (ea_nil ?_)))))))))) ) hN
  rw [List.length_map]
  refine ⟨rfl, rt C _ hb (by omega) (by omega), fun b0 m0 c0 e0 hc0 hc1 => ?_⟩
  have hc9 : c0 < 7 := by
    injection e0 with _ e0
    injection e0 with e0 _
    injection e0 with e0
    omega
  refine bl_own0 ?_
  refine bl_mine 5 rfl (ef_lst (ea_nil ⟨Nat.zero_le _, fun p => ?_⟩)) hN
  have hbx : ∀ ys : List D, HasBag (own K C [p] [ys]) b := fun ys => hb.own
  refine bl_for (.many [.one 6, .one 7]) (fun i C' Γ' => ∃ xs : List Str, own K C [p] [xs.map D.str] = C' ∧ xs.length ≤ i ∧ (∀ x ∈ xs, isName (.str x) = true) ∧ ∃ x y, Γ' = [some (.adr b), some o.d, some (.lst (zs.map D.str)), some (.tup ((posn o).map D.str)), some (.int c0), some (.adr p), x, y])
    (ei_enumT (free_of hf (by decide +kernel)) (ev_var 3 rfl ⟨_, rfl, ?_, ?_, ?_⟩)) (tg_many rfl (tgs_cons (tg_one hN) (tgs_cons (tg_one hN) tgs_nil))) PassesOwn.never
  · exact ⟨[], rfl, Nat.le_refl _, fun x hx => (by cases hx), none, none, rfl⟩
  · rintro i y C' Γ' hy ⟨xs, rfl, hxl, hxn, x0, y0, rfl⟩
    have hi6 := (List.getElem?_eq_some_iff.mp hy).1
    rw [enumD_len, List.length_map] at hi6
    obtain ⟨e0, he0, rfl⟩ := enumD_at hy
    rw [List.getElem?_map] at he0
    obtain ⟨x, hx, rfl⟩ := Option.map_eq_some_iff.mp he0
    have hxm := nmq x (List.mem_of_getElem? hx)
    have more : ∀ z ∈ xs ++ [x], isName (.str z) = true := fun z hz => (List.mem_append.mp hz).elim (hxn z) fun q => by rw [List.mem_singleton.mp q]; exact hxm
    refine ⟨_, rfl, ⟨bl_if (et_w (ew_and (et_ge (ev_var 6 rfl (ev_max (free_of hf (by decide +kernel)) (ea_cons (ev_var 4 rfl (ea_cons (ev_len (free_of hf (by decide +kernel)) (ev_itm _ hu (ev_var 1 rfl ⟨rfl, d_lenT (ea_nil (d_max (d_ge (d_bo ?_))))⟩)))))))))))⟩⟩
    refine if2_m (fun ha => ?_) (fun ha => if2_f (bl_nil (bl_nil ⟨xs, rfl, by omega, hxn, _, _, rfl⟩)))
    refine ew_and1 (et_w (ew_or (et_notIn hu (ev_var 7 rfl (ev_itm _ hu (ev_var 1 rfl ⟨rfl, d_inT (name_ok hxm) okd (d_bo ?_)⟩))))))
    have hlt : (xs.map D.str).length < sizeLine := by rw [List.length_map]; omega
    refine if2_m (fun hb1 => if2_t ?_) (fun hb1 => ?_)
    · exact bl_append (i := 0) 0 rfl rfl (ev_var 5 rfl ⟨rfl, ev_var 7 rfl ⟨hlt, bl_nil (bl_nil ⟨xs ++ [x], by rw [List.map_append] <;> rfl, by rw [List.length_append]; simp; omega, more, _, _, rfl⟩)⟩⟩)
    · refine ew_or1 (et_eq (u64 hr) (ev_callO cT r1 (ea_cons (ev_var 0 rfl (ea_cons (ev_int (ea_nil ⟨rfl, rt _ 2 (hbx _) (by decide) (by decide), fun b2 m2 c2 e2 h2 h3 => ev_int (d_eqI (d_bo ?_))⟩)))))))
      refine if2_m (fun hb2 => ?_) (fun hb2 => bl_nil (bl_nil ⟨xs, rfl, by omega, hxn, _, _, rfl⟩))
      exact bl_append (i := 0) 0 rfl rfl (ev_var 5 rfl ⟨rfl, ev_var 7 rfl ⟨hlt, bl_nil (bl_nil ⟨xs ++ [x], by rw [List.map_append] <;> rfl, by rw [List.length_append]; simp; omega, more, _, _, rfl⟩)⟩⟩)
  rintro C' Γ' ⟨xs, rfl, hxl, hxn, x0, y0, rfl⟩
  rw [enumD_len, List.length_map] at hxl
  refine bl_for (.one 7) (fun i C' Γ' => ∃ xs : List Str, own K C [p] [xs.map D.str] = C' ∧ xs.length ≤ (posn o).length + i ∧ (∀ x ∈ xs, isName (.str x) = true) ∧ ∃ x y, Γ' = [some (.adr b), some o.d, some (.lst (zs.map D.str)), some (.tup ((posn o).map D.str)), some (.int c0), some (.adr p), x, y])
    (ei_tup (ev_itm _ hu (ev_var 1 rfl ⟨rfl, _, rfl, ?_, ?_, ?_⟩))) (tg_one hN) PassesOwn.never
  · exact ⟨xs, rfl, hxl, hxn, _, _, rfl⟩
  · rintro i y C' Γ' hy ⟨xs, rfl, hxl, hxn, x0, y0, rfl⟩
    have hi6 := (List.getElem?_eq_some_iff.mp hy).1
    rw [List.length_map] at hi6
    rw [List.getElem?_map] at hy
    obtain ⟨x, hx, rfl⟩ := Option.map_eq_some_iff.mp hy
    have hxm := nmn x (List.mem_of_getElem? hx)
    have more : ∀ z ∈ xs ++ [x], isName (.str z) = true := fun z hz => (List.mem_append.mp hz).elim (hxn z) fun q => by rw [List.mem_singleton.mp q]; exact hxm
    have hlt : (xs.map D.str).length < sizeLine := by rw [List.length_map]; omega
    refine ⟨_, rfl, ⟨bl_if (et_w (ew_or (et_notIn hu (ev_var 7 rfl (ev_itm _ hu (ev_var 1 rfl ⟨rfl, d_inT (name_ok hxm) okd (d_bo ?_)⟩))))))⟩⟩
    refine if2_m (fun hb1 => if2_t ?_) (fun hb1 => ?_)
    · exact bl_append (i := 0) 0 rfl rfl (ev_var 5 rfl ⟨rfl, ev_var 7 rfl ⟨hlt, bl_nil (bl_nil ⟨xs ++ [x], by rw [List.map_append] <;> rfl, by rw [List.length_append]; simp; omega, more, _, _, rfl⟩)⟩⟩)
    · refine ew_or1 (et_eq (u64 hr) (ev_callO cT r1 (ea_cons (ev_var 0 rfl (ea_cons (ev_int (ea_nil ⟨rfl, rt _ 2 (hbx _) (by decide) (by decide), fun b2 m2 c2 e2 h2 h3 => ev_int (d_eqI (d_bo ?_))⟩)))))))
      refine if2_m (fun hb2 => ?_) (fun hb2 => bl_nil (bl_nil ⟨xs, rfl, by omega, hxn, _, _, rfl⟩))
      exact bl_append (i := 0) 0 rfl rfl (ev_var 5 rfl ⟨rfl, ev_var 7 rfl ⟨hlt, bl_nil (bl_nil ⟨xs ++ [x], by rw [List.map_append] <;> rfl, by rw [List.length_append]; simp; omega, more, _, _, rfl⟩)⟩⟩)
  rintro C' Γ' ⟨xs, rfl, hxl, hxn, x0, y0, rfl⟩
  rw [List.length_map] at hxl
  -- more
  refine bl_ifM (fun C' Γ' => ∃ xs : List Str, own K C [p] [xs.map D.str] = C' ∧ xs.length ≤ 12 ∧ (∀ x ∈ xs, isName (.str x) = true) ∧ ∃ x y, Γ' = [some (.adr b), some o.d, some (.lst (zs.map D.str)), some (.tup ((posn o).map D.str)), some (.int c0), some (.adr p), x, y]) ?_ ?_
  · refine et_notN (ev_itm _ hu (ev_var 1 rfl ⟨rfl, ?_⟩))
    refine if2_m (fun ha => ?_) (fun ha => bl_nil ⟨xs, rfl, by omega, hxn, _, _, rfl⟩)
    refine bl_extendN (l := p) (CF := fun a => own K C [p] [a]) (a := xs.map D.str) famL_own (ev_var 5 rfl ⟨rfl, ?_⟩)
    have src : ∀ (P' : List Str → Prop), (∀ ys : List Str, ys.length ≤ 4 → (∀ y ∈ ys, isName (.str y) = true) → P' ys) → ∀ b' (most : Int) (zs2 ys : List Str), (([.adr b, .lst (zs.map D.str), .int 4] : List D) = [.adr b', .lst (zs2.map D.str), .int most] ∨ ([.adr b, .lst (zs.map D.str), .int 4] : List D) = [.adr b', .tup (zs2.map D.str), .int most]) → SomeOf zs2 ys → (ys.length : Int) ≤ most → P' ys := fun P' h b' most zs2 ys he hso hxl => by
      have key : most = 4 ∧ zs = zs2 := by
        rcases he with he | he
        · injection he with _ he; injection he with h1 he; injection he with he _; injection he with he
          injection h1 with h1
          exact ⟨he.symm, strs_inj h1⟩
        · injection he with _ he; injection he with h1 he; cases h1
      obtain ⟨e1, rfl⟩ := key
      obtain ⟨⟨ws, hp⟩, _⟩ := hso
      exact h ys (by omega) fun y hy => hzs.2.2 y (hp.mem_iff.mp (List.mem_append_left _ hy))
    refine ef_lc (ow := [("name", 7)]) (.one 7) (fun i acc => ∃ ys' : List Str, acc = ys'.map D.str ∧ ys'.length ≤ i ∧ ∀ z ∈ ys', isName (.str z) = true)
      (ei_tup (ev_callO cS (hr.mono (by decide)) (ea_cons (ev_var 0 rfl (ea_cons (ev_var 2 rfl (ea_cons (ev_int (ea_nil ⟨rfl, ⟨b, 4, zs, .inl rfl, hbx _, by decide, by decide, by rw [hzs.1]; decide⟩, src _ fun ys hyl hyn => ⟨_, rfl, ?_, ?_, ?_⟩⟩)))))))))
      (show BlkOk nFit (defScope (top 25)) _ _ from ⟨rfl, by decide +kernel, by decide +kernel, by decide +kernel, by decide +kernel⟩) (fun s H c cl fp => tg_one hN) hN
    · exact ⟨[], rfl, Nat.le_refl _, fun z hz => (by cases hz)⟩
    · rintro i y acc hi ⟨ys', rfl, hl', hn'⟩
      rw [List.getElem?_map] at hi
      obtain ⟨x, hx, rfl⟩ := Option.map_eq_some_iff.mp hi
      have hxm := hyn x (List.mem_of_getElem? hx)
      have hi4 := (List.getElem?_eq_some_iff.mp hx).1
      refine ⟨_, fun _ => True, rfl, ⟨fun s H0 c cl fp p' hp => ets_one ?_, fun kt s H0 c cl fp p' hp => ev_var 7 rfl ⟨?_, ys' ++ [x], ?_, ?_, ?_⟩, fun kf => ⟨ys', rfl, by omega, hn'⟩⟩⟩
      · refine et_notIn (u65 hr) (ev_var 7 rfl (ev_add (ev_itm _ (u65 hr) (ev_var 1 rfl ⟨rfl, ev_itm _ (u65 hr) (ev_var 1 rfl ⟨rfl, d_addT ?_ ?_⟩)⟩))))
        · rw [List.length_map, List.length_map]; omega
        rw [← List.map_append]
        exact d_inT (name_ok hxm) (fun z hz => (List.mem_append.mp hz).elim (okp z) (okn z)) (d_bo trivial)
      · rw [List.length_map]; omega
      · rw [List.map_append] <;> rfl
      · rw [List.length_append]; simp; omega
      · exact fun z hz => (List.mem_append.mp hz).elim (hn' z) fun q => by rw [List.mem_singleton.mp q]; exact hxm
    · rintro acc ⟨ys', rfl, hl', hn'⟩
      rw [List.length_map] at hl'
      refine ⟨by rw [List.length_map, List.length_map]; omega, ?_⟩
      rw [← List.map_append]
      exact bl_nil ⟨xs ++ ys', rfl, by rw [List.length_append]; omega, fun z hz => (List.mem_append.mp hz).elim (hxn z) (hn' z), _, _, rfl⟩
  rintro C' Γ' ⟨xs, rfl, hxl, hxn, x0, y0, rfl⟩
  refine bl_ifM (fun C' Γ' => own K C [p] [xs.map D.str] = C' ∧ ∃ c : Int, ∃ x y, 0 ≤ c ∧ c < 10 ^ 100 ∧ Γ' = [some (.adr b), some o.d, some (.lst (zs.map D.str)), some (.tup ((posn o).map D.str)), some (.int c), some (.adr p), x, y]) ?_ ?_
  · refine et_w (ew_and (et_notN (ev_itm _ hu (ev_var 1 rfl ⟨rfl, ?_⟩))))
    refine if2_m (fun ha => ?_) (fun ha => if2_f (bl_nil ⟨rfl, c0, _, _, hc0, by omega, rfl⟩))
    refine ew_and1 (et_eq (u64 hr) (ev_var 4 rfl (ev_len (free_of hf (by decide +kernel)) (ev_var 3 rfl (d_lenT (d_eqI (d_bo ?_)))))))
    refine if2_m (fun hb1 => ?_) (fun hb1 => bl_nil ⟨rfl, c0, _, _, hc0, by omega, rfl⟩)
    refine bl_asg 4 (ev_add (ev_var 4 rfl (Ev.imp (P := fun d => ∃ e : Int, d = .int e ∧ 0 ≤ e ∧ e < 10 ^ 60 + 50) ?_ ?_))) hN
    · refine ev_ix (ev_lstd ?_)
      refine ea_cons (ev_int (ea_cons (ev_int ?_)))
      refine ea_cons (ev_callO cT r1 (ea_cons (ev_var 0 rfl (ea_cons (ev_int (ea_nil ⟨rfl, rt _ 9 (hbx _) (by decide) (by decide), fun b1 m1 c1 e1 h1 h1' => ?_⟩))))))
      refine ea_cons (ev_sub (ev_pow (ev_int (ev_int (d_pow cpow1 (ev_int (d_sub (ea_nil ⟨by show 4 ≤ sizeLine; omega, ?_⟩))))))))
      refine ev_callO cT r1 (ea_cons (ev_var 0 rfl (ea_cons (ev_int (ea_nil ⟨rfl, rt _ 4 (hbx _) (by decide) (by decide), fun b4 m4 r4 e4 h4 h4' => ?_⟩)))))
      cases e1
      cases e4
      have b60 : (8 : Int) ≤ 10 ^ 60 := by decide
      exact d_draw h4 h4' (all_cons ⟨_, rfl, by decide, by decide⟩ (all_cons ⟨_, rfl, by decide, by decide⟩ (all_cons ⟨_, rfl, h1, by omega⟩ (all_cons ⟨_, rfl, by show (0 : Int) ≤ 10 ^ 60 - 8; omega, by show (10 : Int) ^ 60 - 8 < 10 ^ 60 + 50; omega⟩ all_nil))))
    · rintro _ ⟨e, rfl, he0, he1⟩
      exact d_addI (bl_nil ⟨rfl, c0 + e, _, _, by omega, by omega, rfl⟩)
  rintro C' Γ' ⟨rfl, c, x1, y1, hc, hc2, rfl⟩
  refine bl_ret ext_own (ev_tup (ea_cons (ev_var 4 rfl (ea_cons (ev_tuple (free_of hf (by decide +kernel)) (ev_F (ef_sortSetO (l := p) (CF := fun a => own K C [p] [a]) (a := xs.map D.str) famL_own (free_of hf (by decide +kernel)) (free_of hf (by decide +kernel)) (ev_var 5 rfl ⟨xs, rfl, rfl, by omega, ?_⟩))))))))
  refine d_seqL (ea_nil ⟨by show 2 ≤ sizeLine; omega, ?_⟩)
  have hle := metS_le xs xs.length (Nat.le_refl _)
  have hlen2 : (srtS (metS xs xs.length)).length = (metS xs xs.length).length := (srtS_perm _).length_eq
  exact hT' c (srtS (metS xs xs.length)) hc hc2 (by omega) fun x hx => hxn x (metS_sub ((srtS_perm _).mem_iff.mp hx))
end
end K05
set_option maxHeartbeats 1000000
/-! K05R: _law_is_right, the law. -/
namespace K05
open PySem PySem.Spec PyProof.Rows L2 GG
theorem isNone_eq {d : D} (h : isNone d = true) : d = .non := by
  cases d <;> first | rfl | cases h
theorem range_at {n i : Nat} {y : D} (h : (rangeD 0 n)[i]? = some y) : i < n ∧ y = .int (i : Nat) := by
  have hrl : (rangeD 0 n).length = n := by unfold rangeD; rw [List.length_map, List.length_range]
  have hi := (List.getElem?_eq_some_iff.mp h).1
  rw [hrl] at hi
  refine ⟨hi, ?_⟩
  unfold rangeD at h
  rw [List.getElem?_map, List.getElem?_range hi] at h
  simp at h
  exact h.symm
theorem One.d_inj {o o' : One} (h : o.d = o'.d) : o = o' := by
  have oi : ∀ {a b : Option Str}, optD a = optD b → a = b := fun {a b} h => by
    cases a <;> cases b <;> simp_all [optD]
  unfold One.d at h
  simp only [D.dct.injEq, List.cons.injEq, Prod.mk.injEq, D.tup.injEq, true_and, and_true] at h
  obtain ⟨h1, h2, h3, h4, h5, h6⟩ := h
  cases o
  cases o'
  simp only [One.mk.injEq]
  exact ⟨strs_inj h3, strs_inj h4, oi h1, strs_inj h5, oi h2, strs_inj h6⟩
theorem valD_put {kvs : List (Key × D)} {k : Key} {v : D} : valD (putKD kvs k v) k = some v := by
  unfold putKD
  split
  · rename_i h
    induction kvs with
    | nil => cases h
    | cons p r ih =>
      by_cases z : p.1 = k
      · simp [valD, z]
      · have h2 : (r.any fun p => decide (p.1 = k)) = true := by simpa [List.any_cons, z] using h
        have := ih h2
        unfold valD at this ⊢
        simp only [List.map_cons, z, if_false]
        rw [List.find?_cons_of_neg (by simpa using z)]
        exact this
  · rename_i h
    have hn : (kvs.find? fun p => decide (p.1 = k)) = none := by
      rw [List.find?_eq_none]
      intro p hp z
      exact h (List.any_eq_true.mpr ⟨p, hp, z⟩)
    unfold valD
    rw [List.find?_append, hn]
    simp
section
variable {P : Program} {w : World} {K : PySem.W.Frag} {mg : Str → Option Value} {base : Heap} {f Cl : Addr} {fd : FuncData}
/-- fit to be asked: the list, its object, a call that it takes -/
def RRight (Cl : Addr) : SJ → List D → Prop := fun _ ds => ∃ o : One, ∃ c : Int, ∃ ns : List Str, ds = [o.d, .obj Cl o.fs, .tup [.int c, .tup (ns.map D.str)]] ∧ o.Fine ∧ 0 ≤ c ∧ c < 10 ^ 100 ∧ ns.length ≤ 12 ∧ (∀ x ∈ ns, isName (.str x) = true) ∧ isNone (rsnD o c ns) = true
def GRight : List D → (D → Prop) → Prop := fun _ T => T (.bl true)
abbrev nRight : List Str := ["one", "mine", "call", "due", "found"]
theorem ok_right (F : FnP K "_law_is_right" 26 f fd) (hf : Frees mg fr) (cD : DefdO P w K mg base "_law_due" 1 2 RLRef GDue) (cB : MethX P w K mg base Cl "bind" 5 2 (RBnd Cl) (GBnd Cl)) : FnG P w K mg base CX0 6 f fd ["one", "mine", "call"] (spC K 3 (RRight Cl) GRight) := by
  refine defC F (N := ["one", "mine", "call", "due", "found"]) ⟨rfl, rfl, rfl, by decide +kernel, rfl, by decide +kernel, by decide +kernel⟩ rfl ?_
  rintro cdv A outer s H E C _ T hG hr hl ⟨o, c, ns, rfl, ho, hc, hc2, hn, hnm, hnone⟩ hT
  have hN : (["one", "mine", "call", "due", "found"] : List Str).Nodup := by decide +kernel
  have hz := line1000
  have hT' : T (.bl true) := hT
  have few := ho.few
  have isp := ho.isP
  have hok : ∀ x ∈ ns, PyData.strOk x = true := fun x hx => name_ok (hnm x hx)
  have shw : Shw (.lst (rowsD (dueL o c ns))) := due_shw ho hc hc2 hn hnm
  have l0 : (due0 o c ns).length ≤ 6 := by rw [due0_len]; unfold posn; rw [List.length_append]; omega
  have l1 : (due1 o c).length ≤ 1 := by unfold due1; cases o.rest <;> simp
  have l2 : (due2 o ns).length ≤ 6 := by rw [due2_len]; omega
  have l3 : (due3 o ns).length ≤ 1 := by unfold due3; cases o.more <;> simp
  have ldue : (dueL o c ns).length ≤ 14 := by unfold dueL; simp only [List.length_append]; omega
  have hu1 : (cxOf CX0 P w K mg base nRight "_law_is_right" (defScope (top 26)) f cdv A outer s H E).nox.A.units + 1 < cLine := by have := hr.un; show (A.deeper _).units + 1 < cLine; omega
  have rb : ∀ C' : SJ, RBnd Cl C' [.obj Cl o.fs, .tup [.int c, .tup (ns.map D.str)]] := fun C' => ⟨o.fs, o, c, ns, rfl, isp, o.noM, hc, hn, hok, ho.nodup, hnone⟩
  have gb : ∀ gs' o', ∀ c' : Int, ∀ ns' : List Str, ([.obj Cl o.fs, .tup [.int c, .tup (ns.map D.str)]] : List D) = [.obj Cl gs', .tup [.int c', .tup (ns'.map D.str)]] → IsP gs' o' → dueL o' c' ns' = dueL o c ns := fun gs' o' c' ns' e ho' => by
    injection e with e1 e2
    injection e1 with _ e1
    injection e2 with e2 _
    injection e2 with e2
    injection e2 with e2 e3
    injection e2 with e2
    injection e3 with e3 _
    injection e3 with e3
    subst e1
    rw [← e2, ← strs_inj e3]
    exact ho'.due isp c ns
  show Bl _ _ _ (.Assign [.Tuple _ _ _] _ _ :: _) _
  refine bl_parX 3 4 (ev_callO cD (hr.mono (by decide)) (ea_cons (ev_var 0 rfl (ea_cons (ev_var 2 rfl (ea_nil ⟨rfl, ⟨o, c, ns, rfl, ho, hc, hn, hok⟩, fun o' c' ns' e ho' => ?_⟩)))))) (ps_par rfl hN rfl rfl (by decide) rfl rfl pa_wa rfl)
  have ed : dueL o' c' ns' = dueL o c ns := by
    injection e with e1 e2
    injection e2 with e2 _
    injection e2 with e2
    injection e2 with e2 e3
    injection e2 with e2
    injection e3 with e3 _
    injection e3 with e3
    rw [← One.d_inj e1, ← e2, ← strs_inj e3]
  rw [ed]
  refine ex_methX cB (hr.mono (by decide)) (ev_var 1 rfl ⟨o.fs, rfl, o.noM.bind, ea_cons (ev_var 2 rfl (ea_nil ⟨rfl, rb C, fun gs' o' c' ns' e ho' q => ?_⟩))⟩)
  rw [gb gs' o' c' ns' e ho']
  refine bl_if (et_w (ew_or (et_not (evt_val (ev_isiO (DF := fun kvs => ownD K C q kvs) (kvs := kvD (dueL o c ns)) famD_own (free_of hf (by decide +kernel)) (ea_cons (ev_var 4 rfl (ea_cons (n_dict (free_of hf (by decide +kernel)) (ea_nil ⟨rfl, d_bo ?_⟩)))))))))) 
  refine if2_nt ?_
  refine ew_or1 (et_ne (u64 hr) (ev_repr (free_of hf (by decide +kernel)) hG (u64 hr) (ev_F (ef_itemsO (DF := fun kvs => ownD K C q kvs) (kvs := kvD (dueL o c ns)) famD_own (free_of hf (by decide +kernel)) (ev_var 4 rfl ⟨rfl, ?_⟩)))))
  rw [items_rows]
  refine ⟨shw, ev_repr (free_of hf (by decide +kernel)) hG (u64 hr) (ev_var 3 rfl ⟨shw, d_neS (d_bo (if2_same (bl_nil ?_)))⟩)⟩
  refine bl_dput hu1 (ex_of (ev_tup (ea_cons (ev_str (ea_nil ⟨by show 1 ≤ sizeLine; omega, q, fun kvs => ownD K C q kvs, kvD (dueL o c ns), famD_own, rfl, by rw [kv_len]; omega, ev_var 4 rfl ⟨rfl, ev_str ⟨.inr "more", rfl, ?_⟩⟩⟩)))))
  refine bl_dpop (DF := fun kvs => ownD K C q kvs) famD_own (ev_var 4 rfl ⟨rfl, ev_str ⟨.inr "more", _, rfl, valD_put, ?_⟩⟩)
  refine bl_dfree 4 rfl (bl_ret .rfl (ev_eq (u64 hr) (ev_repr (free_of hf (by decide +kernel)) hG (u64 hr) (ev_F (ef_items (free_of hf (by decide +kernel)) (ev_ofX ?_))))))
  refine ex_methX cB (hr.mono (by decide)) (ev_var 1 rfl ⟨o.fs, rfl, o.noM.bind, ea_cons (ev_var 2 rfl (ea_nil ⟨rfl, rb C, fun gs' o' c' ns' e ho' q2 => ⟨q2, _, rfl, rfl, _, rfl, ?_⟩⟩))⟩)
  rw [gb gs' o' c' ns' e ho', items_rows]
  refine ⟨shw, ev_repr (free_of hf (by decide +kernel)) hG (u64 hr) (ev_var 3 rfl ⟨shw, d_eqS ?_⟩)⟩
  rw [decide_eq_true rfl]
  exact hT'
end
end K05
set_option maxHeartbeats 1000000
/-! K05S: the law. -/
namespace K05
open PySem PySem.Spec PyProof.Rows L2 GG
section
variable {P : Program} {w : World} {K : PySem.W.Frag} {mg : Str → Option Value} {base : Heap} {f Cl Cx : Addr} {fd : FuncData}
structure Lets (P : Program) (w : World) (K : PySem.W.Frag) (mg : Str → Option Value) (base : Heap) (Cl : Addr) : Prop where
  bag : DefdN P w K mg base "_law_bag" 1 2 RBag GBag
  pool : DefdO P w K mg base "_law_pool" 2 1 RB GPool
  list : DefdO P w K mg base "_law_list" 3 2 RList GList
  made : DefdO P w K mg base "_law_made" 5 1 RMade (GMade Cl)
  fit : DefdO P w K mg base "_law_fitting" 4 3 RFit GFit
  lref : DefdO P w K mg base "_law_refusal" 1 2 RLRef GLRef
  right : Defd P w K mg base "_law_is_right" 6 3 (RRight Cl) GRight
theorem ok_law (F : FnP K "law" 27 f fd) (hf : Frees mg fr) (L : Lets P w K mg base Cl) : FnG P w K mg base CX0 7 f fd ["script"] (spC K 1 RLaw fun _ T => T (.bl true)) := by
  refine defC F (N := ["script", "k", "bag", "pool", "turn", "one", "mine", "asked", "call"]) ⟨rfl, rfl, rfl, by decide +kernel, rfl, by decide +kernel, by decide +kernel⟩ rfl ?_
  rintro cdv A outer s H E C _ T hG hr hl ⟨ns, rfl, hn⟩ hT
  have hN : (["script", "k", "bag", "pool", "turn", "one", "mine", "asked", "call"] : List Str).Nodup := by decide +kernel
  have hnl : (ns.map D.int).length = ns.length := List.length_map _
  have hu := u65 hr
  have hz := line1000
  have two : 2 ≤ sizeLine := by omega
  refine bl_for (.one 1) (fun _ C' Γ' => Ext C C' ∧ Le [some (.lst (ns.map D.int)), none, none, none, none, none, none, none, none] Γ') (ei_range (free_of hf (by decide +kernel)) ?_) (tg_one hN) PassesOwn.never
  repeat' (first | infer_instance | done)
  refine ⟨by split <;> split <;> omega, by split <;> split <;> omega, ⟨.rfl, .refl⟩, ?_, ?_⟩
  · rintro i y C' Γ' hy ⟨hx, hle⟩
    obtain ⟨hi, ey⟩ := range_at hy
    subst ey
    have hi6 : i < 64 := by
      revert hi
      split <;> split <;> omega
    refine ⟨_, rfl, ⟨bl_weak (hle.set 1 (some (.int (i : Nat)))) ?_⟩⟩
    refine bl_bag 2 (ef_callD L.bag hG (hr.mono (by decide)) ?_) hN
    repeat' (first | infer_instance | done)
    · exact ⟨ns, i, rfl, hn, by omega, by omega⟩
    intro g m hg hm hm2
    refine ⟨⟨g, m, rfl, hg, hm, hm2⟩, fun b => ?_⟩
    have hb : HasBag (bagC C' b) b := has_bagC
    have rb : RB (bagC C' b) [.adr b] := ⟨b, rfl, hb⟩
    refine bl_asg 3 (ev_callO L.pool (hr.mono (by decide)) (ea_cons (ev_var 2 rfl (ea_nil ⟨rfl, rb, fun zs hzs => ?_⟩)))) hN
    refine bl_for (.one 4) (fun _ C2 Γ2 => bagC C' b = C2 ∧ Le [some (.lst (ns.map D.int)), some (.int (i : Nat)), some (.adr b), some (.lst (zs.map D.str)), none, none, none, none, none] Γ2) (ei_range (free_of hf (by decide +kernel)) (ev_int ⟨3, rfl, by decide, by decide, ⟨rfl, .refl⟩, ?_, ?_⟩)) (tg_one hN) PassesOwn.never
    · rintro j y2 C2 Γ2 hy2 ⟨rfl, hle2⟩
      refine ⟨_, rfl, ⟨bl_weak (hle2.set 4 (some y2)) ?_⟩⟩
      refine bl_asg 5 (ev_callO L.list (hr.mono (by decide)) (ea_cons (ev_var 2 rfl (ea_cons (ev_var 3 rfl (ea_nil ⟨rfl, ⟨b, zs, rfl, hb, hzs⟩, fun o ho => ?_⟩)))))) hN
      refine bl_asg 6 (ev_callO L.made (hr.mono (by decide)) (ea_cons (ev_var 5 rfl (ea_nil ⟨rfl, ⟨o, rfl, ho⟩, fun o' e ho' => ?_⟩)))) hN
      obtain rfl : o = o' := One.d_inj (by injection e)
      refine bl_for (.one 7) (fun _ C3 Γ3 => bagC C' b = C3 ∧ Le [some (.lst (ns.map D.int)), some (.int (i : Nat)), some (.adr b), some (.lst (zs.map D.str)), some y2, some o.d, some (.obj Cl o.fs), none, none] Γ3) (ei_range (free_of hf (by decide +kernel)) (ev_int ⟨8, rfl, by decide, by decide, ⟨rfl, .refl⟩, ?_, ?_⟩)) (tg_one hN) PassesOwn.never
      · rintro j3 y3 C3 Γ3 hy3 ⟨rfl, hle3⟩
        refine ⟨_, rfl, ⟨bl_weak (hle3.set 7 (some y3)) ?_⟩⟩
        refine bl_asg 8 (ev_callO L.fit (hr.mono (by decide)) (ea_cons (ev_var 2 rfl (ea_cons (ev_var 5 rfl (ea_cons (ev_var 3 rfl (ea_nil ⟨rfl, ⟨b, o, zs, rfl, hb, ho, hzs⟩, fun c xs hc hc2 hxl hxn => ?_⟩)))))))) hN
        have hok : ∀ x ∈ xs, PyData.strOk x = true := fun x hx => name_ok (hxn x hx)
        refine bl_if (et_w (ew_and (et_isN (ev_callO L.lref (hr.mono (by decide)) (ea_cons (ev_var 5 rfl (ea_cons (ev_var 8 rfl (ea_nil ⟨rfl, ⟨o, c, xs, rfl, ho, hc, hxl, hok⟩, fun o' c' ns' e ho' => ?_⟩)))))))))
        have er : rsnD o' c' ns' = rsnD o c xs := by
          injection e with e1 e2
          injection e2 with e2 _
          injection e2 with e2
          injection e2 with e2 e3
          injection e2 with e2
          injection e3 with e3 _
          injection e3 with e3
          rw [← One.d_inj e1, ← e2, ← strs_inj e3]
        rw [er]
        have stay : Le [some (.lst (ns.map D.int)), some (.int (i : Nat)), some (.adr b), some (.lst (zs.map D.str)), some y2, some o.d, some (.obj Cl o.fs), none, none] [some (.lst (ns.map D.int)), some (.int (i : Nat)), some (.adr b), some (.lst (zs.map D.str)), some y2, some o.d, some (.obj Cl o.fs), some y3, some (.tup [.int c, .tup (xs.map D.str)])] :=
          .cons (.cons (.cons (.cons (.cons (.cons (.cons (.drop (.drop .refl))))))))
        refine if2_m (fun hnone => ?_) (fun hnone => if2_f (bl_nil (bl_nil ⟨rfl, stay⟩)))
        refine ew_and1 (et_not (evt_val (ev_callD L.right hG hr (ea_cons (ev_var 5 rfl (ea_cons (ev_var 6 rfl (ea_cons (ev_var 8 rfl (ea_nil ⟨rfl, ⟨o, c, xs, rfl, ho, hc, hc2, hxl, hxn, hnone⟩, ?_⟩))))))))))
        exact d_bo (if2_nt (bl_nil (bl_nil ⟨rfl, stay⟩)))
      · rintro C3 Γ3 ⟨rfl, hle3⟩
        exact bl_nil ⟨rfl, .trans (.cons (.cons (.cons (.cons (.drop (.drop (.drop (.drop (.drop .refl))))))))) hle3⟩
    · rintro C2 Γ2 ⟨rfl, hle2⟩
      exact bl_nil ⟨hx.bag, .trans (.cons (.drop (.drop (.drop (.drop (.drop (.drop (.drop (.drop .refl))))))))) hle2⟩
  · rintro C' Γ' ⟨hx, hle⟩
    exact bl_ret hx (ev_bl hT)
end
end K05
set_option maxHeartbeats 0
/-! K05Z: the head and the law joined. -/
namespace K05
open PySem PySem.Spec PyProof.Rows L2 GG
theorem facts {P : Program} {w : World} {K : PySem.W.Frag} {h : Heap} {mg : Str → Option Value} {f : Addr} (X : K.In h) (G : h.Ns mainGlobals mg) (hfa : mg ("law" : Str) = some (.ref f)) (c : SaysP fa fn pr K) :
    ∃ fd : FuncData, (∀ (s : Shared) (v : Value), BindsTo s fd ⟨[v], []⟩ [("script", v)]) ∧ ∀ base : Heap, K.In base → base.Ns mainGlobals mg → FnG P w K mg base CX0 7 f fd ["script"] (spLaw K) := by
  have hf : Frees mg fr := by
    intro x hx
    have key : ∀ (i : Nat) (y : Str), fa[i]? = some (.free y) → mg y = none := fun i y hy => He.free_ok X G (c.d.fact i (f := .free y) hy)
    obtain ⟨i, hi⟩ := List.mem_iff_getElem?.mp hx
    refine key i x ?_
    unfold fa
    rw [List.getElem?_append_left (by rw [List.length_map]; exact (List.getElem?_eq_some_iff.mp hi).1), List.getElem?_map, hi]
    rfl
  have g_ITEM_GAP := He.str_ok X G (c.d.fact 53 (f := .str "ITEM_GAP" ", ") rfl)
  have g_LETTERS := He.str_ok X G (c.d.fact 54 (f := .str "LETTERS" "abcdefghijklmnopqrstuvwxyz") rfl)
  have g_MOST_LETTERS := He.int_ok X G (c.d.fact 55 (f := .int "MOST_LETTERS" (6)) rfl)
  have g_MOST_PARAMETERS := He.int_ok X G (c.d.fact 56 (f := .int "MOST_PARAMETERS" (8)) rfl)
  have cls_Params := He.cls_ok (c.d.fact 35 (f := .cls "Params") rfl)
  have no_Params_default_names := He.noat_ok (c.d.fact 36 (f := .noat "Params" "default_names") rfl)
  have no_Params_more_name := He.noat_ok (c.d.fact 37 (f := .noat "Params" "more_name") rfl)
  have no_Params_named_names := He.noat_ok (c.d.fact 38 (f := .noat "Params" "named_names") rfl)
  have no_Params_only_names := He.noat_ok (c.d.fact 39 (f := .noat "Params" "only_names") rfl)
  have no_Params_plain_names := He.noat_ok (c.d.fact 40 (f := .noat "Params" "plain_names") rfl)
  have no_Params_rest_name := He.noat_ok (c.d.fact 41 (f := .noat "Params" "rest_name") rfl)
  obtain ⟨d_is_name, F_is_name⟩ := c.d.def_ 3 (d := mkD "is_name" 12) rfl
  obtain ⟨d_are_names, F_are_names⟩ := c.d.def_ 4 (d := mkD "are_names" 13) rfl
  obtain ⟨d__law_bag, F__law_bag⟩ := c.d.def_ 5 (d := mkD "_law_bag" 16) rfl
  obtain ⟨d__law_take, F__law_take⟩ := c.d.def_ 6 (d := mkD "_law_take" 17) rfl
  obtain ⟨d__law_pool, F__law_pool⟩ := c.d.def_ 7 (d := mkD "_law_pool" 18) rfl
  obtain ⟨d__law_picked, F__law_picked⟩ := c.d.def_ 8 (d := mkD "_law_picked" 19) rfl
  obtain ⟨d__law_list, F__law_list⟩ := c.d.def_ 9 (d := mkD "_law_list" 20) rfl
  obtain ⟨d__law_some_names, F__law_some_names⟩ := c.d.def_ 11 (d := mkD "_law_some_names" 22) rfl
  obtain ⟨d__law_refusal, F__law_refusal⟩ := c.d.def_ 12 (d := mkD "_law_refusal" 23) rfl
  obtain ⟨p_Params_only, d_Params_only, F_Params_only⟩ := c.prop 0 (p := ⟨"Params", "only", mkM "Params" "only" 14 1⟩) rfl
  obtain ⟨p_Params_plain, d_Params_plain, F_Params_plain⟩ := c.prop 1 (p := ⟨"Params", "plain", mkM "Params" "plain" 14 2⟩) rfl
  obtain ⟨p_Params_rest, d_Params_rest, F_Params_rest⟩ := c.prop 2 (p := ⟨"Params", "rest", mkM "Params" "rest" 14 3⟩) rfl
  obtain ⟨p_Params_named, d_Params_named, F_Params_named⟩ := c.prop 3 (p := ⟨"Params", "named", mkM "Params" "named" 14 4⟩) rfl
  obtain ⟨p_Params_more, d_Params_more, F_Params_more⟩ := c.prop 4 (p := ⟨"Params", "more", mkM "Params" "more" 14 5⟩) rfl
  obtain ⟨p_Params_defaults, d_Params_defaults, F_Params_defaults⟩ := c.prop 5 (p := ⟨"Params", "defaults", mkM "Params" "defaults" 14 6⟩) rfl
  obtain ⟨p_Params_positional, d_Params_positional, F_Params_positional⟩ := c.prop 6 (p := ⟨"Params", "positional", mkM "Params" "positional" 14 7⟩) rfl
  obtain ⟨d_Params_extra, F_Params_extra⟩ := c.d.def_ 23 (d := mkM "Params" "extra" 14 13) rfl
  obtain ⟨d_Params_refusal, F_Params_refusal⟩ := c.d.def_ 24 (d := mkM "Params" "refusal" 14 14) rfl
  obtain ⟨d_Params, F_Params⟩ := c.d.def_ 17 (d := { mkM "Params" "__init__" 14 0 with kwd := [("only", .adr (kwAt "Params" "__init__" "only")), ("plain", .adr (kwAt "Params" "__init__" "plain")), ("rest", .non), ("named", .adr (kwAt "Params" "__init__" "named")), ("more", .non), ("defaults", .adr (kwAt "Params" "__init__" "defaults"))] }) rfl
  obtain ⟨d__law_made, F__law_made⟩ := c.d.def_ 10 (d := mkD "_law_made" 21) rfl
  obtain ⟨d_Params_by_name, F_Params_by_name⟩ := c.d.def_ 27 (d := mkM "Params" "by_name" 14 17) rfl
  obtain ⟨d_Params_bind, F_Params_bind⟩ := c.d.def_ 26 (d := mkM "Params" "bind" 14 16) rfl
  obtain ⟨d__law_due, F__law_due⟩ := c.d.def_ 13 (d := mkD "_law_due" 24) rfl
  obtain ⟨d__law_fitting, F__law_fitting⟩ := c.d.def_ 14 (d := mkD "_law_fitting" 25) rfl
  obtain ⟨d__law_is_right, F__law_is_right⟩ := c.d.def_ 15 (d := mkD "_law_is_right" 26) rfl
  obtain ⟨fd, F⟩ := c.d.def_ 16 (d := mkD "law" 27) rfl
  have e := hfa.symm.trans (He.glo_ok X G (c.d.fact 33 (f := .glo "law") rfl))
  cases e
  have b := FunD.bindsA (ps := ["script"]) F fun _ _ _ _ _ _ us hl => match us, hl with | [_], _ => rfl
  refine ⟨fd, fun s v => b s [v] rfl, fun base _ _ => ?_⟩
  have D_is_name : DefdO P w K mg base "is_name" 1 1 (Rs 0) (Gb isName) := ⟨_, _, _, ok_is_name F_is_name hf g_LETTERS g_MOST_LETTERS, He.glo_ok X G (c.d.fact 20 (f := .glo "is_name") rfl), F_is_name.kp, F_is_name.bindsN fun _ _ _ _ _ _ us hl => match us, hl with | [_], _ => rfl⟩
  have D_are_names : DefdO P w K mg base "are_names" 2 1 (Rs 1) (Gb areNames) := ⟨_, _, _, ok_are_names F_are_names hf D_is_name, He.glo_ok X G (c.d.fact 21 (f := .glo "are_names") rfl), F_are_names.kp, F_are_names.bindsN fun _ _ _ _ _ _ us hl => match us, hl with | [_], _ => rfl⟩
  have D__law_bag : DefdN P w K mg base "_law_bag" 1 2 RBag GBag := ⟨_, _, _, ok_bag F__law_bag hf, He.glo_ok X G (c.d.fact 22 (f := .glo "_law_bag") rfl), F__law_bag.kp, F__law_bag.bindsN fun _ _ _ _ _ _ us hl => match us, hl with | [_, _], _ => rfl⟩
  have D__law_take : DefdO P w K mg base "_law_take" 1 2 RTake GTake := ⟨_, _, _, ok_take F__law_take, He.glo_ok X G (c.d.fact 23 (f := .glo "_law_take") rfl), F__law_take.kp, F__law_take.bindsN fun _ _ _ _ _ _ us hl => match us, hl with | [_, _], _ => rfl⟩
  have D__law_pool : DefdO P w K mg base "_law_pool" 2 1 RB GPool := ⟨_, _, _, ok_pool F__law_pool D__law_take, He.glo_ok X G (c.d.fact 24 (f := .glo "_law_pool") rfl), F__law_pool.kp, F__law_pool.bindsN fun _ _ _ _ _ _ us hl => match us, hl with | [_], _ => rfl⟩
  have D__law_picked : DefdL P w K mg base "_law_picked" 2 3 RPick GPick := ⟨_, _, _, ok_picked F__law_picked hf D__law_take, He.glo_ok X G (c.d.fact 25 (f := .glo "_law_picked") rfl), F__law_picked.kp, F__law_picked.bindsN fun _ _ _ _ _ _ us hl => match us, hl with | [_, _, _], _ => rfl⟩
  have D__law_list : DefdO P w K mg base "_law_list" 3 2 RList GList := ⟨_, _, _, ok_list F__law_list hf D__law_take D__law_picked, He.glo_ok X G (c.d.fact 26 (f := .glo "_law_list") rfl), F__law_list.kp, F__law_list.bindsN fun _ _ _ _ _ _ us hl => match us, hl with | [_, _], _ => rfl⟩
  have D__law_some_names : DefdO P w K mg base "_law_some_names" 3 3 RSome GSome := ⟨_, _, _, ok_some F__law_some_names hf D__law_picked, He.glo_ok X G (c.d.fact 28 (f := .glo "_law_some_names") rfl), F__law_some_names.kp, F__law_some_names.bindsN fun _ _ _ _ _ _ us hl => match us, hl with | [_, _, _], _ => rfl⟩
  have D__law_refusal : DefdO P w K mg base "_law_refusal" 1 2 RLRef GLRef := ⟨_, _, _, ok_lrefusal F__law_refusal hf, He.glo_ok X G (c.d.fact 29 (f := .glo "_law_refusal") rfl), F__law_refusal.kp, F__law_refusal.bindsN fun _ _ _ _ _ _ us hl => match us, hl with | [_, _], _ => rfl⟩
  have D_Params_only : PropD P w K mg base (He.ga K "Params") "only" 1 (RFld (He.ga K "Params") "only_names") (GFld (He.ga K "Params") "only_names") := ⟨_, _, _, _, get_only F_Params_only cls_Params no_Params_only_names, cls_Params, p_Params_only, F_Params_only.bindsN fun _ _ _ _ _ _ us hl => match us, hl with | [_], _ => rfl⟩
  have D_Params_plain : PropD P w K mg base (He.ga K "Params") "plain" 1 (RFld (He.ga K "Params") "plain_names") (GFld (He.ga K "Params") "plain_names") := ⟨_, _, _, _, get_plain F_Params_plain cls_Params no_Params_plain_names, cls_Params, p_Params_plain, F_Params_plain.bindsN fun _ _ _ _ _ _ us hl => match us, hl with | [_], _ => rfl⟩
  have D_Params_rest : PropD P w K mg base (He.ga K "Params") "rest" 1 (RFld (He.ga K "Params") "rest_name") (GFld (He.ga K "Params") "rest_name") := ⟨_, _, _, _, get_rest F_Params_rest cls_Params no_Params_rest_name, cls_Params, p_Params_rest, F_Params_rest.bindsN fun _ _ _ _ _ _ us hl => match us, hl with | [_], _ => rfl⟩
  have D_Params_named : PropD P w K mg base (He.ga K "Params") "named" 1 (RFld (He.ga K "Params") "named_names") (GFld (He.ga K "Params") "named_names") := ⟨_, _, _, _, get_named F_Params_named cls_Params no_Params_named_names, cls_Params, p_Params_named, F_Params_named.bindsN fun _ _ _ _ _ _ us hl => match us, hl with | [_], _ => rfl⟩
  have D_Params_more : PropD P w K mg base (He.ga K "Params") "more" 1 (RFld (He.ga K "Params") "more_name") (GFld (He.ga K "Params") "more_name") := ⟨_, _, _, _, get_more F_Params_more cls_Params no_Params_more_name, cls_Params, p_Params_more, F_Params_more.bindsN fun _ _ _ _ _ _ us hl => match us, hl with | [_], _ => rfl⟩
  have D_Params_defaults : PropD P w K mg base (He.ga K "Params") "defaults" 1 (RFld (He.ga K "Params") "default_names") (GFld (He.ga K "Params") "default_names") := ⟨_, _, _, _, get_defaults F_Params_defaults cls_Params no_Params_default_names, cls_Params, p_Params_defaults, F_Params_defaults.bindsN fun _ _ _ _ _ _ us hl => match us, hl with | [_], _ => rfl⟩
  have D_Params_positional : PropD P w K mg base (He.ga K "Params") "positional" 1 (RPos (He.ga K "Params")) (GPos (He.ga K "Params")) := ⟨_, _, _, _, get_positional F_Params_positional cls_Params no_Params_only_names no_Params_plain_names, cls_Params, p_Params_positional, F_Params_positional.bindsN fun _ _ _ _ _ _ us hl => match us, hl with | [_], _ => rfl⟩
  have D_Params_extra : MethD P w K mg base (He.ga K "Params") "extra" 3 2 (RExt (He.ga K "Params")) (GExt (He.ga K "Params")) := ⟨_, _, _, ok_extra F_Params_extra hf D_Params_plain D_Params_named, cls_Params, He.meth_ok (c.d.fact 48 (f := .meth "Params" "extra") rfl), F_Params_extra.bindsN fun _ _ _ _ _ _ us hl => match us, hl with | [_, _], _ => rfl⟩
  have D_Params_refusal : MethD P w K mg base (He.ga K "Params") "refusal" 4 2 (RRef (He.ga K "Params")) (GRef (He.ga K "Params")) := ⟨_, _, _, ok_refusal F_Params_refusal hf ⟨D_Params_only, D_Params_plain, D_Params_rest, D_Params_named, D_Params_more, D_Params_defaults, D_Params_positional⟩ D_Params_extra, cls_Params, He.meth_ok (c.d.fact 49 (f := .meth "Params" "refusal") rfl), F_Params_refusal.bindsN fun _ _ _ _ _ _ us hl => match us, hl with | [_, _], _ => rfl⟩
  have D_Params : MakeD P w K mg base "Params" (He.ga K "Params") 3 6 ksP id RIni GIni := by
    obtain ⟨mv, hKB⟩ := F_Params.kbinds0 (ps := "self" :: ksP) 1 ksP [] (fun us mv ws => us ++ ws) (by intro z; cases z) (fun q hq => absurd hq List.not_mem_nil) (fun r1 _ r3 => r1.append r3) (fun D doc pm an cdv ct us mv ws h1 h2 h3 => match us, mv, ws, h1, h2, h3 with | [_], [], [_, _, _, _, _, _], _, _, _ => rfl)
    exact ⟨_, _, _, _, _, He.mkr_ok (c.d.fact 42 (f := .mkr "Params") rfl), ok_init F_Params hf cls_Params no_Params_only_names no_Params_plain_names no_Params_named_names no_Params_rest_name no_Params_more_name no_Params_default_names g_MOST_PARAMETERS D_are_names, He.glo_ok X G (c.d.fact 34 (f := .glo "Params") rfl), hKB, fun S a vs ds r hl => ⟨vs, rfl, r⟩⟩
  have D__law_made : DefdO P w K mg base "_law_made" 5 1 RMade (GMade (He.ga K "Params")) := ⟨_, _, _, ok_made F__law_made D_Params, He.glo_ok X G (c.d.fact 27 (f := .glo "_law_made") rfl), F__law_made.kp, F__law_made.bindsN fun _ _ _ _ _ _ us hl => match us, hl with | [_], _ => rfl⟩
  have D_Params_by_name : MethD P w K mg base (He.ga K "Params") "by_name" 3 3 (RByn (He.ga K "Params")) (GByn (He.ga K "Params")) := ⟨_, _, _, ok_by_name F_Params_by_name ⟨D_Params_only, D_Params_plain, D_Params_rest, D_Params_named, D_Params_more, D_Params_defaults, D_Params_positional⟩, cls_Params, He.meth_ok (c.d.fact 52 (f := .meth "Params" "by_name") rfl), F_Params_by_name.bindsN fun _ _ _ _ _ _ us hl => match us, hl with | [_, _, _], _ => rfl⟩
  have D_Params_bind : MethX P w K mg base (He.ga K "Params") "bind" 5 2 (RBnd (He.ga K "Params")) (GBnd (He.ga K "Params")) := ⟨_, _, _, ok_bind F_Params_bind hf ⟨D_Params_only, D_Params_plain, D_Params_rest, D_Params_named, D_Params_more, D_Params_defaults, D_Params_positional⟩ D_Params_extra D_Params_refusal D_Params_by_name, cls_Params, He.meth_ok (c.d.fact 51 (f := .meth "Params" "bind") rfl), F_Params_bind.bindsN fun _ _ _ _ _ _ us hl => match us, hl with | [_, _], _ => rfl⟩
  have D__law_due : DefdO P w K mg base "_law_due" 1 2 RLRef GDue := ⟨_, _, _, ok_due F__law_due hf, He.glo_ok X G (c.d.fact 30 (f := .glo "_law_due") rfl), F__law_due.kp, F__law_due.bindsN fun _ _ _ _ _ _ us hl => match us, hl with | [_, _], _ => rfl⟩
  have D__law_fitting : DefdO P w K mg base "_law_fitting" 4 3 RFit GFit := ⟨_, _, _, ok_fitting F__law_fitting hf D__law_take D__law_some_names, He.glo_ok X G (c.d.fact 31 (f := .glo "_law_fitting") rfl), F__law_fitting.kp, F__law_fitting.bindsN fun _ _ _ _ _ _ us hl => match us, hl with | [_, _, _], _ => rfl⟩
  have D__law_is_right : Defd P w K mg base "_law_is_right" 6 3 (RRight (He.ga K "Params")) GRight := ⟨_, _, _, ok_right F__law_is_right hf D__law_due D_Params_bind, He.glo_ok X G (c.d.fact 32 (f := .glo "_law_is_right") rfl), F__law_is_right.kp, F__law_is_right.bindsN fun _ _ _ _ _ _ us hl => match us, hl with | [_, _, _], _ => rfl⟩
  exact law_of (ok_law F hf ⟨D__law_bag, D__law_pool, D__law_list, D__law_made, D__law_fitting, D__law_refusal, D__law_is_right⟩)
end K05
open PySem PySem.W PySem.Calls PyProof.Rows
theorem PySem.Challenge.cw_forwardcalls_k05_arguments_bound_holds : PySem.Challenge.rw_forwardcalls_k05_arguments_bound.Holds := by
  w_on; o_law
  refine HandSHeadRun.head_any (r := OpenLaw.row PySem.Challenge.rw_forwardcalls_k05_arguments_bound) (q := view (OpenLaw.row PySem.Challenge.rw_forwardcalls_k05_arguments_bound).prog [27]) (H := K05.hk) (ob := K05.ob) (M := 4000) (loose := K05.others) (d := HandSHeadRun.topDef (OpenLaw.row PySem.Challenge.rw_forwardcalls_k05_arguments_bound).prog 27) (kwd := []) K05.ob_eq
    (by kernel_rfl) (fun s => by kernel_rfl) K05.run (by kernel_rfl) (by kernel_rfl) (by kernel_rfl) (by rfl) (by first | assumption | decide +kernel) (by decide +kernel) ⟨rfl, rfl, rfl, rfl, rfl, by decide +kernel⟩ ?hw ?hc
  case hw => w_witness2
  case hc =>
    refine GG.walk_G (l := PySem.Challenge.rw_forwardcalls_k05_arguments_bound) (k := 7) (x := "script") (by kernel_rfl) (by kernel_rfl) ⟨rfl, by decide, by decide⟩ ?F
    intro w mg fa h Y G hmg0
    obtain ⟨K, KX, c⟩ := Y
    have hmg : mg ("law" : PySem.Str) = some (.ref fa) := by
      have e : (HandSHeadRun.topDef (OpenLaw.row PySem.Challenge.rw_forwardcalls_k05_arguments_bound).prog 27).name = ("law" : PySem.Str) := by kernel_rfl
      rw [← e]
      exact hmg0
    obtain ⟨fd, hb, hF⟩ := K05.facts (P := (PySem.Challenge.rw_forwardcalls_k05_arguments_bound).prog) (w := w) KX G hmg c
    exact ⟨K, fd, KX, hb, hF⟩
