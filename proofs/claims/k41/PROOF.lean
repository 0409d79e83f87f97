import PyProof.Rows.All
import Wide.All
import OpenK.AllK
import Wide.FinOn
import PyProof.EqAt
import PyProof.EqKinds
import PyProof.TupleCall
import PyProof.ReprNest
import PyProof.ReprDict
import HandS.Base
import HandS.Call
import HandS.List
import HandS.Comp
import HandS.Ends
import HandS.Words
import HandS.WordsExc
import HandS.Defaults
import HandS.Iter
import HandS.Conv
import HandS.Text
import HandS.IsInst
import HandS.TupAny
import HandS.TupMul
import HandS.Style
import HandS.Zip
import HandS.RevTup
import HandS.HeadEnd
import HandS.Wide
import PyProof.ReprRoads
import PyProof.StrLawsRepr
import HandS.RaiseMore
import HandS.SetKeys
import HandS.Dict
import HandS.Property
import HandS.HeadWalk
import HandS.ExcOwn
import KE.DataMinMax
import OpenK.KOps
import KE.GoesEnum
import HandS.EndBits
import HandS.HeadHook1
import HandS.HeadHook2
import KE.KStateDown
import Lean
import HandS.More
import HandS.Head0
import HandS.Head1
import HandS.Head2
import PySem.Challenge.RW_forwardcalls_k41_tables_made
set_option Elab.async false
set_option linter.all false
set_option maxRecDepth 100000
set_option maxHeartbeats 1000000
/-! R1: data, tracked objects, what stands for what; states, steps. -/
namespace RR
open PySem PySem.Spec PyProof.Rows L2

/-! ### data -/
inductive D where
  | non | bl (b : Bool) | int (i : Int) | str (s : Str) | ty (n : String)
  | lst (ds : List D) | tup (ds : List D) | dct (kvs : List (Key × D)) | obj (C : Nat) (fs : List (Str × D))
  | cls (C : Nat) | fn (f : Str) | adr (n : Nat)
instance : Inhabited D := ⟨.non⟩
/-- what the code may change, by its place in the store -/
inductive Ob where
  | lst (ds : List D) | dct (kvs : List (Key × D)) | ins (C : Nat) (fs : List (Str × D))
/-- the addresses of the program's classes and defs -/
structure Bas where
  K : PySem.W.Frag
  ca : Nat → Addr
  fa : Str → Addr

mutual
inductive DD (B : Bas) (ρ : List Addr) (S : Hp) : V → D → Prop
  | non : DD B ρ S .non .non
  | bl (b : Bool) : DD B ρ S (.bl b) (.bl b)
  | int (i : Int) : DD B ρ S (.int i) (.int i)
  | str (s : Str) : DD B ρ S (.str s) (.str s)
  | ty (n : String) : DD B ρ S (.ty n) (.ty n)
  | lst {a : Addr} {xs : List V} {ds : List D} (h : Rd S a (.lst xs)) (r : DDs B ρ S xs ds) : DD B ρ S (.ref a) (.lst ds)
  | tup {a : Addr} {xs : List V} {ds : List D} (h : SqT B.K S a xs) (r : DDs B ρ S xs ds) : DD B ρ S (.ref a) (.tup ds)
  | dct {a : Addr} {ws : List (Key × V)} {kvs : List (Key × D)} (h : Rd S a (.dK ws)) (r : DDk B ρ S ws kvs) : DD B ρ S (.ref a) (.dct kvs)
  | obj {a dx : Addr} {C : Nat} {fs : List (Str × V)} {gs : List (Str × D)} (h : S a = some (.ins (B.ca C) dx fs)) (r : DDf B ρ S fs gs) : DD B ρ S (.ref a) (.obj C gs)
  | cls (C : Nat) : DD B ρ S (.ref (B.ca C)) (.cls C)
  | fn (f : Str) : DD B ρ S (.ref (B.fa f)) (.fn f)
  | adr {n : Nat} {a : Addr} (h : ρ[n]? = some a) : DD B ρ S (.ref a) (.adr n)
inductive DDs (B : Bas) (ρ : List Addr) (S : Hp) : List V → List D → Prop
  | nil : DDs B ρ S [] []
  | cons {v : V} {vs : List V} {d : D} {ds : List D} (h : DD B ρ S v d) (r : DDs B ρ S vs ds) : DDs B ρ S (v :: vs) (d :: ds)
inductive DDk (B : Bas) (ρ : List Addr) (S : Hp) : List (Key × V) → List (Key × D) → Prop
  | nil : DDk B ρ S [] []
  | cons {k : Key} {v : V} {vs : List (Key × V)} {d : D} {ds : List (Key × D)} (h : DD B ρ S v d) (r : DDk B ρ S vs ds) : DDk B ρ S ((k, v) :: vs) ((k, d) :: ds)
inductive DDf (B : Bas) (ρ : List Addr) (S : Hp) : List (Str × V) → List (Str × D) → Prop
  | nil : DDf B ρ S [] []
  | cons {k : Str} {v : V} {vs : List (Str × V)} {d : D} {ds : List (Str × D)} (h : DD B ρ S v d) (r : DDf B ρ S vs ds) : DDf B ρ S ((k, v) :: vs) ((k, d) :: ds)
end

theorem same_sqT {K : PySem.W.Frag} {S S' : Hp} {a : Addr} {xs : List V} (e : Same S S') (h : SqT K S a xs) : SqT K S' a xs := by
  rcases h with (h | ⟨o, h⟩) | h
  · exact .inl (.inl (e _ _ h))
  · exact .inl (.inr ⟨o, e _ _ h⟩)
  · exact .inr h
theorem same_rd {S S' : Hp} {a : Addr} {u : HO} (e : Same S S') (h : Rd S a u) : Rd S' a u := by
  rcases h with h | ⟨o, h⟩
  · exact .inl (e _ _ h)
  · exact .inr ⟨o, e _ _ h⟩
theorem pre_get {α : Type} {ρ ρ' : List α} (p : ρ <+: ρ') {n : Nat} {a : α} (h : ρ[n]? = some a) : ρ'[n]? = some a := by
  obtain ⟨t, rfl⟩ := p
  rw [List.getElem?_append_left (List.getElem?_eq_some_iff.mp h).1]
  exact h
section
variable {B : Bas} {ρ ρ' : List Addr} {S S' : Hp}
mutual
theorem DD.mono (p : ρ <+: ρ') (e : Same S S') : ∀ {v : V} {d : D}, DD B ρ S v d → DD B ρ' S' v d
  | _, _, .non => .non
  | _, _, .bl b => .bl b
  | _, _, .int i => .int i
  | _, _, .str s => .str s
  | _, _, .ty n => .ty n
  | _, _, .lst h r => .lst (same_rd e h) (DDs.mono p e r)
  | _, _, .tup h r => .tup (same_sqT e h) (DDs.mono p e r)
  | _, _, .dct h r => .dct (same_rd e h) (DDk.mono p e r)
  | _, _, .obj h r => .obj (e _ _ h) (DDf.mono p e r)
  | _, _, .cls C => .cls C
  | _, _, .fn f => .fn f
  | _, _, .adr h => .adr (pre_get p h)
theorem DDs.mono (p : ρ <+: ρ') (e : Same S S') : ∀ {v : List V} {d : List D}, DDs B ρ S v d → DDs B ρ' S' v d
  | _, _, .nil => .nil
  | _, _, .cons h r => .cons (DD.mono p e h) (DDs.mono p e r)
theorem DDk.mono (p : ρ <+: ρ') (e : Same S S') : ∀ {v : List (Key × V)} {d : List (Key × D)}, DDk B ρ S v d → DDk B ρ' S' v d
  | _, _, .nil => .nil
  | _, _, .cons h r => .cons (DD.mono p e h) (DDk.mono p e r)
theorem DDf.mono (p : ρ <+: ρ') (e : Same S S') : ∀ {v : List (Str × V)} {d : List (Str × D)}, DDf B ρ S v d → DDf B ρ' S' v d
  | _, _, .nil => .nil
  | _, _, .cons h r => .cons (DD.mono p e h) (DDf.mono p e r)
end
theorem DDs.len : ∀ {vs : List V} {ds : List D}, DDs B ρ S vs ds → vs.length = ds.length
  | _, _, .nil => rfl
  | _, _, .cons _ r => by rw [List.length_cons, List.length_cons, DDs.len r]
theorem DDs.get : ∀ {vs : List V} {ds : List D} {i : Nat} {d : D}, DDs B ρ S vs ds → ds[i]? = some d → ∃ v, vs[i]? = some v ∧ DD B ρ S v d
  | _, _, _, _, .nil, e => by simp at e
  | _, _, 0, _, .cons h _, e => by simp at e; subst e; exact ⟨_, rfl, h⟩
  | _, _, i + 1, d, .cons _ r, e => by
    obtain ⟨v, h1, h2⟩ := DDs.get (i := i) (d := d) r (by simpa using e)
    exact ⟨v, by simpa using h1, h2⟩
theorem DDs.append : ∀ {vs ws : List V} {ds es : List D}, DDs B ρ S vs ds → DDs B ρ S ws es → DDs B ρ S (vs ++ ws) (ds ++ es)
  | _, _, _, _, .nil, q => q
  | _, _, _, _, .cons h r, q => .cons h (DDs.append r q)
theorem DDs.one {v : V} {d : D} (h : DD B ρ S v d) : DDs B ρ S [v] [d] := .cons h .nil
theorem DDs.take : ∀ {vs : List V} {ds : List D} (n : Nat), DDs B ρ S vs ds → DDs B ρ S (vs.take n) (ds.take n)
  | _, _, 0, _ => .nil
  | _, _, _ + 1, .nil => .nil
  | _, _, n + 1, .cons h r => .cons h (DDs.take n r)
theorem DDs.drop : ∀ {vs : List V} {ds : List D} (n : Nat), DDs B ρ S vs ds → DDs B ρ S (vs.drop n) (ds.drop n)
  | _, _, 0, h => h
  | _, _, _ + 1, .nil => .nil
  | _, _, n + 1, .cons _ r => DDs.drop n r
theorem DDs.reverse {vs : List V} {ds : List D} (h : DDs B ρ S vs ds) : DDs B ρ S vs.reverse ds.reverse := by
  induction vs generalizing ds with
  | nil => cases h; exact .nil
  | cons v vs ih =>
    cases h with
    | cons h r =>
      rw [List.reverse_cons, List.reverse_cons]
      exact (ih r).append (.one h)
theorem DDs.erase : ∀ {vs : List V} {ds : List D} (k : Nat), DDs B ρ S vs ds → DDs B ρ S (vs.eraseIdx k) (ds.eraseIdx k)
  | _, _, _, .nil => .nil
  | _, _, 0, .cons _ r => r
  | _, _, k + 1, .cons h r => .cons h (DDs.erase k r)
theorem DDs.set : ∀ {vs : List V} {ds : List D} (k : Nat) {v : V} {d : D}, DDs B ρ S vs ds → DD B ρ S v d → DDs B ρ S (vs.set k v) (ds.set k d)
  | _, _, _, _, _, .nil, _ => .nil
  | _, _, 0, _, _, .cons _ r, h => .cons h r
  | _, _, k + 1, _, _, .cons h r, q => .cons h (DDs.set k r q)
end

/-! ### the heap without some addresses -/
def cut (M : List Addr) (H : Hp) : Hp := fun a => if a ∈ M then none else H a
theorem cut_sub (M : List Addr) (H : Hp) : Same (cut M H) H := fun a o h => by
  unfold cut at h
  split at h
  · cases h
  · exact h
theorem cut_at {M : List Addr} {H : Hp} {a : Addr} (h : a ∉ M) : cut M H a = H a := by unfold cut; rw [if_neg h]
theorem cut_less {M M' : List Addr} {H : Hp} (h : ∀ a ∈ M, a ∈ M') : Same (cut M' H) (cut M H) := fun a o e => by
  unfold cut at e ⊢
  split at e
  · cases e
  · rename_i hn
    rw [if_neg fun z => hn (h a z)]
    exact e
theorem cut_mem {M M' : List Addr} {H : Hp} (h : ∀ a, a ∈ M ↔ a ∈ M') : cut M H = cut M' H := by
  funext a
  unfold cut
  by_cases z : a ∈ M
  · rw [if_pos z, if_pos ((h a).mp z)]
  · rw [if_neg z, if_neg fun q => z ((h a).mpr q)]
theorem cut_upd {M : List Addr} {H : Hp} {p : Addr} {o : HO} (hp : p ∈ M) : cut M (upd H p o) = cut M H := by
  funext b
  unfold cut
  by_cases z : b ∈ M
  · rw [if_pos z, if_pos z]
  · rw [if_neg z, if_neg z, upd_ne fun e : b = p => z (by rw [e]; exact hp)]

/-! ### states -/
def OOk (B : Bas) (ρ : List Addr) (S H : Hp) (a : Addr) : Ob → Prop
  | .lst ds => ∃ xs, H a = some (.lst xs) ∧ DDs B ρ S xs ds
  | .dct kvs => ∃ ws, H a = some (.dK ws) ∧ DDk B ρ S ws kvs
  | .ins C gs => ∃ dx fs, H a = some (.ins (B.ca C) dx fs) ∧ DDf B ρ S fs gs
theorem OOk.mono {B : Bas} {ρ ρ' : List Addr} {S S' H H' : Hp} {a : Addr} {o : Ob} (h : OOk B ρ S H a o) (p : ρ <+: ρ') (e : Same S S') (ha : H' a = H a) : OOk B ρ' S' H' a o := by
  cases o with
  | lst ds => obtain ⟨xs, h1, h2⟩ := h; exact ⟨xs, ha.trans h1, h2.mono p e⟩
  | dct kvs => obtain ⟨xs, h1, h2⟩ := h; exact ⟨xs, ha.trans h1, h2.mono p e⟩
  | ins C gs => obtain ⟨dx, xs, h1, h2⟩ := h; exact ⟨dx, xs, ha.trans h1, h2.mono p e⟩
theorem OOk.some {B : Bas} {ρ : List Addr} {S H : Hp} {a : Addr} {o : Ob} (h : OOk B ρ S H a o) : H a ≠ none := by
  cases o with
  | lst ds => obtain ⟨xs, h1, h2⟩ := h; rw [h1]; exact fun z => by cases z
  | dct kvs => obtain ⟨xs, h1, h2⟩ := h; rw [h1]; exact fun z => by cases z
  | ins C gs => obtain ⟨dx, xs, h1, h2⟩ := h; rw [h1]; exact fun z => by cases z

abbrev cutR (F ρ : List Addr) (H : Hp) : Hp := cut (F ++ ρ) H
/-- F: kept as it is; ρ: where the tracked objects stand -/
structure Wd (B : Bas) (F ρ : List Addr) (T : List Ob) (H : Hp) : Prop where
  len : ρ.length = T.length
  nd : (F ++ ρ).Nodup
  trk : ∀ a ∈ F, H a ≠ none
  ok : ∀ (i : Nat) (a : Addr) (o : Ob), ρ[i]? = some a → T[i]? = some o → OOk B ρ (cutR F ρ H) H a o
structure Stp (F ρ : List Addr) (H : Hp) (ρ' : List Addr) (H' : Hp) : Prop where
  pre : ρ <+: ρ'
  same : Same (cutR F ρ H) (cutR F ρ' H')
  fr : ∀ a ∈ F, H' a = H a
theorem Stp.refl {F ρ : List Addr} {H : Hp} : Stp F ρ H ρ H := ⟨List.prefix_refl _, Same.refl _, fun _ _ => rfl⟩
theorem Stp.trans {F ρ ρ1 ρ2 : List Addr} {H H1 H2 : Hp} (a : Stp F ρ H ρ1 H1) (b : Stp F ρ1 H1 ρ2 H2) : Stp F ρ H ρ2 H2 :=
  ⟨a.pre.trans b.pre, a.same.trans b.same, fun x hx => (b.fr x hx).trans (a.fr x hx)⟩
theorem DD.stp {B : Bas} {F ρ ρ' : List Addr} {H H' : Hp} {v : V} {d : D} (h : DD B ρ (cutR F ρ H) v d) (s : Stp F ρ H ρ' H') : DD B ρ' (cutR F ρ' H') v d := h.mono s.pre s.same
theorem DDs.stp {B : Bas} {F ρ ρ' : List Addr} {H H' : Hp} {v : List V} {d : List D} (h : DDs B ρ (cutR F ρ H) v d) (s : Stp F ρ H ρ' H') : DDs B ρ' (cutR F ρ' H') v d := h.mono s.pre s.same
theorem Wd.has {B : Bas} {F ρ : List Addr} {T : List Ob} {H : Hp} (w : Wd B F ρ T H) {a : Addr} (h : a ∈ F ++ ρ) : H a ≠ none := by
  rcases List.mem_append.mp h with h | h
  · exact w.trk a h
  · obtain ⟨i, hi⟩ := List.mem_iff_getElem?.mp h
    have hl := (List.getElem?_eq_some_iff.mp hi).1
    rw [w.len] at hl
    exact (w.ok i a _ hi (List.getElem?_eq_getElem hl)).some
/-- the heap has grown by things that nothing leans on -/
theorem Wd.same {B : Bas} {F ρ : List Addr} {T : List Ob} {H H' : Hp} (w : Wd B F ρ T H) (e : Same H H') : Wd B F ρ T H' ∧ Stp F ρ H ρ H' := by
  have hs : ∀ a ∈ F ++ ρ, H' a = H a := fun a ha => by
    cases h : H a with
    | none => exact absurd h (w.has ha)
    | some o => exact e a o h
  have sm : Same (cutR F ρ H) (cutR F ρ H') := fun a o h => by
    unfold cutR cut at h ⊢
    split at h
    · cases h
    · rename_i hn
      rw [if_neg hn]
      exact e a o h
  exact ⟨⟨w.len, w.nd, fun a ha => by rw [hs a (List.mem_append_left _ ha)]; exact w.trk a ha, fun i a o ha ho => (w.ok i a o ha ho).mono (List.prefix_refl _) sm (hs a (List.mem_append_right _ (List.mem_of_getElem? ha)))⟩,
    ⟨List.prefix_refl _, sm, fun a ha => hs a (List.mem_append_left _ ha)⟩⟩
theorem same_new {H : Hp} {p : Addr} {o : HO} (h : H p = none) : Same H (upd H p o) := fun b u e => by
  rw [upd_ne (ne_of_none e h)]; exact e
theorem Wd.new {B : Bas} {F ρ : List Addr} {T : List Ob} {H : Hp} (w : Wd B F ρ T H) {p : Addr} {o : HO} (h : H p = none) : Wd B F ρ T (upd H p o) ∧ Stp F ρ H ρ (upd H p o) ∧ cutR F ρ (upd H p o) p = some o := by
  obtain ⟨a, b⟩ := w.same (same_new (o := o) h)
  refine ⟨a, b, ?_⟩
  unfold cutR
  rw [cut_at fun m => w.has m h, upd_same]

/-! ### environments -/
abbrev En := List (Option D)
def Bnd (B : Bas) (ρ : List Addr) (S : Hp) (σ : L2.St) (Γ : En) : Prop := ∀ (i : Nat) (d : D), Γ[i]? = some (some d) → ∃ v, σ[i]? = some (some v) ∧ DD B ρ S v d
theorem Bnd.mono {B : Bas} {ρ ρ' : List Addr} {S S' : Hp} {σ : L2.St} {Γ : En} (b : Bnd B ρ S σ Γ) (p : ρ <+: ρ') (e : Same S S') : Bnd B ρ' S' σ Γ := fun i d h => by
  obtain ⟨v, h1, h2⟩ := b i d h
  exact ⟨v, h1, h2.mono p e⟩
theorem Bnd.set {B : Bas} {ρ : List Addr} {S : Hp} {σ : L2.St} {Γ : En} (b : Bnd B ρ S σ Γ) (hl : σ.length = Γ.length) {i : Nat} {v : V} {d : D} (h : DD B ρ S v d) : Bnd B ρ S (σ.set i (some v)) (Γ.set i (some d)) := fun j e he => by
  by_cases hj : j = i
  · subst hj
    by_cases hlt : j < Γ.length
    · rw [List.getElem?_set_self hlt] at he
      cases he
      exact ⟨v, List.getElem?_set_self (by omega), h⟩
    · rw [List.getElem?_eq_none (by simpa using hlt)] at he
      cases he
  · rw [List.getElem?_set_ne (Ne.symm hj)] at he ⊢
    exact b j e he
structure Gd (B : Bas) (F ρ : List Addr) (T : List Ob) (σ : L2.St) (H : Hp) (Γ : En) : Prop where
  len : σ.length = Γ.length
  wd : Wd B F ρ T H
  bnd : Bnd B ρ (cutR F ρ H) σ Γ
theorem Gd.stp {B : Bas} {F ρ ρ' : List Addr} {T T' : List Ob} {σ : L2.St} {H H' : Hp} {Γ : En} (g : Gd B F ρ T σ H Γ) (s : Stp F ρ H ρ' H') (w : Wd B F ρ' T' H') : Gd B F ρ' T' σ H' Γ := ⟨g.len, w, g.bnd.mono s.pre s.same⟩
theorem Gd.set {B : Bas} {F ρ : List Addr} {T : List Ob} {σ : L2.St} {H : Hp} {Γ : En} (g : Gd B F ρ T σ H Γ) {i : Nat} {v : V} {d : D} (h : DD B ρ (cutR F ρ H) v d) : Gd B F ρ T (σ.set i (some v)) H (Γ.set i (some d)) :=
  ⟨by rw [List.length_set, List.length_set]; exact g.len, g.wd, g.bnd.set g.len h⟩

/-! ### runs -/
inductive Rs (α : Type) where
  | ok (a : α) (T : List Ob)
  | ex (C : Nat) (fs : List (Str × D)) (T : List Ob)
abbrev Mo (α : Type) := List Ob → Option (Rs α)
def Mo.ret {α : Type} (a : α) : Mo α := fun T => some (.ok a T)
def Mo.no {α : Type} : Mo α := fun _ => none
def Mo.bind {α β : Type} (m : Mo α) (f : α → Mo β) : Mo β := fun T => match m T with
  | some (.ok a T') => f a T'
  | some (.ex C fs T') => some (.ex C fs T')
  | none => none
/-- something read off the store -/
def Mo.rd {α : Type} (f : List Ob → Option α) : Mo α := fun T => match f T with
  | some a => some (.ok a T)
  | none => none
def Mo.of {α : Type} (o : Option α) : Mo α := fun T => match o with
  | some a => some (.ok a T)
  | none => none
end RR
set_option maxHeartbeats 1000000
/-! R2: the operations on data, read off the store. -/
namespace RR
open PySem PySem.Spec PyProof.Rows L2

/-! ### plain data -/
def keyPy : Key → PyData
  | .inl i => .int i
  | .inr x => .str x
def keyD : Key → D
  | .inl i => .int i
  | .inr x => .str x
def keyOf : D → Option Key
  | .int i => some (.inl i)
  | .str x => some (.inr x)
  | _ => none
mutual
def toPy : D → PyData
  | .non => .none
  | .bl b => .bool b
  | .int i => .int i
  | .str s => .str s
  | .lst ds => .list (toPys ds)
  | .tup ds => .tuple (toPys ds)
  | .dct kvs => .dict (toPyKv kvs)
  | .ty _ => .dict []
  | .obj _ _ => .dict []
  | .cls _ => .dict []
  | .fn _ => .dict []
  | .adr _ => .dict []
def toPys : List D → List PyData
  | [] => []
  | d :: ds => toPy d :: toPys ds
def toPyKv : List (Key × D) → List (PyData × PyData)
  | [] => []
  | (k, d) :: ds => (keyPy k, toPy d) :: toPyKv ds
end
mutual
/-- nothing but None, bools, ints, texts, lists and tuples -/
def plainD : D → Bool
  | .non => true
  | .bl _ => true
  | .int _ => true
  | .str _ => true
  | .lst ds => plainDs ds
  | .tup ds => plainDs ds
  | .dct _ => false
  | .ty _ => false
  | .obj _ _ => false
  | .cls _ => false
  | .fn _ => false
  | .adr _ => false
def plainDs : List D → Bool
  | [] => true
  | d :: ds => plainD d && plainDs ds
end
def shp (d : D) : Bool := SeqAt.shaped (toPy d)
def eqD (d e : D) : Bool := PyData.eqv (toPy d) (toPy e)
/-- the scalars whose == looks at nothing -/
def scalD : D → D → Bool
  | .non, .non => true | .non, .int _ => true | .int _, .non => true | .non, .bl _ => true | .bl _, .non => true | .non, .str _ => true | .str _, .non => true
  | .int _, .int _ => true | .bl _, .bl _ => true | .str _, .str _ => true
  | .int _, .str _ => true | .str _, .int _ => true | .bl _, .str _ => true | .str _, .bl _ => true
  | _, _ => false
def atom : D → Bool
  | .non => true | .bl _ => true | .int _ => true | .str _ => true | _ => false
/-- a dict of atoms -/
def flatDict : D → Bool
  | .dct kvs => kvs.all fun p => atom p.2
  | _ => false
def sh (d : D) : Str := (toPy d).shown
/-- what repr may be asked of -/
structure Shw (d : D) : Prop where
  kind : plainD d = true ∨ flatDict d = true
  show_ : (toPy d).showable = true
  len : (sh d).length ≤ sizeLine
  deep : (toPy d).depth ≤ 60
def shwB (d : D) : Bool := (plainD d || flatDict d) && (toPy d).showable && decide ((sh d).length ≤ sizeLine) && decide ((toPy d).depth ≤ 60)
theorem shwB_ok {d : D} : shwB d = true ↔ Shw d := by
  unfold shwB
  simp only [Bool.and_eq_true, Bool.or_eq_true, decide_eq_true_eq]
  exact ⟨fun ⟨⟨⟨a, b⟩, c⟩, d⟩ => ⟨a, b, c, d⟩, fun ⟨a, b, c, d⟩ => ⟨⟨⟨a, b⟩, c⟩, d⟩⟩

/-! ### reading -/
/-- a list or dict of the store as it is now -/
def vw (T : List Ob) : D → Option D
  | .adr n => match T[n]? with
    | some (.lst ds) => some (.lst ds)
    | some (.dct kvs) => some (.dct kvs)
    | _ => none
  | d => some d
/-- an instance: its class, its fields -/
def insO (T : List Ob) : D → Option (Nat × List (Str × D))
  | .obj C fs => some (C, fs)
  | .adr n => match T[n]? with
    | some (.ins C fs) => some (C, fs)
    | _ => none
  | _ => none
def truO (T : List Ob) (d : D) : Option Bool := match vw T d with
  | some .non => some false
  | some (.bl b) => some b
  | some (.int i) => some (i != 0)
  | some (.str s) => if s.length ≤ sizeLine then some ((s.length : Int) != 0) else none
  | some (.lst ds) => some !ds.isEmpty
  | some (.tup ds) => some !ds.isEmpty
  | _ => none
def eqO (x y : D) : Option Bool := if scalD x y = true ∨ (shp x = true ∧ shp y = true) then some (eqD x y) else none
def ltO : D → D → Option Bool
  | .int i, .int j => some (decide (i < j))
  | .str i, .str j => some (decide (i.cps.toList < j.cps.toList))
  | _, _ => none
def ordO (f : Int → Int → Bool) : D → D → Option Bool
  | .int i, .int j => some (f i j)
  | _, _ => none
def inO (x : D) : D → Option Bool
  | .str t => match x with
    | .str s => (match s.cps.toList with
      | [c] => some (decide (c ∈ t.cps.toList))
      | _ => none)
    | _ => none
  | .tup es => if shp x = true ∧ shp (.tup es) = true then some (es.any fun e => eqD e x) else none
  | .lst es => if shp x = true ∧ shp (.lst es) = true then some (es.any fun e => eqD e x) else none
  | .dct kvs => (keyOf x).map fun k => kvs.any fun p => decide (p.1 = k)
  | _ => none
def isN : D → Bool
  | .non => true
  | _ => false
def v2 {α : Type} (T : List Ob) (f : D → D → Option α) (x y : D) : Option α := match vw T x with
  | some x' => (match vw T y with
    | some y' => f x' y'
    | none => none)
  | none => none
def cmpO (op : CmpOp) (T : List Ob) (x y : D) : Option Bool := match op with
  | .Eq => v2 T eqO x y
  | .NotEq => (v2 T eqO x y).map (!·)
  | .Lt => ltO x y
  | .LtE => ordO (fun i j => decide (i ≤ j)) x y
  | .Gt => ordO (fun i j => decide (j < i)) x y
  | .GtE => ordO (fun i j => decide (j ≤ i)) x y
  | .In => v2 T inO x y
  | .NotIn => (v2 T inO x y).map (!·)
  | .Is => match y with
    | .non => some (isN x)
    | _ => none
  | .IsNot => match y with
    | .non => some !isN x
    | _ => none
instance (i j : Int) : Decidable (CMul i j) := by unfold CMul; infer_instance
instance (i j : Int) : Decidable (CMulW i j) := by unfold CMulW; infer_instance
instance (i j : Int) : Decidable (CDivW i j) := by unfold CDivW; infer_instance
instance (i j : Int) : Decidable (CPow i j) := by unfold CPow; infer_instance
def repD (ds : List D) (k : Int) : List D := (List.replicate k.toNat ds).flatten
def addO : D → D → Option D
  | .int i, .int j => some (.int (i + j))
  | .str s, .str t => if s.length + t.length ≤ sizeLine then some (.str (s ++ t)) else none
  | .tup a, .tup b => if a.length + b.length ≤ sizeLine then some (.tup (a ++ b)) else none
  | .lst a, .lst b => if a.length + b.length ≤ sizeLine then some (.lst (a ++ b)) else none
  | _, _ => none
def mulO : D → D → Option D
  | .int i, .int j => if CMul i j ∨ CMulW i j then some (.int (i * j)) else none
  | .tup a, .int k => if a.length ≤ 1000 ∧ -1000 ≤ k ∧ k ≤ 1000 then some (.tup (repD a k)) else none
  | .lst a, .int k => if a.length ≤ 1000 ∧ -1000 ≤ k ∧ k ≤ 1000 then some (.lst (repD a k)) else none
  | _, _ => none
def binO (op : Operator) (T : List Ob) (x y : D) : Option D := match op with
  | .Add => v2 T addO x y
  | .Sub => match x, y with
    | .int i, .int j => some (.int (i - j))
    | _, _ => none
  | .Mult => v2 T mulO x y
  | .FloorDiv => match x, y with
    | .int i, .int j => if CDivW i j then some (.int (i / j)) else none
    | _, _ => none
  | .Mod => match x, y with
    | .int i, .int j => if 0 < j then some (.int (i % j)) else none
    | _, _ => none
  | .Pow => match x, y with
    | .int i, .int j => if CPow i j then some (.int (i ^ j.toNat)) else none
    | _, _ => none
  | _ => none
def valD (kvs : List (Key × D)) (k : Key) : Option D := (kvs.find? fun p => decide (p.1 = k)).map (·.2)
def ixO (x i : D) : Option D := match x, i with
  | .lst ds, .int i => atI ds i
  | .tup ds, .int i => atI ds i
  | .str z, .int i => if z.length ≤ sizeLine then (atI z.cps.toList i).map fun c => .str ⟨#[c]⟩ else none
  | .dct kvs, d => match keyOf d with
    | some k => valD kvs k
    | none => none
  | _, _ => none
def cutD (ds : List D) (lo hi : Option Int) : List D := (ds.drop (HT.sIx ds.length 0 lo)).take (HT.sIx ds.length ds.length hi - HT.sIx ds.length 0 lo)
def slO (x : D) (lo hi : Option Int) : Option D := match x with
  | .lst ds => some (.lst (cutD ds lo hi))
  | .tup ds => some (.tup (cutD ds lo hi))
  | _ => none
def lenO : D → Option Int
  | .str z => if z.length ≤ sizeLine then some z.length else none
  | .lst ds => some ds.length
  | .tup ds => some ds.length
  | .dct kvs => some kvs.length
  | _ => none
def tyOf : D → Option String
  | .non => some "NoneType" | .bl _ => some "bool" | .int _ => some "int" | .str _ => some "str" | .lst _ => some "list" | .tup _ => some "tuple" | .dct _ => some "dict" | _ => none
def seqO : D → Option (List D)
  | .lst ds => some ds
  | .tup ds => some ds
  | _ => none
def blsO : List D → Option (List Bool)
  | [] => some []
  | .bl b :: r => (blsO r).map (b :: ·)
  | _ :: _ => none
def intsO : List D → Option (List Int)
  | [] => some []
  | .int b :: r => (intsO r).map (b :: ·)
  | _ :: _ => none
def strsO : List D → Option (List Str)
  | [] => some []
  | .str b :: r => (strsO r).map (b :: ·)
  | _ :: _ => none
/-! texts in order -/
def insS (x : Str) : List Str → List Str
  | [] => [x]
  | y :: r => if y.cps.toList < x.cps.toList then y :: insS x r else x :: y :: r
def srtS : List Str → List Str
  | [] => []
  | x :: r => insS x (srtS r)
def minI : List Int → Option Int
  | [] => none
  | x :: r => some (r.foldl (fun a b => if b < a then b else a) x)
def maxI : List Int → Option Int
  | [] => none
  | x :: r => some (r.foldl (fun a b => if b > a then b else a) x)
inductive Bi where
  | len | abs | repr | tuple | list | all | any | sorted | min | max | int | isinstance
def bis : List (Str × Bi) := [("len", .len), ("abs", .abs), ("repr", .repr), ("tuple", .tuple), ("list", .list), ("all", .all), ("any", .any), ("sorted", .sorted), ("min", .min), ("max", .max), ("int", .int), ("isinstance", .isinstance)]
/-- the built-ins that only read: of one thing (as it is seen), of two -/
def bi1 (f : Bi) (x : D) : Option D := match f with
  | .len => (lenO x).map .int
  | .abs => (match x with
    | .int i => some (.int (if i < 0 then -i else i))
    | _ => none)
  | .repr => if shwB x = true then some (.str (sh x)) else none
  | .tuple => (seqO x).map .tup
  | .list => (seqO x).map .lst
  | .all => (match x with
    | .lst ds => (blsO ds).map fun bs => .bl (bs.all id)
    | _ => none)
  | .any => (match x with
    | .lst ds => (blsO ds).map fun bs => .bl (bs.any id)
    | _ => none)
  | .sorted => (match seqO x with
    | some ds => (match strsO ds with
      | some ss => if ss.length < 64 then some (.lst ((srtS ss).map D.str)) else none
      | none => none)
    | none => none)
  | .min => (match x with
    | .lst ds => (intsO ds).bind fun is => (minI is).map D.int
    | _ => none)
  | .int => (match x with
    | .int i => some (.int i)
    | .bl b => some (.int (if b = true then 1 else 0))
    | _ => none)
  | _ => none
def bi2 (f : Bi) (x y : D) : Option D := match f with
  | .isinstance => (match y with
    | .ty n => (match tyOf x with
      | some t => (kitB t n).map .bl
      | none => none)
    | _ => none)
  | .max => (match x, y with
    | .int i, .int j => some (.int (if j > i then j else i))
    | _, _ => none)
  | .min => (match x, y with
    | .int i, .int j => some (.int (if j < i then j else i))
    | _, _ => none)
  | _ => none
def biO (f : Bi) (T : List Ob) (ds : List D) : Option D := match ds with
  | [x] => (vw T x).bind fun x => bi1 f x
  | [x, y] => (vw T x).bind fun x => bi2 f x y
  | _ => none
/-! what is walked -/
def signs (x : Str) : List D := x.cps.toList.map fun c => .str ⟨#[c]⟩
def rangeD (lo : Int) (n : Nat) : List D := (List.range n).map fun i => .int (lo + (i : Nat))
def enumD (ds : List D) : List D := ds.zipIdx.map fun p => .tup [.int (p.2 : Nat), p.1]
def zipD (ds es : List D) : List D := (ds.zip es).map fun p => .tup [p.1, p.2]
end RR
set_option maxHeartbeats 1000000
/-! R3: the interpreter. -/
namespace RR
open PySem PySem.Spec PyProof.Rows L2

/-! ### equality of data, for looks -/
mutual
def D.same : D → D → Bool
  | .non, .non => true
  | .bl a, .bl b => a == b
  | .int a, .int b => a == b
  | .str a, .str b => a == b
  | .ty a, .ty b => a == b
  | .lst a, .lst b => sameS a b
  | .tup a, .tup b => sameS a b
  | .dct a, .dct b => sameK a b
  | .obj C a, .obj C' b => C == C' && sameF a b
  | .cls a, .cls b => a == b
  | .fn a, .fn b => a == b
  | .adr a, .adr b => a == b
  | _, _ => false
def sameS : List D → List D → Bool
  | [], [] => true
  | a :: r, b :: s => D.same a b && sameS r s
  | _, _ => false
def sameK : List (Key × D) → List (Key × D) → Bool
  | [], [] => true
  | (k, a) :: r, (l, b) :: s => decide (k = l) && D.same a b && sameK r s
  | _, _ => false
def sameF : List (Str × D) → List (Str × D) → Bool
  | [], [] => true
  | (k, a) :: r, (l, b) :: s => k == l && D.same a b && sameF r s
  | _, _ => false
end
/-! ### nothing from n on -/
mutual
def bel (n : Nat) : D → Bool
  | .non => true
  | .bl _ => true
  | .int _ => true
  | .str _ => true
  | .ty _ => true
  | .lst ds => bels n ds
  | .tup ds => bels n ds
  | .dct kvs => belk n kvs
  | .obj _ fs => belf n fs
  | .cls _ => true
  | .fn _ => true
  | .adr m => decide (m < n)
def bels (n : Nat) : List D → Bool
  | [] => true
  | d :: ds => bel n d && bels n ds
def belk (n : Nat) : List (Key × D) → Bool
  | [] => true
  | (_, d) :: ds => bel n d && belk n ds
def belf (n : Nat) : List (Str × D) → Bool
  | [] => true
  | (_, d) :: ds => bel n d && belf n ds
end
/-- what is handed out, with what was laid from n on as data -/
def frzA (T : List Ob) (n m : Nat) : Option D := if m < n then some (.adr m) else match T[m]? with
  | some (.lst ds) => if bels n ds = true then some (.lst ds) else none
  | some (.dct kvs) => if belk n kvs = true then some (.dct kvs) else none
  | _ => none
mutual
def frz (T : List Ob) (n : Nat) : D → Option D
  | .adr m => frzA T n m
  | .tup ds => (frzs T n ds).map .tup
  | .lst ds => (frzs T n ds).map .lst
  | .obj C fs => (frzf T n fs).map (.obj C)
  | .dct kvs => if belk n kvs = true then some (.dct kvs) else none
  | d => some d
def frzs (T : List Ob) (n : Nat) : List D → Option (List D)
  | [] => some []
  | d :: ds => match frz T n d with
    | some e => (frzs T n ds).map (e :: ·)
    | none => none
def frzf (T : List Ob) (n : Nat) : List (Str × D) → Option (List (Str × D))
  | [] => some []
  | (k, d) :: ds => match frz T n d with
    | some e => (frzf T n ds).map ((k, e) :: ·)
    | none => none
end

def belO (n : Nat) : Ob → Bool
  | .lst ds => bels n ds
  | .dct kvs => belk n kvs
  | .ins _ fs => belf n fs
def Ob.same : Ob → Ob → Bool
  | .lst a, .lst b => sameS a b
  | .dct a, .dct b => sameK a b
  | .ins C a, .ins C' b => C == C' && sameF a b
  | _, _ => false
/-- of the things that were there each is as it was, or leans on nothing newer -/
def okT (T T' : List Ob) : Bool := decide (T.length ≤ T'.length) && (T.zip T').all fun p => Ob.same p.1 p.2 || belO T.length p.2

/-! ### programs -/
structure Prg where
  glob : Str → Option D
  free : Str → Bool
  bnd : Str → Nat → List Str → Option (List D → List D → List D)
  meth : Nat → Str → Option Str
  prop : Nat → Str → Option Str
  noat : Nat → Str → Bool
  init : Nat → Option Str
  fz : Nat → Bool
  sub : Nat → Nat → Option Bool
  isw : Nat → Bool
  eqw : Nat → Bool
/-- a def's slots, the scope that runs, the slots and fields whose new things are tracked -/
structure Cn where
  N : List Str
  sc : Scope
  raw : Scope
  trk : List Str
structure Fn where
  ps : List Str
  N : List Str
  sc : Scope
  body : List Stmt
  trk : List Str
  leak : Bool
structure Evs where
  e : Cn → En → Expr → Mo D
  t : Cn → En → Expr → Mo Bool
def idx (N : List Str) (x : Str) : Option Nat := N.findIdx? (· == x)
def visB (sc : Scope) (x : Str) : Bool := match sc.names.lookup x with
  | some .local => true
  | some .cell => true
  | some .free => true
  | _ => false
def locB (sc : Scope) (x : Str) : Bool := match sc.names.lookup x with
  | some .local => true
  | some .cell => true
  | _ => false
def glB (sc : Scope) (x : Str) : Bool := match sc.names.lookup x with
  | some .globalImplicit => true
  | _ => false
def okName (x : Str) : Bool := !(x == ("__debug__" : Str)) && !(x == ("__classdict__" : Str)) && !(x == ("__name__" : Str))
def tyNames : List (Str × String) := [("int", "int"), ("bool", "bool"), ("str", "str"), ("tuple", "tuple"), ("list", "list"), ("dict", "dict")]
def evName (Pg : Prg) (c : Cn) (Γ : En) (x : Str) : Mo D := if okName x = true then
    (if visB c.sc x = true then Mo.of (match idx c.N x with
      | some i => (match Γ[i]? with
        | some (some d) => some d
        | _ => none)
      | none => none)
    else if glB c.sc x = true then Mo.of (match Pg.glob x with
      | some d => some d
      | none => if Pg.free x = true then (tyNames.lookup x).map D.ty else none)
    else Mo.no) else Mo.no
def constO : Const → Option D
  | .none => some .non
  | .bool b => some (.bl b)
  | .int i => some (.int i)
  | .str x => some (.str x)
  | _ => none
def starred : Expr → Bool
  | .Starred _ _ => true
  | _ => false
def noStar (es : List Expr) : Bool := es.all fun e => !starred e
def evL (f : Expr → Mo D) : List Expr → Mo (List D)
  | [] => Mo.ret []
  | e :: es => if starred e = true then Mo.no else (f e).bind fun d => (evL f es).bind fun ds => Mo.ret (d :: ds)
def evK (f : Expr → Mo D) : List Keyword → Mo (List D)
  | [] => Mo.ret []
  | ⟨_, e, _⟩ :: es => (f e).bind fun d => (evK f es).bind fun ds => Mo.ret (d :: ds)
def kwNames : List Keyword → Option (List Str)
  | [] => some []
  | ⟨some x, _, _⟩ :: es => (kwNames es).map (x :: ·)
  | ⟨none, _, _⟩ :: _ => none
/-- nothing raised -/
def Mo.calm {α : Type} (m : Mo α) : Mo α := fun T => match m T with
  | some (.ok a T') => some (.ok a T')
  | _ => none
def alloc (o : Ob) : Mo D := fun T => some (.ok (.adr T.length) (T ++ [o]))

/-! ### targets -/
inductive Tgt where
  | one (j : Nat) | many (ts : List Tgt)
mutual
def Tgt.put : Tgt → En → D → Option En
  | .one j, Γ, d => some (Γ.set j (some d))
  | .many ts, Γ, .tup ds => Tgt.puts ts Γ ds
  | .many _, _, _ => none
def Tgt.puts : List Tgt → En → List D → Option En
  | [], Γ, [] => some Γ
  | t :: ts, Γ, d :: ds => (Tgt.put t Γ d).bind fun Γ' => Tgt.puts ts Γ' ds
  | _, _, _ => none
end
mutual
def Tgt.slots : Tgt → List Nat
  | .one j => [j]
  | .many ts => Tgt.slotss ts
def Tgt.slotss : List Tgt → List Nat
  | [] => []
  | t :: ts => Tgt.slots t ++ Tgt.slotss ts
end
def tgt1 (c : Cn) : Expr → Option Tgt
  | .Name x _ => if locB c.raw x = true then (idx c.N x).map .one else none
  | _ => none
def tgt1s (c : Cn) : List Expr → Option (List Tgt)
  | [] => some []
  | e :: es => match tgt1 c e with
    | some t => (tgt1s c es).map (t :: ·)
    | none => none
def tgt2 (c : Cn) : Expr → Option Tgt
  | .Name x _ => if locB c.raw x = true then (idx c.N x).map .one else none
  | .Tuple es _ _ => (tgt1s c es).map .many
  | _ => none
def tgt2s (c : Cn) : List Expr → Option (List Tgt)
  | [] => some []
  | e :: es => match tgt2 c e with
    | some t => (tgt2s c es).map (t :: ·)
    | none => none
def tgt (c : Cn) : Expr → Option Tgt
  | .Name x _ => if locB c.raw x = true then (idx c.N x).map .one else none
  | .Tuple es _ _ => (tgt2s c es).map .many
  | _ => none
def wipeE (Γ : En) : List Nat → En
  | [] => Γ
  | v :: vs => (wipeE Γ vs).set v none

/-! ### what is walked -/
/-- the items; where the list stands, if the code may change it -/
structure Src where
  ds : List D
  at_ : Option Nat
def Src.keeps (s : Src) (T : List Ob) : Bool := match s.at_ with
  | none => true
  | some n => match T[n]? with
    | some (.lst ds) => sameS ds s.ds
    | _ => false
def srcO (T : List Ob) : D → Option Src
  | .lst ds => some ⟨ds, none⟩
  | .tup ds => some ⟨ds, none⟩
  | .str x => some ⟨signs x, none⟩
  | .adr n => match T[n]? with
    | some (.lst ds) => some ⟨ds, some n⟩
    | _ => none
  | _ => none
def rng1O : D → Option Src
  | .int n => if -(2 ^ 62) ≤ n ∧ n < 2 ^ 62 then some ⟨rangeD 0 n.toNat, none⟩ else none
  | _ => none
def rng2O : D → D → Option Src
  | .int i, .int j => if -(2 ^ 62) ≤ i ∧ i < 2 ^ 62 ∧ -(2 ^ 62) ≤ j ∧ j < 2 ^ 62 then some ⟨rangeD i (j - i).toNat, none⟩ else none
  | _, _ => none
def enumO : D → Option Src
  | .lst ds => some ⟨enumD ds, none⟩
  | .tup ds => some ⟨enumD ds, none⟩
  | _ => none
def zipO : D → D → Option Src
  | .lst a, .lst b => some ⟨zipD a b, none⟩
  | .tup a, .tup b => some ⟨zipD a b, none⟩
  | _, _ => none
def isSet : Expr → Bool
  | .Set _ _ _ => true
  | _ => false
/-- the built-in x, called by its name -/
def isB (Pg : Prg) (c : Cn) (x : Str) : Bool := okName x && glB c.sc x && !visB c.sc x && Pg.free x && (match Pg.glob x with | none => true | _ => false)
def isTupE : Expr → Bool
  | .Tuple _ _ _ => true
  | _ => false
def itM (Pg : Prg) (R : Evs) (c : Cn) (Γ : En) (tg e : Expr) : Mo Src := match e with
  | .Call (.Name x _) [a] [] _ =>
    if x = ("range" : Str) ∧ isB Pg c x = true ∧ starred a = false then (R.e c Γ a).bind fun d => Mo.of (rng1O d)
    else if x = ("enumerate" : Str) ∧ isB Pg c x = true ∧ starred a = false ∧ isTupE tg = true then (R.e c Γ a).bind fun d => Mo.of (enumO d)
    else (R.e c Γ e).bind fun d => Mo.rd fun T => srcO T d
  | .Call (.Name x _) [a, b] [] _ =>
    if x = ("range" : Str) ∧ isB Pg c x = true ∧ starred a = false ∧ starred b = false then (R.e c Γ a).bind fun d => (R.e c Γ b).bind fun d' => Mo.of (rng2O d d')
    else if x = ("zip" : Str) ∧ isB Pg c x = true ∧ starred a = false ∧ starred b = false ∧ isTupE tg = true then (R.e c Γ a).bind fun d => (R.e c Γ b).bind fun d' => Mo.of (zipO d d')
    else (R.e c Γ e).bind fun d => Mo.rd fun T => srcO T d
  | e => if isSet e = true then Mo.no else (R.e c Γ e).bind fun d => Mo.rd fun T => srcO T d

/-! ### comprehensions -/
/-- the block's own slots, if the block's scope is as it should be -/
def blkO (c : Cn) (sc : Scope) : Option (List (Str × Nat)) :=
  let own := sc.names.filterMap fun p => if p.2 = .local ∨ p.2 = .cell then (idx c.N p.1).map fun i => (p.1, i) else none
  if sc.kind = .function ∧ (sc.names.all fun y => decide (sc.names.lookup y.1 = some y.2)) = true
    ∧ (sc.names.all fun y => !decide (y.2 = .free) || decide (c.sc.names.lookup y.1 = some .cell) || decide (c.sc.names.lookup y.1 = some .free)) = true then some own else none
def inner (c : Cn) (sc : Scope) : Cn := { c with sc := relS sc c.sc, raw := sc }
def lcGo (f : D → Mo (Option D)) (keep : List Ob → Bool) : List D → List D → Mo (List D)
  | [], acc => fun T => if keep T = true then some (.ok acc T) else none
  | d :: ds, acc => fun T => if keep T = true then (match f d T with
    | some (.ok (some y) T') => if acc.length < sizeLine then lcGo f keep ds (acc ++ [y]) T' else none
    | some (.ok none T') => lcGo f keep ds acc T'
    | _ => none) else none
def ifsM (f : Expr → Mo Bool) : List Expr → Mo Bool
  | [] => Mo.ret true
  | [e] => f e
  | _ => Mo.no
def lcM (Pg : Prg) (R : Evs) (c : Cn) (Γ : En) (elt tg it : Expr) (ifs : List Expr) (sc : Scope) : Mo (List D) := match blkO c sc with
  | none => Mo.no
  | some own => match tgt (inner c sc) tg with
    | none => Mo.no
    | some t => if (t.slots.all fun i => (own.map (·.2)).contains i) = true then
        (itM Pg R c Γ tg it).bind fun s => lcGo (fun d => match t.put (wipeE Γ (own.map (·.2))) d with
          | none => Mo.no
          | some Γ2 => ((ifsM (R.t (inner c sc) Γ2) ifs).bind fun b => if b = true then (R.e (inner c sc) Γ2 elt).bind fun y => Mo.ret (some y) else Mo.ret none).calm) s.keeps s.ds []
      else Mo.no

/-! ### attributes, calls -/
def attrM (Pg : Prg) (Φ : Str → List D → Mo D) (d : D) (f : Str) : Mo D := fun T => match insO T d with
  | some (C, gs) => (match Pg.prop C f with
    | some g => (match Pg.bnd g 1 [] with
      | some b => (Φ g (b [d] [])).calm T
      | none => none)
    | none => if Pg.noat C f = true then (match gs.lookup f with
      | some v => some (.ok v T)
      | none => none) else none)
  | none => none
/-- the method's def -/
def methO (Pg : Prg) (T : List Ob) (d : D) (m : Str) : Option Str := match insO T d with
  | some (C, gs) => (match gs.lookup m with
    | none => Pg.meth C m
    | some _ => none)
  | none => none
def putD (f : Str) (v : D) : List (Str × D) → List (Str × D)
  | [] => [(f, v)]
  | (g, x) :: r => if g = f then (g, v) :: r else (g, x) :: putD f v r
/-- an instance is made -/
def makeM (Pg : Prg) (Φ : Str → List D → Mo D) (C : Nat) (f : Str) (args : D → List D) : Mo D := fun T => match Φ f (args (.adr T.length)) (T ++ [.ins C []]) with
  | some (.ok .non T') => if Pg.fz C = true then (match T'[T.length]? with
        | some (.ins C' gs) => if C' = C ∧ belf T.length gs = true ∧ okT T T' = true then some (.ok (.obj C gs) (T'.take T.length)) else none
        | _ => none)
      else if Pg.fz C = false then some (.ok (.adr T.length) T') else none
  | _ => none
/-- what a value is, for its methods -/
inductive Kd where
  | list | dict | str
inductive Mn where
  | append | pop
def mns : List (Str × Mn) := [("append", .append), ("pop", .pop)]
def kindO (T : List Ob) (d : D) : Option Kd := match vw T d with
  | some (.lst _) => some .list
  | some (.dct _) => some .dict
  | some (.str _) => some .str
  | _ => none
/-- methods of lists that the code may change -/
def lstM (m : Mn) (d : D) (ds : List D) : Mo D := fun T => match d with
  | .adr n => (match T[n]? with
    | some (.lst xs) => (match m with
      | .append => (match ds with
        | [y] => if xs.length < sizeLine then some (.ok .non (T.set n (.lst (xs ++ [y])))) else none
        | _ => none)
      | .pop => (match ds with
        | [.int i] => if -(2 ^ 63) ≤ i ∧ i < 2 ^ 63 then (match seqIndex? i xs.length with
          | some k => (match xs[k]? with
            | some y => some (.ok y (T.set n (.lst (xs.eraseIdx k))))
            | none => none)
          | none => none) else none
        | [] => (match xs[xs.length - 1]? with
          | some y => some (.ok y (T.set n (.lst xs.dropLast)))
          | none => none)
        | _ => none))
    | _ => none)
  | _ => none
def bmOk : Kd → Mn → Bool
  | .list, .append => true
  | .list, .pop => true
  | _, _ => false
def bmM (kd : Kd) (m : Mn) (d : D) (ds : List D) : Mo D := match kd with
  | .list => lstM m d ds
  | _ => Mo.no
def isOwnO (Pg : Prg) (T : List Ob) (x : D) (C : Nat) : Option Bool := match insO T x with
  | some (C', _) => Pg.sub C' C
  | none => (vw T x).bind fun x => match tyOf x with
    | some _ => if Pg.isw C = true then some false else none
    | none => none
def biP (Pg : Prg) (b : Bi) (T : List Ob) (ds : List D) : Option D := match b, ds with
  | .isinstance, [x, .cls C] => (isOwnO Pg T x C).map .bl
  | b, ds => biO b T ds
/-- len of an own object: its def -/
def lenF (Pg : Prg) (T : List Ob) (b : Bi) (ds : List D) : Option (Str × (List D → List D → List D)) := match b, ds with
  | .len, [x] => (match insO T x with
    | some (C, _) => (match Pg.meth C "__len__" with
      | some f => (Pg.bnd f 1 []).map fun g => (f, g)
      | none => none)
    | none => none)
  | _, _ => none
def biM (Pg : Prg) (Φ : Str → List D → Mo D) (b : Bi) (ds : List D) : Mo D := fun T => match lenF Pg T b ds with
  | some (f, g) => (match Φ f (g ds []) T with
    | some (.ok (.int n) T') => if 0 ≤ n ∧ n < 2 ^ 63 then some (.ok (.int n) T') else none
    | _ => none)
  | none => (match biP Pg b T ds with
    | some z => some (.ok z T)
    | none => none)
/-- list(range(a)) -/
def rgArg : List Expr → Option (Str × Expr)
  | [.Call (.Name y _) [a] [] _] => some (y, a)
  | _ => none
def isRg (Pg : Prg) (c : Cn) (x : Str) (args : List Expr) (kws : List Keyword) : Option Expr := if x = ("list" : Str) ∧ kws.isEmpty = true ∧ isB Pg c x = true then (match rgArg args with
  | some (y, a) => if y = ("range" : Str) ∧ isB Pg c y = true ∧ starred a = false then some a else none
  | none => none) else none
def rgL : D → Option D
  | .int n => if 0 ≤ n ∧ n ≤ 16000000 then some (.lst (rangeD 0 n.toNat)) else none
  | _ => none
def callM (Pg : Prg) (Φ : Str → List D → Mo D) (R : Evs) (c : Cn) (Γ : En) (x : Str) (args : List Expr) (kws : List Keyword) : Mo D := match isRg Pg c x args kws with
  | some a => (R.e c Γ a).bind fun d => Mo.of (rgL d)
  | none =>
  if okName x = true ∧ visB c.sc x = false ∧ glB c.sc x = true then (match Pg.glob x with
    | some (.fn f) => (match kwNames kws with
      | some ks => (match Pg.bnd f args.length ks with
        | some g => (evL (R.e c Γ) args).bind fun ds => (evK (R.e c Γ) kws).bind fun es => Φ f (g ds es)
        | none => Mo.no)
      | none => Mo.no)
    | some (.cls C) => (match kwNames kws, Pg.init C with
      | some ks, some f => (match Pg.bnd f (args.length + 1) ks with
        | some g => (evL (R.e c Γ) args).bind fun ds => (evK (R.e c Γ) kws).bind fun es => makeM Pg Φ C f (fun self => g (self :: ds) es)
        | none => Mo.no)
      | _, _ => Mo.no)
    | some _ => Mo.no
    | none => if Pg.free x = true ∧ kws.isEmpty = true then (match bis.lookup x with
      | some b => (evL (R.e c Γ) args).bind fun ds => biM Pg Φ b ds
      | none => Mo.no) else Mo.no)
  else Mo.no
def methM (Pg : Prg) (Φ : Str → List D → Mo D) (R : Evs) (c : Cn) (Γ : En) (o : Expr) (m : Str) (args : List Expr) (kws : List Keyword) : Mo D := match kwNames kws with
  | none => Mo.no
  | some ks => (R.e c Γ o).bind fun d => fun T => match methO Pg T d m with
    | some f => (match Pg.bnd f (args.length + 1) ks with
        | some g => ((evL (R.e c Γ) args).bind fun ds => (evK (R.e c Γ) kws).bind fun es => Φ f (g (d :: ds) es)) T
        | none => none)
    | none => if kws.isEmpty = true then (match kindO T d, mns.lookup m with
      | some kd, some mn => if bmOk kd mn = true then ((evL (R.e c Γ) args).bind fun ds => bmM kd mn d ds) T else none
      | _, _ => none) else none
/-- o that super() is not -/
def noSuper : Expr → Bool
  | .Call (.Name x _) [] [] _ => !(x == ("super" : Str))
  | _ => true

/-! ### expressions -/
def negO : D → Option D
  | .int i => some (.int (-i))
  | _ => none
def plainI (d : D) : Bool := match tyOf d with
  | some t => decide (t ≠ "dict")
  | none => false
/-- an own object among plain things: its == says no of each -/
def ownIn (Φ : Str → List D → Mo D) (C : Nat) (f : Str) (g : List D → List D → List D) (x : D) : List D → Mo Unit
  | [] => Mo.ret ()
  | d :: ds => fun T => if plainI d = true ∧ (insO T x).map (·.1) = some C then (match Φ f (g [x, d] []) T with
    | some (.ok (.bl false) T') => ownIn Φ C f g x ds T'
    | _ => none) else none
def inOwn : CmpOp → Option Bool
  | .In => some false
  | .NotIn => some true
  | _ => none
def eqM (Pg : Prg) (Φ : Str → List D → Mo D) (op : CmpOp) (x y : D) : Mo Bool := fun T => match insO T x, insO T y with
  | none, none => (match cmpO op T x y with
    | some b => some (.ok b T)
    | none => none)
  | some (C, _), some (C', _) => (match op with
    | .Eq => if C = C' then (match Pg.meth C "__eq__" with
      | some f => (match Pg.bnd f 2 [] with
        | some g => (match Φ f (g [x, y] []) T with
          | some (.ok (.bl b) T') => some (.ok b T')
          | _ => none)
        | none => none)
      | none => none) else none
    | _ => none)
  | some (C, _), none => (match inOwn op, y with
    | some r, .lst ds => if Pg.eqw C = true then (match Pg.meth C "__eq__" with
      | some f => (match Pg.bnd f 2 [] with
        | some g => (match ownIn Φ C f g x ds T with
          | some (.ok _ T') => some (.ok r T')
          | _ => none)
        | none => none)
      | none => none) else none
    | _, _ => none)
  | _, _ => none
def cmpM (Pg : Prg) (Φ : Str → List D → Mo D) (R : Evs) (c : Cn) (Γ : En) (a : Expr) (ops : List CmpOp) (cs : List Expr) : Mo Bool := match ops, cs with
  | [op], [b] => if behindInMarks op b = true then Mo.no else (R.e c Γ a).bind fun x => (R.e c Γ b).bind fun y => eqM Pg Φ op x y
  | [op, op'], [b, d] => if lastMarks [op, op'] [b, d] = true then Mo.no else (R.e c Γ a).bind fun x => (R.e c Γ b).bind fun y => (Mo.rd fun T => cmpO op T x y).bind fun k =>
      if k = true then (R.e c Γ d).bind fun z => Mo.rd fun T => cmpO op' T y z else Mo.ret false
  | _, _ => Mo.no
def boolE (isAnd : Bool) (f : Expr → Mo D) : List Expr → Mo D
  | [] => Mo.no
  | [a] => f a
  | a :: r => (f a).bind fun d => match d with
    | .bl b => if b = isAnd then boolE isAnd f r else Mo.ret (.bl b)
    | _ => Mo.no
def boolT (isAnd : Bool) (f : Expr → Mo Bool) : List Expr → Mo Bool
  | [] => Mo.no
  | [a] => f a
  | a :: r => (f a).bind fun b => if b = isAnd then boolT isAnd f r else Mo.ret b
def partM (R : Evs) (c : Cn) (Γ : En) : Option Expr → Mo (Option Int)
  | none => Mo.ret none
  | some e => (R.e c Γ e).bind fun d => match d with
    | .int i => Mo.ret (some i)
    | _ => Mo.no
def stepE (Pg : Prg) (Φ : Str → List D → Mo D) (R : Evs) (c : Cn) (Γ : En) (e : Expr) : Mo D := match e with
  | .Name x _ => evName Pg c Γ x
  | .Constant k _ _ => Mo.of (constO k)
  | .BinOp a op b _ => (R.e c Γ a).bind fun x => (R.e c Γ b).bind fun y => Mo.rd fun T => binO op T x y
  | .UnaryOp .USub a _ => (R.e c Γ a).bind fun x => Mo.of (negO x)
  | .UnaryOp .Not a _ => (R.e c Γ a).bind fun x => match x with
    | .bl b => Mo.ret (.bl !b)
    | _ => Mo.no
  | .BoolOp .And es _ => boolE true (R.e c Γ) es
  | .BoolOp .Or es _ => boolE false (R.e c Γ) es
  | .IfExp t a b _ => (R.t c Γ t).bind fun k => if k = true then R.e c Γ a else R.e c Γ b
  | .Compare a ops cs _ => (cmpM Pg Φ R c Γ a ops cs).bind fun b => Mo.ret (.bl b)
  | .Tuple es _ _ => (evL (R.e c Γ) es).bind fun ds => if ds.length ≤ sizeLine then Mo.ret (.tup ds) else Mo.no
  | .List es _ => (evL (R.e c Γ) es).bind fun ds => if ds.length ≤ sizeLine then Mo.ret (.lst ds) else Mo.no
  | .Attribute o f _ => if noSuper o = true then (R.e c Γ o).bind fun d => attrM Pg Φ d f else Mo.no
  | .Subscript o (.Slice lo hi none _) _ => (R.e c Γ o).bind fun x => (partM R c Γ lo).bind fun l => (partM R c Γ hi).bind fun h => Mo.rd fun T => (vw T x).bind fun x => slO x l h
  | .Subscript o (.Slice _ _ _ _) _ => Mo.no
  | .Subscript o i _ => (R.e c Γ o).bind fun x => (R.e c Γ i).bind fun y => Mo.rd fun T => (vw T x).bind fun x => ixO x y
  | .ListComp elt [⟨tg, it, ifs, 0⟩] sc _ => (lcM Pg R c Γ elt tg it ifs sc).bind fun ds => Mo.ret (.lst ds)
  | .Call (.Name x _) args kws _ => if noStar args = true then callM Pg Φ R c Γ x args kws else Mo.no
  | .Call (.Attribute o m ap) args kws p => if noSuper o = true ∧ (ap.endLine == p.line) = true ∧ args.length + kws.length < 28 ∧ noStar args = true then methM Pg Φ R c Γ o m args kws else Mo.no
  | _ => Mo.no
/-- a test that is its value's truth -/
def plainT : Expr → Bool
  | .UnaryOp .Not _ _ => false
  | .BoolOp _ _ _ => false
  | .IfExp _ _ _ _ => false
  | .Compare _ _ _ _ => false
  | _ => true
def stepT (Pg : Prg) (Φ : Str → List D → Mo D) (R : Evs) (c : Cn) (Γ : En) (e : Expr) : Mo Bool := match e with
  | .UnaryOp .Not a _ => (R.t c Γ a).bind fun b => Mo.ret !b
  | .BoolOp .And es _ => boolT true (R.t c Γ) es
  | .BoolOp .Or es _ => boolT false (R.t c Γ) es
  | .Compare a ops cs _ => cmpM Pg Φ R c Γ a ops cs
  | e => if plainT e = true then (stepE Pg Φ R c Γ e).bind fun d => Mo.rd fun T => truO T d else Mo.no
def evs (Pg : Prg) (Φ : Str → List D → Mo D) : Nat → Evs
  | 0 => ⟨fun _ _ _ => Mo.no, fun _ _ _ => Mo.no⟩
  | n + 1 => ⟨stepE Pg Φ (evs Pg Φ n), stepT Pg Φ (evs Pg Φ n)⟩
end RR
set_option maxHeartbeats 1000000
/-! R4: what is shown of expressions; operators, comparisons. -/
namespace RR
open PySem PySem.Spec PyProof.Rows L2

/-- where the program's classes and defs stand -/
structure Nm where
  ca : Nat → Addr
  fa : Str → Addr
abbrev Bx (X : Cx) (A : Nm) : Bas := ⟨X.K, A.ca, A.fa⟩
/-! ### what is asked of the model -/
def WE (X : Cx) (e : Expr) : TE := fun σ H Q => ∀ pins s, Inv X pins σ H s → wpAny (model X.prog X.w) X.A (eval e X.env) (EP X pins σ Q) X.xe s
def WT (X : Cx) (e : Expr) : TT := fun σ H Q => ∀ pins s, Inv X pins σ H s → wpAny (model X.prog X.w) X.A (isTrue e X.env (eval e X.env)) (TP X pins σ Q) X.xe s
def WW (X : Cx) (e : Expr) : TT := fun σ H Q => ∀ whole pins s, Inv X pins σ H s → wpAny (model X.prog X.w) X.A (isTrue e X.env whole) (TP X pins σ Q) X.xe s
def WA (X : Cx) (es : List Expr) : TA := fun σ H Q => ∀ pos pins s, Inv X pins σ H s → wpAny (model X.prog X.w) X.A (spliced (backTo pos (starEach es X.env))) (AP X pins σ Q) X.xe s
def WS (X : Cx) (st : Stmt) : TS := fun D σ H => ∀ pins s, Inv X pins σ H s → wpAny (model X.prog X.w) X.A (exec st X.env) (SP X pins D) X.xe s
def WB (X : Cx) (sts : List Stmt) : TS := fun D σ H => ∀ pins s, Inv X pins σ H s → wpAny (model X.prog X.w) X.A (execs sts X.env) (SP X pins D) X.xe s
section
variable {X : Cx} {e : Expr} {es : List Expr} {st : Stmt} {sts : List Stmt} {σ : L2.St} {H : Hp}
theorem pe_we : PE X e (WE X e) := ⟨fun pins s _ _ _ I h => h pins s I⟩
theorem pt_wt : PT X e (WT X e) := ⟨fun pins s _ _ _ I h => h pins s I⟩
theorem pw_ww : PW X e (WW X e) := ⟨fun wh pins s _ _ _ I h => h wh pins s I⟩
theorem pa_wa : PA X es (WA X es) := ⟨fun pos pins s _ _ _ I h => h pos pins s I⟩
theorem ps_ws : PS X st (WS X st) := ⟨fun pins s _ _ _ I h => h pins s I⟩
theorem pss_wb : PSs X sts (WB X sts) := ⟨fun pins s _ _ _ I h => h pins s I⟩
theorem we_of {t : TE} {Q : VK} (h : PE X e t) (q : t σ H Q) : WE X e σ H Q := fun pins s I => h.run pins s σ H Q I q
theorem wt_of {t : TT} {Q : Bool → Hp → Prop} (h : PT X e t) (q : t σ H Q) : WT X e σ H Q := fun pins s I => h.run pins s σ H Q I q
theorem wa_of {t : TA} {Q : List V → Hp → Prop} (h : PA X es t) (q : t σ H Q) : WA X es σ H Q := fun pos pins s I => h.run pos pins s σ H Q I q
theorem ws_of {t : TS} {D : Ends} (h : PS X st t) (q : t D σ H) : WS X st D σ H := fun pins s I => h.run pins s σ H D I q
theorem wb_of {t : TS} {D : Ends} (h : PSs X sts t) (q : t D σ H) : WB X sts D σ H := fun pins s I => h.run pins s σ H D I q
theorem we_mono {Q Q' : VK} (h : WE X e σ H Q) (k : ∀ v H', Q v H' → Q' v H') : WE X e σ H Q' := fun pins s I => thn (h pins s I) fun u s' ⟨v, H', I', r, q⟩ => ⟨v, H', I', r, k _ _ q⟩
theorem wt_mono {Q Q' : Bool → Hp → Prop} (h : WT X e σ H Q) (k : ∀ v H', Q v H' → Q' v H') : WT X e σ H Q' := fun pins s I => thn (h pins s I) fun u s' ⟨H', I', q⟩ => ⟨H', I', k _ _ q⟩
end
/-! ### ends -/
/-- an exception's dict -/
def XRel (B : Bas) (ρ : List Addr) (S : Hp) (fs : List (Str × D)) (dx : Option Addr) : Prop := ∃ a ws, dx = some a ∧ S a = some (.xd ws) ∧ DDf B ρ S ws fs
def PostX (X : Cx) (A : Nm) (F ρ : List Addr) (H : Hp) (σ : L2.St) (C : Nat) (fs : List (Str × D)) (T' : List Ob) : Prop :=
  ∃ W : WX, Takes X W ∧ ∀ ρ' H' dx, Stp F ρ H ρ' H' → Wd (Bx X A) F ρ' T' H' → XRel (Bx X A) ρ' (cutR F ρ' H') fs dx → W (.ref (A.ca C)) dx σ H'
def Post {α β : Type} (X : Cx) (A : Nm) (F ρ : List Addr) (H : Hp) (σ : L2.St) (R : List Addr → Hp → β → α → Prop) (r : Rs α) (Q : β → Hp → Prop) : Prop := match r with
  | .ok a T' => ∀ v ρ' H', Stp F ρ H ρ' H' → Wd (Bx X A) F ρ' T' H' → R ρ' (cutR F ρ' H') v a → Q v H'
  | .ex C fs T' => PostX X A F ρ H σ C fs T'
abbrev rD (X : Cx) (A : Nm) : List Addr → Hp → V → D → Prop := fun ρ S v d => DD (Bx X A) ρ S v d
abbrev rDs (X : Cx) (A : Nm) : List Addr → Hp → List V → List D → Prop := fun ρ S v d => DDs (Bx X A) ρ S v d
abbrev rB : List Addr → Hp → Bool → Bool → Prop := fun _ _ v d => v = d
section
variable {X : Cx} {A : Nm} {F ρ ρ1 : List Addr} {H H1 : Hp} {σ : L2.St} {α β : Type} {R : List Addr → Hp → β → α → Prop} {Q : β → Hp → Prop}
theorem PostX.stp {C : Nat} {fs : List (Str × D)} {T' : List Ob} (p : PostX X A F ρ H σ C fs T') (s : Stp F ρ H ρ1 H1) : PostX X A F ρ1 H1 σ C fs T' := by
  obtain ⟨W, tk, h⟩ := p
  exact ⟨W, tk, fun ρ' H' dx s' w x => h ρ' H' dx (s.trans s') w x⟩
theorem Post.stp {r : Rs α} (p : Post X A F ρ H σ R r Q) (s : Stp F ρ H ρ1 H1) : Post X A F ρ1 H1 σ R r Q := by
  cases r with
  | ok a T' => exact fun v ρ' H' s' w x => p v ρ' H' (s.trans s') w x
  | ex C fs T' => exact PostX.stp p s
end
theorem Mo.bind_some {α β : Type} {m : Mo α} {k : α → Mo β} {T : List Ob} {r : Rs β} (h : (m.bind k) T = some r) : (∃ a T1, m T = some (.ok a T1) ∧ k a T1 = some r) ∨ ∃ C fs T1, m T = some (.ex C fs T1) ∧ r = .ex C fs T1 := by
  unfold Mo.bind at h
  cases e : m T with
  | none => rw [e] at h; cases h
  | some z =>
    rw [e] at h
    cases z with
    | ok a T1 => exact .inl ⟨a, T1, rfl, h⟩
    | ex C fs T1 => exact .inr ⟨C, fs, T1, rfl, (Option.some.inj h).symm⟩
theorem Mo.rd_some {α : Type} {f : List Ob → Option α} {T : List Ob} {r : Rs α} (h : Mo.rd f T = some r) : ∃ a, f T = some a ∧ r = .ok a T := by
  unfold Mo.rd at h
  cases e : f T with
  | none => rw [e] at h; cases h
  | some a => rw [e] at h; exact ⟨a, rfl, (Option.some.inj h).symm⟩
theorem Mo.of_some {α : Type} {o : Option α} {T : List Ob} {r : Rs α} (h : Mo.of o T = some r) : ∃ a, o = some a ∧ r = .ok a T := by
  cases o with
  | none => cases h
  | some a => exact ⟨a, rfl, (Option.some.inj h).symm⟩
theorem Mo.ret_some {α : Type} {a : α} {T : List Ob} {r : Rs α} (h : Mo.ret a T = some r) : r = .ok a T := (Option.some.inj h).symm
/-- e's value is as m says -/
def SE (X : Cx) (A : Nm) (Γ : En) (e : Expr) (m : Mo D) : Prop :=
  ∀ F ρ T σ H r Q, Gd (Bx X A) F ρ T σ H Γ → m T = some r → Post X A F ρ H σ (rD X A) r Q → WE X e σ H Q
def ST (X : Cx) (A : Nm) (Γ : En) (e : Expr) (m : Mo Bool) : Prop :=
  ∀ F ρ T σ H r Q, Gd (Bx X A) F ρ T σ H Γ → m T = some r → Post X A F ρ H σ rB r Q → WT X e σ H Q
def SW (X : Cx) (A : Nm) (Γ : En) (e : Expr) (m : Mo Bool) : Prop :=
  ∀ F ρ T σ H r Q, Gd (Bx X A) F ρ T σ H Γ → m T = some r → Post X A F ρ H σ rB r Q → WW X e σ H Q
def SA (X : Cx) (A : Nm) (Γ : En) (es : List Expr) (m : Mo (List D)) : Prop :=
  ∀ F ρ T σ H r Q, Gd (Bx X A) F ρ T σ H Γ → m T = some r → Post X A F ρ H σ (rDs X A) r Q → WA X es σ H Q
section
variable {X : Cx} {A : Nm} {Γ : En}
theorem SE.no {e : Expr} : SE X A Γ e Mo.no := fun _ _ _ _ _ _ _ _ h => by cases h
theorem ST.no {e : Expr} : ST X A Γ e Mo.no := fun _ _ _ _ _ _ _ _ h => by cases h
theorem SA.no {e : List Expr} : SA X A Γ e Mo.no := fun _ _ _ _ _ _ _ _ h => by cases h
theorem SE.bind {α β : Type} {R : List Addr → Hp → β → α → Prop} {Q : β → Hp → Prop} {e : Expr} {m : Mo D} {k : D → Mo α} (h : SE X A Γ e m) {F ρ : List Addr} {T : List Ob} {σ : L2.St} {H : Hp} {r : Rs α} {Qm : VK} (g : Gd (Bx X A) F ρ T σ H Γ) (e0 : (m.bind k) T = some r) (p : Post X A F ρ H σ R r Q)
    (c : ∀ d T1 v ρ1 H1, Stp F ρ H ρ1 H1 → Gd (Bx X A) F ρ1 T1 σ H1 Γ → DD (Bx X A) ρ1 (cutR F ρ1 H1) v d → k d T1 = some r → Post X A F ρ1 H1 σ R r Q → Qm v H1) : WE X e σ H Qm := by
  rcases Mo.bind_some e0 with ⟨d, T1, e1, e2⟩ | ⟨C, fs, T1, e1, rfl⟩
  · exact h F ρ T σ H _ Qm g e1 fun v ρ' H' s w x => c d T1 v ρ' H' s (g.stp s w) x e2 (p.stp s)
  · exact h F ρ T σ H _ Qm g e1 p
theorem ST.bind {α β : Type} {R : List Addr → Hp → β → α → Prop} {Q : β → Hp → Prop} {e : Expr} {m : Mo Bool} {k : Bool → Mo α} (h : ST X A Γ e m) {F ρ : List Addr} {T : List Ob} {σ : L2.St} {H : Hp} {r : Rs α} {Qm : Bool → Hp → Prop} (g : Gd (Bx X A) F ρ T σ H Γ) (e0 : (m.bind k) T = some r) (p : Post X A F ρ H σ R r Q)
    (c : ∀ d T1 ρ1 H1, Stp F ρ H ρ1 H1 → Gd (Bx X A) F ρ1 T1 σ H1 Γ → k d T1 = some r → Post X A F ρ1 H1 σ R r Q → Qm d H1) : WT X e σ H Qm := by
  rcases Mo.bind_some e0 with ⟨d, T1, e1, e2⟩ | ⟨C, fs, T1, e1, rfl⟩
  · exact h F ρ T σ H _ Qm g e1 fun v ρ' H' s w x => by subst x; exact c v T1 ρ' H' s (g.stp s w) e2 (p.stp s)
  · exact h F ρ T σ H _ Qm g e1 p
theorem SA.bind {α β : Type} {R : List Addr → Hp → β → α → Prop} {Q : β → Hp → Prop} {es : List Expr} {m : Mo (List D)} {k : List D → Mo α} (h : SA X A Γ es m) {F ρ : List Addr} {T : List Ob} {σ : L2.St} {H : Hp} {r : Rs α} {Qm : List V → Hp → Prop} (g : Gd (Bx X A) F ρ T σ H Γ) (e0 : (m.bind k) T = some r) (p : Post X A F ρ H σ R r Q)
    (c : ∀ d T1 v ρ1 H1, Stp F ρ H ρ1 H1 → Gd (Bx X A) F ρ1 T1 σ H1 Γ → DDs (Bx X A) ρ1 (cutR F ρ1 H1) v d → k d T1 = some r → Post X A F ρ1 H1 σ R r Q → Qm v H1) : WA X es σ H Qm := by
  rcases Mo.bind_some e0 with ⟨d, T1, e1, e2⟩ | ⟨C, fs, T1, e1, rfl⟩
  · exact h F ρ T σ H _ Qm g e1 fun v ρ' H' s w x => c d T1 v ρ' H' s (g.stp s w) x e2 (p.stp s)
  · exact h F ρ T σ H _ Qm g e1 p
end

/-! ### views -/
section
variable {B : Bas} {F ρ : List Addr} {T : List Ob} {H : Hp}
theorem dd_sub {v : V} {d : D} (h : DD B ρ (cutR F ρ H) v d) : DD B ρ H v d := h.mono (List.prefix_refl _) (cut_sub _ _)
theorem dds_sub {v : List V} {d : List D} (h : DDs B ρ (cutR F ρ H) v d) : DDs B ρ H v d := h.mono (List.prefix_refl _) (cut_sub _ _)
theorem Wd.at (w : Wd B F ρ T H) {n : Nat} {a : Addr} {o : Ob} (ha : ρ[n]? = some a) (h : T[n]? = some o) : OOk B ρ (cutR F ρ H) H a o := w.ok n a o ha h
theorem vw_adr {n : Nat} {d' : D} (e : vw T (.adr n) = some d') : (∃ ds, T[n]? = some (.lst ds) ∧ d' = .lst ds) ∨ ∃ kvs, T[n]? = some (.dct kvs) ∧ d' = .dct kvs := by
  simp only [vw] at e
  cases h : T[n]? with
  | none => rw [h] at e; cases e
  | some o =>
    rw [h] at e
    cases o with
    | lst ds => exact .inl ⟨ds, rfl, (Option.some.inj e).symm⟩
    | dct ds => exact .inr ⟨ds, rfl, (Option.some.inj e).symm⟩
    | ins C fs => cases e
theorem vw_ok (w : Wd B F ρ T H) {v : V} {d d' : D} (h : DD B ρ (cutR F ρ H) v d) (e : vw T d = some d') : DD B ρ H v d' := by
  cases h with
  | adr ha =>
    rcases vw_adr e with ⟨ds, h1, rfl⟩ | ⟨kvs, h1, rfl⟩
    · obtain ⟨xs, h2, h3⟩ := w.at ha h1
      exact .lst (.of h2) (dds_sub h3)
    · obtain ⟨xs, h2, h3⟩ := w.at ha h1
      exact .dct (.of h2) (h3.mono (List.prefix_refl _) (cut_sub _ _))
  | non => cases e; exact .non
  | bl b => cases e; exact .bl b
  | int i => cases e; exact .int i
  | str s => cases e; exact .str s
  | ty n => cases e; exact .ty n
  | lst h r => cases e; exact dd_sub (.lst h r)
  | tup h r => cases e; exact dd_sub (.tup h r)
  | dct h r => cases e; exact dd_sub (.dct h r)
  | obj h r => cases e; exact dd_sub (.obj h r)
  | cls C => cases e; exact .cls C
  | fn f => cases e; exact .fn f
theorem vw_lst (w : Wd B F ρ T H) {v : V} {d : D} {ds : List D} (h : DD B ρ (cutR F ρ H) v d) (e : vw T d = some (.lst ds)) : ∃ a xs, v = .ref a ∧ Rd H a (.lst xs) ∧ DDs B ρ (cutR F ρ H) xs ds := by
  cases h with
  | adr ha =>
    rcases vw_adr e with ⟨ds', h1, e1⟩ | ⟨kvs, h1, e1⟩
    · cases e1
      obtain ⟨xs, h2, h3⟩ := w.at ha h1
      exact ⟨_, xs, rfl, .of h2, h3⟩
    · cases e1
  | lst h r => cases e; exact ⟨_, _, rfl, same_rd (cut_sub _ _) h, r⟩
  | _ => cases e
theorem vw_tup {v : V} {d : D} {ds : List D} (h : DD B ρ (cutR F ρ H) v d) (e : vw T d = some (.tup ds)) : ∃ a xs, v = .ref a ∧ SqT B.K H a xs ∧ DDs B ρ (cutR F ρ H) xs ds := by
  cases h with
  | adr ha =>
    rcases vw_adr e with ⟨ds', h1, e1⟩ | ⟨kvs, h1, e1⟩ <;> cases e1
  | tup h r => cases e; exact ⟨_, _, rfl, same_sqT (cut_sub _ _) h, r⟩
  | _ => cases e
theorem vw_dct (w : Wd B F ρ T H) {v : V} {d : D} {ds : List (Key × D)} (h : DD B ρ (cutR F ρ H) v d) (e : vw T d = some (.dct ds)) : ∃ a xs, v = .ref a ∧ Rd H a (.dK xs) ∧ DDk B ρ (cutR F ρ H) xs ds := by
  cases h with
  | adr ha =>
    rcases vw_adr e with ⟨ds', h1, e1⟩ | ⟨kvs, h1, e1⟩
    · cases e1
    · cases e1
      obtain ⟨xs, h2, h3⟩ := w.at ha h1
      exact ⟨_, xs, rfl, .of h2, h3⟩
  | dct h r => cases e; exact ⟨_, _, rfl, same_rd (cut_sub _ _) h, r⟩
  | _ => cases e
end

/-! ### plain data -/
mutual
theorem plain_of : ∀ d : D, (toPy d).canLay0 = true → plainD d = true
  | .non, _ => rfl
  | .bl _, _ => rfl
  | .int _, _ => rfl
  | .str _, _ => rfl
  | .lst ds, h => by
    simp only [plainD]
    exact plains_of ds (by simpa [toPy, PyData.canLay0] using h)
  | .tup ds, h => by
    simp only [plainD]
    exact plains_of ds (by simpa [toPy, PyData.canLay0] using h)
  | .dct _, h => by simp [toPy, PyData.canLay0] at h
  | .obj _ _, h => by simp [toPy, PyData.canLay0] at h
  | .adr _, h => by simp [toPy, PyData.canLay0] at h
  | .ty _, h => by simp [toPy, PyData.canLay0] at h
  | .cls _, h => by simp [toPy, PyData.canLay0] at h
  | .fn _, h => by simp [toPy, PyData.canLay0] at h
theorem plains_of : ∀ ds : List D, PyData.canLayAll0 (toPys ds) = true → plainDs ds = true
  | [], _ => rfl
  | d :: ds, h => by
    simp only [toPys, PyData.canLayAll0, Bool.and_eq_true] at h
    simp only [plainDs, plain_of d h.1, plains_of ds h.2, Bool.and_self]
end
theorem sql_of {K : PySem.W.Frag} {H : Hp} {a : Addr} {xs : List V} (h : Rd H a (.lst xs)) : SqL K H a xs := .inl h
mutual
theorem dp_of {B : Bas} {ρ : List Addr} {S : Hp} : ∀ {v : V} {d : D}, DD B ρ S v d → plainD d = true → Dp B.K S v (toPy d)
  | _, _, .non, _ => .non
  | _, _, .bl b, _ => .bl b
  | _, _, .int i, _ => .int i
  | _, _, .str s, _ => .str s
  | _, _, .lst h r, c => .lst (sql_of h) (dps_of r (by simpa only [plainD] using c))
  | _, _, .tup h r, c => .tup h (dps_of r (by simpa only [plainD] using c))
  | _, _, .dct h r, c => by simp [plainD] at c
  | _, _, .obj h r, c => by simp [plainD] at c
  | _, _, .adr a, c => by simp [plainD] at c
  | _, _, .ty n, c => by simp [plainD] at c
  | _, _, .cls n, c => by simp [plainD] at c
  | _, _, .fn n, c => by simp [plainD] at c
theorem dps_of {B : Bas} {ρ : List Addr} {S : Hp} : ∀ {vs : List V} {ds : List D}, DDs B ρ S vs ds → plainDs ds = true → DpAll B.K S vs (toPys ds)
  | _, _, .nil, _ => .nil
  | _, _, .cons h r, c => by
    simp only [plainDs, Bool.and_eq_true] at c
    exact .cons (dp_of h c.1) (dps_of r c.2)
end
theorem shp_lay {d : D} (h : shp d = true) : plainD d = true := by
  unfold shp SeqAt.shaped at h
  rw [Bool.and_eq_true] at h
  exact plain_of d h.1
theorem scal_of {B : Bas} {ρ : List Addr} {S : Hp} {x y : V} {d e : D} (hx : DD B ρ S x d) (hy : DD B ρ S y e) (h : scalD d e = true) : scal x y = true ∧ decide (x = y) = eqD d e := by
  cases hx <;> cases hy <;> first
    | (exfalso; revert h; decide)
    | (exfalso; exact Bool.false_ne_true h)
    | refine ⟨rfl, ?_⟩
  all_goals first
    | (simp [eqD, toPy, PyData.eqv]; done)
    | (rw [Bool.eq_iff_iff]; simp [eqD, toPy, PyData.eqv])

/-! ### operators, by values -/
/-- a two-place operation on data: what it gives of the store as it is -/
def Op2 (X : Cx) (A : Nm) (r0 : R2) (f : List Ob → D → D → Option D) : Prop :=
  ∀ F ρ T H x y d e z Q, Wd (Bx X A) F ρ T H → DD (Bx X A) ρ (cutR F ρ H) x d → DD (Bx X A) ρ (cutR F ρ H) y e → f T d e = some z →
    (∀ v H', Stp F ρ H ρ H' → Wd (Bx X A) F ρ T H' → DD (Bx X A) ρ (cutR F ρ H') v z → Q v H') → r0 x y H Q
theorem v2_some {α : Type} {T : List Ob} {f : D → D → Option α} {x y : D} {z : α} (h : v2 T f x y = some z) : ∃ x' y', vw T x = some x' ∧ vw T y = some y' ∧ f x' y' = some z := by
  unfold v2 at h
  cases ex : vw T x with
  | none => rw [ex] at h; cases h
  | some x' =>
    rw [ex] at h
    cases ey : vw T y with
    | none => rw [ey] at h; cases h
    | some y' => rw [ey] at h; exact ⟨x', y', rfl, rfl, h⟩
theorem dd_new {B : Bas} {F ρ : List Addr} {T : List Ob} {H : Hp} (w : Wd B F ρ T H) {p : Addr} (h : H p = none) {xs : List V} {ds : List D} (r : DDs B ρ (cutR F ρ H) xs ds) :
    DD B ρ (cutR F ρ (upd H p (.tup xs))) (.ref p) (.tup ds) ∧ DD B ρ (cutR F ρ (upd H p (.lst xs))) (.ref p) (.lst ds) := by
  obtain ⟨_, s1, e1⟩ := w.new (o := .tup xs) h
  obtain ⟨_, s2, e2⟩ := w.new (o := .lst xs) h
  exact ⟨.tup (.of e1) (r.stp s1), .lst (.of e2) (r.stp s2)⟩
section
variable {X : Cx} {A : Nm}
theorem Rd.lst {pins : List (Addr × Obj)} {σ : L2.St} {H : Hp} {s : Shared} {p : Addr} {xs : List V} (h : Rd H p (.lst xs)) (I : Inv X pins σ H s) : xs.length ≤ sizeLine ∧ ∃ (its : List Value) (n : Nat), Vals xs its ∧ xs.length = its.length ∧ s.heap.get? p = some { cls := .type "list", data := .seq its.toArray n } := by
  obtain ⟨z, its, n, r, e⟩ := h.ok I.hok
  exact ⟨z, its, n, r, r.length, e⟩
def rCatR : R2 := fun x y H Q => ∃ l b xs zs, x = .ref l ∧ y = .ref b ∧ Rd H l (.lst xs) ∧ Rd H b (.lst zs) ∧ xs.length + zs.length ≤ sizeLine ∧ ∀ p, H p = none → Q (.ref p) (upd H p (.lst (xs ++ zs)))
theorem op_catR : OpR X (binaryOp .Add) rCatR := by
  intro pins s σ H x y v u Q I rx ry h
  obtain ⟨l, b, xs, zs, rfl, rfl, hH, hB, hz, q⟩ := h
  cases rx
  cases ry
  obtain ⟨z, its, n, r, hl, e⟩ := Rd.lst hH I
  obtain ⟨z2, its2, n2, r2, hl2, e2⟩ := Rd.lst hB I
  refine PySem.P.add_list e e2 ?_ (by rw [List.size_toArray, List.size_toArray]; omega)
  have ea : its.toArray ++ its2.toArray = (its ++ its2).toArray := by simp
  rw [ea]
  exact ⟨.ref _, _, I.lnew (t' := s.toks) (r.append r2) (by rw [List.length_append]; omega), rfl, q _ I.fresh⟩
def rAddR (K : PySem.W.Frag) : R2 := fun x y H Q => (rI0 fun i j => .int (i + j)) x y H Q ∨ (∃ i j, x = .str i ∧ y = .str j ∧ i.length + j.length ≤ sizeLine ∧ Q (.str (i ++ j)) H) ∨ rCatA K x y H Q ∨ rCatR x y H Q
theorem op_addR : OpR X (binaryOp .Add) (rAddR X.K) := op_add.or (op_add_str.or (op_catA.or op_catR))
theorem o2_add : Op2 X A (rAddR X.K) (fun T => v2 T addO) := by
  intro F ρ T H x y d e z Q w hx hy g q
  obtain ⟨d', e', ex, ey, g⟩ := v2_some g
  have q0 : ∀ v, DD (Bx X A) ρ (cutR F ρ H) v z → Q v H := fun v h => q v H .refl w h
  unfold addO at g
  split at g
  · cases g
    have h1 := vw_ok w hx ex
    have h2 := vw_ok w hy ey
    cases h1
    cases h2
    exact .inl ⟨_, _, rfl, rfl, q0 _ (.int _)⟩
  · split at g
    · cases g
      have h1 := vw_ok w hx ex
      have h2 := vw_ok w hy ey
      cases h1
      cases h2
      rename_i hz
      exact .inr (.inl ⟨_, _, rfl, rfl, hz, q0 _ (.str _)⟩)
    · cases g
  · split at g
    · cases g
      rename_i a b hz
      obtain ⟨p1, xs, rfl, h1, r1⟩ := vw_tup hx ex
      obtain ⟨p2, ys, rfl, h2, r2⟩ := vw_tup hy ey
      refine .inr (.inr (.inl ⟨p1, p2, xs, ys, rfl, rfl, h1, h2, by rw [r1.len, r2.len]; exact hz, fun e0 => ?_, fun n e0 => ?_, fun _ _ p hp => ?_⟩))
      · subst e0
        cases r1
        exact q0 _ (by
          cases hy with
          | tup h r => cases ey; exact .tup h r
          | adr ha => rcases vw_adr ey with ⟨_, _, e1⟩ | ⟨_, _, e1⟩ <;> cases e1
          | _ => cases ey)
      · subst e0
        cases r2
        rw [List.append_nil] at q0
        exact q0 _ (by
          cases hx with
          | tup h r => cases ex; exact .tup h r
          | adr ha => rcases vw_adr ex with ⟨_, _, e1⟩ | ⟨_, _, e1⟩ <;> cases e1
          | _ => cases ex)
      · exact q _ _ (w.new hp).2.1 (w.new hp).1 (dd_new w hp (r1.append r2)).1
    · cases g
  · split at g
    · cases g
      rename_i a b hz
      obtain ⟨p1, xs, rfl, h1, r1⟩ := vw_lst w hx ex
      obtain ⟨p2, ys, rfl, h2, r2⟩ := vw_lst w hy ey
      exact .inr (.inr (.inr ⟨p1, p2, xs, ys, rfl, rfl, h1, h2, by rw [r1.len, r2.len]; exact hz, fun p hp => q _ _ (w.new hp).2.1 (w.new hp).1 (dd_new w hp (r1.append r2)).2⟩))
    · cases g
  · cases g
end
end RR
set_option maxHeartbeats 1000000
/-! R5: the other operators. -/
namespace RR
open PySem PySem.Spec PyProof.Rows L2

/-! ### tuple * int, of any int -/
theorem tuple_mul1 (l : Addr) (items : Array Value) (n : Nat) (dd : Option Addr) (sl : Array (Option Value)) (x : Int) (u : Tok) (c0 : (decide (x < -(2 ^ 63)) || decide (x ≥ 2 ^ 63)) = false) (c1 : (items.isEmpty || x == 1) = true) :
    Meets (Builtin.«tuple.__mul__» ⟨[.ref l, .int x u], []⟩) (fun _ R s => s.heap.get? l = some { cls := .type "tuple", dict := dd, data := .seq items n, slots := sl } ∧ R (.ok (.ret (Value.ref l))) s) :=
  .of_wp fun prog w A R s h => by
    obtain ⟨hp, g, d, tk, os⟩ := s
    obtain ⟨hl, h⟩ := h
    have f1 := AutoSeq1.idx_int
    wp_walk using wpAny_loadPart' hl
    repeat (first
      | (refine wpAny_ite_false (decide_eq_false (by rw [c0]; exact Bool.false_ne_true)) ?_; wp_walk using wpAny_loadPart' hl)
      | (refine wpAny_ite_true (decide_eq_true (by rw [c1])) ?_; wp_walk using wpAny_loadPart' hl))
    exact ⟨_, rfl, h⟩
theorem tuple_mul0 (l : Addr) (items : Array Value) (n : Nat) (dd : Option Addr) (sl : Array (Option Value)) (x : Int) (u : Tok) (c0 : (decide (x < -(2 ^ 63)) || decide (x ≥ 2 ^ 63)) = false) (c1 : (items.isEmpty || x == 1) = false) (c2 : (decide (x ≤ 0) || items.isEmpty) = true) :
    Meets (Builtin.«tuple.__mul__» ⟨[.ref l, .int x u], []⟩) (fun _ R s => s.heap.get? l = some { cls := .type "tuple", dict := dd, data := .seq items n, slots := sl } ∧
      R (.ok (.ret (Value.ref s.heap.objs.size))) { s with heap := s.heap.push { cls := Value.type "tuple", data := Data.seq #[] }, toks := s.toks }) :=
  .of_wp fun prog w A R s h => by
    obtain ⟨hp, g, d, tk, os⟩ := s
    obtain ⟨hl, h⟩ := h
    have f1 := AutoSeq1.idx_int
    wp_walk using wpAny_loadPart' hl
    repeat (first
      | (refine wpAny_ite_false (decide_eq_false (by rw [c0]; exact Bool.false_ne_true)) ?_; wp_walk using wpAny_loadPart' hl)
      | (refine wpAny_ite_false (decide_eq_false (by rw [c1]; exact Bool.false_ne_true)) ?_; wp_walk using wpAny_loadPart' hl)
      | (refine wpAny_ite_true (decide_eq_true (by rw [c2])) ?_; wp_walk using wpAny_loadPart' hl))
    exact ⟨_, rfl, h⟩
section
variable {X : Cx} {A : Nm}
def rRepA (K : PySem.W.Frag) : R2 := fun x y H Q => ∃ l k xs, x = .ref l ∧ y = .int k ∧ SqT K H l xs ∧ xs.length ≤ 1000 ∧ -1000 ≤ k ∧ k ≤ 1000 ∧ ((xs = [] ∨ k = 1) → Q (.ref l) H) ∧ (¬ (xs = [] ∨ k = 1) → ∀ p, H p = none → Q (.ref p) (upd H p (.tup (List.replicate k.toNat xs).flatten)))
section
variable {prog : Program} {w : World} {A : Around} {E : Value → Shared → Prop} {s : Shared} {Q : Value → Shared → Prop} {l : Addr} {m : Int} {tk : Tok} {n : Nat} {vs : Array Value}
/-- a sequence times an int, by what the sequence's own method does -/
theorem road_tup {dd : Option Addr} {sl : Array (Option Value)} (ho : s.heap.get? l = some { cls := .type "tuple", dict := dd, data := .seq vs n, slots := sl })
    (own : wpAny (model prog w) A (call (.builtin "tuple.__mul__") [.ref l, .int m tk]) Q E s) : wpAny (model prog w) A (binaryOp .Mult (.ref l) (.int m tk)) Q E s :=
  have back := fun {Q' : Value → Shared → Prop} h => call_meets (Q := Q') (E := E) (A := A) (prog := prog) (w := w) F.slot_int_rmul (typeIs_int s m tk) F.entry_int_rmul (F.args_int_rmul_2 (.int m tk) (.ref l)) (int_rmul_tuple m tk l vs n dd sl) h
  have isT : s.TypeIs (.ref l) "tuple" := ⟨_, ho, rfl⟩
  wpAny_binaryOp_repeat_ref (T := "tuple") (U := "int") (by decide) isT (fun s' => typeIs_int s' m tk) noFill_tuple_mul F.fills_int_mul F.slot_int_rmul repeat_tuple F.slot_int_index.lookup (back ⟨ho, rfl, isT, own⟩)
theorem road_lst (ho : s.heap.get? l = some { cls := .type "list", data := .seq vs n })
    (own : wpAny (model prog w) A (call (.builtin "list.__mul__") [.ref l, .int m tk]) Q E s) : wpAny (model prog w) A (binaryOp .Mult (.ref l) (.int m tk)) Q E s :=
  have back := fun {Q' : Value → Shared → Prop} h => call_meets (Q := Q') (E := E) (A := A) (prog := prog) (w := w) F.slot_int_rmul (typeIs_int s m tk) F.entry_int_rmul (F.args_int_rmul_2 (.int m tk) (.ref l)) (int___rmul___int_list m tk l vs n) h
  have isT : s.TypeIs (.ref l) "list" := ⟨_, ho, rfl⟩
  wpAny_binaryOp_repeat_ref (T := "list") (U := "int") (by decide) isT (fun s' => typeIs_int s' m tk) noFill_list_mul F.fills_int_mul F.slot_int_rmul repeat_list F.slot_int_index.lookup (back ⟨ho, rfl, isT, own⟩)
end
theorem reps (us : List Value) (k : Nat) : List.foldl (fun a b => a ++ b) #[] (List.replicate k us.toArray) = (List.replicate k us).flatten.toArray := by
  simpa using foldl_rep us k []
theorem rep_len {α : Type} (l : List α) : ∀ k : Nat, (List.replicate k l).flatten.length = k * l.length
  | 0 => by simp
  | k + 1 => by rw [List.replicate_succ, List.flatten_cons, List.length_append, rep_len l k, Nat.succ_mul, Nat.add_comm]
theorem op_repA : OpR X (binaryOp .Mult) (rRepA X.K) := by
  intro pins s σ H x y v u Q I rx ry h
  obtain ⟨l, m, xs, rfl, rfl, hT, hz, h1, h2, q1, q2⟩ := h
  by_cases hk : 2 ≤ m ∧ xs ≠ []
  · exact op_repT pins s σ H _ _ v u Q I rx ry ⟨l, m, xs, rfl, rfl, hT, hk.2, hk.1, h2, hz, q2 fun z => z.elim hk.2 (by omega)⟩
  cases rx
  obtain ⟨tk, rfl⟩ := ry
  obtain ⟨us, r, ⟨ob, ho, hc, n, hd⟩, hs⟩ := I.tuple hT
  obtain ⟨cls, dd, data, sl⟩ := ob
  have hc' : cls = .type "tuple" := hc
  have hd' : data = .seq us.toArray n := hd
  subst hc' hd'
  have hfit : (decide (m < -(2 ^ 63)) || decide (m ≥ 2 ^ 63)) = false := by
    rw [Bool.or_eq_false_iff]
    exact ⟨decide_eq_false (by omega), decide_eq_false (by omega)⟩
  have hemp : us.toArray.isEmpty = decide (xs = []) := by
    cases r with
    | nil => rfl
    | cons _ _ => rfl
  have isT : s.TypeIs (.ref l) "tuple" := ⟨_, ho, rfl⟩
  refine road_tup ho ?_
  by_cases hself : xs = [] ∨ m = 1
  · have hone : (us.toArray.isEmpty || m == 1) = true := by
      rw [hemp]
      rcases hself with e | e
      · rw [decide_eq_true e, Bool.true_or]
      · rw [e, Bool.or_eq_true]; exact .inr rfl
    have fin : EP X pins σ Q (.ref l) s := ⟨.ref l, H, I, rfl, q1 hself⟩
    exact call_meets F.slot_tuple_mul isT F.entry_tuple_mul (F.args_tuple_mul_2 (.ref l) (.int m tk)) (tuple_mul1 l us.toArray n dd sl m tk hfit hone) ⟨ho, fin⟩
  · have hone : (us.toArray.isEmpty || m == 1) = false := by
      rw [hemp, Bool.or_eq_false_iff]
      exact ⟨decide_eq_false fun e => hself (.inl e), beq_eq_false_iff_ne.mpr fun e => hself (.inr e)⟩
    have hle : m ≤ 0 := by
      have a1 : ¬ 2 ≤ m := fun z => hk ⟨z, fun e => hself (.inl e)⟩
      have a2 : m ≠ 1 := fun e => hself (.inr e)
      omega
    have hnil : (decide (m ≤ 0) || us.toArray.isEmpty) = true := by rw [decide_eq_true hle, Bool.true_or]
    have q3 := q2 hself _ (I.hok.fresh (Nat.le_refl _))
    rw [Int.toNat_of_nonpos hle] at q3
    have I2 := I.laid (t' := s.toks) (a := s.heap.objs.size) (h' := s.heap.push { cls := .type "tuple", data := .seq #[] }) (o := .tup []) (fun b ob q => Heap.get?_push_of_some _ q) (Nat.le_refl _) ⟨Nat.zero_le _, [], .nil, IsTup.new _ _⟩
    have fin : EP X pins σ Q (.ref s.heap.objs.size) { s with heap := s.heap.push { cls := .type "tuple", data := .seq #[] }, toks := s.toks } := ⟨.ref _, _, I2, rfl, q3⟩
    exact call_meets F.slot_tuple_mul isT F.entry_tuple_mul (F.args_tuple_mul_2 (.ref l) (.int m tk)) (tuple_mul0 l us.toArray n dd sl m tk hfit hone hnil) ⟨ho, fin⟩
def rRepR : R2 := fun x y H Q => ∃ l k xs, x = .ref l ∧ y = .int k ∧ Rd H l (.lst xs) ∧ xs.length ≤ 1000 ∧ -1000 ≤ k ∧ k ≤ 1000 ∧ ∀ p, H p = none → Q (.ref p) (upd H p (.lst (List.replicate k.toNat xs).flatten))
theorem op_repR : OpR X (binaryOp .Mult) rRepR := by
  intro pins s σ H x y v u Q I rx ry h
  obtain ⟨l, m, xs, rfl, rfl, hL, hz, h1, h2, q⟩ := h
  cases rx
  obtain ⟨tk, rfl⟩ := ry
  obtain ⟨_, us, n, r, hl, ho⟩ := Rd.lst hL I
  have hs : us.toArray.size = xs.length := by rw [List.size_toArray]; exact hl.symm
  have hp : xs.length * m.toNat ≤ 1000000 := Nat.le_trans (Nat.mul_le_mul hz (show m.toNat ≤ 1000 by omega)) (by decide)
  have hline : (1000000 : Nat) ≤ sizeLine := by decide
  have cap : ¬ us.toArray.size * m.toNat > (2 ^ 63 - 1) / 8 := by
    rw [hs]
    exact Nat.not_lt.mpr (Nat.le_trans hp (by decide))
  have fit : ¬ (!Builtin.List.listFitsIndex m) = true := by
    rw [fitsIndex_both (by omega) (by omega)]
    exact Bool.false_ne_true
  have long : ¬ Builtin.List.listTooLong (us.toArray.size * m.toNat) = true := by
    rw [notLongL (by rw [hs]; exact Nat.le_trans hp hline)]
    exact Bool.false_ne_true
  have new : List.foldl (fun a b => a ++ b) #[] (List.replicate (if us.toArray.isEmpty = true then 0 else m.toNat) us.toArray) = (List.replicate m.toNat us).flatten.toArray := by
    cases us with
    | nil => simp
    | cons a b => rw [if_neg (by simp)]; exact reps _ _
  have isT : s.TypeIs (.ref l) "list" := ⟨_, ho, rfl⟩
  have hlen : (List.replicate m.toNat xs).flatten.length ≤ sizeLine := by
    rw [rep_len, Nat.mul_comm]
    exact Nat.le_trans hp hline
  have fin : EP X pins σ Q (.ref s.heap.objs.size) { s with heap := s.heap.push { cls := .type "list", data := .seq (List.replicate m.toNat us).flatten.toArray }, toks := s.toks } :=
    ⟨.ref _, _, I.lnew (t' := s.toks) (r.rep m.toNat) hlen, rfl, q _ I.fresh⟩
  rw [← new] at fin
  exact road_lst ho (call_meets F.slot_list_mul isT F.entry_list_mul (F.args_list_mul_2 (.ref l) (.int m tk)) (AutoListH.list___mul___list_int_3 l us.toArray n m tk fit cap long) ⟨ho, fin⟩)
def rMulR (K : PySem.W.Frag) : R2 := fun x y H Q => (rI CMul fun i j => .int (i * j)) x y H Q ∨ (rI CMulW fun i j => .int (i * j)) x y H Q ∨ rRepA K x y H Q ∨ rRepR x y H Q
theorem op_mulR : OpR X (binaryOp .Mult) (rMulR X.K) := op_mul.or (op_mulW.or (op_repA.or op_repR))
theorem DDs.rep {B : Bas} {ρ : List Addr} {S : Hp} {vs : List V} {ds : List D} (h : DDs B ρ S vs ds) : ∀ k : Nat, DDs B ρ S (List.replicate k vs).flatten (List.replicate k ds).flatten
  | 0 => .nil
  | k + 1 => by
    rw [List.replicate_succ, List.replicate_succ, List.flatten_cons, List.flatten_cons]
    exact h.append (DDs.rep h k)
theorem vw_same {B : Bas} {F ρ : List Addr} {T : List Ob} {H : Hp} {v : V} {d : D} {ds : List D} (h : DD B ρ (cutR F ρ H) v d) (e : vw T d = some (.tup ds)) : d = .tup ds := by
  cases h with
  | adr ha => rcases vw_adr e with ⟨_, _, e1⟩ | ⟨_, _, e1⟩ <;> cases e1
  | tup h r => cases e; rfl
  | _ => cases e
theorem o2_mul : Op2 X A (rMulR X.K) (fun T => v2 T mulO) := by
  intro F ρ T H x y d e z Q w hx hy g q
  obtain ⟨d', e', ex, ey, g⟩ := v2_some g
  have q0 : ∀ v, DD (Bx X A) ρ (cutR F ρ H) v z → Q v H := fun v h => q v H .refl w h
  unfold mulO at g
  split at g
  · split at g
    · cases g
      rename_i hc
      have h1 := vw_ok w hx ex
      have h2 := vw_ok w hy ey
      cases h1
      cases h2
      rcases hc with hc | hc
      · exact .inl ⟨_, _, rfl, rfl, hc, q0 _ (.int _)⟩
      · exact .inr (.inl ⟨_, _, rfl, rfl, hc, q0 _ (.int _)⟩)
    · cases g
  · split at g
    · cases g
      rename_i a k hc
      have e1 := vw_same hx ex
      subst e1
      obtain ⟨p1, xs, rfl, h1, r1⟩ := vw_tup hx ex
      have h2 := vw_ok w hy ey
      cases h2
      refine .inr (.inr (.inl ⟨p1, k, xs, rfl, rfl, h1, by rw [r1.len]; exact hc.1, hc.2.1, hc.2.2, fun e0 => ?_, fun _ p hp => ?_⟩))
      · refine q0 _ ?_
        have : repD a k = a := by
          unfold repD
          rcases e0 with e0 | e0
          · subst e0
            cases r1
            have : ∀ n : Nat, (List.replicate n ([] : List D)).flatten = [] := fun n => by induction n with
              | zero => rfl
              | succ n ih => rw [List.replicate_succ, List.flatten_cons, ih]; rfl
            exact this _
          · subst e0
            show (List.replicate 1 a).flatten = a
            simp
        rw [this]
        exact hx
      · exact q _ _ (w.new hp).2.1 (w.new hp).1 (dd_new w hp (r1.rep _)).1
    · cases g
  · split at g
    · cases g
      rename_i a k hc
      obtain ⟨p1, xs, rfl, h1, r1⟩ := vw_lst w hx ex
      have h2 := vw_ok w hy ey
      cases h2
      exact .inr (.inr (.inr ⟨p1, k, xs, rfl, rfl, h1, by rw [r1.len]; exact hc.1, hc.2.1, hc.2.2, fun p hp => q _ _ (w.new hp).2.1 (w.new hp).1 (dd_new w hp (r1.rep _)).2⟩))
    · cases g
  · cases g
theorem o2_int {op : Int → Int → Int} {c : Int → Int → Prop} {f : List Ob → D → D → Option D} (h : ∀ T d e z, f T d e = some z → ∃ i j, d = .int i ∧ e = .int j ∧ c i j ∧ z = .int (op i j)) : Op2 X A (rI c fun i j => .int (op i j)) f := by
  intro F ρ T H x y d e z Q w hx hy g q
  obtain ⟨i, j, rfl, rfl, hc, rfl⟩ := h _ _ _ _ g
  cases hx
  cases hy
  exact ⟨i, j, rfl, rfl, hc, q _ _ .refl w (.int _)⟩
theorem op_subR : OpR X (binaryOp .Sub) (rI (fun _ _ => True) fun i j => .int (i - j)) := fun pins s σ H x y v u Q I rx ry ⟨i, j, e1, e2, _, q⟩ => op_sub pins s σ H x y v u Q I rx ry ⟨i, j, e1, e2, q⟩
theorem bin_ok (op : Operator) : ∃ r0, OpR X (binaryOp op) r0 ∧ Op2 X A r0 (binO op) := by
  have none_ok : ∀ op, (∀ T d e, binO op T d e = none) → ∃ r0, OpR X (binaryOp op) r0 ∧ Op2 X A r0 (binO op) := fun op h => ⟨fun _ _ _ _ => False, fun _ _ _ _ _ _ _ _ _ _ _ _ z => z.elim, fun F ρ T H x y d e z Q w hx hy g q => by rw [h] at g; cases g⟩
  cases op with
  | Add => exact ⟨_, op_addR, o2_add⟩
  | Mult => exact ⟨_, op_mulR, o2_mul⟩
  | Sub => exact ⟨_, op_subR, o2_int (c := fun _ _ => True) fun T d e z g => by
      simp only [binO] at g
      split at g
      · cases g; exact ⟨_, _, rfl, rfl, trivial, rfl⟩
      · cases g⟩
  | FloorDiv => exact ⟨_, op_fdivW, o2_int (op := fun i j => i / j) fun T d e z g => by
      simp only [binO] at g
      split at g
      · split at g
        · cases g; rename_i hc; exact ⟨_, _, rfl, rfl, hc, rfl⟩
        · cases g
      · cases g⟩
  | Mod => exact ⟨_, op_mod, o2_int (op := fun i j => i % j) fun T d e z g => by
      simp only [binO] at g
      split at g
      · split at g
        · cases g; rename_i hc; exact ⟨_, _, rfl, rfl, hc, rfl⟩
        · cases g
      · cases g⟩
  | Pow => exact ⟨_, op_pow, o2_int (op := fun i j => i ^ j.toNat) fun T d e z g => by
      simp only [binO] at g
      split at g
      · split at g
        · cases g; rename_i hc; exact ⟨_, _, rfl, rfl, hc, rfl⟩
        · cases g
      · cases g⟩
  | _ => exact none_ok _ fun _ _ _ => rfl
end
end RR
set_option maxHeartbeats 1000000
/-! R6: comparisons. -/
namespace RR
open PySem PySem.Spec PyProof.Rows L2
theorem Dp.same {K : PySem.W.Frag} {S S' : Hp} (e : Same S S') {v : V} {p : PyData} (h : Dp K S v p) : Dp K S' v p := by
  have key : (∀ v p, Dp K S v p → Dp K S' v p) ∧ ∀ vs ps, DpAll K S vs ps → DpAll K S' vs ps := by
    constructor
    · intro v p h
      exact Dp.rec (motive_1 := fun v p _ => Dp K S' v p) (motive_2 := fun vs ps _ => DpAll K S' vs ps) .non .bl .int .str (fun h _ r => .lst (e.seq h) r) (fun h _ r => .tup (same_sqT e h) r) .nil (fun _ _ h r => .cons h r) h
    · intro v p h
      exact DpAll.rec (motive_1 := fun v p _ => Dp K S' v p) (motive_2 := fun vs ps _ => DpAll K S' vs ps) .non .bl .int .str (fun h _ r => .lst (e.seq h) r) (fun h _ r => .tup (same_sqT e h) r) .nil (fun _ _ h r => .cons h r) h
  exact key.1 v p h
theorem any_toPys (p : PyData) : ∀ es : List D, ((toPys es).any fun z => PyData.eqv z p) = es.any fun e => PyData.eqv (toPy e) p
  | [] => rfl
  | e :: es => by
    show (PyData.eqv (toPy e) p || (toPys es).any fun z => PyData.eqv z p) = _
    rw [any_toPys p es] <;> rfl
theorem room_in {A : Around} {ds : List PyData} {d : PyData} (h : SeqAt.shaped d = true) (hu : A.units + 65 < cLine) : A.units + 1 + min (PyData.depthAll ds) d.depth < cLine := by
  unfold SeqAt.shaped at h
  rw [Bool.and_eq_true] at h
  have := of_decide_eq_true h.2
  omega
section
variable {X : Cx} {A : Nm}
/-! ### ==, != -/
def rEqA (K : PySem.W.Frag) : R2 := fun x y H Q => rEq x y H Q ∨ rEqD K x y H Q
def rNeA (K : PySem.W.Frag) : R2 := fun x y H Q => rNe x y H Q ∨ rNeD K x y H Q
theorem o2_eq : Op2 X A (rEqA X.K) (fun T x y => (v2 T eqO x y).map D.bl) := by
  intro F ρ T H x y d e z Q w hx hy g q
  obtain ⟨b, g1, rfl⟩ := Option.map_eq_some_iff.mp g
  obtain ⟨d', e', ex, ey, g3⟩ := v2_some g1
  have h1 := vw_ok w hx ex
  have h2 := vw_ok w hy ey
  unfold eqO at g3
  split at g3
  · cases g3
    have q0 := q (.bl (eqD d' e')) H .refl w (.bl _)
    rename_i hc
    rcases hc with hc | ⟨c1, c2⟩
    · obtain ⟨k1, k2⟩ := scal_of h1 h2 hc
      refine .inl ⟨k1, ?_⟩
      rw [k2]
      exact q0
    · exact .inr ⟨_, _, dp_of h1 (shp_lay c1), dp_of h2 (shp_lay c2), c1, c2, q0⟩
  · cases g3
theorem o2_ne : Op2 X A (rNeA X.K) (fun T x y => ((v2 T eqO x y).map (!·)).map D.bl) := by
  intro F ρ T H x y d e z Q w hx hy g q
  obtain ⟨b, g1, rfl⟩ := Option.map_eq_some_iff.mp g
  obtain ⟨b, g2, rfl⟩ := Option.map_eq_some_iff.mp g1
  obtain ⟨d', e', ex, ey, g3⟩ := v2_some g2
  have h1 := vw_ok w hx ex
  have h2 := vw_ok w hy ey
  unfold eqO at g3
  split at g3
  · cases g3
    have q0 := q (.bl !(eqD d' e')) H .refl w (.bl _)
    rename_i hc
    rcases hc with hc | ⟨c1, c2⟩
    · obtain ⟨k1, k2⟩ := scal_of h1 h2 hc
      refine .inl ⟨k1, ?_⟩
      rw [k2]
      exact q0
    · exact .inr ⟨_, _, dp_of h1 (shp_lay c1), dp_of h2 (shp_lay c2), c1, c2, q0⟩
  · cases g3
/-! ### order -/
def rLtA : R2 := fun x y H Q => (rI0 fun i j => .bl (decide (i < j))) x y H Q ∨ ∃ i j, x = .str i ∧ y = .str j ∧ Q (.bl (decide (i.cps.toList < j.cps.toList))) H
theorem o2_lt : Op2 X A rLtA (fun _ x y => (ltO x y).map D.bl) := by
  intro F ρ T H x y d e z Q w hx hy g q
  obtain ⟨b, g1, rfl⟩ := Option.map_eq_some_iff.mp g
  unfold ltO at g1
  split at g1
  · cases g1; cases hx; cases hy; exact .inl ⟨_, _, rfl, rfl, q _ _ .refl w (.bl _)⟩
  · cases g1; cases hx; cases hy; exact .inr ⟨_, _, rfl, rfl, q _ _ .refl w (.bl _)⟩
  · cases g1
theorem o2_ord {f : Int → Int → Bool} : Op2 X A (rI0 fun i j => .bl (f i j)) (fun _ x y => (ordO f x y).map D.bl) := by
  intro F ρ T H x y d e z Q w hx hy g q
  obtain ⟨b, g1, rfl⟩ := Option.map_eq_some_iff.mp g
  unfold ordO at g1
  split at g1
  · cases g1; cases hx; cases hy; exact ⟨_, _, rfl, rfl, q _ _ .refl w (.bl _)⟩
  · cases g1
/-! ### in -/
def rIn1 (K : PySem.W.Frag) (f : Bool → Bool) : R2 := fun x y H Q => (∃ (c : Nat) (z : Str), x = .str ⟨#[c]⟩ ∧ y = .str z ∧ Q (.bl (f (decide (c ∈ z.cps.toList)))) H) ∨
  (∃ d ds, Dp K H x d ∧ (Dp K H y (.list ds) ∨ Dp K H y (.tuple ds)) ∧ SeqAt.shaped d = true ∧ SeqAt.shaped (.list ds) = true ∧ Q (.bl (f (ds.any fun z => PyData.eqv z d))) H) ∨
  ∃ a o, y = .ref a ∧ DGet H a x o ∧ Q (.bl (f o.isSome)) H
theorem op_in1 (hu : X.A.units + 65 < cLine) : OpR X (compareOp .In) (rIn1 X.K id) := by
  intro pins s σ H x y v u Q I rx ry h
  rcases h with h | ⟨d, ds, hd, he, sd, se, q⟩ | ⟨a, o, rfl, g, q⟩
  · exact op_in_sign pins s σ H x y v u Q I rx ry h
  · obtain ⟨as, r1⟩ := Dp.reads I d x v hd rx
    rcases he with he | he
    · obtain ⟨bs, r2⟩ := Dp.reads I (.list ds) y u he ry
      exact SeqAt.in_list_reads r2 r1 (SeqAt.canLay_of_shaped se) (SeqAt.canLay_of_shaped sd) (room_in sd hu) ⟨.bl _, H, I, rfl, q⟩
    · obtain ⟨bs, r2⟩ := Dp.reads I (.tuple ds) y u he ry
      exact SeqAt.in_tuple_reads r2 r1 (SeqAt.canLay_of_shaped se) (SeqAt.canLay_of_shaped sd) (room_in sd hu) ⟨.bl _, H, I, rfl, q⟩
  · cases ry
    exact d_in (by omega) I g rx fun s' I' => ⟨.bl _, H, I', rfl, q⟩
theorem op_notIn1 (hu : X.A.units + 65 < cLine) : OpR X (compareOp .NotIn) (rIn1 X.K not) := by
  intro pins s σ H x y v u Q I rx ry h
  rcases h with h | ⟨d, ds, hd, he, sd, se, q⟩ | ⟨a, o, rfl, g, q⟩
  · exact op_notIn_sign pins s σ H x y v u Q I rx ry h
  · obtain ⟨as, r1⟩ := Dp.reads I d x v hd rx
    rcases he with he | he
    · obtain ⟨bs, r2⟩ := Dp.reads I (.list ds) y u he ry
      exact SeqAt.notIn_list_reads r2 r1 (SeqAt.canLay_of_shaped se) (SeqAt.canLay_of_shaped sd) (room_in sd hu) ⟨.bl _, H, I, rfl, q⟩
    · obtain ⟨bs, r2⟩ := Dp.reads I (.tuple ds) y u he ry
      exact SeqAt.notIn_tuple_reads r2 r1 (SeqAt.canLay_of_shaped se) (SeqAt.canLay_of_shaped sd) (room_in sd hu) ⟨.bl _, H, I, rfl, q⟩
  · cases ry
    exact d_notIn (by omega) I g rx fun s' I' => ⟨.bl _, H, I', rfl, q⟩
theorem DDk.any {B : Bas} {ρ : List Addr} {S : Hp} {k : Key} : ∀ {ws : List (Key × V)} {kvs : List (Key × D)}, DDk B ρ S ws kvs → (valV ws k).isSome = kvs.any fun p => decide (p.1 = k)
  | _, _, .nil => rfl
  | _, _, .cons (k := k') h r => by
    have ih := DDk.any (k := k) r
    by_cases e : k' = k
    · rw [List.any_cons, decide_eq_true e, Bool.true_or]
      unfold valV
      rw [List.find?_cons]
      simp [e]
    · rw [List.any_cons, decide_eq_false e, Bool.false_or, ← ih]
      unfold valV
      rw [List.find?_cons]
      simp [e]
theorem key_of {B : Bas} {ρ : List Addr} {S : Hp} {v : V} {d : D} {k : Key} (h : DD B ρ S v d) (e : keyOf d = some k) : v = kV k := by
  cases h <;> cases e <;> rfl
theorem o2_in1 {f : Bool → Bool} : Op2 X A (rIn1 X.K f) (fun T x y => ((v2 T inO x y).map f).map D.bl) := by
  intro F ρ T H x y d e z Q w hx hy g q
  obtain ⟨b, g1, rfl⟩ := Option.map_eq_some_iff.mp g
  obtain ⟨b, g2, rfl⟩ := Option.map_eq_some_iff.mp g1
  obtain ⟨d', e', ex, ey, g3⟩ := v2_some g2
  have h1 := vw_ok w hx ex
  have h2 := vw_ok w hy ey
  have q0 := q (.bl (f b)) H .refl w (.bl _)
  have fin : ∀ es : List D, (if shp d' = true ∧ shp (.lst es) = true then some (es.any fun e => eqD e d') else none) = some b → (Dp X.K H y (.list (toPys es)) ∨ Dp X.K H y (.tuple (toPys es))) → rIn1 X.K f x y H Q := fun es g hd => by
    split at g
    · cases g
      rename_i hc
      refine .inr (.inl ⟨toPy d', toPys es, dp_of h1 (shp_lay hc.1), hd, hc.1, hc.2, ?_⟩)
      rw [any_toPys]
      exact q0
    · cases g
  have sh : ∀ es, shp (.tup es) = shp (.lst es) := fun es => rfl
  unfold inO at g3
  split at g3
  · split at g3
    · rename_i t s
      split at g3
      · cases g3
        rename_i c hc
        cases h1
        cases h2
        obtain ⟨⟨l⟩⟩ := s
        simp only at hc
        subst hc
        exact .inl ⟨c, _, rfl, rfl, q0⟩
      · cases g3
    · cases g3
  · rename_i es
    rw [sh] at g3
    refine fin es g3 (.inr ?_)
    split at g3
    · rename_i hc
      exact dp_of h2 (shp_lay hc.2)
    · cases g3
  · rename_i es
    refine fin es g3 (.inl ?_)
    split at g3
    · rename_i hc
      exact dp_of h2 (shp_lay hc.2)
    · cases g3
  · rename_i kvs
    obtain ⟨k, hk, rfl⟩ := Option.map_eq_some_iff.mp g3
    obtain ⟨a, ws, rfl, hr, hd⟩ := vw_dct w hy ey
    have ek := key_of h1 hk
    subst ek
    refine .inr (.inr ⟨a, _, rfl, .inl ⟨ws, k, hr, rfl, rfl⟩, ?_⟩)
    rw [hd.any]
    exact q0
  · cases g3
end
end RR
set_option maxHeartbeats 1000000
/-! R7: what is known where code runs; names, constants, operators, tests, displays, subscripts. -/
namespace RR
open PySem PySem.Spec PyProof.Rows L2

/-! ### is, and all comparisons -/
section
variable {X : Cx} {A : Nm}
theorem isN_of {B : Bas} {ρ : List Addr} {S : Hp} {x : V} {d : D} (h : DD B ρ S x d) : decide (x = .non) = isN d := by
  cases h <;> first | rfl | exact decide_eq_false (fun e => by cases e)
theorem cmp_ok (hu : X.A.units + 65 < cLine) (op : CmpOp) : ∃ r0, OpR X (compareOp op) r0 ∧ Op2 X A r0 (fun T x y => (cmpO op T x y).map D.bl) := by
  cases op with
  | Eq => exact ⟨_, op_eq.or (op_eqD (by omega)), o2_eq⟩
  | NotEq => exact ⟨_, op_ne.or (op_neD (by omega)), o2_ne⟩
  | Lt => exact ⟨_, op_lt.or op_lt_str, o2_lt⟩
  | LtE => exact ⟨_, op_le, o2_ord⟩
  | Gt => exact ⟨_, op_gt, o2_ord⟩
  | GtE => exact ⟨_, op_ge, o2_ord⟩
  | In => exact ⟨_, op_in1 hu, by
      have h := o2_in1 (X := X) (A := A) (f := id)
      have e : (fun (T : List Ob) (x y : D) => ((v2 T inO x y).map id).map D.bl) = fun T x y => (cmpO .In T x y).map D.bl := by
        funext T x y
        rw [Option.map_id] <;> rfl
      rw [e] at h
      exact h⟩
  | NotIn => exact ⟨_, op_notIn1 hu, o2_in1 (f := not)⟩
  | Is => exact ⟨_, op_isN, fun F ρ T H x y d e z Q w hx hy g q => by
      obtain ⟨b, g1, rfl⟩ := Option.map_eq_some_iff.mp g
      simp only [cmpO] at g1
      split at g1
      · cases g1
        cases hy
        refine ⟨rfl, ?_⟩
        rw [isN_of hx]
        exact q _ _ .refl w (.bl _)
      · cases g1⟩
  | IsNot => exact ⟨_, op_notN, fun F ρ T H x y d e z Q w hx hy g q => by
      obtain ⟨b, g1, rfl⟩ := Option.map_eq_some_iff.mp g
      simp only [cmpO] at g1
      split at g1
      · cases g1
        cases hy
        refine ⟨rfl, ?_⟩
        rw [isN_of hx]
        exact q _ _ .refl w (.bl _)
      · cases g1⟩
end

/-! ### what is known of the program -/
/-- what a run gives, wanted -/
def Give (B : Bas) (ca : Nat → Addr) (F ρ : List Addr) (H : Hp) (r : Rs D) (Q : VK) (E : XK) : Prop := match r with
  | .ok d T' => ∀ v ρ' H', Stp F ρ H ρ' H' → Wd B F ρ' T' H' → DD B ρ' (cutR F ρ' H') v d → Q v H'
  | .ex C fs T' => ∀ ρ' H' dx, Stp F ρ H ρ' H' → Wd B F ρ' T' H' → XRel B ρ' (cutR F ρ' H') fs dx → E (.ref (ca C)) dx H'
/-- the promise of a def that does as sem says -/
def spF (B : Bas) (ca : Nat → Addr) (sem : List D → Mo D) : Sp := fun vs H Q E => ∃ F ρ T ds r, Wd B F ρ T H ∧ DDs B ρ (cutR F ρ H) vs ds ∧ sem ds T = some r ∧ Give B ca F ρ H r Q E
/-- a def that stands as f: by n places and the keywords ks, its parameters g -/
structure Cal (P : Program) (w : World) (K : PySem.W.Frag) (mg : Str → Option Value) (base : Heap) (A : Nm) (lv : Nat) (sem : List D → Mo D) (f : Addr) (n : Nat) (ks : List Str) (g : List D → List D → List D) : Prop where
  ex : ∃ (fd : FuncData) (ps : List Str) (gU : List Value → List Value → List Value) (gV : List V → List V → List V),
    (∀ (Ar : Around) (outer : List Env) (s : Shared) (H : Hp) (args : Args) (us : List Value) (vs : List V) (Q : VK) (E : XK), Ar.guards = some [] → Room lv Ar → Env0 P w K mg base Ar outer s H →
      BindsTo s fd args (ps.zip us) → Vals vs us → spF ⟨K, A.ca, A.fa⟩ A.ca sem vs H Q E → codeAny (model P w) Ar (.call (.ref f) args) (CR (L2.CX P w) outer P w H s Q E) s) ∧
    KBn K fd ps n ks gU gV ∧ PySem.W.keepIn K (.ref f) = true ∧
    ∀ (ρ : List Addr) (S : Hp) (vs ws : List V) (ds es : List D), DDs ⟨K, A.ca, A.fa⟩ ρ S vs ds → DDs ⟨K, A.ca, A.fa⟩ ρ S ws es → ds.length = n → es.length = ks.length → DDs ⟨K, A.ca, A.fa⟩ ρ S (gV vs ws) (g ds es)
/-- an own class's objects, for isinstance -/
structure OwnT (K : PySem.W.Frag) (C : Addr) : Prop where
  cls : Cls K C
  ha : PySem.W.findIn K (.ref C) "__class__" = some (some (.builtin "object.__class__"))
  hn : PySem.W.specialIn K (.builtin "object.__class__") "__get__" = some (some (.builtin "getset_descriptor.__get__"))
  tk : PySem.W.takesIn K (.builtin "object.__class__") = some true
  mro : PySem.W.mroIn K C (.type "object") = some true
def tyList : List String := ["NoneType", "bool", "int", "str", "list", "tuple", "dict"]
structure Kn (P : Program) (w : World) (K : PySem.W.Frag) (mg : Str → Option Value) (base : Heap) (A : Nm) (Pg : Prg) (Φ : Str → List D → Mo D) (lv : Nat) : Prop where
  glob : ∀ x d, Pg.glob x = some d → ∃ v u, mg x = some u ∧ RelV v u ∧ ∀ ρ S, DD ⟨K, A.ca, A.fa⟩ ρ S v d
  free : ∀ x, Pg.free x = true → mg x = none
  call : ∀ f n ks g, Pg.bnd f n ks = some g → Cal P w K mg base A lv (Φ f) (A.fa f) n ks g
  meth : ∀ C m f, Pg.meth C m = some f → Cls K (A.ca C) ∧ Meth K (A.ca C) m (A.fa f)
  prop : ∀ C m f, Pg.prop C m = some f → Cls K (A.ca C) ∧ ∃ p, PropOf K (A.ca C) m p (A.fa f)
  noat : ∀ C m, Pg.noat C m = true → Cls K (A.ca C) ∧ NoAttr K (A.ca C) m
  init : ∀ C f, Pg.init C = some f → Mk K (A.ca C) (A.fa f)
  sub : ∀ C C' b, Pg.sub C C' = some b → OwnT K (A.ca C) ∧ PySem.W.kitOne K (.ref (A.ca C)) (.ref (A.ca C')) = some b
  isw : ∀ C, Pg.isw C = true → ∀ t ∈ tyList, PySem.W.kitOne K (.type t) (.ref (A.ca C)) = some false
  eqw : ∀ C, Pg.eqw C = true → ∀ t ∈ tyList, PySem.W.subIn K (.ref (A.ca C)) (.type t) = some false
structure XOk (X : Cx) (A : Nm) (Pg : Prg) (Φ : Str → List D → Mo D) (lv : Nat) (c : Cn) : Prop where
  kn : Kn X.prog X.w X.K X.mg X.base A Pg Φ lv
  N : X.N = c.N
  nd : c.N.Nodup
  sc : X.env.scope = c.sc
  gd : X.A.guards = some []
  rm : Room (lv + 3) X.A
  calm : X.calm = true
  st : ∀ x, locB c.raw x = true → Loc X.env.scope x ∧ (X.fn x = true ∨ X.env.scope.names.lookup x = some .local)
theorem XOk.u65 {X : Cx} {A : Nm} {Pg : Prg} {Φ : Str → List D → Mo D} {lv : Nat} {c : Cn} (k : XOk X A Pg Φ lv c) : X.A.units + 65 < cLine := by have := k.rm.un; omega

theorem idx_get {N : List Str} {x : Str} {i : Nat} (h : idx N x = some i) : N[i]? = some x := by
  unfold idx at h
  have := List.findIdx?_eq_some_iff_getElem.mp h
  obtain ⟨hl, he, _⟩ := this
  rw [List.getElem?_eq_getElem hl]
  exact congrArg some (eq_of_beq he)
theorem vis_of {sc : Scope} {x : Str} (h : visB sc x = true) : Vis sc x := by
  unfold visB at h
  unfold Vis
  split at h
  · rename_i e; exact .inl e
  · rename_i e; exact .inr (.inl e)
  · rename_i e; exact .inr (.inr e)
  · cases h
theorem gl_of {X : Cx} {x : Str} (h : glB X.env.scope x = true) : Gl X x := by
  unfold glB at h
  show X.env.scope.names.lookup x = _
  split at h
  · rename_i e; exact e
  · cases h
section
variable {X : Cx} {A : Nm} {Pg : Prg} {Φ : Str → List D → Mo D} {lv : Nat} {c : Cn} {Γ : En}
theorem okName_dec {x : Str} (h : okName x = true) : (x == ("__debug__" : Str)) = false ∧ (x == ("__classdict__" : Str)) = false ∧ x ≠ "__name__" := by
  unfold okName at h
  simp only [Bool.and_eq_true, Bool.not_eq_true'] at h
  exact ⟨h.1.1, h.1.2, fun e => by rw [e] at h; simp at h⟩
theorem ty_boot : ∀ {x : Str} {t : String}, tyNames.lookup x = some t → bootBuiltins x = some (.type t) := by
  intro x t h
  unfold tyNames at h
  simp only [List.lookup_cons, List.lookup_nil] at h
  repeat' split at h
  all_goals first | (rename_i e; cases h; rw [eq_of_beq e]; decide +kernel) | (cases h)
theorem se_name (k : XOk X A Pg Φ lv c) {x : Str} {pos : Pos} : SE X A Γ (.Name x pos) (evName Pg c Γ x) := by
  intro F ρ T σ H r Q g e p
  unfold evName at e
  by_cases ho : okName x = true
  · rw [if_pos ho] at e
    obtain ⟨d1, d2, d3⟩ := okName_dec ho
    by_cases hv : visB c.sc x = true
    · rw [if_pos hv] at e
      obtain ⟨d, e1, rfl⟩ := Mo.of_some e
      split at e1
      · rename_i i hi
        split at e1
        · rename_i d' hd
          cases e1
          obtain ⟨v, h1, h2⟩ := g.bnd i d hd
          exact we_of (pe_var (by rw [k.N]; exact idx_get hi) (by rw [k.sc]; exact vis_of hv) d1 d2) ⟨v, h1, p v ρ H .refl g.wd h2⟩
        · cases e1
      · cases e1
    · rw [if_neg hv] at e
      by_cases hg : glB c.sc x = true
      · rw [if_pos hg] at e
        obtain ⟨d, e1, rfl⟩ := Mo.of_some e
        have hG : Gl X x := gl_of (by rw [k.sc]; exact hg)
        split at e1
        · rename_i d' hd
          cases e1
          obtain ⟨v, u, h1, h2, h3⟩ := k.kn.glob x d hd
          exact we_of (pe_glob hG h1 h2 d1) (p v ρ H .refl g.wd (h3 _ _))
        · split at e1
          · rename_i hf
            obtain ⟨t, h1, rfl⟩ := Option.map_eq_some_iff.mp e1
            exact we_of (pe_bltn (v := .ty t) hG (k.kn.free x hf) (ty_boot h1) rfl d3 d1) (p _ ρ H .refl g.wd (.ty t))
          · cases e1
      · rw [if_neg hg] at e
        cases e
  · rw [if_neg ho] at e
    cases e
theorem se_const {v : Const} {j : Nat} {pos : Pos} : SE X A Γ (.Constant v j pos) (Mo.of (constO v)) := by
  intro F ρ T σ H r Q g e p
  obtain ⟨d, e1, rfl⟩ := Mo.of_some e
  cases v with
  | none => cases e1; exact we_of pe_non (p _ ρ H .refl g.wd .non)
  | bool b => cases e1; exact we_of pe_bl (p _ ρ H .refl g.wd (.bl b))
  | int i => cases e1; exact we_of pe_int (p _ ρ H .refl g.wd (.int i))
  | str x => cases e1; exact we_of pe_str (p _ ρ H .refl g.wd (.str x))
  | _ => cases e1
theorem se_bin {a b : Expr} {op : Operator} {pos : Pos} {ma mb : Mo D} (ha : SE X A Γ a ma) (hb : SE X A Γ b mb) : SE X A Γ (.BinOp a op b pos) (ma.bind fun x => mb.bind fun y => Mo.rd fun T => binO op T x y) := by
  intro F ρ T σ H r Q g e p
  obtain ⟨r0, h1, h2⟩ := bin_ok (X := X) (A := A) op
  refine we_of (pe_op h1 pe_we pe_we) (ha.bind g e p fun x T1 v ρ1 H1 s1 g1 r1 e1 p1 => hb.bind g1 e1 p1 fun y T2 u ρ2 H2 s2 g2 r2 e2 p2 => ?_)
  obtain ⟨z, e3, rfl⟩ := Mo.rd_some e2
  exact h2 F ρ2 T2 H2 v u x y z Q g2.wd (r1.stp s2) r2 e3 fun v' H' s' w' d' => p2 v' ρ2 H' s' w' d'
theorem se_neg {a : Expr} {pos : Pos} {ma : Mo D} (ha : SE X A Γ a ma) : SE X A Γ (.UnaryOp .USub a pos) (ma.bind fun x => Mo.of (negO x)) := by
  intro F ρ T σ H r Q g e p
  refine we_of (pe_un un_neg pe_we) (ha.bind g e p fun x T1 v ρ1 H1 s1 g1 r1 e1 p1 => ?_)
  obtain ⟨z, e3, rfl⟩ := Mo.of_some e1
  unfold negO at e3
  split at e3
  · cases e3
    cases r1
    exact ⟨_, rfl, p1 _ ρ1 H1 .refl g1.wd (.int _)⟩
  · cases e3
theorem se_not {a : Expr} {pos : Pos} {ma : Mo D} (ha : SE X A Γ a ma) : SE X A Γ (.UnaryOp .Not a pos) (ma.bind fun x => match x with | .bl b => Mo.ret (.bl !b) | _ => Mo.no) := by
  intro F ρ T σ H r Q g e p
  refine we_of (pe_not pe_we) (ha.bind g e p fun x T1 v ρ1 H1 s1 g1 r1 e1 p1 => ?_)
  split at e1
  · have := Mo.ret_some e1
    subst this
    cases r1
    exact ⟨_, rfl, p1 _ ρ1 H1 .refl g1.wd (.bl _)⟩
  · cases e1
theorem se_bool {isAnd : Bool} {f : Expr → Mo D} {pos : Pos} (hf : ∀ a, SE X A Γ a (f a)) : ∀ es : List Expr, SE X A Γ (.BoolOp (if isAnd = true then .And else .Or) es pos) (boolE isAnd f es)
  | [] => .no
  | [a] => fun F ρ T σ H r Q g e p => we_of (pe_one pe_we) (hf a F ρ T σ H r Q g e p)
  | a :: b :: es => by
    intro F ρ T σ H r Q g e p
    have ih := se_bool (isAnd := isAnd) (pos := pos) hf (b :: es)
    cases isAnd with
    | true =>
      refine we_of (pe_and pe_we pe_we) ((hf a).bind g e p fun x T1 v ρ1 H1 s1 g1 r1 e1 p1 => ?_)
      split at e1
      · cases r1
        rename_i k
        refine ⟨k, rfl, ?_⟩
        cases k with
        | true => exact ih F ρ1 T1 σ H1 r Q g1 e1 p1
        | false =>
          have := Mo.ret_some e1
          subst this
          exact p1 _ ρ1 H1 .refl g1.wd (.bl _)
      · cases e1
    | false =>
      refine we_of (pe_or pe_we pe_we) ((hf a).bind g e p fun x T1 v ρ1 H1 s1 g1 r1 e1 p1 => ?_)
      split at e1
      · cases r1
        rename_i k
        refine ⟨k, rfl, ?_⟩
        cases k with
        | false => exact ih F ρ1 T1 σ H1 r Q g1 e1 p1
        | true =>
          have := Mo.ret_some e1
          subst this
          exact p1 _ ρ1 H1 .refl g1.wd (.bl _)
      · cases e1
theorem se_if {t a b : Expr} {pos : Pos} {mt : Mo Bool} {ma mb : Mo D} (ht : ST X A Γ t mt) (ha : SE X A Γ a ma) (hb : SE X A Γ b mb) : SE X A Γ (.IfExp t a b pos) (mt.bind fun k => if k = true then ma else mb) := by
  intro F ρ T σ H r Q g e p
  refine we_of (pe_ifExp pt_wt pe_we pe_we) (ht.bind g e p fun x T1 ρ1 H1 s1 g1 e1 p1 => ?_)
  cases x with
  | true => exact ha F ρ1 T1 σ H1 r Q g1 e1 p1
  | false => exact hb F ρ1 T1 σ H1 r Q g1 e1 p1
/-- an operation that only reads -/
theorem op2_run {r0 : R2} {f : List Ob → D → D → Option D} (h : Op2 X A r0 f) {F ρ : List Addr} {T : List Ob} {σ : L2.St} {H : Hp} {x y : V} {d e z : D} {Q : VK} (g : Gd (Bx X A) F ρ T σ H Γ) (hx : DD (Bx X A) ρ (cutR F ρ H) x d) (hy : DD (Bx X A) ρ (cutR F ρ H) y e) (hf : f T d e = some z)
    (p : Post X A F ρ H σ (rD X A) (.ok z T) Q) : r0 x y H Q := h F ρ T H x y d e z Q g.wd hx hy hf fun v H' s w q => p v ρ H' s w q
/-! ### arguments, displays -/
theorem star_cons {e : Expr} {es : List Expr} {env : Env} (h : starred e = false) : starEach (e :: es) env = (false, eval e env) :: starEach es env := by
  cases e <;> first | rfl | (cases h)
theorem sa_list {f : Expr → Mo D} (hf : ∀ a, SE X A Γ a (f a)) : ∀ es : List Expr, SA X A Γ es (evL f es)
  | [] => fun F ρ T σ H r Q g e p => by
    have := Mo.ret_some e
    subst this
    exact wa_of pa_nil (p _ ρ H .refl g.wd .nil)
  | a :: es => by
    intro F ρ T σ H r Q g e p
    unfold evL at e
    cases hs : starred a with
    | true => rw [hs] at e; cases e
    | false =>
      rw [hs] at e
      refine wa_of (pa_cons pe_we pa_wa (star_cons hs)) ((hf a).bind g e p fun x T1 v ρ1 H1 s1 g1 r1 e1 p1 => (sa_list hf es).bind g1 e1 p1 fun ds T2 vs ρ2 H2 s2 g2 r2 e2 p2 => ?_)
      have := Mo.ret_some e2
      subst this
      exact p2 _ ρ2 H2 .refl g2.wd (.cons (r1.stp s2) r2)
theorem se_tup {es : List Expr} {j : Nat} {pos : Pos} {m : Mo (List D)} (h : SA X A Γ es m) : SE X A Γ (.Tuple es j pos) (m.bind fun ds => if ds.length ≤ sizeLine then Mo.ret (.tup ds) else Mo.no) := by
  intro F ρ T σ H r Q g e p
  refine we_of (pe_tup pa_wa) (h.bind g e p fun ds T1 vs ρ1 H1 s1 g1 r1 e1 p1 => ?_)
  split at e1
  · rename_i hl
    have := Mo.ret_some e1
    subst this
    exact ⟨by rw [r1.len]; exact hl, fun a ha => p1 _ ρ1 _ (g1.wd.new ha).2.1 (g1.wd.new ha).1 (dd_new g1.wd ha r1).1⟩
  · cases e1
theorem se_lst {es : List Expr} {pos : Pos} {m : Mo (List D)} (h : SA X A Γ es m) : SE X A Γ (.List es pos) (m.bind fun ds => if ds.length ≤ sizeLine then Mo.ret (.lst ds) else Mo.no) := by
  intro F ρ T σ H r Q g e p
  refine we_of (pe_lst pa_wa) (h.bind g e p fun ds T1 vs ρ1 H1 s1 g1 r1 e1 p1 => ?_)
  split at e1
  · rename_i hl
    have := Mo.ret_some e1
    subst this
    exact ⟨by rw [r1.len]; exact hl, fun a ha => p1 _ ρ1 _ (g1.wd.new ha).2.1 (g1.wd.new ha).1 (dd_new g1.wd ha r1).2⟩
  · cases e1
end
end RR
set_option maxHeartbeats 1000000
/-! R8: comparisons as values and tests, tests, subscripts. -/
namespace RR
open PySem PySem.Spec PyProof.Rows L2
section
variable {X : Cx} {A : Nm} {Pg : Prg} {Φ : Str → List D → Mo D} {lv : Nat} {c : Cn} {Γ : En}

/-! ### subscripts -/
theorem DDs.at {B : Bas} {ρ : List Addr} {S : Hp} {vs : List V} {ds : List D} (r : DDs B ρ S vs ds) {i : Int} {d : D} (h : atI ds i = some d) : ∃ v, atI vs i = some v ∧ DD B ρ S v d := by
  unfold atI at h ⊢
  rw [r.len]
  cases e : ixN ds.length i with
  | none => rw [e] at h; cases h
  | some j =>
    rw [e] at h
    obtain ⟨v, h1, h2⟩ := r.get (i := j) h
    exact ⟨v, h1, h2⟩
theorem DDk.val {B : Bas} {ρ : List Addr} {S : Hp} {k : Key} {d : D} : ∀ {ws : List (Key × V)} {kvs : List (Key × D)}, DDk B ρ S ws kvs → valD kvs k = some d → ∃ v, valV ws k = some v ∧ DD B ρ S v d
  | _, _, .nil, e => by simp [valD] at e
  | _, _, .cons (k := k') (v := v) (d := d') h r, e => by
    unfold valD at e
    unfold valV
    rw [List.find?_cons] at e ⊢
    by_cases z : k' = k
    · simp only [z, decide_true, Option.map_some] at e ⊢
      cases e
      exact ⟨v, rfl, h⟩
    · simp only [z, decide_false] at e ⊢
      exact DDk.val r e
def rIxD : R2 := fun x y H Q => ∃ a v, x = .ref a ∧ DGet H a y (some v) ∧ Q v H
theorem ix_dict (hu : X.A.units + 1 < cLine) : IxR X rIxD := by
  intro value slice pins s σ H x y v u Q I rx ry ⟨a, z, ex, g, q⟩ hs
  subst ex
  cases rx
  have isD := dict_typeIs I g
  have got : wpAny (model X.prog X.w) X.A (getItem (.ref a) u) (EP X pins σ Q) X.xe s := d_getItem hu I g ry fun w' s' I' r' => ⟨z, H, I', r', q⟩
  have fin : wpAny (model X.prog X.w) X.A (subscripted slice false (.ref a) u) (fun r s3 => wpAny (model X.prog X.w) X.A (letTemporaryGo value (.ref a) r >>= fun _ => pure r) (EP X pins σ Q) X.xe s3) X.xe s := by
    rw [hs]
    refine wpAny_operating (thn got fun r s3 h3 => ?_)
    exact wpAny_bind (wpAny_letTemporaryGo (wpAny_pure h3))
  unfold subscriptTail
  refine wpAny_bind ?_
  rw [getitemInPython_of_ne isD.not_modules]
  refine wpAny_bind (wpAny_specialOf isD PySem.F.slot_dict_getitem.lookup ?_)
  first
    | exact wpAny_pure (wpAny_bind fin)
    | exact wpAny_bind (wpAny_pure (wpAny_bind fin))
    | exact wpAny_bind fin
def rIxA (K : PySem.W.Frag) : R2 := fun x y H Q => rIx K x y H Q ∨ rIxD x y H Q
theorem o2_ix : Op2 X A (rIxA X.K) (fun T x y => (vw T x).bind fun x => ixO x y) := by
  intro F ρ T H x y d e z Q w hx hy g q
  obtain ⟨d', ex, g⟩ := Option.bind_eq_some_iff.mp g
  unfold ixO at g
  split at g
  · obtain ⟨a, xs, rfl, h1, r1⟩ := vw_lst w hx ex
    cases hy
    obtain ⟨v, h2, h3⟩ := r1.at g
    exact .inl (.inl ⟨a, xs, _, v, rfl, rfl, sql_of h1, h2, q _ _ .refl w h3⟩)
  · obtain ⟨a, xs, rfl, h1, r1⟩ := vw_tup hx ex
    cases hy
    obtain ⟨v, h2, h3⟩ := r1.at g
    exact .inl (.inr (.inl ⟨a, xs, _, v, rfl, rfl, h1, h2, q _ _ .refl w h3⟩))
  · split at g
    · rename_i hz
      obtain ⟨k, hk, rfl⟩ := Option.map_eq_some_iff.mp g
      have h1 := vw_ok w hx ex
      cases h1
      cases hy
      exact .inl (.inr (.inr ⟨_, _, k, rfl, rfl, hz, hk, q _ _ .refl w (.str _)⟩))
    · cases g
  · split at g
    · rename_i k hk
      obtain ⟨a, ws, rfl, hr, hd⟩ := vw_dct w hx ex
      have ek := key_of hy hk
      subst ek
      obtain ⟨v, h2, h3⟩ := hd.val g
      exact .inr ⟨a, v, rfl, .inl ⟨ws, k, hr, rfl, h2.symm⟩, q _ _ .refl w h3⟩
    · cases g
  · cases g
/-- an index that is no slice -/
def noSlice : Expr → Bool
  | .Slice _ _ _ _ => false
  | _ => true
theorem plain_ix {i : Expr} (h : noSlice i = true) : PlainIx i := by
  cases i <;> first | (exact fun _ _ => rfl) | (cases h)
theorem se_ix (k : XOk X A Pg Φ lv c) {a b : Expr} {pos : Pos} {ma mb : Mo D} (ha : SE X A Γ a ma) (hb : SE X A Γ b mb) (hs : noSlice b = true) :
    SE X A Γ (.Subscript a b pos) (ma.bind fun x => mb.bind fun y => Mo.rd fun T => (vw T x).bind fun x => ixO x y) := by
  intro F ρ T σ H r Q g e p
  have hu := k.u65
  refine we_of (pe_ix (ix_seq.or (ix_dict (by omega))) pe_we pe_we (plain_ix hs)) (ha.bind g e p fun x T1 v ρ1 H1 s1 g1 r1 e1 p1 => hb.bind g1 e1 p1 fun y T2 u ρ2 H2 s2 g2 r2 e2 p2 => ?_)
  obtain ⟨z, e3, rfl⟩ := Mo.rd_some e2
  exact op2_run o2_ix g2 (r1.stp s2) r2 e3 p2
/-! ### slices -/
def WO (X : Cx) (e : Option Expr) : TO := fun σ H Q => match e with
  | none => Q none H
  | some e => WE X e σ H fun x H1 => ∃ i, x = .int i ∧ Q (some i) H1
theorem po_wo : ∀ {e : Option Expr}, PO X e (WO X e)
  | none => po_none
  | some e => po_some pe_we
theorem cutV_dds {B : Bas} {ρ : List Addr} {S : Hp} {vs : List V} {ds : List D} (r : DDs B ρ S vs ds) (lo hi : Option Int) : DDs B ρ S (cutV vs lo hi) (cutD ds lo hi) := by
  unfold cutV cutD
  rw [r.len]
  exact (r.drop _).take _
theorem cutD_all {ds : List D} {lo hi : Option Int} (h : HT.sIx ds.length 0 lo = 0 ∧ HT.sIx ds.length ds.length hi = ds.length) : cutD ds lo hi = ds := by
  unfold cutD
  rw [h.1, h.2, List.drop_zero, Nat.sub_zero, List.take_length]
theorem part_run {R : Evs} {e : Option Expr} (he : ∀ a, SE X A Γ a (R.e c Γ a)) {α β : Type} {Rl : List Addr → Hp → β → α → Prop} {Q : β → Hp → Prop} {k : Option Int → Mo α} {F ρ : List Addr} {T : List Ob} {σ : L2.St} {H : Hp} {r : Rs α} {Qm : Option Int → Hp → Prop}
    (g : Gd (Bx X A) F ρ T σ H Γ) (e0 : ((partM R c Γ e).bind k) T = some r) (p : Post X A F ρ H σ Rl r Q)
    (q : ∀ o T1 ρ1 H1, Stp F ρ H ρ1 H1 → Gd (Bx X A) F ρ1 T1 σ H1 Γ → k o T1 = some r → Post X A F ρ1 H1 σ Rl r Q → Qm o H1) : WO X e σ H Qm := by
  cases e with
  | none => exact q none T ρ H .refl g e0 p
  | some e =>
    have e1 : ((R.e c Γ e).bind fun d => (match d with | .int i => Mo.ret (some i) | _ => Mo.no : Mo (Option Int)).bind k) T = some r := by
      rw [← e0]
      show _ = (((R.e c Γ e).bind _).bind k) T
      unfold Mo.bind
      cases (R.e c Γ e) T with
      | none => rfl
      | some z => cases z <;> rfl
    refine (he e).bind g e1 p fun x T1 v ρ1 H1 s1 g1 r1 e2 p1 => ?_
    split at e2
    · cases r1
      exact ⟨_, rfl, q _ T1 ρ1 H1 s1 g1 e2 p1⟩
    · cases e2
theorem se_slice {R : Evs} {a : Expr} {lo hi : Option Expr} {p2 pos : Pos} {ma : Mo D} (ha : SE X A Γ a ma) (he : ∀ a, SE X A Γ a (R.e c Γ a)) :
    SE X A Γ (.Subscript a (.Slice lo hi none p2) pos) (ma.bind fun x => (partM R c Γ lo).bind fun l => (partM R c Γ hi).bind fun h => Mo.rd fun T => (vw T x).bind fun x => slO x l h) := by
  intro F ρ T σ H r Q g e p
  refine we_of (pe_slice (sl_list.or sl_tupA) pe_we po_wo po_wo) (ha.bind g e p fun x T1 v ρ1 H1 s1 g1 r1 e1 p1 => ?_)
  refine part_run he g1 e1 p1 fun l T2 ρ2 H2 s2 g2 e2 p2 => part_run he g2 e2 p2 fun u T3 ρ3 H3 s3 g3 e3 p3 => ?_
  obtain ⟨z, e4, rfl⟩ := Mo.rd_some e3
  obtain ⟨d', ex, e5⟩ := Option.bind_eq_some_iff.mp e4
  have r3 := r1.stp (s2.trans s3)
  unfold slO at e5
  split at e5
  · cases e5
    obtain ⟨b, xs, rfl, h1, rr⟩ := vw_lst g3.wd r3 ex
    exact .inl ⟨b, xs, rfl, sql_of h1, fun q hq => p3 _ ρ3 _ (g3.wd.new hq).2.1 (g3.wd.new hq).1 (dd_new g3.wd hq (cutV_dds rr l u)).2⟩
  · cases e5
    have ed := vw_same r3 ex
    subst ed
    obtain ⟨b, xs, rfl, h1, rr⟩ := vw_tup r3 ex
    refine .inr ⟨b, xs, rfl, h1, fun hw => ?_, fun _ q hq => p3 _ ρ3 _ (g3.wd.new hq).2.1 (g3.wd.new hq).1 (dd_new g3.wd hq (cutV_dds rr l u)).1⟩
    rw [rr.len] at hw
    refine p3 _ ρ3 H3 .refl g3.wd ?_
    rw [cutD_all hw]
    exact r3
  · cases e5

/-! ### tests -/
theorem st_not {a : Expr} {pos : Pos} {m : Mo Bool} (h : ST X A Γ a m) : ST X A Γ (.UnaryOp .Not a pos) (m.bind fun b => Mo.ret !b) := by
  intro F ρ T σ H r Q g e p
  refine wt_of (pt_not pt_wt) (h.bind g e p fun x T1 ρ1 H1 s1 g1 e1 p1 => ?_)
  have := Mo.ret_some e1
  subst this
  exact p1 _ ρ1 H1 .refl g1.wd rfl
theorem sw_bool {isAnd : Bool} {f : Expr → Mo Bool} {pos : Pos} (hf : ∀ a, ST X A Γ a (f a)) : ∀ es : List Expr, SW X A Γ (.BoolOp (if isAnd = true then .And else .Or) es pos) (boolT isAnd f es)
  | [] => fun F ρ T σ H r Q g e p => by cases e
  | [a] => fun F ρ T σ H r Q g e p => by
    cases isAnd with
    | true => exact fun wh pins s I => (pw_and1 pt_wt).run wh pins s σ H Q I (hf a F ρ T σ H r Q g e p)
    | false => exact fun wh pins s I => (pw_or1 pt_wt).run wh pins s σ H Q I (hf a F ρ T σ H r Q g e p)
  | a :: b :: es => by
    intro F ρ T σ H r Q g e p
    have ih := sw_bool (isAnd := isAnd) (pos := pos) hf (b :: es)
    cases isAnd with
    | true =>
      refine fun wh pins s I => (pw_and pt_wt pw_ww).run wh pins s σ H Q I ((hf a).bind g e p fun x T1 ρ1 H1 s1 g1 e1 p1 => ?_)
      cases x with
      | true => exact ih F ρ1 T1 σ H1 r Q g1 e1 p1
      | false =>
        have := Mo.ret_some e1
        subst this
        exact p1 _ ρ1 H1 .refl g1.wd rfl
    | false =>
      refine fun wh pins s I => (pw_or pt_wt pw_ww).run wh pins s σ H Q I ((hf a).bind g e p fun x T1 ρ1 H1 s1 g1 e1 p1 => ?_)
      cases x with
      | false => exact ih F ρ1 T1 σ H1 r Q g1 e1 p1
      | true =>
        have := Mo.ret_some e1
        subst this
        exact p1 _ ρ1 H1 .refl g1.wd rfl
theorem st_of_sw {e : Expr} {m : Mo Bool} (h : SW X A Γ e m) : ST X A Γ e m := fun F ρ T σ H r Q g e p pins s I => h F ρ T σ H r Q g e p _ pins s I
theorem plainT_ok {e : Expr} (h : plainT e = true) : ∀ whole, isTrue e X.env whole = (do let v ← whole; standAt e.pos; holding [v] (truthy v)) := by
  intro whole
  cases e <;> first | rfl | (cases h; done) | skip
  rename_i op a pos
  cases op <;> first | rfl | cases h
theorem tru_of {B : Bas} {F ρ : List Addr} {T : List Ob} {H : Hp} (w : Wd B F ρ T H) {v : V} {d : D} {b : Bool} (h : DD B ρ (cutR F ρ H) v d) (e : truO T d = some b) : TruV B.K v H b := by
  unfold truO at e
  split at e
  · cases e
    have h1 := vw_ok w h (by assumption)
    cases h1
    rfl
  · cases e
    have h1 := vw_ok w h (by assumption)
    cases h1
    rfl
  · cases e
    have h1 := vw_ok w h (by assumption)
    cases h1
    rfl
  · split at e
    · cases e
      have h1 := vw_ok w h (by assumption)
      cases h1
      rename_i hl
      exact ⟨hl, rfl⟩
    · cases e
  · cases e
    rename_i ex
    obtain ⟨a, xs, rfl, h1, r1⟩ := vw_lst w h ex
    refine .inl ⟨xs, sql_of h1, ?_⟩
    cases r1 <;> rfl
  · cases e
    rename_i ex
    obtain ⟨a, xs, rfl, h1, r1⟩ := vw_tup h ex
    refine .inr (.inl ⟨xs, h1, ?_⟩)
    cases r1 <;> rfl
  · cases e
theorem st_plain {e : Expr} {m : Mo D} (h : SE X A Γ e m) (hp : plainT e = true) : ST X A Γ e (m.bind fun d => Mo.rd fun T => truO T d) := by
  intro F ρ T σ H r Q g e0 p
  refine wt_of (pt_truth pe_we (plainT_ok hp)) (h.bind g e0 p fun x T1 v ρ1 H1 s1 g1 r1 e1 p1 => ?_)
  obtain ⟨b, e2, rfl⟩ := Mo.rd_some e1
  exact ⟨b, tru_of g1.wd r1 e2, p1 _ ρ1 H1 .refl g1.wd rfl⟩
end
end RR
set_option maxHeartbeats 1000000
/-! R9: calls of defs, of classes, of methods; attributes. -/
namespace RR
open PySem PySem.Spec PyProof.Rows L2

/-! ### what the syntax is -/
theorem base_eq {o : Expr} {f : Str} {env : Env} {w : Sem Value} (h : noSuper o = true) : attributeBase o f env w = w := by
  cases o with
  | Call fn args kws pos =>
    cases fn with
    | Name x p =>
      cases args with
      | nil =>
        cases kws with
        | nil =>
          have hx : (x != "super") = true := h
          unfold attributeBase
          simp only [hx, Bool.true_or, if_true]
          first
            | done
            | exact bind_pure w
        | cons _ _ => rfl
      | cons _ _ => rfl
    | _ => rfl
  | _ => rfl
theorem star_any {env : Env} {pos : Pos} : ∀ {es : List Expr}, noStar es = true → (backTo pos (starEach es env)).any (·.1) = false
  | [], _ => rfl
  | e :: es, h => by
    unfold noStar at h
    rw [List.all_cons, Bool.and_eq_true, Bool.not_eq_true'] at h
    rw [star_cons h.1]
    show (false || (backTo pos (starEach es env)).any (·.1)) = false
    rw [star_any (es := es) h.2] <;> rfl
theorem kw_all {env : Env} {pos : Pos} : ∀ {kws : List Keyword} {ks : List Str}, kwNames kws = some ks →
    (backToKw pos (keywordEach kws env)).all (·.1.isSome) = true ∧ (backToKw pos (keywordEach kws env)).filterMap (·.1) = ks ∧ (backToKw pos (keywordEach kws env)).any (·.1.isNone) = false
  | [], ks, h => by cases h; exact ⟨rfl, rfl, rfl⟩
  | ⟨none, e, p⟩ :: kws, ks, h => by cases h
  | ⟨some x, e, p⟩ :: kws, ks, h => by
    obtain ⟨ks', h1, rfl⟩ := Option.map_eq_some_iff.mp h
    obtain ⟨a1, a2, a3⟩ := kw_all (env := env) (pos := pos) h1
    refine ⟨?_, ?_, ?_⟩
    · show (true && (backToKw pos (keywordEach kws env)).all (·.1.isSome)) = true
      rw [a1] <;> rfl
    · show x :: (backToKw pos (keywordEach kws env)).filterMap (·.1) = _
      rw [a2]
    · show (false || (backToKw pos (keywordEach kws env)).any (·.1.isNone)) = false
      rw [a3] <;> rfl
section
variable {X : Cx} {A : Nm} {Pg : Prg} {Φ : Str → List D → Mo D} {lv : Nat} {c : Cn} {Γ : En}
/-! ### keywords -/
def WK (X : Cx) (kws : List Keyword) : TA := fun σ H Q => ∀ (pos : Pos) pins s, Inv X pins σ H s → wpAny (model X.prog X.w) X.A (evalAll ((backToKw pos (keywordEach kws X.env)).map (·.2))) (AP X pins σ Q) X.xe s
theorem pk_wk {kws : List Keyword} : PK X kws (WK X kws) := ⟨fun pos pins s _ _ _ I h => h pos pins s I⟩
def SK (X : Cx) (A : Nm) (Γ : En) (kws : List Keyword) (m : Mo (List D)) : Prop :=
  ∀ F ρ T σ H r Q, Gd (Bx X A) F ρ T σ H Γ → m T = some r → Post X A F ρ H σ (rDs X A) r Q → WK X kws σ H Q
theorem SK.bind {α β : Type} {R : List Addr → Hp → β → α → Prop} {Q : β → Hp → Prop} {es : List Keyword} {m : Mo (List D)} {k : List D → Mo α} (h : SK X A Γ es m) {F ρ : List Addr} {T : List Ob} {σ : L2.St} {H : Hp} {r : Rs α} {Qm : List V → Hp → Prop} (g : Gd (Bx X A) F ρ T σ H Γ) (e0 : (m.bind k) T = some r) (p : Post X A F ρ H σ R r Q)
    (c : ∀ d T1 v ρ1 H1, Stp F ρ H ρ1 H1 → Gd (Bx X A) F ρ1 T1 σ H1 Γ → DDs (Bx X A) ρ1 (cutR F ρ1 H1) v d → k d T1 = some r → Post X A F ρ1 H1 σ R r Q → Qm v H1) : WK X es σ H Qm := by
  rcases Mo.bind_some e0 with ⟨d, T1, e1, e2⟩ | ⟨C, fs, T1, e1, rfl⟩
  · exact h F ρ T σ H _ Qm g e1 fun v ρ' H' s w x => c d T1 v ρ' H' s (g.stp s w) x e2 (p.stp s)
  · exact h F ρ T σ H _ Qm g e1 p
theorem sk_list {f : Expr → Mo D} (hf : ∀ a, SE X A Γ a (f a)) : ∀ es : List Keyword, SK X A Γ es (evK f es)
  | [] => fun F ρ T σ H r Q g e p pos pins s I => by
    have := Mo.ret_some e
    subst this
    exact pk_nil.run pos pins s σ H Q I (p _ ρ H .refl g.wd .nil)
  | ⟨nm, a, kp⟩ :: es => by
    intro F ρ T σ H r Q g e p
    unfold evK at e
    refine fun pos pins s I => (pk_cons (nm := nm) (kpos := kp) pe_we (pk_wk (kws := es))).run pos pins s σ H Q I ((hf a).bind g e p fun x T1 v ρ1 H1 s1 g1 r1 e1 p1 => (sk_list hf es).bind g1 e1 p1 fun ds T2 vs ρ2 H2 s2 g2 r2 e2 p2 => ?_)
    have := Mo.ret_some e2
    subst this
    exact p2 _ ρ2 H2 .refl g2.wd (.cons (r1.stp s2) r2)
theorem evL_len {f : Expr → Mo D} : ∀ {es : List Expr} {T T' : List Ob} {ds : List D}, evL f es T = some (.ok ds T') → ds.length = es.length
  | [], T, T', ds, h => by cases Mo.ret_some h; rfl
  | e :: es, T, T', ds, h => by
    unfold evL at h
    split at h
    · cases h
    · rcases Mo.bind_some h with ⟨d, T1, e1, e2⟩ | ⟨_, _, _, _, z⟩
      · rcases Mo.bind_some e2 with ⟨es', T2, e3, e4⟩ | ⟨_, _, _, _, z⟩
        · cases Mo.ret_some e4
          rw [List.length_cons, List.length_cons, evL_len e3]
        · cases z
      · cases z
theorem evK_len {f : Expr → Mo D} : ∀ {es : List Keyword} {T T' : List Ob} {ds : List D} {ks : List Str}, kwNames es = some ks → evK f es T = some (.ok ds T') → ds.length = ks.length
  | [], T, T', ds, ks, hk, h => by cases Mo.ret_some h; cases hk; rfl
  | ⟨none, e, p⟩ :: es, T, T', ds, ks, hk, h => by cases hk
  | ⟨some x, e, p⟩ :: es, T, T', ds, ks, hk, h => by
    obtain ⟨ks', h1, rfl⟩ := Option.map_eq_some_iff.mp hk
    unfold evK at h
    rcases Mo.bind_some h with ⟨d, T1, e1, e2⟩ | ⟨_, _, _, _, z⟩
    · rcases Mo.bind_some e2 with ⟨es', T2, e3, e4⟩ | ⟨_, _, _, _, z⟩
      · cases Mo.ret_some e4
        rw [List.length_cons, List.length_cons, evK_len h1 e3]
      · cases z
    · cases z
/-! ### a call's arguments, any number -/
def WAz (X : Cx) (es : List Expr) : TA := fun σ H Q => (es = [] ∧ Q [] H) ∨ (es ≠ [] ∧ WA X es σ H Q)
theorem waz_list {f : Expr → Mo D} (hf : ∀ a, SE X A Γ a (f a)) {α β : Type} {R : List Addr → Hp → β → α → Prop} {Q : β → Hp → Prop} {es : List Expr} {k : List D → Mo α} {F ρ : List Addr} {T : List Ob} {σ : L2.St} {H : Hp} {r : Rs α} {Qm : List V → Hp → Prop} (g : Gd (Bx X A) F ρ T σ H Γ) (e0 : ((evL f es).bind k) T = some r) (p : Post X A F ρ H σ R r Q)
    (c : ∀ d T1 v ρ1 H1, Stp F ρ H ρ1 H1 → Gd (Bx X A) F ρ1 T1 σ H1 Γ → DDs (Bx X A) ρ1 (cutR F ρ1 H1) v d → d.length = es.length → k d T1 = some r → Post X A F ρ1 H1 σ R r Q → Qm v H1) : WAz X es σ H Qm := by
  cases es with
  | nil => exact .inl ⟨rfl, c [] T [] ρ H .refl g .nil rfl e0 p⟩
  | cons e es =>
    refine .inr ⟨fun z => (by cases z), ?_⟩
    rcases Mo.bind_some e0 with ⟨d, T1, e1, e2⟩ | ⟨C, fs, T1, e1, rfl⟩
    · exact sa_list hf (e :: es) F ρ T σ H _ Qm g e1 fun v ρ' H' s w x => c d T1 v ρ' H' s (g.stp s w) x (evL_len e1) e2 (p.stp s)
    · exact sa_list hf (e :: es) F ρ T σ H _ Qm g e1 p
theorem skz_list {f : Expr → Mo D} (hf : ∀ a, SE X A Γ a (f a)) {α β : Type} {R : List Addr → Hp → β → α → Prop} {Q : β → Hp → Prop} {es : List Keyword} {ks : List Str} {k : List D → Mo α} {F ρ : List Addr} {T : List Ob} {σ : L2.St} {H : Hp} {r : Rs α} {Qm : List V → Hp → Prop} (hks : kwNames es = some ks) (g : Gd (Bx X A) F ρ T σ H Γ) (e0 : ((evK f es).bind k) T = some r) (p : Post X A F ρ H σ R r Q)
    (c : ∀ d T1 v ρ1 H1, Stp F ρ H ρ1 H1 → Gd (Bx X A) F ρ1 T1 σ H1 Γ → DDs (Bx X A) ρ1 (cutR F ρ1 H1) v d → d.length = ks.length → k d T1 = some r → Post X A F ρ1 H1 σ R r Q → Qm v H1) : WK X es σ H Qm := by
  rcases Mo.bind_some e0 with ⟨d, T1, e1, e2⟩ | ⟨C, fs, T1, e1, rfl⟩
  · exact sk_list hf es F ρ T σ H _ Qm g e1 fun v ρ' H' s w x => c d T1 v ρ' H' s (g.stp s w) x (evK_len hks e1) e2 (p.stp s)
  · exact sk_list hf es F ρ T σ H _ Qm g e1 p
theorem callWith_any {f : Addr} {first : List Value} {args : List Expr} {kws : List Keyword} {ks : List Str} {pos : Pos} {pins : List (Addr × Obj)} {s : Shared} {σ : L2.St} {H : Hp} {Q : VK} (hk : PySem.W.keepIn X.K (.ref f) = true) (hns : noStar args = true) (hks : kwNames kws = some ks) (I : Inv X pins σ H s)
    (h : WAz X args σ H fun vs H1 => WK X kws σ H1 fun zs H2 => ∀ pins s us ws, Inv X pins σ H2 s → Vals vs us → Vals zs ws → wpAny (model X.prog X.w) X.A (call (.ref f) (first ++ us) (ks.zip ws)) (EP X pins σ Q) X.xe s) :
    wpAny (model X.prog X.w) X.A (callWith pos (.ref f) first (backTo pos (starEach args X.env)) (backToKw pos (keywordEach kws X.env))) (EP X pins σ Q) X.xe s := by
  obtain ⟨a1, a2, a3⟩ := kw_all (env := X.env) (pos := pos) hks
  have hpl : ((backTo pos (starEach args X.env)).any (·.1) || (backToKw pos (keywordEach kws X.env)).any (·.1.isNone)) = false := by rw [star_any hns, a3]; rfl
  cases args with
  | nil =>
    rcases h with h | h
    · have q := h.2
      refine PySem.W.callWith_KW0 (h₀ := X.base) I.ok.mod.kin hk a1 ?_ hpl
      refine thn (q pos pins s I) fun ws s2 ⟨zs, H2, I2, rz, q2⟩ => ⟨I2.kIn, ?_⟩
      rw [a2]
      exact q2 pins s2 [] ws I2 .nil rz
    · exact absurd rfl h.1
  | cons e es =>
    rcases h with h | h
    · cases h.1
    have h := h.2
    have he : starred e = false := by
      unfold noStar at hns
      rw [List.all_cons, Bool.and_eq_true, Bool.not_eq_true'] at hns
      exact hns.1
    refine PySem.W.callWith_KW (h₀ := X.base) I.ok.mod.kin hk a1 (thn (h pos pins s I) fun us s1 ⟨vs, H1, I1, r, q⟩ => ?_) hpl (star_cons he)
    refine thn (q pos pins s1 I1) fun ws s2 ⟨zs, H2, I2, rz, q2⟩ => ⟨I2.kIn, ?_⟩
    rw [a2]
    exact q2 pins s2 us ws I2 r rz
/-! ### a def is called -/
/-- what is wanted if the def raises -/
def ExWish (X : Cx) (A : Nm) (F ρ : List Addr) (H : Hp) (r : Rs D) (E : XK) : Prop := match r with
  | .ok _ _ => True
  | .ex C fs T' => ∀ ρ' H' dx, Stp F ρ H ρ' H' → Wd (Bx X A) F ρ' T' H' → XRel (Bx X A) ρ' (cutR F ρ' H') fs dx → E (.ref (A.ca C)) dx H'
theorem cal_run (k : XOk X A Pg Φ lv c) {sem : List D → Mo D} {f : Addr} {n : Nat} {ks : List Str} {g0 : List D → List D → List D} (F : Cal X.prog X.w X.K X.mg X.base A lv sem f n ks g0) {Fr ρ : List Addr} {T : List Ob} {σ : L2.St} {H : Hp} {r : Rs D} {Q : VK} {vs zs : List V} {ds es : List D}
    (w : Wd (Bx X A) Fr ρ T H) (hv : DDs (Bx X A) ρ (cutR Fr ρ H) vs ds) (hz : DDs (Bx X A) ρ (cutR Fr ρ H) zs es) (hn : ds.length = n) (hm : es.length = ks.length) (e : sem (g0 ds es) T = some r) (p : Post X A Fr ρ H σ (rD X A) r Q)
    {pins : List (Addr × Obj)} {s : Shared} {us ws : List Value} (I : Inv X pins σ H s) (ru : Vals vs us) (rw' : Vals zs ws) : wpAny (model X.prog X.w) X.A (call (.ref f) us (ks.zip ws)) (EP X pins σ Q) X.xe s := by
  obtain ⟨fd, ps, gU, gV, run, bnd, hk, rel⟩ := F.ex
  have hd := rel ρ _ vs zs ds es hv hz hn hm
  have hb := bnd.to s us ws I.kIn (by rw [← ru.length, hv.len, hn]) (by rw [← rw'.length, hz.len, hm])
  have hvals := bnd.rel ru rw'
  have post : ∀ E : XK, ExWish X A Fr ρ H r E → spF (Bx X A) A.ca sem (gV vs zs) H Q E := fun E hE => by
    refine ⟨Fr, ρ, T, g0 ds es, r, w, hd, e, ?_⟩
    cases r with
    | ok d T' => exact p
    | ex C fs T' => exact hE
  have main : ∀ E : XK, PassesAt (L2.CX X.prog X.w) X σ E → ExWish X A Fr ρ H r E →
      wpAny (model X.prog X.w) X.A (call (.ref f) us (ks.zip ws)) (EP X pins σ Q) X.xe s := fun E hx hE => by
    refine wpAny_call (codeAny_mono (run X.A X.stack s H ⟨us, ks.zip ws⟩ (gU us ws) (gV vs zs) Q E k.gd (k.rm.mono (by omega)) I.env0 hb hvals (post E hE)) fun r' s' hq => ?_)
    cases r' with
    | error e => exact hx pins H s e s' I hq
    | ok fl =>
      cases fl with
      | ret u => exact I.after hq
      | next => exact False.elim hq
      | brk => exact False.elim hq
      | cont => exact False.elim hq
  cases r with
  | ok d T' => exact main (L2.WE (fun _ _ _ _ => False) σ) (passAt takes0 σ) trivial
  | ex C fs T' =>
    obtain ⟨W, tk, hW⟩ := p
    exact main (L2.WE W σ) (passAt tk σ) fun ρ' H' dx s' w' x => hW ρ' H' dx s' w' x
end
end RR
set_option maxHeartbeats 1000000
/-! R10: the store's growth and its end; what is handed out. -/
namespace RR
open PySem PySem.Spec PyProof.Rows L2

/-! ### sameness -/
mutual
theorem same_eq : ∀ {a b : D}, D.same a b = true → a = b
  | .non, b, h => by cases b <;> first | rfl | (simp [D.same] at h)
  | .bl x, b, h => by cases b <;> first | (simp [D.same] at h; done) | (simp only [D.same, beq_iff_eq] at h; rw [h])
  | .int x, b, h => by cases b <;> first | (simp [D.same] at h; done) | (simp only [D.same, beq_iff_eq] at h; rw [h])
  | .str x, b, h => by cases b <;> first | (simp [D.same] at h; done) | (simp only [D.same, beq_iff_eq] at h; rw [h])
  | .ty x, b, h => by cases b <;> first | (simp [D.same] at h; done) | (simp only [D.same, beq_iff_eq] at h; rw [h])
  | .cls x, b, h => by cases b <;> first | (simp [D.same] at h; done) | (simp only [D.same, beq_iff_eq] at h; rw [h])
  | .fn x, b, h => by cases b <;> first | (simp [D.same] at h; done) | (simp only [D.same, beq_iff_eq] at h; rw [h])
  | .adr x, b, h => by cases b <;> first | (simp [D.same] at h; done) | (simp only [D.same, beq_iff_eq] at h; rw [h])
  | .lst x, b, h => by cases b <;> first | (simp only [D.same] at h; exact congrArg D.lst (sameS_eq h)) | (simp [D.same] at h; done)
  | .tup x, b, h => by cases b <;> first | (simp only [D.same] at h; exact congrArg D.tup (sameS_eq h)) | (simp [D.same] at h; done)
  | .dct x, b, h => by cases b <;> first | (simp only [D.same] at h; exact congrArg D.dct (sameK_eq h)) | (simp [D.same] at h; done)
  | .obj C x, b, h => by
    cases b <;> first | (simp [D.same] at h; done) | skip
    simp only [D.same, Bool.and_eq_true, beq_iff_eq] at h
    rw [h.1, sameF_eq h.2]
theorem sameS_eq : ∀ {a b : List D}, sameS a b = true → a = b
  | [], [], _ => rfl
  | [], _ :: _, h => by simp [sameS] at h
  | _ :: _, [], h => by simp [sameS] at h
  | x :: a, y :: b, h => by
    simp only [sameS, Bool.and_eq_true] at h
    rw [same_eq h.1, sameS_eq h.2]
theorem sameK_eq : ∀ {a b : List (Key × D)}, sameK a b = true → a = b
  | [], [], _ => rfl
  | [], _ :: _, h => by simp [sameK] at h
  | _ :: _, [], h => by simp [sameK] at h
  | (k, x) :: a, (l, y) :: b, h => by
    simp only [sameK, Bool.and_eq_true, decide_eq_true_eq] at h
    rw [h.1.1, same_eq h.1.2, sameK_eq h.2]
theorem sameF_eq : ∀ {a b : List (Str × D)}, sameF a b = true → a = b
  | [], [], _ => rfl
  | [], _ :: _, h => by simp [sameF] at h
  | _ :: _, [], h => by simp [sameF] at h
  | (k, x) :: a, (l, y) :: b, h => by
    simp only [sameF, Bool.and_eq_true, beq_iff_eq] at h
    rw [h.1.1, same_eq h.1.2, sameF_eq h.2]
end
theorem osame_eq {a b : Ob} (h : Ob.same a b = true) : a = b := by
  cases a <;> cases b <;> first | (simp only [Ob.same] at h; exact congrArg Ob.lst (sameS_eq h)) | (simp only [Ob.same] at h; exact congrArg Ob.dct (sameK_eq h)) | (simp [Ob.same] at h; done) | skip
  simp only [Ob.same, Bool.and_eq_true, beq_iff_eq] at h
  rw [h.1, sameF_eq h.2]

/-! ### what leans on nothing newer -/
section
variable {B : Bas} {ρ ρ' : List Addr} {S S' : Hp}
mutual
theorem DD.bel : ∀ {v : V} {d : D}, DD B ρ S v d → RR.bel ρ.length d = true
  | _, _, .non => rfl
  | _, _, .bl b => rfl
  | _, _, .int i => rfl
  | _, _, .str s => rfl
  | _, _, .ty n => rfl
  | _, _, .lst h r => by simpa [RR.bel] using DDs.bel r
  | _, _, .tup h r => by simpa [RR.bel] using DDs.bel r
  | _, _, .dct h r => by simpa [RR.bel] using DDk.bel r
  | _, _, .obj h r => by simpa [RR.bel] using DDf.bel r
  | _, _, .cls C => rfl
  | _, _, .fn f => rfl
  | _, _, .adr h => by simpa [RR.bel] using (List.getElem?_eq_some_iff.mp h).1
theorem DDs.bel : ∀ {v : List V} {d : List D}, DDs B ρ S v d → bels ρ.length d = true
  | _, _, .nil => rfl
  | _, _, .cons h r => by simp [bels, DD.bel h, DDs.bel r]
theorem DDk.bel : ∀ {v : List (Key × V)} {d : List (Key × D)}, DDk B ρ S v d → belk ρ.length d = true
  | _, _, .nil => rfl
  | _, _, .cons h r => by simp [belk, DD.bel h, DDk.bel r]
theorem DDf.bel : ∀ {v : List (Str × V)} {d : List (Str × D)}, DDf B ρ S v d → belf ρ.length d = true
  | _, _, .nil => rfl
  | _, _, .cons h r => by simp [belf, DD.bel h, DDf.bel r]
end
mutual
theorem DD.back {n : Nat} (e : Same S S') : ∀ {v : V} {d : D}, DD B ρ S v d → RR.bel n d = true → DD B (ρ.take n) S' v d
  | _, _, .non, _ => .non
  | _, _, .bl b, _ => .bl b
  | _, _, .int i, _ => .int i
  | _, _, .str s, _ => .str s
  | _, _, .ty n, _ => .ty n
  | _, _, .lst h r, b => .lst (same_rd e h) (DDs.back e r (by simpa [RR.bel] using b))
  | _, _, .tup h r, b => .tup (same_sqT e h) (DDs.back e r (by simpa [RR.bel] using b))
  | _, _, .dct h r, b => .dct (same_rd e h) (DDk.back e r (by simpa [RR.bel] using b))
  | _, _, .obj h r, b => .obj (e _ _ h) (DDf.back e r (by simpa [RR.bel] using b))
  | _, _, .cls C, _ => .cls C
  | _, _, .fn f, _ => .fn f
  | _, _, .adr h, b => .adr (by
    rw [List.getElem?_take_of_lt (by simpa [RR.bel] using b)]
    exact h)
theorem DDs.back {n : Nat} (e : Same S S') : ∀ {v : List V} {d : List D}, DDs B ρ S v d → bels n d = true → DDs B (ρ.take n) S' v d
  | _, _, .nil, _ => .nil
  | _, _, .cons h r, b => by
    simp only [bels, Bool.and_eq_true] at b
    exact .cons (DD.back e h b.1) (DDs.back e r b.2)
theorem DDk.back {n : Nat} (e : Same S S') : ∀ {v : List (Key × V)} {d : List (Key × D)}, DDk B ρ S v d → belk n d = true → DDk B (ρ.take n) S' v d
  | _, _, .nil, _ => .nil
  | _, _, .cons h r, b => by
    simp only [belk, Bool.and_eq_true] at b
    exact .cons (DD.back e h b.1) (DDk.back e r b.2)
theorem DDf.back {n : Nat} (e : Same S S') : ∀ {v : List (Str × V)} {d : List (Str × D)}, DDf B ρ S v d → belf n d = true → DDf B (ρ.take n) S' v d
  | _, _, .nil, _ => .nil
  | _, _, .cons h r, b => by
    simp only [belf, Bool.and_eq_true] at b
    exact .cons (DD.back e h b.1) (DDf.back e r b.2)
end
end
theorem OOk.bel {B : Bas} {ρ : List Addr} {S H : Hp} {a : Addr} {o : Ob} (h : OOk B ρ S H a o) : belO ρ.length o = true := by
  cases o with
  | lst ds => obtain ⟨xs, _, r⟩ := h; exact r.bel
  | dct ds => obtain ⟨xs, _, r⟩ := h; exact r.bel
  | ins C ds => obtain ⟨dx, xs, _, r⟩ := h; exact r.bel
theorem OOk.back {B : Bas} {ρ : List Addr} {S S' H : Hp} {a : Addr} {o : Ob} {n : Nat} (h : OOk B ρ S H a o) (e : Same S S') (b : belO n o = true) : OOk B (ρ.take n) S' H a o := by
  cases o with
  | lst ds => obtain ⟨xs, h1, r⟩ := h; exact ⟨xs, h1, r.back e b⟩
  | dct ds => obtain ⟨xs, h1, r⟩ := h; exact ⟨xs, h1, r.back e b⟩
  | ins C ds => obtain ⟨dx, xs, h1, r⟩ := h; exact ⟨dx, xs, h1, r.back e b⟩

/-! ### one more -/
theorem Wd.push {B : Bas} {F ρ : List Addr} {T : List Ob} {H : Hp} (w : Wd B F ρ T H) {p : Addr} {o : HO} {ob : Ob} (hp : H p = none) (ho : OOk B (ρ ++ [p]) (cutR F (ρ ++ [p]) (upd H p o)) (upd H p o) p ob) :
    Wd B F (ρ ++ [p]) (T ++ [ob]) (upd H p o) ∧ Stp F ρ H (ρ ++ [p]) (upd H p o) := by
  have pf : p ∉ F ++ ρ := fun m => w.has m hp
  have sm : Same (cutR F ρ H) (cutR F (ρ ++ [p]) (upd H p o)) := fun a u h => by
    unfold cutR cut at h ⊢
    split at h
    · cases h
    · rename_i hn
      have hne : a ≠ p := fun z => by rw [z, hp] at h; cases h
      rw [if_neg (by
        rw [← List.append_assoc]
        intro m
        rcases List.mem_append.mp m with m | m
        · exact hn m
        · exact hne (List.mem_singleton.mp m)), upd_ne hne]
      exact h
  have keep : ∀ a ∈ F ++ ρ, upd H p o a = H a := fun a ha => upd_ne fun z => pf (z ▸ ha)
  refine ⟨⟨?_, ?_, fun a ha => ?_, fun i a ob' hi ho' => ?_⟩, ⟨List.prefix_append _ _, sm, fun a ha => keep a (List.mem_append_left _ ha)⟩⟩
  · rw [List.length_append, List.length_append, w.len] <;> rfl
  · rw [← List.append_assoc]
    rw [List.nodup_append]
    exact ⟨w.nd, List.pairwise_singleton _ _, fun a ha b hb => by rw [List.mem_singleton.mp hb]; exact fun z => pf (z ▸ ha)⟩
  · rw [keep a (List.mem_append_left _ ha)]
    exact w.trk a ha
  · by_cases hlt : i < ρ.length
    · rw [List.getElem?_append_left hlt] at hi
      rw [List.getElem?_append_left (by rw [← w.len]; exact hlt)] at ho'
      exact (w.ok i a ob' hi ho').mono (List.prefix_append _ _) sm (keep a (List.mem_append_right _ (List.mem_of_getElem? hi)))
    · have e : i = ρ.length := by
        have := (List.getElem?_eq_some_iff.mp hi).1
        rw [List.length_append, List.length_singleton] at this
        omega
      subst e
      rw [List.getElem?_append_right (Nat.le_refl _), Nat.sub_self] at hi
      rw [List.getElem?_append_right (by rw [w.len]; exact Nat.le_refl _), w.len, Nat.sub_self] at ho'
      cases hi
      cases ho'
      exact ho

/-! ### back to what was there -/
theorem okT_get {T T' : List Ob} (h : okT T T' = true) : T.length ≤ T'.length ∧ ∀ (i : Nat) (o' : Ob), i < T.length → T'[i]? = some o' → (∃ o, T[i]? = some o ∧ (o = o' ∨ belO T.length o' = true)) := by
  unfold okT at h
  rw [Bool.and_eq_true, decide_eq_true_eq] at h
  refine ⟨h.1, fun i o' hi ho' => ?_⟩
  have ho : T[i]? = some T[i] := List.getElem?_eq_getElem hi
  refine ⟨T[i], ho, ?_⟩
  have hz : (T.zip T')[i]? = some (T[i], o') := by
    rw [List.getElem?_zip_eq_some]
    exact ⟨ho, ho'⟩
  have := List.all_eq_true.mp h.2 _ (List.mem_of_getElem? hz)
  rw [Bool.or_eq_true] at this
  rcases this with q | q
  · exact .inl (osame_eq q)
  · exact .inr q
section
variable {B : Bas} {F ρ ρ' : List Addr} {T T' : List Ob} {H H' : Hp}
theorem take_pre (w : Wd B F ρ T H) (s : Stp F ρ H ρ' H') : ρ'.take T.length = ρ := by
  obtain ⟨t, rfl⟩ := s.pre
  rw [← w.len, List.take_left]
theorem back_same (s : Stp F ρ H ρ' H') : Same (cutR F ρ' H') (cutR F ρ H') := by
  obtain ⟨t, ht⟩ := s.pre
  refine cut_less fun a ha => ?_
  rcases List.mem_append.mp ha with ha | ha
  · exact List.mem_append_left _ ha
  · exact List.mem_append_right _ (by rw [← ht]; exact List.mem_append_left _ ha)
/-- what was laid since is let go -/
theorem Wd.drop (w : Wd B F ρ T H) (s : Stp F ρ H ρ' H') (w' : Wd B F ρ' T' H') (ok : okT T T' = true) : Wd B F ρ (T'.take T.length) H' ∧ Stp F ρ H ρ H' := by
  obtain ⟨hl, hk⟩ := okT_get ok
  have tk := take_pre w s
  have sm := back_same s
  refine ⟨⟨?_, w.nd, fun a ha => by rw [s.fr a ha]; exact w.trk a ha, fun i a o hi ho => ?_⟩, ⟨List.prefix_refl _, s.same.trans sm, s.fr⟩⟩
  · rw [List.length_take, Nat.min_eq_left hl, w.len]
  · have hlt : i < T.length := by rw [← w.len]; exact (List.getElem?_eq_some_iff.mp hi).1
    rw [List.getElem?_take_of_lt hlt] at ho
    have hi' : ρ'[i]? = some a := pre_get s.pre hi
    have o1 := w'.ok i a o hi' ho
    have b : belO T.length o = true := by
      obtain ⟨o0, h0, h1⟩ := hk i o hlt ho
      rcases h1 with rfl | h1
      · have := (w.ok i a o0 hi h0).bel
        rw [w.len] at this
        exact this
      · exact h1
    have := o1.back sm b
    rw [tk] at this
    exact this
theorem DD.drop (w : Wd B F ρ T H) (s : Stp F ρ H ρ' H') {v : V} {d : D} (h : DD B ρ' (cutR F ρ' H') v d) (b : RR.bel T.length d = true) : DD B ρ (cutR F ρ H') v d := by
  have := h.back (back_same s) b
  rw [take_pre w s] at this
  exact this
end
end RR
set_option maxHeartbeats 1000000
/-! R11: attributes, methods, instances made. -/
namespace RR
open PySem PySem.Spec PyProof.Rows L2
section
variable {X : Cx} {A : Nm} {Pg : Prg} {Φ : Str → List D → Mo D} {lv : Nat} {c : Cn} {Γ : En}
theorem ins_ok {B : Bas} {F ρ : List Addr} {T : List Ob} {H : Hp} (w : Wd B F ρ T H) {v : V} {d : D} {C : Nat} {gs : List (Str × D)} (h : DD B ρ (cutR F ρ H) v d) (e : insO T d = some (C, gs)) : ∃ a dx fs, v = .ref a ∧ H a = some (.ins (B.ca C) dx fs) ∧ DDf B ρ (cutR F ρ H) fs gs := by
  cases h with
  | obj h r => cases e; exact ⟨_, _, _, rfl, cut_sub _ _ _ _ h, r⟩
  | adr ha =>
    simp only [insO] at e
    split at e
    · cases e
      rename_i ho
      obtain ⟨dx, fs, h1, h2⟩ := w.at ha ho
      exact ⟨_, dx, fs, rfl, h1, h2⟩
    · cases e
  | _ => cases e
theorem DDf.get {B : Bas} {ρ : List Addr} {S : Hp} : ∀ {fs : List (Str × V)} {gs : List (Str × D)} {f : Str} {d : D}, DDf B ρ S fs gs → gs.lookup f = some d → ∃ v, fs.lookup f = some v ∧ DD B ρ S v d
  | _, _, _, _, .nil, e => by simp at e
  | _, _, f, d, .cons (k := k) (v := v) (vs := vs) h r, e => by
    rw [List.lookup_cons] at e ⊢
    cases b : f == k with
    | true => rw [b] at e; cases e; exact ⟨v, rfl, h⟩
    | false => rw [b] at e; exact DDf.get r e
theorem DDf.non {B : Bas} {ρ : List Addr} {S : Hp} : ∀ {fs : List (Str × V)} {gs : List (Str × D)} {f : Str}, DDf B ρ S fs gs → gs.lookup f = none → fs.lookup f = none
  | _, _, _, .nil, _ => rfl
  | _, _, f, .cons (k := k) h r, e => by
    rw [List.lookup_cons] at e ⊢
    cases b : f == k with
    | true => rw [b] at e; cases e
    | false => rw [b] at e; exact DDf.non r e
/-- a def's call, where its own state is another -/
theorem cal_code {P : Program} {w : World} {K : PySem.W.Frag} {mg : Str → Option Value} {base : Heap} {sem : List D → Mo D} {f : Addr} {n : Nat} {ks : List Str} {g0 : List D → List D → List D} (F : Cal P w K mg base A lv sem f n ks g0) {Fr ρ : List Addr} {T : List Ob} {H : Hp} {r : Rs D} {Q : VK} {E : XK} {vs zs : List V} {ds es : List D}
    (wd : Wd ⟨K, A.ca, A.fa⟩ Fr ρ T H) (hv : DDs ⟨K, A.ca, A.fa⟩ ρ (cutR Fr ρ H) vs ds) (hz : DDs ⟨K, A.ca, A.fa⟩ ρ (cutR Fr ρ H) zs es) (hn : ds.length = n) (hm : es.length = ks.length) (e : sem (g0 ds es) T = some r)
    (p : Give ⟨K, A.ca, A.fa⟩ A.ca Fr ρ H r Q E)
    {Ar : Around} {outer : List Env} {s : Shared} {us ws : List Value} (hg : Ar.guards = some []) (hr : Room lv Ar) (e0 : Env0 P w K mg base Ar outer s H) (hk : K.In s.heap) (ru : Vals vs us) (rw' : Vals zs ws) :
    codeAny (model P w) Ar (.call (.ref f) ⟨us, ks.zip ws⟩) (CR (L2.CX P w) outer P w H s Q E) s := by
  obtain ⟨fd, ps, gU, gV, run, bnd, _, rel⟩ := F.ex
  have hb := bnd.to s us ws hk (by rw [← ru.length, hv.len, hn]) (by rw [← rw'.length, hz.len, hm])
  exact run Ar outer s H ⟨us, ks.zip ws⟩ (gU us ws) (gV vs zs) Q E hg hr e0 hb (bnd.rel ru rw') ⟨Fr, ρ, T, g0 ds es, r, wd, rel ρ _ vs zs ds es hv hz hn hm, e, p⟩
theorem Mo.calm_some {α : Type} {m : Mo α} {T : List Ob} {r : Rs α} (h : m.calm T = some r) : ∃ a T', m T = some (.ok a T') ∧ r = .ok a T' := by
  unfold Mo.calm at h
  split at h
  · cases h
    rename_i a T' e
    exact ⟨a, T', e, rfl⟩
  · cases h
/-- a property -/
theorem prop_run (k : XOk X A Pg Φ lv c) {sem : List D → Mo D} {C f p0 : Addr} {m : Str} {g0 : List D → List D → List D} (F : Cal X.prog X.w X.K X.mg X.base A lv sem f 1 [] g0) (hcls : Cls X.K C) (hp : PropOf X.K C m p0 f) {Fr ρ : List Addr} {T T' : List Ob} {σ : L2.St} {H : Hp} {Q : VK} {a dx : Addr} {fs : List (Str × V)} {d z : D}
    (w : Wd (Bx X A) Fr ρ T H) (hd : DD (Bx X A) ρ (cutR Fr ρ H) (.ref a) d) (ha : H a = some (.ins C dx fs)) (e : sem (g0 [d] []) T = some (.ok z T')) (q : ∀ v ρ' H', Stp Fr ρ H ρ' H' → Wd (Bx X A) Fr ρ' T' H' → DD (Bx X A) ρ' (cutR Fr ρ' H') v z → Q v H')
    {pins : List (Addr × Obj)} {s : Shared} {b : Bool} (I : Inv X pins σ H s) : wpAny (model X.prog X.w) X.A (getAttr (.ref a) m b) (EP X pins σ Q) X.xe s := by
  obtain ⟨_, O, _⟩ := ins_get I.hok ha
  obtain ⟨_, J, _⟩ := O.look
  obtain ⟨_, hrec⟩ := hp.rec_
  have I1 := I.tok (s.toks + 1)
  have known : (PySem.W.clsIn X.K C).isSome = true := by
    obtain ⟨cd, h1, _⟩ := PySem.W.any_some hcls.hd
    exact Option.isSome_iff_exists.mpr ⟨cd, h1⟩
  have pg := PySem.W.plainGet_of (hcls.get m)
  have run := cal_code F (E := fun _ _ _ => False) (r := .ok z T') (zs := []) (es := []) w (.cons hd .nil) .nil rfl rfl e q (Ar := X.A.in1) (outer := X.stack) (s := { s with toks := s.toks + 1 }) (us := [.ref a]) (ws := []) k.gd (k.rm.in1.mono (by omega)) I1.env0.in1 I1.kIn (.cons rfl .nil) .nil
  refine PySem.W.get_bind I.kIn J pg.1 (PySem.W.findObj_data known hp.at_ hp.get hp.tak) pg.2 ?_
  refine wpAny_call (PySem.W.prop_get (s := { s with toks := s.toks + 1 }) I.kIn hrec (codeAny_mono run fun r s' h => ?_))
  cases r with
  | error er =>
    obtain ⟨_, _, _, _, _, _, _, _, _, _, _, _, bad⟩ := h
    exact bad.elim
  | ok fl => cases fl with
    | ret u =>
      obtain ⟨v, H', I3, rv, q3⟩ := I1.after h
      have fin : wpAny (model X.prog X.w) X.A (pure u) (EP X pins σ Q) X.xe s' := wpAny_pure ⟨v, H', I3, rv, q3⟩
      show wpAny _ _ (handedOut u) _ _ _
      rw [PySem.W.handedOut_of (handed_of rv)]
      exact fin
    | next => cases h
    | brk => cases h
    | cont => cases h
theorem se_attr (k : XOk X A Pg Φ lv c) {o : Expr} {f : Str} {pos : Pos} {m : Mo D} (h : SE X A Γ o m) (hs : noSuper o = true) : SE X A Γ (.Attribute o f pos) (m.bind fun d => attrM Pg Φ d f) := by
  intro F ρ T σ H r Q g e p pins s I
  refine attr_of (base_eq hs) (thn (h.bind (Qm := fun v H1 => ∀ pins s, Inv X pins σ H1 s → ∀ u, RelV v u → wpAny (model X.prog X.w) X.A (getAttr u f true) (EP X pins σ Q) X.xe s) g e p (fun d T1 v ρ1 H1 s1 g1 r1 e1 p1 => ?_) pins s I) fun u s1 ⟨v, H1, I1, rv, q⟩ => q pins s1 I1 u rv)
  intro pins s I u ru
  unfold attrM at e1
  split at e1
  · rename_i C gs hi
    obtain ⟨a, dx, fs, rfl, ha, hf⟩ := ins_ok g1.wd r1 hi
    obtain rfl : u = Value.ref a := ru
    split at e1
    · rename_i g hg
      split at e1
      · rename_i b hb
        obtain ⟨z, T', e2, rfl⟩ := Mo.calm_some e1
        obtain ⟨hc, p0, hp⟩ := k.kn.prop C f g hg
        exact prop_run k (k.kn.call g 1 [] b hb) hc hp g1.wd r1 ha e2 p1 I
      · cases e1
    · split at e1
      · rename_i hn
        split at e1
        · rename_i y hy
          cases e1
          obtain ⟨hc, hno⟩ := k.kn.noat C f hn
          obtain ⟨z, hz, rz⟩ := hf.get hy
          exact getattr_ok I ha hc hno hz fun u' s2 I2 ru => ⟨z, H1, I2, ru, p1 z ρ1 H1 .refl g1.wd rz⟩
        · cases e1
      · cases e1
  · cases e1
end
end RR
set_option maxHeartbeats 1000000
/-! R12: methods of built-in types; methods of one's own. -/
namespace RR
open PySem PySem.Spec PyProof.Rows L2
/-- a tracked thing is written -/
theorem Wd.upd {B : Bas} {F ρ : List Addr} {T : List Ob} {H : Hp} (w : Wd B F ρ T H) {n : Nat} {a : Addr} {o : HO} {ob : Ob} (ha : ρ[n]? = some a) (ho : OOk B ρ (cutR F ρ H) (L2.upd H a o) a ob) :
    Wd B F ρ (T.set n ob) (L2.upd H a o) ∧ Stp F ρ H ρ (L2.upd H a o) := by
  have am : a ∈ ρ := List.mem_of_getElem? ha
  have ec : cutR F ρ (L2.upd H a o) = cutR F ρ H := cut_upd (List.mem_append_right _ am)
  have nf : ∀ b ∈ F, b ≠ a := fun b hb z => (List.nodup_append.mp w.nd).2.2 b hb a am z
  have keepF : ∀ b ∈ F, L2.upd H a o b = H b := fun b hb => upd_ne (nf b hb)
  refine ⟨⟨by rw [List.length_set]; exact w.len, w.nd, fun b hb => by rw [keepF b hb]; exact w.trk b hb, fun i b ob' hi ho' => ?_⟩, ⟨List.prefix_refl _, by rw [ec]; exact Same.refl _, keepF⟩⟩
  by_cases e : i = n
  · subst e
    rw [hi] at ha
    cases ha
    have hl : i < T.length := by rw [← w.len]; exact (List.getElem?_eq_some_iff.mp hi).1
    rw [List.getElem?_set_self hl] at ho'
    cases ho'
    rw [ec]
    exact ho
  · rw [List.getElem?_set_ne (Ne.symm e)] at ho'
    have hne : b ≠ a := fun z => by
      subst z
      have h1 := (List.getElem?_eq_some_iff.mp hi)
      have h2 := (List.getElem?_eq_some_iff.mp ha)
      obtain ⟨l1, e1⟩ := h1
      obtain ⟨l2, e2⟩ := h2
      exact e ((List.getElem_inj (List.nodup_append.mp w.nd).2.1).mp (e1.trans e2.symm))
    rw [ec]
    exact (w.ok i b ob' hi ho').mono (List.prefix_refl _) (Same.refl _) (upd_ne hne)
def OpM (X : Cx) (A : Nm) (r0 : V → List V → Hp → VK → Prop) (f : D → List D → Mo D) : Prop :=
  ∀ F ρ T H x vs d ds r Q, Wd (Bx X A) F ρ T H → DD (Bx X A) ρ (cutR F ρ H) x d → DDs (Bx X A) ρ (cutR F ρ H) vs ds → f d ds T = some r →
    (∃ z T', r = .ok z T' ∧ ∀ (_ : ∀ v ρ' H', Stp F ρ H ρ' H' → Wd (Bx X A) F ρ' T' H' → DD (Bx X A) ρ' (cutR F ρ' H') v z → Q v H'), r0 x vs H Q)
section
variable {X : Cx} {A : Nm} {Pg : Prg} {Φ : Str → List D → Mo D} {lv : Nat} {c : Cn} {Γ : En}
/-! ### lists -/
theorem adr_lst {B : Bas} {F ρ : List Addr} {T : List Ob} {H : Hp} (w : Wd B F ρ T H) {x : V} {n : Nat} {ys : List D} (h : DD B ρ (cutR F ρ H) x (.adr n)) (e : T[n]? = some (.lst ys)) : ∃ a xs, x = .ref a ∧ ρ[n]? = some a ∧ H a = some (.lst xs) ∧ DDs B ρ (cutR F ρ H) xs ys := by
  cases h with
  | adr ha =>
    obtain ⟨xs, h1, h2⟩ := w.at ha e
    exact ⟨_, xs, rfl, ha, h1, h2⟩
theorem DDs.dropLast {B : Bas} {ρ : List Addr} {S : Hp} {vs : List V} {ds : List D} (h : DDs B ρ S vs ds) : DDs B ρ S vs.dropLast ds.dropLast := by
  rw [List.dropLast_eq_take, List.dropLast_eq_take, h.len]
  exact h.take _
/-- what id does, and where it is found -/
structure Bm (X : Cx) (A : Nm) (Ty : String) (m : Str) (f : D → List D → Mo D) : Prop where
  ex : ∃ (id : String) (r0 : V → List V → Hp → VK → Prop), PlainAttrs Ty ∧ Slot Ty m id ∧ typeOf (.builtin id) = pure (.type "method_descriptor") ∧ MtR X id r0 ∧ OpM X A r0 f
theorem bm_append : Bm X A "list" "append" (lstM .append) := ⟨_, _, PySem.F.plainAttrs_list, PySem.F.slot_list_append, PySem.F.type_list_append, mt_append, by
  intro F ρ T H x vs d ds r Q w hx hv e
  unfold lstM at e
  split at e
  · split at e
    · rename_i n ys hn
      simp only at e
      split at e
      · rename_i y
        split at e
        · cases e
          rename_i hl
          obtain ⟨a, xs, rfl, ha, hH, hd⟩ := adr_lst w hx hn
          cases hv with
          | cons hy h0 =>
            cases h0
            refine ⟨_, _, rfl, fun q => ⟨a, xs, _, rfl, rfl, hH, by rw [hd.len]; exact hl, ?_⟩⟩
            obtain ⟨w', s'⟩ := w.upd (o := .lst (xs ++ [_])) (ob := .lst (ys ++ [y])) ha ⟨_, upd_same, hd.append (.one hy)⟩
            exact q _ _ _ s' w' .non
        · cases e
      · cases e
    · cases e
  · cases e⟩
theorem bm_pop : Bm X A "list" "pop" (lstM .pop) := ⟨_, _, PySem.F.plainAttrs_list, PySem.F.slot_list_pop, PySem.F.type_list_pop, MtR.or (r := rPop) (r' := rPopAt) mt_pop mt_popAt, by
  intro F ρ T H x vs d ds r Q w hx hv e
  unfold lstM at e
  split at e
  · split at e
    · rename_i n ys hn
      obtain ⟨a, xs, rfl, ha, hH, hd⟩ := adr_lst w hx hn
      simp only at e
      split at e
      · rename_i i
        split at e
        · rename_i hb
          split at e
          · rename_i j hj
            split at e
            · rename_i y hy
              cases e
              cases hv with
              | cons hi h0 =>
                cases h0
                cases hi
                obtain ⟨v, h1, h2⟩ := hd.get hy
                refine ⟨_, _, rfl, fun q => .inr ⟨a, xs, i, j, v, rfl, rfl, hH, hb.1, hb.2, by rw [hd.len]; exact hj, h1, ?_⟩⟩
                obtain ⟨w', s'⟩ := w.upd (o := .lst (xs.eraseIdx j)) (ob := .lst (ys.eraseIdx j)) ha ⟨_, upd_same, hd.erase j⟩
                exact q _ _ _ s' w' (h2.stp s')
            · cases e
          · cases e
        · cases e
      · split at e
        · rename_i y hy
          cases e
          cases hv
          obtain ⟨v, h1, h2⟩ := hd.get hy
          refine ⟨_, _, rfl, fun q => .inl ⟨a, xs, v, rfl, rfl, hH, by rw [hd.len]; exact h1, ?_⟩⟩
          obtain ⟨w', s'⟩ := w.upd (o := .lst xs.dropLast) (ob := .lst ys.dropLast) ha ⟨_, upd_same, hd.dropLast⟩
          exact q _ _ _ s' w' (h2.stp s')
        · cases e
      · cases e
    · cases e
  · cases e⟩
def kdName : Kd → String
  | .list => "list" | .dict => "dict" | .str => "str"
/-- a name that a table has -/
theorem look_name {α : Type} {x : Str} {b : α} : ∀ {l : List (Str × α)}, l.lookup x = some b → (x, b) ∈ l
  | [], h => by cases h
  | (k, a) :: l, h => by
    rw [List.lookup_cons] at h
    split at h
    · rename_i e
      cases h
      rw [eq_of_beq e]
      exact List.mem_cons_self
    · exact List.mem_cons_of_mem _ (look_name h)
/-- every method that is served -/
theorem bm_all {kd : Kd} {m : Str} {mn : Mn} (hm : mns.lookup m = some mn) (e : bmOk kd mn = true) : Bm X A (kdName kd) m (bmM kd mn) := by
  have h := look_name hm
  unfold mns at h
  cases kd with
  | list =>
    simp only [List.mem_cons, List.not_mem_nil, or_false, Prod.mk.injEq] at h
    rcases h with ⟨rfl, rfl⟩ | ⟨rfl, rfl⟩
    · exact bm_append
    · exact bm_pop
  | dict => cases mn <;> cases e
  | str => cases mn <;> cases e
end
end RR
set_option maxHeartbeats 1000000
/-! R13: calls by a name, of a class, of a method. -/
namespace RR
open PySem PySem.Spec PyProof.Rows L2
section
variable {X : Cx} {A : Nm} {Pg : Prg} {Φ : Str → List D → Mo D} {lv : Nat} {c : Cn} {Γ : En}
theorem Mo.at_bind {α β : Type} {m : Mo α} {k : α → Mo β} {T : List Ob} : (m.bind k) T = m.bind k T := rfl
/-! ### o.m(..) -/
theorem all_not {α : Type} {l : List (Bool × α)} (h : l.any (·.1) = false) : (l.all fun x => !x.1) = true := by
  rw [List.all_eq_true]
  intro x hx
  have := List.any_eq_false.mp h x hx
  simpa using this
theorem meth_eq {o : Expr} {m : Str} {ap pos : Pos} {args : List Expr} {kws : List Keyword} {ks : List Str} {env : Env} (hs : noSuper o = true) (hl : (ap.endLine == pos.line) = true) (hf : args.length + kws.length < 28) (hn : noStar args = true) (hk : kwNames kws = some ks) :
    eval (.Call (.Attribute o m ap) args kws pos) env = (do
      let ov ← eval o env
      standAt ap.atName
      let (f, first) ← holding [ov] (getMethod ov m (plainOf o env))
      callWith pos f first (backTo pos (starEach args env)) (backToKw pos (keywordEach kws env))) := by
  have hform : methodCallForm (args.length + kws.length) (backTo pos (starEach args env)) (backToKw pos (keywordEach kws env)) = true := by
    unfold methodCallForm
    rw [all_not (star_any hn), (kw_all hk).1, Bool.true_and, Bool.true_and, decide_eq_true_eq]
    split <;> omega
  rw [arm_eval_Call, base_eq hs]
  simp only [mcall_line hform hl]
theorem kind_is {F ρ : List Addr} {T : List Ob} {H : Hp} {σ : L2.St} {v : V} {d : D} {kd : Kd} {pins : List (Addr × Obj)} {s : Shared} {u : Value} (w : Wd (Bx X A) F ρ T H) (h : DD (Bx X A) ρ (cutR F ρ H) v d) (e : kindO T d = some kd) (I : Inv X pins σ H s) (r : RelV v u) :
    s.TypeIs u (kdName kd) ∧ ∀ a, u = .ref a → ∃ ob, s.heap.get? a = some ob ∧ ob.dict = none := by
  unfold kindO at e
  split at e
  · rename_i ex
    cases e
    obtain ⟨a, xs, rfl, h1, _⟩ := vw_lst w h ex
    exact tyV_is (T := "list") I r (.inl ⟨rfl, xs, sql_of h1⟩)
  · rename_i ex
    cases e
    obtain ⟨a, xs, rfl, h1, _⟩ := vw_dct w h ex
    obtain rfl : u = Value.ref a := r
    have g : DGet H a (kV (.inl 0)) (valV xs (.inl 0)) := .inl ⟨xs, .inl 0, h1, rfl, rfl⟩
    refine ⟨dict_typeIs I g, fun b hb => ?_⟩
    cases hb
    exact dict_noDict I g a rfl
  · rename_i ex
    cases e
    have h1 := vw_ok w h ex
    cases h1
    exact tyV_is (T := "str") I r rfl
  · cases e
/-- a built-in's method, its arguments -/
theorem bmWith_any {id : String} {first : List Value} {args : List Expr} {pos : Pos} {pins : List (Addr × Obj)} {s : Shared} {σ : L2.St} {H : Hp} {Q : VK} (hns : noStar args = true) (I : Inv X pins σ H s)
    (h : WAz X args σ H fun vs H1 => ∀ pins s us, Inv X pins σ H1 s → Vals vs us → wpAny (model X.prog X.w) X.A (call (.builtin id) (first ++ us)) (EP X pins σ Q) X.xe s) :
    wpAny (model X.prog X.w) X.A (callWith pos (.builtin id) first (backTo pos (starEach args X.env)) (backToKw pos (keywordEach [] X.env))) (EP X pins σ Q) X.xe s := by
  cases args with
  | nil =>
    rcases h with h | h
    · exact Calls.callWith_builtin rfl (PySem.evalArgs_none (h.2 pins s [] I .nil))
    · exact absurd rfl h.1
  | cons e es =>
    rcases h with h | h
    · cases h.1
    have he : starred e = false := by
      unfold noStar at hns
      rw [List.all_cons, Bool.and_eq_true, Bool.not_eq_true'] at hns
      exact hns.1
    have hA := h.2 pos pins s I
    have hpl := star_any (env := X.env) (pos := pos) hns
    rw [star_cons he] at hA hpl ⊢
    refine Calls.callWith_builtin hpl (Calls.evalArgs_plain ?_)
    exact thn hA fun us s2 ⟨vs, H2, I2, r2, q2⟩ => q2 pins s2 us I2 r2
theorem se_meth (k : XOk X A Pg Φ lv c) {R : Evs} (hR : ∀ a, SE X A Γ a (R.e c Γ a)) {o : Expr} {m : Str} {ap pos : Pos} {args : List Expr} {kws : List Keyword} (hs : noSuper o = true) (hl : (ap.endLine == pos.line) = true) (hf : args.length + kws.length < 28) (hn : noStar args = true) :
    SE X A Γ (.Call (.Attribute o m ap) args kws pos) (methM Pg Φ R c Γ o m args kws) := by
  intro F ρ T σ H r Q g e p pins s I
  unfold methM at e
  obtain ⟨ks, hks⟩ : ∃ ks, kwNames kws = some ks := by
    cases hk : kwNames kws with
    | none => rw [hk] at e; cases e
    | some ks => exact ⟨ks, rfl⟩
  rw [hks] at e
  dsimp only at e
  refine PySem.W.methodCall_KW (pl := plainOf o X.env) ?_ (meth_eq hs hl hf hn hks)
  refine thn ((hR o).bind (Qm := fun v H1 => ∀ pins s, Inv X pins σ H1 s → ∀ u, RelV v u → wpAny (model X.prog X.w) X.A (getMethod u m (plainOf o X.env)) (fun fx s2 => wpAny (model X.prog X.w) X.A (callWith pos fx.1 fx.2 (backTo pos (starEach args X.env)) (backToKw pos (keywordEach kws X.env))) (EP X pins σ Q) X.xe s2) X.xe s) g e p (fun d T1 v ρ1 H1 s1 g1 r1 e1 p1 => ?_) pins s I) fun u s1 ⟨v, H1, I1, rv, q⟩ => q pins s1 I1 u rv
  intro pins s I u ru
  split at e1
  · rename_i f hm
    unfold methO at hm
    split at hm
    · rename_i C gs hi
      split at hm
      · rename_i hlk
        obtain ⟨a, dx, fs, rfl, ha, hd⟩ := ins_ok g1.wd r1 hi
        obtain rfl : u = Value.ref a := ru
        obtain ⟨hc, hmt⟩ := k.kn.meth C m f hm
        refine getmeth_ok I ha hc hmt (hd.non hlk) ?_
        split at e1
        · rename_i b hb
          have F0 := k.kn.call f _ ks b hb
          obtain ⟨fd, ps, gU, gV, run, bnd, hkp, rel⟩ := F0.ex
          refine callWith_any hkp hn hks I ?_
          refine waz_list hR g1 e1 p1 fun ds T2 vs ρ2 H2 s2 g2 r2 l2 e2 p2 => skz_list hR hks g2 e2 p2 fun es T3 zs ρ3 H3 s3 g3 r3 l3 e3 p3 => ?_
          intro pins s us ws I ru rw'
          exact cal_run k F0 g3.wd (.cons ((r1.stp s2).stp s3) (r2.stp s3)) r3 (by rw [List.length_cons, l2]) l3 e3 p3 I (.cons rfl ru) rw'
        · cases e1
      · cases hm
    · cases hm
  · split at e1
    · rename_i hke
      cases kws with
      | cons _ _ => cases hke
      | nil =>
        split at e1
        · rename_i kd mn hkd hmn
          obtain ⟨hT, hd⟩ := kind_is g1.wd r1 hkd I ru
          cases hks
          split at e1
          · rename_i hok
            obtain ⟨id, r0, pa, slot, hty, hmt, hop⟩ := (bm_all (X := X) (A := A) hmn hok).ex
            refine getMethod_builtin hT pa slot hty hd ?_
            refine bmWith_any hn I ?_
            refine waz_list hR g1 e1 p1 fun ds T2 vs ρ2 H2 s2 g2 r2 l2 e2 p2 => ?_
            intro pins s us I ru'
            obtain ⟨z, T', rfl, hgo⟩ := hop F ρ2 T2 H2 v vs d ds r Q g2.wd (r1.stp s2) r2 e2
            exact hmt pins s σ H2 v vs u us Q I ru ru' (hgo p2)
          · cases e1
        · cases e1
    · cases e1
end
end RR
set_option maxHeartbeats 1000000
/-! R14: a def called by its name; an instance made. -/
namespace RR
open PySem PySem.Spec PyProof.Rows L2
section
variable {X : Cx} {A : Nm} {Pg : Prg} {Φ : Str → List D → Mo D} {lv : Nat} {c : Cn} {Γ : En}
theorem glob_fn (k : XOk X A Pg Φ lv c) {x f : Str} (h : Pg.glob x = some (.fn f)) : X.mg x = some (.ref (A.fa f)) := by
  obtain ⟨v, u, h1, h2, h3⟩ := k.kn.glob x _ h
  have h4 := h3 [] (fun _ => none)
  cases h4
  rw [h1, show u = Value.ref (A.fa f) from h2]
theorem glob_cls (k : XOk X A Pg Φ lv c) {x : Str} {C : Nat} (h : Pg.glob x = some (.cls C)) : X.mg x = some (.ref (A.ca C)) := by
  obtain ⟨v, u, h1, h2, h3⟩ := k.kn.glob x _ h
  have h4 := h3 [] (fun _ => none)
  cases h4
  rw [h1, show u = Value.ref (A.ca C) from h2]
theorem se_def (k : XOk X A Pg Φ lv c) {R : Evs} (hR : ∀ a, SE X A Γ a (R.e c Γ a)) {x f : Str} {p pos : Pos} {args : List Expr} {kws : List Keyword} {ks : List Str} {g0 : List D → List D → List D} (ho : okName x = true) (hg : glB c.sc x = true) (hx : Pg.glob x = some (.fn f)) (hks : kwNames kws = some ks) (hb : Pg.bnd f args.length ks = some g0) (hn : noStar args = true) :
    SE X A Γ (.Call (.Name x p) args kws pos) ((evL (R.e c Γ) args).bind fun ds => (evK (R.e c Γ) kws).bind fun es => Φ f (g0 ds es)) := by
  intro F ρ T σ H r Q g e p0 pins s I
  have F0 := k.kn.call f _ ks g0 hb
  obtain ⟨fd, ps, gU, gV, run, bnd, hkp, rel⟩ := F0.ex
  refine wpAny_Call_Name_kw (ld_glob I (gl_of (by rw [k.sc]; exact hg)) (glob_fn k hx) ?_ (okName_dec ho).1)
  refine callWith_any (first := []) hkp hn hks I ?_
  refine waz_list hR g e p0 fun ds T2 vs ρ2 H2 s2 g2 r2 l2 e2 p2 => skz_list hR hks g2 e2 p2 fun es T3 zs ρ3 H3 s3 g3 r3 l3 e3 p3 => ?_
  intro pins s us ws I ru rw'
  exact cal_run k F0 g3.wd (r2.stp s3) r3 l2 l3 e3 p3 I ru rw'
/-! ### an instance -/
theorem make_run (k : XOk X A Pg Φ lv c) {C : Nat} {f : Str} {n : Nat} {ks : List Str} {g0 : List D → List D → List D} (hi : Pg.init C = some f) (hb : Pg.bnd f (n + 1) ks = some g0) {F ρ : List Addr} {T : List Ob} {σ : L2.St} {H : Hp} {r : Rs D} {Q : VK} {vs zs : List V} {ds es : List D}
    (g : Gd (Bx X A) F ρ T σ H Γ) (hv : DDs (Bx X A) ρ (cutR F ρ H) vs ds) (hz : DDs (Bx X A) ρ (cutR F ρ H) zs es) (hn : ds.length = n) (hm : es.length = ks.length) (e : makeM Pg Φ C f (fun self => g0 (self :: ds) es) T = some r) (p : Post X A F ρ H σ (rD X A) r Q)
    {pins : List (Addr × Obj)} {s : Shared} {us ws : List Value} (I : Inv X pins σ H s) (ru : Vals vs us) (rw' : Vals zs ws) : wpAny (model X.prog X.w) X.A (call (.ref (A.ca C)) us (ks.zip ws)) (EP X pins σ Q) X.xe s := by
  have M := k.kn.init C f hi
  have F0 := k.kn.call f _ ks g0 hb
  -- the new instance
  have hdx : H s.heap.objs.size = none := I.hok.fresh (Nat.le_refl _)
  have hself : H (s.heap.objs.size + 1) = none := I.hok.fresh (Nat.le_succ _)
  obtain ⟨w1, s1, _⟩ := g.wd.new (o := .own (s.heap.objs.size + 1)) hdx
  have hself1 : L2.upd H s.heap.objs.size (.own (s.heap.objs.size + 1)) (s.heap.objs.size + 1) = none := by rw [upd_ne (Nat.succ_ne_self _)]; exact hself
  obtain ⟨w2, s2⟩ := w1.push (o := .ins (A.ca C) s.heap.objs.size []) (ob := .ins C []) hself1 ⟨s.heap.objs.size, [], upd_same, .nil⟩
  have s12 := s1.trans s2
  have I2 := Inv.made (C := A.ca C) I
  have hadr : DD (Bx X A) (ρ ++ [s.heap.objs.size + 1]) (cutR F (ρ ++ [s.heap.objs.size + 1]) (L2.upd (L2.upd H s.heap.objs.size (.own (s.heap.objs.size + 1))) (s.heap.objs.size + 1) (.ins (A.ca C) s.heap.objs.size []))) (.ref (s.heap.objs.size + 1)) (.adr T.length) :=
    .adr (by rw [← g.wd.len, List.getElem?_append_right (Nat.le_refl _), Nat.sub_self]; rfl)
  unfold makeM at e
  split at e
  · rename_i T' eΦ
    have main : ∀ Q' : VK, (∀ v ρ' H', Stp F (ρ ++ [s.heap.objs.size + 1]) (L2.upd (L2.upd H s.heap.objs.size (.own (s.heap.objs.size + 1))) (s.heap.objs.size + 1) (.ins (A.ca C) s.heap.objs.size [])) ρ' H' → Wd (Bx X A) F ρ' T' H' → DD (Bx X A) ρ' (cutR F ρ' H') v .non → Q' v H') → (∀ v H', Q' v H' → v = .non ∧ Q (.ref (s.heap.objs.size + 1)) H') →
        wpAny (model X.prog X.w) X.A (call (.ref (A.ca C)) us (ks.zip ws)) (EP X pins σ Q) X.xe s := fun Q' q' q'' => by
      have run := cal_code F0 (Q := Q') (E := fun _ _ _ => False) (r := .ok .non T') w2 (.cons hadr (hv.stp s12)) (hz.stp s12) (by rw [List.length_cons, hn]) hm eΦ q'
        (Ar := X.A.under (.builtin "type.__call__" ⟨.ref (A.ca C) :: us, ks.zip ws⟩)) (outer := X.stack) (us := .ref (s.heap.objs.size + 1) :: us) k.gd ((k.rm.make (A.ca C) us (ks.zip ws)).mono (by omega)) (I2.env0.make (A.ca C) us (ks.zip ws)) I2.kIn (.cons rfl ru) rw'
      refine wpAny_call (make_map (f := A.fa f) I.kIn M.makes M.init (beq_iff_eq.mp M.fn) (codeAny_mono run fun r0 s' h0 => ?_))
      cases r0 with
      | error er =>
        obtain ⟨_, _, _, _, _, _, _, _, _, _, _, _, bad⟩ := h0
        exact bad.elim
      | ok fl => cases fl with
        | ret u =>
          obtain ⟨v, H', I3, rv, q3⟩ := I2.after h0
          obtain ⟨ev, q4⟩ := q'' v H' q3
          subst ev
          exact ⟨rv, .ref (s.heap.objs.size + 1), H', I3, rfl, q4⟩
        | next => cases h0
        | brk => cases h0
        | cont => cases h0
    split at e
    · split at e
      · rename_i C' gs hT
        split at e
        · rename_i hc
          cases e
          obtain ⟨rfl, hbel, hok⟩ := hc
          refine main (fun v H' => v = .non ∧ Q (.ref (s.heap.objs.size + 1)) H') (fun v ρ' H' s3 w3 d3 => ⟨by cases d3; rfl, ?_⟩) fun _ _ h => h
          have s13 := s12.trans s3
          have hok' : okT T T' = true := hok
          obtain ⟨w4, s4⟩ := Wd.drop g.wd s13 w3 hok'
          refine p _ ρ H' s4 w4 ?_
          have ha : ρ'[T.length]? = some (s.heap.objs.size + 1) := pre_get s3.pre (by rw [← g.wd.len, List.getElem?_append_right (Nat.le_refl _), Nat.sub_self]; rfl)
          obtain ⟨dx, fs, h1, h2⟩ := w3.ok _ _ _ ha hT
          have hfr : s.heap.objs.size + 1 ∉ F ++ ρ := fun m => g.wd.has m hself
          have h3 : cutR F ρ H' (s.heap.objs.size + 1) = some (.ins (A.ca C') dx fs) := by
            unfold cutR
            rw [cut_at hfr]
            exact h1
          have h4 := h2.back (back_same s13) hbel
          rw [take_pre g.wd s13] at h4
          exact .obj h3 h4
        · cases e
      · cases e
    · split at e
      · cases e
        refine main (fun v H' => v = .non ∧ Q (.ref (s.heap.objs.size + 1)) H') (fun v ρ' H' s3 w3 d3 => ⟨by cases d3; rfl, ?_⟩) fun _ _ h => h
        refine p _ ρ' H' (s12.trans s3) w3 (.adr ?_)
        exact pre_get s3.pre (by rw [← g.wd.len, List.getElem?_append_right (Nat.le_refl _), Nat.sub_self]; rfl)
      · cases e
  · cases e
theorem se_make (k : XOk X A Pg Φ lv c) {R : Evs} (hR : ∀ a, SE X A Γ a (R.e c Γ a)) {x f : Str} {C : Nat} {p pos : Pos} {args : List Expr} {kws : List Keyword} {ks : List Str} {g0 : List D → List D → List D} (ho : okName x = true) (hg : glB c.sc x = true) (hx : Pg.glob x = some (.cls C)) (hi : Pg.init C = some f) (hks : kwNames kws = some ks) (hb : Pg.bnd f (args.length + 1) ks = some g0) (hn : noStar args = true) :
    SE X A Γ (.Call (.Name x p) args kws pos) ((evL (R.e c Γ) args).bind fun ds => (evK (R.e c Γ) kws).bind fun es => makeM Pg Φ C f fun self => g0 (self :: ds) es) := by
  intro F ρ T σ H r Q g e p0 pins s I
  have M := k.kn.init C f hi
  refine wpAny_Call_Name_kw (ld_glob I (gl_of (by rw [k.sc]; exact hg)) (glob_cls k hx) ?_ (okName_dec ho).1)
  refine callWith_any (first := []) M.kp hn hks I ?_
  refine waz_list hR g e p0 fun ds T2 vs ρ2 H2 s2 g2 r2 l2 e2 p2 => skz_list hR hks g2 e2 p2 fun es T3 zs ρ3 H3 s3 g3 r3 l3 e3 p3 => ?_
  intro pins s us ws I ru rw'
  exact make_run k hi hb g3 (r2.stp s3) r3 l2 l3 e3 p3 I ru rw'
end
end RR
set_option maxHeartbeats 1000000
/-! R15: the built-ins that only read. -/
namespace RR
open PySem PySem.Spec PyProof.Rows L2
section
variable {X : Cx} {A : Nm} {Pg : Prg} {Φ : Str → List D → Mo D} {lv : Nat} {c : Cn} {Γ : En}
/-! ### repr -/
theorem reads_plain {B : Bas} {ρ : List Addr} {pins : List (Addr × Obj)} {σ : L2.St} {H : Hp} {s : Shared} (hB : B.K = X.K) (I : Inv X pins σ H s) {v : V} {u : Value} {d : D} (h : DD B ρ H v d) (r : RelV v u) (p : plainD d = true) : ∃ as, Reads s.heap u (toPy d) as := Dp.reads I _ v u (hB ▸ dp_of h p) r
mutual
theorem plain_hd : ∀ d : D, plainD d = true → (toPy d).hasDict = false
  | .non, _ => by simp [toPy, PyData.hasDict]
  | .bl _, _ => by simp [toPy, PyData.hasDict]
  | .int _, _ => by simp [toPy, PyData.hasDict]
  | .str _, _ => by simp [toPy, PyData.hasDict]
  | .lst ds, h => by simpa [toPy, PyData.hasDict] using plain_hds ds (by simpa [plainD] using h)
  | .tup ds, h => by simpa [toPy, PyData.hasDict] using plain_hds ds (by simpa [plainD] using h)
  | .dct _, h => by simp [plainD] at h
  | .ty _, h => by simp [plainD] at h
  | .obj _ _, h => by simp [plainD] at h
  | .cls _, h => by simp [plainD] at h
  | .fn _, h => by simp [plainD] at h
  | .adr _, h => by simp [plainD] at h
theorem plain_hds : ∀ ds : List D, plainDs ds = true → PyData.hasDictAll (toPys ds) = false
  | [], _ => by simp [toPys, PyData.hasDictAll]
  | d :: ds, h => by
    simp only [plainDs, Bool.and_eq_true] at h
    simp [toPys, PyData.hasDictAll, plain_hd d h.1, plain_hds ds h.2]
end
theorem reads_kv {P : Program} {w : World} {B : Bas} {ρ : List Addr} {S : Hp} {h : Heap} : ∀ {ws : List (Key × V)} {kvs : List (Key × D)} {vs : List (Key × Value)} {es : List DictEntry}, DDk B ρ S ws kvs → (kvs.all fun p => atom p.2) = true → KV ws vs → Pairs (mixKind P w) es vs →
    ReadsAll h (es.map (·.key)) ((toPyKv kvs).map (·.1)) [] ∧ ReadsAll h (es.map (·.val)) ((toPyKv kvs).map (·.2)) []
  | _, _, _, _, .nil, _, .nil, .nil => ⟨.nil, .nil⟩
  | _, _, _, _, .cons (k := k) (d := dv) hd hr, a, .cons (b := kv) r1 r2, .cons (e := en) e1 e2 e3 => by
    rw [List.all_cons, Bool.and_eq_true] at a
    obtain ⟨i1, i2⟩ := reads_kv (h := h) hr a.2 r2 e3
    have hk : keyIs k en.key = true := by
      have z : k = kv.1 := r1.1
      rw [z]
      exact e1
    have k1 : Reads h en.key (keyPy k) [] := by
      rcases keyIs_shape hk with ⟨i, t, e, ev⟩ | ⟨x, t, e, ev⟩
      · rw [ev, e]; exact .int i t
      · rw [ev, e]; exact .str x t
    have v1 : Reads h en.val (toPy dv) [] := by
      have rv := r1.2
      have ha : atom dv = true := a.1
      rw [e2]
      cases hd with
      | non => rw [show _ = Value.none from rv]; exact .none
      | bl b => rw [show _ = Value.bool b from rv]; exact .bool b
      | int i => obtain ⟨t, e⟩ := rv; rw [e]; exact .int i t
      | str x => obtain ⟨t, e⟩ := rv; rw [e]; exact .str x t
      | _ => exact absurd ha Bool.false_ne_true
    exact ⟨.cons (as := []) (bs := []) k1 i1, .cons (as := []) (bs := []) v1 i2⟩
def rRepr (X : Cx) (A : Nm) : List V → Hp → VK → Prop := fun xs H Q => ∃ (x : V) (d : D) (ρ : List Addr), xs = [x] ∧ DD (Bx X A) ρ H x d ∧ Shw d ∧ Q (.str (sh d)) H
theorem call_repr (hG : X.A.guards = some []) (hu : X.A.units + 64 < cLine) : CallR X (.builtin "repr") (rRepr X A) := by
  intro pins s σ H xs us Q I r h
  obtain ⟨x, d, ρ, rfl, hd, w, q⟩ := h
  obtain ⟨u, rfl, ru⟩ := vals1 r
  have hz := w.len
  have hsh := w.show_
  have hdp := w.deep
  have fin : ∀ {a : Addr} {as : List Addr}, u = .ref a → Reads s.heap (.ref a) (toPy d) as → ((toPy d).hasDict = true → sysModules ∉ as) → wpAny (model X.prog X.w) X.A (call (.builtin "repr") [u]) (EP X pins σ Q) X.xe s := fun {a as} eu rd hs => by
    subst eu
    exact repr_of_reads' rd hsh hs hG (by omega) (fun _ _ e => e) (fun h' u tk hk => ⟨.str (sh d), H, I.kept (t' := tk) hk, ⟨u, rfl⟩, q⟩) hz
  rcases w.kind with hp | hp
  · obtain ⟨as, rd⟩ := reads_plain rfl I hd ru hp
    cases hd with
    | non => cases (show u = Value.none from ru); exact PySem.P.repr_of_none ⟨.str _, H, I.tok _, ⟨_, rfl⟩, q⟩
    | bl b => cases (show u = Value.bool b from ru); exact PySem.P.repr_of_bool ⟨.str (if b then "True" else "False"), H, I.tok _, ⟨_, rfl⟩, q⟩
    | int i =>
      obtain ⟨t, e⟩ := (show ∃ t, u = Value.int i t from ru)
      subst e
      exact PySem.P.repr_of_int (by simpa [toPy, PyData.showable] using hsh) ⟨.str _, H, I.tok _, ⟨_, rfl⟩, q⟩
    | str y =>
      obtain ⟨t, e⟩ := (show ∃ t, u = Value.str y t from ru)
      subst e
      exact PySem.P.repr_of_str ⟨.str _, H, I.tok _, ⟨_, rfl⟩, q⟩ hz
    | lst hq r => exact fin (show u = _ from ru) ((show u = _ from ru) ▸ rd) (PyData.noDict_hsm (plain_hd _ hp))
    | tup hq r => exact fin (show u = _ from ru) ((show u = _ from ru) ▸ rd) (PyData.noDict_hsm (plain_hd _ hp))
    | _ => simp [plainD] at hp
  · cases hd with
    | @dct a ws kvs hq rk =>
      obtain ⟨hl, lo, vs, kv, o, es, ep, ho, hx, hdt, hk, pr, nd⟩ := hq.ok I.hok
      obtain ⟨k1, k2⟩ := reads_kv (h := s.heap) rk (show (kvs.all fun p => atom p.2) = true from hp) kv pr
      exact fin (show u = _ from ru) (.dict ho hx.1 hdt k1 k2) fun _ hm => by
        simp at hm
        rw [← hm] at lo
        simp at lo
    | _ => exact absurd hp (by simp [flatDict])
end
end RR
set_option maxHeartbeats 1000000
/-! R16: built-ins by their names. -/
namespace RR
open PySem PySem.Spec PyProof.Rows L2
section
variable {X : Cx} {A : Nm} {Pg : Prg} {Φ : Str → List D → Mo D} {lv : Nat} {c : Cn} {Γ : En}
def OpC (X : Cx) (A : Nm) (r0 : List V → Hp → VK → Prop) (f : List Ob → List D → Option D) : Prop :=
  ∀ F ρ T H vs ds z Q, Wd (Bx X A) F ρ T H → DDs (Bx X A) ρ (cutR F ρ H) vs ds → f T ds = some z → (∀ v H', Stp F ρ H ρ H' → Wd (Bx X A) F ρ T H' → DD (Bx X A) ρ (cutR F ρ H') v z → Q v H') → r0 vs H Q
structure Bq (X : Cx) (A : Nm) (x : Str) (f : List Ob → List D → Option D) : Prop where
  ex : ∃ fv r0, bootBuiltins x = some fv ∧ ((∃ id, fv = .builtin id) ∨ ∃ t, fv = .type t) ∧ CallR X fv r0 ∧ OpC X A r0 f
/-- one argument, seen -/
theorem opc1 {r0 : List V → Hp → VK → Prop} {b : Bi} (h1 : ∀ F ρ T H v x z Q, Wd (Bx X A) F ρ T H → DD (Bx X A) ρ (cutR F ρ H) v x → ∀ x', vw T x = some x' → bi1 b x' = some z → (∀ v H', Stp F ρ H ρ H' → Wd (Bx X A) F ρ T H' → DD (Bx X A) ρ (cutR F ρ H') v z → Q v H') → r0 [v] H Q)
    (h2 : ∀ x y, bi2 b x y = none) : OpC X A r0 (biO b) := by
  intro F ρ T H vs ds z Q w hv e q
  unfold biO at e
  split at e
  · obtain ⟨x', ex, e1⟩ := Option.bind_eq_some_iff.mp e
    cases hv with
    | cons h r => cases r; exact h1 F ρ T H _ _ z Q w h x' ex e1 q
  · obtain ⟨x', ex, e1⟩ := Option.bind_eq_some_iff.mp e
    rw [h2] at e1
    cases e1
  · cases e
def rLenD : List V → Hp → VK → Prop := fun xs H Q => ∃ a ws, xs = [.ref a] ∧ Rd H a (.dK ws) ∧ Q (.int (ws.length : Nat)) H
theorem call_lenD : CallR X (.builtin "len") rLenD := by
  intro pins s σ H xs us Q I r ⟨a, ws, ex, hr, q⟩
  subst ex
  obtain ⟨u, rfl, ru⟩ := vals1 r
  cases ru
  exact d_len I hr fun t s' I' => ⟨.int _, H, I', ⟨t, rfl⟩, q⟩
theorem DDk.len {B : Bas} {ρ : List Addr} {S : Hp} : ∀ {ws : List (Key × V)} {kvs : List (Key × D)}, DDk B ρ S ws kvs → ws.length = kvs.length
  | _, _, .nil => rfl
  | _, _, .cons _ r => by rw [List.length_cons, List.length_cons, DDk.len r]
theorem bq_len : Bq X A "len" (biO .len) := ⟨_, _, by decide +kernel, .inl ⟨_, rfl⟩, CallR.or call_len_seq (CallR.or call_len_str call_lenD), opc1 (fun F ρ T H v x z Q w hx x' ex e q => by
  obtain ⟨n, e1, rfl⟩ := Option.map_eq_some_iff.mp e
  unfold lenO at e1
  split at e1
  · split at e1
    · cases e1
      have h1 := vw_ok w hx ex
      cases h1
      rename_i hz
      exact .inr (.inl ⟨_, rfl, hz, q _ _ .refl w (.int _)⟩)
    · cases e1
  · cases e1
    obtain ⟨a, xs, rfl, h1, r1⟩ := vw_lst w hx ex
    refine .inl ⟨a, xs, rfl, .inl (sql_of h1), ?_⟩
    rw [r1.len]
    exact q _ _ .refl w (.int _)
  · cases e1
    obtain ⟨a, xs, rfl, h1, r1⟩ := vw_tup hx ex
    refine .inl ⟨a, xs, rfl, .inr h1, ?_⟩
    rw [r1.len]
    exact q _ _ .refl w (.int _)
  · cases e1
    obtain ⟨a, xs, rfl, h1, r1⟩ := vw_dct w hx ex
    refine .inr (.inr ⟨a, xs, rfl, h1, ?_⟩)
    rw [r1.len]
    exact q _ _ .refl w (.int _)
  · cases e1) fun _ _ => rfl⟩
theorem bq_abs : Bq X A "abs" (biO .abs) := ⟨_, _, by decide +kernel, .inl ⟨_, rfl⟩, call_abs, opc1 (fun F ρ T H v x z Q w hx x' ex e q => by
  simp only [bi1] at e
  split at e
  · cases e
    have h1 := vw_ok w hx ex
    cases h1
    exact ⟨_, rfl, q _ _ .refl w (.int _)⟩
  · cases e) fun _ _ => rfl⟩
theorem bq_repr (hG : X.A.guards = some []) (hu : X.A.units + 64 < cLine) : Bq X A "repr" (biO .repr) := ⟨_, _, by decide +kernel, .inl ⟨_, rfl⟩, call_repr (A := A) hG hu, opc1 (fun F ρ T H v x z Q w hx x' ex e q => by
  simp only [bi1] at e
  split at e
  · rename_i hs
    cases e
    exact ⟨v, x', ρ, rfl, vw_ok w hx ex, shwB_ok.mp hs, q _ _ .refl w (.str _)⟩
  · cases e) fun _ _ => rfl⟩
theorem bq_tuple : Bq X A "tuple" (biO .tuple) := ⟨_, _, by decide +kernel, .inr ⟨_, rfl⟩, call_tuple_of, opc1 (fun F ρ T H v x z Q w hx x' ex e q => by
  obtain ⟨ds, e1, rfl⟩ := Option.map_eq_some_iff.mp e
  unfold seqO at e1
  split at e1
  · cases e1
    obtain ⟨a, xs, rfl, h1, r1⟩ := vw_lst w hx ex
    exact ⟨a, xs, rfl, .inl ⟨sql_of h1, fun p hp => q _ _ (w.new hp).2.1 (w.new hp).1 (dd_new w hp r1).1⟩⟩
  · cases e1
    have e2 := vw_same hx ex
    subst e2
    obtain ⟨a, xs, rfl, h1, r1⟩ := vw_tup hx ex
    exact ⟨a, xs, rfl, .inr ⟨h1, q _ _ .refl w hx⟩⟩
  · cases e1) fun _ _ => rfl⟩
theorem bq_list : Bq X A "list" (biO .list) := ⟨_, _, by decide +kernel, .inr ⟨_, rfl⟩, call_list_of, opc1 (fun F ρ T H v x z Q w hx x' ex e q => by
  obtain ⟨ds, e1, rfl⟩ := Option.map_eq_some_iff.mp e
  unfold seqO at e1
  split at e1
  · cases e1
    obtain ⟨a, xs, rfl, h1, r1⟩ := vw_lst w hx ex
    exact ⟨a, xs, rfl, .inl (sql_of h1), fun p hp => q _ _ (w.new hp).2.1 (w.new hp).1 (dd_new w hp r1).2⟩
  · cases e1
    obtain ⟨a, xs, rfl, h1, r1⟩ := vw_tup hx ex
    exact ⟨a, xs, rfl, .inr h1, fun p hp => q _ _ (w.new hp).2.1 (w.new hp).1 (dd_new w hp r1).2⟩
  · cases e1) fun _ _ => rfl⟩
theorem bls_dds {B : Bas} {ρ : List Addr} {S : Hp} : ∀ {vs : List V} {ds : List D} {bs : List Bool}, DDs B ρ S vs ds → blsO ds = some bs → vs = bs.map V.bl
  | _, _, _, .nil, e => by cases e; rfl
  | _, _, _, .cons h r, e => by
    cases h <;> first | (cases e; done) | skip
    obtain ⟨bs, e1, rfl⟩ := Option.map_eq_some_iff.mp e
    rw [bls_dds r e1]
    rfl
theorem bq_all (hc : X.calm = true) : Bq X A "all" (biO .all) := ⟨_, _, by decide +kernel, .inl ⟨_, rfl⟩, cr_all hc, opc1 (fun F ρ T H v x z Q w hx x' ex e q => by
  simp only [bi1] at e
  split at e
  · obtain ⟨bs, e1, rfl⟩ := Option.map_eq_some_iff.mp e
    obtain ⟨a, xs, rfl, h1, r1⟩ := vw_lst w hx ex
    rw [bls_dds r1 e1] at h1
    exact ⟨a, bs, rfl, sql_of h1, q _ _ .refl w (.bl _)⟩
  · cases e) fun _ _ => rfl⟩
theorem bq_any (hc : X.calm = true) : Bq X A "any" (biO .any) := ⟨_, _, by decide +kernel, .inl ⟨_, rfl⟩, cr_any hc, opc1 (fun F ρ T H v x z Q w hx x' ex e q => by
  simp only [bi1] at e
  split at e
  · obtain ⟨bs, e1, rfl⟩ := Option.map_eq_some_iff.mp e
    obtain ⟨a, xs, rfl, h1, r1⟩ := vw_lst w hx ex
    rw [bls_dds r1 e1] at h1
    exact ⟨a, bs, rfl, sql_of h1, q _ _ .refl w (.bl _)⟩
  · cases e) fun _ _ => rfl⟩
theorem bq_int : Bq X A "int" (biO .int) := ⟨_, _, by decide +kernel, .inr ⟨_, rfl⟩, call_int1, opc1 (fun F ρ T H v x z Q w hx x' ex e q => by
  simp only [bi1] at e
  have h1 := vw_ok w hx ex
  split at e
  · cases e
    cases h1
    exact .inl ⟨_, rfl, q _ _ .refl w (.int _)⟩
  · cases e
    cases h1
    exact .inr ⟨_, rfl, q _ _ .refl w (.int _)⟩
  · cases e) fun _ _ => rfl⟩
end
end RR
set_option maxHeartbeats 1000000
/-! R17: sorted, min, max, isinstance; a call of a built-in. -/
namespace RR
open PySem PySem.Spec PyProof.Rows L2
/-! ### sorted(texts) -/
section
variable {prog : Program} {w : World} {A : Around} {E : Value → Shared → Prop} {s : Shared}
theorem collect_tup {l : Addr} {vs : List Value} {Q : List Value → Shared → Prop} (hl : IsTup s.heap l vs.toArray)
    (h : Q vs { s with heap := (s.heap.push (seqObj "list" #[] 0)).update s.heap.objs.size (Obj.mapSeq (· ++ vs.toArray)) }) (hsz : vs.length ≤ sizeLine) : wpAny (model prog w) A (collect (.ref l)) Q E s := by
  obtain ⟨o, ho, hc, n, hd⟩ := id hl
  unfold collect
  refine wpAny_bind (wpAny_runValue (codeAny_builtin entry_proto_collect' ?_))
  show wpAny _ _ (do again (.builtin "list.__iadd__" ⟨[← newList [], .ref l], []⟩)) _ _ s
  refine wpAny_bind (wpAny_newList (wpAny_pure ⟨Code.quiet_builtin _ (by decide +kernel), codeAny_builtin entry_list_iadd' ?_⟩))
  show wpAny _ _ (Builtin.List.listExtendWith (.ref s.heap.objs.size) (.ref l) (.ref s.heap.objs.size)) _ _ { s with heap := s.heap.push (seqObj "list" #[] 0) }
  unfold Builtin.List.listExtendWith
  have hp : (s.heap.push (seqObj "list" #[] 0)).get? l = some o := Heap.get?_push_of_some _ ho
  have ht : (Value.type "tuple" == Value.type "tuple") = true := by rfl
  refine wpAny_bind (wpAny_typeOf (T := "tuple") ⟨o, hp, hc⟩ ?_)
  rw [if_pos (by rw [ht]; simp)]
  refine wpAny_bind (listItems_at hp hd (wpAny_bind (listItems_at (xs := #[]) (n := 0) (Heap.get?_push_size _ rfl) rfl ?_)))
  rw [if_neg (by simp)]
  refine wpAny_bind (listUpdate_at (xs := #[]) (n := 0) (Heap.get?_push_size _ rfl) rfl ?_ (Nat.zero_le _) (by show (#[] ++ vs.toArray).size ≤ sizeLine + 1; simp only [Array.size_append, List.size_toArray, List.length_nil]; omega))
  refine wpAny_pure ?_
  show wpAny (model prog w) A (do
      let o ← load s.heap.objs.size
      match o.data with
      | .seq xs _ => pure xs.toList
      | _ => unsupported "internal:collect") Q E { s with heap := (s.heap.push (seqObj "list" #[] 0)).update s.heap.objs.size (Obj.mapSeq (· ++ vs.toArray)) }
  refine wpAny_bind (wpAny_load (get?_update_seq (Heap.get?_push_size _ rfl) _) ?_)
  show wpAny _ _ (pure ((#[] : Array Value) ++ vs.toArray).toList) Q E _
  rw [show ((#[] : Array Value) ++ vs.toArray).toList = vs by simp]
  exact wpAny_pure h
theorem sorted_tupS {l : Addr} {vs : List Value} {ss : List Str} {Q : Value → Shared → Prop} (hl : IsTup s.heap l vs.toArray) (hS : StrsAre vs ss) (h64 : vs.length < 64)
    (h : ∀ (out : Array Value) (ss' : List Str), StrsAre out.toList ss' → ss'.Perm ss → sortedS ss' = true → Q (.ref (s.heap.objs.size + 1)) { s with heap := sortedAll s.heap vs out }) :
    wpAny (model prog w) A (call (.builtin "sorted") [.ref l]) Q E s := by
  refine Calls.call_function_entry kind_sorted plain_sorted entry_sorted (args_sorted1 _) ?_
  unfold Builtin.«sorted»
  refine wpAny_bind (m := checkCount "sorted" 1 1 _) (wpAny_pure (wpAny_bind (collect_tup hl (wpAny_bind (wpAny_newList ?_)) (by rw [sizeLine_eq]; omega))))
  have hsz : ((s.heap.push (seqObj "list" #[] 0)).update s.heap.objs.size (Obj.mapSeq (· ++ vs.toArray))).objs.size = s.heap.objs.size + 1 := by rw [Heap.size_update, size_push']
  have hoL : (((s.heap.push (seqObj "list" #[] 0)).update s.heap.objs.size (Obj.mapSeq (· ++ vs.toArray))).push (seqObj "list" vs.toArray 0)).get? (s.heap.objs.size + 1) = some (seqObj "list" vs.toArray 0) := by
    rw [← hsz]; exact Heap.get?_push_size _ rfl
  show wpAny _ _ _ _ _ { s with heap := ((s.heap.push (seqObj "list" #[] 0)).update s.heap.objs.size (Obj.mapSeq (· ++ vs.toArray))).push (seqObj "list" vs.toArray 0) }
  rw [hsz]
  refine wpAny_bind (wpAny_holding (wpAny_call_entry slot_list_sort ⟨_, hoL, rfl⟩ entry_list_sort (list_sort_treeK strKind_oneLt hoL hS.keysOf (fun v₁ v₂ rest e => keyKind_strs (by rw [← e]; exact hS)) h64 fun st' a1 a2 => ⟨_, rfl, ?_⟩) (args_list_sort _)))
  obtain ⟨ss', h1, h2, h3⟩ := sorted_out_str hS a1 a2
  exact wpAny_pure ⟨_, rfl, h _ ss' h1 h2 h3⟩
end
def leS (a b : Str) : Prop := ¬ b.cps.toList < a.cps.toList
theorem rising_pw : ∀ (l : List Str) (p : Str), risingS p l = true → (p :: l).Pairwise leS
  | [], p, _ => List.pairwise_singleton _ _
  | x :: r, p, h => by
    have h' : (!ltCps x.cps.toList p.cps.toList && risingS x r) = true := h
    rw [Bool.and_eq_true] at h'
    have ih := rising_pw r x h'.2
    have hx : leS p x := by
      have := h'.1
      rw [ltCps_eq] at this
      unfold leS
      simpa using this
    refine List.pairwise_cons.mpr ⟨fun y hy => ?_, ih⟩
    rcases List.mem_cons.mp hy with e | e
    · rw [e]; exact hx
    · have hxy : leS x y := (List.pairwise_cons.mp ih).1 y e
      unfold leS at hx hxy ⊢
      rw [List.not_lt] at hx hxy ⊢
      exact List.le_trans hx hxy
theorem sortedS_pw {l : List Str} (h : sortedS l = true) : l.Pairwise leS := by
  cases l with
  | nil => exact List.Pairwise.nil
  | cons x r => exact rising_pw r x h
theorem leS_anti {a b : Str} (h1 : leS a b) (h2 : leS b a) : a = b := by
  unfold leS at h1 h2
  rw [List.not_lt] at h1 h2
  have e := List.le_antisymm h1 h2
  cases a
  cases b
  simp only [Str.mk.injEq]
  exact Array.toList_inj.mp e
theorem sorted_one {l l' : List Str} (p : l.Perm l') (h : l.Pairwise leS) (h' : l'.Pairwise leS) : l = l' := List.Perm.eq_of_pairwise (fun a b _ _ h1 h2 => leS_anti h1 h2) h h' p
theorem insS_perm (x : Str) : ∀ l, (insS x l).Perm (x :: l)
  | [] => .refl _
  | y :: r => by
    unfold insS
    split
    · exact ((insS_perm x r).cons y).trans (.swap x y r)
    · exact .refl _
theorem srtS_perm : ∀ l, (srtS l).Perm l
  | [] => .refl _
  | x :: r => (insS_perm x _).trans ((srtS_perm r).cons x)
theorem insS_pw (x : Str) : ∀ {l : List Str}, l.Pairwise leS → (insS x l).Pairwise leS
  | [], _ => List.pairwise_singleton _ _
  | y :: r, h => by
    unfold insS
    obtain ⟨h1, h2⟩ := List.pairwise_cons.mp h
    split
    · rename_i hlt
      refine List.pairwise_cons.mpr ⟨fun z hz => ?_, insS_pw x h2⟩
      rcases List.mem_cons.mp ((insS_perm x r).mem_iff.mp hz) with e | e
      · rw [e]; unfold leS; rw [List.not_lt]; exact List.le_of_lt hlt
      · exact h1 z e
    · rename_i hlt
      refine List.pairwise_cons.mpr ⟨fun z hz => ?_, h⟩
      rcases List.mem_cons.mp hz with e | e
      · rw [e]; exact hlt
      · have := h1 z e
        unfold leS at this ⊢
        rw [List.not_lt] at this hlt ⊢
        exact List.le_trans hlt this
theorem srtS_pw : ∀ l, (srtS l).Pairwise leS
  | [] => .nil
  | x :: r => insS_pw x (srtS_pw r)
theorem srtS_of {ys xs : List Str} (p : ys.Perm xs) (h : sortedS ys = true) : ys = srtS xs := sorted_one (p.trans (srtS_perm xs).symm) (sortedS_pw h) (srtS_pw xs)
section
variable {X : Cx} {A : Nm} {Pg : Prg} {Φ : Str → List D → Mo D} {lv : Nat} {c : Cn} {Γ : En}
theorem cr_sortedTS : CallR X (.builtin "sorted") (fun vs H Q => ∃ (a : Addr) (xs : List Str), vs = [V.ref a] ∧ SqT X.K H a (xs.map V.str) ∧ xs.length < 64 ∧ ∀ (ys : List Str) (p : Addr), ys.Perm xs → sortedS ys = true → H p = none → Q (.ref p) (upd H p (.lst (ys.map V.str)))) := by
  intro pins s σ H vs us Q I r h
  obtain ⟨a, xs, rfl, hs, h64, q⟩ := h
  obtain ⟨its, rv, hl, _⟩ := I.tuple hs
  rw [Vals.ref1 r]
  have hlen0 := rv.length
  rw [List.length_map] at hlen0
  refine sorted_tupS hl rv.strs (by rw [← hlen0]; exact h64) fun out ys h1 h2 h3 => ?_
  obtain ⟨ep, he'⟩ := PyProof.Rows.sortedAll_at s.heap its out
  have hlen : (ys.map V.str).length ≤ sizeLine := by rw [List.length_map, h2.length_eq]; exact small64 h64
  exact ⟨.ref _, upd H (s.heap.objs.size + 1) (.lst (ys.map V.str)), I.laid (t' := s.toks) (fun _ _ => PyProof.Rows.sortedAll_old) (Nat.le_succ _) ⟨hlen, out.toList, ep, vals_of_strs h1, he'⟩, rfl, q ys _ h2 h3 (I.hok.fresh (Nat.le_succ _))⟩
theorem strs_dds {B : Bas} {ρ : List Addr} {S : Hp} : ∀ xs : List Str, DDs B ρ S (xs.map V.str) (xs.map D.str)
  | [] => .nil
  | x :: xs => .cons (.str x) (strs_dds xs)
theorem str_dds {B : Bas} {ρ : List Addr} {S : Hp} : ∀ {vs : List V} {ds : List D} {bs : List Str}, DDs B ρ S vs ds → strsO ds = some bs → vs = bs.map V.str
  | _, _, _, .nil, e => by cases e; rfl
  | _, _, _, .cons h r, e => by
    cases h <;> first | (cases e; done) | skip
    obtain ⟨bs, e1, rfl⟩ := Option.map_eq_some_iff.mp e
    rw [str_dds r e1]
    rfl
theorem int_dds {B : Bas} {ρ : List Addr} {S : Hp} : ∀ {vs : List V} {ds : List D} {bs : List Int}, DDs B ρ S vs ds → intsO ds = some bs → vs = bs.map V.int
  | _, _, _, .nil, e => by cases e; rfl
  | _, _, _, .cons h r, e => by
    cases h <;> first | (cases e; done) | skip
    obtain ⟨bs, e1, rfl⟩ := Option.map_eq_some_iff.mp e
    rw [int_dds r e1]
    rfl
theorem bq_sorted : Bq X A "sorted" (biO .sorted) := ⟨_, _, by decide +kernel, .inl ⟨_, rfl⟩, CallR.or cr_sortedS cr_sortedTS, opc1 (fun F ρ T H v x z Q w hx x' ex e q => by
  simp only [bi1] at e
  split at e
  · rename_i ds hds
    split at e
    · rename_i ss hss
      split at e
      · rename_i hl
        cases e
        unfold seqO at hds
        split at hds
        · cases hds
          obtain ⟨a, xs, rfl, h1, r1⟩ := vw_lst w hx ex
          rw [str_dds r1 hss] at h1
          refine .inl ⟨a, ss, rfl, sql_of h1, hl, fun ys p hp hs hn => ?_⟩
          rw [srtS_of hp hs]
          exact q _ _ (w.new hn).2.1 (w.new hn).1 (dd_new w hn (strs_dds _)).2
        · cases hds
          obtain ⟨a, xs, rfl, h1, r1⟩ := vw_tup hx ex
          rw [str_dds r1 hss] at h1
          refine .inr ⟨a, ss, rfl, h1, hl, fun ys p hp hs hn => ?_⟩
          rw [srtS_of hp hs]
          exact q _ _ (w.new hn).2.1 (w.new hn).1 (dd_new w hn (strs_dds _)).2
        · cases hds
      · cases e
    · cases e
  · cases e) fun _ _ => rfl⟩
theorem bq_max (hc : X.calm = true) : Bq X A "max" (biO .max) := ⟨_, _, by decide +kernel, .inl ⟨_, rfl⟩, call_max2 hc, by
  intro F ρ T H vs ds z Q w hv e q
  unfold biO at e
  split at e
  · obtain ⟨x', ex, e1⟩ := Option.bind_eq_some_iff.mp e
    cases e1
  · obtain ⟨x', ex, e1⟩ := Option.bind_eq_some_iff.mp e
    cases hv with
    | cons h r => cases r with
      | cons h2 r => cases r with
        | nil =>
          simp only [bi2] at e1
          split at e1
          · cases e1
            have h1 := vw_ok w h ex
            cases h1
            cases h2
            exact ⟨_, _, rfl, q _ _ .refl w (.int _)⟩
          · cases e1
  · cases e⟩
/-- min of a list of ints -/
def rMinL (K : PySem.W.Frag) : List V → Hp → VK → Prop := fun vs H Q => ∃ a i is, vs = [.ref a] ∧ SqL K H a ((i :: is).map V.int) ∧ Q (.int (is.foldl (fun a b => if b < a then b else a) i)) H
theorem reads_ints {h : Heap} : ∀ {is : List Int} {us : List Value}, Vals (is.map V.int) us → ReadsAll h us (is.map PyData.int) []
  | [], _, .nil => .nil
  | i :: is, _, .cons r t => by
    obtain ⟨tk, rfl⟩ := r
    exact .cons (as := []) (bs := []) (.int i tk) (reads_ints t)
theorem minD_ints : ∀ (is : List Int) (i : Int), PySem.W.minD (.int i) (is.map PyData.int) = .int (is.foldl (fun a b => if b < a then b else a) i)
  | [], _ => rfl
  | j :: is, i => by
    show PySem.W.minD (if PySem.W.dataLt (.int j) (.int i) = true then .int j else .int i) (is.map PyData.int) = _
    by_cases h : j < i
    · have : PySem.W.dataLt (.int j) (.int i) = true := by rw [PySem.W.dataLt_int]; exact decide_eq_true h
      rw [if_pos this, minD_ints is j, List.foldl_cons, if_pos h]
    · have : PySem.W.dataLt (.int j) (.int i) = false := by rw [PySem.W.dataLt_int]; exact decide_eq_false h
      rw [if_neg (by rw [this]; exact Bool.false_ne_true), minD_ints is i, List.foldl_cons, if_neg h]
theorem call_minL (hc : X.calm = true) (hu : X.A.units + 64 < cLine) : CallR X (.builtin "min") (rMinL X.K) := by
  intro pins s σ H vs us Q I r ⟨a, i, is, ex, hq, q⟩
  subst ex
  obtain ⟨u, rfl, ru⟩ := vals1 r
  cases ru
  obtain ⟨its, rv, hl, _⟩ := I.list hq
  have hh : X.A.handled = none := I.ok.hd hc
  have al : PySem.W.AlikeAll (.int i :: is.map PyData.int) := by
    have mem : ∀ x ∈ (PyData.int i :: is.map PyData.int), ∃ j, x = .int j := fun x hx => by
      rcases List.mem_cons.mp hx with rfl | hx
      · exact ⟨i, rfl⟩
      · obtain ⟨j, _, rfl⟩ := List.mem_map.mp hx
        exact ⟨j, rfl⟩
    refine ⟨fun x hx y hy => ?_, fun x hx => ?_⟩
    · obtain ⟨j, rfl⟩ := mem x hx
      obtain ⟨k, rfl⟩ := mem y hy
      rfl
    · obtain ⟨j, rfl⟩ := mem x hx
      exact fun z => by cases z
  have dep : PyData.depthAll (PyData.int i :: is.map PyData.int) ≤ 1 := by
    have d1 : ∀ l : List Int, PyData.depthAll (l.map PyData.int) ≤ 1 := fun l => by
      induction l with
      | nil => simp [PyData.depthAll]
      | cons a l ih => simp only [List.map_cons, PyData.depthAll, PyData.depth]; omega
    exact d1 (i :: is)
  refine PySem.W.min_list_data (x := .int i) (xs := is.map PyData.int) (as := []) hh hl.isList (by simpa using reads_ints (is := i :: is) rv) al (by omega) fun j v h' tk bs hj hr hk => ?_
  rw [minD_ints] at hr
  cases hr with
  | int n t => exact ⟨.int _, H, I.kept (t' := tk) hk, ⟨t, rfl⟩, q⟩
theorem bq_min (hc : X.calm = true) (hu : X.A.units + 64 < cLine) : Bq X A "min" (biO .min) := ⟨_, _, by decide +kernel, .inl ⟨_, rfl⟩, CallR.or (call_min2 hc) (call_minL hc hu), by
  intro F ρ T H vs ds z Q w hv e q
  unfold biO at e
  split at e
  · obtain ⟨x', ex, e1⟩ := Option.bind_eq_some_iff.mp e
    cases hv with
    | cons h r =>
      cases r
      simp only [bi1] at e1
      split at e1
      · obtain ⟨is, e2, e3⟩ := Option.bind_eq_some_iff.mp e1
        obtain ⟨a, xs, rfl, h1, r1⟩ := vw_lst w h ex
        rw [int_dds r1 e2] at h1
        obtain ⟨m, e4, rfl⟩ := Option.map_eq_some_iff.mp e3
        cases is with
        | nil => cases e4
        | cons i is =>
          cases e4
          exact .inr ⟨a, i, is, rfl, sql_of h1, q _ _ .refl w (.int _)⟩
      · cases e1
  · obtain ⟨x', ex, e1⟩ := Option.bind_eq_some_iff.mp e
    cases hv with
    | cons h r => cases r with
      | cons h2 r => cases r with
        | nil =>
          simp only [bi2] at e1
          split at e1
          · cases e1
            have h1 := vw_ok w h ex
            cases h1
            cases h2
            exact .inl ⟨_, _, rfl, q _ _ .refl w (.int _)⟩
          · cases e1
  · cases e⟩
/-! ### isinstance -/
theorem tyx_of {B : Bas} {ρ : List Addr} {H : Hp} {v : V} {d : D} (h : DD B ρ H v d) {t : String} (e : tyOf d = some t) : TyX B.K H v (.type t) ∧ t ∈ tyList := by
  cases h with
  | non => cases e; exact ⟨.base .non, by decide⟩
  | bl b => cases e; exact ⟨.base (.bl b), by decide⟩
  | int b => cases e; exact ⟨.base (.int b), by decide⟩
  | str b => cases e; exact ⟨.base (.str b), by decide⟩
  | lst h _ =>
    cases e
    refine ⟨?_, by decide⟩
    rcases h with h | ⟨o, h⟩
    · exact .base (.lst h)
    · exact .base (.frz h)
  | tup h _ =>
    cases e
    refine ⟨?_, by decide⟩
    rcases h with (h | ⟨o, h⟩) | ⟨o, its, n, hk, hc, _⟩
    · exact .base (.tup h)
    · exact .fTuple h
    · exact .kTuple hk hc
  | dct h _ =>
    cases e
    refine ⟨?_, by decide⟩
    rcases h with h | ⟨o, h⟩
    · exact .base (.dK h)
    · exact .fDict h
  | _ => cases e
theorem bq_isi (k : XOk X A Pg Φ lv c) : Bq X A "isinstance" (biP Pg .isinstance) := ⟨_, _, by decide +kernel, .inl ⟨_, rfl⟩, call_isi, by
  intro F ρ T H vs ds z Q w hv e q
  unfold biP at e
  split at e
  · rename_i x C _
    obtain ⟨b, e1, rfl⟩ := Option.map_eq_some_iff.mp e
    cases hv with
    | cons h r => cases r with
      | cons h2 r =>
        cases r
        cases h2
        have q0 := q (.bl b) H .refl w (.bl b)
        unfold isOwnO at e1
        split at e1
        · rename_i C' gs hi
          obtain ⟨a, dx, fs, rfl, ha, _⟩ := ins_ok w h hi
          obtain ⟨O, hk⟩ := k.kn.sub C' C b e1
          exact ⟨_, .ref (A.ca C), .ref (A.ca C'), .ref (A.ca C), b, rfl, .own _, .base (.ins ha O.cls O.ha O.hn O.tk O.mro), hk, q0⟩
        · obtain ⟨x', ex, e2⟩ := Option.bind_eq_some_iff.mp e1
          split at e2
          · rename_i t ht
            split at e2
            · rename_i hw
              cases e2
              obtain ⟨h3, h4⟩ := tyx_of (vw_ok w h ex) ht
              exact ⟨_, .ref (A.ca C), .type t, .ref (A.ca C), false, rfl, .own _, h3, k.kn.isw C hw t h4, q0⟩
            · cases e2
          · cases e2
  · unfold biO at e
    split at e
    · obtain ⟨x', ex, e1⟩ := Option.bind_eq_some_iff.mp e
      cases e1
    · obtain ⟨x', ex, e1⟩ := Option.bind_eq_some_iff.mp e
      cases hv with
      | cons h r => cases r with
        | cons h2 r =>
          cases r
          simp only [bi2] at e1
          split at e1
          · split at e1
            · rename_i t ht
              obtain ⟨b, e2, rfl⟩ := Option.map_eq_some_iff.mp e1
              cases h2
              obtain ⟨h3, _⟩ := tyx_of (vw_ok w h ex) ht
              exact ⟨_, _, _, _, b, rfl, .ty _, h3, kit_ty e2, q _ _ .refl w (.bl _)⟩
            · cases e1
          · cases e1
    · cases e⟩
theorem biP_not {b : Bi} (h : b ≠ .isinstance) : biP Pg b = biO b := by
  funext T ds
  unfold biP
  split
  · exact absurd rfl h
  · rfl
/-- every built-in that is served -/
theorem bq_all' (k : XOk X A Pg Φ lv c) {x : Str} {b : Bi} (h : bis.lookup x = some b) : Bq X A x (biP Pg b) := by
  have hm := look_name h
  have hu := k.u65
  unfold bis at hm
  simp only [List.mem_cons, List.not_mem_nil, or_false, Prod.mk.injEq] at hm
  rcases hm with ⟨rfl, rfl⟩ | ⟨rfl, rfl⟩ | ⟨rfl, rfl⟩ | ⟨rfl, rfl⟩ | ⟨rfl, rfl⟩ | ⟨rfl, rfl⟩ | ⟨rfl, rfl⟩ | ⟨rfl, rfl⟩ | ⟨rfl, rfl⟩ | ⟨rfl, rfl⟩ | ⟨rfl, rfl⟩ | ⟨rfl, rfl⟩
  · rw [biP_not (fun z => by cases z)]; exact bq_len
  · rw [biP_not (fun z => by cases z)]; exact bq_abs
  · rw [biP_not (fun z => by cases z)]; exact bq_repr k.gd (by omega)
  · rw [biP_not (fun z => by cases z)]; exact bq_tuple
  · rw [biP_not (fun z => by cases z)]; exact bq_list
  · rw [biP_not (fun z => by cases z)]; exact bq_all k.calm
  · rw [biP_not (fun z => by cases z)]; exact bq_any k.calm
  · rw [biP_not (fun z => by cases z)]; exact bq_sorted
  · rw [biP_not (fun z => by cases z)]; exact bq_min k.calm (by omega)
  · rw [biP_not (fun z => by cases z)]; exact bq_max k.calm
  · rw [biP_not (fun z => by cases z)]; exact bq_int
  · exact bq_isi k
/-- what a call of f needs, whatever it is -/
def cAny (X : Cx) (fv : Value) : List V → Hp → VK → Prop := fun xs H Q => ∀ (pins : List (Addr × Obj)) (s : Shared) (σ : L2.St) (us : List Value), Inv X pins σ H s → Vals xs us → wpAny (model X.prog X.w) X.A (call fv us) (EP X pins σ Q) X.xe s
theorem call_any {fv : Value} : CallR X fv (cAny X fv) := fun pins s σ H xs us Q I r h => h pins s σ us I r
theorem len_own (k : XOk X A Pg Φ lv c) {F ρ : List Addr} {T T' : List Ob} {H : Hp} {vs : List V} {ds : List D} {f : Str} {g0 : List D → List D → List D} {n : Int} {Q : VK} (w : Wd (Bx X A) F ρ T H) (hv : DDs (Bx X A) ρ (cutR F ρ H) vs ds) (e : lenF Pg T .len ds = some (f, g0)) (hΦ : Φ f (g0 ds []) T = some (.ok (.int n) T')) (h0 : 0 ≤ n ∧ n < 2 ^ 63)
    (q : ∀ ρ' H', Stp F ρ H ρ' H' → Wd (Bx X A) F ρ' T' H' → Q (.int n) H') : cAny X (.builtin "len") vs H Q := by
  intro pins s σ us I r
  unfold lenF at e
  split at e
  · rename_i x _
    split at e
    · rename_i C gs hi
      split at e
      · rename_i f' hf
        obtain ⟨g', hg, h1⟩ := Option.map_eq_some_iff.mp e
        cases h1
        cases hv with
        | cons hx hr =>
          cases hr
          obtain ⟨a, dx, fs, rfl, ha, _⟩ := ins_ok w hx hi
          obtain ⟨hcls, hm⟩ := k.kn.meth C _ f hf
          have F0 := k.kn.call f 1 [] g0 hg
          rw [Vals.ref1 r]
          obtain ⟨mA, J, _⟩ := ins_get I.hok ha
          obtain ⟨od, J, _⟩ := J.look
          obtain ⟨m, hF⟩ := I.fr
          refine PySem.W.len_K hF I.ok.mod.kin J hm.at_ hm.fn ?_
          have run := cal_code F0 (E := fun _ _ _ => False) (r := .ok (.int n) T') (Q := fun v H1 => v = .int n ∧ Q v H1) (zs := []) (es := []) w (.cons hx .nil) .nil rfl rfl hΦ (fun v ρ' H' s' w' r' => by
            cases r'
            exact ⟨rfl, q ρ' H' s' w'⟩) (Ar := X.A.in1) (outer := X.stack) (s := s) (us := [.ref a]) (ws := []) k.gd (k.rm.in1.mono (by omega)) I.env0.in1 I.kIn (.cons rfl .nil) .nil
          refine wpAny_call (codeAny_mono run fun r s' hq => ?_)
          cases r with
          | error er =>
            obtain ⟨_, _, _, _, _, _, _, _, _, _, _, _, bad⟩ := hq
            exact bad.elim
          | ok fl =>
            cases fl with
            | ret u =>
              obtain ⟨z, H', I', rz, ez, q'⟩ := I.after hq
              subst ez
              obtain ⟨t, rfl⟩ : ∃ t, u = .int n t := rz
              exact ⟨h0, ⟨.int n, H', I'.tok _, ⟨_, rfl⟩, q'⟩⟩
            | next => exact False.elim hq
            | brk => exact False.elim hq
            | cont => exact False.elim hq
      · cases e
    · cases e
  · cases e
theorem se_bi (k : XOk X A Pg Φ lv c) {R : Evs} (hR : ∀ a, SE X A Γ a (R.e c Γ a)) {x : Str} {b : Bi} {p pos : Pos} {args : List Expr} (ho : okName x = true) (hg : glB c.sc x = true) (hf : Pg.free x = true) (hb : bis.lookup x = some b) (hn : noStar args = true) :
    SE X A Γ (.Call (.Name x p) args [] pos) ((evL (R.e c Γ) args).bind fun ds => biM Pg Φ b ds) := by
  intro F ρ T σ H r Q g e p0
  obtain ⟨fv, r0, h1, h2, h3, h4⟩ := (bq_all' k hb).ex
  have hG : Gl X x := gl_of (by rw [k.sc]; exact hg)
  have hm := k.kn.free x hf
  obtain ⟨d1, _, d3⟩ := okName_dec ho
  cases args with
  | nil =>
    rcases Mo.bind_some e with ⟨ds, T1, e1, e2⟩ | ⟨_, _, _, e1, _⟩
    · cases Mo.ret_some e1
      cases b <;> cases e2
    · cases e1
  | cons a as =>
    have hs : starred a = false := by
      unfold noStar at hn
      rw [List.all_cons, Bool.and_eq_true, Bool.not_eq_true'] at hn
      exact hn.1
    have hpl : (backTo pos (starEach as X.env)).any (·.1) = false := star_any (by
      unfold noStar at hn ⊢
      rw [List.all_cons, Bool.and_eq_true] at hn
      exact hn.2)
    have body : WA X (a :: as) σ H fun vs H1 => cAny X fv vs H1 Q := (sa_list hR (a :: as)).bind g e p0 fun ds T1 vs ρ1 H1 s1 g1 r1 e1 p1 => by
      unfold biM at e1
      split at e1
      · rename_i f g0 hl
        have hb' : b = .len := by
          unfold lenF at hl
          split at hl
          · rfl
          · cases hl
        subst hb'
        split at e1
        · rename_i n T' hΦ
          split at e1
          · rename_i h0
            cases e1
            have hx : x = "len" := by
              have hm' := look_name hb
              unfold bis at hm'
              simp only [List.mem_cons, List.not_mem_nil, or_false, Prod.mk.injEq] at hm'
              rcases hm' with ⟨rfl, _⟩ | ⟨_, z⟩ | ⟨_, z⟩ | ⟨_, z⟩ | ⟨_, z⟩ | ⟨_, z⟩ | ⟨_, z⟩ | ⟨_, z⟩ | ⟨_, z⟩ | ⟨_, z⟩ | ⟨_, z⟩ | ⟨_, z⟩
              · rfl
              all_goals cases z
            subst hx
            have hfv : fv = .builtin "len" := Option.some.inj (h1.symm.trans PySem.boot_len)
            subst hfv
            exact len_own k g1.wd r1 hl hΦ h0 fun ρ' H' s' w' => p1 (.int n) ρ' H' s' w' (.int n)
          · cases e1
        · cases e1
      · split at e1
        · rename_i z hz
          cases e1
          exact fun pins s σ us I r => h3 pins s σ H1 vs us Q I r (h4 F ρ1 T1 H1 vs ds z Q g1.wd r1 hz fun v H' s' w' q' => p1 v ρ1 H' s' w' q')
        · cases e1
    rcases h2 with ⟨id, rfl⟩ | ⟨t, rfl⟩
    · exact we_of (pe_callB call_any hG hm h1 pa_wa d3 d1 (star_cons hs) hpl) body
    · exact we_of (pe_callTy call_any hG hm h1 pa_wa d3 d1 (star_cons hs) hpl) body
/-- list(range(a)) -/
theorem rg_dds {B : Bas} {ρ : List Addr} {S : Hp} (n : Nat) : DDs B ρ S (rgV 0 (n : Int)) (rangeD 0 n) := by
  unfold rgV rangeD
  have e : ((n : Int) - 0).toNat = n := by omega
  rw [e]
  have : ∀ l : List Nat, DDs B ρ S (l.map fun i => V.int (0 + (i : Nat))) (l.map fun i => D.int (0 + (i : Nat))) := fun l => by
    induction l with
    | nil => exact .nil
    | cons i l ih => exact .cons (.int _) ih
  exact this _
theorem se_listRg (k : XOk X A Pg Φ lv c) {R : Evs} (hR : ∀ a, SE X A Γ a (R.e c Γ a)) {x : Str} {args : List Expr} {kws : List Keyword} {a : Expr} {p pos : Pos} (h : isRg Pg c x args kws = some a) (hB : ∀ y, isB Pg c y = true → Gl X y ∧ X.mg y = none) : SE X A Γ (.Call (.Name x p) args kws pos) ((R.e c Γ a).bind fun d => Mo.of (rgL d)) := by
  unfold isRg at h
  split at h
  · rename_i hc
    obtain ⟨rfl, hk, hb⟩ := hc
    rw [List.isEmpty_iff] at hk
    subst hk
    split at h
    · rename_i y a' hy
      split at h
      · rename_i hc2
        obtain ⟨rfl, hb2, hst⟩ := hc2
        cases h
        unfold rgArg at hy
        split at hy
        · cases hy
          obtain ⟨hg, hm⟩ := hB _ hb
          obtain ⟨hg2, hm2⟩ := hB _ hb2
          intro F ρ T σ H r Q g e p0
          refine we_of (pe_listRg k.calm hg hm (prg_1 hg2 hm2 pe_we (star_cons hst)) (star_cons rfl)) ((hR _).bind g e p0 fun d T1 v ρ1 H1 s1 g1 r1 e1 p1 => ?_)
          obtain ⟨z, e2, rfl⟩ := Mo.of_some e1
          unfold rgL at e2
          split at e2
          · rename_i n
            split at e2
            · rename_i hn
              cases e2
              cases r1
              have en : n = ((n.toNat : Nat) : Int) := (Int.toNat_of_nonneg hn.1).symm
              refine ⟨n, rfl, RgOk.of_le (Int.le_refl _) (by omega) (by decide) (by omega), fun q hq => ?_⟩
              have hd := (dd_new g1.wd hq (rg_dds n.toNat)).2
              rw [← en] at hd
              exact p1 _ ρ1 _ (g1.wd.new hq).2.1 (g1.wd.new hq).1 hd
            · cases e2
          · cases e2
        · cases hy
      · cases h
    · cases h
  · cases h
end
end RR
set_option maxHeartbeats 1000000
/-! R18: targets; what is walked. -/
namespace RR
open PySem PySem.Spec PyProof.Rows L2

/-! ### targets -/
mutual
def Tgt.g (K : PySem.W.Frag) : Tgt → TG
  | .one j => gName j
  | .many ts => gTup K ts.length (Tgt.gs K ts)
def Tgt.gs (K : PySem.W.Frag) : List Tgt → TGs
  | [] => gNil
  | t :: ts => gCons (Tgt.g K t) (Tgt.gs K ts)
end
def Alike (l : List Nat) (σ σ' : L2.St) : Prop := σ'.length = σ.length ∧ ∀ i, i ∉ l → σ'[i]? = σ[i]?
theorem Alike.refl {l : List Nat} {σ : L2.St} : Alike l σ σ := ⟨rfl, fun _ _ => rfl⟩
theorem Alike.trans {l l' : List Nat} {σ σ1 σ2 : L2.St} (a : Alike l σ σ1) (b : Alike l' σ1 σ2) : Alike (l ++ l') σ σ2 :=
  ⟨b.1.trans a.1, fun i hi => (b.2 i fun m => hi (List.mem_append_right _ m)).trans (a.2 i fun m => hi (List.mem_append_left _ m))⟩
theorem puts_len : ∀ (ts : List Tgt) (Γ Γ' : En) (ds : List D), Tgt.puts ts Γ ds = some Γ' → ds.length = ts.length := by
  intro ts
  induction ts with
  | nil => intro Γ Γ' ds h; cases ds with
    | nil => rfl
    | cons a b => simp [Tgt.puts] at h
  | cons t ts ih => intro Γ Γ' ds h; cases ds with
    | nil => simp [Tgt.puts] at h
    | cons a b =>
      simp only [Tgt.puts, Option.bind_eq_some_iff] at h
      obtain ⟨Γ1, _, h2⟩ := h
      rw [List.length_cons, List.length_cons, ih _ _ _ h2]
mutual
theorem Tgt.ok {B : Bas} {F ρ : List Addr} {T : List Ob} : ∀ (t : Tgt) {d : D} {v : V} {σ : L2.St} {H : Hp} {Γ Γ' : En} {Q : L2.St → Hp → Prop}, Gd B F ρ T σ H Γ → DD B ρ (cutR F ρ H) v d → Tgt.put t Γ d = some Γ' →
    (∀ σ', Gd B F ρ T σ' H Γ' → Alike t.slots σ σ' → Q σ' H) → t.g B.K v σ H Q
  | .one j, d, v, σ, H, Γ, Γ', Q, g, r, e, q => by
    have e' : some (Γ.set j (some d)) = some Γ' := by simpa [Tgt.put] using e
    cases e'
    have h := q _ (g.set r) ⟨List.length_set, fun i hi => List.getElem?_set_ne (by simp [Tgt.slots] at hi; exact fun z => hi z.symm)⟩
    have e2 : Tgt.g B.K (.one j) = gName j := by simp [Tgt.g]
    rw [e2]
    exact h
  | .many ts, d, v, σ, H, Γ, Γ', Q, g, r, e, q => by
    cases r with
    | @tup a xs ds hq r =>
      have e' : Tgt.puts ts Γ ds = some Γ' := by simpa [Tgt.put] using e
      have h := Tgt.oks ts g r e' (Q := Q) fun σ' g' a => q σ' g' (by simpa [Tgt.slots] using a)
      have hl := puts_len _ _ _ _ e'
      have goal : gTup B.K ts.length (Tgt.gs B.K ts) (.ref _) σ H Q := ⟨_, _, rfl, same_sqT (cut_sub _ _) hq, by rw [r.len, hl], h⟩
      simpa [Tgt.g] using goal
    | _ => simp [Tgt.put] at e
theorem Tgt.oks {B : Bas} {F ρ : List Addr} {T : List Ob} : ∀ (ts : List Tgt) {ds : List D} {vs : List V} {σ : L2.St} {H : Hp} {Γ Γ' : En} {Q : L2.St → Hp → Prop}, Gd B F ρ T σ H Γ → DDs B ρ (cutR F ρ H) vs ds → Tgt.puts ts Γ ds = some Γ' →
    (∀ σ', Gd B F ρ T σ' H Γ' → Alike (Tgt.slotss ts) σ σ' → Q σ' H) → Tgt.gs B.K ts vs σ H Q
  | [], ds, vs, σ, H, Γ, Γ', Q, g, r, e, q => by
    cases r with
    | nil =>
      have e' : some Γ = some Γ' := by simpa [Tgt.puts] using e
      cases e'
      have h : gNil [] σ H Q := ⟨rfl, q σ g .refl⟩
      simpa [Tgt.gs] using h
    | cons _ _ => simp [Tgt.puts] at e
  | t :: ts, ds, vs, σ, H, Γ, Γ', Q, g, r, e, q => by
    cases r with
    | nil => simp [Tgt.puts] at e
    | cons h r =>
      simp only [Tgt.puts, Option.bind_eq_some_iff] at e
      obtain ⟨Γ1, e1, e2⟩ := e
      have hh : gCons (Tgt.g B.K t) (Tgt.gs B.K ts) (_ :: _) σ H Q := ⟨_, _, rfl, Tgt.ok t g h e1 fun σ1 g1 a1 => Tgt.oks ts g1 r e2 fun σ2 g2 a2 => q σ2 g2 (by
        have := a1.trans a2
        simpa [Tgt.slotss] using this)⟩
      simpa [Tgt.gs] using hh
end
section
variable {X : Cx} {A : Nm} {Pg : Prg} {Φ : Str → List D → Mo D} {lv : Nat} {c : Cn} {Γ : En}
theorem tgt_name (k : XOk X A Pg Φ lv c) {x : Str} {p : Pos} {t : Tgt} (h : (if locB c.raw x = true then (idx c.N x).map .one else none) = some t) : PG X (.Name x p) (t.g X.K) := by
  split at h
  · rename_i hl
    obtain ⟨i, hi, rfl⟩ := Option.map_eq_some_iff.mp h
    have e : Tgt.g X.K (.one i) = gName i := by simp [Tgt.g]
    rw [e]
    obtain ⟨h1, h2⟩ := k.st x hl
    exact pg_name (by rw [k.N]; exact k.nd) (by rw [k.N]; exact idx_get hi) h1 h2
  · cases h
theorem asg_cons {e : Expr} {es : List Expr} {env : Env} (h : starred e = false) : assignEach (e :: es) env = (false, assign e env) :: assignEach es env := by
  cases e <;> first | rfl | (cases h)
theorem tgt_many (k : XOk X A Pg Φ lv c) {f : Expr → Option Tgt} {fs : List Expr → Option (List Tgt)} (h0 : fs [] = some []) (h1 : ∀ e es, fs (e :: es) = match f e with | some t => (fs es).map (t :: ·) | none => none)
    (hf : ∀ e t, f e = some t → starred e = false ∧ PG X e (t.g X.K)) : ∀ (es : List Expr) (ts : List Tgt), fs es = some ts → PGs X es (Tgt.gs X.K ts) ∧ (assignEach es X.env).length = ts.length ∧ (assignEach es X.env).findIdx? (·.1) = none
  | [], ts, h => by
    rw [h0] at h
    cases h
    refine ⟨?_, rfl, rfl⟩
    have e : Tgt.gs X.K [] = gNil := by simp [Tgt.gs]
    rw [e]
    exact pgs_nil
  | e :: es, ts, h => by
    rw [h1] at h
    split at h
    · rename_i t ht
      obtain ⟨ts', h2, rfl⟩ := Option.map_eq_some_iff.mp h
      obtain ⟨a1, a2, a3⟩ := tgt_many k h0 h1 hf es ts' h2
      obtain ⟨b1, b2⟩ := hf e t ht
      have ea := asg_cons (es := es) (env := X.env) b1
      refine ⟨?_, by rw [ea, List.length_cons, List.length_cons, a2], by rw [ea, List.findIdx?_cons, a3] <;> rfl⟩
      have e2 : Tgt.gs X.K (t :: ts') = gCons (t.g X.K) (Tgt.gs X.K ts') := by simp [Tgt.gs]
      rw [e2]
      exact pgs_cons b2 a1 (by rw [ea] <;> rfl)
    · cases h
theorem tgt_tuple (k : XOk X A Pg Φ lv c) {es : List Expr} {ts : List Tgt} {j : Nat} {p : Pos} (h : PGs X es (Tgt.gs X.K ts) ∧ (assignEach es X.env).length = ts.length ∧ (assignEach es X.env).findIdx? (·.1) = none) : PG X (.Tuple es j p) ((Tgt.many ts).g X.K) := by
  have e : (Tgt.many ts).g X.K = gTup X.K ts.length (Tgt.gs X.K ts) := by simp [Tgt.g]
  rw [e]
  exact pg_tup k.calm h.1 h.2.1 h.2.2
theorem tgt1_ok (k : XOk X A Pg Φ lv c) : ∀ (e : Expr) (t : Tgt), tgt1 c e = some t → starred e = false ∧ PG X e (t.g X.K) := fun e t h => by
  unfold tgt1 at h
  split at h
  · exact ⟨rfl, tgt_name k h⟩
  · cases h
theorem tgt2_ok (k : XOk X A Pg Φ lv c) : ∀ (e : Expr) (t : Tgt), tgt2 c e = some t → starred e = false ∧ PG X e (t.g X.K) := fun e t h => by
  unfold tgt2 at h
  split at h
  · exact ⟨rfl, tgt_name k h⟩
  · obtain ⟨ts, h1, rfl⟩ := Option.map_eq_some_iff.mp h
    exact ⟨rfl, tgt_tuple k (tgt_many k (f := tgt1 c) (fs := tgt1s c) rfl (fun _ _ => rfl) (tgt1_ok k) _ _ h1)⟩
  · cases h
theorem tgt_ok (k : XOk X A Pg Φ lv c) : ∀ (e : Expr) (t : Tgt), tgt c e = some t → starred e = false ∧ PG X e (t.g X.K) := fun e t h => by
  unfold tgt at h
  split at h
  · exact ⟨rfl, tgt_name k h⟩
  · obtain ⟨ts, h1, rfl⟩ := Option.map_eq_some_iff.mp h
    exact ⟨rfl, tgt_tuple k (tgt_many k (f := tgt2 c) (fs := tgt2s c) rfl (fun _ _ => rfl) (tgt2_ok k) _ _ h1)⟩
  · cases h
end

/-! ### what is walked -/
/-- the iterator gives s's items, wherever the heap stands -/
def SrcOk (B : Bas) (ρ : List Addr) (S : Hp) (J : It) (s : Src) : Prop := ∀ F1 ρ1 T1 H1, Wd B F1 ρ1 T1 H1 → ρ <+: ρ1 → Same S (cutR F1 ρ1 H1) → s.keeps T1 = true →
  (∀ (i : Nat) (d : D), s.ds[i]? = some d → J.go i H1 ∧ ∀ x H', J.yld i H1 x H' → Same H1 H' ∧ DD B ρ1 (cutR F1 ρ1 H') x d) ∧ ∀ i, s.ds.length ≤ i → J.stop i H1
theorem src_of {B : Bas} {ρ : List Addr} {S : Hp} {J : It} {ds : List D} (h : ∀ F1 ρ1 T1 H1, Wd B F1 ρ1 T1 H1 → ρ <+: ρ1 → Same S (cutR F1 ρ1 H1) →
    (∀ (i : Nat) (d : D), ds[i]? = some d → J.go i H1 ∧ ∀ x H', J.yld i H1 x H' → Same H1 H' ∧ DD B ρ1 (cutR F1 ρ1 H') x d) ∧ ∀ i, ds.length ≤ i → J.stop i H1) : SrcOk B ρ S J ⟨ds, none⟩ := fun F1 ρ1 T1 H1 w p e _ => h F1 ρ1 T1 H1 w p e
section
variable {B : Bas} {ρ : List Addr} {S : Hp}
theorem src_list {a : Addr} {xs : List V} {ds : List D} (hq : Rd S a (.lst xs)) (r : DDs B ρ S xs ds) : SrcOk B ρ S (Itl B.K a) ⟨ds, none⟩ := src_of fun F1 ρ1 T1 H1 w p e =>
  have hq1 : SqL B.K H1 a xs := .inl (same_rd (cut_sub _ _) (same_rd e hq))
  ⟨fun i d hd => by
    obtain ⟨v, hv, hvd⟩ := r.get hd
    exact ⟨⟨xs, v, hq1, hv⟩, fun x H' ⟨eH, y⟩ => by
      subst eH
      have := y xs hq1
      rw [hv] at this
      cases this
      exact ⟨Same.refl _, hvd.mono p e⟩⟩, fun i hi => ⟨xs, hq1, by rw [r.len]; exact hi⟩⟩
theorem src_at {a : Addr} {n : Nat} {ds : List D} (hn : ρ[n]? = some a) : SrcOk B ρ S (Itl B.K a) ⟨ds, some n⟩ := fun F1 ρ1 T1 H1 w p e kp => by
  have h1 : T1[n]? = some (.lst ds) := by
    unfold Src.keeps at kp
    simp only at kp
    split at kp
    · rename_i ds' h
      rw [h, sameS_eq kp]
    · cases kp
  obtain ⟨xs, h2, r⟩ := w.at (pre_get p hn) h1
  have hq1 : SqL B.K H1 a xs := .inl (.of h2)
  refine ⟨fun i d hd => ?_, fun i hi => ⟨xs, hq1, by rw [r.len]; exact hi⟩⟩
  obtain ⟨v, hv, hvd⟩ := r.get hd
  exact ⟨⟨xs, v, hq1, hv⟩, fun x H' ⟨eH, y⟩ => by
    subst eH
    have := y xs hq1
    rw [hv] at this
    cases this
    exact ⟨Same.refl _, hvd⟩⟩
theorem src_tup {a : Addr} {xs : List V} {ds : List D} (hq : SqT B.K S a xs) (r : DDs B ρ S xs ds) : SrcOk B ρ S (Itt B.K a) ⟨ds, none⟩ := src_of fun F1 ρ1 T1 H1 w p e =>
  have hq1 : SqT B.K H1 a xs := same_sqT (cut_sub _ _) (same_sqT e hq)
  ⟨fun i d hd => by
    obtain ⟨v, hv, hvd⟩ := r.get hd
    exact ⟨⟨xs, v, hq1, hv⟩, fun x H' ⟨eH, y⟩ => by
      subst eH
      have := y xs hq1
      rw [hv] at this
      cases this
      exact ⟨Same.refl _, hvd.mono p e⟩⟩, fun i hi => ⟨xs, hq1, by rw [r.len]; exact hi⟩⟩
theorem src_str {x : Str} : SrcOk B ρ S (Its x) ⟨signs x, none⟩ := src_of fun F1 ρ1 T1 H1 w p e => by
  refine ⟨fun i d hd => ?_, fun i hi => ?_⟩
  · unfold signs at hd
    rw [List.getElem?_map] at hd
    cases q : x.cps.toList[i]? with
    | none => rw [q] at hd; cases hd
    | some c =>
      rw [q] at hd
      cases hd
      have hc : x.cps[i]? = some c := by rw [← Array.getElem?_toList]; exact q
      have hi : i < x.cps.size := by
        rcases Nat.lt_or_ge i x.cps.size with z | z
        · exact z
        · rw [Array.getElem?_eq_none z] at hc; cases hc
      refine ⟨hi, fun y H' z => ?_⟩
      obtain ⟨eH, c', hc', ey⟩ := z
      subst eH ey
      rw [hc] at hc'
      cases hc'
      exact ⟨Same.refl _, .str _⟩
  · unfold signs at hi
    rw [List.length_map, Array.length_toList] at hi
    exact hi
theorem src_range {lo : Int} {n : Nat} : SrcOk B ρ S (Itr lo n) ⟨rangeD lo n, none⟩ := src_of fun F1 ρ1 T1 H1 w p e => by
  refine ⟨fun i d hd => ?_, fun i hi => ?_⟩
  · unfold rangeD at hd
    rw [List.getElem?_map] at hd
    by_cases hi : i < n
    · rw [List.getElem?_range hi] at hd
      cases hd
      refine ⟨hi, fun y H' z => ?_⟩
      obtain ⟨eH, ey⟩ := z
      subst eH ey
      exact ⟨Same.refl _, .int _⟩
    · rw [List.getElem?_eq_none (by rw [List.length_range]; omega)] at hd
      cases hd
  · unfold rangeD at hi
    rw [List.length_map, List.length_range] at hi
    exact hi
theorem enumD_at {ds : List D} {i : Nat} {d : D} (h : (enumD ds)[i]? = some d) : ∃ e, ds[i]? = some e ∧ d = .tup [.int (i : Nat), e] := by
  unfold enumD at h
  rw [List.getElem?_map, List.getElem?_zipIdx] at h
  cases q : ds[i]? with
  | none => rw [q] at h; cases h
  | some e =>
    rw [q] at h
    simp at h
    exact ⟨e, rfl, h.symm⟩
theorem enumD_len (ds : List D) : (enumD ds).length = ds.length := by unfold enumD; rw [List.length_map, List.length_zipIdx]
theorem zipD_at {ds es : List D} {i : Nat} {d : D} (h : (zipD ds es)[i]? = some d) : ∃ a b, ds[i]? = some a ∧ es[i]? = some b ∧ d = .tup [a, b] := by
  unfold zipD at h
  rw [List.getElem?_map] at h
  cases q : (ds.zip es)[i]? with
  | none => rw [q] at h; cases h
  | some e =>
    rw [q] at h
    cases h
    rw [List.getElem?_zip_eq_some] at q
    exact ⟨_, _, q.1, q.2, rfl⟩
theorem zipD_len (ds es : List D) : (zipD ds es).length = min ds.length es.length := by unfold zipD; rw [List.length_map, List.length_zip]
theorem new_pair {F1 ρ1 : List Addr} {T1 : List Ob} {H1 : Hp} {x y : V} {d e : D} (w : Wd B F1 ρ1 T1 H1) {q : Addr} (hq : H1 q = none) (hx : DD B ρ1 (cutR F1 ρ1 H1) x d) (hy : DD B ρ1 (cutR F1 ρ1 H1) y e) :
    Same H1 (upd H1 q (.tup [x, y])) ∧ DD B ρ1 (cutR F1 ρ1 (upd H1 q (.tup [x, y]))) (.ref q) (.tup [d, e]) := ⟨same_new hq, (dd_new w hq (.cons hx (.cons hy .nil))).1⟩
theorem src_enum {a : Addr} {xs : List V} {ds : List D} (hq : Rd S a (.lst xs)) (r : DDs B ρ S xs ds) : SrcOk B ρ S (Ite B.K a) ⟨enumD ds, none⟩ := src_of fun F1 ρ1 T1 H1 w p e =>
  have hq1 : SqL B.K H1 a xs := .inl (same_rd (cut_sub _ _) (same_rd e hq))
  ⟨fun i d hd => by
    obtain ⟨f, hf, ed⟩ := enumD_at hd
    subst ed
    obtain ⟨v, hv, hvd⟩ := r.get hf
    exact ⟨⟨xs, v, hq1, hv⟩, fun x H' ⟨T, y, ex, hT, eH, k⟩ => by
      subst ex eH
      have := k xs hq1
      rw [hv] at this
      cases this
      exact new_pair w hT (.int _) (hvd.mono p e)⟩, fun i hi => ⟨xs, hq1, by rw [r.len, ← enumD_len]; exact hi⟩⟩
theorem src_zipL {a b : Addr} {xs ys : List V} {ds es : List D} (hq : Rd S a (.lst xs)) (r : DDs B ρ S xs ds) (hq2 : Rd S b (.lst ys)) (r2 : DDs B ρ S ys es) : SrcOk B ρ S (Itz B.K a b) ⟨zipD ds es, none⟩ := src_of fun F1 ρ1 T1 H1 w p e =>
  have h1 : SqL B.K H1 a xs := .inl (same_rd (cut_sub _ _) (same_rd e hq))
  have h2 : SqL B.K H1 b ys := .inl (same_rd (cut_sub _ _) (same_rd e hq2))
  ⟨fun i d hd => by
    obtain ⟨f, f2, hf, hf2, ed⟩ := zipD_at hd
    subst ed
    obtain ⟨v, hv, hvd⟩ := r.get hf
    obtain ⟨v2, hv2, hvd2⟩ := r2.get hf2
    exact ⟨⟨xs, ys, v, v2, h1, h2, hv, hv2⟩, fun x H' ⟨T, y, z, ex, hT, eH, k, k2⟩ => by
      subst ex eH
      have z1 := k xs h1
      have z2 := k2 ys h2
      rw [hv] at z1
      rw [hv2] at z2
      cases z1
      cases z2
      exact new_pair w hT (hvd.mono p e) (hvd2.mono p e)⟩, fun i hi => ⟨xs, ys, h1, h2, by rw [r.len, r2.len]; rw [zipD_len] at hi; omega⟩⟩
theorem src_zipT {a b : Addr} {xs ys : List V} {ds es : List D} (hq : SqT B.K S a xs) (r : DDs B ρ S xs ds) (hq2 : SqT B.K S b ys) (r2 : DDs B ρ S ys es) : SrcOk B ρ S (RZ.ItzT B.K a b) ⟨zipD ds es, none⟩ := src_of fun F1 ρ1 T1 H1 w p e =>
  have h1 : SqT B.K H1 a xs := same_sqT (cut_sub _ _) (same_sqT e hq)
  have h2 : SqT B.K H1 b ys := same_sqT (cut_sub _ _) (same_sqT e hq2)
  ⟨fun i d hd => by
    obtain ⟨f, f2, hf, hf2, ed⟩ := zipD_at hd
    subst ed
    obtain ⟨v, hv, hvd⟩ := r.get hf
    obtain ⟨v2, hv2, hvd2⟩ := r2.get hf2
    exact ⟨⟨xs, ys, v, v2, h1, h2, hv, hv2⟩, fun x H' ⟨T, y, z, ex, hT, eH, k, k2⟩ => by
      subst ex eH
      have z1 := k xs h1
      have z2 := k2 ys h2
      rw [hv] at z1
      rw [hv2] at z2
      cases z1
      cases z2
      exact new_pair w hT (hvd.mono p e) (hvd2.mono p e)⟩, fun i hi => ⟨xs, ys, h1, h2, by rw [r.len, r2.len]; rw [zipD_len] at hi; omega⟩⟩
end
end RR
set_option maxHeartbeats 1000000
/-! R19: enumerate(tuple); what is walked, as the interpreter says. -/
namespace RR
open PySem PySem.Spec PyProof.Rows L2
open AutoSeq1 (wpAny_loadPart')
theorem enum_newT (l : Addr) (items : Array Value) (n : Nat) (dct : Option Addr) (sl : Array (Option Value)) :
    Meets (Builtin.«enumerate.__new__» ⟨[.type "enumerate", .ref l], []⟩) (fun _ R s => s.heap.get? l = some { cls := .type "tuple", dict := dct, data := .seq items n, slots := sl } ∧
      R (.ok (.ret (.ref (s.heap.push { cls := .type "tuple_iterator", data := .fields #[.ref l, .int 0 0] }).objs.size)))
        { s with heap := (s.heap.push { cls := .type "tuple_iterator", data := .fields #[.ref l, .int 0 0] }).push { cls := .type "enumerate", data := .fields #[.none, .bool false, .ref s.heap.objs.size, rawInt 0, .none, .none] } }) :=
  .of_wp fun prog w A R s ⟨hl, h⟩ => by
    obtain ⟨hp, g, d, tk, os⟩ := s
    have hsub := sub_enumerate
    have hT : Heap.IsTuple (Shared.heap ⟨hp, g, d, tk, os⟩) l items := ⟨_, hl, rfl, n, rfl⟩
    wp_walk using wpAny_loadPart' hl
    refine wpAny_stack_any fun st => wpAny_pure ?_
    split
    · rename_i c _ _ _ _ _
      cases (c == Value.type "enumerate") <;> (wp_walk using wpAny_loadPart' hl, wpAny_pyIter_tuple hT; exact ⟨_, rfl, h⟩)
    · wp_walk using wpAny_loadPart' hl, wpAny_pyIter_tuple hT
      exact ⟨_, rfl, h⟩
section
variable {prog : Program} {w : World} {A : Around} {E : Value → Shared → Prop} {s : Shared}
theorem call_enumT {l : Addr} {items : Array Value} {Q : Value → Shared → Prop} (hL : IsTup s.heap l items)
    (h : ∀ h', IsEnum h' (s.heap.objs.size + 1) s.heap.objs.size 0 .none → h'.IsTupleIter s.heap.objs.size l 0 → h'.objs.size = s.heap.objs.size + 2 → (∀ b o, s.heap.get? b = some o → h'.get? b = some o) → Q (.ref (s.heap.objs.size + 1)) { s with heap := h' }) :
    wpAny (model prog w) A (call (.type "enumerate") [.ref l]) Q E s := by
  obtain ⟨⟨c, dct, dt, sl⟩, hl, hc, n, hd⟩ := hL
  obtain rfl : c = .type "tuple" := hc
  obtain rfl : dt = .seq items n := hd
  refine callType_new F.called_enumerate (by decide) (F.typeCall_enumerate_1 _) (F.newCall_enumerate_1 _) (fun obj => F.args_object_init_2 obj _) F.entry_enumerate_new (enum_newT l items n dct sl) ⟨hl, ?_⟩
  have hz : (s.heap.push { cls := .type "tuple_iterator", data := .fields #[.ref l, .int 0 0] }).objs.size = s.heap.objs.size + 1 := Heap.size_push ..
  show _ ∧ _
  rw [hz]
  have he : IsEnum ((s.heap.push { cls := .type "tuple_iterator", data := .fields #[.ref l, .int 0 0] }).push { cls := .type "enumerate", data := .fields #[.none, .bool false, .ref s.heap.objs.size, rawInt 0, .none, .none] }) (s.heap.objs.size + 1) s.heap.objs.size 0 .none := by
    have := Heap.get?_push_size (s.heap.push { cls := .type "tuple_iterator", data := .fields #[.ref l, .int 0 0] }) (o := { cls := .type "enumerate", data := .fields #[.none, .bool false, .ref s.heap.objs.size, rawInt 0, .none, .none] }) rfl
    rw [hz] at this
    exact this
  exact ⟨⟨_, he, rfl⟩, h _ he ⟨_, Heap.get?_push_of_some _ (Heap.get?_push_size _ rfl), rfl, rfl⟩ (by rw [Heap.size_push, hz]) fun b o x => Heap.get?_push_of_some _ (Heap.get?_push_of_some _ x)⟩
theorem next_enumT_end {e it l : Addr} {i : Nat} {items : Array Value} {old : Value} {Q : Option Value → Shared → Prop} (hh : A.handled = none) (he : IsEnum s.heap e it i old) (hit : s.heap.IsTupleIter it l i) (hl : s.heap.IsTuple l items) (hx : items[i]? = none)
    (hQ : ∀ h', Heap.ExtBut it s.heap h' → Q none { s with heap := h' }) : wpAny (model prog w) A (pyNext (.ref e)) Q E s := by
  have hE : s.TypeIs (.ref e) "enumerate" := ⟨_, he, rfl⟩
  unfold pyNext
  refine wpAny_bind (wpAny_attempt (wpAny_callSpecial?_slot (name := Str.ofString "__next__") hE F.slot_enumerate_next (wpAny_call_entry F.slot_enumerate_next hE F.entry_enumerate_next ?_ (F.args_enumerate_next_1 _))))
  show wpAny _ _ (field (.ref e) 2 >>= _) _ _ _
  refine wpAny_bind (wpAny_field he rfl (x := .ref it) rfl (wpAny_bind (wpAny_nextOf_tuple_end hh hit hl hx fun h' x h1 ⟨o, ho, hc⟩ => ?_)))
  exact wpAny_bind (wpAny_isInstance (T := "StopIteration") (b := true) ⟨o, ho, hc⟩ isSubtype_stop (wpAny_pure (hQ _ h1)))
end
/-- the tuple at a, each item in a new pair -/
def IteT (K : PySem.W.Frag) (a : Addr) : It :=
  ⟨fun i H => ∃ (xs : List V) (x : V), SqT K H a xs ∧ xs[i]? = some x, fun i H v H' => ∃ T x, v = .ref T ∧ H T = none ∧ H' = upd H T (.tup [.int (i : Nat), x]) ∧ ∀ xs, SqT K H a xs → xs[i]? = some x, fun i H => ∃ xs : List V, SqT K H a xs ∧ xs.length ≤ i⟩
theorem turn_enumT {P : Program} {w : World} {K : PySem.W.Frag} {elts : List Expr} {kk : Nat} {tpos : Pos} (a e it : Addr) :
    Turn P w K (.Tuple elts kk tpos) (IteT K a) [e, it] e (fun i h => (∃ old, IsEnum h e it ((i : Nat) : Int) old) ∧ h.IsTupleIter it a i ∧ e ≠ it ∧ a ≠ it ∧ e ≠ a) where
  mem := by simp
  obj := fun i h st b hb => by
    obtain ⟨⟨old, he⟩, ⟨o, ho, hc, hd⟩, _⟩ := st
    have e' : b = e ∨ b = it := by simpa using hb
    rcases e' with z | z
    · rw [z]; exact ⟨_, he, fun v q => nomatch q⟩
    · rw [z]; exact ⟨o, ho, fun v q => by rw [hd] at q; cases q⟩
  keep := fun i h h' st k => let ⟨⟨old, he⟩, hi, hne⟩ := st; ⟨⟨old, k e (by simp) _ he⟩, hi.at fun o q => k it (by simp) o q, hne⟩
  item := by
    intro X hP hw hK hc i pins s σ H E I hf st hg
    subst hP hw hK
    obtain ⟨⟨old, he⟩, hit, hne, hai, hea⟩ := st
    obtain ⟨xs, x, hq, hx⟩ := hg
    obtain ⟨its, rv, p, hz⟩ := I.tuple hq
    obtain ⟨u, hu, ru⟩ := rv.get hx
    have hel : e < s.heap.objs.size := Heap.lt_size he
    have hil : it < s.heap.objs.size := by obtain ⟨_, q, _⟩ := hit; exact Heap.lt_size q
    have hlt : i < its.toArray.size := by
      have := (List.getElem?_eq_some_iff.mp hu).1
      simpa using this
    have hh : X.A.in1.handled = none := I.ok.hd hc
    refine wpAny_pyNext_enum_itemC (Draws.tuple hh it a hai its.toArray) he ⟨hit, p⟩ hlt hne (by simp [hne, hea]) fun x' h' tk hP ho hst hT hsz hk => ?_
    have ex : x' = u := by
      have : its.toArray[i]? = some u := by simpa using hu
      rw [this] at hP
      exact (Option.some.inj hP).symm
    subst ex
    refine ⟨_, rfl, wpAny_letOwnedTupleGo_enum (s := { s with heap := h', toks := tk + 1 }) ho fun h'' he' sb => ?_⟩
    have hT2 : h''.get? s.heap.objs.size = some { cls := .type "tuple", data := .seq #[.int i tk, x'] } := (sb.2 _ (Nat.ne_of_gt hel)).trans hT
    have new : ObjOk X.prog X.w (upd H s.heap.objs.size (.tup [.int (i : Nat), x])) h'' s.heap.objs.size (.tup [.int (i : Nat), x]) :=
      ⟨by show 2 ≤ sizeLine; decide, [.int i tk, x'], .cons ⟨_, rfl⟩ (.cons ru .nil), ⟨_, hT2, rfl, _, rfl⟩⟩
    have I1 : Inv X pins σ (upd H s.heap.objs.size (.tup [.int (i : Nat), x])) { s with heap := h'', toks := tk + 1 } :=
      I.turnedNew (ch := [e, it]) (fun b ob hb q => (sb.2 b (fun z => hb (by simp [z]))).trans (hk b ob (fun z => hb (by simp [z])) (fun z => hb (by simp [z])) q)) hf (Nat.le_refl _) new
    refine ⟨.ref s.heap.objs.size, _, I1, rfl, ⟨_, x, rfl, I.hok.fresh (Nat.le_refl _), rfl, fun ys hy => by rw [I.tuple_inj hy hq]; exact hx⟩, ⟨⟨x', ?_⟩, hst.1.at fun o q => (sb.2 it (Ne.symm hne)).trans q, hne, hai, hea⟩, fun b hb => ?_⟩
    · have e1 : ((i + 1 : Nat) : Int) = (i : Int) + 1 := by omega
      rw [e1]; exact he'
    · have hb' : b < s.heap.objs.size := by
        have e' : b = e ∨ b = it := by simpa using hb
        rcases e' with z | z
        · rw [z]; exact hel
        · rw [z]; exact hil
      rw [upd_ne (Nat.ne_of_lt hb')]
      exact (hf b hb).1
  done := by
    intro X hP hw hK hc i pins s σ H E I hf st hg
    subst hP hw hK
    obtain ⟨⟨old, he⟩, hit, hne, hai, hea⟩ := st
    obtain ⟨xs, hq, hx⟩ := hg
    obtain ⟨its, rv, p, hz⟩ := I.tuple hq
    obtain ⟨f0, f1, f2, f3, f4, f5⟩ := hf it (by simp)
    have hl := rv.length
    exact next_enumT_end (I.ok.hd hc) he hit p (by simp; omega) fun h' eb => ⟨rfl, I.turned (t' := s.toks) (fun b o hb q => eb b o hb q) f0 f1 f3 f4 f5⟩
  self := fun A i s Q E st h => let ⟨⟨_, he⟩, _⟩ := st; wpAny_pyIter_enum he h
def iEnumT (K : PySem.W.Frag) (ta : TA) : TI := fun σ H R => ta σ H fun vs H1 => ∃ a xs, vs = [.ref a] ∧ SqT K H1 a xs ∧ R (IteT K a) H1
theorem pi_enumT {X : Cx} {e : Expr} {ta : TA} {p pos tpos : Pos} {elts : List Expr} {kk : Nat} (hg : Gl X "enumerate") (hm : X.mg "enumerate" = none) (ha : PA X [e] ta) (hs : starEach [e] X.env = [(false, eval e X.env)] := by rfl) :
    PI X (.Tuple elts kk tpos) (.Call (.Name "enumerate" p) [e] [] pos) (iEnumT X.K ta) := by
  refine ⟨fun pins s σ H R I h => ?_⟩
  refine Call_ (ld_blt I hg hm boot_enumerate (PyProof.Rows.callWith_type1 (thn (ha.run pos pins s σ H _ I h) fun us s1 ⟨vs, H1, I1, r1, a, xs, ex, hq, q⟩ => ?_) hs rfl))
  subst ex
  cases r1 with
  | cons r rr =>
    cases rr
    cases r
    obtain ⟨its, rv, p', hz⟩ := I1.tuple hq
    have hlt : a < s1.heap.objs.size := let ⟨o, ho, _⟩ := p'; Heap.lt_size ho
    refine call_enumT p' fun h' he hit hsz hk => wpAny_pyIter_enum he ?_
    have I2 : Inv X pins σ H1 { s1 with heap := h' } := I1.kept (t' := s1.toks) hk
    refine ⟨s1.heap.objs.size + 1, [s1.heap.objs.size + 1, s1.heap.objs.size], _, _, H1, rfl, I2, turn_enumT a (s1.heap.objs.size + 1) s1.heap.objs.size, ⟨⟨.none, he⟩, hit, Nat.succ_ne_self _, Nat.ne_of_lt hlt, Nat.ne_of_gt (Nat.lt_succ_of_lt hlt)⟩, fun b hb => ?_, q⟩
    have e' : b = s1.heap.objs.size + 1 ∨ b = s1.heap.objs.size := by simpa using hb
    have hle : s1.heap.objs.size ≤ b := by
      rcases e' with z | z
      · rw [z]; exact Nat.le_add_right _ _
      · rw [z]; exact Nat.le_refl _
    exact I1.fpOk hle (I1.hok.fresh hle)
theorem src_enumT {B : Bas} {ρ : List Addr} {S : Hp} {a : Addr} {xs : List V} {ds : List D} (hq : SqT B.K S a xs) (r : DDs B ρ S xs ds) : SrcOk B ρ S (IteT B.K a) ⟨enumD ds, none⟩ := src_of fun F1 ρ1 T1 H1 w p e =>
  have hq1 : SqT B.K H1 a xs := same_sqT (cut_sub _ _) (same_sqT e hq)
  ⟨fun i d hd => by
    obtain ⟨f, hf, ed⟩ := enumD_at hd
    subst ed
    obtain ⟨v, hv, hvd⟩ := r.get hf
    exact ⟨⟨xs, v, hq1, hv⟩, fun x H' ⟨T, y, ex, hT, eH, k⟩ => by
      subst ex eH
      have := k xs hq1
      rw [hv] at this
      cases this
      exact new_pair w hT (.int _) (hvd.mono p e)⟩, fun i hi => ⟨xs, hq1, by rw [r.len, ← enumD_len]; exact hi⟩⟩

/-! ### the iterable, as the interpreter says -/
def WI (X : Cx) (tg iter : Expr) : TI := fun σ H R => ∀ pins s, Inv X pins σ H s →
  wpAny (model X.prog X.w) X.A (eval iter X.env) (fun v s1 => wpAny (model X.prog X.w) X.A (pyIter v) (PIE X pins σ tg R) X.xe s1) X.xe s
abbrev rI (X : Cx) (A : Nm) : List Addr → Hp → It → Src → Prop := fun ρ S J s => SrcOk (Bx X A) ρ S J s
def SI (X : Cx) (A : Nm) (Γ : En) (tg it : Expr) (m : Mo Src) : Prop :=
  ∀ F ρ T σ H r Q, Gd (Bx X A) F ρ T σ H Γ → m T = some r → Post X A F ρ H σ (rI X A) r Q → WI X tg it σ H Q
section
variable {X : Cx} {A : Nm} {Pg : Prg} {Φ : Str → List D → Mo D} {lv : Nat} {c : Cn} {Γ : En} {tg : Expr}
theorem pi_wi {it : Expr} : PI X tg it (WI X tg it) := ⟨fun pins s σ H R I h => h pins s I⟩
theorem wi_of {it : Expr} {t : TI} {σ : L2.St} {H : Hp} {Q : It → Hp → Prop} (h : PI X tg it t) (q : t σ H Q) : WI X tg it σ H Q := fun pins s I => h.run pins s σ H Q I q
theorem SI.bind {α β : Type} {R : List Addr → Hp → β → α → Prop} {Q : β → Hp → Prop} {it : Expr} {m : Mo Src} {k : Src → Mo α} (h : SI X A Γ tg it m) {F ρ : List Addr} {T : List Ob} {σ : L2.St} {H : Hp} {r : Rs α} {Qm : It → Hp → Prop} (g : Gd (Bx X A) F ρ T σ H Γ) (e0 : (m.bind k) T = some r) (p : Post X A F ρ H σ R r Q)
    (c : ∀ s T1 J ρ1 H1, Stp F ρ H ρ1 H1 → Gd (Bx X A) F ρ1 T1 σ H1 Γ → SrcOk (Bx X A) ρ1 (cutR F ρ1 H1) J s → k s T1 = some r → Post X A F ρ1 H1 σ R r Q → Qm J H1) : WI X tg it σ H Qm := by
  rcases Mo.bind_some e0 with ⟨d, T1, e1, e2⟩ | ⟨C, fs, T1, e1, rfl⟩
  · exact h F ρ T σ H _ Qm g e1 fun J ρ' H' s w x => c d T1 J ρ' H' s (g.stp s w) x e2 (p.stp s)
  · exact h F ρ T σ H _ Qm g e1 p
/-- any value that can be walked -/
theorem si_val {e : Expr} {m : Mo D} (h : SE X A Γ e m) : SI X A Γ tg e (m.bind fun d => Mo.rd fun T => srcO T d) := by
  intro F ρ T σ H r Q g e0 p
  have e0' := e0
  rcases Mo.bind_some e0' with ⟨d, T1, e1, e2⟩ | ⟨C, fs, T1, e1, rfl⟩
  · obtain ⟨s, e3, rfl⟩ := Mo.rd_some e2
    unfold srcO at e3
    split at e3
    · cases e3
      refine wi_of (pi_list pe_we) (h F ρ T σ H _ _ g e1 fun v ρ1 H1 s1 w1 r1 => ?_)
      cases r1 with
      | lst hq r => exact ⟨_, rfl, ⟨_, .inl (same_rd (cut_sub _ _) hq)⟩, p _ ρ1 H1 s1 w1 (src_list hq r)⟩
    · cases e3
      refine wi_of (pi_tup pe_we) (h F ρ T σ H _ _ g e1 fun v ρ1 H1 s1 w1 r1 => ?_)
      cases r1 with
      | tup hq r => exact ⟨_, rfl, ⟨_, same_sqT (cut_sub _ _) hq⟩, p _ ρ1 H1 s1 w1 (src_tup hq r)⟩
    · cases e3
      refine wi_of (pi_str pe_we) (h F ρ T σ H _ _ g e1 fun v ρ1 H1 s1 w1 r1 => ?_)
      cases r1
      exact ⟨_, rfl, p _ ρ1 H1 s1 w1 src_str⟩
    · split at e3
      · rename_i ds hT
        cases e3
        refine wi_of (pi_list pe_we) (h F ρ T σ H _ _ g e1 fun v ρ1 H1 s1 w1 r1 => ?_)
        cases r1 with
        | adr hn =>
          obtain ⟨xs, h2, _⟩ := w1.at hn hT
          exact ⟨_, rfl, ⟨xs, .inl (.of h2)⟩, p _ ρ1 H1 s1 w1 (src_at hn)⟩
      · cases e3
    · cases e3
  · exact wi_of (pi_list pe_we) (h F ρ T σ H _ _ g e1 p)
theorem isB_ok (k : XOk X A Pg Φ lv c) {x : Str} (h : isB Pg c x = true) : Gl X x ∧ X.mg x = none := by
  unfold isB at h
  simp only [Bool.and_eq_true] at h
  exact ⟨gl_of (by rw [k.sc]; exact h.1.1.1.2), k.kn.free x h.1.2⟩
theorem star_one {a : Expr} {env : Env} (h : starred a = false) : starEach [a] env = [(false, eval a env)] := by rw [star_cons h]; rfl
theorem si_all (k : XOk X A Pg Φ lv c) {R : Evs} (hR : ∀ a, SE X A Γ a (R.e c Γ a)) {it : Expr} : SI X A Γ tg it (itM Pg R c Γ tg it) := by
  intro F ρ T σ H r Q g e0 p
  unfold itM at e0
  split at e0
  · split at e0
    · rename_i x xp a pos hc
      obtain ⟨rfl, hb, hs⟩ := hc
      obtain ⟨hG, hm⟩ := isB_ok k hb
      have hs1 := star_one (env := X.env) hs
      refine wi_of (pi_range1 hG hm (pa_cons pe_we pa_nil hs1) hs1) ((hR a).bind g e0 p fun d T1 v ρ1 H1 s1 g1 r1 e1 p1 => ?_)
      obtain ⟨z, e2, rfl⟩ := Mo.of_some e1
      unfold rng1O at e2
      split at e2
      · split at e2
        · rename_i n hn
          cases e2
          cases r1
          exact ⟨n, rfl, hn.1, hn.2, p1 _ ρ1 H1 .refl g1.wd src_range⟩
        · cases e2
      · cases e2
    · split at e0
      · rename_i x xp a pos hn0 hc
        obtain ⟨rfl, hb, hs, ht⟩ := hc
        obtain ⟨hG, hm⟩ := isB_ok k hb
        have hs1 := star_one (env := X.env) hs
        cases tg with
        | Tuple elts kk tpos =>
          rcases Mo.bind_some e0 with ⟨d, T1, e1, e2⟩ | ⟨C, fs, T1, e1, rfl⟩
          · obtain ⟨z, e3, rfl⟩ := Mo.of_some e2
            unfold enumO at e3
            split at e3
            · cases e3
              refine wi_of (pi_enum hG hm (pa_cons pe_we pa_nil hs1) hs1) (hR a F ρ T σ H _ _ g e1 fun v ρ1 H1 s1 w1 r1 => ?_)
              cases r1 with
              | lst hq r => exact ⟨_, _, rfl, .inl (same_rd (cut_sub _ _) hq), p _ ρ1 H1 s1 w1 (src_enum hq r)⟩
            · cases e3
              refine wi_of (pi_enumT hG hm (pa_cons pe_we pa_nil hs1) hs1) (hR a F ρ T σ H _ _ g e1 fun v ρ1 H1 s1 w1 r1 => ?_)
              cases r1 with
              | tup hq r => exact ⟨_, _, rfl, same_sqT (cut_sub _ _) hq, p _ ρ1 H1 s1 w1 (src_enumT hq r)⟩
            · cases e3
          · exact wi_of (pi_enum hG hm (pa_cons pe_we pa_nil hs1) hs1) (hR a F ρ T σ H _ _ g e1 p)
        | _ => cases ht
      · exact si_val (hR _) F ρ T σ H r Q g e0 p
  · split at e0
    · rename_i x xp a b pos hc
      obtain ⟨rfl, hb, hs, hs'⟩ := hc
      obtain ⟨hG, hm⟩ := isB_ok k hb
      have hs1 := star_one (env := X.env) hs'
      have hs2 := star_cons (es := [b]) (env := X.env) hs
      refine wi_of (pi_range2 hG hm (pa_cons pe_we (pa_cons pe_we pa_nil hs1) hs2) (by rw [hs2, hs1]) hs1) ((hR a).bind g e0 p fun d T1 v ρ1 H1 s1 g1 r1 e1 p1 => (hR b).bind g1 e1 p1 fun d2 T2 v2 ρ2 H2 s2 g2 r2 e2 p2 => ?_)
      obtain ⟨z, e3, rfl⟩ := Mo.of_some e2
      unfold rng2O at e3
      split at e3
      · split at e3
        · rename_i i j hn
          cases e3
          cases r1
          cases r2
          exact ⟨i, j, rfl, hn, p2 _ ρ2 H2 .refl g2.wd src_range⟩
        · cases e3
      · cases e3
    · split at e0
      · rename_i x xp a b pos hn0 hc
        obtain ⟨rfl, hb, hs, hs', ht⟩ := hc
        obtain ⟨hG, hm⟩ := isB_ok k hb
        have hs1 := star_one (env := X.env) hs'
        have hs2 := star_cons (es := [b]) (env := X.env) hs
        cases tg with
        | Tuple elts kk tpos =>
          refine wi_of (RZ.pi_zipA hG hm (pa_cons pe_we (pa_cons pe_we pa_nil hs1) hs2) hs2 (by rw [hs1]; rfl)) ((hR a).bind g e0 p fun d T1 v ρ1 H1 s1 g1 r1 e1 p1 => (hR b).bind g1 e1 p1 fun d2 T2 v2 ρ2 H2 s2 g2 r2 e2 p2 => ?_)
          obtain ⟨z, e3, rfl⟩ := Mo.of_some e2
          have r1' := r1.stp s2
          unfold zipO at e3
          split at e3
          · cases e3
            cases r1' with
            | lst hq r =>
              cases r2 with
              | lst hq2 r2 => exact ⟨_, _, _, _, rfl, .inl ⟨.inl (same_rd (cut_sub _ _) hq), .inl (same_rd (cut_sub _ _) hq2), p2 _ ρ2 H2 .refl g2.wd (src_zipL hq r hq2 r2)⟩⟩
          · cases e3
            cases r1' with
            | tup hq r =>
              cases r2 with
              | tup hq2 r2 => exact ⟨_, _, _, _, rfl, .inr ⟨same_sqT (cut_sub _ _) hq, same_sqT (cut_sub _ _) hq2, p2 _ ρ2 H2 .refl g2.wd (src_zipT hq r hq2 r2)⟩⟩
          · cases e3
        | _ => cases ht
      · exact si_val (hR _) F ρ T σ H r Q g e0 p
  · split at e0
    · cases e0
    · exact si_val (hR _) F ρ T σ H r Q g e0 p
theorem it_fold {R : Evs} {it : Expr} {T : List Ob} {r : Rs Src} {env : Env} (h : itM Pg R c Γ tg it T = some r) : ∀ x, foldedSetIterable it env x = pure x := by
  intro x
  cases it with
  | Set es k pos => exact absurd h (by intro z; cases z)
  | _ => rfl
end
end RR
set_option maxHeartbeats 1000000
/-! R20: list comprehensions. -/
namespace RR
open PySem PySem.Spec PyProof.Rows L2

/-! ### names wiped -/
theorem Gd.forget {B : Bas} {F ρ : List Addr} {T : List Ob} {σ : L2.St} {H : Hp} {Γ : En} (g : Gd B F ρ T σ H Γ) (i : Nat) : Gd B F ρ T (σ.set i none) H (Γ.set i none) :=
  ⟨by rw [List.length_set, List.length_set]; exact g.len, g.wd, fun j d e => by
    by_cases hj : j = i
    · subst hj
      by_cases hl : j < Γ.length
      · rw [List.getElem?_set_self hl] at e; cases e
      · rw [List.getElem?_eq_none (by rw [List.length_set]; omega)] at e; cases e
    · rw [List.getElem?_set_ne (Ne.symm hj)] at e ⊢
      exact g.bnd j d e⟩
theorem Gd.wipe {B : Bas} {F ρ : List Addr} {T : List Ob} {σ : L2.St} {H : Hp} {Γ : En} (g : Gd B F ρ T σ H Γ) : ∀ vs : List Nat, Gd B F ρ T (L2.wipe σ vs) H (wipeE Γ vs)
  | [] => g
  | v :: vs => (g.wipe vs).forget v
theorem wipe_out' {σ : L2.St} {i : Nat} : ∀ {vs : List Nat}, i ∉ vs → (L2.wipe σ vs)[i]? = σ[i]?
  | [], _ => rfl
  | v :: vs, h => by
    unfold L2.wipe
    rw [List.getElem?_set_ne fun z => h (List.mem_cons.mpr (.inl z.symm))]
    exact wipe_out' fun z => h (List.mem_cons_of_mem _ z)
theorem wipe_in {σ : L2.St} {i : Nat} : ∀ {vs : List Nat}, i ∈ vs → (L2.wipe σ vs)[i]? = if i < σ.length then some none else none
  | v :: vs, h => by
    unfold L2.wipe
    by_cases e : v = i
    · subst e
      by_cases hl : v < σ.length
      · rw [List.getElem?_set_self (by rw [wipe_length]; exact hl), if_pos hl]
      · rw [List.getElem?_eq_none (by rw [List.length_set, wipe_length]; omega), if_neg hl]
    · rw [List.getElem?_set_ne e]
      exact wipe_in ((List.mem_cons.mp h).resolve_left fun z => e z.symm)
theorem alike_wipe {σ σ2 : L2.St} {vs l : List Nat} (a : Alike l (L2.wipe σ vs) σ2) (hl : ∀ i ∈ l, i ∈ vs) : L2.wipe σ2 vs = L2.wipe σ vs := by
  have el : σ2.length = σ.length := by rw [a.1, wipe_length]
  refine List.ext_getElem? fun i => ?_
  by_cases h : i ∈ vs
  · rw [wipe_in h, wipe_in h, el]
  · rw [wipe_out' h, wipe_out' h, a.2 i fun m => h (hl i m), wipe_out' h]

/-! ### one address more, or less, that is kept -/
theorem cutR_cons {F ρ : List Addr} {H : Hp} {p : Addr} : Same (cutR (p :: F) ρ H) (cutR F ρ H) := cut_less fun a h => List.mem_cons_of_mem _ h
theorem Wd.unkeep {B : Bas} {F ρ : List Addr} {T : List Ob} {H : Hp} {p : Addr} (w : Wd B (p :: F) ρ T H) : Wd B F ρ T H :=
  ⟨w.len, (List.nodup_cons.mp w.nd).2, fun a h => w.trk a (List.mem_cons_of_mem _ h), fun i a o h1 h2 => (w.ok i a o h1 h2).mono (List.prefix_refl _) cutR_cons rfl⟩
theorem cut_new0 {F ρ : List Addr} {H : Hp} {p : Addr} {o : HO} (hp : H p = none) : cutR (p :: F) ρ (upd H p o) = cutR F ρ H := by
  funext b
  show (if b ∈ p :: (F ++ ρ) then none else upd H p o b) = if b ∈ F ++ ρ then none else H b
  by_cases z : b = p
  · subst z
    rw [if_pos List.mem_cons_self, hp]
    split <;> rfl
  · by_cases m : b ∈ F ++ ρ
    · rw [if_pos m, if_pos (List.mem_cons_of_mem _ m)]
    · rw [if_neg m, if_neg fun h => (List.mem_cons.mp h).elim z m, upd_ne z]
theorem Wd.keep {B : Bas} {F ρ : List Addr} {T : List Ob} {H : Hp} {p : Addr} {o : HO} (w : Wd B F ρ T H) (hp : H p = none) : Wd B (p :: F) ρ T (L2.upd H p o) := by
  have np : p ∉ F ++ ρ := fun m => w.has m hp
  refine ⟨w.len, List.nodup_cons.mpr ⟨np, w.nd⟩, fun a h => ?_, fun i a ob h1 h2 => ?_⟩
  · by_cases z : a = p
    · subst z; rw [upd_same]; exact fun z => by cases z
    · rw [upd_ne z]; exact w.trk a ((List.mem_cons.mp h).resolve_left z)
  · rw [cut_new0 hp]
    exact (w.ok i a ob h1 h2).mono (List.prefix_refl _) (Same.refl _) (upd_ne fun z => np (List.mem_append_right _ (by rw [← z]; exact List.mem_of_getElem? h1)))
theorem cut_upd0 {F ρ : List Addr} {H : Hp} {p : Addr} {o : HO} : cutR (p :: F) ρ (upd H p o) = cutR (p :: F) ρ H := cut_upd (show p ∈ p :: F ++ ρ from List.mem_cons_self)
theorem Wd.updF {B : Bas} {F ρ : List Addr} {T : List Ob} {H : Hp} {p : Addr} {o : HO} (w : Wd B (p :: F) ρ T H) : Wd B (p :: F) ρ T (L2.upd H p o) := by
  have np : p ∉ F ++ ρ := (List.nodup_cons.mp w.nd).1
  refine ⟨w.len, w.nd, fun a h => ?_, fun i a ob h1 h2 => ?_⟩
  · by_cases z : a = p
    · subst z; rw [upd_same]; exact fun z => by cases z
    · rw [upd_ne z]; exact w.trk a h
  · rw [cut_upd0]
    exact (w.ok i a ob h1 h2).mono (List.prefix_refl _) (Same.refl _) (upd_ne fun z => np (List.mem_append_right _ (by rw [← z]; exact List.mem_of_getElem? h1)))

/-! ### the block -/
theorem idx_none {N : List Str} {x : Str} (h : idx N x = none) : x ∉ N := fun m => by
  unfold idx at h
  rw [List.findIdx?_eq_none_iff] at h
  have := h x m
  simp at this
theorem blk_ok {c : Cn} {sc : Scope} {own : List (Str × Nat)} (h : blkO c sc = some own) : BlkOk c.N c.sc sc own := by
  unfold blkO at h
  simp only at h
  split at h
  · rename_i hc
    obtain ⟨h1, h2, h3⟩ := hc
    cases h
    rw [List.all_eq_true] at h2 h3
    refine ⟨h1, fun y hy => of_decide_eq_true (h2 y hy), fun p hp => ?_, fun y hy e => ?_, fun y hy e => ?_⟩
    · obtain ⟨y, hy, h4⟩ := List.mem_filterMap.mp hp
      split at h4
      · obtain ⟨i, hi, rfl⟩ := Option.map_eq_some_iff.mp h4
        exact idx_get hi
      · cases h4
    · have h5 := h3 y hy
      simp only [e, decide_true, Bool.not_true, Bool.false_or, Bool.or_eq_true, decide_eq_true_eq] at h5
      exact h5
    · cases hi : idx c.N y.1 with
      | none => exact .inr (idx_none hi)
      | some i =>
        refine .inl (List.mem_map.mpr ⟨(y.1, i), List.mem_filterMap.mpr ⟨y, hy, ?_⟩, rfl⟩)
        rw [if_pos e, hi]
        rfl
  · cases h
section
variable {X : Cx} {A : Nm} {Pg : Prg} {Φ : Str → List D → Mo D} {lv : Nat} {c : Cn} {Γ : En}
abbrev blk' (X : Cx) (scope : Scope) (s : Shared) (H : Hp) (c : Addr) (cl : List (Str × Addr)) (fp : List Addr) : Cx := X.blk s H scope (compEnvC scope cl c X.env) fp
theorem XOk.blk (k : XOk X A Pg Φ lv c) (sc : Scope) (s : Shared) (H : Hp) (a : Addr) (cl : List (Str × Addr)) (fp : List Addr) : XOk (blk' X sc s H a cl fp) A Pg Φ lv (inner c sc) := by
  have es : (blk' X sc s H a cl fp).env.scope = relS sc c.sc := by
    rw [← k.sc]
    rfl
  refine ⟨k.kn, k.N, k.nd, es, k.gd, k.rm, k.calm, fun x hx => ?_⟩
  have hx' : locB sc x = true := hx
  unfold locB at hx'
  split at hx'
  · rename_i e
    have h1 : (blk' X sc s H a cl fp).env.scope.names.lookup x = some .local := by
      rw [es]
      exact lookup_relS_keep (by decide) e
    exact ⟨.inl h1, .inr h1⟩
  · rename_i e
    have h1 : (blk' X sc s H a cl fp).env.scope.names.lookup x = some .cell := by
      rw [es]
      exact lookup_relS_keep (by decide) e
    refine ⟨.inr h1, .inl ?_⟩
    show (sc.names.lookup x == some .cell) = true
    rw [e] <;> rfl
  · cases hx'

/-! ### tests -/
def WTs (X : Cx) (ifs : List Expr) : TT := fun σ H Q => ∀ pins s, Inv X pins σ H s →
  wpAny (model X.prog X.w) X.A (forIn ifs true fun c r => if r = true then do let ok ← isTrue c X.env (eval c X.env); pure (ForInStep.yield ok) else pure (ForInStep.yield r)) (TP X pins σ Q) X.xe s
theorem ts_all {f : Expr → Mo Bool} (hf : ∀ a, ST X A Γ a (f a)) {ifs : List Expr} {α β : Type} {R : List Addr → Hp → β → α → Prop} {Q : β → Hp → Prop} {k : Bool → Mo α} {F ρ : List Addr} {T : List Ob} {σ : L2.St} {H : Hp} {r : Rs α} {Qm : Bool → Hp → Prop} (g : Gd (Bx X A) F ρ T σ H Γ) (e0 : ((ifsM f ifs).bind k) T = some r) (p : Post X A F ρ H σ R r Q)
    (cc : ∀ d T1 ρ1 H1, Stp F ρ H ρ1 H1 → Gd (Bx X A) F ρ1 T1 σ H1 Γ → k d T1 = some r → Post X A F ρ1 H1 σ R r Q → Qm d H1) : WTs X ifs σ H Qm := by
  match ifs with
  | [] => exact fun pins s I => pts_nil.run pins s σ H Qm I (cc true T ρ H .refl g e0 p)
  | [e] => exact fun pins s I => (pts_one pt_wt).run pins s σ H Qm I ((hf e).bind g e0 p cc)
  | _ :: _ :: _ => cases e0
/-! ### new lists -/
/-- a list that nobody else knows -/
def PostN (X : Cx) (A : Nm) (F ρ : List Addr) (H : Hp) (σ : L2.St) (r : Rs (List D)) (Q : VK) : Prop := match r with
  | .ok ds T' => ∀ q xs ρ' H', ρ <+: ρ' → Same (cutR F ρ H) (cutR (q :: F) ρ' H') → (∀ a ∈ F, H' a = H a) → Wd (Bx X A) (q :: F) ρ' T' H' → H' q = some (.lst xs) → DDs (Bx X A) ρ' (cutR (q :: F) ρ' H') xs ds → Q (.ref q) H'
  | .ex C fs T' => PostX X A F ρ H σ C fs T'
theorem PostN.stp {F ρ ρ1 : List Addr} {H H1 : Hp} {σ : L2.St} {r : Rs (List D)} {Q : VK} (p : PostN X A F ρ H σ r Q) (s : Stp F ρ H ρ1 H1) : PostN X A F ρ1 H1 σ r Q := by
  cases r with
  | ok ds T' => exact fun q xs ρ' H' p1 p2 p3 p4 p5 p6 => p q xs ρ' H' (s.pre.trans p1) (s.same.trans p2) (fun a ha => (p3 a ha).trans (s.fr a ha)) p4 p5 p6
  | ex C fs T' => exact PostX.stp p s
def SL (X : Cx) (A : Nm) (Γ : En) (e : Expr) (m : Mo (List D)) : Prop :=
  ∀ F ρ T σ H r Q, Gd (Bx X A) F ρ T σ H Γ → m T = some r → PostN X A F ρ H σ r Q → WE X e σ H Q
/-- as data -/
theorem post_data {F ρ : List Addr} {H : Hp} {σ : L2.St} {r : Rs (List D)} {r' : Rs D} {Q : VK} {T : List Ob} {m : Mo (List D)} (e1 : m T = some r) (e : (m.bind fun ds => Mo.ret (.lst ds)) T = some r') (p : Post X A F ρ H σ (rD X A) r' Q) : PostN X A F ρ H σ r Q := by
  unfold Mo.bind at e
  rw [e1] at e
  cases r with
  | ok ds T' =>
    cases e
    exact fun q xs ρ' H' p1 p2 p3 p4 p5 p6 => p (.ref q) ρ' H' ⟨p1, p2.trans cutR_cons, p3⟩ p4.unkeep (.lst (.of (by
      have nq : q ∉ F ++ ρ' := (List.nodup_cons.mp p4.nd).1
      unfold cutR
      rw [cut_at nq]
      exact p5)) (p6.mono (List.prefix_refl _) cutR_cons))
  | ex C fs T' => cases e; exact p
theorem cutR_snoc {F ρ : List Addr} {H : Hp} {q : Addr} : cutR F (ρ ++ [q]) H = cutR (q :: F) ρ H := cut_mem fun a => by
  simp only [List.mem_append, List.mem_cons, List.not_mem_nil, or_false, List.cons_append]
  constructor
  · rintro (h | h | h)
    · exact .inr (.inl h)
    · exact .inr (.inr h)
    · exact .inl h
  · rintro (h | h | h)
    · exact .inr (.inr h)
    · exact .inl h
    · exact .inr (.inl h)
/-- .. which the code may change -/
theorem post_track {F ρ : List Addr} {H : Hp} {σ : L2.St} {r : Rs (List D)} {r' : Rs D} {Q : VK} {T : List Ob} {m : Mo (List D)} (e1 : m T = some r) (e : (m.bind fun ds => alloc (.lst ds)) T = some r') (p : Post X A F ρ H σ (rD X A) r' Q) : PostN X A F ρ H σ r Q := by
  unfold Mo.bind at e
  rw [e1] at e
  cases r with
  | ok ds T' =>
    cases e
    intro q xs ρ' H' p1 p2 p3 p4 p5 p6
    have pre : ρ' <+: ρ' ++ [q] := List.prefix_append _ _
    have sm : Same (cutR (q :: F) ρ' H') (cutR F (ρ' ++ [q]) H') := by rw [cutR_snoc]; exact Same.refl _
    have nd := p4.nd
    have hw : Wd (Bx X A) F (ρ' ++ [q]) (T' ++ [.lst ds]) H' := by
      refine ⟨by rw [List.length_append, List.length_append, p4.len]; rfl, ?_, fun a ha => p4.trk a (List.mem_cons_of_mem _ ha), fun i a o h1 h2 => ?_⟩
      · have h0 : (q :: (F ++ ρ')).Nodup := nd
        have h1 := List.nodup_cons.mp h0
        rw [← List.append_assoc]
        exact List.nodup_append.mpr ⟨h1.2, by simp, fun a ha b hb => by
          simp at hb
          subst hb
          exact fun z => h1.1 (z ▸ ha)⟩
      · by_cases hi : i < ρ'.length
        · rw [List.getElem?_append_left hi] at h1
          rw [List.getElem?_append_left (by rw [← p4.len]; exact hi)] at h2
          exact (p4.ok i a o h1 h2).mono pre sm rfl
        · have hlt := (List.getElem?_eq_some_iff.mp h1).1
          rw [List.length_append] at hlt
          have ei : i = ρ'.length := by simp at hlt; omega
          subst ei
          rw [List.getElem?_append_right (Nat.le_refl _), Nat.sub_self] at h1
          rw [p4.len, List.getElem?_append_right (Nat.le_refl _), Nat.sub_self] at h2
          cases h1
          cases h2
          exact ⟨xs, p5, p6.mono pre sm⟩
    refine p (.ref q) (ρ' ++ [q]) H' ⟨p1.trans pre, p2.trans sm, p3⟩ hw (.adr ?_)
    rw [← p4.len, List.getElem?_append_right (Nat.le_refl _), Nat.sub_self]
    rfl
  | ex C fs T' => cases e; exact p
theorem bind_fst {α β : Type} {m : Mo α} {k : α → Mo β} {T : List Ob} {r : Rs β} (h : (m.bind k) T = some r) : ∃ r0, m T = some r0 := by
  unfold Mo.bind at h
  cases e : m T with
  | none => rw [e] at h; cases h
  | some z => exact ⟨z, rfl⟩
theorem SL.data {e : Expr} {m : Mo (List D)} (h : SL X A Γ e m) : SE X A Γ e (m.bind fun ds => Mo.ret (.lst ds)) := fun F ρ T σ H r Q g e0 p => by
  obtain ⟨r0, e1⟩ := bind_fst e0
  exact h F ρ T σ H r0 Q g e1 (post_data e1 e0 p)
theorem SL.track {e : Expr} {m : Mo (List D)} (h : SL X A Γ e m) : SE X A Γ e (m.bind fun ds => alloc (.lst ds)) := fun F ρ T σ H r Q g e0 p => by
  obtain ⟨r0, e1⟩ := bind_fst e0
  exact h F ρ T σ H r0 Q g e1 (post_track e1 e0 p)
/-! ### the loop -/
/-- the walk's layer is right for every context -/
def EvsOk (A : Nm) (Pg : Prg) (Φ : Str → List D → Mo D) (lv : Nat) (R : Evs) : Prop := ∀ (X : Cx) (c : Cn) (Γ : En), XOk X A Pg Φ lv c → (∀ a, SE X A Γ a (R.e c Γ a)) ∧ ∀ a, ST X A Γ a (R.t c Γ a)
theorem calm_some {α : Type} {m : Mo α} {T T' : List Ob} {a : α} (h : m.calm T = some (.ok a T')) : m T = some (.ok a T') := by
  unfold Mo.calm at h
  split at h
  · rename_i e
    rw [e]
    exact h
  · cases h
theorem calm_no {α : Type} {m : Mo α} {T T' : List Ob} {C : Nat} {fs : List (Str × D)} (h : m.calm T = some (.ex C fs T')) : False := by
  unfold Mo.calm at h
  split at h <;> cases h
theorem lc_run (k : XOk X A Pg Φ lv c) {R : Evs} (hR : EvsOk A Pg Φ lv R) {elt tg it : Expr} {ifs : List Expr} {sc : Scope} {own : List (Str × Nat)} {t : Tgt} (hown : blkO c sc = some own) (ht : tgt (inner c sc) tg = some t) (hv : (t.slots.all fun i => (own.map (·.2)).contains i) = true)
    {F ρ : List Addr} {T : List Ob} {σ : L2.St} {H : Hp} {r : Rs (List D)} {Q : VK} (g : Gd (Bx X A) F ρ T σ H Γ) (e : lcM Pg R c Γ elt tg it ifs sc T = some r) (p : PostN X A F ρ H σ r Q) :
    tLc (WI X tg it) (t.g X.K) (fun σ H Q => ∀ s H0 c cl fp, WTs (blk' X sc s H0 c cl fp) ifs σ H Q) (fun σ H Q => ∀ s H0 c cl fp, WE (blk' X sc s H0 c cl fp) elt σ H Q) (own.map (·.2)) σ H Q := by
  have hv' : ∀ i ∈ t.slots, i ∈ own.map (·.2) := fun i hi => by
    rw [List.all_eq_true] at hv
    have := hv i hi
    simpa using this
  unfold lcM at e
  rw [hown] at e
  simp only [ht] at e
  rw [if_pos hv] at e
  rcases Mo.bind_some e with ⟨s, T1, e0, e1⟩ | ⟨C, fs, T1, e0, rfl⟩
  case inr => exact si_all k (hR X c Γ k).1 F ρ T σ H _ _ g e0 p
  refine si_all k (hR X c Γ k).1 F ρ T σ H _ _ g e0 fun J ρ1 H1 s1 w1 src => ?_
  have g1 := g.stp s1 w1
  have p1 := PostN.stp p s1
  intro q hq
  generalize hvs : own.map (·.2) = vs at *
  generalize hf : (fun d => match t.put (wipeE Γ vs) d with
          | none => Mo.no
          | some Γ2 => ((ifsM (R.t (inner c sc) Γ2) ifs).bind fun b => if b = true then (R.e (inner c sc) Γ2 elt).bind fun y => Mo.ret (some y) else Mo.ret none).calm : D → Mo (Option D)) = f at e1
  have np : q ∉ F ++ ρ1 := fun m => g1.wd.has m hq
  refine ⟨fun i m H' => m = s.ds.length - i ∧ i ≤ s.ds.length ∧ ∃ acc T' ρ' xs, lcGo f s.keeps (s.ds.drop i) acc T' = some r ∧ ρ1 <+: ρ' ∧ Same (cutR F ρ1 H1) (cutR (q :: F) ρ' H') ∧ (∀ a ∈ F, H' a = H1 a) ∧ Gd (Bx X A) (q :: F) ρ' T' (wipe σ vs) H' (wipeE Γ vs) ∧ H' q = some (.lst xs) ∧ DDs (Bx X A) ρ' (cutR (q :: F) ρ' H') xs acc,
    ⟨s.ds.length, by simp, Nat.zero_le _, [], T1, ρ1, [], e1, List.prefix_refl _, by rw [cut_new0 hq]; exact Same.refl _, fun a ha => upd_ne fun z => np (List.mem_append_left _ (z ▸ ha)), ?_, upd_same, .nil⟩, ?_⟩
  · refine Gd.wipe ⟨g1.len, g1.wd.keep hq, ?_⟩ vs
    rw [cut_new0 hq]
    exact g1.bnd
  rintro i m H' ⟨rfl, hi, acc, T', ρ', xs, e2, pre, sm, fr, g2, hD, hxs⟩
  by_cases hlt : i < s.ds.length
  · have hd : s.ds[i]? = some s.ds[i] := List.getElem?_eq_getElem hlt
    rw [List.drop_eq_getElem_cons hlt] at e2
    generalize s.ds[i] = d at *
    unfold lcGo at e2
    split at e2
    · rename_i hkeep
      obtain ⟨src1, src2⟩ := src (q :: F) ρ' T' H' g2.wd pre sm hkeep
      obtain ⟨go, yl⟩ := src1 i d hd
      -- the turn's end
      cases ef : f d T' with
      | none => rw [ef] at e2; cases e2
      | some z =>
        cases z with
        | ex C fs T2 => rw [ef] at e2; cases e2
        | ok y T2 =>
          rw [ef] at e2
          rw [← hf] at ef
          replace ef : (match t.put (wipeE Γ vs) d with
          | none => Mo.no
          | some Γ2 => ((ifsM (R.t (inner c sc) Γ2) ifs).bind fun b => if b = true then (R.e (inner c sc) Γ2 elt).bind fun y => Mo.ret (some y) else Mo.ret none).calm : Mo (Option D)) T' = some (.ok y T2) := ef
          cases eput : t.put (wipeE Γ vs) d with
          | none => rw [eput] at ef; cases ef
          | some Γ2 =>
            rw [eput] at ef
            have ec := calm_some ef
            refine .inr ⟨go, fun H'' => ∃ acc T' ρ' xs, lcGo f s.keeps (s.ds.drop (i + 1)) acc T' = some r ∧ ρ1 <+: ρ' ∧ Same (cutR F ρ1 H1) (cutR (q :: F) ρ' H'') ∧ (∀ a ∈ F, H'' a = H1 a) ∧ Gd (Bx X A) (q :: F) ρ' T' (wipe σ vs) H'' (wipeE Γ vs) ∧ H'' q = some (.lst xs) ∧ DDs (Bx X A) ρ' (cutR (q :: F) ρ' H'') xs acc,
              fun H'' z => ⟨s.ds.length - (i + 1), by omega, rfl, hlt, z⟩, fun x H'' yy => ?_⟩
            obtain ⟨smm, dd⟩ := yl x H'' yy
            obtain ⟨w3, s3⟩ := g2.wd.same smm
            have g3 := g2.stp s3 w3
            refine Tgt.ok t g3 dd eput fun σ4 g4 al => ⟨alike_wipe al hv', ?_⟩
            intro s0 H0 cc cl fp
            have kb := k.blk sc s0 H0 cc cl fp
            obtain ⟨hRe, hRt⟩ := hR _ _ Γ2 kb
            -- where the turn may end
            have fin : ∀ ρ5 H5, Stp (q :: F) ρ' H'' ρ5 H5 → Wd (Bx X A) (q :: F) ρ5 T2 H5 → Gd (Bx X A) (q :: F) ρ5 T2 (wipe σ vs) H5 (wipeE Γ vs) ∧ ρ1 <+: ρ5 ∧ Same (cutR F ρ1 H1) (cutR (q :: F) ρ5 H5) ∧ (∀ a ∈ F, H5 a = H1 a) ∧ H5 q = some (.lst xs) ∧ DDs (Bx X A) ρ5 (cutR (q :: F) ρ5 H5) xs acc := fun ρ5 H5 s5 w5 =>
              have s' := s3.trans s5
              ⟨g2.stp s' w5, pre.trans s'.pre, sm.trans s'.same, fun a ha => (s'.fr a (List.mem_cons_of_mem _ ha)).trans (fr a ha), (s'.fr q List.mem_cons_self).trans hD, hxs.stp s'⟩
            have post : Post (blk' X sc s0 H0 cc cl fp) A (q :: F) ρ' H'' σ4 (fun ρ S (v : Option V) (y : Option D) => match v, y with | some v, some y => DD (Bx X A) ρ S v y | none, none => True | _, _ => False) (.ok y T2)
                (fun v H3 => match v with
                  | some v => ∃ acc, H3 q = some (.lst acc) ∧ acc.length < sizeLine ∧ (∃ acc' T' ρ' xs, lcGo f s.keeps (s.ds.drop (i + 1)) acc' T' = some r ∧ ρ1 <+: ρ' ∧ Same (cutR F ρ1 H1) (cutR (q :: F) ρ' (upd H3 q (.lst (acc ++ [v])))) ∧ (∀ a ∈ F, (upd H3 q (.lst (acc ++ [v]))) a = H1 a) ∧ Gd (Bx X A) (q :: F) ρ' T' (wipe σ vs) (upd H3 q (.lst (acc ++ [v]))) (wipeE Γ vs) ∧ (upd H3 q (.lst (acc ++ [v]))) q = some (.lst xs) ∧ DDs (Bx X A) ρ' (cutR (q :: F) ρ' (upd H3 q (.lst (acc ++ [v])))) xs acc')
                  | none => ∃ acc T' ρ' xs, lcGo f s.keeps (s.ds.drop (i + 1)) acc T' = some r ∧ ρ1 <+: ρ' ∧ Same (cutR F ρ1 H1) (cutR (q :: F) ρ' H3) ∧ (∀ a ∈ F, H3 a = H1 a) ∧ Gd (Bx X A) (q :: F) ρ' T' (wipe σ vs) H3 (wipeE Γ vs) ∧ H3 q = some (.lst xs) ∧ DDs (Bx X A) ρ' (cutR (q :: F) ρ' H3) xs acc) := by
              intro v ρ5 H5 s5 w5 rv
              obtain ⟨f1, f2, f3, f4, f5, f6⟩ := fin ρ5 H5 s5 w5
              cases v with
              | none =>
                cases y with
                | some y => exact False.elim rv
                | none => exact ⟨acc, T2, ρ5, xs, e2, f2, f3, f4, f1, f5, f6⟩
              | some v =>
                cases y with
                | none => exact False.elim rv
                | some y =>
                  simp only at e2
                  split at e2
                  · rename_i hz
                    refine ⟨xs, f5, by rw [f6.len]; exact hz, acc ++ [y], T2, ρ5, xs ++ [v], e2, f2, ?_, fun a ha => ?_, ⟨f1.len, f1.wd.updF, ?_⟩, upd_same, ?_⟩
                    · rw [cut_upd0]; exact f3
                    · have ne : a ≠ q := fun z => np (List.mem_append_left _ (z ▸ ha))
                      rw [upd_ne ne]
                      exact f4 a ha
                    · rw [cut_upd0]; exact f1.bnd
                    · rw [cut_upd0]; exact f6.append (.one rv)
                  · cases e2
            refine ts_all hRt g4 ec post fun b T3 ρ3 H3 s4 g5 e3 p3 => ?_
            cases b with
            | false =>
              have e3' := Mo.ret_some e3
              cases e3'
              exact p3 none ρ3 H3 .refl g5.wd trivial
            | true =>
              show ∀ s H0 c cl fp, WE (blk' X sc s H0 c cl fp) elt σ4 H3 _
              intro s5 H05 cc5 cl5 fp5
              obtain ⟨hRe5, _⟩ := hR _ _ Γ2 (k.blk sc s5 H05 cc5 cl5 fp5)
              refine (hRe5 elt).bind g5 e3 (R := fun ρ S (v : Option V) (y : Option D) => match v, y with | some v, some y => DD (Bx X A) ρ S v y | none, none => True | _, _ => False) p3 fun d4 T4 v4 ρ4 H4 s6 g6 r6 e6 p6 => ?_
              have e6' := Mo.ret_some e6
              cases e6'
              exact p6 (some v4) ρ4 H4 .refl g6.wd r6
    · cases e2
  · have ei : i = s.ds.length := by omega
    subst ei
    rw [List.drop_length] at e2
    unfold lcGo at e2
    split at e2
    · rename_i hkeep
      obtain ⟨src1, src2⟩ := src (q :: F) ρ' T' H' g2.wd pre sm hkeep
      cases e2
      exact .inl ⟨src2 _ (Nat.le_refl _), p1 q xs ρ' H' pre sm fr g2.wd hD hxs⟩
    · cases e2
theorem lcM_some {R : Evs} {elt tg it : Expr} {ifs : List Expr} {sc : Scope} {T : List Ob} {r : Rs (List D)} (e : lcM Pg R c Γ elt tg it ifs sc T = some r) : ∃ own t, blkO c sc = some own ∧ tgt (inner c sc) tg = some t ∧ (t.slots.all fun i => (own.map (·.2)).contains i) = true ∧ ∀ x env, foldedSetIterable it env x = pure x := by
  unfold lcM at e
  cases ho : blkO c sc with
  | none => rw [ho] at e; cases e
  | some own =>
    rw [ho] at e
    cases ht : tgt (inner c sc) tg with
    | none => simp only [ht] at e; cases e
    | some t =>
      simp only [ht] at e
      by_cases hv : (t.slots.all fun i => (own.map (·.2)).contains i) = true
      · rw [if_pos hv] at e
        refine ⟨own, t, rfl, rfl, hv, fun x env => ?_⟩
        rcases Mo.bind_some e with ⟨d, T1, e1, e2⟩ | ⟨C, fs, T1, e1, rfl⟩
        · exact it_fold e1 x
        · exact it_fold e1 x
      · rw [if_neg hv] at e
        cases e
theorem sl_lc (k : XOk X A Pg Φ lv c) {R : Evs} (hR : EvsOk A Pg Φ lv R) {elt tg it : Expr} {ifs : List Expr} {sc : Scope} {pos : Pos} : SL X A Γ (.ListComp elt [⟨tg, it, ifs, 0⟩] sc pos) (lcM Pg R c Γ elt tg it ifs sc) := by
  intro F ρ T σ H r Q g e p
  obtain ⟨own, t, h1, h2, h3, h4⟩ := lcM_some e
  exact we_of (pe_lc k.calm (by rw [k.N]; exact k.nd) pi_wi (by rw [k.N, k.sc]; exact blk_ok h1) (fun s H c' cl fp => (tgt_ok (k.blk sc s H c' cl fp) tg t h2).2) (fun s H c cl fp => ⟨fun pins s' _ _ _ I h => h s H c cl fp pins s' I⟩) (fun s H c cl fp => ⟨fun pins s' _ _ _ I h => h s H c cl fp pins s' I⟩) (fun x => h4 x _)) (lc_run k hR h1 h2 h3 g e p)
theorem se_lc (k : XOk X A Pg Φ lv c) {R : Evs} (hR : EvsOk A Pg Φ lv R) {elt tg it : Expr} {ifs : List Expr} {sc : Scope} {pos : Pos} : SE X A Γ (.ListComp elt [⟨tg, it, ifs, 0⟩] sc pos) ((lcM Pg R c Γ elt tg it ifs sc).bind fun ds => Mo.ret (.lst ds)) := (sl_lc k hR).data
/-- a list written out -/
theorem sl_list {es : List Expr} {pos : Pos} {m : Mo (List D)} (h : SA X A Γ es m) : SL X A Γ (.List es pos) (m.bind fun ds => if ds.length ≤ sizeLine then Mo.ret ds else Mo.no) := by
  intro F ρ T σ H r Q g e p
  rcases Mo.bind_some e with ⟨ds, T1, e0, e1⟩ | ⟨C, fs, T1, e0, rfl⟩
  · refine we_of (pe_lst pa_wa) (h F ρ T σ H _ _ g e0 fun vs ρ1 H1 s1 w1 r1 => ?_)
    split at e1
    · rename_i hl
      have := Mo.ret_some e1
      subst this
      refine ⟨by rw [r1.len]; exact hl, fun a ha => p a vs ρ1 _ s1.pre ?_ (fun b hb => ?_) (w1.keep ha) upd_same ?_⟩
      · rw [cut_new0 ha]; exact s1.same
      · have ne : b ≠ a := fun z => w1.has (List.mem_append_left _ (z ▸ hb)) ha
        rw [upd_ne ne]
        exact s1.fr b hb
      · rw [cut_new0 ha]; exact r1
    · cases e1
  · exact we_of (pe_lst pa_wa) (h F ρ T σ H _ _ g e0 p)
end
end RR
set_option maxHeartbeats 2000000
/-! R20A: a plain thing == an own object, which says no. -/
namespace RR
open PySem PySem.Spec PyProof.Rows L2
open AutoSeq1 (wpAny_loadPart')
open MeetsSeq MeetsSeq2 MeetsSeq3 SeqRoads2 SeqAt
theorem int_own (b : Int) (u : Tok) (x C dx : Addr) : Meets (Builtin.«int.__eq__» ⟨[.int b u, .ref x], []⟩) (fun _ R s => s.heap.get? x = some (PySem.W.instObj C dx) ∧ R (.ok (.ret .notImplemented)) s) :=
  .of_wp fun prog w A R s h => by
    obtain ⟨hp, g, d, tk, os⟩ := s
    obtain ⟨hl, h⟩ := h
    unfold PySem.W.instObj at hl
    wp_walk using wpAny_loadPart' hl, wpAny_load hl
    exact ⟨_, rfl, h⟩
theorem bool_own (b : Bool) (x C dx : Addr) : Meets (Builtin.«int.__eq__» ⟨[.bool b, .ref x], []⟩) (fun _ R s => s.heap.get? x = some (PySem.W.instObj C dx) ∧ R (.ok (.ret .notImplemented)) s) :=
  .of_wp fun prog w A R s h => by
    obtain ⟨hp, g, d, tk, os⟩ := s
    obtain ⟨hl, h⟩ := h
    unfold PySem.W.instObj at hl
    wp_walk using wpAny_loadPart' hl, wpAny_load hl
    exact ⟨_, rfl, h⟩
theorem str_own (b : Str) (u : Tok) (x C dx : Addr) : Meets (Builtin.«str.__eq__» ⟨[.str b u, .ref x], []⟩) (fun _ R s => s.heap.get? x = some (PySem.W.instObj C dx) ∧ R (.ok (.ret .notImplemented)) s) :=
  .of_wp fun prog w A R s h => by
    obtain ⟨hp, g, d, tk, os⟩ := s
    obtain ⟨hl, h⟩ := h
    unfold PySem.W.instObj at hl
    wp_walk using wpAny_loadPart' hl, wpAny_load hl
    exact ⟨_, rfl, h⟩
theorem isi_own {M : Model} {A : Around} {s : Shared} {Q : Bool → Shared → Prop} {E : Value → Shared → Prop} {K : PySem.W.Frag} {x C : Addr} {ox : Obj} {od : Option Obj} {T : String} (X : K.In s.heap) (I : PySem.W.InstAt s.heap x ox C od) (hs : PySem.W.subIn K (.ref C) (.type T) = some false) (q : Q false s) : wpAny M A (isInstance (.ref x) (.type T)) Q E s := by
  simp only [isInstance]
  exact wpAny_bind (I.type.here ((PySem.W.looks_subIn X hs).here q))
theorem list_own (l : Addr) (items : Array Value) (n : Nat) (dd : Option Addr) (sl : Array (Option Value)) (x C : Addr) (K : PySem.W.Frag) (ox : Obj) (od : Option Obj) (hs : PySem.W.subIn K (.ref C) (.type "list") = some false) :
    Meets (Builtin.«list.__eq__» ⟨[.ref l, .ref x], []⟩) (fun _ R s => s.heap.get? l = some { cls := .type "list", dict := dd, data := .seq items n, slots := sl } ∧ K.In s.heap ∧ PySem.W.InstAt s.heap x ox C od ∧ R (.ok (.ret .notImplemented)) s) :=
  .of_wp fun prog w A R s h => by
    obtain ⟨hp, g, d, tk, os⟩ := s
    obtain ⟨hl, hK, hI, h⟩ := h
    have hi : ∀ (M : Model) (A : Around) (Q : Bool → Shared → Prop) (E : Value → Shared → Prop), Q false ⟨hp, g, d, tk, os⟩ → wpAny M A (isInstance (.ref x) (.type "list")) Q E ⟨hp, g, d, tk, os⟩ := fun M A Q E q => isi_own hK hI hs q
    wp_walk using wpAny_loadPart' hl, hi
    exact ⟨_, rfl, h⟩
theorem tuple_own (l : Addr) (items : Array Value) (n : Nat) (dd : Option Addr) (sl : Array (Option Value)) (x C : Addr) (K : PySem.W.Frag) (ox : Obj) (od : Option Obj) (hs : PySem.W.subIn K (.ref C) (.type "tuple") = some false) :
    Meets (Builtin.«tuple.__eq__» ⟨[.ref l, .ref x], []⟩) (fun _ R s => s.heap.get? l = some { cls := .type "tuple", dict := dd, data := .seq items n, slots := sl } ∧ K.In s.heap ∧ PySem.W.InstAt s.heap x ox C od ∧ R (.ok (.ret .notImplemented)) s) :=
  .of_wp fun prog w A R s h => by
    obtain ⟨hp, g, d, tk, os⟩ := s
    obtain ⟨hl, hK, hI, h⟩ := h
    have hi : ∀ (M : Model) (A : Around) (Q : Bool → Shared → Prop) (E : Value → Shared → Prop), Q false ⟨hp, g, d, tk, os⟩ → wpAny M A (isInstance (.ref x) (.type "tuple")) Q E ⟨hp, g, d, tk, os⟩ := fun M A Q E q => isi_own hK hI hs q
    wp_walk using wpAny_loadPart' hl, hi
    exact ⟨_, rfl, h⟩
end RR
namespace RR
open PySem PySem.Spec PyProof.Rows L2
open AutoSeq1 (wpAny_loadPart')
open MeetsSeq MeetsSeq2 MeetsSeq3 SeqRoads2 SeqAt
/-! ### x in a list whose items are compared by an == that changes the state: none is equal -/
def HasL (s : Shared) (l : Addr) (items : Array Value) : Prop := ∃ (n : Nat) (dd : Option Addr) (sl : Array (Option Value)), s.heap.get? l = some { cls := .type "list", dict := dd, data := .seq items n, slots := sl }
theorem contains_loopR {prog : Program} {w : World} (l : Addr) (N : Nat) (x : Value) (St : Nat → Shared → Prop) (A : Around) (R : Result → Shared → Prop)
    (he : ∀ (j : Nat) (s : Shared), St j s → ∃ items : Array Value, HasL s l items ∧ items.size = N ∧ ∀ (hj : j < items.size) (E : Value → Shared → Prop) (Q : Bool → Shared → Prop), (∀ s', St (j + 1) s' → Q false s') → wpAny (model prog w) A.in1 (eqBool items[j] x) Q E s)
    (hR : ∀ s', St N s' → R (.ok (.ret (.bool false))) s') (k : Nat) :
    ∀ (i : Nat) (s : Shared), N - i = k → i ≤ N → St i s → wpAny (model prog w) A.in1 (Builtin.«list.__contains__.loop» ⟨[.ref l, x, rawInt i], []⟩) (fun fin s' => match fin with | .done f => R (.ok f) s' | .again c' => c'.quiet = true ∧ codeAny (model prog w) A c' R s') (fun e s' => R (.error e) s') s := by
  induction k with
  | zero =>
    intro i s hk hi hst
    obtain rfl : i = N := by omega
    obtain ⟨items, ⟨n, dd, sl, h0⟩, hsz, _⟩ := he _ _ hst
    have h := hR _ hst
    obtain ⟨hp, g, d, tk, os⟩ := s
    wp_walk using wpAny_loadPart' h0
    have hi : items[((i : Nat) : Int).toNat]? = none := by simp [hsz]
    rw [hi]
    wp_walk
    exact h
  | succ k ih =>
    intro i s hk hi hst
    obtain ⟨items, ⟨n, dd, sl, h0⟩, hsz, hE⟩ := he _ _ hst
    have hst2 := hst
    obtain ⟨hp, g, d, tk, os⟩ := s
    wp_walk using wpAny_loadPart' h0
    have hlt : i < items.size := by omega
    have hi : items[((i : Nat) : Int).toNat]? = some items[i] := by simp [hlt]
    rw [hi]
    refine wpAny_bind (hE hlt _ _ fun s' hs' => ?_)
    have hc : ((i : Int) + 1) = ((i + 1 : Nat) : Int) := by push_cast; rfl
    have hI := ih (i + 1) s' (by omega) (by omega) hs'
    wp_walk
    rw [hc]
    exact ⟨plainId_quiet plain_contains_loop _, codeAny_builtin entry_contains_loop (by
      rw [Around.under_plainId plain_contains_loop _]
      exact hI)⟩
theorem list_containsR {prog : Program} {w : World} (l : Addr) (N : Nat) (x : Value) (St : Nat → Shared → Prop) (A : Around) (R : Result → Shared → Prop)
    (he : ∀ (j : Nat) (s : Shared), St j s → ∃ items : Array Value, HasL s l items ∧ items.size = N ∧ ∀ (hj : j < items.size) (E : Value → Shared → Prop) (Q : Bool → Shared → Prop), (∀ s', St (j + 1) s' → Q false s') → wpAny (model prog w) A.in1 (eqBool items[j] x) Q E s)
    (hR : ∀ s', St N s' → R (.ok (.ret (.bool false))) s') (s : Shared) (h0 : St 0 s) :
    wpAny (model prog w) A.in1 (Builtin.«list.__contains__» ⟨[.ref l, x], []⟩) (fun fin s' => match fin with | .done f => R (.ok f) s' | .again c' => c'.quiet = true ∧ codeAny (model prog w) A c' R s') (fun e s' => R (.error e) s') s := by
  obtain ⟨items, ⟨n, dd, sl, hl0⟩, _, _⟩ := he _ _ h0
  have hL := contains_loopR l N x St A R he hR N 0 s (by omega) (Nat.zero_le _) h0
  obtain ⟨hp, g, d, tk, os⟩ := s
  wp_walk using wpAny_loadPart' hl0
  exact ⟨plainId_quiet plain_contains_loop _, codeAny_builtin entry_contains_loop (by
    rw [Around.under_plainId plain_contains_loop _]
    exact hL)⟩
theorem in_listR {prog : Program} {w : World} {A : Around} {E : Value → Shared → Prop} {Q : Value → Shared → Prop} (l : Addr) (N : Nat) (x : Value) (St : Nat → Shared → Prop)
    (he : ∀ (j : Nat) (s : Shared), St j s → ∃ items : Array Value, HasL s l items ∧ items.size = N ∧ ∀ (hj : j < items.size) (E : Value → Shared → Prop) (Q : Bool → Shared → Prop), (∀ s', St (j + 1) s' → Q false s') → wpAny (model prog w) A.in1 (eqBool items[j] x) Q E s)
    (s : Shared) (h0 : St 0 s) : ((∀ s', St N s' → Q (.bool false) s') → wpAny (model prog w) A (compareOp .In x (.ref l)) Q E s) ∧ ((∀ s', St N s' → Q (.bool true) s') → wpAny (model prog w) A (compareOp .NotIn x (.ref l)) Q E s) := by
  obtain ⟨items, ⟨n, dd, sl, hl0⟩, _, _⟩ := he _ _ h0
  have hT : s.TypeIs (.ref l) "list" := ⟨_, hl0, rfl⟩
  have main : ∀ (Qb : Bool → Shared → Prop), (∀ s', St N s' → Qb false s') → wpAny (model prog w) A (contains (.ref l) x) Qb E s := fun Qb hq => by
    refine wpAny_contains_slot hT F.slot_list_contains (wpAny_mono (wpAny_call (codeAny_call_builtin F.slot_list_contains.plain F.entry_list_contains (F.slot_list_contains.check _ _ _ _ _ _ _ _ hT (F.args_list_contains_2 _ _)
      (list_containsR l N x St A (wants (fun v s' => v = .bool false ∧ Qb false s') E) he (fun s' h => ⟨rfl, hq s' h⟩) s h0)))) (fun v s' hv => ?_) fun _ _ e => e)
    obtain ⟨e, hq⟩ := hv
    subst e
    exact wpAny_truthy_bool hq
  refine ⟨fun hQ => ?_, fun hQ2 => ?_⟩
  · show wpAny _ A (do return .bool (← contains (.ref l) x)) Q E s
    exact wpAny_bind (main _ fun s' h => wpAny_pure (hQ s' h))
  · show wpAny _ A (do return .bool (!(← contains (.ref l) x))) Q E s
    exact wpAny_bind (main _ fun s' h => wpAny_pure (hQ2 s' h))
/-! ### plain == own -/
section
variable {prog : Program} {w : World} {A : Around} {E : Value → Shared → Prop} {s : Shared} {K : PySem.W.Frag} {x C f : Addr} {ox : Obj} {od : Option Obj} {T : String} {id : String} {u : Value}
theorem rc_own {Q : Value → Shared → Prop} (hu : A.units < cLine) (X : K.In s.heap) (I : PySem.W.InstAt s.heap x ox C od) (hT : s.TypeIs u T) (slot : Slot T "__eq__" id) (hsub : PySem.W.subIn K (.ref C) (.type T) = some false)
    (hs : PySem.W.findIn K (.ref C) "__eq__" = some (some (.ref f))) (hf : PySem.W.isFn K (.ref f) = true)
    (hc : ∀ Q' : Value → Shared → Prop, Q' .notImplemented s → wpAny (model prog w) A (call (.builtin id) [u, .ref x]) Q' E s)
    (h : wpAny (model prog w) A (call (.ref f) [.ref x, u]) (fun v s' => v = .bool false ∧ Q (.bool false) s') E s) : wpAny (model prog w) A (richCompare .Eq u (.ref x)) Q E s := by
  have one : wpAny (model prog w) A (tryCompare (.ref x) "__eq__" u) (fun r s' => r = some (.bool false) ∧ Q (.bool false) s') E s := by
    unfold tryCompare
    refine wpAny_bind (PySem.W.ifBound_K X I hs hf (wpAny_mono h (fun v s' hv => ?_) fun _ _ e => e))
    obtain ⟨rfl, hq⟩ := hv
    exact wpAny_pure ⟨rfl, hq⟩
  have ho := hT.oneThing_none .Eq (.ref x)
  simp only [richCompare, cmpInfo, ho]
  refine wpAny_holding (wpAny_bind (wpAny_cRoomFor hu ?_))
  refine wpAny_bind (wpAny_typeOf hT (wpAny_bind (I.type.here ?_)))
  have hne : (Value.type T != Value.ref C) = true := rfl
  simp only [hne, if_true]
  refine wpAny_bind ((PySem.W.looks_subIn X hsub).here ?_)
  simp only [Bool.false_eq_true, if_false, Bool.not_false, if_true]
  refine wpAny_bind (m := tryCompare u _ (.ref x)) (wpAny_tryCompare_declines hT slot (hc _ ⟨rfl, ?_⟩))
  refine wpAny_bind (m := tryCompare (.ref x) _ u) (wpAny_mono one (fun r s' z => ?_) fun _ _ e => e)
  obtain ⟨rfl, hq⟩ := z
  exact wpAny_pure hq
end
end RR
set_option maxHeartbeats 2000000
/-! R20B: own objects in lists of plain things. -/
namespace RR
open PySem PySem.Spec PyProof.Rows L2
open AutoSeq1 (wpAny_loadPart')
open MeetsSeq MeetsSeq2 MeetsSeq3 SeqRoads2 SeqAt
theorem none_own (x : Addr) : Meets (Builtin.«NoneType.__eq__» ⟨[.none, .ref x], []⟩) (fun _ R s => R (.ok (.ret .notImplemented)) s) :=
  .of_wp fun prog w A R s h => by
    obtain ⟨hp, g, d, tk, os⟩ := s
    wp_walk
    exact ⟨_, rfl, h⟩
section
variable {prog : Program} {w : World} {A : Around} {E : Value → Shared → Prop} {s : Shared} {K : PySem.W.Frag} {x C f dx : Addr} {od : Option Obj} {u : Value}
theorem eqB_of {Q : Bool → Shared → Prop} (hne : (u == .ref x) = false) (hfl : ∀ a b, u ≠ .float a b) (h : wpAny (model prog w) A (richCompare .Eq u (.ref x)) (fun v s' => v = .bool false ∧ Q false s') E s) : wpAny (model prog w) A (eqBool u (.ref x)) Q E s := by
  unfold eqBool
  refine wpAny_holding ?_
  rw [hne]
  simp only [Bool.false_eq_true, if_false]
  have fin : wpAny (model prog w) A (richCompare .Eq u (.ref x) >>= fun v => truthOfDropped v) Q E s := wpAny_bind (wpAny_mono h (fun v s' hv => by
    obtain ⟨rfl, hq⟩ := hv
    exact wpAny_truthy_bool hq) fun _ _ e => e)
  cases u <;> first | exact absurd rfl (hfl _ _) | exact fin
/-- what the kinds are -/
theorem eqI_own {Q : Bool → Shared → Prop} {v : V} {X : Cx} {pins : List (Addr × Obj)} {σ : L2.St} {H : Hp} {B : Bas} {ρ : List Addr} {d : D} {t : String} (hu : A.units < cLine) (I : Inv X pins σ H s) (hB : B.K = X.K) (hv : DD B ρ H v d) (ht : tyOf d = some t) (hnd : t ≠ "dict") (r : RelV v u) (J : PySem.W.InstAt s.heap x (PySem.W.instObj C dx) C od)
    (hsub : ∀ t ∈ tyList, PySem.W.subIn X.K (.ref C) (.type t) = some false) (hs : PySem.W.findIn X.K (.ref C) "__eq__" = some (some (.ref f))) (hf : PySem.W.isFn X.K (.ref f) = true)
    (h : wpAny (model prog w) A (call (.ref f) [.ref x, u]) (fun v s' => v = .bool false ∧ Q false s') E s) : wpAny (model prog w) A (eqBool u (.ref x)) Q E s := by
  have hK := I.kIn
  have ne_of : ∀ {a : Addr} {o : Obj}, s.heap.get? a = some o → o.cls ≠ .ref C → (Value.ref a == Value.ref x) = false := fun {a o} ho hc => by
    have : a ≠ x := fun z => by
      subst z
      rw [J.at_] at ho
      cases ho
      exact hc rfl
    simpa using this
  cases hv with
  | non =>
    cases ht
    have r' : u = .none := r
    subst r'
    refine eqB_of rfl (fun _ _ z => by cases z) (rc_own (id := "NoneType.__eq__") hu hK J (T := "NoneType") rfl PySem.F.slot_NoneType_eq (hsub _ (by decide)) hs hf (fun Q' q => ?_) ?_)
    · exact call_meets PySem.F.slot_NoneType_eq rfl PySem.F.entry_NoneType_eq (PySem.F.args_NoneType_eq_2 _ _) (none_own x) q
    · exact wpAny_mono h (fun v s' hv => ⟨hv.1, rfl, hv.2⟩) fun _ _ e => e
  | bl b =>
    cases ht
    have r' : u = .bool b := r
    subst r'
    refine eqB_of rfl (fun _ _ z => by cases z) (rc_own hu hK J (T := "bool") rfl PySem.F.slot_bool_eq (hsub _ (by decide)) hs hf (fun Q' q => ?_) ?_)
    · exact call_meets PySem.F.slot_bool_eq rfl PySem.F.entry_int_eq (PySem.F.args_int_eq_2 _ _) (bool_own b x C dx) ⟨J.at_, q⟩
    · exact wpAny_mono h (fun v s' hv => ⟨hv.1, rfl, hv.2⟩) fun _ _ e => e
  | int i =>
    cases ht
    obtain ⟨tk, rfl⟩ : ∃ tk, u = .int i tk := r
    refine eqB_of rfl (fun _ _ z => by cases z) (rc_own hu hK J (T := "int") (typeIs_int s i tk) PySem.F.slot_int_eq (hsub _ (by decide)) hs hf (fun Q' q => ?_) ?_)
    · exact call_meets PySem.F.slot_int_eq (typeIs_int s i tk) PySem.F.entry_int_eq (PySem.F.args_int_eq_2 _ _) (int_own i tk x C dx) ⟨J.at_, q⟩
    · exact wpAny_mono h (fun v s' hv => ⟨hv.1, rfl, hv.2⟩) fun _ _ e => e
  | str z =>
    cases ht
    obtain ⟨tk, rfl⟩ : ∃ tk, u = .str z tk := r
    refine eqB_of rfl (fun _ _ z => by cases z) (rc_own hu hK J (T := "str") (typeIs_str s z tk) PySem.F.slot_str_eq (hsub _ (by decide)) hs hf (fun Q' q => ?_) ?_)
    · exact call_meets PySem.F.slot_str_eq (typeIs_str s z tk) PySem.F.entry_str_eq (PySem.F.args_str_eq_2 _ _) (str_own z tk x C dx) ⟨J.at_, q⟩
    · exact wpAny_mono h (fun v s' hv => ⟨hv.1, rfl, hv.2⟩) fun _ _ e => e
  | lst hq rr =>
    cases ht
    rename_i a xs ds
    have r' : u = .ref a := r
    subst r'
    obtain ⟨its, rv, ⟨o, n, ho, hcl, hdi, hda⟩, _⟩ := I.list (sql_of (K := X.K) hq)
    obtain ⟨oc, odd, dt, osl⟩ := o
    have e1 : oc = .type "list" := hcl
    have e3 : dt = .seq its.toArray n := hda
    subst e1 e3
    have hT : s.TypeIs (.ref a) "list" := ⟨_, ho, rfl⟩
    refine eqB_of (ne_of ho (fun z => by cases z)) (fun _ _ z => by cases z) (rc_own hu hK J hT PySem.F.slot_list_eq (hsub _ (by decide)) hs hf (fun Q' q => ?_) ?_)
    · exact call_meets PySem.F.slot_list_eq hT PySem.F.entry_list_eq (PySem.F.args_list_eq_2 _ _) (list_own a its.toArray n odd osl x C X.K _ od (hsub _ (by decide))) ⟨ho, hK, J, q⟩
    · exact wpAny_mono h (fun v s' hv => ⟨hv.1, rfl, hv.2⟩) fun _ _ e => e
  | tup hq rr =>
    cases ht
    rename_i a xs ds
    have r' : u = .ref a := r
    subst r'
    rw [hB] at hq
    obtain ⟨its, rv, ⟨o, ho, hcl, n, hda⟩, _⟩ := I.tuple hq
    obtain ⟨oc, odd, dt, osl⟩ := o
    have e1 : oc = .type "tuple" := hcl
    have e3 : dt = .seq its.toArray n := hda
    subst e1 e3
    have hT : s.TypeIs (.ref a) "tuple" := ⟨_, ho, rfl⟩
    refine eqB_of (ne_of ho (fun z => by cases z)) (fun _ _ z => by cases z) (rc_own hu hK J hT PySem.F.slot_tuple_eq (hsub _ (by decide)) hs hf (fun Q' q => ?_) ?_)
    · exact call_meets PySem.F.slot_tuple_eq hT PySem.F.entry_tuple_eq (PySem.F.args_tuple_eq_2 _ _) (tuple_own a its.toArray n odd osl x C X.K _ od (hsub _ (by decide))) ⟨ho, hK, J, q⟩
    · exact wpAny_mono h (fun v s' hv => ⟨hv.1, rfl, hv.2⟩) fun _ _ e => e
  | dct hq rr => cases ht; exact absurd rfl hnd
  | _ => cases ht
end
end RR
set_option maxHeartbeats 1000000
/-! R21: comparisons; every expression, every test. -/
namespace RR
open PySem PySem.Spec PyProof.Rows L2
section
variable {X : Cx} {A : Nm} {Pg : Prg} {Φ : Str → List D → Mo D} {lv : Nat} {c : Cn} {Γ : En}
/-- what two values' operation needs, whatever it is -/
def rAny (X : Cx) (f : Value → Value → Sem Value) : R2 := fun x y H Q => ∀ (pins : List (Addr × Obj)) (s : Shared) (σ : L2.St) (v u : Value), Inv X pins σ H s → RelV x v → RelV y u → wpAny (model X.prog X.w) X.A (f v u) (EP X pins σ Q) X.xe s
theorem op_any {f : Value → Value → Sem Value} : OpR X f (rAny X f) := fun pins s σ H x y v u Q I rx ry h => h pins s σ v u I rx ry
theorem eqM_ok (k : XOk X A Pg Φ lv c) {op : CmpOp} {F ρ : List Addr} {T : List Ob} {H : Hp} {x y : V} {d e : D} {r : Rs Bool} {Q : VK} (w : Wd (Bx X A) F ρ T H) (hx : DD (Bx X A) ρ (cutR F ρ H) x d) (hy : DD (Bx X A) ρ (cutR F ρ H) y e) (h : eqM Pg Φ op d e T = some r)
    (p : ∀ b T', r = .ok b T' → ∀ ρ' H', Stp F ρ H ρ' H' → Wd (Bx X A) F ρ' T' H' → Q (.bl b) H') : rAny X (compareOp op) x y H Q := by
  intro pins s σ v u I rx ry
  unfold eqM at h
  split at h
  · split at h
    · rename_i b hb
      cases h
      obtain ⟨r0, h1, h2⟩ := cmp_ok (X := X) (A := A) k.u65 op
      refine h1 pins s σ H x y v u Q I rx ry (h2 F ρ T H x y d e (.bl b) Q w hx hy (by show Option.map D.bl _ = _; rw [hb]; rfl) fun v' H' s' w' d' => ?_)
      cases d'
      exact p b T rfl ρ H' s' w'
    · cases h
  · rename_i C gs C' gs' hd he
    split at h
    · split at h
      · rename_i ec
        subst ec
        split at h
        · rename_i f hf
          split at h
          · rename_i g0 hg
            split at h
            · rename_i b T' hΦ
              cases h
              obtain ⟨a, dx, fs, rfl, ha, _⟩ := ins_ok w hx hd
              obtain ⟨a', dx', fs', rfl, ha', _⟩ := ins_ok w hy he
              obtain ⟨hcls, hm⟩ := k.kn.meth C _ f hf
              have F0 := k.kn.call f 2 [] g0 hg
              cases rx
              cases ry
              obtain ⟨mA, J, _⟩ := ins_get I.hok ha
              obtain ⟨mB, J', _⟩ := ins_get I.hok ha'
              obtain ⟨od, J, _⟩ := J.look
              obtain ⟨od', J', _⟩ := J'.look
              obtain ⟨m, hF⟩ := I.fr
              have hu : X.A.units < cLine := by have := k.u65; omega
              refine PySem.W.cmp_K (op := .Eq) (tb := .ref (A.ca C)) hu hF I.ok.mod.kin J J'.type (by simp [PySem.W.notFirst]) hm.at_ hm.fn ?_
              have run := cal_run k F0 (Q := fun v H1 => ∃ r, v = .bl r ∧ Q v H1) (zs := []) (es := []) (us := [.ref a, .ref a']) (ws := []) w (.cons hx (.cons hy .nil)) .nil rfl rfl hΦ (fun v ρ' H' s' w' r' => by
                cases r'
                exact ⟨b, rfl, p b T' rfl ρ' H' s' w'⟩) I (.cons rfl (.cons rfl .nil)) .nil
              refine wpAny_mono run (fun r s' ⟨z, H', I', rz, w', ez, q⟩ => ?_) fun _ _ x => x
              subst ez
              cases rz
              exact ⟨.bl w', H', I', rfl, q⟩
            · cases h
          · cases h
        · cases h
      · cases h
    · cases h
  · rename_i C gs hd he
    split at h
    · rename_i r0 ds hop
      split at h
      · rename_i hw
        split at h
        · rename_i f hf
          split at h
          · rename_i g0 hg
            cases hrun : ownIn Φ C f g0 d ds T with
            | none => rw [hrun] at h; cases h
            | some ro =>
              rw [hrun] at h
              cases ro with
              | ex C' fs' T' => cases h
              | ok _ T' =>
                cases h
                obtain ⟨hcls, hm⟩ := k.kn.meth C _ f hf
                have F0 := k.kn.call f 2 [] g0 hg
                have hu : X.A.in1.units < cLine := by
                  have := k.rm.un
                  show X.A.units + 1 < _
                  omega
                cases hy with
                | lst hq rr =>
                  rename_i a xs
                  cases ry
                  obtain ⟨p1, dx1, fs1, rfl, _, _⟩ := ins_ok w hx hd
                  cases rx
                  -- the state at the j-th item
                  let St : Nat → Shared → Prop := fun j s => ∃ ρ' H' T1, Inv X pins σ H' s ∧ Stp F ρ H ρ' H' ∧ Wd (Bx X A) F ρ' T1 H' ∧ ownIn Φ C f g0 d (ds.drop j) T1 = some (.ok () T')
                  have hstart : St 0 s := ⟨ρ, H, T, I, .refl, w, hrun⟩
                  have hend : ∀ s', St ds.length s' → EP X pins σ Q (.bool r0) s' := fun s' ⟨ρ', H', T1, I', st, w', e1⟩ => by
                    rw [List.drop_length] at e1
                    cases e1
                    exact ⟨.bl r0, H', I', rfl, p r0 T' rfl ρ' H' st w'⟩
                  have turn : ∀ (j : Nat) (s : Shared), St j s → ∃ items : Array Value, HasL s a items ∧ items.size = ds.length ∧ ∀ (hj : j < items.size) (E : Value → Shared → Prop) (Q : Bool → Shared → Prop), (∀ s', St (j + 1) s' → Q false s') → wpAny (model X.prog X.w) X.A.in1 (eqBool items[j] (.ref p1)) Q E s := fun j s ⟨ρ', H', T1, I', st, w', e1⟩ => by
                    have hq' : Rd H' a (.lst xs) := same_rd (cut_sub _ _) (same_rd st.same hq)
                    obtain ⟨its, rv, ⟨o, n, ho, hcl, hdi, hda⟩, _⟩ := I'.list (sql_of (K := X.K) hq')
                    obtain ⟨oc, odd, dt, osl⟩ := o
                    have q1 : oc = .type "list" := hcl
                    have q3 : dt = .seq its.toArray n := hda
                    subst q1 q3
                    have hsz : its.toArray.size = ds.length := by rw [List.size_toArray, ← rv.length, rr.len]
                    refine ⟨its.toArray, ⟨n, odd, osl, ho⟩, hsz, fun hj E Q' hQ' => ?_⟩
                    have hjd : j < ds.length := by omega
                    have hdj : ds[j]? = some ds[j] := List.getElem?_eq_getElem hjd
                    obtain ⟨vj, hvj, ddj⟩ := rr.get hdj
                    obtain ⟨u, hu', ru⟩ := rv.get hvj
                    have eu : its.toArray[j] = u := by
                      have h1 : its[j]? = some u := hu'
                      have hl : j < its.length := by simpa using hj
                      rw [List.getElem?_eq_getElem hl] at h1
                      simpa using Option.some.inj h1
                    rw [eu]
                    rw [List.drop_eq_getElem_cons hjd] at e1
                    generalize ds[j] = dj at *
                    unfold ownIn at e1
                    split at e1
                    · rename_i hpl0
                      obtain ⟨hpl, hpl2⟩ := hpl0
                      split at e1
                      · rename_i T2 hΦ
                        unfold plainI at hpl
                        split at hpl
                        · rename_i t ht
                          have hx' := hx.stp st
                          obtain ⟨⟨C2, gs2⟩, hi2, ec⟩ := Option.map_eq_some_iff.mp hpl2
                          have ec' : C = C2 := ec.symm
                          subst ec'
                          obtain ⟨p2, dx, fs, ep, ha, _⟩ := ins_ok w' hx' hi2
                          · cases ep
                            obtain ⟨mA, J, _⟩ := ins_get I'.hok ha
                            obtain ⟨od, J, _⟩ := J.look
                            refine eqI_own (B := Bx X A) hu I' rfl (dd_sub (ddj.stp st)) ht (of_decide_eq_true hpl) ru J (k.kn.eqw C hw) hm.at_ hm.fn ?_
                            have run := cal_code F0 (E := fun _ _ _ => False) (r := .ok (.bl false) T2) (Q := fun v H1 => v = .bl false ∧ ∃ ρ2, Stp F ρ H ρ2 H1 ∧ Wd (Bx X A) F ρ2 T2 H1) (zs := []) (es := []) w' (.cons hx' (.cons (ddj.stp st) .nil)) .nil rfl rfl hΦ (fun v ρ2 H2 s2 w2 r2 => by
                              cases r2
                              exact ⟨rfl, ρ2, st.trans s2, w2⟩) (Ar := X.A.in1) (outer := X.stack) (s := s) (us := [.ref p1, u]) (ws := []) k.gd (k.rm.in1.mono (by omega)) I'.env0.in1 I'.kIn (.cons rfl (.cons ru .nil)) .nil
                            refine wpAny_call (codeAny_mono run fun r s' hq => ?_)
                            cases r with
                            | error er =>
                              obtain ⟨_, _, _, _, _, _, _, _, _, _, _, _, bad⟩ := hq
                              exact bad.elim
                            | ok fl =>
                              cases fl with
                              | ret u2 =>
                                obtain ⟨z, H2, I2, rz, ez, ρ2, s2, w2⟩ := I'.after hq
                                subst ez
                                have eu2 : u2 = .bool false := rz
                                subst eu2
                                exact ⟨rfl, hQ' s' ⟨ρ2, H2, T2, I2, s2, w2, e1⟩⟩
                              | next => exact False.elim hq
                              | brk => exact False.elim hq
                              | cont => exact False.elim hq
                        · cases hpl
                      · cases e1
                    · cases e1
                  have both := in_listR (Q := EP X pins σ Q) (E := X.xe) a ds.length (.ref p1) St turn s hstart
                  unfold inOwn at hop
                  split at hop
                  · cases hop
                    exact both.1 hend
                  · cases hop
                    exact both.2 hend
                  · cases hop
          · cases h
        · cases h
      · cases h
    · cases h
  · cases h
theorem eqM_ex {op : CmpOp} {d e : D} {T T' : List Ob} {C : Nat} {fs : List (Str × D)} (h : eqM Pg Φ op d e T = some (.ex C fs T')) : False := by
  unfold eqM at h
  repeat' split at h
  all_goals cases h
theorem se_cmp (k : XOk X A Pg Φ lv c) {R : Evs} (hR : ∀ a, SE X A Γ a (R.e c Γ a)) {a : Expr} {ops : List CmpOp} {cs : List Expr} {pos : Pos} :
    SE X A Γ (.Compare a ops cs pos) ((cmpM Pg Φ R c Γ a ops cs).bind fun b => Mo.ret (.bl b)) ∧ ST X A Γ (.Compare a ops cs pos) (cmpM Pg Φ R c Γ a ops cs) := by
  have one : ∀ (op : CmpOp) (b : Expr), behindInMarks op b = false → ∀ F ρ T σ H (r : Rs Bool) (Q : VK), Gd (Bx X A) F ρ T σ H Γ → ((R.e c Γ a).bind fun x => (R.e c Γ b).bind fun y => eqM Pg Φ op x y) T = some r →
      Post X A F ρ H σ (fun _ _ (v : V) (k : Bool) => v = .bl k) r Q → tOp (rAny X (compareOp op)) (WE X a) (WE X b) σ H Q := fun op b hm F ρ T σ H r Q g e p =>
    (hR a).bind g e p fun x T1 v ρ1 H1 s1 g1 r1 e1 p1 => (hR b).bind g1 e1 p1 fun y T2 u ρ2 H2 s2 g2 r2 e2 p2 => eqM_ok k g2.wd (r1.stp s2) r2 e2 fun b' T' er ρ' H' s' w' => by
      subst er
      exact p2 (.bl b') ρ' H' s' w' rfl
  have two : ∀ (op op' : CmpOp) (b d : Expr), lastMarks [op, op'] [b, d] = false → ∀ F ρ T σ H (r : Rs Bool) (Q : VK), Gd (Bx X A) F ρ T σ H Γ → ((R.e c Γ a).bind fun x => (R.e c Γ b).bind fun y => (Mo.rd fun T => cmpO op T x y).bind fun k =>
      if k = true then (R.e c Γ d).bind fun z => Mo.rd fun T => cmpO op' T y z else Mo.ret false) T = some r →
      Post X A F ρ H σ (fun _ _ (v : V) (k : Bool) => v = .bl k) r Q → ∃ r0 r1, OpR X (compareOp op) r0 ∧ OpR X (compareOp op') r1 ∧ tChain r0 r1 (WE X a) (WE X b) (WE X d) σ H Q := fun op op' b d hm F ρ T σ H r Q g e p => by
    obtain ⟨r0, h1, h2⟩ := cmp_ok (X := X) (A := A) k.u65 op
    obtain ⟨r0', h1', h2'⟩ := cmp_ok (X := X) (A := A) k.u65 op'
    refine ⟨r0, r0', h1, h1', (hR a).bind g e p fun x T1 v ρ1 H1 s1 g1 r1 e1 p1 => (hR b).bind g1 e1 p1 fun y T2 u ρ2 H2 s2 g2 r2 e2 p2 => ?_⟩
    rcases Mo.bind_some e2 with ⟨kb, T3, e3, e4⟩ | ⟨C, fs, T3, e3, _⟩
    · obtain ⟨kb', e5, e6⟩ := Mo.rd_some e3
      cases e6
      refine h2 F ρ2 T2 H2 v u x y (.bl kb) _ g2.wd (r1.stp s2) r2 (by show Option.map D.bl _ = _; rw [e5]; rfl) fun v' H' s' w' d' => ?_
      cases d'
      refine ⟨kb, rfl, ?_⟩
      have g3 := g2.stp s' w'
      have p3 := p2.stp s'
      cases kb with
      | true =>
        refine (hR d).bind g3 e4 p3 fun z T4 w4 ρ4 H4 s4 g4 r4 e7 p4 => ?_
        obtain ⟨kz, e8, rfl⟩ := Mo.rd_some e7
        refine h2' F ρ4 T4 H4 u w4 y z (.bl kz) _ g4.wd ((r2.stp s').stp s4) r4 (by show Option.map D.bl _ = _; rw [e8]; rfl) fun v' H' s' w' d' => ?_
        cases d'
        exact p4 (.bl kz) ρ4 H' s' w' rfl
      | false =>
        have e9 := Mo.ret_some e4
        subst e9
        exact p3 (.bl false) ρ2 H' .refl w' rfl
    · obtain ⟨_, _, e6⟩ := Mo.rd_some e3
      cases e6
  -- the two readings
  have viaE : ∀ {F ρ H σ} {r : Rs D} {Q : VK} {m : Mo Bool} {T}, (m.bind fun b => Mo.ret (.bl b)) T = some r → Post X A F ρ H σ (rD X A) r Q → ∃ r0 : Rs Bool, m T = some r0 ∧ Post X A F ρ H σ (fun _ _ (v : V) (k : Bool) => v = .bl k) r0 Q := fun {F ρ H σ r Q m T} e p => by
    rcases Mo.bind_some e with ⟨b, T1, e1, e2⟩ | ⟨C, fs, T1, e1, rfl⟩
    · have e3 := Mo.ret_some e2
      subst e3
      exact ⟨_, e1, fun v ρ' H' s w ev => p v ρ' H' s w (by subst ev; exact .bl b)⟩
    · exact ⟨_, e1, p⟩
  have viaT : ∀ {F ρ H σ} {r : Rs Bool} {Q : Bool → Hp → Prop}, Post X A F ρ H σ rB r Q → Post X A F ρ H σ (fun _ _ (v : V) (k : Bool) => v = .bl k) r (fun x H' => ∃ k, x = .bl k ∧ Q k H') := fun {F ρ H σ r Q} p => by
    cases r with
    | ok b T' => exact fun v ρ' H' s w ev => ⟨b, ev, p b ρ' H' s w rfl⟩
    | ex C fs T' => exact p
  unfold cmpM
  split
  · rename_i op b
    split
    · exact ⟨fun _ _ _ _ _ _ _ _ z => (by cases z), .no⟩
    · rename_i hm
      have hm' : behindInMarks op b = false := by simpa using hm
      refine ⟨fun F ρ T σ H r Q g e p => ?_, fun F ρ T σ H r Q g e p => ?_⟩
      · obtain ⟨r0, e0, p0⟩ := viaE e p
        exact we_of (pe_cmpR op_any pe_we pe_we hm') (one op b hm' F ρ T σ H r0 Q g e0 p0)
      · exact wt_of (pt_cmpR op_any pe_we pe_we hm') (one op b hm' F ρ T σ H r _ g e (viaT p))
  · rename_i op op' b d
    split
    · exact ⟨fun _ _ _ _ _ _ _ _ z => (by cases z), .no⟩
    · rename_i hm
      have hm' : lastMarks [op, op'] [b, d] = false := by simpa using hm
      refine ⟨fun F ρ T σ H r Q g e p => ?_, fun F ρ T σ H r Q g e p => ?_⟩
      · obtain ⟨r0, e0, p0⟩ := viaE e p
        obtain ⟨_, _, o1, o2, h⟩ := two op op' b d hm' F ρ T σ H r0 Q g e0 p0
        exact we_of (pe_chain o1 o2 pe_we pe_we pe_we hm') h
      · obtain ⟨_, _, o1, o2, h⟩ := two op op' b d hm' F ρ T σ H r _ g e (viaT p)
        exact wt_of (pt_chain o1 o2 pe_we pe_we pe_we hm') h
  · exact ⟨fun _ _ _ _ _ _ _ _ z => (by cases z), .no⟩
theorem noSlice_of {i : Expr} (h : ∀ lo hi st p, i = .Slice lo hi st p → False) : noSlice i = true := by
  cases i <;> first | rfl | exact (h _ _ _ _ rfl).elim
theorem stepE_ok {R : Evs} (hR : EvsOk A Pg Φ lv R) (k : XOk X A Pg Φ lv c) (e : Expr) : SE X A Γ e (stepE Pg Φ R c Γ e) := by
  obtain ⟨he, ht⟩ := hR X c Γ k
  unfold stepE
  split
  · exact se_name k
  · exact se_const
  · exact se_bin (he _) (he _)
  · exact se_neg (he _)
  · exact se_not (he _)
  · exact se_bool (isAnd := true) he _
  · exact se_bool (isAnd := false) he _
  · exact se_if (ht _) (he _) (he _)
  · exact (se_cmp k he).1
  · exact se_tup (sa_list he _)
  · exact se_lst (sa_list he _)
  · split
    · rename_i hs
      exact se_attr k (he _) hs
    · exact .no
  · exact se_slice (he _) he
  · exact .no
  · exact se_ix k (he _) (he _) (noSlice_of (by assumption))
  · exact se_lc k hR
  · split
    · rename_i hn
      unfold callM
      split
      · rename_i a hrg
        exact se_listRg k he hrg fun y hy => isB_ok k hy
      split
      · rename_i hc
        obtain ⟨ho, hv, hg⟩ := hc
        split
        · rename_i f hx
          split
          · rename_i ks hks
            split
            · rename_i g0 hb
              exact se_def k he ho hg hx hks hb hn
            · exact .no
          · exact .no
        · rename_i C hx
          split
          · rename_i ks f hks hi
            split
            · rename_i g0 hb
              exact se_make k he ho hg hx hi hks hb hn
            · exact .no
          · exact .no
        · exact .no
        · split
          · rename_i hf
            split
            · rename_i b hb
              have hk := hf.2
              rw [List.isEmpty_iff] at hk
              subst hk
              exact se_bi k he ho hg hf.1 hb hn
            · exact .no
          · exact .no
      · exact .no
    · exact .no
  · split
    · rename_i hc
      exact se_meth k he hc.1 hc.2.1 hc.2.2.1 hc.2.2.2
    · exact .no
  · exact .no
theorem stepT_ok {R : Evs} (hR : EvsOk A Pg Φ lv R) (k : XOk X A Pg Φ lv c) (e : Expr) : ST X A Γ e (stepT Pg Φ R c Γ e) := by
  obtain ⟨he, ht⟩ := hR X c Γ k
  unfold stepT
  split
  · exact st_not (ht _)
  · exact st_of_sw (sw_bool (isAnd := true) ht _)
  · exact st_of_sw (sw_bool (isAnd := false) ht _)
  · exact (se_cmp k he).2
  · split
    · rename_i hp
      exact st_plain (stepE_ok hR k _) hp
    · exact .no
theorem evs_ok : ∀ n : Nat, EvsOk A Pg Φ lv (evs Pg Φ n)
  | 0 => fun X c Γ k => ⟨fun a => .no, fun a => .no⟩
  | n + 1 => fun X c Γ k => ⟨fun a => stepE_ok (evs_ok n) k a, fun a => stepT_ok (evs_ok n) k a⟩
end
end RR
set_option maxHeartbeats 1000000
/-! R22: statements, interpreted. -/
namespace RR
open PySem PySem.Spec PyProof.Rows L2

/-- how a block may end -/
inductive Sr where
  | nx (Γ : En) (T : List Ob)
  | rt (d : D) (T : List Ob)
  | bk (Γ : En) (T : List Ob)
  | ct (Γ : En) (T : List Ob)
  | ex (C : Nat) (fs : List (Str × D)) (Γ : En) (T : List Ob)
abbrev So := List Ob → Option Sr
def So.no : So := fun _ => none
def So.nx (Γ : En) : So := fun T => some (.nx Γ T)
def So.of {α : Type} (Γ : En) (m : Mo α) (f : α → So) : So := fun T => match m T with
  | some (.ok a T') => f a T'
  | some (.ex C fs T') => some (.ex C fs Γ T')
  | none => none
/-- a list that nobody else knows -/
def isNew : Expr → Bool
  | .List _ _ => true
  | .ListComp _ [⟨_, _, _, 0⟩] _ _ => true
  | _ => false
def newL (Pg : Prg) (R : Evs) (c : Cn) (Γ : En) (e : Expr) : Mo (List D) := match e with
  | .List es _ => (evL (R.e c Γ) es).bind fun ds => if ds.length ≤ sizeLine then Mo.ret ds else Mo.no
  | .ListComp elt [⟨tg, it, ifs, 0⟩] sc _ => lcM Pg R c Γ elt tg it ifs sc
  | _ => Mo.no
def isComp : Expr → Bool
  | .ListComp _ _ _ _ => true
  | .SetComp _ _ _ _ => true
  | .DictComp _ _ _ _ _ => true
  | _ => false
/-- e's value; tr: what is new there is tracked -/
def evT (Pg : Prg) (R : Evs) (c : Cn) (Γ : En) (tr : Bool) (e : Expr) : Mo D :=
  if tr = true ∧ isNew e = true then (newL Pg R c Γ e).bind fun ds => alloc (.lst ds) else R.e c Γ e
def evZ (f : Bool → Expr → Mo D) : List Bool → List Expr → Mo (List D)
  | _, [] => Mo.ret []
  | bs, e :: es => if starred e = true then Mo.no else (f (bs.headD false) e).bind fun d => (evZ f bs.tail es).bind fun ds => Mo.ret (d :: ds)
/-! ### stores -/
def nameI (c : Cn) (x : Str) : Option Nat := if locB c.raw x = true then idx c.N x else none
def trkOf (c : Cn) : Expr → Bool
  | .Name x _ => c.trk.contains x
  | .Attribute _ f _ => c.trk.contains f
  | _ => false
/-- o.f = v -/
def fldM (Pg : Prg) (o : D) (f : Str) (v : D) : Mo Unit := fun T => match o with
  | .adr n => (match T[n]? with
    | some (.ins C gs) => if Pg.noat C f = true ∧ gs.length < 1000 then some (.ok () (T.set n (.ins C (putD f v gs)))) else none
    | _ => none)
  | _ => none
def putKD : List (Key × D) → Key → D → List (Key × D)
  | [], k, v => [(k, v)]
  | (l, x) :: r, k, v => if l = k then (l, v) :: r else (l, x) :: putKD r k v
/-- o[i] = v -/
def subM (o i v : D) : Mo Unit := fun T => match o with
  | .adr n => (match T[n]? with
    | some (.lst xs) => (match i with
      | .int k => (match ixN xs.length k with
        | some j => some (.ok () (T.set n (.lst (xs.set j v))))
        | none => none)
      | _ => none)
    | _ => none)
  | _ => none
def put1 (Pg : Prg) (R : Evs) (c : Cn) (Γ : En) (tg : Expr) (d : D) : Mo En := match tg with
  | .Name x _ => match nameI c x with
    | some i => Mo.ret (Γ.set i (some d))
    | none => Mo.no
  | .Attribute o f _ => ((R.e c Γ o).bind fun x => (fldM Pg x f d).bind fun _ => Mo.ret Γ).calm
  | .Subscript o i _ => if noSlice i = false then Mo.no else ((R.e c Γ o).bind fun x => (R.e c Γ i).bind fun y => (subM x y d).bind fun _ => Mo.ret Γ).calm
  | _ => Mo.no
def putL (Pg : Prg) (R : Evs) (c : Cn) : En → List Expr → List D → Mo En
  | Γ, [], [] => Mo.ret Γ
  | Γ, t :: ts, d :: ds => (put1 Pg R c Γ t d).bind fun Γ' => putL Pg R c Γ' ts ds
  | _, _, _ => Mo.no
def putM (Pg : Prg) (R : Evs) (c : Cn) (Γ : En) (tg : Expr) (d : D) : Mo En := match tg with
  | .Tuple ts _ _ => match d with
    | .tup ds => if noStar ts = true then putL Pg R c Γ ts ds else Mo.no
    | _ => Mo.no
  | tg => put1 Pg R c Γ tg d
/-- plain names ahead, or something else among them -/
def isName (sc : Scope) : Expr → Bool
  | .Name x _ => decide (sc.names.lookup x = some .local)
  | _ => false
/-- a, b = e1, e2, stored from the right -/
def swp (c : Cn) (x y : Expr) (vs : List Expr) : Option (Nat × Nat) := match x, y with
  | .Name x px, .Name y py => if px.line = py.line ∧ x ≠ y ∧ c.raw.names.lookup x = some .local ∧ c.raw.names.lookup y = some .local ∧ vs.all (foldedForSure 8) = false ∧ vs.all (constantsAlone 8) = false then
      (match idx c.N x, idx c.N y with
      | some i, some j => if i ≠ j then some (i, j) else none
      | _, _ => none) else none
  | _, _ => none
def okTg : Expr → Bool
  | .Name _ _ => true
  | .Attribute _ _ _ => true
  | .Subscript _ _ _ => true
  | .Tuple _ _ _ => true
  | _ => false
def asgM (Pg : Prg) (R : Evs) (c : Cn) (Γ : En) (tg e : Expr) : So := match tg, e with
  | .Name x px, .ListComp elt [⟨t, it, ifs, 0⟩] sc p => (match nameI c x with
    | some i => So.of Γ ((newL Pg R c Γ (.ListComp elt [⟨t, it, ifs, 0⟩] sc p)).bind fun ds => if c.trk.contains x = true then alloc (.lst ds) else Mo.ret (.lst ds)) fun d => So.nx (Γ.set i (some d))
    | none => So.no)
  | .Tuple ts _ _, .Tuple vs _ _ => (match ts with
    | [x, y] => if noStar vs = true ∧ vs.length = 2 then (match swp c x y vs with
      | some (i, j) => So.of Γ (evZ (evT Pg R c Γ) [trkOf c x, trkOf c y] vs) fun ds => (match ds with
        | [d, d'] => So.nx ((Γ.set i (some d)).set j (some d'))
        | _ => So.no)
      | none => if ts.any (fun t => !isName c.raw t) = true then
          So.of Γ (((evZ (evT Pg R c Γ) (ts.map (trkOf c)) vs).bind fun ds => if ds.length ≤ sizeLine then Mo.ret (.tup ds) else Mo.no).bind fun d => putM Pg R c Γ tg d) So.nx
        else So.no) else So.no
    | ts => if ts.any (fun t => !isName c.raw t) = true ∧ noStar vs = true then
          So.of Γ (((evZ (evT Pg R c Γ) (ts.map (trkOf c)) vs).bind fun ds => if ds.length ≤ sizeLine then Mo.ret (.tup ds) else Mo.no).bind fun d => putM Pg R c Γ tg d) So.nx
        else So.no)
  | tg, e => if isComp e = true ∨ okTg tg = false then So.no else So.of Γ ((evT Pg R c Γ (trkOf c tg) e).bind fun d => putM Pg R c Γ tg d) So.nx
/-! ### loops -/
def forGo (f : En → D → So) (keep : List Ob → Bool) : En → List D → So
  | Γ, [] => fun T => if keep T = true then some (.nx Γ T) else none
  | Γ, d :: ds => fun T => if keep T = true then (match f Γ d T with
    | some (.nx Γ' T') => forGo f keep Γ' ds T'
    | some (.ct Γ' T') => forGo f keep Γ' ds T'
    | some (.bk Γ' T') => some (.nx Γ' T')
    | o => o) else none
def whileGo (t : En → Mo Bool) (f : En → So) : Nat → En → So
  | 0, _ => So.no
  | n + 1, Γ => So.of Γ (t Γ) fun b => if b = true then (fun T => match f Γ T with
    | some (.nx Γ' T') => whileGo t f n Γ' T'
    | some (.ct Γ' T') => whileGo t f n Γ' T'
    | some (.bk Γ' T') => some (.nx Γ' T')
    | o => o) else So.nx Γ
def blockM (f : En → Stmt → So) : En → List Stmt → So
  | Γ, [] => So.nx Γ
  | Γ, st :: r => fun T => match f Γ st T with
    | some (.nx Γ' T') => blockM f Γ' r T'
    | o => o
/-- fuel for while -/
def turns : Nat := 100000
def stepS (Pg : Prg) (R : Evs) (lk : Bool) (B : En → List Stmt → So) (c : Cn) (Γ : En) (st : Stmt) : So := match st with
  | .Expr (.Constant (.str _) _ _) _ => So.nx Γ
  | .Expr e _ => if isComp e = true then So.no else So.of Γ (R.e c Γ e) fun _ => So.nx Γ
  | .Return (some e) _ => So.of Γ (evT Pg R c Γ lk e) fun d T => some (.rt d T)
  | .Return none _ => fun T => some (.rt .non T)
  | .Pass _ => So.nx Γ
  | .Break _ => fun T => some (.bk Γ T)
  | .Continue _ => fun T => some (.ct Γ T)
  | .If t a b _ => So.of Γ (R.t c Γ t) fun k => if k = true then B Γ a else B Γ b
  | .Assign [tg] e _ => asgM Pg R c Γ tg e
  | .For tg it body [] _ => (match tgt c tg with
    | some t => So.of Γ (itM Pg R c Γ tg it) fun s => forGo (fun Γ' d => match t.put Γ' d with
      | some Γ2 => B Γ2 body
      | none => So.no) s.keeps Γ s.ds
    | none => So.no)
  | .While t body [] _ => whileGo (fun Γ' => R.t c Γ' t) (fun Γ' => B Γ' body) turns Γ
  | _ => So.no
def exs (Pg : Prg) (R : Evs) (lk : Bool) (c : Cn) : Nat → En → List Stmt → So
  | 0 => fun _ _ => So.no
  | n + 1 => blockM (fun Γ st => stepS Pg R lk (exs Pg R lk c n) c Γ st)
def start0 (N : List Str) (ds : List D) : En := ds.map some ++ List.replicate (N.length - ds.length) none
/-- a def's run: its depth of nested expressions n, of blocks m -/
def runFn (Pg : Prg) (Φ : Str → List D → Mo D) (n m : Nat) (fn : Fn) (ds : List D) : Mo D := fun T =>
  match exs Pg (evs Pg Φ n) fn.leak ⟨fn.N, fn.sc, fn.sc, fn.trk⟩ m (start0 fn.N ds) fn.body T with
  | some (.rt d T') => if fn.leak = true then some (.ok d T') else if okT T T' = true then (match frz T' T.length d with
      | some d' => some (.ok d' (T'.take T.length))
      | none => none) else none
  | some (.nx _ T') => if fn.leak = true then some (.ok .non T') else if okT T T' = true then some (.ok .non (T'.take T.length)) else none
  | some (.ex C fs _ T') => if fn.leak = true then some (.ex C fs T') else if okT T T' = true then (match frzf T' T.length fs with
      | some fs' => some (.ex C fs' (T'.take T.length))
      | none => none) else none
  | _ => none
end RR
set_option maxHeartbeats 1000000
/-! R23: what is shown of statements; stores. -/
namespace RR
open PySem PySem.Spec PyProof.Rows L2

/-- what a def's body knows beyond -/
structure SOk (X : Cx) (A : Nm) (Pg : Prg) (Φ : Str → List D → Mo D) (lv : Nat) (c : Cn) : Prop extends XOk X A Pg Φ lv c where
  own : PassesOwn (model X.prog X.w) X.A X.env X.xe
  fk : X.env.scope.kind = .function
  raw : c.raw = c.sc
def PostS (X : Cx) (A : Nm) (F ρ : List Addr) (H : Hp) (r : Sr) (E : Ends) : Prop := match r with
  | .nx Γ' T' => ∀ σ' ρ' H', Stp F ρ H ρ' H' → Gd (Bx X A) F ρ' T' σ' H' Γ' → E.nx σ' H'
  | .bk Γ' T' => ∀ σ' ρ' H', Stp F ρ H ρ' H' → Gd (Bx X A) F ρ' T' σ' H' Γ' → E.bk σ' H'
  | .ct Γ' T' => ∀ σ' ρ' H', Stp F ρ H ρ' H' → Gd (Bx X A) F ρ' T' σ' H' Γ' → E.ct σ' H'
  | .rt d T' => ∀ v ρ' H', Stp F ρ H ρ' H' → Wd (Bx X A) F ρ' T' H' → DD (Bx X A) ρ' (cutR F ρ' H') v d → E.rt v H'
  | .ex C fs Γ' T' => ∃ W : WX, Takes X W ∧ ∀ σ' ρ' H' dx, Stp F ρ H ρ' H' → Gd (Bx X A) F ρ' T' σ' H' Γ' → XRel (Bx X A) ρ' (cutR F ρ' H') fs dx → W (.ref (A.ca C)) dx σ' H'
def SS (X : Cx) (A : Nm) (Γ : En) (st : Stmt) (m : So) : Prop :=
  ∀ F ρ T σ H r E, Gd (Bx X A) F ρ T σ H Γ → m T = some r → PostS X A F ρ H r E → WS X st E σ H
def SB (X : Cx) (A : Nm) (Γ : En) (sts : List Stmt) (m : So) : Prop :=
  ∀ F ρ T σ H r E, Gd (Bx X A) F ρ T σ H Γ → m T = some r → PostS X A F ρ H r E → WB X sts E σ H
section
variable {X : Cx} {A : Nm} {Pg : Prg} {Φ : Str → List D → Mo D} {lv : Nat} {c : Cn} {Γ : En}
theorem PostS.stp {F ρ ρ1 : List Addr} {H H1 : Hp} {r : Sr} {E : Ends} (p : PostS X A F ρ H r E) (s : Stp F ρ H ρ1 H1) : PostS X A F ρ1 H1 r E := by
  cases r with
  | nx Γ' T' => exact fun σ' ρ' H' s' => p σ' ρ' H' (s.trans s')
  | bk Γ' T' => exact fun σ' ρ' H' s' => p σ' ρ' H' (s.trans s')
  | ct Γ' T' => exact fun σ' ρ' H' s' => p σ' ρ' H' (s.trans s')
  | rt d T' => exact fun v ρ' H' s' => p v ρ' H' (s.trans s')
  | ex C fs Γ' T' =>
    obtain ⟨W, tk, h⟩ := p
    exact ⟨W, tk, fun σ' ρ' H' dx s' => h σ' ρ' H' dx (s.trans s')⟩
theorem so_post {α β : Type} {R : List Addr → Hp → β → α → Prop} {m : Mo α} {f : α → So} {F ρ : List Addr} {T : List Ob} {σ : L2.St} {H : Hp} {r : Sr} {E : Ends} {Q : β → Hp → Prop} (g : Gd (Bx X A) F ρ T σ H Γ) (e0 : So.of Γ m f T = some r) (p : PostS X A F ρ H r E)
    (cc : ∀ a T1 v ρ1 H1, Stp F ρ H ρ1 H1 → Gd (Bx X A) F ρ1 T1 σ H1 Γ → R ρ1 (cutR F ρ1 H1) v a → f a T1 = some r → PostS X A F ρ1 H1 r E → Q v H1) : ∃ r0, m T = some r0 ∧ Post X A F ρ H σ R r0 Q := by
  unfold So.of at e0
  split at e0
  · rename_i a T' e1
    exact ⟨_, e1, fun v ρ' H' s w q => cc a T' v ρ' H' s (g.stp s w) q e0 (p.stp s)⟩
  · rename_i C fs T' e1
    cases e0
    refine ⟨_, e1, ?_⟩
    obtain ⟨W, tk, h⟩ := p
    exact ⟨W, tk, fun ρ' H' dx s w x => h σ ρ' H' dx s (g.stp s w) x⟩
  · cases e0
theorem SS.no {st : Stmt} : SS X A Γ st So.no := fun _ _ _ _ _ _ _ _ h => by cases h
theorem SB.no {st : List Stmt} : SB X A Γ st So.no := fun _ _ _ _ _ _ _ _ h => by cases h

/-! ### new things tracked -/
theorem sl_new (k : XOk X A Pg Φ lv c) {R : Evs} (hR : EvsOk A Pg Φ lv R) {e : Expr} : SL X A Γ e (newL Pg R c Γ e) := by
  unfold newL
  split
  · exact sl_list (sa_list (hR X c Γ k).1 _)
  · exact sl_lc k hR
  · exact fun _ _ _ _ _ _ _ _ h => by cases h
theorem se_evT (k : XOk X A Pg Φ lv c) {R : Evs} (hR : EvsOk A Pg Φ lv R) {tr : Bool} {e : Expr} : SE X A Γ e (evT Pg R c Γ tr e) := by
  unfold evT
  split
  · exact (sl_new k hR).track
  · exact (hR X c Γ k).1 e
theorem sa_evZ {f : Bool → Expr → Mo D} (hf : ∀ b a, SE X A Γ a (f b a)) : ∀ (es : List Expr) (bs : List Bool), SA X A Γ es (evZ f bs es)
  | [], bs => fun F ρ T σ H r Q g e p => by
    have : evZ f bs [] = Mo.ret [] := by cases bs <;> rfl
    rw [this] at e
    have := Mo.ret_some e
    subst this
    exact wa_of pa_nil (p _ ρ H .refl g.wd .nil)
  | a :: es, bs => by
    intro F ρ T σ H r Q g e p
    have e' : evZ f bs (a :: es) = if starred a = true then Mo.no else (f (bs.headD false) a).bind fun d => (evZ f bs.tail es).bind fun ds => Mo.ret (d :: ds) := by cases bs <;> rfl
    rw [e'] at e
    cases hs : starred a with
    | true => rw [hs] at e; cases e
    | false =>
      rw [hs] at e
      refine wa_of (pa_cons pe_we pa_wa (star_cons hs)) ((hf _ a).bind g e p fun x T1 v ρ1 H1 s1 g1 r1 e1 p1 => (sa_evZ hf es bs.tail).bind g1 e1 p1 fun ds T2 vs ρ2 H2 s2 g2 r2 e2 p2 => ?_)
      have := Mo.ret_some e2
      subst this
      exact p2 _ ρ2 H2 .refl g2.wd (.cons (r1.stp s2) r2)

/-! ### stores -/
def gAny (X : Cx) (tg : Expr) : TG := fun v σ H Q => ∀ pins s u, Inv X pins σ H s → RelV v u → wpAny (model X.prog X.w) X.A (assign tg X.env u) (fun _ s' => ∃ σ' H', Inv X pins σ' H' s' ∧ Q σ' H') X.xe s
theorem pg_any {tg : Expr} : PG X tg (gAny X tg) := ⟨fun pins s σ H v u Q I r h => h pins s u I r⟩
theorem g_of {tg : Expr} {t : TG} {v : V} {σ : L2.St} {H : Hp} {Q : L2.St → Hp → Prop} (h : PG X tg t) (q : t v σ H Q) : gAny X tg v σ H Q := fun pins s u I r => h.run pins s σ H v u Q I r q
def SG (X : Cx) (A : Nm) (Γ : En) (tg : Expr) (f : D → Mo En) : Prop :=
  ∀ F ρ T σ H v d r Q, Gd (Bx X A) F ρ T σ H Γ → DD (Bx X A) ρ (cutR F ρ H) v d → f d T = some r → (∀ Γ' T', r = .ok Γ' T' → ∀ σ' ρ' H', Stp F ρ H ρ' H' → Gd (Bx X A) F ρ' T' σ' H' Γ' → Q σ' H') → gAny X tg v σ H Q
/-- o.f = .., as a target -/
def gFld (K : PySem.W.Frag) (to : TE) (f : Str) : TG := fun v σ H Q => to σ H fun x H1 => ∃ a C dx fs, x = .ref a ∧ H1 a = some (.ins C dx fs) ∧ Cls K C ∧ NoAttr K C f ∧ fs.length < 1000 ∧ Q σ (L2.upd H1 a (.ins C dx (putF f v fs)))
theorem pg_fld {o : Expr} {to : TE} {f : Str} {pos : Pos} (ho : PE X o to)
    (ha : ∀ v, assign (.Attribute o f pos) X.env v = (do
      let ov ← holding [v] (eval o X.env)
      standAt pos.atName
      holding [v, ov] (setAttr ov f v)
      release [v, ov] []) := by intro _; rfl) : PG X (.Attribute o f pos) (gFld X.K to f) := by
  refine ⟨fun pins s σ H v u Q I r h => ?_⟩
  rw [ha]
  refine wpAny_bind (wpAny_holding (thn (ho.run pins s σ H _ I h) fun ov s1 ⟨x, H1, I1, r1, a, C, dx, fs, ex, ea, c, n, l, q⟩ => ?_))
  subst ex
  obtain rfl : ov = Value.ref a := r1
  exact wpAny_bind (wpAny_standAt (wpAny_bind (wpAny_holding (setattr_ok I1 ea c n l r fun s3 I3 => wpAny_release ⟨σ, _, I3, q⟩))))
theorem DDf.put {B : Bas} {ρ : List Addr} {S : Hp} {f : Str} {v : V} {d : D} (hv : DD B ρ S v d) : ∀ {fs : List (Str × V)} {gs : List (Str × D)}, DDf B ρ S fs gs → DDf B ρ S (putF f v fs) (putD f d gs)
  | _, _, .nil => .cons hv .nil
  | _, _, .cons (k := k) h r => by
    unfold putF putD
    split
    · exact .cons hv r
    · exact .cons h (DDf.put hv r)
theorem DDf.len {B : Bas} {ρ : List Addr} {S : Hp} : ∀ {fs : List (Str × V)} {gs : List (Str × D)}, DDf B ρ S fs gs → fs.length = gs.length
  | _, _, .nil => rfl
  | _, _, .cons _ r => by rw [List.length_cons, List.length_cons, DDf.len r]
theorem fld_run (k : XOk X A Pg Φ lv c) {F ρ : List Addr} {T : List Ob} {H : Hp} {x v : V} {o d : D} {f : Str} {r : Rs Unit} (w : Wd (Bx X A) F ρ T H) (hx : DD (Bx X A) ρ (cutR F ρ H) x o) (hv : DD (Bx X A) ρ (cutR F ρ H) v d) (e : fldM Pg o f d T = some r) :
    ∃ T' a C dx fs, r = .ok () T' ∧ x = .ref a ∧ H a = some (.ins C dx fs) ∧ Cls X.K C ∧ NoAttr X.K C f ∧ fs.length < 1000 ∧ Wd (Bx X A) F ρ T' (L2.upd H a (.ins C dx (putF f v fs))) ∧ Stp F ρ H ρ (L2.upd H a (.ins C dx (putF f v fs))) := by
  unfold fldM at e
  split at e
  · rename_i n
    split at e
    · rename_i C gs hT
      split at e
      · rename_i hc
        cases e
        cases hx with
        | adr ha =>
          obtain ⟨dx, fs, h1, h2⟩ := w.at ha hT
          obtain ⟨hcls, hno⟩ := k.kn.noat C f hc.1
          obtain ⟨w', s'⟩ := w.upd (o := .ins (A.ca C) dx (putF f v fs)) (ob := .ins C (putD f d gs)) ha ⟨dx, _, upd_same, DDf.put hv h2⟩
          exact ⟨_, _, _, dx, fs, rfl, rfl, h1, hcls, hno, by rw [h2.len]; exact hc.2, w', s'⟩
      · cases e
    · cases e
  · cases e
theorem sub_run {F ρ : List Addr} {T : List Ob} {H : Hp} {x y v : V} {o i d : D} {r : Rs Unit} (w : Wd (Bx X A) F ρ T H) (hx : DD (Bx X A) ρ (cutR F ρ H) x o) (hy : DD (Bx X A) ρ (cutR F ρ H) y i) (hv : DD (Bx X A) ρ (cutR F ρ H) v d) (e : subM o i d T = some r) :
    ∃ T' H', r = .ok () T' ∧ Wd (Bx X A) F ρ T' H' ∧ Stp F ρ H ρ H' ∧ ∀ Q : Hp → Prop, Q H' → rSetL x y v H Q := by
  unfold subM at e
  split at e
  · rename_i n
    split at e
    · rename_i xs hT
      split at e
      · rename_i k
        split at e
        · rename_i j hj
          cases e
          cases hx with
          | adr ha =>
            cases hy
            obtain ⟨zs, h1, h2⟩ := w.at ha hT
            obtain ⟨w', s'⟩ := w.upd (o := .lst (zs.set j v)) (ob := .lst (xs.set j d)) ha ⟨_, upd_same, h2.set j hv⟩
            exact ⟨_, _, rfl, w', s', fun Q q => ⟨_, zs, k, j, rfl, rfl, h1, by rw [h2.len]; exact hj, q⟩⟩
        · cases e
      · cases e
    · cases e
  · cases e
theorem sg_one (k : SOk X A Pg Φ lv c) {R : Evs} (hR : EvsOk A Pg Φ lv R) {tg : Expr} : SG X A Γ tg (put1 Pg R c Γ tg) := by
  intro F ρ T σ H v d r Q g hv e p
  have k' := k.toXOk
  obtain ⟨he, _⟩ := hR X c Γ k'
  unfold put1 at e
  split at e
  · rename_i x px
    cases hi : nameI c x with
    | none => rw [hi] at e; cases e
    | some i =>
      rw [hi] at e
      have := Mo.ret_some e
      subst this
      unfold nameI at hi
      split at hi
      · rename_i hl
        obtain ⟨h1, h2⟩ := k'.st x hl
        exact g_of (pg_name (by rw [k'.N]; exact k'.nd) (by rw [k'.N]; exact idx_get hi) h1 h2) (p _ T rfl _ ρ H .refl (g.set hv))
      · cases hi
  · rename_i o f fp
    obtain ⟨Γ', T', e1, er⟩ := Mo.calm_some e
    subst er
    refine g_of (pg_fld pe_we) ((he o).bind (R := fun _ _ (_ : V) (_ : En) => False) g e1 (Q := fun _ _ => True) (fun _ _ _ _ _ z => z.elim) fun x T1 xv ρ1 H1 s1 g1 r1 e2 _ => ?_)
    rcases Mo.bind_some e2 with ⟨_, T2, e3, e4⟩ | ⟨_, _, _, _, z⟩
    · obtain ⟨T3, a, C, dx, fs, er, ex, h1, h2, h3, h4, w', s'⟩ := fld_run k' g1.wd r1 (hv.stp s1) e3
      cases er
      have := Mo.ret_some e4
      cases this
      exact ⟨a, C, dx, fs, ex, h1, h2, h3, h4, p _ _ rfl σ ρ1 _ (s1.trans s') (g1.stp s' w')⟩
    · cases z
  · rename_i o i ip
    by_cases hsl : noSlice i = false
    · rw [if_pos hsl] at e
      cases e
    rw [if_neg hsl] at e
    obtain ⟨Γ', T', e1, er⟩ := Mo.calm_some e
    subst er
    refine g_of (pg_sub pe_we pe_we set_list (by intro v; cases i <;> first | rfl | exact absurd rfl hsl)) ((he o).bind (R := fun _ _ (_ : V) (_ : En) => False) g e1 (Q := fun _ _ => True) (fun _ _ _ _ _ z => z.elim) fun x T1 xv ρ1 H1 s1 g1 r1 e2 _ => (he i).bind (R := fun _ _ (_ : V) (_ : En) => False) g1 e2 (Q := fun _ _ => True) (fun _ _ _ _ _ z => z.elim) fun y T2 yv ρ2 H2 s2 g2 r2 e3 _ => ?_)
    rcases Mo.bind_some e3 with ⟨_, T3, e4, e5⟩ | ⟨_, _, _, _, z⟩
    · obtain ⟨T4, H', er, w', s', q⟩ := sub_run g2.wd (r1.stp s2) r2 (hv.stp (s1.trans s2)) e4
      cases er
      have := Mo.ret_some e5
      cases this
      exact q _ (p _ _ rfl σ ρ2 _ ((s1.trans s2).trans s') (g2.stp s' w'))
    · cases z
  · cases e
theorem put1_ex {R : Evs} {tg : Expr} {d : D} {T T' : List Ob} {C : Nat} {fs : List (Str × D)} (e1 : put1 Pg R c Γ tg d T = some (.ex C fs T')) : False := by
  unfold put1 at e1
  split at e1
  · rename_i x px
    cases hi : nameI c x with
    | none => rw [hi] at e1; cases e1
    | some i => rw [hi] at e1; cases e1
  · exact calm_no e1
  · rename_i o i ip
    by_cases hsl : noSlice i = false
    · rw [if_pos hsl] at e1
      cases e1
    · rw [if_neg hsl] at e1
      exact calm_no e1
  · cases e1
theorem sg_many (k : SOk X A Pg Φ lv c) {R : Evs} (hR : EvsOk A Pg Φ lv R) : ∀ (ts : List Expr), noStar ts = true → ∃ t : TGs, PGs X ts t ∧ (assignEach ts X.env).length = ts.length ∧ (assignEach ts X.env).findIdx? (·.1) = none ∧
    ∀ (Γ : En) F ρ T σ H vs ds r Q, Gd (Bx X A) F ρ T σ H Γ → DDs (Bx X A) ρ (cutR F ρ H) vs ds → putL Pg R c Γ ts ds T = some r → (∀ Γ' T', r = .ok Γ' T' → ∀ σ' ρ' H', Stp F ρ H ρ' H' → Gd (Bx X A) F ρ' T' σ' H' Γ' → Q σ' H') → vs.length = ts.length ∧ t vs σ H Q
  | [], _ => ⟨gNil, pgs_nil, rfl, rfl, fun Γ F ρ T σ H vs ds r Q g hv e p => by
      cases hv with
      | nil =>
        have := Mo.ret_some e
        exact ⟨rfl, rfl, p _ _ this σ ρ H .refl g⟩
      | cons _ _ => cases e⟩
  | tg :: ts, hn => by
    unfold noStar at hn
    rw [List.all_cons, Bool.and_eq_true, Bool.not_eq_true'] at hn
    obtain ⟨t, h1, h2, h3, h4⟩ := sg_many k hR ts hn.2
    have ea := asg_cons (es := ts) (env := X.env) hn.1
    refine ⟨gCons (gAny X tg) t, pgs_cons pg_any h1 (by rw [ea] <;> rfl), by rw [ea, List.length_cons, List.length_cons, h2], by rw [ea, List.findIdx?_cons, h3] <;> rfl, fun Γ F ρ T σ H vs ds r Q g hv e p => ?_⟩
    cases hv with
    | nil => cases e
    | @cons v vs d ds hd hr =>
      have e' : ((put1 Pg R c Γ tg d).bind fun Γ' => putL Pg R c Γ' ts ds) T = some r := e
      rcases Mo.bind_some e' with ⟨Γ1, T1, e1, e2⟩ | ⟨C, fs, T1, e1, er⟩
      · have len : vs.length = ts.length := by
          have hl := hr.len
          have : ∀ (ts : List Expr) (ds : List D) (Γ : En) (T : List Ob) (r : Rs En), putL Pg R c Γ ts ds T = some r → (∀ C fs T', r ≠ .ex C fs T') → ds.length = ts.length := by
            intro ts
            induction ts with
            | nil => intro ds Γ T r h _; cases ds with
              | nil => rfl
              | cons _ _ => cases h
            | cons t ts ih => intro ds Γ T r h hne; cases ds with
              | nil => cases h
              | cons d ds =>
                have h' : ((put1 Pg R c Γ t d).bind fun Γ' => putL Pg R c Γ' ts ds) T = some r := h
                rcases Mo.bind_some h' with ⟨Γ1, T1, e1, e2⟩ | ⟨C, fs, T1, e1, er⟩
                · rw [List.length_cons, List.length_cons, ih ds Γ1 T1 r e2 hne]
                · exact absurd er (hne C fs T1)
          cases r with
          | ok Γ' T' => rw [hl]; exact this ts ds Γ1 T1 _ e2 (fun _ _ _ z => by cases z)
          | ex C fs T' =>
            exfalso
            have : ∀ (ts : List Expr) (ds : List D) (Γ : En) (T : List Ob), putL Pg R c Γ ts ds T = some (.ex C fs T') → False := by
              intro ts
              induction ts with
              | nil => intro ds Γ T h; cases ds with
                | nil => cases h
                | cons _ _ => cases h
              | cons t ts ih => intro ds Γ T h; cases ds with
                | nil => cases h
                | cons d ds =>
                  have h' : ((put1 Pg R c Γ t d).bind fun Γ' => putL Pg R c Γ' ts ds) T = some _ := h
                  rcases Mo.bind_some h' with ⟨Γ1, T1, e1, e2⟩ | ⟨C', fs', T1, e1, er⟩
                  · exact ih ds Γ1 T1 e2
                  · exact put1_ex e1
            exact this ts ds Γ1 T1 e2
        refine ⟨by rw [List.length_cons, List.length_cons, len], v, vs, rfl, ?_⟩
        refine sg_one k hR F ρ T σ H v d _ _ g hd e1 fun Γ' T' er σ' ρ' H' s' g' => ?_
        cases er
        exact (h4 Γ1 F ρ' T1 σ' H' vs ds r Q g' (hr.stp s') e2 fun Γ'' T'' er' σ'' ρ'' H'' s'' g'' => p Γ'' T'' er' σ'' ρ'' H'' (s'.trans s'') g'').2
      · exact (put1_ex e1).elim
theorem sg_all (k : SOk X A Pg Φ lv c) {R : Evs} (hR : EvsOk A Pg Φ lv R) {tg : Expr} : SG X A Γ tg (putM Pg R c Γ tg) := by
  intro F ρ T σ H v d r Q g hv e p
  unfold putM at e
  split at e
  · rename_i ts j tp
    split at e
    · split at e
      · rename_i ds hn
        obtain ⟨t, h1, h2, h3, h4⟩ := sg_many k hR ts hn
        cases hv with
        | @tup a xs _ hq hr =>
          obtain ⟨hl, ht⟩ := h4 Γ F ρ T σ H xs ds r Q g hr e p
          exact g_of (pg_tup k.calm h1 h2 h3) ⟨a, xs, rfl, same_sqT (cut_sub _ _) hq, hl, ht⟩
      · cases e
    · cases e
  · exact sg_one k hR F ρ T σ H v d r Q g hv e p
theorem putL_ex {R : Evs} {C : Nat} {fs : List (Str × D)} {T' : List Ob} : ∀ (ts : List Expr) (ds : List D) (Γ : En) (T : List Ob), putL Pg R c Γ ts ds T = some (.ex C fs T') → False
  | [], [], Γ, T, h => by cases h
  | [], _ :: _, Γ, T, h => by cases h
  | _ :: _, [], Γ, T, h => by cases h
  | t :: ts, d :: ds, Γ, T, h => by
    have h' : ((put1 Pg R c Γ t d).bind fun Γ' => putL Pg R c Γ' ts ds) T = some _ := h
    rcases Mo.bind_some h' with ⟨Γ1, T1, e1, e2⟩ | ⟨C', fs', T1, e1, er⟩
    · exact putL_ex ts ds Γ1 T1 e2
    · exact put1_ex e1
theorem putM_ex {R : Evs} {tg : Expr} {d : D} {T T' : List Ob} {C : Nat} {fs : List (Str × D)} (e : putM Pg R c Γ tg d T = some (.ex C fs T')) : False := by
  unfold putM at e
  split at e
  · split at e
    · split at e
      · exact putL_ex _ _ _ _ e
      · cases e
    · cases e
  · exact put1_ex e
end
end RR
set_option maxHeartbeats 1000000
/-! R24: every statement. -/
namespace RR
open PySem PySem.Spec PyProof.Rows L2
section
variable {X : Cx} {A : Nm} {Pg : Prg} {Φ : Str → List D → Mo D} {lv : Nat} {c : Cn} {Γ : En}

/-! ### assignments -/
theorem asg_run (k : SOk X A Pg Φ lv c) {R : Evs} (hR : EvsOk A Pg Φ lv R) {tg e : Expr} {pos : Pos} {m : Mo D} (hm : SE X A Γ e m) (hst : starred tg = false) (hs : swapsWithSole [tg] e pos.line X.env = pure false) (hw : swappedStores [tg] e X.env = pure none) :
    SS X A Γ (.Assign [tg] e pos) (So.of Γ (m.bind fun d => putM Pg R c Γ tg d) So.nx) := by
  intro F ρ T σ H r E g e0 p
  refine ws_of (ps_asg pe_we pg_any hs hw (by rw [asg_cons hst] <;> rfl)) ?_
  show WE X e σ H fun x H1 => gAny X tg x σ H1 E.nx
  unfold So.of at e0
  cases hmT : m T with
  | none =>
    have hb : (m.bind fun d => putM Pg R c Γ tg d) T = none := by unfold Mo.bind; rw [hmT]
    rw [hb] at e0
    cases e0
  | some z =>
    cases z with
    | ok d T1 =>
      have hb : (m.bind fun d => putM Pg R c Γ tg d) T = putM Pg R c Γ tg d T1 := by unfold Mo.bind; rw [hmT]
      rw [hb] at e0
      refine hm F ρ T σ H _ _ g hmT fun v ρ1 H1 s w x => ?_
      cases hp : putM Pg R c Γ tg d T1 with
      | none => rw [hp] at e0; cases e0
      | some r1 =>
        rw [hp] at e0
        cases r1 with
        | ok Γ' T' =>
          cases e0
          refine sg_all k hR F ρ1 T1 σ H1 v d _ _ (g.stp s w) x hp fun Γ'' T'' er σ' ρ' H' s' g' => ?_
          cases er
          exact p σ' ρ' H' (s.trans s') g'
        | ex C fs T' => exact (putM_ex hp).elim
    | ex C fs T1 =>
      have hb : (m.bind fun d => putM Pg R c Γ tg d) T = some (.ex C fs T1) := by unfold Mo.bind; rw [hmT]
      rw [hb] at e0
      cases e0
      obtain ⟨W, tk, h⟩ := p
      exact hm F ρ T σ H _ _ g hmT ⟨W, tk, fun ρ' H' dx s w x => h σ ρ' H' dx s (g.stp s w) x⟩
theorem names_short {sc : Scope} {f : Expr → Option Str} (hf : ∀ t, isName sc t = false → f t = none) : ∀ (ts : List Expr), (ts.filterMap f).length ≤ ts.length ∧ (ts.any (fun t => !isName sc t) = true → (ts.filterMap f).length < ts.length)
  | [] => ⟨Nat.le_refl _, fun h => by cases h⟩
  | t :: ts => by
    obtain ⟨h1, h2⟩ := names_short hf ts
    refine ⟨?_, fun h => ?_⟩
    · rw [List.filterMap_cons]
      split
      · exact Nat.le_succ_of_le h1
      · rw [List.length_cons, List.length_cons]; exact Nat.succ_le_succ h1
    · rw [List.any_cons, Bool.or_eq_true] at h
      rw [List.filterMap_cons]
      rcases h with h | h
      · rw [Bool.not_eq_true'] at h
        rw [hf t h]
        exact Nat.lt_succ_of_le h1
      · split
        · exact Nat.lt_succ_of_lt (h2 h)
        · rw [List.length_cons, List.length_cons]; exact Nat.succ_lt_succ (h2 h)
theorem swap_none {env : Env} {ts vs : List Expr} {j j' : Nat} {p p' : Pos} (h : ts.any (fun t => !isName env.scope t) = true) : swappedStores [.Tuple ts j p] (.Tuple vs j' p') env = pure none := by
  unfold swappedStores
  simp only
  split
  · rfl
  split
  · rfl
  rw [if_pos]
  rw [Bool.or_eq_true]
  refine .inl ?_
  rw [bne_iff_ne]
  refine Nat.ne_of_lt ((names_short (fun t ht => ?_) ts).2 h)
  cases t <;> first | rfl | skip
  rename_i x px
  have hn : ¬ env.kindOf x = some .local := of_decide_eq_false ht
  have hb : (env.kindOf x == some NameKind.local) = false := by
    cases q : env.kindOf x == some NameKind.local with
    | false => rfl
    | true => exact absurd (eq_of_beq q) hn
  simp [hb]
theorem swap_two {env : Env} {x y : Str} {px py : Pos} {a b : Expr} {j j' : Nat} {p p' : Pos} (hk : env.scope.kind = .function) (hl : px.line = py.line) (hne : x ≠ y) (hx : env.scope.names.lookup x = some .local) (hy : env.scope.names.lookup y = some .local) (ha : starred a = false) (hb : starred b = false)
    (hf : [a, b].all (foldedForSure 8) = false) (hc : [a, b].all (constantsAlone 8) = false) : swappedStores [.Tuple [.Name x px, .Name y py] j p] (.Tuple [a, b] j' p') env = pure (some [x, y]) := by
  have hb0 : env.blockKind = .function := by
    unfold Env.blockKind
    rw [hk] <;> rfl
  have k1 : env.kindOf x = some .local := hx
  have k2 : env.kindOf y = some .local := hy
  have hn : ∀ f : Expr → Option Str, f (.Name x px) = some x → f (.Name y py) = some y → [Expr.Name x px, Expr.Name y py].filterMap f = [x, y] := fun f h1 h2 => by
    simp [List.filterMap_cons, h1, h2]
  have hst : ∀ f : Expr → Bool, (∀ e, starred e = false → f e = false) → [a, b].any f = false := fun f h => by
    simp [h a ha, h b hb]
  have hd : ([x, y] : List Str).eraseDups.length = 2 := by
    have hb : (y == x) = false := by simpa using Ne.symm hne
    simp [List.eraseDups_cons, hb]
  unfold swappedStores
  simp only
  rw [if_neg (by simp [hb0])]
  rw [if_neg (by rw [hst _ (fun e he => by cases e <;> first | rfl | cases he)]; decide)]
  have e1 : (Expr.Name x px).pos.line = px.line := rfl
  rw [hn _ (by simp [k1, e1]) (by simp [k2, e1, hl])]
  rw [if_neg (by rw [hd]; simp)]
  rw [if_neg (by rw [hf]; decide)]
  rw [if_neg (by rw [hc]; decide)]
theorem noswap {tg e : Expr} {n : Nat} {env : Env} (h : isComp e = false) : swapsWithSole [tg] e n env = pure false := by
  cases e <;> first | rfl | (cases h)
theorem noswap_tup {ts : List Expr} {j : Nat} {p : Pos} {e : Expr} {n : Nat} {env : Env} : swapsWithSole [.Tuple ts j p] e n env = pure false := by
  cases e <;> rfl
theorem asg_lc (k : SOk X A Pg Φ lv c) {R : Evs} (hR : EvsOk A Pg Φ lv R) {x : Str} {px p pos : Pos} {elt t it : Expr} {ifs : List Expr} {sc : Scope} {i : Nat} (hi : nameI c x = some i) {m : Mo D}
    (hm : m = (lcM Pg R c Γ elt t it ifs sc).bind (fun ds => alloc (.lst ds)) ∨ m = (lcM Pg R c Γ elt t it ifs sc).bind (fun ds => Mo.ret (.lst ds))) :
    SS X A Γ (.Assign [.Name x px] (.ListComp elt [⟨t, it, ifs, 0⟩] sc p) pos) (So.of Γ m fun d => So.nx (Γ.set i (some d))) := by
  intro F ρ T σ H r E g e0 p0
  have k' := k.toXOk
  obtain ⟨r0, e1, p1⟩ := so_post (R := rD X A) (Q := fun v H1 => gName i v σ H1 E.nx) g e0 p0 fun d T1 v ρ1 H1 s1 g1 r1 e2 p2 => by
    cases e2
    exact p2 _ ρ1 H1 .refl (g1.set r1)
  unfold nameI at hi
  split at hi
  · rename_i hl
    obtain ⟨h1, h2⟩ := k'.st x hl
    obtain ⟨rl, el, pl⟩ : ∃ rl, lcM Pg R c Γ elt t it ifs sc T = some rl ∧ PostN X A F ρ H σ rl (fun v H1 => gName i v σ H1 E.nx) := by
      rcases hm with rfl | rfl
      · obtain ⟨rl, el⟩ := bind_fst e1
        exact ⟨rl, el, post_track el e1 p1⟩
      · obtain ⟨rl, el⟩ := bind_fst e1
        exact ⟨rl, el, post_data el e1 p1⟩
    obtain ⟨own, tt, q1, q2, q3, q4⟩ := lcM_some el
    have hN : X.N.Nodup := by rw [k'.N]; exact k'.nd
    have hix : X.N[i]? = some x := by rw [k'.N]; exact idx_get hi
    have run := lc_run k' hR q1 q2 q3 g el pl
    cases hb : (X.env.blockKind == .function && X.env.kindOf x == some .local && px.line == p.line && !(sc.names.any fun (n, kd) => n == x && (kd == .local || kd == .cell))) with
    | true =>
      have hsw : swapsWith (.ListComp elt [⟨t, it, ifs, 0⟩] sc p) (some (.Name x px)) pos.line X.env = pure true := by
        rw [← hb]
        rfl
      simp only [Bool.and_eq_true] at hb
      have hyl : X.env.scope.names.lookup x = some .local := eq_of_beq hb.1.1.2
      exact ws_of (ps_setLc k'.calm hN hix hyl hsw pi_wi (by rw [k'.N, k'.sc]; exact blk_ok q1) (fun s H c' cl fp => (tgt_ok (k'.blk sc s H c' cl fp) t tt q2).2) (fun s H c cl fp => ⟨fun pins s' _ _ _ I h => h s H c cl fp pins s' I⟩) (fun s H c cl fp => ⟨fun pins s' _ _ _ I h => h s H c cl fp pins s' I⟩) (fun x => q4 x _)) run
    | false =>
      have hsw : swapsWith (.ListComp elt [⟨t, it, ifs, 0⟩] sc p) (some (.Name x px)) pos.line X.env = pure false := by
        rw [← hb]
        rfl
      exact ws_of (ps_set hN hix h1 (pe_lc k'.calm hN pi_wi (by rw [k'.N, k'.sc]; exact blk_ok q1) (fun s H c' cl fp => (tgt_ok (k'.blk sc s H c' cl fp) t tt q2).2) (fun s H c cl fp => ⟨fun pins s' _ _ _ I h => h s H c cl fp pins s' I⟩) (fun s H c cl fp => ⟨fun pins s' _ _ _ I h => h s H c cl fp pins s' I⟩) (fun x => q4 x _)) hsw h2) run
  · cases hi
theorem asg_par (k : SOk X A Pg Φ lv c) {R : Evs} (hR : EvsOk A Pg Φ lv R) {x y : Expr} {vs : List Expr} {i j : Nat} {kt k2 : Nat} {pt p2 pos : Pos} {bs : List Bool} (hn : noStar vs = true) (hlen : vs.length = 2) (h : swp c x y vs = some (i, j)) :
    SS X A Γ (.Assign [.Tuple [x, y] kt pt] (.Tuple vs k2 p2) pos) (So.of Γ (evZ (evT Pg R c Γ) bs vs) fun ds => (match ds with
        | [d, d'] => So.nx ((Γ.set i (some d)).set j (some d'))
        | _ => So.no)) := by
  intro F ρ T σ H r E g e0 p0
  have k' := k.toXOk
  unfold swp at h
  split at h
  · rename_i x px y py
    split at h
    · rename_i hc
      obtain ⟨hl, hne, hx, hy, hf, hcs⟩ := hc
      split at h
      · rename_i i' j' hi hj
        split at h
        · rename_i hij
          cases h
          rw [k.raw, ← k'.sc] at hx hy
          match vs, hlen with
          | [a, b], _ =>
            have hst : starred a = false ∧ starred b = false := by
              unfold noStar at hn
              simp only [List.all_cons, List.all_nil, Bool.and_true, Bool.and_eq_true, Bool.not_eq_true'] at hn
              exact hn
            refine ws_of (ps_par k'.calm (by rw [k'.N]; exact k'.nd) (by rw [k'.N]; exact idx_get hi) (by rw [k'.N]; exact idx_get hj) hij hx hy pa_wa (swap_two k.fk hl hne hx hy hst.1 hst.2 hf hcs)) ?_
            obtain ⟨r0, e1, p1⟩ := so_post (R := rDs X A) (Q := fun vs H1 => ∃ v w, vs = [v, w] ∧ E.nx ((σ.set i (some v)).set j (some w)) H1) g e0 p0 fun ds T1 vs ρ1 H1 s1 g1 r1 e2 p2 => by
              split at e2
              · cases e2
                cases r1 with
                | cons h1 r1 => cases r1 with
                  | cons h2 r1 =>
                    cases r1
                    exact ⟨_, _, rfl, p2 _ ρ1 H1 .refl ((g1.set h1).set h2)⟩
              · cases e2
            exact sa_evZ (fun b a => se_evT k' hR) _ _ F ρ T σ H r0 _ g e1 p1
        · cases h
      · cases h
    · cases h
  · cases h
theorem ss_asg (k : SOk X A Pg Φ lv c) {R : Evs} (hR : EvsOk A Pg Φ lv R) {tg e : Expr} {pos : Pos} : SS X A Γ (.Assign [tg] e pos) (asgM Pg R c Γ tg e) := by
  have k' := k.toXOk
  unfold asgM
  split
  · rename_i x px elt t it ifs sc p
    split
    · rename_i i hi
      refine asg_lc k hR hi ?_
      by_cases ht : c.trk.contains x = true
      · refine .inl ?_
        show (lcM Pg R c Γ elt t it ifs sc).bind _ = _
        congr 1
        funext ds
        rw [if_pos ht]
      · refine .inr ?_
        show (lcM Pg R c Γ elt t it ifs sc).bind _ = _
        congr 1
        funext ds
        rw [if_neg ht]
    · exact .no
  · rename_i ts j p vs j' p'
    split
    · rename_i x y
      split
      · rename_i hc
        split
        · rename_i i j hs
          exact asg_par k hR hc.1 hc.2 hs
        · split
          · rename_i ha
            exact asg_run k hR (se_tup (sa_evZ (fun b a => se_evT k' hR) _ _)) rfl noswap_tup (swap_none (by rw [k'.sc, ← k.raw]; exact ha))
          · exact .no
      · exact .no
    · split
      · rename_i hc
        exact asg_run k hR (se_tup (sa_evZ (fun b a => se_evT k' hR) _ _)) rfl noswap_tup (swap_none (by rw [k'.sc, ← k.raw]; exact hc.1))
      · exact .no
  · rename_i h1 h2
    split
    · exact .no
    · rename_i hcomp
      have hcomp' : isComp e = false ∧ okTg tg = true := by
        constructor
        · cases hq : isComp e with
          | false => rfl
          | true => exact absurd (.inl hq) hcomp
        · cases hq : okTg tg with
          | true => rfl
          | false => exact absurd (.inr hq) hcomp
      refine asg_run k hR (se_evT k' hR) ?_ (noswap hcomp'.1) ?_
      · cases tg <;> first | rfl | (cases hcomp'.2)
      · cases tg <;> first
          | rfl
          | (cases hcomp'.2; done)
          | (cases e <;> first | rfl | (exact (h2 _ _ _ _ _ _ rfl rfl).elim))
/-! ### loops -/
theorem forGo_nil {f : En → D → So} {kp : List Ob → Bool} {T : List Ob} {r : Sr} (h : forGo f kp Γ [] T = some r) : kp T = true ∧ r = .nx Γ T := by
  unfold forGo at h
  split at h
  · rename_i hk
    cases h
    exact ⟨hk, rfl⟩
  · cases h
/-- the end of a turn, towards the loop's end -/
def TurnR (go : En → List Ob → Option Sr) (r : Sr) : Sr → Prop
  | .nx Γ' T' => go Γ' T' = some r
  | .ct Γ' T' => go Γ' T' = some r
  | .bk Γ' T' => r = .nx Γ' T'
  | .rt d T' => r = .rt d T'
  | .ex C fs Γ' T' => r = .ex C fs Γ' T'
theorem forGo_cons {f : En → D → So} {kp : List Ob → Bool} {T : List Ob} {r : Sr} {d : D} {ds : List D} (h : forGo f kp Γ (d :: ds) T = some r) : kp T = true ∧ ∃ r1, f Γ d T = some r1 ∧ TurnR (fun Γ' T' => forGo f kp Γ' ds T') r r1 := by
  unfold forGo at h
  split at h
  · rename_i hk
    refine ⟨hk, ?_⟩
    cases hf : f Γ d T with
    | none => rw [hf] at h; cases h
    | some r1 =>
      rw [hf] at h
      refine ⟨r1, rfl, ?_⟩
      cases r1 with
      | nx Γ' T' => exact h
      | ct Γ' T' => exact h
      | bk Γ' T' => exact (Option.some.inj h).symm
      | rt d T' => exact (Option.some.inj h).symm
      | ex C fs Γ' T' => exact (Option.some.inj h).symm
  · cases h
/-- what a turn's end owes -/
theorem turn_post {go : En → List Ob → Option Sr} {r r1 : Sr} {F ρ ρ1 : List Addr} {H H1 : Hp} {E : Ends} {N : L2.St → Hp → Prop} (t : TurnR go r r1) (p : PostS X A F ρ H r E) (s : Stp F ρ H ρ1 H1)
    (hN : ∀ Γ' T' σ' ρ' H', go Γ' T' = some r → Stp F ρ H ρ' H' → Gd (Bx X A) F ρ' T' σ' H' Γ' → N σ' H') : PostS X A F ρ1 H1 r1 { E with nx := N, ct := N, bk := E.nx } := by
  cases r1 with
  | nx Γ' T' => exact fun σ' ρ' H' s' g' => hN Γ' T' σ' ρ' H' t (s.trans s') g'
  | ct Γ' T' => exact fun σ' ρ' H' s' g' => hN Γ' T' σ' ρ' H' t (s.trans s') g'
  | bk Γ' T' =>
    have e : r = .nx Γ' T' := t
    subst e
    exact fun σ' ρ' H' s' g' => p σ' ρ' H' (s.trans s') g'
  | rt d T' =>
    have e : r = .rt d T' := t
    subst e
    exact fun v ρ' H' s' w' x' => p v ρ' H' (s.trans s') w' x'
  | ex C fs Γ' T' =>
    have e : r = .ex C fs Γ' T' := t
    subst e
    obtain ⟨W, tk, h⟩ := p
    exact ⟨W, tk, fun σ' ρ' H' dx s' => h σ' ρ' H' dx (s.trans s')⟩
theorem ss_for (k : SOk X A Pg Φ lv c) {R : Evs} (hR : EvsOk A Pg Φ lv R) {tg it : Expr} {body : List Stmt} {pos : Pos} {t : Tgt} {B : En → So} (ht : tgt c tg = some t) (hB : ∀ Γ, SB X A Γ body (B Γ)) :
    SS X A Γ (.For tg it body [] pos) (So.of Γ (itM Pg R c Γ tg it) fun s => forGo (fun Γ' d => match t.put Γ' d with
      | some Γ2 => B Γ2
      | none => So.no) s.keeps Γ s.ds) := by
  intro F ρ T σ H r E g e0 p
  have k' := k.toXOk
  have hfold : ∀ x, foldedSetIterable it X.env x = pure x := by
    obtain ⟨r0, e1, _⟩ := so_post (R := fun _ _ (_ : Unit) (_ : Src) => False) (Q := fun _ _ => True) g e0 p fun _ _ _ _ _ _ _ z => z.elim
    exact it_fold e1
  refine ws_of (ps_for k.own k'.calm pi_wi (tgt_ok k' tg t ht).2 pss_wb hfold) ?_
  obtain ⟨r0, e1, p1⟩ := so_post (R := rI X A) (Q := fun J H1 => ∃ W : Nat → Nat → L2.St → Hp → Prop, (∃ m, W 0 m σ H1) ∧ ∀ i m σ H, W i m σ H →
    (J.stop i H ∧ E.nx σ H) ∨ (J.go i H ∧ ∃ N : L2.St → Hp → Prop, (∀ σ' H', N σ' H' → ∃ m', m' < m ∧ W (i + 1) m' σ' H') ∧ ∀ x H', J.yld i H x H' → (t.g X.K) x σ H' fun σ2 H2 => WB X body { E with nx := N, ct := N, bk := E.nx } σ2 H2)) g e0 p fun s T1 J ρ1 H1 s1 g1 src e1 p1 => by
    generalize hf : (fun Γ' d => match t.put Γ' d with
      | some Γ2 => B Γ2
      | none => So.no : En → D → So) = f at e1
    refine ⟨fun i m σ' H' => m = s.ds.length - i ∧ i ≤ s.ds.length ∧ ∃ Γ' T' ρ', forGo f s.keeps Γ' (s.ds.drop i) T' = some r ∧ Stp F ρ1 H1 ρ' H' ∧ Gd (Bx X A) F ρ' T' σ' H' Γ', ⟨s.ds.length, by simp, Nat.zero_le _, Γ, T1, ρ1, e1, .refl, g1⟩, ?_⟩
    rintro i m σ' H' ⟨rfl, hi, Γ', T', ρ', e2, st, g2⟩
    by_cases hlt : i < s.ds.length
    · have hd : s.ds[i]? = some s.ds[i] := List.getElem?_eq_getElem hlt
      rw [List.drop_eq_getElem_cons hlt] at e2
      generalize s.ds[i] = d at *
      obtain ⟨hk, r1, e3, tr⟩ := forGo_cons e2
      obtain ⟨src1, src2⟩ := src F ρ' T' H' g2.wd st.pre st.same hk
      obtain ⟨go, yl⟩ := src1 i d hd
      rw [← hf] at e3
      replace e3 : (match t.put Γ' d with
      | some Γ2 => B Γ2
      | none => So.no : So) T' = some r1 := e3
      cases eput : t.put Γ' d with
      | none => rw [eput] at e3; cases e3
      | some Γ2 =>
        rw [eput] at e3
        refine .inr ⟨go, fun σ'' H'' => ∃ Γ' T' ρ', forGo f s.keeps Γ' (s.ds.drop (i + 1)) T' = some r ∧ Stp F ρ1 H1 ρ' H'' ∧ Gd (Bx X A) F ρ' T' σ'' H'' Γ', fun σ'' H'' z => ⟨s.ds.length - (i + 1), by omega, rfl, hlt, z⟩, fun x H'' yy => ?_⟩
        obtain ⟨smm, dd⟩ := yl x H'' yy
        obtain ⟨w3, s3⟩ := g2.wd.same smm
        refine Tgt.ok t (g2.stp s3 w3) dd eput fun σ4 g4 al => ?_
        refine hB Γ2 F ρ' T' σ4 H'' r1 _ g4 e3 ?_
        exact turn_post tr p1 (st.trans s3) fun Γ5 T5 σ5 ρ5 H5 e5 s5 g5 => ⟨Γ5, T5, ρ5, e5, s5, g5⟩
    · have ei : i = s.ds.length := by omega
      subst ei
      rw [List.drop_length] at e2
      obtain ⟨hk, er⟩ := forGo_nil e2
      subst er
      obtain ⟨src1, src2⟩ := src F ρ' T' H' g2.wd st.pre st.same hk
      exact .inl ⟨src2 _ (Nat.le_refl _), p1 σ' ρ' H' st g2⟩
  exact si_all k' (hR X c Γ k').1 F ρ T σ H r0 _ g e1 p1
theorem whileGo_some {t : En → Mo Bool} {f : En → So} {n : Nat} {T : List Ob} {r : Sr} (h : whileGo t f (n + 1) Γ T = some r) : So.of Γ (t Γ) (fun b => if b = true then (fun T => match f Γ T with
    | some (.nx Γ' T') => whileGo t f n Γ' T'
    | some (.ct Γ' T') => whileGo t f n Γ' T'
    | some (.bk Γ' T') => some (.nx Γ' T')
    | o => o) else So.nx Γ) T = some r := h
theorem ss_while (k : SOk X A Pg Φ lv c) {t : Expr} {body : List Stmt} {pos : Pos} {tm : En → Mo Bool} {B : En → So} (ht : ∀ Γ, ST X A Γ t (tm Γ)) (hB : ∀ Γ, SB X A Γ body (B Γ)) (n : Nat) : SS X A Γ (.While t body [] pos) (whileGo tm B n Γ) := by
  intro F ρ T σ H r E g e0 p
  refine ws_of (ps_while k.own pt_wt pss_wb) ?_
  refine ⟨fun m σ' H' => ∃ Γ' T' ρ', whileGo tm B m Γ' T' = some r ∧ Stp F ρ H ρ' H' ∧ Gd (Bx X A) F ρ' T' σ' H' Γ', ⟨n, Γ, T, ρ, e0, .refl, g⟩, ?_⟩
  rintro m σ' H' ⟨Γ', T', ρ', e1, st, g1⟩
  cases m with
  | zero => cases e1
  | succ m =>
    have e2 := whileGo_some e1
    obtain ⟨r0, e3, p3⟩ := so_post (R := rB) (Q := fun b H1 => if b = true then ∃ N : L2.St → Hp → Prop, (∀ σ' H', N σ' H' → ∃ m', m' < m + 1 ∧ ∃ Γ' T' ρ', whileGo tm B m' Γ' T' = some r ∧ Stp F ρ H ρ' H' ∧ Gd (Bx X A) F ρ' T' σ' H' Γ') ∧ WB X body { E with nx := N, ct := N, bk := E.nx } σ' H1 else E.nx σ' H1) g1 e2 (p.stp st) fun b T1 b' ρ1 H1 s1 g2 eb e4 p4 => by
      subst eb
      cases b' with
      | false =>
        rw [if_neg (by decide)] at e4
        rw [if_neg (by decide)]
        cases e4
        exact p4 σ' ρ1 H1 .refl g2
      | true =>
        rw [if_pos rfl] at e4
        rw [if_pos rfl]
        refine ⟨fun σ'' H'' => ∃ Γ' T' ρ', whileGo tm B m Γ' T' = some r ∧ Stp F ρ H ρ' H'' ∧ Gd (Bx X A) F ρ' T' σ'' H'' Γ', fun σ'' H'' z => ⟨m, Nat.lt_succ_self _, z⟩, ?_⟩
        obtain ⟨r1, e5, tr⟩ : ∃ r1, B Γ' T1 = some r1 ∧ TurnR (fun Γ' T' => whileGo tm B m Γ' T') r r1 := by
          cases hf : B Γ' T1 with
          | none => simp only [hf] at e4; cases e4
          | some r1 =>
            simp only [hf] at e4
            refine ⟨r1, rfl, ?_⟩
            cases r1 with
            | nx Γ' T' => exact e4
            | ct Γ' T' => exact e4
            | bk Γ' T' => exact (Option.some.inj e4).symm
            | rt d T' => exact (Option.some.inj e4).symm
            | ex C fs Γ' T' => exact (Option.some.inj e4).symm
        refine hB Γ' F ρ1 T1 σ' H1 r1 _ g2 e5 ?_
        exact turn_post tr p (st.trans s1) fun Γ5 T5 σ5 ρ5 H5 e6 s5 g5 => ⟨Γ5, T5, ρ5, e6, s5, g5⟩
    exact ht Γ' F ρ' T' σ' H' r0 _ g1 e3 p3
/-! ### blocks -/
theorem sb_block {f : En → Stmt → So} (hf : ∀ Γ st, SS X A Γ st (f Γ st)) : ∀ (sts : List Stmt) (Γ : En), SB X A Γ sts (blockM f Γ sts)
  | [], Γ => fun F ρ T σ H r E g e p => by
    cases e
    exact wb_of pss_nil (p σ ρ H .refl g)
  | st :: sts, Γ => fun F ρ T σ H r E g e p => by
    unfold blockM at e
    refine wb_of (pss_cons ps_ws pss_wb) ?_
    cases h1 : f Γ st T with
    | none => rw [h1] at e; cases e
    | some r1 =>
      rw [h1] at e
      refine hf Γ st F ρ T σ H r1 _ g h1 ?_
      cases r1 with
      | nx Γ' T' => exact fun σ' ρ' H' s' g' => sb_block hf sts Γ' F ρ' T' σ' H' r E g' e (p.stp s')
      | ct Γ' T' => cases e; exact p
      | bk Γ' T' => cases e; exact p
      | rt d T' => cases e; exact p
      | ex C fs Γ' T' => cases e; exact p
theorem ss_step (k : SOk X A Pg Φ lv c) {R : Evs} (hR : EvsOk A Pg Φ lv R) {lk : Bool} {B : En → List Stmt → So} (hB : ∀ Γ sts, SB X A Γ sts (B Γ sts)) (Γ : En) (st : Stmt) : SS X A Γ st (stepS Pg R lk B c Γ st) := by
  have k' := k.toXOk
  obtain ⟨he, ht⟩ := hR X c Γ k'
  unfold stepS
  split
  · intro F ρ T σ H r E g e p
    cases e
    exact ws_of ps_doc (p σ ρ H .refl g)
  · rename_i ex ep _
    split
    · exact .no
    · rename_i hc
      have hc' : isComp ex = false := by simpa using hc
      intro F ρ T σ H r E g e0 p
      obtain ⟨r0, e1, p1⟩ := so_post (R := rD X A) (Q := fun _ H1 => E.nx σ H1) g e0 p fun d T1 v ρ1 H1 s1 g1 r1 e2 p2 => by
        cases e2
        exact p2 σ ρ1 H1 .refl g1
      refine ws_of (ps_expr pe_we ?_) (he _ F ρ T σ H r0 _ g e1 p1)
      cases ex <;> first | rfl | (cases hc')
  · intro F ρ T σ H r E g e0 p
    obtain ⟨r0, e1, p1⟩ := so_post (R := rD X A) (Q := E.rt) g e0 p fun d T1 v ρ1 H1 s1 g1 r1 e2 p2 => by
      cases e2
      exact p2 v ρ1 H1 .refl g1.wd r1
    exact ws_of (ps_ret pe_we) (se_evT k' hR F ρ T σ H r0 _ g e1 p1)
  · intro F ρ T σ H r E g e0 p
    cases e0
    exact ws_of ps_retN (p .non ρ H .refl g.wd .non)
  · intro F ρ T σ H r E g e p
    cases e
    exact ws_of ps_pass (p σ ρ H .refl g)
  · intro F ρ T σ H r E g e p
    cases e
    exact ws_of ps_break (p σ ρ H .refl g)
  · intro F ρ T σ H r E g e p
    cases e
    exact ws_of ps_continue (p σ ρ H .refl g)
  · rename_i t a b pos
    intro F ρ T σ H r E g e0 p
    obtain ⟨r0, e1, p1⟩ := so_post (R := rB) (Q := fun b' H1 => if b' = true then WB X a E σ H1 else WB X b E σ H1) g e0 p fun kb T1 kb' ρ1 H1 s1 g1 r1 e2 p2 => by
      subst r1
      cases kb' with
      | true =>
        rw [if_pos rfl] at e2
        exact hB Γ a F ρ1 T1 σ H1 r E g1 e2 p2
      | false =>
        rw [if_neg (by decide)] at e2
        exact hB Γ b F ρ1 T1 σ H1 r E g1 e2 p2
    exact ws_of (ps_if pt_wt pss_wb pss_wb) (ht _ F ρ T σ H r0 _ g e1 p1)
  · exact ss_asg k hR
  · split
    · rename_i t htg
      exact ss_for k hR htg fun Γ => hB Γ _
    · exact .no
  · exact ss_while k (fun Γ => (hR X c Γ k').2 _) (fun Γ => hB Γ _) _
  · exact .no
theorem sb_all (k : SOk X A Pg Φ lv c) {R : Evs} (hR : EvsOk A Pg Φ lv R) {lk : Bool} : ∀ (n : Nat) (Γ : En) (sts : List Stmt), SB X A Γ sts (exs Pg R lk c n Γ sts)
  | 0, _, _ => .no
  | n + 1, Γ, sts => sb_block (fun Γ st => ss_step k hR (sb_all k hR n) Γ st) sts Γ
end
end RR
set_option maxHeartbeats 1000000
/-! R25: defs by their runs, by the depth of calls; the end of a law. -/
namespace RR
open PySem PySem.Spec PyProof.Rows L2

/-! ### what is handed out -/
section
variable {B : Bas} {F ρ ρ' : List Addr} {T T' : List Ob} {H H' : Hp}
theorem frzA_ok (w : Wd B F ρ T H) (s : Stp F ρ H ρ' H') (w' : Wd B F ρ' T' H') {v : V} {m : Nat} {d' : D} (h : DD B ρ' (cutR F ρ' H') v (.adr m)) (e : frzA T' T.length m = some d') : DD B ρ (cutR F ρ H') v d' := by
  have ht := take_pre w s
  have hb := back_same s
  unfold frzA at e
  split at e
  · rename_i hm
    cases e
    exact ht ▸ h.back hb (n := T.length) (by simpa [RR.bel] using hm)
  · rename_i hm
    cases h with
    | adr ha =>
      rename_i a
      have na : a ∉ F ++ ρ := fun z => by
        have nd := w'.nd
        rcases List.mem_append.mp z with q | q
        · exact (List.nodup_append.mp nd).2.2 a q a (List.mem_of_getElem? ha) rfl
        · obtain ⟨i, hi⟩ := List.mem_iff_getElem?.mp q
          have hi' := pre_get s.pre hi
          have n2 := (List.nodup_append.mp nd).2.1
          have l1 := (List.getElem?_eq_some_iff.mp hi')
          have l2 := (List.getElem?_eq_some_iff.mp ha)
          have : i = m := (List.getElem_inj n2).mp (l1.2.trans l2.2.symm)
          have l3 := (List.getElem?_eq_some_iff.mp hi).1
          rw [w.len] at l3
          omega
      split at e
      · rename_i ds hT
        split at e
        · rename_i hbl
          cases e
          obtain ⟨xs, h1, h2⟩ := w'.at ha hT
          exact .lst (.of (by unfold cutR; rw [cut_at na]; exact h1)) (ht ▸ h2.back hb hbl)
        · cases e
      · rename_i kvs hT
        split at e
        · rename_i hbl
          cases e
          obtain ⟨xs, h1, h2⟩ := w'.at ha hT
          exact .dct (.of (by unfold cutR; rw [cut_at na]; exact h1)) (ht ▸ h2.back hb hbl)
        · cases e
      · cases e
mutual
theorem frz_ok (w : Wd B F ρ T H) (s : Stp F ρ H ρ' H') (w' : Wd B F ρ' T' H') : ∀ {v : V} {d d' : D}, DD B ρ' (cutR F ρ' H') v d → frz T' T.length d = some d' → DD B ρ (cutR F ρ H') v d'
  | _, _, _, .non, e => by cases (by simpa [frz] using e : _ = _); exact .non
  | _, _, _, .bl b, e => by cases (by simpa [frz] using e : _ = _); exact .bl b
  | _, _, _, .int b, e => by cases (by simpa [frz] using e : _ = _); exact .int b
  | _, _, _, .str b, e => by cases (by simpa [frz] using e : _ = _); exact .str b
  | _, _, _, .ty b, e => by cases (by simpa [frz] using e : _ = _); exact .ty b
  | _, _, _, .cls b, e => by cases (by simpa [frz] using e : _ = _); exact .cls b
  | _, _, _, .fn b, e => by cases (by simpa [frz] using e : _ = _); exact .fn b
  | _, _, _, .lst h r, e => by
    simp only [frz] at e
    obtain ⟨ds', e1, rfl⟩ := Option.map_eq_some_iff.mp e
    exact .lst (same_rd (back_same s) h) (frzs_ok w s w' r e1)
  | _, _, _, .tup h r, e => by
    simp only [frz] at e
    obtain ⟨ds', e1, rfl⟩ := Option.map_eq_some_iff.mp e
    exact .tup (same_sqT (back_same s) h) (frzs_ok w s w' r e1)
  | _, _, _, .dct h r, e => by
    simp only [frz] at e
    split at e
    · rename_i hb
      cases e
      exact .dct (same_rd (back_same s) h) (take_pre w s ▸ r.back (back_same s) hb)
    · cases e
  | _, _, _, .obj h r, e => by
    simp only [frz] at e
    obtain ⟨ds', e1, rfl⟩ := Option.map_eq_some_iff.mp e
    exact .obj (back_same s _ _ h) (frzf_ok w s w' r e1)
  | _, _, _, .adr h, e => frzA_ok w s w' (.adr h) (by simpa [frz] using e)
theorem frzs_ok (w : Wd B F ρ T H) (s : Stp F ρ H ρ' H') (w' : Wd B F ρ' T' H') : ∀ {v : List V} {d d' : List D}, DDs B ρ' (cutR F ρ' H') v d → frzs T' T.length d = some d' → DDs B ρ (cutR F ρ H') v d'
  | _, _, _, .nil, e => by cases (by simpa [frzs] using e : _ = _); exact .nil
  | _, _, _, .cons h r, e => by
    simp only [frzs] at e
    split at e
    · rename_i d1 h1
      obtain ⟨ds', e1, rfl⟩ := Option.map_eq_some_iff.mp e
      exact .cons (frz_ok w s w' h h1) (frzs_ok w s w' r e1)
    · cases e
theorem frzf_ok (w : Wd B F ρ T H) (s : Stp F ρ H ρ' H') (w' : Wd B F ρ' T' H') : ∀ {v : List (Str × V)} {d d' : List (Str × D)}, DDf B ρ' (cutR F ρ' H') v d → frzf T' T.length d = some d' → DDf B ρ (cutR F ρ H') v d'
  | _, _, _, .nil, e => by cases (by simpa [frzf] using e : _ = _); exact .nil
  | _, _, _, .cons h r, e => by
    simp only [frzf] at e
    split at e
    · rename_i d1 h1
      obtain ⟨ds', e1, rfl⟩ := Option.map_eq_some_iff.mp e
      exact .cons (frz_ok w s w' h h1) (frzf_ok w s w' r e1)
    · cases e
end
end

/-! ### a def's start -/
theorem gd0 {B : Bas} {F ρ : List Addr} {T : List Ob} {H : Hp} {N : List Str} {vs : List V} {ds : List D} (w : Wd B F ρ T H) (r : DDs B ρ (cutR F ρ H) vs ds) : Gd B F ρ T (L2.start N vs) H (start0 N ds) := by
  have hl := r.len
  refine ⟨?_, w, fun i d e => ?_⟩
  · unfold L2.start start0
    rw [List.length_append, List.length_append, List.length_map, List.length_map, List.length_replicate, List.length_replicate, hl]
  · unfold start0 at e
    by_cases hi : i < ds.length
    · rw [List.getElem?_append_left (by rw [List.length_map]; exact hi), List.getElem?_map] at e
      cases q : ds[i]? with
      | none => rw [q] at e; cases e
      | some d' =>
        rw [q] at e
        cases e
        obtain ⟨v, h1, h2⟩ := r.get q
        refine ⟨v, ?_, h2⟩
        unfold L2.start
        rw [List.getElem?_append_left (by rw [List.length_map, hl]; exact hi), List.getElem?_map, h1] <;> rfl
    · rw [List.getElem?_append_right (by rw [List.length_map]; omega), List.getElem?_replicate] at e
      split at e <;> cases e
/-! ### defs, where no repr is under way -/
structure FnG (P : Program) (w : World) (K : PySem.W.Frag) (mg : Str → Option Value) (base : Heap) (CX : CXT) (k : Nat) (f : Addr) (fd : FuncData) (ps : List Str) (sp : Sp) : Prop where
  len : ∀ vs H Q E, sp vs H Q E → vs.length = ps.length
  run : ∀ (A : Around) (outer : List Env) (s : Shared) (H : Hp) (args : Args) (us : List Value) (vs : List V) (Q : VK) (E : XK), A.guards = some [] → Room k A → Env0 P w K mg base A outer s H →
    BindsTo s fd args (ps.zip us) → Vals vs us → sp vs H Q E → codeAny (model P w) A (.call (.ref f) args) (CR CX outer P w H s Q E) s
section
variable {P : Program} {w : World} {K : PySem.W.Frag} {mg : Str → Option Value} {base : Heap} {x qual : Str} {params : Arguments} {body : List Stmt} {scope : Scope} {dvs : List V} {kws : List (Str × V)} {f : Addr} {fd : FuncData}
/-- a def by its body -/
theorem fnG {CX : CXT} {N ps : List Str} {k : Nat} {sp : Sp} (F : FunD K x qual params body scope dvs kws f fd) (S : FnScope N ps scope) (len : ∀ vs H Q E, sp vs H Q E → vs.length = ps.length)
    (hb : ∀ (cdv : Value) (A : Around) (outer : List Env) (s : Shared) (H : Hp) (vs : List V) (Q : VK) (E : XK), A.guards = some [] → Room k (A.deeper (envOfC qual scope s.heap.objs.size f cdv)) → sp vs H Q E →
      WB (cxOf CX P w K mg base N qual scope f cdv A outer s H E) body { nx := fun _ H' => Q .non H', rt := Q } (start N vs) H) : FnG P w K mg base CX (k + 1) f fd ps sp := by
  obtain ⟨oc, od, dV, kV, doc, pm, an, cdv, ct, osl, rfl, lk, hcd, _, _⟩ := F.ex
  refine ⟨len, fun A outer s H args us vs Q E hG hr e0 hbd r hsp => ?_⟩
  have hl := len _ _ _ _ hsp
  have KX : K.In s.heap := e0.mod.kin.keeps fun b o e => (e0.bs b o e).1
  have lim : s.heap.NoLimit := e0.mod.nolimit.keeps fun b o e => (e0.bs b o e).1
  have hkd : ∀ y ∈ ps.zip us, scope.names.lookup y.1 = some .local ∨ (scope.names.lookup y.1 = some .cell ∧ ((cellsFrom (s.heap.objs.size + 1) scope.names []).lookup y.1).isSome = true) := fun ⟨n, v⟩ hy => by
    rcases S.par n (List.of_mem_zip hy).1 with q | q
    · exact .inl q
    · exact .inr ⟨q, PySem.W.cellsFrom_some _ _ _ (.inl q)⟩
  refine codeAny_call_function hr.depth (KX _ _ lk) rfl S.co S.gen rfl (PySem.W.codeRec_of KX hcd) (hbd _ _ _ _ ?_)
  refine wpAny_newFunctionEnv_cells S.kind hkd fun env he s1 z => ?_
  subst he
  refine ⟨lim.keeps z.toInCall.keep, codeAny_func ?_⟩
  have I : Inv (cxOf CX P w K mg base N qual scope f cdv A outer s H E) [] (start N vs) H s1 := inv_start S hr.hd e0 hl r z
  refine wpAny_mono (hb cdv A outer s H vs Q E hG (hr.deeper _) hsp [] s1 I) (fun fl s' hs => ?_) fun e s' hs => hs
  have fin : ∀ {σ' : L2.St} {H' : Hp} {v : V} {u : Value}, Inv (cxOf CX P w K mg base N qual scope f cdv A outer s H E) [] σ' H' s' → RelV v u → Q v H' → CE outer P w H s Q u s' :=
    fun {σ' H' v u} J rv q => ⟨v, H', J.os, J.bare, J.base, J.hok, rv, q⟩
  cases fl with
  | next => obtain ⟨σ', H', J, q⟩ := hs; exact fin (v := V.non) (u := Value.none) J rfl q
  | ret u => obtain ⟨v, σ', H', J, rv, q⟩ := hs; exact fin J rv q
  | brk => obtain ⟨_, _, _, q⟩ := hs; exact False.elim q
  | cont => obtain ⟨_, _, _, q⟩ := hs; exact False.elim q
/-- a def's run, where the places are as many as they should be -/
def callF (Pg : Prg) (Φ : Str → List D → Mo D) (n m : Nat) (fn : Fn) (ds : List D) : Mo D := if ds.length = fn.ps.length then runFn Pg Φ n m fn ds else Mo.no
/-- a def does as its run says -/
theorem run_ok {A : Nm} {Pg : Prg} {Φ : Str → List D → Mo D} {lv n m : Nat} {fn : Fn} (kn : Kn P w K mg base A Pg Φ lv) (F : FunD K x qual params fn.body fn.sc dvs kws f fd) (S : FnScope fn.N fn.ps fn.sc) :
    FnG P w K mg base (L2.CX P w) (lv + 4) f fd fn.ps (spF ⟨K, A.ca, A.fa⟩ A.ca (callF Pg Φ n m fn)) := by
  refine fnG F S (fun vs H Q E h => ?_) ?_
  · obtain ⟨F, ρ, T, ds, r, _, hd, e, _⟩ := h
    unfold callF at e
    by_cases hl : ds.length = fn.ps.length
    · rw [hd.len, hl]
    · rw [if_neg hl] at e
      cases e
  intro cdv Ar outer s H vs Q E hG hr h
  obtain ⟨Fr, ρ, T, ds, r, wd, hd, e, p⟩ := h
  unfold callF at e
  by_cases hl : ds.length = fn.ps.length
  · rw [if_pos hl] at e
    have sok : SOk (cxOf (L2.CX P w) P w K mg base fn.N qual fn.sc f cdv Ar outer s H E) A Pg Φ lv ⟨fn.N, fn.sc, fn.sc, fn.trk⟩ := {
      kn := kn, N := rfl, nd := S.nd, sc := rfl, gd := hG, rm := hr, calm := rfl
      st := fun y hy => by
        refine ⟨?_, .inl rfl⟩
        have hy' : locB fn.sc y = true := hy
        unfold locB at hy'
        split at hy'
        · rename_i q; exact .inl q
        · rename_i q; exact .inr q
        · cases hy'
      own := passes_of (X := cxOf (L2.CX P w) P w K mg base fn.N qual fn.sc f cdv Ar outer s H E) (K := fun e s'' => L2.CX P w outer H s E e s'') rfl
      fk := S.kind, raw := rfl }
    unfold runFn at e
    have fin := sb_all sok (evs_ok (Φ := Φ) n) (lk := fn.leak) m (start0 fn.N ds) fn.body Fr ρ T (L2.start fn.N vs) H
    have tk : Takes (cxOf (L2.CX P w) P w K mg base fn.N qual fn.sc f cdv Ar outer s H E) (fun cls d _ H => E cls d H) := takes_of rfl rfl rfl rfl
    split at e
    · rename_i d T' hx
      refine fin _ _ (gd0 wd hd) hx ?_
      intro v ρ' H' s' w' x'
      split at e
      · cases e
        exact p v ρ' H' s' w' x'
      · split at e
        · rename_i hok
          split at e
          · rename_i d' hfz
            cases e
            obtain ⟨w2, s2⟩ := wd.drop s' w' hok
            exact p v ρ H' s2 w2 (frz_ok wd s' w' x' hfz)
          · cases e
        · cases e
    · rename_i Γ' T' hx
      refine fin _ _ (gd0 wd hd) hx ?_
      intro σ' ρ' H' s' g'
      split at e
      · cases e
        exact p .non ρ' H' s' g'.wd .non
      · split at e
        · rename_i hok
          cases e
          obtain ⟨w2, s2⟩ := wd.drop s' g'.wd hok
          exact p .non ρ H' s2 w2 .non
        · cases e
    · rename_i C fs Γ' T' hx
      refine fin _ _ (gd0 wd hd) hx ⟨_, tk, ?_⟩
      intro σ' ρ' H' dx s' g' x'
      split at e
      · cases e
        exact p ρ' H' dx s' g'.wd x'
      · split at e
        · rename_i hok
          split at e
          · rename_i fs' hfz
            cases e
            obtain ⟨w2, s2⟩ := wd.drop s' g'.wd hok
            obtain ⟨a, ws, rfl, h1, h2⟩ := x'
            exact p ρ H' _ s2 w2 ⟨a, ws, rfl, back_same s' _ _ h1, frzf_ok wd s' g'.wd h2 hfz⟩
          · cases e
        · cases e
    · cases e
  · rw [if_neg hl] at e
    cases e
end

/-! ### by the depth of calls -/
def phi (Pg : Prg) (defs : Str → Option Fn) (n m : Nat) : Nat → Str → List D → Mo D
  | 0 => fun _ _ => Mo.no
  | j + 1 => fun f => match defs f with
    | some fn => callF Pg (phi Pg defs n m j) n m fn
    | none => fun _ => Mo.no
/-- how a def stands -/
structure Def (K : PySem.W.Frag) (A : Nm) (f : Str) (n : Nat) (ks : List Str) (g : List D → List D → List D) (fn : Fn) : Prop where
  ex : ∃ (x qual : Str) (params : Arguments) (dvs : List V) (kws : List (Str × V)) (fd : FuncData) (gU : List Value → List Value → List Value) (gV : List V → List V → List V),
    FunD K x qual params fn.body fn.sc dvs kws (A.fa f) fd ∧ FnScope fn.N fn.ps fn.sc ∧ KBn K fd fn.ps n ks gU gV ∧
    ∀ (ρ : List Addr) (S : Hp) (vs ws : List V) (ds es : List D), DDs ⟨K, A.ca, A.fa⟩ ρ S vs ds → DDs ⟨K, A.ca, A.fa⟩ ρ S ws es → ds.length = n → es.length = ks.length → DDs ⟨K, A.ca, A.fa⟩ ρ S (gV vs ws) (g ds es)
/-- what the head's run left -/
structure Stat (K : PySem.W.Frag) (mg : Str → Option Value) (A : Nm) (Pg : Prg) (defs : Str → Option Fn) : Prop where
  glob : ∀ x d, Pg.glob x = some d → ∃ v u, mg x = some u ∧ RelV v u ∧ ∀ ρ S, DD ⟨K, A.ca, A.fa⟩ ρ S v d
  free : ∀ x, Pg.free x = true → mg x = none
  defs_ : ∀ f n ks g, Pg.bnd f n ks = some g → ∃ fn, defs f = some fn ∧ Def K A f n ks g fn
  meth : ∀ C m f, Pg.meth C m = some f → Cls K (A.ca C) ∧ Meth K (A.ca C) m (A.fa f)
  prop : ∀ C m f, Pg.prop C m = some f → Cls K (A.ca C) ∧ ∃ p, PropOf K (A.ca C) m p (A.fa f)
  noat : ∀ C m, Pg.noat C m = true → Cls K (A.ca C) ∧ NoAttr K (A.ca C) m
  init : ∀ C f, Pg.init C = some f → Mk K (A.ca C) (A.fa f)
  sub : ∀ C C' b, Pg.sub C C' = some b → OwnT K (A.ca C) ∧ PySem.W.kitOne K (.ref (A.ca C)) (.ref (A.ca C')) = some b
  isw : ∀ C, Pg.isw C = true → ∀ t ∈ tyList, PySem.W.kitOne K (.type t) (.ref (A.ca C)) = some false
  eqw : ∀ C, Pg.eqw C = true → ∀ t ∈ tyList, PySem.W.subIn K (.ref (A.ca C)) (.type t) = some false
section
variable {P : Program} {w : World} {K : PySem.W.Frag} {mg : Str → Option Value} {base : Heap} {A : Nm} {Pg : Prg} {defs : Str → Option Fn} {n m : Nat}
theorem cal_of {f : Str} {k lv : Nat} {ks : List Str} {g : List D → List D → List D} {fn : Fn} {sem : List D → Mo D} (h : Def K A f k ks g fn)
    (run : ∀ {x qual : Str} {params : Arguments} {dvs : List V} {kws : List (Str × V)} {fd : FuncData}, FunD K x qual params fn.body fn.sc dvs kws (A.fa f) fd → FnScope fn.N fn.ps fn.sc → FnG P w K mg base (L2.CX P w) lv (A.fa f) fd fn.ps (spF ⟨K, A.ca, A.fa⟩ A.ca sem)) :
    Cal P w K mg base A lv sem (A.fa f) k ks g := by
  obtain ⟨x, qual, params, dvs, kws, fd, gU, gV, F, S, kb, rel⟩ := h.ex
  exact ⟨fd, fn.ps, gU, gV, (run F S).run, kb, F.kp, rel⟩
theorem fn_none {sem : List D → Mo D} {lv : Nat} {f : Addr} {fd : FuncData} {ps : List Str} (h : ∀ ds, sem ds = Mo.no) : FnG P w K mg base (L2.CX P w) lv f fd ps (spF ⟨K, A.ca, A.fa⟩ A.ca sem) :=
  ⟨fun vs H Q E ⟨F, ρ, T, ds, r, _, _, e, _⟩ => (by rw [h] at e; cases e), fun _ _ _ _ _ _ _ _ _ _ _ _ _ _ ⟨F, ρ, T, ds, r, _, _, e, _⟩ => (by rw [h] at e; cases e)⟩
theorem kn_all (S : Stat K mg A Pg defs) : ∀ j : Nat, Kn P w K mg base A Pg (phi Pg defs n m j) (4 * j)
  | 0 => ⟨S.glob, S.free, fun f k ks g h => by
      obtain ⟨fn, _, hd⟩ := S.defs_ f k ks g h
      exact cal_of hd fun F Sc => fn_none fun _ => rfl, S.meth, S.prop, S.noat, S.init, S.sub, S.isw, S.eqw⟩
  | j + 1 => ⟨S.glob, S.free, fun f k ks g h => by
      obtain ⟨fn, e, hd⟩ := S.defs_ f k ks g h
      have ep : phi Pg defs n m (j + 1) f = callF Pg (phi Pg defs n m j) n m fn := by
        show (match defs f with | some fn => callF Pg (phi Pg defs n m j) n m fn | none => fun _ => Mo.no) = _
        rw [e]
      rw [ep]
      exact cal_of hd fun F Sc => run_ok (kn_all S j) F Sc, S.meth, S.prop, S.noat, S.init, S.sub, S.isw, S.eqw⟩
end
theorem ints_dds {B : Bas} {ρ : List Addr} {S : Hp} : ∀ ns : List Int, DDs B ρ S (ns.map V.int) (ns.map D.int)
  | [] => .nil
  | n :: ns => .cons (.int n) (ints_dds ns)
/-- no list among the head's objects -/
def NoL (K : PySem.W.Frag) : Prop := ∀ a o, K.lookup a = some o → o.cls ≠ .type "list"
theorem law_callR {P : Program} {w : World} {K : PySem.W.Frag} {mg mb : Str → Option Value} {k : Nat} {fa a : Addr} {fd : FuncData} {x : Str} {sp : Sp} {s₁ : Shared} {vs : List Value} {ns : List Int}
    (KX : K.In s₁.heap) (hK0 : NoL K) (hns : s₁.heap.Ns mainGlobals mg) (hb : s₁.heap.Ns builtinsNs mb) (hbb : ∀ x : Str, x ≠ "__name__" → mb x = bootBuiltins x) (hlim : s₁.heap.NoLimit) (hg : s₁.gens = #[])
    (ha : s₁.heap.get? a = some { cls := .type "list", data := .seq vs.toArray }) (hi : IntsAre vs ns) (hl : ns.length ≤ sizeLine) (hr : Room k callerA)
    (F : ∀ base : Heap, K.In base → base.Ns mainGlobals mg → FnG P w K mg base (L2.CX P w) k fa fd [x] sp) (hbd : ∀ (s : Shared) (u : Value), BindsTo s fd ⟨[u], []⟩ [(x, u)])
    (hsp : ∀ H : Hp, Rd H a (.lst (ns.map V.int)) → sp [.ref a] H (fun v _ => v = .bl true) fun _ _ _ => False) :
    codeAny (model P w) callerA (.call (.ref fa) ⟨[.ref a], []⟩) (fun r s' => r = .ok (.ret (.bool true)) ∧ OldK s₁.heap s'.heap ∧ s'.os = s₁.os ∧ AllBare s'.gens) s₁ := by
  have rv := vals_ints hi
  have lenV := hi.length
  have hk : K.lookup a = none := by
    cases h : K.lookup a with
    | none => rfl
    | some o =>
      have e := KX a o h
      rw [ha] at e
      cases e
      exact absurd rfl (hK0 a _ h)
  generalize hH : (fun b => if b = a then some (HO.frz { cls := .type "list", data := .seq vs.toArray } (.lst (ns.map V.int))) else none : Hp) = H
  have hO : ∀ b, H b = none ∨ ∃ ob xs, H b = some (.frz ob (.lst xs)) := fun b => by
    rw [← hH]
    by_cases hb : b = a
    · exact .inr ⟨_, _, if_pos hb⟩
    · exact .inl (if_neg hb)
  have hS : Rd H a (.lst (ns.map V.int)) := by
    rw [← hH]
    exact .inr ⟨{ cls := .type "list", data := .seq vs.toArray }, if_pos rfl⟩
  have hok : HOk P w H s₁.heap := fun b u z => by
    rw [← hH] at z
    by_cases hb : b = a
    · have z' := (if_pos hb).symm.trans z
      cases z'
      subst hb
      exact ⟨ha, by rw [List.length_map]; exact hl, vs, _, rv, ha⟩
    · cases (if_neg hb).symm.trans z
  have hA : ∀ b, H b ≠ none → b = a := fun b z => by
    by_cases hb : b = a
    · exact hb
    · exact absurd (by rw [← hH]; exact if_neg hb) z
  have base_of : ∀ {b : Addr} {o : Obj}, s₁.heap.get? b = some o → H b = none → (hidT s₁.heap H).get? b = some o := fun e n => hidT_get e n
  have noA : ∀ {b : Addr} {o : Obj} {es : Array DictEntry} {ep : Nat}, s₁.heap.get? b = some o → o.data = .dict es ep → H b = none := fun {b o es ep} e d => by
    cases q : H b with
    | none => rfl
    | some u =>
      have e' : b = a := hA b (by rw [q]; exact fun z => by cases z)
      subst e'
      rw [ha] at e
      cases e
      have d' : Data.seq vs.toArray _ = Data.dict es ep := d
      cases d'
  have nsK : ∀ {b : Addr} {m : Str → Option Value}, s₁.heap.Ns b m → (hidT s₁.heap H).Ns b m := fun {b m} ⟨o, es, ep, e, d, r⟩ => ⟨o, es, ep, base_of e (noA e d), d, r⟩
  have hKb : K.In (hidT s₁.heap H) := fun b o e => base_of (KX b o e) (by
    cases q : H b with
    | none => rfl
    | some u =>
      have nz : H b ≠ none := by rw [q]; exact fun z => by cases z
      have e' : b = a := hA b nz
      subst e'
      rw [hk] at e
      cases e)
  have hM : Mod K mg (hidT s₁.heap H) := ⟨hKb, nsK hns, ⟨mb, nsK hb, hbb⟩, let ⟨mc, h1, h2⟩ := hlim; ⟨mc, nsK h1, h2⟩⟩
  have e0 : Env0 P w K mg (hidT s₁.heap H) callerA [] s₁ H := ⟨rfl, hM, fun b o e => of_hidT e, Nat.le_of_eq (hidT_size _ _), trivial, fun b z => absurd (show b ∈ ([] : List Addr) from z) (by simp), hok, .of_eq hg⟩
  refine codeAny_mono ((F _ hKb (nsK hns)).run callerA [] s₁ H ⟨[.ref a], []⟩ [.ref a] [.ref a] _ _ rfl hr e0 (hbd s₁ (.ref a)) (.cons rfl .nil) (hsp H hS)) fun r s' h => ?_
  cases r with
  | error e =>
    obtain ⟨_, _, _, _, _, _, _, _, _, _, _, _, bad⟩ := h
    exact bad.elim
  | ok fl =>
    cases fl with
    | next | brk | cont => exact False.elim h
    | ret u =>
      obtain ⟨v, H', os, bare, un, hok', r', q⟩ := h
      have q' : v = .bl true := q
      subst q'
      obtain rfl : u = Value.bool true := r'
      refine ⟨rfl, OldK.of_keep fun b o e => ?_, os, bare⟩
      cases q : H b with
      | none => exact un.keep b o e q (by intro z; exact absurd (show b ∈ ([] : List Addr) from z) (by simp)) (by simp)
      | some u =>
        rcases hO b with z | ⟨ob, xs, z⟩
        · rw [q] at z; cases z
        · obtain ⟨e1, _⟩ := hok b _ z
          obtain ⟨e2, _⟩ := hok' b _ (un.frzs b ob _ z)
          rw [e] at e1
          cases e1
          exact e2
/-- a law by its run -/
theorem walk_R {l : PySem.W.OpenLaw} {n m j : Nat} {q : Program} {loose : List Str} {XP : (Str → Option Value) → Heap → Prop} {YP : World → Heap → Prop} {d : DefRec} {x : Str} {Pg : Prg} {defs : Str → Option Fn} {fn : Fn}
    (hn : l.most = some 63) (hdf : d.params.defaults = []) (hr : Room (4 * j + 4) callerA) (hps : fn.ps = [x])
    (F : ∀ (w : World) (mg : Str → Option Value) (fa : Addr) (h : Heap), YP w h → h.Ns mainGlobals mg → mg d.name = some (.ref fa) →
      ∃ (K : PySem.W.Frag) (A : Nm) (qual : Str) (params : Arguments) (dvs : List V) (kws : List (Str × V)) (fd : FuncData), K.In h ∧ NoL K ∧ Stat K mg A Pg defs ∧ (∀ (s : Shared) (u : Value), BindsTo s fd ⟨[u], []⟩ [(x, u)]) ∧ FunD K d.name qual params fn.body fn.sc dvs kws fa fd ∧ FnScope fn.N fn.ps fn.sc)
    (law : ∀ ns : List Int, ns.length ≤ 63 → (∀ k ∈ ns, Builtin.Int.intBits k ≤ 1048576) → ∃ T, runFn Pg (phi Pg defs n m j) n m fn [.lst (ns.map D.int)] [] = some (.ok (.bl true) T)) :
    PySem.W.WalkO q loose XP YP l.row.toRowW d [] (fun f vs => PySem.call f vs) := by
  refine Att.attach_callB hn hdf fun w s₀ s₁ mg mb fa o pm cd doc a vs ns G Y ho hd hcd hmg hobj hints hlen hbits hg => ?_
  obtain ⟨K, A, qual, params, dvs, kws, fd, KX, hK0, S, hb, hF, hS⟩ := F w mg fa _ Y G.T.g hmg
  obtain ⟨T, hrun⟩ := law ns hlen hbits
  refine law_callR (sp := spF ⟨K, A.ca, A.fa⟩ A.ca (callF Pg (phi Pg defs n m j) n m fn)) KX hK0 G.T.g G.T.b G.T.builtins G.T.nolimit hg hobj hints (Nat.le_trans hlen (by decide)) hr (fun base _ _ => hps ▸ run_ok (kn_all S j) hF hS) hb fun H hH => ?_
  refine ⟨[], [], [], [.lst (ns.map D.int)], .ok (.bl true) T, ⟨rfl, List.nodup_nil, fun _ z => absurd z List.not_mem_nil, fun i a o e => by cases e⟩, .cons (.lst ?_ (ints_dds ns)) .nil, ?_, fun v ρ' H' s' w' x' => by cases x'; rfl⟩
  · have e : cutR [] [] H = H := by funext b; rfl
    rw [e]
    exact hH
  · unfold callF
    rw [if_pos (by rw [hps]; rfl)]
    exact hrun
end RR
set_option maxHeartbeats 1000000
/-! R26: what the head's run left, by a table. -/
namespace RR
open PySem PySem.Spec PyProof.Rows L2

/-! ### properties, their getters -/
def propAt (K : PySem.W.Frag) (cl m : Str) : Addr := match PySem.W.findIn K (.ref (He.ga K cl)) m with
  | some (some (.ref p)) => p
  | _ => 0
def getAt (K : PySem.W.Frag) (cl m : Str) : Addr := match PySem.W.recIn K (propAt K cl m) "property" with
  | some (.ref g :: _) => g
  | _ => 0
def getB (K : PySem.W.Frag) (cl m : Str) : Bool := match PySem.W.recIn K (propAt K cl m) "property" with
  | some (.ref g :: _) => decide (g = getAt K cl m)
  | _ => false
def propB (K : PySem.W.Frag) (cl m : Str) : Bool := He.eqO (PySem.W.findIn K (.ref (He.ga K cl)) m) (some (some (.ref (propAt K cl m)))) &&
  (He.eqO (PySem.W.specialIn K (.ref (propAt K cl m)) "__get__") (some (some (.builtin "property.__get__"))) && (decide (PySem.W.takesIn K (.ref (propAt K cl m)) = some true) && getB K cl m))
theorem propB_ok {K : PySem.W.Frag} {cl m : Str} (h : propB K cl m = true) : PropOf K (He.ga K cl) m (propAt K cl m) (getAt K cl m) := by
  obtain ⟨h1, h⟩ := He.ba h
  obtain ⟨h2, h⟩ := He.ba h
  obtain ⟨h3, h4⟩ := He.ba h
  refine ⟨He.eqO_ok h1, He.eqO_ok h2, of_decide_eq_true h3, ?_⟩
  unfold getB at h4
  split at h4
  · rename_i g rest q
    exact ⟨rest, by rw [q, of_decide_eq_true h4]⟩
  · exact absurd h4 Bool.false_ne_true
def fnWa (K : PySem.W.Frag) (a : Addr) : He.FnW := match K.lookup a with
  | some ⟨_, _, .func fd, _⟩ => some (fd.name, fd.qualname, fd.params, fd.body, fd.scope, fd.globals, fd.closure, fd.builtins)
  | _ => none
def okAt (K : PySem.W.Frag) (a : Addr) (d : He.DefD) : Bool := PySem.W.keepIn K (.ref a) && (match K.lookup a with
  | some ⟨_, _, .func fd, _⟩ => PySem.W.codeIn K fd.code d.qual && (He.dflB K fd.defaults (d.dvs K) && He.kwdB K fd.kwdefaults (d.kws K))
  | _ => false)
theorem funD_at {K : PySem.W.Frag} {d : He.DefD} {a : Addr} (e : fnWa K a = d.val) (c : okAt K a d = true) : ∃ fd, FunD K d.name d.qual d.params d.body d.scope (d.dvs K) (d.kws K) a fd := by
  obtain ⟨kp, c2⟩ := He.ba c
  unfold fnWa at e
  cases q : K.lookup a with
  | none => rw [q] at c2; cases c2
  | some o =>
    obtain ⟨oc, od, dt, osl⟩ := o
    rw [q] at c2 e
    cases dt with
    | func fd =>
      obtain ⟨n1, n2, n3, n4, n5, n6, n7, n8, n9, n10, n11, n12, n13, n14, n15⟩ := fd
      have e2 : (some (n1, n2, n3, n4, n5, n6, n7, n15) : He.FnW) = some (d.name, d.qual, d.params, .stmts d.body, d.scope, mainGlobals, [], builtinsNs) := e
      simp only [Option.some.injEq, Prod.mk.injEq] at e2
      obtain ⟨h1, h2, h3, h4, h5, h6, h7, h8⟩ := e2
      subst h1 h2 h3 h4 h5 h6 h7 h8
      obtain ⟨k1, k2⟩ := He.ba (show (PySem.W.codeIn K n13 d.qual && (He.dflB K n8 (d.dvs K) && He.kwdB K n9 (d.kws K))) = true from c2)
      obtain ⟨k3, k4⟩ := He.ba k2
      exact ⟨_, ⟨oc, od, n8, n9, n10, n11, n12, n13, n14, osl, rfl, q, k1, He.dflB_ok k3, He.kwdB_ok k4⟩, kp⟩
    | _ => cases c2
/-! ### the table -/
inductive Ky where
  | glo (x : Str) | met (cl m : Str) | prp (cl m : Str)
def Ky.ad (K : PySem.W.Frag) : Ky → Addr
  | .glo x => He.ga K x
  | .met cl m => He.ma K (He.ga K cl) m
  | .prp cl m => getAt K cl m
structure Tb where
  defs : List (Str × Ky × He.DefD)
  cls : List Str
  glb : List (Str × D)
  fre : List Str
  mth : List ((Nat × Str) × Str)
  prp : List ((Nat × Str) × Str)
  noa : List (Nat × Str)
  ini : List (Nat × Str)
  isi : List Nat
def Tb.cn (t : Tb) (C : Nat) : Str := t.cls.getD C Str.empty
def Tb.fa (t : Tb) (K : PySem.W.Frag) (f : Str) : Addr := match t.defs.lookup f with
  | some (ky, _) => ky.ad K
  | none => 0
def Tb.nm (t : Tb) (K : PySem.W.Frag) : Nm := ⟨fun C => He.ga K (t.cn C), t.fa K⟩
def glbB (t : Tb) (K : PySem.W.Frag) (x : Str) : D → Bool
  | .fn f => He.eqO (PySem.W.nsIn K mainGlobals x) (some (some (.ref (t.fa K f))))
  | .cls C => He.eqO (PySem.W.nsIn K mainGlobals x) (some (some (.ref (He.ga K (t.cn C)))))
  | .int i => (match PySem.W.nsIn K mainGlobals x with
    | some (some (.int j _)) => decide (j = i)
    | _ => false)
  | .str z => (match PySem.W.nsIn K mainGlobals x with
    | some (some (.str y _)) => decide (y = z)
    | _ => false)
  | _ => false
def iscB (K : PySem.W.Frag) (Cl : Addr) : Bool :=
  He.eqO (PySem.W.findIn K (.ref Cl) "__class__") (some (some (.builtin "object.__class__"))) && (He.eqO (PySem.W.specialIn K (.builtin "object.__class__") "__get__") (some (some (.builtin "getset_descriptor.__get__"))) &&
  (decide (PySem.W.takesIn K (.builtin "object.__class__") = some true) && (decide (PySem.W.mroIn K Cl (.type "object") = some true) && (decide (PySem.W.kitOne K (.ref Cl) (.ref Cl) = some true) &&
  tyList.all fun T => decide (PySem.W.kitOne K (.type T) (.ref Cl) = some false) && decide (PySem.W.subIn K (.ref Cl) (.type T) = some false)))))
def Tb.ok (t : Tb) (K : PySem.W.Frag) : Bool :=
  (t.defs.all fun e => okAt K (e.2.1.ad K) e.2.2) &&
  ((t.glb.all fun e => glbB t K e.1 e.2) &&
  ((t.fre.all fun x => He.Fa.ok K (.free x)) &&
  ((t.mth.all fun e => He.Fa.ok K (.cls (t.cn e.1.1)) && (He.Fa.ok K (.meth (t.cn e.1.1) e.1.2) && decide (t.fa K e.2 = He.ma K (He.ga K (t.cn e.1.1)) e.1.2))) &&
  ((t.prp.all fun e => He.Fa.ok K (.cls (t.cn e.1.1)) && (propB K (t.cn e.1.1) e.1.2 && decide (t.fa K e.2 = getAt K (t.cn e.1.1) e.1.2))) &&
  ((t.noa.all fun e => He.Fa.ok K (.cls (t.cn e.1)) && He.Fa.ok K (.noat (t.cn e.1) e.2)) &&
  ((t.ini.all fun e => He.Fa.ok K (.mkr (t.cn e.1)) && decide (t.fa K e.2 = He.ma K (He.ga K (t.cn e.1)) "__init__")) &&
  (t.isi.all fun C => He.Fa.ok K (.cls (t.cn C)) && iscB K (He.ga K (t.cn C)))))))))
def Tb.obs (t : Tb) (K : PySem.W.Frag) : Bool × List He.FnW := (t.ok K, t.defs.map fun e => fnWa K (e.2.1.ad K))
def Tb.val (t : Tb) : Bool × List He.FnW := (true, t.defs.map fun e => e.2.2.val)
/-! ### the hook -/
def noL (K : PySem.W.Frag) : PySem.W.Frag := K.filter fun p => !decide (p.2.cls = .type "list")
theorem look_mem {α β : Type} [BEq α] [LawfulBEq α] : ∀ {l : List (α × β)} {a : α} {b : β}, l.lookup a = some b → (a, b) ∈ l
  | [], _, _, h => by cases h
  | (c, d) :: l, a, b, h => by
    rw [List.lookup_cons] at h
    cases hb : a == c with
    | true =>
      rw [hb] at h
      cases h
      rw [eq_of_beq hb]
      exact List.mem_cons_self
    | false =>
      rw [hb] at h
      exact List.mem_cons_of_mem _ (look_mem h)
theorem noL_no {K : PySem.W.Frag} : NoL (noL K) := fun a o h => by
  have m := List.mem_filter.mp (look_mem h)
  simpa using m.2
theorem noL_in {g : Addr → Option Obj} {as : List Addr} {h : Heap} (e : ∀ a, g a = h.get? a) : (noL (He.frG g as)).In h := fun a o q => by
  have m := (List.mem_filter.mp (look_mem q)).1
  unfold He.frG at m
  obtain ⟨b, _, hb⟩ := List.mem_filterMap.mp m
  obtain ⟨o', ho, hp⟩ := Option.map_eq_some_iff.mp hb
  cases hp
  rw [← e]
  exact ho
def obsG (n : Nat) (t : Tb) (g : Addr → Option Obj) : Bool × List He.FnW := t.obs (noL (He.frG g (He.asD g n)))
def hookT (n : Nat) (t : Tb) : PySem.W.Hook where
  α := Bool × List He.FnW
  obs := fun s => obsG n t s.heap.get?
  val := fun _ => t.val
  says := fun _ h => ∃ K : PySem.W.Frag, K.In h ∧ NoL K ∧ t.obs K = t.val
  of := fun _ _ e => ⟨_, noL_in (fun _ => rfl), noL_no, e⟩
  keeps := fun _ _ _ ⟨K, hK, hn, c⟩ k => ⟨K, PySem.W.Frag.In.keeps hK k, hn, c⟩
theorem obsG_eq {n : Nat} {t : Tb} {g : Addr → Option Obj} {s : Shared} (h : ∀ a, g a = s.heap.get? a) : obsG n t g = (hookT n t).obs s := by
  have e : g = s.heap.get? := funext h
  rw [e] <;> rfl
/-! ### what follows -/
structure Bd where
  f : Str
  n : Nat
  ks : List Str
  g : List D → List D → List D
def Tb.prg (t : Tb) (bs : List Bd) (fz : Nat → Bool) : Prg where
  glob := fun x => t.glb.lookup x
  free := fun x => t.fre.contains x
  bnd := fun f n ks => (bs.find? fun b => decide (b.f = f ∧ b.n = n ∧ b.ks = ks)).map Bd.g
  meth := fun C m => t.mth.lookup (C, m)
  prop := fun C m => t.prp.lookup (C, m)
  noat := fun C m => t.noa.contains (C, m)
  init := fun C => t.ini.lookup C
  fz := fz
  sub := fun C C' => if C = C' ∧ t.isi.contains C = true then some true else none
  isw := fun C => t.isi.contains C
  eqw := fun C => t.isi.contains C
section
variable {t : Tb} {bs : List Bd} {fz : Nat → Bool} {K : PySem.W.Frag} {h : Heap} {mg : Str → Option Value}
theorem tb_def (c : t.obs K = t.val) {f : Str} {ky : Ky} {d : He.DefD} (e : t.defs.lookup f = some (ky, d)) : ∃ fd, FunD K d.name d.qual d.params d.body d.scope (d.dvs K) (d.kws K) (t.fa K f) fd := by
  have c1 : t.ok K = true := congrArg Prod.fst c
  have c2 : (t.defs.map fun e => fnWa K (e.2.1.ad K)) = t.defs.map fun e => e.2.2.val := congrArg Prod.snd c
  have m := look_mem e
  have h1 := List.all_eq_true.mp (He.ba c1).1 _ m
  have h2 : ∀ z ∈ t.defs, fnWa K (z.2.1.ad K) = z.2.2.val := List.map_inj_left.mp c2
  have ea : t.fa K f = ky.ad K := by unfold Tb.fa; rw [e]
  rw [ea]
  exact funD_at (h2 _ m) h1
theorem glb_ok (X : K.In h) (G : h.Ns mainGlobals mg) {x : Str} {d : D} (c : glbB t K x d = true) : ∃ v u, mg x = some u ∧ RelV v u ∧ ∀ ρ S, DD ⟨K, (t.nm K).ca, (t.nm K).fa⟩ ρ S v d := by
  cases d with
  | fn f => exact ⟨.ref (t.fa K f), _, PySem.W.mg_of X G (He.eqO_ok c), rfl, fun _ _ => .fn f⟩
  | cls C => exact ⟨.ref (He.ga K (t.cn C)), _, PySem.W.mg_of X G (He.eqO_ok c), rfl, fun _ _ => .cls C⟩
  | int i =>
    obtain ⟨t', e⟩ := He.int_ok X G (x := x) (i := i) c
    exact ⟨.int i, _, e, ⟨t', rfl⟩, fun _ _ => .int i⟩
  | str z =>
    obtain ⟨t', e⟩ := He.str_ok X G (x := x) (z := z) c
    exact ⟨.str z, _, e, ⟨t', rfl⟩, fun _ _ => .str z⟩
  | _ => cases c
theorem isc_ok {C : Nat} (hc : Cls K (He.ga K (t.cn C))) (h : iscB K (He.ga K (t.cn C)) = true) : OwnT K (He.ga K (t.cn C)) ∧ PySem.W.kitOne K (.ref (He.ga K (t.cn C))) (.ref (He.ga K (t.cn C))) = some true ∧ ∀ T ∈ tyList, PySem.W.kitOne K (.type T) (.ref (He.ga K (t.cn C))) = some false ∧ PySem.W.subIn K (.ref (He.ga K (t.cn C))) (.type T) = some false := by
  unfold iscB at h
  simp only [Bool.and_eq_true, decide_eq_true_eq, List.all_eq_true] at h
  obtain ⟨h1, h2, h3, h4, h5, h6⟩ := h
  exact ⟨⟨hc, He.eqO_ok h1, He.eqO_ok h2, h3, h4⟩, h5, h6⟩
theorem stat_of {defs : Str → Option Fn} (X : K.In h) (G : h.Ns mainGlobals mg) (c : t.obs K = t.val) (hd : ∀ b ∈ bs, ∃ fn, defs b.f = some fn ∧ Def K (t.nm K) b.f b.n b.ks b.g fn) : Stat K mg (t.nm K) (t.prg bs fz) defs := by
  have c1 : t.ok K = true := congrArg Prod.fst c
  obtain ⟨_, c1⟩ := He.ba c1
  obtain ⟨q2, c1⟩ := He.ba c1
  obtain ⟨q3, c1⟩ := He.ba c1
  obtain ⟨q4, c1⟩ := He.ba c1
  obtain ⟨q5, c1⟩ := He.ba c1
  obtain ⟨q6, c1⟩ := He.ba c1
  obtain ⟨q7, q8⟩ := He.ba c1
  have isi : ∀ C, t.isi.contains C = true → Cls K (He.ga K (t.cn C)) ∧ OwnT K (He.ga K (t.cn C)) ∧ PySem.W.kitOne K (.ref (He.ga K (t.cn C))) (.ref (He.ga K (t.cn C))) = some true ∧ ∀ T ∈ tyList, PySem.W.kitOne K (.type T) (.ref (He.ga K (t.cn C))) = some false ∧ PySem.W.subIn K (.ref (He.ga K (t.cn C))) (.type T) = some false := fun C hC => by
    have hm : C ∈ t.isi := by simpa using hC
    obtain ⟨h1, h2⟩ := He.ba (List.all_eq_true.mp q8 C hm)
    have hc := He.cls_ok h1
    exact ⟨hc, isc_ok hc h2⟩
  refine ⟨fun x d e => ?_, fun x e => ?_, fun f n ks g e => ?_, fun C m f e => ?_, fun C m f e => ?_, fun C m e => ?_, fun C f e => ?_, fun C C' b e => ?_, fun C e => ?_, fun C e => ?_⟩
  · exact glb_ok X G (List.all_eq_true.mp q2 (x, d) (look_mem e))
  · have hm : x ∈ t.fre := by
      have : t.fre.contains x = true := e
      simpa using this
    exact He.free_ok X G (List.all_eq_true.mp q3 x hm)
  · obtain ⟨b, hb, rfl⟩ := Option.map_eq_some_iff.mp (show (bs.find? fun b => decide (b.f = f ∧ b.n = n ∧ b.ks = ks)).map Bd.g = some g from e)
    have hp := List.find?_some hb
    obtain ⟨rfl, rfl, rfl⟩ := of_decide_eq_true hp
    exact hd b (List.mem_of_find?_eq_some hb)
  · obtain ⟨h1, h2⟩ := He.ba (List.all_eq_true.mp q4 ((C, m), f) (look_mem (show t.mth.lookup (C, m) = some f from e)))
    obtain ⟨h3, h4⟩ := He.ba h2
    refine ⟨He.cls_ok h1, ?_⟩
    show Meth K (He.ga K (t.cn C)) m (t.fa K f)
    rw [of_decide_eq_true h4]
    exact He.meth_ok h3
  · obtain ⟨h1, h2⟩ := He.ba (List.all_eq_true.mp q5 ((C, m), f) (look_mem (show t.prp.lookup (C, m) = some f from e)))
    obtain ⟨h3, h4⟩ := He.ba h2
    refine ⟨He.cls_ok h1, propAt K (t.cn C) m, ?_⟩
    show PropOf K (He.ga K (t.cn C)) m (propAt K (t.cn C) m) (t.fa K f)
    rw [of_decide_eq_true h4]
    exact propB_ok h3
  · have hm : (C, m) ∈ t.noa := by
      have : t.noa.contains (C, m) = true := e
      simpa using this
    obtain ⟨h1, h2⟩ := He.ba (List.all_eq_true.mp q6 (C, m) hm)
    exact ⟨He.cls_ok h1, He.noat_ok h2⟩
  · obtain ⟨h1, h2⟩ := He.ba (List.all_eq_true.mp q7 (C, f) (look_mem (show t.ini.lookup C = some f from e)))
    show Mk K (He.ga K (t.cn C)) (t.fa K f)
    rw [of_decide_eq_true h2]
    exact He.mkr_ok h1
  · have e' : (if C = C' ∧ t.isi.contains C = true then some true else none) = some b := e
    split at e'
    · rename_i hc
      obtain ⟨rfl, hC⟩ := hc
      cases e'
      obtain ⟨_, h2, h3, _⟩ := isi C hC
      exact ⟨h2, h3⟩
    · cases e'
  · exact fun T hT => ((isi C e).2.2.2 T hT).1
  · exact fun T hT => ((isi C e).2.2.2 T hT).2
def scopeB (N P : List Str) (sc : Scope) : Bool := decide (sc.kind = .function) && (!sc.isCoroutine && (!sc.isGenerator && (decide N.Nodup && (decide (N.take P.length = P) && ((P.all fun x => decide (sc.names.lookup x = some .local) || decide (sc.names.lookup x = some .cell)) && (sc.names.all fun y => !decide (y.2 = .free)))))))
theorem scopeB_ok {N P : List Str} {sc : Scope} (h : scopeB N P sc = true) : FnScope N P sc := by
  unfold scopeB at h
  simp only [Bool.and_eq_true, Bool.or_eq_true, Bool.not_eq_true', decide_eq_true_eq, decide_eq_false_iff_not, List.all_eq_true] at h
  obtain ⟨h1, h2, h3, h4, h5, h6, h7⟩ := h
  exact ⟨h1, h2, h3, h4, h5, h6, h7⟩
/-- a def whose places are given one by one -/
theorem def_plain {A : Nm} {f : Str} {n : Nat} {fn : Fn} {x qual : Str} {params : Arguments} {dvs : List V} {kws : List (Str × V)} {fd : FuncData} (F : FunD K x qual params fn.body fn.sc dvs kws (A.fa f) fd) (S : FnScope fn.N fn.ps fn.sc) (hn : fn.ps.length = n) (hb : L2.Binds K fd fn.ps []) :
    Def K A f n [] (fun ds _ => ds) fn := by
  refine ⟨x, qual, params, dvs, kws, fd, fun us _ => us, fun vs _ => vs, F, S, ⟨fun s us ws hk h1 h2 => ?_, fun r _ => r⟩, fun ρ S vs ws ds es h _ _ _ => h⟩
  have ew : ws = [] := List.length_eq_zero_iff.mp h2
  subst ew
  have := hb s us hk (by rw [List.append_nil, h1, hn])
  rw [List.append_nil] at this
  exact this
end
end RR
set_option maxHeartbeats 1000000
/-! R27: a body with its names found, printed by a program; what it does is then plain. -/
namespace RR
open PySem PySem.Spec PyProof.Rows L2
abbrev Ee := En → Mo D
abbrev Tt := En → Mo Bool
abbrev Ss := En → So
def vr (i : Nat) : Ee := fun Γ => Mo.of (match Γ[i]? with
  | some (some d) => some d
  | _ => none)
def kk (d : D) : Ee := fun _ => Mo.of (some d)
def opS (op : Operator) (a b : Ee) : Ee := fun Γ => (a Γ).bind fun x => (b Γ).bind fun y => Mo.rd fun T => binO op T x y
def negS (a : Ee) : Ee := fun Γ => (a Γ).bind fun x => Mo.of (negO x)
def andS : List Ee → Ee
  | [] => fun _ => Mo.no
  | [a] => a
  | a :: r => fun Γ => (a Γ).bind fun d => match d with
    | .bl b => if b = true then andS r Γ else Mo.ret (.bl b)
    | _ => Mo.no
def orS : List Ee → Ee
  | [] => fun _ => Mo.no
  | [a] => a
  | a :: r => fun Γ => (a Γ).bind fun d => match d with
    | .bl b => if b = false then orS r Γ else Mo.ret (.bl b)
    | _ => Mo.no
def notS (a : Ee) : Ee := fun Γ => (a Γ).bind fun x => match x with
    | .bl b => Mo.ret (.bl !b)
    | _ => Mo.no
def iteS (t : Tt) (a b : Ee) : Ee := fun Γ => (t Γ).bind fun k => if k = true then a Γ else b Γ
def lS : List Ee → En → Mo (List D)
  | [], _ => Mo.ret []
  | a :: r, Γ => (a Γ).bind fun d => (lS r Γ).bind fun ds => Mo.ret (d :: ds)
def tupS (es : List Ee) : Ee := fun Γ => (lS es Γ).bind fun ds => if ds.length ≤ sizeLine then Mo.ret (.tup ds) else Mo.no
def newS (es : List Ee) : En → Mo (List D) := fun Γ => (lS es Γ).bind fun ds => if ds.length ≤ sizeLine then Mo.ret ds else Mo.no
def lstS (es : List Ee) : Ee := fun Γ => (lS es Γ).bind fun ds => if ds.length ≤ sizeLine then Mo.ret (.lst ds) else Mo.no
def ixS (a b : Ee) : Ee := fun Γ => (a Γ).bind fun x => (b Γ).bind fun y => Mo.rd fun T => (vw T x).bind fun x => ixO x y
def bindI (x : D) : Mo (Option Int) := match x with
  | .int i => Mo.ret (some i)
  | _ => Mo.no
def slS (a : Ee) (lo hi : Option Ee) : Ee := fun Γ => (a Γ).bind fun x => (match lo with
  | none => Mo.ret none
  | some e => (e Γ).bind bindI).bind fun l => (match hi with
  | none => Mo.ret none
  | some e => (e Γ).bind bindI).bind fun h => Mo.rd fun T => (vw T x).bind fun x => slO x l h
def atS (Pg : Prg) (Φ : Str → List D → Mo D) (a : Ee) (f : Str) : Ee := fun Γ => (a Γ).bind fun d => attrM Pg Φ d f
def rgS (a : Ee) : Ee := fun Γ => (a Γ).bind fun d => Mo.of (rgL d)
def biS (Pg : Prg) (Φ : Str → List D → Mo D) (b : Bi) (es : List Ee) : Ee := fun Γ => (lS es Γ).bind fun ds => biM Pg Φ b ds
def caS (Φ : Str → List D → Mo D) (f : Str) (g : List D → List D → List D) (es ks : List Ee) : Ee := fun Γ => (lS es Γ).bind fun ds => (lS ks Γ).bind fun zs => Φ f (g ds zs)
def mkS (Pg : Prg) (Φ : Str → List D → Mo D) (C : Nat) (f : Str) (g : List D → List D → List D) (es ks : List Ee) : Ee := fun Γ => (lS es Γ).bind fun ds => (lS ks Γ).bind fun zs => makeM Pg Φ C f (fun self => g (self :: ds) zs)
def cmS (Pg : Prg) (Φ : Str → List D → Mo D) (op : CmpOp) (a b : Ee) : Tt := fun Γ => (a Γ).bind fun x => (b Γ).bind fun y => eqM Pg Φ op x y
def cm2S (op op' : CmpOp) (a b d : Ee) : Tt := fun Γ => (a Γ).bind fun x => (b Γ).bind fun y => (Mo.rd fun T => cmpO op T x y).bind fun k =>
      if k = true then (d Γ).bind fun z => Mo.rd fun T => cmpO op' T y z else Mo.ret false
def bvS (t : Tt) : Ee := fun Γ => (t Γ).bind fun b => Mo.ret (.bl b)
def meS (Pg : Prg) (Φ : Str → List D → Mo D) (o : Ee) (m : Str) (n : Nat) (ks : List Str) (es zs : List Ee) : Ee := fun Γ => (o Γ).bind fun d => fun T => match methO Pg T d m with
    | some f => (match Pg.bnd f n ks with
        | some g => ((lS es Γ).bind fun ds => (lS zs Γ).bind fun es => Φ f (g (d :: ds) es)) T
        | none => none)
    | none => if zs.isEmpty = true then (match kindO T d, mns.lookup m with
      | some kd, some mn => if bmOk kd mn = true then ((lS es Γ).bind fun ds => bmM kd mn d ds) T else none
      | _, _ => none) else none
/-! tests -/
def trS (a : Ee) : Tt := fun Γ => (a Γ).bind fun d => Mo.rd fun T => truO T d
def nT (a : Tt) : Tt := fun Γ => (a Γ).bind fun b => Mo.ret !b
def andT : List Tt → Tt
  | [] => fun _ => Mo.no
  | [a] => a
  | a :: r => fun Γ => (a Γ).bind fun b => if b = true then andT r Γ else Mo.ret b
def orT : List Tt → Tt
  | [] => fun _ => Mo.no
  | [a] => a
  | a :: r => fun Γ => (a Γ).bind fun b => if b = false then orT r Γ else Mo.ret b
/-! what is walked -/
def srS (a : Ee) : En → Mo Src := fun Γ => (a Γ).bind fun d => Mo.rd fun T => srcO T d
def r1S (a : Ee) : En → Mo Src := fun Γ => (a Γ).bind fun d => Mo.of (rng1O d)
def r2S (a b : Ee) : En → Mo Src := fun Γ => (a Γ).bind fun d => (b Γ).bind fun d' => Mo.of (rng2O d d')
def enS (a : Ee) : En → Mo Src := fun Γ => (a Γ).bind fun d => Mo.of (enumO d)
def ziS (a b : Ee) : En → Mo Src := fun Γ => (a Γ).bind fun d => (b Γ).bind fun d' => Mo.of (zipO d d')
def lcS (own : List Nat) (t : Tgt) (src : En → Mo Src) (ifs : List Tt) (elt : Ee) : En → Mo (List D) := fun Γ =>
  (src Γ).bind fun s => lcGo (fun d => match t.put (wipeE Γ own) d with
          | none => Mo.no
          | some Γ2 => ((match ifs with
            | [] => Mo.ret true
            | [e] => e Γ2
            | _ => Mo.no).bind fun b => if b = true then (elt Γ2).bind fun y => Mo.ret (some y) else Mo.ret none).calm) s.keeps s.ds []
def lcD (m : En → Mo (List D)) : Ee := fun Γ => (m Γ).bind fun ds => Mo.ret (.lst ds)
def trk (m : En → Mo (List D)) : Ee := fun Γ => (m Γ).bind fun ds => alloc (.lst ds)
/-! statements -/
def sq : List Ss → Ss
  | [] => So.nx
  | a :: r => fun Γ T => match a Γ T with
    | some (.nx Γ' T') => sq r Γ' T'
    | o => o
def skp : Ss := So.nx
def exS (a : Ee) : Ss := fun Γ => So.of Γ (a Γ) fun _ => So.nx Γ
def rtS (a : Ee) : Ss := fun Γ => So.of Γ (a Γ) fun d T => some (.rt d T)
def rnS : Ss := fun _ T => some (.rt .non T)
def bkS : Ss := fun Γ T => some (.bk Γ T)
def ctS : Ss := fun Γ T => some (.ct Γ T)
def ifS (t : Tt) (a b : List Ss) : Ss := fun Γ => So.of Γ (t Γ) fun k => if k = true then sq a Γ else sq b Γ
def stS (i : Nat) (a : Ee) : Ss := fun Γ => So.of Γ ((a Γ).bind fun d => Mo.ret (Γ.set i (some d))) So.nx
/-- x = [.. for ..] -/
def lcA (i : Nat) (a : Ee) : Ss := fun Γ => So.of Γ (a Γ) fun d => So.nx (Γ.set i (some d))
def p2S (i j : Nat) (es : List Ee) : Ss := fun Γ => So.of Γ (lS es Γ) fun ds => (match ds with
        | [d, d'] => So.nx ((Γ.set i (some d)).set j (some d'))
        | _ => So.no)
def fdP (Pg : Prg) (o : Ee) (f : Str) : En → D → Mo En := fun Γ d => ((o Γ).bind fun x => (fldM Pg x f d).bind fun _ => Mo.ret Γ).calm
def sbP (o i : Ee) : En → D → Mo En := fun Γ d => ((o Γ).bind fun x => (i Γ).bind fun y => (subM x y d).bind fun _ => Mo.ret Γ).calm
def nmP (i : Nat) : En → D → Mo En := fun Γ d => Mo.ret (Γ.set i (some d))
def lP : List (En → D → Mo En) → En → List D → Mo En
  | [], Γ, [] => Mo.ret Γ
  | t :: ts, Γ, d :: ds => (t Γ d).bind fun Γ' => lP ts Γ' ds
  | _, _, _ => Mo.no
def tpP (ts : List (En → D → Mo En)) : En → D → Mo En := fun Γ d => match d with
    | .tup ds => lP ts Γ ds
    | _ => Mo.no
def asS (p : En → D → Mo En) (a : Ee) : Ss := fun Γ => So.of Γ ((a Γ).bind fun d => p Γ d) So.nx
def foS (t : Tgt) (src : En → Mo Src) (b : List Ss) : Ss := fun Γ => So.of Γ (src Γ) fun s => forGo (fun Γ' d => match t.put Γ' d with
      | some Γ2 => sq b Γ2
      | none => So.no) s.keeps Γ s.ds
def whS (t : Tt) (b : List Ss) : Ss := fun Γ => whileGo t (sq b) turns Γ
/-- a def by its body -/
def fnS (np : Nat) (ns : Nat) (leak : Bool) (b : List Ss) (ds : List D) : Mo D := if ds.length = np then (fun T =>
  match sq b (ds.map some ++ List.replicate (ns - ds.length) none) T with
  | some (.rt d T') => if leak = true then some (.ok d T') else if okT T T' = true then (match frz T' T.length d with
      | some d' => some (.ok d' (T'.take T.length))
      | none => none) else none
  | some (.nx _ T') => if leak = true then some (.ok .non T') else if okT T T' = true then some (.ok .non (T'.take T.length)) else none
  | some (.ex C fs _ T') => if leak = true then some (.ex C fs T') else if okT T T' = true then (match frzf T' T.length fs with
      | some fs' => some (.ex C fs' (T'.take T.length))
      | none => none) else none
  | _ => none) else Mo.no
end RR
set_option maxHeartbeats 1000000
/-! R28: to reckon with runs. -/
namespace RR
open PySem PySem.Spec PyProof.Rows L2
mutual
theorem same_refl : ∀ d : D, D.same d d = true
  | .non => by simp [D.same]
  | .bl _ => by simp [D.same]
  | .int _ => by simp [D.same]
  | .str _ => by simp [D.same]
  | .ty _ => by simp [D.same]
  | .cls _ => by simp [D.same]
  | .fn _ => by simp [D.same]
  | .adr _ => by simp [D.same]
  | .lst ds => by simp [D.same, sameS_refl ds]
  | .tup ds => by simp [D.same, sameS_refl ds]
  | .dct ds => by simp [D.same, sameK_refl ds]
  | .obj C ds => by simp [D.same, sameF_refl ds]
theorem sameS_refl : ∀ ds : List D, sameS ds ds = true
  | [] => by simp [sameS]
  | d :: ds => by simp [sameS, same_refl d, sameS_refl ds]
theorem sameK_refl : ∀ ds : List (Key × D), sameK ds ds = true
  | [] => by simp [sameK]
  | (k, d) :: ds => by simp [sameK, same_refl d, sameK_refl ds]
theorem sameF_refl : ∀ ds : List (Str × D), sameF ds ds = true
  | [] => by simp [sameF]
  | (k, d) :: ds => by simp [sameF, same_refl d, sameF_refl ds]
end
theorem osame_refl (o : Ob) : Ob.same o o = true := by
  cases o with
  | lst ds => simp [Ob.same, sameS_refl]
  | dct ds => simp [Ob.same, sameK_refl]
  | ins C fs => simp [Ob.same, sameF_refl]
theorem zip_same : ∀ (n : Nat) (T : List Ob), ((T.zip T).all fun p => Ob.same p.1 p.2 || belO n p.2) = true
  | _, [] => rfl
  | n, o :: T => by simp [osame_refl, zip_same n T]
theorem okT_refl (T : List Ob) : okT T T = true := by
  unfold okT
  simp [zip_same]
theorem zip_set (n : Nat) : ∀ (T : List Ob) (b : Nat) (o : Ob), belO n o = true → ((T.zip (T.set b o)).all fun p => Ob.same p.1 p.2 || belO n p.2) = true
  | [], _, _, _ => rfl
  | o' :: T, 0, o, h => by simp [h, zip_same n T]
  | o' :: T, b + 1, o, h => by simp [osame_refl, zip_set n T b o h]
theorem okT_set {T : List Ob} {b : Nat} {o : Ob} (h : belO T.length o = true) : okT T (T.set b o) = true := by
  unfold okT
  simp [zip_set T.length T b o h]
theorem take_same (T : List Ob) : T.take T.length = T := List.take_length
theorem take_set (T : List Ob) (b : Nat) (o : Ob) : (T.set b o).take T.length = T.set b o := List.take_of_length_le (by simp)
/-- a comprehension's run, by what stays true of the store -/
theorem lcGo_run {f : D → Mo (Option D)} {keep : List Ob → Bool} {I : Nat → List Ob → Prop} {P : Nat → D → Prop} : ∀ (ds : List D) (i : Nat) (acc : List D) (T : List Ob), I i T → acc.length + ds.length ≤ sizeLine →
    (∀ k T, I k T → keep T = true) → (∀ k d T, ds[k]? = some d → I (i + k) T → ∃ y T', f d T = some (.ok (some y) T') ∧ P (i + k) y ∧ I (i + k + 1) T') →
    ∃ ys T', lcGo f keep ds acc T = some (.ok (acc ++ ys) T') ∧ ys.length = ds.length ∧ (∀ k y, ys[k]? = some y → P (i + k) y) ∧ I (i + ds.length) T'
  | [], i, acc, T, h, _, hk, _ => ⟨[], T, by simp [lcGo, hk i T h], rfl, fun k y e => by simp at e, h⟩
  | d :: ds, i, acc, T, h, hl, hk, hf => by
    obtain ⟨y, T1, e1, p1, h1⟩ := hf 0 d T rfl h
    rw [List.length_cons] at hl
    obtain ⟨ys, T', e2, l2, p2, h2⟩ := lcGo_run ds (i + 1) (acc ++ [y]) T1 h1 (by rw [List.length_append]; simp; omega) hk fun k d T hd hI => by
      obtain ⟨y, T', q1, q2, q3⟩ := hf (k + 1) d T (by simpa using hd) (by rw [show i + (k + 1) = i + 1 + k by omega]; exact hI)
      exact ⟨y, T', q1, by rw [show i + 1 + k = i + (k + 1) by omega]; exact q2, by rw [show i + 1 + k + 1 = i + (k + 1) + 1 by omega]; exact q3⟩
    refine ⟨y :: ys, T', ?_, by rw [List.length_cons, List.length_cons, l2], fun k z hz => ?_, by rw [List.length_cons, show i + (ds.length + 1) = i + 1 + ds.length by omega]; exact h2⟩
    · unfold lcGo
      rw [if_pos (hk i T h), e1]
      have hlt : acc.length < sizeLine := by omega
      simp only [hlt, if_true]
      rw [e2]
      simp
    · cases k with
      | zero => simp at hz; subst hz; exact p1
      | succ k =>
        have := p2 k z (by simpa using hz)
        rw [show i + 1 + k = i + (k + 1) by omega] at this
        exact this
/-- .. that raises nothing and changes nothing -/
theorem lcGo_pure {f : D → Mo (Option D)} {keep : List Ob → Bool} {g : D → Option D} {T : List Ob} (hk : keep T = true) : ∀ (ds : List D) (acc : List D), acc.length + ds.length ≤ sizeLine → (∀ d ∈ ds, f d T = some (.ok (g d) T)) → lcGo f keep ds acc T = some (.ok (acc ++ ds.filterMap g) T)
  | [], acc, _, _ => by simp [lcGo, hk]
  | d :: ds, acc, hl, hf => by
    rw [List.length_cons] at hl
    unfold lcGo
    rw [if_pos hk, hf d List.mem_cons_self]
    cases hg : g d with
    | none =>
      simp only
      rw [lcGo_pure hk ds acc (by omega) fun d h => hf d (List.mem_cons_of_mem _ h)]
      simp [List.filterMap_cons, hg]
    | some y =>
      have hlt : acc.length < sizeLine := by omega
      simp only [hlt, if_true]
      rw [lcGo_pure hk ds (acc ++ [y]) (by rw [List.length_append]; simp; omega) fun d h => hf d (List.mem_cons_of_mem _ h)]
      simp [List.filterMap_cons, hg]
/-- a for's run, by what stays true of slots and store, if no turn leaves the loop -/
theorem forGo_run {f : En → D → So} {keep : List Ob → Bool} {I : Nat → En → List Ob → Prop} : ∀ (ds : List D) (i : Nat) (Γ : En) (T : List Ob), I i Γ T → (∀ k Γ T, I k Γ T → keep T = true) →
    (∀ k d Γ T, ds[k]? = some d → I (i + k) Γ T → ∃ Γ' T', (f Γ d T = some (.nx Γ' T') ∨ f Γ d T = some (.ct Γ' T')) ∧ I (i + k + 1) Γ' T') → ∃ Γ' T', forGo f keep Γ ds T = some (.nx Γ' T') ∧ I (i + ds.length) Γ' T'
  | [], i, Γ, T, h, hk, _ => ⟨Γ, T, by simp [forGo, hk i Γ T h], h⟩
  | d :: ds, i, Γ, T, h, hk, hf => by
    obtain ⟨Γ1, T1, e1, h1⟩ := hf 0 d Γ T rfl h
    obtain ⟨Γ', T', e2, h2⟩ := forGo_run ds (i + 1) Γ1 T1 h1 hk fun k d Γ T hd hI => by
      obtain ⟨Γ', T', q1, q3⟩ := hf (k + 1) d Γ T (by simpa using hd) (by rw [show i + (k + 1) = i + 1 + k by omega]; exact hI)
      exact ⟨Γ', T', q1, by rw [show i + 1 + k + 1 = i + (k + 1) + 1 by omega]; exact q3⟩
    refine ⟨Γ', T', ?_, by rw [List.length_cons, show i + (ds.length + 1) = i + 1 + ds.length by omega]; exact h2⟩
    unfold forGo
    rw [if_pos (hk i Γ T h)]
    rcases e1 with e1 | e1 <;> rw [e1] <;> exact e2
/-- data that holds nothing tracked is handed out as it is -/
theorem rangeD_at {lo : Int} {n k : Nat} {d : D} (h : (rangeD lo n)[k]? = some d) : k < n ∧ d = .int (lo + (k : Nat)) := by
  unfold rangeD at h
  rw [List.getElem?_map] at h
  by_cases hk : k < n
  · rw [List.getElem?_range hk] at h
    cases h
    exact ⟨hk, rfl⟩
  · rw [List.getElem?_eq_none (by rw [List.length_range]; omega)] at h
    cases h
theorem rangeD_len {lo : Int} {n : Nat} : (rangeD lo n).length = n := by unfold rangeD; rw [List.length_map, List.length_range]
mutual
theorem frz_plain {T : List Ob} {n : Nat} : ∀ d : D, plainD d = true → frz T n d = some d
  | .non, _ => by simp [frz]
  | .bl _, _ => by simp [frz]
  | .int _, _ => by simp [frz]
  | .str _, _ => by simp [frz]
  | .lst ds, h => by simp [frz, frzs_plain ds (by simpa [plainD] using h)]
  | .tup ds, h => by simp [frz, frzs_plain ds (by simpa [plainD] using h)]
  | .ty _, h => by simp [plainD] at h
  | .dct _, h => by simp [plainD] at h
  | .obj _ _, h => by simp [plainD] at h
  | .cls _, h => by simp [plainD] at h
  | .fn _, h => by simp [plainD] at h
  | .adr _, h => by simp [plainD] at h
theorem frzs_plain {T : List Ob} {n : Nat} : ∀ ds : List D, plainDs ds = true → frzs T n ds = some ds
  | [], _ => by simp [frzs]
  | d :: ds, h => by
    simp only [plainDs, Bool.and_eq_true] at h
    simp [frzs, frz_plain d h.1, frzs_plain ds h.2]
end
/-- [elt for .. in range(n)] -/
theorem lcS_range {own : List Nat} {t : Tgt} {src : En → Mo Src} {elt : Ee} {Γ : En} {T T1 : List Ob} {n : Nat} {I : Nat → List Ob → Prop} {P : Nat → D → Prop} (hsrc : src Γ T = some (.ok ⟨rangeD 0 n, none⟩ T1)) (h0 : I 0 T1) (hn : n ≤ sizeLine)
    (hs : ∀ k T, k < n → I k T → ∃ Γ2 y T', t.put (wipeE Γ own) (.int (k : Nat)) = some Γ2 ∧ elt Γ2 T = some (.ok y T') ∧ P k y ∧ I (k + 1) T') :
    ∃ ys T', lcS own t src [] elt Γ T = some (.ok ys T') ∧ ys.length = n ∧ (∀ k y, ys[k]? = some y → P k y) ∧ I n T' := by
  obtain ⟨ys, T', e, l, p, q⟩ := lcGo_run (f := fun d => match t.put (wipeE Γ own) d with
          | none => Mo.no
          | some Γ2 => ((Mo.ret true).bind fun b => if b = true then (elt Γ2).bind fun y => Mo.ret (some y) else Mo.ret none).calm) (keep := Src.keeps ⟨rangeD 0 n, none⟩) (I := I) (P := P) (rangeD 0 n) 0 [] T1 h0 (by rw [rangeD_len]; simpa using hn) (fun _ _ _ => rfl) fun k d T hd hI => by
    obtain ⟨hk, rfl⟩ := rangeD_at hd
    rw [Nat.zero_add] at hI ⊢
    obtain ⟨Γ2, y, T', h1, h2, h3, h4⟩ := hs k T hk hI
    refine ⟨y, T', ?_, h3, h4⟩
    have e0 : (0 : Int) + (k : Nat) = (k : Nat) := Int.zero_add _
    rw [e0]
    simp only [h1]
    simp [Mo.calm, Mo.bind, Mo.ret, h2]
  rw [rangeD_len] at l q
  rw [Nat.zero_add] at q
  refine ⟨ys, T', ?_, l, fun k y h => by have := p k y h; rwa [Nat.zero_add] at this, q⟩
  unfold lcS
  show (src Γ).bind _ T = _
  unfold Mo.bind
  rw [hsrc]
  rw [List.nil_append] at e
  exact e
theorem rng1_ok {n : Nat} {k : Int} (h : k = (n : Nat)) (hb : n < 2 ^ 62) : rng1O (.int k) = some ⟨rangeD 0 n, none⟩ := by
  subst h
  have h1 : -(2 ^ 62 : Int) ≤ (n : Int) ∧ (n : Int) < 2 ^ 62 := ⟨by omega, by omega⟩
  unfold rng1O
  simp only [h1, and_self, if_true, Int.toNat_natCast]
theorem atI_mem {α : Type} {xs : List α} {k : Int} (h0 : 0 ≤ k) (h1 : k < xs.length) : ∃ d, atI xs k = some d ∧ d ∈ xs := by
  have hl : k.toNat < xs.length := by omega
  refine ⟨xs[k.toNat], ?_, List.getElem_mem hl⟩
  unfold atI ixN
  rw [if_pos h0, if_pos h1]
  simp [hl]
theorem small_log {n : Nat} (h : n < 9000) : ((n : Nat) : Int).natAbs.log2 < 9000 := by
  rw [Int.natAbs_natCast]
  exact Nat.lt_of_le_of_lt (Nat.log2_le_self n) h
theorem repD_mem {ds : List D} {k : Int} {d : D} (h : d ∈ repD ds k) : d ∈ ds := by
  unfold repD at h
  obtain ⟨l, hl, hd⟩ := List.mem_flatten.mp h
  rw [List.eq_of_mem_replicate hl] at hd
  exact hd
theorem repD_len {ds : List D} {k : Nat} : (repD ds (k : Int)).length = k * ds.length := by
  unfold repD
  rw [Int.toNat_natCast, List.length_flatten, List.map_replicate, List.sum_replicate_nat]
theorem cutD_mem {ds : List D} {lo hi : Option Int} {d : D} (h : d ∈ cutD ds lo hi) : d ∈ ds := by
  unfold cutD at h
  exact List.mem_of_mem_drop (List.mem_of_mem_take h)
end RR
set_option maxHeartbeats 1000000
/-! R29: what a run leads to, by what is asked of its end (wp); each combinator's rule is a rule of simp. -/
namespace RR
open PySem PySem.Spec PyProof.Rows L2
/-- an equation that simp does not take for a step of reduction -/
theorem nr {α : Type _} {a b : α} (h : a = b) : a = b := h
theorem nri {a b : Prop} (h : a ↔ b) : a ↔ b := h
abbrev Ex := Nat → List (Str × D) → List Ob → Prop
@[irreducible] def Mo.wp {α : Type} (m : Mo α) (T : List Ob) (Q : α → List Ob → Prop) (E : Ex) : Prop := match m T with
  | some (.ok a T') => Q a T'
  | some (.ex C fs T') => E C fs T'
  | none => False
/-- nothing is raised -/
def XF : Ex := fun _ _ _ => False
theorem Mo.wp.mono {α : Type} {m : Mo α} {T : List Ob} {Q Q' : α → List Ob → Prop} {E E' : Ex} (h : m.wp T Q E) (q : ∀ a T', Q a T' → Q' a T') (e : ∀ C fs T', E C fs T' → E' C fs T') : m.wp T Q' E' := by
  unfold Mo.wp at h ⊢
  split at h
  · exact q _ _ h
  · exact e _ _ _ h
  · exact h
theorem Mo.wp.to {α : Type} {m : Mo α} {T : List Ob} {Q Q' : α → List Ob → Prop} {E' : Ex} (h : m.wp T Q XF) (q : ∀ a T', Q a T' → Q' a T') : m.wp T Q' E' := h.mono q fun _ _ _ z => z.elim
theorem Mo.wp.run {α : Type} {m : Mo α} {T : List Ob} {Q : α → List Ob → Prop} (h : m.wp T Q XF) : ∃ a T', m T = some (.ok a T') ∧ Q a T' := by
  unfold Mo.wp at h
  split at h
  · rename_i a T' e
    exact ⟨a, T', e, h⟩
  · exact h.elim
  · exact h.elim
theorem Mo.wp_of_run {α : Type} {m : Mo α} {T T' : List Ob} {a : α} {Q : α → List Ob → Prop} {E : Ex} (e : m T = some (.ok a T')) (q : Q a T') : m.wp T Q E := by
  unfold Mo.wp
  rw [e]
  exact q
/-- an answer is there, and P is true of it -/
def onO {α : Type} (o : Option α) (P : α → Prop) : Prop := match o with
  | some a => P a
  | none => False
def onB (d : D) (P : Bool → Prop) : Prop := match d with
  | .bl b => P b
  | _ => False
def onI (d : D) (P : Int → Prop) : Prop := match d with
  | .int b => P b
  | _ => False
@[simp] theorem onO_some {α : Type} {a : α} {P : α → Prop} : onO (some a) P ↔ P a := nri Iff.rfl
@[simp] theorem onO_none {α : Type} {P : α → Prop} : onO none P ↔ False := nri Iff.rfl
@[simp] theorem onO_ite {α : Type} {c : Prop} [Decidable c] {x : Option α} {P : α → Prop} : onO (if c then x else none) P ↔ c ∧ onO x P := by
  by_cases h : c <;> simp [h]
@[simp] theorem onO_map {α β : Type} {o : Option α} {f : α → β} {P : β → Prop} : onO (o.map f) P ↔ onO o fun a => P (f a) := by cases o <;> simp
@[simp] theorem onO_bind {α β : Type} {o : Option α} {f : α → Option β} {P : β → Prop} : onO (o.bind f) P ↔ onO o fun a => onO (f a) P := by cases o <;> simp
@[simp] theorem onO_false {α : Type} {o : Option α} : onO o (fun _ => False) ↔ False := by cases o <;> simp
theorem onO_of {α : Type} {o : Option α} {a : α} {P : α → Prop} (h : o = some a) (p : P a) : onO o P := by rw [h]; exact p
theorem onO_iff {α : Type} {o : Option α} {P : α → Prop} : onO o P ↔ ∃ a, o = some a ∧ P a := by cases o <;> simp
@[simp] theorem onB_bl {b : Bool} {P : Bool → Prop} : onB (.bl b) P ↔ P b := nri Iff.rfl
@[simp] theorem onI_int {b : Int} {P : Int → Prop} : onI (.int b) P ↔ P b := nri Iff.rfl
@[simp] theorem XF_no {C : Nat} {fs : List (Str × D)} {T : List Ob} : XF C fs T ↔ False := nri Iff.rfl
@[simp] theorem ex_if {α : Type} {c : Prop} [Decidable c] {x : α} {Q : α → Prop} : (∃ a, (if c then some x else none) = some a ∧ Q a) ↔ c ∧ Q x := by
  by_cases h : c <;> simp [h]
@[simp] theorem ex_c {α : Type} {c : Prop} {x : α} {Q : α → Prop} : (∃ a, (c ∧ x = a) ∧ Q a) ↔ c ∧ Q x := ⟨fun ⟨_, ⟨h, e⟩, q⟩ => ⟨h, e ▸ q⟩, fun ⟨h, q⟩ => ⟨x, ⟨h, rfl⟩, q⟩⟩
section
variable {α β : Type} {T : List Ob} {Q : α → List Ob → Prop} {E : Ex}
@[simp] theorem wp_bind {m : Mo β} {k : β → Mo α} : (m.bind k).wp T Q E ↔ m.wp T (fun a T' => (k a).wp T' Q E) E := by
  unfold Mo.wp Mo.bind
  cases h : m T with
  | none => simp
  | some r => cases r <;> simp
@[simp] theorem wp_ret {a : α} : (Mo.ret a).wp T Q E ↔ Q a T := by unfold Mo.wp; exact Iff.rfl
@[simp] theorem wp_no : (Mo.no : Mo α).wp T Q E ↔ False := by unfold Mo.wp; exact Iff.rfl
@[simp] theorem wp_of {o : Option α} : (Mo.of o).wp T Q E ↔ onO (o) fun a => Q a T := by
  unfold Mo.wp Mo.of
  cases o <;> simp
@[simp] theorem wp_rd {f : List Ob → Option α} : (Mo.rd f).wp T Q E ↔ onO (f T) fun a => Q a T := by
  unfold Mo.wp Mo.rd
  cases f T <;> simp
@[simp] theorem wp_calm {m : Mo α} : m.calm.wp T Q E ↔ m.wp T Q XF := by
  unfold Mo.wp Mo.calm XF
  cases h : m T with
  | none => simp
  | some r => cases r <;> simp
@[simp] theorem wp_ite {c : Prop} [Decidable c] {a b : Mo α} : (if c then a else b).wp T Q E ↔ (c → a.wp T Q E) ∧ (¬c → b.wp T Q E) := by
  by_cases h : c <;> simp [h]
end
section
variable {T : List Ob} {Q : D → List Ob → Prop} {E : Ex} {Γ : En} {Pg : Prg} {Φ : Str → List D → Mo D}
@[simp] theorem wp_alloc {o : Ob} : (alloc o).wp T Q E ↔ Q (.adr T.length) (T ++ [o]) := by unfold Mo.wp; exact Iff.rfl
@[simp] theorem wp_vr {i : Nat} : (vr i Γ).wp T Q E ↔ onO Γ[i]? fun o => onO o fun d => Q d T := by
  unfold vr
  rw [wp_of]
  cases h : Γ[i]? with
  | none => simp
  | some o => cases o <;> simp
@[simp] theorem wp_kk {d : D} : (kk d Γ).wp T Q E ↔ Q d T := by simp [kk]
@[simp] theorem wp_opS {op : Operator} {a b : Ee} : (opS op a b Γ).wp T Q E ↔ (a Γ).wp T (fun x T1 => (b Γ).wp T1 (fun y T2 => onO (binO op T2 x y) fun z => Q z T2) E) E := by simp [opS]
@[simp] theorem wp_negS {a : Ee} : (negS a Γ).wp T Q E ↔ (a Γ).wp T (fun x T1 => onO (negO x) fun z => Q z T1) E := by simp [negS]
@[simp] theorem andS_one {a : Ee} : andS [a] = a := nr rfl
@[simp] theorem orS_one {a : Ee} : orS [a] = a := nr rfl
@[simp] theorem wp_andS {a b : Ee} {r : List Ee} : (andS (a :: b :: r) Γ).wp T Q E ↔ (a Γ).wp T (fun d T1 => onB d fun k => (k = true → (andS (b :: r) Γ).wp T1 Q E) ∧ (k = false → Q (.bl false) T1)) E := by
  have e : andS (a :: b :: r) Γ = (a Γ).bind fun d => match d with
    | .bl k => if k = true then andS (b :: r) Γ else Mo.ret (.bl k)
    | _ => Mo.no := rfl
  rw [e, wp_bind]
  refine iff_of_eq (congrArg (fun f => Mo.wp (a Γ) T f E) ?_)
  funext d T1
  cases d <;> simp [onB]
  rename_i k
  cases k <;> simp
@[simp] theorem wp_orS {a b : Ee} {r : List Ee} : (orS (a :: b :: r) Γ).wp T Q E ↔ (a Γ).wp T (fun d T1 => onB d fun k => (k = false → (orS (b :: r) Γ).wp T1 Q E) ∧ (k = true → Q (.bl true) T1)) E := by
  have e : orS (a :: b :: r) Γ = (a Γ).bind fun d => match d with
    | .bl k => if k = false then orS (b :: r) Γ else Mo.ret (.bl k)
    | _ => Mo.no := rfl
  rw [e, wp_bind]
  refine iff_of_eq (congrArg (fun f => Mo.wp (a Γ) T f E) ?_)
  funext d T1
  cases d <;> simp [onB]
  rename_i k
  cases k <;> simp
@[simp] theorem wp_notS {a : Ee} : (notS a Γ).wp T Q E ↔ (a Γ).wp T (fun d T1 => onB d fun k => Q (.bl !k) T1) E := by
  unfold notS
  rw [wp_bind]
  refine iff_of_eq (congrArg (fun f => Mo.wp (a Γ) T f E) ?_)
  funext d T1
  cases d <;> simp [onB]
@[simp] theorem wp_iteS {t : Tt} {a b : Ee} : (iteS t a b Γ).wp T Q E ↔ (t Γ).wp T (fun k T1 => (k = true → (a Γ).wp T1 Q E) ∧ (k = false → (b Γ).wp T1 Q E)) E := by
  unfold iteS
  rw [wp_bind]
  refine iff_of_eq (congrArg (fun f => Mo.wp (t Γ) T f E) ?_)
  funext k T1
  cases k <;> simp
end
section
variable {T : List Ob} {E : Ex} {Γ : En} {Pg : Prg} {Φ : Str → List D → Mo D}
@[simp] theorem lS_nil {Q : List D → List Ob → Prop} : (lS [] Γ).wp T Q E ↔ Q [] T := by unfold Mo.wp; exact Iff.rfl
@[simp] theorem lS_cons {Q : List D → List Ob → Prop} {a : Ee} {r : List Ee} : (lS (a :: r) Γ).wp T Q E ↔ (a Γ).wp T (fun d T1 => (lS r Γ).wp T1 (fun ds T2 => Q (d :: ds) T2) E) E := by simp [lS]
@[simp] theorem wp_newS {Q : List D → List Ob → Prop} {es : List Ee} : (newS es Γ).wp T Q E ↔ (lS es Γ).wp T (fun ds T1 => ds.length ≤ sizeLine ∧ Q ds T1) E := by
  unfold newS
  rw [wp_bind]
  refine iff_of_eq (congrArg (fun f => Mo.wp (lS es Γ) T f E) ?_)
  funext d T1
  by_cases h : d.length ≤ sizeLine <;> simp [h]
end
section
variable {T : List Ob} {Q : D → List Ob → Prop} {E : Ex} {Γ : En} {Pg : Prg} {Φ : Str → List D → Mo D}
@[simp] theorem wp_tupS {es : List Ee} : (tupS es Γ).wp T Q E ↔ (lS es Γ).wp T (fun ds T1 => ds.length ≤ sizeLine ∧ Q (.tup ds) T1) E := by
  unfold tupS
  rw [wp_bind]
  refine iff_of_eq (congrArg (fun f => Mo.wp (lS es Γ) T f E) ?_)
  funext d T1
  by_cases h : d.length ≤ sizeLine <;> simp [h]
@[simp] theorem wp_lstS {es : List Ee} : (lstS es Γ).wp T Q E ↔ (lS es Γ).wp T (fun ds T1 => ds.length ≤ sizeLine ∧ Q (.lst ds) T1) E := by
  unfold lstS
  rw [wp_bind]
  refine iff_of_eq (congrArg (fun f => Mo.wp (lS es Γ) T f E) ?_)
  funext d T1
  by_cases h : d.length ≤ sizeLine <;> simp [h]
@[simp] theorem wp_ixS {a b : Ee} : (ixS a b Γ).wp T Q E ↔ (a Γ).wp T (fun x T1 => (b Γ).wp T1 (fun y T2 => onO (((vw T2 x).bind fun x => ixO x y)) fun z => Q z T2) E) E := by simp [ixS]
theorem wp_bindI {Q : Option Int → List Ob → Prop} {x : D} : (bindI x).wp T Q E ↔ onI x fun i => Q (some i) T := by cases x <;> simp [bindI, onI]
@[simp] theorem wp_sl1 {a lo : Ee} : (slS a (some lo) none Γ).wp T Q E ↔ (a Γ).wp T (fun x T1 => (lo Γ).wp T1 (fun y T2 => onI y fun i => onO (((vw T2 x).bind fun x => slO x (some i) none)) fun z => Q z T2) E) E := by simp [slS, wp_bindI]
@[simp] theorem wp_sl2 {a hi : Ee} : (slS a none (some hi) Γ).wp T Q E ↔ (a Γ).wp T (fun x T1 => (hi Γ).wp T1 (fun y T2 => onI y fun i => onO (((vw T2 x).bind fun x => slO x none (some i))) fun z => Q z T2) E) E := by simp [slS, wp_bindI]
@[simp] theorem wp_sl0 {a : Ee} : (slS a none none Γ).wp T Q E ↔ (a Γ).wp T (fun x T1 => onO (((vw T1 x).bind fun x => slO x none none)) fun z => Q z T1) E := by simp [slS]
@[simp] theorem wp_sl3 {a lo hi : Ee} : (slS a (some lo) (some hi) Γ).wp T Q E ↔ (a Γ).wp T (fun x T1 => (lo Γ).wp T1 (fun y T2 => onI y fun i => (hi Γ).wp T2 (fun y T3 => onI y fun j => onO (((vw T3 x).bind fun x => slO x (some i) (some j))) fun z => Q z T3) E) E) E := by simp [slS, wp_bindI]
theorem wp_attrM {d : D} {f : Str} : (attrM Pg Φ d f).wp T Q E ↔ (match insO T d with
    | some (C, gs) => (match Pg.prop C f with
      | some g => (match Pg.bnd g 1 [] with
        | some b => (Φ g (b [d] [])).wp T Q XF
        | none => False)
      | none => Pg.noat C f = true ∧ onO (gs.lookup f) fun v => Q v T)
    | none => False) := by
  unfold attrM
  cases hi : insO T d with
  | none => simp [Mo.wp, hi]
  | some p =>
    obtain ⟨C, gs⟩ := p
    cases hp : Pg.prop C f with
    | none =>
      by_cases hn : Pg.noat C f = true
      · cases hl : gs.lookup f <;> simp [Mo.wp, hi, hp, hn, hl]
      · simp [Mo.wp, hi, hp, hn]
    | some g =>
      cases hb : Pg.bnd g 1 [] with
      | none => simp [Mo.wp, hi, hp, hb]
      | some b =>
        have := wp_calm (m := Φ g (b [d] [])) (T := T) (Q := Q) (E := E)
        simp only [hp, hb]
        rw [← this]
        unfold Mo.wp
        simp only [hi, hp, hb]
@[simp] theorem wp_atS {a : Ee} {f : Str} : (RR.atS Pg Φ a f Γ).wp T Q E ↔ (a Γ).wp T (fun d T1 => (attrM Pg Φ d f).wp T1 Q E) E := by simp [RR.atS]
@[simp] theorem wp_rgS {a : Ee} : (rgS a Γ).wp T Q E ↔ (a Γ).wp T (fun d T1 => onO (rgL d) fun z => Q z T1) E := by simp [rgS]
@[simp] theorem wp_biS {b : Bi} {es : List Ee} : (biS Pg Φ b es Γ).wp T Q E ↔ (lS es Γ).wp T (fun ds T1 => (biM Pg Φ b ds).wp T1 Q E) E := by simp [biS]
theorem wp_biM {b : Bi} {ds : List D} (h : lenF Pg T b ds = none) : (biM Pg Φ b ds).wp T Q E ↔ onO (biP Pg b T ds) fun z => Q z T := by
  unfold Mo.wp biM
  simp only [h]
  cases biP Pg b T ds <;> simp
theorem wp_biL {b : Bi} {ds : List D} {f : Str} {g : List D → List D → List D} (h : lenF Pg T b ds = some (f, g)) : (biM Pg Φ b ds).wp T Q E ↔ (Φ f (g ds [])).wp T (fun d T1 => onI d fun n => 0 ≤ n ∧ n < 2 ^ 63 ∧ Q (.int n) T1) XF := by
  unfold Mo.wp biM XF
  simp only [h]
  cases h2 : Φ f (g ds []) T with
  | none => simp
  | some r =>
    cases r with
    | ex C fs T' => simp
    | ok a T' =>
      cases a <;> simp [onI]
      rename_i n
      by_cases hn : 0 ≤ n ∧ n < 2 ^ 63
      · have hn' : 0 ≤ n ∧ n < 9223372036854775808 := hn
        simp [hn']
      · have hn' : ¬ (0 ≤ n ∧ n < 9223372036854775808) := hn
        simp only [hn', if_false, false_iff]
        exact fun ⟨a, b, _⟩ => hn' ⟨a, b⟩
@[simp] theorem wp_caS {f : Str} {g : List D → List D → List D} {es ks : List Ee} : (caS Φ f g es ks Γ).wp T Q E ↔ (lS es Γ).wp T (fun ds T1 => (lS ks Γ).wp T1 (fun zs T2 => (Φ f (g ds zs)).wp T2 Q E) E) E := by simp [caS]
@[simp] theorem wp_mkS {C : Nat} {f : Str} {g : List D → List D → List D} {es ks : List Ee} : (mkS Pg Φ C f g es ks Γ).wp T Q E ↔ (lS es Γ).wp T (fun ds T1 => (lS ks Γ).wp T1 (fun zs T2 => (makeM Pg Φ C f fun self => g (self :: ds) zs).wp T2 Q E) E) E := by simp [mkS]
/-- an instance that does not change behind its __init__ -/
theorem wp_makeF {C : Nat} {f : Str} {args : D → List D} (hf : Pg.fz C = true) : (makeM Pg Φ C f args).wp T Q E ↔ (Φ f (args (.adr T.length))).wp (T ++ [.ins C []]) (fun r T' => r = .non ∧ ∃ gs, T'[T.length]? = some (.ins C gs) ∧ belf T.length gs = true ∧ okT T T' = true ∧ Q (.obj C gs) (T'.take T.length)) XF := by
  unfold Mo.wp makeM XF
  cases h2 : Φ f (args (.adr T.length)) (T ++ [.ins C []]) with
  | none => simp
  | some r =>
    cases r with
    | ex C fs T' => simp
    | ok a T' =>
      cases a <;> simp [hf]
      cases h3 : T'[T.length]? with
      | none => simp
      | some o =>
        cases o <;> simp
        rename_i C' gs
        by_cases hc : C' = C
        · subst hc
          by_cases hb : belf T.length gs = true
          · by_cases ho : okT T T' = true
            · simp [hb, ho]
            · simp [hb, ho]
          · simp [hb]
        · simp [hc]
theorem wp_makeT {C : Nat} {f : Str} {args : D → List D} (hf : Pg.fz C = false) : (makeM Pg Φ C f args).wp T Q E ↔ (Φ f (args (.adr T.length))).wp (T ++ [.ins C []]) (fun r T' => r = .non ∧ Q (.adr T.length) T') XF := by
  unfold Mo.wp makeM XF
  cases h2 : Φ f (args (.adr T.length)) (T ++ [.ins C []]) with
  | none => simp
  | some r =>
    cases r with
    | ex C fs T' => simp
    | ok a T' => cases a <;> simp [hf]
end
section
variable {T : List Ob} {Q : Bool → List Ob → Prop} {E : Ex} {Γ : En} {Pg : Prg} {Φ : Str → List D → Mo D}
@[simp] theorem wp_cmS {op : CmpOp} {a b : Ee} : (cmS Pg Φ op a b Γ).wp T Q E ↔ (a Γ).wp T (fun x T1 => (b Γ).wp T1 (fun y T2 => (eqM Pg Φ op x y).wp T2 Q E) E) E := by simp [cmS]
@[simp] theorem wp_eqM {op : CmpOp} {x y : D} (h1 : insO T x = none) (h2 : insO T y = none) : (eqM Pg Φ op x y).wp T Q E ↔ onO (cmpO op T x y) fun b => Q b T := by
  unfold Mo.wp eqM
  simp only [h1, h2]
  cases cmpO op T x y <;> simp
theorem wp_eqOwn {x y : D} {C : Nat} {gs gs' : List (Str × D)} {f : Str} {g : List D → List D → List D} (h1 : insO T x = some (C, gs)) (h2 : insO T y = some (C, gs')) (hm : Pg.meth C "__eq__" = some f) (hb : Pg.bnd f 2 [] = some g) :
    (eqM Pg Φ .Eq x y).wp T Q E ↔ (Φ f (g [x, y] [])).wp T (fun d T1 => onB d fun k => Q k T1) XF := by
  unfold Mo.wp eqM XF
  simp only [h1, h2, hm, hb, if_true]
  cases h : Φ f (g [x, y] []) T with
  | none => simp
  | some r =>
    cases r with
    | ex C fs T' => simp
    | ok a T' => cases a <;> simp [onB]
@[simp] theorem wp_cm2S {op op' : CmpOp} {a b d : Ee} : (cm2S op op' a b d Γ).wp T Q E ↔ (a Γ).wp T (fun x T1 => (b Γ).wp T1 (fun y T2 => onO (cmpO op T2 x y) fun k => (k = true → (d Γ).wp T2 (fun z T3 => onO (cmpO op' T3 y z) fun k' => Q k' T3) E) ∧ (k = false → Q false T2)) E) E := by
  unfold cm2S
  rw [wp_bind]
  refine iff_of_eq (congrArg (fun f => Mo.wp (a Γ) T f E) ?_)
  funext x T1
  rw [wp_bind]
  refine congrArg (fun f => Mo.wp (b Γ) T1 f E) ?_
  funext y T2
  rw [wp_bind, wp_rd]
  cases h : cmpO op T2 x y with
  | none => simp
  | some k => cases k <;> simp
@[simp] theorem wp_trS {a : Ee} : (trS a Γ).wp T Q E ↔ (a Γ).wp T (fun d T1 => onO (truO T1 d) fun b => Q b T1) E := by simp [trS]
@[simp] theorem wp_nT {a : Tt} : (nT a Γ).wp T Q E ↔ (a Γ).wp T (fun b T1 => Q (!b) T1) E := by simp [nT]
@[simp] theorem andT_one {a : Tt} : andT [a] = a := nr rfl
@[simp] theorem orT_one {a : Tt} : orT [a] = a := nr rfl
@[simp] theorem wp_andT {a b : Tt} {r : List Tt} : (andT (a :: b :: r) Γ).wp T Q E ↔ (a Γ).wp T (fun k T1 => (k = true → (andT (b :: r) Γ).wp T1 Q E) ∧ (k = false → Q false T1)) E := by
  have e : andT (a :: b :: r) Γ = (a Γ).bind fun k => if k = true then andT (b :: r) Γ else Mo.ret k := rfl
  rw [e, wp_bind]
  refine iff_of_eq (congrArg (fun f => Mo.wp (a Γ) T f E) ?_)
  funext k T1
  cases k <;> simp
@[simp] theorem wp_orT {a b : Tt} {r : List Tt} : (orT (a :: b :: r) Γ).wp T Q E ↔ (a Γ).wp T (fun k T1 => (k = false → (orT (b :: r) Γ).wp T1 Q E) ∧ (k = true → Q true T1)) E := by
  have e : orT (a :: b :: r) Γ = (a Γ).bind fun k => if k = false then orT (b :: r) Γ else Mo.ret k := rfl
  rw [e, wp_bind]
  refine iff_of_eq (congrArg (fun f => Mo.wp (a Γ) T f E) ?_)
  funext k T1
  cases k <;> simp
end
section
variable {T : List Ob} {Q : D → List Ob → Prop} {E : Ex} {Γ : En} {Pg : Prg} {Φ : Str → List D → Mo D}
@[simp] theorem wp_bvS {t : Tt} : (bvS t Γ).wp T Q E ↔ (t Γ).wp T (fun b T1 => Q (.bl b) T1) E := by simp [bvS]
/-- a method called -/
def meK (Pg : Prg) (Φ : Str → List D → Mo D) (Γ : En) (d : D) (m : Str) (n : Nat) (ks : List Str) (es zs : List Ee) : Mo D := fun T => match methO Pg T d m with
    | some f => (match Pg.bnd f n ks with
        | some g => ((lS es Γ).bind fun ds => (lS zs Γ).bind fun es => Φ f (g (d :: ds) es)) T
        | none => none)
    | none => if zs.isEmpty = true then (match kindO T d, mns.lookup m with
      | some kd, some mn => if bmOk kd mn = true then ((lS es Γ).bind fun ds => bmM kd mn d ds) T else none
      | _, _ => none) else none
@[simp] theorem wp_meS {o : Ee} {m : Str} {n : Nat} {ks : List Str} {es zs : List Ee} : (meS Pg Φ o m n ks es zs Γ).wp T Q E ↔ (o Γ).wp T (fun d T1 => (meK Pg Φ Γ d m n ks es zs).wp T1 Q E) E := by
  show ((o Γ).bind fun d => meK Pg Φ Γ d m n ks es zs).wp T Q E ↔ _
  rw [wp_bind]
theorem wp_meK {d : D} {m : Str} {n : Nat} {ks : List Str} {es zs : List Ee} {f : Str} {g : List D → List D → List D} (h : methO Pg T d m = some f) (hb : Pg.bnd f n ks = some g) : (meK Pg Φ Γ d m n ks es zs).wp T Q E ↔ (lS es Γ).wp T (fun ds T1 => (lS zs Γ).wp T1 (fun es T2 => (Φ f (g (d :: ds) es)).wp T2 Q E) E) E := by
  have : (meK Pg Φ Γ d m n ks es zs).wp T Q E ↔ ((lS es Γ).bind fun ds => (lS zs Γ).bind fun es => Φ f (g (d :: ds) es)).wp T Q E := by
    unfold Mo.wp meK
    simp only [h, hb]
  rw [this]
  simp
theorem wp_meB {d : D} {m : Str} {n : Nat} {ks : List Str} {es : List Ee} {kd : Kd} {mn : Mn} (h : methO Pg T d m = none) (hk : kindO T d = some kd) (hm : mns.lookup m = some mn) (ho : bmOk kd mn = true) : (meK Pg Φ Γ d m n ks es []).wp T Q E ↔ (lS es Γ).wp T (fun ds T1 => (bmM kd mn d ds).wp T1 Q E) E := by
  have : (meK Pg Φ Γ d m n ks es []).wp T Q E ↔ ((lS es Γ).bind fun ds => bmM kd mn d ds).wp T Q E := by
    unfold Mo.wp meK
    simp only [h, hk, hm, ho, List.isEmpty_nil, if_true]
  rw [this]
  simp
end
section
variable {T : List Ob} {E : Ex} {Γ : En} {Pg : Prg} {Φ : Str → List D → Mo D}
@[simp] theorem wp_srS {Q : Src → List Ob → Prop} {a : Ee} : (srS a Γ).wp T Q E ↔ (a Γ).wp T (fun d T1 => onO (srcO T1 d) fun s => Q s T1) E := by simp [srS]
@[simp] theorem wp_r1S {Q : Src → List Ob → Prop} {a : Ee} : (r1S a Γ).wp T Q E ↔ (a Γ).wp T (fun d T1 => onO (rng1O d) fun s => Q s T1) E := by simp [r1S]
@[simp] theorem wp_r2S {Q : Src → List Ob → Prop} {a b : Ee} : (r2S a b Γ).wp T Q E ↔ (a Γ).wp T (fun d T1 => (b Γ).wp T1 (fun d' T2 => onO (rng2O d d') fun s => Q s T2) E) E := by simp [r2S]
@[simp] theorem wp_enS {Q : Src → List Ob → Prop} {a : Ee} : (enS a Γ).wp T Q E ↔ (a Γ).wp T (fun d T1 => onO (enumO d) fun s => Q s T1) E := by simp [enS]
@[simp] theorem wp_ziS {Q : Src → List Ob → Prop} {a b : Ee} : (ziS a b Γ).wp T Q E ↔ (a Γ).wp T (fun d T1 => (b Γ).wp T1 (fun d' T2 => onO (zipO d d') fun s => Q s T2) E) E := by simp [ziS]
/-- a comprehension's turn -/
def lcF (own : List Nat) (t : Tgt) (ifs : List Tt) (elt : Ee) (Γ : En) (d : D) : Mo (Option D) := match t.put (wipeE Γ own) d with
          | none => Mo.no
          | some Γ2 => ((match ifs with
            | [] => Mo.ret true
            | [e] => e Γ2
            | _ => Mo.no).bind fun b => if b = true then (elt Γ2).bind fun y => Mo.ret (some y) else Mo.ret none).calm
@[simp] theorem wp_lcS {Q : List D → List Ob → Prop} {own : List Nat} {t : Tgt} {src : En → Mo Src} {ifs : List Tt} {elt : Ee} : (lcS own t src ifs elt Γ).wp T Q E ↔ (src Γ).wp T (fun s T1 => (lcGo (lcF own t ifs elt Γ) s.keeps s.ds []).wp T1 Q E) E := by
  show ((src Γ).bind fun s => lcGo (lcF own t ifs elt Γ) s.keeps s.ds []).wp T Q E ↔ _
  rw [wp_bind]
theorem wp_lcF0 {Q : Option D → List Ob → Prop} {own : List Nat} {t : Tgt} {elt : Ee} {d : D} {Γ2 : En} (h : t.put (wipeE Γ own) d = some Γ2) : (lcF own t [] elt Γ d).wp T Q E ↔ (elt Γ2).wp T (fun y T1 => Q (some y) T1) XF := by
  unfold lcF
  rw [h]
  simp
theorem wp_lcF1 {Q : Option D → List Ob → Prop} {own : List Nat} {t : Tgt} {c : Tt} {elt : Ee} {d : D} {Γ2 : En} (h : t.put (wipeE Γ own) d = some Γ2) : (lcF own t [c] elt Γ d).wp T Q E ↔ (c Γ2).wp T (fun b T1 => (b = true → (elt Γ2).wp T1 (fun y T2 => Q (some y) T2) XF) ∧ (b = false → Q none T1)) XF := by
  unfold lcF
  rw [h]
  simp only [wp_calm, wp_bind]
  refine iff_of_eq (congrArg (fun f => Mo.wp (c Γ2) T f XF) ?_)
  funext b T1
  cases b <;> simp
/-- a comprehension, by what stays true: of what is left, of what was found, of the store -/
theorem lcGo_wp {f : D → Mo (Option D)} {keep : List Ob → Bool} {Q : List D → List Ob → Prop} (I : List D → List D → List Ob → Prop) (hk : ∀ r a T, I r a T → keep T = true) (hs : ∀ d r a T, I (d :: r) a T → (f d).wp T (fun o T' => match o with
      | some y => a.length < sizeLine ∧ I r (a ++ [y]) T'
      | none => I r a T') XF) (hq : ∀ a T, I [] a T → Q a T) : ∀ (ds acc : List D) (T : List Ob), I ds acc T → (lcGo f keep ds acc).wp T Q E
  | [], acc, T, h => by
    unfold Mo.wp lcGo
    rw [if_pos (hk _ _ _ h)]
    exact hq _ _ h
  | d :: ds, acc, T, h => by
    obtain ⟨o, T', e, p⟩ := (hs d ds acc T h).run
    cases o with
    | none =>
      have h2 := lcGo_wp I hk hs hq ds acc T' p
      unfold Mo.wp at h2 ⊢
      have e2 : lcGo f keep (d :: ds) acc T = lcGo f keep ds acc T' := by
        conv => lhs; unfold lcGo
        rw [if_pos (hk _ _ _ h)]
        simp only [e]
      rw [e2]
      exact h2
    | some y =>
      have h2 := lcGo_wp I hk hs hq ds (acc ++ [y]) T' p.2
      unfold Mo.wp at h2 ⊢
      have e2 : lcGo f keep (d :: ds) acc T = lcGo f keep ds (acc ++ [y]) T' := by
        conv => lhs; unfold lcGo
        rw [if_pos (hk _ _ _ h)]
        simp only [e, p.1, if_true]
      rw [e2]
      exact h2
/-- .. that leaves the store as it is: each turn's value is told -/
theorem lcGo_pu {f : D → Mo (Option D)} {keep : List Ob → Bool} {Q : List D → List Ob → Prop} (g : D → Option D) (hk : keep T = true) {ds acc : List D} (hl : acc.length + ds.length ≤ sizeLine) (hs : ∀ d ∈ ds, (f d).wp T (fun o T' => T' = T ∧ o = g d) XF) (hq : Q (acc ++ ds.filterMap g) T) : (lcGo f keep ds acc).wp T Q E := by
  refine Mo.wp_of_run (lcGo_pure hk ds acc hl fun d hd => ?_) hq
  obtain ⟨o, T', e, rfl, rfl⟩ := (hs d hd).run
  exact e
@[simp] theorem wp_lcD {Q : D → List Ob → Prop} {m : En → Mo (List D)} : (lcD m Γ).wp T Q E ↔ (m Γ).wp T (fun ds T1 => Q (.lst ds) T1) E := by simp [lcD]
@[simp] theorem wp_trk {Q : D → List Ob → Prop} {m : En → Mo (List D)} : (RR.trk m Γ).wp T Q E ↔ (m Γ).wp T (fun ds T1 => Q (.adr T1.length) (T1 ++ [.lst ds])) E := by simp [RR.trk]
end
/-! ### statements -/
@[irreducible] def So.wp (s : So) (T : List Ob) (K : Sr → Prop) : Prop := ∃ r, s T = some r ∧ K r
theorem So.wp_def {s : So} {T : List Ob} {K : Sr → Prop} : s.wp T K ↔ ∃ r, s T = some r ∧ K r := by unfold So.wp; exact Iff.rfl
theorem So.wp.mono {s : So} {T : List Ob} {K K' : Sr → Prop} (h : s.wp T K) (k : ∀ r, K r → K' r) : s.wp T K' := by
  rw [So.wp_def] at h ⊢
  obtain ⟨r, e, q⟩ := h
  exact ⟨r, e, k r q⟩
/-- behind a statement -/
def nxK (k : En → List Ob → Prop) (K : Sr → Prop) : Sr → Prop
  | .nx Γ T => k Γ T
  | r => K r
/-- behind a turn of a loop -/
def lpK (k : En → List Ob → Prop) (K : Sr → Prop) : Sr → Prop
  | .nx Γ T => k Γ T
  | .ct Γ T => k Γ T
  | .bk Γ T => K (.nx Γ T)
  | r => K r
section
variable {T : List Ob} {K : Sr → Prop} {Γ : En} {k : En → List Ob → Prop} {d : D} {C : Nat} {fs : List (Str × D)}
@[simp] theorem nxK_nx : nxK k K (.nx Γ T) = k Γ T := nr rfl
@[simp] theorem nxK_rt : nxK k K (.rt d T) = K (.rt d T) := nr rfl
@[simp] theorem nxK_bk : nxK k K (.bk Γ T) = K (.bk Γ T) := nr rfl
@[simp] theorem nxK_ct : nxK k K (.ct Γ T) = K (.ct Γ T) := nr rfl
@[simp] theorem nxK_ex : nxK k K (.ex C fs Γ T) = K (.ex C fs Γ T) := nr rfl
@[simp] theorem lpK_nx : lpK k K (.nx Γ T) = k Γ T := nr rfl
@[simp] theorem lpK_rt : lpK k K (.rt d T) = K (.rt d T) := nr rfl
@[simp] theorem lpK_bk : lpK k K (.bk Γ T) = K (.nx Γ T) := nr rfl
@[simp] theorem lpK_ct : lpK k K (.ct Γ T) = k Γ T := nr rfl
@[simp] theorem lpK_ex : lpK k K (.ex C fs Γ T) = K (.ex C fs Γ T) := nr rfl
@[simp] theorem swp_no : So.no.wp T K ↔ False := by simp [So.wp, So.no]
@[simp] theorem swp_nx : (So.nx Γ).wp T K ↔ K (.nx Γ T) := by simp [So.wp, So.nx]
@[simp] theorem swp_of {α : Type} {m : Mo α} {f : α → So} : (So.of Γ m f).wp T K ↔ m.wp T (fun a T' => (f a).wp T' K) (fun C fs T' => K (.ex C fs Γ T')) := by
  unfold So.wp So.of Mo.wp
  cases m T with
  | none => simp
  | some r => cases r <;> simp
@[simp] theorem swp_ite {c : Prop} [Decidable c] {a b : So} : (if c then a else b).wp T K ↔ (c → a.wp T K) ∧ (¬c → b.wp T K) := by
  by_cases h : c <;> simp [h]
@[simp] theorem swp_sq0 : (sq [] Γ).wp T K ↔ K (.nx Γ T) := by simp [So.wp, sq, So.nx]
@[simp] theorem swp_sq {a : Ss} {r : List Ss} : (sq (a :: r) Γ).wp T K ↔ (a Γ).wp T (nxK (fun Γ' T' => (sq r Γ').wp T' K) K) := by
  have e : sq (a :: r) Γ T = (match a Γ T with
    | some (.nx Γ' T') => sq r Γ' T'
    | o => o) := rfl
  unfold So.wp
  rw [e]
  cases a Γ T with
  | none => simp
  | some o => cases o <;> simp [So.wp]
@[simp] theorem swp_skp : (skp Γ).wp T K ↔ K (.nx Γ T) := swp_nx
@[simp] theorem swp_exS {a : Ee} : (exS a Γ).wp T K ↔ (a Γ).wp T (fun _ T' => K (.nx Γ T')) (fun C fs T' => K (.ex C fs Γ T')) := by simp [exS]
@[simp] theorem swp_rtS {a : Ee} : (rtS a Γ).wp T K ↔ (a Γ).wp T (fun d T' => K (.rt d T')) (fun C fs T' => K (.ex C fs Γ T')) := by
  unfold rtS
  rw [swp_of]
  refine iff_of_eq (congrArg (fun f => Mo.wp (a Γ) T f _) ?_)
  funext d T'
  simp [So.wp]
@[simp] theorem swp_rnS : (rnS Γ).wp T K ↔ K (.rt .non T) := by simp [So.wp, rnS]
@[simp] theorem swp_bkS : (bkS Γ).wp T K ↔ K (.bk Γ T) := by simp [So.wp, bkS]
@[simp] theorem swp_ctS : (ctS Γ).wp T K ↔ K (.ct Γ T) := by simp [So.wp, ctS]
@[simp] theorem swp_ifS {t : Tt} {a b : List Ss} : (ifS t a b Γ).wp T K ↔ (t Γ).wp T (fun k T' => (k = true → (sq a Γ).wp T' K) ∧ (k = false → (sq b Γ).wp T' K)) (fun C fs T' => K (.ex C fs Γ T')) := by
  unfold ifS
  rw [swp_of]
  refine iff_of_eq (congrArg (fun f => Mo.wp (t Γ) T f _) ?_)
  funext k T'
  cases k <;> simp
@[simp] theorem swp_stS {i : Nat} {a : Ee} : (stS i a Γ).wp T K ↔ (a Γ).wp T (fun d T' => K (.nx (Γ.set i (some d)) T')) (fun C fs T' => K (.ex C fs Γ T')) := by simp [stS]
@[simp] theorem swp_lcA {i : Nat} {a : Ee} : (lcA i a Γ).wp T K ↔ (a Γ).wp T (fun d T' => K (.nx (Γ.set i (some d)) T')) (fun C fs T' => K (.ex C fs Γ T')) := by simp [lcA]
@[simp] theorem swp_p2S {i j : Nat} {a b : Ee} : (p2S i j [a, b] Γ).wp T K ↔ (a Γ).wp T (fun d T1 => (b Γ).wp T1 (fun d' T2 => K (.nx ((Γ.set i (some d)).set j (some d')) T2)) (fun C fs T' => K (.ex C fs Γ T'))) (fun C fs T' => K (.ex C fs Γ T')) := by simp [p2S]
@[simp] theorem swp_asS {p : En → D → Mo En} {a : Ee} : (asS p a Γ).wp T K ↔ (a Γ).wp T (fun d T1 => (p Γ d).wp T1 (fun Γ' T' => K (.nx Γ' T')) (fun C fs T' => K (.ex C fs Γ T'))) (fun C fs T' => K (.ex C fs Γ T')) := by simp [asS]
/-- a for's turn -/
def foF (t : Tgt) (b : List Ss) (Γ : En) (d : D) : So := match t.put Γ d with
  | some Γ2 => sq b Γ2
  | none => So.no
@[simp] theorem swp_foS {t : Tgt} {src : En → Mo Src} {b : List Ss} : (foS t src b Γ).wp T K ↔ (src Γ).wp T (fun s T' => (forGo (foF t b) s.keeps Γ s.ds).wp T' K) (fun C fs T' => K (.ex C fs Γ T')) := swp_of
theorem swp_foF {t : Tgt} {b : List Ss} {Γ2 : En} (h : t.put Γ d = some Γ2) : (foF t b Γ d).wp T K ↔ (sq b Γ2).wp T K := by unfold foF; rw [h]
end
section
variable {T : List Ob} {E : Ex} {Γ : En} {Pg : Prg} {Q : En → List Ob → Prop}
@[simp] theorem wp_nmP {i : Nat} {d : D} : (nmP i Γ d).wp T Q E ↔ Q (Γ.set i (some d)) T := by simp [nmP]
@[simp] theorem wp_tpP {ts : List (En → D → Mo En)} {ds : List D} : (tpP ts Γ (.tup ds)).wp T Q E ↔ (lP ts Γ ds).wp T Q E := nri Iff.rfl
@[simp] theorem wp_lP0 : (lP [] Γ []).wp T Q E ↔ Q Γ T := by unfold Mo.wp; exact Iff.rfl
@[simp] theorem wp_lP {t : En → D → Mo En} {ts : List (En → D → Mo En)} {d : D} {ds : List D} : (lP (t :: ts) Γ (d :: ds)).wp T Q E ↔ (t Γ d).wp T (fun Γ' T' => (lP ts Γ' ds).wp T' Q E) E := by simp [lP]
@[simp] theorem wp_fdP {o : Ee} {f : Str} {d : D} : (fdP Pg o f Γ d).wp T Q E ↔ (o Γ).wp T (fun x T1 => (fldM Pg x f d).wp T1 (fun _ T2 => Q Γ T2) XF) XF := by simp [fdP]
@[simp] theorem wp_sbP {o i : Ee} {d : D} : (sbP o i Γ d).wp T Q E ↔ (o Γ).wp T (fun x T1 => (i Γ).wp T1 (fun y T2 => (subM x y d).wp T2 (fun _ T3 => Q Γ T3) XF) XF) XF := by simp [sbP]
end
theorem wp_fldM {Pg : Prg} {T : List Ob} {Q : Unit → List Ob → Prop} {E : Ex} {n C : Nat} {gs : List (Str × D)} {f : Str} {v : D} (h : T[n]? = some (.ins C gs)) (hn : Pg.noat C f = true) (hl : gs.length < 1000) : (fldM Pg (.adr n) f v).wp T Q E ↔ Q () (T.set n (.ins C (putD f v gs))) := by
  unfold Mo.wp fldM
  simp [h, hn, hl]
theorem wp_subM {T : List Ob} {Q : Unit → List Ob → Prop} {E : Ex} {n j : Nat} {k : Int} {xs : List D} {v : D} (h : T[n]? = some (.lst xs)) (hk : ixN xs.length k = some j) : (subM (.adr n) (.int k) v).wp T Q E ↔ Q () (T.set n (.lst (xs.set j v))) := by
  unfold Mo.wp subM
  simp [h, hk]
/-- a for, by what stays true: of what is left, of slots and store -/
theorem forGo_wp {f : En → D → So} {keep : List Ob → Bool} {K : Sr → Prop} (I : List D → En → List Ob → Prop) (hk : ∀ r Γ T, I r Γ T → keep T = true) (hs : ∀ d r Γ T, I (d :: r) Γ T → (f Γ d).wp T (lpK (I r) K)) (hq : ∀ Γ T, I [] Γ T → K (.nx Γ T)) : ∀ (ds : List D) (Γ : En) (T : List Ob), I ds Γ T → (forGo f keep Γ ds).wp T K
  | [], Γ, T, h => by
    rw [So.wp_def]
    refine ⟨.nx Γ T, ?_, hq _ _ h⟩
    unfold forGo
    rw [if_pos (hk _ _ _ h)]
  | d :: ds, Γ, T, h => by
    obtain ⟨o, e, p⟩ := So.wp_def.mp (hs d ds Γ T h)
    have go : ∀ o', forGo f keep Γ (d :: ds) T = o' → (∃ r, o' = some r ∧ K r) → (forGo f keep Γ (d :: ds)).wp T K := fun o' h1 h2 => by
      rw [So.wp_def, h1]
      exact h2
    refine go _ (by unfold forGo; rw [if_pos (hk _ _ _ h), e]) ?_
    cases o with
    | nx Γ' T' => exact So.wp_def.mp (forGo_wp I hk hs hq ds Γ' T' p)
    | ct Γ' T' => exact So.wp_def.mp (forGo_wp I hk hs hq ds Γ' T' p)
    | bk Γ' T' => exact ⟨_, rfl, p⟩
    | rt d T' => exact ⟨_, rfl, p⟩
    | ex C fs Γ' T' => exact ⟨_, rfl, p⟩
/-- a while, by what stays true and the turns that are left -/
theorem whileGo_wp {t : En → Mo Bool} {f : En → So} {K : Sr → Prop} (I : Nat → En → List Ob → Prop) (hs : ∀ n Γ T, I n Γ T → (t Γ).wp T (fun b T' => (b = true → ∃ m, n = m + 1 ∧ (f Γ).wp T' (lpK (I m) K)) ∧ (b = false → K (.nx Γ T'))) (fun C fs T' => K (.ex C fs Γ T'))) : ∀ (n N : Nat) (Γ : En) (T : List Ob), n < N → I n Γ T → (whileGo t f N Γ).wp T K
  | _, 0, _, _, hn, _ => absurd hn (Nat.not_lt_zero _)
  | n, N + 1, Γ, T, hn, h => by
    unfold whileGo
    rw [swp_of]
    refine (hs n Γ T h).mono (fun b T' ⟨h1, h2⟩ => ?_) fun _ _ _ z => z
    cases b with
    | false => simpa using h2 rfl
    | true =>
      obtain ⟨m, rfl, hw⟩ := h1 rfl
      obtain ⟨o, e, p⟩ := So.wp_def.mp hw
      rw [So.wp_def]
      simp only [if_true, e]
      cases o with
      | nx Γ' T' => exact So.wp_def.mp (whileGo_wp I hs m N Γ' T' (by omega) p)
      | ct Γ' T' => exact So.wp_def.mp (whileGo_wp I hs m N Γ' T' (by omega) p)
      | bk Γ' T' => exact ⟨_, rfl, p⟩
      | rt d T' => exact ⟨_, rfl, p⟩
      | ex C fs Γ' T' => exact ⟨_, rfl, p⟩
theorem swp_whS {t : Tt} {b : List Ss} {Γ : En} {T : List Ob} {K : Sr → Prop} (I : Nat → En → List Ob → Prop) (n : Nat) (hn : n < 100000) (h : I n Γ T) (hs : ∀ n Γ T, I n Γ T → (t Γ).wp T (fun k T' => (k = true → ∃ m, n = m + 1 ∧ (sq b Γ).wp T' (lpK (I m) K)) ∧ (k = false → K (.nx Γ T'))) (fun C fs T' => K (.ex C fs Γ T'))) : (whS t b Γ).wp T K :=
  whileGo_wp I hs n turns Γ T hn h
/-! ### a def -/
/-- how a def's body may end -/
def fnK (lk : Bool) (T : List Ob) (Q : D → List Ob → Prop) (E : Ex) : Sr → Prop
  | .rt d T' => if lk = true then Q d T' else okT T T' = true ∧ onO (frz T' T.length d) fun d' => Q d' (T'.take T.length)
  | .nx _ T' => if lk = true then Q .non T' else okT T T' = true ∧ Q .non (T'.take T.length)
  | .ex C fs _ T' => if lk = true then E C fs T' else okT T T' = true ∧ onO (frzf T' T.length fs) fun fs' => E C fs' (T'.take T.length)
  | _ => False
section
variable {T T' : List Ob} {Q : D → List Ob → Prop} {E : Ex} {Γ : En} {d : D} {C : Nat} {fs : List (Str × D)}
@[simp] theorem fnK_rt : fnK false T Q E (.rt d T') ↔ okT T T' = true ∧ onO (frz T' T.length d) fun d' => Q d' (T'.take T.length) := by simp [fnK]
@[simp] theorem fnK_rtL : fnK true T Q E (.rt d T') ↔ Q d T' := by simp [fnK]
@[simp] theorem fnK_nx : fnK false T Q E (.nx Γ T') ↔ okT T T' = true ∧ Q .non (T'.take T.length) := by simp [fnK]
@[simp] theorem fnK_nxL : fnK true T Q E (.nx Γ T') ↔ Q .non T' := by simp [fnK]
@[simp] theorem fnK_ex : fnK false T Q E (.ex C fs Γ T') ↔ okT T T' = true ∧ onO (frzf T' T.length fs) fun fs' => E C fs' (T'.take T.length) := by simp [fnK]
@[simp] theorem fnK_exL : fnK true T Q E (.ex C fs Γ T') ↔ E C fs T' := by simp [fnK]
@[simp] theorem fnK_bk {lk : Bool} : fnK lk T Q E (.bk Γ T') ↔ False := by simp [fnK]
@[simp] theorem fnK_ct {lk : Bool} : fnK lk T Q E (.ct Γ T') ↔ False := by simp [fnK]
theorem wp_fnS {np ns : Nat} {lk : Bool} {b : List Ss} {ds : List D} (hl : ds.length = np) : (fnS np ns lk b ds).wp T Q E ↔ (sq b (ds.map some ++ List.replicate (ns - ds.length) none)).wp T (fnK lk T Q E) := by
  unfold fnS Mo.wp So.wp
  rw [if_pos hl]
  cases sq b (ds.map some ++ List.replicate (ns - ds.length) none) T with
  | none => simp
  | some r =>
    cases r with
    | nx Γ T' =>
      cases lk <;> simp [fnK]
      by_cases h : okT T T' = true <;> simp [h]
    | rt d T' =>
      cases lk <;> simp [fnK]
      by_cases h : okT T T' = true
      · cases h2 : frz T' T.length d <;> simp [h, h2]
      · simp [h]
    | ex C fs Γ T' =>
      cases lk <;> simp [fnK]
      by_cases h : okT T T' = true
      · cases h2 : frzf T' T.length fs <;> simp [h, h2]
      · simp [h]
    | bk Γ T' => simp [fnK]
    | ct Γ T' => simp [fnK]
@[simp] theorem wp_f1 {ns : Nat} {lk : Bool} {b : List Ss} {d1 : D} : (fnS 1 ns lk b [d1]).wp T Q E ↔ (sq b (some d1 :: List.replicate (ns - 1) none)).wp T (fnK lk T Q E) := wp_fnS rfl
@[simp] theorem wp_f2 {ns : Nat} {lk : Bool} {b : List Ss} {d1 d2 : D} : (fnS 2 ns lk b [d1, d2]).wp T Q E ↔ (sq b (some d1 :: some d2 :: List.replicate (ns - 2) none)).wp T (fnK lk T Q E) := wp_fnS rfl
@[simp] theorem wp_f3 {ns : Nat} {lk : Bool} {b : List Ss} {d1 d2 d3 : D} : (fnS 3 ns lk b [d1, d2, d3]).wp T Q E ↔ (sq b (some d1 :: some d2 :: some d3 :: List.replicate (ns - 3) none)).wp T (fnK lk T Q E) := wp_fnS rfl
@[simp] theorem wp_f4 {ns : Nat} {lk : Bool} {b : List Ss} {d1 d2 d3 d4 : D} : (fnS 4 ns lk b [d1, d2, d3, d4]).wp T Q E ↔ (sq b (some d1 :: some d2 :: some d3 :: some d4 :: List.replicate (ns - 4) none)).wp T (fnK lk T Q E) := wp_fnS rfl
@[simp] theorem wp_f5 {ns : Nat} {lk : Bool} {b : List Ss} {d1 d2 d3 d4 d5 : D} : (fnS 5 ns lk b [d1, d2, d3, d4, d5]).wp T Q E ↔ (sq b (some d1 :: some d2 :: some d3 :: some d4 :: some d5 :: List.replicate (ns - 5) none)).wp T (fnK lk T Q E) := wp_fnS rfl
@[simp] theorem wp_f6 {ns : Nat} {lk : Bool} {b : List Ss} {d1 d2 d3 d4 d5 d6 : D} : (fnS 6 ns lk b [d1, d2, d3, d4, d5, d6]).wp T Q E ↔ (sq b (some d1 :: some d2 :: some d3 :: some d4 :: some d5 :: some d6 :: List.replicate (ns - 6) none)).wp T (fnK lk T Q E) := wp_fnS rfl
@[simp] theorem wp_f7 {ns : Nat} {lk : Bool} {b : List Ss} {d1 d2 d3 d4 d5 d6 d7 : D} : (fnS 7 ns lk b [d1, d2, d3, d4, d5, d6, d7]).wp T Q E ↔ (sq b (some d1 :: some d2 :: some d3 :: some d4 :: some d5 :: some d6 :: some d7 :: List.replicate (ns - 7) none)).wp T (fnK lk T Q E) := wp_fnS rfl
@[simp] theorem wp_f8 {ns : Nat} {lk : Bool} {b : List Ss} {d1 d2 d3 d4 d5 d6 d7 d8 : D} : (fnS 8 ns lk b [d1, d2, d3, d4, d5, d6, d7, d8]).wp T Q E ↔ (sq b (some d1 :: some d2 :: some d3 :: some d4 :: some d5 :: some d6 :: some d7 :: some d8 :: List.replicate (ns - 8) none)).wp T (fnK lk T Q E) := wp_fnS rfl
end
end RR
set_option maxHeartbeats 1000000
/-! R30: loops over ranges, in that way. -/
namespace RR
open PySem PySem.Spec PyProof.Rows L2
theorem rangeD_succ (lo : Int) (n : Nat) : rangeD lo (n + 1) = .int lo :: rangeD (lo + 1) n := by
  unfold rangeD
  rw [List.range_succ_eq_map, List.map_cons, List.map_map]
  congr 1
  · simp
  · refine List.map_congr_left fun i _ => ?_
    simp only [Function.comp]
    congr 1
    omega
/-- [elt for .. in range(n)]; k: how many are done -/
theorem lcW_range {own : List Nat} {t : Tgt} {elt : Ee} {Γ : En} {T : List Ob} {n : Nat} {Q : List D → List Ob → Prop} {E : Ex} (I : Nat → List Ob → Prop) (P : Nat → D → Prop) (hn : n ≤ sizeLine) (h0 : I 0 T)
    (hs : ∀ k T, k < n → I k T → ∃ Γ2, t.put (wipeE Γ own) (.int (k : Nat)) = some Γ2 ∧ (elt Γ2).wp T (fun y T' => P k y ∧ I (k + 1) T') XF)
    (hq : ∀ ys T', ys.length = n → (∀ k y, ys[k]? = some y → P k y) → I n T' → Q ys T') : (lcGo (lcF own t [] elt Γ) (Src.keeps ⟨rangeD 0 n, none⟩) (rangeD 0 n) []).wp T Q E := by
  refine lcGo_wp (fun r a T' => ∃ k, k ≤ n ∧ r = rangeD (k : Nat) (n - k) ∧ a.length = k ∧ (∀ i y, a[i]? = some y → P i y) ∧ I k T') (fun _ _ _ _ => rfl) (fun d r a T' ⟨k, hk, hr, hl, hp, hI⟩ => ?_) (fun a T' ⟨k, hk, hr, hl, hp, hI⟩ => ?_) _ _ _ ⟨0, Nat.zero_le _, rfl, rfl, fun i y e => by simp at e, h0⟩
  · have hk' : k < n := by
      rcases Nat.lt_or_ge k n with h | h
      · exact h
      · rw [show n - k = 0 by omega] at hr
        cases hr
    rw [show n - k = (n - (k + 1)) + 1 by omega, rangeD_succ] at hr
    obtain ⟨rfl, rfl⟩ := List.cons.inj hr
    obtain ⟨Γ2, h1, h2⟩ := hs k T' hk' hI
    rw [wp_lcF0 h1]
    refine h2.mono (fun y T2 ⟨p, i⟩ => ⟨by omega, k + 1, hk', by push_cast; rfl, by rw [List.length_append, hl]; rfl, fun j z hz => ?_, i⟩) fun _ _ _ z => z
    by_cases hj : j < a.length
    · rw [List.getElem?_append_left hj] at hz
      exact hp j z hz
    · rw [List.getElem?_append_right (by omega)] at hz
      have : j = a.length := by
        rcases Nat.lt_or_ge (j - a.length) 1 with h | h
        · omega
        · rw [List.getElem?_eq_none (by simpa using h)] at hz
          cases hz
      subst this
      simp at hz
      subst hz
      rw [hl]
      exact p
  · have : n - k = 0 := by
      have := congrArg List.length hr
      rw [rangeD_len] at this
      exact this.symm
    have e : k = n := by omega
    subst e
    exact hq a T' hl hp hI
/-- .. whose turns leave the store as it is -/
theorem lcW_rangeP {own : List Nat} {t : Tgt} {elt : Ee} {Γ : En} {T : List Ob} {n : Nat} {Q : List D → List Ob → Prop} {E : Ex} (g : Nat → D) (hn : n ≤ sizeLine)
    (hs : ∀ k, k < n → ∃ Γ2, t.put (wipeE Γ own) (.int (k : Nat)) = some Γ2 ∧ (elt Γ2).wp T (fun y T' => y = g k ∧ T' = T) XF)
    (hq : Q ((List.range n).map g) T) : (lcGo (lcF own t [] elt Γ) (Src.keeps ⟨rangeD 0 n, none⟩) (rangeD 0 n) []).wp T Q E := by
  refine lcW_range (fun _ T' => T' = T) (fun k y => y = g k) hn rfl (fun k T' hk e => ?_) fun ys T' hl hp e => ?_
  · subst e
    obtain ⟨Γ2, h1, h2⟩ := hs k hk
    exact ⟨Γ2, h1, h2⟩
  · subst e
    have : ys = (List.range n).map g := by
      refine List.ext_getElem? fun i => ?_
      by_cases hi : i < n
      · rw [List.getElem?_map, List.getElem?_range hi]
        have := List.getElem?_eq_getElem (l := ys) (i := i) (by omega)
        rw [this]
        exact congrArg some (hp i _ this)
      · rw [List.getElem?_eq_none (by omega), List.getElem?_eq_none (by simpa using hi)]
    rw [this] at *
    exact hq
/-- for .. in range(lo, lo + n) -/
theorem foW_range {t : Tgt} {b : List Ss} {Γ : En} {T : List Ob} {lo : Int} {n : Nat} {K : Sr → Prop} (I : Nat → En → List Ob → Prop) (h0 : I 0 Γ T)
    (hs : ∀ k Γ T, k < n → I k Γ T → ∃ Γ2, t.put Γ (.int (lo + (k : Nat))) = some Γ2 ∧ (sq b Γ2).wp T (lpK (I (k + 1)) K))
    (hq : ∀ Γ T, I n Γ T → K (.nx Γ T)) : (forGo (foF t b) (Src.keeps ⟨rangeD lo n, none⟩) Γ (rangeD lo n)).wp T K := by
  refine forGo_wp (fun r Γ T => ∃ k, k ≤ n ∧ r = rangeD (lo + (k : Nat)) (n - k) ∧ I k Γ T) (fun _ _ _ _ => rfl) (fun d r Γ T ⟨k, hk, hr, hI⟩ => ?_) (fun Γ T ⟨k, hk, hr, hI⟩ => ?_) _ _ _ ⟨0, Nat.zero_le _, by simp, h0⟩
  · have hk' : k < n := by
      rcases Nat.lt_or_ge k n with h | h
      · exact h
      · rw [show n - k = 0 by omega] at hr
        cases hr
    rw [show n - k = (n - (k + 1)) + 1 by omega, rangeD_succ] at hr
    obtain ⟨rfl, rfl⟩ := List.cons.inj hr
    obtain ⟨Γ2, h1, h2⟩ := hs k Γ T hk' hI
    rw [swp_foF h1]
    refine h2.mono fun o => ?_
    have e : rangeD (lo + (k : Nat) + 1) (n - (k + 1)) = rangeD (lo + ((k + 1 : Nat) : Int)) (n - (k + 1)) := by
      congr 1
      push_cast
      omega
    cases o with
    | nx Γ' T' => exact fun p => ⟨k + 1, hk', e, p⟩
    | ct Γ' T' => exact fun p => ⟨k + 1, hk', e, p⟩
    | bk Γ' T' => exact fun p => p
    | rt d T' => exact fun p => p
    | ex C fs Γ' T' => exact fun p => p
  · have : n - k = 0 := by
      have := congrArg List.length hr
      rw [rangeD_len] at this
      exact this.symm
    have e : k = n := by omega
    subst e
    exact hq Γ T hI
end RR
set_option maxHeartbeats 1000000
/-! R31: the operations on data of a known form, as rules of simp. -/
namespace RR
open PySem PySem.Spec PyProof.Rows L2
section
variable {T : List Ob} {Pg : Prg} {Φ : Str → List D → Mo D} {Q : D → List Ob → Prop} {E : Ex}
/-! ### views -/
@[simp] theorem vw_non : vw T .non = some .non := nr rfl
@[simp] theorem vw_bl {b : Bool} : vw T (.bl b) = some (.bl b) := nr rfl
@[simp] theorem vw_int {i : Int} : vw T (.int i) = some (.int i) := nr rfl
@[simp] theorem vw_str {s : Str} : vw T (.str s) = some (.str s) := nr rfl
@[simp] theorem vw_lst' {ds : List D} : vw T (.lst ds) = some (.lst ds) := nr rfl
@[simp] theorem vw_tup' {ds : List D} : vw T (.tup ds) = some (.tup ds) := nr rfl
@[simp] theorem vw_dct' {ds : List (Key × D)} : vw T (.dct ds) = some (.dct ds) := nr rfl
@[simp] theorem vw_obj {C : Nat} {fs : List (Str × D)} : vw T (.obj C fs) = some (.obj C fs) := nr rfl
@[simp] theorem vw_ty {n : String} : vw T (.ty n) = some (.ty n) := nr rfl
@[simp] theorem vw_cls {C : Nat} : vw T (.cls C) = some (.cls C) := nr rfl
theorem vw_at {n : Nat} {ds : List D} (h : T[n]? = some (.lst ds)) : vw T (.adr n) = some (.lst ds) := by simp [vw, h]
theorem vw_atd {n : Nat} {ds : List (Key × D)} (h : T[n]? = some (.dct ds)) : vw T (.adr n) = some (.dct ds) := by simp [vw, h]
@[simp] theorem insO_non : insO T .non = none := by simp [insO]
@[simp] theorem insO_bl {b : Bool} : insO T (.bl b) = none := by simp [insO]
@[simp] theorem insO_int {i : Int} : insO T (.int i) = none := by simp [insO]
@[simp] theorem insO_str {s : Str} : insO T (.str s) = none := by simp [insO]
@[simp] theorem insO_lst {ds : List D} : insO T (.lst ds) = none := by simp [insO]
@[simp] theorem insO_tup {ds : List D} : insO T (.tup ds) = none := by simp [insO]
@[simp] theorem insO_dct {ds : List (Key × D)} : insO T (.dct ds) = none := by simp [insO]
@[simp] theorem insO_ty {n : String} : insO T (.ty n) = none := by simp [insO]
@[simp] theorem insO_cls {C : Nat} : insO T (.cls C) = none := by simp [insO]
@[simp] theorem insO_obj {C : Nat} {fs : List (Str × D)} : insO T (.obj C fs) = some (C, fs) := by simp [insO]
theorem insO_at {n : Nat} {ds : List D} (h : T[n]? = some (.lst ds)) : insO T (.adr n) = none := by simp [insO, h]
theorem insO_atd {n : Nat} {ds : List (Key × D)} (h : T[n]? = some (.dct ds)) : insO T (.adr n) = none := by simp [insO, h]
theorem insO_ati {n C : Nat} {fs : List (Str × D)} (h : T[n]? = some (.ins C fs)) : insO T (.adr n) = some (C, fs) := by simp [insO, h]
/-! ### truth -/
@[simp] theorem tru_non : truO T .non = some false := nr rfl
@[simp] theorem tru_bl {b : Bool} : truO T (.bl b) = some b := nr rfl
@[simp] theorem tru_int {i : Int} : truO T (.int i) = some (i != 0) := nr rfl
@[simp] theorem tru_lst {ds : List D} : truO T (.lst ds) = some !ds.isEmpty := nr rfl
@[simp] theorem tru_tup {ds : List D} : truO T (.tup ds) = some !ds.isEmpty := nr rfl
/-! ### operators -/
@[simp] theorem add_ii {i j : Int} : binO .Add T (.int i) (.int j) = some (.int (i + j)) := nr rfl
@[simp] theorem add_tt {a b : List D} : binO .Add T (.tup a) (.tup b) = if a.length + b.length ≤ sizeLine then some (.tup (a ++ b)) else none := nr rfl
@[simp] theorem add_ll {a b : List D} : binO .Add T (.lst a) (.lst b) = if a.length + b.length ≤ sizeLine then some (.lst (a ++ b)) else none := nr rfl
@[simp] theorem add_ss {a b : Str} : binO .Add T (.str a) (.str b) = if a.length + b.length ≤ sizeLine then some (.str (a ++ b)) else none := nr rfl
@[simp] theorem sub_ii {i j : Int} : binO .Sub T (.int i) (.int j) = some (.int (i - j)) := nr rfl
@[simp] theorem mul_ii {i j : Int} : binO .Mult T (.int i) (.int j) = if CMul i j ∨ CMulW i j then some (.int (i * j)) else none := nr rfl
@[simp] theorem mul_ti {a : List D} {k : Int} : binO .Mult T (.tup a) (.int k) = if a.length ≤ 1000 ∧ -1000 ≤ k ∧ k ≤ 1000 then some (.tup (repD a k)) else none := nr rfl
@[simp] theorem mul_li {a : List D} {k : Int} : binO .Mult T (.lst a) (.int k) = if a.length ≤ 1000 ∧ -1000 ≤ k ∧ k ≤ 1000 then some (.lst (repD a k)) else none := nr rfl
@[simp] theorem div_ii {i j : Int} : binO .FloorDiv T (.int i) (.int j) = if CDivW i j then some (.int (i / j)) else none := nr rfl
@[simp] theorem mod_ii {i j : Int} : binO .Mod T (.int i) (.int j) = if 0 < j then some (.int (i % j)) else none := nr rfl
@[simp] theorem pow_ii {i j : Int} : binO .Pow T (.int i) (.int j) = if CPow i j then some (.int (i ^ j.toNat)) else none := nr rfl
@[simp] theorem neg_i {i : Int} : negO (.int i) = some (.int (-i)) := nr rfl
/-! ### comparisons -/
@[simp] theorem lt_ii {i j : Int} : cmpO .Lt T (.int i) (.int j) = some (decide (i < j)) := nr rfl
@[simp] theorem le_ii {i j : Int} : cmpO .LtE T (.int i) (.int j) = some (decide (i ≤ j)) := nr rfl
@[simp] theorem gt_ii {i j : Int} : cmpO .Gt T (.int i) (.int j) = some (decide (j < i)) := nr rfl
@[simp] theorem ge_ii {i j : Int} : cmpO .GtE T (.int i) (.int j) = some (decide (j ≤ i)) := nr rfl
@[simp] theorem lt_ss {i j : Str} : cmpO .Lt T (.str i) (.str j) = some (decide (i.cps.toList < j.cps.toList)) := nr rfl
@[simp] theorem eq_ii {i j : Int} : cmpO .Eq T (.int i) (.int j) = some (decide (i = j)) := by
  have : eqD (.int i) (.int j) = decide (i = j) := by rw [Bool.eq_iff_iff]; simp [eqD, toPy, PyData.eqv]
  simp [cmpO, v2, eqO, scalD, this]
@[simp] theorem eq_ss {i j : Str} : cmpO .Eq T (.str i) (.str j) = some (decide (i = j)) := by
  have : eqD (.str i) (.str j) = decide (i = j) := by rw [Bool.eq_iff_iff]; simp [eqD, toPy, PyData.eqv]
  simp [cmpO, v2, eqO, scalD, this]
@[simp] theorem eq_bb {i j : Bool} : cmpO .Eq T (.bl i) (.bl j) = some (i == j) := by
  have : eqD (.bl i) (.bl j) = (i == j) := by simp [eqD, toPy, PyData.eqv]
  simp [cmpO, v2, eqO, scalD, this]
@[simp] theorem eq_tt {a b : List D} : cmpO .Eq T (.tup a) (.tup b) = if shp (.tup a) = true ∧ shp (.tup b) = true then some (eqD (.tup a) (.tup b)) else none := by simp [cmpO, v2, eqO, scalD]
@[simp] theorem eq_ll {a b : List D} : cmpO .Eq T (.lst a) (.lst b) = if shp (.lst a) = true ∧ shp (.lst b) = true then some (eqD (.lst a) (.lst b)) else none := by simp [cmpO, v2, eqO, scalD]
@[simp] theorem ne_of_eq {x y : D} : cmpO .NotEq T x y = (cmpO .Eq T x y).map (!·) := nr rfl
@[simp] theorem is_non {x : D} : cmpO .Is T x .non = some (isN x) := nr rfl
@[simp] theorem isnt_non {x : D} : cmpO .IsNot T x .non = some (!isN x) := nr rfl
@[simp] theorem isN_non : isN .non = true := nr rfl
@[simp] theorem isN_str {s : Str} : isN (.str s) = false := nr rfl
@[simp] theorem isN_int {s : Int} : isN (.int s) = false := nr rfl
@[simp] theorem isN_bl {s : Bool} : isN (.bl s) = false := nr rfl
@[simp] theorem isN_tup {s : List D} : isN (.tup s) = false := nr rfl
@[simp] theorem isN_lst {s : List D} : isN (.lst s) = false := nr rfl
@[simp] theorem isN_obj {C : Nat} {fs : List (Str × D)} : isN (.obj C fs) = false := nr rfl
@[simp] theorem isN_adr {C : Nat} : isN (.adr C) = false := nr rfl
@[simp] theorem notin_of {x y : D} : cmpO .NotIn T x y = (cmpO .In T x y).map (!·) := nr rfl
@[simp] theorem in_t {x : D} {es : List D} (h : ∀ n, x ≠ .adr n) : cmpO .In T x (.tup es) = if shp x = true ∧ shp (.tup es) = true then some (es.any fun e => eqD e x) else none := by
  have : vw T x = some x := by cases x <;> first | rfl | exact absurd rfl (h _)
  simp [cmpO, v2, this, inO]
@[simp] theorem in_l {x : D} {es : List D} (h : ∀ n, x ≠ .adr n) : cmpO .In T x (.lst es) = if shp x = true ∧ shp (.lst es) = true then some (es.any fun e => eqD e x) else none := by
  have : vw T x = some x := by cases x <;> first | rfl | exact absurd rfl (h _)
  simp [cmpO, v2, this, inO]
/-! ### subscripts -/
@[simp] theorem ix_li {ds : List D} {i : Int} : ixO (.lst ds) (.int i) = atI ds i := nr rfl
@[simp] theorem ix_ti {ds : List D} {i : Int} : ixO (.tup ds) (.int i) = atI ds i := nr rfl
@[simp] theorem sl_l {ds : List D} {lo hi : Option Int} : slO (.lst ds) lo hi = some (.lst (cutD ds lo hi)) := nr rfl
@[simp] theorem sl_t {ds : List D} {lo hi : Option Int} : slO (.tup ds) lo hi = some (.tup (cutD ds lo hi)) := nr rfl
/-! ### built-ins -/
@[simp] theorem bi_len {x : D} (h : insO T x = none) : (biM Pg Φ .len [x]).wp T Q E ↔ onO (((vw T x).bind fun x => (lenO x).map D.int)) fun z => Q z T := by
  rw [wp_biM (by simp [lenF, h])]
  rfl
@[simp] theorem bi_abs {i : Int} : (biM Pg Φ .abs [.int i]).wp T Q E ↔ Q (.int (if i < 0 then -i else i)) T := by
  rw [wp_biM rfl]
  simp [biP, biO, bi1]
@[simp] theorem bi_repr {x : D} : (biM Pg Φ .repr [x]).wp T Q E ↔ onO (((vw T x).bind fun x => if shwB x = true then some (.str (sh x)) else none)) fun z => Q z T := by
  rw [wp_biM rfl]
  rfl
@[simp] theorem bi_tuple {x : D} : (biM Pg Φ .tuple [x]).wp T Q E ↔ onO (((vw T x).bind fun x => (seqO x).map D.tup)) fun z => Q z T := by
  rw [wp_biM rfl]
  rfl
@[simp] theorem bi_list {x : D} : (biM Pg Φ .list [x]).wp T Q E ↔ onO (((vw T x).bind fun x => (seqO x).map D.lst)) fun z => Q z T := by
  rw [wp_biM rfl]
  rfl
@[simp] theorem bi_all {ds : List D} : (biM Pg Φ .all [.lst ds]).wp T Q E ↔ onO (((blsO ds).map fun bs => D.bl (bs.all id))) fun z => Q z T := by
  rw [wp_biM rfl]
  rfl
@[simp] theorem bi_any {ds : List D} : (biM Pg Φ .any [.lst ds]).wp T Q E ↔ onO (((blsO ds).map fun bs => D.bl (bs.any id))) fun z => Q z T := by
  rw [wp_biM rfl]
  rfl
@[simp] theorem bi_sorted {x : D} : (biM Pg Φ .sorted [x]).wp T Q E ↔ onO (((vw T x).bind fun x => bi1 .sorted x)) fun z => Q z T := by
  rw [wp_biM rfl]
  rfl
@[simp] theorem bi_min {ds : List D} : (biM Pg Φ .min [.lst ds]).wp T Q E ↔ onO (((intsO ds).bind fun is => (minI is).map D.int)) fun z => Q z T := by
  rw [wp_biM rfl]
  rfl
@[simp] theorem bi_int_b {b : Bool} : (biM Pg Φ .int [.bl b]).wp T Q E ↔ Q (.int (if b = true then 1 else 0)) T := by
  rw [wp_biM rfl]
  simp [biP, biO, bi1]
@[simp] theorem bi_int_i {b : Int} : (biM Pg Φ .int [.int b]).wp T Q E ↔ Q (.int b) T := by
  rw [wp_biM rfl]
  simp [biP, biO, bi1]
@[simp] theorem bi_max2 {i j : Int} : (biM Pg Φ .max [.int i, .int j]).wp T Q E ↔ Q (.int (if j > i then j else i)) T := by
  rw [wp_biM rfl]
  simp [biP, biO, bi2]
@[simp] theorem bi_min2 {i j : Int} : (biM Pg Φ .min [.int i, .int j]).wp T Q E ↔ Q (.int (if j < i then j else i)) T := by
  rw [wp_biM rfl]
  simp [biP, biO, bi2]
@[simp] theorem eqD_ii {i j : Int} : eqD (.int i) (.int j) = decide (i = j) := by rw [Bool.eq_iff_iff]; simp [eqD, toPy, PyData.eqv]
@[simp] theorem eqD_ss {i j : Str} : eqD (.str i) (.str j) = decide (i = j) := by rw [Bool.eq_iff_iff]; simp [eqD, toPy, PyData.eqv]
theorem bi_isC {x : D} {C : Nat} : (biM Pg Φ .isinstance [x, .cls C]).wp T Q E ↔ onO (((isOwnO Pg T x C).map D.bl)) fun z => Q z T := by
  rw [wp_biM rfl]
  rfl
@[simp] theorem len_lst {ds : List D} : lenO (.lst ds) = some (ds.length : Int) := nr rfl
@[simp] theorem len_tup {ds : List D} : lenO (.tup ds) = some (ds.length : Int) := nr rfl
@[simp] theorem len_dct {ds : List (Key × D)} : lenO (.dct ds) = some (ds.length : Int) := nr rfl
@[simp] theorem len_str {z : Str} : lenO (.str z) = if z.length ≤ sizeLine then some (z.length : Int) else none := nr rfl
@[simp] theorem seq_lst {ds : List D} : seqO (.lst ds) = some ds := nr rfl
@[simp] theorem seq_tup {ds : List D} : seqO (.tup ds) = some ds := nr rfl
/-! ### what is walked -/
@[simp] theorem srcL {ds : List D} : srcO T (.lst ds) = some ⟨ds, none⟩ := nr rfl
@[simp] theorem srcT {ds : List D} : srcO T (.tup ds) = some ⟨ds, none⟩ := nr rfl
@[simp] theorem srcX {x : Str} : srcO T (.str x) = some ⟨signs x, none⟩ := nr rfl
theorem srcA {n : Nat} {ds : List D} (h : T[n]? = some (.lst ds)) : srcO T (.adr n) = some ⟨ds, some n⟩ := by simp [srcO, h]
theorem p62 : (2 : Int) ^ 62 = 4611686018427387904 := by decide
@[simp] theorem rng1 {n : Int} : rng1O (.int n) = if -4611686018427387904 ≤ n ∧ n < 4611686018427387904 then some ⟨rangeD 0 n.toNat, none⟩ else none := by
  unfold rng1O
  rw [p62]
@[simp] theorem rng2 {i j : Int} : rng2O (.int i) (.int j) = if -4611686018427387904 ≤ i ∧ i < 4611686018427387904 ∧ -4611686018427387904 ≤ j ∧ j < 4611686018427387904 then some ⟨rangeD i (j - i).toNat, none⟩ else none := by
  unfold rng2O
  rw [p62]
@[simp] theorem rgL_int {n : Int} : rgL (.int n) = if 0 ≤ n ∧ n ≤ 16000000 then some (.lst (rangeD 0 n.toNat)) else none := nr rfl
@[simp] theorem enu_l {ds : List D} : enumO (.lst ds) = some ⟨enumD ds, none⟩ := nr rfl
@[simp] theorem enu_t {ds : List D} : enumO (.tup ds) = some ⟨enumD ds, none⟩ := nr rfl
@[simp] theorem zip_l {a b : List D} : zipO (.lst a) (.lst b) = some ⟨zipD a b, none⟩ := nr rfl
@[simp] theorem zip_t {a b : List D} : zipO (.tup a) (.tup b) = some ⟨zipD a b, none⟩ := nr rfl
end
/-! ### leaving a def -/
theorem zip_app (n : Nat) : ∀ (T l : List Ob), ((T.zip (T ++ l)).all fun p => Ob.same p.1 p.2 || belO n p.2) = true
  | [], _ => rfl
  | o :: T, l => by
    rw [List.cons_append, List.zip_cons_cons, List.all_cons, zip_app n T l]
    simp [osame_refl]
theorem okT_app (T l : List Ob) : okT T (T ++ l) = true := by
  unfold okT
  simp [zip_app]
theorem take_app (T l : List Ob) : (T ++ l).take T.length = T := by simp
@[simp] theorem frz_non {T : List Ob} {n : Nat} : frz T n .non = some .non := by simp [frz]
@[simp] theorem frz_bl {T : List Ob} {n : Nat} {b : Bool} : frz T n (.bl b) = some (.bl b) := by simp [frz]
@[simp] theorem frz_int {T : List Ob} {n : Nat} {b : Int} : frz T n (.int b) = some (.int b) := by simp [frz]
@[simp] theorem frz_str {T : List Ob} {n : Nat} {b : Str} : frz T n (.str b) = some (.str b) := by simp [frz]
mutual
theorem bel_plain {n : Nat} : ∀ d : D, plainD d = true → bel n d = true
  | .non, _ => by simp [bel]
  | .bl _, _ => by simp [bel]
  | .int _, _ => by simp [bel]
  | .str _, _ => by simp [bel]
  | .lst ds, h => by simp [bel, bels_plain ds (by simpa [plainD] using h)]
  | .tup ds, h => by simp [bel, bels_plain ds (by simpa [plainD] using h)]
  | .ty _, h => by simp [plainD] at h
  | .dct _, h => by simp [plainD] at h
  | .obj _ _, h => by simp [plainD] at h
  | .cls _, h => by simp [plainD] at h
  | .fn _, h => by simp [plainD] at h
  | .adr _, h => by simp [plainD] at h
theorem bels_plain {n : Nat} : ∀ ds : List D, plainDs ds = true → bels n ds = true
  | [], _ => by simp [bels]
  | d :: ds, h => by
    simp only [plainDs, Bool.and_eq_true] at h
    simp [bels, bel_plain d h.1, bels_plain ds h.2]
end
end RR
set_option maxHeartbeats 1000000
/-! R32: data fit to be shown and compared. -/
namespace RR
open PySem PySem.Spec PyProof.Rows L2
theorem len_listText (ts : List Str) : (listText ts).length ≤ piled ts + 2 := by
  have h : (listText ts).length = (textFrom 0 "[" ts).length + 1 := by
    show (textFrom 0 "[" ts ++ "]").length = _
    rw [strLen_append]; rfl
  rw [h]
  cases ts with
  | nil => decide +kernel
  | cons t r =>
    have e : textFrom 0 "[" (t :: r) = textFrom 1 (("[" : Str) ++ ("" : String) ++ t) r := rfl
    rw [e, textFrom_length_pos r 1 _ (by decide), strLen_append, strLen_append, piled_cons]
    have e1 : (("[" : String) : Str).length = 1 := rfl
    have e2 : (("" : String) : Str).length = 0 := rfl
    omega
mutual
def wtD : D → Nat
  | .int i => if 0 ≤ i ∧ i < 10 ^ 100 then 100 else (toString i : Str).length
  | .str s => 10 * s.length + 2
  | .lst ds => wtDs ds + 2
  | .tup ds => wtDs ds + 2
  | _ => 5
def wtDs : List D → Nat
  | [] => 0
  | d :: ds => wtD d + 2 + wtDs ds
end
mutual
/-- texts of real signs -/
def inkD : D → Bool
  | .str s => s.cps.toList.all fun c => decide (c < 0x110000)
  | .lst ds => inkDs ds
  | .tup ds => inkDs ds
  | _ => true
def inkDs : List D → Bool
  | [] => true
  | d :: ds => inkD d && inkDs ds
end
theorem sh_tuple_len (ts : List Str) : (tupleText ts).length ≤ piled ts + 2 := by
  have e3 : (((if ts.length == 1 then ",)" else ")" : String) : Str)).length ≤ 2 := by split <;> decide +kernel
  have e1 : ((("(" : String) : Str)).length = 1 := rfl
  unfold tupleText
  rw [strLen_append, strLen_append, e1]
  by_cases h : ts = []
  · subst h
    decide +kernel
  · have := join_length_add ts h
    omega
mutual
theorem sh_len : ∀ d : D, plainD d = true → inkD d = true → (sh d).length ≤ wtD d
  | .non, _, _ => by show (("None" : String) : Str).length ≤ _; simp only [wtD]; decide +kernel
  | .bl b, _, _ => by
    have e : sh (.bl b) = if b then (("True" : String) : Str) else (("False" : String) : Str) := by simp [sh, toPy, PyData.shown]
    rw [e]
    simp only [wtD]
    cases b <;> decide +kernel
  | .int i, _, _ => by
    have e : sh (.int i) = (toString i : String) := by simp [sh, toPy, PyData.shown]
    rw [e]
    simp only [wtD]
    split
    · rename_i h
      exact PyProof.Rows.toString_length_le h.1 (by decide) h.2
    · exact Nat.le_refl _
  | .str s, _, h => by
    have e : sh (.str s) = reprText s := by simp [sh, toPy, PyData.shown]
    rw [e]
    simp only [wtD]
    exact StrLaws.reprText_len s fun c hc => Nat.lt_trans (of_decide_eq_true (List.all_eq_true.mp (by simpa only [inkD] using h) c hc)) (by decide)
  | .lst ds, p, h => by
    have e : sh (.lst ds) = listText (PyData.shownAll (toPys ds)) := by simp [sh, toPy, PyData.shown]
    rw [e]
    have h1 := len_listText (PyData.shownAll (toPys ds))
    have h2 := shs_len ds (by simpa only [plainD] using p) (by simpa only [inkD] using h)
    simp only [wtD]
    omega
  | .tup ds, p, h => by
    have e : sh (.tup ds) = tupleText (PyData.shownAll (toPys ds)) := by simp [sh, toPy, PyData.shown]
    rw [e]
    have h1 := sh_tuple_len (PyData.shownAll (toPys ds))
    have h2 := shs_len ds (by simpa only [plainD] using p) (by simpa only [inkD] using h)
    simp only [wtD]
    omega
  | .dct _, p, _ => by simp [plainD] at p
  | .obj _ _, p, _ => by simp [plainD] at p
  | .adr _, p, _ => by simp [plainD] at p
  | .ty _, p, _ => by simp [plainD] at p
  | .cls _, p, _ => by simp [plainD] at p
  | .fn _, p, _ => by simp [plainD] at p
theorem shs_len : ∀ ds : List D, plainDs ds = true → inkDs ds = true → piled (PyData.shownAll (toPys ds)) ≤ wtDs ds
  | [], _, _ => by simp [toPys, PyData.shownAll, wtDs, piled]
  | d :: ds, p, h => by
    simp only [plainDs, Bool.and_eq_true] at p
    simp only [inkDs, Bool.and_eq_true] at h
    have h1 := sh_len d p.1 h.1
    have h2 := shs_len ds p.2 h.2
    have h1' : ((toPy d).shown).length ≤ wtD d := h1
    simp only [toPys, PyData.shownAll, piled_cons, wtDs]
    omega
end
structure Fit (b n : Nat) (d : D) : Prop where
  plain : plainD d = true
  ink : inkD d = true
  wt : wtD d ≤ b
  showable : (toPy d).showable = true
  deep : (toPy d).depth ≤ n
structure Fits (b n : Nat) (ds : List D) : Prop where
  plain : plainDs ds = true
  ink : inkDs ds = true
  wt : wtDs ds ≤ ds.length * (b + 2)
  showable : PyData.showableAll (toPys ds) = true
  deep : PyData.depthAll (toPys ds) ≤ n
theorem fits_of {b n : Nat} : ∀ {ds : List D}, (∀ e ∈ ds, Fit b n e) → Fits b n ds
  | [], _ => ⟨by simp [plainDs], by simp [inkDs], by simp [wtDs], by simp [toPys, PyData.showableAll], by simp [toPys, PyData.depthAll]⟩
  | d :: ds, h => by
    have a := h d List.mem_cons_self
    have b := fits_of fun e he => h e (List.mem_cons_of_mem _ he)
    refine ⟨by simp [plainDs, a.plain, b.plain], by simp [inkDs, a.ink, b.ink], ?_, by simp [toPys, PyData.showableAll, a.showable, b.showable], ?_⟩
    · have h1 := a.wt
      have h2 := b.wt
      simp only [wtDs, List.length_cons, Nat.add_mul, Nat.one_mul]
      omega
    · have h1 := a.deep
      have h2 := b.deep
      simp only [toPys, PyData.depthAll]
      omega
theorem Fit.up {b b' n n' : Nat} {d : D} (h : Fit b n d) (hb : b ≤ b') (hn : n ≤ n') : Fit b' n' d := ⟨h.plain, h.ink, Nat.le_trans h.wt hb, h.showable, Nat.le_trans h.deep hn⟩
theorem Fit.tup {b n k : Nat} {ds : List D} (hl : ds.length ≤ k) (h : ∀ e ∈ ds, Fit b n e) : Fit (k * (b + 2) + 2) (n + 1) (.tup ds) := by
  have f := fits_of h
  have h1 := f.wt
  have h2 : ds.length * (b + 2) ≤ k * (b + 2) := Nat.mul_le_mul_right _ hl
  have h3 := f.deep
  exact ⟨by simp only [plainD]; exact f.plain, by simp only [inkD]; exact f.ink, by simp only [wtD]; omega, by simp only [toPy, PyData.showable]; exact f.showable, by simp only [toPy, PyData.depth]; omega⟩
theorem Fit.lst {b n k : Nat} {ds : List D} (hl : ds.length ≤ k) (h : ∀ e ∈ ds, Fit b n e) : Fit (k * (b + 2) + 2) (n + 1) (.lst ds) := by
  have f := fits_of h
  have h1 := f.wt
  have h2 : ds.length * (b + 2) ≤ k * (b + 2) := Nat.mul_le_mul_right _ hl
  have h3 := f.deep
  exact ⟨by simp only [plainD]; exact f.plain, by simp only [inkD]; exact f.ink, by simp only [wtD]; omega, by simp only [toPy, PyData.showable]; exact f.showable, by simp only [toPy, PyData.depth]; omega⟩
theorem Fit.shw {b n : Nat} {d : D} (f : Fit b n d) (hb : b ≤ sizeLine) (hn : n ≤ 60) : Shw d := by
  refine ⟨.inl f.plain, f.showable, ?_, by have := f.deep; omega⟩
  have h1 := sh_len d f.plain f.ink
  have h2 := f.wt
  omega
theorem Fit.shwB {b n : Nat} {d : D} (f : Fit b n d) (hb : b ≤ sizeLine) (hn : n ≤ 60) : RR.shwB d = true := shwB_ok.mpr (f.shw hb hn)
mutual
theorem lay_of : ∀ d : D, plainD d = true → inkD d = true → (toPy d).canLay0 = true
  | .non, _, _ => by simp [toPy, PyData.canLay0]
  | .bl _, _, _ => by simp [toPy, PyData.canLay0]
  | .int _, _, _ => by simp [toPy, PyData.canLay0]
  | .str s, _, h => by
    simp only [toPy, PyData.canLay0, PyData.strOk]
    rw [Array.all_eq_true_iff_forall_mem]
    intro c hc
    simp only [inkD] at h
    exact List.all_eq_true.mp h c (Array.mem_def.mp hc)
  | .lst ds, p, h => by
    simp only [toPy, PyData.canLay0]
    exact lays_of ds (by simpa only [plainD] using p) (by simpa only [inkD] using h)
  | .tup ds, p, h => by
    simp only [toPy, PyData.canLay0]
    exact lays_of ds (by simpa only [plainD] using p) (by simpa only [inkD] using h)
  | .dct _, p, _ => by simp [plainD] at p
  | .obj _ _, p, _ => by simp [plainD] at p
  | .adr _, p, _ => by simp [plainD] at p
  | .ty _, p, _ => by simp [plainD] at p
  | .cls _, p, _ => by simp [plainD] at p
  | .fn _, p, _ => by simp [plainD] at p
theorem lays_of : ∀ ds : List D, plainDs ds = true → inkDs ds = true → PyData.canLayAll0 (toPys ds) = true
  | [], _, _ => by simp [toPys, PyData.canLayAll0]
  | d :: ds, p, h => by
    simp only [plainDs, Bool.and_eq_true] at p
    simp only [inkDs, Bool.and_eq_true] at h
    simp only [toPys, PyData.canLayAll0, lay_of d p.1 h.1, lays_of ds p.2 h.2, Bool.and_self]
end
theorem Fit.shp {b n : Nat} {d : D} (f : Fit b n d) (hn : n ≤ 64) : RR.shp d = true := by
  unfold RR.shp SeqAt.shaped
  have := f.deep
  rw [lay_of d f.plain f.ink]
  simp
  omega
theorem Fit.non {b n : Nat} (hb : 5 ≤ b) : Fit b n .non := ⟨by simp [plainD], by simp [inkD], by simpa [wtD] using hb, by simp [toPy, PyData.showable], by simp [toPy, PyData.depth]⟩
theorem Fit.bl {b n : Nat} {k : Bool} (hb : 5 ≤ b) : Fit b n (.bl k) := ⟨by simp [plainD], by simp [inkD], by simpa [wtD] using hb, by simp [toPy, PyData.showable], by simp [toPy, PyData.depth]⟩
theorem Fit.int {b n : Nat} {k : Int} (h0 : 0 ≤ k) (h1 : k < 10 ^ 100) (hb : 100 ≤ b) : Fit b n (.int k) := by
  refine ⟨by simp [plainD], by simp [inkD], ?_, ?_, by simp [toPy, PyData.depth]⟩
  · simp only [wtD]
    rw [if_pos ⟨h0, h1⟩]
    exact hb
  · simp only [toPy, PyData.showable, decide_eq_true_eq]
    have h2 : k.natAbs < 10 ^ 100 := by omega
    have h3 : k.natAbs < 2 ^ 400 := Nat.lt_trans h2 (by decide)
    rcases Nat.eq_zero_or_pos k.natAbs with h | h
    · rw [h]; decide
    · exact Nat.lt_trans ((Nat.log2_lt (by omega)).mpr h3) (by decide)
theorem Fit.str {b n : Nat} {s : Str} (h : ∀ c ∈ s.cps.toList, c < 0x110000) (hb : 10 * s.length + 2 ≤ b) : Fit b n (.str s) := by
  refine ⟨by simp [plainD], ?_, by simpa [wtD] using hb, by simp [toPy, PyData.showable], by simp [toPy, PyData.depth]⟩
  simp only [inkD, List.all_eq_true, decide_eq_true_eq]
  exact h
end RR
set_option maxHeartbeats 1000000
/-! R33: comprehensions that leave the store as it is. -/
namespace RR
open PySem PySem.Spec PyProof.Rows L2
theorem vw_plain {T : List Ob} : ∀ {d : D}, plainD d = true → vw T d = some d := fun {d} h => by cases d <;> first | rfl | simp [plainD] at h
theorem insO_plain {T : List Ob} : ∀ {d : D}, plainD d = true → insO T d = none := fun {d} h => by cases d <;> first | rfl | simp [plainD] at h
theorem adr_plain {d : D} (h : plainD d = true) (n : Nat) : d ≠ .adr n := fun e => by subst e; simp [plainD] at h
theorem plain_mem {d : D} : ∀ {ds : List D}, plainDs ds = true → d ∈ ds → plainD d = true
  | [], _, h => by simp at h
  | e :: ds, p, h => by
    simp only [plainDs, Bool.and_eq_true] at p
    rcases List.mem_cons.mp h with rfl | h
    · exact p.1
    · exact plain_mem p.2 h
theorem plains_iff : ∀ {ds : List D}, plainDs ds = true ↔ ∀ d ∈ ds, plainD d = true
  | [] => by simp [plainDs]
  | d :: ds => by simp [plainDs, plains_iff (ds := ds)]
theorem atI_n {α : Type} {xs : List α} {k : Nat} : atI xs (k : Int) = xs[k]? := by
  unfold atI ixN
  rw [if_pos (Int.natCast_nonneg k)]
  by_cases h : k < xs.length
  · have : (k : Int) < xs.length := by omega
    simp [this]
  · have : ¬ (k : Int) < xs.length := by omega
    rw [List.getElem?_eq_none (by omega)]
    simp [this]
theorem blsO_map {α : Type} {g : α → Bool} : ∀ {l : List α}, blsO (l.map fun x => D.bl (g x)) = some (l.map g)
  | [] => rfl
  | x :: l => by rw [List.map_cons, blsO, blsO_map]; rfl
theorem intsO_map {α : Type} {g : α → Int} : ∀ {l : List α}, intsO (l.map fun x => D.int (g x)) = some (l.map g)
  | [] => rfl
  | x :: l => by rw [List.map_cons, intsO, intsO_map]; rfl
theorem strsO_map {α : Type} {g : α → Str} : ∀ {l : List α}, strsO (l.map fun x => D.str (g x)) = some (l.map g)
  | [] => rfl
  | x :: l => by rw [List.map_cons, strsO, strsO_map]; rfl
theorem filterMap_if {g : D → Bool} {h : D → D} : ∀ {ds : List D}, ds.filterMap (fun d => if g d = true then some (h d) else none) = (ds.filter g).map h
  | [] => rfl
  | d :: ds => by
    rw [List.filterMap_cons]
    by_cases hg : g d = true <;> simp [hg, filterMap_if (ds := ds)]
section
variable {own : List Nat} {t : Tgt} {elt : Ee} {c : Tt} {Γ : En} {T : List Ob} {Q : List D → List Ob → Prop} {E : Ex} {keep : List Ob → Bool}
/-- [elt for .. in ds] -/
theorem lcW_map {ds : List D} (h : D → D) (hk : keep T = true) (hl : ds.length ≤ sizeLine)
    (hs : ∀ d ∈ ds, ∃ Γ2, t.put (wipeE Γ own) d = some Γ2 ∧ (elt Γ2).wp T (fun y T' => y = h d ∧ T' = T) XF)
    (hq : Q (ds.map h) T) : (lcGo (lcF own t [] elt Γ) keep ds []).wp T Q E := by
  refine lcGo_pu (fun d => some (h d)) hk (by simpa using hl) (fun d hd => ?_) ?_
  · obtain ⟨Γ2, h1, h2⟩ := hs d hd
    rw [wp_lcF0 h1]
    exact h2.mono (fun y T' ⟨a, b⟩ => ⟨b, by rw [a]⟩) fun _ _ _ z => z
  · rw [List.nil_append, show (fun d => some (h d)) = some ∘ h from rfl, List.filterMap_eq_map]
    exact hq
/-- [elt for .. in ds if c] -/
theorem lcW_filter {ds : List D} (g : D → Bool) (h : D → D) (hk : keep T = true) (hl : ds.length ≤ sizeLine)
    (hs : ∀ d ∈ ds, ∃ Γ2, t.put (wipeE Γ own) d = some Γ2 ∧ (c Γ2).wp T (fun b T' => b = g d ∧ T' = T) XF ∧ (g d = true → (elt Γ2).wp T (fun y T' => y = h d ∧ T' = T) XF))
    (hq : Q ((ds.filter g).map h) T) : (lcGo (lcF own t [c] elt Γ) keep ds []).wp T Q E := by
  refine lcGo_pu (fun d => if g d = true then some (h d) else none) hk (by simpa using hl) (fun d hd => ?_) ?_
  · obtain ⟨Γ2, h1, h2, h3⟩ := hs d hd
    rw [wp_lcF1 h1]
    refine h2.mono (fun b T' ⟨a, e⟩ => ?_) fun _ _ _ z => z
    subst a e
    refine ⟨fun hb => (h3 hb).mono (fun y T' ⟨a, b⟩ => ⟨b, by rw [if_pos hb, a]⟩) fun _ _ _ z => z, fun hb => ⟨rfl, ?_⟩⟩
    rw [hb]
    rfl
  · rw [List.nil_append, filterMap_if]
    exact hq
theorem enumD_mem {l : List D} {d : D} (h : d ∈ enumD l) : ∃ (i : Nat) (x : D), d = .tup [.int (i : Nat), x] ∧ l[i]? = some x := by
  unfold enumD at h
  obtain ⟨⟨x, i⟩, hp, rfl⟩ := List.mem_map.mp h
  exact ⟨i, x, rfl, List.mem_zipIdx_iff_getElem?.mp hp⟩
end
end RR
set_option maxHeartbeats 1000000
/-! R34: runs that are told outright, own objects among plain things. -/
namespace RR
open PySem PySem.Spec PyProof.Rows L2
theorem wp_run {α : Type} {m : Mo α} {T T1 : List Ob} {x : α} {Q : α → List Ob → Prop} {E : Ex} (h : m T = some (.ok x T1)) : m.wp T Q E ↔ Q x T1 := by
  unfold Mo.wp
  rw [h]
/-- where one thing alone is told, all is told -/
theorem wp_det {α : Type} {m : Mo α} {T T1 : List Ob} {x : α} {Q : α → List Ob → Prop} {E : Ex} (h : m.wp T (fun d T' => d = x ∧ T' = T1) XF) : m.wp T Q E ↔ Q x T1 := by
  obtain ⟨a, T', e, rfl, rfl⟩ := h.run
  exact wp_run e
section
variable {Pg : Prg} {Φ : Str → List D → Mo D} {C : Nat} {f : Str} {g : List D → List D → List D} {x : D} {gs : List (Str × D)} {T : List Ob} {Q : Bool → List Ob → Prop} {E : Ex}
theorem ownIn_run (hx : insO T x = some (C, gs)) : ∀ {ds : List D}, (∀ d ∈ ds, plainI d = true ∧ Φ f (g [x, d] []) T = some (.ok (.bl false) T)) → ownIn Φ C f g x ds T = some (.ok () T)
  | [], _ => rfl
  | d :: ds, h => by
    obtain ⟨h1, h2⟩ := h d List.mem_cons_self
    unfold ownIn
    have hc : plainI d = true ∧ (insO T x).map (·.1) = some C := ⟨h1, by rw [hx]; rfl⟩
    rw [if_pos hc, h2]
    exact ownIn_run hx fun e he => h e (List.mem_cons_of_mem _ he)
/-- an own object that is in no list of plain things -/
theorem wp_notin {ds : List D} (hx : insO T x = some (C, gs)) (he : Pg.eqw C = true) (hm : Pg.meth C "__eq__" = some f) (hb : Pg.bnd f 2 [] = some g) (h : ∀ d ∈ ds, plainI d = true ∧ (Φ f (g [x, d] [])).wp T (fun r T' => r = .bl false ∧ T' = T) XF) : (eqM Pg Φ .NotIn x (.lst ds)).wp T Q E ↔ Q true T := by
  refine wp_run ?_
  have hr : ownIn Φ C f g x ds T = some (.ok () T) := ownIn_run hx fun d hd => ⟨(h d hd).1, by
    obtain ⟨a, T', e, rfl, rfl⟩ := (h d hd).2.run
    exact e⟩
  unfold eqM
  simp [hx, inOwn, he, hm, hb, hr]
theorem wp_in {ds : List D} (hx : insO T x = some (C, gs)) (he : Pg.eqw C = true) (hm : Pg.meth C "__eq__" = some f) (hb : Pg.bnd f 2 [] = some g) (h : ∀ d ∈ ds, plainI d = true ∧ (Φ f (g [x, d] [])).wp T (fun r T' => r = .bl false ∧ T' = T) XF) : (eqM Pg Φ .In x (.lst ds)).wp T Q E ↔ Q false T := by
  refine wp_run ?_
  have hr : ownIn Φ C f g x ds T = some (.ok () T) := ownIn_run hx fun d hd => ⟨(h d hd).1, by
    obtain ⟨a, T', e, rfl, rfl⟩ := (h d hd).2.run
    exact e⟩
  unfold eqM
  simp [hx, inOwn, he, hm, hb, hr]
end
end RR
set_option maxHeartbeats 0
namespace Q41
open PySem PySem.Spec PyProof.Rows L2 RR
def top (i : Nat) : Stmt := PySem.Challenge.pw_forwardcalls_k41_tables_made.main.body.getD i (.Pass ⟨0, 0, 0, 0⟩)
def clsB : Stmt → List Stmt
  | .ClassDef (body := b) .. => b
  | _ => []
def mem (i j : Nat) : Stmt := (clsB (top i)).getD j (.Pass ⟨0, 0, 0, 0⟩)
def kwAt (c m x : Str) (K : PySem.W.Frag) : Addr := match K.lookup (He.fAd K (c, some m)) with
  | some ⟨_, _, .func fd, _⟩ => (match fd.kwdefaults with
    | .ref D => (match PySem.W.nsIn K D x with
      | some (some (.ref a)) => a
      | _ => 0)
    | _ => 0)
  | _ => 0
def mkD (x : Str) (i : Nat) : He.DefD := ⟨(x, none), x, x, defArgs (top i), defBody (top i), defScope (top i), [], []⟩
def mkM (c m : Str) (i j : Nat) : He.DefD := ⟨(c, some m), m, c ++ "." ++ m, defArgs (mem i j), defBody (mem i j), defScope (mem i j), [], []⟩
def tb : Tb where
  defs := [("same", .glo "same", mkD "same" 2), ("repeats", .glo "repeats", mkD "repeats" 3), ("_law_bag", .glo "_law_bag", mkD "_law_bag" 6), ("_law_take", .glo "_law_take", mkD "_law_take" 7), ("_law_entry", .glo "_law_entry", mkD "_law_entry" 8), ("_law_drawn", .glo "_law_drawn", mkD "_law_drawn" 9), ("_law_at", .glo "_law_at", mkD "_law_at" 10), ("_law_tells", .glo "_law_tells", mkD "_law_tells" 11), ("_law_shortest", .glo "_law_shortest", mkD "_law_shortest" 12), ("_law_right", .glo "_law_right", mkD "_law_right" 13), ("law", .glo "law", mkD "law" 14), ("Table.__init__", .met "Table" "__init__", mkM "Table" "__init__" 4 0), ("Table.before", .prp "Table" "before", mkM "Table" "before" 4 1), ("Table.cycle", .prp "Table" "cycle", mkM "Table" "cycle" 4 2), ("Table.at", .met "Table" "at", mkM "Table" "at" 4 3), ("Table.__eq__", .met "Table" "__eq__", mkM "Table" "__eq__" 4 4), ("Table.__len__", .met "Table" "__len__", mkM "Table" "__len__" 4 5), ("Table.words", .met "Table" "words", mkM "Table" "words" 4 6)]
  cls := ["Table"]
  glb := [("same", .fn "same"), ("repeats", .fn "repeats"), ("_law_bag", .fn "_law_bag"), ("_law_take", .fn "_law_take"), ("_law_entry", .fn "_law_entry"), ("_law_drawn", .fn "_law_drawn"), ("_law_at", .fn "_law_at"), ("_law_tells", .fn "_law_tells"), ("_law_shortest", .fn "_law_shortest"), ("_law_right", .fn "_law_right"), ("law", .fn "law"), ("Table", .cls 0)]
  fre := ["abs", "all", "enumerate", "int", "isinstance", "len", "list", "max", "min", "property", "range", "repr", "tuple"]
  mth := [((0, "at"), "Table.at"), ((0, "__eq__"), "Table.__eq__"), ((0, "__len__"), "Table.__len__"), ((0, "words"), "Table.words")]
  prp := [((0, "before"), "Table.before"), ((0, "cycle"), "Table.cycle")]
  noa := [(0, "entries_before"), (0, "entries_cycle")]
  ini := [(0, "Table.__init__")]
  isi := [0]
def f__wall : Fn := ⟨["k"], ["k"], defScope (top 0), defBody (top 0), [], false⟩
def f_same : Fn := ⟨["one", "other"], ["one", "other"], defScope (top 2), defBody (top 2), [], false⟩
def f_repeats : Fn := ⟨["cycle", "size"], ["cycle", "size", "at", "item"], defScope (top 3), defBody (top 3), [], false⟩
def f__law_bag : Fn := ⟨["script", "at"], ["script", "at", "cell", "great"], defScope (top 6), defBody (top 6), [], true⟩
def f__law_take : Fn := ⟨["bag", "many"], ["bag", "many", "digit"], defScope (top 7), defBody (top 7), [], false⟩
def f__law_entry : Fn := ⟨["bag"], ["bag"], defScope (top 8), defBody (top 8), [], false⟩
def f__law_drawn : Fn := ⟨["bag"], ["bag", "some", "lot", "ahead", "tail", "k"], defScope (top 9), defBody (top 9), [], false⟩
def f__law_at : Fn := ⟨["ahead", "lot", "count"], ["ahead", "lot", "count"], defScope (top 10), defBody (top 10), [], false⟩
def f__law_tells : Fn := ⟨["ahead", "lot", "row"], ["ahead", "lot", "row", "k"], defScope (top 11), defBody (top 11), [], false⟩
def f__law_shortest : Fn := ⟨["ahead", "lot"], ["ahead", "lot", "row", "size", "many", "k"], defScope (top 12), defBody (top 12), [], false⟩
def f__law_right : Fn := ⟨["ahead", "lot"], ["ahead", "lot", "form", "due", "count"], defScope (top 13), defBody (top 13), [], false⟩
def f_law : Fn := ⟨["script"], ["script", "at", "bag", "turn", "ahead", "lot", "other", "others", "is_like", "ends", "told", "k", "end"], defScope (top 14), defBody (top 14), [], false⟩
def f_Table___init__ : Fn := ⟨["self", "before", "cycle"], ["self", "before", "cycle", "size"], defScope (mem 4 0), defBody (mem 4 0), [], false⟩
def f_Table_before : Fn := ⟨["self"], ["self"], defScope (mem 4 1), defBody (mem 4 1), [], false⟩
def f_Table_cycle : Fn := ⟨["self"], ["self"], defScope (mem 4 2), defBody (mem 4 2), [], false⟩
def f_Table_at : Fn := ⟨["self", "count"], ["self", "count"], defScope (mem 4 3), defBody (mem 4 3), [], false⟩
def f_Table___eq__ : Fn := ⟨["self", "other"], ["self", "other"], defScope (mem 4 4), defBody (mem 4 4), [], false⟩
def f_Table___len__ : Fn := ⟨["self"], ["self"], defScope (mem 4 5), defBody (mem 4 5), [], false⟩
def f_Table_words : Fn := ⟨["self"], ["self", "entry"], defScope (mem 4 6), defBody (mem 4 6), [], false⟩
def f_Table_counts_to_look_at : Fn := ⟨["self", "other"], ["self", "other"], defScope (mem 4 7), defBody (mem 4 7), [], false⟩
def f_Table_first_unlike : Fn := ⟨["self", "other"], ["self", "other"], defScope (mem 4 8), defBody (mem 4 8), [], false⟩
def fns : List (Str × Fn) := [("_wall", f__wall), ("same", f_same), ("repeats", f_repeats), ("_law_bag", f__law_bag), ("_law_take", f__law_take), ("_law_entry", f__law_entry), ("_law_drawn", f__law_drawn), ("_law_at", f__law_at), ("_law_tells", f__law_tells), ("_law_shortest", f__law_shortest), ("_law_right", f__law_right), ("law", f_law), ("Table.__init__", f_Table___init__), ("Table.before", f_Table_before), ("Table.cycle", f_Table_cycle), ("Table.at", f_Table_at), ("Table.__eq__", f_Table___eq__), ("Table.__len__", f_Table___len__), ("Table.words", f_Table_words), ("Table.counts_to_look_at", f_Table_counts_to_look_at), ("Table.first_unlike", f_Table_first_unlike)]
def bds : List Bd := [⟨"same", 2, [], fun ds _ => ds⟩, ⟨"repeats", 2, [], fun ds _ => ds⟩, ⟨"_law_bag", 2, [], fun ds _ => ds⟩, ⟨"_law_take", 2, [], fun ds _ => ds⟩, ⟨"_law_entry", 1, [], fun ds _ => ds⟩, ⟨"_law_drawn", 1, [], fun ds _ => ds⟩, ⟨"_law_at", 3, [], fun ds _ => ds⟩, ⟨"_law_tells", 3, [], fun ds _ => ds⟩, ⟨"_law_shortest", 2, [], fun ds _ => ds⟩, ⟨"_law_right", 2, [], fun ds _ => ds⟩, ⟨"Table.__init__", 3, [], fun ds _ => ds⟩, ⟨"Table.before", 1, [], fun ds _ => ds⟩, ⟨"Table.cycle", 1, [], fun ds _ => ds⟩, ⟨"Table.at", 2, [], fun ds _ => ds⟩, ⟨"Table.__eq__", 2, [], fun ds _ => ds⟩, ⟨"Table.__len__", 1, [], fun ds _ => ds⟩, ⟨"Table.words", 1, [], fun ds _ => ds⟩]
def prg : Prg := tb.prg bds fun C => C == 0
abbrev R : PySem.W.OpenRow := PySem.W.OpenLaw.row PySem.Challenge.rw_forwardcalls_k41_tables_made
abbrev hk : PySem.W.Hook := hookT 6 tb
def ob (s : PySem.W.SharedT) : Bool × List He.FnW := obsG 6 tb (HandSHeadRun.getT s)
theorem ob_eq (s : PySem.W.SharedT) : ob s = hk.obs s.abs := obsG_eq (HandSHeadRun.getT_eq s)
def others : List Str := (["_wall", "same", "repeats", "Table", "_law_bag", "_law_take", "_law_entry", "_law_drawn", "_law_at", "_law_tells", "_law_shortest", "_law_right"] : List Str)
theorem run (w : World) : HandSHeadRun.RunEq R (PySem.W.view R.prog [14]) hk ob 30000 others w := by
  intro os
  kernel_rfl
theorem stat {K : PySem.W.Frag} {h : Heap} {mg : Str → Option Value} (X : K.In h) (G : h.Ns mainGlobals mg) (c : tb.obs K = tb.val) : Stat K mg (tb.nm K) prg (fun f => fns.lookup f) := by
  refine stat_of X G c ?_
  unfold bds
  simp only [List.forall_mem_cons]
  refine ⟨?_, ?_, ?_, ?_, ?_, ?_, ?_, ?_, ?_, ?_, ?_, ?_, ?_, ?_, ?_, ?_, ?_, fun _ h => absurd h List.not_mem_nil⟩
  · obtain ⟨fd, F⟩ := tb_def c (f := "same") (ky := .glo "same") (d := mkD "same" 2) (by rfl)
    exact ⟨f_same, by rfl, def_plain F (scopeB_ok (by decide +kernel)) rfl (F.bindsN fun _ _ _ _ _ _ us hl => match us, hl with | [_, _], _ => rfl)⟩
  · obtain ⟨fd, F⟩ := tb_def c (f := "repeats") (ky := .glo "repeats") (d := mkD "repeats" 3) (by rfl)
    exact ⟨f_repeats, by rfl, def_plain F (scopeB_ok (by decide +kernel)) rfl (F.bindsN fun _ _ _ _ _ _ us hl => match us, hl with | [_, _], _ => rfl)⟩
  · obtain ⟨fd, F⟩ := tb_def c (f := "_law_bag") (ky := .glo "_law_bag") (d := mkD "_law_bag" 6) (by rfl)
    exact ⟨f__law_bag, by rfl, def_plain F (scopeB_ok (by decide +kernel)) rfl (F.bindsN fun _ _ _ _ _ _ us hl => match us, hl with | [_, _], _ => rfl)⟩
  · obtain ⟨fd, F⟩ := tb_def c (f := "_law_take") (ky := .glo "_law_take") (d := mkD "_law_take" 7) (by rfl)
    exact ⟨f__law_take, by rfl, def_plain F (scopeB_ok (by decide +kernel)) rfl (F.bindsN fun _ _ _ _ _ _ us hl => match us, hl with | [_, _], _ => rfl)⟩
  · obtain ⟨fd, F⟩ := tb_def c (f := "_law_entry") (ky := .glo "_law_entry") (d := mkD "_law_entry" 8) (by rfl)
    exact ⟨f__law_entry, by rfl, def_plain F (scopeB_ok (by decide +kernel)) rfl (F.bindsN fun _ _ _ _ _ _ us hl => match us, hl with | [_], _ => rfl)⟩
  · obtain ⟨fd, F⟩ := tb_def c (f := "_law_drawn") (ky := .glo "_law_drawn") (d := mkD "_law_drawn" 9) (by rfl)
    exact ⟨f__law_drawn, by rfl, def_plain F (scopeB_ok (by decide +kernel)) rfl (F.bindsN fun _ _ _ _ _ _ us hl => match us, hl with | [_], _ => rfl)⟩
  · obtain ⟨fd, F⟩ := tb_def c (f := "_law_at") (ky := .glo "_law_at") (d := mkD "_law_at" 10) (by rfl)
    exact ⟨f__law_at, by rfl, def_plain F (scopeB_ok (by decide +kernel)) rfl (F.bindsN fun _ _ _ _ _ _ us hl => match us, hl with | [_, _, _], _ => rfl)⟩
  · obtain ⟨fd, F⟩ := tb_def c (f := "_law_tells") (ky := .glo "_law_tells") (d := mkD "_law_tells" 11) (by rfl)
    exact ⟨f__law_tells, by rfl, def_plain F (scopeB_ok (by decide +kernel)) rfl (F.bindsN fun _ _ _ _ _ _ us hl => match us, hl with | [_, _, _], _ => rfl)⟩
  · obtain ⟨fd, F⟩ := tb_def c (f := "_law_shortest") (ky := .glo "_law_shortest") (d := mkD "_law_shortest" 12) (by rfl)
    exact ⟨f__law_shortest, by rfl, def_plain F (scopeB_ok (by decide +kernel)) rfl (F.bindsN fun _ _ _ _ _ _ us hl => match us, hl with | [_, _], _ => rfl)⟩
  · obtain ⟨fd, F⟩ := tb_def c (f := "_law_right") (ky := .glo "_law_right") (d := mkD "_law_right" 13) (by rfl)
    exact ⟨f__law_right, by rfl, def_plain F (scopeB_ok (by decide +kernel)) rfl (F.bindsN fun _ _ _ _ _ _ us hl => match us, hl with | [_, _], _ => rfl)⟩
  · obtain ⟨fd, F⟩ := tb_def c (f := "Table.__init__") (ky := .met "Table" "__init__") (d := mkM "Table" "__init__" 4 0) (by rfl)
    exact ⟨f_Table___init__, by rfl, def_plain F (scopeB_ok (by decide +kernel)) rfl (F.bindsN fun _ _ _ _ _ _ us hl => match us, hl with | [_, _, _], _ => rfl)⟩
  · obtain ⟨fd, F⟩ := tb_def c (f := "Table.before") (ky := .prp "Table" "before") (d := mkM "Table" "before" 4 1) (by rfl)
    exact ⟨f_Table_before, by rfl, def_plain F (scopeB_ok (by decide +kernel)) rfl (F.bindsN fun _ _ _ _ _ _ us hl => match us, hl with | [_], _ => rfl)⟩
  · obtain ⟨fd, F⟩ := tb_def c (f := "Table.cycle") (ky := .prp "Table" "cycle") (d := mkM "Table" "cycle" 4 2) (by rfl)
    exact ⟨f_Table_cycle, by rfl, def_plain F (scopeB_ok (by decide +kernel)) rfl (F.bindsN fun _ _ _ _ _ _ us hl => match us, hl with | [_], _ => rfl)⟩
  · obtain ⟨fd, F⟩ := tb_def c (f := "Table.at") (ky := .met "Table" "at") (d := mkM "Table" "at" 4 3) (by rfl)
    exact ⟨f_Table_at, by rfl, def_plain F (scopeB_ok (by decide +kernel)) rfl (F.bindsN fun _ _ _ _ _ _ us hl => match us, hl with | [_, _], _ => rfl)⟩
  · obtain ⟨fd, F⟩ := tb_def c (f := "Table.__eq__") (ky := .met "Table" "__eq__") (d := mkM "Table" "__eq__" 4 4) (by rfl)
    exact ⟨f_Table___eq__, by rfl, def_plain F (scopeB_ok (by decide +kernel)) rfl (F.bindsN fun _ _ _ _ _ _ us hl => match us, hl with | [_, _], _ => rfl)⟩
  · obtain ⟨fd, F⟩ := tb_def c (f := "Table.__len__") (ky := .met "Table" "__len__") (d := mkM "Table" "__len__" 4 5) (by rfl)
    exact ⟨f_Table___len__, by rfl, def_plain F (scopeB_ok (by decide +kernel)) rfl (F.bindsN fun _ _ _ _ _ _ us hl => match us, hl with | [_], _ => rfl)⟩
  · obtain ⟨fd, F⟩ := tb_def c (f := "Table.words") (ky := .met "Table" "words") (d := mkM "Table" "words" 4 6) (by rfl)
    exact ⟨f_Table_words, by rfl, def_plain F (scopeB_ok (by decide +kernel)) rfl (F.bindsN fun _ _ _ _ _ _ us hl => match us, hl with | [_], _ => rfl)⟩
theorem law_def {K : PySem.W.Frag} (c : tb.obs K = tb.val) : ∃ fd, FunD K "law" "law" (defArgs (top 14)) f_law.body f_law.sc [] [] (tb.fa K "law") fd ∧ (∀ (s : Shared) (u : Value), BindsTo s fd ⟨[u], []⟩ [("script", u)]) ∧ FnScope f_law.N f_law.ps f_law.sc := by
  obtain ⟨fd, F⟩ := tb_def c (f := "law") (ky := .glo "law") (d := mkD "law" 14) (by rfl)
  have b := FunD.bindsA (ps := ["script"]) F fun _ _ _ _ _ _ us hl => match us, hl with | [_], _ => rfl
  exact ⟨fd, F, fun s u => b s [u] rfl, scopeB_ok (by decide +kernel)⟩
end Q41
set_option maxHeartbeats 0
/-! printed by mks.py; not printed: nothing -/
namespace Q41
open PySem PySem.Spec PyProof.Rows L2 RR
def s_same (Φ : Str → List D → Mo D) : List D → Mo D := fnS 2 2 false [
  rtS (bvS (cmS prg Φ .Eq (biS prg Φ .repr [(vr 0)]) (biS prg Φ .repr [(vr 1)])))]
theorem e_same (Φ : Str → List D → Mo D) (ds : List D) : callF prg Φ 20 8 f_same ds = s_same Φ ds := by kernel_rfl
def s_repeats (Φ : Str → List D → Mo D) : List D → Mo D := fnS 2 4 false [
  rtS (andS [(bvS (cmS prg Φ .Eq (opS .Mod (biS prg Φ .len [(vr 0)]) (vr 1)) (kk (.int (0))))), (biS prg Φ .all [(lcD (lcS [2, 3] (.many [(.one 2), (.one 3)]) (enS (vr 0)) [] (caS Φ "same" (fun ds _ => ds) [(vr 3), (ixS (vr 0) (opS .Mod (vr 2) (vr 1)))] [])))])])]
theorem e_repeats (Φ : Str → List D → Mo D) (ds : List D) : callF prg Φ 20 8 f_repeats ds = s_repeats Φ ds := by kernel_rfl
def s__law_bag (Φ : Str → List D → Mo D) : List D → Mo D := fnS 2 4 true [
  stS 2 (kk (.int (0))),
  ifS (cmS prg Φ .Lt (vr 1) (biS prg Φ .len [(vr 0)])) [stS 2 (ixS (vr 0) (vr 1))] [],
  stS 3 (opS .Mult (biS prg Φ .abs [(vr 2)]) (biS prg Φ .int [(bvS (cmS prg Φ .GtE (biS prg Φ .abs [(vr 2)]) (opS .Pow (kk (.int (10))) (kk (.int (18))))))])),
  rtS (trk (newS [(vr 3), (opS .Add (opS .Mod (opS .Add (opS .Add (opS .Mod (vr 2) (opS .Add (opS .Pow (kk (.int (10))) (kk (.int (18)))) (kk (.int (3))))) (opS .Mult (kk (.int (7907))) (vr 1))) (kk (.int (211)))) (kk (.int (2147483629)))) (kk (.int (1)))), (kk (.int (0)))]))]
theorem e__law_bag (Φ : Str → List D → Mo D) (ds : List D) : callF prg Φ 20 8 f__law_bag ds = s__law_bag Φ ds := by kernel_rfl
def s__law_take (Φ : Str → List D → Mo D) : List D → Mo D := fnS 2 3 false [
  ifS (cmS prg Φ .Gt (ixS (vr 0) (kk (.int (0)))) (kk (.int (0)))) [stS 2 (opS .Mod (ixS (vr 0) (kk (.int (0)))) (vr 1)), asS (sbP (vr 0) (kk (.int (0)))) (opS .FloorDiv (ixS (vr 0) (kk (.int (0)))) (vr 1)), rtS (vr 2)] [],
  asS (sbP (vr 0) (kk (.int (2)))) (opS .Add (ixS (vr 0) (kk (.int (2)))) (kk (.int (1)))),
  asS (sbP (vr 0) (kk (.int (1)))) (opS .Mod (opS .Add (opS .Add (opS .Mult (ixS (vr 0) (kk (.int (1)))) (kk (.int (40014)))) (opS .Mult (opS .Mult (kk (.int (5939))) (ixS (vr 0) (kk (.int (2))))) (ixS (vr 0) (kk (.int (2)))))) (kk (.int (17)))) (kk (.int (2147483563)))),
  rtS (opS .Mod (opS .FloorDiv (opS .Mod (opS .Pow (opS .FloorDiv (ixS (vr 0) (kk (.int (1)))) (kk (.int (8)))) (kk (.int (3)))) (kk (.int (2147483399)))) (kk (.int (16)))) (vr 1))]
theorem e__law_take (Φ : Str → List D → Mo D) (ds : List D) : callF prg Φ 20 8 f__law_take ds = s__law_take Φ ds := by kernel_rfl
def s__law_entry (Φ : Str → List D → Mo D) : List D → Mo D := fnS 1 1 false [
  rtS (ixS (lstS [(kk (.int (1))), (kk (.bl true)), (kk (.int (0))), (kk (.bl false)), (kk (.non)), (kk (.str "1")), (kk (.int (2))), (tupS [(kk (.str "through")), (kk (.int (1)))]), (tupS [(kk (.str "round"))]), (tupS [(kk (.bl true))])]) (caS Φ "_law_take" (fun ds _ => ds) [(vr 0), (kk (.int (10)))] []))]
theorem e__law_entry (Φ : Str → List D → Mo D) (ds : List D) : callF prg Φ 20 8 f__law_entry ds = s__law_entry Φ ds := by kernel_rfl
def s__law_drawn (Φ : Str → List D → Mo D) : List D → Mo D := fnS 1 6 false [
  lcA 1 (lcD (lcS [5] (.one 5) (r1S (opS .Add (kk (.int (1))) (caS Φ "_law_take" (fun ds _ => ds) [(vr 0), (kk (.int (3)))] []))) [] (caS Φ "_law_entry" (fun ds _ => ds) [(vr 0)] []))),
  stS 2 (biS prg Φ .tuple [(lcD (lcS [5] (.one 5) (r1S (opS .Add (kk (.int (1))) (caS Φ "_law_take" (fun ds _ => ds) [(vr 0), (kk (.int (4)))] []))) [] (ixS (vr 1) (caS Φ "_law_take" (fun ds _ => ds) [(vr 0), (biS prg Φ .len [(vr 1)])] []))))]),
  stS 2 (opS .Mult (vr 2) (opS .Add (kk (.int (1))) (caS Φ "_law_take" (fun ds _ => ds) [(vr 0), (kk (.int (2)))] []))),
  stS 3 (biS prg Φ .tuple [(lcD (lcS [5] (.one 5) (r1S (caS Φ "_law_take" (fun ds _ => ds) [(vr 0), (kk (.int (5)))] [])) [] (ixS (vr 1) (caS Φ "_law_take" (fun ds _ => ds) [(vr 0), (biS prg Φ .len [(vr 1)])] []))))]),
  stS 4 (slS (opS .Mult (vr 2) (kk (.int (5)))) (some (opS .Sub (opS .Mult (biS prg Φ .len [(vr 2)]) (kk (.int (5)))) (caS Φ "_law_take" (fun ds _ => ds) [(vr 0), (kk (.int (5)))] []))) none),
  rtS (tupS [(opS .Add (vr 3) (vr 4)), (vr 2)])]
theorem e__law_drawn (Φ : Str → List D → Mo D) (ds : List D) : callF prg Φ 20 8 f__law_drawn ds = s__law_drawn Φ ds := by kernel_rfl
def s__law_at (Φ : Str → List D → Mo D) : List D → Mo D := fnS 3 3 false [
  ifS (cmS prg Φ .Lt (vr 2) (biS prg Φ .len [(vr 0)])) [rtS (ixS (vr 0) (vr 2))] [],
  rtS (ixS (vr 1) (opS .Mod (opS .Sub (vr 2) (biS prg Φ .len [(vr 0)])) (biS prg Φ .len [(vr 1)])))]
theorem e__law_at (Φ : Str → List D → Mo D) (ds : List D) : callF prg Φ 20 8 f__law_at ds = s__law_at Φ ds := by kernel_rfl
def s__law_tells (Φ : Str → List D → Mo D) : List D → Mo D := fnS 3 4 false [
  rtS (biS prg Φ .all [(lcD (lcS [3] (.one 3) (r1S (biS prg Φ .len [(vr 2)])) [] (bvS (cmS prg Φ .Eq (biS prg Φ .repr [(caS Φ "_law_at" (fun ds _ => ds) [(vr 0), (vr 1), (vr 3)] [])]) (biS prg Φ .repr [(ixS (vr 2) (vr 3))])))))])]
theorem e__law_tells (Φ : Str → List D → Mo D) (ds : List D) : callF prg Φ 20 8 f__law_tells ds = s__law_tells Φ ds := by kernel_rfl
def s__law_shortest (Φ : Str → List D → Mo D) : List D → Mo D := fnS 2 6 false [
  lcA 2 (lcD (lcS [5] (.one 5) (r1S (kk (.int (60)))) [] (caS Φ "_law_at" (fun ds _ => ds) [(vr 0), (vr 1), (vr 5)] []))),
  foS (.one 3) (r2S (kk (.int (1))) (opS .Add (biS prg Φ .len [(vr 1)]) (kk (.int (1))))) [foS (.one 4) (r1S (opS .Add (biS prg Φ .len [(vr 0)]) (kk (.int (1))))) [ifS (trS (caS Φ "_law_tells" (fun ds _ => ds) [(biS prg Φ .tuple [(slS (vr 2) none (some (vr 4)))]), (biS prg Φ .tuple [(slS (vr 2) (some (vr 4)) (some (opS .Add (vr 4) (vr 3))))]), (vr 2)] [])) [rtS (tupS [(biS prg Φ .tuple [(slS (vr 2) none (some (vr 4)))]), (biS prg Φ .tuple [(slS (vr 2) (some (vr 4)) (some (opS .Add (vr 4) (vr 3))))])])] []]],
  rtS (kk (.non))]
theorem e__law_shortest (Φ : Str → List D → Mo D) (ds : List D) : callF prg Φ 20 8 f__law_shortest ds = s__law_shortest Φ ds := by kernel_rfl
def s__law_right (Φ : Str → List D → Mo D) : List D → Mo D := fnS 2 5 false [
  p2S 2 3 [(mkS prg Φ 0 "Table.__init__" (fun ds _ => ds) [(vr 0), (vr 1)] []), (caS Φ "_law_shortest" (fun ds _ => ds) [(vr 0), (vr 1)] [])],
  ifS (orT [(cmS prg Φ .NotEq (biS prg Φ .repr [(tupS [(atS prg Φ (vr 2) "before"), (atS prg Φ (vr 2) "cycle")])]) (biS prg Φ .repr [(vr 3)])), (cmS prg Φ .NotEq (biS prg Φ .len [(vr 2)]) (opS .Add (biS prg Φ .len [(ixS (vr 3) (kk (.int (0))))]) (biS prg Φ .len [(ixS (vr 3) (kk (.int (1))))])))]) [rtS (kk (.bl false))] [],
  foS (.one 4) (srS (opS .Add (rgS (kk (.int (25)))) (lstS [(opS .Pow (kk (.int (10))) (kk (.int (60)))), (opS .Add (opS .Pow (kk (.int (10))) (kk (.int (60)))) (kk (.int (1)))), (opS .Add (opS .Pow (kk (.int (10))) (kk (.int (60)))) (kk (.int (7))))]))) [ifS (cmS prg Φ .NotEq (biS prg Φ .repr [(meS prg Φ (vr 2) "at" 2 [] [(vr 4)] [])]) (biS prg Φ .repr [(caS Φ "_law_at" (fun ds _ => ds) [(vr 0), (vr 1), (vr 4)] [])])) [rtS (kk (.bl false))] []],
  rtS (andS [(bvS (cmS prg Φ .Eq (vr 2) (mkS prg Φ 0 "Table.__init__" (fun ds _ => ds) [(ixS (vr 3) (kk (.int (0)))), (ixS (vr 3) (kk (.int (1))))] []))), (bvS (cmS prg Φ .NotIn (vr 2) (lstS [(kk (.non)), (vr 3), (biS prg Φ .list [(vr 3)]), (kk (.str "Table")), (kk (.int (0)))])))])]
theorem e__law_right (Φ : Str → List D → Mo D) (ds : List D) : callF prg Φ 20 8 f__law_right ds = s__law_right Φ ds := by kernel_rfl
def s_law (Φ : Str → List D → Mo D) : List D → Mo D := fnS 1 13 false [
  foS (.one 1) (r1S (biS prg Φ .max [(kk (.int (2))), (biS prg Φ .min [(kk (.int (6))), (biS prg Φ .len [(vr 0)])])])) [stS 2 (caS Φ "_law_bag" (fun ds _ => ds) [(vr 0), (vr 1)] []), foS (.one 3) (r1S (kk (.int (5)))) [asS (tpP [(nmP 4), (nmP 5)]) (caS Φ "_law_drawn" (fun ds _ => ds) [(vr 2)] []), asS (tpP [(nmP 6), (nmP 7)]) (caS Φ "_law_drawn" (fun ds _ => ds) [(vr 2)] []), ifS (orT [(nT (trS (caS Φ "_law_right" (fun ds _ => ds) [(vr 4), (vr 5)] []))), (nT (trS (caS Φ "_law_right" (fun ds _ => ds) [(vr 6), (vr 7)] [])))]) [rtS (kk (.bl false))] [], stS 8 (bvS (cmS prg Φ .Eq (biS prg Φ .repr [(caS Φ "_law_shortest" (fun ds _ => ds) [(vr 4), (vr 5)] [])]) (biS prg Φ .repr [(caS Φ "_law_shortest" (fun ds _ => ds) [(vr 6), (vr 7)] [])]))), ifS (cmS prg Φ .NotEq (bvS (cmS prg Φ .Eq (mkS prg Φ 0 "Table.__init__" (fun ds _ => ds) [(vr 4), (vr 5)] []) (mkS prg Φ 0 "Table.__init__" (fun ds _ => ds) [(vr 6), (vr 7)] []))) (vr 8)) [rtS (kk (.bl false))] [], lcA 9 (lcD (lcS [11] (.one 11) (r1S (kk (.int (6)))) [] (ixS (lstS [(tupS [(kk (.str "through")), (kk (.int (1)))]), (tupS [(kk (.str "round"))]), (tupS [(kk (.str "refused")), (kk (.int (0))), (tupS [(kk (.str "many"))])])]) (caS Φ "_law_take" (fun ds _ => ds) [(vr 2), (kk (.int (3)))] [])))), stS 10 (meS prg Φ (mkS prg Φ 0 "Table.__init__" (fun ds _ => ds) [(biS prg Φ .tuple [(slS (vr 9) none (some (kk (.int (3)))))]), (biS prg Φ .tuple [(slS (vr 9) (some (kk (.int (3)))) none)])] []) "words" 1 [] [] []), ifS (nT (cmS prg Φ .Eq (vr 10) (mkS prg Φ 0 "Table.__init__" (fun ds _ => ds) [(biS prg Φ .tuple [(lcD (lcS [12] (.one 12) (srS (slS (vr 9) none (some (kk (.int (3)))))) [] (ixS (vr 12) (kk (.int (0))))))]), (biS prg Φ .tuple [(lcD (lcS [12] (.one 12) (srS (slS (vr 9) (some (kk (.int (3)))) none)) [] (ixS (vr 12) (kk (.int (0))))))])] []))) [rtS (kk (.bl false))] []]],
  rtS (kk (.bl true))]
theorem e_law (Φ : Str → List D → Mo D) (ds : List D) : callF prg Φ 20 8 f_law ds = s_law Φ ds := by kernel_rfl
def s_Table___init__ (Φ : Str → List D → Mo D) : List D → Mo D := fnS 3 4 false [
  stS 3 (biS prg Φ .min [(lcD (lcS [3] (.one 3) (r2S (kk (.int (1))) (opS .Add (biS prg Φ .len [(vr 2)]) (kk (.int (1))))) [(trS (caS Φ "repeats" (fun ds _ => ds) [(vr 2), (vr 3)] []))] (vr 3)))]),
  stS 2 (slS (vr 2) none (some (vr 3))),
  whS (andT [(cmS prg Φ .NotEq (vr 1) (tupS [])), (trS (caS Φ "same" (fun ds _ => ds) [(ixS (vr 1) (negS (kk (.int (1))))), (ixS (vr 2) (negS (kk (.int (1)))))] []))]) [asS (tpP [(nmP 1), (nmP 2)]) (tupS [(slS (vr 1) none (some (negS (kk (.int (1)))))), (opS .Add (slS (vr 2) (some (negS (kk (.int (1))))) none) (slS (vr 2) none (some (negS (kk (.int (1)))))))])],
  asS (fdP prg (vr 0) "entries_before") (vr 1),
  asS (fdP prg (vr 0) "entries_cycle") (vr 2)]
theorem e_Table___init__ (Φ : Str → List D → Mo D) (ds : List D) : callF prg Φ 20 8 f_Table___init__ ds = s_Table___init__ Φ ds := by kernel_rfl
def s_Table_before (Φ : Str → List D → Mo D) : List D → Mo D := fnS 1 1 false [
  rtS (atS prg Φ (vr 0) "entries_before")]
theorem e_Table_before (Φ : Str → List D → Mo D) (ds : List D) : callF prg Φ 20 8 f_Table_before ds = s_Table_before Φ ds := by kernel_rfl
def s_Table_cycle (Φ : Str → List D → Mo D) : List D → Mo D := fnS 1 1 false [
  rtS (atS prg Φ (vr 0) "entries_cycle")]
theorem e_Table_cycle (Φ : Str → List D → Mo D) (ds : List D) : callF prg Φ 20 8 f_Table_cycle ds = s_Table_cycle Φ ds := by kernel_rfl
def s_Table_at (Φ : Str → List D → Mo D) : List D → Mo D := fnS 2 2 false [
  ifS (cmS prg Φ .Lt (vr 1) (biS prg Φ .len [(atS prg Φ (vr 0) "before")])) [rtS (ixS (atS prg Φ (vr 0) "before") (vr 1))] [],
  rtS (ixS (atS prg Φ (vr 0) "cycle") (opS .Mod (opS .Sub (vr 1) (biS prg Φ .len [(atS prg Φ (vr 0) "before")])) (biS prg Φ .len [(atS prg Φ (vr 0) "cycle")])))]
theorem e_Table_at (Φ : Str → List D → Mo D) (ds : List D) : callF prg Φ 20 8 f_Table_at ds = s_Table_at Φ ds := by kernel_rfl
def s_Table___eq__ (Φ : Str → List D → Mo D) : List D → Mo D := fnS 2 2 false [
  rtS (andS [(biS prg Φ .isinstance [(vr 1), (kk (.cls 0))]), (caS Φ "same" (fun ds _ => ds) [(lstS [(atS prg Φ (vr 0) "before"), (atS prg Φ (vr 0) "cycle")]), (lstS [(atS prg Φ (vr 1) "before"), (atS prg Φ (vr 1) "cycle")])] [])])]
theorem e_Table___eq__ (Φ : Str → List D → Mo D) (ds : List D) : callF prg Φ 20 8 f_Table___eq__ ds = s_Table___eq__ Φ ds := by kernel_rfl
def s_Table___len__ (Φ : Str → List D → Mo D) : List D → Mo D := fnS 1 1 false [
  rtS (biS prg Φ .len [(opS .Add (atS prg Φ (vr 0) "before") (atS prg Φ (vr 0) "cycle"))])]
theorem e_Table___len__ (Φ : Str → List D → Mo D) (ds : List D) : callF prg Φ 20 8 f_Table___len__ ds = s_Table___len__ Φ ds := by kernel_rfl
def s_Table_words (Φ : Str → List D → Mo D) : List D → Mo D := fnS 1 2 false [
  rtS (mkS prg Φ 0 "Table.__init__" (fun ds _ => ds) [(biS prg Φ .tuple [(lcD (lcS [1] (.one 1) (srS (atS prg Φ (vr 0) "before")) [] (ixS (vr 1) (kk (.int (0))))))]), (biS prg Φ .tuple [(lcD (lcS [1] (.one 1) (srS (atS prg Φ (vr 0) "cycle")) [] (ixS (vr 1) (kk (.int (0))))))])] [])]
theorem e_Table_words (Φ : Str → List D → Mo D) (ds : List D) : callF prg Φ 20 8 f_Table_words ds = s_Table_words Φ ds := by kernel_rfl
end Q41
set_option maxHeartbeats 4000000
/-! Q41C: the bag. -/
namespace Q41
open PySem PySem.Spec PyProof.Rows L2 RR
theorem take_pos (Φ : Str → List D → Mo D) {b : Nat} {g c n m : Int} {T : List Ob} (hT : T[b]? = some (.lst [.int g, .int c, .int n])) (hg : 0 < g) (hm : 0 < m) (hd : m.natAbs.log2 < 9000) :
    s__law_take Φ [.adr b, .int m] T = some (.ok (.int (g % m)) (T.set b (.lst [.int (g / m), .int c, .int n]))) := by
  have hd' : CDivW g m := ⟨hm, hd⟩
  unfold s__law_take fnS
  simp [sq, ifS, So.of, So.nx, So.no, cmS, cm2S, ixS, slS, bindI, vr, kk, Mo.bind, Mo.of, Mo.rd, Mo.ret, Mo.no, Mo.calm, vw, insO, v2, eqM, cmpO, ordO, ltO, isN, ixO, atI, ixN, slO, stS, lcA, p2S, opS, binO, addO, mulO, negS, negO, asS, sbP, fdP, nmP, tpP, lP, subM, fldM, putD, rtS, rnS, exS, skp, tupS, lstS, lS, newS, RR.trk, RR.alloc, lcD, biS, biM, lenF, biP, biO, bi1, bi2, lenO, seqO, tyOf, trS, truO, nT, andT, orT, andS, orS, notS, iteS, bvS, okT_set, okT_refl, belO, bels, bel, belf, frz, frzs, take_set, take_same, RR.atS, attrM, caS, mkS, makeM, meS, methO, hT, hg, hm, hd']
def nxt (c n : Int) : Int := (c * 40014 + 5939 * (n + 1) * (n + 1) + 17) % 2147483563
def dig (c m : Int) : Int := (c / 8) ^ 3 % 2147483399 / 16 % m
theorem take_neg (Φ : Str → List D → Mo D) {b : Nat} {g c n m : Int} {T : List Ob} (hT : T[b]? = some (.lst [.int g, .int c, .int n])) (hg : ¬ 0 < g) (hm : 0 < m) (hn : 0 ≤ n ∧ n < 2 ^ 60) :
    s__law_take Φ [.adr b, .int m] T = some (.ok (.int (dig (nxt c n) m)) (T.set b (.lst [.int g, .int (nxt c n), .int (n + 1)]))) := by
  have hl : b < T.length := (List.getElem?_eq_some_iff.mp hT).1
  have m1 : CMul c 40014 := .inr ⟨by decide, by decide⟩
  have m2 : CMul 5939 (n + 1) := .inl ⟨by decide, by decide⟩
  have m3 : CMul (5939 * (n + 1)) (n + 1) := .inr ⟨by omega, by omega⟩
  have d8 : CDivW (nxt c n) 8 := ⟨by decide, by decide⟩
  have d16 : CDivW ((nxt c n / 8) ^ 3 % 2147483399) 16 := ⟨by decide, by decide⟩
  have hc0 : 0 ≤ nxt c n := Int.emod_nonneg _ (by decide)
  have hc1 : nxt c n < 2147483563 := Int.emod_lt_of_pos _ (by decide)
  have pw : CPow (nxt c n / 8) 3 := ⟨by decide, by decide, by omega⟩
  unfold s__law_take fnS
  have hs : ∀ o, (T.set b o)[b]? = some o := fun o => List.getElem?_set_self hl
  have m1' : CMul c 40014 ∨ CMulW c 40014 := .inl m1
  have m2' : CMul 5939 (n + 1) ∨ CMulW 5939 (n + 1) := .inl m2
  have m3' : CMul (5939 * (n + 1)) (n + 1) ∨ CMulW (5939 * (n + 1)) (n + 1) := .inl m3
  have e1 : (c * 40014 + 5939 * (n + 1) * (n + 1) + 17) % 2147483563 = nxt c n := rfl
  have e2 : (nxt c n / 8) ^ 3 % 2147483399 / 16 % m = dig (nxt c n) m := rfl
  clear hl
  simp [sq, ifS, So.of, So.nx, So.no, cmS, cm2S, ixS, slS, bindI, vr, kk, Mo.bind, Mo.of, Mo.rd, Mo.ret, Mo.no, Mo.calm, vw, insO, v2, eqM, cmpO, ordO, ltO, isN, ixO, atI, ixN, slO, stS, lcA, p2S, opS, binO, addO, mulO, negS, negO, asS, sbP, fdP, nmP, tpP, lP, subM, fldM, putD, rtS, rnS, exS, skp, tupS, lstS, lS, newS, RR.trk, RR.alloc, lcD, biS, biM, lenF, biP, biO, bi1, bi2, lenO, seqO, tyOf, trS, truO, nT, andT, orT, andS, orS, notS, iteS, bvS, okT_set, okT_refl, belO, bels, bel, belf, frz, frzs, take_set, take_same, RR.atS, attrM, caS, mkS, makeM, meS, methO, hT, hg, hm, m1', m2', m3', hs, e1, d8, d16, pw, e2]
/-- the bag's three numbers, the third at most N -/
def Bo (N : Int) (o : Ob) : Prop := ∃ g c n : Int, o = .lst [.int g, .int c, .int n] ∧ 0 ≤ n ∧ n ≤ N
theorem Bo.bel {N : Int} {o : Ob} (h : Bo N o) (k : Nat) : belO k o = true := by
  obtain ⟨g, c, n, rfl, _⟩ := h
  simp [belO, bels, RR.bel]
theorem Bo.mono {N M : Int} {o : Ob} (h : Bo N o) (hm : N ≤ M) : Bo M o := by
  obtain ⟨g, c, n, e, h0, h1⟩ := h
  exact ⟨g, c, n, e, h0, by omega⟩
theorem take_ok (Φ : Str → List D → Mo D) {b : Nat} {m N : Int} {o : Ob} {T : List Ob} (hT : T[b]? = some o) (ho : Bo N o) (hN : N < 2 ^ 60) (hm : 0 < m) (hd : m.natAbs.log2 < 9000) :
    ∃ k o', s__law_take Φ [.adr b, .int m] T = some (.ok (.int k) (T.set b o')) ∧ 0 ≤ k ∧ k < m ∧ Bo (N + 1) o' := by
  obtain ⟨g, c, n, rfl, h0, h1⟩ := ho
  by_cases hg : 0 < g
  · exact ⟨_, _, take_pos Φ hT hg hm hd, Int.emod_nonneg _ (by omega), Int.emod_lt_of_pos _ hm, _, _, _, rfl, h0, by omega⟩
  · exact ⟨_, _, take_neg Φ hT hg hm ⟨h0, by omega⟩, Int.emod_nonneg _ (by omega), Int.emod_lt_of_pos _ hm, _, _, _, rfl, by omega, by omega⟩
abbrev Φ (j : Nat) : Str → List D → Mo D := phi prg (fun f => fns.lookup f) 20 8 j
theorem p_take (j : Nat) (ds : List D) : Φ (j + 1) "_law_take" ds = s__law_take (Φ j) ds := e__law_take (Φ j) ds
theorem p_entry (j : Nat) (ds : List D) : Φ (j + 1) "_law_entry" ds = s__law_entry (Φ j) ds := e__law_entry (Φ j) ds
theorem p_drawn (j : Nat) (ds : List D) : Φ (j + 1) "_law_drawn" ds = s__law_drawn (Φ j) ds := e__law_drawn (Φ j) ds
theorem p_bag (j : Nat) (ds : List D) : Φ (j + 1) "_law_bag" ds = s__law_bag (Φ j) ds := e__law_bag (Φ j) ds
/-- the entries -/
def ents : List D := [.int 1, .bl true, .int 0, .bl false, .non, .str "1", .int 2, .tup [.str "through", .int 1], .tup [.str "round"], .tup [.bl true]]
theorem entry_ok (j : Nat) {b : Nat} {N : Int} {o : Ob} {T : List Ob} (hT : T[b]? = some o) (ho : Bo N o) (hN : N < 2 ^ 60) :
    ∃ d o', Φ (j + 2) "_law_entry" [.adr b] T = some (.ok d (T.set b o')) ∧ d ∈ ents ∧ Bo (N + 1) o' := by
  obtain ⟨k, o', h1, h2, h3, h4⟩ := take_ok (Φ j) hT ho hN (m := 10) (by decide) (by decide)
  have hb := h4.bel T.length
  obtain ⟨n, rfl⟩ : ∃ n : Nat, k = n := ⟨k.toNat, by omega⟩
  have hn : n < 10 := by omega
  rw [p_entry]
  unfold s__law_entry fnS
  have e := p_take j [.adr b, .int 10]
  have hrun : ∀ d, ents[n]? = some d → s__law_entry (Φ (j + 1)) [.adr b] T = some (.ok d (T.set b o')) := fun d hd => by
    unfold s__law_entry fnS
    have hx : frz (T.set b o') T.length d = some d := by
      have : d ∈ ents := List.mem_of_getElem? hd
      unfold ents at this
      simp only [List.mem_cons, List.not_mem_nil, or_false] at this
      rcases this with rfl | rfl | rfl | rfl | rfl | rfl | rfl | rfl | rfl | rfl <;> simp [frz, frzs]
    have hix : ixO (.lst ents) (.int n) = some d := by
      have : atI ents (n : Int) = some d := by
        unfold atI ixN
        have hl : (n : Int) < (ents.length : Int) := by
          show (n : Int) < 10
          omega
        rw [if_pos (by omega), if_pos hl]
        simpa using hd
      exact this
    unfold ents at hix
    simp [sq, rtS, So.of, ixS, lstS, lS, kk, negS, tupS, caS, vr, Mo.bind, Mo.of, Mo.rd, Mo.ret, vw, e, h1, okT_set, hb, take_set, hx, hix, sizeLine_eq]
  exact ⟨ents[n], o', hrun _ (List.getElem?_eq_getElem hn), List.getElem_mem hn, h4⟩
end Q41
set_option maxHeartbeats 4000000
/-! Q41D: what is drawn. -/
namespace Q41
open PySem PySem.Spec PyProof.Rows L2 RR
/-- the store with the bag at b as it may be by now -/
def At (T : List Ob) (b : Nat) (N : Int) (T' : List Ob) : Prop := ∃ o, T' = T.set b o ∧ Bo N o
theorem At.get {T T' : List Ob} {b : Nat} {N : Int} (h : At T b N T') (hb : b < T.length) : ∃ o, T'[b]? = some o ∧ Bo N o := by
  obtain ⟨o, rfl, ho⟩ := h
  exact ⟨o, List.getElem?_set_self hb, ho⟩
theorem At.set {T T' : List Ob} {b : Nat} {N M : Int} {o : Ob} (h : At T b N T') (ho : Bo M o) : At T b M (T'.set b o) := by
  obtain ⟨o', rfl, _⟩ := h
  exact ⟨o, List.set_set .., ho⟩
theorem At.mono {T T' : List Ob} {b : Nat} {N M : Int} (h : At T b N T') (hm : N ≤ M) : At T b M T' := by
  obtain ⟨o', rfl, ho⟩ := h
  exact ⟨o', rfl, ho.mono hm⟩
theorem take_at (j : Nat) {T T' : List Ob} {b : Nat} {N m : Int} (h : At T b N T') (hb : b < T.length) (hN : N < 2 ^ 60) (hm : 0 < m) (hd : m.natAbs.log2 < 9000) :
    ∃ k T'', Φ (j + 1) "_law_take" [.adr b, .int m] T' = some (.ok (.int k) T'') ∧ 0 ≤ k ∧ k < m ∧ At T b (N + 1) T'' := by
  obtain ⟨o, h1, h2⟩ := h.get hb
  obtain ⟨k, o', e, k0, k1, h3⟩ := take_ok (Φ j) h1 h2 hN hm hd
  exact ⟨k, _, by rw [p_take]; exact e, k0, k1, h.set h3⟩
theorem entry_at (j : Nat) {T T' : List Ob} {b : Nat} {N : Int} (h : At T b N T') (hb : b < T.length) (hN : N < 2 ^ 60) :
    ∃ d T'', Φ (j + 2) "_law_entry" [.adr b] T' = some (.ok d T'') ∧ d ∈ ents ∧ At T b (N + 1) T'' := by
  obtain ⟨o, h1, h2⟩ := h.get hb
  obtain ⟨d, o', e, hd, h3⟩ := entry_ok j h1 h2 hN
  exact ⟨d, _, e, hd, h.set h3⟩
/-- some = [_law_entry(bag) for k in range(1 + _law_take(bag, 3))] -/
theorem some_ok (j : Nat) {T T' : List Ob} {b : Nat} {N : Int} {Γ : En} (h : At T b N T') (hb : b < T.length) (hN : N < 2 ^ 59) (hΓ : Γ = [some (.adr b), none, none, none, none, none]) :
    ∃ ys T'', lcS [5] (.one 5) (r1S (opS .Add (kk (.int (1))) (caS (Φ (j + 2)) "_law_take" (fun ds _ => ds) [(vr 0), (kk (.int (3)))] []))) [] (caS (Φ (j + 2)) "_law_entry" (fun ds _ => ds) [(vr 0)] []) Γ T' = some (.ok ys T'') ∧
      0 < ys.length ∧ ys.length ≤ 3 ∧ (∀ y ∈ ys, y ∈ ents) ∧ At T b (N + 4) T'' := by
  obtain ⟨k, T1, e1, k0, k1, h1⟩ := take_at (j + 1) h hb (by omega) (m := 3) (by decide) (by decide)
  obtain ⟨n, hn⟩ : ∃ n : Nat, 1 + k = n := ⟨(1 + k).toNat, by omega⟩
  have hsrc : r1S (opS .Add (kk (.int (1))) (caS (Φ (j + 2)) "_law_take" (fun ds _ => ds) [(vr 0), (kk (.int (3)))] [])) Γ T' = some (.ok ⟨rangeD 0 n, none⟩ T1) := by
    have e2 : rng1O (.int (1 + k)) = some ⟨rangeD 0 n, none⟩ := rng1_ok hn (by omega)
    subst hΓ
    simp [r1S, opS, kk, caS, lS, vr, Mo.bind, Mo.of, Mo.rd, Mo.ret, e1, binO, v2, vw, addO, e2]
  obtain ⟨ys, T2, e2, l2, p2, h2⟩ := lcS_range (own := [5]) (t := .one 5) (elt := caS (Φ (j + 2)) "_law_entry" (fun ds _ => ds) [(vr 0)] []) (I := fun k T2 => At T b (N + 1 + k) T2) (P := fun _ d => d ∈ ents) hsrc (h1.mono (by simp)) (by rw [sizeLine_eq]; omega) fun i T2 hi hI => by
    obtain ⟨d, T3, e3, hd, h3⟩ := entry_at j hI hb (by omega)
    subst hΓ
    refine ⟨[some (.adr b), none, none, none, none, some (.int (i : Nat))], d, T3, by simp [Tgt.put, wipeE], ?_, hd, h3.mono (by push_cast; omega)⟩
    simp [caS, lS, vr, Mo.bind, Mo.of, Mo.ret, e3]
  exact ⟨ys, T2, e2, by omega, by omega, fun y hy => by
    obtain ⟨k, hk⟩ := List.mem_iff_getElem?.mp hy
    exact p2 k y hk, h2.mono (by omega)⟩
/-- tuple([some[_law_take(bag, len(some))] for k in range(..)]) -/
theorem pick_ok (j : Nat) {T T1 : List Ob} {b : Nat} {N : Int} {x2 x3 x4 x5 : Option D} {ys : List D} {src : En → Mo Src} {T' : List Ob} {n : Nat} (h : At T b N T1) (hb : b < T.length) (hN : N < 2 ^ 58) (hn : n ≤ 1000) (hy : 0 < ys.length ∧ ys.length ≤ 3) (he : ∀ y ∈ ys, y ∈ ents)
    (hsrc : src [some (.adr b), some (.lst ys), x2, x3, x4, x5] T' = some (.ok ⟨rangeD 0 n, none⟩ T1)) :
    ∃ zs T'', biS prg (Φ (j + 1)) .tuple [(lcD (lcS [5] (.one 5) src [] (ixS (vr 1) (caS (Φ (j + 1)) "_law_take" (fun ds _ => ds) [(vr 0), (biS prg (Φ (j + 1)) .len [(vr 1)])] []))))] [some (.adr b), some (.lst ys), x2, x3, x4, x5] T' = some (.ok (.tup zs) T'') ∧
      zs.length = n ∧ (∀ y ∈ zs, y ∈ ents) ∧ At T b (N + n) T'' := by
  obtain ⟨zs, T2, e2, l2, p2, h2⟩ := lcS_range (own := [5]) (t := .one 5) (elt := ixS (vr 1) (caS (Φ (j + 1)) "_law_take" (fun ds _ => ds) [(vr 0), (biS prg (Φ (j + 1)) .len [(vr 1)])] [])) (I := fun k T2 => At T b (N + k) T2) (P := fun _ d => d ∈ ents) hsrc (h.mono (by simp)) (by rw [sizeLine_eq]; omega) fun i T2 hi hI => by
    obtain ⟨k, T3, e3, k0, k1, h3⟩ := take_at j hI hb (by omega) (m := (ys.length : Int)) (by omega) (small_log (by omega))
    obtain ⟨d, hd, hm⟩ := atI_mem k0 k1
    refine ⟨[some (.adr b), some (.lst ys), x2, x3, x4, some (.int (i : Nat))], d, T3, by simp [Tgt.put, wipeE], ?_, he d hm, h3.mono (by push_cast; omega)⟩
    simp [ixS, caS, lS, vr, biS, biM, lenF, insO, biP, biO, bi1, lenO, Mo.bind, Mo.of, Mo.rd, Mo.ret, vw, e3, ixO, hd]
  have hm : ∀ y ∈ zs, y ∈ ents := fun y hy => by
    obtain ⟨k, hk⟩ := List.mem_iff_getElem?.mp hy
    exact p2 k y hk
  refine ⟨zs, T2, ?_, l2, hm, h2⟩
  simp [biS, lS, lcD, Mo.bind, Mo.ret, e2, biM, lenF, biP, biO, bi1, seqO, vw]
theorem s4_ok (Ψ : Str → List D → Mo D) {b : Nat} {y x3 x4 x5 : Option D} {zs : List D} {T3 T4 : List Ob} {k4 : Int} {n4 : Nat} (e4 : Ψ "_law_take" [.adr b, .int 2] T3 = some (.ok (.int k4) T4)) (hn4 : 1 + k4 = n4) (c1 : zs.length ≤ 1000 ∧ -1000 ≤ (n4 : Int) ∧ (n4 : Int) ≤ 1000) :
    opS .Mult (vr 2) (opS .Add (kk (.int (1))) (caS Ψ "_law_take" (fun ds _ => ds) [(vr 0), (kk (.int (2)))] [])) [some (.adr b), y, some (.tup zs), x3, x4, x5] T3 = some (.ok (.tup (repD zs n4)) T4) := by
  simp [opS, kk, caS, lS, vr, Mo.bind, Mo.of, Mo.rd, Mo.ret, e4, binO, v2, vw, addO, mulO, hn4, c1]
end Q41
set_option maxHeartbeats 4000000
/-! Q41E: what is drawn. -/
namespace Q41
open PySem PySem.Spec PyProof.Rows L2 RR
theorem take_w (j : Nat) {T T' : List Ob} {b : Nat} {N m : Int} (h : At T b N T') (hb : b < T.length) (hN : N < 2 ^ 60) (hm : 0 < m) (hd : m.natAbs.log2 < 9000) :
    (Φ (j + 1) "_law_take" [.adr b, .int m]).wp T' (fun d T'' => ∃ k, d = .int k ∧ 0 ≤ k ∧ k < m ∧ At T b (N + 1) T'') XF := by
  obtain ⟨k, T'', e, k0, k1, h1⟩ := take_at j h hb hN hm hd
  exact Mo.wp_of_run e ⟨k, rfl, k0, k1, h1⟩
theorem entry_w (j : Nat) {T T' : List Ob} {b : Nat} {N : Int} (h : At T b N T') (hb : b < T.length) (hN : N < 2 ^ 60) :
    (Φ (j + 2) "_law_entry" [.adr b]).wp T' (fun d T'' => d ∈ ents ∧ At T b (N + 1) T'') XF := by
  obtain ⟨d, T'', e, k0, h1⟩ := entry_at j h hb hN
  exact Mo.wp_of_run e ⟨k0, h1⟩
theorem ent_plain {d : D} (h : d ∈ ents) : plainD d = true := by
  unfold ents at h
  simp only [List.mem_cons, List.not_mem_nil, or_false] at h
  rcases h with rfl | rfl | rfl | rfl | rfl | rfl | rfl | rfl | rfl | rfl <;> simp [plainD, plainDs]
theorem ents_plains : ∀ {ds : List D}, (∀ y ∈ ds, y ∈ ents) → plainDs ds = true
  | [], _ => by simp [plainDs]
  | d :: ds, h => by simp [plainDs, ent_plain (h d List.mem_cons_self), ents_plains fun y hy => h y (List.mem_cons_of_mem _ hy)]
theorem At.of {T T' T'' : List Ob} {b : Nat} {N M : Int} (h : At T b M T'') (h' : At T b N T') : okT T' T'' = true ∧ T''.take T'.length = T'' := by
  obtain ⟨o', rfl, h1⟩ := h'
  obtain ⟨o, rfl, h2⟩ := h
  have e : T.set b o = (T.set b o').set b o := (List.set_set ..).symm
  rw [e]
  exact ⟨okT_set (h2.bel _), take_set _ _ _⟩
/-- [some[_law_take(bag, len(some))] for k in range(..)] -/
theorem pick_w (j : Nat) {T T1 : List Ob} {b n : Nat} {N : Int} {ys : List D} {Γ : En} {Q : List D → List Ob → Prop} {E : Ex} (h : At T b N T1) (hb : b < T.length) (hN : N < 2 ^ 58) (hn : n ≤ 1000) (hy : 0 < ys.length ∧ ys.length ≤ 3) (he : ∀ y ∈ ys, y ∈ ents)
    (hΓ : ∃ Γ', wipeE Γ [5] = some (.adr b) :: some (.lst ys) :: Γ' ∧ 3 < Γ'.length) (hq : ∀ zs T2, zs.length = n → (∀ y ∈ zs, y ∈ ents) → At T b (N + n) T2 → Q zs T2) :
    (lcGo (lcF [5] (.one 5) [] (ixS (vr 1) (caS (Φ (j + 1)) "_law_take" (fun ds _ => ds) [vr 0, biS prg (Φ (j + 1)) .len [vr 1]] [])) Γ) (Src.keeps ⟨rangeD 0 n, none⟩) (rangeD 0 n) []).wp T1 Q E := by
  obtain ⟨Γ', e, hl⟩ := hΓ
  refine lcW_range (fun k T' => At T b (N + k) T') (fun k d => d ∈ ents) (by rw [sizeLine_eq]; omega) (by simpa using h) (fun i T2 hi hI => ?_) fun zs T2 hz hp hI => hq zs T2 hz (fun y hy => ?_) hI
  · refine ⟨_, by rw [e]; simp [Tgt.put]; rfl, ?_⟩
    simp
    refine (take_w j hI hb (by omega) (by omega) (small_log (by omega))).to fun d T3 ⟨k, e, k0, k1, h3⟩ => ?_
    subst e
    obtain ⟨d, hd, hm⟩ := atI_mem k0 k1
    simp [hd]
    exact ⟨he d hm, h3.mono (by omega)⟩
  · obtain ⟨k, hk⟩ := List.mem_iff_getElem?.mp hy
    exact hp k y hk
theorem drawn_w (j : Nat) {T T' : List Ob} {b : Nat} {N : Int} (h : At T b N T') (hb : b < T.length) (hN : N < 2 ^ 50) :
    (Φ (j + 3) "_law_drawn" [.adr b]).wp T' (fun d T'' => ∃ ahead lot, d = .tup [.tup ahead, .tup lot] ∧ (∀ y ∈ ahead, y ∈ ents) ∧ (∀ y ∈ lot, y ∈ ents) ∧ ahead.length ≤ 8 ∧ 1 ≤ lot.length ∧ lot.length ≤ 8 ∧ At T b (N + 40) T'') XF := by
  rw [p_drawn]
  unfold s__law_drawn
  refine (wp_fnS rfl).mpr ?_
  simp
  refine (take_w (j + 1) h hb (by omega) (by decide) (by decide)).to fun d T1 ⟨k, e, k0, k1, h1⟩ => ?_
  subst e
  simp
  refine ⟨by omega, lcW_range (fun k T' => At T b (N + 1 + k) T') (fun k d => d ∈ ents) ?_ ?_ ?_ ?_⟩
  · rw [sizeLine_eq]; omega
  · simpa using h1
  · intro i T2 hi hI
    refine ⟨_, by simp [Tgt.put, wipeE]; rfl, ?_⟩
    simp
    exact (entry_w j hI hb (by omega)).mono (fun d T3 ⟨a, c⟩ => ⟨a, c.mono (by push_cast; omega)⟩) fun _ _ _ z => z
  intro ys T2 hl hp hI
  have hys : ∀ y ∈ ys, y ∈ ents := fun y hy => by
    obtain ⟨k, hk⟩ := List.mem_iff_getElem?.mp hy
    exact hp k y hk
  have hl1 : 0 < ys.length ∧ ys.length ≤ 3 := by omega
  refine (take_w (j + 1) hI hb (by omega) (by decide) (by decide)).to fun d T3 ⟨k2, e, k20, k21, h3⟩ => ?_
  subst e
  simp
  refine ⟨by omega, pick_w (j + 1) h3 hb (by omega) (by omega) hl1 hys (by simp [wipeE]) fun zs T4 hl2 hz h4 => ?_⟩
  refine (take_w (j + 1) h4 hb (by omega) (by decide) (by decide)).to fun d T5 ⟨k3, e, k30, k31, h5⟩ => ?_
  subst e
  simp
  obtain ⟨lot, hlot⟩ : ∃ lot, lot = repD zs (1 + k3) := ⟨_, rfl⟩
  obtain ⟨n3, hn3⟩ : ∃ n : Nat, 1 + k3 = n := ⟨(1 + k3).toNat, by omega⟩
  rw [← hlot]
  have hll : lot.length = n3 * zs.length := by rw [hlot, hn3, repD_len]
  have hle : ∀ y ∈ lot, y ∈ ents := fun y hy => hz y (repD_mem (hlot ▸ hy))
  have hn3' : n3 = 1 ∨ n3 = 2 := by omega
  have hll1 : 1 ≤ lot.length ∧ lot.length ≤ 8 := by
    rcases hn3' with rfl | rfl <;> omega
  refine ⟨by omega, (take_w (j + 1) h5 hb (by omega) (by decide) (by decide)).to fun d T6 ⟨k4, e, k40, k41, h6⟩ => ?_⟩
  subst e
  simp
  refine ⟨by omega, pick_w (j + 1) h6 hb (by omega) (by omega) hl1 hys (by simp [wipeE]) fun as T7 hl3 has h7 => ?_⟩
  have c1 : CMul (lot.length : Int) 5 := .inl ⟨by omega, by omega⟩
  simp [c1]
  refine ⟨by omega, (take_w (j + 1) h7 hb (by omega) (by decide) (by decide)).to fun d T8 ⟨k5, e, k50, k51, h8⟩ => ?_⟩
  subst e
  simp
  have l5 : (repD lot 5).length = 5 * lot.length := repD_len (k := 5)
  have lc : (RR.cutD (repD lot 5) (some ((lot.length : Int) * 5 - k5)) none).length ≤ 4 := by
    unfold RR.cutD
    rw [List.length_take, List.length_drop, l5]
    obtain ⟨m, hm⟩ : ∃ m : Nat, (lot.length : Int) * 5 - k5 = m := ⟨((lot.length : Int) * 5 - k5).toNat, by omega⟩
    rw [hm, HT.sIx_nat]
    simp [HT.sIx]
    omega
  have hce : ∀ y ∈ as ++ RR.cutD (repD lot 5) (some ((lot.length : Int) * 5 - k5)) none, y ∈ ents := fun y hy => by
    rcases List.mem_append.mp hy with hy | hy
    · exact has y hy
    · exact hle y (repD_mem (cutD_mem hy))
  refine ⟨by rw [sizeLine_eq]; omega, by rw [sizeLine_eq]; omega, (h8.of h).1, onO_of (frz_plain _ (by simp [plainD, plainDs, ents_plains hce, ents_plains hle])) ⟨_, _, rfl, hce, hle, by rw [List.length_append]; omega, hll1.1, hll1.2, by rw [(h8.of h).2]; exact h8.mono (by omega)⟩⟩
end Q41
set_option maxHeartbeats 4000000
/-! Q41F: rows that repeat in the end. -/
namespace Q41
open PySem PySem.Spec PyProof.Rows L2 RR
section
variable {α : Type} {f : Nat → α}
def Per (f : Nat → α) (p m : Nat) : Prop := ∀ k, m ≤ k → f (k + p) = f k
theorem Per.mul {p m : Nat} (h : Per f p m) : ∀ (t k : Nat), m ≤ k → f (k + t * p) = f k
  | 0, k, _ => by simp
  | t + 1, k, hk => by
    rw [Nat.succ_mul, ← Nat.add_assoc, h _ (by omega)]
    exact h.mul t k hk
theorem Per.back {L A q m : Nat} (h : Per f L A) (hq : Per f q m) (hL : 0 < L) : Per f q A := fun k hk => by
  have h1 := h.mul m (k + q) (by omega)
  have h2 := h.mul m k hk
  have h3 : m ≤ k + m * L := Nat.le_trans (Nat.le_mul_of_pos_right m hL) (Nat.le_add_left _ _)
  rw [← h1, ← h2, show k + q + m * L = k + m * L + q by omega]
  exact hq _ h3
theorem Per.mod {p q m : Nat} (hp : Per f p m) (hq : Per f q m) : Per f (q % p) m := fun k hk => by
  have h1 := hp.mul (q / p) (k + q % p) (by omega)
  rw [← h1, Nat.add_assoc, Nat.mul_comm, Nat.mod_add_div]
  exact hq k hk
theorem Per.gcd {p q m : Nat} : Per f p m → Per f q m → Per f (Nat.gcd p q) m := by
  induction p, q using Nat.gcd.induction with
  | H0 n => intro _ h; rw [Nat.gcd_zero_left]; exact h
  | H1 m' n hm ih => intro h1 h2; rw [Nat.gcd_rec]; exact ih (h1.mod h2) h1
/-- the least period and where it begins -/
structure Can (f : Nat → α) (p m : Nat) : Prop where
  pos : 0 < p
  per : Per f p m
  least : ∀ q m', 0 < q → Per f q m' → p ≤ q
  first : ∀ m', Per f p m' → m ≤ m'
theorem Can.uniq {p m p' m' : Nat} (a : Can f p m) (b : Can f p' m') : p = p' ∧ m = m' := by
  have h1 := a.least p' m' b.pos b.per
  have h2 := b.least p m a.pos a.per
  have e : p = p' := by omega
  subst e
  have h3 := a.first m' b.per
  have h4 := b.first m a.per
  exact ⟨rfl, by omega⟩
/-- the stretch of f from m on, n long -/
def str' (f : Nat → α) (m n : Nat) : List α := (List.range n).map fun i => f (m + i)
theorem str_len {m n : Nat} : (str' f m n).length = n := by simp [str']
theorem str_at {m n i : Nat} (h : i < n) : (str' f m n)[i]? = some (f (m + i)) := by
  unfold str'
  rw [List.getElem?_map, List.getElem?_range h]
  rfl
end
/-- the row that a form tells -/
def row (a l : List D) (k : Nat) : D := if k < a.length then a.getD k .non else l.getD ((k - a.length) % l.length) .non
theorem row_per {a l : List D} : Per (row a l) l.length a.length := fun k hk => by
  unfold row
  rw [if_neg (by omega), if_neg (by omega), show k + l.length - a.length = k - a.length + l.length by omega, Nat.add_mod_right]
/-- a cycle repeats its first p items -/
def Rep (l : List D) (p : Nat) : Prop := l.length % p = 0 ∧ ∀ k, k < l.length → l.getD k .non = l.getD (k % p) .non
theorem rep_iff {a l : List D} {p : Nat} (hl : 0 < l.length) (hp : 0 < p) (hd : l.length % p = 0) : (∀ k, k < l.length → l.getD k .non = l.getD (k % p) .non) ↔ Per (row a l) p a.length := by
  have hr : ∀ k, row a l (a.length + k) = l.getD (k % l.length) .non := fun k => by
    unfold row
    rw [if_neg (by omega), show a.length + k - a.length = k by omega]
  constructor
  · intro h k hk
    obtain ⟨i, rfl⟩ : ∃ i, k = a.length + i := ⟨k - a.length, by omega⟩
    rw [Nat.add_assoc, hr, hr, h _ (Nat.mod_lt _ hl), h (i % l.length) (Nat.mod_lt _ hl), Nat.mod_mod_of_dvd _ (Nat.dvd_of_mod_eq_zero hd), Nat.mod_mod_of_dvd _ (Nat.dvd_of_mod_eq_zero hd), Nat.add_mod_right]
  · intro h k hk
    have h1 := h.mul (k / p) (a.length + k % p) (by omega)
    have hlt : k % p < l.length := Nat.lt_of_le_of_lt (Nat.mod_le _ _) hk
    have h2 : a.length + k % p + k / p * p = a.length + k := by
      have := Nat.mod_add_div k p
      rw [Nat.mul_comm] at this
      omega
    rw [h2, hr, hr, Nat.mod_eq_of_lt hk, Nat.mod_eq_of_lt hlt] at h1
    exact h1
/-- the least size of a cycle's repeated part is the least period -/
theorem rep_least {a l : List D} {p : Nat} (hl : 0 < l.length) (hp : 0 < p) (h : Rep l p) (hm : ∀ q, 0 < q → q ≤ l.length → Rep l q → p ≤ q) : Per (row a l) p a.length ∧ ∀ q m, 0 < q → Per (row a l) q m → p ≤ q := by
  refine ⟨(rep_iff hl hp h.1).mp h.2, fun q m hq hpq => ?_⟩
  have h1 : Per (row a l) q a.length := row_per.back hpq hl
  have h2 := h1.gcd row_per
  have hg : 0 < Nat.gcd q l.length := Nat.gcd_pos_of_pos_left _ hq
  have hd : l.length % Nat.gcd q l.length = 0 := Nat.mod_eq_zero_of_dvd (Nat.gcd_dvd_right _ _)
  have h3 := hm _ hg (Nat.le_of_dvd hl (Nat.gcd_dvd_right _ _)) ⟨hd, (rep_iff hl hg hd).mpr h2⟩
  exact Nat.le_trans h3 (Nat.le_of_dvd hq (Nat.gcd_dvd_left _ _))
/-- what is seen of a form within sixty entries -/
def Sees (f : Nat → D) (p m : Nat) : Prop := ∀ k, m ≤ k → k + p < 60 → f (k + p) = f k
theorem sees_iff {a l : List D} {p m : Nat} (hl : 0 < l.length) (hl8 : l.length ≤ 8) (ha : a.length ≤ 8) (hm : m ≤ a.length) (hp : p ≤ l.length) : Sees (row a l) p m ↔ Per (row a l) p m := by
  constructor
  · intro h
    have hA : Per (row a l) p a.length := fun k hk => by
      obtain ⟨i, rfl⟩ : ∃ i, k = a.length + i := ⟨k - a.length, by omega⟩
      have e1 := (row_per (a := a) (l := l)).mul (i / l.length) (a.length + i % l.length) (by omega)
      have e2 := (row_per (a := a) (l := l)).mul (i / l.length) (a.length + i % l.length + p) (by omega)
      have hq : i % l.length + i / l.length * l.length = i := by rw [Nat.mul_comm]; exact Nat.mod_add_div i l.length
      have hlt := Nat.mod_lt i hl
      rw [show a.length + i % l.length + i / l.length * l.length = a.length + i by omega] at e1
      rw [show a.length + i % l.length + p + i / l.length * l.length = a.length + i + p by omega] at e2
      rw [e1, e2]
      exact h _ (by omega) (by omega)
    intro k hk
    by_cases h8 : k < 16
    · exact h k hk (by omega)
    · exact hA k (by omega)
  · exact fun h k hk _ => h k hk
end Q41
set_option maxHeartbeats 4000000
/-! Q41G: same, repeats. -/
namespace Q41
open PySem PySem.Spec PyProof.Rows L2 RR
theorem p_same (j : Nat) (ds : List D) : Φ (j + 1) "same" ds = s_same (Φ j) ds := e_same (Φ j) ds
theorem p_repeats (j : Nat) (ds : List D) : Φ (j + 1) "repeats" ds = s_repeats (Φ j) ds := e_repeats (Φ j) ds
theorem p_init (j : Nat) (ds : List D) : Φ (j + 1) "Table.__init__" ds = s_Table___init__ (Φ j) ds := e_Table___init__ (Φ j) ds
theorem p_at (j : Nat) (ds : List D) : Φ (j + 1) "_law_at" ds = s__law_at (Φ j) ds := e__law_at (Φ j) ds
theorem p_tells (j : Nat) (ds : List D) : Φ (j + 1) "_law_tells" ds = s__law_tells (Φ j) ds := e__law_tells (Φ j) ds
theorem p_shortest (j : Nat) (ds : List D) : Φ (j + 1) "_law_shortest" ds = s__law_shortest (Φ j) ds := e__law_shortest (Φ j) ds
theorem p_right (j : Nat) (ds : List D) : Φ (j + 1) "_law_right" ds = s__law_right (Φ j) ds := e__law_right (Φ j) ds
theorem p_law (j : Nat) (ds : List D) : Φ (j + 1) "law" ds = s_law (Φ j) ds := e_law (Φ j) ds
theorem p_before (j : Nat) (ds : List D) : Φ (j + 1) "Table.before" ds = s_Table_before (Φ j) ds := e_Table_before (Φ j) ds
theorem p_cycle (j : Nat) (ds : List D) : Φ (j + 1) "Table.cycle" ds = s_Table_cycle (Φ j) ds := e_Table_cycle (Φ j) ds
theorem p_Tat (j : Nat) (ds : List D) : Φ (j + 1) "Table.at" ds = s_Table_at (Φ j) ds := e_Table_at (Φ j) ds
theorem p_eq (j : Nat) (ds : List D) : Φ (j + 1) "Table.__eq__" ds = s_Table___eq__ (Φ j) ds := e_Table___eq__ (Φ j) ds
theorem p_len (j : Nat) (ds : List D) : Φ (j + 1) "Table.__len__" ds = s_Table___len__ (Φ j) ds := e_Table___len__ (Φ j) ds
theorem p_words (j : Nat) (ds : List D) : Φ (j + 1) "Table.words" ds = s_Table_words (Φ j) ds := e_Table_words (Φ j) ds
/-- all entries there are -/
def entz : List D := ents ++ [.tup [.str "refused", .int 0, .tup [.str "many"]], .str "through", .str "round", .str "refused"]
theorem entz_of {d : D} (h : d ∈ ents) : d ∈ entz := List.mem_append_left _ h
theorem ent_fit {d : D} (h : d ∈ entz) : Fit 400 2 d := by
  have st : ∀ (s : Str), (s.cps.toList.all fun c => decide (c < 0x110000)) = true → 10 * s.length + 2 ≤ 400 → ∀ n, Fit 400 n (.str s) := fun s h1 h2 n => Fit.str (fun c hc => of_decide_eq_true (List.all_eq_true.mp h1 c hc)) h2
  unfold entz ents at h
  simp only [List.mem_cons, List.mem_append, List.not_mem_nil, or_false] at h
  have t1 : Fit 400 2 (.tup [.str "through", .int 1]) := ⟨by decide +kernel, by decide +kernel, by decide +kernel, by decide +kernel, by decide +kernel⟩
  have t2 : Fit 400 2 (.tup [.str "round"]) := ⟨by decide +kernel, by decide +kernel, by decide +kernel, by decide +kernel, by decide +kernel⟩
  have t3 : Fit 400 2 (.tup [.bl true]) := ⟨by decide +kernel, by decide +kernel, by decide +kernel, by decide +kernel, by decide +kernel⟩
  have t4 : Fit 400 2 (.tup [.str "refused", .int 0, .tup [.str "many"]]) := ⟨by decide +kernel, by decide +kernel, by decide +kernel, by decide +kernel, by decide +kernel⟩
  rcases h with (rfl | rfl | rfl | rfl | rfl | rfl | rfl | rfl | rfl | rfl) | rfl | rfl | rfl | rfl
  · exact Fit.int (by decide) (by decide) (by decide)
  · exact Fit.bl (by decide)
  · exact Fit.int (by decide) (by decide) (by decide)
  · exact Fit.bl (by decide)
  · exact Fit.non (by decide)
  · exact st _ (by decide +kernel) (by decide +kernel) _
  · exact Fit.int (by decide) (by decide) (by decide)
  · exact t1
  · exact t2
  · exact t3
  · exact t4
  · exact st _ (by decide +kernel) (by decide +kernel) _
  · exact st _ (by decide +kernel) (by decide +kernel) _
  · exact st _ (by decide +kernel) (by decide +kernel) _
theorem ent_sh : (entz.map sh).Nodup := by decide +kernel
theorem ent_inj {d e : D} (hd : d ∈ entz) (he : e ∈ entz) (h : sh d = sh e) : d = e := by
  obtain ⟨i, hi⟩ := List.mem_iff_getElem?.mp hd
  obtain ⟨k, hk⟩ := List.mem_iff_getElem?.mp he
  have h1 : (entz.map sh)[i]? = some (sh d) := by rw [List.getElem?_map, hi]; rfl
  have h2 : (entz.map sh)[k]? = some (sh d) := by rw [List.getElem?_map, hk, h]; rfl
  obtain ⟨l1, e1⟩ := List.getElem?_eq_some_iff.mp h1
  obtain ⟨l2, e2⟩ := List.getElem?_eq_some_iff.mp h2
  have : i = k := (List.getElem_inj ent_sh).mp (e1.trans e2.symm)
  subst this
  rw [hi] at hk
  exact Option.some.inj hk
theorem ent_dec {d e : D} (hd : d ∈ entz) (he : e ∈ entz) : sh d = sh e ↔ d = e := ⟨ent_inj hd he, fun h => by rw [h]⟩
theorem same_w (j : Nat) {x y : D} {T : List Ob} (px : plainD x = true) (py : plainD y = true) (hx : shwB x = true) (hy : shwB y = true) :
    (Φ (j + 1) "same" [x, y]).wp T (fun d T' => d = .bl (decide (sh x = sh y)) ∧ T' = T) XF := by
  rw [p_same]
  unfold s_same
  simp [vw_plain px, vw_plain py, hx, hy, okT_refl]
theorem sameE_w (j : Nat) {x y : D} {T : List Ob} (hx : x ∈ entz) (hy : y ∈ entz) :
    (Φ (j + 1) "same" [x, y]).wp T (fun d T' => (∃ b, d = .bl b ∧ (b = true ↔ x = y)) ∧ T' = T) XF := by
  have fx := ent_fit hx
  have fy := ent_fit hy
  refine (same_w j fx.plain fy.plain (fx.shwB (by rw [sizeLine_eq]; decide) (by decide)) (fy.shwB (by rw [sizeLine_eq]; decide) (by decide))).to fun d T' ⟨a, b⟩ => ⟨⟨_, a, ?_⟩, b⟩
  rw [decide_eq_true_eq]
  exact ent_dec hx hy
theorem repeats_w (j : Nat) {l : List D} {p : Nat} {T : List Ob} (hl : l.length ≤ 8) (h0 : 0 < l.length) (hp : 0 < p) (he : ∀ y ∈ l, y ∈ entz) :
    (Φ (j + 2) "repeats" [.tup l, .int p]).wp T (fun d T' => (∃ b, d = .bl b ∧ (b = true ↔ Rep l p)) ∧ T' = T) XF := by
  rw [p_repeats]
  unfold s_repeats
  simp
  refine ⟨by omega, fun hd => ?_, fun hd => ?_⟩
  · refine lcW_map (fun d => match d with
      | .tup [.int i, x] => .bl (decide (sh x = sh (l.getD (i.toNat % p) .non)))
      | _ => .non) rfl (by rw [sizeLine_eq]; unfold enumD; simp; omega) (fun d hm => ?_) ?_
    · obtain ⟨i, x, rfl, hi⟩ := enumD_mem hm
      refine ⟨_, rfl, ?_⟩
      simp [wipeE]
      have hlt : i < l.length := (List.getElem?_eq_some_iff.mp hi).1
      have hi2 : i % p < l.length := Nat.lt_of_le_of_lt (Nat.mod_le _ _) hlt
      have hx : atI l ((i : Int) % (p : Int)) = some (l.getD (i % p) .non) := by
        have e0 : (i : Int) % (p : Int) = ((i % p : Nat) : Int) := (Int.natCast_emod i p).symm
        rw [e0, atI_n, List.getD_eq_getElem?_getD, List.getElem?_eq_getElem hi2]
        rfl
      have h1 : x ∈ entz := he x (List.mem_of_getElem? hi)
      have h2 : l.getD (i % p) .non ∈ entz := he _ (by
        rw [List.getD_eq_getElem?_getD, List.getElem?_eq_getElem hi2]
        exact List.getElem_mem hi2)
      have fx := ent_fit h1
      have fy := ent_fit h2
      rw [hx]
      simp [hp]
      refine (same_w j fx.plain ?_ (fx.shwB (by rw [sizeLine_eq]; decide) (by decide)) ?_).to fun d T' h => ?_
      · simpa using fy.plain
      · simpa using fy.shwB (by rw [sizeLine_eq]; decide) (by decide)
      · simpa using h
    · have e : (enumD l).map (fun d => match d with
          | .tup [.int i, x] => D.bl (decide (sh x = sh (l.getD (i.toNat % p) .non)))
          | _ => .non) = l.zipIdx.map fun q => D.bl (decide (sh q.1 = sh (l.getD (q.2 % p) .non))) := by
        unfold enumD
        rw [List.map_map]
        rfl
      rw [e, blsO_map]
      simp only [onO_some, okT_refl, take_same, true_and, and_true]
      have hk : ∀ k x, l[k]? = some x → (sh x = sh (l.getD (k % p) .non) ↔ l.getD k .non = l.getD (k % p) .non) := fun k x hx => by
        have e1 : l.getD k .non = x := by rw [List.getD_eq_getElem?_getD, hx]; rfl
        rw [e1]
        have hlt : k < l.length := (List.getElem?_eq_some_iff.mp hx).1
        have hi2 : k % p < l.length := Nat.lt_of_le_of_lt (Nat.mod_le _ _) hlt
        refine ent_dec (he x (List.mem_of_getElem? hx)) (he _ ?_)
        rw [List.getD_eq_getElem?_getD, List.getElem?_eq_getElem hi2]
        exact List.getElem_mem hi2
      have hd' : l.length % p = 0 := by omega
      by_cases hr : Rep l p
      · right
        refine ⟨fun hm => ?_, hr⟩
        obtain ⟨⟨x, k⟩, hq, hf⟩ := List.mem_map.mp hm
        have hx := List.mem_zipIdx_iff_getElem?.mp hq
        exact of_decide_eq_false hf ((hk k x hx).mpr (hr.2 k (List.getElem?_eq_some_iff.mp hx).1))
      · left
        refine ⟨Classical.byContradiction fun hn => hr ⟨hd', fun k hlt => ?_⟩, hr⟩
        refine Classical.byContradiction fun hc => hn (List.mem_map.mpr ⟨(l[k], k), List.mem_zipIdx_iff_getElem?.mpr (List.getElem?_eq_getElem hlt), decide_eq_false fun h => hc ?_⟩)
        exact (hk k _ (List.getElem?_eq_getElem hlt)).mp h
  · exact ⟨okT_refl _, fun h => hd (by have := h.1; omega)⟩
end Q41
set_option maxHeartbeats 4000000
/-! Q41H: a table made. -/
namespace Q41
open PySem PySem.Spec PyProof.Rows L2 RR
theorem foldl_min : ∀ (r : List Int) (x : Int), (r.foldl (fun a b => if b < a then b else a) x = x ∨ r.foldl (fun a b => if b < a then b else a) x ∈ r) ∧ r.foldl (fun a b => if b < a then b else a) x ≤ x ∧ ∀ y ∈ r, r.foldl (fun a b => if b < a then b else a) x ≤ y
  | [], x => ⟨.inl rfl, Int.le_refl _, fun y h => by simp at h⟩
  | z :: r, x => by
    obtain ⟨h1, h2, h3⟩ := foldl_min r (if z < x then z else x)
    rw [List.foldl_cons]
    refine ⟨?_, ?_, fun y hy => ?_⟩
    · rcases h1 with h1 | h1
      · by_cases hz : z < x
        · rw [if_pos hz] at h1 ⊢
          exact .inr (by rw [h1]; exact List.mem_cons_self)
        · rw [if_neg hz] at h1 ⊢
          exact .inl h1
      · exact .inr (List.mem_cons_of_mem _ h1)
    · by_cases hz : z < x
      · rw [if_pos hz] at h2 ⊢; omega
      · rw [if_neg hz] at h2 ⊢; omega
    · rcases List.mem_cons.mp hy with rfl | hy
      · by_cases hz : y < x
        · rw [if_pos hz] at h2 ⊢; omega
        · rw [if_neg hz] at h2 ⊢; omega
      · exact h3 y hy
theorem minI_ok {is : List Int} (h : is ≠ []) : ∃ m, minI is = some m ∧ m ∈ is ∧ ∀ y ∈ is, m ≤ y := by
  cases is with
  | nil => exact absurd rfl h
  | cons x r =>
    obtain ⟨h1, h2, h3⟩ := foldl_min r x
    refine ⟨_, rfl, ?_, fun y hy => ?_⟩
    · rcases h1 with h1 | h1
      · rw [h1]; exact List.mem_cons_self
      · exact List.mem_cons_of_mem _ h1
    · rcases List.mem_cons.mp hy with rfl | hy
      · exact h2
      · exact h3 y hy
noncomputable def repB (l : List D) (p : Nat) : Bool := @decide (Rep l p) (Classical.propDecidable _)
theorem repB_iff {l : List D} {p : Nat} : repB l p = true ↔ Rep l p := by
  unfold repB
  exact @decide_eq_true_iff _ (Classical.propDecidable _)
theorem sizes_eq {L : Nat} {g : Nat → Bool} : (List.map (fun d => d) (List.filter (fun d => match d with
    | .int i => g i.toNat
    | _ => false) (rangeD 1 L))) = ((List.range L).filter fun i => g (i + 1)).map fun i => D.int ((i + 1 : Nat) : Int) := by
  have e : (fun (d : D) => d) = id := rfl
  unfold rangeD
  rw [e, List.map_id, List.filter_map]
  have e2 : ((fun (d : D) => match d with
    | .int i => g i.toNat
    | _ => false) ∘ fun (i : Nat) => D.int (1 + (i : Nat))) = fun i => g (i + 1) := by
    funext i
    have : ((1 : Int) + (i : Nat)).toNat = i + 1 := by omega
    simp [this]
  rw [e2]
  refine List.map_congr_left fun i _ => ?_
  congr 1
  omega
theorem row_ahead {a l : List D} : str' (row a l) 0 a.length = a := by
  refine List.ext_getElem? fun i => ?_
  by_cases h : i < a.length
  · rw [str_at h]
    unfold row
    rw [if_pos (by omega), Nat.zero_add, List.getD_eq_getElem?_getD, List.getElem?_eq_getElem h]
    rfl
  · rw [List.getElem?_eq_none (by rw [str_len]; omega), List.getElem?_eq_none (by omega)]
theorem row_cycle {a l : List D} {p : Nat} (hp : p ≤ l.length) : str' (row a l) a.length p = l.take p := by
  refine List.ext_getElem? fun i => ?_
  by_cases h : i < p
  · rw [str_at h, List.getElem?_take_of_lt h]
    unfold row
    rw [if_neg (by omega), show a.length + i - a.length = i by omega, Nat.mod_eq_of_lt (by omega), List.getD_eq_getElem?_getD, List.getElem?_eq_getElem (by omega)]
    rfl
  · rw [List.getElem?_eq_none (by rw [str_len]; omega), List.getElem?_eq_none (by rw [List.length_take]; omega)]
theorem cut_take {l : List D} {p : Nat} : RR.cutD l none (some (p : Int)) = l.take p := by
  unfold RR.cutD
  rw [HT.sIx_nat]
  simp [HT.sIx]
theorem cut_last {l : List D} (h : l ≠ []) : RR.cutD l (some (-1)) none = [l.getD (l.length - 1) .non] := by
  have hl : 0 < l.length := List.length_pos_iff.mpr h
  unfold RR.cutD HT.sIx
  simp
  have e : ((-1 : Int) + (l.length : Int)).toNat = l.length - 1 := by omega
  rw [e, show l.length - (l.length - 1) = 1 by omega, List.getElem?_eq_getElem (by omega), List.drop_eq_getElem_cons (by omega)]
  rfl
theorem cut_init {l : List D} : RR.cutD l none (some (-1)) = l.dropLast := by
  unfold RR.cutD HT.sIx
  simp
  have e : ((-1 : Int) + (l.length : Int)).toNat = l.length - 1 := by omega
  rw [e, List.dropLast_eq_take]
theorem row_ent {a l : List D} (h0 : 0 < l.length) (hae : ∀ y ∈ a, y ∈ entz) (hle : ∀ y ∈ l, y ∈ entz) (k : Nat) : row a l k ∈ entz := by
  unfold row
  split
  · rename_i h
    refine hae _ ?_
    rw [List.getD_eq_getElem?_getD, List.getElem?_eq_getElem h]
    exact List.getElem_mem h
  · have h := Nat.mod_lt (k - a.length) h0
    refine hle _ ?_
    rw [List.getD_eq_getElem?_getD, List.getElem?_eq_getElem h]
    exact List.getElem_mem h
theorem str_mem {f : Nat → D} (h : ∀ k, f k ∈ entz) {m n : Nat} : ∀ y ∈ str' f m n, y ∈ entz := fun y hy => by
  obtain ⟨i, _, rfl⟩ := List.mem_map.mp hy
  exact h _
theorem fit_ents {ds : List D} (h : ∀ y ∈ ds, y ∈ entz) (hl : ds.length ≤ 100) : Fit 40202 3 (.tup ds) := Fit.tup hl fun e he => ent_fit (h e he)
theorem eqD_nil {ds : List D} : eqD (.tup ds) (.tup []) = ds.isEmpty := by cases ds <;> simp [eqD, toPy, toPys, PyData.eqv, PyData.eqvAll]
theorem shp_nil : shp (.tup []) = true := by decide +kernel
theorem atI_last {l : List D} (h : 0 < l.length) : atI l (-1) = l[l.length - 1]? := by
  unfold atI ixN
  have h1 : ¬ (0 : Int) ≤ -1 := by decide
  have h2 : -(l.length : Int) ≤ -1 := by omega
  rw [if_neg h1, if_pos h2]
  have e : ((-1 : Int) + (l.length : Int)).toNat = l.length - 1 := by omega
  simp [e]
theorem str_drop {f : Nat → D} {m n : Nat} : (str' f m (n + 1)).dropLast = str' f m n := by
  unfold str'
  rw [List.range_succ, List.map_append, List.map_singleton, List.dropLast_concat]
theorem str_cons {f : Nat → D} {m n : Nat} : f m :: str' f (m + 1) n = str' f m (n + 1) := by
  unfold str'
  rw [List.range_succ_eq_map, List.map_cons, List.map_map]
  congr 1
  refine List.map_congr_left fun i _ => ?_
  simp only [Function.comp]
  congr 1
  omega
theorem init_w (j : Nat) {a l : List D} {n : Nat} {T : List Ob} (hT : T[n]? = some (.ins 0 [])) (ha : a.length ≤ 8) (hl : l.length ≤ 8) (h0 : 0 < l.length) (hae : ∀ y ∈ a, y ∈ entz) (hle : ∀ y ∈ l, y ∈ entz) :
    (Φ (j + 3) "Table.__init__" [.adr n, .tup a, .tup l]).wp T (fun d T' => d = .non ∧ ∃ p m, Can (row a l) p m ∧ m ≤ a.length ∧ p ≤ l.length ∧ T' = T.set n (.ins 0 [("entries_before", .tup (str' (row a l) 0 m)), ("entries_cycle", .tup (str' (row a l) m p))])) XF := by
  rw [p_init]
  unfold s_Table___init__
  simp
  refine ⟨by omega, ?_⟩
  refine lcW_filter (fun d => match d with
    | .int i => repB l i.toNat
    | _ => false) (fun d => d) rfl (by rw [rangeD_len, sizeLine_eq]; omega) (fun d hd => ?_) ?_
  · obtain ⟨i, hi⟩ := List.mem_iff_getElem?.mp hd
    obtain ⟨hi, rfl⟩ := rangeD_at hi
    refine ⟨_, rfl, ?_, fun _ => ?_⟩
    · simp [wipeE]
      have e2 : (1 : Int) + (i : Nat) = ((i + 1 : Nat) : Int) := by push_cast; omega
      rw [e2]
      refine (repeats_w j hl h0 (Nat.succ_pos i) hle).to fun d T' ⟨⟨b, hb, hr⟩, hT'⟩ => ?_
      subst hb
      simp [hT']
      rw [Bool.eq_iff_iff, hr, repB_iff]
    · simp [wipeE]
  rw [sizes_eq, intsO_map]
  have hne : (((List.range l.length).filter fun i => repB l (i + 1)).map fun i => ((i + 1 : Nat) : Int)) ≠ [] := by
    have hm : l.length - 1 ∈ (List.range l.length).filter fun i => repB l (i + 1) := by
      refine List.mem_filter.mpr ⟨List.mem_range.mpr (by omega), repB_iff.mpr ?_⟩
      rw [show l.length - 1 + 1 = l.length by omega]
      exact ⟨Nat.mod_self _, fun k hk => by rw [Nat.mod_eq_of_lt hk]⟩
    intro z
    rw [List.map_eq_nil_iff] at z
    rw [z] at hm
    simp at hm
  obtain ⟨q, e3, hq, hmin⟩ := minI_ok hne
  rw [onO_some, e3, onO_some]
  obtain ⟨p', hp', rfl⟩ := List.mem_map.mp hq
  obtain ⟨hp1, hp2⟩ := List.mem_filter.mp hp'
  rw [List.mem_range] at hp1
  rw [repB_iff] at hp2
  obtain ⟨p, rfl⟩ : ∃ p, p = p' + 1 := ⟨_, rfl⟩
  clear hq hne e3
  obtain ⟨hper, hleast⟩ := rep_least (a := a) h0 (Nat.succ_pos p') hp2 fun q hq hql hr => by
    have := hmin ((q : Nat) : Int) (List.mem_map.mpr ⟨q - 1, List.mem_filter.mpr ⟨List.mem_range.mpr (by omega), repB_iff.mpr (by rw [show q - 1 + 1 = q by omega]; exact hr)⟩, by omega⟩)
    omega
  generalize hp : p' + 1 = p at *
  have he := row_ent h0 hae hle
  generalize hf : row a l = f at *
  rw [cut_take, ← row_cycle (a := a) (by omega), hf]
  have ea : str' f 0 a.length = a := hf ▸ row_ahead
  have hg : ([some (.adr n), some (.tup a), some (.tup (str' f a.length p)), some (.int (p : Nat))] : En) = [some (.adr n), some (.tup (str' f 0 a.length)), some (.tup (str' f a.length p)), some (.int (p : Nat))] := by rw [ea]
  rw [hg]
  have hp0 : 0 < p := by omega
  have hpl : p ≤ l.length := by omega
  clear hg ea hmin hp2 hp'
  have hL : ∀ q m, 0 < q → Per f q m → p ≤ q := fun q m h1 h2 => hp ▸ hleast q m h1 h2
  have hP : Per f p a.length := hp ▸ hper
  refine swp_whS (fun k Γ T' => T' = T ∧ k ≤ a.length ∧ Per f p k ∧ Γ = [some (.adr n), some (.tup (str' f 0 k)), some (.tup (str' f k p)), some (.int (p : Nat))]) a.length (by omega) ⟨rfl, Nat.le_refl _, hP, rfl⟩ fun k Γ T' ⟨eT, hk, hper, eΓ⟩ => ?_
  subst eT eΓ
  have f1 := fit_ents (str_mem he (m := 0) (n := k)) (by rw [str_len]; omega)
  have f2 := fit_ents (str_mem he (m := k) (n := p)) (by rw [str_len]; omega)
  simp [f1.shp (by decide), shp_nil, eqD_nil, cut_last, cut_init]
  have hlt : n < T'.length := (List.getElem?_eq_some_iff.mp hT).1
  have fin : (∀ k', k = k' + 1 → f k' ≠ f (k' + p)) → (fldM prg (D.adr n) "entries_before" (D.tup (str' f 0 k))).wp T'
        (fun x T2 =>
          (fldM prg (D.adr n) "entries_cycle" (D.tup (str' f k p))).wp T2
            (fun x T2 =>
              okT T' T2 = true ∧
                ∃ p m,
                  Can f p m ∧
                    m ≤ a.length ∧
                      p ≤ l.length ∧
                        List.take T'.length T2 =
                          T'.set n
                            (Ob.ins 0
                              [("entries_before", D.tup (str' f 0 m)),
                                ("entries_cycle", D.tup (str' f m p))]))
            XF)
        XF := fun hfirst => by
    rw [wp_fldM hT rfl (by decide), wp_fldM (T := T'.set n _) (List.getElem?_set_self hlt) rfl (by simp [putD])]
    rw [List.set_set]
    refine ⟨okT_set ?_, p, k, ⟨hp0, hper, hL, fun m' hm' => Nat.le_of_not_lt fun hlt => ?_⟩, hk, hpl, ?_⟩
    · have p1 : bel T'.length (.tup (str' f 0 k)) = true := bel_plain _ f1.plain
      have p2 : bel T'.length (.tup (str' f k p)) = true := bel_plain _ f2.plain
      have ne : ¬ ("entries_before" : Str) = "entries_cycle" := by decide
      simp [belO, putD, belf, p1, p2, ne]
    · refine hfirst (k - 1) (by omega) ?_
      exact (hm' (k - 1) (by omega)).symm
    · rw [take_set]
      rfl
  refine ⟨fun hne => ?_, fun hnil => fin fun k' hk' => ?_⟩
  · obtain ⟨k', rfl⟩ : ∃ k', k = k' + 1 := by
      cases k with
      | zero => exact absurd rfl hne
      | succ k' => exact ⟨k', rfl⟩
    have a1 : atI (str' f 0 (k' + 1)) (-1) = some (f k') := by
      rw [atI_last (by rw [str_len]; omega), str_len, str_at (by omega)]
      congr 2
      omega
    have a2 : atI (str' f (k' + 1) p) (-1) = some (f (k' + p)) := by
      rw [atI_last (by rw [str_len]; omega), str_len, str_at (by omega)]
      congr 2
      omega
    have a3 : RR.cutD (str' f (k' + 1) p) (some (-1)) none = [f (k' + p)] := by
      rw [cut_last (by intro z; have := congrArg List.length z; rw [str_len] at this; simp at this; omega), str_len, List.getD_eq_getElem?_getD, str_at (by omega)]
      simp
      congr 1
      omega
    rw [a1, a2, onO_some, onO_some]
    refine (sameE_w (j + 1) (he k') (he (k' + p))).to fun d T1 ⟨⟨b, hb, hbe⟩, hT1⟩ => ?_
    subst hb hT1
    rw [tru_bl, onO_some]
    refine ⟨fun hb => ⟨k', rfl, ?_⟩, fun hb => fin fun k'' hk'' heq => ?_⟩
    · have heq := hbe.mp hb
      have hs : f (k' + p) :: str' f (k' + 1) (p - 1) = str' f k' p := by
        rw [← heq, str_cons, show p - 1 + 1 = p by omega]
      have hd : (str' f (k' + 1) p).dropLast = str' f (k' + 1) (p - 1) := by
        have := str_drop (f := f) (m := k' + 1) (n := p - 1)
        rwa [show p - 1 + 1 = p by omega] at this
      rw [a3, hd]
      refine ⟨by rw [str_len, sizeLine_eq]; simp; omega, by rw [sizeLine_eq]; decide, rfl, by omega, fun i hi => ?_, str_drop, hs⟩
      by_cases hik : i = k'
      · subst hik
        exact heq.symm
      · exact hper i (by omega)
    · have : k'' = k' := by omega
      subst this
      rw [hbe.mpr heq] at hb
      cases hb
  · have := congrArg List.length hnil
    rw [str_len] at this
    simp at this
    omega
end Q41
set_option maxHeartbeats 4000000
/-! Q41I: the shortest form, by trying. -/
namespace Q41
open PySem PySem.Spec PyProof.Rows L2 RR
theorem at_w (j : Nat) {a l : List D} {k : Nat} {T : List Ob} (h0 : 0 < l.length) (hae : ∀ y ∈ a, y ∈ entz) (hle : ∀ y ∈ l, y ∈ entz) :
    (Φ (j + 1) "_law_at" [.tup a, .tup l, .int (k : Nat)]).wp T (fun d T' => d = row a l k ∧ T' = T) XF := by
  rw [p_at]
  unfold s__law_at
  simp [h0, okT_refl, atI_n]
  have he := ent_fit (row_ent h0 hae hle k)
  unfold row at he ⊢
  refine ⟨fun h => ?_, fun h => ?_⟩
  · rw [if_pos h] at he ⊢
    rw [List.getD_eq_getElem?_getD, List.getElem?_eq_getElem h, Option.getD_some] at he ⊢
    rw [onO_some, frz_plain _ he.plain]
    simp
  · rw [if_neg (by omega)] at he ⊢
    have hlt := Nat.mod_lt (k - a.length) h0
    have e1 : ((k : Int) - (a.length : Int)) % (l.length : Int) = (((k - a.length) % l.length : Nat) : Int) := by
      rw [Int.natCast_emod]
      congr 1
      omega
    rw [List.getD_eq_getElem?_getD, List.getElem?_eq_getElem hlt, Option.getD_some] at he ⊢
    rw [e1, atI_n, List.getElem?_eq_getElem hlt, onO_some, frz_plain _ he.plain]
    simp
theorem tells_iff {f : Nat → D} {p m : Nat} (hp : 0 < p) (hm : m + p < 60) : (∀ k, k < 60 → row (str' f 0 m) (str' f m p) k = f k) ↔ Sees f p m := by
  have hr : ∀ k, row (str' f 0 m) (str' f m p) k = if k < m then f k else f (m + (k - m) % p) := fun k => by
    unfold row
    rw [str_len, str_len]
    by_cases h : k < m
    · rw [if_pos h, if_pos h, List.getD_eq_getElem?_getD, str_at h, Nat.zero_add]
      rfl
    · rw [if_neg h, if_neg h, List.getD_eq_getElem?_getD, str_at (Nat.mod_lt _ hp)]
      rfl
  constructor
  · intro h k hk hk2
    have h1 := h k (by omega)
    have h2 := h (k + p) hk2
    rw [hr, if_neg (by omega)] at h1 h2
    rw [← h1, ← h2, show k + p - m = k - m + p by omega, Nat.add_mod_right]
  · intro h
    have key : ∀ n k, k ≤ n → m ≤ k → k < 60 → f (m + (k - m) % p) = f k := fun n => by
      induction n with
      | zero =>
        intro k h1 h2 h3
        have e1 : k = 0 := by omega
        have e2 : m = 0 := by omega
        subst e1 e2
        simp
      | succ n ih =>
        intro k h1 h2 h3
        by_cases hkp : k - m < p
        · rw [Nat.mod_eq_of_lt hkp]
          congr 1
          omega
        · have h4 := h (k - p) (by omega) (by omega)
          rw [show k - p + p = k by omega] at h4
          have h5 := ih (k - p) (by omega) (by omega) (by omega)
          have h6 : (k - m) % p = (k - p - m) % p := by
            rw [show k - m = k - p - m + p by omega, Nat.add_mod_right]
          rw [h6, h5, h4]
    intro k hk
    rw [hr]
    split
    · rfl
    · exact key k k (Nat.le_refl _) (by omega) hk
theorem tells_w (j : Nat) {f : Nat → D} {p m : Nat} {T : List Ob} (he : ∀ k, f k ∈ entz) (hp : 0 < p) (hm : m + p < 60) :
    (Φ (j + 2) "_law_tells" [.tup (str' f 0 m), .tup (str' f m p), .lst (str' f 0 60)]).wp T (fun d T' => (∃ b, d = .bl b ∧ (b = true ↔ Sees f p m)) ∧ T' = T) XF := by
  rw [p_tells]
  unfold s__law_tells
  simp [str_len]
  have hr := row_ent (a := str' f 0 m) (l := str' f m p) (by rw [str_len]; exact hp) (str_mem he) (str_mem he)
  refine lcW_rangeP (n := 60) (fun k => .bl (decide (sh (row (str' f 0 m) (str' f m p) k) = sh (f k)))) (by rw [sizeLine_eq]; decide) (fun k hk => ⟨_, rfl, ?_⟩) ?_
  · simp [wipeE]
    refine (at_w j (by rw [str_len]; exact hp) (str_mem he) (str_mem he)).to fun d T' ⟨e1, e2⟩ => ?_
    subst e1 e2
    have f1 := ent_fit (hr k)
    have f2 := ent_fit (he k)
    have e3 : (str' f 0 60)[k]? = some (f k) := by rw [str_at hk, Nat.zero_add]
    simp [vw_plain f1.plain, vw_plain f2.plain, f1.shwB (by rw [sizeLine_eq]; decide) (by decide), f2.shwB (by rw [sizeLine_eq]; decide) (by decide), atI_n, e3]
  · rw [blsO_map, onO_some]
    refine ⟨okT_refl _, ?_, take_same _⟩
    rw [← tells_iff hp hm]
    simp [ent_dec (hr _) (he _)]
    by_cases h : ∀ k, k < 60 → row (str' f 0 m) (str' f m p) k = f k
    · exact .inr h
    · left
      refine Classical.byContradiction fun hn => h fun k hk => Classical.byContradiction fun hc => hn ⟨k, hk, hc⟩
theorem cut_str {f : Nat → D} {m n : Nat} (h : m ≤ n) : RR.cutD (str' f 0 n) none (some (m : Int)) = str' f 0 m := by
  rw [cut_take]
  unfold str'
  rw [← List.map_take, List.take_range, Nat.min_eq_left h]
theorem cut_mid {f : Nat → D} {m p n : Nat} (h : m + p ≤ n) : RR.cutD (str' f 0 n) (some (m : Int)) (some ((m + p : Nat) : Int)) = str' f m p := by
  unfold RR.cutD
  rw [HT.sIx_nat, HT.sIx_nat, str_len, Nat.min_eq_left (by omega), Nat.min_eq_left (by omega)]
  refine List.ext_getElem? fun i => ?_
  by_cases hi : i < p
  · rw [List.getElem?_take_of_lt (by omega), List.getElem?_drop, str_at (by omega), str_at hi, Nat.zero_add]
  · rw [List.getElem?_eq_none (by rw [List.length_take]; omega), List.getElem?_eq_none (by rw [str_len]; omega)]
/-- the pair of a form's parts -/
def form (f : Nat → D) (p m : Nat) : D := .tup [.tup (str' f 0 m), .tup (str' f m p)]
theorem shortest_w (j : Nat) {a l : List D} {p m : Nat} {T : List Ob} (ha : a.length ≤ 8) (hl : l.length ≤ 8) (h0 : 0 < l.length) (hae : ∀ y ∈ a, y ∈ entz) (hle : ∀ y ∈ l, y ∈ entz) (c : Can (row a l) p m) :
    (Φ (j + 3) "_law_shortest" [.tup a, .tup l]).wp T (fun d T' => d = form (row a l) p m ∧ T' = T) XF := by
  have he := row_ent h0 hae hle
  have hs : ∀ {q n}, n ≤ a.length → q ≤ l.length → (Sees (row a l) q n ↔ Per (row a l) q n) := fun {q n} h1 h2 => sees_iff h0 hl ha h1 h2
  have hpl : p ≤ l.length := c.least _ _ h0 row_per
  have hma : m ≤ a.length := c.first _ (row_per.back c.per h0)
  rw [p_shortest]
  unfold s__law_shortest
  simp
  refine lcW_rangeP (n := 60) (row a l) (by rw [sizeLine_eq]; decide) (fun k hk => ⟨_, rfl, ?_⟩) ?_
  · simp [wipeE]
    exact (at_w (j + 1) h0 hae hle)
  have e60 : (List.range 60).map (row a l) = str' (row a l) 0 60 := by
    unfold str'
    refine List.map_congr_left fun i _ => ?_
    rw [Nat.zero_add]
  rw [e60]
  generalize row a l = f at *
  have turn : ∀ (k i : Nat) (T : List Ob), k < p → i ≤ a.length → (k + 1 = p → i ≤ m) → (Φ (j + 2) "_law_tells" [.tup (str' f 0 i), .tup (str' f i (k + 1)), .lst (str' f 0 60)]).wp T (fun d T1 => T1 = T ∧ ∃ b, d = .bl b ∧ (b = true → p = k + 1 ∧ m = i) ∧ (b = false → k + 1 = p → i + 1 ≤ m)) XF := fun k i T hkp hi him => by
    refine (tells_w j he (Nat.succ_pos k) (by omega)).to fun d T1 ⟨hb, hT⟩ => ⟨hT, ?_⟩
    obtain ⟨b, rfl, hb⟩ := hb
    rw [hs hi (by omega)] at hb
    refine ⟨b, rfl, fun hbt => ?_, fun hbf hp => ?_⟩
    · have hper := hb.mp hbt
      have hpk : p = k + 1 := by
        have := c.least _ _ (Nat.succ_pos k) hper
        omega
      subst hpk
      have him' := him rfl
      have him2 := c.first _ hper
      exact ⟨rfl, by omega⟩
    · have h1 := him hp
      rcases Nat.lt_or_ge i m with h2 | h2
      · exact h2
      · have : i = m := by omega
        subst this
        have hq : Per f k.succ i := by
          have e : k.succ = p := hp
          rw [e]
          exact c.per
        rw [hb.mpr hq] at hbf
        cases hbf
  refine ⟨by omega, foW_range (lo := 1) (n := l.length) (fun k Γ T' => k < p ∧ T' = T ∧ ∃ x3 x4, Γ = [some (.tup a), some (.tup l), some (.lst (str' f 0 60)), x3, x4, none]) ⟨c.pos, rfl, none, none, rfl⟩ (fun k Γ T' hk ⟨hkp, eT, x3, x4, eΓ⟩ => ⟨_, rfl, ?_⟩) fun Γ T' ⟨h, _⟩ => absurd hpl (by omega)⟩
  subst eT eΓ
  simp
  refine ⟨by omega, ?_⟩
  refine foW_range (lo := 0) (n := a.length + 1) (fun i Γ T'' => (k + 1 = p → i ≤ m) ∧ T'' = T' ∧ ∃ x4, Γ = [some (.tup a), some (.tup l), some (.lst (str' f 0 60)), some (.int (1 + (k : Nat))), x4, none]) ⟨fun _ => Nat.zero_le _, rfl, x4, rfl⟩ (fun i Γ T'' hi ⟨him, eT, x4, eΓ⟩ => ⟨_, rfl, ?_⟩) fun Γ T'' ⟨him, eT, x4, eΓ⟩ => ?_
  · subst eT eΓ
    have e1 : (1 : Int) + (k : Nat) = ((k + 1 : Nat) : Int) := by push_cast; omega
    have e2 : ((i : Nat) : Int) + ((k + 1 : Nat) : Int) = ((i + (k + 1) : Nat) : Int) := by push_cast; rfl
    rw [e1]
    simp [-Int.natCast_add]
    rw [e2, cut_str (f := f) (m := i) (n := 60) (by omega), cut_mid (f := f) (m := i) (p := k + 1) (n := 60) (by omega)]
    refine (turn k i T'' hkp (by omega) him).to fun d T1 ⟨hT, b, hd, h1, h2⟩ => ?_
    subst hT hd
    rw [tru_bl, onO_some]
    refine ⟨fun hbt => ?_, fun hbf => ⟨h2 hbf, rfl⟩⟩
    obtain ⟨hpk, hmi⟩ := h1 hbt
    subst hpk hmi
    have f1 := fit_ents (str_mem he (m := 0) (n := m)) (by rw [str_len]; omega)
    have f2 := fit_ents (str_mem he (m := m) (n := k + 1)) (by rw [str_len]; omega)
    refine ⟨by rw [sizeLine_eq]; decide, okT_refl _, onO_of (frz_plain _ ?_) ⟨rfl, take_same _⟩⟩
    have p1 := f1.plain
    have p2 := f2.plain
    simp [plainD, plainDs] at p1 p2 ⊢
    exact ⟨p1, p2⟩
  · subst eT eΓ
    simp
    rcases Nat.lt_or_ge (k + 1) p with h | h
    · exact h
    · have := him (by omega)
      omega
end Q41
set_option maxHeartbeats 4000000
/-! Q41J: what a table answers. -/
namespace Q41
open PySem PySem.Spec PyProof.Rows L2 RR
theorem g_before : prg.prop 0 "before" = some ("Table.before" : Str) := by kernel_rfl
theorem g_cycle : prg.prop 0 "cycle" = some ("Table.cycle" : Str) := by kernel_rfl
theorem g_eb : prg.prop 0 "entries_before" = none := by kernel_rfl
theorem g_ec : prg.prop 0 "entries_cycle" = none := by kernel_rfl
theorem g_nb : prg.noat 0 "entries_before" = true := by kernel_rfl
theorem g_nc : prg.noat 0 "entries_cycle" = true := by kernel_rfl
theorem b_before : prg.bnd "Table.before" 1 [] = some (fun ds _ => ds) := by kernel_rfl
theorem b_cycle : prg.bnd "Table.cycle" 1 [] = some (fun ds _ => ds) := by kernel_rfl
theorem b_len : prg.bnd "Table.__len__" 1 [] = some (fun ds _ => ds) := by kernel_rfl
theorem b_at : prg.bnd "Table.at" 2 [] = some (fun ds _ => ds) := by kernel_rfl
theorem b_eq : prg.bnd "Table.__eq__" 2 [] = some (fun ds _ => ds) := by kernel_rfl
theorem b_words : prg.bnd "Table.words" 1 [] = some (fun ds _ => ds) := by kernel_rfl
theorem m_len : prg.meth 0 "__len__" = some ("Table.__len__" : Str) := by kernel_rfl
theorem m_eq : prg.meth 0 "__eq__" = some ("Table.__eq__" : Str) := by kernel_rfl
theorem m_at : prg.meth 0 "at" = some ("Table.at" : Str) := by kernel_rfl
theorem m_words : prg.meth 0 "words" = some ("Table.words" : Str) := by kernel_rfl
theorem z_fz : prg.fz 0 = true := by kernel_rfl
theorem z_eqw : prg.eqw 0 = true := by kernel_rfl
theorem z_isw : prg.isw 0 = true := by kernel_rfl
theorem z_sub : prg.sub 0 0 = some true := by kernel_rfl
/-- a table -/
def tbl (b c : List D) : D := .obj 0 [("entries_before", .tup b), ("entries_cycle", .tup c)]
theorem plain_tup {b : List D} : plainD (.tup b) = plainDs b := by simp [plainD]
theorem s_ne : ¬ ("entries_cycle" : Str) = "entries_before" := by decide
theorem lk1 {b c : List D} : ([("entries_before", D.tup b), ("entries_cycle", D.tup c)] : List (Str × D)).lookup ("entries_before" : Str) = some (.tup b) := by simp [List.lookup]
theorem lk2 {b c : List D} : ([("entries_before", D.tup b), ("entries_cycle", D.tup c)] : List (Str × D)).lookup ("entries_cycle" : Str) = some (.tup c) := by
  have h : (("entries_cycle" : Str) == "entries_before") = false := by decide
  simp [List.lookup, h]
theorem before_w {j : Nat} {b c : List D} {T : List Ob} {Q : D → List Ob → Prop} {E : Ex} (h : plainDs b = true) : (attrM prg (Φ (j + 1)) (tbl b c) "before").wp T Q E ↔ Q (.tup b) T := by
  refine wp_det ?_
  rw [wp_attrM]
  simp only [tbl, insO_obj, g_before, b_before]
  rw [p_before]
  unfold s_Table_before
  simp [wp_attrM, g_eb, g_nb, lk1, frz_plain _ (plain_tup.trans h), okT_refl]
theorem cycle_w {j : Nat} {b c : List D} {T : List Ob} {Q : D → List Ob → Prop} {E : Ex} (h : plainDs c = true) : (attrM prg (Φ (j + 1)) (tbl b c) "cycle").wp T Q E ↔ Q (.tup c) T := by
  refine wp_det ?_
  rw [wp_attrM]
  simp only [tbl, insO_obj, g_cycle, b_cycle]
  rw [p_cycle]
  unfold s_Table_cycle
  simp [wp_attrM, g_ec, g_nc, lk2, frz_plain _ (plain_tup.trans h), okT_refl]
theorem len_w {j : Nat} {b c : List D} {T : List Ob} {Q : D → List Ob → Prop} {E : Ex} (hb : plainDs b = true) (hc : plainDs c = true) (hl : b.length + c.length ≤ 1000) : (biM prg (Φ (j + 2)) .len [tbl b c]).wp T Q E ↔ Q (.int ((b.length + c.length : Nat) : Int)) T := by
  refine wp_det ?_
  rw [wp_biL (f := "Table.__len__") (g := fun ds _ => ds) (by simp [lenF, tbl, m_len, b_len])]
  rw [p_len]
  unfold s_Table___len__
  simp [before_w hb, cycle_w hc, okT_refl, sizeLine_eq]
  omega
theorem Tat_w {j : Nat} {f : Nat → D} {p m k : Nat} {T : List Ob} (he : ∀ k, f k ∈ entz) (hp : 0 < p) : (Φ (j + 2) "Table.at" [tbl (str' f 0 m) (str' f m p), .int (k : Nat)]).wp T (fun d T' => d = row (str' f 0 m) (str' f m p) k ∧ T' = T) XF := by
  have hb := plains_iff.mpr fun d hd => (ent_fit (str_mem he (m := 0) (n := m) d hd)).plain
  have hc := plains_iff.mpr fun d hd => (ent_fit (str_mem he (m := m) (n := p) d hd)).plain
  have hr := row_ent (a := str' f 0 m) (l := str' f m p) (by rw [str_len]; exact hp) (str_mem he) (str_mem he) k
  have fr := ent_fit hr
  rw [p_Tat]
  unfold s_Table_at
  simp [before_w hb, cycle_w hc, okT_refl, str_len, hp, atI_n]
  unfold row at fr ⊢
  rw [str_len, str_len] at *
  refine ⟨fun h => ?_, fun h => ?_⟩
  · rw [if_pos h] at fr ⊢
    rw [List.getD_eq_getElem?_getD, str_at h, Option.getD_some] at fr ⊢
    rw [onO_some, frz_plain _ fr.plain]
    simp
  · rw [if_neg (by omega)] at fr ⊢
    have hlt := Nat.mod_lt (k - m) hp
    have e1 : ((k : Int) - (m : Int)) % (p : Int) = (((k - m) % p : Nat) : Int) := by
      rw [Int.natCast_emod]
      congr 1
      omega
    rw [List.getD_eq_getElem?_getD, str_at hlt, Option.getD_some] at fr ⊢
    rw [e1, atI_n, str_at hlt, onO_some, frz_plain _ fr.plain]
    simp
/-- a table's two parts in a list -/
def two (b c : List D) : D := .lst [.tup b, .tup c]
theorem eq_w {j : Nat} {b c b' c' : List D} {T : List Ob} (hb : Fit 40202 3 (.tup b)) (hc : Fit 40202 3 (.tup c)) (hb' : Fit 40202 3 (.tup b')) (hc' : Fit 40202 3 (.tup c')) :
    (Φ (j + 2) "Table.__eq__" [tbl b c, tbl b' c']).wp T (fun d T' => d = .bl (decide (sh (two b c) = sh (two b' c'))) ∧ T' = T) XF := by
  have f1 : Fit (2 * 40204 + 2) 4 (two b c) := Fit.lst (by simp) (by simp; exact ⟨hb, hc⟩)
  have f2 : Fit (2 * 40204 + 2) 4 (two b' c') := Fit.lst (by simp) (by simp; exact ⟨hb', hc'⟩)
  rw [p_eq]
  unfold s_Table___eq__
  simp [bi_isC, before_w (plain_tup ▸ hb.plain), cycle_w (plain_tup ▸ hc.plain), before_w (plain_tup ▸ hb'.plain), cycle_w (plain_tup ▸ hc'.plain)]
  have e : isOwnO prg T (tbl b' c') 0 = some true := by simp [isOwnO, tbl, z_sub]
  rw [e]
  simp
  refine ⟨by rw [sizeLine_eq]; decide, (same_w j f1.plain f2.plain (f1.shwB (by rw [sizeLine_eq]; decide) (by decide)) (f2.shwB (by rw [sizeLine_eq]; decide) (by decide))).to fun d T' ⟨h1, h2⟩ => ?_⟩
  subst h1 h2
  simp [okT_refl]
theorem neq_w {j : Nat} {b c : List D} {d : D} {T : List Ob} (h : ∃ t, tyOf d = some t) (hi : insO T d = none) (hv : vw T d = some d) :
    (Φ (j + 1) "Table.__eq__" [tbl b c, d]).wp T (fun d T' => d = .bl false ∧ T' = T) XF := by
  obtain ⟨t, ht⟩ := h
  rw [p_eq]
  unfold s_Table___eq__
  have e : isOwnO prg T d 0 = some false := by simp [isOwnO, hi, hv, ht, z_isw]
  simp [bi_isC, e, okT_refl]
theorem made_w {j : Nat} {a l : List D} {T : List Ob} (ha : a.length ≤ 8) (hl : l.length ≤ 8) (h0 : 0 < l.length) (hae : ∀ y ∈ a, y ∈ entz) (hle : ∀ y ∈ l, y ∈ entz) :
    ∃ p m, Can (row a l) p m ∧ m ≤ a.length ∧ p ≤ l.length ∧ ∀ (Q : D → List Ob → Prop) (E : Ex), (makeM prg (Φ (j + 3)) 0 "Table.__init__" fun self => [self, .tup a, .tup l]).wp T Q E ↔ Q (tbl (str' (row a l) 0 m) (str' (row a l) m p)) T := by
  have hi := init_w j (T := T ++ [.ins 0 []]) (n := T.length) (by simp) ha hl h0 hae hle
  obtain ⟨d, T', e, rfl, p, m, c, hm, hp, rfl⟩ := hi.run
  have he := row_ent h0 hae hle
  have f1 := fit_ents (str_mem he (m := 0) (n := m)) (by rw [str_len]; omega)
  have f2 := fit_ents (str_mem he (m := m) (n := p)) (by rw [str_len]; omega)
  refine ⟨p, m, c, hm, hp, fun Q E => wp_det ?_⟩
  rw [wp_makeF z_fz, wp_run e]
  have p1 := bel_plain (n := T.length) _ f1.plain
  have p2 := bel_plain (n := T.length) _ f2.plain
  have es : (T ++ [Ob.ins 0 []]).set T.length (.ins 0 [("entries_before", .tup (str' (row a l) 0 m)), ("entries_cycle", .tup (str' (row a l) m p))]) = T ++ [.ins 0 [("entries_before", .tup (str' (row a l) 0 m)), ("entries_cycle", .tup (str' (row a l) m p))]] := by simp
  rw [es]
  refine ⟨rfl, _, by simp, ?_, okT_app _ _, rfl, take_app _ _⟩
  simp [belf, p1, p2]
end Q41
set_option maxHeartbeats 4000000
/-! Q41K: a table is right. -/
namespace Q41
open PySem PySem.Spec PyProof.Rows L2 RR
/-- a form of the same row -/
theorem row_form {f : Nat → D} {p m : Nat} (c : Can f p m) : row (str' f 0 m) (str' f m p) = f := by
  funext k
  unfold row
  rw [str_len, str_len]
  by_cases h : k < m
  · rw [if_pos h, List.getD_eq_getElem?_getD, str_at h, Nat.zero_add]
    rfl
  · rw [if_neg h, List.getD_eq_getElem?_getD, str_at (Nat.mod_lt _ c.pos), Option.getD_some]
    have h1 := c.per.mul ((k - m) / p) (m + (k - m) % p) (by omega)
    have h2 := Nat.mod_add_div (k - m) p
    rw [Nat.mul_comm] at h2
    rw [← h1]
    congr 1
    omega
theorem form_fit {f : Nat → D} {p m : Nat} (he : ∀ k, f k ∈ entz) (hm : m ≤ 100) (hp : p ≤ 100) : Fit (2 * 40204 + 2) 4 (form f p m) := by
  refine Fit.tup (by simp) ?_
  simp
  exact ⟨fit_ents (str_mem he) (by rw [str_len]; omega), fit_ents (str_mem he) (by rw [str_len]; omega)⟩
theorem atI_two0 {x y : D} : atI [x, y] 0 = some x := by rfl
theorem atI_two1 {x y : D} : atI [x, y] 1 = some y := by rfl
theorem right_w {j : Nat} {a l : List D} {T : List Ob} (ha : a.length ≤ 8) (hl : l.length ≤ 8) (h0 : 0 < l.length) (hae : ∀ y ∈ a, y ∈ entz) (hle : ∀ y ∈ l, y ∈ entz) :
    (Φ (j + 4) "_law_right" [.tup a, .tup l]).wp T (fun d T' => d = .bl true ∧ T' = T) XF := by
  have he := row_ent h0 hae hle
  obtain ⟨p, m, c, hm, hp, mk⟩ := made_w (j := j) (T := T) ha hl h0 hae hle
  have sw := shortest_w j (T := T) ha hl h0 hae hle c
  have aw : ∀ k, (Φ (j + 3) "_law_at" [.tup a, .tup l, .int (k : Nat)]).wp T (fun d T' => d = row a l k ∧ T' = T) XF := fun k => at_w (j + 2) h0 hae hle
  have hb := fit_ents (str_mem he (m := 0) (n := m)) (by rw [str_len]; omega)
  have hc := fit_ents (str_mem he (m := m) (n := p)) (by rw [str_len]; omega)
  have rf := row_form c
  obtain ⟨p2, m2, c2, hm2, hp2, mk2⟩ := made_w (j := j) (T := T) (a := str' (row a l) 0 m) (l := str' (row a l) m p) (by rw [str_len]; omega) (by rw [str_len]; omega) (by rw [str_len]; exact c.pos) (str_mem he) (str_mem he)
  rw [rf] at c2 mk2
  obtain ⟨e1, e2⟩ := c2.uniq c
  subst e1 e2
  generalize row a l = f at *
  have ff := form_fit he (m := m2) (p := p2) (by omega) (by omega)
  have fw := ff.shwB (by rw [sizeLine_eq]; decide) (by decide)
  have z1 : CPow 10 60 := by decide
  have z2 : (rangeD 0 25).length + 3 ≤ sizeLine := by rw [rangeD_len, sizeLine_eq]; decide
  have z3 : 3 ≤ sizeLine ∧ 2 ≤ sizeLine := by rw [sizeLine_eq]; decide
  unfold form at fw
  rw [p_right]
  unfold s__law_right
  simp [mk, wp_det sw, before_w (plain_tup ▸ hb.plain), cycle_w (plain_tup ▸ hc.plain), len_w (plain_tup ▸ hb.plain) (plain_tup ▸ hc.plain) (by rw [str_len, str_len]; omega), str_len, form, fw, atI_two0, atI_two1, z1, z2, z3]
  have atm : methO prg T (tbl (str' f 0 m2) (str' f m2 p2)) "at" = some "Table.at" := by
    have h1 : (("at" : Str) == "entries_before") = false := by decide
    have h2 : (("at" : Str) == "entries_cycle") = false := by decide
    simp [methO, tbl, List.lookup, h1, h2, m_at]
  have tw : ∀ k, (Φ (j + 3) "Table.at" [tbl (str' f 0 m2) (str' f m2 p2), .int (k : Nat)]).wp T (fun d T' => d = f k ∧ T' = T) XF := fun k => by
    have := Tat_w (j := j + 1) (T := T) (p := p2) (m := m2) (k := k) he c.pos
    rw [rf] at this
    exact this
  refine forGo_wp (fun r Γ T' => T' = T ∧ (∀ d ∈ r, ∃ k : Nat, d = .int (k : Nat)) ∧ ∃ x, Γ = [some (.tup a), some (.tup l), some (tbl (str' f 0 m2) (str' f m2 p2)), some (form f p2 m2), x]) (fun _ _ _ _ => rfl) (fun d r Γ T' ⟨eT, hr, x, eΓ⟩ => ?turn) (fun Γ T' ⟨eT, _, x, eΓ⟩ => ?fin) _ _ _ ⟨rfl, fun d hd => ?mem, none, rfl⟩
  case turn =>
    obtain ⟨k, rfl⟩ := hr d List.mem_cons_self
    subst eT eΓ
    have fk := ent_fit (he k)
    refine (swp_foF (by rfl)).mpr ?_
    simp [wp_meK atm b_at, wp_det (tw k), wp_det (aw k), vw_plain fk.plain, fk.shwB (show 400 ≤ sizeLine by rw [sizeLine_eq]; decide) (by decide)]
    exact fun d hd => hr d (List.mem_cons_of_mem _ hd)
  case mem =>
    rcases List.mem_append.mp hd with hd | hd
    · obtain ⟨i, hi⟩ := List.mem_iff_getElem?.mp hd
      obtain ⟨_, rfl⟩ := rangeD_at hi
      exact ⟨i, by rw [Int.zero_add]⟩
    · simp only [List.mem_cons, List.not_mem_nil, or_false] at hd
      rcases hd with rfl | rfl | rfl
      · exact ⟨10 ^ 60, congrArg D.int (by decide)⟩
      · exact ⟨10 ^ 60 + 1, congrArg D.int (by decide)⟩
      · exact ⟨10 ^ 60 + 7, congrArg D.int (by decide)⟩
  case fin =>
    subst eT eΓ
    have ew := eq_w (j := j + 1) (T := T') hb hc hb hc
    simp only [decide_true] at ew
    have nw : ∀ d : D, (∃ t, tyOf d = some t) → insO T' d = none → vw T' d = some d → (Φ (j + 3) "Table.__eq__" [tbl (str' f 0 m2) (str' f m2 p2), d]).wp T' (fun d T1 => d = .bl false ∧ T1 = T') XF := fun d h1 h2 h3 => neq_w h1 h2 h3
    simp [form, atI_two0, atI_two1, mk2]
    rw [wp_eqOwn (C := 0) (f := "Table.__eq__") (g := fun ds _ => ds) rfl rfl m_eq b_eq, wp_det ew]
    simp only [onB_bl, true_implies]
    refine ⟨⟨by rw [sizeLine_eq]; decide, ?_⟩, trivial⟩
    rw [wp_notin (C := 0) (f := "Table.__eq__") (g := fun ds _ => ds) rfl z_eqw m_eq b_eq]
    · exact ⟨okT_refl _, rfl, take_same _⟩
    · intro d hd
      simp only [List.mem_cons, List.not_mem_nil, or_false] at hd
      rcases hd with rfl | rfl | rfl | rfl | rfl <;> exact ⟨rfl, nw _ ⟨_, rfl⟩ rfl rfl⟩
end Q41
set_option maxHeartbeats 4000000
/-! Q41L: words; the bag; the law. -/
namespace Q41
open PySem PySem.Spec PyProof.Rows L2 RR
/-- the ends -/
def es3 : List D := [.tup [.str "through", .int 1], .tup [.str "round"], .tup [.str "refused", .int 0, .tup [.str "many"]]]
def hd : D → D
  | .tup (x :: _) => x
  | _ => .non
theorem es_ok {d : D} (h : d ∈ es3) : d ∈ entz ∧ hd d ∈ entz ∧ ∀ T : List Ob, ((vw T d).bind fun x => ixO x (.int 0)) = some (hd d) := by
  unfold es3 at h
  simp only [List.mem_cons, List.not_mem_nil, or_false] at h
  unfold entz ents
  rcases h with rfl | rfl | rfl <;> exact ⟨by simp, by simp [hd], fun T => rfl⟩
theorem row_map {b c : List D} (h0 : 0 < c.length) : row (b.map hd) (c.map hd) = fun k => hd (row b c k) := by
  funext k
  unfold row
  rw [List.length_map, List.length_map]
  by_cases h : k < b.length
  · rw [if_pos h, if_pos h, List.getD_eq_getElem?_getD, List.getD_eq_getElem?_getD, List.getElem?_map, List.getElem?_eq_getElem h]
    rfl
  · have hlt := Nat.mod_lt (k - b.length) h0
    rw [if_neg h, if_neg h, List.getD_eq_getElem?_getD, List.getD_eq_getElem?_getD, List.getElem?_map, List.getElem?_eq_getElem hlt]
    rfl
/-- tuple([end[0] for end in ..]) -/
theorem heads_w {ds : List D} {T : List Ob} {Q : List D → List Ob → Prop} {E : Ex} {own : List Nat} {i : Nat} {Γ : En} (hi : i < Γ.length) (ho : own = [i]) (he : ∀ d ∈ ds, d ∈ es3) (hl : ds.length ≤ 1000) (hq : Q (ds.map hd) T) : (lcGo (lcF own (.one i) [] (ixS (vr i) (kk (.int 0))) Γ) (Src.keeps ⟨ds, none⟩) ds []).wp T Q E := by
  subst ho
  refine lcW_map hd rfl (by rw [sizeLine_eq]; omega) (fun d hm => ⟨_, rfl, ?_⟩) hq
  have h1 : ((wipeE Γ [i]).set i (some d))[i]? = some (some d) := List.getElem?_set_self (by simp [wipeE]; exact hi)
  have h2 := (es_ok (he d hm)).2.2 T
  simp [h1]
  rw [← onO_bind, h2]
  simp
theorem words_w {j : Nat} {b c : List D} {T : List Ob} (hb : b.length ≤ 8) (hc : c.length ≤ 8) (h0 : 0 < c.length) (he : ∀ d ∈ b, d ∈ es3) (he' : ∀ d ∈ c, d ∈ es3) :
    ∃ p m, Can (fun k => hd (row b c k)) p m ∧ m ≤ b.length ∧ p ≤ c.length ∧ ∀ (Q : D → List Ob → Prop) (E : Ex), (Φ (j + 4) "Table.words" [tbl b c]).wp T Q E ↔ Q (tbl (str' (fun k => hd (row b c k)) 0 m) (str' (fun k => hd (row b c k)) m p)) T := by
  have hm : ∀ {l : List D}, (∀ d ∈ l, d ∈ es3) → ∀ y ∈ l.map hd, y ∈ entz := fun h y hy => by
    obtain ⟨d, hd', rfl⟩ := List.mem_map.mp hy
    exact (es_ok (h d hd')).2.1
  have hz : ∀ {l : List D}, (∀ d ∈ l, d ∈ es3) → plainDs l = true := fun h => plains_iff.mpr fun d hd => (ent_fit (es_ok (h d hd)).1).plain
  obtain ⟨p, m, cn, h1, h2, mk⟩ := made_w (j := j) (T := T) (a := b.map hd) (l := c.map hd) (by simpa using hb) (by simpa using hc) (by simpa using h0) (hm he) (hm he')
  rw [row_map h0] at cn mk
  rw [List.length_map] at h1 h2
  refine ⟨p, m, cn, h1, h2, fun Q E => wp_det ?_⟩
  rw [p_words]
  unfold s_Table_words
  simp [before_w (hz he), cycle_w (hz he')]
  refine heads_w (by simp) rfl he (by omega) ?_
  refine heads_w (by simp) rfl he' (by omega) ?_
  have e2 := row_ent (a := b.map hd) (l := c.map hd) (by simpa using h0) (hm he) (hm he')
  rw [row_map h0] at e2
  have f1 := (fit_ents (str_mem e2 (m := 0) (n := m)) (by rw [str_len]; omega)).plain
  have f2 := (fit_ents (str_mem e2 (m := m) (n := p)) (by rw [str_len]; omega)).plain
  rw [mk]
  simp [okT_refl, tbl, frz, frzf, frzs_plain _ (plain_tup ▸ f1), frzs_plain _ (plain_tup ▸ f2)]
theorem bag_w {j : Nat} {ns : List Int} {k : Nat} {T : List Ob} (hn : ns.length ≤ 63) :
    (Φ (j + 1) "_law_bag" [.lst (ns.map D.int), .int (k : Nat)]).wp T (fun d T' => d = .adr T.length ∧ ∃ o, T' = T ++ [o] ∧ Bo 1 o) XF := by
  rw [p_bag]
  unfold s__law_bag
  simp
  have c1 : CPow 10 18 := by decide
  have c2 : CMul 7907 (k : Int) := .inl ⟨by decide, by decide⟩
  have c3 : CMul 0 0 := .inl ⟨by decide, by decide⟩
  have c4 : 3 ≤ sizeLine := by rw [sizeLine_eq]; decide
  refine ⟨fun hk => ?_, fun hk => ⟨c1, .inl c3, c1, .inl c2, c4, _, _, _, rfl, by decide, by decide⟩⟩
  have e : atI (List.map D.int ns) (k : Int) = some (.int ns[k]) := by
    rw [atI_n, List.getElem?_map, List.getElem?_eq_getElem hk]
    rfl
  have c5 : ∀ (x : Int) (b : Bool), CMul x (if b = true then 1 else 0) := fun x b => .inr (by cases b <;> decide)
  simp [e, c1, c2, c4]
  refine ⟨.inl ?_, _, _, _, rfl, by decide, by decide⟩
  generalize (if ns[k] < 0 then -ns[k] else ns[k]) = x
  exact .inr (by split <;> decide)
def tl (s : Str) : List Nat := s.cps.toList
theorem tl_app {a b : Str} : tl (a ++ b) = tl a ++ tl b := by
  show (a.cps ++ b.cps).toList = _
  simp [tl]
theorem tl_inj {a b : Str} (h : tl a = tl b) : a = b := by
  obtain ⟨a⟩ := a
  obtain ⟨b⟩ := b
  have : a.toList = b.toList := h
  rw [Array.toList_inj.mp this]
theorem sh_two {x y z w : D} : sh (.lst [x, y]) = sh (.lst [z, w]) ↔ sh (.tup [x, y]) = sh (.tup [z, w]) := by
  have e1 : ∀ x y : D, tl (sh (.lst [x, y])) = tl ("[" : String) ++ (tl ("" : String) ++ (tl (sh x) ++ (tl (", " : String) ++ (tl (sh y) ++ tl ("]" : String))))) := fun x y => by
    show tl (((("[" : Str) ++ (("" : String) : Str) ++ sh x) ++ ((", " : String) : Str) ++ sh y) ++ (("]" : String) : Str)) = _
    simp [tl_app]
  have e2 : ∀ x y : D, tl (sh (.tup [x, y])) = tl ("(" : String) ++ (tl (sh x) ++ (tl (", " : String) ++ (tl (sh y) ++ tl (")" : String)))) := fun x y => by
    show tl ((("(" : Str) ++ (sh x ++ (", " : Str) ++ sh y)) ++ ((")" : String) : Str)) = _
    simp [tl_app]
  constructor
  · intro h
    have h' := congrArg tl h
    rw [e1, e1] at h'
    refine tl_inj ?_
    rw [e2, e2]
    have h2 := List.append_cancel_left (List.append_cancel_left h')
    have h3 : (tl (sh x) ++ (tl (", " : String) ++ tl (sh y))) = (tl (sh z) ++ (tl (", " : String) ++ tl (sh w))) := List.append_cancel_right (bs := tl ("]" : String)) (by simpa using h2)
    have h4 := congrArg (fun l => tl ("(" : String) ++ (l ++ tl (")" : String))) h3
    simpa using h4
  · intro h
    have h' := congrArg tl h
    rw [e2, e2] at h'
    refine tl_inj ?_
    rw [e1, e1]
    have h2 := List.append_cancel_left h'
    have h3 : (tl (sh x) ++ (tl (", " : String) ++ tl (sh y))) = (tl (sh z) ++ (tl (", " : String) ++ tl (sh w))) := List.append_cancel_right (bs := tl (")" : String)) (by simpa using h2)
    have h4 := congrArg (fun l => tl ("[" : String) ++ (tl ("" : String) ++ (l ++ tl ("]" : String)))) h3
    simpa using h4
theorem cut3 {l : List D} : RR.cutD l none (some 3) = l.take 3 := cut_take (p := 3)
theorem cut3' {l : List D} (h : 3 ≤ l.length) : RR.cutD l (some 3) none = l.drop 3 := by
  have e : (3 : Int) = ((3 : Nat) : Int) := rfl
  unfold RR.cutD
  rw [e, HT.sIx_nat, Nat.min_eq_left h]
  simp only [HT.sIx]
  exact List.take_of_length_le (by simp)
abbrev inn (s : D) (T0 : List Ob) (b : Nat) (k : Nat) (Γ : En) (T' : List Ob) : Prop := At T0 b (1 + 90 * (k : Nat)) T' ∧ ∃ x1 x3 x4 x5 x6 x7 x8 x9 x10 x11 x12, Γ = [some s, x1, some (.adr b), x3, x4, x5, x6, x7, x8, x9, x10, x11, x12]
theorem vw_form {f : Nat → D} {p m : Nat} {T : List Ob} : vw T (form f p m) = some (form f p m) := rfl
theorem eqT_w {j : Nat} {f f' : Nat → D} {p m p' m' : Nat} {T : List Ob} {Q : Bool → List Ob → Prop} {E : Ex} (he : ∀ k, f k ∈ entz) (he' : ∀ k, f' k ∈ entz) (hm : m ≤ 100) (hp : p ≤ 100) (hm' : m' ≤ 100) (hp' : p' ≤ 100) :
    (eqM prg (Φ (j + 2)) .Eq (tbl (str' f 0 m) (str' f m p)) (tbl (str' f' 0 m') (str' f' m' p'))).wp T Q E ↔ Q (decide (sh (form f p m) = sh (form f' p' m'))) T := by
  have ew := eq_w (j := j) (T := T) (fit_ents (str_mem he (m := 0) (n := m)) (by rw [str_len]; omega)) (fit_ents (str_mem he (m := m) (n := p)) (by rw [str_len]; omega)) (fit_ents (str_mem he' (m := 0) (n := m')) (by rw [str_len]; omega)) (fit_ents (str_mem he' (m := m') (n := p')) (by rw [str_len]; omega))
  rw [wp_eqOwn (C := 0) (f := "Table.__eq__") (g := fun ds _ => ds) rfl rfl m_eq b_eq, wp_det ew]
  simp only [onB_bl, two, sh_two]
  exact Iff.rfl
theorem law_ok {j : Nat} {ns : List Int} (hn : ns.length ≤ 63) : (Φ (j + 6) "law" [.lst (ns.map D.int)]).wp [] (fun d _ => d = .bl true) XF := by
  rw [p_law]
  unfold s_law
  simp
  refine ⟨by omega, ?_⟩
  generalize (if 2 < if (ns.length : Int) < 6 then (ns.length : Int) else 6 then if (ns.length : Int) < 6 then (ns.length : Int) else 6 else 2).toNat = n
  refine foW_range (lo := 0) (n := n) (fun k Γ T' => ∃ x1 x2 x3 x4 x5 x6 x7 x8 x9 x10 x11 x12, Γ = [some (.lst (ns.map D.int)), x1, x2, x3, x4, x5, x6, x7, x8, x9, x10, x11, x12]) ⟨_, _, _, _, _, _, _, _, _, _, _, _, rfl⟩ (fun k Γ T' hk ⟨x1, x2, x3, x4, x5, x6, x7, x8, x9, x10, x11, x12, eΓ⟩ => ⟨_, rfl, ?turn⟩) fun Γ T' ⟨x1, x2, x3, x4, x5, x6, x7, x8, x9, x10, x11, x12, eΓ⟩ => ?fin
  case fin =>
    rw [nxK_nx]
    simp [okT]
  case turn =>
    subst eΓ
    simp
    refine (bag_w (j := j + 4) hn).to fun d T1 ⟨ed, o, eT, ho⟩ => ?_
    subst ed eT
    have h0 : At (T' ++ [o]) T'.length (1 + 90 * ((0 : Nat) : Int)) (T' ++ [o]) := ⟨o, by simp, by simpa using ho⟩
    refine foW_range (lo := 0) (n := 5) (inn (.lst (ns.map D.int)) (T' ++ [o]) T'.length) ⟨h0, _, _, _, _, _, _, _, _, _, _, _, rfl⟩ (fun i Γ T1 hi ⟨h1, x1, x3, x4, x5, x6, x7, x8, x9, x10, x11, x12, eΓ⟩ => ⟨_, rfl, ?turn2⟩) fun Γ T1 ⟨h1, x1, x3, x4, x5, x6, x7, x8, x9, x10, x11, x12, eΓ⟩ => ?fin2
    case fin2 =>
      subst eΓ
      simp
    case turn2 =>
      subst eΓ
      simp
      have hb0 : T'.length < (T' ++ [o]).length := by simp
      refine (drawn_w (j + 2) h1 hb0 (by omega)).to fun d T2 ⟨a, l, ed, ha, hl, la, l1, l8, h2⟩ => ?_
      subst ed
      simp
      refine (drawn_w (j + 2) h2 hb0 (by omega)).to fun d T3 ⟨a', l', ed, ha', hl', la', l1', l8', h3⟩ => ?_
      subst ed
      have za := fun y hy => entz_of (ha y hy)
      have zl := fun y hy => entz_of (hl y hy)
      have za' := fun y hy => entz_of (ha' y hy)
      have zl' := fun y hy => entz_of (hl' y hy)
      have r1 := right_w (j := j + 1) (T := T3) la l8 l1 za zl
      have r2 := right_w (j := j + 1) (T := T3) la' l8' l1' za' zl'
      obtain ⟨p, m, c, hm, hp, mk⟩ := made_w (j := j + 2) (T := T3) la l8 l1 za zl
      obtain ⟨p', m', c', hm', hp', mk'⟩ := made_w (j := j + 2) (T := T3) la' l8' l1' za' zl'
      have s1 := shortest_w (j + 2) (T := T3) la l8 l1 za zl c
      have s2 := shortest_w (j + 2) (T := T3) la' l8' l1' za' zl' c'
      have he := row_ent l1 za zl
      have he' := row_ent l1' za' zl'
      have fw := (form_fit he (m := m) (p := p) (by omega) (by omega)).shwB (by rw [sizeLine_eq]; decide) (by decide)
      have fw' := (form_fit he' (m := m') (p := p') (by omega) (by omega)).shwB (by rw [sizeLine_eq]; decide) (by decide)
      simp [wp_det r1, wp_det r2, wp_det s1, wp_det s2, mk, mk', vw_form, fw, fw', eqT_w he he' (show m ≤ 100 by omega) (show p ≤ 100 by omega) (show m' ≤ 100 by omega) (show p' ≤ 100 by omega)]
      refine lcW_range (n := 6) (fun k T4 => At (T' ++ [o]) T'.length (1 + 90 * (i : Int) + 80 + k) T4) (fun _ d => d ∈ es3) (by rw [sizeLine_eq]; decide) (by simpa [Int.add_assoc] using h3) (fun k T4 hk h4 => ⟨_, rfl, ?end_⟩) fun ds T4 hl4 hp4 h4 => ?rest
      case end_ =>
        simp [wipeE]
        refine ⟨by rw [sizeLine_eq]; decide, by rw [sizeLine_eq]; decide, by rw [sizeLine_eq]; decide, ?_⟩
        refine (take_w (j + 4) (m := 3) h4 hb0 (by omega) (by decide) (by decide)).to fun d T5 ⟨q, eq, q0, q1, h5⟩ => ?_
        subst eq
        obtain ⟨d, hd, hmem⟩ := atI_mem (xs := es3) q0 (by exact q1)
        unfold es3 at hd
        simp [hd]
        exact ⟨hmem, h5.mono (by omega)⟩
      case rest =>
        have hes : ∀ d ∈ ds, d ∈ es3 := fun d hd => by
          obtain ⟨k, hk⟩ := List.mem_iff_getElem?.mp hd
          exact hp4 k d hk
        have he1 : ∀ d ∈ ds.take 3, d ∈ es3 := fun d hd => hes d (List.mem_of_mem_take hd)
        have he2 : ∀ d ∈ ds.drop 3, d ∈ es3 := fun d hd => hes d (List.mem_of_mem_drop hd)
        have L1 : (ds.take 3).length = 3 := by simp; omega
        have L2 : (ds.drop 3).length = 3 := by simp; omega
        have z1 : ∀ y ∈ ds.take 3, y ∈ entz := fun y hy => (es_ok (he1 y hy)).1
        have z2 : ∀ y ∈ ds.drop 3, y ∈ entz := fun y hy => (es_ok (he2 y hy)).1
        rw [cut3, cut3' (by omega)]
        obtain ⟨p, m, c, hm, hp, mk⟩ := made_w (j := j + 2) (T := T4) (a := ds.take 3) (l := ds.drop 3) (by omega) (by omega) (by omega) z1 z2
        rw [mk]
        have hf := row_ent (a := ds.take 3) (l := ds.drop 3) (by omega) z1 z2
        have hfe : ∀ k, row (ds.take 3) (ds.drop 3) k ∈ es3 := fun k => by
          unfold row
          split
          · rename_i h
            rw [List.getD_eq_getElem?_getD, List.getElem?_eq_getElem h]
            exact he1 _ (List.getElem_mem h)
          · have h := Nat.mod_lt (k - (ds.take 3).length) (show 0 < (ds.drop 3).length by omega)
            rw [List.getD_eq_getElem?_getD, List.getElem?_eq_getElem h]
            exact he2 _ (List.getElem_mem h)
        have sm : ∀ {m n : Nat}, ∀ y ∈ str' (row (ds.take 3) (ds.drop 3)) m n, y ∈ es3 := fun y hy => by
          obtain ⟨i, _, rfl⟩ := List.mem_map.mp hy
          exact hfe _
        obtain ⟨p1, m1, c1, hm1, hp1, wk⟩ := words_w (j := j + 1) (T := T4) (b := str' (row (ds.take 3) (ds.drop 3)) 0 m) (c := str' (row (ds.take 3) (ds.drop 3)) m p) (by rw [str_len]; omega) (by rw [str_len]; omega) (by rw [str_len]; exact c.pos) sm sm
        rw [row_form c] at c1 wk
        rw [str_len] at hm1 hp1
        have mh : ∀ {l : List D}, (∀ d ∈ l, d ∈ es3) → ∀ y ∈ l.map hd, y ∈ entz := fun h y hy => by
          obtain ⟨d, hd', rfl⟩ := List.mem_map.mp hy
          exact (es_ok (h d hd')).2.1
        obtain ⟨p2, m2, c2, hm2, hp2, mk2⟩ := made_w (j := j + 2) (T := T4) (a := (ds.take 3).map hd) (l := (ds.drop 3).map hd) (by simp; omega) (by simp; omega) (by simp; omega) (mh he1) (mh he2)
        rw [row_map (by omega)] at c2 mk2
        obtain ⟨e1, e2⟩ := c2.uniq c1
        subst e1 e2
        have wm : methO prg T4 (tbl (str' (row (ds.take 3) (ds.drop 3)) 0 m) (str' (row (ds.take 3) (ds.drop 3)) m p)) "words" = some "Table.words" := by
          have h1 : (("words" : Str) == "entries_before") = false := by decide
          have h2 : (("words" : Str) == "entries_cycle") = false := by decide
          simp [methO, tbl, List.lookup, h1, h2, m_words]
        have hw : ∀ k, (fun k => hd (row (ds.take 3) (ds.drop 3) k)) k ∈ entz := fun k => (es_ok (hfe k)).2.1
        simp only [wp_meK wm b_words, lS_nil, wk]
        refine heads_w (by simp) rfl he1 (by omega) ?_
        refine heads_w (by simp) rfl he2 (by omega) ?_
        rw [mk2, eqT_w hw hw (by omega) (by omega) (by omega) (by omega)]
        simp only [decide_true, true_and, true_implies]
        exact ⟨h4.mono (by push_cast; omega), _, _, _, _, _, _, _, _, _, _, _, rfl⟩
end Q41
set_option maxHeartbeats 0
namespace Q41
open PySem PySem.Spec PyProof.Rows L2 RR
theorem law_run (ns : List Int) (hn : ns.length ≤ 63) (hb : ∀ k ∈ ns, Builtin.Int.intBits k ≤ 1048576) : ∃ T, runFn prg (phi prg (fun f => fns.lookup f) 20 8 5) 20 8 f_law [.lst (ns.map D.int)] [] = some (.ok (.bl true) T) := by
  obtain ⟨d, T, e, rfl⟩ := (law_ok (j := 0) hn).run
  exact ⟨T, e⟩
end Q41
open PySem PySem.W PySem.Calls PyProof.Rows
theorem PySem.Challenge.cw_forwardcalls_k41_tables_made_holds : PySem.Challenge.rw_forwardcalls_k41_tables_made.Holds := by
  w_on; o_law
  refine HandSHeadRun.head_any (r := OpenLaw.row PySem.Challenge.rw_forwardcalls_k41_tables_made) (q := view (OpenLaw.row PySem.Challenge.rw_forwardcalls_k41_tables_made).prog [14]) (H := Q41.hk) (ob := Q41.ob) (M := 30000) (loose := Q41.others) (d := HandSHeadRun.topDef (OpenLaw.row PySem.Challenge.rw_forwardcalls_k41_tables_made).prog 14) (kwd := []) Q41.ob_eq
    (by kernel_rfl) (fun s => by kernel_rfl) Q41.run (by kernel_rfl) (by kernel_rfl) (by kernel_rfl) (by rfl) (by first | assumption | decide +kernel) (by decide +kernel) ⟨rfl, rfl, rfl, rfl, rfl, by decide +kernel⟩ ?hw ?hc
  case hw => w_witness2
  case hc =>
    refine RR.walk_R (l := PySem.Challenge.rw_forwardcalls_k41_tables_made) (n := 20) (m := 8) (j := 5) (x := "script") (Pg := Q41.prg) (defs := fun f => Q41.fns.lookup f) (fn := Q41.f_law) (by kernel_rfl) (by kernel_rfl) ⟨rfl, by decide, by decide⟩ rfl ?F Q41.law_run
    intro w mg fa h Y G hmg0
    obtain ⟨K, KX, hn, c⟩ := Y
    have hmg : mg ("law" : PySem.Str) = some (.ref fa) := by
      have e : (HandSHeadRun.topDef (OpenLaw.row PySem.Challenge.rw_forwardcalls_k41_tables_made).prog 14).name = ("law" : PySem.Str) := by kernel_rfl
      rw [← e]
      exact hmg0
    obtain ⟨fd, F, hb, S⟩ := Q41.law_def c
    have st := Q41.stat KX G c
    obtain ⟨v, u, h1, h2, h3⟩ := st.glob "law" (.fn "law") (by kernel_rfl)
    have e1 : Q41.tb.fa K "law" = fa := by
      rw [hmg] at h1
      cases h1
      cases h3 [] fun _ => none
      have e : Value.ref fa = Value.ref (Q41.tb.fa K "law") := h2
      cases e
      rfl
    rw [e1] at F
    exact ⟨K, Q41.tb.nm K, _, _, _, _, fd, KX, hn, st, hb, F, S⟩
