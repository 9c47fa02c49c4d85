import PyProof.Rows.All
import Wide.All
import OpenK.AllK
import Wide.FinOn
import HandS.ForMost
import HandS.ForExc
import HandS.Walk
import HandS.Star
import HandS.More
import HandS.Zip
import HandS.IsInst
import HandS.FStr
import HandS.DictComp
import HandS.Flow
import HandS.Strs
import HandS.SetKeys
import HandS.Wide
import HandS.ExcInit
import HandS.ExcField
import HandS.ExcIs
import HandS.OwnEq
import HandS.Conv
import HandS.SortInts
import KE.KEqNest
import KE.KExcIs
import HandS.SlotsOwn
import PyProof.InstNe
import HandS.SetFor
import HandS.SetTxt0
import PySem.Challenge.RW_freerealm_k96_whole_arrow_texts
set_option Elab.async false
set_option linter.all false
set_option maxRecDepth 100000
set_option autoImplicit false
/-! DLa: data in place of heaps. A datum D, how it lies (Rep), slots that own what they hold, the monad M, what is sound of a reading (At). -/
namespace DL
open PySem PySem.Spec PyProof.Rows L2
inductive D where
  | non | bl (b : Bool) | int (i : Int) | str (z : Str) | ty (n : String) | ref (a : Addr)
  | lst (xs : List D) | tup (xs : List D) | dct (kvs : List (Key × D)) | obj (C : Addr) (fs : List (Str × D))
  /-- a caught exception: its dict, where it stands, its class, its fields -/
  | xcp (d : Option Addr) (a C : Addr) (fs : List (Str × D))
def LstAt (K : PySem.W.Frag) (F : Hp) (a : Addr) (vs : List V) : Prop := F a = some (.lst vs) ∨ SqL K (fun _ => none) a vs
def TupAt (K : PySem.W.Frag) (F : Hp) (a : Addr) (vs : List V) : Prop := F a = some (.tup vs) ∨ SqT K (fun _ => none) a vs
mutual
def Rep (K : PySem.W.Frag) (F : Hp) : D → V → Prop
  | .non, v => v = .non
  | .bl b, v => v = .bl b
  | .int i, v => v = .int i
  | .str z, v => v = .str z
  | .ty n, v => v = .ty n
  | .ref a, v => v = .ref a
  | .lst xs, v => ∃ a vs, v = .ref a ∧ LstAt K F a vs ∧ Reps K F xs vs
  | .tup xs, v => ∃ a vs, v = .ref a ∧ TupAt K F a vs ∧ Reps K F xs vs
  | .dct kvs, v => ∃ a ws, v = .ref a ∧ F a = some (.dK ws) ∧ Repk K F kvs ws
  | .obj C fs, v => ∃ a dx ws, v = .ref a ∧ F a = some (.ins C dx ws) ∧ Repf K F fs ws
  | .xcp d a _ fs, v => v = .ref a ∧ ((d = none ∧ fs = []) ∨ ∃ b ws, d = some b ∧ F b = some (.xd ws) ∧ Repf K F fs ws)
def Reps (K : PySem.W.Frag) (F : Hp) : List D → List V → Prop
  | [], vs => vs = []
  | d :: ds, vs => ∃ v ws, vs = v :: ws ∧ Rep K F d v ∧ Reps K F ds ws
def Repk (K : PySem.W.Frag) (F : Hp) : List (Key × D) → List (Key × V) → Prop
  | [], ws => ws = []
  | (k, d) :: r, ws => ∃ v ws', ws = (k, v) :: ws' ∧ Rep K F d v ∧ Repk K F r ws'
def Repf (K : PySem.W.Frag) (F : Hp) : List (Str × D) → List (Str × V) → Prop
  | [], ws => ws = []
  | (k, d) :: r, ws => ∃ v ws', ws = (k, v) :: ws' ∧ Rep K F d v ∧ Repf K F r ws'
end
/-- all that is frozen in F is so in F' -/
abbrev Le (F F' : Hp) : Prop := ∀ a u, F a = some u → F' a = some u
theorem Le.refl (F : Hp) : Le F F := fun _ _ h => h
theorem Le.trans {F F1 F2 : Hp} (a : Le F F1) (b : Le F1 F2) : Le F F2 := fun c o h => b c o (a c o h)
theorem Le.lst {K : PySem.W.Frag} {F F' : Hp} {a : Addr} {vs : List V} (l : Le F F') (h : LstAt K F a vs) : LstAt K F' a vs := h.imp (l _ _) id
theorem Le.tup {K : PySem.W.Frag} {F F' : Hp} {a : Addr} {vs : List V} (l : Le F F') (h : TupAt K F a vs) : TupAt K F' a vs := h.imp (l _ _) id
mutual
theorem Rep.mono {K : PySem.W.Frag} {F F' : Hp} (l : Le F F') : ∀ {d : D} {v : V}, Rep K F d v → Rep K F' d v
  | .non, _, h => h
  | .bl _, _, h => h
  | .int _, _, h => h
  | .str _, _, h => h
  | .ty _, _, h => h
  | .ref _, _, h => h
  | .lst xs, _, h => by
    obtain ⟨a, vs, e, h1, h2⟩ := h
    exact ⟨a, vs, e, l.lst h1, Reps.mono l h2⟩
  | .tup xs, _, h => by
    obtain ⟨a, vs, e, h1, h2⟩ := h
    exact ⟨a, vs, e, l.tup h1, Reps.mono l h2⟩
  | .dct xs, _, h => by
    obtain ⟨a, vs, e, h1, h2⟩ := h
    exact ⟨a, vs, e, l _ _ h1, Repk.mono l h2⟩
  | .obj C xs, _, h => by
    obtain ⟨a, dx, vs, e, h1, h2⟩ := h
    exact ⟨a, dx, vs, e, l _ _ h1, Repf.mono l h2⟩
  | .xcp d a C xs, _, h => by
    unfold Rep at h ⊢
    obtain ⟨e, h⟩ := h
    refine ⟨e, h.imp id fun ⟨b, ws, e1, e2, e3⟩ => ⟨b, ws, e1, l _ _ e2, Repf.mono l e3⟩⟩
theorem Reps.mono {K : PySem.W.Frag} {F F' : Hp} (l : Le F F') : ∀ {d : List D} {v : List V}, Reps K F d v → Reps K F' d v
  | [], _, h => h
  | _ :: _, _, h => by
    obtain ⟨v, ws, e, h1, h2⟩ := h
    exact ⟨v, ws, e, Rep.mono l h1, Reps.mono l h2⟩
theorem Repk.mono {K : PySem.W.Frag} {F F' : Hp} (l : Le F F') : ∀ {d : List (Key × D)} {v : List (Key × V)}, Repk K F d v → Repk K F' d v
  | [], _, h => h
  | (_, _) :: _, _, h => by
    obtain ⟨v, ws, e, h1, h2⟩ := h
    exact ⟨v, ws, e, Rep.mono l h1, Repk.mono l h2⟩
theorem Repf.mono {K : PySem.W.Frag} {F F' : Hp} (l : Le F F') : ∀ {d : List (Str × D)} {v : List (Str × V)}, Repf K F d v → Repf K F' d v
  | [], _, h => h
  | (_, _) :: _, _, h => by
    obtain ⟨v, ws, e, h1, h2⟩ := h
    exact ⟨v, ws, e, Rep.mono l h1, Repf.mono l h2⟩
end
section
variable {K : PySem.W.Frag} {F : Hp}
theorem Reps.nil : Reps K F [] [] := by simp [Reps]
theorem Reps.cons {d : D} {v : V} {ds : List D} {vs : List V} (h : Rep K F d v) (t : Reps K F ds vs) : Reps K F (d :: ds) (v :: vs) := by
  unfold Reps; exact ⟨v, vs, rfl, h, t⟩
theorem Reps.length : ∀ {ds : List D} {vs : List V}, Reps K F ds vs → vs.length = ds.length
  | [], _, h => by unfold Reps at h; subst h; rfl
  | d :: ds, _, h => by
    unfold Reps at h
    obtain ⟨v, ws, rfl, _, h2⟩ := h
    simp [Reps.length h2]
theorem Reps.get : ∀ {ds : List D} {vs : List V} {i : Nat} {d : D}, Reps K F ds vs → ds[i]? = some d → ∃ v, vs[i]? = some v ∧ Rep K F d v
  | [], _, i, d, h, e => by simp at e
  | x :: ds, _, i, d, h, e => by
    unfold Reps at h
    obtain ⟨v, ws, rfl, h1, h2⟩ := h
    cases i with
    | zero => simp at e; subst e; exact ⟨v, rfl, h1⟩
    | succ i => exact Reps.get (i := i) h2 (by simpa using e)
theorem Reps.getV : ∀ {ds : List D} {vs : List V} {i : Nat} {v : V}, Reps K F ds vs → vs[i]? = some v → ∃ d, ds[i]? = some d ∧ Rep K F d v := fun {ds vs i v} h e => by
  have l := h.length
  have hi : i < vs.length := (List.getElem?_eq_some_iff.mp e).1
  have hd : ds[i]? = some ds[i] := List.getElem?_eq_getElem (by omega)
  obtain ⟨w, e2, r⟩ := h.get hd
  rw [e] at e2; cases e2
  exact ⟨_, hd, r⟩
theorem Reps.append : ∀ {ds es : List D} {vs ws : List V}, Reps K F ds vs → Reps K F es ws → Reps K F (ds ++ es) (vs ++ ws)
  | [], es, _, ws, h, t => by unfold Reps at h; subst h; exact t
  | d :: ds, es, _, ws, h, t => by
    unfold Reps at h
    obtain ⟨v, us, rfl, h1, h2⟩ := h
    exact Reps.cons h1 (Reps.append h2 t)
theorem Reps.of_get : ∀ {ds : List D} {vs : List V}, vs.length = ds.length → (∀ (i : Nat) (d : D) (v : V), ds[i]? = some d → vs[i]? = some v → Rep K F d v) → Reps K F ds vs
  | [], vs, l, _ => by
    have : vs = [] := List.eq_nil_of_length_eq_zero l
    subst this; exact Reps.nil
  | d :: ds, [], l, _ => by simp at l
  | d :: ds, v :: vs, l, h => Reps.cons (h 0 d v rfl rfl) (Reps.of_get (by simpa using l) fun i d' v' h1 h2 => h (i + 1) d' v' (by simpa using h1) (by simpa using h2))
theorem Reps.sub {ds es : List D} {vs ws : List V} {f : Nat → Nat} (h : Reps K F ds vs) (l : ws.length = es.length) (h1 : ∀ (i : Nat) (d : D), es[i]? = some d → ds[f i]? = some d) (h2 : ∀ (i : Nat) (v : V), ws[i]? = some v → vs[f i]? = some v) : Reps K F es ws :=
  Reps.of_get l fun i d v e1 e2 => by
    obtain ⟨w, q, r⟩ := h.get (h1 i d e1)
    rw [h2 i v e2] at q; cases q; exact r
theorem Reps.set {ds : List D} {vs : List V} (h : Reps K F ds vs) {i : Nat} {d : D} {v : V} (r : Rep K F d v) : Reps K F (ds.set i d) (vs.set i v) := by
  refine Reps.of_get (by simp [h.length]) fun j d' v' e1 e2 => ?_
  by_cases hj : i = j
  · subst hj
    have a := (List.getElem?_eq_some_iff.mp e1).1
    rw [List.length_set] at a
    have b : i < vs.length := by rw [h.length]; exact a
    rw [List.getElem?_set_self a] at e1
    rw [List.getElem?_set_self b] at e2
    cases e1; cases e2; exact r
  · rw [List.getElem?_set_ne hj] at e1 e2
    obtain ⟨w, q, r⟩ := h.get e1
    rw [e2] at q; cases q; exact r
theorem Repk.length : ∀ {ds : List (Key × D)} {vs : List (Key × V)}, Repk K F ds vs → vs.length = ds.length
  | [], _, h => by unfold Repk at h; subst h; rfl
  | (k, d) :: ds, _, h => by
    unfold Repk at h
    obtain ⟨v, ws, rfl, _, h2⟩ := h
    simp [Repk.length h2]
theorem Repk.keys : ∀ {ds : List (Key × D)} {vs : List (Key × V)}, Repk K F ds vs → vs.map (·.1) = ds.map (·.1)
  | [], _, h => by unfold Repk at h; subst h; rfl
  | (k, d) :: ds, _, h => by
    unfold Repk at h
    obtain ⟨v, ws, rfl, _, h2⟩ := h
    simp [Repk.keys h2]
/-- a datum's value by its key -/
def getD (kvs : List (Key × D)) (k : Key) : Option D := (kvs.find? fun kv => decide (kv.1 = k)).map (·.2)
def putD (kvs : List (Key × D)) (k : Key) (d : D) : List (Key × D) := if (kvs.any fun kv => decide (kv.1 = k)) = true then kvs.map (fun kv => if kv.1 = k then (kv.1, d) else kv) else kvs ++ [(k, d)]
def dropD (kvs : List (Key × D)) (k : Key) : List (Key × D) := kvs.filter fun kv => decide (kv.1 ≠ k)
end
/-! ### slots -/
/-- what a slot owns: nobody else holds it -/
inductive OO where
  | lst (xs : List D) | dct (kvs : List (Key × D)) | obj (C : Addr) (fs : List (Str × D))
inductive SV where
  | val (d : D) | own (o : OO)
abbrev DS := List (Option SV)
def OO.d : OO → D
  | .lst xs => .lst xs
  | .dct kvs => .dct kvs
  | .obj C fs => .obj C fs
def OwnAt (K : PySem.W.Frag) (F H : Hp) (p : Addr) : OO → Prop
  | .lst xs => ∃ vs, H p = some (.lst vs) ∧ Reps K F xs vs
  | .dct kvs => ∃ ws, H p = some (.dK ws) ∧ Repk K F kvs ws
  | .obj C fs => ∃ dx ws, H p = some (.ins C dx ws) ∧ Repf K F fs ws
def SVR (K : PySem.W.Frag) (F H : Hp) (v : V) : SV → Prop
  | .val d => Rep K F d v
  | .own o => ∃ p, v = .ref p ∧ F p = none ∧ OwnAt K F H p o
/-- what a walk may lock -/
def Lk : HO → Prop
  | .lst _ => True
  | .dK _ => True
  | _ => False
/-- what is frozen may be read -/
def Sub (F H : Hp) : Prop := ∀ a u, F a = some u → H a = some u ∨ (Lk u ∧ ∃ o, H a = some (.frz o u))
/-- the addresses that slots own -/
def OA (σ : L2.St) (ds : DS) (p : Addr) : Prop := ∃ (i : Nat) (o : OO), ds[i]? = some (some (.own o)) ∧ σ[i]? = some (some (.ref p))
structure StR (K : PySem.W.Frag) (F H : Hp) (σ : L2.St) (ds : DS) : Prop where
  sub : Sub F H
  len : ds.length = σ.length
  slot : ∀ (i : Nat) (s : SV), ds[i]? = some (some s) → ∃ v, σ[i]? = some (some v) ∧ SVR K F H v s
  apart : ∀ (i j : Nat) (o o' : OO) (p : Addr), ds[i]? = some (some (.own o)) → ds[j]? = some (some (.own o')) → σ[i]? = some (some (.ref p)) → σ[j]? = some (some (.ref p)) → i = j
structure Ext (P : Addr → Prop) (F H F' H' : Hp) : Prop where
  ff : Le F F'
  fr : ∀ b o, H b = some o → ¬ P b → H' b = some o
  nw : ∀ b, F' b ≠ none → F b ≠ none ∨ H b = none ∨ P b
structure Stp (K : PySem.W.Frag) (F H : Hp) (σ : L2.St) (ds : DS) (F' H' : Hp) (σ' : L2.St) (ds' : DS) : Prop where
  st : StR K F' H' σ' ds'
  ext : Ext (OA σ ds) F H F' H'
  oa : ∀ p, OA σ' ds' p → OA σ ds p ∨ H p = none
section
variable {K : PySem.W.Frag} {F H F' H' F2 H2 : Hp} {σ σ' σ2 : L2.St} {ds ds' ds2 : DS}
theorem Ext.back {P : Addr → Prop} (e : Ext P F H F' H') {p : Addr} (h : H' p = none) : P p ∨ H p = none := by
  by_cases q : P p
  · exact .inl q
  · refine .inr ?_
    cases z : H p with
    | none => rfl
    | some o => rw [e.fr p o z q] at h; cases h
theorem Stp.refl (h : StR K F H σ ds) : Stp K F H σ ds F H σ ds := ⟨h, ⟨Le.refl _, fun _ _ h _ => h, fun _ h => .inl h⟩, fun _ h => .inl h⟩
theorem Stp.new (a : Stp K F H σ ds F' H' σ' ds') {p : Addr} (h : OA σ' ds' p ∨ H' p = none) : OA σ ds p ∨ H p = none := by
  rcases h with h | h
  · exact a.oa p h
  · exact a.ext.back h
theorem Stp.trans (a : Stp K F H σ ds F' H' σ' ds') (b : Stp K F' H' σ' ds' F2 H2 σ2 ds2) : Stp K F H σ ds F2 H2 σ2 ds2 where
  st := b.st
  ext := by
    refine ⟨a.ext.ff.trans b.ext.ff, fun c o q n => ?_, fun c q => ?_⟩
    · have q1 := a.ext.fr c o q n
      refine b.ext.fr c o q1 fun z => ?_
      rcases a.oa c z with z | z
      · exact n z
      · rw [q] at z; cases z
    · rcases b.ext.nw c q with z | z
      · exact a.ext.nw c z
      · rcases a.new (z.symm) with z | z
        · exact .inr (.inr z)
        · exact .inr (.inl z)
  oa := fun p h => a.new (b.oa p h)
end
/-! ### the monad -/
inductive R (α : Type) where
  | ok (a : α) | exc (C : Addr) (fs : List (Str × D))
abbrev M (α : Type) := DS → Option (R α × DS)
def ret {α : Type} (a : α) : M α := fun ds => some (.ok a, ds)
def bnd {α β : Type} (m : M α) (f : α → M β) : M β := fun ds => match m ds with
  | none => none
  | some (.exc C fs, ds') => some (.exc C fs, ds')
  | some (.ok a, ds') => f a ds'
def stuck {α : Type} : M α := fun _ => none
instance : Monad M where
  pure := ret
  bind := bnd
/-- an exception's own dict -/
def ExcAt (K : PySem.W.Frag) (F : Hp) (d : Option Addr) (fs : List (Str × D)) : Prop := (d = none ∧ fs = []) ∨ ∃ a ws, d = some a ∧ F a = some (.xd ws) ∧ Repf K F fs ws
/-- what is to be shown of an exception -/
def WOk (K : PySem.W.Frag) (W : WX) (F H : Hp) (σ : L2.St) (ds : DS) (C : Addr) (fs : List (Str × D)) (ds' : DS) : Prop := ∀ F' H' d, Stp K F H σ ds F' H' σ ds' → ExcAt K F' d fs → W (.ref C) d σ H'
/-- a reading t from a state, by what the monad tells -/
def At {α β : Type} (K : PySem.W.Frag) (W : WX) (Rel : Hp → Hp → DS → (Addr → Prop) → α → β → Prop) (F H : Hp) (σ : L2.St) (ds : DS) (t : (β → Hp → Prop) → Prop) (m : Option (R α × DS)) : Prop :=
  ∀ (r : R α) (ds' : DS) (Q : β → Hp → Prop), m = some (r, ds') →
    (match r with
      | .ok a => ∀ F' H' b, Stp K F H σ ds F' H' σ ds' → Rel F' H' ds' (fun p => OA σ ds p ∨ H p = none) a b → Q b H'
      | .exc C fs => WOk K W F H σ ds C fs ds') → t Q
abbrev RelD (K : PySem.W.Frag) : Hp → Hp → DS → (Addr → Prop) → D → V → Prop := fun F _ _ _ d v => Rep K F d v
abbrev RelL (K : PySem.W.Frag) : Hp → Hp → DS → (Addr → Prop) → List D → List V → Prop := fun F _ _ _ d v => Reps K F d v
abbrev RelB : Hp → Hp → DS → (Addr → Prop) → Bool → Bool → Prop := fun _ _ _ _ a b => a = b
def RelS (K : PySem.W.Frag) (σ : L2.St) : Hp → Hp → DS → (Addr → Prop) → SV → V → Prop := fun F H ds nw s v => SVR K F H v s ∧ ∀ o p, s = .own o → v = .ref p → ¬ OA σ ds p ∧ nw p
section
variable {K : PySem.W.Frag} {W : WX} {F H : Hp} {σ : L2.St} {ds : DS}
theorem At.ret {α β : Type} {Rel : Hp → Hp → DS → (Addr → Prop) → α → β → Prop} {t : (β → Hp → Prop) → Prop} {a : α} {b : β} (s : StR K F H σ ds) (r : Rel F H ds (fun p => OA σ ds p ∨ H p = none) a b) (h : ∀ Q : β → Hp → Prop, Q b H → t Q) : At K W Rel F H σ ds t (some (.ok a, ds)) := by
  intro r' ds' Q e q
  cases e
  exact h Q (q F H b (Stp.refl s) r)
theorem At.bind {α β γ δ : Type} {Rel1 : Hp → Hp → DS → (Addr → Prop) → α → β → Prop} {Rel : Hp → Hp → DS → (Addr → Prop) → γ → δ → Prop} {t1 : (β → Hp → Prop) → Prop} {t : (δ → Hp → Prop) → Prop} {m : M α} {f : α → M γ} {t2 : β → Hp → (δ → Hp → Prop) → Prop}
    (mono : ∀ F' H' ds' (P P' : Addr → Prop) a b, (∀ p, P p → P' p) → Rel F' H' ds' P a b → Rel F' H' ds' P' a b)
    (h1 : At K W Rel1 F H σ ds t1 (m ds)) (h2 : ∀ a ds1 F1 H1 b, Stp K F H σ ds F1 H1 σ ds1 → Rel1 F1 H1 ds1 (fun p => OA σ ds p ∨ H p = none) a b → At K W Rel F1 H1 σ ds1 (t2 b H1) (f a ds1))
    (ht : ∀ Q, t1 (fun b H1 => t2 b H1 Q) → t Q) : At K W Rel F H σ ds t (bnd m f ds) := by
  intro r ds' Q e q
  refine ht Q ?_
  unfold bnd at e
  cases em : m ds with
  | none => rw [em] at e; cases e
  | some p =>
    obtain ⟨r1, ds1⟩ := p
    rw [em] at e
    refine h1 r1 ds1 _ em ?_
    cases r1 with
    | exc C fs => cases e; exact q
    | ok a =>
      intro F1 H1 b s1 rel
      refine h2 a ds1 F1 H1 b s1 rel r ds' Q e ?_
      cases r with
      | ok c => exact fun F2 H2 d s2 rel2 => q F2 H2 d (s1.trans s2) (mono _ _ _ _ _ _ _ (fun p z => s1.new z) rel2)
      | exc C fs => exact fun F2 H2 d s2 x => q F2 H2 d (s1.trans s2) x
end
section
variable {K : PySem.W.Frag} {F H F' H' : Hp} {σ σ' : L2.St} {ds ds' : DS}
theorem Sub.rd (s : Sub F H) {a : Addr} {u : HO} (h : F a = some u) : Rd H a u := (s a u h).elim .inl fun z => .inr z.2
theorem sql_none {a : Addr} {vs : List V} (h : SqL K (fun _ => none) a vs) : SqL K H a vs := by
  rcases h with (h | ⟨o, h⟩) | h
  · cases h
  · cases h
  · exact .inr h
theorem sqt_none {a : Addr} {vs : List V} (h : SqT K (fun _ => none) a vs) : SqT K H a vs := by
  rcases h with (h | ⟨o, h⟩) | h
  · cases h
  · cases h
  · exact .inr h
theorem Sub.lst (s : Sub F H) {a : Addr} {vs : List V} (h : LstAt K F a vs) : SqL K H a vs := h.elim (fun z => .inl (s.rd z)) sql_none
theorem Sub.tup (s : Sub F H) {a : Addr} {vs : List V} (h : TupAt K F a vs) : SqT K H a vs := h.elim (fun z => .inl (s.rd z)) sqt_none
theorem Sub.ins (s : Sub F H) {a C dx : Addr} {ws : List (Str × V)} (h : F a = some (.ins C dx ws)) : H a = some (.ins C dx ws) := (s _ _ h).elim id fun z => z.1.elim
theorem Sub.xd (s : Sub F H) {a : Addr} {ws : List (Str × V)} (h : F a = some (.xd ws)) : H a = some (.xd ws) := (s _ _ h).elim id fun z => z.1.elim
theorem OwnAt.mono (l : Le F F') {p : Addr} : ∀ {o : OO}, OwnAt K F H p o → OwnAt K F' H p o
  | .lst _, ⟨vs, a, b⟩ => ⟨vs, a, b.mono l⟩
  | .dct _, ⟨vs, a, b⟩ => ⟨vs, a, b.mono l⟩
  | .obj _ _, ⟨dx, vs, a, b⟩ => ⟨dx, vs, a, b.mono l⟩
theorem OwnAt.at_ {p : Addr} (e : H' p = H p) : ∀ {o : OO}, OwnAt K F H p o → OwnAt K F H' p o
  | .lst _, ⟨vs, a, b⟩ => ⟨vs, e.trans a, b⟩
  | .dct _, ⟨vs, a, b⟩ => ⟨vs, e.trans a, b⟩
  | .obj _ _, ⟨dx, vs, a, b⟩ => ⟨dx, vs, e.trans a, b⟩
theorem OwnAt.some_ {p : Addr} : ∀ {o : OO}, OwnAt K F H p o → ∃ u, H p = some u
  | .lst _, ⟨vs, a, b⟩ => ⟨_, a⟩
  | .dct _, ⟨vs, a, b⟩ => ⟨_, a⟩
  | .obj _ _, ⟨dx, vs, a, b⟩ => ⟨_, a⟩
theorem OwnAt.rep {p : Addr} : ∀ {o : OO}, OwnAt K F H p o → ∃ u, H p = some u ∧ (F p = some u → Rep K F o.d (.ref p))
  | .lst _, ⟨vs, a, b⟩ => ⟨_, a, fun e => by unfold OO.d Rep; exact ⟨_, _, rfl, .inl e, b⟩⟩
  | .dct _, ⟨vs, a, b⟩ => ⟨_, a, fun e => by unfold OO.d Rep; exact ⟨_, _, rfl, e, b⟩⟩
  | .obj _ _, ⟨dx, vs, a, b⟩ => ⟨_, a, fun e => by unfold OO.d Rep; exact ⟨_, _, _, rfl, e, b⟩⟩
theorem Le.upd {p : Addr} {u : HO} (h : F p = none) : Le F (upd F p u) := fun a o e => by rw [upd_ne (ne_of_none e h)]; exact e
theorem SVR.mono (l : Le F F') {v : V} {s : SV} (hn : ∀ p o, s = .own o → v = .ref p → F' p = none) (h : SVR K F H v s) : SVR K F' H v s := by
  cases s with
  | val d => exact Rep.mono l h
  | own o =>
    obtain ⟨p, e, _, h2⟩ := h
    exact ⟨p, e, hn p o rfl e, h2.mono l⟩
/-- what was owned, held by no slot, is frozen -/
theorem Stp.freeze (a : Stp K F H σ ds F' H' σ' ds') {p : Addr} {o : OO} (h0 : F' p = none) (ho : OwnAt K F' H' p o) (hn : ¬ OA σ' ds' p) (nw : OA σ ds p ∨ H p = none) :
    ∃ F'', Le F' F'' ∧ Stp K F H σ ds F'' H' σ' ds' ∧ Rep K F'' o.d (.ref p) := by
  obtain ⟨u, hu, hr⟩ := ho.rep
  have l : Le F' (upd F' p u) := Le.upd h0
  refine ⟨upd F' p u, l, ⟨⟨fun b w e => ?_, a.st.len, fun i s e => ?_, a.st.apart⟩, ⟨a.ext.ff.trans l, a.ext.fr, fun b e => ?_⟩, a.oa⟩, ?_⟩
  · by_cases hb : b = p
    · subst hb; rw [upd_same] at e; cases e; exact .inl hu
    · rw [upd_ne hb] at e; exact a.st.sub b w e
  · obtain ⟨v, e1, e2⟩ := a.st.slot i s e
    refine ⟨v, e1, e2.mono l fun q o' es ev => ?_⟩
    subst es; subst ev
    have hq : q ≠ p := fun z => hn ⟨i, o', e, by rw [e1, z]⟩
    rw [upd_ne hq]
    obtain ⟨q', eq, hq', _⟩ := e2
    cases eq; exact hq'
  · by_cases hb : b = p
    · subst hb; exact .inr nw.symm
    · rw [upd_ne hb] at e; exact a.ext.nw b e
  · have ho' : OwnAt K (upd F' p u) H' p o := ho.mono l
    obtain ⟨u', hu', hr'⟩ := ho'.rep
    rw [hu] at hu'; cases hu'
    exact hr' upd_same
/-- readable as it stands -/
def Hld (K : PySem.W.Frag) (F H : Hp) (d : D) (v : V) : Prop := match d with
  | .lst xs => ∃ a vs, v = .ref a ∧ SqL K H a vs ∧ Reps K F xs vs
  | .tup xs => ∃ a vs, v = .ref a ∧ SqT K H a vs ∧ Reps K F xs vs
  | .dct kvs => ∃ a ws, v = .ref a ∧ Rd H a (.dK ws) ∧ Repk K F kvs ws
  | .obj C fs => ∃ a dx ws, v = .ref a ∧ H a = some (.ins C dx ws) ∧ Repf K F fs ws
  | d => Rep K F d v
theorem Rep.hld (s : Sub F H) : ∀ {d : D} {v : V}, Rep K F d v → Hld K F H d v
  | .non, _, h => h
  | .bl _, _, h => h
  | .int _, _, h => h
  | .str _, _, h => h
  | .ty _, _, h => h
  | .ref _, _, h => h
  | .lst _, _, h => by unfold Rep at h; obtain ⟨a, vs, e, h1, h2⟩ := h; exact ⟨a, vs, e, s.lst h1, h2⟩
  | .tup _, _, h => by unfold Rep at h; obtain ⟨a, vs, e, h1, h2⟩ := h; exact ⟨a, vs, e, s.tup h1, h2⟩
  | .dct _, _, h => by unfold Rep at h; obtain ⟨a, vs, e, h1, h2⟩ := h; exact ⟨a, vs, e, s.rd h1, h2⟩
  | .obj _ _, _, h => by unfold Rep at h; obtain ⟨a, dx, vs, e, h1, h2⟩ := h; exact ⟨a, dx, vs, e, s.ins h1, h2⟩
  | .xcp _ _ _ _, _, h => h
theorem OwnAt.hld {p : Addr} : ∀ {o : OO}, OwnAt K F H p o → Hld K F H o.d (.ref p)
  | .lst _, ⟨vs, a, b⟩ => ⟨p, vs, rfl, .inl (.inl a), b⟩
  | .dct _, ⟨vs, a, b⟩ => ⟨p, vs, rfl, .inl a, b⟩
  | .obj _ _, ⟨dx, vs, a, b⟩ => ⟨p, dx, vs, rfl, a, b⟩
def SV.d : SV → D
  | .val d => d
  | .own o => o.d
theorem SVR.hld (s : Sub F H) {v : V} : ∀ {x : SV}, SVR K F H v x → Hld K F H x.d v
  | .val _, h => Rep.hld s h
  | .own o, ⟨p, e, _, h⟩ => by subst e; exact h.hld
end
/-! ### judgements -/
abbrev RelH (K : PySem.W.Frag) : Hp → Hp → DS → (Addr → Prop) → D → V → Prop := fun F H _ _ d v => Hld K F H d v
/-- an expression; .. as a datum (frozen); .. as it can be read on the spot; a test; arguments -/
def DE (X : Cx) (W : WX) (e : Expr) (m : M SV) : Prop := ∃ t, PE X e t ∧ ∀ F σ H ds, StR X.K F H σ ds → At X.K W (RelS X.K σ) F H σ ds (t σ H) (m ds)
def DV (X : Cx) (W : WX) (e : Expr) (m : M D) : Prop := ∃ t, PE X e t ∧ ∀ F σ H ds, StR X.K F H σ ds → At X.K W (RelD X.K) F H σ ds (t σ H) (m ds)
def DR (X : Cx) (W : WX) (e : Expr) (m : M D) : Prop := ∃ t, PE X e t ∧ ∀ F σ H ds, StR X.K F H σ ds → At X.K W (RelH X.K) F H σ ds (t σ H) (m ds)
def DT (X : Cx) (W : WX) (e : Expr) (m : M Bool) : Prop := ∃ t, PT X e t ∧ ∀ F σ H ds, StR X.K F H σ ds → At X.K W RelB F H σ ds (t σ H) (m ds)
def DW (X : Cx) (W : WX) (e : Expr) (m : M Bool) : Prop := ∃ t, PW X e t ∧ ∀ F σ H ds, StR X.K F H σ ds → At X.K W RelB F H σ ds (t σ H) (m ds)
def DA (X : Cx) (W : WX) (es : List Expr) (m : M (List D)) : Prop := ∃ t, PA X es t ∧ ∀ F σ H ds, StR X.K F H σ ds → At X.K W (RelL X.K) F H σ ds (t σ H) (m ds)
def fz (m : M SV) : M D := fun ds => match m ds with
  | some (.ok s, ds') => some (.ok s.d, ds')
  | some (.exc C fs, ds') => some (.exc C fs, ds')
  | none => none
def vl (m : M D) : M SV := fun ds => match m ds with
  | some (.ok d, ds') => some (.ok (.val d), ds')
  | some (.exc C fs, ds') => some (.exc C fs, ds')
  | none => none
section
variable {X : Cx} {W : WX} {e : Expr}
theorem DE.toV {m : M SV} (h : DE X W e m) : DV X W e (fz m) := by
  obtain ⟨t, p, q⟩ := h
  refine ⟨t, p, fun F σ H ds s r ds' Q em hq => ?_⟩
  unfold fz at em
  cases e1 : m ds with
  | none => rw [e1] at em; cases em
  | some x =>
    obtain ⟨r1, ds1⟩ := x
    rw [e1] at em
    refine q F σ H ds s r1 ds1 Q e1 ?_
    cases r1 with
    | exc C fs => cases em; exact hq
    | ok a =>
      cases em
      intro F' H' b st rel
      cases a with
      | val d => exact hq F' H' b st rel.1
      | own o =>
        obtain ⟨⟨p, ep, h0, ho⟩, h2⟩ := rel
        obtain ⟨hn, nw⟩ := h2 o p rfl ep
        subst ep
        obtain ⟨F2, _, st2, r2⟩ := st.freeze h0 ho hn nw
        exact hq F2 H' _ st2 r2
theorem DV.toE {m : M D} (h : DV X W e m) : DE X W e (vl m) := by
  obtain ⟨t, p, q⟩ := h
  refine ⟨t, p, fun F σ H ds s r ds' Q em hq => ?_⟩
  unfold vl at em
  cases e1 : m ds with
  | none => rw [e1] at em; cases em
  | some x =>
    obtain ⟨r1, ds1⟩ := x
    rw [e1] at em
    refine q F σ H ds s r1 ds1 Q e1 ?_
    cases r1 with
    | exc C fs => cases em; exact hq
    | ok a =>
      cases em
      exact fun F' H' b st rel => hq F' H' b st ⟨rel, fun o p z => by cases z⟩
theorem DV.toR {m : M D} (h : DV X W e m) : DR X W e m := by
  obtain ⟨t, p, q⟩ := h
  refine ⟨t, p, fun F σ H ds s r ds' Q em hq => q F σ H ds s r ds' Q em ?_⟩
  cases r with
  | exc C fs => exact hq
  | ok a => exact fun F' H' b st rel => hq F' H' b st (rel.hld st.st.sub)
end
end DL
/-! DLb: rules: names, constants, operators, comparisons, tests. -/
namespace DL
open PySem PySem.Spec PyProof.Rows L2
section
variable {K : PySem.W.Frag} {W : WX} {F H F' H' : Hp} {σ σ' : L2.St} {ds ds' : DS}
theorem Sub.none_ (s : Sub F H) {p : Addr} (h : H p = none) : F p = none := by
  cases e : F p with
  | none => rfl
  | some u =>
    rcases s p u e with q | ⟨_, o, q⟩ <;> rw [h] at q <;> cases q
theorem StR.nown (s : StR K F H σ ds) {p : Addr} (h : H p = none) : ¬ OA σ ds p := fun ⟨i, o, e1, e2⟩ => by
  obtain ⟨v, e3, q, e4, _, ho⟩ := s.slot i _ e1
  rw [e2] at e3; cases e3; cases e4
  obtain ⟨u, hu⟩ := ho.some_
  rw [h] at hu; cases hu
theorem SVR.keep {v : V} {x : SV} (hF : ∀ p o, x = .own o → v = .ref p → H' p = H p) (h : SVR K F H v x) : SVR K F H' v x := by
  cases x with
  | val d => exact h
  | own o =>
    obtain ⟨p, e, h1, h2⟩ := h
    exact ⟨p, e, h1, h2.at_ (hF p o rfl e)⟩
/-- a new object, tracked -/
theorem StR.laid (s : StR K F H σ ds) {p : Addr} {u : HO} (h : H p = none) : Stp K F H σ ds F (upd H p u) σ ds := by
  have hn := s.nown h
  refine ⟨⟨fun a w e => ?_, s.len, fun i x e => ?_, s.apart⟩, ⟨Le.refl _, fun b o e _ => by rw [upd_ne (ne_of_none e h)]; exact e, fun b e => .inl e⟩, fun q z => .inl z⟩
  · have ha : a ≠ p := fun z => by rw [z, s.sub.none_ h] at e; cases e
    rw [upd_ne ha]; exact s.sub a w e
  · obtain ⟨v, e1, e2⟩ := s.slot i x e
    refine ⟨v, e1, e2.keep fun q o ex ev => ?_⟩
    subst ex; subst ev
    exact upd_ne fun z => hn ⟨i, o, e, by rw [e1, z]⟩
/-- .. and frozen -/
theorem StR.froz (s : StR K F H σ ds) {p : Addr} {u : HO} (h : H p = none) : Stp K F H σ ds (upd F p u) (upd H p u) σ ds := by
  have hn := s.nown h
  have h0 := s.sub.none_ h
  have a := s.laid (u := u) h
  refine ⟨⟨fun b w e => ?_, a.st.len, fun i x e => ?_, a.st.apart⟩, ⟨Le.upd h0, a.ext.fr, fun b e => ?_⟩, a.oa⟩
  · by_cases hb : b = p
    · subst hb; rw [upd_same] at e; cases e; exact .inl upd_same
    · rw [upd_ne hb] at e; exact a.st.sub b w e
  · obtain ⟨v, e1, e2⟩ := a.st.slot i x e
    refine ⟨v, e1, e2.mono (Le.upd h0) fun q o ex ev => ?_⟩
    subst ex; subst ev
    have hq : q ≠ p := fun z => hn ⟨i, o, e, by rw [e1, z]⟩
    rw [upd_ne hq]
    obtain ⟨q', eq, hq', _⟩ := e2
    cases eq; exact hq'
  · by_cases hb : b = p
    · subst hb; exact .inr (.inl h)
    · rw [upd_ne hb] at e; exact .inl e
theorem RelS.mono {F' H' : Hp} {ds' : DS} {P P' : Addr → Prop} {a : SV} {b : V} (h : ∀ p, P p → P' p) (r : RelS K σ F' H' ds' P a b) : RelS K σ F' H' ds' P' a b :=
  ⟨r.1, fun o p e1 e2 => ⟨(r.2 o p e1 e2).1, h p (r.2 o p e1 e2).2⟩⟩
theorem RelS.val {F' H' : Hp} {ds' : DS} {P : Addr → Prop} {d : D} {b : V} (r : Rep K F' d b) : RelS K σ F' H' ds' P (.val d) b := ⟨r, fun _ _ e => by cases e⟩
/-- .. of a new list, all a reading wants -/
theorem At.lnew {t : (V → Hp → Prop) → Prop} {xs : List D} {vs : List V} (s : StR K F H σ ds) (r : Reps K F xs vs) (h : ∀ Q : V → Hp → Prop, (∀ p, H p = none → Q (.ref p) (upd H p (.lst vs))) → t Q) : At K W (RelS K σ) F H σ ds t (some (.ok (.own (.lst xs)), ds)) := by
  intro r' ds' Q e q
  cases e
  refine h Q fun p hp => q F _ _ (s.laid hp) ⟨⟨p, rfl, s.sub.none_ hp, _, upd_same, r⟩, fun o p' e1 e2 => ?_⟩
  cases e2
  exact ⟨s.nown hp, .inr hp⟩
theorem At.dnew {t : (V → Hp → Prop) → Prop} {xs : List (Key × D)} {vs : List (Key × V)} (s : StR K F H σ ds) (r : Repk K F xs vs) (h : ∀ Q : V → Hp → Prop, (∀ p, H p = none → Q (.ref p) (upd H p (.dK vs))) → t Q) : At K W (RelS K σ) F H σ ds t (some (.ok (.own (.dct xs)), ds)) := by
  intro r' ds' Q e q
  cases e
  refine h Q fun p hp => q F _ _ (s.laid hp) ⟨⟨p, rfl, s.sub.none_ hp, _, upd_same, r⟩, fun o p' e1 e2 => ?_⟩
  cases e2
  exact ⟨s.nown hp, .inr hp⟩
theorem At.tnew {t : (V → Hp → Prop) → Prop} {xs : List D} {vs : List V} (s : StR K F H σ ds) (r : Reps K F xs vs) (h : ∀ Q : V → Hp → Prop, (∀ p, H p = none → Q (.ref p) (upd H p (.tup vs))) → t Q) : At K W (RelD K) F H σ ds t (some (.ok (.tup xs), ds)) := by
  intro r' ds' Q e q
  cases e
  refine h Q fun p hp => q _ _ _ (s.froz (u := .tup vs) hp) ?_
  show Rep K _ (.tup xs) _
  unfold Rep
  exact ⟨p, vs, rfl, .inl upd_same, r.mono (Le.upd (s.sub.none_ hp))⟩
theorem At.none_ {α β : Type} {Rel : Hp → Hp → DS → (Addr → Prop) → α → β → Prop} {t : (β → Hp → Prop) → Prop} : At K W Rel F H σ ds t (none : Option (R α × DS)) := fun _ _ _ e => by cases e
theorem At.toS {t : (V → Hp → Prop) → Prop} {d : D} (h : At K W (RelD K) F H σ ds t (some (.ok d, ds))) : At K W (RelS K σ) F H σ ds t (some (.ok (.val d), ds)) := by
  intro r ds' Q e q
  cases e
  exact h _ _ Q rfl fun F' H' b st rel => q F' H' b st (RelS.val rel)
/-- a plain answer -/
theorem At.pure {t : (V → Hp → Prop) → Prop} {d : D} {v : V} (s : StR K F H σ ds) (r : Rep K F d v) (h : ∀ Q : V → Hp → Prop, Q v H → t Q) : At K W (RelD K) F H σ ds t (some (.ok d, ds)) := At.ret s r h
end
/-! ### names, constants -/
def rd (i : Nat) : M D := fun ds => match ds[i]? with
  | some (some s) => some (.ok s.d, ds.set i (some (.val s.d)))
  | _ => none
def mv (i : Nat) : M SV := fun ds => match ds[i]? with
  | some (some s) => some (.ok s, ds.set i none)
  | _ => none
def pk (i : Nat) : M D := fun ds => match ds[i]? with
  | some (some s) => some (.ok s.d, ds)
  | _ => none
section
variable {X : Cx} {W : WX} {x : Str} {pos : Pos}
theorem dr_pk (i : Nat) (hN : X.N[i]? = some x := by rfl) (hv : Vis X.env.scope x := by first | exact Or.inl rfl | exact Or.inr (Or.inl rfl) | exact Or.inr (Or.inr rfl)) (hd : (x == ("__debug__" : Str)) = false := by decide)
    (hcd : (x == ("__classdict__" : Str)) = false := by decide) : DR X W (.Name x pos) (pk i) := by
  refine ⟨_, pe_var hN hv hd hcd, fun F σ H ds s => ?_⟩
  unfold pk
  cases e : ds[i]? with
  | none => exact At.none_
  | some o =>
    cases o with
    | none => exact At.none_
    | some sv =>
      obtain ⟨v, e1, e2⟩ := s.slot i sv e
      exact At.ret (Rel := RelH X.K) s (e2.hld s.sub) fun Q h => ⟨v, e1, h⟩
/-- a slot's content is let go: none holds it, or it is frozen -/
theorem StR.drop {K : PySem.W.Frag} {F H : Hp} {σ : L2.St} {ds : DS} (s : StR K F H σ ds) (i : Nat) : Stp K F H σ ds F H σ (ds.set i none) := by
  have sm : ∀ (j : Nat) (x : SV), (ds.set i none)[j]? = some (some x) → ds[j]? = some (some x) := fun j x e => by
    by_cases h : i = j
    · subst h
      have l : i < (ds.set i none).length := (List.getElem?_eq_some_iff.mp e).1
      rw [List.length_set] at l
      rw [List.getElem?_set_self l] at e; cases e
    · rw [List.getElem?_set_ne h] at e; exact e
  exact ⟨⟨s.sub, by rw [List.length_set]; exact s.len, fun j x e => s.slot j x (sm j x e), fun a b o o' p h1 h2 => s.apart a b o o' p (sm _ _ h1) (sm _ _ h2)⟩,
    ⟨Le.refl _, fun _ _ h _ => h, fun _ h => .inl h⟩, fun p ⟨j, o, h1, h2⟩ => .inl ⟨j, o, sm _ _ h1, h2⟩⟩
theorem de_mv (i : Nat) (hN : X.N[i]? = some x := by rfl) (hv : Vis X.env.scope x := by first | exact Or.inl rfl | exact Or.inr (Or.inl rfl) | exact Or.inr (Or.inr rfl)) (hd : (x == ("__debug__" : Str)) = false := by decide)
    (hcd : (x == ("__classdict__" : Str)) = false := by decide) : DE X W (.Name x pos) (mv i) := by
  refine ⟨_, pe_var hN hv hd hcd, fun F σ H ds s => ?_⟩
  unfold mv
  cases e : ds[i]? with
  | none => exact At.none_
  | some o =>
    cases o with
    | none => exact At.none_
    | some sv =>
      obtain ⟨v, e1, e2⟩ := s.slot i sv e
      intro r ds' Q er q
      cases er
      refine ⟨v, e1, q F H v (s.drop i) ⟨e2, fun o p eo ep => ?_⟩⟩
      subst eo; subst ep
      refine ⟨fun ⟨j, o', h1, h2⟩ => ?_, .inl ⟨i, o, e, e1⟩⟩
      have l : i < ds.length := (List.getElem?_eq_some_iff.mp e).1
      by_cases h : i = j
      · subst h; rw [List.getElem?_set_self l] at h1; cases h1
      · rw [List.getElem?_set_ne h] at h1
        exact h (s.apart i j o o' p e h1 e1 h2)
theorem StR.putv {K : PySem.W.Frag} {F H F' H' : Hp} {σ : L2.St} {ds ds' : DS} {i : Nat} {d : D} {v : V} (a : Stp K F H σ ds F' H' σ ds') (e1 : σ[i]? = some (some v)) (r : Rep K F' d v) : Stp K F H σ ds F' H' σ (ds'.set i (some (.val d))) := by
  have sm : ∀ (j : Nat) (x : SV), (ds'.set i (some (.val d)))[j]? = some (some x) → (j = i ∧ x = .val d) ∨ (i ≠ j ∧ ds'[j]? = some (some x)) := fun j x e => by
    by_cases h : i = j
    · subst h
      have l : i < (ds'.set i (some (.val d))).length := (List.getElem?_eq_some_iff.mp e).1
      rw [List.length_set] at l
      rw [List.getElem?_set_self l] at e; cases e; exact .inl ⟨rfl, rfl⟩
    · rw [List.getElem?_set_ne h] at e; exact .inr ⟨h, e⟩
  have so : ∀ (j : Nat) (o : OO), (ds'.set i (some (.val d)))[j]? = some (some (.own o)) → ds'[j]? = some (some (.own o)) := fun j o e => by
    rcases sm j _ e with ⟨_, z⟩ | ⟨_, z⟩
    · cases z
    · exact z
  exact ⟨⟨a.st.sub, by rw [List.length_set]; exact a.st.len, fun j x e => by
    rcases sm j x e with ⟨rfl, rfl⟩ | ⟨_, z⟩
    · exact ⟨v, e1, r⟩
    · exact a.st.slot j x z, fun a' b o o' p h1 h2 => a.st.apart a' b o o' p (so _ _ h1) (so _ _ h2)⟩, a.ext, fun p ⟨j, o, h1, h2⟩ => a.oa p ⟨j, o, so _ _ h1, h2⟩⟩
theorem dv_rd (i : Nat) (hN : X.N[i]? = some x := by rfl) (hv : Vis X.env.scope x := by first | exact Or.inl rfl | exact Or.inr (Or.inl rfl) | exact Or.inr (Or.inr rfl)) (hd : (x == ("__debug__" : Str)) = false := by decide)
    (hcd : (x == ("__classdict__" : Str)) = false := by decide) : DV X W (.Name x pos) (rd i) := by
  refine ⟨_, pe_var hN hv hd hcd, fun F σ H ds s => ?_⟩
  unfold rd
  cases e : ds[i]? with
  | none => exact At.none_
  | some o =>
    cases o with
    | none => exact At.none_
    | some sv =>
      obtain ⟨v, e1, e2⟩ := s.slot i sv e
      intro r ds' Q er q
      cases er
      refine ⟨v, e1, ?_⟩
      cases sv with
      | val d => exact q F H v (StR.putv (Stp.refl s) e1 e2) e2
      | own o =>
        obtain ⟨p, rfl, h0, ho⟩ := e2
        have a := s.drop i
        have hn : ¬ OA σ (ds.set i none) p := fun ⟨j, o', h1, h2⟩ => by
          have l : i < ds.length := (List.getElem?_eq_some_iff.mp e).1
          by_cases h : i = j
          · subst h; rw [List.getElem?_set_self l] at h1; cases h1
          · rw [List.getElem?_set_ne h] at h1
            exact h (s.apart i j o o' p e h1 e1 h2)
        obtain ⟨F2, l2, st2, r2⟩ := a.freeze h0 ho hn (.inl ⟨i, o, e, e1⟩)
        have z := StR.putv st2 e1 r2
        rw [List.set_set] at z
        exact q F2 H _ z r2
def k_ (d : D) : M D := ret d
theorem dv_c {e : Expr} {v : V} {d : D} (h : PE X e (tC v)) (r : ∀ F, Rep X.K F d v) : DV X W e (k_ d) := ⟨_, h, fun F σ H ds s => At.pure s (r F) fun Q h => h⟩
theorem dv_int {i : Int} {j : Nat} : DV X W (.Constant (.int i) j pos) (k_ (.int i)) := dv_c pe_int fun _ => by simp [Rep]
theorem dv_str {z : Str} {j : Nat} : DV X W (.Constant (.str z) j pos) (k_ (.str z)) := dv_c pe_str fun _ => by simp [Rep]
theorem dv_bl {z : Bool} {j : Nat} : DV X W (.Constant (.bool z) j pos) (k_ (.bl z)) := dv_c pe_bl fun _ => by simp [Rep]
theorem dv_non {j : Nat} : DV X W (.Constant .none j pos) (k_ .non) := dv_c pe_non fun _ => by simp [Rep]
theorem dv_glob {v : V} {u : Value} {d : D} (hm : X.mg x = some u) (r : RelV v u) (q : ∀ F, Rep X.K F d v) (hg : Gl X x := by rfl) (hd : (x == ("__debug__" : Str)) = false := by decide) : DV X W (.Name x pos) (k_ d) := dv_c (pe_glob hg hm r hd) q
theorem dv_gstr {z : Str} {t : Tok} (hm : X.mg x = some (.str z t)) (hg : Gl X x := by rfl) (hd : (x == ("__debug__" : Str)) = false := by decide) : DV X W (.Name x pos) (k_ (.str z)) := dv_glob hm (v := .str z) ⟨t, rfl⟩ (fun _ => by simp [Rep]) hg hd
theorem dv_gint {z : Int} {t : Tok} (hm : X.mg x = some (.int z t)) (hg : Gl X x := by rfl) (hd : (x == ("__debug__" : Str)) = false := by decide) : DV X W (.Name x pos) (k_ (.int z)) := dv_glob hm (v := .int z) ⟨t, rfl⟩ (fun _ => by simp [Rep]) hg hd
end
/-! ### operators by data -/
def lift {α : Type} (o : Option α) : M α := fun ds => match o with
  | some a => some (.ok a, ds)
  | none => none
def bin {α : Type} (f : D → D → Option α) (ma mb : M D) : M α := bnd ma fun a => bnd mb fun b => lift (f a b)
def un {α : Type} (f : D → Option α) (ma : M D) : M α := bnd ma fun a => lift (f a)
abbrev mD {K : PySem.W.Frag} : ∀ (F' H' : Hp) (ds' : DS) (P P' : Addr → Prop) (a : D) (b : V), (∀ p, P p → P' p) → RelD K F' H' ds' P a b → RelD K F' H' ds' P' a b := fun _ _ _ _ _ _ _ _ r => r
abbrev mB : ∀ (F' H' : Hp) (ds' : DS) (P P' : Addr → Prop) (a b : Bool), (∀ p, P p → P' p) → RelB F' H' ds' P a b → RelB F' H' ds' P' a b := fun _ _ _ _ _ _ _ _ r => r
abbrev mS {K : PySem.W.Frag} {σ : L2.St} : ∀ (F' H' : Hp) (ds' : DS) (P P' : Addr → Prop) (a : SV) (b : V), (∀ p, P p → P' p) → RelS K σ F' H' ds' P a b → RelS K σ F' H' ds' P' a b := fun _ _ _ _ _ _ _ h r => RelS.mono h r
/-- what an operation by values gives, by data: the left one frozen, the right one readable -/
def Op2 (X : Cx) (W : WX) (r : R2) (f : D → D → Option SV) : Prop := ∀ F σ H ds x y a b s, StR X.K F H σ ds → Rep X.K F a x → Hld X.K F H b y → f a b = some s → At X.K W (RelS X.K σ) F H σ ds (r x y H) (some (.ok s, ds))
def Op2V (X : Cx) (W : WX) (r : R2) (f : D → D → Option D) : Prop := ∀ F σ H ds x y a b s, StR X.K F H σ ds → Rep X.K F a x → Hld X.K F H b y → f a b = some s → At X.K W (RelD X.K) F H σ ds (r x y H) (some (.ok s, ds))
section
variable {X : Cx} {W : WX} {a b : Expr} {ma mb : M D} {pos : Pos} {r : R2}
theorem op2_core {α : Type} {f : D → D → Option α} {ta tb : TE} {Rel : Hp → Hp → DS → (Addr → Prop) → α → V → Prop} {F H : Hp} {σ : L2.St} {ds : DS}
    (mono : ∀ (F' H' : Hp) (ds' : DS) (P P' : Addr → Prop) (a : α) (b : V), (∀ p, P p → P' p) → Rel F' H' ds' P a b → Rel F' H' ds' P' a b)
    (hf : ∀ F H ds x y a b s, StR X.K F H σ ds → Rep X.K F a x → Hld X.K F H b y → f a b = some s → At X.K W Rel F H σ ds (r x y H) (some (.ok s, ds)))
    (qa : ∀ F σ H ds, StR X.K F H σ ds → At X.K W (RelD X.K) F H σ ds (ta σ H) (ma ds)) (qb : ∀ F σ H ds, StR X.K F H σ ds → At X.K W (RelH X.K) F H σ ds (tb σ H) (mb ds)) (s : StR X.K F H σ ds) :
    At X.K W Rel F H σ ds (tOp r ta tb σ H) (bin f ma mb ds) := by
  refine At.bind (t2 := fun x H1 Q => tb σ H1 fun y H2 => r x y H2 Q) mono (qa F σ H ds s) (fun a ds1 F1 H1 x st1 rel1 => ?_) fun Q h => h
  refine At.bind (t2 := fun y H2 Q => r x y H2 Q) mono (qb F1 σ H1 ds1 st1.st) (fun b ds2 F2 H2 y st2 rel2 => ?_) fun Q h => h
  unfold lift
  cases e : f a b with
  | none => exact At.none_
  | some z => exact hf F2 H2 ds2 x y a b z st2.st (Rep.mono st2.ext.ff rel1) rel2 e
theorem de_bin {op : Operator} {f : D → D → Option SV} (ho : OpR X (binaryOp op) r) (hf : Op2 X W r f) (ha : DV X W a ma) (hb : DR X W b mb) : DE X W (.BinOp a op b pos) (bin f ma mb) := by
  obtain ⟨ta, pa, qa⟩ := ha
  obtain ⟨tb, pb, qb⟩ := hb
  exact ⟨_, pe_op ho pa pb, fun F σ H ds s => op2_core mS (fun F H ds x y a b z s h1 h2 e => hf F σ H ds x y a b z s h1 h2 e) qa qb s⟩
theorem dv_bin {op : Operator} {f : D → D → Option D} (ho : OpR X (binaryOp op) r) (hf : Op2V X W r f) (ha : DV X W a ma) (hb : DR X W b mb) : DV X W (.BinOp a op b pos) (bin f ma mb) := by
  obtain ⟨ta, pa, qa⟩ := ha
  obtain ⟨tb, pb, qb⟩ := hb
  exact ⟨_, pe_op ho pa pb, fun F σ H ds s => op2_core mD (fun F H ds x y a b z s h1 h2 e => hf F σ H ds x y a b z s h1 h2 e) qa qb s⟩
theorem dv_cmp {op : CmpOp} {f : D → D → Option D} (ho : OpR X (compareOp op) r) (hf : Op2V X W r f) (hm : behindInMarks op b = false) (ha : DV X W a ma) (hb : DR X W b mb) : DV X W (.Compare a [op] [b] pos) (bin f ma mb) := by
  obtain ⟨ta, pa, qa⟩ := ha
  obtain ⟨tb, pb, qb⟩ := hb
  exact ⟨_, pe_cmpR ho pa pb hm, fun F σ H ds s => op2_core mD (fun F H ds x y a b z s h1 h2 e => hf F σ H ds x y a b z s h1 h2 e) qa qb s⟩
/-- an expression that gives True or False, as a test -/
def isB (m : M D) : M Bool := bnd m fun d => match d with
  | .bl b => ret b
  | _ => stuck
theorem dt_val {e : Expr} {m : M D} (h : DV X W e m) (he : ∀ whole, isTrue e X.env whole = (do let v ← whole; standAt e.pos; holding [v] (truthy v)) := by intro _; rfl) : DT X W e (isB m) := by
  obtain ⟨t, p, q⟩ := h
  refine ⟨_, pt_val p he, fun F σ H ds s => ?_⟩
  refine At.bind (t2 := fun x H1 Q => ∃ c, x = V.bl c ∧ Q c H1) mB (q F σ H ds s) (fun d ds1 F1 H1 x st1 rel1 => ?_) fun Q h => h
  cases d with
  | bl b => exact At.ret st1.st rfl fun Q hq => ⟨b, rel1, hq⟩
  | _ => exact At.none_
theorem dt_cmp {op : CmpOp} {f : D → D → Option D} (ho : OpR X (compareOp op) r) (hf : Op2V X W r f) (hm : behindInMarks op b = false) (ha : DV X W a ma) (hb : DR X W b mb) : DT X W (.Compare a [op] [b] pos) (isB (bin f ma mb)) := by
  obtain ⟨ta, pa, qa⟩ := ha
  obtain ⟨tb, pb, qb⟩ := hb
  refine ⟨_, pt_cmpR ho pa pb hm, fun F σ H ds s => ?_⟩
  refine At.bind (Rel1 := RelD X.K) (t2 := fun x H1 Q => ∃ c, x = V.bl c ∧ Q c H1) mB (op2_core (r := r) (ta := ta) (tb := tb) mD (fun F H ds x y a b z s h1 h2 e => hf F σ H ds x y a b z s h1 h2 e) qa qb s) (fun d ds1 F1 H1 x st1 rel1 => ?_) fun Q h => h
  cases d with
  | bl b => exact At.ret st1.st rfl fun Q hq => ⟨b, rel1, hq⟩
  | _ => exact At.none_
end
end DL
/-! DLc: rules: and, or, not, if-expressions, displays, subscripts, slices, calls of built-ins and of their methods. -/
namespace DL
open PySem PySem.Spec PyProof.Rows L2
abbrev mL {K : PySem.W.Frag} : ∀ (F' H' : Hp) (ds' : DS) (P P' : Addr → Prop) (a : List D) (b : List V), (∀ p, P p → P' p) → RelL K F' H' ds' P a b → RelL K F' H' ds' P' a b := fun _ _ _ _ _ _ _ _ r => r
abbrev mH {K : PySem.W.Frag} : ∀ (F' H' : Hp) (ds' : DS) (P P' : Addr → Prop) (a : D) (b : V), (∀ p, P p → P' p) → RelH K F' H' ds' P a b → RelH K F' H' ds' P' a b := fun _ _ _ _ _ _ _ _ r => r
def ifM {α : Type} (c : M Bool) (a b : M α) : M α := bnd c fun k => if k = true then a else b
section
variable {X : Cx} {W : WX} {a b c e : Expr} {rest : List Expr} {ma mb : M D} {ca cb cc : M Bool} {pos : Pos}
/-! ### tests -/
theorem dw_and1 (h : DT X W a ca) : DW X W (.BoolOp .And [a] pos) ca := by
  obtain ⟨t, p, q⟩ := h
  exact ⟨t, pw_and1 p, q⟩
theorem dw_or1 (h : DT X W a ca) : DW X W (.BoolOp .Or [a] pos) ca := by
  obtain ⟨t, p, q⟩ := h
  exact ⟨t, pw_or1 p, q⟩
theorem dw_and (h : DT X W a ca) (h' : DW X W (.BoolOp .And (b :: rest) pos) cb) : DW X W (.BoolOp .And (a :: b :: rest) pos) (ifM ca cb (ret false)) := by
  obtain ⟨t, p, q⟩ := h
  obtain ⟨u, p', q'⟩ := h'
  refine ⟨_, pw_and p p', fun F σ H ds s => ?_⟩
  refine At.bind (t2 := fun k H1 Q => if k = true then u σ H1 Q else Q false H1) mB (q F σ H ds s) (fun k ds1 F1 H1 k' st1 rel1 => ?_) fun Q h => h
  cases rel1
  cases k with
  | true => simpa using q' F1 σ H1 ds1 st1.st
  | false =>
    have z : At X.K W RelB F1 H1 σ ds1 (fun Q => Q false H1) (some (.ok false, ds1)) := At.ret st1.st rfl fun Q h => h
    simp only [Bool.false_eq_true, if_false]; exact z
theorem dw_or (h : DT X W a ca) (h' : DW X W (.BoolOp .Or (b :: rest) pos) cb) : DW X W (.BoolOp .Or (a :: b :: rest) pos) (ifM ca (ret true) cb) := by
  obtain ⟨t, p, q⟩ := h
  obtain ⟨u, p', q'⟩ := h'
  refine ⟨_, pw_or p p', fun F σ H ds s => ?_⟩
  refine At.bind (t2 := fun k H1 Q => if k = true then Q true H1 else u σ H1 Q) mB (q F σ H ds s) (fun k ds1 F1 H1 k' st1 rel1 => ?_) fun Q h => h
  cases rel1
  cases k with
  | false => simpa using q' F1 σ H1 ds1 st1.st
  | true =>
    have z : At X.K W RelB F1 H1 σ ds1 (fun Q => Q true H1) (some (.ok true, ds1)) := At.ret st1.st rfl fun Q h => h
    simp only [if_true]; exact z
theorem DW.t (h : DW X W e ca) : DT X W e ca := by
  obtain ⟨t, p, q⟩ := h
  exact ⟨t, p.pt, q⟩
def ngM (c : M Bool) : M Bool := bnd c fun k => ret (!k)
theorem dt_not (h : DT X W a ca) : DT X W (.UnaryOp .Not a pos) (ngM ca) := by
  obtain ⟨t, p, q⟩ := h
  refine ⟨_, pt_not p, fun F σ H ds s => ?_⟩
  refine At.bind (t2 := fun k H1 Q => Q (!k) H1) mB (q F σ H ds s) (fun k ds1 F1 H1 k' st1 rel1 => ?_) fun Q h => h
  cases rel1
  exact At.ret st1.st rfl fun Q h => h
/-! ### the same as values: True and False alone -/
def andV (ma mb : M D) : M D := bnd ma fun d => match d with
  | .bl true => mb
  | .bl false => ret (.bl false)
  | _ => stuck
def orV (ma mb : M D) : M D := bnd ma fun d => match d with
  | .bl false => mb
  | .bl true => ret (.bl true)
  | _ => stuck
def notV (ma : M D) : M D := bnd ma fun d => match d with
  | .bl k => ret (.bl (!k))
  | _ => stuck
theorem dv_one {op : BoolOp} (h : DV X W a ma) : DV X W (.BoolOp op [a] pos) ma := by
  obtain ⟨t, p, q⟩ := h
  exact ⟨t, pe_one p, q⟩
theorem dv_and (h : DV X W a ma) (h' : DV X W (.BoolOp .And (b :: rest) pos) mb) : DV X W (.BoolOp .And (a :: b :: rest) pos) (andV ma mb) := by
  obtain ⟨t, p, q⟩ := h
  obtain ⟨u, p', q'⟩ := h'
  refine ⟨_, pe_and p p', fun F σ H ds s => ?_⟩
  refine At.bind (t2 := fun x H1 Q => ∃ c, x = V.bl c ∧ if c = true then u σ H1 Q else Q (.bl false) H1) mD (q F σ H ds s) (fun k ds1 F1 H1 k' st1 rel1 => ?_) fun Q h => h
  cases k with
  | bl k =>
    cases k with
    | true =>
      intro r ds' Q e hq
      exact ⟨true, rel1, by rw [if_pos rfl]; exact q' F1 σ H1 ds1 st1.st r ds' Q e hq⟩
    | false => exact At.pure st1.st (show Rep X.K F1 (.bl false) (.bl false) by simp [Rep]) fun Q h => ⟨false, rel1, by simpa using h⟩
  | _ => exact At.none_
theorem dv_or (h : DV X W a ma) (h' : DV X W (.BoolOp .Or (b :: rest) pos) mb) : DV X W (.BoolOp .Or (a :: b :: rest) pos) (orV ma mb) := by
  obtain ⟨t, p, q⟩ := h
  obtain ⟨u, p', q'⟩ := h'
  refine ⟨_, pe_or p p', fun F σ H ds s => ?_⟩
  refine At.bind (t2 := fun x H1 Q => ∃ c, x = V.bl c ∧ if c = true then Q (.bl true) H1 else u σ H1 Q) mD (q F σ H ds s) (fun k ds1 F1 H1 k' st1 rel1 => ?_) fun Q h => h
  cases k with
  | bl k =>
    cases k with
    | false =>
      intro r ds' Q e hq
      exact ⟨false, rel1, by rw [if_neg Bool.false_ne_true]; exact q' F1 σ H1 ds1 st1.st r ds' Q e hq⟩
    | true => exact At.pure st1.st (show Rep X.K F1 (.bl true) (.bl true) by simp [Rep]) fun Q h => ⟨true, rel1, by simpa using h⟩
  | _ => exact At.none_
theorem dv_not (h : DV X W a ma) : DV X W (.UnaryOp .Not a pos) (notV ma) := by
  obtain ⟨t, p, q⟩ := h
  refine ⟨_, pe_not p, fun F σ H ds s => ?_⟩
  refine At.bind (t2 := fun x H1 Q => ∃ c, x = V.bl c ∧ Q (.bl (!c)) H1) mD (q F σ H ds s) (fun k ds1 F1 H1 k' st1 rel1 => ?_) fun Q h => h
  cases k with
  | bl k => exact At.pure st1.st (show Rep X.K F1 (.bl (!k)) (.bl (!k)) by simp [Rep]) fun Q h => ⟨k, rel1, h⟩
  | _ => exact At.none_
theorem de_if {m1 m2 : M SV} (hc : DT X W c cc) (ha : DE X W a m1) (hb : DE X W b m2) : DE X W (.IfExp c a b pos) (ifM cc m1 m2) := by
  obtain ⟨t, p, q⟩ := hc
  obtain ⟨u, p1, q1⟩ := ha
  obtain ⟨v, p2, q2⟩ := hb
  refine ⟨_, pe_ifExp p p1 p2, fun F σ H ds s => ?_⟩
  refine At.bind (t2 := fun k H1 Q => if k = true then u σ H1 Q else v σ H1 Q) mS (q F σ H ds s) (fun k ds1 F1 H1 k' st1 rel1 => ?_) fun Q h => h
  cases rel1
  cases k with
  | true => simpa using q1 F1 σ H1 ds1 st1.st
  | false => simpa using q2 F1 σ H1 ds1 st1.st
theorem dv_if (hc : DT X W c cc) (ha : DV X W a ma) (hb : DV X W b mb) : DV X W (.IfExp c a b pos) (ifM cc ma mb) := by
  obtain ⟨t, p, q⟩ := hc
  obtain ⟨u, p1, q1⟩ := ha
  obtain ⟨v, p2, q2⟩ := hb
  refine ⟨_, pe_ifExp p p1 p2, fun F σ H ds s => ?_⟩
  refine At.bind (t2 := fun k H1 Q => if k = true then u σ H1 Q else v σ H1 Q) mD (q F σ H ds s) (fun k ds1 F1 H1 k' st1 rel1 => ?_) fun Q h => h
  cases rel1
  cases k with
  | true => simpa using q1 F1 σ H1 ds1 st1.st
  | false => simpa using q2 F1 σ H1 ds1 st1.st
/-! ### arguments, displays -/
def nilA : M (List D) := ret []
def consA (m : M D) (r : M (List D)) : M (List D) := bnd m fun d => bnd r fun ds => ret (d :: ds)
theorem da_nil : DA X W [] nilA := ⟨_, pa_nil, fun F σ H ds s => At.ret (Rel := RelL X.K) s Reps.nil fun Q h => h⟩
theorem da_cons {es : List Expr} {r : M (List D)} (h : DV X W a ma) (h' : DA X W es r) (hl : starEach (a :: es) X.env = (false, eval a X.env) :: starEach es X.env := by rfl) : DA X W (a :: es) (consA ma r) := by
  obtain ⟨t, p, q⟩ := h
  obtain ⟨u, p', q'⟩ := h'
  refine ⟨_, pa_cons p p' hl, fun F σ H ds s => ?_⟩
  refine At.bind (t2 := fun x H1 Q => u σ H1 fun xs H2 => Q (x :: xs) H2) mL (q F σ H ds s) (fun d ds1 F1 H1 x st1 rel1 => ?_) fun Q h => h
  refine At.bind (t2 := fun xs H2 Q => Q (x :: xs) H2) mL (q' F1 σ H1 ds1 st1.st) (fun ys ds2 F2 H2 xs st2 rel2 => ?_) fun Q h => h
  exact At.ret (Rel := RelL X.K) st2.st (Reps.cons (Rep.mono st2.ext.ff rel1) rel2) fun Q h => h
def starA (m : M D) (r : M (List D)) : M (List D) := bnd m fun d => match d with
  | .lst xs => bnd r fun ys => ret (xs ++ ys)
  | .tup xs => bnd r fun ys => ret (xs ++ ys)
  | _ => stuck
theorem da_star {es : List Expr} {r : M (List D)} {p0 : Pos} (h : DV X W a ma) (h' : DA X W es r) (hl : starEach (.Starred a p0 :: es) X.env = (true, eval a X.env) :: starEach es X.env := by rfl) : DA X W (.Starred a p0 :: es) (starA ma r) := by
  obtain ⟨t, p, q⟩ := h
  obtain ⟨u, p', q'⟩ := h'
  refine ⟨_, StX.pa_star p p' hl, fun F σ H ds s => ?_⟩
  refine At.bind (t2 := fun x H1 Q => ∃ p xs, x = V.ref p ∧ (SqT X.K H1 p xs ∨ SqL X.K H1 p xs) ∧ u σ H1 fun ys H2 => Q (xs ++ ys) H2) mL (q F σ H ds s) (fun d ds1 F1 H1 x st1 rel1 => ?_) fun Q h => h
  cases d with
  | lst xs =>
    unfold RelD Rep at rel1
    obtain ⟨a1, vs, rfl, h1, h2⟩ := rel1
    refine At.bind (t2 := fun ys H2 Q => Q (vs ++ ys) H2) mL (q' F1 σ H1 ds1 st1.st) (fun ys ds2 F2 H2 ws st2 rel2 => ?_) fun Q h => ⟨a1, vs, rfl, .inr (st1.st.sub.lst h1), h⟩
    exact At.ret (Rel := RelL X.K) st2.st (Reps.append (Reps.mono st2.ext.ff h2) rel2) fun Q h => h
  | tup xs =>
    unfold RelD Rep at rel1
    obtain ⟨a1, vs, rfl, h1, h2⟩ := rel1
    refine At.bind (t2 := fun ys H2 Q => Q (vs ++ ys) H2) mL (q' F1 σ H1 ds1 st1.st) (fun ys ds2 F2 H2 ws st2 rel2 => ?_) fun Q h => ⟨a1, vs, rfl, .inl (st1.st.sub.tup h1), h⟩
    exact At.ret (Rel := RelL X.K) st2.st (Reps.append (Reps.mono st2.ext.ff h2) rel2) fun Q h => h
  | _ => exact At.none_
def lstM (m : M (List D)) : M SV := bnd m fun xs => lift (if xs.length ≤ sizeLine then some (.own (.lst xs)) else none)
def tupM (m : M (List D)) : M D := bnd m fun xs => lift (if xs.length ≤ sizeLine then some (.tup xs) else none)
theorem de_lst {es : List Expr} {r : M (List D)} (h : DA X W es r) : DE X W (.List es pos) (lstM r) := by
  obtain ⟨t, p, q⟩ := h
  refine ⟨_, pe_lst p, fun F σ H ds s => ?_⟩
  refine At.bind (t2 := fun (xs : List V) H1 Q => xs.length ≤ sizeLine ∧ ∀ p, H1 p = none → Q (.ref p) (upd H1 p (.lst xs))) mS (q F σ H ds s) (fun d ds1 F1 H1 x st1 rel1 => ?_) fun Q h => h
  unfold lift
  by_cases hl : d.length ≤ sizeLine
  · rw [if_pos hl]
    exact At.lnew st1.st rel1 fun Q h => ⟨by rw [Reps.length rel1]; exact hl, h⟩
  · rw [if_neg hl]; exact At.none_
theorem dv_tup {es : List Expr} {r : M (List D)} {n0 : Nat} (h : DA X W es r) : DV X W (.Tuple es n0 pos) (tupM r) := by
  obtain ⟨t, p, q⟩ := h
  refine ⟨_, pe_tup p, fun F σ H ds s => ?_⟩
  refine At.bind (t2 := fun (xs : List V) H1 Q => xs.length ≤ sizeLine ∧ ∀ p, H1 p = none → Q (.ref p) (upd H1 p (.tup xs))) mD (q F σ H ds s) (fun d ds1 F1 H1 x st1 rel1 => ?_) fun Q h => h
  unfold lift
  by_cases hl : d.length ≤ sizeLine
  · rw [if_pos hl]
    exact At.tnew st1.st rel1 fun Q h => ⟨by rw [Reps.length rel1]; exact hl, h⟩
  · rw [if_neg hl]; exact At.none_
theorem de_dnew : DE X W (.Dict [] [] pos) (ret (.own (.dct []))) := ⟨_, pe_dnewK, fun F σ H ds s => At.dnew (vs := []) s (by simp [Repk]) fun Q h => h⟩
/-! ### calls of a built-in by one argument that is read on the spot -/
def Call1 (X : Cx) (W : WX) (r : List V → Hp → VK → Prop) (f : D → Option SV) : Prop := ∀ F σ H ds v d s, StR X.K F H σ ds → Hld X.K F H d v → f d = some s → At X.K W (RelS X.K σ) F H σ ds (r [v] H) (some (.ok s, ds))
def Call1V (X : Cx) (W : WX) (r : List V → Hp → VK → Prop) (f : D → Option D) : Prop := ∀ F σ H ds v d s, StR X.K F H σ ds → Hld X.K F H d v → f d = some s → At X.K W (RelD X.K) F H σ ds (r [v] H) (some (.ok s, ds))
section
variable {r : List V → Hp → VK → Prop} {x : Str} {id T : String} {p0 : Pos}
theorem call1_core {α : Type} {f : D → Option α} {ta : TE} {Rel : Hp → Hp → DS → (Addr → Prop) → α → V → Prop} {F H : Hp} {σ : L2.St} {ds : DS}
    (mono : ∀ (F' H' : Hp) (ds' : DS) (P P' : Addr → Prop) (a : α) (b : V), (∀ p, P p → P' p) → Rel F' H' ds' P a b → Rel F' H' ds' P' a b)
    (hf : ∀ F H ds v d s, StR X.K F H σ ds → Hld X.K F H d v → f d = some s → At X.K W Rel F H σ ds (r [v] H) (some (.ok s, ds)))
    (qa : ∀ F σ H ds, StR X.K F H σ ds → At X.K W (RelH X.K) F H σ ds (ta σ H) (ma ds)) (s : StR X.K F H σ ds) : At X.K W Rel F H σ ds (tCB r (tCons ta tNil) σ H) (un f ma ds) := by
  refine At.bind (t2 := fun x H1 Q => r [x] H1 Q) mono (qa F σ H ds s) (fun a ds1 F1 H1 x st1 rel1 => ?_) fun Q h => h
  unfold lift
  cases e : f a with
  | none => exact At.none_
  | some z => exact hf F1 H1 ds1 x a z st1.st rel1 e
theorem de_callB {f : D → Option SV} (hc : CallR X (.builtin id) r) (hf : Call1 X W r f) (hm : X.mg x = none) (hv : bootBuiltins x = some (.builtin id)) (ha : DR X W a ma) (hg : Gl X x := by rfl) (hn : x ≠ "__name__" := by decide) (hd : (x == ("__debug__" : Str)) = false := by decide)
    (he : starEach [a] X.env = (false, eval a X.env) :: starEach [] X.env := by rfl) (hpl : (backTo pos (starEach [] X.env)).any (·.1) = false := by rfl) : DE X W (.Call (.Name x p0) [a] [] pos) (un f ma) := by
  obtain ⟨ta, pa, qa⟩ := ha
  exact ⟨_, pe_callB hc hg hm hv (pa_cons pa pa_nil he) hn hd he hpl, fun F σ H ds s => call1_core mS (fun F H ds v d z s h1 e => hf F σ H ds v d z s h1 e) qa s⟩
theorem dv_callB {f : D → Option D} (hc : CallR X (.builtin id) r) (hf : Call1V X W r f) (hm : X.mg x = none) (hv : bootBuiltins x = some (.builtin id)) (ha : DR X W a ma) (hg : Gl X x := by rfl) (hn : x ≠ "__name__" := by decide) (hd : (x == ("__debug__" : Str)) = false := by decide)
    (he : starEach [a] X.env = (false, eval a X.env) :: starEach [] X.env := by rfl) (hpl : (backTo pos (starEach [] X.env)).any (·.1) = false := by rfl) : DV X W (.Call (.Name x p0) [a] [] pos) (un f ma) := by
  obtain ⟨ta, pa, qa⟩ := ha
  exact ⟨_, pe_callB hc hg hm hv (pa_cons pa pa_nil he) hn hd he hpl, fun F σ H ds s => call1_core mD (fun F H ds v d z s h1 e => hf F σ H ds v d z s h1 e) qa s⟩
theorem de_callTy {f : D → Option SV} (hc : CallR X (.type T) r) (hf : Call1 X W r f) (hm : X.mg x = none) (hv : bootBuiltins x = some (.type T)) (ha : DR X W a ma) (hg : Gl X x := by rfl) (hn : x ≠ "__name__" := by decide) (hd : (x == ("__debug__" : Str)) = false := by decide)
    (he : starEach [a] X.env = (false, eval a X.env) :: starEach [] X.env := by rfl) (hpl : (backTo pos (starEach [] X.env)).any (·.1) = false := by rfl) : DE X W (.Call (.Name x p0) [a] [] pos) (un f ma) := by
  obtain ⟨ta, pa, qa⟩ := ha
  exact ⟨_, pe_callTy hc hg hm hv (pa_cons pa pa_nil he) hn hd he hpl, fun F σ H ds s => call1_core mS (fun F H ds v d z s h1 e => hf F σ H ds v d z s h1 e) qa s⟩
theorem dv_callTy {f : D → Option D} (hc : CallR X (.type T) r) (hf : Call1V X W r f) (hm : X.mg x = none) (hv : bootBuiltins x = some (.type T)) (ha : DR X W a ma) (hg : Gl X x := by rfl) (hn : x ≠ "__name__" := by decide) (hd : (x == ("__debug__" : Str)) = false := by decide)
    (he : starEach [a] X.env = (false, eval a X.env) :: starEach [] X.env := by rfl) (hpl : (backTo pos (starEach [] X.env)).any (·.1) = false := by rfl) : DV X W (.Call (.Name x p0) [a] [] pos) (un f ma) := by
  obtain ⟨ta, pa, qa⟩ := ha
  exact ⟨_, pe_callTy hc hg hm hv (pa_cons pa pa_nil he) hn hd he hpl, fun F σ H ds s => call1_core mD (fun F H ds v d z s h1 e => hf F σ H ds v d z s h1 e) qa s⟩
end
end
end DL
/-! DLd: statements, blocks, while, for. -/
namespace DL
open PySem PySem.Spec PyProof.Rows L2
inductive Out where
  | nx | rt (s : SV) | bk | ct
abbrev MS := M Out
/-- the slots that a body leaves as they are -/
structure Kp (keep : List Bool) (σ σ' : L2.St) : Prop where
  at_ : ∀ i : Nat, keep.getD i false = true → σ'[i]? = σ[i]?
  len : σ'.length = σ.length
theorem Kp.refl {keep : List Bool} {σ : L2.St} : Kp keep σ σ := ⟨fun i h => Eq.refl _, Eq.refl _⟩
theorem Kp.trans {keep : List Bool} {σ σ1 σ2 : L2.St} (a : Kp keep σ σ1) (b : Kp keep σ1 σ2) : Kp keep σ σ2 := ⟨fun i h => (b.at_ i h).trans (a.at_ i h), b.len.trans a.len⟩
def SEnd (K : PySem.W.Frag) (W : WX) (keep : List Bool) (F H : Hp) (σ : L2.St) (ds : DS) (D : Ends) (r : R Out) (ds' : DS) : Prop := match r with
  | .ok .nx => ∀ F' H' σ', Stp K F H σ ds F' H' σ' ds' → Kp keep σ σ' → D.nx σ' H'
  | .ok .bk => ∀ F' H' σ', Stp K F H σ ds F' H' σ' ds' → Kp keep σ σ' → D.bk σ' H'
  | .ok .ct => ∀ F' H' σ', Stp K F H σ ds F' H' σ' ds' → Kp keep σ σ' → D.ct σ' H'
  | .ok (.rt s) => ∀ F' H' σ' v, Stp K F H σ ds F' H' σ' ds' → Kp keep σ σ' → RelS K σ' F' H' ds' (fun p => OA σ ds p ∨ H p = none) s v → D.rt v H'
  | .exc C fs => ∀ F' H' σ' d, Stp K F H σ ds F' H' σ' ds' → Kp keep σ σ' → ExcAt K F' d fs → W (.ref C) d σ' H'
def AtS (K : PySem.W.Frag) (W : WX) (keep : List Bool) (F H : Hp) (σ : L2.St) (ds : DS) (t : Ends → Prop) (m : Option (R Out × DS)) : Prop :=
  ∀ (r : R Out) (ds' : DS) (D : Ends), m = some (r, ds') → SEnd K W keep F H σ ds D r ds' → t D
def DSt (X : Cx) (W : WX) (keep : List Bool) (st : Stmt) (m : MS) : Prop := ∃ t, PS X st t ∧ ∀ F σ H ds, StR X.K F H σ ds → AtS X.K W keep F H σ ds (fun D => t D σ H) (m ds)
def DSs (X : Cx) (W : WX) (keep : List Bool) (st : List Stmt) (m : MS) : Prop := ∃ t, PSs X st t ∧ ∀ F σ H ds, StR X.K F H σ ds → AtS X.K W keep F H σ ds (fun D => t D σ H) (m ds)
def seqM (a b : MS) : MS := fun ds => match a ds with
  | some (.ok .nx, ds') => b ds'
  | r => r
section
variable {K : PySem.W.Frag} {W : WX} {keep : List Bool} {F H F1 H1 : Hp} {σ σ1 : L2.St} {ds ds1 ds' : DS}
/-- an end told from a later state -/
theorem SEnd.up {D D' : Ends} {r : R Out} (a : Stp K F H σ ds F1 H1 σ1 ds1) (k : Kp keep σ σ1) (h : SEnd K W keep F H σ ds D r ds')
    (h1 : D.rt = D'.rt) (h2 : r = .ok .nx → D.nx = D'.nx) (h3 : r = .ok .bk → D.bk = D'.bk) (h4 : r = .ok .ct → D.ct = D'.ct) : SEnd K W keep F1 H1 σ1 ds1 D' r ds' := by
  have kk : ∀ σ', Kp keep σ1 σ' → Kp keep σ σ' := fun σ' q => k.trans q
  cases r with
  | exc C fs => exact fun F' H' σ' d st q x => h F' H' σ' d (a.trans st) (kk _ q) x
  | ok o =>
    cases o with
    | nx => exact fun F' H' σ' st q => by have z := h F' H' σ' (a.trans st) (kk _ q); rw [h2 rfl] at z; exact z
    | bk => exact fun F' H' σ' st q => by have z := h F' H' σ' (a.trans st) (kk _ q); rw [h3 rfl] at z; exact z
    | ct => exact fun F' H' σ' st q => by have z := h F' H' σ' (a.trans st) (kk _ q); rw [h4 rfl] at z; exact z
    | rt s => exact fun F' H' σ' v st q x => by have z := h F' H' σ' v (a.trans st) (kk _ q) (RelS.mono (fun p w => a.new w) x); rw [h1] at z; exact z
/-- an expression ahead of a statement's end -/
theorem AtS.bind {α β : Type} {Rel : Hp → Hp → DS → (Addr → Prop) → α → β → Prop} {t1 : (β → Hp → Prop) → Prop} {m : M α} {f : α → MS} {t2 : β → Hp → Ends → Prop} {t : Ends → Prop}
    (h1 : At K W Rel F H σ ds t1 (m ds)) (h2 : ∀ a ds1 F1 H1 b, Stp K F H σ ds F1 H1 σ ds1 → Rel F1 H1 ds1 (fun p => OA σ ds p ∨ H p = none) a b → ∀ (r : R Out) (ds' : DS) (D : Ends), f a ds1 = some (r, ds') → SEnd K W keep F H σ ds D r ds' → t2 b H1 D)
    (ht : ∀ D, t1 (fun b H1 => t2 b H1 D) → t D) : AtS K W keep F H σ ds t (bnd m f ds) := by
  intro r ds' D e q
  refine ht D ?_
  unfold bnd at e
  cases em : m ds with
  | none => rw [em] at e; cases e
  | some p =>
    obtain ⟨r1, ds1⟩ := p
    rw [em] at e
    refine h1 r1 ds1 _ em ?_
    cases r1 with
    | exc C fs => cases e; exact fun F' H' d st x => q F' H' σ d st Kp.refl x
    | ok a => exact fun F1 H1 b s1 rel => h2 a ds1 F1 H1 b s1 rel r ds' D e q
end
section
variable {X : Cx} {W : WX} {keep : List Bool} {st : Stmt} {rest : List Stmt} {m m' : MS} {e c : Expr} {pos pos' : Pos} {x : Str}
theorem dss_nil : DSs X W keep [] (ret .nx) := ⟨_, pss_nil, fun F σ H ds s r ds' D e q => by cases e; exact q F H σ (Stp.refl s) Kp.refl⟩
theorem dss_one (h : DSt X W keep st m) : DSs X W keep [st] m := by
  obtain ⟨t, p, q⟩ := h
  exact ⟨t, pss_one p, q⟩
theorem dss_cons (h : DSt X W keep st m) (h' : DSs X W keep rest m') : DSs X W keep (st :: rest) (seqM m m') := by
  obtain ⟨t, p, q⟩ := h
  obtain ⟨u, p', q'⟩ := h'
  refine ⟨_, pss_cons p p', fun F σ H ds s r ds' D e hq => ?_⟩
  unfold seqM at e
  cases em : m ds with
  | none => rw [em] at e; cases e
  | some z =>
    obtain ⟨r1, ds1⟩ := z
    rw [em] at e
    refine q F σ H ds s r1 ds1 _ em ?_
    cases r1 with
    | exc C fs => cases e; exact hq
    | ok o =>
      cases o with
      | nx => exact fun F1 H1 σ1 st1 k1 => q' F1 σ1 H1 ds1 st1.st r ds' D e (hq.up st1 k1 rfl (fun _ => rfl) (fun _ => rfl) (fun _ => rfl))
      | _ => cases e; exact hq
def dropM {α : Type} (m : M α) : MS := bnd m fun _ => ret .nx
def retM (m : M SV) : MS := bnd m fun s => ret (.rt s)
def setM (i : Nat) (m : M SV) : MS := bnd m fun s ds => some (.ok .nx, ds.set i (some s))
theorem dst_pass : DSt X W keep (.Pass pos) (ret .nx) := ⟨_, ps_pass, fun F σ H ds s r ds' D e q => by cases e; exact q F H σ (Stp.refl s) Kp.refl⟩
theorem dst_break : DSt X W keep (.Break pos) (ret .bk) := ⟨_, ps_break, fun F σ H ds s r ds' D e q => by cases e; exact q F H σ (Stp.refl s) Kp.refl⟩
theorem dst_continue : DSt X W keep (.Continue pos) (ret .ct) := ⟨_, ps_continue, fun F σ H ds s r ds' D e q => by cases e; exact q F H σ (Stp.refl s) Kp.refl⟩
theorem dst_doc {z : Str} {j : Nat} : DSt X W keep (.Expr (.Constant (.str z) j pos) pos') (ret .nx) := ⟨_, ps_doc, fun F σ H ds s r ds' D e q => by cases e; exact q F H σ (Stp.refl s) Kp.refl⟩
theorem dst_expr {ma : M SV} (h : DE X W e ma) (hs : swapsWith e none pos.line X.env = pure false := by rfl) : DSt X W keep (.Expr e pos) (dropM ma) := by
  obtain ⟨t, p, q⟩ := h
  refine ⟨_, ps_expr p hs, fun F σ H ds s => ?_⟩
  exact AtS.bind (t2 := fun _ H1 D => D.nx σ H1) (q F σ H ds s) (fun a ds1 F1 H1 b s1 rel r ds' D e hq => by cases e; exact hq F1 H1 σ s1 Kp.refl) fun D h => h
theorem dst_ret {ma : M SV} (h : DE X W e ma) : DSt X W keep (.Return (some e) pos) (retM ma) := by
  obtain ⟨t, p, q⟩ := h
  refine ⟨_, ps_ret p, fun F σ H ds s => ?_⟩
  exact AtS.bind (t2 := fun v H1 D => D.rt v H1) (q F σ H ds s) (fun a ds1 F1 H1 b s1 rel r ds' D e hq => by cases e; exact hq F1 H1 σ b s1 Kp.refl rel) fun D h => h
theorem dst_retN : DSt X W keep (.Return none pos) (ret (.rt (.val .non))) := ⟨_, ps_retN, fun F σ H ds s r ds' D e q => by
  cases e
  exact q F H σ .non (Stp.refl s) Kp.refl (RelS.val (by simp [Rep]))⟩
theorem dst_if {a b : List Stmt} {mc : M Bool} (hc : DT X W c mc) (ha : DSs X W keep a m) (hb : DSs X W keep b m') : DSt X W keep (.If c a b pos) (ifM mc m m') := by
  obtain ⟨t, p, q⟩ := hc
  obtain ⟨u, p1, q1⟩ := ha
  obtain ⟨v, p2, q2⟩ := hb
  refine ⟨_, ps_if p p1 p2, fun F σ H ds s => ?_⟩
  refine AtS.bind (t2 := fun k H1 D => if k = true then u D σ H1 else v D σ H1) (q F σ H ds s) (fun k ds1 F1 H1 k' s1 rel r ds' D e hq => ?_) fun D h => h
  cases rel
  have up := hq.up (D' := D) s1 Kp.refl rfl (fun _ => rfl) (fun _ => rfl) (fun _ => rfl)
  cases k with
  | true => simp only [if_true] at e ⊢; exact q1 F1 σ H1 ds1 s1.st r ds' D e up
  | false => simp only [Bool.false_eq_true, if_false] at e ⊢; exact q2 F1 σ H1 ds1 s1.st r ds' D e up
/-- a slot is given a value -/
theorem Stp.seti {K : PySem.W.Frag} {F H F' H' : Hp} {σ σ0 : L2.St} {ds ds1 : DS} {i : Nat} {s : SV} {v : V} (a : Stp K F H σ0 ds F' H' σ ds1) (hi : i < σ.length) (r : RelS K σ F' H' ds1 (fun p => OA σ0 ds p ∨ H p = none) s v) :
    Stp K F H σ0 ds F' H' (σ.set i (some v)) (ds1.set i (some s)) := by
  have l1 : i < ds1.length := by rw [a.st.len]; exact hi
  have g : ∀ (j : Nat) (x : SV), (ds1.set i (some s))[j]? = some (some x) → (j = i ∧ x = s) ∨ (j ≠ i ∧ ds1[j]? = some (some x)) := fun j x e => by
    by_cases h : i = j
    · subst h; rw [List.getElem?_set_self l1] at e; cases e; exact .inl ⟨rfl, rfl⟩
    · rw [List.getElem?_set_ne h] at e; exact .inr ⟨fun z => h z.symm, e⟩
  have gs : ∀ j, j ≠ i → (σ.set i (some v))[j]? = σ[j]? := fun j h => List.getElem?_set_ne fun z => h z.symm
  have gi : (σ.set i (some v))[i]? = some (some v) := List.getElem?_set_self hi
  refine ⟨⟨a.st.sub, by rw [List.length_set, List.length_set]; exact a.st.len, fun j x e => ?_, fun j k o o' p h1 h2 h3 h4 => ?_⟩, a.ext, fun p h => ?_⟩
  · rcases g j x e with ⟨rfl, rfl⟩ | ⟨h, e⟩
    · exact ⟨v, gi, r.1⟩
    · rw [gs j h]; exact a.st.slot j x e
  · rcases g j _ h1 with ⟨rfl, e1⟩ | ⟨n1, e1⟩ <;> rcases g k _ h2 with ⟨e3, e2⟩ | ⟨n2, e2⟩
    · exact e3.symm
    · rw [gi] at h3
      rw [gs k n2] at h4
      exact absurd ⟨k, o', e2, h4⟩ (r.2 o p e1.symm (Option.some.inj (Option.some.inj h3))).1
    · subst e3
      rw [gi] at h4
      rw [gs j n1] at h3
      exact absurd ⟨j, o, e1, h3⟩ (r.2 o' p e2.symm (Option.some.inj (Option.some.inj h4))).1
    · rw [gs j n1] at h3; rw [gs k n2] at h4
      exact a.st.apart j k o o' p e1 e2 h3 h4
  · obtain ⟨j, o, h1, h2⟩ := h
    rcases g j _ h1 with ⟨rfl, e1⟩ | ⟨n1, e1⟩
    · rw [gi] at h2
      exact (r.2 o p e1.symm (Option.some.inj (Option.some.inj h2))).2
    · rw [gs j n1] at h2
      exact a.oa p ⟨j, o, e1, h2⟩
theorem Kp.set {keep : List Bool} {σ : L2.St} {i : Nat} {v : Option V} (h : keep.getD i false = false) : Kp keep σ (σ.set i v) := ⟨fun j hj => by
  have n : i ≠ j := fun z => by subst z; rw [h] at hj; cases hj
  exact List.getElem?_set_ne n, List.length_set ..⟩
theorem dst_set (i : Nat) {ma : M SV} (hN : X.N.Nodup) (he : DE X W e ma) (hi : X.N[i]? = some x := by rfl) (hx : Loc X.env.scope x := by first | exact Or.inl rfl | exact Or.inr rfl) (hk : keep.getD i false = false := by rfl)
    (hs : swapsWith e (some (.Name x pos')) pos.line X.env = pure false := by rfl) (hf : X.fn x = true ∨ X.env.scope.names.lookup x = some .local := by first | exact .inl rfl | exact .inr rfl) (hlen : ∀ {σ : L2.St} {H : Hp} {F : Hp} {ds : DS}, StR X.K F H σ ds → True := fun _ => trivial) :
    DSt X W keep (.Assign [.Name x pos'] e pos) (setM i ma) := by
  obtain ⟨t, p, q⟩ := he
  refine ⟨_, ps_set hN hi hx p hs hf, fun F σ H ds s => ?_⟩
  refine AtS.bind (t2 := fun v H1 D => D.nx (σ.set i (some v)) H1) (q F σ H ds s) (fun a ds1 F1 H1 b s1 rel r ds' D e hq => ?_) fun D h => h
  cases e
  by_cases hl : i < σ.length
  · exact hq F1 H1 _ (s1.seti hl rel) (Kp.set hk)
  · have e1 : σ.set i (some b) = σ := List.set_eq_of_length_le (by omega)
    have e2 : ds1.set i (some a) = ds1 := List.set_eq_of_length_le (by rw [s1.st.len]; omega)
    rw [e1]
    rw [e2] at hq
    exact hq F1 H1 σ s1 Kp.refl
/-! ### while -/
def whileN : Nat → M Bool → MS → MS
  | 0, _, _ => stuck
  | n + 1, c, b => bnd c fun k => if k = true then (fun ds => match b ds with
      | some (.ok .nx, ds') => whileN n c b ds'
      | some (.ok .ct, ds') => whileN n c b ds'
      | some (.ok .bk, ds') => some (.ok .nx, ds')
      | r => r) else ret .nx
open Classical in
noncomputable def whileM (c : M Bool) (b : MS) : MS := fun ds => if h : ∃ n, (whileN n c b ds).isSome = true then whileN (Classical.choose h) c b ds else none
theorem whileN_mono {c : M Bool} {b : MS} : ∀ {n : Nat} {k : Nat} {ds : DS} {r : R Out × DS}, whileN n c b ds = some r → whileN (n + k) c b ds = some r
  | 0, _, _, _, h => by cases h
  | n + 1, k, ds, r, h => by
    have e : n + 1 + k = (n + k) + 1 := by omega
    rw [e]
    unfold whileN at h ⊢
    unfold bnd at h ⊢
    cases hc : c ds with
    | none => rw [hc] at h; cases h
    | some z =>
      obtain ⟨r1, ds1⟩ := z
      rw [hc] at h
      cases r1 with
      | exc C fs => exact h
      | ok kk =>
        cases kk with
        | false => simpa using h
        | true =>
          simp only [if_true] at h ⊢
          cases hb : b ds1 with
          | none => rw [hb] at h; cases h
          | some z2 =>
            obtain ⟨r2, ds2⟩ := z2
            rw [hb] at h
            cases r2 with
            | exc C fs => exact h
            | ok o =>
              cases o with
              | nx => exact whileN_mono (n := n) h
              | ct => exact whileN_mono (n := n) h
              | bk => exact h
              | rt s => exact h
theorem whileM_eq {c : M Bool} {b : MS} {n : Nat} {ds : DS} {r : R Out × DS} (h : whileN n c b ds = some r) : whileM c b ds = some r := by
  unfold whileM
  have hx : ∃ n, (whileN n c b ds).isSome = true := ⟨n, by rw [h]; rfl⟩
  rw [dif_pos hx]
  have hs := Classical.choose_spec hx
  generalize Classical.choose hx = n2 at hs
  cases e : whileN n2 c b ds with
  | none => rw [e] at hs; cases hs
  | some r2 =>
    have a1 := whileN_mono (k := n2) h
    have a2 := whileN_mono (k := n) e
    rw [Nat.add_comm] at a2
    rw [a1] at a2
    cases a2; rfl
theorem whileM_some {c : M Bool} {b : MS} {ds : DS} {r : R Out × DS} (h : whileM c b ds = some r) : ∃ n, whileN n c b ds = some r := by
  unfold whileM at h
  split at h
  · rename_i hx
    exact ⟨_, h⟩
  · cases h
theorem dst_while {body : List Stmt} {mc : M Bool} (hp : PassesOwn (model X.prog X.w) X.A X.env X.xe) (hc : DT X W c mc) (hb : DSs X W keep body m) : DSt X W keep (.While c body [] pos) (whileM mc m) := by
  obtain ⟨t, p, q⟩ := hc
  obtain ⟨u, p1, q1⟩ := hb
  refine ⟨_, ps_while hp p p1, fun F σ H ds s r ds' D e hq => ?_⟩
  obtain ⟨n0, e0⟩ := whileM_some e
  refine ⟨fun n σ1 H1 => ∃ F1 ds1, Stp X.K F H σ ds F1 H1 σ1 ds1 ∧ Kp keep σ σ1 ∧ whileN n mc m ds1 = some (r, ds'), ⟨n0, F, ds, Stp.refl s, Kp.refl, e0⟩, ?_⟩
  rintro n σ1 H1 ⟨F1, ds1, st1, k1, e1⟩
  cases n with
  | zero => cases e1
  | succ n =>
    unfold whileN bnd at e1
    cases hcd : mc ds1 with
    | none => rw [hcd] at e1; cases e1
    | some z =>
      obtain ⟨r1, ds2⟩ := z
      rw [hcd] at e1
      refine q F1 σ1 H1 ds1 st1.st r1 ds2 _ hcd ?_
      cases r1 with
      | exc C fs =>
        cases e1
        exact fun F2 H2 d st2 x => hq F2 H2 σ1 d (st1.trans st2) k1 x
      | ok kk =>
        intro F2 H2 b st2 rel
        cases rel
        cases kk with
        | false =>
          simp only [Bool.false_eq_true, if_false] at e1 ⊢
          cases e1
          exact hq F2 H2 σ1 (st1.trans st2) k1
        | true =>
          simp only [if_true] at e1 ⊢
          refine ⟨fun σ3 H3 => ∃ F3 ds3, Stp X.K F H σ ds F3 H3 σ3 ds3 ∧ Kp keep σ σ3 ∧ whileN n mc m ds3 = some (r, ds'), fun σ3 H3 z => ⟨n, Nat.lt_succ_self _, z⟩, ?_⟩
          have st12 := st1.trans st2
          cases hbd : m ds2 with
          | none => rw [hbd] at e1; cases e1
          | some z2 =>
            obtain ⟨r2, ds3⟩ := z2
            rw [hbd] at e1
            refine q1 F2 σ1 H2 ds2 st2.st r2 ds3 _ hbd ?_
            have kk : ∀ σ', Kp keep σ1 σ' → Kp keep σ σ' := fun σ' q => k1.trans q
            cases r2 with
            | exc C fs => cases e1; exact fun F' H' σ' d st' k' x => hq F' H' σ' d (st12.trans st') (kk _ k') x
            | ok o =>
              cases o with
              | nx => exact fun F' H' σ' st' k' => ⟨F', ds3, st12.trans st', kk _ k', e1⟩
              | ct => exact fun F' H' σ' st' k' => ⟨F', ds3, st12.trans st', kk _ k', e1⟩
              | bk => cases e1; exact fun F' H' σ' st' k' => hq F' H' σ' (st12.trans st') (kk _ k')
              | rt s => cases e1; exact fun F' H' σ' v st' k' x => hq F' H' σ' v (st12.trans st') (kk _ k') (RelS.mono (fun p w => st12.new w) x)
end
end DL
/-! DLe: targets, what is walked, for. -/
namespace DL
open PySem PySem.Spec PyProof.Rows L2
/-! ### targets -/
abbrev TgF := D → DS → Option DS
abbrev TgsF := List D → DS → Option DS
def DG (X : Cx) (keep : List Bool) (tg : Expr) (f : TgF) : Prop := ∃ g, PG X tg g ∧ ∀ F σ H ds d x ds1, StR X.K F H σ ds → Rep X.K F d x → f d ds = some ds1 → ∀ Q : L2.St → Hp → Prop, (∀ F' H' σ', Stp X.K F H σ ds F' H' σ' ds1 → Kp keep σ σ' → Q σ' H') → g x σ H Q
def DGs (X : Cx) (keep : List Bool) (tgs : List Expr) (f : TgsF) : Prop := ∃ g, PGs X tgs g ∧ ∀ F σ H ds d x ds1, StR X.K F H σ ds → Reps X.K F d x → f d ds = some ds1 → ∀ Q : L2.St → Hp → Prop, (∀ F' H' σ', Stp X.K F H σ ds F' H' σ' ds1 → Kp keep σ σ' → Q σ' H') → g x σ H Q
def tgN (i : Nat) : TgF := fun d ds => some (ds.set i (some (.val d)))
def tgNil : TgsF := fun l ds => match l with
  | [] => some ds
  | _ => none
def tgCons (f : TgF) (g : TgsF) : TgsF := fun l ds => match l with
  | d :: r => match f d ds with
    | some ds1 => g r ds1
    | none => none
  | [] => none
def tgT (n : Nat) (f : TgsF) : TgF := fun d ds => match d with
  | .tup xs => if xs.length = n then f xs ds else none
  | _ => none
section
variable {X : Cx} {W : WX} {keep : List Bool} {pos : Pos} {x : Str} {e : Expr} {es : List Expr}
theorem dg_name (i : Nat) (hN : X.N.Nodup) (hi : X.N[i]? = some x := by rfl) (hx : Loc X.env.scope x := by first | exact Or.inl rfl | exact Or.inr rfl) (hk : keep.getD i false = false := by rfl) (hf : X.fn x = true ∨ X.env.scope.names.lookup x = some .local := by first | exact .inl rfl | exact .inr rfl) :
    DG X keep (.Name x pos) (tgN i) := by
  refine ⟨_, pg_name hN hi hx hf, fun F σ H ds d v ds1 s r e Q hq => ?_⟩
  cases e
  by_cases hl : i < σ.length
  · exact hq _ _ _ ((Stp.refl s).seti hl (RelS.val r)) (Kp.set hk)
  · have e1 : σ.set i (some v) = σ := List.set_eq_of_length_le (by omega)
    have e2 : ds.set i (some (.val d)) = ds := List.set_eq_of_length_le (by rw [s.len]; omega)
    show Q (σ.set i (some v)) H
    rw [e1]
    rw [e2] at hq
    exact hq _ _ σ (Stp.refl s) Kp.refl
theorem dgs_nil : DGs X keep [] tgNil := ⟨_, pgs_nil, fun F σ H ds d v ds1 s r e Q hq => by
  cases d with
  | nil =>
    unfold Reps at r
    subst r
    cases e
    exact ⟨rfl, hq _ _ σ (Stp.refl s) Kp.refl⟩
  | cons => cases e⟩
theorem dgs_cons {f : TgF} {g : TgsF} (h : DG X keep e f) (h' : DGs X keep es g) (hs : (assignEach (e :: es) X.env).map (·.2) = assign e X.env :: (assignEach es X.env).map (·.2) := by rfl) : DGs X keep (e :: es) (tgCons f g) := by
  obtain ⟨t, p, q⟩ := h
  obtain ⟨u, p', q'⟩ := h'
  refine ⟨_, pgs_cons p p' hs, fun F σ H ds d v ds1 s r e Q hq => ?_⟩
  cases d with
  | nil => cases e
  | cons d0 dr =>
    unfold Reps at r
    obtain ⟨v0, vr, rfl, r1, r2⟩ := r
    simp only [tgCons] at e
    cases e1 : f d0 ds with
    | none => rw [e1] at e; cases e
    | some ds2 =>
      rw [e1] at e
      refine ⟨v0, vr, rfl, q F σ H ds d0 v0 ds2 s r1 e1 _ fun F1 H1 σ1 st1 k1 => ?_⟩
      exact q' F1 σ1 H1 ds2 dr vr ds1 st1.st (r2.mono st1.ext.ff) e Q fun F2 H2 σ2 st2 k2 => hq F2 H2 σ2 (st1.trans st2) (k1.trans k2)
theorem dg_tup {n0 : Nat} {f : TgsF} {n : Nat} (hc : X.calm = true) (h : DGs X keep es f) (hn : (assignEach es X.env).length = n := by rfl) (hst : (assignEach es X.env).findIdx? (·.1) = none := by rfl) : DG X keep (.Tuple es n0 pos) (tgT n f) := by
  obtain ⟨t, p, q⟩ := h
  refine ⟨_, pg_tup hc p hn hst, fun F σ H ds d v ds1 s r e Q hq => ?_⟩
  cases d with
  | tup xs =>
    unfold Rep at r
    obtain ⟨a, vs, rfl, h1, h2⟩ := r
    simp only [tgT] at e
    by_cases hl : xs.length = n
    · rw [if_pos hl] at e
      exact ⟨a, vs, rfl, s.sub.tup h1, by rw [h2.length, hl], q F σ H ds xs vs ds1 s h2 e Q hq⟩
    · rw [if_neg hl] at e; cases e
  | _ => cases e
/-! ### what is walked -/
def Wlk (K : PySem.W.Frag) (F H : Hp) (σ : L2.St) (ds : DS) (J : It) (xs : List D) : Prop := ∃ n G Y, Walk J n G Y ∧ n = xs.length ∧ (∀ F2 H2 σ2 ds2, Stp K F H σ ds F2 H2 σ2 ds2 → G H2) ∧
  (∀ (i : Nat) F2 H2 σ2 ds2 x H3 d, Stp K F H σ ds F2 H2 σ2 ds2 → xs[i]? = some d → Y i H2 x H3 → ∃ F3, Stp K F2 H2 σ2 ds2 F3 H3 σ2 ds2 ∧ Rep K F3 d x)
abbrev RelI (K : PySem.W.Frag) (σ : L2.St) : Hp → Hp → DS → (Addr → Prop) → List D → It → Prop := fun F H ds _ xs J => Wlk K F H σ ds J xs
def DI (X : Cx) (W : WX) (tg iter : Expr) (m : M (List D)) : Prop := ∃ w, PI X tg iter w ∧ ∀ F σ H ds, StR X.K F H σ ds → At X.K W (RelI X.K σ) F H σ ds (w σ H) (m ds)
abbrev mI {K : PySem.W.Frag} {σ : L2.St} : ∀ (F' H' : Hp) (ds' : DS) (P P' : Addr → Prop) (a : List D) (b : It), (∀ p, P p → P' p) → RelI K σ F' H' ds' P a b → RelI K σ F' H' ds' P' a b := fun _ _ _ _ _ _ _ _ r => r
theorem pi_or {tg iter : Expr} {w w' : TI} (h : PI X tg iter w) (h' : PI X tg iter w') : PI X tg iter (fun σ H R => w σ H R ∨ w' σ H R) :=
  ⟨fun pins s σ H R I q => q.elim (h.run pins s σ H R I) (h'.run pins s σ H R I)⟩
/-- a list, a tuple, a text -/
def seqOf (d : D) : Option (List D) := match d with
  | .lst xs => some xs
  | .tup xs => some xs
  | .str z => some (z.cps.toList.map fun c => .str ⟨#[c]⟩)
  | _ => none
def itM (m : M D) : M (List D) := un seqOf m
theorem di_seq {tg : Expr} {m : M D} (h : DV X W e m) : DI X W tg e (itM m) := by
  obtain ⟨t, p, q⟩ := h
  refine ⟨_, pi_or (pi_list p) (pi_or (pi_tup p) (pi_str p)), fun F σ H ds s r ds' R er hr => ?_⟩
  unfold itM un bnd at er
  cases em : m ds with
  | none => rw [em] at er; cases er
  | some z =>
    obtain ⟨r1, ds1⟩ := z
    rw [em] at er
    cases r1 with
    | exc C fs =>
      cases er
      exact .inl (q F σ H ds s _ _ _ em hr)
    | ok d =>
      unfold lift at er
      simp only at er
      cases d with
      | lst xs =>
        cases er
        refine .inl (q F σ H ds s _ _ _ em fun F1 H1 b st rel => ?_)
        have rel' := rel
        unfold RelD Rep at rel'
        obtain ⟨a, vs, rfl, h1, h2⟩ := rel'
        refine ⟨a, rfl, ⟨vs, st.st.sub.lst h1⟩, hr F1 H1 _ st ⟨_, _, _, walk_list (K := X.K) (a := a) (xs := vs), h2.length, fun F2 H2 σ2 ds2 st2 => st2.st.sub.lst (st2.ext.ff.lst h1), fun i F2 H2 σ2 ds2 x H3 d st2 ex y => ?_⟩⟩
        obtain ⟨rfl, y2⟩ := y
        obtain ⟨v, e1, r1⟩ := h2.get ex
        rw [y2] at e1; cases e1
        exact ⟨F2, Stp.refl st2.st, r1.mono st2.ext.ff⟩
      | tup xs =>
        cases er
        refine .inr (.inl (q F σ H ds s _ _ _ em fun F1 H1 b st rel => ?_))
        have rel' := rel
        unfold RelD Rep at rel'
        obtain ⟨a, vs, rfl, h1, h2⟩ := rel'
        refine ⟨a, rfl, ⟨vs, st.st.sub.tup h1⟩, hr F1 H1 _ st ⟨_, _, _, walk_tup (K := X.K) (a := a) (xs := vs), h2.length, fun F2 H2 σ2 ds2 st2 => st2.st.sub.tup (st2.ext.ff.tup h1), fun i F2 H2 σ2 ds2 x H3 d st2 ex y => ?_⟩⟩
        obtain ⟨rfl, y2⟩ := y
        obtain ⟨v, e1, r1⟩ := h2.get ex
        rw [y2] at e1; cases e1
        exact ⟨F2, Stp.refl st2.st, r1.mono st2.ext.ff⟩
      | str z =>
        cases er
        refine .inr (.inr (q F σ H ds s _ _ _ em fun F1 H1 b st rel => ?_))
        have rel' : b = .str z := rel
        subst rel'
        refine ⟨z, rfl, hr F1 H1 _ st ⟨_, _, _, walk_str (z := z), by simp, fun _ _ _ _ _ => trivial, fun i F2 H2 σ2 ds2 x H3 d st2 ex y => ?_⟩⟩
        obtain ⟨rfl, c, hc, rfl⟩ := y
        refine ⟨F2, Stp.refl st2.st, ?_⟩
        rw [List.getElem?_map] at ex
        have hc' : z.cps.toList[i]? = some c := by rw [Array.getElem?_toList]; exact hc
        rw [hc'] at ex
        cases ex
        simp [Rep]
      | _ => cases er
theorem Reps.one {K : PySem.W.Frag} {F : Hp} {d : D} {vs : List V} (h : Reps K F [d] vs) : ∃ v, vs = [v] ∧ Rep K F d v := by
  unfold Reps at h
  obtain ⟨v, ws, rfl, r1, r2⟩ := h
  have r2' : ws = [] := r2
  subst r2'
  exact ⟨v, rfl, r1⟩
theorem Reps.two {K : PySem.W.Frag} {F : Hp} {d d2 : D} {vs : List V} (h : Reps K F [d, d2] vs) : ∃ v w, vs = [v, w] ∧ Rep K F d v ∧ Rep K F d2 w := by
  unfold Reps at h
  obtain ⟨v, ws, rfl, r1, r2⟩ := h
  obtain ⟨w, rfl, r3⟩ := Reps.one r2
  exact ⟨v, w, rfl, r1, r3⟩
/-- range(n), range(a, b) -/
def rng1 (d : List D) : Option (List D) := match d with
  | [.int j] => if -(2 ^ 62) ≤ j ∧ j < 2 ^ 62 then some ((List.range j.toNat).map fun i => .int (i : Nat)) else none
  | _ => none
def rng2 (d : List D) : Option (List D) := match d with
  | [.int i, .int j] => if -(2 ^ 62) ≤ i ∧ i < 2 ^ 62 ∧ -(2 ^ 62) ≤ j ∧ j < 2 ^ 62 then some ((List.range (j - i).toNat).map fun k => .int (i + (k : Nat))) else none
  | _ => none
def apM {α β : Type} (f : α → Option β) (m : M α) : M β := bnd m fun ds => lift (f ds)
theorem wlk_range {K : PySem.W.Frag} {F H : Hp} {σ : L2.St} {ds : DS} {lo : Int} {n : Nat} : Wlk K F H σ ds (Itr lo n) ((List.range n).map fun k => .int (lo + (k : Nat))) :=
  ⟨_, _, _, walk_range, by simp, fun _ _ _ _ _ => trivial, fun i F2 H2 σ2 ds2 x H3 d st2 ex y => by
    obtain ⟨rfl, rfl⟩ := y
    refine ⟨F2, Stp.refl st2.st, ?_⟩
    rw [List.getElem?_map] at ex
    cases h : (List.range n)[i]? with
    | none => rw [h] at ex; cases ex
    | some k =>
      rw [h] at ex
      have hk : k = i := by
        have := List.getElem?_eq_some_iff.mp h
        obtain ⟨h1, h2⟩ := this
        simpa using h2.symm
      subst hk
      cases ex
      simp [Rep]⟩
theorem di_range1 {tg a : Expr} {m : M (List D)} {p0 : Pos} (h : DA X W [a] m) (hm : X.mg "range" = none) (hg : Gl X "range" := by rfl) (hs : starEach [a] X.env = [(false, eval a X.env)] := by rfl) : DI X W tg (.Call (.Name "range" p0) [a] [] pos) (apM rng1 m) := by
  obtain ⟨t, p, q⟩ := h
  refine ⟨_, pi_range1 hg hm p hs, fun F σ H ds s => ?_⟩
  refine At.bind (t2 := fun vs H1 R => ∃ j : Int, vs = [V.int j] ∧ -(2 ^ 62) ≤ j ∧ j < 2 ^ 62 ∧ R (Itr 0 j.toNat) H1) mI (q F σ H ds s) (fun l ds1 F1 H1 x st1 rel1 => ?_) fun Q h => h
  unfold lift rng1
  split
  · rename_i o e1
    split at e1
    · rename_i j
      obtain ⟨v, rfl, r1⟩ := Reps.one rel1
      have r1' : v = .int j := r1
      subst r1'
      by_cases hb : -(2 ^ 62) ≤ j ∧ j < 2 ^ 62
      · rw [if_pos hb] at e1
        have z := wlk_range (K := X.K) (F := F1) (H := H1) (σ := σ) (ds := ds1) (lo := 0) (n := j.toNat)
        simp only [Int.zero_add] at z
        cases e1
        exact At.ret (Rel := RelI X.K σ) st1.st z fun R h => ⟨j, rfl, hb.1, hb.2, h⟩
      · rw [if_neg hb] at e1; cases e1
    · cases e1
  · exact At.none_
theorem di_range2 {tg a b : Expr} {m : M (List D)} {p0 : Pos} (h : DA X W [a, b] m) (hm : X.mg "range" = none) (hg : Gl X "range" := by rfl) (hs : starEach [a, b] X.env = [(false, eval a X.env), (false, eval b X.env)] := by rfl) (hs2 : starEach [b] X.env = [(false, eval b X.env)] := by rfl) :
    DI X W tg (.Call (.Name "range" p0) [a, b] [] pos) (apM rng2 m) := by
  obtain ⟨t, p, q⟩ := h
  refine ⟨_, pi_range2 hg hm p hs hs2, fun F σ H ds s => ?_⟩
  refine At.bind (t2 := fun vs H1 R => ∃ i j : Int, vs = [V.int i, V.int j] ∧ (-(2 ^ 62) ≤ i ∧ i < 2 ^ 62 ∧ -(2 ^ 62) ≤ j ∧ j < 2 ^ 62) ∧ R (Itr i (j - i).toNat) H1) mI (q F σ H ds s) (fun l ds1 F1 H1 x st1 rel1 => ?_) fun Q h => h
  unfold lift rng2
  split
  · rename_i o e1
    split at e1
    · rename_i i j
      obtain ⟨v, w, rfl, r1, r2⟩ := Reps.two rel1
      have r1' : v = .int i := r1
      have r2' : w = .int j := r2
      subst r1'; subst r2'
      by_cases hb : -(2 ^ 62) ≤ i ∧ i < 2 ^ 62 ∧ -(2 ^ 62) ≤ j ∧ j < 2 ^ 62
      · rw [if_pos hb] at e1
        cases e1
        exact At.ret (Rel := RelI X.K σ) st1.st wlk_range fun R h => ⟨i, j, rfl, hb, h⟩
      · rw [if_neg hb] at e1; cases e1
    · cases e1
  · exact At.none_
/-- new pairs of what two walks tell -/
theorem wlk_pair {K : PySem.W.Frag} {F H : Hp} {σ : L2.St} {ds : DS} {J : It} {n : Nat} {G : Hp → Prop} {f g : Nat → Option V} {xs ys : List D} (w : Walk J n G (YPair f g)) (hn : n = min xs.length ys.length)
    (hG : ∀ F2 H2 σ2 ds2, Stp K F H σ ds F2 H2 σ2 ds2 → G H2) (hf : ∀ (i : Nat) x v F2, Le F F2 → xs[i]? = some x → f i = some v → Rep K F2 x v) (hg : ∀ (i : Nat) x v F2, Le F F2 → ys[i]? = some x → g i = some v → Rep K F2 x v) :
    Wlk K F H σ ds J ((xs.zip ys).map fun p => .tup [p.1, p.2]) := by
  refine ⟨n, G, _, w, by simp [hn, List.length_zip], hG, fun i F2 H2 σ2 ds2 x H3 d st2 ex y => ?_⟩
  obtain ⟨T, a, b, rfl, hT, rfl, ha, hb⟩ := y
  rw [List.getElem?_map] at ex
  cases hz : (xs.zip ys)[i]? with
  | none => rw [hz] at ex; cases ex
  | some p =>
    rw [hz] at ex
    cases ex
    obtain ⟨z1, z2⟩ := List.getElem?_zip_eq_some.mp hz
    refine ⟨_, st2.st.froz hT, ?_⟩
    have h0 := st2.st.sub.none_ hT
    show Rep K _ (.tup _) _
    unfold Rep
    exact ⟨T, _, rfl, .inl upd_same, Reps.cons ((hf i _ _ F2 st2.ext.ff z1 ha).mono (Le.upd h0)) (Reps.cons ((hg i _ _ F2 st2.ext.ff z2 hb).mono (Le.upd h0)) Reps.nil)⟩
def enumD (d : List D) : Option (List D) := match d with
  | [.lst xs] => some (((List.range xs.length).map fun i => D.int (i : Nat)).zip xs |>.map fun p => .tup [p.1, p.2])
  | _ => none
theorem di_enum {a : Expr} {elts : List Expr} {kk : Nat} {tpos : Pos} {m : M (List D)} {p0 : Pos} (h : DA X W [a] m) (hm : X.mg "enumerate" = none) (hg : Gl X "enumerate" := by rfl) (hs : starEach [a] X.env = [(false, eval a X.env)] := by rfl) :
    DI X W (.Tuple elts kk tpos) (.Call (.Name "enumerate" p0) [a] [] pos) (apM enumD m) := by
  obtain ⟨t, p, q⟩ := h
  refine ⟨_, pi_enum hg hm p hs, fun F σ H ds s => ?_⟩
  refine At.bind (t2 := fun vs H1 R => ∃ a xs, vs = [V.ref a] ∧ SqL X.K H1 a xs ∧ R (Ite X.K a) H1) mI (q F σ H ds s) (fun l ds1 F1 H1 x st1 rel1 => ?_) fun Q h => h
  unfold lift enumD
  split
  · rename_i o e1
    split at e1
    · rename_i xs
      obtain ⟨v, rfl, r1⟩ := Reps.one rel1
      unfold Rep at r1
      obtain ⟨a1, vs, rfl, h1, h2⟩ := r1
      cases e1
      refine At.ret (Rel := RelI X.K σ) st1.st (wlk_pair (walk_enum (K := X.K) (a := a1) (xs := vs)) (by simp [h2.length]) (fun F2 H2 σ2 ds2 st2 => st2.st.sub.lst (st2.ext.ff.lst h1)) (fun i x v F2 l ex ev => ?_) fun i x v F2 l ex ev => ?_) fun R h => ⟨a1, vs, rfl, st1.st.sub.lst h1, h⟩
      · rw [List.getElem?_map] at ex
        cases hr : (List.range xs.length)[i]? with
        | none => rw [hr] at ex; cases ex
        | some k =>
          rw [hr] at ex
          obtain ⟨_, hk⟩ := List.getElem?_eq_some_iff.mp hr
          have hk' : i = k := by simpa using hk
          subst hk'
          cases ex; cases ev
          simp [Rep]
      · obtain ⟨w, e2, r2⟩ := h2.get ex
        rw [ev] at e2; cases e2
        exact r2.mono l
    · cases e1
  · exact At.none_
def zipD (d : List D) : Option (List D) := match d with
  | [.lst xs, .lst ys] => some ((xs.zip ys).map fun p => .tup [p.1, p.2])
  | [.tup xs, .tup ys] => some ((xs.zip ys).map fun p => .tup [p.1, p.2])
  | _ => none
theorem walk_zipT {K : PySem.W.Frag} {a b : Addr} {xs ys : List V} {n : Nat} (hn : n = min xs.length ys.length) : Walk (RZ.ItzT K a b) n (fun H => SqT K H a xs ∧ SqT K H b ys) (YPair (fun i => xs[i]?) (fun i => ys[i]?)) := by
  subst hn
  refine ⟨fun i _ hi q => ?_, fun _ q => ⟨xs, ys, q.1, q.2, by omega⟩, fun i H v H' _ q y => ?_⟩
  · have h1 : i < xs.length := by omega
    have h2 : i < ys.length := by omega
    exact ⟨xs, ys, xs[i], ys[i], q.1, q.2, by simp [h1], by simp [h2]⟩
  · obtain ⟨T, x, z, h1, h2, h3, h4, h5⟩ := y
    exact ⟨T, x, z, h1, h2, h3, h4 xs q.1, h5 ys q.2⟩
theorem di_zip {a b : Expr} {elts : List Expr} {kk : Nat} {tpos : Pos} {m : M (List D)} {p0 : Pos} (h : DA X W [a, b] m) (hm : X.mg "zip" = none) (hg : Gl X "zip" := by rfl)
    (hs : starEach [a, b] X.env = (false, eval a X.env) :: starEach [b] X.env := by rfl) (hpl : (backTo pos (starEach [b] X.env)).any (·.1) = false := by rfl) :
    DI X W (.Tuple elts kk tpos) (.Call (.Name "zip" p0) [a, b] [] pos) (apM zipD m) := by
  obtain ⟨t, p, q⟩ := h
  refine ⟨_, RZ.pi_zipA hg hm p hs hpl, fun F σ H ds s => ?_⟩
  refine At.bind (t2 := fun vs H1 R => ∃ a b xs ys, vs = [V.ref a, V.ref b] ∧ ((SqL X.K H1 a xs ∧ SqL X.K H1 b ys ∧ R (Itz X.K a b) H1) ∨ (SqT X.K H1 a xs ∧ SqT X.K H1 b ys ∧ R (RZ.ItzT X.K a b) H1))) mI (q F σ H ds s) (fun l ds1 F1 H1 x st1 rel1 => ?_) fun Q h => h
  unfold lift zipD
  have fin : ∀ {xs : List D} {vs : List V} (F2 : Hp), Reps X.K F1 xs vs → Le F1 F2 → ∀ (i : Nat) x v, xs[i]? = some x → vs[i]? = some v → Rep X.K F2 x v := fun F2 h2 l i x v ex ev => by
    obtain ⟨w, e2, r2⟩ := h2.get ex
    rw [ev] at e2; cases e2
    exact r2.mono l
  split
  · rename_i o e1
    split at e1
    · rename_i xs ys
      obtain ⟨v, w, rfl, r1, r2⟩ := Reps.two rel1
      unfold Rep at r1 r2
      obtain ⟨a1, vs, rfl, h1, h2⟩ := r1
      obtain ⟨a2, ws, rfl, h3, h4⟩ := r2
      cases e1
      exact At.ret (Rel := RelI X.K σ) st1.st (wlk_pair (walk_zip (K := X.K) (a := a1) (b := a2) (xs := vs) (ys := ws) (n := min xs.length ys.length) (by rw [h2.length, h4.length])) rfl (fun F2 H2 σ2 ds2 st2 => ⟨st2.st.sub.lst (st2.ext.ff.lst h1), st2.st.sub.lst (st2.ext.ff.lst h3)⟩)
        (fun i x v F2 l ex ev => fin F2 h2 l i x v ex ev) fun i x v F2 l ex ev => fin F2 h4 l i x v ex ev) fun R h => ⟨a1, a2, vs, ws, rfl, .inl ⟨st1.st.sub.lst h1, st1.st.sub.lst h3, h⟩⟩
    · rename_i xs ys
      obtain ⟨v, w, rfl, r1, r2⟩ := Reps.two rel1
      unfold Rep at r1 r2
      obtain ⟨a1, vs, rfl, h1, h2⟩ := r1
      obtain ⟨a2, ws, rfl, h3, h4⟩ := r2
      cases e1
      exact At.ret (Rel := RelI X.K σ) st1.st (wlk_pair (walk_zipT (K := X.K) (a := a1) (b := a2) (xs := vs) (ys := ws) (n := min xs.length ys.length) (by rw [h2.length, h4.length])) rfl (fun F2 H2 σ2 ds2 st2 => ⟨st2.st.sub.tup (st2.ext.ff.tup h1), st2.st.sub.tup (st2.ext.ff.tup h3)⟩)
        (fun i x v F2 l ex ev => fin F2 h2 l i x v ex ev) fun i x v F2 l ex ev => fin F2 h4 l i x v ex ev) fun R h => ⟨a1, a2, vs, ws, rfl, .inr ⟨st1.st.sub.tup h1, st1.st.sub.tup h3, h⟩⟩
    · cases e1
  · exact At.none_
/-! ### for -/
def forM (tg : TgF) (body : MS) : List D → MS
  | [] => ret .nx
  | d :: r => fun ds => match tg d ds with
    | none => none
    | some ds1 => match body ds1 with
      | some (.ok .nx, ds2) => forM tg body r ds2
      | some (.ok .ct, ds2) => forM tg body r ds2
      | some (.ok .bk, ds2) => some (.ok .nx, ds2)
      | q => q
def forI (m : M (List D)) (tg : TgF) (body : MS) : MS := bnd m fun xs => forM tg body xs
theorem for_at {wi : TI} {g : TG} {u : TS} {mi : M (List D)} {f : TgF} {m : MS} {F H : Hp} {σ : L2.St} {ds : DS} (s : StR X.K F H σ ds) (q : At X.K W (RelI X.K σ) F H σ ds (wi σ H) (mi ds))
    (qg : ∀ F σ H ds d x ds1, StR X.K F H σ ds → Rep X.K F d x → f d ds = some ds1 → ∀ Q : L2.St → Hp → Prop, (∀ F' H' σ', Stp X.K F H σ ds F' H' σ' ds1 → Kp keep σ σ' → Q σ' H') → g x σ H Q)
    (qb : ∀ F σ H ds, StR X.K F H σ ds → AtS X.K W keep F H σ ds (fun D => u D σ H) (m ds)) : AtS X.K W keep F H σ ds (fun D => tFor wi g u D σ H) (forI mi f m ds) := by
  refine AtS.bind (Rel := RelI X.K σ) (t2 := fun J H1 D => ∃ W : Nat → Nat → L2.St → Hp → Prop, (∃ m, W 0 m σ H1) ∧ ∀ i m σ H, W i m σ H →
    (J.stop i H ∧ D.nx σ H) ∨ (J.go i H ∧ ∃ N : L2.St → Hp → Prop, (∀ σ' H', N σ' H' → ∃ m', m' < m ∧ W (i + 1) m' σ' H') ∧ ∀ x H', J.yld i H x H' → g x σ H' fun σ2 H2 => u { D with nx := N, ct := N, bk := D.nx } σ2 H2))
    q (fun xs ds1 F1 H1 J st1 rel r ds' D e hq => ?_) fun D h => h
  obtain ⟨n, G, Y, wk, hn, hG, hY⟩ := rel
  subst hn
  refine for_it wk (fun i σ2 H2 => ∃ F2 ds2, Stp X.K F1 H1 σ ds1 F2 H2 σ2 ds2 ∧ Kp keep σ σ2 ∧ forM f m (xs.drop i) ds2 = some (r, ds')) ⟨F1, ds1, Stp.refl st1.st, Kp.refl, e⟩ (fun i σ2 H2 _ ⟨F2, ds2, st2, _, _⟩ => hG F2 H2 σ2 ds2 st2) ?_ ?_
  · rintro i x σ2 H2 H3 hi ⟨F2, ds2, st2, k2, e2⟩ y
    have hx : xs[i]? = some xs[i] := List.getElem?_eq_getElem hi
    rw [List.drop_eq_getElem_cons hi] at e2
    obtain ⟨F3, st3, r3⟩ := hY i F2 H2 σ2 ds2 x H3 _ st2 hx y
    simp only [forM] at e2
    cases et : f xs[i] ds2 with
    | none => rw [et] at e2; cases e2
    | some ds3 =>
      rw [et] at e2
      refine qg F3 σ2 H3 ds2 _ x ds3 st3.st r3 et _ fun F4 H4 σ4 st4 k4 => ?_
      simp only at e2
      cases eb : m ds3 with
      | none => rw [eb] at e2; cases e2
      | some z =>
        obtain ⟨r5, ds5⟩ := z
        rw [eb] at e2
        refine qb F4 σ4 H4 ds3 st4.st r5 ds5 _ eb ?_
        have stA := ((st2.trans st3).trans st4)
        have kA := k2.trans k4
        have stB := st1.trans stA
        cases r5 with
        | exc C fs => cases e2; exact fun F' H' σ' d st' k' x => hq F' H' σ' d (stB.trans st') (kA.trans k') x
        | ok o =>
          cases o with
          | nx => exact fun F' H' σ' st' k' => ⟨F', ds5, stA.trans st', kA.trans k', e2⟩
          | ct => exact fun F' H' σ' st' k' => ⟨F', ds5, stA.trans st', kA.trans k', e2⟩
          | bk => cases e2; exact fun F' H' σ' st' k' => hq F' H' σ' (stB.trans st') (kA.trans k')
          | rt s5 => cases e2; exact fun F' H' σ' v st' k' x => hq F' H' σ' v (stB.trans st') (kA.trans k') (RelS.mono (fun p w => stB.new w) x)
  · rintro σ2 H2 ⟨F2, ds2, st2, k2, e2⟩
    rw [List.drop_length] at e2
    cases e2
    exact hq F2 H2 σ2 (st1.trans st2) k2
theorem dst_for {tg iter : Expr} {body : List Stmt} {mi : M (List D)} {f : TgF} {m : MS} (hp : PassesOwn (model X.prog X.w) X.A X.env X.xe) (hc : X.calm = true) (hi : DI X W tg iter mi) (hg : DG X keep tg f) (hb : DSs X W keep body m) (hs : ∀ x, foldedSetIterable iter X.env x = pure x := by intro _; rfl) :
    DSt X W keep (.For tg iter body [] pos) (forI mi f m) := by
  obtain ⟨w, p, q⟩ := hi
  obtain ⟨g, pg, qg⟩ := hg
  obtain ⟨u, pb, qb⟩ := hb
  refine ⟨_, ps_for hp hc p pg pb hs, fun F σ H ds s => for_at s (q F σ H ds s) qg qb⟩
end
end DL
/-! DLf: defs by their mirrors, calls of them. -/
namespace DL
open PySem PySem.Spec PyProof.Rows L2
/-- what a def does, by data: its arguments, its answer, its arguments behind it -/
abbrev Mir := List SV → Option (R SV × List (Option SV))
def maskK : List Bool → DS → List (Option SV)
  | b :: bs, d :: ds => (if b = true then d else none) :: maskK bs ds
  | _, _ => []
def mirOf (n nl : Nat) (keep : List Bool) (body : MS) : Mir := fun as =>
  if as.length = n then match body (as.map some ++ List.replicate (nl - n) none) with
    | some (.ok .nx, ds') => some (.ok (.val .non), maskK keep ds')
    | some (.ok (.rt s), ds') => some (.ok s, maskK keep ds')
    | some (.exc C fs, ds') => some (.exc C fs, maskK keep ds')
    | _ => none
  else none
def REnd (K : PySem.W.Frag) (F H : Hp) (vs : List V) (as : List SV) (Q : VK) (E : XK) (r : R SV) (outs : List (Option SV)) : Prop := match r with
  | .ok s => ∀ F' H' v, Stp K F H (vs.map some) (as.map some) F' H' (vs.map some) outs → RelS K (vs.map some) F' H' outs (fun p => OA (vs.map some) (as.map some) p ∨ H p = none) s v → Q v H'
  | .exc C fs => ∀ F' H' d, Stp K F H (vs.map some) (as.map some) F' H' (vs.map some) outs → ExcAt K F' d fs → E (.ref C) d H'
def spD (K : PySem.W.Frag) (n : Nat) (m : Mir) : Sp := fun vs H Q E => vs.length = n ∧ ∃ F as r outs, StR K F H (vs.map some) (as.map some) ∧ m as = some (r, outs) ∧ REnd K F H vs as Q E r outs
structure Ctx (X : Cx) (W : WX) (k : Nat) : Prop where
  calm : X.calm = true
  nd : X.N.Nodup
  own : PassesOwn (model X.prog X.w) X.A X.env X.xe
  tk : Takes X W
  room : Room k X.A
theorem maskK_get : ∀ {keep : List Bool} {ds : DS} {i : Nat} {s : SV}, (maskK keep ds)[i]? = some (some s) → keep.getD i false = true ∧ ds[i]? = some (some s)
  | [], _, i, s, h => by simp [maskK] at h
  | b :: bs, [], i, s, h => by simp [maskK] at h
  | b :: bs, d :: ds, 0, s, h => by
    simp only [maskK, List.getElem?_cons_zero, Option.some.injEq] at h
    cases b with
    | true => simp only [if_true] at h; exact ⟨rfl, by rw [h]; rfl⟩
    | false => simp at h
  | b :: bs, d :: ds, i + 1, s, h => by
    simp only [maskK, List.getElem?_cons_succ] at h
    obtain ⟨h1, h2⟩ := maskK_get h
    exact ⟨by simpa using h1, by simpa using h2⟩
theorem maskK_len : ∀ {keep : List Bool} {ds : DS}, keep.length ≤ ds.length → (maskK keep ds).length = keep.length
  | [], _, _ => rfl
  | b :: bs, [], h => by simp at h
  | b :: bs, d :: ds, h => by simp only [maskK, List.length_cons]; rw [maskK_len (by simpa using h)]
section
variable {K : PySem.W.Frag} {W : WX} {keep : List Bool} {F H F' H' : Hp} {σ' : L2.St} {ds ds' : DS} {vs : List V} {as : List SV} {m1 m2 : Nat}
theorem pad_oa {p : Addr} (h : OA (vs.map some ++ List.replicate m1 none) (as.map some ++ List.replicate m2 none) p) (hl : vs.length = as.length) : OA (vs.map some) (as.map some) p := by
  obtain ⟨i, o, h1, h2⟩ := h
  by_cases hi : i < as.length
  · rw [List.getElem?_append_left (by simpa using hi)] at h1
    rw [List.getElem?_append_left (by simpa [hl] using hi)] at h2
    exact ⟨i, o, h1, h2⟩
  · rw [List.getElem?_append_right (by simpa using Nat.le_of_not_lt hi)] at h1
    rw [List.getElem?_replicate] at h1
    split at h1 <;> cases h1
theorem pad_ao {p : Addr} (h : OA (vs.map some) (as.map some) p) (hl : vs.length = as.length) : OA (vs.map some ++ List.replicate m1 none) (as.map some ++ List.replicate m2 none) p := by
  obtain ⟨i, o, h1, h2⟩ := h
  have hi : i < as.length := by
    have := (List.getElem?_eq_some_iff.mp h1).1
    simpa using this
  exact ⟨i, o, by rw [List.getElem?_append_left (by simpa using hi)]; exact h1, by rw [List.getElem?_append_left (by simpa [hl] using hi)]; exact h2⟩
theorem pad_st (s : StR K F H (vs.map some) (as.map some)) (hm : m1 = m2) : StR K F H (vs.map some ++ List.replicate m1 none) (as.map some ++ List.replicate m2 none) := by
  subst hm
  have hl : vs.length = as.length := by have := s.len; simpa using this.symm
  have g : ∀ (i : Nat) (x : SV), (as.map some ++ List.replicate m1 none)[i]? = some (some x) → (as.map some)[i]? = some (some x) ∧ (vs.map some ++ List.replicate m1 none)[i]? = (vs.map some)[i]? := fun i x h1 => by
    by_cases hi : i < as.length
    · rw [List.getElem?_append_left (by simpa using hi)] at h1
      exact ⟨h1, List.getElem?_append_left (by simpa [hl] using hi)⟩
    · rw [List.getElem?_append_right (by simpa using Nat.le_of_not_lt hi)] at h1
      rw [List.getElem?_replicate] at h1
      split at h1 <;> cases h1
  refine ⟨s.sub, by simp [hl], fun i x h => ?_, fun i j o o' p h1 h2 h3 h4 => ?_⟩
  · obtain ⟨a, b⟩ := g i x h
    obtain ⟨v, e1, e2⟩ := s.slot i x a
    exact ⟨v, by rw [b]; exact e1, e2⟩
  · obtain ⟨a1, b1⟩ := g i _ h1
    obtain ⟨a2, b2⟩ := g j _ h2
    rw [b1] at h3; rw [b2] at h4
    exact s.apart i j o o' p a1 a2 h3 h4
theorem unpad (hl : vs.length = as.length) (hk : keep.length = vs.length) (kp : Kp keep (vs.map some ++ List.replicate m1 none) σ')
    (a : Stp K F H (vs.map some ++ List.replicate m1 none) (as.map some ++ List.replicate m2 none) F' H' σ' ds') : Stp K F H (vs.map some) (as.map some) F' H' (vs.map some) (maskK keep ds') ∧ ∀ p, OA (vs.map some) (maskK keep ds') p → OA σ' ds' p := by
  have g : ∀ (i : Nat) (x : SV), (maskK keep ds')[i]? = some (some x) → ds'[i]? = some (some x) ∧ σ'[i]? = (vs.map some)[i]? := fun i x h => by
    obtain ⟨h1, h2⟩ := maskK_get h
    refine ⟨h2, ?_⟩
    have hi : i < keep.length := by
      cases e : keep[i]? with
      | none => rw [List.getD_eq_getElem?_getD, e] at h1; cases h1
      | some b => exact (List.getElem?_eq_some_iff.mp e).1
    rw [kp.at_ i h1, List.getElem?_append_left (by simp; omega)]
  have go : ∀ p, OA (vs.map some) (maskK keep ds') p → OA σ' ds' p := fun p ⟨i, o, h1, h2⟩ => by
    obtain ⟨a1, a2⟩ := g i _ h1
    exact ⟨i, o, a1, by rw [a2]; exact h2⟩
  have ld : keep.length ≤ ds'.length := by
    rw [a.st.len, kp.len, hk]; simp
  refine ⟨⟨⟨a.st.sub, by rw [maskK_len ld, List.length_map]; exact hk, fun i x h => ?_, fun i j o o' p h1 h2 h3 h4 => ?_⟩, ⟨a.ext.ff, fun b o q n => a.ext.fr b o q fun z => n (pad_oa z hl), fun b q => ?_⟩, fun p h => ?_⟩, go⟩
  · obtain ⟨a1, a2⟩ := g i x h
    obtain ⟨v, e1, e2⟩ := a.st.slot i x a1
    exact ⟨v, by rw [← a2]; exact e1, e2⟩
  · obtain ⟨a1, a2⟩ := g i _ h1
    obtain ⟨b1, b2⟩ := g j _ h2
    rw [← a2] at h3; rw [← b2] at h4
    exact a.st.apart i j o o' p a1 b1 h3 h4
  · rcases a.ext.nw b q with z | z | z
    · exact .inl z
    · exact .inr (.inl z)
    · exact .inr (.inr (pad_oa z hl))
  · rcases a.oa p (go p h) with z | z
    · exact .inl (pad_oa z hl)
    · exact .inr z
end
section
variable {P : Program} {w : World} {K : PySem.W.Frag} {mg : Str → Option Value} {base : Heap}
/-- the context of a def's body -/
theorem ctx_of {N ps : List Str} {qual : Str} {scope : Scope} {f : Addr} {cdv : Value} {A : Around} {outer : List Env} {s : Shared} {H : Hp} {E : XK} {k : Nat} (S : FnScope N ps scope) (hr : Room k (A.deeper (envOfC qual scope s.heap.objs.size f cdv))) :
    Ctx (cxOf (L2.CX P w) P w K mg base N qual scope f cdv A outer s H E) (fun cls d _ H => E cls d H) k :=
  ⟨rfl, S.nd, passes_of rfl, takes_of rfl rfl rfl rfl, hr⟩
/-- THE RULE of a def: its body by rules, its mirror by its body -/
theorem fn_mk {x qual : Str} {st : Stmt} {f : Addr} {fd : FuncData} {N ps : List Str} {k n : Nat} {keep : List Bool} {m : MS} (F : Fun K x qual st f fd) (S : FnScope N ps (defScope st)) (hn : ps.length = n) (hk : keep.length = n)
    (hbody : ∀ (cdv : Value) (A : Around) (outer : List Env) (s : Shared) (H : Hp) (E : XK), Ctx (cxOf (L2.CX P w) P w K mg base N qual (defScope st) f cdv A outer s H E) (fun cls d _ H => E cls d H) k →
      DSs (cxOf (L2.CX P w) P w K mg base N qual (defScope st) f cdv A outer s H E) (fun cls d _ H => E cls d H) keep (defBody st) m) :
    FnOk P w K mg base (L2.CX P w) (k + 1) f fd ps (spD K n (mirOf n N.length keep m)) := by
  refine F.okX S (fun vs H Q E h => h.1.trans hn.symm) fun cdv A outer s H vs Q E hr h => ?_
  obtain ⟨hv, F0, as, r, outs, st0, em, hend⟩ := h
  obtain ⟨t, p, q⟩ := hbody cdv A outer s H E (ctx_of S hr)
  refine ⟨t, p, ?_⟩
  have hl : vs.length = as.length := by have := st0.len; simpa using this.symm
  unfold mirOf at em
  rw [if_pos (by rw [← hl]; exact hv)] at em
  cases eb : m (as.map some ++ List.replicate (N.length - n) none) with
  | none => rw [eb] at em; cases em
  | some z =>
    obtain ⟨r1, ds1⟩ := z
    rw [eb] at em
    have st1 : StR K F0 H (vs.map some ++ List.replicate (N.length - vs.length) none) (as.map some ++ List.replicate (N.length - n) none) := pad_st st0 (by rw [hv])
    refine q F0 (start N vs) H _ st1 r1 ds1 _ eb ?_
    have hkv : keep.length = vs.length := hk.trans hv.symm
    cases r1 with
    | exc C fs =>
      cases em
      intro F' H' σ' d st' k' x
      exact hend F' H' d (unpad hl hkv k' st').1 x
    | ok o =>
      cases o with
      | nx =>
        cases em
        intro F' H' σ' st' k'
        exact hend F' H' .non (unpad hl hkv k' st').1 (RelS.val (by simp [Rep]))
      | rt s1 =>
        cases em
        intro F' H' σ' v st' k' rel
        obtain ⟨u1, u2⟩ := unpad hl hkv k' st'
        refine hend F' H' v u1 ⟨rel.1, fun o p e1 e2 => ?_⟩
        obtain ⟨n1, n2⟩ := rel.2 o p e1 e2
        exact ⟨fun z => n1 (u2 p z), n2.imp (fun z => pad_oa z hl) id⟩
      | bk => cases em
      | ct => cases em
end
/-! ### calls -/
/-- an argument: a datum, or what a slot holds, handed by reference -/
abbrev AG := Sum D Nat
def RepG (K : PySem.W.Frag) (F : Hp) (σ : L2.St) : List AG → List V → Prop
  | [], vs => vs = []
  | .inl d :: r, vs => ∃ v ws, vs = v :: ws ∧ Rep K F d v ∧ RepG K F σ r ws
  | .inr i :: r, vs => ∃ v ws, vs = v :: ws ∧ σ[i]? = some (some v) ∧ RepG K F σ r ws
abbrev RelG (K : PySem.W.Frag) (σ : L2.St) : Hp → Hp → DS → (Addr → Prop) → List AG → List V → Prop := fun F _ _ _ a b => RepG K F σ a b
def DAG (X : Cx) (W : WX) (es : List Expr) (m : M (List AG)) : Prop := ∃ t, PA X es t ∧ ∀ F σ H ds, StR X.K F H σ ds → At X.K W (RelG X.K σ) F H σ ds (t σ H) (m ds)
theorem RepG.mono {K : PySem.W.Frag} {F F' : Hp} {σ : L2.St} (l : Le F F') : ∀ {as : List AG} {vs : List V}, RepG K F σ as vs → RepG K F' σ as vs
  | [], _, h => h
  | .inl d :: r, _, ⟨v, ws, e, h1, h2⟩ => ⟨v, ws, e, h1.mono l, RepG.mono l h2⟩
  | .inr d :: r, _, ⟨v, ws, e, h1, h2⟩ => ⟨v, ws, e, h1, RepG.mono l h2⟩
theorem RepG.length {K : PySem.W.Frag} {F : Hp} {σ : L2.St} : ∀ {as : List AG} {vs : List V}, RepG K F σ as vs → vs.length = as.length
  | [], _, h => by unfold RepG at h; subst h; rfl
  | .inl d :: r, _, ⟨v, ws, e, h1, h2⟩ => by subst e; simp [RepG.length h2]
  | .inr d :: r, _, ⟨v, ws, e, h1, h2⟩ => by subst e; simp [RepG.length h2]
def gNilA : M (List AG) := ret []
def gEv (m : M D) (r : M (List AG)) : M (List AG) := bnd m fun d => bnd r fun ds => ret (.inl d :: ds)
def gBy (i : Nat) (r : M (List AG)) : M (List AG) := fun ds => match ds[i]? with
  | some (some _) => bnd r (fun l => ret (.inr i :: l)) ds
  | _ => none
abbrev mG {K : PySem.W.Frag} {σ : L2.St} : ∀ (F' H' : Hp) (ds' : DS) (P P' : Addr → Prop) (a : List AG) (b : List V), (∀ p, P p → P' p) → RelG K σ F' H' ds' P a b → RelG K σ F' H' ds' P' a b := fun _ _ _ _ _ _ _ _ r => r
section
variable {X : Cx} {W : WX} {a : Expr} {es : List Expr} {ma : M D} {r : M (List AG)} {x : Str} {pos : Pos}
theorem dag_nil : DAG X W [] gNilA := ⟨_, pa_nil, fun F σ H ds s => At.ret (Rel := RelG X.K σ) (b := []) s (by show RepG _ _ _ _ _; unfold RepG; rfl) fun Q h => h⟩
theorem dag_ev (h : DV X W a ma) (h' : DAG X W es r) (hl : starEach (a :: es) X.env = (false, eval a X.env) :: starEach es X.env := by rfl) : DAG X W (a :: es) (gEv ma r) := by
  obtain ⟨t, p, q⟩ := h
  obtain ⟨u, p', q'⟩ := h'
  refine ⟨_, pa_cons p p' hl, fun F σ H ds s => ?_⟩
  refine At.bind (t2 := fun x H1 Q => u σ H1 fun xs H2 => Q (x :: xs) H2) mG (q F σ H ds s) (fun d ds1 F1 H1 x st1 rel1 => ?_) fun Q h => h
  refine At.bind (t2 := fun xs H2 Q => Q (x :: xs) H2) mG (q' F1 σ H1 ds1 st1.st) (fun ys ds2 F2 H2 xs st2 rel2 => ?_) fun Q h => h
  exact At.ret (Rel := RelG X.K σ) st2.st (by show RepG _ _ _ _ _; unfold RepG; exact ⟨x, xs, rfl, Rep.mono st2.ext.ff rel1, rel2⟩) fun Q h => h
theorem dag_by (i : Nat) (h' : DAG X W es r) (hN : X.N[i]? = some x := by rfl) (hv : Vis X.env.scope x := by first | exact Or.inl rfl | exact Or.inr (Or.inl rfl) | exact Or.inr (Or.inr rfl)) (hd : (x == ("__debug__" : Str)) = false := by decide)
    (hcd : (x == ("__classdict__" : Str)) = false := by decide) (hl : starEach (.Name x pos :: es) X.env = (false, eval (.Name x pos) X.env) :: starEach es X.env := by rfl) : DAG X W (.Name x pos :: es) (gBy i r) := by
  obtain ⟨u, p', q'⟩ := h'
  refine ⟨_, pa_cons (pe_var hN hv hd hcd) p' hl, fun F σ H ds s => ?_⟩
  unfold gBy
  cases e : ds[i]? with
  | none => exact At.none_
  | some o =>
    cases o with
    | none => exact At.none_
    | some sv =>
      obtain ⟨v, e1, _⟩ := s.slot i sv e
      refine At.bind (t2 := fun xs H2 Q => Q (v :: xs) H2) mG (q' F σ H ds s) (fun ys ds2 F2 H2 xs st2 rel2 => ?_) fun Q h => ⟨v, e1, h⟩
      exact At.ret (Rel := RelG X.K σ) st2.st (by show RepG _ _ _ _ _; unfold RepG; exact ⟨v, xs, rfl, e1, rel2⟩) fun Q h => h
end
/-- what the callee is handed -/
def rslv (ds : DS) : List AG → Option (List SV)
  | [] => some []
  | .inl d :: r => match rslv ds r with
    | some l => some (.val d :: l)
    | none => none
  | .inr i :: r => match ds[i]?, rslv ds r with
    | some (some s), some l => some (s :: l)
    | _, _ => none
def refsG : List AG → List Nat
  | [] => []
  | .inl _ :: r => refsG r
  | .inr i :: r => i :: refsG r
/-- what the callee hands back -/
def wback : List AG → List (Option SV) → DS → DS
  | .inr i :: r, o :: os, ds => wback r os (ds.set i o)
  | .inl _ :: r, _ :: os, ds => wback r os ds
  | _, _, ds => ds
section
variable {K : PySem.W.Frag} {W : WX} {F H F' H' : Hp} {σ : L2.St} {ds : DS}
theorem mem_refs : ∀ {l : List AG} {j i : Nat}, l[j]? = some (.inr i) → i ∈ refsG l
  | [], j, i, h => by simp at h
  | .inl d :: r, 0, i, h => by simp at h
  | .inr d :: r, 0, i, h => by simp at h; subst h; simp [refsG]
  | .inl d :: r, j + 1, i, h => by simp only [refsG]; exact mem_refs (by simpa using h)
  | .inr d :: r, j + 1, i, h => by simp only [refsG]; exact List.mem_cons_of_mem _ (mem_refs (by simpa using h))
theorem refs_inj : ∀ {l : List AG} {j k i : Nat}, (refsG l).Nodup → l[j]? = some (.inr i) → l[k]? = some (.inr i) → j = k
  | [], j, k, i, _, h, _ => by simp at h
  | .inl d :: r, 0, _, i, _, h, _ => by simp at h
  | .inl d :: r, _ + 1, 0, i, _, _, h => by simp at h
  | .inl d :: r, j + 1, k + 1, i, nd, h, h' => by rw [refs_inj (l := r) (j := j) (k := k) (by simpa [refsG] using nd) (by simpa using h) (by simpa using h')]
  | .inr d :: r, 0, 0, i, _, _, _ => rfl
  | .inr d :: r, 0, k + 1, i, nd, h, h' => by
    simp at h; subst h
    simp only [refsG, List.nodup_cons] at nd
    exact absurd (mem_refs (l := r) (j := k) (by simpa using h')) nd.1
  | .inr d :: r, j + 1, 0, i, nd, h, h' => by
    simp at h'; subst h'
    simp only [refsG, List.nodup_cons] at nd
    exact absurd (mem_refs (l := r) (j := j) (by simpa using h)) nd.1
  | .inr d :: r, j + 1, k + 1, i, nd, h, h' => by
    simp only [refsG, List.nodup_cons] at nd
    rw [refs_inj (l := r) (j := j) (k := k) nd.2 (by simpa using h) (by simpa using h')]
theorem rslv_len : ∀ {l : List AG} {svs : List SV}, rslv ds l = some svs → svs.length = l.length
  | [], _, h => by cases h; rfl
  | .inl d :: r, svs, h => by
    simp only [rslv] at h
    cases e : rslv ds r with
    | none => rw [e] at h; cases h
    | some l => rw [e] at h; cases h; simp [rslv_len e]
  | .inr i :: r, svs, h => by
    simp only [rslv] at h
    split at h
    · rename_i e1 e2; cases h; simp [rslv_len e2]
    · cases h
/-- an argument is a datum, or the slot's -/
theorem rslv_get : ∀ {l : List AG} {svs : List SV} {vs : List V} {j : Nat} {s : SV}, rslv ds l = some svs → RepG K F σ l vs → svs[j]? = some s →
    ∃ v, vs[j]? = some v ∧ ((∃ d, l[j]? = some (.inl d) ∧ s = .val d ∧ Rep K F d v) ∨ ∃ i, l[j]? = some (.inr i) ∧ ds[i]? = some (some s) ∧ σ[i]? = some (some v))
  | [], svs, vs, j, s, h, _, e => by cases h; simp at e
  | .inl d :: r, svs, vs, j, s, h, g, e => by
    simp only [rslv] at h
    obtain ⟨v, ws, rfl, g1, g2⟩ := g
    cases e2 : rslv ds r with
    | none => rw [e2] at h; cases h
    | some l =>
      rw [e2] at h; cases h
      cases j with
      | zero => simp at e; exact ⟨v, rfl, .inl ⟨d, rfl, e.symm, g1⟩⟩
      | succ j => simpa using rslv_get (j := j) e2 g2 (by simpa using e)
  | .inr i :: r, svs, vs, j, s, h, g, e => by
    simp only [rslv] at h
    obtain ⟨v, ws, rfl, g1, g2⟩ := g
    split at h
    · rename_i e1 e2
      cases h
      cases j with
      | zero => simp at e; subst e; exact ⟨v, rfl, .inr ⟨i, rfl, e1, g1⟩⟩
      | succ j => simpa using rslv_get (j := j) e2 g2 (by simpa using e)
    · cases h
/-- a slot behind the call: untouched, or what the callee left of it -/
theorem wback_get : ∀ {l : List AG} {os : List (Option SV)} {ds : DS} {k : Nat} {s : SV}, (refsG l).Nodup → os.length = l.length → (wback l os ds)[k]? = some (some s) →
    (∃ j : Nat, l[j]? = some (.inr k) ∧ os[j]? = some (some s)) ∨ ((∀ j : Nat, l[j]? ≠ some (.inr k)) ∧ ds[k]? = some (some s))
  | [], os, ds, k, s, _, _, h => by simp only [wback] at h; exact .inr ⟨fun j => by simp, h⟩
  | .inl d :: r, [], ds, k, s, _, hl, h => by simp at hl
  | .inr d :: r, [], ds, k, s, _, hl, h => by simp at hl
  | .inl d :: r, o :: os, ds, k, s, nd, hl, h => by
    simp only [wback] at h
    rcases wback_get (l := r) (by simpa [refsG] using nd) (by simpa using hl) h with ⟨j, h1, h2⟩ | ⟨h1, h2⟩
    · exact .inl ⟨j + 1, by simpa using h1, by simpa using h2⟩
    · exact .inr ⟨fun j => by cases j with
      | zero => simp
      | succ j => simpa using h1 j, h2⟩
  | .inr i :: r, o :: os, ds, k, s, nd, hl, h => by
    simp only [wback] at h
    simp only [refsG, List.nodup_cons] at nd
    rcases wback_get (l := r) nd.2 (by simpa using hl) h with ⟨j, h1, h2⟩ | ⟨h1, h2⟩
    · exact .inl ⟨j + 1, by simpa using h1, by simpa using h2⟩
    · by_cases hk : i = k
      · subst hk
        have l1 : i < (ds.set i o).length := (List.getElem?_eq_some_iff.mp h2).1
        rw [List.length_set] at l1
        rw [List.getElem?_set_self l1] at h2
        exact .inl ⟨0, rfl, by simpa using h2⟩
      · rw [List.getElem?_set_ne hk] at h2
        exact .inr ⟨fun j => by cases j with
          | zero => simp [hk]
          | succ j => simpa using h1 j, h2⟩
theorem wback_len : ∀ {l : List AG} {os : List (Option SV)} {ds : DS}, (wback l os ds).length = ds.length
  | [], os, ds => by simp [wback]
  | .inl d :: r, [], ds => by simp [wback]
  | .inr d :: r, [], ds => by simp [wback]
  | .inl d :: r, o :: os, ds => by simp only [wback]; exact wback_len
  | .inr i :: r, o :: os, ds => by simp only [wback]; rw [wback_len, List.length_set]
variable {l : List AG} {svs : List SV} {vs : List V}
theorem call_oa (e : rslv ds l = some svs) (g : RepG K F σ l vs) {p : Addr} (h : OA (vs.map some) (svs.map some) p) : OA σ ds p := by
  obtain ⟨j, o, h1, h2⟩ := h
  rw [List.getElem?_map] at h1 h2
  cases e1 : svs[j]? with
  | none => rw [e1] at h1; cases h1
  | some s =>
    rw [e1] at h1; cases h1
    obtain ⟨v, hv, hs⟩ := rslv_get e g e1
    rw [hv] at h2; cases h2
    rcases hs with ⟨d, _, z, _⟩ | ⟨i, _, h3, h4⟩
    · cases z
    · exact ⟨i, o, h3, h4⟩
theorem call_in (s : StR K F H σ ds) (e : rslv ds l = some svs) (g : RepG K F σ l vs) (nd : (refsG l).Nodup) : StR K F H (vs.map some) (svs.map some) := by
  have hl : svs.length = vs.length := by rw [rslv_len e, g.length]
  have gg : ∀ (j : Nat) (x : SV), (svs.map some)[j]? = some (some x) → svs[j]? = some x := fun j x h => by
    rw [List.getElem?_map] at h
    cases e1 : svs[j]? with
    | none => rw [e1] at h; cases h
    | some y => rw [e1] at h; cases h; rfl
  refine ⟨s.sub, by simp [hl], fun j x h => ?_, fun i j o o' p h1 h2 h3 h4 => ?_⟩
  · obtain ⟨v, hv, hs⟩ := rslv_get e g (gg j x h)
    refine ⟨v, by rw [List.getElem?_map, hv]; rfl, ?_⟩
    rcases hs with ⟨d, _, rfl, h3⟩ | ⟨i, _, h3, h4⟩
    · exact h3
    · obtain ⟨w, e3, e4⟩ := s.slot i x h3
      rw [h4] at e3; cases e3; exact e4
  · obtain ⟨v, hv, hs⟩ := rslv_get e g (gg i _ h1)
    obtain ⟨v', hv', hs'⟩ := rslv_get e g (gg j _ h2)
    rw [List.getElem?_map, hv] at h3; cases h3
    rw [List.getElem?_map, hv'] at h4; cases h4
    rcases hs with ⟨d, _, z, _⟩ | ⟨a, b1, b2, b3⟩
    · cases z
    · rcases hs' with ⟨d, _, z, _⟩ | ⟨a', b1', b2', b3'⟩
      · cases z
      · have := s.apart a a' o o' p b2 b2' b3 b3'
        subst this
        exact refs_inj nd b1 b1'
/-- behind the call -/
theorem call_out (s : StR K F H σ ds) (e : rslv ds l = some svs) (g : RepG K F σ l vs) (nd : (refsG l).Nodup) {outs : List (Option SV)} (a : Stp K F H (vs.map some) (svs.map some) F' H' (vs.map some) outs) :
    Stp K F H σ ds F' H' σ (wback l outs ds) ∧ ∀ p, ¬ OA (vs.map some) outs p → (OA (vs.map some) (svs.map some) p ∨ H p = none) → ¬ OA σ (wback l outs ds) p ∧ (OA σ ds p ∨ H p = none) := by
  have hlo : outs.length = l.length := by rw [a.st.len]; simp [g.length]
  have vg : ∀ (j i : Nat), l[j]? = some (.inr i) → ∃ v, vs[j]? = some v ∧ σ[i]? = some (some v) := by
    clear a hlo e nd
    induction l generalizing vs with
    | nil => intro j i h; simp at h
    | cons b r ih =>
      intro j i h
      cases b with
      | inl d =>
        obtain ⟨v, ws, rfl, _, g2⟩ := g
        cases j with
        | zero => simp at h
        | succ j => simpa using ih g2 j i (by simpa using h)
      | inr d =>
        obtain ⟨v, ws, rfl, g1, g2⟩ := g
        cases j with
        | zero => simp at h; subst h; exact ⟨v, rfl, g1⟩
        | succ j => simpa using ih g2 j i (by simpa using h)
  -- a slot that was not handed on and owns p: p is none of the callee's
  have oth : ∀ (k : Nat) (o : OO) (p : Addr), (∀ j : Nat, l[j]? ≠ some (.inr k)) → ds[k]? = some (some (.own o)) → σ[k]? = some (some (.ref p)) → ¬ OA (vs.map some) (svs.map some) p := fun k o p hn h1 h2 ⟨j, o', h3, h4⟩ => by
    rw [List.getElem?_map] at h3 h4
    cases e1 : svs[j]? with
    | none => rw [e1] at h3; cases h3
    | some x =>
      rw [e1] at h3; cases h3
      obtain ⟨v, hv, hs⟩ := rslv_get e g e1
      rw [hv] at h4; cases h4
      rcases hs with ⟨d, _, z, _⟩ | ⟨i, b1, b2, b3⟩
      · cases z
      · have := s.apart k i o o' p h1 b2 h2 b3
        subst this
        exact hn j b1
  have alive : ∀ (k : Nat) (o : OO) (p : Addr), ds[k]? = some (some (.own o)) → σ[k]? = some (some (.ref p)) → H p ≠ none := fun k o p h1 h2 z => s.nown z ⟨k, o, h1, h2⟩
  have outA : ∀ (j k : Nat) (o : OO) (p : Addr), l[j]? = some (.inr k) → outs[j]? = some (some (.own o)) → σ[k]? = some (some (.ref p)) → OA (vs.map some) outs p := fun j k o p h1 h2 h3 => by
    obtain ⟨v, hv, hs⟩ := vg j k h1
    rw [hs] at h3; cases h3
    exact ⟨j, o, h2, by rw [List.getElem?_map, hv]; rfl⟩
  have newA : ∀ p, OA (vs.map some) outs p → OA (vs.map some) (svs.map some) p ∨ H p = none := a.oa
  refine ⟨⟨⟨a.st.sub, by rw [wback_len]; exact s.len, fun k x h => ?_, fun k k' o o' p h1 h2 h3 h4 => ?_⟩, ⟨a.ext.ff, fun b u q n => a.ext.fr b u q fun z => n (call_oa e g z), fun b q => ?_⟩, fun p h => ?_⟩, fun p h1 h2 => ⟨fun h => ?_, h2.imp (call_oa e g) id⟩⟩
  · rcases wback_get nd hlo h with ⟨j, b1, b2⟩ | ⟨b1, b2⟩
    · obtain ⟨v, hv, hs⟩ := vg j k b1
      obtain ⟨w, e1, e2⟩ := a.st.slot j x b2
      rw [List.getElem?_map, hv] at e1; cases e1
      exact ⟨v, hs, e2⟩
    · obtain ⟨v, e1, e2⟩ := s.slot k x b2
      refine ⟨v, e1, ?_⟩
      cases x with
      | val d => exact Rep.mono a.ext.ff e2
      | own o =>
        obtain ⟨p, rfl, h0, ho⟩ := e2
        have no := oth k o p b1 b2 e1
        obtain ⟨u, hu⟩ := ho.some_
        refine ⟨p, rfl, ?_, (ho.mono a.ext.ff).at_ ((a.ext.fr p u hu no).trans hu.symm)⟩
        cases z : F' p with
        | none => rfl
        | some w =>
          rcases a.ext.nw p (by rw [z]; simp) with q | q | q
          · exact absurd h0 q
          · rw [hu] at q; cases q
          · exact absurd q no
  · rcases wback_get nd hlo h1 with ⟨j, b1, b2⟩ | ⟨b1, b2⟩ <;> rcases wback_get nd hlo h2 with ⟨j', c1, c2⟩ | ⟨c1, c2⟩
    · obtain ⟨v, hv, hs⟩ := vg j k b1
      obtain ⟨v', hv', hs'⟩ := vg j' k' c1
      rw [hs] at h3; cases h3
      rw [hs'] at h4; cases h4
      have := a.st.apart j j' o o' p b2 c2 (by rw [List.getElem?_map, hv]; rfl) (by rw [List.getElem?_map, hv']; rfl)
      subst this
      rw [b1] at c1; cases c1; rfl
    · rcases newA p (outA j k o p b1 b2 h3) with z | z
      · exact absurd z (oth k' o' p c1 c2 h4)
      · exact absurd z (alive k' o' p c2 h4)
    · rcases newA p (outA j' k' o' p c1 c2 h4) with z | z
      · exact absurd z (oth k o p b1 b2 h3)
      · exact absurd z (alive k o p b2 h3)
    · exact s.apart k k' o o' p b2 c2 h3 h4
  · rcases a.ext.nw b q with z | z | z
    · exact .inl z
    · exact .inr (.inl z)
    · exact .inr (.inr (call_oa e g z))
  · obtain ⟨k, o, h1, h2⟩ := h
    rcases wback_get nd hlo h1 with ⟨j, b1, b2⟩ | ⟨b1, b2⟩
    · exact (newA p (outA j k o p b1 b2 h2)).imp (call_oa e g) id
    · exact .inl ⟨k, o, b2, h2⟩
  · obtain ⟨k, o, q1, q2⟩ := h
    rcases wback_get nd hlo q1 with ⟨j, b1, b2⟩ | ⟨b1, b2⟩
    · exact h1 (outA j k o p b1 b2 q2)
    · rcases h2 with z | z
      · exact oth k o p b1 b2 q2 z
      · exact alive k o p b2 q2 z
end
def appM (n : Nat) (m : Mir) (l : List AG) : M SV := fun ds => match rslv ds l with
  | none => none
  | some svs => if (refsG l).Nodup ∧ l.length = n then match m svs with
    | none => none
    | some (.ok s, outs) => some (.ok s, wback l outs ds)
    | some (.exc C fs, outs) => some (.exc C fs, wback l outs ds)
    else none
/-- .. where nothing is raised -/
def appN (n : Nat) (m : Mir) (l : List AG) : M SV := fun ds => match appM n m l ds with
  | some (.ok s, ds') => some (.ok s, ds')
  | _ => none
def callM (n : Nat) (m : Mir) (args : M (List AG)) : M SV := bnd args (appM n m)
def callN (n : Nat) (m : Mir) (args : M (List AG)) : M SV := bnd args (appN n m)
section
variable {K : PySem.W.Frag} {W : WX} {F H : Hp} {σ : L2.St} {ds : DS} {l : List AG} {vs : List V} {n : Nat} {m : Mir}
theorem app_some {r : R SV} {ds' : DS} (e : appM n m l ds = some (r, ds')) : ∃ svs outs, rslv ds l = some svs ∧ (refsG l).Nodup ∧ l.length = n ∧ m svs = some (r, outs) ∧ ds' = wback l outs ds := by
  unfold appM at e
  cases er : rslv ds l with
  | none => rw [er] at e; cases e
  | some svs =>
    rw [er] at e
    simp only at e
    by_cases hn : (refsG l).Nodup ∧ l.length = n
    · rw [if_pos hn] at e
      cases em : m svs with
      | none => rw [em] at e; cases e
      | some z =>
        obtain ⟨r1, outs⟩ := z
        rw [em] at e
        cases r1 <;> (cases e; exact ⟨svs, outs, rfl, hn.1, hn.2, em, rfl⟩)
    · rw [if_neg hn] at e; cases e
theorem app_at (s : StR K F H σ ds) (g : RepG K F σ l vs) : At K W (RelS K σ) F H σ ds (fun Q => spD K n m vs H Q (WE W σ)) (appM n m l ds) := by
  intro r ds' Q e hq
  obtain ⟨svs, outs, er, nd, hl, em, rfl⟩ := app_some e
  refine ⟨by rw [g.length]; exact hl, F, svs, r, outs, call_in s er g nd, em, ?_⟩
  cases r with
  | ok sv =>
    intro F' H' v st rel
    obtain ⟨st2, hown⟩ := call_out s er g nd st
    exact hq F' H' v st2 ⟨rel.1, fun o p e1 e2 => hown p (rel.2 o p e1 e2).1 (rel.2 o p e1 e2).2⟩
  | exc C fs =>
    intro F' H' d st x
    exact hq F' H' d (call_out s er g nd st).1 x
theorem appN_at (s : StR K F H σ ds) (g : RepG K F σ l vs) {E : XK} : At K W (RelS K σ) F H σ ds (fun Q => spD K n m vs H Q E) (appN n m l ds) := by
  intro r ds' Q e hq
  unfold appN at e
  cases ea : appM n m l ds with
  | none => rw [ea] at e; cases e
  | some z =>
    obtain ⟨r1, dz⟩ := z
    rw [ea] at e
    cases r1 with
    | exc C fs => cases e
    | ok sv =>
      cases e
      obtain ⟨svs, outs, er, nd, hl, em, rfl⟩ := app_some ea
      refine ⟨by rw [g.length]; exact hl, F, svs, _, outs, call_in s er g nd, em, ?_⟩
      intro F' H' v st rel
      obtain ⟨st2, hown⟩ := call_out s er g nd st
      exact hq F' H' v st2 ⟨rel.1, fun o p e1 e2 => hown p (rel.2 o p e1 e2).1 (rel.2 o p e1 e2).2⟩
end
section
variable {X : Cx} {W : WX} {k j n : Nat} {m : Mir} {f C : Addr} {fd : FuncData} {ps : List Str} {x nm : Str} {p pos apos : Pos} {e o : Expr} {es : List Expr} {ga : M (List AG)}
theorem de_call (c : Ctx X W k) (G : FnOk X.prog X.w X.K X.mg X.base (L2.CX X.prog X.w) j f fd ps (spD X.K n m)) (hj : j ≤ k) (hm : X.mg x = some (.ref f)) (hk : PySem.W.keepIn X.K (.ref f) = true) (hb : Binds X.K fd ps []) (ha : DAG X W (e :: es) ga)
    (hg : Gl X x := by rfl) (hdb : (x == ("__debug__" : Str)) = false := by decide) (he : starEach (e :: es) X.env = (false, eval e X.env) :: starEach es X.env := by rfl) (hpl : (backTo pos (starEach es X.env)).any (·.1) = false := by rfl) :
    DE X W (.Call (.Name x p) (e :: es) [] pos) (callM n m ga) := by
  obtain ⟨t, pa, qa⟩ := ha
  refine ⟨_, pe_callS (E := WE W) G (c.room.mono hj) hg hm hk hb (fun σ => passAt c.tk σ) pa hdb he hpl, fun F σ H ds s => ?_⟩
  exact At.bind (t2 := fun vs H1 Q => spD X.K n m vs H1 Q (WE W σ)) mS (qa F σ H ds s) (fun l ds1 F1 H1 vs st1 rel1 => app_at st1.st rel1) fun Q h => h
/-- f(), nothing is raised -/
theorem de_call0 (c : Ctx X W k) (G : FnOk X.prog X.w X.K X.mg X.base (L2.CX X.prog X.w) j f fd ps (spD X.K n m)) (hj : j ≤ k) (hm : X.mg x = some (.ref f)) (hk : PySem.W.keepIn X.K (.ref f) = true) (hb : Binds X.K fd ps [])
    (hg : Gl X x := by rfl) (hdb : (x == ("__debug__" : Str)) = false := by decide) : DE X W (.Call (.Name x p) [] [] pos) (callN n m gNilA) := by
  refine ⟨_, pe_call0 (dvs := []) (ds := []) G (c.room.mono hj) hg hm hk hb .nil passL hdb, fun F σ H ds s => ?_⟩
  have ⟨_, _, q0⟩ := (dag_nil : DAG X W [] gNilA)
  refine At.bind (Rel1 := RelG X.K σ) (t1 := fun Q => Q [] H) (t2 := fun vs H1 Q => spD X.K n m vs H1 Q E0) mS ?_ (fun l ds1 F1 H1 vs st1 rel1 => appN_at st1.st rel1) fun Q h => by simpa [tCall, tNil] using h
  exact At.ret (Rel := RelG X.K σ) (b := []) s (by show RepG _ _ _ _ _; unfold RepG; rfl) fun Q h => h
end
/-! ### making an instance: as a call with one slot more -/
section
variable {K : PySem.W.Frag} {W : WX} {F H F' H' : Hp} {σ : L2.St} {ds ds' : DS} {l : List AG} {vs : List V} {svs : List SV}
theorem oa_app {p x : Addr} {o : OO} (hl : ds.length = σ.length) : OA (σ ++ [some (.ref x)]) (ds ++ [some (.own o)]) p ↔ OA σ ds p ∨ p = x := by
  constructor
  · rintro ⟨i, o', h1, h2⟩
    by_cases hi : i < ds.length
    · rw [List.getElem?_append_left hi] at h1
      rw [List.getElem?_append_left (by omega)] at h2
      exact .inl ⟨i, o', h1, h2⟩
    · have e : i = ds.length := by
        have := (List.getElem?_eq_some_iff.mp h1).1
        simp at this; omega
      subst e
      rw [hl] at h2
      simp at h2
      exact .inr h2.symm
  · rintro (⟨i, o', h1, h2⟩ | rfl)
    · exact ⟨i, o', by rw [List.getElem?_append_left (List.getElem?_eq_some_iff.mp h1).1]; exact h1, by rw [List.getElem?_append_left (List.getElem?_eq_some_iff.mp h2).1]; exact h2⟩
    · exact ⟨ds.length, o, by simp, by rw [hl]; simp⟩
theorem st_app {x : Addr} {o : OO} (s : StR K F H σ ds) (h0 : F x = none) (ho : OwnAt K F H x o) (hn : ¬ OA σ ds x) : StR K F H (σ ++ [some (.ref x)]) (ds ++ [some (.own o)]) := by
  have g : ∀ (i : Nat) (y : SV), (ds ++ [some (.own o)])[i]? = some (some y) → (i < ds.length ∧ ds[i]? = some (some y)) ∨ (i = ds.length ∧ y = .own o) := fun i y h1 => by
    by_cases hi : i < ds.length
    · rw [List.getElem?_append_left hi] at h1; exact .inl ⟨hi, h1⟩
    · have e : i = ds.length := by
        have := (List.getElem?_eq_some_iff.mp h1).1
        simp at this; omega
      subst e
      simp at h1
      exact .inr ⟨rfl, h1.symm⟩
  have gσ : ∀ i, i < ds.length → (σ ++ [some (.ref x)])[i]? = σ[i]? := fun i hi => List.getElem?_append_left (by rw [← s.len]; exact hi)
  have gl : (σ ++ [some (V.ref x)])[ds.length]? = some (some (.ref x)) := by rw [s.len]; simp
  refine ⟨s.sub, by simp [s.len], fun i y h => ?_, fun i j o1 o2 p h1 h2 h3 h4 => ?_⟩
  · rcases g i y h with ⟨hi, e⟩ | ⟨rfl, rfl⟩
    · rw [gσ i hi]; exact s.slot i y e
    · exact ⟨_, gl, x, rfl, h0, ho⟩
  · rcases g i _ h1 with ⟨hi, e1⟩ | ⟨rfl, e1⟩ <;> rcases g j _ h2 with ⟨hj, e2⟩ | ⟨e3, e2⟩
    · rw [gσ i hi] at h3; rw [gσ j hj] at h4
      exact s.apart i j o1 o2 p e1 e2 h3 h4
    · subst e3
      rw [gσ i hi] at h3; rw [gl] at h4; cases h4
      exact absurd ⟨i, o1, e1, h3⟩ hn
    · rw [gl] at h3; cases h3
      rw [gσ j hj] at h4
      exact absurd ⟨j, o2, e2, h4⟩ hn
    · exact e3.symm
theorem rslv_app {t : DS} : ∀ {l : List AG} {svs : List SV}, rslv ds l = some svs → rslv (ds ++ t) l = some svs
  | [], _, h => h
  | .inl d :: r, svs, h => by
    simp only [rslv] at h ⊢
    cases e : rslv ds r with
    | none => rw [e] at h; cases h
    | some y => rw [e] at h; rw [rslv_app e]; exact h
  | .inr i :: r, svs, h => by
    simp only [rslv] at h ⊢
    split at h
    · rename_i e1 e2
      rw [List.getElem?_append_left (List.getElem?_eq_some_iff.mp e1).1, e1, rslv_app e2]
      exact h
    · cases h
theorem refs_lt : ∀ {l : List AG} {svs : List SV} {i : Nat}, rslv ds l = some svs → i ∈ refsG l → i < ds.length
  | [], _, i, _, h => by simp [refsG] at h
  | .inl d :: r, svs, i, h, hi => by
    simp only [rslv] at h
    cases e : rslv ds r with
    | none => rw [e] at h; cases h
    | some y => exact refs_lt e (by simpa [refsG] using hi)
  | .inr k :: r, svs, i, h, hi => by
    simp only [rslv] at h
    split at h
    · rename_i e1 e2
      simp only [refsG, List.mem_cons] at hi
      rcases hi with rfl | hi
      · exact (List.getElem?_eq_some_iff.mp e1).1
      · exact refs_lt e2 hi
    · cases h
theorem repG_app {t : L2.St} : ∀ {l : List AG} {vs : List V}, RepG K F σ l vs → RepG K F (σ ++ t) l vs
  | [], _, h => h
  | .inl d :: r, _, ⟨v, ws, e, h1, h2⟩ => ⟨v, ws, e, h1, repG_app h2⟩
  | .inr i :: r, _, ⟨v, ws, e, h1, h2⟩ => ⟨v, ws, e, by rw [List.getElem?_append_left (List.getElem?_eq_some_iff.mp h1).1]; exact h1, repG_app h2⟩
theorem wback_app {o : Option SV} : ∀ {l : List AG} {os : List (Option SV)} {ds : DS}, (∀ i ∈ refsG l, i < ds.length) → wback l os (ds ++ [o]) = wback l os ds ++ [o]
  | [], os, ds, _ => by simp [wback]
  | .inl d :: r, [], ds, _ => by simp [wback]
  | .inr d :: r, [], ds, _ => by simp [wback]
  | .inl d :: r, p :: os, ds, h => by simp only [wback]; exact wback_app (by simpa [refsG] using h)
  | .inr i :: r, p :: os, ds, h => by
    simp only [wback]
    have hi : i < ds.length := h i (by simp [refsG])
    rw [List.set_append_left _ _ hi]
    exact wback_app fun j hj => by rw [List.length_set]; exact h j (by simp [refsG, hj])
end
/-- C(..), nothing is raised -/
def newM (C : Addr) (n : Nat) (m : Mir) (args : M (List AG)) : M SV := bnd args fun l ds => match rslv ds l with
  | none => none
  | some svs => if (refsG l).Nodup ∧ l.length + 1 = n then match m (.own (.obj C []) :: svs) with
    | some (.ok (.val .non), some s :: outs) => some (.ok s, wback l outs ds)
    | _ => none
    else none
section
variable {X : Cx} {W : WX} {k j n : Nat} {m : Mir} {f C : Addr} {fd : FuncData} {ps : List Str} {x nm : Str} {p pos apos : Pos} {e o : Expr} {es : List Expr} {ga : M (List AG)}
theorem de_make (c : Ctx X W k) (Mk0 : Mk X.K C f) (G : FnOk X.prog X.w X.K X.mg X.base (L2.CX X.prog X.w) j f fd ps (spD X.K n m)) (hj : j + 1 ≤ k) (hm : X.mg x = some (.ref C)) (hb : Binds X.K fd ps []) (ha : DAG X W (e :: es) ga)
    (hg : Gl X x := by rfl) (hdb : (x == ("__debug__" : Str)) = false := by decide) (he : starEach (e :: es) X.env = (false, eval e X.env) :: starEach es X.env := by rfl) (hpl : (backTo pos (starEach es X.env)).any (·.1) = false := by rfl) :
    DE X W (.Call (.Name x p) (e :: es) [] pos) (newM C n m ga) := by
  obtain ⟨t, pa, qa⟩ := ha
  refine ⟨_, pe_make (dvs := []) (ds := []) Mk0 G (c.room.mono hj) hg hm hb .nil passL pa hdb he hpl, fun F σ H ds s => ?_⟩
  refine At.bind (t2 := fun vs H1 Q => ∀ x dx, H1 x = none → H1 dx = none → dx ≠ x → spD X.K n m (.ref x :: (vs ++ [])) (upd (upd H1 dx (.own x)) x (.ins C dx [])) (fun v H2 => v = .non ∧ Q (.ref x) H2) E0) mS (qa F σ H ds s) (fun l ds1 F1 H1 vs st1 rel1 => ?_) fun Q h => h
  intro r ds' Q er hq x dx hx hdx hne
  cases e1 : rslv ds1 l with
  | none => rw [e1] at er; cases er
  | some svs =>
    rw [e1] at er
    simp only at er
    by_cases hn : (refsG l).Nodup ∧ l.length + 1 = n
    · rw [if_pos hn] at er
      obtain ⟨nd, hl⟩ := hn
      split at er
      · rename_i sv outs em
        cases er
        rw [List.append_nil]
        -- the state with the instance as a slot more
        have a1 := st1.st.laid (u := .own x) hdx
        have hx1 : (upd H1 dx (.own x)) x = none := by rw [upd_ne hne.symm]; exact hx
        have a2 := a1.trans (a1.st.laid (u := .ins C dx []) hx1)
        have hF0 : F1 x = none := st1.st.sub.none_ hx
        have s3 := st_app (x := x) (o := .obj C []) a2.st hF0 ⟨dx, [], upd_same, by simp [Repf]⟩ (st1.st.nown hx)
        have g3 : RepG X.K F1 (σ ++ [some (.ref x)]) (.inr ds1.length :: l) (.ref x :: vs) := ⟨_, _, rfl, by rw [st1.st.len]; simp, repG_app rel1⟩
        have e3 : rslv (ds1 ++ [some (.own (.obj C []))]) (.inr ds1.length :: l) = some (.own (.obj C []) :: svs) := by
          simp only [rslv]
          rw [rslv_app e1]
          simp
        have nd3 : (refsG (.inr ds1.length :: l)).Nodup := by
          simp only [refsG, List.nodup_cons]
          exact ⟨fun z => Nat.lt_irrefl _ (refs_lt e1 z), nd⟩
        refine ⟨by simp [rel1.length, hl], F1, _, _, _, call_in s3 e3 g3 nd3, em, ?_⟩
        intro F' H' v st rel
        obtain ⟨st4, _⟩ := call_out s3 e3 g3 nd3 st
        have hw : wback (.inr ds1.length :: l) (some sv :: outs) (ds1 ++ [some (.own (.obj C []))]) = wback l outs ds1 ++ [some sv] := by
          simp only [wback]
          rw [List.set_append_right _ _ (Nat.le_refl _)]
          simp only [Nat.sub_self, List.set_cons_zero]
          exact wback_app fun i hi => refs_lt e1 hi
        rw [hw] at st4
        have hlw : (wback l outs ds1).length = σ.length := by rw [wback_len]; exact st1.st.len
        have hvn : v = .non := rel.1
        refine ⟨hvn, hq F' H' (.ref x) ⟨⟨st4.st.sub, hlw, fun i y h => ?_, fun i j o o' p h1 h2 h3 h4 => ?_⟩, ⟨st4.ext.ff, fun b u q nn => ?_, fun b q => ?_⟩, fun p hp => ?_⟩ ?_⟩
        · have hi := (List.getElem?_eq_some_iff.mp h).1
          obtain ⟨v, v1, v2⟩ := st4.st.slot i y (by rw [List.getElem?_append_left hi]; exact h)
          rw [List.getElem?_append_left (by omega)] at v1
          exact ⟨v, v1, v2⟩
        · have hi := (List.getElem?_eq_some_iff.mp h1).1
          have hj := (List.getElem?_eq_some_iff.mp h2).1
          exact st4.st.apart i j o o' p (by rw [List.getElem?_append_left hi]; exact h1) (by rw [List.getElem?_append_left hj]; exact h2) (by rw [List.getElem?_append_left (by omega)]; exact h3) (by rw [List.getElem?_append_left (by omega)]; exact h4)
        · have nx : b ≠ x := fun z => by subst z; rw [hx] at q; cases q
          have nd2 : b ≠ dx := fun z => by subst z; rw [hdx] at q; cases q
          refine st4.ext.fr b u (by rw [upd_ne nx, upd_ne nd2]; exact q) fun z => ?_
          rcases (oa_app (st1.st.len)).mp z with z | z
          · exact nn z
          · exact nx z
        · rcases st4.ext.nw b q with z | z | z
          · exact .inl z
          · refine .inr (.inl ?_)
            by_cases nx : b = x
            · subst nx; exact hx
            · by_cases nd2 : b = dx
              · subst nd2; exact hdx
              · rw [upd_ne nx, upd_ne nd2] at z; exact z
          · rcases (oa_app (st1.st.len)).mp z with z | z
            · exact .inr (.inr z)
            · subst z; exact .inr (.inl hx)
        · obtain ⟨i, o, h1, h2⟩ := hp
          have hi := (List.getElem?_eq_some_iff.mp h1).1
          rcases st4.oa p ⟨i, o, by rw [List.getElem?_append_left hi]; exact h1, by rw [List.getElem?_append_left (by omega)]; exact h2⟩ with z | z
          · rcases (oa_app (st1.st.len)).mp z with z | z
            · exact .inl z
            · subst z; exact .inr hx
          · refine .inr ?_
            by_cases nx : p = x
            · subst nx; exact hx
            · by_cases nd2 : p = dx
              · subst nd2; exact hdx
              · rw [upd_ne nx, upd_ne nd2] at z; exact z
        · obtain ⟨v1, w1, w2⟩ := st4.st.slot (wback l outs ds1).length sv (by simp)
          have w1' : v1 = .ref x := by
            rw [hlw] at w1; simp at w1; exact w1.symm
          subst w1'
          refine ⟨w2, fun o p eo ep => ?_⟩
          cases ep
          refine ⟨fun ⟨i, o', h1, h2⟩ => ?_, .inr hx⟩
          have hi := (List.getElem?_eq_some_iff.mp h1).1
          have := st4.st.apart i (wback l outs ds1).length o' o x (by rw [List.getElem?_append_left hi]; exact h1) (by simp [eo]) (by rw [List.getElem?_append_left (by omega)]; exact h2) (by rw [hlw]; simp)
          omega
      · cases er
    · rw [if_neg hn] at er; cases er
/-- o.m(..), nothing is raised: o a datum -/
def methV (C : Addr) (nm : Str) (n : Nat) (m : Mir) (mo : M D) (args : M (List AG)) : M SV := bnd mo fun d => match d with
  | .obj C' fs => if C' = C ∧ fs.lookup nm = none then bnd args fun l => appN n m (.inl d :: l) else stuck
  | _ => stuck
theorem Repf.lookup_none {K : PySem.W.Frag} {F : Hp} {nm : Str} : ∀ {fs : List (Str × D)} {ws : List (Str × V)}, Repf K F fs ws → fs.lookup nm = none → ws.lookup nm = none
  | [], _, h, _ => by unfold Repf at h; subst h; rfl
  | (g, d) :: r, _, h, e => by
    unfold Repf at h
    obtain ⟨v, ws, rfl, h1, h2⟩ := h
    simp only [List.lookup_cons] at e ⊢
    split at e
    · cases e
    · exact Repf.lookup_none h2 e
theorem Repf.lookup_some {K : PySem.W.Frag} {F : Hp} {nm : Str} {d0 : D} : ∀ {fs : List (Str × D)} {ws : List (Str × V)}, Repf K F fs ws → fs.lookup nm = some d0 → ∃ v, ws.lookup nm = some v ∧ Rep K F d0 v
  | [], _, h, e => by cases e
  | (g, d) :: r, _, h, e => by
    unfold Repf at h
    obtain ⟨v, ws, rfl, h1, h2⟩ := h
    simp only [List.lookup_cons] at e ⊢
    split at e
    · cases e; exact ⟨v, rfl, h1⟩
    · exact Repf.lookup_some h2 e
theorem Repf.length {K : PySem.W.Frag} {F : Hp} : ∀ {ds : List (Str × D)} {vs : List (Str × V)}, Repf K F ds vs → vs.length = ds.length
  | [], _, h => by unfold Repf at h; subst h; rfl
  | (k, d) :: ds, _, h => by
    unfold Repf at h
    obtain ⟨v, ws, rfl, _, h2⟩ := h
    simp [Repf.length h2]
theorem de_methV {pl : Sem Bool} {mo : M D} (c : Ctx X W k) (hc : Cls X.K C) (hme : Meth X.K C nm f) (G : FnOk X.prog X.w X.K X.mg X.base (L2.CX X.prog X.w) j f fd ps (spD X.K n m)) (hj : j ≤ k) (hb : Binds X.K fd ps []) (ho : DV X W o mo) (ha : DAG X W (e :: es) ga)
    (he : starEach (e :: es) X.env = (false, eval e X.env) :: starEach es X.env := by rfl) (hpl : (backTo pos (starEach es X.env)).any (·.1) = false := by rfl)
    (ht : eval (.Call (.Attribute o nm apos) (e :: es) [] pos) X.env = (do
      let ov ← eval o X.env
      standAt apos.atName
      let (f, first) ← holding [ov] (getMethod ov nm pl)
      callWith pos f first (backTo pos (starEach (e :: es) X.env)) (backToKw pos (keywordEach [] X.env))) := by rfl) : DE X W (.Call (.Attribute o nm apos) (e :: es) [] pos) (methV C nm n m mo ga) := by
  obtain ⟨t0, p0, q0⟩ := ho
  obtain ⟨t, pa, qa⟩ := ha
  refine ⟨_, pe_meth (dvs := []) (ds := []) p0 hc hme G (c.room.mono hj) hb .nil passL pa he hpl ht, fun F σ H ds s => ?_⟩
  refine At.bind (t2 := fun x H1 Q => ∃ a dx fs, x = V.ref a ∧ H1 a = some (.ins C dx fs) ∧ fs.lookup nm = none ∧ t σ H1 fun vs H2 => spD X.K n m (x :: (vs ++ [])) H2 Q E0) mS (q0 F σ H ds s) (fun d ds1 F1 H1 x st1 rel1 => ?_) fun Q h => h
  cases d with
  | obj C' fs =>
    simp only
    by_cases hq : C' = C ∧ fs.lookup nm = none
    · rw [if_pos hq]
      obtain ⟨rfl, hq2⟩ := hq
      have rel1' := rel1
      unfold RelD Rep at rel1'
      obtain ⟨a, dx, ws, rfl, h1, h2⟩ := rel1'
      refine At.bind (t2 := fun vs H2 Q => spD X.K n m (.ref a :: vs) H2 Q E0) mS (qa F1 σ H1 ds1 st1.st) (fun l ds2 F2 H2 vs st2 rel2 => ?_) fun Q h => ⟨a, dx, ws, rfl, st1.st.sub.ins h1, Repf.lookup_none h2 hq2, by simpa using h⟩
      exact appN_at (l := .inl (.obj C' fs) :: l) (vs := .ref a :: vs) st2.st ⟨.ref a, vs, rfl, Rep.mono st2.ext.ff rel1, rel2⟩
    · rw [if_neg hq]; exact At.none_
  | _ => exact At.none_
theorem de_methV0 {pl : Sem Bool} {mo : M D} (c : Ctx X W k) (hc : Cls X.K C) (hme : Meth X.K C nm f) (G : FnOk X.prog X.w X.K X.mg X.base (L2.CX X.prog X.w) j f fd ps (spD X.K n m)) (hj : j ≤ k) (hb : Binds X.K fd ps []) (ho : DV X W o mo)
    (ht : eval (.Call (.Attribute o nm apos) [] [] pos) X.env = (do
      let ov ← eval o X.env
      standAt apos.atName
      let (f, first) ← holding [ov] (getMethod ov nm pl)
      callWith pos f first (backTo pos (starEach [] X.env)) (backToKw pos (keywordEach [] X.env))) := by rfl) : DE X W (.Call (.Attribute o nm apos) [] [] pos) (methV C nm n m mo gNilA) := by
  obtain ⟨t0, p0, q0⟩ := ho
  refine ⟨_, pe_meth0 (dvs := []) (ds := []) p0 hc hme G (c.room.mono hj) hb .nil passL ht, fun F σ H ds s => ?_⟩
  refine At.bind (t2 := fun x H1 Q => ∃ a dx fs, x = V.ref a ∧ H1 a = some (.ins C dx fs) ∧ fs.lookup nm = none ∧ tNil σ H1 fun vs H2 => spD X.K n m (x :: (vs ++ [])) H2 Q E0) mS (q0 F σ H ds s) (fun d ds1 F1 H1 x st1 rel1 => ?_) fun Q h => h
  cases d with
  | obj C' fs =>
    simp only
    by_cases hq : C' = C ∧ fs.lookup nm = none
    · rw [if_pos hq]
      obtain ⟨rfl, hq2⟩ := hq
      have rel1' := rel1
      unfold RelD Rep at rel1'
      obtain ⟨a, dx, ws, rfl, h1, h2⟩ := rel1'
      have z : At X.K W (RelS X.K σ) F1 H1 σ ds1 (fun Q => spD X.K n m [.ref a] H1 Q E0) (appN n m [.inl (.obj C' fs)] ds1) := appN_at (l := [.inl (.obj C' fs)]) (vs := [.ref a]) st1.st ⟨.ref a, [], rfl, rel1, by unfold RepG; rfl⟩
      intro r ds' Q er hh
      exact ⟨a, dx, ws, rfl, st1.st.sub.ins h1, Repf.lookup_none h2 hq2, z r ds' Q er hh⟩
    · rw [if_neg hq]; exact At.none_
  | _ => exact At.none_
end
end DL
/-! DLg: comprehensions. -/
namespace DL
open PySem PySem.Spec PyProof.Rows L2
abbrev W0 : WX := fun _ _ _ _ => False
abbrev BIx := Shared × Hp × Addr × List (Str × Addr) × List Addr
abbrev blkX (X : Cx) (scope : Scope) (i : BIx) : Cx := X.blk i.1 i.2.1 scope (compEnvC scope i.2.2.2.1 i.2.2.1 X.env) i.2.2.2.2
section
variable {X : Cx} {W : WX} {scope : Scope} {e tg : Expr} {k : Nat}
theorem Ctx.blk (c : Ctx X W k) (i : BIx) : Ctx (blkX X scope i) W0 k := ⟨c.calm, c.nd, PassesOwn.never, takes0, c.room⟩
theorem dv_all {m : M D} (h : ∀ i : BIx, DV (blkX X scope i) W0 e m) : ∃ te, (∀ i : BIx, PE (blkX X scope i) e te) ∧ ∀ F σ H ds, StR X.K F H σ ds → At X.K W0 (RelD X.K) F H σ ds (te σ H) (m ds) := by
  refine ⟨fun σ H Q => ∀ i : BIx, (h i).choose σ H Q, fun i => ⟨fun pins s σ H Q I hw => (h i).choose_spec.1.run pins s σ H Q I (hw i)⟩, fun F σ H ds s r ds' Q er hq i => ?_⟩
  exact (h i).choose_spec.2 F σ H ds s r ds' Q er hq
theorem dt_all {m : M Bool} (h : ∀ i : BIx, DT (blkX X scope i) W0 e m) : ∃ te, (∀ i : BIx, PT (blkX X scope i) e te) ∧ ∀ F σ H ds, StR X.K F H σ ds → At X.K W0 RelB F H σ ds (te σ H) (m ds) := by
  refine ⟨fun σ H Q => ∀ i : BIx, (h i).choose σ H Q, fun i => ⟨fun pins s σ H Q I hw => (h i).choose_spec.1.run pins s σ H Q I (hw i)⟩, fun F σ H ds s r ds' Q er hq i => ?_⟩
  exact (h i).choose_spec.2 F σ H ds s r ds' Q er hq
theorem dg_all {keep : List Bool} {f : TgF} (h : ∀ i : BIx, DG (blkX X scope i) keep tg f) : ∃ g, (∀ i : BIx, PG (blkX X scope i) tg g) ∧ ∀ F σ H ds d x ds1, StR X.K F H σ ds → Rep X.K F d x → f d ds = some ds1 → ∀ Q : L2.St → Hp → Prop, (∀ F' H' σ', Stp X.K F H σ ds F' H' σ' ds1 → Kp keep σ σ' → Q σ' H') → g x σ H Q := by
  refine ⟨fun x σ H Q => ∀ i : BIx, (h i).choose x σ H Q, fun i => ⟨fun pins s σ H v u Q I r hw => (h i).choose_spec.1.run pins s σ H v u Q I r (hw i)⟩, fun F σ H ds d x ds1 s r er Q hq i => ?_⟩
  exact (h i).choose_spec.2 F σ H ds d x ds1 s r er Q hq
end
def wipeD (ds : DS) : List Nat → DS
  | [] => ds
  | v :: vs => (wipeD ds vs).set v none
/-- a slot that a block's own name hid: its datum again -/
def valO (o : Option (Option SV)) : Option SV := match o with
  | some (some (.val d)) => some (.val d)
  | _ => none
def restD (ds0 ds : DS) : List Nat → DS
  | [] => ds
  | v :: vs => (restD ds0 ds vs).set v (valO ds0[v]?)
def lcGo (vs : List Nat) (tg : TgF) (t : M Bool) (e : M D) : List D → List D → M (List D)
  | [], acc => ret acc
  | d :: r, acc => fun ds => match tg d (wipeD ds vs) with
    | none => none
    | some ds1 => match t ds1 with
      | some (.ok true, ds2) => match e ds2 with
        | some (.ok y, ds3) => if acc.length < sizeLine then lcGo vs tg t e r (acc ++ [y]) ds3 else none
        | _ => none
      | some (.ok false, ds2) => lcGo vs tg t e r acc ds2
      | _ => none
def lcM (vs : List Nat) (mi : M (List D)) (tg : TgF) (t : M Bool) (e : M D) : M SV := bnd mi fun xs ds => match lcGo vs tg t e xs [] ds with
  | some (.ok ys, ds') => some (.ok (.own (.lst ys)), restD ds (wipeD ds' vs) vs)
  | _ => none
section
variable {K : PySem.W.Frag} {W : WX} {F H F' H' : Hp} {σ σ' : L2.St} {ds ds' : DS} {vs : List Nat}
theorem wipeD_len : ∀ {vs : List Nat}, (wipeD ds vs).length = ds.length
  | [] => rfl
  | v :: vs => by unfold wipeD; rw [List.length_set, wipeD_len]
theorem restD_len {ds0 : DS} : ∀ {vs : List Nat}, (restD ds0 ds vs).length = ds.length
  | [] => rfl
  | v :: vs => by unfold restD; rw [List.length_set, restD_len]
theorem wipeD_some {i : Nat} {x : SV} : ∀ {vs : List Nat}, (wipeD ds vs)[i]? = some (some x) → ds[i]? = some (some x) ∧ i ∉ vs
  | [], h => ⟨h, by simp⟩
  | v :: vs, h => by
    unfold wipeD at h
    by_cases hi : v = i
    · subst hi
      by_cases hv : v < (wipeD ds vs).length
      · rw [List.getElem?_set_self hv] at h; cases h
      · rw [List.getElem?_eq_none (by simpa using hv)] at h; cases h
    · rw [List.getElem?_set_ne hi] at h
      obtain ⟨h1, h2⟩ := wipeD_some h
      exact ⟨h1, by simp only [List.mem_cons, not_or]; exact ⟨fun e => hi e.symm, h2⟩⟩
theorem wipe_get {i : Nat} : ∀ {vs : List Nat}, i ∉ vs → (wipe σ vs)[i]? = σ[i]?
  | [], _ => rfl
  | v :: vs, h => by
    simp only [List.mem_cons, not_or] at h
    unfold wipe
    rw [List.getElem?_set_ne (fun e => h.1 e.symm), wipe_get h.2]
theorem wipe_in {i : Nat} : ∀ {vs : List Nat}, i ∈ vs → i < σ.length → (wipe σ vs)[i]? = some none
  | v :: vs, h, hl => by
    unfold wipe
    by_cases hi : v = i
    · subst hi; rw [List.getElem?_set_self (by rw [wipe_length]; exact hl)]
    · rw [List.getElem?_set_ne hi]
      exact wipe_in ((List.mem_cons.mp h).elim (fun e => absurd e.symm hi) id) hl
theorem restD_some {ds0 : DS} {i : Nat} {x : SV} : ∀ {vs : List Nat}, (restD ds0 ds vs)[i]? = some (some x) → (i ∉ vs ∧ ds[i]? = some (some x)) ∨ (i ∈ vs ∧ ∃ d, x = .val d ∧ ds0[i]? = some (some (.val d)))
  | [], h => .inl ⟨by simp, h⟩
  | v :: vs, h => by
    unfold restD at h
    by_cases hi : v = i
    · subst hi
      by_cases hv : v < (restD ds0 ds vs).length
      · rw [List.getElem?_set_self hv] at h
        unfold valO at h
        split at h
        · rename_i d e
          cases h
          exact .inr ⟨by simp, d, rfl, e⟩
        · cases h
      · rw [List.getElem?_eq_none (by simpa using hv)] at h; cases h
    · rw [List.getElem?_set_ne hi] at h
      rcases restD_some h with ⟨h1, h2⟩ | ⟨h1, h2⟩
      · exact .inl ⟨by simp only [List.mem_cons, not_or]; exact ⟨fun e => hi e.symm, h1⟩, h2⟩
      · exact .inr ⟨List.mem_cons_of_mem _ h1, h2⟩
/-- into the block; also from one turn to the next -/
theorem blk_in {σ0 : L2.St} {ds0 : DS} {F0 H0 : Hp} (a : Stp K F0 H0 σ0 ds0 F H σ ds) (hw : wipe σ vs = wipe σ' vs) (hlen : σ.length = σ'.length) : Stp K F0 H0 σ0 ds0 F H (wipe σ' vs) (wipeD ds vs) := by
  have g : ∀ (i : Nat) (x : SV), (wipeD ds vs)[i]? = some (some x) → ds[i]? = some (some x) ∧ (wipe σ' vs)[i]? = σ[i]? := fun i x h => by
    obtain ⟨h1, h2⟩ := wipeD_some h
    exact ⟨h1, by rw [← hw, wipe_get h2]⟩
  refine ⟨⟨a.st.sub, by rw [wipeD_len, wipe_length, ← hlen]; exact a.st.len, fun i x h => ?_, fun i j o o' p h1 h2 h3 h4 => ?_⟩, a.ext, fun p ⟨i, o, h1, h2⟩ => ?_⟩
  · obtain ⟨a1, a2⟩ := g i x h
    rw [a2]; exact a.st.slot i x a1
  · obtain ⟨a1, a2⟩ := g i _ h1
    obtain ⟨b1, b2⟩ := g j _ h2
    rw [a2] at h3; rw [b2] at h4
    exact a.st.apart i j o o' p a1 b1 h3 h4
  · obtain ⟨a1, a2⟩ := g i _ h1
    rw [a2] at h2
    exact a.oa p ⟨i, o, a1, h2⟩
/-- out of the block -/
theorem blk_out (s : StR K F H σ ds) (a : Stp K F H σ ds F' H' (wipe σ vs) ds') : Stp K F H σ ds F' H' σ (restD ds ds' vs) := by
  have g : ∀ (i : Nat) (o : OO), (restD ds ds' vs)[i]? = some (some (.own o)) → ds'[i]? = some (some (.own o)) ∧ (wipe σ vs)[i]? = σ[i]? := fun i o h => by
    rcases restD_some h with ⟨h1, h2⟩ | ⟨h1, d, e, _⟩
    · exact ⟨h2, wipe_get h1⟩
    · cases e
  refine ⟨⟨a.st.sub, by rw [restD_len, a.st.len, wipe_length], fun i x h => ?_, fun i j o o' p h1 h2 h3 h4 => ?_⟩, a.ext, fun p ⟨i, o, h1, h2⟩ => ?_⟩
  · rcases restD_some h with ⟨h1, h2⟩ | ⟨h1, d, rfl, h2⟩
    · obtain ⟨v, e1, e2⟩ := a.st.slot i x h2
      rw [wipe_get h1] at e1
      exact ⟨v, e1, e2⟩
    · obtain ⟨v, e1, e2⟩ := s.slot i _ h2
      exact ⟨v, e1, Rep.mono a.ext.ff e2⟩
  · obtain ⟨a1, a2⟩ := g i _ h1
    obtain ⟨b1, b2⟩ := g j _ h2
    rw [← a2] at h3; rw [← b2] at h4
    exact a.st.apart i j o o' p a1 b1 h3 h4
  · obtain ⟨a1, a2⟩ := g i _ h1
    rw [← a2] at h2
    exact a.oa p ⟨i, o, a1, h2⟩
theorem wipe_keep {keep : List Bool} (hk : ∀ i, i < σ.length → keep.getD i false = true ∨ i ∈ vs) (k : Kp keep (wipe σ vs) σ') : wipe σ' vs = wipe σ vs := by
  have hl : σ'.length = σ.length := by rw [k.len, wipe_length]
  apply List.ext_getElem?
  intro i
  by_cases hv : i ∈ vs
  · by_cases hi : i < σ.length
    · rw [wipe_in hv (by omega), wipe_in hv hi]
    · rw [List.getElem?_eq_none (by rw [wipe_length]; omega), List.getElem?_eq_none (by rw [wipe_length]; omega)]
  · rw [wipe_get hv]
    by_cases hi : i < σ.length
    · rcases hk i hi with z | z
      · exact k.at_ i z
      · exact absurd z hv
    · rw [List.getElem?_eq_none (by omega), List.getElem?_eq_none (by rw [wipe_length]; omega)]
end
section
variable {X : Cx} {W : WX} {scope : Scope} {elt tg iter : Expr} {k : Nat} {pos : Pos} {own : List (Str × Nat)} {keep : List Bool} {mi : M (List D)} {f : TgF} {mt : M Bool} {me : M D}
theorem lc_at {wi : TI} {g : TG} {tt : TT} {te : TE} {vs : List Nat} {F H : Hp} {σ : L2.St} {ds : DS} (s : StR X.K F H σ ds) (hk : ∀ i, i < σ.length → keep.getD i false = true ∨ i ∈ vs)
    (qi : At X.K W (RelI X.K σ) F H σ ds (wi σ H) (mi ds)) (qg : ∀ F σ H ds d x ds1, StR X.K F H σ ds → Rep X.K F d x → f d ds = some ds1 → ∀ Q : L2.St → Hp → Prop, (∀ F' H' σ', Stp X.K F H σ ds F' H' σ' ds1 → Kp keep σ σ' → Q σ' H') → g x σ H Q)
    (qt : ∀ F σ H ds, StR X.K F H σ ds → At X.K W0 RelB F H σ ds (tt σ H) (mt ds)) (qe : ∀ F σ H ds, StR X.K F H σ ds → At X.K W0 (RelD X.K) F H σ ds (te σ H) (me ds)) :
    At X.K W (RelS X.K σ) F H σ ds (tLc wi g tt te vs σ H) (lcM vs mi f mt me ds) := by
  refine At.bind (t2 := fun (J : It) H1 Q => ∀ D, H1 D = none → ∃ W : Nat → Nat → Hp → Prop, (∃ m, W 0 m (upd H1 D (.lst []))) ∧ ∀ i m H, W i m H →
    (J.stop i H ∧ Q (.ref D) H) ∨ (J.go i H ∧ ∃ Nx : Hp → Prop, (∀ H', Nx H' → ∃ m', m' < m ∧ W (i + 1) m' H') ∧ ∀ x H', J.yld i H x H' → g x (wipe σ vs) H' fun σ2 H2 => wipe σ2 vs = wipe σ vs ∧ tt σ2 H2 fun b H3 =>
      if b = true then te σ2 H3 fun y H4 => ∃ acc, H4 D = some (.lst acc) ∧ acc.length < sizeLine ∧ Nx (upd H4 D (.lst (acc ++ [y]))) else Nx H3)) mS qi (fun xs ds1 F1 H1 J st1 rel => ?_) fun Q h => h
  intro r ds' Q er hq A hA
  obtain ⟨n, G, Y, wk, hn, hG, hY⟩ := rel
  subst hn
  cases eg : lcGo vs f mt me xs [] ds1 with
  | none => rw [eg] at er; cases er
  | some z =>
    obtain ⟨r0, dsF⟩ := z
    rw [eg] at er
    cases r0 with
    | exc C fs => cases er
    | ok ys =>
      cases er
      have hA0 : F1 A = none := st1.st.sub.none_ hA
      -- the list at A: nobody's slot
      have base := st1.st.laid (u := .lst []) hA
      refine lc_it wk (fun i H2 => ∃ F2 ds2 acc accv, Stp X.K F1 H1 σ ds1 F2 H2 (wipe σ vs) (wipeD ds2 vs) ∧ F2 A = none ∧ ¬ OA (wipe σ vs) (wipeD ds2 vs) A ∧ H2 A = some (.lst accv) ∧ Reps X.K F2 acc accv ∧ lcGo vs f mt me (xs.drop i) acc ds2 = some (.ok ys, dsF))
        ⟨F1, ds1, [], [], blk_in base rfl rfl, hA0, fun z => ?_, upd_same, Reps.nil, eg⟩ (fun i H2 _ ⟨F2, ds2, acc, accv, st2, _⟩ => hG F2 H2 _ _ st2) ?_ ?_
      · obtain ⟨i, o, h1, h2⟩ := z
        obtain ⟨a1, a2⟩ := wipeD_some h1
        rw [wipe_get a2] at h2
        exact st1.st.nown hA ⟨i, o, a1, h2⟩
      · rintro i x H2 H3 hi ⟨F2, ds2, acc, accv, st2, hF2, hO2, hH2, hacc, e2⟩ y
        have hx : xs[i]? = some xs[i] := List.getElem?_eq_getElem hi
        rw [List.drop_eq_getElem_cons hi] at e2
        obtain ⟨F3, st3, r3⟩ := hY i F2 H2 _ _ x H3 _ st2 hx y
        simp only [lcGo] at e2
        cases et : f xs[i] (wipeD ds2 vs) with
        | none => rw [et] at e2; cases e2
        | some ds3 =>
          rw [et] at e2
          simp only at e2
          refine qg F3 _ H3 _ _ x ds3 st3.st r3 et _ fun F4 H4 σ4 st4 k4 => ?_
          have hw : wipe σ4 vs = wipe σ vs := by
            have := wipe_keep (σ := wipe σ vs) (σ' := σ4) (vs := vs) (keep := keep) (fun i hi => hk i (by rw [wipe_length] at hi; exact hi)) (by
              have e : wipe (wipe σ vs) vs = wipe σ vs := by
                apply List.ext_getElem?
                intro i
                by_cases hv : i ∈ vs
                · by_cases hi : i < σ.length
                  · rw [wipe_in hv (by rw [wipe_length]; exact hi), wipe_in hv hi]
                  · rw [List.getElem?_eq_none (by rw [wipe_length, wipe_length]; omega), List.getElem?_eq_none (by rw [wipe_length]; omega)]
                · rw [wipe_get hv]
              rw [e]; exact k4)
            rw [this]
            apply List.ext_getElem?
            intro i
            by_cases hv : i ∈ vs
            · by_cases hi : i < σ.length
              · rw [wipe_in hv (by rw [wipe_length]; exact hi), wipe_in hv hi]
              · rw [List.getElem?_eq_none (by rw [wipe_length, wipe_length]; omega), List.getElem?_eq_none (by rw [wipe_length]; omega)]
            · rw [wipe_get hv]
          have hlen4 : σ4.length = σ.length := by rw [k4.len, wipe_length]
          refine ⟨hw, ?_⟩
          have st24 := (st2.trans st3).trans st4
          -- A is kept by whatever runs from st2's state on
          have keepA : ∀ {F5 H5 : Hp} {σ5 : L2.St} {ds5 : DS}, Stp X.K F2 H2 (wipe σ vs) (wipeD ds2 vs) F5 H5 σ5 ds5 → H5 A = some (.lst accv) ∧ F5 A = none ∧ ¬ OA σ5 ds5 A := fun {F5 H5 σ5 ds5} st5 => by
            refine ⟨st5.ext.fr A _ hH2 hO2, ?_, fun z => ?_⟩
            · cases zz : F5 A with
              | none => rfl
              | some u =>
                rcases st5.ext.nw A (by rw [zz]; simp) with q | q | q
                · exact absurd hF2 q
                · rw [hH2] at q; cases q
                · exact absurd q hO2
            · rcases st5.oa A z with q | q
              · exact hO2 q
              · rw [hH2] at q; cases q
          cases ett : mt ds3 with
          | none => rw [ett] at e2; cases e2
          | some z5 =>
            obtain ⟨r5, ds5⟩ := z5
            rw [ett] at e2
            refine qt F4 σ4 H4 ds3 st4.st r5 ds5 _ ett ?_
            cases r5 with
            | exc C fs => cases e2
            | ok b =>
              intro F5 H5 b' st5 rel5
              cases rel5
              have st25 := st24.trans st5
              cases b with
              | false =>
                simp only [Bool.false_eq_true, if_false] at e2 ⊢
                obtain ⟨kA1, kA2, kA3⟩ := keepA ((st3.trans st4).trans st5)
                refine ⟨F5, ds5, acc, accv, blk_in st25 hw hlen4, kA2, fun z => ?_, kA1, hacc.mono ((st3.trans st4).trans st5).ext.ff, e2⟩
                obtain ⟨i', o, h1, h2⟩ := z
                obtain ⟨a1, a2⟩ := wipeD_some h1
                rw [← hw, wipe_get a2] at h2
                exact kA3 ⟨i', o, a1, h2⟩
              | true =>
                simp only [if_true] at e2 ⊢
                cases eee : me ds5 with
                | none => rw [eee] at e2; cases e2
                | some z6 =>
                  obtain ⟨r6, ds6⟩ := z6
                  rw [eee] at e2
                  refine qe F5 σ4 H5 ds5 st5.st r6 ds6 _ eee ?_
                  cases r6 with
                  | exc C fs => cases e2
                  | ok yd =>
                    intro F6 H6 yv st6 rel6
                    have stX := ((st3.trans st4).trans st5).trans st6
                    obtain ⟨kA1, kA2, kA3⟩ := keepA stX
                    simp only at e2
                    have hla : accv.length = acc.length := hacc.length
                    by_cases hsz : acc.length < sizeLine
                    · rw [if_pos hsz] at e2
                      refine ⟨accv, kA1, by rw [hla]; exact hsz, ?_⟩
                      have st26 := st25.trans st6
                      have hO6 : ¬ OA (wipe σ vs) (wipeD ds6 vs) A := fun z => by
                        obtain ⟨i', o, h1, h2⟩ := z
                        obtain ⟨a1, a2⟩ := wipeD_some h1
                        rw [← hw, wipe_get a2] at h2
                        exact kA3 ⟨i', o, a1, h2⟩
                      have stB := blk_in st26 hw hlen4
                      -- the new item is stored
                      have stC : Stp X.K F1 H1 σ ds1 F6 (upd H6 A (.lst (accv ++ [yv]))) (wipe σ vs) (wipeD ds6 vs) := by
                        refine ⟨⟨fun b u q => ?_, stB.st.len, fun j y' q => ?_, stB.st.apart⟩, ⟨stB.ext.ff, fun b u q nn => ?_, stB.ext.nw⟩, stB.oa⟩
                        · have hb : b ≠ A := fun z => by rw [z, kA2] at q; cases q
                          rw [upd_ne hb]; exact stB.st.sub b u q
                        · obtain ⟨v1, v2, v3⟩ := stB.st.slot j y' q
                          refine ⟨v1, v2, v3.keep fun q' o' ee ev => ?_⟩
                          subst ee; subst ev
                          exact upd_ne fun z => hO6 ⟨j, o', q, by rw [v2, z]⟩
                        · have hb : b ≠ A := fun z => by rw [z, hA] at q; cases q
                          rw [upd_ne hb]; exact stB.ext.fr b u q nn
                      exact ⟨F6, ds6, acc ++ [yd], accv ++ [yv], stC, kA2, hO6, upd_same, Reps.append (hacc.mono stX.ext.ff) (Reps.cons rel6 Reps.nil), e2⟩
                    · rw [if_neg hsz] at e2; cases e2
      · rintro H2 ⟨F2, ds2, acc, accv, st2, hF2, hO2, hH2, hacc, e2⟩
        rw [List.drop_length] at e2
        cases e2
        refine hq F2 H2 _ (blk_out st1.st st2) ⟨⟨A, rfl, hF2, accv, hH2, hacc⟩, fun o p e1 e3 => ?_⟩
        cases e3
        refine ⟨fun ⟨i, o', h1, h2⟩ => ?_, .inr hA⟩
        rcases restD_some h1 with ⟨q1, q2⟩ | ⟨_, d, q, _⟩
        · exact hO2 ⟨i, o', q2, by rw [wipe_get q1]; exact h2⟩
        · cases q
theorem keep_of {keep : List Bool} {n : Nat} {vs : List Nat} (h : ((List.range n).all fun i => keep.getD i false || vs.contains i) = true) {σ : L2.St} (hl : σ.length = n) : ∀ i, i < σ.length → keep.getD i false = true ∨ i ∈ vs := fun i hi => by
  have q := List.all_eq_true.mp h i (List.mem_range.mpr (by omega))
  simpa using q
theorem de_lc (c : Ctx X W k) (hi : DI X W tg iter mi) (ok : BlkOk X.N X.env.scope scope own) (hg : ∀ i : BIx, DG (blkX X scope i) keep tg f) (he : ∀ i : BIx, DV (blkX X scope i) W0 elt me)
    (hk : ((List.range X.N.length).all fun i => keep.getD i false || (own.map (·.2)).contains i) = true := by rfl) (hs : ∀ x, foldedSetIterable iter X.env x = pure x := by intro _; rfl) :
    DE X W (.ListComp elt [⟨tg, iter, [], 0⟩] scope pos) (lcM (own.map (·.2)) mi f (ret true) me) := by
  obtain ⟨wi, pi_, qi⟩ := hi
  obtain ⟨g, pg, qg⟩ := dg_all hg
  obtain ⟨te, pe, qe⟩ := dv_all he
  have hP : PE X (.ListComp elt [⟨tg, iter, [], 0⟩] scope pos) (tLc wi g tYes te (own.map (·.2))) :=
    pe_lc c.calm c.nd pi_ ok (fun s H C cl fp => pg (s, H, C, cl, fp)) (fun s H C cl fp => pts_nil) (fun s H C cl fp => pe (s, H, C, cl, fp)) hs
  refine ⟨fun σ H Q => σ.length = X.N.length → tLc wi g tYes te (own.map (·.2)) σ H Q, ⟨fun pins s σ H Q I hw => hP.run pins s σ H Q I (hw I.len)⟩, fun F σ H ds s r ds' Q er hq hl => ?_⟩
  exact lc_at s (keep_of hk hl) (qi F σ H ds s) qg (fun F σ H ds s => At.ret s rfl fun Q h => h) qe r ds' Q er hq
theorem de_lcIf {ci : Expr} (c : Ctx X W k) (hi : DI X W tg iter mi) (ok : BlkOk X.N X.env.scope scope own) (hg : ∀ i : BIx, DG (blkX X scope i) keep tg f) (ht : ∀ i : BIx, DT (blkX X scope i) W0 ci mt) (he : ∀ i : BIx, DV (blkX X scope i) W0 elt me)
    (hk : ((List.range X.N.length).all fun i => keep.getD i false || (own.map (·.2)).contains i) = true := by rfl) (hs : ∀ x, foldedSetIterable iter X.env x = pure x := by intro _; rfl) :
    DE X W (.ListComp elt [⟨tg, iter, [ci], 0⟩] scope pos) (lcM (own.map (·.2)) mi f mt me) := by
  obtain ⟨wi, pi_, qi⟩ := hi
  obtain ⟨g, pg, qg⟩ := dg_all hg
  obtain ⟨tt, pt, qt⟩ := dt_all ht
  obtain ⟨te, pe, qe⟩ := dv_all he
  have hP : PE X (.ListComp elt [⟨tg, iter, [ci], 0⟩] scope pos) (tLc wi g tt te (own.map (·.2))) :=
    pe_lc c.calm c.nd pi_ ok (fun s H C cl fp => pg (s, H, C, cl, fp)) (fun s H C cl fp => pts_one (pt (s, H, C, cl, fp))) (fun s H C cl fp => pe (s, H, C, cl, fp)) hs
  refine ⟨fun σ H Q => σ.length = X.N.length → tLc wi g tt te (own.map (·.2)) σ H Q, ⟨fun pins s σ H Q I hw => hP.run pins s σ H Q I (hw I.len)⟩, fun F σ H ds s r ds' Q er hq hl => ?_⟩
  exact lc_at s (keep_of hk hl) (qi F σ H ds s) qg qt qe r ds' Q er hq
/-- name = [..], the name a local: core -/
theorem set_core {st : Stmt} {t : TE} {m : M SV} {keep2 : List Bool} {i : Nat} (hP : PS X st (tAsg t (gName i))) (hk : keep2.getD i false = false) (q : ∀ F σ H ds, σ.length = X.N.length → StR X.K F H σ ds → At X.K W (RelS X.K σ) F H σ ds (t σ H) (m ds)) : DSt X W keep2 st (setM i m) := by
  refine ⟨fun D σ H => σ.length = X.N.length → tAsg t (gName i) D σ H, ⟨fun pins s σ H D I hw => hP.run pins s σ H D I (hw I.len)⟩, fun F σ H ds s r ds' D er hq hl => ?_⟩
  refine AtS.bind (t := fun D => tAsg t (gName i) D σ H) (f := fun s ds => some (.ok .nx, ds.set i (some s))) (t2 := fun v H1 D => D.nx (σ.set i (some v)) H1) (q F σ H ds hl s) (fun a ds1 F1 H1 b s1 rel r ds' D e hq => ?_) (fun D h => h) r ds' D er hq
  cases e
  by_cases hl : i < σ.length
  · exact hq F1 H1 _ (s1.seti hl rel) (Kp.set hk)
  · have e1 : σ.set i (some b) = σ := List.set_eq_of_length_le (by omega)
    have e2 : ds1.set i (some a) = ds1 := List.set_eq_of_length_le (by rw [s1.st.len]; omega)
    rw [e1]
    rw [e2] at hq
    exact hq F1 H1 σ s1 Kp.refl
theorem dst_setLc (i : Nat) {y : Str} {py spos : Pos} {keep2 : List Bool} (c : Ctx X W k) (hsw : swapsWith (.ListComp elt [⟨tg, iter, [], 0⟩] scope pos) (some (.Name y py)) spos.line X.env = pure true) (hi : DI X W tg iter mi) (ok : BlkOk X.N X.env.scope scope own) (hg : ∀ i : BIx, DG (blkX X scope i) keep tg f) (he : ∀ i : BIx, DV (blkX X scope i) W0 elt me)
    (hy : X.N[i]? = some y := by rfl) (hyl : X.env.scope.names.lookup y = some .local := by rfl) (hk2 : keep2.getD i false = false := by rfl) (hk : ((List.range X.N.length).all fun i => keep.getD i false || (own.map (·.2)).contains i) = true := by rfl) (hs : ∀ x, foldedSetIterable iter X.env x = pure x := by intro _; rfl) :
    DSt X W keep2 (.Assign [.Name y py] (.ListComp elt [⟨tg, iter, [], 0⟩] scope pos) spos) (setM i (lcM (own.map (·.2)) mi f (ret true) me)) := by
  obtain ⟨wi, pi_, qi⟩ := hi
  obtain ⟨g, pg, qg⟩ := dg_all hg
  obtain ⟨te, pe, qe⟩ := dv_all he
  exact set_core (ps_setLc (tt := tYes) c.calm c.nd hy hyl hsw pi_ ok (fun s H C cl fp => pg (s, H, C, cl, fp)) (fun s H C cl fp => pts_nil) (fun s H C cl fp => pe (s, H, C, cl, fp)) hs) hk2
    fun F σ H ds hl s => lc_at s (keep_of hk hl) (qi F σ H ds s) qg (fun F σ H ds s => At.ret s rfl fun Q h => h) qe
theorem dst_setLcIf (i : Nat) {y : Str} {py spos : Pos} {keep2 : List Bool} {ci : Expr} (c : Ctx X W k) (hsw : swapsWith (.ListComp elt [⟨tg, iter, [ci], 0⟩] scope pos) (some (.Name y py)) spos.line X.env = pure true) (hi : DI X W tg iter mi) (ok : BlkOk X.N X.env.scope scope own) (hg : ∀ i : BIx, DG (blkX X scope i) keep tg f) (ht : ∀ i : BIx, DT (blkX X scope i) W0 ci mt) (he : ∀ i : BIx, DV (blkX X scope i) W0 elt me)
    (hy : X.N[i]? = some y := by rfl) (hyl : X.env.scope.names.lookup y = some .local := by rfl) (hk2 : keep2.getD i false = false := by rfl) (hk : ((List.range X.N.length).all fun i => keep.getD i false || (own.map (·.2)).contains i) = true := by rfl) (hs : ∀ x, foldedSetIterable iter X.env x = pure x := by intro _; rfl) :
    DSt X W keep2 (.Assign [.Name y py] (.ListComp elt [⟨tg, iter, [ci], 0⟩] scope pos) spos) (setM i (lcM (own.map (·.2)) mi f mt me)) := by
  obtain ⟨wi, pi_, qi⟩ := hi
  obtain ⟨g, pg, qg⟩ := dg_all hg
  obtain ⟨tt, pt, qt⟩ := dt_all ht
  obtain ⟨te, pe, qe⟩ := dv_all he
  exact set_core (ps_setLc c.calm c.nd hy hyl hsw pi_ ok (fun s H C cl fp => pg (s, H, C, cl, fp)) (fun s H C cl fp => pts_one (pt (s, H, C, cl, fp))) (fun s H C cl fp => pe (s, H, C, cl, fp)) hs) hk2
    fun F σ H ds hl s => lc_at s (keep_of hk hl) (qi F σ H ds s) qg qt qe
end
end DL
/-! DLh: equality, arithmetic, order, membership by data. -/
namespace DL
open PySem PySem.Spec PyProof.Rows L2
mutual
def eqD : D → D → Bool
  | .str x, .str y => x == y
  | .non, .non => true
  | .bl a, .bl b => a == b
  | .bl a, .int j => (if a then 1 else 0) == j
  | .int i, .bl b => i == (if b then 1 else 0)
  | .int i, .int j => i == j
  | .lst xs, .lst ys => eqDs xs ys
  | .tup xs, .tup ys => eqDs xs ys
  | _, _ => false
def eqDs : List D → List D → Bool
  | [], [] => true
  | x :: xs, y :: ys => eqD x y && eqDs xs ys
  | _, _ => false
end
mutual
def flatD : D → Bool
  | .non => true
  | .bl _ => true
  | .int _ => true
  | .str z => PyData.strOk z
  | .lst xs => flatDs xs
  | .tup xs => flatDs xs
  | _ => false
def flatDs : List D → Bool
  | [] => true
  | x :: xs => flatD x && flatDs xs
end
mutual
def depD : D → Nat
  | .lst xs => depDs xs + 1
  | .tup xs => depDs xs + 1
  | _ => 0
def depDs : List D → Nat
  | [] => 0
  | x :: xs => max (depD x) (depDs xs)
end
mutual
def toPD : D → PyData
  | .non => .none
  | .bl b => .bool b
  | .int i => .int i
  | .str z => .str z
  | .lst xs => .list (toPDs xs)
  | .tup xs => .tuple (toPDs xs)
  | _ => .none
def toPDs : List D → List PyData
  | [] => []
  | x :: xs => toPD x :: toPDs xs
end
mutual
theorem toPD_lay : ∀ d : D, flatD d = true → (toPD d).canLay0 = true
  | .non, _ => rfl
  | .bl _, _ => rfl
  | .int _, _ => rfl
  | .str z, h => h
  | .lst xs, h => by unfold toPD PyData.canLay0; exact toPDs_lay xs (by simpa [flatD] using h)
  | .tup xs, h => by unfold toPD PyData.canLay0; exact toPDs_lay xs (by simpa [flatD] using h)
  | .ty _, h => by simp [flatD] at h
  | .ref _, h => by simp [flatD] at h
  | .dct _, h => by simp [flatD] at h
  | .obj _ _, h => by simp [flatD] at h
  | .xcp _ _ _ _, h => by simp [flatD] at h
theorem toPDs_lay : ∀ d : List D, flatDs d = true → PyData.canLayAll0 (toPDs d) = true
  | [], _ => rfl
  | x :: xs, h => by
    simp only [flatDs, Bool.and_eq_true] at h
    simp only [toPDs, PyData.canLayAll0, toPD_lay x h.1, toPDs_lay xs h.2, Bool.and_self]
end
mutual
theorem toPD_dep : ∀ d : D, (toPD d).depth = depD d
  | .non => rfl
  | .bl _ => rfl
  | .int _ => rfl
  | .str z => rfl
  | .lst xs => by simp only [toPD, PyData.depth, depD, toPDs_dep xs]
  | .tup xs => by simp only [toPD, PyData.depth, depD, toPDs_dep xs]
  | .ty _ => rfl
  | .ref _ => rfl
  | .dct _ => rfl
  | .obj _ _ => rfl
  | .xcp _ _ _ _ => rfl
theorem toPDs_dep : ∀ d : List D, PyData.depthAll (toPDs d) = depDs d
  | [] => rfl
  | x :: xs => by simp only [toPDs, PyData.depthAll, depDs, toPD_dep x, toPDs_dep xs]
end
mutual
theorem toPD_eqv : ∀ a b : D, flatD a = true → flatD b = true → PyData.eqv (toPD a) (toPD b) = eqD a b
  | .lst xs, b, ha, hb => by
    cases b with
    | lst ys =>
      simp only [toPD, PyData.eqv, eqD]
      exact toPDs_eqv xs ys (by simpa [flatD] using ha) (by simpa [flatD] using hb)
    | _ => first | (simp [toPD, PyData.eqv, eqD]; done) | (simp [flatD] at hb; done)
  | .tup xs, b, ha, hb => by
    cases b with
    | tup ys =>
      simp only [toPD, PyData.eqv, eqD]
      exact toPDs_eqv xs ys (by simpa [flatD] using ha) (by simpa [flatD] using hb)
    | _ => first | (simp [toPD, PyData.eqv, eqD]; done) | (simp [flatD] at hb; done)
  | .non, b, ha, hb => by cases b <;> first | (simp [toPD, PyData.eqv, eqD]; done) | (simp [flatD] at hb; done)
  | .bl _, b, ha, hb => by cases b <;> first | (simp [toPD, PyData.eqv, eqD]; done) | (simp [flatD] at hb; done)
  | .int _, b, ha, hb => by cases b <;> first | (simp [toPD, PyData.eqv, eqD]; done) | (simp [flatD] at hb; done)
  | .str _, b, ha, hb => by cases b <;> first | (simp [toPD, PyData.eqv, eqD]; done) | (simp [flatD] at hb; done)
  | .ty _, _, ha, _ => by simp [flatD] at ha
  | .ref _, _, ha, _ => by simp [flatD] at ha
  | .dct _, _, ha, _ => by simp [flatD] at ha
  | .obj _ _, _, ha, _ => by simp [flatD] at ha
  | .xcp _ _ _ _, _, ha, _ => by simp [flatD] at ha
theorem toPDs_eqv : ∀ a b : List D, flatDs a = true → flatDs b = true → PyData.eqvAll (toPDs a) (toPDs b) = eqDs a b
  | [], [], _, _ => rfl
  | [], _ :: _, _, _ => by simp [toPDs, PyData.eqvAll, eqDs]
  | _ :: _, [], _, _ => by simp [toPDs, PyData.eqvAll, eqDs]
  | x :: xs, y :: ys, ha, hb => by
    simp only [flatDs, Bool.and_eq_true] at ha hb
    simp only [toPDs, PyData.eqvAll, eqDs, toPD_eqv x y ha.1 hb.1, toPDs_eqv xs ys ha.2 hb.2]
end
def okE (d : D) : Bool := flatD d && decide (depD d ≤ 60)
theorem okE_shaped {d : D} (h : okE d = true) : SeqAt.shaped (toPD d) = true := by
  unfold okE at h
  simp only [Bool.and_eq_true, decide_eq_true_eq] at h
  unfold SeqAt.shaped
  simp only [toPD_lay d h.1, Bool.true_and, decide_eq_true_eq, toPD_dep]
  omega
section
variable {K : PySem.W.Frag} {F H : Hp}
mutual
theorem Rep.dp (sb : Sub F H) : ∀ {d : D} {v : V}, flatD d = true → Rep K F d v → Dp K H v (toPD d)
  | .non, _, _, h => by unfold Rep at h; subst h; exact .non
  | .bl b, _, _, h => by unfold Rep at h; subst h; exact .bl b
  | .int b, _, _, h => by unfold Rep at h; subst h; exact .int b
  | .str b, _, _, h => by unfold Rep at h; subst h; exact .str b
  | .lst xs, _, hf, h => by
    unfold Rep at h
    obtain ⟨a, vs, rfl, h1, h2⟩ := h
    exact .lst (sb.lst h1) (Reps.dp sb (by simpa [flatD] using hf) h2)
  | .tup xs, _, hf, h => by
    unfold Rep at h
    obtain ⟨a, vs, rfl, h1, h2⟩ := h
    exact .tup (sb.tup h1) (Reps.dp sb (by simpa [flatD] using hf) h2)
  | .ty _, _, hf, _ => by simp [flatD] at hf
  | .ref _, _, hf, _ => by simp [flatD] at hf
  | .dct _, _, hf, _ => by simp [flatD] at hf
  | .obj _ _, _, hf, _ => by simp [flatD] at hf
  | .xcp _ _ _ _, _, hf, _ => by simp [flatD] at hf
theorem Reps.dp (sb : Sub F H) : ∀ {d : List D} {v : List V}, flatDs d = true → Reps K F d v → DpAll K H v (toPDs d)
  | [], _, _, h => by unfold Reps at h; subst h; exact .nil
  | x :: xs, _, hf, h => by
    simp only [flatDs, Bool.and_eq_true] at hf
    unfold Reps at h
    obtain ⟨v, ws, rfl, h1, h2⟩ := h
    exact .cons (Rep.dp sb hf.1 h1) (Reps.dp sb hf.2 h2)
end
theorem Hld.dp (sb : Sub F H) {d : D} {v : V} (hf : flatD d = true) (h : Hld K F H d v) : Dp K H v (toPD d) := by
  cases d with
  | lst xs =>
    obtain ⟨a, vs, rfl, h1, h2⟩ := h
    exact .lst h1 (Reps.dp sb (by simpa [flatD] using hf) h2)
  | tup xs =>
    obtain ⟨a, vs, rfl, h1, h2⟩ := h
    exact .tup h1 (Reps.dp sb (by simpa [flatD] using hf) h2)
  | dct _ => simp [flatD] at hf
  | obj _ _ => simp [flatD] at hf
  | xcp _ _ _ _ => simp [flatD] at hf
  | non => exact Rep.dp sb hf h
  | bl _ => exact Rep.dp sb hf h
  | int _ => exact Rep.dp sb hf h
  | str _ => exact Rep.dp sb hf h
  | ty _ => exact Rep.dp sb hf h
  | ref _ => exact Rep.dp sb hf h
end
/-! ### == and != -/
def valsOk (kvs : List (Key × D)) : Bool := kvs.all fun kv => okE kv.2
def eqDct (ka kb : List (Key × D)) : Bool := ka.length == kb.length && ka.all fun p => match getD kb p.1 with
  | some y => eqD p.2 y
  | none => false
/-- scalars by themselves, lists and tuples of such (signs in order), dicts of those -/
def eqF (a b : D) : Option Bool := match a, b with
  | .dct ka, .dct kb => if valsOk ka && valsOk kb then some (eqDct ka kb) else none
  | .str x, .str y => some (x == y)
  | a, b => if okE a && okE b then some (eqD a b) else none
def eqO (a b : D) : Option D := (eqF a b).map .bl
def neO (a b : D) : Option D := (eqF a b).map fun k => .bl (!k)
section
variable {X : Cx} {W : WX}
def rEqA (K : PySem.W.Frag) (neg : Bool) : R2 := fun x y H Q => ∃ F a b k, Sub F H ∧ Rep K F a x ∧ Hld K F H b y ∧ eqF a b = some k ∧ Q (.bl (if neg = true then !k else k)) H
theorem kv_find {K : PySem.W.Frag} {F : Hp} {k : Key} : ∀ {ka : List (Key × D)} {ws : List (Key × V)} {va : List (Key × Value)}, Repk K F ka ws → KV ws va →
    (getD ka k = none ∧ valueAt va k = none) ∨ ∃ d v u, getD ka k = some d ∧ valueAt va k = some u ∧ Rep K F d v ∧ RelV v u
  | [], _, _, h, r => by unfold Repk at h; subst h; cases r; exact .inl ⟨rfl, rfl⟩
  | (k', d) :: r', _, _, h, r => by
    unfold Repk at h
    obtain ⟨v, ws, rfl, h1, h2⟩ := h
    cases r with
    | cons r1 r2 =>
      rename_i q qs
      obtain ⟨e1, e2⟩ := r1
      obtain ⟨kq, uq⟩ := q
      simp only at e1 e2
      subst e1
      by_cases hk : k' = k
      · exact .inr ⟨d, v, uq, by simp [getD, hk], by simp [valueAt, hk], h1, e2⟩
      · have a1 : getD ((k', d) :: r') k = getD r' k := by simp [getD, List.find?_cons, hk]
        have a2 : valueAt ((k', uq) :: qs) k = valueAt qs k := by simp [valueAt, List.find?_cons, hk]
        rw [a1, a2]
        exact kv_find h2 r2
theorem getD_mem {kvs : List (Key × D)} {k : Key} {d : D} (h : getD kvs k = some d) : ∃ p ∈ kvs, p.2 = d := by
  unfold getD at h
  cases e : kvs.find? (fun kv => decide (kv.1 = k)) with
  | none => rw [e] at h; cases h
  | some p => rw [e] at h; cases h; exact ⟨p, List.mem_of_find?_eq_some e, rfl⟩
theorem dct_hits {pins : List (Addr × Obj)} {σ : L2.St} {F H : Hp} {s : Shared} (I : Inv X pins σ H s) (sb : Sub F H) (hu : X.A.units + 65 < cLine) {kb : List (Key × D)} {wb : List (Key × V)} {vb : List (Key × Value)} (hb : Repk X.K F kb wb) (rb : KV wb vb) (ob : valsOk kb = true) :
    ∀ {ka : List (Key × D)} {wa : List (Key × V)} {va : List (Key × Value)}, Repk X.K F ka wa → KV wa va → valsOk ka = true →
      PySem.W.KeqHits X.A.in1 s vb va (ka.all fun p => match getD kb p.1 with
        | some y => eqD p.2 y
        | none => false)
  | [], _, _, h, r, _ => by unfold Repk at h; subst h; cases r; exact .nil
  | (k', d) :: r', _, _, h, r, o => by
    unfold Repk at h
    obtain ⟨v, ws, rfl, h1, h2⟩ := h
    cases r with
    | cons r1 r2 =>
      rename_i q qs
      obtain ⟨e1, e2⟩ := r1
      obtain ⟨kq, uq⟩ := q
      simp only at e1 e2
      subst e1
      simp only [valsOk, List.all_cons, Bool.and_eq_true] at o
      have ih := dct_hits I sb hu hb rb ob h2 r2 o.2
      rcases kv_find (k := k') hb rb with ⟨g1, g2⟩ | ⟨d2, v2, u2, g1, g2, g3, g4⟩
      · simp only [List.all_cons, g1, Bool.false_and]
        exact .miss g2
      · simp only [List.all_cons, g1]
        refine .hit g2 ?_ ih
        have od : okE d = true := o.1
        obtain ⟨p2, pm, pe⟩ := getD_mem g1
        have od2 : okE d2 = true := by rw [← pe]; exact List.all_eq_true.mp ob p2 pm
        have f1 : flatD d = true := by unfold okE at od; simp at od; exact od.1
        have f2 : flatD d2 = true := by unfold okE at od2; simp at od2; exact od2.1
        obtain ⟨as, q1⟩ := Dp.reads I _ v uq (Rep.dp sb f1 h1) e2
        obtain ⟨bs, q2⟩ := Dp.reads I _ v2 u2 (Rep.dp sb f2 g3) g4
        rw [← toPD_eqv d d2 f1 f2]
        refine SeqAt.eqAt_reads _ _ _ _ _ _ _ _ q1 q2 (toPD_lay d f1) (toPD_lay d2 f2) ?_
        have dd : depD d ≤ 60 := by unfold okE at od; simp at od; exact od.2
        show X.A.units + 1 + min (toPD d).depth (toPD d2).depth < cLine
        rw [toPD_dep d]
        have : min (depD d) (toPD d2).depth ≤ depD d := Nat.min_le_left _ _
        omega
theorem rd_dct {pins : List (Addr × Obj)} {σ : L2.St} {H : Hp} {s : Shared} (I : Inv X pins σ H s) {a : Addr} {ws : List (Key × V)} (h : Rd H a (.dK ws)) : (a == sysModules) = false ∧ ∃ vs, KV ws vs ∧ s.heap.DictOf (mixKind X.prog X.w) a vs :=
  (Rd.ok h I.hok).2
theorem op_eqA (hu : X.A.units + 65 < cLine) : OpR X (compareOp .Eq) (rEqA X.K false) := by
  intro pins s σ H x y v u Q I rx ry h
  obtain ⟨F, a, b, k, sb, ha, hb, he, q⟩ := h
  simp only [Bool.false_eq_true, if_false] at q
  unfold eqF at he
  split at he
  · rename_i ka kb
    unfold Rep at ha
    obtain ⟨pa, wa, rfl, h1, h2⟩ := ha
    obtain ⟨pb, wb, rfl, h3, h4⟩ := hb
    obtain rfl : v = Value.ref pa := rx
    obtain rfl : u = Value.ref pb := ry
    split at he
    · rename_i ok
      simp only [Bool.and_eq_true] at ok
      cases he
      obtain ⟨ya, va, ra, da⟩ := rd_dct I (sb.rd h1)
      obtain ⟨yb, vb, rb, db⟩ := rd_dct I h3
      refine PySem.W.keq_eq (knd := mixKind X.prog X.w) ya yb da db (by omega) (fun _ => dct_hits I sb hu h4 rb ok.2 h2 ra ok.1) (fin_bl I q ?_)
      unfold eqDct
      rw [← h2.length, ← h4.length, ra.length, rb.length]
    · cases he
  · rename_i z1 z2
    cases he
    have e1 : x = .str z1 := ha
    have e2 : y = .str z2 := hb
    subst e1; subst e2
    exact op_eq pins s σ H _ _ v u Q I rx ry ⟨rfl, by rw [dec_str]; exact q⟩
  · split at he
    · rename_i ok
      simp only [Bool.and_eq_true] at ok
      cases he
      have fa : flatD a = true := by have := ok.1; unfold okE at this; simp at this; exact this.1
      have fb : flatD b = true := by have := ok.2; unfold okE at this; simp at this; exact this.1
      exact op_eqD (by omega) pins s σ H _ _ v u Q I rx ry ⟨_, _, ha.dp sb fa, hb.dp sb fb, okE_shaped ok.1, okE_shaped ok.2, by rw [toPD_eqv a b fa fb]; exact q⟩
    · cases he
theorem op_neA (hu : X.A.units + 65 < cLine) : OpR X (compareOp .NotEq) (rEqA X.K true) := by
  intro pins s σ H x y v u Q I rx ry h
  obtain ⟨F, a, b, k, sb, ha, hb, he, q⟩ := h
  simp only [if_true] at q
  unfold eqF at he
  split at he
  · rename_i ka kb
    unfold Rep at ha
    obtain ⟨pa, wa, rfl, h1, h2⟩ := ha
    obtain ⟨pb, wb, rfl, h3, h4⟩ := hb
    obtain rfl : v = Value.ref pa := rx
    obtain rfl : u = Value.ref pb := ry
    split at he
    · rename_i ok
      simp only [Bool.and_eq_true] at ok
      cases he
      obtain ⟨ya, va, ra, da⟩ := rd_dct I (sb.rd h1)
      obtain ⟨yb, vb, rb, db⟩ := rd_dct I h3
      refine PySem.W.keq_ne (knd := mixKind X.prog X.w) ya yb da db (by omega) (fun _ => dct_hits I sb hu h4 rb ok.2 h2 ra ok.1) (fin_bl I q ?_)
      unfold eqDct
      rw [← h2.length, ← h4.length, ra.length, rb.length]
    · cases he
  · rename_i z1 z2
    cases he
    have e1 : x = .str z1 := ha
    have e2 : y = .str z2 := hb
    subst e1; subst e2
    exact op_ne pins s σ H _ _ v u Q I rx ry ⟨rfl, by rw [dec_str]; exact q⟩
  · split at he
    · rename_i ok
      simp only [Bool.and_eq_true] at ok
      cases he
      have fa : flatD a = true := by have := ok.1; unfold okE at this; simp at this; exact this.1
      have fb : flatD b = true := by have := ok.2; unfold okE at this; simp at this; exact this.1
      exact op_neD (by omega) pins s σ H _ _ v u Q I rx ry ⟨_, _, ha.dp sb fa, hb.dp sb fb, okE_shaped ok.1, okE_shaped ok.2, by rw [toPD_eqv a b fa fb]; exact q⟩
    · cases he
theorem eq_op2 : Op2V X W (rEqA X.K false) eqO := fun F σ H ds x y a b s st ha hb e => by
  unfold eqO at e
  cases e1 : eqF a b with
  | none => rw [e1] at e; cases e
  | some k => rw [e1] at e; cases e; exact At.pure (v := .bl k) st (by simp [Rep]) fun Q h => ⟨F, a, b, k, st.sub, ha, hb, e1, h⟩
theorem ne_op2 : Op2V X W (rEqA X.K true) neO := fun F σ H ds x y a b s st ha hb e => by
  unfold neO at e
  cases e1 : eqF a b with
  | none => rw [e1] at e; cases e
  | some k => rw [e1] at e; cases e; exact At.pure (v := .bl (!k)) st (by simp [Rep]) fun Q h => ⟨F, a, b, k, st.sub, ha, hb, e1, h⟩
/-! ### arithmetic -/
def addO (a b : D) : Option SV := match a, b with
  | .int i, .int j => some (.val (.int (i + j)))
  | .str x, .str y => if x.length + y.length ≤ sizeLine then some (.val (.str (x ++ y))) else none
  | .lst xs, .lst ys => if xs.length + ys.length ≤ sizeLine then some (.own (.lst (xs ++ ys))) else none
  | _, _ => none
def rAddA (K : PySem.W.Frag) : R2 := fun x y H Q => (rI0 fun i j => .int (i + j)) x y H Q ∨ (∃ i j, x = .str i ∧ y = .str j ∧ i.length + j.length ≤ sizeLine ∧ Q (.str (i ++ j)) H) ∨
  ∃ l b xs zs, x = .ref l ∧ y = .ref b ∧ SqL K H l xs ∧ SqL K H b zs ∧ xs.length + zs.length ≤ sizeLine ∧ ∀ p, H p = none → Q (.ref p) (upd H p (.lst (xs ++ zs)))
theorem op_catR : OpR X (binaryOp .Add) (fun x y H Q => ∃ l b xs zs, x = .ref l ∧ y = .ref b ∧ SqL X.K H l xs ∧ SqL X.K H b zs ∧ xs.length + zs.length ≤ sizeLine ∧ ∀ p, H p = none → Q (.ref p) (upd H p (.lst (xs ++ zs)))) := by
  intro pins s σ H x y v u Q I rx ry h
  obtain ⟨l, b, xs, zs, rfl, rfl, hH, hB, hz, q⟩ := h
  obtain rfl : v = Value.ref l := rx
  obtain rfl : u = Value.ref b := ry
  obtain ⟨its, r, ⟨⟨c1, d1, t1, sl1⟩, n1, g1, g2, g3, g4⟩, _⟩ := I.list hH
  obtain ⟨its2, r2, ⟨⟨c2, d2, t2, sl2⟩, n2, k1, k2, k3, k4⟩, _⟩ := I.list hB
  simp only at g2 g4 k2 k4
  subst g2; subst g4; subst k2; subst k4
  have l1 := r.length
  have l2 := r2.length
  refine PySem.concat_meets ⟨_, g1, rfl⟩ ⟨_, k1, rfl⟩ PySem.noFill_list_add PySem.seq_list_add PySem.F.slot_list_add PySem.F.entry_list_add (PySem.F.args_list_add_2 _ _) (list_addW l b its.toArray its2.toArray n1 n2 d1 d2 sl1 sl2 (by rw [List.size_toArray, List.size_toArray]; omega)) ⟨g1, k1, ?_⟩
  rw [show its.toArray ++ its2.toArray = (its ++ its2).toArray by simp]
  exact ⟨.ref _, _, I.lnew (t' := s.toks) (r.append r2) (by rw [List.length_append]; omega), rfl, q _ I.fresh⟩
theorem op_addA : OpR X (binaryOp .Add) (rAddA X.K) := (op_add.or (op_add_str.or op_catR))
theorem add_op2 : Op2 X W (rAddA X.K) addO := fun F σ H ds x y a b s st ha hb e => by
  unfold addO at e
  split at e
  · rename_i i j
    have e1 : x = .int i := ha
    have e2 : y = .int j := hb
    subst e1; subst e2; cases e
    exact At.toS (At.pure (v := .int (i + j)) st (by simp [Rep]) fun Q h => .inl ⟨i, j, rfl, rfl, h⟩)
  · rename_i i j
    have e1 : x = .str i := ha
    have e2 : y = .str j := hb
    subst e1; subst e2
    split at e
    · rename_i hl
      cases e
      exact At.toS (At.pure (v := .str (i ++ j)) st (by simp [Rep]) fun Q h => .inr (.inl ⟨i, j, rfl, rfl, hl, h⟩))
    · cases e
  · rename_i xs ys
    unfold Rep at ha
    obtain ⟨pa, va, rfl, h1, h2⟩ := ha
    obtain ⟨pb, vb, rfl, h3, h4⟩ := hb
    split at e
    · rename_i hl
      cases e
      exact At.lnew st (Reps.append h2 h4) fun Q h => .inr (.inr ⟨pa, pb, va, vb, rfl, rfl, st.sub.lst h1, h3, by rw [h2.length, h4.length]; exact hl, h⟩)
    · cases e
  · cases e
def int2 (f : Int → Int → Option Int) (a b : D) : Option D := match a, b with
  | .int i, .int j => (f i j).map .int
  | _, _ => none
def subO : D → D → Option D := int2 fun i j => some (i - j)
def modO : D → D → Option D := int2 fun i j => if 0 < j then some (i % j) else none
def divO : D → D → Option D := int2 fun i j => if 0 < j ∧ j < 1073741824 then some (i / j) else none
def mulO : D → D → Option D := int2 fun i j => if (-(2 ^ 64) < i ∧ i < 2 ^ 64) ∨ (-(2 ^ 64) < j ∧ j < 2 ^ 64) then some (i * j) else none
def powO : D → D → Option D := int2 fun i j => if 0 ≤ j ∧ j ≤ 1000000 ∧ i.natAbs < 2 ^ 64 then some (i ^ j.toNat) else none
theorem int_op2 {C : Int → Int → Prop} {g : Int → Int → Int} {f : Int → Int → Option Int} (h : ∀ i j k, f i j = some k → C i j ∧ k = g i j) : Op2V X W (rI C fun i j => .int (g i j)) (int2 f) := fun F σ H ds x y a b s st ha hb e => by
  unfold int2 at e
  split at e
  · rename_i i j
    have e1 : x = .int i := ha
    have e2 : y = .int j := hb
    subst e1; subst e2
    cases ef : f i j with
    | none => rw [ef] at e; cases e
    | some k =>
      rw [ef] at e; cases e
      obtain ⟨h1, rfl⟩ := h i j k ef
      exact At.pure (v := .int (g i j)) st (by simp [Rep]) fun Q hq => ⟨i, j, rfl, rfl, h1, hq⟩
  · cases e
theorem sub_op2 : Op2V X W (rI0 fun i j => .int (i - j)) subO := fun F σ H ds x y a b s st ha hb e => by
  have := int_op2 (X := X) (W := W) (C := fun _ _ => True) (g := fun i j => i - j) (f := fun i j => some (i - j)) (fun i j k h => by cases h; exact ⟨trivial, rfl⟩) F σ H ds x y a b s st ha hb e
  intro r ds' Q er hq
  obtain ⟨i, j, h1, h2, _, h3⟩ := this r ds' Q er hq
  exact ⟨i, j, h1, h2, h3⟩
theorem mod_op2 : Op2V X W (rI (fun _ j => 0 < j) fun i j => .int (i % j)) modO := int_op2 fun i j k h => by
  split at h
  · rename_i c; cases h; exact ⟨c, rfl⟩
  · cases h
theorem div_op2 : Op2V X W (rI CDiv fun i j => .int (i / j)) divO := int_op2 fun i j k h => by
  split at h
  · rename_i c; cases h; exact ⟨c, rfl⟩
  · cases h
theorem mul_op2 : Op2V X W (rI CMul fun i j => .int (i * j)) mulO := int_op2 fun i j k h => by
  split at h
  · rename_i c; cases h; exact ⟨c, rfl⟩
  · cases h
theorem pow_op2 : Op2V X W (rI CPow fun i j => .int (i ^ j.toNat)) powO := int_op2 fun i j k h => by
  split at h
  · rename_i c; cases h; exact ⟨c, rfl⟩
  · cases h
/-! ### order: whole numbers, texts -/
def ordO (f : Int → Int → Bool) (g : Str → Str → Bool) (a b : D) : Option D := match a, b with
  | .int i, .int j => some (.bl (f i j))
  | .str x, .str y => some (.bl (g x y))
  | _, _ => none
def ltS (x y : Str) : Bool := decide (x.cps.toList < y.cps.toList)
def leS (x y : Str) : Bool := !ltS y x
def ltO := ordO (fun i j => decide (i < j)) ltS
def leO := ordO (fun i j => decide (i ≤ j)) leS
def gtO := ordO (fun i j => decide (j < i)) (fun x y => ltS y x)
def geO := ordO (fun i j => decide (j ≤ i)) (fun x y => leS y x)
end
end DL
/-! DLi: order, membership, subscripts, slices, calls of built-ins by data. -/
namespace DL
open PySem PySem.Spec PyProof.Rows L2
section
variable {X : Cx} {W : WX}
/-! ### order -/
def rOrd (f : Int → Int → Bool) (g : Str → Str → Bool) : R2 := fun x y H Q => (rI0 fun i j => .bl (f i j)) x y H Q ∨ ∃ i j, x = .str i ∧ y = .str j ∧ Q (.bl (g i j)) H
theorem ord_op2 {f : Int → Int → Bool} {g : Str → Str → Bool} : Op2V X W (rOrd f g) (ordO f g) := fun F σ H ds x y a b s st ha hb e => by
  unfold ordO at e
  split at e
  · rename_i i j
    have e1 : x = .int i := ha
    have e2 : y = .int j := hb
    subst e1; subst e2; cases e
    exact At.pure (v := .bl (f i j)) st (by simp [Rep]) fun Q h => .inl ⟨i, j, rfl, rfl, h⟩
  · rename_i i j
    have e1 : x = .str i := ha
    have e2 : y = .str j := hb
    subst e1; subst e2; cases e
    exact At.pure (v := .bl (g i j)) st (by simp [Rep]) fun Q h => .inr ⟨i, j, rfl, rfl, h⟩
  · cases e
theorem op_ltA : OpR X (compareOp .Lt) (rOrd (fun i j => decide (i < j)) ltS) := op_lt.or op_lt_str
theorem op_leA : OpR X (compareOp .LtE) (rOrd (fun i j => decide (i ≤ j)) leS) := op_le.or op_le_str
theorem op_gtA : OpR X (compareOp .Gt) (rOrd (fun i j => decide (j < i)) (fun x y => ltS y x)) := op_gt.or op_gt_str
theorem op_geA : OpR X (compareOp .GtE) (rOrd (fun i j => decide (j ≤ i)) (fun x y => leS y x)) := op_ge.or op_ge_str
/-- a < b < c -/
def chain (f g : D → D → Option D) (ma mb mc : M D) : M D := bnd ma fun a => bnd mb fun b => bnd (lift (f a b)) fun d => match d with
  | .bl true => bnd mc fun c => lift (g b c)
  | .bl false => ret (.bl false)
  | _ => stuck
theorem chain_at {r r' : R2} {f g : D → D → Option D} {ta tb tc : TE} {ma mb mc : M D} {F H : Hp} {σ : L2.St} {ds : DS} (hf : Op2V X W r f) (hg : Op2V X W r' g) (qa : ∀ F σ H ds, StR X.K F H σ ds → At X.K W (RelD X.K) F H σ ds (ta σ H) (ma ds)) (qb : ∀ F σ H ds, StR X.K F H σ ds → At X.K W (RelD X.K) F H σ ds (tb σ H) (mb ds))
    (qc : ∀ F σ H ds, StR X.K F H σ ds → At X.K W (RelH X.K) F H σ ds (tc σ H) (mc ds)) (s : StR X.K F H σ ds) : At X.K W (RelD X.K) F H σ ds (tChain r r' ta tb tc σ H) (chain f g ma mb mc ds) := by
  refine At.bind (t2 := fun x H1 Q => tb σ H1 fun y H2 => r x y H2 fun z H3 => ∃ k, z = V.bl k ∧ (if k = true then tc σ H3 fun w' H4 => r' y w' H4 Q else Q (.bl false) H3)) mD (qa F σ H ds s) (fun a ds1 F1 H1 x st1 rel1 => ?_) fun Q h => h
  refine At.bind (t2 := fun y H2 Q => r x y H2 fun z H3 => ∃ k, z = V.bl k ∧ (if k = true then tc σ H3 fun w' H4 => r' y w' H4 Q else Q (.bl false) H3)) mD (qb F1 σ H1 ds1 st1.st) (fun b ds2 F2 H2 y st2 rel2 => ?_) fun Q h => h
  refine At.bind (Rel1 := RelD X.K) (t1 := fun Q => r x y H2 Q) (t2 := fun z H3 Q => ∃ k, z = V.bl k ∧ (if k = true then tc σ H3 fun w' H4 => r' y w' H4 Q else Q (.bl false) H3)) mD ?_ (fun d ds3 F3 H3 z st3 rel3 => ?_) fun Q h => h
  · unfold lift
    cases e : f a b with
    | none => exact At.none_
    | some z => exact hf F2 σ H2 ds2 x y a b z st2.st (Rep.mono st2.ext.ff rel1) (Rep.hld st2.st.sub rel2) e
  · cases d with
    | bl k =>
      have hz : z = .bl k := rel3
      subst hz
      cases k with
      | false => exact At.pure (v := .bl false) st3.st (by simp [Rep]) fun Q h => ⟨false, rfl, by simpa using h⟩
      | true =>
        have := At.bind (f := fun c => lift (g b c)) (t := fun Q => tc σ H3 fun w' H4 => r' y w' H4 Q) (t2 := fun w' H4 Q => r' y w' H4 Q) mD (qc F3 σ H3 ds3 st3.st) (fun c ds4 F4 H4 w st4 rel4 => by
          unfold lift
          cases e : g b c with
          | none => exact At.none_
          | some z => exact hg F4 σ H4 ds4 y w b c z st4.st (Rep.mono (st3.trans st4).ext.ff rel2) rel4 e) (fun Q h => h)
        intro r0 ds' Q er hq
        exact ⟨true, rfl, by simpa using this r0 ds' Q er hq⟩
    | _ => exact At.none_
theorem dv_chain {r r' : R2} {f g : D → D → Option D} {op op' : CmpOp} {a b c : Expr} {ma mb mc : M D} {pos : Pos} (ho : OpR X (compareOp op) r) (hf : Op2V X W r f) (ho' : OpR X (compareOp op') r') (hg : Op2V X W r' g) (ha : DV X W a ma) (hb : DV X W b mb) (hc : DR X W c mc)
    (hl : lastMarks [op, op'] [b, c] = false := by rfl) : DV X W (.Compare a [op, op'] [b, c] pos) (chain f g ma mb mc) := by
  obtain ⟨ta, pa, qa⟩ := ha
  obtain ⟨tb, pb, qb⟩ := hb
  obtain ⟨tc, pc, qc⟩ := hc
  exact ⟨_, pe_chain ho ho' pa pb pc hl, fun F σ H ds s => chain_at hf hg qa qb qc s⟩
theorem dt_chain {r r' : R2} {f g : D → D → Option D} {op op' : CmpOp} {a b c : Expr} {ma mb mc : M D} {pos : Pos} (ho : OpR X (compareOp op) r) (hf : Op2V X W r f) (ho' : OpR X (compareOp op') r') (hg : Op2V X W r' g) (ha : DV X W a ma) (hb : DV X W b mb) (hc : DR X W c mc)
    (hl : lastMarks [op, op'] [b, c] = false := by rfl) : DT X W (.Compare a [op, op'] [b, c] pos) (isB (chain f g ma mb mc)) := by
  obtain ⟨ta, pa, qa⟩ := ha
  obtain ⟨tb, pb, qb⟩ := hb
  obtain ⟨tc, pc, qc⟩ := hc
  refine ⟨_, pt_chain ho ho' pa pb pc hl, fun F σ H ds s => ?_⟩
  refine At.bind (Rel1 := RelD X.K) (t1 := fun Q => tChain r r' ta tb tc σ H Q) (t2 := fun x H1 Q => ∃ c, x = V.bl c ∧ Q c H1) mB (chain_at hf hg qa qb qc s) (fun d ds1 F1 H1 x st1 rel1 => ?_) fun Q h => h
  cases d with
  | bl b => exact At.ret st1.st rfl fun Q hq => ⟨b, rel1, hq⟩
  | _ => exact At.none_
/-! ### is None -/
def isNon (d : D) : Bool := match d with
  | .non => true
  | _ => false
def isNO (a b : D) : Option D := match b with
  | .non => some (.bl (isNon a))
  | _ => none
def notNO (a b : D) : Option D := match b with
  | .non => some (.bl (!isNon a))
  | _ => none
theorem rep_non {K : PySem.W.Frag} {F : Hp} {a : D} {x : V} (h : Rep K F a x) : decide (x = V.non) = isNon a := by
  cases a <;> (unfold Rep at h) <;> first | (subst h; rfl) | (obtain ⟨rfl, _⟩ := h; rfl) | (obtain ⟨_, _, rfl, _⟩ := h; rfl) | (obtain ⟨_, _, _, rfl, _⟩ := h; rfl)
theorem isN_op2 : Op2V X W (fun x y H Q => y = .non ∧ Q (.bl (decide (x = .non))) H) isNO := fun F σ H ds x y a b s st ha hb e => by
  unfold isNO at e
  split at e
  · have e2 : y = .non := hb
    subst e2; cases e
    exact At.pure (v := .bl (isNon a)) st (by simp [Rep]) fun Q h => ⟨rfl, by rw [rep_non ha]; exact h⟩
  · cases e
theorem notN_op2 : Op2V X W (fun x y H Q => y = .non ∧ Q (.bl (!decide (x = .non))) H) notNO := fun F σ H ds x y a b s st ha hb e => by
  unfold notNO at e
  split at e
  · have e2 : y = .non := hb
    subst e2; cases e
    exact At.pure (v := .bl (!isNon a)) st (by simp [Rep]) fun Q h => ⟨rfl, by rw [rep_non ha]; exact h⟩
  · cases e
/-! ### membership -/
def keyD (d : D) : Option Key := match d with
  | .int i => some (.inl i)
  | .str z => some (.inr z)
  | _ => none
theorem keyD_rep {K : PySem.W.Frag} {F : Hp} {d : D} {k : Key} {v : V} (h : keyD d = some k) (r : Rep K F d v) : v = kV k := by
  unfold keyD at h
  split at h
  · cases h; exact r
  · cases h; exact r
  · cases h
def leafD (d : D) : Bool := match d with
  | .non => true
  | .bl _ => true
  | .int _ => true
  | .str _ => true
  | _ => false
def memF (a b : D) : Option Bool := match a, b with
  | .str c, .str z => match c.cps.toList with
    | [x] => some (decide (x ∈ z.cps.toList))
    | _ => none
  | a, .lst xs => if leafD a && xs.all leafD then some (xs.any fun y => eqD y a) else none
  | a, .tup xs => if leafD a && xs.all leafD then some (xs.any fun y => eqD y a) else none
  | a, .dct kvs => (keyD a).map fun k => (getD kvs k).isSome
  | _, _ => none
def inO (a b : D) : Option D := (memF a b).map .bl
def ninO (a b : D) : Option D := (memF a b).map fun k => .bl (!k)
def rInA (K : PySem.W.Frag) (neg : Bool) : R2 := fun x y H Q => (∃ (c : Nat) (z : Str), x = .str ⟨#[c]⟩ ∧ y = .str z ∧ Q (.bl (if neg = true then !decide (c ∈ z.cps.toList) else decide (c ∈ z.cps.toList))) H) ∨ rIn K neg x y H Q ∨
  ∃ a o, y = .ref a ∧ DGet H a x o ∧ Q (.bl (if neg = true then !o.isSome else o.isSome)) H
theorem op_inA (hu : X.A.units + 1 < cLine) : OpR X (compareOp .In) (rInA X.K false) := by
  intro pins s σ H x y v u Q I rx ry h
  rcases h with h | h | ⟨a, o, rfl, g, q⟩
  · exact op_in_sign pins s σ H x y v u Q I rx ry (by simpa using h)
  · exact op_in_seq pins s σ H x y v u Q I rx ry h
  · obtain rfl : u = Value.ref a := ry
    exact d_in hu I g rx fun s3 I3 => ⟨.bl o.isSome, H, I3, rfl, by simpa using q⟩
theorem op_ninA (hu : X.A.units + 1 < cLine) : OpR X (compareOp .NotIn) (rInA X.K true) := by
  intro pins s σ H x y v u Q I rx ry h
  rcases h with h | h | ⟨a, o, rfl, g, q⟩
  · exact op_notIn_sign pins s σ H x y v u Q I rx ry (by simpa using h)
  · exact op_notIn_seq pins s σ H x y v u Q I rx ry h
  · obtain rfl : u = Value.ref a := ry
    exact d_notIn hu I g rx fun s3 I3 => ⟨.bl (!o.isSome), H, I3, rfl, by simpa using q⟩
theorem leaf_flat {K : PySem.W.Frag} {F : Hp} {d : D} {v : V} (h : leafD d = true) (r : Rep K F d v) : flatV v = true := by
  cases d <;> first | (simp [leafD] at h; done) | (unfold Rep at r; subst r; rfl)
theorem leaf_eq {K : PySem.W.Frag} {F : Hp} {d e : D} {v w : V} (h : leafD d = true) (h' : leafD e = true) (r : Rep K F d v) (r' : Rep K F e w) : eqV v w = eqD d e := by
  cases d <;> first | (simp [leafD] at h; done) | (unfold Rep at r; subst r; cases e <;> first | (simp [leafD] at h'; done) | (unfold Rep at r'; subst r'; simp [eqV, eqD]))
theorem leaf_seq {K : PySem.W.Frag} {F : Hp} {a : D} {x : V} (la : leafD a = true) (ra : Rep K F a x) : ∀ {xs : List D} {vs : List V}, xs.all leafD = true → Reps K F xs vs → vs.all flatV = true ∧ inV x vs = xs.any fun y => eqD y a
  | [], _, _, h => by unfold Reps at h; subst h; exact ⟨rfl, rfl⟩
  | d :: ds, _, l, h => by
    unfold Reps at h
    obtain ⟨v, ws, rfl, h1, h2⟩ := h
    simp only [List.all_cons, Bool.and_eq_true] at l
    obtain ⟨i1, i2⟩ := leaf_seq la ra l.2 h2
    refine ⟨by simp only [List.all_cons, leaf_flat l.1 h1, i1, Bool.and_self], ?_⟩
    unfold inV at i2 ⊢
    simp only [List.any_cons, i2, leaf_eq l.1 la h1 ra]
theorem rpk_isSome {K : PySem.W.Frag} {F : Hp} {k : Key} : ∀ {ka : List (Key × D)} {ws : List (Key × V)}, Repk K F ka ws → (getD ka k = none ∧ valV ws k = none) ∨ ∃ d v, getD ka k = some d ∧ valV ws k = some v ∧ Rep K F d v
  | [], _, h => by unfold Repk at h; subst h; exact .inl ⟨rfl, rfl⟩
  | (k', d) :: r', _, h => by
    unfold Repk at h
    obtain ⟨v, ws, rfl, h1, h2⟩ := h
    by_cases hk : k' = k
    · exact .inr ⟨d, v, by simp [getD, hk], valV_pos hk, h1⟩
    · have a1 : getD ((k', d) :: r') k = getD r' k := by simp [getD, List.find?_cons, hk]
      rw [a1, valV_neg (p := (k', v)) hk]
      exact rpk_isSome h2
theorem mem_at {F H : Hp} {σ : L2.St} {ds : DS} {x y : V} {a b : D} {k neg : Bool} (st : StR X.K F H σ ds) (ha : Rep X.K F a x) (hb : Hld X.K F H b y) (e : memF a b = some k) : At X.K W (RelD X.K) F H σ ds (rInA X.K neg x y H) (some (.ok (.bl (if neg = true then !k else k)), ds)) := by
  unfold memF at e
  split at e
  · rename_i c z
    split at e
    · rename_i n hc
      cases e
      have e1 : x = .str c := ha
      have e2 : y = .str z := hb
      subst e1; subst e2
      have ec : c = ⟨#[n]⟩ := by
        cases c with
        | mk cps => 
          simp only at hc
          congr 1
          exact Array.ext' (by simpa using hc)
      subst ec
      exact At.pure (v := .bl (if neg = true then !decide (n ∈ z.cps.toList) else decide (n ∈ z.cps.toList))) st (by simp [Rep]) fun Q h => .inl ⟨n, z, rfl, rfl, h⟩
    · cases e
  · rename_i xs
    split at e
    · rename_i l
      simp only [Bool.and_eq_true] at l
      cases e
      obtain ⟨p, vs, rfl, h1, h2⟩ := hb
      obtain ⟨i1, i2⟩ := leaf_seq l.1 ha l.2 h2
      exact At.pure (v := .bl (if neg = true then !(xs.any fun y => eqD y a) else xs.any fun y => eqD y a)) st (by simp [Rep]) fun Q h => .inr (.inl ⟨p, vs, rfl, .inl h1, leaf_flat l.1 ha, i1, by rw [i2]; exact h⟩)
    · cases e
  · rename_i xs
    split at e
    · rename_i l
      simp only [Bool.and_eq_true] at l
      cases e
      obtain ⟨p, vs, rfl, h1, h2⟩ := hb
      obtain ⟨i1, i2⟩ := leaf_seq l.1 ha l.2 h2
      exact At.pure (v := .bl (if neg = true then !(xs.any fun y => eqD y a) else xs.any fun y => eqD y a)) st (by simp [Rep]) fun Q h => .inr (.inl ⟨p, vs, rfl, .inr h1, leaf_flat l.1 ha, i1, by rw [i2]; exact h⟩)
    · cases e
  · rename_i kvs
    cases ek : keyD a with
    | none => rw [ek] at e; cases e
    | some kk =>
      rw [ek] at e; cases e
      obtain ⟨p, ws, rfl, h1, h2⟩ := hb
      have ex := keyD_rep ek ha
      refine At.pure (v := .bl (if neg = true then !(getD kvs kk).isSome else (getD kvs kk).isSome)) st (by simp [Rep]) fun Q h => .inr (.inr ⟨p, valV ws kk, rfl, .inl ⟨ws, kk, h1, ex, rfl⟩, ?_⟩)
      rcases rpk_isSome (k := kk) h2 with ⟨g1, g2⟩ | ⟨d, v, g1, g2, _⟩
      · rw [g1] at h; rw [g2]; exact h
      · rw [g1] at h; rw [g2]; exact h
  · cases e
theorem in_op2 : Op2V X W (rInA X.K false) inO := fun F σ H ds x y a b s st ha hb e => by
  unfold inO at e
  cases e1 : memF a b with
  | none => rw [e1] at e; cases e
  | some k => rw [e1] at e; cases e; exact mem_at (neg := false) st ha hb e1
theorem nin_op2 : Op2V X W (rInA X.K true) ninO := fun F σ H ds x y a b s st ha hb e => by
  unfold ninO at e
  cases e1 : memF a b with
  | none => rw [e1] at e; cases e
  | some k => rw [e1] at e; cases e; exact mem_at (neg := true) st ha hb e1
end
end DL
/-! DLj: subscripts, slices, built-ins. -/
namespace DL
open PySem PySem.Spec PyProof.Rows L2
section
variable {X : Cx} {W : WX}
/-! ### subscripts -/
def ixO (a b : D) : Option D := match a, b with
  | .lst xs, .int i => atI xs i
  | .tup xs, .int i => atI xs i
  | .str z, .int i => if 0 ≤ i ∧ i < 2 ^ 63 ∧ i < z.length then (z.cps[i.toNat]?).map fun c => .str ⟨#[c]⟩ else none
  | .dct kvs, k => (keyD k).bind fun k => getD kvs k
  | _, _ => none
def rIxA (K : PySem.W.Frag) : R2 := fun x y H Q => rIxL K x y H Q ∨ rIxT K x y H Q ∨ (∃ z i c, x = .str z ∧ y = .int i ∧ 0 ≤ i ∧ i < 2 ^ 63 ∧ i < z.length ∧ z.cps[i.toNat]? = some c ∧ Q (.str ⟨#[c]⟩) H) ∨ ∃ a v, x = .ref a ∧ DGet H a y (some v) ∧ Q v H
theorem ix_strA : IxR X (fun x y H Q => ∃ z i c, x = .str z ∧ y = .int i ∧ 0 ≤ i ∧ i < 2 ^ 63 ∧ i < z.length ∧ z.cps[i.toNat]? = some c ∧ Q (.str ⟨#[c]⟩) H) := by
  intro value slice pins s σ H x y v u Q I rx ry h hs
  obtain ⟨z, i, c, rfl, rfl, h0, h63, h1, hc, q⟩ := h
  obtain ⟨t, rfl⟩ := rx
  obtain ⟨t', rfl⟩ := ry
  have e : seqIndex? i z.length = some i.toNat := PySem.StrLaws.seqIndex_nonneg h0 h1
  refine tail_any (typeIs_str s z t) slot_str_getitem.lookup (getItem_str (c := c) ?_ (by rw [e]; exact hc) ⟨.str ⟨#[c]⟩, H, I.tok _, ⟨_, rfl⟩, q⟩) hs
  rw [decide_eq_false (show ¬ i < -(2 ^ 63 : Int) by omega), decide_eq_false (show ¬ i ≥ 2 ^ 63 by omega)] <;> rfl
theorem ix_dctA (hu : X.A.units + 1 < cLine) : IxR X (fun x y H Q => ∃ a v, x = .ref a ∧ DGet H a y (some v) ∧ Q v H) := by
  intro value slice pins s σ H x y v u Q I rx ry h hs
  obtain ⟨a, d, rfl, g, q⟩ := h
  obtain rfl : v = Value.ref a := rx
  exact tail_any (dict_typeIs I g) PySem.F.slot_dict_getitem.lookup (d_getItem hu I g ry fun w' s3 I3 rw' => ⟨d, H, I3, rw', q⟩) hs
theorem ix_A (hu : X.A.units + 1 < cLine) : IxR X (rIxA X.K) := ix_list.or (ix_tup.or (ix_strA.or (ix_dctA hu)))
theorem at_rep {K : PySem.W.Frag} {F : Hp} {xs : List D} {vs : List V} {i : Int} {d : D} (h : Reps K F xs vs) (e : atI xs i = some d) : ∃ v, atI vs i = some v ∧ Rep K F d v := by
  unfold atI at e ⊢
  rw [h.length]
  cases e1 : ixN xs.length i with
  | none => rw [e1] at e; cases e
  | some j =>
    rw [e1] at e
    exact h.get e
theorem ix_at {F H : Hp} {σ : L2.St} {ds : DS} {x y : V} {a b d : D} (st : StR X.K F H σ ds) (ha : Hld X.K F H a x) (hb : Rep X.K F b y) (e : ixO a b = some d) : At X.K W (RelD X.K) F H σ ds (rIxA X.K x y H) (some (.ok d, ds)) := by
  unfold ixO at e
  split at e
  · rename_i xs i
    obtain ⟨p, vs, rfl, h1, h2⟩ := ha
    have e2 : y = .int i := hb
    subst e2
    obtain ⟨v, hv, r⟩ := at_rep h2 e
    exact At.pure st r fun Q h => .inl ⟨p, vs, i, v, rfl, rfl, h1, hv, h⟩
  · rename_i xs i
    obtain ⟨p, vs, rfl, h1, h2⟩ := ha
    have e2 : y = .int i := hb
    subst e2
    obtain ⟨v, hv, r⟩ := at_rep h2 e
    exact At.pure st r fun Q h => .inr (.inl ⟨p, vs, i, v, rfl, rfl, h1, hv, h⟩)
  · rename_i z i
    have e1 : x = .str z := ha
    have e2 : y = .int i := hb
    subst e1; subst e2
    split at e
    · rename_i c
      cases hc : z.cps[i.toNat]? with
      | none => rw [hc] at e; cases e
      | some n =>
        rw [hc] at e; cases e
        exact At.pure (v := .str ⟨#[n]⟩) st (by simp [Rep]) fun Q h => .inr (.inr (.inl ⟨z, i, n, rfl, rfl, c.1, c.2.1, c.2.2, hc, h⟩))
    · cases e
  · rename_i _ _ kvs
    obtain ⟨p, ws, rfl, h1, h2⟩ := ha
    cases ek : keyD b with
    | none => rw [ek] at e; cases e
    | some k =>
      rw [ek] at e
      have e : getD kvs k = some d := e
      have ey := keyD_rep ek hb
      rcases rpk_isSome (k := k) h2 with ⟨g1, g2⟩ | ⟨d', v, g1, g2, r⟩
      · rw [g1] at e; cases e
      · rw [g1] at e; cases e
        exact At.pure st r fun Q h => .inr (.inr (.inr ⟨p, v, rfl, .inl ⟨ws, k, h1, ey, g2.symm⟩, h⟩))
  · cases e
theorem dv_ix {a b : Expr} {ma mb : M D} {pos : Pos} (hu : X.A.units + 1 < cLine) (ha : DV X W a ma) (hb : DV X W b mb) (hs : PlainIx b := by intro _ _; rfl) : DV X W (.Subscript a b pos) (bin ixO ma mb) := by
  obtain ⟨ta, pa, qa⟩ := ha
  obtain ⟨tb, pb, qb⟩ := hb
  refine ⟨_, pe_ix (ix_A hu) pa pb hs, fun F σ H ds s => ?_⟩
  refine At.bind (t2 := fun x H1 Q => tb σ H1 fun y H2 => rIxA X.K x y H2 Q) mD (qa F σ H ds s) (fun a ds1 F1 H1 x st1 rel1 => ?_) fun Q h => h
  refine At.bind (t2 := fun y H2 Q => rIxA X.K x y H2 Q) mD (qb F1 σ H1 ds1 st1.st) (fun b ds2 F2 H2 y st2 rel2 => ?_) fun Q h => h
  unfold lift
  cases e : ixO a b with
  | none => exact At.none_
  | some z => exact ix_at st2.st ((Rep.mono st2.ext.ff rel1).hld st2.st.sub) rel2 e
/-- x[e], x a name: what the name holds is read where it stands -/
def ixN_ (i : Nat) (mb : M D) : M D := fun ds => match ds[i]? with
  | some (some _) => bnd mb (fun b ds1 => match ds1[i]? with
    | some (some s) => lift (ixO s.d b) ds1
    | _ => none) ds
  | _ => none
theorem dv_ixN (i : Nat) {x : Str} {b : Expr} {mb : M D} {p pos : Pos} (hu : X.A.units + 1 < cLine) (hb : DV X W b mb) (hs : PlainIx b := by intro _ _; rfl) (hN : X.N[i]? = some x := by rfl) (hv : Vis X.env.scope x := by first | exact Or.inl rfl | exact Or.inr (Or.inl rfl) | exact Or.inr (Or.inr rfl)) (hd : (x == ("__debug__" : Str)) = false := by decide)
    (hcd : (x == ("__classdict__" : Str)) = false := by decide) : DV X W (.Subscript (.Name x p) b pos) (ixN_ i mb) := by
  obtain ⟨tb, pb, qb⟩ := hb
  refine ⟨_, pe_ix (ix_A hu) (pe_var hN hv hd hcd) pb hs, fun F σ H ds s => ?_⟩
  unfold ixN_
  cases e : ds[i]? with
  | none => exact At.none_
  | some o =>
    cases o with
    | none => exact At.none_
    | some sv =>
      obtain ⟨v, e1, _⟩ := s.slot i sv e
      refine At.bind (t2 := fun y H2 Q => rIxA X.K v y H2 Q) mD (qb F σ H ds s) (fun b ds2 F2 H2 y st2 rel2 => ?_) fun Q h => ⟨v, e1, h⟩
      cases e2 : ds2[i]? with
      | none => exact At.none_
      | some o2 =>
        cases o2 with
        | none => exact At.none_
        | some s2 =>
          obtain ⟨v2, e3, r2⟩ := st2.st.slot i s2 e2
          rw [e1] at e3; cases e3
          simp only
          unfold lift
          cases e4 : ixO s2.d b with
          | none => exact At.none_
          | some z => exact ix_at st2.st (r2.hld st2.st.sub) rel2 e4
/-! ### slices -/
abbrev RelP : Hp → Hp → DS → (Addr → Prop) → Option Int → Option Int → Prop := fun _ _ _ _ a b => a = b
def DP (X : Cx) (W : WX) (e : Option Expr) (m : M (Option Int)) : Prop := ∃ t, PO X e t ∧ ∀ F σ H ds, StR X.K F H σ ds → At X.K W RelP F H σ ds (t σ H) (m ds)
def someP (m : M D) : M (Option Int) := bnd m fun d => match d with
  | .int i => ret (some i)
  | _ => stuck
theorem dp_none : DP X W none (ret none) := ⟨_, po_none, fun F σ H ds s => At.ret s rfl fun Q h => h⟩
theorem dp_some {e : Expr} {m : M D} (h : DV X W e m) : DP X W (some e) (someP m) := by
  obtain ⟨t, p, q⟩ := h
  refine ⟨_, po_some p, fun F σ H ds s => ?_⟩
  refine At.bind (t2 := fun x H1 Q => ∃ i, x = V.int i ∧ Q (some i) H1) (fun _ _ _ _ _ _ _ _ r => r) (q F σ H ds s) (fun d ds1 F1 H1 x st1 rel1 => ?_) fun Q h => h
  cases d with
  | int i => exact At.ret (Rel := RelP) st1.st rfl fun Q h => ⟨i, rel1, h⟩
  | _ => exact At.none_
def cutD (xs : List D) (lo hi : Option Int) : List D := (xs.drop (HT.sIx xs.length 0 lo)).take (HT.sIx xs.length xs.length hi - HT.sIx xs.length 0 lo)
theorem cut_rep {K : PySem.W.Frag} {F : Hp} {xs : List D} {vs : List V} {lo hi : Option Int} (h : Reps K F xs vs) : Reps K F (cutD xs lo hi) (cutV vs lo hi) := by
  have hl := h.length
  unfold cutD cutV
  rw [hl]
  refine Reps.sub (f := fun i => HT.sIx xs.length 0 lo + i) h (by simp [hl]) (fun i d e => ?_) fun i v e => ?_
  · rw [List.getElem?_take] at e
    split at e
    · rw [List.getElem?_drop] at e; exact e
    · cases e
  · rw [List.getElem?_take] at e
    split at e
    · rw [List.getElem?_drop] at e; exact e
    · cases e
def slO (a : D) (lo hi : Option Int) : Option SV := match a with
  | .lst xs => some (.own (.lst (cutD xs lo hi)))
  | .str z => if z.length ≤ sizeLine then some (.val (.str (cutS z lo hi))) else none
  | .tup xs => if HT.sIx xs.length 0 lo = 0 ∧ HT.sIx xs.length xs.length hi = xs.length then none else some (.val (.tup (cutD xs lo hi)))
  | _ => none
theorem sl_at {F H : Hp} {σ : L2.St} {ds : DS} {x : V} {a : D} {lo hi : Option Int} {sv : SV} (st : StR X.K F H σ ds) (ha : Hld X.K F H a x) (e : slO a lo hi = some sv) :
    At X.K W (RelS X.K σ) F H σ ds (fun Q => rSlL X.K x lo hi H Q ∨ rSlS x lo hi H Q ∨ rSlT X.K x lo hi H Q) (some (.ok sv, ds)) := by
  unfold slO at e
  split at e
  · cases e
    obtain ⟨p, vs, rfl, h1, h2⟩ := ha
    exact At.lnew st (cut_rep h2) fun Q h => .inl ⟨p, vs, rfl, h1, h⟩
  · rename_i z
    have e1 : x = .str z := ha
    subst e1
    split at e
    · rename_i hl
      cases e
      exact At.toS (At.pure (v := .str (cutS z lo hi)) st (by simp [Rep]) fun Q h => .inr (.inl ⟨z, rfl, hl, h⟩))
    · cases e
  · obtain ⟨p, vs, rfl, h1, h2⟩ := ha
    split at e
    · cases e
    · rename_i hc
      cases e
      exact At.toS (At.tnew st (cut_rep h2) fun Q h => .inr (.inr ⟨p, vs, rfl, h1, by rw [h2.length]; exact hc, h⟩))
  · cases e
def slM (ma : M D) (ml mh : M (Option Int)) : M SV := bnd ma fun a => bnd ml fun lo => bnd mh fun hi => lift (slO a lo hi)
theorem sl_A : SlR X (fun x lo hi H Q => rSlL X.K x lo hi H Q ∨ rSlS x lo hi H Q ∨ rSlT X.K x lo hi H Q) := sl_list.or (sl_str.or sl_tup)
theorem de_sl {a : Expr} {lo hi : Option Expr} {ma : M D} {ml mh : M (Option Int)} {p pos : Pos} (ha : DV X W a ma) (hl : DP X W lo ml) (hh : DP X W hi mh) : DE X W (.Subscript a (.Slice lo hi none p) pos) (slM ma ml mh) := by
  obtain ⟨ta, pa, qa⟩ := ha
  obtain ⟨tl, pl, ql⟩ := hl
  obtain ⟨th, ph, qh⟩ := hh
  refine ⟨_, pe_slice sl_A pa pl ph, fun F σ H ds s => ?_⟩
  refine At.bind (t2 := fun x H1 Q => tl σ H1 fun l H2 => th σ H2 fun u H3 => rSlL X.K x l u H3 Q ∨ rSlS x l u H3 Q ∨ rSlT X.K x l u H3 Q) mS (qa F σ H ds s) (fun a ds1 F1 H1 x st1 rel1 => ?_) fun Q h => h
  refine At.bind (t2 := fun l H2 Q => th σ H2 fun u H3 => rSlL X.K x l u H3 Q ∨ rSlS x l u H3 Q ∨ rSlT X.K x l u H3 Q) mS (ql F1 σ H1 ds1 st1.st) (fun l ds2 F2 H2 l' st2 rel2 => ?_) fun Q h => h
  refine At.bind (t2 := fun u H3 Q => rSlL X.K x l' u H3 Q ∨ rSlS x l' u H3 Q ∨ rSlT X.K x l' u H3 Q) mS (qh F2 σ H2 ds2 st2.st) (fun u ds3 F3 H3 u' st3 rel3 => ?_) fun Q h => h
  cases rel2; cases rel3
  unfold lift
  cases e : slO a l u with
  | none => exact At.none_
  | some z => exact sl_at st3.st ((Rep.mono (st2.trans st3).ext.ff rel1).hld st3.st.sub) e
/-- x[a:b], x a name -/
def slN (i : Nat) (ml mh : M (Option Int)) : M SV := fun ds => match ds[i]? with
  | some (some _) => bnd ml (fun lo => bnd mh fun hi ds1 => match ds1[i]? with
    | some (some s) => lift (slO s.d lo hi) ds1
    | _ => none) ds
  | _ => none
theorem de_slN (i : Nat) {x : Str} {lo hi : Option Expr} {ml mh : M (Option Int)} {p p2 pos : Pos} (hl : DP X W lo ml) (hh : DP X W hi mh) (hN : X.N[i]? = some x := by rfl) (hv : Vis X.env.scope x := by first | exact Or.inl rfl | exact Or.inr (Or.inl rfl) | exact Or.inr (Or.inr rfl)) (hd : (x == ("__debug__" : Str)) = false := by decide)
    (hcd : (x == ("__classdict__" : Str)) = false := by decide) : DE X W (.Subscript (.Name x p) (.Slice lo hi none p2) pos) (slN i ml mh) := by
  obtain ⟨tl, pl, ql⟩ := hl
  obtain ⟨th, ph, qh⟩ := hh
  refine ⟨_, pe_slice sl_A (pe_var hN hv hd hcd) pl ph, fun F σ H ds s => ?_⟩
  unfold slN
  cases e : ds[i]? with
  | none => exact At.none_
  | some o =>
    cases o with
    | none => exact At.none_
    | some sv =>
      obtain ⟨v, e1, _⟩ := s.slot i sv e
      refine At.bind (t2 := fun l H2 Q => th σ H2 fun u H3 => rSlL X.K v l u H3 Q ∨ rSlS v l u H3 Q ∨ rSlT X.K v l u H3 Q) mS (ql F σ H ds s) (fun l ds2 F2 H2 l' st2 rel2 => ?_) fun Q h => ⟨v, e1, h⟩
      refine At.bind (t2 := fun u H3 Q => rSlL X.K v l' u H3 Q ∨ rSlS v l' u H3 Q ∨ rSlT X.K v l' u H3 Q) mS (qh F2 σ H2 ds2 st2.st) (fun u ds3 F3 H3 u' st3 rel3 => ?_) fun Q h => h
      cases rel2; cases rel3
      cases e2 : ds3[i]? with
      | none => exact At.none_
      | some o2 =>
        cases o2 with
        | none => exact At.none_
        | some s2 =>
          obtain ⟨v2, e3, r2⟩ := st3.st.slot i s2 e2
          rw [e1] at e3; cases e3
          simp only
          unfold lift
          cases e4 : slO s2.d l u with
          | none => exact At.none_
          | some z => exact sl_at st3.st (r2.hld st3.st.sub) e4
/-! ### built-ins of one argument -/
def lenO (d : D) : Option D := match d with
  | .lst xs => some (.int xs.length)
  | .tup xs => some (.int xs.length)
  | .dct kvs => some (.int kvs.length)
  | .str z => if z.length ≤ sizeLine then some (.int z.length) else none
  | _ => none
theorem len_call : Call1V X W (fun xs H Q => (∃ x n, xs = [x] ∧ LenV X.K x H n ∧ Q (.int n) H) ∨ ∃ a kvs, xs = [V.ref a] ∧ Rd H a (.dK kvs) ∧ Q (.int kvs.length) H) lenO := fun F σ H ds v d s st ha e => by
  unfold lenO at e
  split at e
  · rename_i ys
    cases e
    obtain ⟨p, vs, rfl, h1, h2⟩ := ha
    exact At.pure (v := .int ys.length) st (by simp [Rep]) fun Q h => .inl ⟨_, vs.length, rfl, .inl ⟨vs, h1, rfl⟩, by rw [h2.length]; exact h⟩
  · rename_i ys
    cases e
    obtain ⟨p, vs, rfl, h1, h2⟩ := ha
    exact At.pure (v := .int ys.length) st (by simp [Rep]) fun Q h => .inl ⟨_, vs.length, rfl, .inr ⟨vs, h1, rfl⟩, by rw [h2.length]; exact h⟩
  · rename_i ys
    cases e
    obtain ⟨p, vs, rfl, h1, h2⟩ := ha
    exact At.pure (v := .int ys.length) st (by simp [Rep]) fun Q h => .inr ⟨p, vs, rfl, h1, by rw [h2.length]; exact h⟩
  · rename_i z
    have e1 : v = .str z := ha
    subst e1
    split at e
    · rename_i hl
      cases e
      exact At.pure (v := .int z.length) st (by simp [Rep]) fun Q h => .inl ⟨_, z.length, rfl, ⟨hl, rfl⟩, h⟩
    · cases e
  · cases e
theorem callR_or {f : Value} {r r' : List V → Hp → VK → Prop} (h : CallR X f r) (h' : CallR X f r') : CallR X f (fun xs H Q => r xs H Q ∨ r' xs H Q) := by
  intro pins s σ H xs us Q I r0 q
  rcases q with q | q
  · exact h pins s σ H xs us Q I r0 q
  · exact h' pins s σ H xs us Q I r0 q
theorem call_lenA : CallR X (.builtin "len") (fun xs H Q => (∃ x n, xs = [x] ∧ LenV X.K x H n ∧ Q (.int n) H) ∨ ∃ a kvs, xs = [V.ref a] ∧ Rd H a (.dK kvs) ∧ Q (.int kvs.length) H) := by
  refine callR_or call_len ?_
  intro pins s σ H xs us Q I r h
  obtain ⟨a, kvs, rfl, ha, q⟩ := h
  obtain ⟨u, rfl, ru⟩ := vals1 r
  cases ru
  exact d_len I ha fun t s' I' => ⟨.int kvs.length, H, I', ⟨t, rfl⟩, q⟩
def intO (d : D) : Option D := match d with
  | .int i => some (.int i)
  | .bl k => some (.int (if k then 1 else 0))
  | _ => none
theorem int_call : Call1V X W (fun xs H Q => (∃ i, xs = [.int i] ∧ Q (.int i) H) ∨ ∃ k, xs = [.bl k] ∧ Q (.int (if k then 1 else 0)) H) intO := fun F σ H ds v d s st ha e => by
  unfold intO at e
  split at e
  · rename_i i
    have e1 : v = .int i := ha
    subst e1; cases e
    exact At.pure (v := .int i) st (by simp [Rep]) fun Q h => .inl ⟨i, rfl, h⟩
  · rename_i k
    have e1 : v = .bl k := ha
    subst e1; cases e
    exact At.pure (v := .int (if k then 1 else 0)) st (by simp [Rep]) fun Q h => .inr ⟨k, rfl, h⟩
  · cases e
def absO (d : D) : Option D := match d with
  | .int i => some (.int (if i < 0 then -i else i))
  | _ => none
theorem abs_call : Call1V X W (fun xs H Q => ∃ i, xs = [.int i] ∧ Q (.int (if i < 0 then -i else i)) H) absO := fun F σ H ds v d s st ha e => by
  unfold absO at e
  split at e
  · rename_i i
    have e1 : v = .int i := ha
    subst e1; cases e
    exact At.pure (v := .int (if i < 0 then -i else i)) st (by simp [Rep]) fun Q h => ⟨i, rfl, h⟩
  · cases e
/-! ### list(x), tuple(x), dict(x) -/
def keyV (k : Key) : D := match k with
  | .inl i => .int i
  | .inr z => .str z
def listO (d : D) : Option SV := match d with
  | .lst xs => some (.own (.lst xs))
  | .tup xs => some (.own (.lst xs))
  | .dct kvs => some (.own (.lst (kvs.map fun kv => keyV kv.1)))
  | _ => none
theorem keys_rep {K : PySem.W.Frag} {F : Hp} : ∀ {ka : List (Key × D)} {ws : List (Key × V)}, Repk K F ka ws → Reps K F (ka.map fun kv => keyV kv.1) (ws.map fun kv => kV kv.1)
  | [], _, h => by unfold Repk at h; subst h; exact Reps.nil
  | (k, d) :: r, _, h => by
    unfold Repk at h
    obtain ⟨v, ws, rfl, h1, h2⟩ := h
    exact Reps.cons (by cases k <;> simp [keyV, kV, Rep]) (keys_rep h2)
theorem list_call : Call1 X W (fun xs H Q => (∃ p ys, xs = [.ref p] ∧ (SqL X.K H p ys ∨ SqT X.K H p ys) ∧ ∀ l, H l = none → Q (.ref l) (upd H l (.lst ys))) ∨ ∃ (a : Addr) (kvs : List (Key × V)), xs = [.ref a] ∧ Rd H a (.dK kvs) ∧ ∀ p, H p = none → Q (.ref p) (upd H p (.lst (kvs.map fun kv => kV kv.1)))) listO := fun F σ H ds v d s st ha e => by
  unfold listO at e
  split at e
  · cases e
    obtain ⟨p, vs, rfl, h1, h2⟩ := ha
    exact At.lnew st h2 fun Q h => .inl ⟨p, vs, rfl, .inl h1, h⟩
  · cases e
    obtain ⟨p, vs, rfl, h1, h2⟩ := ha
    exact At.lnew st h2 fun Q h => .inl ⟨p, vs, rfl, .inr h1, h⟩
  · cases e
    obtain ⟨p, vs, rfl, h1, h2⟩ := ha
    exact At.lnew st (keys_rep h2) fun Q h => .inr ⟨p, vs, rfl, h1, h⟩
  · cases e
theorem call_listA (hc : X.calm = true) : CallR X (.type "list") (fun xs H Q => (∃ p ys, xs = [.ref p] ∧ (SqL X.K H p ys ∨ SqT X.K H p ys) ∧ ∀ l, H l = none → Q (.ref l) (upd H l (.lst ys))) ∨ ∃ (a : Addr) (kvs : List (Key × V)), xs = [.ref a] ∧ Rd H a (.dK kvs) ∧ ∀ p, H p = none → Q (.ref p) (upd H p (.lst (kvs.map fun kv => kV kv.1)))) := callR_or call_list_of (call_listD hc)
def tupleO (d : D) : Option D := match d with
  | .lst xs => some (.tup xs)
  | .tup xs => some (.tup xs)
  | _ => none
/-- the argument frozen: tuple(t) is t itself -/
theorem tuple_at {F H : Hp} {σ : L2.St} {ds : DS} {v : V} {d s : D} (st : StR X.K F H σ ds) (ha : Rep X.K F d v) (e : tupleO d = some s) : At X.K W (RelD X.K) F H σ ds (fun Q => ∃ p ys, [v] = [V.ref p] ∧ ((SqL X.K H p ys ∧ ∀ l, H l = none → Q (.ref l) (upd H l (.tup ys))) ∨ (SqT X.K H p ys ∧ Q (.ref p) H))) (some (.ok s, ds)) := by
  unfold tupleO at e
  split at e
  · cases e
    have ha' := ha
    unfold Rep at ha'
    obtain ⟨p, vs, rfl, h1, h2⟩ := ha'
    exact At.tnew st h2 fun Q h => ⟨p, vs, rfl, .inl ⟨st.sub.lst h1, h⟩⟩
  · cases e
    have ha' := ha
    unfold Rep at ha'
    obtain ⟨p, vs, rfl, h1, h2⟩ := ha'
    exact At.pure st ha fun Q h => ⟨p, vs, rfl, .inr ⟨st.sub.tup h1, h⟩⟩
  · cases e
theorem dv_tuple {a : Expr} {ma : M D} {p0 pos : Pos} (hm : X.mg "tuple" = none) (ha : DV X W a ma) (hg : Gl X "tuple" := by rfl) (hv : bootBuiltins "tuple" = some (.type "tuple") := by decide +kernel)
    (he : starEach [a] X.env = (false, eval a X.env) :: starEach [] X.env := by rfl) (hpl : (backTo pos (starEach [] X.env)).any (·.1) = false := by rfl) : DV X W (.Call (.Name "tuple" p0) [a] [] pos) (un tupleO ma) := by
  obtain ⟨ta, pa, qa⟩ := ha
  refine ⟨_, pe_callTy call_tuple_of hg hm hv (pa_cons pa pa_nil he) (by decide) (by decide) he hpl, fun F σ H ds s => ?_⟩
  refine At.bind (t2 := fun x H1 Q => ∃ p ys, [x] = [V.ref p] ∧ ((SqL X.K H1 p ys ∧ ∀ l, H1 l = none → Q (.ref l) (upd H1 l (.tup ys))) ∨ (SqT X.K H1 p ys ∧ Q (.ref p) H1))) mD (qa F σ H ds s) (fun d ds1 F1 H1 x st1 rel1 => ?_) fun Q h => h
  unfold lift
  cases e : tupleO d with
  | none => exact At.none_
  | some z => exact tuple_at st1.st rel1 e
def pairD (d : D) : Option (Key × D) := match d with
  | .tup [a, b] => (keyD a).map fun k => (k, b)
  | _ => none
def pairsD : List D → Option (List (Key × D))
  | [] => some []
  | d :: r => match pairD d, pairsD r with
    | some p, some l => some (p :: l)
    | _, _ => none
def mergeD (kvs more : List (Key × D)) : List (Key × D) := more.foldl (fun acc kv => putD acc kv.1 kv.2) kvs
def dictO (d : D) : Option SV := match d with
  | .dct kvs => some (.own (.dct kvs))
  | .lst xs => (pairsD xs).map fun l => .own (.dct (mergeD [] l))
  | _ => none
theorem putD_rep {K : PySem.W.Frag} {F : Hp} {k : Key} {d : D} {v : V} (r : Rep K F d v) : ∀ {ka : List (Key × D)} {ws : List (Key × V)}, Repk K F ka ws → Repk K F (putD ka k d) (putK ws k v) := by
  have app : ∀ {ka : List (Key × D)} {ws : List (Key × V)}, Repk K F ka ws → Repk K F (ka ++ [(k, d)]) (ws ++ [(k, v)]) := by
    intro ka
    induction ka with
    | nil => intro ws h; unfold Repk at h; subst h; simp only [List.nil_append]; unfold Repk; exact ⟨v, [], rfl, r, by unfold Repk; rfl⟩
    | cons p t ih =>
      intro ws h
      obtain ⟨k', d'⟩ := p
      unfold Repk at h
      obtain ⟨v', ws', rfl, h1, h2⟩ := h
      simp only [List.cons_append]
      unfold Repk
      exact ⟨v', _, rfl, h1, ih h2⟩
  have mp : ∀ {ka : List (Key × D)} {ws : List (Key × V)}, Repk K F ka ws → Repk K F (ka.map fun kv => if kv.1 = k then (kv.1, d) else kv) (ws.map fun kv => if kv.1 = k then (kv.1, v) else kv) := by
    intro ka
    induction ka with
    | nil => intro ws h; unfold Repk at h; subst h; simp only [List.map_nil]; unfold Repk; rfl
    | cons p t ih =>
      intro ws h
      obtain ⟨k', d'⟩ := p
      unfold Repk at h
      obtain ⟨v', ws', rfl, h1, h2⟩ := h
      simp only [List.map_cons]
      by_cases hk : k' = k
      · rw [if_pos hk, if_pos hk]; unfold Repk; exact ⟨v, _, rfl, r, ih h2⟩
      · rw [if_neg hk, if_neg hk]; unfold Repk; exact ⟨v', _, rfl, h1, ih h2⟩
  have ek : ∀ {ka : List (Key × D)} {ws : List (Key × V)}, Repk K F ka ws → (ws.any fun kv => decide (kv.1 = k)) = (ka.any fun kv => decide (kv.1 = k)) := by
    intro ka
    induction ka with
    | nil => intro ws h; unfold Repk at h; subst h; rfl
    | cons p t ih =>
      intro ws h
      obtain ⟨k', d'⟩ := p
      unfold Repk at h
      obtain ⟨v', ws', rfl, h1, h2⟩ := h
      simp only [List.any_cons, ih h2]
  intro ka ws h
  have ek := ek h
  unfold putD putK
  rw [ek]
  by_cases hc : (ka.any fun kv => decide (kv.1 = k)) = true
  · rw [if_pos hc, if_pos hc]; exact mp h
  · rw [if_neg hc, if_neg hc]; exact app h
theorem merge_rep {K : PySem.W.Frag} {F : Hp} : ∀ {more : List (Key × D)} {mw : List (Key × V)} {ka : List (Key × D)} {ws : List (Key × V)}, Repk K F more mw → Repk K F ka ws → Repk K F (mergeD ka more) (mergeK ws mw)
  | [], _, ka, ws, h, g => by unfold Repk at h; subst h; exact g
  | (k, d) :: r, _, ka, ws, h, g => by
    unfold Repk at h
    obtain ⟨v, mw, rfl, h1, h2⟩ := h
    show Repk K F (mergeD (putD ka k d) r) (mergeK (putK ws k v) mw)
    exact merge_rep h2 (putD_rep h1 g)
theorem pairs_rep {K : PySem.W.Frag} {F H : Hp} (sb : Sub F H) : ∀ {xs : List D} {vs : List V} {l : List (Key × D)}, Reps K F xs vs → pairsD xs = some l → ∃ ps ws, vs = ps.map V.ref ∧ Paired (fun p (kv : Key × V) => SqT K H p [kV kv.1, kv.2]) ps ws ∧ Repk K F l ws
  | [], _, l, h, e => by
    unfold Reps at h; subst h
    cases e
    exact ⟨[], [], rfl, .nil, by unfold Repk; rfl⟩
  | d :: r, _, l, h, e => by
    unfold Reps at h
    obtain ⟨v, ws, rfl, h1, h2⟩ := h
    simp only [pairsD] at e
    split at e
    · rename_i p l' e1 e2
      cases e
      obtain ⟨ps, kvs, e3, h3, h4⟩ := pairs_rep sb h2 e2
      unfold pairD at e1
      split at e1
      · rename_i a b
        cases ek : keyD a with
        | none => rw [ek] at e1; cases e1
        | some k =>
          rw [ek] at e1; cases e1
          unfold Rep at h1
          obtain ⟨q, vs2, rfl, h5, h6⟩ := h1
          obtain ⟨x, y, rfl, r1, r2⟩ := Reps.two h6
          have ex := keyD_rep ek r1
          subst ex
          exact ⟨q :: ps, (k, y) :: kvs, by rw [e3]; rfl, .cons (sb.tup h5) h3, by unfold Repk; exact ⟨y, kvs, rfl, r2, h4⟩⟩
      · cases e1
    · cases e
theorem dict_call : Call1 X W (fun xs H Q => (∃ (a : Addr) (kvs : List (Key × V)), xs = [.ref a] ∧ Rd H a (.dK kvs) ∧ ∀ p, H p = none → Q (.ref p) (upd H p (.dK kvs))) ∨
    ∃ (a : Addr) (ps : List Addr) (kvs : List (Key × V)), xs = [.ref a] ∧ SqL X.K H a (ps.map V.ref) ∧ Paired (fun p kv => SqT X.K H p [kV kv.1, kv.2]) ps kvs ∧ ∀ p, H p = none → Q (.ref p) (upd H p (.dK (mergeK [] kvs)))) dictO := fun F σ H ds v d s st ha e => by
  unfold dictO at e
  split at e
  · cases e
    obtain ⟨p, ws, rfl, h1, h2⟩ := ha
    exact At.dnew st h2 fun Q h => .inl ⟨p, ws, rfl, h1, h⟩
  · rename_i xs
    obtain ⟨p, vs, rfl, h1, h2⟩ := ha
    cases ep : pairsD xs with
    | none => rw [ep] at e; cases e
    | some l =>
      rw [ep] at e; cases e
      obtain ⟨ps, ws, rfl, h3, h4⟩ := pairs_rep st.sub h2 ep
      exact At.dnew st (merge_rep h4 (by unfold Repk; rfl)) fun Q h => .inr ⟨p, ps, ws, rfl, h1, h3, h⟩
  · cases e
theorem call_dictA (hc : X.calm = true) : CallR X (.type "dict") (fun xs H Q => (∃ (a : Addr) (kvs : List (Key × V)), xs = [.ref a] ∧ Rd H a (.dK kvs) ∧ ∀ p, H p = none → Q (.ref p) (upd H p (.dK kvs))) ∨
    ∃ (a : Addr) (ps : List Addr) (kvs : List (Key × V)), xs = [.ref a] ∧ SqL X.K H a (ps.map V.ref) ∧ Paired (fun p kv => SqT X.K H p [kV kv.1, kv.2]) ps kvs ∧ ∀ p, H p = none → Q (.ref p) (upd H p (.dK (mergeK [] kvs)))) := callR_or call_dictD (call_dictP hc)
/-! ### all, any -/
def blsD : List D → Option (List Bool)
  | [] => some []
  | .bl b :: r => (blsD r).map (b :: ·)
  | _ :: _ => none
def allO (d : D) : Option D := match d with
  | .lst xs => (blsD xs).map fun bs => .bl (bs.all id)
  | _ => none
def anyO (d : D) : Option D := match d with
  | .lst xs => (blsD xs).map fun bs => .bl (bs.any id)
  | _ => none
theorem bls_rep {K : PySem.W.Frag} {F : Hp} : ∀ {xs : List D} {vs : List V} {bs : List Bool}, Reps K F xs vs → blsD xs = some bs → vs = bs.map V.bl
  | [], _, bs, h, e => by unfold Reps at h; subst h; cases e; rfl
  | d :: r, _, bs, h, e => by
    unfold Reps at h
    obtain ⟨v, ws, rfl, h1, h2⟩ := h
    cases d with
    | bl b =>
      simp only [blsD] at e
      cases eb : blsD r with
      | none => rw [eb] at e; cases e
      | some l =>
        rw [eb] at e; cases e
        have e1 : v = .bl b := h1
        rw [bls_rep h2 eb, e1]; rfl
    | _ => cases e
theorem all_call : Call1V X W (rAll X.K) allO := fun F σ H ds v d s st ha e => by
  unfold allO at e
  split at e
  · rename_i xs
    cases eb : blsD xs with
    | none => rw [eb] at e; cases e
    | some bs =>
      rw [eb] at e; cases e
      obtain ⟨p, vs, rfl, h1, h2⟩ := ha
      have := bls_rep h2 eb
      subst this
      exact At.pure (v := .bl (bs.all id)) st (by simp [Rep]) fun Q h => ⟨p, bs, rfl, h1, h⟩
  · cases e
theorem any_call : Call1V X W (rAny X.K) anyO := fun F σ H ds v d s st ha e => by
  unfold anyO at e
  split at e
  · rename_i xs
    cases eb : blsD xs with
    | none => rw [eb] at e; cases e
    | some bs =>
      rw [eb] at e; cases e
      obtain ⟨p, vs, rfl, h1, h2⟩ := ha
      have := bls_rep h2 eb
      subst this
      exact At.pure (v := .bl (bs.any id)) st (by simp [Rep]) fun Q h => ⟨p, bs, rfl, h1, h⟩
  · cases e
end
end DL
/-! DLk: sorted, isinstance, split, join, what changes a list or dict of one's own, attributes. -/
namespace DL
open PySem PySem.Spec PyProof.Rows L2
/-! ### order of texts is total -/
theorem ltS_eq (x y : Str) : ltS x y = ltCps x.cps.toList y.cps.toList := (ltCps_eq _ _).symm
theorem ltCps_tri : ∀ a b : List Nat, ltCps a b = false → ltCps b a = false → a = b
  | [], [], _, _ => rfl
  | [], _ :: _, h, _ => by simp [ltCps] at h
  | _ :: _, [], _, h => by simp [ltCps] at h
  | a :: r, b :: t, h, h' => by
    simp only [ltCps, Bool.or_eq_false_iff, decide_eq_false_iff_not, Bool.and_eq_false_iff, beq_eq_false_iff_ne] at h h'
    have e : a = b := by omega
    subst e
    have h1 : ltCps r t = false := h.2.resolve_left (fun z => z rfl)
    have h2 : ltCps t r = false := h'.2.resolve_left (fun z => z rfl)
    rw [ltCps_tri r t h1 h2]
theorem ltCps_trans : ∀ a b c : List Nat, ltCps b a = false → ltCps c b = false → ltCps c a = false
  | _, _, [], h, h' => by
    rename_i a b
    cases b with
    | nil => exact h
    | cons y t => simp [ltCps] at h'
  | [], _, _ :: _, _, _ => by simp [ltCps]
  | x :: r, [], z :: u, h, _ => by simp [ltCps] at h
  | x :: r, y :: t, z :: u, h, h' => by
    simp only [ltCps, Bool.or_eq_false_iff, decide_eq_false_iff_not, Bool.and_eq_false_iff, beq_eq_false_iff_ne] at h h' ⊢
    refine ⟨by omega, ?_⟩
    by_cases e : z = x
    · right
      have e1 : y = x := by omega
      have e2 : z = y := by omega
      exact ltCps_trans r t u (h.2.resolve_left (fun q => q e1)) (h'.2.resolve_left (fun q => q e2))
    · exact .inl e
theorem ltCps_total : ∀ a b : List Nat, ltCps a b = true → ltCps b a = false
  | [], [], h => by simp [ltCps] at h
  | [], _ :: _, _ => by simp [ltCps]
  | _ :: _, [], h => by simp [ltCps] at h
  | a :: r, b :: t, h => by
    simp only [ltCps, Bool.or_eq_true, decide_eq_true_eq, Bool.and_eq_true, beq_iff_eq] at h
    simp only [ltCps, Bool.or_eq_false_iff, decide_eq_false_iff_not, Bool.and_eq_false_iff, beq_eq_false_iff_ne]
    rcases h with h | ⟨h, h2⟩
    · exact ⟨by omega, .inl (by omega)⟩
    · subst h; exact ⟨by omega, .inr (ltCps_total r t h2)⟩
def leB (a b : Str) : Bool := !ltS b a
theorem leB_total (a b : Str) : (leB a b || leB b a) = true := by
  unfold leB
  rw [ltS_eq, ltS_eq]
  cases e : ltCps b.cps.toList a.cps.toList with
  | false => rfl
  | true => rw [ltCps_total _ _ e]; rfl
theorem leB_trans (a b c : Str) (h : leB a b = true) (h' : leB b c = true) : leB a c = true := by
  unfold leB at *
  rw [ltS_eq] at *
  simp only [Bool.not_eq_true'] at *
  exact ltCps_trans _ _ _ h h'
theorem leB_anti (a b : Str) (h : leB a b = true) (h' : leB b a = true) : a = b := by
  unfold leB at *
  rw [ltS_eq] at *
  simp only [Bool.not_eq_true'] at *
  have := ltCps_tri _ _ h' h
  cases a; cases b
  congr 1
  exact Array.ext' this
/-- the texts in order -/
def sortS (l : List Str) : List Str := l.mergeSort leB
theorem sortS_perm (l : List Str) : (sortS l).Perm l := List.mergeSort_perm l leB
theorem sortS_pw (l : List Str) : (sortS l).Pairwise fun a b => leB a b = true := List.pairwise_mergeSort leB_trans leB_total l
theorem sortS_uniq {l m : List Str} (hp : m.Perm l) (hs : m.Pairwise fun a b => leB a b = true) : m = sortS l :=
  List.Perm.eq_of_pairwise (fun a b _ _ h h' => leB_anti a b h h') hs (sortS_pw l) (hp.trans (sortS_perm l).symm)
theorem rising_pw : ∀ (p : Str) (l : List Str), risingS p l = true → (p :: l).Pairwise fun a b => leB a b = true
  | p, [], _ => List.pairwise_singleton _ _
  | p, x :: r, h => by
    simp only [risingS, Bool.and_eq_true] at h
    have ih := rising_pw x r h.2
    refine List.pairwise_cons.mpr ⟨fun y hy => ?_, ih⟩
    have h1 : leB p x = true := by unfold leB; rw [ltS_eq]; exact h.1
    rcases List.mem_cons.mp hy with rfl | hy
    · exact h1
    · exact leB_trans _ _ _ h1 (List.rel_of_pairwise_cons ih hy)
theorem sortedS_pw {l : List Str} (h : sortedS l = true) : l.Pairwise fun a b => leB a b = true := by
  cases l with
  | nil => exact .nil
  | cons p r => exact rising_pw p r h
def sortI (l : List Int) : List Int := l.mergeSort fun a b => decide (a ≤ b)
theorem sortI_perm (l : List Int) : (sortI l).Perm l := List.mergeSort_perm l _
theorem sortI_pw (l : List Int) : (sortI l).Pairwise (· ≤ ·) := by
  have := List.pairwise_mergeSort (le := fun a b : Int => decide (a ≤ b)) (fun a b c h h' => by simp at *; omega) (fun a b => by simp; omega) l
  exact this.imp fun h => by simpa using h
theorem sortI_uniq {l m : List Int} (hp : m.Perm l) (hs : m.Pairwise (· ≤ ·)) : m = sortI l :=
  List.Perm.eq_of_pairwise (fun a b _ _ h h' => Int.le_antisymm h h') hs (sortI_pw l) (hp.trans (sortI_perm l).symm)
def strsD : List D → Option (List Str)
  | [] => some []
  | .str z :: r => (strsD r).map (z :: ·)
  | _ :: _ => none
def intsD : List D → Option (List Int)
  | [] => some []
  | .int z :: r => (intsD r).map (z :: ·)
  | _ :: _ => none
theorem strsD_map (l : List Str) : strsD (l.map .str) = some l := by
  induction l with
  | nil => rfl
  | cons x r ih => simp [strsD, ih]
theorem intsD_map (l : List Int) : intsD (l.map .int) = some l := by
  induction l with
  | nil => rfl
  | cons x r ih => simp [intsD, ih]
section
variable {X : Cx} {W : WX}
theorem strs_rep {K : PySem.W.Frag} {F : Hp} : ∀ {xs : List D} {vs : List V} {l : List Str}, Reps K F xs vs → strsD xs = some l → vs = l.map V.str
  | [], _, l, h, e => by unfold Reps at h; subst h; cases e; rfl
  | d :: r, _, l, h, e => by
    unfold Reps at h
    obtain ⟨v, ws, rfl, h1, h2⟩ := h
    cases d with
    | str b =>
      simp only [strsD] at e
      cases eb : strsD r with
      | none => rw [eb] at e; cases e
      | some l =>
        rw [eb] at e; cases e
        have e1 : v = .str b := h1
        rw [strs_rep h2 eb, e1]; rfl
    | _ => cases e
theorem ints_rep {K : PySem.W.Frag} {F : Hp} : ∀ {xs : List D} {vs : List V} {l : List Int}, Reps K F xs vs → intsD xs = some l → vs = l.map V.int
  | [], _, l, h, e => by unfold Reps at h; subst h; cases e; rfl
  | d :: r, _, l, h, e => by
    unfold Reps at h
    obtain ⟨v, ws, rfl, h1, h2⟩ := h
    cases d with
    | int b =>
      simp only [intsD] at e
      cases eb : intsD r with
      | none => rw [eb] at e; cases e
      | some l =>
        rw [eb] at e; cases e
        have e1 : v = .int b := h1
        rw [ints_rep h2 eb, e1]; rfl
    | _ => cases e
theorem rep_strs {K : PySem.W.Frag} {F : Hp} : ∀ (l : List Str), Reps K F (l.map .str) (l.map V.str)
  | [] => Reps.nil
  | x :: r => Reps.cons (by simp [Rep]) (rep_strs r)
theorem rep_ints {K : PySem.W.Frag} {F : Hp} : ∀ (l : List Int), Reps K F (l.map .int) (l.map V.int)
  | [] => Reps.nil
  | x :: r => Reps.cons (by simp [Rep]) (rep_ints r)
def keysS (kvs : List (Key × D)) : Option (List Str) := strsD (kvs.map fun kv => keyV kv.1)
/-- sorted: texts (below 64), whole numbers, a dict's keys that are texts -/
def sortO (d : D) : Option SV := match d with
  | .lst xs => match strsD xs with
    | some ss => if ss.length < 64 then some (.own (.lst ((sortS ss).map .str))) else none
    | none => (intsD xs).map fun ns => .own (.lst ((sortI ns).map .int))
  | .dct kvs => match keysS kvs with
    | some ss => if ss.length < 64 then some (.own (.lst ((sortS ss).map .str))) else none
    | none => none
  | _ => none
def rSortA (K : PySem.W.Frag) : List V → Hp → VK → Prop := fun xs H Q => rSortedS K xs H Q ∨ rSortedI K xs H Q ∨
  ∃ (a : Addr) (kvs : List (Key × V)) (ks : List Str), xs = [.ref a] ∧ Rd H a (.dK kvs) ∧ kvs.map (·.1) = ks.map Sum.inr ∧ ks.length < 64 ∧ ∀ ys p, ys.Perm ks → sortedS ys = true → H p = none → Q (.ref p) (upd H p (.lst (ys.map V.str)))
theorem call_sortA (hc : X.calm = true) : CallR X (.builtin "sorted") (rSortA X.K) := callR_or cr_sortedS (callR_or cr_sortedI (call_sortedD hc))
theorem keysS_eq : ∀ {kvs : List (Key × D)} {ss : List Str}, keysS kvs = some ss → kvs.map (·.1) = ss.map Sum.inr
  | [], ss, h => by unfold keysS at h; simp [strsD] at h; subst h; rfl
  | (k, d) :: r, ss, h => by
    unfold keysS at h
    simp only [List.map_cons] at h
    cases k with
    | inl i => simp [keyV, strsD] at h
    | inr z =>
      change (strsD (r.map fun kv => keyV kv.1)).map (z :: ·) = some ss at h
      cases e : strsD (r.map fun kv => keyV kv.1) with
      | none => rw [e] at h; cases h
      | some l =>
        rw [e] at h; cases h
        simp only [List.map_cons, keysS_eq (kvs := r) e]
theorem sort_call : Call1 X W (rSortA X.K) sortO := fun F σ H ds v d s st ha e => by
  unfold sortO at e
  split at e
  · rename_i xs
    obtain ⟨p, vs, rfl, h1, h2⟩ := ha
    cases es : strsD xs with
    | some ss =>
      rw [es] at e
      simp only at e
      split at e
      · rename_i hl
        cases e
        have := strs_rep h2 es
        subst this
        exact At.lnew st (rep_strs (sortS ss)) fun Q h => .inl ⟨p, ss, rfl, h1, hl, fun ys q hp hs hq => by rw [sortS_uniq hp (sortedS_pw hs)]; exact h q hq⟩
      · cases e
    | none =>
      rw [es] at e
      simp only at e
      cases ei : intsD xs with
      | none => rw [ei] at e; cases e
      | some ns =>
        rw [ei] at e; cases e
        have := ints_rep h2 ei
        subst this
        exact At.lnew st (rep_ints (sortI ns)) fun Q h => .inr (.inl ⟨p, ns, rfl, h1, fun ys q hp hs hq => by rw [sortI_uniq hp hs]; exact h q hq⟩)
  · rename_i kvs
    obtain ⟨p, ws, rfl, h1, h2⟩ := ha
    cases es : keysS kvs with
    | none => rw [es] at e; cases e
    | some ss =>
      rw [es] at e
      simp only at e
      split at e
      · rename_i hl
        cases e
        exact At.lnew st (rep_strs (sortS ss)) fun Q h => .inr (.inr ⟨p, ws, ss, rfl, h1, by rw [h2.keys]; exact keysS_eq es, hl, fun ys q hp hs hq => by rw [sortS_uniq hp (sortedS_pw hs)]; exact h q hq⟩)
      · cases e
  · cases e
end
end DL
/-! DLl: isinstance, split, join, what changes a list or dict of one's own, attributes. -/
namespace DL
open PySem PySem.Spec PyProof.Rows L2
section
variable {X : Cx} {W : WX}
/-! ### a built-in of several arguments -/
def CallNV (X : Cx) (W : WX) (r : List V → Hp → VK → Prop) (f : List D → Option D) : Prop := ∀ F σ H ds vs l s, StR X.K F H σ ds → Reps X.K F l vs → f l = some s → At X.K W (RelD X.K) F H σ ds (r vs H) (some (.ok s, ds))
theorem dv_callN {f : List D → Option D} {r : List V → Hp → VK → Prop} {id : String} {x : Str} {e : Expr} {es : List Expr} {ma : M (List D)} {p0 pos : Pos} (hc : CallR X (.builtin id) r) (hf : CallNV X W r f) (hm : X.mg x = none) (hv : bootBuiltins x = some (.builtin id)) (ha : DA X W (e :: es) ma) (hg : Gl X x := by rfl) (hn : x ≠ "__name__" := by decide) (hd : (x == ("__debug__" : Str)) = false := by decide)
    (he : starEach (e :: es) X.env = (false, eval e X.env) :: starEach es X.env := by rfl) (hpl : (backTo pos (starEach es X.env)).any (·.1) = false := by rfl) : DV X W (.Call (.Name x p0) (e :: es) [] pos) (apM f ma) := by
  obtain ⟨ta, pa, qa⟩ := ha
  refine ⟨_, pe_callB hc hg hm hv pa hn hd he hpl, fun F σ H ds s => ?_⟩
  refine At.bind (t2 := fun vs H1 Q => r vs H1 Q) mD (qa F σ H ds s) (fun l ds1 F1 H1 vs st1 rel1 => ?_) fun Q h => h
  unfold lift
  cases e : f l with
  | none => exact At.none_
  | some z => exact hf F1 σ H1 ds1 vs l z st1.st rel1 e
/-! ### isinstance of built-in types -/
def tyN (d : D) : Option String := match d with
  | .non => some "NoneType"
  | .bl _ => some "bool"
  | .int _ => some "int"
  | .str _ => some "str"
  | .lst _ => some "list"
  | .tup _ => some "tuple"
  | .dct _ => some "dict"
  | _ => none
def subTy (t n : String) : Bool := t == n || (t == "bool" && n == "int")
def okTys : List String := ["bool", "int", "str", "list", "tuple", "dict"]
theorem kit_tab : ∀ t ∈ ["NoneType", "bool", "int", "str", "list", "tuple", "dict"], ∀ n ∈ okTys, kitB t n = some (subTy t n) := by decide +kernel
theorem tyN_mem {d : D} {t : String} (h : tyN d = some t) : t ∈ ["NoneType", "bool", "int", "str", "list", "tuple", "dict"] := by
  cases d <;> simp [tyN] at h <;> subst h <;> decide
def isTys : List D → Option (List String)
  | [] => some []
  | .ty n :: r => (isTys r).bind fun l => if n ∈ okTys then some (n :: l) else none
  | _ :: _ => none
def isiO (l : List D) : Option D := match l with
  | [d, .ty n] => (tyN d).bind fun t => if n ∈ okTys then some (.bl (subTy t n)) else none
  | [d, .tup ts] => (tyN d).bind fun t => (isTys ts).map fun ns => .bl (ns.any fun n => subTy t n)
  | _ => none
theorem tyX_of {K : PySem.W.Frag} {F H : Hp} (sb : Sub F H) {d : D} {v : V} {t : String} (r : Rep K F d v) (h : tyN d = some t) : TyX K H v (.type t) := by
  cases d with
  | non => cases h; cases (show v = .non from r); exact .base .non
  | bl b => cases h; cases (show v = .bl b from r); exact .base (.bl b)
  | int b => cases h; cases (show v = .int b from r); exact .base (.int b)
  | str b => cases h; cases (show v = .str b from r); exact .base (.str b)
  | lst xs =>
    cases h
    unfold Rep at r
    obtain ⟨a, vs, rfl, h1, h2⟩ := r
    rcases sb.lst h1 with (z | ⟨o, z⟩) | ⟨o, its, n, h3, h4, _⟩
    · exact .base (.lst z)
    · exact .base (.frz z)
    · exact .kList h3 h4
  | tup xs =>
    cases h
    unfold Rep at r
    obtain ⟨a, vs, rfl, h1, h2⟩ := r
    rcases sb.tup h1 with (z | ⟨o, z⟩) | ⟨o, its, n, h3, h4, _⟩
    · exact .base (.tup z)
    · exact .fTuple z
    · exact .kTuple h3 h4
  | dct xs =>
    cases h
    unfold Rep at r
    obtain ⟨a, vs, rfl, h1, h2⟩ := r
    rcases sb.rd h1 with z | ⟨o, z⟩
    · exact .base (.dK z)
    · exact .fDict z
  | _ => cases h
theorem isTys_rep {K : PySem.W.Frag} {F : Hp} : ∀ {ts : List D} {vs : List V} {ns : List String}, Reps K F ts vs → isTys ts = some ns → vs = ns.map V.ty ∧ ∀ n ∈ ns, n ∈ okTys
  | [], _, ns, h, e => by unfold Reps at h; subst h; cases e; exact ⟨rfl, by simp⟩
  | d :: r, _, ns, h, e => by
    unfold Reps at h
    obtain ⟨v, ws, rfl, h1, h2⟩ := h
    cases d with
    | ty n =>
      simp only [isTys] at e
      cases er : isTys r with
      | none => rw [er] at e; cases e
      | some l =>
        rw [er] at e
        simp only [Option.bind_some] at e
        split at e
        · rename_i hn
          cases e
          obtain ⟨i1, i2⟩ := isTys_rep h2 er
          have e1 : v = .ty n := h1
          exact ⟨by rw [i1, e1]; rfl, fun m hm => (List.mem_cons.mp hm).elim (fun z => z ▸ hn) (i2 m)⟩
        · cases e
    | _ => cases e
theorem kitAny_tab {K : PySem.W.Frag} {t : String} (ht : t ∈ ["NoneType", "bool", "int", "str", "list", "tuple", "dict"]) : ∀ {ns : List String}, (∀ n ∈ ns, n ∈ okTys) → PySem.W.kitAny K (.type t) (ns.map Value.type) = some (ns.any fun n => subTy t n)
  | [], _ => kitAny_nil
  | n :: r, h => by
    have h1 := kit_tab t ht n (h n List.mem_cons_self)
    have ih := kitAny_tab (K := K) ht (ns := r) fun m hm => h m (List.mem_cons_of_mem _ hm)
    simp only [List.map_cons, List.any_cons]
    exact kitAny_cons (kit_ty h1) (fun hb => by rw [ih, hb, Bool.false_or]) fun hb => by rw [hb, Bool.true_or]
theorem clsV_tys : ∀ ns : List String, Paired ClsV (ns.map V.ty) (ns.map Value.type)
  | [] => .nil
  | n :: r => .cons (.ty n) (clsV_tys r)
theorem vals_ty : ∀ {ns : List String} {us : List Value}, Vals (ns.map V.ty) us → us = ns.map Value.type
  | [], _, .nil => rfl
  | n :: r, _, .cons h t => by
    rw [vals_ty t]
    have e : _ = Value.type n := h
    rw [e]; rfl
theorem isi_call : CallNV X W (fun xs H Q => rIsi X.K xs H Q ∨ rIsiT X.K xs H Q ∨ rIsiK X.K xs H Q) isiO := fun F σ H ds vs l s st ha e => by
  unfold isiO at e
  split at e
  · rename_i d n
    cases et : tyN d with
    | none => rw [et] at e; cases e
    | some t =>
      rw [et] at e
      simp only [Option.bind_some] at e
      split at e
      · rename_i hn
        cases e
        obtain ⟨v, w, rfl, r1, r2⟩ := Reps.two ha
        have e2 : w = .ty n := r2
        subst e2
        exact At.pure (v := .bl (subTy t n)) st (by simp [Rep]) fun Q h => .inl ⟨v, .ty n, .type t, .type n, subTy t n, rfl, .ty n, tyX_of st.sub r1 et, kit_ty (kit_tab t (tyN_mem et) n hn), h⟩
      · cases e
  · rename_i d ts
    cases et : tyN d with
    | none => rw [et] at e; cases e
    | some t =>
      rw [et] at e
      simp only [Option.bind_some] at e
      cases en : isTys ts with
      | none => rw [en] at e; cases e
      | some ns =>
        rw [en] at e; cases e
        obtain ⟨v, w, rfl, r1, r2⟩ := Reps.two ha
        unfold Rep at r2
        obtain ⟨p, us, rfl, h1, h2⟩ := r2
        obtain ⟨i1, i2⟩ := isTys_rep h2 en
        subst i1
        refine At.pure (v := .bl (ns.any fun n => subTy t n)) st (by simp [Rep]) fun Q h => .inr ?_
        rcases h1 with z | z
        · refine .inl ⟨v, p, ns.map V.ty, .type t, ns.map Value.type, _, rfl, ?_, clsV_tys ns, tyX_of st.sub r1 et, kitAny_tab (tyN_mem et) i2, h⟩
          rcases st.sub p _ z with q | ⟨q, _⟩
          · exact q
          · exact q.elim
        · rcases z with (z | ⟨o, z⟩) | ⟨o, its, n, z1, z2, z3, z4, z5⟩
          · cases z
          · cases z
          · have e5 := vals_ty z5
            obtain ⟨oc, od, odt, osl⟩ := o
            simp only at z2 z3
            subst z2; subst z3
            refine .inr ⟨v, p, od, ns.map Value.type, n, osl, .type t, _, rfl, ?_, tyX_of st.sub r1 et, kitAny_tab (tyN_mem et) i2, h⟩
            rw [z1]
            congr 3
            rw [← e5]
  · cases e
theorem call_isiA : CallR X (.builtin "isinstance") (fun xs H Q => rIsi X.K xs H Q ∨ rIsiT X.K xs H Q ∨ rIsiK X.K xs H Q) := callR_or call_isi (callR_or call_isiT call_isiK)
theorem dv_ty {x : Str} {n : String} {pos : Pos} (hm : X.mg x = none) (hv : bootBuiltins x = some (.type n)) (hg : Gl X x := by rfl) (hn : x ≠ "__name__" := by decide) (hd : (x == ("__debug__" : Str)) = false := by decide) : DV X W (.Name x pos) (k_ (.ty n)) := dv_c (pe_bltn hg hm hv (v := .ty n) rfl hn hd) fun _ => by simp [Rep]
/-! ### split, join -/
/-- a text's method of one argument -/
def strM {α : Type} (f : Str → D → Option α) (mo me : M D) : M α := bnd mo fun d => match d with
  | .str x => bnd me fun b => lift (f x b)
  | _ => stuck
theorem strM_at {α : Type} {Rel : Hp → Hp → DS → (Addr → Prop) → α → V → Prop} {f : Str → D → Option α} {r : V → List V → Hp → VK → Prop} {to te : TE} {mo me : M D} {F H : Hp} {σ : L2.St} {ds : DS}
    (mono : ∀ (F' H' : Hp) (ds' : DS) (P P' : Addr → Prop) (a : α) (b : V), (∀ p, P p → P' p) → Rel F' H' ds' P a b → Rel F' H' ds' P' a b)
    (hf : ∀ F H ds x b y s, StR X.K F H σ ds → Hld X.K F H b y → f x b = some s → At X.K W Rel F H σ ds (r (.str x) [y] H) (some (.ok s, ds)))
    (qa : ∀ F σ H ds, StR X.K F H σ ds → At X.K W (RelD X.K) F H σ ds (to σ H) (mo ds)) (qb : ∀ F σ H ds, StR X.K F H σ ds → At X.K W (RelH X.K) F H σ ds (te σ H) (me ds)) (s : StR X.K F H σ ds) : At X.K W Rel F H σ ds (tM1 r to te σ H) (strM f mo me ds) := by
  refine At.bind (t2 := fun x H1 Q => (∃ a, x = V.str a) ∧ te σ H1 fun y H2 => r x [y] H2 Q) mono (qa F σ H ds s) (fun d ds1 F1 H1 x st1 rel1 => ?_) fun Q h => h
  cases d with
  | str z =>
    have ex : x = .str z := rel1
    subst ex
    have := At.bind (f := fun b => lift (f z b)) (t := fun Q => te σ H1 fun y H2 => r (.str z) [y] H2 Q) (t2 := fun y H2 Q => r (.str z) [y] H2 Q) mono (qb F1 σ H1 ds1 st1.st) (fun b ds2 F2 H2 y st2 rel2 => by
      unfold lift
      cases e : f z b with
      | none => exact At.none_
      | some w => exact hf F2 H2 ds2 z b y w st2.st rel2 e) (fun Q h => h)
    intro r0 ds' Q er hq
    exact ⟨⟨z, rfl⟩, this r0 ds' Q er hq⟩
  | _ => exact At.none_
def splitO (x : Str) (b : D) : Option SV := match b with
  | .str y => if (y.length == 0) = false ∧ x.length + 2 ≤ sizeLine then some (.own (.lst ((Txt.split x y).map .str))) else none
  | _ => none
theorem de_split {o e : Expr} {mo me : M D} {apos pos : Pos} (ho : DV X W o mo) (he : DR X W e me) (hs : starEach [e] X.env = [(false, eval e X.env)] := by rfl) (hbase : attributeBase o "split" X.env (eval o X.env) = eval o X.env := by rfl) (hline : (apos.endLine == pos.line) = true := by rfl) :
    DE X W (.Call (.Attribute o "split" apos) [e] [] pos) (strM splitO mo me) := by
  obtain ⟨ta, pa, qa⟩ := ho
  obtain ⟨tb, pb, qb⟩ := he
  refine ⟨_, pe_split pa pb hs hbase hline, fun F σ H ds s => strM_at mS (fun F H ds x b y s st hb e => ?_) qa qb s⟩
  unfold splitO at e
  split at e
  · rename_i z
    have ey : y = .str z := hb
    subst ey
    split at e
    · rename_i hl
      cases e
      exact At.lnew st (rep_strs _) fun Q h => ⟨x, z, rfl, rfl, hl.1, hl.2, h⟩
    · cases e
  · cases e
def joinO (x : Str) (b : D) : Option D := match b with
  | .lst xs => (strsD xs).bind fun ys => if (ys.map (·.length)).sum + ys.length * x.length ≤ 16777216 then some (.str (Txt.join x ys)) else none
  | .tup xs => (strsD xs).bind fun ys => if (ys.map (·.length)).sum + ys.length * x.length ≤ 16777216 then some (.str (Txt.join x ys)) else none
  | _ => none
theorem dv_join {o e : Expr} {mo me : M D} {apos pos : Pos} (ho : DV X W o mo) (he : DR X W e me) (hs : starEach [e] X.env = [(false, eval e X.env)] := by rfl) (hbase : attributeBase o "join" X.env (eval o X.env) = eval o X.env := by rfl) (hline : (apos.endLine == pos.line) = true := by rfl) :
    DV X W (.Call (.Attribute o "join" apos) [e] [] pos) (strM joinO mo me) := by
  obtain ⟨ta, pa, qa⟩ := ho
  obtain ⟨tb, pb, qb⟩ := he
  refine ⟨_, pe_join pa pb hs hbase hline, fun F σ H ds s => strM_at mD (fun F H ds x b y s st hb e => ?_) qa qb s⟩
  unfold joinO at e
  split at e
  · rename_i xs
    obtain ⟨p, vs, rfl, h1, h2⟩ := hb
    cases es : strsD xs with
    | none => rw [es] at e; cases e
    | some ys =>
      rw [es] at e
      simp only [Option.bind_some] at e
      split at e
      · rename_i hl
        cases e
        have := strs_rep h2 es
        subst this
        exact At.pure (v := .str (Txt.join x ys)) st (by simp [Rep]) fun Q h => ⟨x, p, ys, rfl, rfl, .inl h1, hl, h⟩
      · cases e
  · rename_i xs
    obtain ⟨p, vs, rfl, h1, h2⟩ := hb
    cases es : strsD xs with
    | none => rw [es] at e; cases e
    | some ys =>
      rw [es] at e
      simp only [Option.bind_some] at e
      split at e
      · rename_i hl
        cases e
        have := strs_rep h2 es
        subst this
        exact At.pure (v := .str (Txt.join x ys)) st (by simp [Rep]) fun Q h => ⟨x, p, ys, rfl, rfl, .inr h1, hl, h⟩
      · cases e
  · cases e
/-! ### what a slot owns is changed -/
theorem own_upd {K : PySem.W.Frag} {F H : Hp} {σ : L2.St} {ds : DS} (s : StR K F H σ ds) {i : Nat} {o o' : OO} {p : Addr} {u : HO} (e : ds[i]? = some (some (.own o))) (e1 : σ[i]? = some (some (.ref p))) (ho : OwnAt K F (upd H p u) p o') : Stp K F H σ ds F (upd H p u) σ (ds.set i (some (.own o'))) := by
  have hi : i < ds.length := (List.getElem?_eq_some_iff.mp e).1
  have g : ∀ (j : Nat) (x : SV), (ds.set i (some (.own o')))[j]? = some (some x) → (j = i ∧ x = .own o') ∨ (j ≠ i ∧ ds[j]? = some (some x)) := fun j x h => by
    by_cases hj : i = j
    · subst hj; rw [List.getElem?_set_self hi] at h; cases h; exact .inl ⟨rfl, rfl⟩
    · rw [List.getElem?_set_ne hj] at h; exact .inr ⟨fun z => hj z.symm, h⟩
  have go : ∀ (j : Nat) (x : OO), (ds.set i (some (.own o')))[j]? = some (some (.own x)) → ∃ x', ds[j]? = some (some (.own x')) := fun j x h => by
    rcases g j _ h with ⟨rfl, _⟩ | ⟨_, z⟩
    · exact ⟨o, e⟩
    · exact ⟨x, z⟩
  have h0 : F p = none := by
    obtain ⟨v, e2, q, e3, h0, _⟩ := s.slot i _ e
    rw [e1] at e2; cases e2; cases e3; exact h0
  have oa : OA σ ds p := ⟨i, o, e, e1⟩
  refine ⟨⟨fun b w q => ?_, by rw [List.length_set]; exact s.len, fun j x h => ?_, fun j k o1 o2 q h1 h2 h3 h4 => ?_⟩, ⟨Le.refl _, fun b w q n => ?_, fun b q => .inl q⟩, fun q ⟨j, x, h1, h2⟩ => ?_⟩
  · have hb : b ≠ p := fun z => by rw [z, h0] at q; cases q
    rw [upd_ne hb]; exact s.sub b w q
  · rcases g j x h with ⟨rfl, rfl⟩ | ⟨hj, z⟩
    · exact ⟨_, e1, p, rfl, h0, ho⟩
    · obtain ⟨v, e2, e3⟩ := s.slot j x z
      refine ⟨v, e2, e3.keep fun q y ey ev => ?_⟩
      subst ey; subst ev
      exact upd_ne fun w => hj (s.apart j i y o p z e (by rw [e2, w]) e1)
  · obtain ⟨y1, z1⟩ := go j o1 h1
    obtain ⟨y2, z2⟩ := go k o2 h2
    exact s.apart j k y1 y2 q z1 z2 h3 h4
  · have hb : b ≠ p := fun z => by subst z; exact n oa
    rw [upd_ne hb]; exact q
  · obtain ⟨y, z⟩ := go j x h1
    exact .inl ⟨j, y, z, h2⟩
/-- what a method does to an owned list: the list, the arguments; the list behind it, the answer -/
def mutM (i : Nat) (f : List D → List D → Option (List D × D)) (ma : M (List D)) : M SV := fun ds => match ds[i]? with
  | some (some (.own (.lst _))) => bnd ma (fun as ds1 => match ds1[i]? with
    | some (some (.own (.lst xs))) => match f xs as with
      | some (ys, d) => some (.ok (.val d), ds1.set i (some (.own (.lst ys))))
      | none => none
    | _ => none) ds
  | _ => none
def MutL (X : Cx) (r : V → List V → Hp → VK → Prop) (f : List D → List D → Option (List D × D)) : Prop := ∀ F H xs vs as ws ys d p, Sub F H → H p = some (.lst vs) → F p = none → Reps X.K F xs vs → Reps X.K F as ws → f xs as = some (ys, d) →
  ∃ zs v, Reps X.K F ys zs ∧ Rep X.K F d v ∧ ∀ Q : VK, Q v (upd H p (.lst zs)) → r (.ref p) ws H Q
theorem de_mut (i : Nat) {x nm : Str} {id : String} {r : V → List V → Hp → VK → Prop} {f : List D → List D → Option (List D × D)} {e : Expr} {es : List Expr} {ma : M (List D)} {p apos pos : Pos} (slot : Slot "list" nm id) (hty : typeOf (.builtin id) = pure (.type "method_descriptor")) (hm : MtR X id r) (hf : MutL X r f) (ha : DA X W (e :: es) ma)
    (hN : X.N[i]? = some x := by rfl) (hv : Vis X.env.scope x := by first | exact Or.inl rfl | exact Or.inr (Or.inl rfl) | exact Or.inr (Or.inr rfl)) (hd : (x == ("__debug__" : Str)) = false := by decide) (hcd : (x == ("__classdict__" : Str)) = false := by decide)
    (hbase : attributeBase (.Name x p) nm X.env (eval (.Name x p) X.env) = eval (.Name x p) X.env := by rfl)
    (hfew : ((backTo pos (starEach (e :: es) X.env)).all (fun x => !x.1) && (backToKw pos (keywordEach [] X.env)).all (fun x => x.1.isSome) && decide ((e :: es).length + ([] : List Keyword).length + (if ([] : List Keyword).isEmpty then 0 else 1) < 30)) = true := by rfl)
    (hline : (apos.endLine == pos.line) = true := by rfl) (hs : starEach (e :: es) X.env = (false, eval e X.env) :: starEach es X.env := by rfl) (hpl : (backTo pos (starEach es X.env)).any (·.1) = false := by rfl) :
    DE X W (.Call (.Attribute (.Name x p) nm apos) (e :: es) [] pos) (mutM i f ma) := by
  obtain ⟨t, pa, qa⟩ := ha
  refine ⟨_, pe_bm PySem.F.plainAttrs_list slot hty hm (pe_var hN hv hd hcd) pa hbase hfew hline hs hpl, fun F σ H ds s => ?_⟩
  unfold mutM
  split
  · rename_i xs0 e0
    obtain ⟨v, e1, q, rfl, h0, vs0, hq0, _⟩ := s.slot i _ e0
    refine At.bind (t2 := fun ws H2 Q => r (.ref q) ws H2 Q) mS (qa F σ H ds s) (fun as ds1 F1 H1 ws st1 rel1 => ?_) fun Q h => ⟨_, e1, .inl ⟨rfl, vs0, SqL.of hq0⟩, h⟩
    split
    · rename_i xs e2
      obtain ⟨v2, e3, q2, e4, h2, vs, hq, hr⟩ := st1.st.slot i _ e2
      rw [e1] at e3; cases e3; cases e4
      split
      · rename_i ys d ef
        obtain ⟨zs, w, z1, z2, z3⟩ := hf F1 H1 xs vs as ws ys d q st1.st.sub hq h2 hr rel1 ef
        intro r0 ds' Q er hh
        cases er
        exact z3 Q (hh F1 _ w (own_upd st1.st e2 e1 ⟨zs, upd_same, z1⟩) (RelS.val z2))
      · exact At.none_
    · exact At.none_
  · exact At.none_
def appendF (xs as : List D) : Option (List D × D) := match as with
  | [d] => if xs.length < sizeLine then some (xs ++ [d], .non) else none
  | _ => none
theorem append_mut : MutL X rAppend appendF := fun F H xs vs as ws ys d p sb hp h0 hx ha e => by
  unfold appendF at e
  split at e
  · split at e
    · rename_i hl
      cases e
      obtain ⟨w, rfl, r⟩ := Reps.one ha
      exact ⟨vs ++ [w], .non, Reps.append hx (Reps.cons r Reps.nil), by simp [Rep], fun Q h => ⟨p, vs, w, rfl, rfl, hp, by rw [hx.length]; exact hl, h⟩⟩
    · cases e
  · cases e
def popAtF (xs as : List D) : Option (List D × D) := match as with
  | [.int i] => if 0 ≤ i ∧ i < 2 ^ 63 then (xs[i.toNat]?).map fun d => (xs.eraseIdx i.toNat, d) else none
  | _ => none
theorem Reps.erase {K : PySem.W.Frag} {F : Hp} : ∀ {xs : List D} {vs : List V} (k : Nat), Reps K F xs vs → Reps K F (xs.eraseIdx k) (vs.eraseIdx k)
  | [], _, k, h => by unfold Reps at h; subst h; exact Reps.nil
  | d :: r, _, 0, h => by
    unfold Reps at h
    obtain ⟨v, ws, rfl, h1, h2⟩ := h
    exact h2
  | d :: r, _, k + 1, h => by
    unfold Reps at h
    obtain ⟨v, ws, rfl, h1, h2⟩ := h
    exact Reps.cons h1 (Reps.erase k h2)
theorem popAt_mut : MutL X rPopAt popAtF := fun F H xs vs as ws ys d p sb hp h0 hx ha e => by
  unfold popAtF at e
  split at e
  · rename_i i
    split at e
    · rename_i hi
      cases ed : xs[i.toNat]? with
      | none => rw [ed] at e; cases e
      | some y =>
        rw [ed] at e; cases e
        obtain ⟨w, rfl, r⟩ := Reps.one ha
        have ew : w = .int i := r
        subst ew
        obtain ⟨v, hv, rv⟩ := hx.get ed
        have hlt : i.toNat < vs.length := (List.getElem?_eq_some_iff.mp hv).1
        exact ⟨vs.eraseIdx i.toNat, v, hx.erase _, rv, fun Q h => ⟨p, vs, i, i.toNat, v, rfl, rfl, hp, by omega, hi.2, seqIndex_of hi.1 (by omega), hv, h⟩⟩
    · cases e
  · cases e
def insertF (xs as : List D) : Option (List D × D) := match as with
  | [.int i, d] => if 0 ≤ i ∧ i < 2 ^ 63 ∧ xs.length < sizeLine then some (xs.take i.toNat ++ [d] ++ xs.drop i.toNat, .non) else none
  | _ => none
theorem Reps.take {K : PySem.W.Frag} {F : Hp} : ∀ {xs : List D} {vs : List V} (k : Nat), Reps K F xs vs → Reps K F (xs.take k) (vs.take k)
  | [], _, k, h => by unfold Reps at h; subst h; simp; exact Reps.nil
  | d :: r, _, 0, h => Reps.nil
  | d :: r, _, k + 1, h => by
    unfold Reps at h
    obtain ⟨v, ws, rfl, h1, h2⟩ := h
    exact Reps.cons h1 (Reps.take k h2)
theorem Reps.drop {K : PySem.W.Frag} {F : Hp} : ∀ {xs : List D} {vs : List V} (k : Nat), Reps K F xs vs → Reps K F (xs.drop k) (vs.drop k)
  | [], _, k, h => by unfold Reps at h; subst h; simp; exact Reps.nil
  | d :: r, _, 0, h => h
  | d :: r, _, k + 1, h => by
    unfold Reps at h
    obtain ⟨v, ws, rfl, h1, h2⟩ := h
    exact Reps.drop k h2
theorem insert_mut : MutL X (fun x vs H Q => ∃ (l : Addr) (xs : List V) (i : Int) (y : V), x = .ref l ∧ vs = [.int i, y] ∧ H l = some (.lst xs) ∧ xs.length < sizeLine ∧ 0 ≤ i ∧ i < 2 ^ 63 ∧ Q .non (upd H l (.lst (xs.take i.toNat ++ [y] ++ xs.drop i.toNat)))) insertF := fun F H xs vs as ws ys d p sb hp h0 hx ha e => by
  unfold insertF at e
  split at e
  · rename_i i d0
    split at e
    · rename_i hi
      cases e
      obtain ⟨w, w2, rfl, r, r2⟩ := Reps.two ha
      have ew : w = .int i := r
      subst ew
      exact ⟨_, .non, ((hx.take _).append (Reps.cons r2 Reps.nil)).append (hx.drop _), by simp [Rep], fun Q h => ⟨p, vs, i, w2, rfl, rfl, hp, by rw [hx.length]; exact hi.2.2, hi.1, hi.2.1, h⟩⟩
    · cases e
  · cases e
end
end DL
/-! DLm: assignments of more shapes, attributes. -/
namespace DL
open PySem PySem.Spec PyProof.Rows L2
section
variable {X : Cx} {W : WX} {keep : List Bool}
/-! ### target = value -/
def asgM (m : M D) (f : TgF) : MS := bnd m fun d ds => match f d ds with
  | some ds' => some (.ok .nx, ds')
  | none => none
theorem dst_asg {tg e : Expr} {m : M D} {f : TgF} {pos : Pos} (he : DV X W e m) (hg : DG X keep tg f) (hs : swapsWithSole [tg] e pos.line X.env = pure false := by rfl) (hw : swappedStores [tg] e X.env = pure none := by rfl)
    (h1 : (assignEach [tg] X.env).map (·.2) = [assign tg X.env] := by rfl) : DSt X W keep (.Assign [tg] e pos) (asgM m f) := by
  obtain ⟨t, p, q⟩ := he
  obtain ⟨g, pg, qg⟩ := hg
  refine ⟨_, ps_asg p pg hs hw h1, fun F σ H ds s => ?_⟩
  refine AtS.bind (t2 := fun x H1 D => g x σ H1 D.nx) (q F σ H ds s) (fun d ds1 F1 H1 x st1 rel r ds' D e hq => ?_) fun D h => h
  cases ef : f d ds1 with
  | none => rw [ef] at e; cases e
  | some ds2 =>
    rw [ef] at e; cases e
    exact qg F1 σ H1 ds1 d x _ st1.st rel ef D.nx fun F2 H2 σ2 st2 k2 => hq F2 H2 σ2 (st1.trans st2) k2
/-! ### x[k] = v, x a name that owns a list or a dict -/
def setF (o : OO) (k d : D) : Option OO := match o with
  | .lst xs => match k with
    | .int i => (ixN xs.length i).map fun j => .lst (xs.set j d)
    | _ => none
  | .dct kvs => (keyD k).bind fun k => if kvs.length < sizeLine then some (.dct (putD kvs k d)) else none
  | _ => none
def tgS (i : Nat) (mk : M D) : TgF := fun d ds => match mk ds with
  | some (.ok k, ds1) => match ds1[i]? with
    | some (some (.own o)) => match setF o k d with
      | some o' => if (ds[i]?.bind id).isSome then some (ds1.set i (some (.own o'))) else none
      | none => none
    | _ => none
  | _ => none
def rSetA : TSet := fun o i v H Q => rSetL o i v H Q ∨ ∃ a H', o = .ref a ∧ DPut H a i v H' ∧ Q H'
theorem set_A (hu : X.A.units + 1 < cLine) : PSet X rSetA := by
  intro pins s σ H o i v ov iv u Q I ro ri rv h
  rcases h with h | ⟨a, H', rfl, g, q⟩
  · exact set_list pins s σ H o i v ov iv u Q I ro ri rv h
  · obtain rfl : ov = Value.ref a := ro
    exact d_setItem hu I g ri rv fun s4 I4 => ⟨H', I4, q⟩
theorem setF_own {K : PySem.W.Frag} {F H : Hp} {p : Addr} {o o' : OO} {k d : D} {y x : V} (ho : OwnAt K F H p o) (hk : Rep K F k y) (hd : Rep K F d x) (e : setF o k d = some o') : ∃ u, OwnAt K F (upd H p u) p o' ∧ ∀ Q : Hp → Prop, Q (upd H p u) → rSetA (.ref p) y x H Q := by
  unfold setF at e
  split at e
  · rename_i xs
    obtain ⟨vs, h1, h2⟩ := ho
    split at e
    · rename_i i
      cases ej : ixN xs.length i with
      | none => rw [ej] at e; cases e
      | some j =>
        rw [ej] at e; cases e
        have ey : y = .int i := hk
        subst ey
        exact ⟨.lst (vs.set j x), ⟨_, upd_same, h2.set hd⟩, fun Q h => .inl ⟨p, vs, i, j, rfl, rfl, h1, by rw [h2.length]; exact ej, h⟩⟩
    · cases e
  · rename_i kvs
    obtain ⟨ws, h1, h2⟩ := ho
    cases ek : keyD k with
    | none => rw [ek] at e; cases e
    | some kk =>
      rw [ek] at e
      simp only [Option.bind_some] at e
      split at e
      · rename_i hl
        cases e
        have ey := keyD_rep ek hk
        subst ey
        exact ⟨.dK (putK ws kk x), ⟨_, upd_same, putD_rep hd h2⟩, fun Q h => .inr ⟨p, _, rfl, DPut.k h1 (by rw [h2.length]; exact hl), h⟩⟩
      · cases e
  · cases e
theorem dg_sub (i : Nat) {x : Str} {k : Expr} {mk : M D} {p pos : Pos} (hu : X.A.units + 1 < cLine) (hk : DV X W k mk) (hN : X.N[i]? = some x := by rfl) (hv : Vis X.env.scope x := by first | exact Or.inl rfl | exact Or.inr (Or.inl rfl) | exact Or.inr (Or.inr rfl)) (hd : (x == ("__debug__" : Str)) = false := by decide)
    (hcd : (x == ("__classdict__" : Str)) = false := by decide)
    (ha : ∀ v, assign (.Subscript (.Name x p) k pos) X.env v = (do
      let ov ← holding [v] (eval (.Name x p) X.env)
      let iv ← holding [v, ov] (eval k X.env)
      standAt pos
      holding [v, ov, iv] (setItem ov iv v)
      release [v, ov, iv] []) := by intro _; rfl) : DG X keep (.Subscript (.Name x p) k pos) (tgS i mk) := by
  obtain ⟨t, pk0, qk⟩ := hk
  refine ⟨_, pg_sub (pe_var hN hv hd hcd) pk0 (set_A hu) ha, fun F σ H ds d v ds1 s r e Q hq => ?_⟩
  unfold tgS at e
  cases em : mk ds with
  | none => rw [em] at e; cases e
  | some z =>
    obtain ⟨r1, ds2⟩ := z
    rw [em] at e
    cases r1 with
    | exc C fs => cases e
    | ok kd =>
      simp only at e
      split at e
      · rename_i o e2
        split at e
        · rename_i o' e3
          split at e
          · rename_i hsome
            cases e
            cases e0 : ds[i]? with
            | none => rw [e0] at hsome; cases hsome
            | some w =>
              cases w with
              | none => rw [e0] at hsome; cases hsome
              | some sv =>
                obtain ⟨ov, e1, _⟩ := s.slot i sv e0
                refine ⟨ov, e1, qk F σ H ds s _ ds2 _ em fun F2 H2 y st2 rel2 => ?_⟩
                obtain ⟨ov2, e4, q, e5, h0, ho⟩ := st2.st.slot i _ e2
                rw [e1] at e4; cases e4; cases e5
                obtain ⟨u, h1, h2⟩ := setF_own ho rel2 (Rep.mono st2.ext.ff r) e3
                exact h2 _ (hq F2 _ σ (st2.trans (own_upd st2.st e2 e1 h1)) Kp.refl)
          · cases e
        · cases e
      · cases e
/-! ### attributes -/
def fldO (C : Addr) (f : Str) (d : D) : Option D := match d with
  | .obj C' fs => if C' = C then fs.lookup f else none
  | _ => none
theorem fld_at {F H : Hp} {σ : L2.St} {ds : DS} {C : Addr} {f : Str} {v : V} {a d : D} (hc : Cls X.K C) (hn : NoAttr X.K C f) (st : StR X.K F H σ ds) (ha : Hld X.K F H a v) (e : fldO C f a = some d) :
    At X.K W (RelD X.K) F H σ ds (fun Q => ∃ a C dx fs w, v = .ref a ∧ H a = some (.ins C dx fs) ∧ Cls X.K C ∧ NoAttr X.K C f ∧ fs.lookup f = some w ∧ Q w H) (some (.ok d, ds)) := by
  unfold fldO at e
  split at e
  · split at e
    · rename_i hC
      subst hC
      obtain ⟨p, dx, ws, rfl, h1, h2⟩ := ha
      obtain ⟨w, hw, r⟩ := h2.lookup_some e
      exact At.pure st r fun Q h => ⟨p, _, dx, ws, w, rfl, h1, hc, hn, hw, h⟩
    · cases e
  · cases e
theorem dv_fld {o : Expr} {mo : M D} {C : Addr} {f : Str} {pos : Pos} (hc : Cls X.K C) (hn : NoAttr X.K C f) (ho : DR X W o mo) (hb : attributeBase o f X.env (eval o X.env) = eval o X.env := by rfl) : DV X W (.Attribute o f pos) (un (fldO C f) mo) := by
  obtain ⟨t, p, q⟩ := ho
  refine ⟨_, pe_fld p hb, fun F σ H ds s => ?_⟩
  refine At.bind (t2 := fun x H1 Q => ∃ a C dx fs w, x = V.ref a ∧ H1 a = some (.ins C dx fs) ∧ Cls X.K C ∧ NoAttr X.K C f ∧ fs.lookup f = some w ∧ Q w H1) mD (q F σ H ds s) (fun d ds1 F1 H1 x st1 rel1 => ?_) fun Q h => h
  unfold lift
  cases e : fldO C f d with
  | none => exact At.none_
  | some z => exact fld_at hc hn st1.st rel1 e
/-- self.f = e, self a slot that owns the instance -/
def putFD (f : Str) (d : D) : List (Str × D) → List (Str × D)
  | [] => [(f, d)]
  | (g, x) :: r => if g = f then (g, d) :: r else (g, x) :: putFD f d r
theorem putFD_rep {K : PySem.W.Frag} {F : Hp} {f : Str} {d : D} {v : V} (r : Rep K F d v) : ∀ {fs : List (Str × D)} {ws : List (Str × V)}, Repf K F fs ws → Repf K F (putFD f d fs) (putF f v ws)
  | [], _, h => by unfold Repf at h; subst h; unfold putFD putF Repf; exact ⟨v, [], rfl, r, by unfold Repf; rfl⟩
  | (g, x) :: t, _, h => by
    unfold Repf at h
    obtain ⟨w, ws, rfl, h1, h2⟩ := h
    unfold putFD putF
    by_cases hg : g = f
    · rw [if_pos hg, if_pos hg]; unfold Repf; exact ⟨v, ws, rfl, r, h2⟩
    · rw [if_neg hg, if_neg hg]; unfold Repf; exact ⟨w, _, rfl, h1, putFD_rep r h2⟩
def setFld (i : Nat) (C : Addr) (f : Str) (m : M D) : MS := bnd m fun d ds => match ds[i]? with
  | some (some (.own (.obj C' fs))) => if C' = C ∧ fs.length < 1000 then some (.ok .nx, ds.set i (some (.own (.obj C (putFD f d fs))))) else none
  | _ => none
theorem dst_fld (i : Nat) {x f : Str} {e : Expr} {m : M D} {C : Addr} {p pos' pos : Pos} (hc : Cls X.K C) (hn : NoAttr X.K C f) (he : DV X W e m) (hN : X.N[i]? = some x := by rfl) (hv : Vis X.env.scope x := by first | exact Or.inl rfl | exact Or.inr (Or.inl rfl) | exact Or.inr (Or.inr rfl)) (hd : (x == ("__debug__" : Str)) = false := by decide)
    (hcd : (x == ("__classdict__" : Str)) = false := by decide) (hs : swapsWith e (some (.Attribute (.Name x p) f pos')) pos.line X.env = pure false := by rfl) : DSt X W keep (.Assign [.Attribute (.Name x p) f pos'] e pos) (setFld i C f m) := by
  obtain ⟨t, pe, q⟩ := he
  refine ⟨_, ps_fld (pe_var hN hv hd hcd) pe hs, fun F σ H ds s => ?_⟩
  refine AtS.bind (t2 := fun y H1 D => ∃ v, σ[i]? = some (some v) ∧ ∃ a C dx fs, v = V.ref a ∧ H1 a = some (.ins C dx fs) ∧ Cls X.K C ∧ NoAttr X.K C f ∧ fs.length < 1000 ∧ D.nx σ (upd H1 a (.ins C dx (putF f y fs)))) (q F σ H ds s) (fun d ds1 F1 H1 y st1 rel r ds' D e hq => ?_) fun D h => h
  split at e
  · rename_i C' fs e2
    split at e
    · rename_i hC
      obtain ⟨rfl, hl⟩ := hC
      cases e
      obtain ⟨v, e1, a, rfl, h0, dx, ws, h1, h2⟩ := st1.st.slot i _ e2
      exact ⟨_, e1, a, _, dx, ws, rfl, h1, hc, hn, by rw [h2.length]; exact hl, hq F1 _ σ (st1.trans (own_upd st1.st e2 e1 ⟨dx, _, upd_same, putFD_rep rel h2⟩)) Kp.refl⟩
    · cases e
  · cases e
/-! ### a, b = e1, e2: what is new stays one's own -/
def RelSs (K : PySem.W.Frag) (σ : L2.St) : Hp → Hp → DS → (Addr → Prop) → List SV → List V → Prop := fun F H ds nw ss vs => vs.length = ss.length ∧
  (∀ (i : Nat) s v, ss[i]? = some s → vs[i]? = some v → RelS K σ F H ds nw s v) ∧ ∀ (i j : Nat) o o' p, ss[i]? = some (.own o) → ss[j]? = some (.own o') → vs[i]? = some (.ref p) → vs[j]? = some (.ref p) → i = j
def DAs (X : Cx) (W : WX) (es : List Expr) (m : M (List SV)) : Prop := ∃ t, PA X es t ∧ ∀ F σ H ds, StR X.K F H σ ds → At X.K W (RelSs X.K σ) F H σ ds (t σ H) (m ds)
def consS (m : M SV) (r : M (List SV)) : M (List SV) := bnd m fun d => bnd r fun ds => ret (d :: ds)
abbrev mSs {K : PySem.W.Frag} {σ : L2.St} : ∀ (F' H' : Hp) (ds' : DS) (P P' : Addr → Prop) (a : List SV) (b : List V), (∀ p, P p → P' p) → RelSs K σ F' H' ds' P a b → RelSs K σ F' H' ds' P' a b := fun _ _ _ _ _ _ _ h r => ⟨r.1, fun i s v h1 h2 => RelS.mono h (r.2.1 i s v h1 h2), r.2.2⟩
theorem das_nil : DAs X W [] (ret []) := ⟨_, pa_nil, fun F σ H ds s => At.ret (Rel := RelSs X.K σ) (b := []) s ⟨rfl, fun i s v h => by simp at h, fun i j o o' p h => by simp at h⟩ fun Q h => h⟩
/-- what is held in passing stays as it is while more is reckoned -/
theorem RelS.later {K : PySem.W.Frag} {σ : L2.St} {F1 H1 F2 H2 : Hp} {ds1 ds2 : DS} {P : Addr → Prop} {s : SV} {v : V} (r : RelS K σ F1 H1 ds1 P s v) (st : Stp K F1 H1 σ ds1 F2 H2 σ ds2) : RelS K σ F2 H2 ds2 P s v := by
  cases s with
  | val d => exact ⟨Rep.mono st.ext.ff r.1, fun _ _ e => by cases e⟩
  | own o =>
    obtain ⟨⟨p, rfl, h0, ho⟩, h2⟩ := r
    obtain ⟨n1, n2⟩ := h2 o p rfl rfl
    obtain ⟨u, hu⟩ := ho.some_
    have hk : H2 p = H1 p := (st.ext.fr p u hu n1).trans hu.symm
    refine ⟨⟨p, rfl, ?_, (ho.mono st.ext.ff).at_ hk⟩, fun o' p' e1 e2 => ?_⟩
    · cases z : F2 p with
      | none => rfl
      | some w =>
        rcases st.ext.nw p (by rw [z]; simp) with q | q | q
        · exact absurd h0 q
        · rw [hu] at q; cases q
        · exact absurd q n1
    · cases e2
      refine ⟨fun z => ?_, n2⟩
      rcases st.oa p z with q | q
      · exact n1 q
      · rw [hu] at q; cases q
theorem das_cons {a : Expr} {es : List Expr} {ma : M SV} {r : M (List SV)} (h : DE X W a ma) (h' : DAs X W es r) (hl : starEach (a :: es) X.env = (false, eval a X.env) :: starEach es X.env := by rfl) : DAs X W (a :: es) (consS ma r) := by
  obtain ⟨t, p, q⟩ := h
  obtain ⟨u, p', q'⟩ := h'
  refine ⟨_, pa_cons p p' hl, fun F σ H ds s r0 ds' Q er hq => ?_⟩
  show t σ H fun x H1 => u σ H1 fun xs H2 => Q (x :: xs) H2
  unfold consS bnd at er
  cases e1 : ma ds with
  | none => rw [e1] at er; cases er
  | some z1 =>
    obtain ⟨r1, ds1⟩ := z1
    rw [e1] at er
    refine q F σ H ds s r1 ds1 _ e1 ?_
    cases r1 with
    | exc C fs => cases er; exact hq
    | ok sv =>
      intro F1 H1 x st1 rel1
      simp only at er
      cases e2 : r ds1 with
      | none => rw [e2] at er; cases er
      | some z =>
        obtain ⟨r2, ds2⟩ := z
        rw [e2] at er
        refine q' F1 σ H1 ds1 st1.st r2 ds2 _ e2 ?_
        cases r2 with
        | exc C fs => cases er; exact fun F' H' d st' y => hq F' H' d (st1.trans st') y
        | ok ys =>
          cases er
          intro F2 H2 xs st2 rel2
          have cross : ∀ (j : Nat) o o' p, sv = .own o → x = .ref p → ys[j]? = some (.own o') → xs[j]? = some (.ref p) → False := fun j o o' p h1 h2 h3 h4 => by
            subst h1; subst h2
            obtain ⟨⟨q, eq, h0, ho⟩, h5⟩ := rel1
            cases eq
            obtain ⟨w, hw⟩ := ho.some_
            obtain ⟨n1, n2⟩ := (rel2.2.1 j _ _ h3 h4).2 o' p rfl rfl
            rcases n2 with z | z
            · exact (h5 o p rfl rfl).1 z
            · rw [hw] at z; cases z
          refine hq F2 H2 (x :: xs) (st1.trans st2) ⟨by simp [rel2.1], fun i s v h1 h2 => ?_, fun i j o o' p h1 h2 h3 h4 => ?_⟩
          · cases i with
            | zero => simp at h1 h2; subst h1; subst h2; exact rel1.later st2
            | succ i =>
              simp at h1 h2
              exact RelS.mono (fun p z => st1.new z) (rel2.2.1 i s v h1 h2)
          · cases i with
            | zero =>
              cases j with
              | zero => rfl
              | succ j => simp at h1 h2 h3 h4; exact (cross j o o' p h1 h3 h2 h4).elim
            | succ i =>
              cases j with
              | zero => simp at h1 h2 h3 h4; exact (cross i o' o p h2 h4 h1 h3).elim
              | succ j => simp at h1 h2 h3 h4; rw [rel2.2.2 i j o o' p h1 h2 h3 h4]
def parM (i j : Nat) (m : M (List SV)) : MS := bnd m fun l ds => match l with
  | [a, b] => some (.ok .nx, (ds.set i (some a)).set j (some b))
  | _ => none
theorem par_end {K : PySem.W.Frag} {F H F1 H1 : Hp} {σ : L2.St} {ds ds1 : DS} {i j : Nat} {a b : SV} {v w : V} (st : Stp K F H σ ds F1 H1 σ ds1) (hij : i ≠ j) (rel : RelSs K σ F1 H1 ds1 (fun p => OA σ ds p ∨ H p = none) [a, b] [v, w]) :
    Stp K F H σ ds F1 H1 ((σ.set i (some v)).set j (some w)) ((ds1.set i (some a)).set j (some b)) := by
  have ra := rel.2.1 0 a v rfl rfl
  have rb := rel.2.1 1 b w rfl rfl
  have set1 : Stp K F H σ ds F1 H1 (σ.set i (some v)) (ds1.set i (some a)) := by
    by_cases hl : i < σ.length
    · exact st.seti hl ra
    · rw [List.set_eq_of_length_le (show σ.length ≤ i by omega), List.set_eq_of_length_le (show ds1.length ≤ i by rw [st.st.len]; omega)]; exact st
  by_cases hl : j < σ.length
  · refine set1.seti (by rw [List.length_set]; exact hl) ⟨rb.1, fun o p e1 e2 => ?_⟩
    obtain ⟨n1, n2⟩ := rb.2 o p e1 e2
    refine ⟨fun ⟨k, o', h1, h2⟩ => ?_, n2⟩
    by_cases hk : i = k
    · subst hk
      have l1 : i < (ds1.set i (some a)).length := (List.getElem?_eq_some_iff.mp h1).1
      rw [List.length_set] at l1
      rw [List.getElem?_set_self l1] at h1
      rw [List.getElem?_set_self (by rw [← st.st.len]; exact l1)] at h2
      have ea : a = .own o' := Option.some.inj (Option.some.inj h1)
      have ev : v = .ref p := Option.some.inj (Option.some.inj h2)
      have := rel.2.2 0 1 o' o p (by rw [ea]; rfl) (by rw [e1]; rfl) (by rw [ev]; rfl) (by rw [e2]; rfl)
      cases this
    · rw [List.getElem?_set_ne hk] at h1 h2
      exact n1 ⟨k, o', h1, h2⟩
  · rw [List.set_eq_of_length_le (show (σ.set i (some v)).length ≤ j by rw [List.length_set]; omega), List.set_eq_of_length_le (show (ds1.set i (some a)).length ≤ j by rw [List.length_set, st.st.len]; omega)]; exact set1
/-- both names locals -/
theorem dst_par (i j : Nat) {x y : Str} {a b : Expr} {m : M (List SV)} {px py pt pos : Pos} {kt k2 : Nat} {pt2 : Pos} (hc : X.calm = true) (hN : X.N.Nodup) (ha : DAs X W [a, b] m)
    (hi : X.N[i]? = some x := by rfl) (hj : X.N[j]? = some y := by rfl) (hij : i ≠ j := by decide) (hx : X.env.scope.names.lookup x = some .local := by rfl) (hy : X.env.scope.names.lookup y = some .local := by rfl) (hki : keep.getD i false = false := by rfl) (hkj : keep.getD j false = false := by rfl)
    (hw : swappedStores [.Tuple [.Name x px, .Name y py] kt pt] (.Tuple [a, b] k2 pt2) X.env = pure (some [x, y]) := by rfl)
    (hs : swapsWithSole [.Tuple [.Name x px, .Name y py] kt pt] (.Tuple [a, b] k2 pt2) pos.line X.env = pure false := by rfl) :
    DSt X W keep (.Assign [.Tuple [.Name x px, .Name y py] kt pt] (.Tuple [a, b] k2 pt2) pos) (parM i j m) := by
  obtain ⟨t, p, q⟩ := ha
  refine ⟨_, ps_par hc hN hi hj hij hx hy p hw hs, fun F σ H ds s => ?_⟩
  refine AtS.bind (t2 := fun vs H1 D => ∃ v w, vs = [v, w] ∧ D.nx ((σ.set i (some v)).set j (some w)) H1) (q F σ H ds s) (fun l ds1 F1 H1 vs st1 rel r ds' D e hq => ?_) fun D h => h
  split at e
  · rename_i a0 b0
    cases e
    have hl := rel.1
    match vs, hl with
    | [v, w], _ => exact ⟨v, w, rfl, hq F1 H1 _ (par_end st1 hij rel) ((Kp.set hki).trans (Kp.set hkj))⟩
  · cases e
/-- a name among them is captured: a tuple is made and taken apart -/
theorem dst_parT (i j : Nat) {x y : Str} {a b : Expr} {m : M (List SV)} {px py pt pos : Pos} {kt k2 : Nat} {pt2 : Pos} (hc : X.calm = true) (hN : X.N.Nodup) (ha : DAs X W [a, b] m)
    (hi : X.N[i]? = some x := by rfl) (hj : X.N[j]? = some y := by rfl) (hij : i ≠ j := by decide) (hx : Loc X.env.scope x := by first | exact Or.inl rfl | exact Or.inr rfl) (hy : Loc X.env.scope y := by first | exact Or.inl rfl | exact Or.inr rfl)
    (hfx : X.fn x = true ∨ X.env.scope.names.lookup x = some .local := by first | exact .inl rfl | exact .inr rfl) (hfy : X.fn y = true ∨ X.env.scope.names.lookup y = some .local := by first | exact .inl rfl | exact .inr rfl)
    (hki : keep.getD i false = false := by rfl) (hkj : keep.getD j false = false := by rfl)
    (hw : swappedStores [.Tuple [.Name x px, .Name y py] kt pt] (.Tuple [a, b] k2 pt2) X.env = pure none := by rfl)
    (hs : swapsWithSole [.Tuple [.Name x px, .Name y py] kt pt] (.Tuple [a, b] k2 pt2) pos.line X.env = pure false := by rfl)
    (h1 : (assignEach [.Tuple [.Name x px, .Name y py] kt pt] X.env).map (·.2) = [assign (.Tuple [.Name x px, .Name y py] kt pt) X.env] := by rfl)
    (ha1 : (assignEach [.Name x px, .Name y py] X.env).map (·.2) = assign (.Name x px) X.env :: (assignEach [.Name y py] X.env).map (·.2) := by rfl) (ha2 : (assignEach [.Name y py] X.env).map (·.2) = assign (.Name y py) X.env :: (assignEach [] X.env).map (·.2) := by rfl)
    (hn : (assignEach [.Name x px, .Name y py] X.env).length = 2 := by rfl) (hst : (assignEach [.Name x px, .Name y py] X.env).findIdx? (·.1) = none := by rfl) :
    DSt X W keep (.Assign [.Tuple [.Name x px, .Name y py] kt pt] (.Tuple [a, b] k2 pt2) pos) (parM i j m) := by
  obtain ⟨t, p, q⟩ := ha
  refine ⟨_, ps_asg (pe_tup p) (pg_tup hc (pgs_cons (pg_name hN hi hx hfx) (pgs_cons (pg_name hN hj hy hfy) pgs_nil ha2) ha1) hn hst) hs hw h1, fun F σ H ds s => ?_⟩
  refine AtS.bind (t2 := fun (vs : List V) H1 D => vs.length ≤ sizeLine ∧ ∀ p, H1 p = none → gTup X.K 2 (gCons (gName i) (gCons (gName j) gNil)) (.ref p) σ (upd H1 p (.tup vs)) D.nx) (q F σ H ds s) (fun l ds1 F1 H1 vs st1 rel r ds' D e hq => ?_) fun D h => h
  split at e
  · rename_i a0 b0
    cases e
    have hl := rel.1
    match vs, hl with
    | [v, w], _ =>
      refine ⟨by show 2 ≤ sizeLine; rw [sizeLine_eq]; decide, fun pt hp => ⟨pt, [v, w], rfl, SqT.of upd_same, rfl, v, [w], rfl, w, [], rfl, rfl, ?_⟩⟩
      have z : Stp X.K F1 H1 σ ds1 F1 (upd H1 pt (.tup [v, w])) σ ds1 := st1.st.laid hp
      have rel' : RelSs X.K σ F1 (upd H1 pt (.tup [v, w])) ds1 (fun p => OA σ ds p ∨ H p = none) [a0, b0] [v, w] := ⟨rfl, fun i s v h1 h2 => (rel.2.1 i s v h1 h2).later z, rel.2.2⟩
      exact hq F1 _ _ (par_end (st1.trans z) hij rel') ((Kp.set hki).trans (Kp.set hkj))
  · cases e
end
end DL
/-! DLn: walks over a dict's keys (the dict locked meanwhile). -/
namespace DL
open PySem PySem.Spec PyProof.Rows L2
section
variable {K : PySem.W.Frag} {W : WX} {F H F' H' : Hp} {σ σ' : L2.St} {ds ds' : DS}
/-- a dict is locked -/
theorem StR.lock (s : StR K F H σ ds) {d : Addr} {u : HO} {od : Obj} (hl : Lk u) (hF : F d = some u) : StR K F (upd H d (.frz od u)) σ ds := by
  have hn : ¬ OA σ ds d := fun ⟨i, o, e1, e2⟩ => by
    obtain ⟨v, e3, q, e4, h0, _⟩ := s.slot i _ e1
    rw [e2] at e3; cases e3; cases e4; rw [h0] at hF; cases hF
  refine ⟨fun a w e => ?_, s.len, fun i x e => ?_, s.apart⟩
  · by_cases ha : a = d
    · subst ha; rw [hF] at e; cases e; exact .inr ⟨hl, od, upd_same⟩
    · rw [upd_ne ha]; exact s.sub a w e
  · obtain ⟨v, e1, e2⟩ := s.slot i x e
    refine ⟨v, e1, e2.keep fun q o ex ev => ?_⟩
    subst ex; subst ev
    exact upd_ne fun z => hn ⟨i, o, e, by rw [e1, z]⟩
/-- .. and unlocked behind what ran -/
theorem Stp.unlock {d : Addr} {u : HO} {od : Obj} (s : StR K F H σ ds) (hH : H d = some u) (hF : F d = some u) (a : Stp K F (upd H d (.frz od u)) σ ds F' H' σ' ds') : H' d = some (.frz od u) ∧ Stp K F H σ ds F' (upd H' d u) σ' ds' := by
  have hn : ¬ OA σ ds d := fun ⟨i, o, e1, e2⟩ => by
    obtain ⟨v, e3, q, e4, h0, _⟩ := s.slot i _ e1
    rw [e2] at e3; cases e3; cases e4; rw [h0] at hF; cases hF
  have hd : H' d = some (.frz od u) := a.ext.fr d _ upd_same hn
  have hF' : F' d = some u := a.ext.ff d u hF
  have hn' : ¬ OA σ' ds' d := fun ⟨i, o, e1, e2⟩ => by
    obtain ⟨v, e3, q, e4, h0, _⟩ := a.st.slot i _ e1
    rw [e2] at e3; cases e3; cases e4; rw [h0] at hF'; cases hF'
  have nn : ∀ p, (upd H d (.frz od u)) p = none → H p = none := fun p z => by
    by_cases hp : p = d
    · subst hp; rw [upd_same] at z; cases z
    · rw [upd_ne hp] at z; exact z
  refine ⟨hd, ⟨fun b w e => ?_, a.st.len, fun i x e => ?_, a.st.apart⟩, ⟨a.ext.ff, fun b o q n => ?_, fun b q => ?_⟩, fun p z => (a.oa p z).imp id (nn p)⟩
  · by_cases hb : b = d
    · subst hb; rw [hF'] at e; cases e; exact .inl upd_same
    · rw [upd_ne hb]; exact a.st.sub b w e
  · obtain ⟨v, e1, e2⟩ := a.st.slot i x e
    refine ⟨v, e1, e2.keep fun q o ex ev => ?_⟩
    subst ex; subst ev
    exact upd_ne fun z => hn' ⟨i, o, e, by rw [e1, z]⟩
  · by_cases hb : b = d
    · subst hb; rw [hH] at q; cases q; exact upd_same
    · rw [upd_ne hb]; exact a.ext.fr b o (by rw [upd_ne hb]; exact q) n
  · exact (a.ext.nw b q).imp id (Or.imp (nn b) id)
end
section
variable {X : Cx} {W : WX}
/-- what is read without a change of the heap, whatever is locked meanwhile -/
def DK (X : Cx) (e : Expr) (m : M D) : Prop := ∃ t, PE X e t ∧ ∀ F σ H ds, StR X.K F H σ ds → ∀ d ds1, m ds = some (.ok d, ds1) → ∃ F1 v, Stp X.K F H σ ds F1 H σ ds1 ∧ Rep X.K F1 d v ∧ ∀ H2 (Q : VK), Sub F1 H2 → Q v H2 → t σ H2 Q
theorem dk_rdN (i : Nat) {x : Str} {pos : Pos} (hN : X.N[i]? = some x := by rfl) (hv : Vis X.env.scope x := by first | exact Or.inl rfl | exact Or.inr (Or.inl rfl) | exact Or.inr (Or.inr rfl)) (hd : (x == ("__debug__" : Str)) = false := by decide)
    (hcd : (x == ("__classdict__" : Str)) = false := by decide) : DK X (.Name x pos) (rd i) := by
  obtain ⟨t, p, q⟩ := (dv_rd (X := X) (W := fun _ _ _ _ => True) (pos := pos) i hN hv hd hcd)
  refine ⟨tVar i, pe_var hN hv hd hcd, fun F σ H ds s d ds1 em => ?_⟩
  have em' := em
  unfold rd at em
  cases e : ds[i]? with
  | none => rw [e] at em; cases em
  | some o =>
    cases o with
    | none => rw [e] at em; cases em
    | some sv =>
      rw [e] at em
      cases em
      obtain ⟨v, e1, e2⟩ := s.slot i sv e
      cases sv with
      | val d => exact ⟨F, v, StR.putv (Stp.refl s) e1 e2, e2, fun H2 Q _ h => ⟨v, e1, h⟩⟩
      | own o =>
        obtain ⟨p, rfl, h0, ho⟩ := e2
        have a := s.drop i
        have hn : ¬ OA σ (ds.set i none) p := fun ⟨j, o', h1, h2⟩ => by
          have l : i < ds.length := (List.getElem?_eq_some_iff.mp e).1
          by_cases h : i = j
          · subst h; rw [List.getElem?_set_self l] at h1; cases h1
          · rw [List.getElem?_set_ne h] at h1
            exact h (s.apart i j o o' p e h1 e1 h2)
        obtain ⟨F2, l2, st2, r2⟩ := a.freeze h0 ho hn (.inl ⟨i, o, e, e1⟩)
        have z := StR.putv st2 e1 r2
        rw [List.set_set] at z
        exact ⟨F2, _, z, r2, fun H2 Q _ h => ⟨_, e1, h⟩⟩
theorem dk_fld {o : Expr} {mo : M D} {C : Addr} {f : Str} {pos : Pos} (hc : Cls X.K C) (hn : NoAttr X.K C f) (ho : DK X o mo) (hb : attributeBase o f X.env (eval o X.env) = eval o X.env := by rfl) : DK X (.Attribute o f pos) (un (fldO C f) mo) := by
  obtain ⟨t, p, q⟩ := ho
  refine ⟨_, pe_fld p hb, fun F σ H ds s d ds1 em => ?_⟩
  unfold un bnd at em
  cases e1 : mo ds with
  | none => rw [e1] at em; cases em
  | some z =>
    obtain ⟨r1, ds2⟩ := z
    rw [e1] at em
    cases r1 with
    | exc C fs => cases em
    | ok d1 =>
      obtain ⟨F1, v, st, r, ht⟩ := q F σ H ds s d1 ds2 e1
      unfold lift at em
      simp only at em
      cases e2 : fldO C f d1 with
      | none => rw [e2] at em; cases em
      | some d2 =>
        rw [e2] at em; cases em
        unfold fldO at e2
        split at e2
        · split at e2
          · rename_i hC
            subst hC
            unfold Rep at r
            obtain ⟨a, dx, ws, rfl, h1, h2⟩ := r
            obtain ⟨w, hw, r2⟩ := h2.lookup_some e2
            exact ⟨F1, w, st, r2, fun H2 Q sb h => ht H2 _ sb ⟨a, _, dx, ws, w, rfl, sb.ins h1, hc, hn, hw, h⟩⟩
          · cases e2
        · cases e2
theorem keyV_rep {K : PySem.W.Frag} {F : Hp} : ∀ k : Key, Rep K F (keyV k) (kV k)
  | .inl i => by simp [keyV, kV, Rep]
  | .inr z => by simp [keyV, kV, Rep]
/-- the keys, as what is walked -/
def keysO (d : D) : Option (List D) := match d with
  | .dct kvs => some (kvs.map fun kv => keyV kv.1)
  | _ => none
theorem keys_wlk {F H : Hp} {σ : L2.St} {ds : DS} {a : Addr} {o : Obj} {ws : List (Key × V)} {kvs : List (Key × D)} (hF : F a = some (.dK ws)) (hH : H a = some (.frz o (.dK ws))) (r : Repk X.K F kvs ws) (s : StR X.K F H σ ds) : Wlk X.K F H σ ds (Itk a o ws) (kvs.map fun kv => keyV kv.1) := by
  have hn : ¬ OA σ ds a := fun ⟨i, o, e1, e2⟩ => by
    obtain ⟨v, e3, q, e4, h0, _⟩ := s.slot i _ e1
    rw [e2] at e3; cases e3; cases e4; rw [h0] at hF; cases hF
  refine ⟨_, _, _, walk_keys (d := a) (o := o) (kvs := ws), by simp [r.length], fun F2 H2 σ2 ds2 st => st.ext.fr a _ hH hn, fun i F2 H2 σ2 ds2 x H3 d st ex y => ?_⟩
  obtain ⟨rfl, k, v, e1, rfl⟩ := y
  refine ⟨F2, Stp.refl st.st, ?_⟩
  rw [List.getElem?_map] at ex
  have hk := r.keys
  have e2 : (ws.map (·.1))[i]? = some k := by rw [List.getElem?_map, e1]; rfl
  rw [hk, List.getElem?_map] at e2
  cases e3 : kvs[i]? with
  | none => rw [e3] at ex; cases ex
  | some kv =>
    rw [e3] at ex e2
    cases ex; cases e2
    exact keyV_rep _
end
/-! ### comprehensions -/
section
variable {X : Cx} {W : WX} {scope : Scope} {elt tg e : Expr} {k : Nat} {pos : Pos} {own : List (Str × Nat)} {keep : List Bool} {m : M D} {f : TgF} {mt : M Bool} {me : M D}
def kM (m : M D) : M (List D) := fun ds => match m ds with
  | some (.ok d, ds1) => match keysO d with
    | some l => some (.ok l, ds1)
    | none => none
  | _ => none
theorem kM_some {ds : DS} {r : R (List D)} {ds1 : DS} (h : kM m ds = some (r, ds1)) : ∃ kvs, m ds = some (.ok (.dct kvs), ds1) ∧ r = .ok (kvs.map fun kv => keyV kv.1) := by
  unfold kM at h
  split at h
  · rename_i d ds2 e
    split at h
    · rename_i l e2
      cases h
      unfold keysO at e2
      split at e2
      · cases e2; exact ⟨_, e, rfl⟩
      · cases e2
    · cases h
  · cases h
abbrev DKs (X : Cx) (m : M D) (td : TE) : Prop := ∀ F σ H ds, StR X.K F H σ ds → ∀ d ds1, m ds = some (.ok d, ds1) → ∃ F1 v, Stp X.K F H σ ds F1 H σ ds1 ∧ Rep X.K F1 d v ∧ ∀ H2 (Q : VK), Sub F1 H2 → Q v H2 → td σ H2 Q
theorem keys_at {td : TE} {F1 H2 : Hp} {σ : L2.St} {ds1 : DS} {a : Addr} {ws : List (Key × V)} {kvs : List (Key × D)} {od : Obj} (s : StR X.K F1 H2 σ ds1) (hF : F1 a = some (.dK ws)) (hH : H2 a = some (.frz od (.dK ws))) (rp : Repk X.K F1 kvs ws)
    (ht : ∀ H2 (Q : VK), Sub F1 H2 → Q (.ref a) H2 → td σ H2 Q) : At X.K W (RelI X.K σ) F1 H2 σ ds1 (iKeys td σ H2) (some (.ok (kvs.map fun kv => keyV kv.1), ds1)) :=
  At.ret (Rel := RelI X.K σ) s (keys_wlk hF hH rp s) fun R h => ht H2 _ s.sub ⟨a, od, rfl, .inl ⟨ws, hH, h⟩⟩
theorem lck_at {td : TE} {g : TG} {tt : TT} {te : TE} {vs : List Nat} {F H : Hp} {σ : L2.St} {ds : DS} (s : StR X.K F H σ ds) (hk : ∀ i, i < σ.length → keep.getD i false = true ∨ i ∈ vs) (qd : DKs X m td)
    (qg : ∀ F σ H ds d x ds1, StR X.K F H σ ds → Rep X.K F d x → f d ds = some ds1 → ∀ Q : L2.St → Hp → Prop, (∀ F' H' σ', Stp X.K F H σ ds F' H' σ' ds1 → Kp keep σ σ' → Q σ' H') → g x σ H Q)
    (qt : ∀ F σ H ds, StR X.K F H σ ds → At X.K W0 RelB F H σ ds (tt σ H) (mt ds)) (qe : ∀ F σ H ds, StR X.K F H σ ds → At X.K W0 (RelD X.K) F H σ ds (te σ H) (me ds)) :
    At X.K W (RelS X.K σ) F H σ ds (fun Q => tLockE (tLc (iKeys td) g tt te vs) σ H Q ∨ tLc (iKeys td) g tt te vs σ H Q) (lcM vs (kM m) f mt me ds) := by
  intro r ds' Q er hq
  unfold lcM at er
  cases e0 : kM m ds with
  | none => unfold bnd at er; rw [e0] at er; cases er
  | some z =>
    obtain ⟨r0, ds1⟩ := z
    obtain ⟨kvs, e1, rfl⟩ := kM_some e0
    obtain ⟨F1, v, st, rp, ht⟩ := qd F σ H ds s _ ds1 e1
    unfold Rep at rp
    obtain ⟨a, ws, rfl, hF, r2⟩ := rp
    have er2 : lcM vs (fun _ => some (.ok (kvs.map fun kv => keyV kv.1), ds1)) f mt me ds1 = some (r, ds') := by
      unfold lcM
      unfold bnd at er ⊢
      rw [e0] at er
      exact er
    rcases st.st.sub a _ hF with hH | ⟨_, od, hH⟩
    · refine .inl ⟨a, .dK ws, hH, trivial, fun od => ?_⟩
      have s2 := st.st.lock (od := od) (u := .dK ws) trivial hF
      refine lc_at (W := fun _ _ _ _ => True) (keep := keep) s2 hk (keys_at s2 hF upd_same r2 ht) qg qt qe r ds' _ er2 ?_
      cases r with
      | exc C fs => exact fun _ _ _ _ _ => trivial
      | ok sv =>
        intro F' H' b st2 rel
        obtain ⟨hd, st3⟩ := Stp.unlock st.st hH hF st2
        refine ⟨hd, hq F' _ b (st.trans st3) ⟨rel.1.keep fun p o e1 e2 => ?_, fun o p e1 e2 => ⟨(rel.2 o p e1 e2).1, ?_⟩⟩⟩
        · have hp : p ≠ a := fun z => by
            subst z; subst e1; subst e2
            obtain ⟨q, eq, h0, _⟩ := rel.1
            cases eq
            rw [st2.ext.ff p _ hF] at h0; cases h0
          exact upd_ne hp
        · refine st.new ((rel.2 o p e1 e2).2.imp id fun z => ?_)
          by_cases hp : p = a
          · subst hp; rw [upd_same] at z; cases z
          · rw [upd_ne hp] at z; exact z
    · refine .inr (lc_at (W := W) (keep := keep) st.st hk (keys_at st.st hF hH r2 ht) qg qt qe r ds' Q er2 ?_)
      cases r with
      | exc C fs => exact fun F' H' d' st' x => hq F' H' d' (st.trans st') x
      | ok sv => exact fun F' H' b st2 rel => hq F' H' b (st.trans st2) (RelS.mono (fun p z => st.new z) rel)
theorem pe_or {e : Expr} {t u : TE} (h : PE X e t) (h' : PE X e u) : PE X e (fun σ H Q => t σ H Q ∨ u σ H Q) := ⟨fun pins s σ H Q I q => q.elim (h.run pins s σ H Q I) (h'.run pins s σ H Q I)⟩
theorem ps_or {st : Stmt} {t u : TS} (h : PS X st t) (h' : PS X st u) : PS X st (fun D σ H => t D σ H ∨ u D σ H) := ⟨fun pins s σ H D I q => q.elim (h.run pins s σ H D I) (h'.run pins s σ H D I)⟩
theorem de_lcK (c : Ctx X W k) (hi : DK X e m) (ok : BlkOk X.N X.env.scope scope own) (hg : ∀ i : BIx, DG (blkX X scope i) keep tg f) (he : ∀ i : BIx, DV (blkX X scope i) W0 elt me)
    (hk : ((List.range X.N.length).all fun i => keep.getD i false || (own.map (·.2)).contains i) = true := by rfl) (hs : ∀ x, foldedSetIterable e X.env x = pure x := by intro _; rfl) :
    DE X W (.ListComp elt [⟨tg, e, [], 0⟩] scope pos) (lcM (own.map (·.2)) (kM m) f (ret true) me) := by
  obtain ⟨td, pd, qd⟩ := hi
  obtain ⟨g, pg, qg⟩ := dg_all hg
  obtain ⟨te, pe, qe⟩ := dv_all he
  have hP : PE X (.ListComp elt [⟨tg, e, [], 0⟩] scope pos) (tLc (iKeys td) g tYes te (own.map (·.2))) :=
    pe_lc c.calm c.nd (pi_keys pd) ok (fun s H C cl fp => pg (s, H, C, cl, fp)) (fun s H C cl fp => pts_nil) (fun s H C cl fp => pe (s, H, C, cl, fp)) hs
  have hP2 := pe_or (pe_lock hP) hP
  refine ⟨fun σ H Q => σ.length = X.N.length → (tLockE (tLc (iKeys td) g tYes te (own.map (·.2))) σ H Q ∨ tLc (iKeys td) g tYes te (own.map (·.2)) σ H Q), ⟨fun pins s σ H Q I hw => hP2.run pins s σ H Q I (hw I.len)⟩, fun F σ H ds s r ds' Q er hq hl => ?_⟩
  exact lck_at s (keep_of hk hl) qd qg (fun F σ H ds s => At.ret s rfl fun Q h => h) qe r ds' Q er hq
theorem de_lcKIf {ci : Expr} (c : Ctx X W k) (hi : DK X e m) (ok : BlkOk X.N X.env.scope scope own) (hg : ∀ i : BIx, DG (blkX X scope i) keep tg f) (ht : ∀ i : BIx, DT (blkX X scope i) W0 ci mt) (he : ∀ i : BIx, DV (blkX X scope i) W0 elt me)
    (hk : ((List.range X.N.length).all fun i => keep.getD i false || (own.map (·.2)).contains i) = true := by rfl) (hs : ∀ x, foldedSetIterable e X.env x = pure x := by intro _; rfl) :
    DE X W (.ListComp elt [⟨tg, e, [ci], 0⟩] scope pos) (lcM (own.map (·.2)) (kM m) f mt me) := by
  obtain ⟨td, pd, qd⟩ := hi
  obtain ⟨g, pg, qg⟩ := dg_all hg
  obtain ⟨tt, pt, qt⟩ := dt_all ht
  obtain ⟨te, pe, qe⟩ := dv_all he
  have hP : PE X (.ListComp elt [⟨tg, e, [ci], 0⟩] scope pos) (tLc (iKeys td) g tt te (own.map (·.2))) :=
    pe_lc c.calm c.nd (pi_keys pd) ok (fun s H C cl fp => pg (s, H, C, cl, fp)) (fun s H C cl fp => pts_one (pt (s, H, C, cl, fp))) (fun s H C cl fp => pe (s, H, C, cl, fp)) hs
  have hP2 := pe_or (pe_lock hP) hP
  refine ⟨fun σ H Q => σ.length = X.N.length → (tLockE (tLc (iKeys td) g tt te (own.map (·.2))) σ H Q ∨ tLc (iKeys td) g tt te (own.map (·.2)) σ H Q), ⟨fun pins s σ H Q I hw => hP2.run pins s σ H Q I (hw I.len)⟩, fun F σ H ds s r ds' Q er hq hl => ?_⟩
  exact lck_at s (keep_of hk hl) qd qg qt qe r ds' Q er hq
/-! ### for over a dict's keys: nothing is raised within -/
def noExc (m : MS) : MS := fun ds => match m ds with
  | some (.exc _ _, _) => none
  | r => r
theorem forN_at {td : TE} {g : TG} {u : TS} {body : MS} {keep : List Bool} {F H : Hp} {σ : L2.St} {ds : DS} (hfor : ∀ (W : WX) (mi : M (List D)) (F H : Hp) (σ : L2.St) (ds : DS), StR X.K F H σ ds → At X.K W (RelI X.K σ) F H σ ds (iKeys td σ H) (mi ds) → AtS X.K W keep F H σ ds (fun D => tFor (iKeys td) g u D σ H) (noExc (forI mi f body) ds))
    (s : StR X.K F H σ ds) (qd : DKs X m td) : AtS X.K W keep F H σ ds (fun D => tLock (tFor (iKeys td) g u) D σ H ∨ tFor (iKeys td) g u D σ H) (noExc (forI (kM m) f body) ds) := by
  intro r ds' D er hq
  cases e0 : kM m ds with
  | none => unfold noExc forI bnd at er; rw [e0] at er; cases er
  | some z =>
    obtain ⟨r0, ds1⟩ := z
    obtain ⟨kvs, e1, rfl⟩ := kM_some e0
    obtain ⟨F1, v, st, rp, ht⟩ := qd F σ H ds s _ ds1 e1
    unfold Rep at rp
    obtain ⟨a, ws, rfl, hF, r2⟩ := rp
    have er2 : noExc (forI (fun _ => some (.ok (kvs.map fun kv => keyV kv.1), ds1)) f body) ds1 = some (r, ds') := by
      unfold noExc forI bnd at er ⊢
      rw [e0] at er
      exact er
    have hnx : ∀ C fs, r ≠ .exc C fs := fun C fs z => by
      subst z
      unfold noExc at er2
      split at er2
      · cases er2
      · rename_i hx
        exact hx _ _ _ er2
    rcases st.st.sub a _ hF with hH | ⟨_, od, hH⟩
    · refine .inl ⟨a, .dK ws, hH, trivial, fun od => ?_⟩
      have s2 := st.st.lock (od := od) (u := .dK ws) trivial hF
      refine hfor (fun _ _ _ _ => True) _ F1 _ σ ds1 s2 (keys_at s2 hF upd_same r2 ht) r ds' _ er2 ?_
      cases r with
      | exc C fs => exact absurd rfl (hnx C fs)
      | ok o =>
        cases o with
        | nx =>
          intro F' H' σ' st2 k2
          obtain ⟨hd, st3⟩ := Stp.unlock st.st hH hF st2
          exact ⟨hd, hq F' _ σ' (st.trans st3) k2⟩
        | bk =>
          intro F' H' σ' st2 k2
          obtain ⟨hd, st3⟩ := Stp.unlock st.st hH hF st2
          exact ⟨hd, hq F' _ σ' (st.trans st3) k2⟩
        | ct =>
          intro F' H' σ' st2 k2
          obtain ⟨hd, st3⟩ := Stp.unlock st.st hH hF st2
          exact ⟨hd, hq F' _ σ' (st.trans st3) k2⟩
        | rt sv =>
          intro F' H' σ' b st2 k2 rel
          obtain ⟨hd, st3⟩ := Stp.unlock st.st hH hF st2
          refine ⟨hd, hq F' _ σ' b (st.trans st3) k2 ⟨rel.1.keep fun p o e1 e2 => ?_, fun o p e1 e2 => ⟨(rel.2 o p e1 e2).1, ?_⟩⟩⟩
          · have hp : p ≠ a := fun z => by
              subst z; subst e1; subst e2
              obtain ⟨q, eq, h0, _⟩ := rel.1
              cases eq
              rw [st2.ext.ff p _ hF] at h0; cases h0
            exact upd_ne hp
          · refine st.new ((rel.2 o p e1 e2).2.imp id fun z => ?_)
            by_cases hp : p = a
            · subst hp; rw [upd_same] at z; cases z
            · rw [upd_ne hp] at z; exact z
    · refine .inr (hfor W _ F1 H σ ds1 st.st (keys_at st.st hF hH r2 ht) r ds' D er2 ?_)
      exact hq.up st Kp.refl rfl (fun _ => rfl) (fun _ => rfl) (fun _ => rfl)
theorem noExc_at {W : WX} {keep : List Bool} {F H : Hp} {σ : L2.St} {ds : DS} {t : Ends → Prop} {b : MS} (h : AtS X.K W keep F H σ ds t (b ds)) : AtS X.K W keep F H σ ds t (noExc b ds) := fun r ds' D er hq => by
  refine h r ds' D ?_ hq
  unfold noExc at er
  split at er
  · cases er
  · exact er
theorem noExc_any {W W' : WX} {keep : List Bool} {F H : Hp} {σ : L2.St} {ds : DS} {t : Ends → Prop} {b : MS} (h : AtS X.K W keep F H σ ds t (b ds)) : AtS X.K W' keep F H σ ds t (noExc b ds) := fun r ds' D er hq => by
  unfold noExc at er
  split at er
  · cases er
  · rename_i hx
    refine h r ds' D er ?_
    cases r with
    | exc C fs => exact absurd er (hx C fs ds')
    | ok o => cases o <;> exact hq
def forK (m : M D) (tg : TgF) (body : MS) : MS := noExc (forI (kM m) tg (noExc body))
theorem dst_forK {body : List Stmt} {mb : MS} (c : Ctx X W k) (hi : DK X e m) (hg : DG X keep tg f) (hb : DSs X W keep body mb) (hs : ∀ x, foldedSetIterable e X.env x = pure x := by intro _; rfl) : DSt X W keep (.For tg e body [] pos) (forK m f mb) := by
  obtain ⟨td, pd, qd⟩ := hi
  obtain ⟨g, pg, qg⟩ := hg
  obtain ⟨u, pb, qb⟩ := hb
  have hP : PS X (.For tg e body [] pos) (tFor (iKeys td) g u) := ps_for c.own c.calm (pi_keys pd) pg pb hs
  exact ⟨_, ps_or (ps_lock hP) hP, fun F σ H ds s => forN_at (fun W' mi F H σ ds s qi => noExc_at (for_at s qi qg fun F σ H ds s => noExc_any (qb F σ H ds s))) s qd⟩
end
/-! ### facts of the context -/
section
variable {X : Cx} {W : WX} {k : Nat}
theorem Ctx.hu (c : Ctx X W k) : X.A.units + 1 < cLine := by have := c.room.un; omega
theorem Ctx.hu65 (c : Ctx X W k) : X.A.units + 65 < cLine := by have := c.room.un; omega
end
end DL
/-! DLx: what is never reached; the last rules. -/
namespace DL
open PySem PySem.Spec PyProof.Rows L2
section
variable {X : Cx} {W : WX} {keep : List Bool} {e : Expr} {st : Stmt} {pos : Pos}
theorem dv_never : DV X W e stuck := ⟨fun _ _ _ => False, ⟨fun _ _ _ _ _ _ h => h.elim⟩, fun F σ H ds s r ds' Q e q => by cases e⟩
theorem de_never : DE X W e stuck := ⟨fun _ _ _ => False, ⟨fun _ _ _ _ _ _ h => h.elim⟩, fun F σ H ds s r ds' Q e q => by cases e⟩
theorem dst_never : DSt X W keep st stuck := ⟨_, ps_never, fun F σ H ds s r ds' D e q => by cases e⟩
theorem dv_negint {i : Int} {j : Nat} {p : Pos} : DV X W (.UnaryOp .USub (.Constant (.int i) j p) pos) (k_ (.int (-i))) := by
  refine ⟨_, pe_un un_neg pe_int, fun F σ H ds s => At.pure (v := .int (-i)) s (by simp [Rep]) fun Q h => ⟨i, rfl, h⟩⟩
end
section
variable {P : Program} {w : World} {K : PySem.W.Frag} {mg : Str → Option Value} {base : Heap}
/-- as fn_mk, the body and the scope as they are written out -/
theorem fn_mk2 {x qual : Str} {st : Stmt} {f : Addr} {fd : FuncData} {N ps : List Str} {k n : Nat} {keep : List Bool} {m : MS} {body : List Stmt} {sc : Scope} (F : Fun K x qual st f fd) (hb : defBody st = body) (hs : defScope st = sc) (S : FnScope N ps sc) (hn : ps.length = n) (hk : keep.length = n)
    (hbody : ∀ (cdv : Value) (A : Around) (outer : List Env) (s : Shared) (H : Hp) (E : XK), Ctx (cxOf (L2.CX P w) P w K mg base N qual sc f cdv A outer s H E) (fun cls d _ H => E cls d H) k →
      DSs (cxOf (L2.CX P w) P w K mg base N qual sc f cdv A outer s H E) (fun cls d _ H => E cls d H) keep body m) :
    FnOk P w K mg base (L2.CX P w) (k + 1) f fd ps (spD K n (mirOf n N.length keep m)) := by
  subst hb; subst hs
  exact fn_mk F S hn hk hbody
end
end DL
/-! DLy: exceptions: raise, try, what is read of them; isinstance and == of own classes. -/
namespace DL
open PySem PySem.Spec PyProof.Rows L2
/-- C's own __init__, which sets the one field f -/
def spX (C : Addr) (f : Str) : Sp := fun vs H Q _ => ∃ a v, vs = [V.ref a, v] ∧ H a = some (exo a C none) ∧ ∀ d, H d = none → d ≠ a → Q .non (upd (upd H d (exd d [(f, v)])) a (exo a C (some d)))
def raiseM (C : Addr) (f : Str) (m : M (List D)) : MS := bnd m fun l ds => match l with
  | [d] => some (.exc C [(f, d)], ds)
  | _ => none
section
variable {P : Program} {w : World} {K : PySem.W.Frag} {mg : Str → Option Value} {base : Heap}
theorem fn_exc {x qual : Str} {st : Stmt} {fI C : Addr} {fd : FuncData} {f y : Str} {body : List Stmt} {sc : Scope} {p1 p2 p3 p4 : Pos} (F : Fun K x qual st fI fd) (T : OexC K C) (hno : PySem.W.findIn K (.ref C) f = some none)
    (hb : defBody st = body) (hs : defScope st = sc) (hbody : body = [.Assign [.Attribute (.Name "self" p1) f p2] (.Name y p3) p4]) (S : FnScope ["self", y] ["self", y] sc)
    (hv0 : sc.names.lookup ("self" : Str) = some NameKind.local) (hv1 : sc.names.lookup y = some NameKind.local) (hy : (y == ("__debug__" : Str)) = false) (hy2 : (y == ("__classdict__" : Str)) = false) : FnOk P w K mg base (L2.CX P w) 1 fI fd ["self", y] (spX C f) := by
  subst hb; subst hs
  refine F.okX S (fun vs H Q E h => ?_) (fun cdv A outer s H vs Q E hr h => ⟨tOst K f (tVar 0) (tVar 1), ?_, ?_⟩)
  · obtain ⟨a, v, rfl, _⟩ := h
    rfl
  · show PSs _ (defBody st) _
    rw [hbody]
    exact pss_one (ps_ost (pe_var rfl (.inl hv0) (by decide) (by decide)) (pe_var rfl (.inl hv1) hy hy2) rfl)
  · obtain ⟨a, v, rfl, ha, q⟩ := h
    exact ⟨v, rfl, _, rfl, a, C, rfl, T, hno, .inl ⟨ha, fun dx hd hne => q dx hd hne⟩⟩
end
section
variable {X : Cx} {W : WX} {keep : List Bool} {k j : Nat} {C fI : Addr} {fd : FuncData} {ps : List Str} {f x : Str} {e : Expr} {ma : M (List D)} {p pos pos2 : Pos}
theorem dst_raise (c : Ctx X W k) (T : OexC X.K C) (iC : PySem.W.findIn X.K (.ref C) "__init__" = some (some (.ref fI))) (tI : PySem.W.typeIn X.K (.ref fI) = some (.type "function")) (F1 : FnOk X.prog X.w X.K X.mg X.base (L2.CX X.prog X.w) j fI fd ps (spX C f)) (hj : j + 1 ≤ k)
    (hb : Binds X.K fd ps []) (hm : X.mg x = some (.ref C)) (ha : DA X W [e] ma) (hg : Gl X x := by rfl) (hdb : (x == ("__debug__" : Str)) = false := by decide)
    (he : starEach (e :: []) X.env = (false, eval e X.env) :: starEach [] X.env := by rfl) (hpl : (backTo pos (starEach [] X.env)).any (·.1) = false := by rfl) :
    DSt X W keep (.Raise (some (.Call (.Name x p) [e] [] pos)) none pos2) (raiseM C f ma) := by
  obtain ⟨t, pa, qa⟩ := ha
  refine ⟨_, ps_raise c.calm c.tk (pmk_oex T iC tI F1 (c.room.mono hj) hb .nil passL hg hm pa hdb he hpl), fun F σ H ds s => ?_⟩
  refine AtS.bind (t2 := fun (vs : List V) H1 (_ : Ends) => vs.length ≤ 1000 ∧ ∀ a, H1 a = none → spX C f (.ref a :: (vs ++ [])) (upd H1 a (exo a C none))
    (fun v H2 => v = .non ∧ ∃ (d : Addr) (fs : List (Str × V)), H2 a = some (exo a C (some d)) ∧ H2 d = some (exd d fs) ∧ H1 d = none ∧ W (.ref C) (some d) σ (upd (del H2 a) d (.xd fs))) (fun _ _ _ => False)) (qa F σ H ds s) (fun l ds1 F1' H1 vs st1 rel r ds' D e hq => ?_) fun D h => h
  split at e
  · rename_i d0
    cases e
    have rel' : Reps X.K F1' [d0] vs := rel
    obtain ⟨v0, ws, rfl, r0, r1⟩ := (by unfold Reps at rel'; exact rel')
    have hw : ws = [] := by unfold Reps at r1; exact r1
    subst hw
    refine ⟨by simp, fun a ha => ⟨a, v0, by simp, upd_same, fun d hd hne => ⟨rfl, d, [(f, v0)], upd_same, ?_, ?_, ?_⟩⟩⟩
    · rw [upd_ne hne, upd_same]
    · rw [upd_ne hne] at hd; exact hd
    · rw [upd_ne hne] at hd
      have hH : upd (del (upd (upd (upd H1 a (exo a C none)) d (exd d [(f, v0)])) a (exo a C (some d))) a) d (.xd [(f, v0)]) = upd H1 d (.xd [(f, v0)]) := by
        funext b
        by_cases h1 : b = d
        · subst h1; rw [upd_same, upd_same]
        · rw [upd_ne h1, upd_ne h1]
          by_cases h2 : b = a
          · subst h2; rw [del_same]; exact ha.symm
          · rw [del_ne h2, upd_ne h2, upd_ne h1, upd_ne h2]
      rw [hH]
      have h0 : F1' d = none := st1.st.sub.none_ hd
      exact hq (upd F1' d (.xd [(f, v0)])) _ σ (some d) (st1.trans (st1.st.froz hd)) Kp.refl (.inr ⟨d, [(f, v0)], rfl, upd_same, by
        unfold Repf
        exact ⟨v0, [], rfl, r0.mono (Le.upd h0), by unfold Repf; rfl⟩⟩)
  · cases e
end
/-! ### try .. except C as n -/
/-- the slot of the caught exception is emptied behind the clause -/
def clrX (i : Nat) (o : Option (R Out × DS)) : Option (R Out × DS) := match o with
  | some (.ok s, ds) => some (.ok s, ds.set i none)
  | _ => none
open Classical in
/-- what does not hang on where the exception stands -/
noncomputable def anyX (f : Option Addr → Addr → Option (R Out × DS)) : Option (R Out × DS) := if h : ∃ z, ∀ d a, f d a = some z then some h.choose else none
theorem anyX_some {f : Option Addr → Addr → Option (R Out × DS)} {z : R Out × DS} (h : anyX f = some z) (d : Option Addr) (a : Addr) : f d a = some z := by
  unfold anyX at h
  split at h
  · rename_i q
    cases h
    exact q.choose_spec d a
  · cases h
theorem anyX_eq {f : Option Addr → Addr → Option (R Out × DS)} {z : R Out × DS} (h : ∀ d a, f d a = some z) : anyX f = some z := by
  have q : ∃ z, ∀ d a, f d a = some z := ⟨z, h⟩
  unfold anyX
  rw [dif_pos q]
  have e := q.choose_spec none 0
  rw [h none 0] at e
  exact e.symm
noncomputable def tryM (Cs : List Addr) (i : Nat) (mb : MS) (mh : Option Addr → Addr → Addr → MS) : MS := fun ds => match mb ds with
  | some (.exc C fs, ds') => if C ∈ Cs ∧ i < ds'.length then anyX fun d a => clrX i (mh d a C (ds'.set i (some (.val (.xcp d a C fs))))) else none
  | r => r
section
variable {X : Cx} {W : WX} {keep : List Bool} {k i : Nat} {x n : Str} {cl : Value} {body suite : List Stmt} {b₀ : Stmt} {np pos pos' : Pos} {mb : MS} {mh : Option Addr → Addr → Addr → MS} {Cs : List Addr}
theorem Kp.clr {keep : List Bool} {σ : L2.St} {i : Nat} (h : keep.getD i false = false) : Kp keep σ (σ.set i none) := by
  refine ⟨fun j hj => List.getElem?_set_ne fun z => ?_, by rw [List.length_set]⟩
  subst z
  rw [h] at hj; cases hj
theorem StR.set_none {ds : DS} {i j : Nat} {y : SV} (e : (ds.set i none)[j]? = some (some y)) : ds[j]? = some (some y) := by
  by_cases h : i = j
  · subst h
    have l : i < (ds.set i none).length := (List.getElem?_eq_some_iff.mp e).1
    rw [List.length_set] at l
    rw [List.getElem?_set_self l] at e; cases e
  · rw [List.getElem?_set_ne h] at e; exact e
theorem Stp.clr {K : PySem.W.Frag} {F H F' H' : Hp} {σ σ' : L2.St} {ds ds' : DS} (a : Stp K F H σ ds F' H' σ' ds') (i : Nat) : Stp K F H σ ds F' H' (σ'.set i none) (ds'.set i none) := by
  have b := a.trans (a.st.drop i)
  have g : ∀ (j : Nat) (y : SV), (ds'.set i none)[j]? = some (some y) → j ≠ i := fun j y e z => by
    subst z
    have l : j < ds'.length := by
      have := (List.getElem?_eq_some_iff.mp e).1
      rwa [List.length_set] at this
    rw [List.getElem?_set_self l] at e; cases e
  have gs : ∀ j, j ≠ i → (σ'.set i none)[j]? = σ'[j]? := fun j h => List.getElem?_set_ne fun z => h z.symm
  refine ⟨⟨b.st.sub, by rw [List.length_set, List.length_set]; exact a.st.len, fun j y e => ?_, fun p q o o' r h1 h2 h3 h4 => ?_⟩, b.ext, fun p ⟨j, o, h1, h2⟩ => ?_⟩
  · rw [gs j (g j _ e)]; exact b.st.slot j y e
  · rw [gs p (g p _ h1)] at h3
    rw [gs q (g q _ h2)] at h4
    exact b.st.apart p q o o' r h1 h2 h3 h4
  · rw [gs j (g j _ h1)] at h2
    exact b.oa p ⟨j, o, h1, h2⟩
theorem dst_try (i : Nat) (c : Ctx X W k) (hc : Names X x cl) (hCs : ∀ C ∈ Cs, PySem.W.exmOne X.K (.ref C) cl = some true)
    (hb : ∀ (W' : WX) (pn : List (Addr × Obj)) (xe : Value → Shared → Prop), Ctx (X.tr pn xe) W' k → DSs (X.tr pn xe) W' keep body mb)
    (hh : ∀ (a : Addr) (oe : Obj) (C : Addr) (d : Option Addr) (pn : List (Addr × Obj)), C ∈ Cs → Zc (.ref C) d oe → (∃ vs, oe.data = .fields vs) → DSs (X.suite a ((a, oe) :: pn)) (fun _ _ _ _ => False) keep (b₀ :: suite) (mh d a C))
    (hi : X.N[i]? = some n := by rfl) (hln : X.env.kindOf n = some .local := by rfl) (hk : keep.getD i false = false := by rfl) (hs : X.stack = X.env :: X.outer := by rfl) (hf : X.env.frame = some X.env.locals := by rfl) :
    DSt X W keep (.Try body [.ExceptHandler (some (.Name x np)) (some n) (b₀ :: suite) pos'] [] [] pos) (tryM Cs i mb mh) := by
  have hP := ps_try_as (X := X) (np := np) (pos := pos) (pos' := pos') (b₀ := b₀) (suite := suite) (tb := fun W' D σ H => ∀ (pn : List (Addr × Obj)) (xe : Value → Shared → Prop) (cc : Ctx (X.tr pn xe) W' k), (hb W' pn xe cc).choose D σ H)
    (ts := fun a cls d D σ H => (∃ C, cls = .ref C ∧ C ∈ Cs) ∧ ∀ (oe : Obj) (C : Addr) (pn : List (Addr × Obj)) (_ : cls = .ref C) (hC : C ∈ Cs) (hz : Zc (.ref C) d oe) (hv : ∃ vs, oe.data = .fields vs), (hh a oe C d pn hC hz hv).choose D σ H)
    (Wout := fun cls d σ H => W cls d σ H) hs hf c.nd hi hln hc c.tk
    (fun W' pn xe tk po => ⟨fun pins s σ H D I h => ((hb W' pn xe ⟨c.calm, c.nd, po, tk, c.room⟩).choose_spec.1).run pins s σ H D I (h pn xe ⟨c.calm, c.nd, po, tk, c.room⟩)⟩)
    (fun a oe cls d pn hz hv => ⟨fun pins s σ H D I h => by
      obtain ⟨⟨C, rfl, hC⟩, h⟩ := h
      exact ((hh a oe C d pn hC hz hv).choose_spec.1).run pins s σ H D I (h oe C pn rfl hC hz hv)⟩)
  refine ⟨_, hP, fun F σ H ds s r ds' D e hq pn xe cc => ?_⟩
  unfold tryM at e
  cases em : mb ds with
  | none => rw [em] at e; cases e
  | some z =>
    obtain ⟨r1, ds1⟩ := z
    rw [em] at e
    refine (hb _ pn xe cc).choose_spec.2 F σ H ds s r1 ds1 D em ?_
    cases r1 with
    | ok o => cases e; cases o <;> exact hq
    | exc C fs =>
      simp only at e
      split at e
      · rename_i hC
        obtain ⟨hC, hl⟩ := hC
        intro F' H' σ' d st kp x
        refine ⟨true, hCs C hC, fun _ a ha => ⟨⟨C, rfl, hC⟩, fun oe C' pn' hcl hC' hz hv => ?_⟩, fun q => by cases q⟩
        cases hcl
        have e2 := anyX_some e d a
        unfold clrX at e2
        cases em2 : mh d a C (ds1.set i (some (.val (.xcp d a C fs)))) with
        | none => rw [em2] at e2; cases e2
        | some z2 =>
          obtain ⟨r2, ds2⟩ := z2
          rw [em2] at e2
          cases r2 with
          | exc C2 fs2 => cases e2
          | ok o =>
            simp only [Option.some.injEq, Prod.mk.injEq] at e2
            obtain ⟨rfl, rfl⟩ := e2
            have rx : Rep X.K F' (.xcp d a C fs) (.ref a) := by unfold Rep; exact ⟨rfl, x⟩
            have hlσ : i < σ'.length := by rw [← st.st.len]; exact hl
            have st1 := st.seti hlσ (RelS.val rx)
            have kp1 : Kp keep σ (σ'.set i (some (.ref a))) := kp.trans (Kp.set hk)
            refine (hh a oe C d pn' hC' hz hv).choose_spec.2 F' _ H' _ st1.st _ ds2 _ em2 ?_
            cases o with
            | nx => exact fun F2 H2 σ2 st2 k2 => hq F2 H2 _ ((st1.trans st2).clr i) ((kp1.trans k2).trans (Kp.clr hk))
            | bk => exact fun F2 H2 σ2 st2 k2 => hq F2 H2 _ ((st1.trans st2).clr i) ((kp1.trans k2).trans (Kp.clr hk))
            | ct => exact fun F2 H2 σ2 st2 k2 => hq F2 H2 _ ((st1.trans st2).clr i) ((kp1.trans k2).trans (Kp.clr hk))
            | rt sv => exact fun F2 H2 σ2 v st2 k2 rel => hq F2 H2 σ2 v ((st1.trans st2).trans (st2.st.drop i)) (kp1.trans k2) ⟨rel.1, fun o p e1 e2 => ⟨fun ⟨j, o', h1, h2⟩ => (rel.2 o p e1 e2).1 ⟨j, o', StR.set_none h1, h2⟩, st1.new (rel.2 o p e1 e2).2⟩⟩
      · cases e
end
/-! ### in the clause: the exception's fields, isinstance -/
def xfO (d : Option Addr) (a C : Addr) (f : Str) (x : D) : Option D := match x with
  | .xcp d' a' C' fs => if d' = d ∧ a' = a ∧ C' = C then fs.lookup f else none
  | _ => none
/-- a class, as isinstance is asked -/
def clsV (d : D) : Option Value := match d with
  | .ref q => some (.ref q)
  | .ty n => some (.type n)
  | _ => none
/-- isinstance's answer, by a table -/
def isxT (tbl : List (Addr × D × Bool)) (l : List D) : Option D := match l with
  | [.xcp _ _ C _, c] => (tbl.find? fun t => decide (t.1 = C) && (decide (clsV t.2.1 = clsV c) && (clsV c).isSome)).map fun t => .bl t.2.2
  | _ => none
def isXO (tbl : List (Addr × D × Bool)) (d : Option Addr) (a C : Addr) (l : List D) : Option D := match l with
  | [.xcp d' a' C' fs, c] => if d' = d ∧ a' = a ∧ C' = C then isxT tbl [.xcp d' a' C' fs, c] else none
  | _ => none
section
variable {X : Cx} {W : WX} {a C : Addr} {oe : Obj} {d : Option Addr} {pn : List (Addr × Obj)}
theorem dv_xf {e : Expr} {m : M D} {f : Str} {pos : Pos} (T : XfC X.K C) (hno : PySem.W.findIn X.K (.ref C) f = some none) (hz : Zc (.ref C) d oe) (hf : ∃ vs, oe.data = .fields vs) (he : DV (X.suite a ((a, oe) :: pn)) W e m)
    (hb : attributeBase e f X.env (eval e X.env) = eval e X.env := by rfl) : DV (X.suite a ((a, oe) :: pn)) W (.Attribute e f pos) (un (xfO d a C f) m) := by
  obtain ⟨t, p, q⟩ := he
  refine ⟨_, pe_xf T hno hz hf p hb, fun F σ H ds s => ?_⟩
  refine At.bind (Rel1 := RelD X.K) (t2 := fun x H1 Q => x = V.ref a ∧ Value.ref C = Value.ref C ∧ ∃ (dd : Addr) (fs : List (Str × V)) (v : V), d = some dd ∧ H1 dd = some (.xd fs) ∧ fs.lookup f = some v ∧ Q v H1) mD (q F σ H ds s) (fun x ds1 F1 H1 b st1 rel => ?_) fun Q h => h
  unfold lift xfO
  cases x with
  | xcp d' a' C' fs =>
    simp only
    by_cases hq : d' = d ∧ a' = a ∧ C' = C
    · rw [if_pos hq]
      obtain ⟨rfl, rfl, rfl⟩ := hq
      have rel' := rel
      unfold RelD Rep at rel'
      obtain ⟨rfl, h⟩ := rel'
      cases hl : fs.lookup f with
      | none => exact At.none_
      | some y =>
        rcases h with ⟨_, hfs⟩ | ⟨b, ws, rfl, hF, rf⟩
        · rw [hfs] at hl; cases hl
        · obtain ⟨v, hv, rv⟩ := Repf.lookup_some rf hl
          exact At.ret (Rel := RelD X.K) st1.st rv fun Q h => ⟨rfl, by first | rfl | trivial, b, ws, v, rfl, st1.st.sub.xd hF, hv, h⟩
    · rw [if_neg hq]; exact At.none_
  | _ => exact At.none_
/-- isinstance(e, c), e the exception that the suite holds, with a dict of its own or without -/
def rIsX (K : PySem.W.Frag) (C a : Addr) : List V → Hp → VK → Prop := fun xs H Q => ∃ (c : V) (cv : Value) (b : Bool), xs = [.ref a, c] ∧ (∀ u, RelV c u → u = cv) ∧ PySem.W.kitOne K (.ref C) cv = some b ∧ (d = none ∨ ∃ dd fs, d = some dd ∧ H dd = some (.xd fs)) ∧ Q (.bl b) H
theorem call_isX (T : ExcC X.K C) (hz : Zc (.ref C) d oe) (hf : ∃ vs, oe.data = .fields vs) : CallR (X.suite a ((a, oe) :: pn)) (.builtin "isinstance") (rIsX (d := d) X.K C a) := by
  intro pins s σ H xs us Q I r h
  obtain ⟨c, cv, b, rfl, hcv, e, hd, q⟩ := h
  cases r with
  | cons rx rr =>
    cases rr with
    | cons rt rr =>
      cases rr
      cases rx
      have ec := hcv _ rt
      subst ec
      obtain ⟨hget, _⟩ := I.pin (a, oe) (List.mem_append.mpr (.inl List.mem_cons_self))
      obtain ⟨vs, hv⟩ := hf
      obtain ⟨cdC, hcC, _⟩ := PySem.W.any_some T.hd
      have J : ∃ od, PySem.W.InstAt s.heap a oe C od := by
        rcases hd with rfl | ⟨dd, fs, rfl, ed⟩
        · obtain ⟨oc, od, oda, osl⟩ := oe
          obtain ⟨h1, h2⟩ := hz
          dsimp only at h1 h2 hv
          subst h1 h2 hv
          exact ⟨none, hget, rfl, rfl, trivial⟩
        · have hx : ObjOk X.prog X.w H s.heap dd (.xd fs) := I.hok dd _ ed
          obtain ⟨mA, hns, hr⟩ := hx
          obtain ⟨od, ho, hl⟩ := lookIn_ns hns
          exact ⟨some od, hget, hz.1, by unfold PySem.W.notCls; rw [hv] <;> rfl, by rw [hz.2]; exact ho⟩
      obtain ⟨od, J⟩ := J
      exact PySem.W.kia_one (PySem.W.kitx_exc (by rw [hcC]; rfl) T.hg T.hk T.hs T.ha T.hn T.ht T.hm) I.kIn J e (fun z => nomatch z) fun tk => ⟨.bl b, H, I.kept (t' := tk) fun _ _ z => z, rfl, q⟩
theorem isX_call {tbl : List (Addr × D × Bool)} (ht : ∀ t ∈ tbl, ∀ cv, clsV t.2.1 = some cv → PySem.W.kitOne X.K (.ref t.1) cv = some t.2.2) : CallNV (X.suite a ((a, oe) :: pn)) W (rIsX (d := d) X.K C a) (isXO tbl d a C) := fun F σ H ds vs l z st ha e => by
  unfold isXO at e
  split at e
  · rename_i d' a' C' fs c
    split at e
    · rename_i hq
      obtain ⟨rfl, rfl, rfl⟩ := hq
      unfold isxT at e
      simp only [Option.map_eq_some_iff] at e
      obtain ⟨t, h1, rfl⟩ := e
      have hm := List.mem_of_find?_eq_some h1
      have hp := List.find?_some h1
      simp only [Bool.and_eq_true, decide_eq_true_eq] at hp
      obtain ⟨hp1, hp2, hp3⟩ := hp
      obtain ⟨cv, hcv⟩ := Option.isSome_iff_exists.mp hp3
      have hk := ht t hm cv (hp2.trans hcv)
      rw [hp1] at hk
      unfold Reps at ha
      obtain ⟨v, vs1, rfl, r1, ha⟩ := ha
      unfold Reps at ha
      obtain ⟨y, vs2, rfl, r2, ha⟩ := ha
      have e3 : vs2 = [] := by unfold Reps at ha; exact ha
      subst e3
      unfold Rep at r1
      obtain ⟨rfl, hx⟩ := r1
      refine At.pure (v := .bl t.2.2) st (by simp [Rep]) fun Q h => ⟨y, cv, t.2.2, rfl, fun u ru => ?_, hk, ?_, h⟩
      · unfold clsV at hcv
        cases c with
        | ref q => cases hcv; have e4 : y = .ref q := r2; subst e4; exact ru
        | ty n => cases hcv; have e4 : y = .ty n := r2; subst e4; exact ru
        | _ => cases hcv
      · rcases hx with ⟨h, _⟩ | ⟨b, ws, h, hF, _⟩
        · exact .inl h
        · exact .inr ⟨b, ws, h, st.sub.xd hF⟩
    · cases e
  · cases e
end
end DL
/-! DLz: isinstance, == and != of own classes. -/
namespace PySem.W
open PySem PySem.Spec PySem.Calls PyProof.Rows
section
variable {prog : Program} {w : World} {A : Around} {E : Value → Shared → Prop} {s : Shared} {K : Frag} {x y C f L : Addr} {ox : Obj} {od : Option Obj} {tb : Value} {h₀ : Heap} {m : Str → Option Value}
theorem objNe_K (X : K.In s.heap) (I : InstAt s.heap x ox C od) (hs : findIn K (.ref C) "__eq__" = some (some (.ref f))) (hf : isFn K (.ref f) = true) (hu : A.units < cLine) {Q : Fin → Shared → Prop}
    (hcall : wpAny (model prog w) A (call (.ref f) [.ref x, .ref y]) (fun v s' => ∃ b, v = .bool b ∧ Q (.done (.ret (.bool (!b)))) s') E s) :
    wpAny (model prog w) A (Builtin.«object.__ne__» ⟨[.ref x, .ref y], []⟩) Q E s := by
  unfold Builtin.«object.__ne__»
  obtain ⟨h, g, d, t, os⟩ := s
  repeat (first
    | with_reducible refine wpAny_cRoomFor hu ?_
    | (refine wpAny_bind (m := callSpecialIfBound? (.ref x) (Str.ofString "__eq__") [.ref y])
        (ifBound_K X I hs hf (wpAny_mono hcall (fun r s' hr => by
          obtain ⟨b, rfl, hq⟩ := hr
          repeat (first | exact hq | exact wpAny_pure hq | exact wpAny_truthy_bool hq | (refine wpAny_bind (m := truthy (.bool _)) (wpAny_truthy_bool ?_)) | wp_step)) fun _ _ e => e)))
    | wp_step)
theorem ifBound_Kb {M : Model} {n : Str} {i : String} {args : List Value} {Q : Option Value → Shared → Prop} (X : K.In s.heap) (I : InstAt s.heap x ox C od) {B : String} (S : Slot B n i) (hs : findIn K (.ref C) n = some (some (.builtin i)))
    (h : wpAny M A (call (.builtin i) (.ref x :: args)) (fun v => Q (some v)) E s) : wpAny M A (callSpecialIfBound? (.ref x) n args) Q E s := by
  simp only [callSpecialIfBound?, bindSpecialIfBound?]
  refine wpAny_holding (wpAny_bind (wpAny_bind (wpAny_bind (I.type.here ((looks_findIn X hs).here ?_)))))
  simp only [S.bind]
  refine wpAny_bind (wpAny_askSetting (wpAny_ite ?_))
  have fin : wpAny M A (call (.builtin i) ([.ref x] ++ args) >>= fun v => pure (some v)) Q E s := wpAny_bind (wpAny_mono h (fun v s' h' => wpAny_pure h') fun _ _ h' => h')
  split
  · exact wpAny_bind (wpAny_pure (wpAny_pure (by exact fin)))
  · exact wpAny_tryCatch (wpAny_bind (wpAny_pure (wpAny_pure (by exact fin))))
theorem ne_K2 {Q : Value → Shared → Prop} (hu : A.units + 1 < cLine) (X : K.In s.heap) (I : InstAt s.heap x ox C od) (hb : Looks (model prog w) s.heap (typeOf (.ref y)) (.ref C))
    (hn : findIn K (.ref C) "__ne__" = some (some (.builtin "object.__ne__"))) (hs : findIn K (.ref C) "__eq__" = some (some (.ref f))) (hf : isFn K (.ref f) = true) (hsub : subIn K (.ref C) (.type "object") = some true)
    (h : wpAny (model prog w) A.in1 (call (.ref f) [.ref x, .ref y]) (fun v s' => ∃ b, v = .bool b ∧ Q (.bool (!b)) s') E s) : wpAny (model prog w) A (richCompare .NotEq (.ref x) (.ref y)) Q E s := by
  have sub : Looks (model prog w) s.heap (isInstance (.ref x) (.type "object")) true := (I.type (M := model prog w)).andThen (looks_subIn X hsub)
  have one : wpAny (model prog w) A (tryCompare (.ref x) "__ne__" (.ref y)) (fun r s' => ∃ v, r = some v ∧ Q v s') E s := by
    unfold tryCompare
    refine wpAny_bind (ifBound_Kb X I PySem.F.cmp_object.ne hn (wpAny_call (codeAny_call_builtin PySem.F.cmp_object.ne.plain PySem.F.cmpEntry_ne
      (check_slot PySem.F.cmpKind_ne PySem.F.cmpSplit_ne sub (PySem.F.cmpArgs_ne _ _) (objNe_K (A := A.in1) X I hs hf hu (wpAny_mono h (fun v s' hv => ?_) fun _ _ e => e))))))
    obtain ⟨b, rfl, hq⟩ := hv
    first | exact ⟨b, rfl, wpAny_pure ⟨_, rfl, hq⟩⟩ | exact ⟨b, rfl, ⟨_, rfl, hq⟩⟩ | exact ⟨b, rfl, wpAny_pure (wpAny_pure ⟨_, rfl, hq⟩)⟩
  unfold richCompare
  simp only [oneThing_ref]
  refine wpAny_holding (wpAny_bind (wpAny_cRoomFor (Nat.lt_of_succ_lt hu) ?_))
  rw [cmpInfo_NotEq]
  dsimp only
  refine wpAny_bind (I.type.here (wpAny_bind (hb.here ?_)))
  rw [show (Value.ref C != Value.ref C) = false from by simp]
  simp only [Bool.false_eq_true, if_false]
  refine wpAny_bind (wpAny_pure ?_)
  simp only [Bool.false_eq_true, if_false]
  refine wpAny_bind (wpAny_mono one (fun r s' z => ?_) fun _ _ e => e)
  obtain ⟨v, rfl, hq⟩ := z
  exact wpAny_pure hq
end
end PySem.W
namespace DL
open PySem PySem.Spec PyProof.Rows L2
/-- what isinstance asks of an own class -/
structure IsC (K : PySem.W.Frag) (C : Addr) : Prop where
  cl : Cls K C
  ca : PySem.W.findIn K (.ref C) "__class__" = some (some (.builtin "object.__class__"))
  cn : PySem.W.specialIn K (.builtin "object.__class__") "__get__" = some (some (.builtin "getset_descriptor.__get__"))
  ct : PySem.W.takesIn K (.builtin "object.__class__") = some true
  cm : PySem.W.mroIn K C (.type "object") = some true
  ko : PySem.W.kitOne K (.ref C) (.ref C) = some true
/-- isinstance(x, C) of an own class C, x one of its instances -/
def isiC (C : Addr) (l : List D) : Option D := match l with
  | [.obj C' _, .ref q] => if C' = C ∧ q = C then some (.bl true) else none
  | _ => none
/-- what == asks of an own class -/
structure EqC (K : PySem.W.Frag) (C f : Addr) : Prop where
  cl : Cls K C
  eq : PySem.W.findIn K (.ref C) "__eq__" = some (some (.ref f))
  fn : PySem.W.isFn K (.ref f) = true
  ne : PySem.W.findIn K (.ref C) "__ne__" = some (some (.builtin "object.__ne__"))
  sub : PySem.W.subIn K (.ref C) (.type "object") = some true
/-- x == y by C's own == -/
def eqOwn (C : Addr) (m : Mir) (a b : D) : Option D := match a, b with
  | .obj C1 _, .obj C2 _ => if C1 = C ∧ C2 = C then match m [.val a, .val b] with
    | some (.ok (.val (.bl r)), _) => some (.bl r)
    | _ => none
    else none
  | _, _ => none
def neOwn (C : Addr) (m : Mir) (a b : D) : Option D := match eqOwn C m a b with
  | some (.bl r) => some (.bl (!r))
  | _ => none
section
variable {X : Cx} {W : WX} {C f : Addr} {k j : Nat} {m : Mir} {fd : FuncData} {ps : List Str}
theorem isiC_call (T : IsC X.K C) : CallNV X W (fun xs H Q => rIsi X.K xs H Q ∨ rIsiT X.K xs H Q ∨ rIsiK X.K xs H Q) (isiC C) := fun F σ H ds vs l s st ha e => by
  unfold isiC at e
  split at e
  · rename_i C' fs q
    split at e
    · rename_i hq
      obtain ⟨rfl, rfl⟩ := hq
      cases e
      obtain ⟨v, w, rfl, r1, r2⟩ := Reps.two ha
      have e2 : w = .ref _ := r2
      subst e2
      unfold Rep at r1
      obtain ⟨a, dx, ws, rfl, h1, h2⟩ := r1
      exact At.pure (v := .bl true) st (by simp [Rep]) fun Q h => .inl ⟨_, .ref _, .ref _, .ref _, true, rfl, .own _, .base (.ins (st.sub.ins h1) T.cl T.ca T.cn T.ct T.cm), T.ko, h⟩
    · cases e
  · cases e
/-- a comparison of what stays -/
def Op2F (X : Cx) (W : WX) (r : R2) (f : D → D → Option D) : Prop := ∀ F σ H ds x y a b s, StR X.K F H σ ds → Rep X.K F a x → Rep X.K F b y → f a b = some s → At X.K W (RelD X.K) F H σ ds (r x y H) (some (.ok s, ds))
theorem dv_cmpF {a b : Expr} {ma mb : M D} {pos : Pos} {r : R2} {op : CmpOp} {f : D → D → Option D} (ho : OpR X (compareOp op) r) (hf : Op2F X W r f) (hm : behindInMarks op b = false) (ha : DV X W a ma) (hb : DV X W b mb) : DV X W (.Compare a [op] [b] pos) (bin f ma mb) := by
  obtain ⟨ta, pa, qa⟩ := ha
  obtain ⟨tb, pb, qb⟩ := hb
  refine ⟨_, pe_cmpR ho pa pb hm, fun F σ H ds s => ?_⟩
  refine At.bind (t2 := fun x H1 Q => tb σ H1 fun y H2 => r x y H2 Q) mD (qa F σ H ds s) (fun d1 ds1 F1 H1 x st1 rel1 => ?_) fun Q h => h
  refine At.bind (t2 := fun y H2 Q => r x y H2 Q) mD (qb F1 σ H1 ds1 st1.st) (fun d2 ds2 F2 H2 y st2 rel2 => ?_) fun Q h => h
  unfold lift
  cases e : f d1 d2 with
  | none => exact At.none_
  | some z => exact hf F2 σ H2 ds2 x y d1 d2 z st2.st (Rep.mono st2.ext.ff rel1) rel2 e
theorem dt_cmpF {a b : Expr} {ma mb : M D} {pos : Pos} {r : R2} {op : CmpOp} {f : D → D → Option D} (ho : OpR X (compareOp op) r) (hf : Op2F X W r f) (hm : behindInMarks op b = false) (ha : DV X W a ma) (hb : DV X W b mb) : DT X W (.Compare a [op] [b] pos) (isB (bin f ma mb)) := by
  obtain ⟨ta, pa, qa⟩ := ha
  obtain ⟨tb, pb, qb⟩ := hb
  refine ⟨_, pt_cmpR ho pa pb hm, fun F σ H ds s => ?_⟩
  refine At.bind (Rel1 := RelD X.K) (t1 := fun Q => tOp r ta tb σ H Q) (t2 := fun x H1 Q => ∃ c, x = V.bl c ∧ Q c H1) mB ?_ (fun d ds1 F1 H1 x st1 rel1 => ?_) fun Q h => h
  · refine At.bind (t2 := fun x H1 Q => tb σ H1 fun y H2 => r x y H2 Q) mD (qa F σ H ds s) (fun d1 ds1 F1 H1 x st1 rel1 => ?_) fun Q h => h
    refine At.bind (t2 := fun y H2 Q => r x y H2 Q) mD (qb F1 σ H1 ds1 st1.st) (fun d2 ds2 F2 H2 y st2 rel2 => ?_) fun Q h => h
    unfold lift
    cases e : f d1 d2 with
    | none => exact At.none_
    | some z => exact hf F2 σ H2 ds2 x y d1 d2 z st2.st (Rep.mono st2.ext.ff rel1) rel2 e
  · cases d with
    | bl b => exact At.ret st1.st rfl fun Q hq => ⟨b, rel1, hq⟩
    | _ => exact At.none_
def rEqO (C : Addr) (sp : Sp) (g : Bool → Bool) : R2 := fun x y H Q => ∃ a dx fs b dy gs, x = V.ref a ∧ y = V.ref b ∧ H a = some (.ins C dx fs) ∧ H b = some (.ins C dy gs) ∧ sp [x, y] H (fun v H' => ∃ r, v = .bl r ∧ Q (.bl (g r)) H') E0
theorem run_ab {sp : Sp} {A : Around} {pins : List (Addr × Obj)} {σ : L2.St} {H : Hp} {s : Shared} {a b : Addr} {Q : VK} (F : FnOk X.prog X.w X.K X.mg X.base (L2.CX X.prog X.w) j f fd ps sp) (hb : Binds X.K fd ps []) (hr : Room j A) (e0 : Env0 X.prog X.w X.K X.mg X.base A X.stack s H) (I : Inv X pins σ H s) (h : sp [.ref a, .ref b] H Q E0) :
    wpAny (model X.prog X.w) A (call (.ref f) [.ref a, .ref b]) (EP X pins σ Q) X.xe s := by
  have hl := F.len _ _ _ _ h
  have r2 : Vals [V.ref a, V.ref b] [Value.ref a, Value.ref b] := .cons rfl (.cons rfl .nil)
  refine wpAny_call (codeAny_mono (F.run A X.stack s H ⟨[.ref a, .ref b], []⟩ [.ref a, .ref b] [.ref a, .ref b] _ E0 hr e0 (by
    have := hb s [.ref a, .ref b] I.kIn (by simpa using hl)
    simpa using this) r2 h) fun r s' hq => ?_)
  cases r with
  | error e => exact passL pins σ H s e s' I hq
  | ok fl =>
    cases fl with
    | ret w => exact I.after hq
    | next => exact False.elim hq
    | brk => exact False.elim hq
    | cont => exact False.elim hq
theorem op_eqO {sp : Sp} (T : EqC X.K C f) (F : FnOk X.prog X.w X.K X.mg X.base (L2.CX X.prog X.w) j f fd ps sp) (hb : Binds X.K fd ps []) (hr : Room j X.A) : OpR X (compareOp .Eq) (rEqO C sp fun r => r) := by
  intro pins s σ H x y v u Q I rx ry h
  obtain ⟨a, dx, fs, b, dy, gs, rfl, rfl, ha, hb', q⟩ := h
  cases (show v = Value.ref a from rx)
  cases (show u = Value.ref b from ry)
  obtain ⟨mA, J, _⟩ := ins_get I.hok ha
  obtain ⟨mB, J', _⟩ := ins_get I.hok hb'
  obtain ⟨od, J, _⟩ := J.look
  obtain ⟨od', J', _⟩ := J'.look
  obtain ⟨m, hF⟩ := I.fr
  show wpAny _ _ (richCompare .Eq (.ref a) (.ref b)) _ _ _
  refine PySem.W.cmp_K (op := .Eq) (tb := .ref C) hr.units0 hF I.ok.mod.kin J J'.type (by simp [PySem.W.notFirst]) T.eq T.fn ?_
  refine wpAny_mono (run_ab F hb hr I.env0 I q) (fun w s' z => ?_) fun _ _ x => x
  obtain ⟨z', H', I', rz, r, rfl, qz⟩ := z
  cases (show w = Value.bool r from rz)
  exact ⟨.bl r, H', I', rfl, qz⟩
theorem op_neO {sp : Sp} (T : EqC X.K C f) (F : FnOk X.prog X.w X.K X.mg X.base (L2.CX X.prog X.w) j f fd ps sp) (hb : Binds X.K fd ps []) (hr : Room (j + 1) X.A) : OpR X (compareOp .NotEq) (rEqO C sp fun r => !r) := by
  intro pins s σ H x y v u Q I rx ry h
  obtain ⟨a, dx, fs, b, dy, gs, rfl, rfl, ha, hb', q⟩ := h
  cases (show v = Value.ref a from rx)
  cases (show u = Value.ref b from ry)
  obtain ⟨mA, J, _⟩ := ins_get I.hok ha
  obtain ⟨mB, J', _⟩ := ins_get I.hok hb'
  obtain ⟨od, J, _⟩ := J.look
  obtain ⟨od', J', _⟩ := J'.look
  show wpAny _ _ (richCompare .NotEq (.ref a) (.ref b)) _ _ _
  have hu : X.A.units + 1 < cLine := by
    have := hr.in1.units0
    simpa using this
  refine PySem.W.ne_K2 hu I.kIn J J'.type T.ne T.eq T.fn T.sub ?_
  refine wpAny_mono (run_ab F hb hr.in1 I.env0.in1 I q) (fun w s' z => ?_) fun _ _ x => x
  obtain ⟨z', H', I', rz, r, rfl, qz⟩ := z
  cases (show w = Value.bool r from rz)
  exact ⟨r, rfl, .bl (!r), H', I', rfl, qz⟩
theorem own_at {F H : Hp} {σ : L2.St} {ds : DS} {x y : V} {a b : D} {r0 : Bool} {g : Bool → Bool} (s : StR X.K F H σ ds) (ra : Rep X.K F a x) (rb : Rep X.K F b y) (e : eqOwn C m a b = some (.bl r0)) :
    At X.K W (RelD X.K) F H σ ds (rEqO C (spD X.K 2 m) g x y H) (some (.ok (.bl (g r0)), ds)) := by
  unfold eqOwn at e
  split at e
  · rename_i C1 fs C2 gs
    split at e
    · rename_i hC
      obtain ⟨rfl, rfl⟩ := hC
      have ra' := ra
      have rb' := rb
      unfold Rep at ra' rb'
      obtain ⟨p, dx, ws, rfl, h1, _⟩ := ra'
      obtain ⟨q, dy, us, rfl, h2, _⟩ := rb'
      split at e
      · rename_i r1 outs em
        cases e
        intro r ds' Q er hq
        cases er
        refine ⟨p, dx, ws, q, dy, us, rfl, rfl, s.sub.ins h1, s.sub.ins h2, ?_⟩
        have z := appN_at (K := X.K) (W := W) (n := 2) (m := m) (l := [.inl (.obj C2 fs), .inl (.obj C2 gs)]) (vs := [.ref p, .ref q]) (E := E0) s (by exact ⟨_, _, rfl, ra, _, _, rfl, rb, rfl⟩)
        refine z (.ok (.val (.bl r0))) ds (fun v H' => ∃ r, v = .bl r ∧ Q (.bl (g r)) H') ?_ (fun F' H' b st rel => ?_)
        · simp only [appN, appM, rslv, refsG, List.nodup_nil, List.length_cons, List.length_nil, em]
          rcases outs with _ | ⟨o1, _ | ⟨o2, os⟩⟩ <;> simp [wback]
        · have e3 : b = .bl r0 := rel.1
          exact ⟨r0, e3, hq F' H' _ st (by simp [Rep])⟩
      · cases e
    · cases e
  · cases e
theorem eqO_op : Op2F X W (rEqO C (spD X.K 2 m) fun r => r) (eqOwn C m) := fun F σ H ds x y a b s st ra rb e => by
  have : ∃ r0, s = .bl r0 := by
    have e' := e
    unfold eqOwn at e'
    split at e'
    · split at e'
      · split at e'
        · cases e'; exact ⟨_, rfl⟩
        · cases e'
      · cases e'
    · cases e'
  obtain ⟨r0, rfl⟩ := this
  exact own_at st ra rb e
theorem neO_op : Op2F X W (rEqO C (spD X.K 2 m) fun r => !r) (neOwn C m) := fun F σ H ds x y a b s st ra rb e => by
  unfold neOwn at e
  split at e
  · rename_i r0 e2
    cases e
    exact own_at st ra rb e2
  · cases e
end
end DL
/-! DLza: dict comprehensions, f-strings. -/
namespace DL
open PySem PySem.Spec PyProof.Rows L2
def dcGo (vs : List Nat) (tg : TgF) (ke e : M D) : List D → List (Key × D) → M (List (Key × D))
  | [], acc => ret acc
  | d :: r, acc => fun ds => match tg d (wipeD ds vs) with
    | none => none
    | some ds1 => match ke ds1 with
      | some (.ok kd, ds2) => match keyD kd with
        | some k => match e ds2 with
          | some (.ok y, ds3) => if acc.length < sizeLine then dcGo vs tg ke e r (putD acc k y) ds3 else none
          | _ => none
        | none => none
      | _ => none
def dcM (vs : List Nat) (mi : M (List D)) (tg : TgF) (ke e : M D) : M SV := bnd mi fun xs ds => match dcGo vs tg ke e xs [] ds with
  | some (.ok ys, ds') => some (.ok (.own (.dct ys)), restD ds (wipeD ds' vs) vs)
  | _ => none
section
variable {X : Cx} {W : WX} {scope : Scope} {kx elt tg iter : Expr} {k : Nat} {pos : Pos} {own : List (Str × Nat)} {keep : List Bool} {mi : M (List D)} {f : TgF} {mk me : M D}
theorem dc_it {J : It} {n : Nat} {G : Hp → Prop} {Y : Nat → Hp → V → Hp → Prop} (w : Walk J n G Y) {g : TG} {tt : TT} {tk tv : TE} {vs : List Nat} {σ : L2.St} {H1 : Hp} {D : Addr} {Qd : Hp → Prop} (Pv : Nat → Hp → Prop) (h0 : Pv 0 (upd H1 D (.dK []))) (hG : ∀ i H, i ≤ n → Pv i H → G H)
    (hs : ∀ i x H H', i < n → Pv i H → Y i H x H' → g x (wipe σ vs) H' fun σ2 H2 => wipe σ2 vs = wipe σ vs ∧ tt σ2 H2 fun b H3 =>
      if b = true then tk σ2 H3 fun y H4 => tv σ2 H4 fun z H5 => ∃ kvs k, y = kV k ∧ H5 D = some (.dK kvs) ∧ kvs.length < sizeLine ∧ Pv (i + 1) (upd H5 D (.dK (putK kvs k z))) else Pv (i + 1) H3) (hd : ∀ H, Pv n H → Qd H) :
    ∃ W : Nat → Nat → Hp → Prop, (∃ m, W 0 m (upd H1 D (.dK []))) ∧ ∀ i m H, W i m H →
      (J.stop i H ∧ Qd H) ∨ (J.go i H ∧ ∃ Nx : Hp → Prop, (∀ H', Nx H' → ∃ m', m' < m ∧ W (i + 1) m' H') ∧ ∀ x H', J.yld i H x H' → g x (wipe σ vs) H' fun σ2 H2 => wipe σ2 vs = wipe σ vs ∧ tt σ2 H2 fun b H3 =>
        if b = true then tk σ2 H3 fun y H4 => tv σ2 H4 fun z H5 => ∃ kvs k, y = kV k ∧ H5 D = some (.dK kvs) ∧ kvs.length < sizeLine ∧ Nx (upd H5 D (.dK (putK kvs k z))) else Nx H3) := by
  refine ⟨fun i m H => m = n - i ∧ i ≤ n ∧ Pv i H, ⟨n, by simp, Nat.zero_le _, h0⟩, ?_⟩
  rintro i m H ⟨rfl, hi, p⟩
  have q := hG i H hi p
  by_cases hlt : i < n
  · exact .inr ⟨w.goes i H hlt q, Pv (i + 1), fun H' p' => ⟨n - (i + 1), by omega, rfl, hlt, p'⟩, fun x H' y => hs i x H H' hlt p (w.yields i H x H' hlt q y)⟩
  · have e : i = n := by omega
    subst e
    exact .inl ⟨w.stops H q, hd H p⟩
theorem wipe_wipe {σ : L2.St} {vs : List Nat} : wipe (wipe σ vs) vs = wipe σ vs := by
  apply List.ext_getElem?
  intro i
  by_cases hv : i ∈ vs
  · by_cases hi : i < σ.length
    · rw [wipe_in hv (by rw [wipe_length]; exact hi), wipe_in hv hi]
    · rw [List.getElem?_eq_none (by rw [wipe_length, wipe_length]; omega), List.getElem?_eq_none (by rw [wipe_length]; omega)]
  · rw [wipe_get hv]
theorem dc_at {wi : TI} {g : TG} {tk te : TE} {vs : List Nat} {F H : Hp} {σ : L2.St} {ds : DS} (s : StR X.K F H σ ds) (hk : ∀ i, i < σ.length → keep.getD i false = true ∨ i ∈ vs)
    (qi : At X.K W (RelI X.K σ) F H σ ds (wi σ H) (mi ds)) (qg : ∀ F σ H ds d x ds1, StR X.K F H σ ds → Rep X.K F d x → f d ds = some ds1 → ∀ Q : L2.St → Hp → Prop, (∀ F' H' σ', Stp X.K F H σ ds F' H' σ' ds1 → Kp keep σ σ' → Q σ' H') → g x σ H Q)
    (qk : ∀ F σ H ds, StR X.K F H σ ds → At X.K W0 (RelD X.K) F H σ ds (tk σ H) (mk ds)) (qe : ∀ F σ H ds, StR X.K F H σ ds → At X.K W0 (RelD X.K) F H σ ds (te σ H) (me ds)) :
    At X.K W (RelS X.K σ) F H σ ds (tDc wi g tYes tk te vs σ H) (dcM vs mi f mk me ds) := by
  refine At.bind (t2 := fun (J : It) H1 Q => ∀ D, H1 D = none → ∃ W : Nat → Nat → Hp → Prop, (∃ m, W 0 m (upd H1 D (.dK []))) ∧ ∀ i m H, W i m H →
    (J.stop i H ∧ Q (.ref D) H) ∨ (J.go i H ∧ ∃ Nx : Hp → Prop, (∀ H', Nx H' → ∃ m', m' < m ∧ W (i + 1) m' H') ∧ ∀ x H', J.yld i H x H' → g x (wipe σ vs) H' fun σ2 H2 => wipe σ2 vs = wipe σ vs ∧ tYes σ2 H2 fun b H3 =>
      if b = true then tk σ2 H3 fun y H4 => te σ2 H4 fun z H5 => ∃ kvs k, y = kV k ∧ H5 D = some (.dK kvs) ∧ kvs.length < sizeLine ∧ Nx (upd H5 D (.dK (putK kvs k z))) else Nx H3)) mS qi (fun xs ds1 F1 H1 J st1 rel => ?_) fun Q h => h
  intro r ds' Q er hq A hA
  obtain ⟨n, G, Y, wk, hn, hG, hY⟩ := rel
  subst hn
  cases eg : dcGo vs f mk me xs [] ds1 with
  | none => rw [eg] at er; cases er
  | some z =>
    obtain ⟨r0, dsF⟩ := z
    rw [eg] at er
    cases r0 with
    | exc C fs => cases er
    | ok ys =>
      cases er
      have hA0 : F1 A = none := st1.st.sub.none_ hA
      have base := st1.st.laid (u := .dK []) hA
      refine dc_it wk (fun i H2 => ∃ F2 ds2 acc accv, Stp X.K F1 H1 σ ds1 F2 H2 (wipe σ vs) (wipeD ds2 vs) ∧ F2 A = none ∧ ¬ OA (wipe σ vs) (wipeD ds2 vs) A ∧ H2 A = some (.dK accv) ∧ Repk X.K F2 acc accv ∧ dcGo vs f mk me (xs.drop i) acc ds2 = some (.ok ys, dsF))
        ⟨F1, ds1, [], [], blk_in base rfl rfl, hA0, fun z => ?_, upd_same, by unfold Repk; rfl, eg⟩ (fun i H2 _ ⟨F2, ds2, acc, accv, st2, _⟩ => hG F2 H2 _ _ st2) ?_ ?_
      · obtain ⟨i, o, h1, h2⟩ := z
        obtain ⟨a1, a2⟩ := wipeD_some h1
        rw [wipe_get a2] at h2
        exact st1.st.nown hA ⟨i, o, a1, h2⟩
      · rintro i x H2 H3 hi ⟨F2, ds2, acc, accv, st2, hF2, hO2, hH2, hacc, e2⟩ y
        have hx : xs[i]? = some xs[i] := List.getElem?_eq_getElem hi
        rw [List.drop_eq_getElem_cons hi] at e2
        obtain ⟨F3, st3, r3⟩ := hY i F2 H2 _ _ x H3 _ st2 hx y
        simp only [dcGo] at e2
        cases et : f xs[i] (wipeD ds2 vs) with
        | none => rw [et] at e2; cases e2
        | some ds3 =>
          rw [et] at e2
          simp only at e2
          refine qg F3 _ H3 _ _ x ds3 st3.st r3 et _ fun F4 H4 σ4 st4 k4 => ?_
          have hw : wipe σ4 vs = wipe σ vs := by
            have := wipe_keep (σ := wipe σ vs) (σ' := σ4) (vs := vs) (keep := keep) (fun i hi => hk i (by rw [wipe_length] at hi; exact hi)) (by rw [wipe_wipe]; exact k4)
            rw [this, wipe_wipe]
          have hlen4 : σ4.length = σ.length := by rw [k4.len, wipe_length]
          refine ⟨hw, ?_⟩
          unfold tYes
          simp only [if_true]
          have st24 := (st2.trans st3).trans st4
          have keepA : ∀ {F5 H5 : Hp} {σ5 : L2.St} {ds5 : DS}, Stp X.K F2 H2 (wipe σ vs) (wipeD ds2 vs) F5 H5 σ5 ds5 → H5 A = some (.dK accv) ∧ F5 A = none ∧ ¬ OA σ5 ds5 A := fun {F5 H5 σ5 ds5} st5 => by
            refine ⟨st5.ext.fr A _ hH2 hO2, ?_, fun z => ?_⟩
            · cases zz : F5 A with
              | none => rfl
              | some u =>
                rcases st5.ext.nw A (by rw [zz]; simp) with q | q | q
                · exact absurd hF2 q
                · rw [hH2] at q; cases q
                · exact absurd q hO2
            · rcases st5.oa A z with q | q
              · exact hO2 q
              · rw [hH2] at q; cases q
          cases ett : mk ds3 with
          | none => rw [ett] at e2; cases e2
          | some z5 =>
            obtain ⟨r5, ds5⟩ := z5
            rw [ett] at e2
            refine qk F4 σ4 H4 ds3 st4.st r5 ds5 _ ett ?_
            cases r5 with
            | exc C fs => cases e2
            | ok kd =>
              intro F5 H5 kv st5 rel5
              simp only at e2
              cases ekk : keyD kd with
              | none => rw [ekk] at e2; cases e2
              | some kk =>
                rw [ekk] at e2
                simp only at e2
                have hkv : kv = kV kk := keyD_rep ekk rel5
                cases eee : me ds5 with
                | none => rw [eee] at e2; cases e2
                | some z6 =>
                  obtain ⟨r6, ds6⟩ := z6
                  rw [eee] at e2
                  refine qe F5 σ4 H5 ds5 st5.st r6 ds6 _ eee ?_
                  cases r6 with
                  | exc C fs => cases e2
                  | ok yd =>
                    intro F6 H6 yv st6 rel6
                    have st25 := st24.trans st5
                    have stX := ((st3.trans st4).trans st5).trans st6
                    obtain ⟨kA1, kA2, kA3⟩ := keepA stX
                    simp only at e2
                    have hla : accv.length = acc.length := hacc.length
                    by_cases hsz : acc.length < sizeLine
                    · rw [if_pos hsz] at e2
                      refine ⟨accv, kk, hkv, kA1, by rw [hla]; exact hsz, ?_⟩
                      have st26 := st25.trans st6
                      have hO6 : ¬ OA (wipe σ vs) (wipeD ds6 vs) A := fun z => by
                        obtain ⟨i', o, h1, h2⟩ := z
                        obtain ⟨a1, a2⟩ := wipeD_some h1
                        rw [← hw, wipe_get a2] at h2
                        exact kA3 ⟨i', o, a1, h2⟩
                      have stB := blk_in st26 hw hlen4
                      have stC : Stp X.K F1 H1 σ ds1 F6 (upd H6 A (.dK (putK accv kk yv))) (wipe σ vs) (wipeD ds6 vs) := by
                        refine ⟨⟨fun b u q => ?_, stB.st.len, fun j y' q => ?_, stB.st.apart⟩, ⟨stB.ext.ff, fun b u q nn => ?_, stB.ext.nw⟩, stB.oa⟩
                        · have hb : b ≠ A := fun z => by rw [z, kA2] at q; cases q
                          rw [upd_ne hb]; exact stB.st.sub b u q
                        · obtain ⟨v1, v2, v3⟩ := stB.st.slot j y' q
                          refine ⟨v1, v2, v3.keep fun q' o' ee ev => ?_⟩
                          subst ee; subst ev
                          exact upd_ne fun z => hO6 ⟨j, o', q, by rw [v2, z]⟩
                        · have hb : b ≠ A := fun z => by rw [z, hA] at q; cases q
                          rw [upd_ne hb]; exact stB.ext.fr b u q nn
                      exact ⟨F6, ds6, putD acc kk yd, putK accv kk yv, stC, kA2, hO6, upd_same, putD_rep rel6 (hacc.mono stX.ext.ff), e2⟩
                    · rw [if_neg hsz] at e2; cases e2
      · rintro H2 ⟨F2, ds2, acc, accv, st2, hF2, hO2, hH2, hacc, e2⟩
        rw [List.drop_length] at e2
        cases e2
        refine hq F2 H2 _ (blk_out st1.st st2) ⟨⟨A, rfl, hF2, accv, hH2, hacc⟩, fun o p e1 e3 => ?_⟩
        cases e3
        refine ⟨fun ⟨i, o', h1, h2⟩ => ?_, .inr hA⟩
        rcases restD_some h1 with ⟨q1, q2⟩ | ⟨_, d, q, _⟩
        · exact hO2 ⟨i, o', q2, by rw [wipe_get q1]; exact h2⟩
        · cases q
theorem de_dc (c : Ctx X W k) (hi : DI X W tg iter mi) (ok : BlkOk X.N X.env.scope scope own) (hg : ∀ i : BIx, DG (blkX X scope i) keep tg f) (hkx : ∀ i : BIx, DV (blkX X scope i) W0 kx mk) (he : ∀ i : BIx, DV (blkX X scope i) W0 elt me)
    (hk : ((List.range X.N.length).all fun i => keep.getD i false || (own.map (·.2)).contains i) = true := by rfl) (hs : ∀ x, foldedSetIterable iter X.env x = pure x := by intro _; rfl) :
    DE X W (.DictComp kx elt [⟨tg, iter, [], 0⟩] scope pos) (dcM (own.map (·.2)) mi f mk me) := by
  obtain ⟨wi, pi_, qi⟩ := hi
  obtain ⟨g, pg, qg⟩ := dg_all hg
  obtain ⟨tk, pk, qk⟩ := dv_all hkx
  obtain ⟨te, pe, qe⟩ := dv_all he
  have hP : PE X (.DictComp kx elt [⟨tg, iter, [], 0⟩] scope pos) (tDc wi g tYes tk te (own.map (·.2))) :=
    pe_dc c.calm c.nd pi_ ok (fun s H C cl fp => pg (s, H, C, cl, fp)) (fun s H C cl fp => pts_nil) (fun s H C cl fp => pk (s, H, C, cl, fp)) (fun s H C cl fp => pe (s, H, C, cl, fp)) hs
  refine ⟨fun σ H Q => σ.length = X.N.length → tDc wi g tYes tk te (own.map (·.2)) σ H Q, ⟨fun pins s σ H Q I hw => hP.run pins s σ H Q I (hw I.len)⟩, fun F σ H ds s r ds' Q er hq hl => ?_⟩
  exact dc_at s (keep_of hk hl) (qi F σ H ds s) qg qk qe r ds' Q er hq
end
/-! ### f-strings -/
def fmtD (d : D) : Option Str := match d with
  | .str y => if y.length ≤ sizeLine then some y else none
  | .int i => if i.natAbs.log2 < 1920 then some (toString i) else none
  | _ => none
def fmtM (m : M D) : M D := bnd m fun d => match fmtD d with
  | some y => ret (.str y)
  | none => stuck
inductive DJ (X : Cx) (W : WX) : List Expr → List (M D) → Prop where
  | nil : DJ X W [] []
  | cons {e : Expr} {m : M D} {es : List Expr} {ms : List (M D)} (h : DV X W e m) (r : DJ X W es ms) : DJ X W (e :: es) (m :: ms)
def fjGo : List (M D) → Str → M D
  | [], acc => ret (.str acc)
  | m :: r, acc => bnd m fun d => match d with
    | .str y => if (acc ++ y).length ≤ sizeLine then fjGo r (acc ++ y) else stuck
    | _ => stuck
section
variable {X : Cx} {W : WX} {e : Expr} {m : M D} {pos : Pos}
theorem dv_fmt (h : DV X W e m) : DV X W (.FormattedValue e (-1) none pos) (fmtM m) := by
  obtain ⟨t, p, q⟩ := h
  refine ⟨_, pe_fmt p, fun F σ H ds s => ?_⟩
  refine At.bind (t2 := fun x H1 Q => (∃ y : Str, x = V.str y ∧ y.length ≤ sizeLine ∧ Q (.str y) H1) ∨ ∃ i : Int, x = .int i ∧ i.natAbs.log2 < 1920 ∧ Q (.str (toString i)) H1) mD (q F σ H ds s) (fun d ds1 F1 H1 x st1 rel => ?_) fun Q h => h
  unfold fmtD
  cases d with
  | str y =>
    simp only
    by_cases hy : y.length ≤ sizeLine
    · rw [if_pos hy]
      have e2 : x = .str y := rel
      subst e2
      exact At.pure (v := .str y) st1.st (by simp [Rep]) fun Q h => .inl ⟨y, rfl, hy, h⟩
    · rw [if_neg hy]; exact At.none_
  | int i =>
    simp only
    by_cases hy : i.natAbs.log2 < 1920
    · rw [if_pos hy]
      have e2 : x = .int i := rel
      subst e2
      exact At.pure (v := .str (toString i)) st1.st (by simp [Rep]) fun Q h => .inr ⟨i, rfl, hy, h⟩
    · rw [if_neg hy]; exact At.none_
  | _ => exact At.none_
theorem dj_ts {es : List Expr} {ms : List (M D)} (h : DJ X W es ms) : ∃ ts, PJ X es ts ∧ ∀ acc F σ H ds, StR X.K F H σ ds → At X.K W (RelD X.K) F H σ ds (fun Q => tJs ts acc σ H fun out H1 => Q (.str out) H1) (fjGo ms acc ds) := by
  induction h with
  | nil => exact ⟨[], .nil, fun acc F σ H ds s => At.pure (v := .str acc) s (by simp [Rep]) fun Q h => h⟩
  | @cons e m es ms h r ih =>
    obtain ⟨ts, pj, qj⟩ := ih
    obtain ⟨t, p, q⟩ := h
    refine ⟨t :: ts, .cons p pj, fun acc F σ H ds s => ?_⟩
    refine At.bind (t2 := fun x H1 Q => ∃ y : Str, x = V.str y ∧ (acc ++ y).length ≤ sizeLine ∧ tJs ts (acc ++ y) σ H1 fun out H1 => Q (.str out) H1) mD (q F σ H ds s) (fun d ds1 F1 H1 x st1 rel => ?_) fun Q h => h
    cases d with
    | str y =>
      simp only
      by_cases hy : (acc ++ y).length ≤ sizeLine
      · rw [if_pos hy]
        have e2 : x = .str y := rel
        subst e2
        intro r ds' Q er hq
        exact ⟨y, rfl, hy, qj (acc ++ y) F1 σ H1 ds1 st1.st r ds' Q er hq⟩
      · rw [if_neg hy]; exact At.none_
    | _ => exact At.none_
theorem dv_fstr {v1 v2 : Expr} {rest : List Expr} {ms : List (M D)} (h : DJ X W (v1 :: v2 :: rest) ms) : DV X W (.JoinedStr (v1 :: v2 :: rest) pos) (fjGo ms Str.empty) := by
  obtain ⟨ts, pj, qj⟩ := dj_ts h
  exact ⟨_, pe_joined pj, fun F σ H ds s => qj Str.empty F σ H ds s⟩
end
end DL
/-! DLs: set of a list of texts, sorted. -/
namespace DL
open PySem PySem.Spec PyProof.Rows L2 PySem.Froz
/-- at a: the set of the texts l -/
def TxS (P : Program) (w : World) (h : Heap) (a : Addr) (l : List Str) : Prop := ∃ Z : SD, h.get? a = some (sObj "set" Z) ∧ TxOk P w Z l ∧ Ris Z.2.2.place.toList ∧ (w.params.followText "set-order" = true ∨ Z.2.2.led = true) ∧ l.Nodup
theorem tail_ris {ep : Nat} {es : Array (Int × Value)} {t : SetTable} {b : Bool} (r : Ris t.place.toList) : Ris (tailTx ep es t b).2.2.place.toList := by
  unfold tailTx
  by_cases c : (!b && t.tooFull) = true
  · rw [if_pos c]; exact relayAll_ris _ _ _
  · rw [if_neg c]; exact r
theorem tail_led {ep : Nat} {es : Array (Int × Value)} {t : SetTable} {b : Bool} : (tailTx ep es t b).2.2.led = t.led := by
  unfold tailTx
  by_cases c : (!b && t.tooFull) = true
  · rw [if_pos c]; exact relayAll_led _ _ _
  · rw [if_neg c]
theorem ris_add {h : Int} {v : Value} {Z : SD} (r : Ris Z.2.2.place.toList) : Ris (addTx h v Z).2.2.place.toList := by
  have r1 := layNew_ris Z.2.2 Z.1 h v r
  refine tail_ris ?_
  split <;> exact r1
theorem led_add {h : Int} {v : Value} {Z : SD} : (addTx h v Z).2.2.led = Z.2.2.led := by
  refine tail_led.trans ?_
  refine Eq.trans ?_ (layNew_led Z.2.2 Z.1 h v)
  split <;> rfl
section
variable {P : Program} {w : World} {A : Around} {E : Value → Shared → Prop} {s : Shared} {a : Addr} {l : List Str} {k : Str} {u : Tok}
theorem TxS.keep {h h' : Heap} (R : TxS P w h a l) (q : ∀ o, h.get? a = some o → h'.get? a = some o) : TxS P w h' a l := by
  obtain ⟨Z, hZ, rest⟩ := R
  exact ⟨Z, q _ hZ, rest⟩
theorem txs_add {Q : Bool → Shared → Prop} (R : TxS P w s.heap a l) (hb : l.length + 1 < scanBound)
    (hQ : ∀ (b : Bool) (h' : Heap), (∀ c o, c ≠ a → s.heap.get? c = some o → h'.get? c = some o) → TxS P w h' a (if k ∈ l then l else k :: l) → Q b { s with heap := h' }) :
    wpAny (model P w) A (setAddHashed a (.str k u) (hashStr w k)) Q E s := by
  obtain ⟨Z, hZ, F, hr, hl, nd⟩ := R
  by_cases hk : k ∈ l
  · rw [if_pos hk] at hQ
    have fin : Q false s := hQ false s.heap (fun _ _ _ e => e) ⟨Z, hZ, F, hr, hl, nd⟩
    obtain ⟨es, ep, t⟩ := Z
    have hd : (sObj "set" (es, ep, t)).data = .set es ep t := rfl
    have ft : t.fits es.size = true := F.fit
    have he : ElemsOf (strKind P w) es.toList := F.el
    have n1 : es.size = l.length := F.sz
    have n2 : es.size < scanBound := by omega
    have hky : (strKind P w).is k (.str k u) = true := is_str k u
    unfold setAddHashed setAddHashedIn
    refine wpAny_holding (wpAny_bind (wpAny_setState_of hZ hd ft ?_))
    dsimp only
    rw [byScan_of rfl n2 he, if_pos rfl]
    unfold setAddByScan
    refine wpAny_bind (wpAny_bind (wpAny_rule (wpAny_bind (wpAny_setScan_of (knd := strKind P w) (k := k) hky hZ hd ft he ?_))))
    cases hf : List.findIdx? (fun e => (strKind P w).is k e.2) es.toList with
    | none =>
      obtain ⟨e, hm, hi⟩ := (F.mem k).mp hk
      have := List.findIdx?_eq_none_iff.mp hf e hm
      rw [hi] at this; cases this
    | some j =>
      dsimp only
      exact wpAny_pure (wpAny_pure fin)
  · rw [if_neg hk] at hQ
    refine add_x hZ F hk hb (hQ true _ (fun c o hc e => (Heap.get?_update_other _ _ (Ne.symm hc)).trans e) ⟨_, ?_, add_ok u F, ris_add hr, hl.imp id fun z => led_add.trans z, List.nodup_cons.mpr ⟨hk, nd⟩⟩)
    exact Heap.get?_update_self _ hZ rfl
/-- the texts that were met, the last first -/
def metS : List Str → List Str → List Str
  | [], l => l
  | k :: r, l => metS r (if k ∈ l then l else k :: l)
theorem met_len : ∀ (r l : List Str), (metS r l).length ≤ r.length + l.length
  | [], l => by simp [metS]
  | k :: r, l => by
    unfold metS
    refine Nat.le_trans (met_len r _) ?_
    split <;> simp <;> omega
theorem met_mem : ∀ (r l : List Str) (z : Str), z ∈ metS r l ↔ z ∈ r ∨ z ∈ l
  | [], l, z => by simp [metS]
  | k :: r, l, z => by
    unfold metS
    rw [met_mem r]
    by_cases h : k ∈ l
    · rw [if_pos h, List.mem_cons]
      exact ⟨fun q => q.elim (fun q => .inl (.inr q)) .inr, fun q => q.elim (fun q => q.elim (fun e => .inr (e ▸ h)) .inl) .inr⟩
    · rw [if_neg h, List.mem_cons, List.mem_cons]
      exact ⟨fun q => q.elim (fun q => .inl (.inr q)) (fun q => q.elim (fun e => .inl (.inl e)) .inr), fun q => q.elim (fun q => q.elim (fun e => .inr (.inl e)) .inl) (fun e => .inr (.inr e))⟩
theorem met_nodup : ∀ (r l : List Str), l.Nodup → (metS r l).Nodup
  | [], l, h => h
  | k :: r, l, h => by
    unfold metS
    refine met_nodup r _ ?_
    split
    · exact h
    · rename_i q; exact List.nodup_cons.mpr ⟨q, h⟩
theorem met_take {xs : List Str} {i : Nat} {l : List Str} (h : i < xs.length) : metS (xs.take (i + 1)) l = (if xs.getD i Str.empty ∈ metS (xs.take i) l then metS (xs.take i) l else xs.getD i Str.empty :: metS (xs.take i) l) := by
  have key : ∀ (r l : List Str) (z : Str), metS (r ++ [z]) l = if z ∈ metS r l then metS r l else z :: metS r l := fun r => by
    induction r with
    | nil => intro l z; rfl
    | cons k r ih => intro l z; exact ih _ z
  rw [List.take_add_one, List.getElem?_eq_getElem h]
  have e : xs.getD i Str.empty = xs[i] := by simp [List.getD, h]
  rw [e]
  exact key _ _ _
theorem loopT {I : Addr} {fp wr : List Addr} {G : Array GenState → Array GenState → Prop} {n : Nat} {Pv : Nat → Value → Prop} {St : Nat → Shared → Prop} {R : Result → Shared → Prop}
    (W : WalksS P w A.in1 I fp wr G n Pv St) (S : Addr) (hS : S ∉ fp) (xs : List Str) (hn : n = xs.length) (hb : xs.length + 1 < scanBound) (hv : ∀ i v, Pv i v → ∃ t, v = .str (xs.getD i Str.empty) t)
    (hR : ∀ s', Moved (S :: wr) G s s' → TxS P w s'.heap S (metS xs []) → R (.ok (.ret .none)) s') :
    ∀ (m i : Nat) (s1 : Shared), n - i = m → i ≤ n → Moved (S :: wr) G s s1 → St i s1 → TxS P w s1.heap S (metS (xs.take i) []) → codeAny (model P w) A (.builtin "set.update.loop" ⟨[.ref S, .ref I], []⟩) R s1 := by
  have hw : S ∉ wr := fun h => hS (W.sub _ h)
  have up : ∀ b ∈ wr, b ∈ S :: wr := fun b q => List.mem_cons_of_mem _ q
  intro m
  induction m with
  | zero =>
    intro i s1 hm hi mv st T
    have hin : i = n := by omega
    subst hin
    refine codeAny_builtin F.entry_set_update_loop ?_
    rw [Around.under_plainId F.plain_set_update_loop _]
    show wpAny _ A.in1 (pyNext (.ref I) >>= _) _ _ s1
    refine wpAny_bind (W.done s1 _ _ st fun s' mv' => ?_)
    rw [List.take_of_length_le (by omega)] at T
    exact wpAny_pure (hR s' (Moved.trans W.gtrans mv (mv'.mono up)) (T.keep fun o e => mv'.heap S o hw e))
  | succ m ih =>
    intro i s1 hm hi mv st T
    have lt : i < n := by omega
    refine codeAny_builtin F.entry_set_update_loop ?_
    rw [Around.under_plainId F.plain_set_update_loop _]
    show wpAny _ A.in1 (pyNext (.ref I) >>= _) _ _ s1
    refine wpAny_bind (W.item i s1 _ _ lt st fun v s2 pv st2 mv' => ?_)
    obtain ⟨t, rfl⟩ := hv i v pv
    have T2 := T.keep (h' := s2.heap) fun o e => mv'.heap S o hw e
    show wpAny _ A.in1 (holding [Value.str (xs.getD i Str.empty) t] (setAdd S (.str (xs.getD i Str.empty) t)) >>= _) _ _ s2
    refine wpAny_bind (wpAny_holding ?_)
    unfold setAdd
    refine wpAny_holding (wpAny_bind ((strKind P w).pyHash (k := xs.getD i Str.empty) (is_str _ _) ?_))
    have hlen : (metS (xs.take i) []).length + 1 < scanBound := by
      have h1 := met_len (xs.take i) []
      rw [List.length_take] at h1
      simp only [List.length_nil, Nat.add_zero] at h1
      omega
    refine txs_add (s := { s2 with toks := s2.toks + 1 }) T2 hlen fun b h' keep T3 => ?_
    rw [← met_take (by omega)] at T3
    refine wpAny_pure ⟨plainId_quiet F.plain_set_update_loop _, ih (i + 1) _ (by omega) lt ?_ (W.frame _ s2 _ _ st2 (Nat.le_succ _) fun b hb' o e => ?_) T3⟩
    · exact Moved.trans W.gtrans mv ((mv'.mono up).then_heap (Nat.le_succ _) fun b o hb' e => keep b o (fun z => hb' (by rw [z]; exact List.mem_cons_self)) e)
    · exact keep b o (fun z => hS (by rw [← z]; exact hb')) e
set_option maxHeartbeats 3200000 in
/-- set(xs), xs a list of texts -/
theorem set_listT {p : Addr} {its : Array Value} {xs : List Str} {Q : Value → Shared → Prop} (hh : A.handled = none) (hl : s.heap.IsList p its) (hi : StrsAre its.toList xs) (hb : xs.length + 1 < scanBound)
    (h : ∀ (h' : Heap) (tk : Nat), TxS P w h' s.heap.objs.size (metS xs []) → (∀ b o, s.heap.get? b = some o → h'.get? b = some o) → Q (.ref s.heap.objs.size) { s with heap := h', toks := tk }) :
    wpAny (model P w) A (call (.type "set") [.ref p]) Q E s := by
  have hsz : xs.length = its.size := by rw [← StrsAre.len_eq hi, Array.length_toList]
  obtain ⟨mc, mt, hmro⟩ := F.called_set.mro
  have g1 := F.called_set.made
  have g2 := F.called_set.sub
  have g3 := F.called_set.notType
  have g4 := F.called_set.canCreate
  have g5 := F.typeCall_set_1 (.ref p)
  refine wpAny_call (codeAny_of_tree ?_)
  show wpAny _ _ (callAny (.type "set") _) _ _ _
  refine wpAny_pure ⟨Code.quiet_builtin _ (by decide +kernel), codeAny_builtin F.entry_type_call ?_⟩
  rw [Around.under_plain (weight_type_call_type "set" [.ref p] []) rfl]
  repeat (any_goals (first | assumption | wp_step))
  refine codeAny_mono (code_set_led1 (.ref p) (E := E) (Q₁ := fun x s1 => x = .ref s.heap.objs.size ∧ s1 = { s with heap := s.heap.push { cls := .type "set", dict := none, data := .set #[] 0 (.fresh 0 0 (!w.params.followText "set-order")) } }) ⟨rfl, rfl⟩) fun r s1 hr => ?_
  cases r with
  | error e => exact hr
  | ok fl =>
    cases fl with
    | ret x =>
      obtain ⟨rfl, rfl⟩ := hr
      generalize hled : (!w.params.followText "set-order") = led
      have hS : (s.heap.push { cls := .type "set", dict := none, data := .set #[] 0 (.fresh 0 0 led) }).get? s.heap.objs.size = some { cls := .type "set", dict := none, data := .set #[] 0 (.fresh 0 0 led) } := Heap.get?_push_size _ rfl
      have hT : Shared.TypeIs { s with heap := s.heap.push { cls := .type "set", dict := none, data := .set #[] 0 (.fresh 0 0 led) } } (.ref s.heap.objs.size) "set" := ⟨_, hS, rfl⟩
      have i1 := F.called_set.init.lookup
      have i2 := F.called_set.init.bind (.ref s.heap.objs.size)
      repeat (any_goals (first | assumption | wp_step))
      refine codeAny_mono (codeAny_call_builtin (R := wants (fun r s2 => r = .none ∧ ∃ h' tk, s2 = { s with heap := h', toks := tk } ∧ TxS P w h' s.heap.objs.size (metS xs []) ∧ (∀ b o, s.heap.get? b = some o → h'.get? b = some o)) E) F.called_set.init.plain F.entry_set_init (check_set_init_1 hT ?_)) fun r2 s2 hr2 => ?_
      · obtain ⟨ol, hol, hcl, nl, hdl⟩ := hl
        obtain ⟨ocls, odict, odata, oslots⟩ := ol
        simp only at hcl hdl
        subst hcl; subst hdl
        have hol2 : (s.heap.push { cls := .type "set", dict := none, data := .set #[] 0 (.fresh 0 0 led) }).get? p = some { cls := .type "list", dict := odict, data := .seq its nl, slots := oslots } := Heap.get?_push_of_some _ hol
        have k1 := F.sub_list_set
        have k2 := F.sub_list_frozenset
        have k3 : (Value.type "list" == Value.type "dict") = false := by decide
        have hl1 : (s.heap.push { cls := .type "set", dict := none, data := .set #[] 0 (.fresh 0 0 led) }).IsList p its := ⟨_, hol2, rfl, nl, rfl⟩
        unfold Builtin.«set.__init__» noKeywords Builtin.Frozenset.updateFrom
        generalize hPI : pyIter = PI
        wp_walk
        subst hPI
        refine wpAny_pyIter_list hl1 (wpAny_bind (wpAny_runValue ?_))
        have lt0 : p < s.heap.objs.size := Heap.lt_size hol
        have h3 : A.in1.in1.in1.handled = none := by simp [hh]
        have ne1 : p ≠ (s.heap.push { cls := .type "set", dict := none, data := .set #[] 0 (.fresh 0 0 led) }).objs.size := by
          rw [Heap.size_push]; exact Nat.ne_of_lt (Nat.lt_succ_of_lt lt0)
        have ne2 : s.heap.objs.size ∉ [(s.heap.push { cls := .type "set", dict := none, data := .set #[] 0 (.fresh 0 0 led) }).objs.size, p] := by
          rw [Heap.size_push]
          intro z
          rcases List.mem_cons.mp z with z | z
          · exact Nat.ne_of_lt (Nat.lt_succ_self _) z
          · exact Nat.ne_of_gt lt0 (List.mem_singleton.mp z)
        have hv : ∀ (i : Nat) (v : Value), its[i]? = some v → ∃ t, v = .str (xs.getD i Str.empty) t := fun i v q => SS.strs_at hi i v (by rw [Array.getElem?_toList]; exact q)
        refine loopT ((Walks.list h3 _ p ne1 its).toS) s.heap.objs.size ne2 xs hsz.symm hb hv ?hR (its.size - 0) 0 _ (by omega) (Nat.zero_le _) ⟨fun _ _ _ e => e, rfl, rfl, rfl, Nat.le_refl _⟩ ⟨⟨_, Heap.get?_push_size _ rfl, rfl, rfl⟩, hl1.push _⟩ ?h0
        case h0 =>
          refine ⟨(#[], 0, .fresh 0 0 led), Heap.get?_push_of_some _ hS, TxOk.nil rfl, List.Pairwise.nil, ?_, List.nodup_nil⟩
          show _ ∨ led = true
          rw [← hled]
          cases w.params.followText "set-order"
          · exact .inr rfl
          · exact .inl rfl
        case hR =>
          intro s3 mv T
          obtain ⟨h', g', d', tk', os'⟩ := s3
          have eg : g' = s.gens := mv.gens
          have ed : d' = s.drawn := mv.drawn
          have eo : os' = s.os := mv.os
          subst eg; subst ed; subst eo
          refine wpAny_pure ?_
          show wpAny _ _ (PySem.ret Value.none) _ _ _
          refine wpAny_pure ⟨rfl, h', tk', rfl, T, fun b o e => mv.heap b o (fun z => ?_) (Heap.get?_push_of_some _ (Heap.get?_push_of_some _ e))⟩
          have lb : b < s.heap.objs.size := Heap.lt_size e
          have sz1 : (s.heap.push { cls := .type "set", dict := none, data := .set #[] 0 (.fresh 0 0 led) }).objs.size = s.heap.objs.size + 1 := Heap.size_push ..
          rcases List.mem_cons.mp z with z | z
          · exact Nat.ne_of_lt lb z
          · have z2 := List.mem_singleton.mp z
            rw [sz1] at z2
            exact Nat.ne_of_lt (Nat.lt_succ_of_lt lb) z2
      · cases r2 with
        | error e => exact hr2
        | ok fl2 =>
          cases fl2 with
          | ret r =>
            obtain ⟨rfl, h', tk, rfl, T, hk⟩ := hr2
            repeat (any_goals (first | assumption | wp_step))
            exact h _ _ T hk
          | _ => exact hr2.elim
    | _ => exact hr.elim
theorem strs_vals : ∀ (vs : List Value), (∀ v ∈ vs, ∃ k t, v = Value.str k t) → ∃ ks, StrsAre vs ks
  | [], _ => ⟨[], .nil⟩
  | v :: r, h => by
    obtain ⟨k, t, rfl⟩ := h v List.mem_cons_self
    obtain ⟨ks, q⟩ := strs_vals r fun u hu => h u (List.mem_cons_of_mem _ hu)
    exact ⟨k :: ks, .cons k t q⟩
theorem isStr_self (k : Str) (t : Tok) : Value.isStrOf k (.str k t) = true := by simp [Value.isStrOf]
theorem isStr_eq {z k : Str} {t : Tok} (h : Value.isStrOf z (.str k t) = true) : z = k := by
  obtain ⟨t', e⟩ := Value.isStrOf_shape h
  cases e; rfl
theorem strs_mem : ∀ {vs : List Value} {ks : List Str}, StrsAre vs ks → ∀ z : Str, z ∈ ks ↔ ∃ v ∈ vs, Value.isStrOf z v = true
  | _, _, .nil, z => ⟨fun h => (by cases h), fun ⟨_, h, _⟩ => (by cases h)⟩
  | _, _, .cons n t r, z => by
    rw [List.mem_cons, strs_mem r]
    constructor
    · rintro (h | ⟨v, hv, e⟩)
      · subst h; exact ⟨_, List.mem_cons_self, isStr_self _ _⟩
      · exact ⟨v, List.mem_cons_of_mem _ hv, e⟩
    · rintro ⟨v, hv, e⟩
      rcases List.mem_cons.mp hv with h | hv
      · subst h; exact .inl (isStr_eq e)
      · exact .inr ⟨v, hv, e⟩
theorem perm_of_sub : ∀ {l ks : List Str}, l.Nodup → (∀ z ∈ l, z ∈ ks) → ks.length = l.length → l.Perm ks
  | [], ks, _, _, h => by
    have : ks = [] := List.eq_nil_of_length_eq_zero h
    subst this; exact List.Perm.nil
  | x :: l, ks, nd, sub, h => by
    obtain ⟨n1, n2⟩ := List.nodup_cons.mp nd
    have hx : x ∈ ks := sub x List.mem_cons_self
    refine List.Perm.trans (List.Perm.cons x (perm_of_sub n2 (fun z hz => ?_) ?_)) (List.perm_cons_erase hx).symm
    · exact (List.mem_erase_of_ne fun e => n1 (by rw [← e]; exact hz)).mpr (sub z (List.mem_cons_of_mem _ hz))
    · rw [List.length_erase_of_mem hx, h]; simp
set_option maxHeartbeats 3200000 in
/-- sorted(set), below 64 texts -/
theorem sorted_txs {Q : Value → Shared → Prop} (R : TxS P w s.heap a l) (hh : A.handled = none) (h64 : l.length < 64)
    (hQ : ∀ s' p (out : Array Value) (c : Nat) (ks : List Str), (∀ b o, s.heap.get? b = some o → s'.heap.get? b = some o) → s'.gens = s.gens → s'.os = s.os → s.heap.objs.size ≤ p →
      s'.heap.get? p = some (seqObj "list" out c) → StrsAre out.toList ks → ks.Perm l → sortedS ks = true → Q (.ref p) s') : wpAny (model P w) A (call (.builtin "sorted") [.ref a]) Q E s := by
  obtain ⟨⟨es, ep, t⟩, hZ, F, hr, hl, nd⟩ := R
  have n1 : es.size = l.length := F.sz
  refine Calls.call_function_entry kind_sorted plain_sorted entry_sorted (args_sorted1 _) ?_
  unfold Builtin.«sorted»
  refine wpAny_bind (m := checkCount "sorted" 1 1 _) (wpAny_pure ?_)
  refine wpAny_bind (collect_set (A := A.in1) hh ⟨_, hZ, rfl, rfl⟩ F.fit (show es.size < scanBound by unfold scanBound; omega) hr hl fun s1 vs k1 hz gs os pm => ?_)
  have hvl : vs.length = l.length := by rw [pm.length_eq, List.length_map, Array.length_toList]; exact n1
  have hst : ∀ v ∈ vs, ∃ k t, v = Value.str k t := fun v hv => by
    obtain ⟨e, he, q⟩ := List.mem_map.mp (pm.mem_iff.mp hv)
    obtain ⟨⟨k, q1, _⟩, _⟩ := F.el e he
    obtain ⟨t, z⟩ := Value.isStrOf_shape (x := k) (v := e.2) q1
    exact ⟨k, t, by rw [← q]; exact z⟩
  obtain ⟨ks, hS⟩ := strs_vals vs hst
  have hmem : ∀ z : Str, z ∈ ks ↔ z ∈ l := fun z => by
    rw [strs_mem hS, F.mem]
    constructor
    · rintro ⟨v, hv, e⟩
      obtain ⟨x, hx, q⟩ := List.mem_map.mp (pm.mem_iff.mp hv)
      exact ⟨x, hx, by rw [q]; exact e⟩
    · rintro ⟨x, hx, e⟩
      exact ⟨x.2, pm.mem_iff.mpr (List.mem_map.mpr ⟨x, hx, rfl⟩), e⟩
  have hlen : ks.length = l.length := by rw [← StrsAre.len_eq hS, hvl]
  have hperm : ks.Perm l := (perm_of_sub nd (fun z hz => (hmem z).mpr hz) hlen).symm
  refine wpAny_bind (wpAny_newList ?_ (by rw [hvl, sizeLine_eq]; omega))
  have hoL : (s1.heap.push (seqObj "list" vs.toArray 0)).get? s1.heap.objs.size = some (seqObj "list" vs.toArray 0) := Heap.get?_push_size _ rfl
  refine wpAny_bind (wpAny_holding (wpAny_call_entry slot_list_sort ⟨_, hoL, rfl⟩ entry_list_sort
    (list_sort_treeK strKind_oneLt hoL hS.keysOf (fun v1 v2 rest e => keyKind_strs (by rw [← e]; exact hS)) (by rw [hvl]; exact h64) fun st' hp hs => ⟨_, rfl, ?_⟩) (args_list_sort _)))
  obtain ⟨ys, c1, c2, c3⟩ := sorted_out_str hS hp hs
  obtain ⟨e', he'⟩ := sortedHeap_at (vs := vs) (out := (arrOf st').map (·.2)) hoL
  refine wpAny_pure ⟨_, rfl, hQ _ s1.heap.objs.size _ e' ys (fun b u e => ?_) gs os hz he' c1 (c2.trans hperm) c3⟩
  have q := k1 b u e
  have lt := Heap.lt_size q
  show (sortedHeap _ s1.heap.objs.size vs _).get? b = some u
  rw [sortedHeap_old (Nat.ne_of_lt lt) (by rw [size_push']; exact Nat.lt_succ_of_lt lt)]
  exact Heap.get?_push_of_some _ q
end
def TxO (P : Program) (w : World) (a : Addr) (l : List Str) : HO := .ext fun h => TxS P w h a l
/-- set(xs) -/
def rSetTx (K : PySem.W.Frag) (P : Program) (w : World) : List V → Hp → VK → Prop := fun vs H Q => ∃ (a : Addr) (xs : List Str), vs = [V.ref a] ∧ SqL K H a (xs.map V.str) ∧ xs.length < 64 ∧ ∀ p, H p = none → Q (.ref p) (upd H p (TxO P w p (metS xs [])))
/-- sorted(set) -/
def rSortTx (P : Program) (w : World) : List V → Hp → VK → Prop := fun vs H Q => ∃ (a : Addr) (l : List Str), vs = [V.ref a] ∧ H a = some (TxO P w a l) ∧ l.length < 64 ∧ ∀ ks p, ks.Perm l → sortedS ks = true → H p = none → Q (.ref p) (upd H p (.lst (ks.map V.str)))
section
variable {X : Cx} {W : WX}
theorem cr_setTx (hc : X.calm = true) : CallR X (.type "set") (rSetTx X.K X.prog X.w) := by
  intro pins s σ H vs us Q I r h
  obtain ⟨a, xs, rfl, hs, hl, q⟩ := h
  obtain ⟨its, rv, hlst, _⟩ := I.list hs
  rw [Vals.ref1 r]
  refine set_listT (P := X.prog) (w := X.w) (I.ok.hd hc) hlst.isList (by simpa using rv.strs) (by unfold scanBound; omega) fun h' tk T hk => ?_
  have hn : H s.heap.objs.size = none := I.hok.fresh (Nat.le_refl _)
  refine ⟨.ref _, _, I.laid (t' := tk) hk (Nat.le_refl _) ?_, rfl, q _ hn⟩
  obtain ⟨Z, hZ, _⟩ := id T
  exact ⟨T, ⟨_, hZ⟩, fun h1 h2 x k => TxS.keep x k⟩
theorem cr_sortTx (hc : X.calm = true) : CallR X (.builtin "sorted") (rSortTx X.prog X.w) := by
  intro pins s σ H vs us Q I r h
  obtain ⟨a, l, rfl, ha, h64, q⟩ := h
  have R : TxS X.prog X.w s.heap a l := (I.hok a _ ha).1
  rw [Vals.ref1 r]
  refine sorted_txs R (I.ok.hd hc) h64 fun s' p out c ks k g o hp hg hi hpm hs => ?_
  have hlen : (ks.map V.str).length ≤ sizeLine := by rw [List.length_map, hpm.length_eq, sizeLine_eq]; omega
  have hn : H p = none := I.hok.fresh hp
  have J : Inv X pins σ (upd H p (.lst (ks.map V.str))) { s with heap := s'.heap, gens := s'.gens, drawn := s'.drawn, toks := s'.toks } :=
    I.call (ch := []) (Un.laid k hp hn) (I.hok.laid k hp ⟨hlen, out.toList, c, vals_of_strs hi, hg⟩) (by rw [g]; exact I.bare) (fun _ z => nomatch z)
  have e : s' = { s with heap := s'.heap, gens := s'.gens, drawn := s'.drawn, toks := s'.toks } := by
    obtain ⟨_, _, _, _, _⟩ := s'
    obtain ⟨_, _, _, _, _⟩ := s
    cases o
    rfl
  rw [e]
  exact ⟨.ref p, _, J, rfl, q ks p hpm hs hn⟩
/-- the distinct ones, sorted -/
def setSortS (l : List Str) : List Str := sortS (metS l [])
def setSortM (m : M D) : M SV := bnd m fun d => match d with
  | .lst xs => match strsD xs with
    | some ss => if ss.length < 64 then ret (.own (.lst ((setSortS ss).map .str))) else stuck
    | none => stuck
  | _ => stuck
end
end DL
/-! DLt: sorted(set(..)) of texts, as a rule. -/
namespace DL
open PySem PySem.Spec PyProof.Rows L2
section
variable {X : Cx} {W : WX}
theorem de_setSort {e : Expr} {m : M D} {p1 p2 q1 q2 : Pos} (hc : X.calm = true) (hm : X.mg "sorted" = none) (hv : bootBuiltins "sorted" = some (.builtin "sorted")) (hm2 : X.mg "set" = none) (hv2 : bootBuiltins "set" = some (.type "set")) (he : DR X W e m) (hg : Gl X "sorted" := by rfl) (hg2 : Gl X "set" := by rfl)
    (e1 : starEach [.Call (.Name "set" q1) [e] [] q2] X.env = (false, eval (.Call (.Name "set" q1) [e] [] q2) X.env) :: starEach [] X.env := by rfl) (e2 : (backTo p2 (starEach [] X.env)).any (·.1) = false := by rfl)
    (e3 : starEach [e] X.env = (false, eval e X.env) :: starEach [] X.env := by rfl) (e4 : (backTo q2 (starEach [] X.env)).any (·.1) = false := by rfl) :
    DE X W (.Call (.Name "sorted" p1) [.Call (.Name "set" q1) [e] [] q2] [] p2) (setSortM m) := by
  obtain ⟨t, pe, qe⟩ := he
  have h1 := pe_callTy (p := q1) (pos := q2) (T := "set") (cr_setTx hc) hg2 hm2 hv2 (pa_cons pe pa_nil e3) (by decide) (by decide) e3 e4
  refine ⟨_, pe_callB (cr_sortTx hc) hg hm hv (pa_cons h1 pa_nil e1) (by decide) (by decide) e1 e2, fun F σ H ds s => ?_⟩
  refine At.bind (Rel1 := RelH X.K) (t2 := fun x H1 Q => rSetTx X.K X.prog X.w [x] H1 fun v H2 => rSortTx X.prog X.w [v] H2 Q) mS (qe F σ H ds s) (fun d ds1 F1 H1 x st1 rel => ?_) fun Q h => h
  cases d with
  | lst xs =>
    simp only
    cases es : strsD xs with
    | none => exact At.none_
    | some ss =>
      simp only
      by_cases hl : ss.length < 64
      · rw [if_pos hl]
        obtain ⟨a, vs, rfl, hR, hs⟩ := rel
        have hvs := strs_rep hs es
        subst hvs
        intro r ds' Q er hq
        cases er
        refine ⟨a, ss, rfl, hR, hl, fun p hp => ⟨p, metS ss [], rfl, upd_same, ?_, fun ks q hpm hsd hq2 => ?_⟩⟩
        · have := met_len ss []
          simp only [List.length_nil, Nat.add_zero] at this
          omega
        · have ek : ks = setSortS ss := sortS_uniq hpm (sortedS_pw hsd)
          subst ek
          have a1 := st1.st.laid (u := TxO X.prog X.w p (metS ss [])) hp
          have a2 := a1.st.laid (u := .lst ((setSortS ss).map V.str)) hq2
          refine hq F1 _ _ (a1.trans a2) ⟨⟨q, rfl, a1.st.sub.none_ hq2, _, upd_same, rep_strs _⟩, fun o p' e1 e2 => ?_⟩
          cases e2
          exact ⟨a1.st.nown hq2, a1.new (.inr hq2)⟩
      · rw [if_neg hl]; exact At.none_
  | _ => exact At.none_
theorem dv_gcls {x : Str} {C : Addr} {pos : Pos} (hm : X.mg x = some (.ref C)) (hg : Gl X x := by rfl) (hd : (x == ("__debug__" : Str)) = false := by decide) : DV X W (.Name x pos) (k_ (.ref C)) := dv_glob hm (v := .ref C) rfl (fun _ => by simp [Rep]) hg hd
theorem all0 {P : Addr → Prop} : ∀ C ∈ ([] : List Addr), P C := fun _ h => by cases h
theorem all1 {P : Addr → Prop} {a : Addr} {l : List Addr} (h : P a) (t : ∀ C ∈ l, P C) : ∀ C ∈ a :: l, P C := fun C hC => by
  rcases List.mem_cons.mp hC with rfl | q
  · exact h
  · exact t C q
theorem mg_names {x : Str} {c : Value} (hm : X.mg x = some c) (hg : Gl X x := by rfl) (hd : (x == ("__debug__" : Str)) = false := by decide) : Names X x c := ⟨hg, hd, .inl hm⟩
end
/-- a def that is asked for nothing -/
theorem fn_none {P : Program} {w : World} {K : PySem.W.Frag} {mg : Str → Option Value} {base : Heap} {k n : Nat} {f : Addr} {fd : FuncData} {ps : List Str} : FnOk P w K mg base (L2.CX P w) k f fd ps (spD K n fun _ => none) :=
  ⟨fun vs H Q E ⟨_, _, _, _, _, _, h, _⟩ => (by cases h), fun A outer s H args us vs Q E _ _ _ _ ⟨_, _, _, _, _, _, h, _⟩ => (by cases h)⟩
end DL
/-! DLu: comprehensions over the keys of a dict that is one's own (it stays so). -/
namespace DL
open PySem PySem.Spec PyProof.Rows L2
section
variable {K : PySem.W.Frag} {F H F' H' : Hp} {σ : L2.St} {ds ds' : DS} {i : Nat} {p : Addr} {kvs : List (Key × D)} {ws : List (Key × V)} {od : Obj}
theorem drop_not (s : StR K F H σ ds) {o : OO} (e1 : ds[i]? = some (some (.own o))) (e2 : σ[i]? = some (some (.ref p))) : ¬ OA σ (ds.set i none) p := fun ⟨j, o', h1, h2⟩ => by
  have l : i < ds.length := (List.getElem?_eq_some_iff.mp e1).1
  by_cases h : i = j
  · subst h; rw [List.getElem?_set_self l] at h1; cases h1
  · rw [List.getElem?_set_ne h] at h1
    exact h (s.apart i j o o' p e1 h1 e2 h2)
/-- a dict of one's own is locked, its slot empty meanwhile -/
theorem StR.lockO (s : StR K F H σ ds) {u : HO} (h0 : F p = none) (hn : ¬ OA σ ds p) : StR K F (upd H p u) σ ds := by
  refine ⟨fun a w e => ?_, s.len, fun j x e => ?_, s.apart⟩
  · have ha : a ≠ p := fun z => by rw [z, h0] at e; cases e
    rw [upd_ne ha]; exact s.sub a w e
  · obtain ⟨v, e1, e2⟩ := s.slot j x e
    refine ⟨v, e1, e2.keep fun q o ex ev => ?_⟩
    subst ex; subst ev
    exact upd_ne fun z => hn ⟨j, o, e, by rw [e1, z]⟩
theorem Stp.unlockO (s : StR K F H σ ds) (e1 : ds[i]? = some (some (.own (.dct kvs)))) (e2 : σ[i]? = some (some (.ref p))) (h0 : F p = none) (hp : H p = some (.dK ws)) (r : Repk K F kvs ws) {u : HO}
    (a : Stp K F (upd H p u) σ (ds.set i none) F' H' σ ds') : H' p = some u ∧ F' p = none ∧ ¬ OA σ ds' p ∧ Stp K F H σ ds F' (upd H' p (.dK ws)) σ (ds'.set i (some (.own (.dct kvs)))) := by
  have hn : ¬ OA σ (ds.set i none) p := drop_not s e1 e2
  have hd : H' p = some u := a.ext.fr p _ upd_same hn
  have hF' : F' p = none := by
    cases z : F' p with
    | none => rfl
    | some w =>
      rcases a.ext.nw p (by rw [z]; simp) with q | q | q
      · exact absurd h0 q
      · rw [upd_same] at q; cases q
      · exact absurd q hn
  have hn' : ¬ OA σ ds' p := fun z => by
    rcases a.oa p z with q | q
    · exact hn q
    · rw [upd_same] at q; cases q
  have l : i < ds.length := (List.getElem?_eq_some_iff.mp e1).1
  have l' : i < ds'.length := by
    have h1 := a.st.len
    have h2 := s.len
    omega
  have lift : ∀ q, OA σ (ds.set i none) q → OA σ ds q := fun q ⟨j, o, h1, h2⟩ => ⟨j, o, StR.set_none h1, h2⟩
  have g : ∀ (j : Nat) (x : SV), (ds'.set i (some (.own (.dct kvs))))[j]? = some (some x) → (j = i ∧ x = .own (.dct kvs)) ∨ (j ≠ i ∧ ds'[j]? = some (some x)) := fun j x e => by
    by_cases h : i = j
    · subst h; rw [List.getElem?_set_self l'] at e; cases e; exact .inl ⟨rfl, rfl⟩
    · rw [List.getElem?_set_ne h] at e; exact .inr ⟨fun z => h z.symm, e⟩
  have nn : ∀ q, (upd H p u) q = none → H q = none := fun q z => by
    by_cases hq : q = p
    · subst hq; rw [upd_same] at z; cases z
    · rw [upd_ne hq] at z; exact z
  refine ⟨hd, hF', hn', ⟨fun b w e => ?_, by rw [List.length_set]; exact a.st.len, fun j x e => ?_, fun j k o o' q h1 h2 h3 h4 => ?_⟩, ⟨a.ext.ff, fun b o q n => ?_, fun b q => ?_⟩, fun q ⟨j, o, h1, h2⟩ => ?_⟩
  · have hb : b ≠ p := fun z => by rw [z, hF'] at e; cases e
    rw [upd_ne hb]; exact a.st.sub b w e
  · rcases g j x e with ⟨rfl, rfl⟩ | ⟨h, e⟩
    · exact ⟨_, e2, p, rfl, hF', ws, upd_same, r.mono a.ext.ff⟩
    · obtain ⟨v, q1, q2⟩ := a.st.slot j x e
      refine ⟨v, q1, q2.keep fun q o ex ev => ?_⟩
      subst ex; subst ev
      exact upd_ne fun z => hn' ⟨j, o, e, by rw [q1, z]⟩
  · rcases g j _ h1 with ⟨c1, c2⟩ | ⟨n1, c1⟩ <;> rcases g k _ h2 with ⟨c3, c4⟩ | ⟨n2, c3⟩
    · exact c1.trans c3.symm
    · subst c1
      rw [e2] at h3; cases h3
      exact absurd ⟨k, o', c3, h4⟩ hn'
    · subst c3
      rw [e2] at h4; cases h4
      exact absurd ⟨j, o, c1, h3⟩ hn'
    · exact a.st.apart j k o o' q c1 c3 h3 h4
  · have hb : b ≠ p := fun z => n ⟨i, _, e1, by rw [z]; exact e2⟩
    rw [upd_ne hb]
    exact a.ext.fr b o (by rw [upd_ne hb]; exact q) fun z => n (lift b z)
  · exact (a.ext.nw b q).imp id (Or.imp (nn b) (lift b))
  · rcases g j _ h1 with ⟨c1, c2⟩ | ⟨n1, c1⟩
    · subst c1; exact .inl ⟨j, _, e1, h2⟩
    · exact (a.oa q ⟨j, o, c1, h2⟩).imp (lift q) (nn q)
end
def keyL (kvs : List (Key × D)) : M (List D) := fun ds => some (.ok (kvs.map fun kv => keyV kv.1), ds)
/-- over a dict that is one's own | over any other -/
def lcKO (i : Nat) (vs : List Nat) (f : TgF) (mt : M Bool) (me : M D) : M SV := fun ds => match ds[i]? with
  | some (some (.own (.dct kvs))) => match lcM vs (keyL kvs) f mt me (ds.set i none) with
    | some (.ok sv, ds2) => some (.ok sv, ds2.set i (some (.own (.dct kvs))))
    | _ => none
  | _ => lcM vs (kM (rd i)) f mt me ds
section
variable {X : Cx} {W : WX} {scope : Scope} {elt tg : Expr} {k : Nat} {pos np : Pos} {own : List (Str × Nat)} {keep : List Bool} {f : TgF} {mt : M Bool} {me : M D} {x : Str}
theorem keysO_wlk {F H : Hp} {σ : L2.St} {ds : DS} {a : Addr} {o : Obj} {ws : List (Key × V)} {kvs : List (Key × D)} (hn : ¬ OA σ ds a) (hH : H a = some (.frz o (.dK ws))) (r : Repk X.K F kvs ws) (s : StR X.K F H σ ds) : Wlk X.K F H σ ds (Itk a o ws) (kvs.map fun kv => keyV kv.1) := by
  refine ⟨_, _, _, walk_keys (d := a) (o := o) (kvs := ws), by simp [r.length], fun F2 H2 σ2 ds2 st => st.ext.fr a _ hH hn, fun j F2 H2 σ2 ds2 y H3 d st ex yy => ?_⟩
  obtain ⟨rfl, q, v, e1, rfl⟩ := yy
  refine ⟨F2, Stp.refl st.st, ?_⟩
  rw [List.getElem?_map] at ex
  have e2 : (ws.map (·.1))[j]? = some q := by rw [List.getElem?_map, e1]; rfl
  rw [r.keys, List.getElem?_map] at e2
  cases e3 : kvs[j]? with
  | none => rw [e3] at ex; cases ex
  | some kv =>
    rw [e3] at ex e2
    cases ex; cases e2
    exact keyV_rep _
theorem lcko_at {i : Nat} {g : TG} {tt : TT} {te : TE} {vs : List Nat} {F H : Hp} {σ : L2.St} {ds : DS} (s : StR X.K F H σ ds) (hk : ∀ i, i < σ.length → keep.getD i false = true ∨ i ∈ vs) (qd : DKs X (rd i) (tVar i))
    (qg : ∀ F σ H ds d x ds1, StR X.K F H σ ds → Rep X.K F d x → f d ds = some ds1 → ∀ Q : L2.St → Hp → Prop, (∀ F' H' σ', Stp X.K F H σ ds F' H' σ' ds1 → Kp keep σ σ' → Q σ' H') → g x σ H Q)
    (qt : ∀ F σ H ds, StR X.K F H σ ds → At X.K W0 RelB F H σ ds (tt σ H) (mt ds)) (qe : ∀ F σ H ds, StR X.K F H σ ds → At X.K W0 (RelD X.K) F H σ ds (te σ H) (me ds)) :
    At X.K W (RelS X.K σ) F H σ ds (fun Q => tLockE (tLc (iKeys (tVar i)) g tt te vs) σ H Q ∨ tLc (iKeys (tVar i)) g tt te vs σ H Q) (lcKO i vs f mt me ds) := by
  intro r ds' Q er hq
  unfold lcKO at er
  split at er
  · rename_i kvs e0
    split at er
    · rename_i sv ds2 em
      cases er
      obtain ⟨v, e1, p, rfl, h0, ws, hp, rw_⟩ := s.slot i _ e0
      have hn : ¬ OA σ (ds.set i none) p := drop_not s e0 e1
      refine .inl ⟨p, .dK ws, hp, trivial, fun od => ?_⟩
      have s1 := (s.drop i).st
      have s2 := s1.lockO (u := .frz od (.dK ws)) h0 hn
      have qi : At X.K (fun _ _ _ _ => True) (RelI X.K σ) F (upd H p (.frz od (.dK ws))) σ (ds.set i none) (iKeys (tVar i) σ (upd H p (.frz od (.dK ws)))) (keyL kvs (ds.set i none)) :=
        At.ret (Rel := RelI X.K σ) s2 (keysO_wlk hn upd_same rw_ s2) fun R h => ⟨_, e1, p, od, rfl, .inl ⟨ws, upd_same, h⟩⟩
      refine lc_at (W := fun _ _ _ _ => True) (keep := keep) s2 hk qi qg qt qe _ ds2 _ em ?_
      intro F' H' b st2 rel
      obtain ⟨hd, hF', hn', st3⟩ := Stp.unlockO s e0 e1 h0 hp rw_ st2
      refine ⟨hd, hq F' _ b st3 ⟨rel.1.keep fun q o c1 c2 => ?_, fun o q c1 c2 => ?_⟩⟩
      · have hqp : q ≠ p := fun z => by
          obtain ⟨n1, n2⟩ := rel.2 o q c1 c2
          subst z
          rcases n2 with n2 | n2
          · exact hn n2
          · rw [upd_same] at n2; cases n2
        exact upd_ne hqp
      · obtain ⟨n1, n2⟩ := rel.2 o q c1 c2
        have hqp : q ≠ p := fun z => by
          subst z
          rcases n2 with n2 | n2
          · exact hn n2
          · rw [upd_same] at n2; cases n2
        refine ⟨fun ⟨j, o', d1, d2⟩ => ?_, ?_⟩
        · by_cases hj : i = j
          · subst hj; rw [e1] at d2; cases d2; exact hqp rfl
          · rw [List.getElem?_set_ne hj] at d1
            exact n1 ⟨j, o', d1, d2⟩
        · rcases n2 with ⟨j, o', d1, d2⟩ | n2
          · exact .inl ⟨j, o', StR.set_none d1, d2⟩
          · rw [upd_ne hqp] at n2; exact .inr n2
    · cases er
  · exact lck_at s hk qd qg qt qe r ds' Q er hq
theorem rd_dks (i : Nat) {x : Str} (hN : X.N[i]? = some x) : DKs X (rd i) (tVar i) := fun F σ H ds s d ds1 em => by
  unfold rd at em
  cases e : ds[i]? with
  | none => rw [e] at em; cases em
  | some o =>
    cases o with
    | none => rw [e] at em; cases em
    | some sv =>
      rw [e] at em
      cases em
      obtain ⟨v, e1, e2⟩ := s.slot i sv e
      cases sv with
      | val d => exact ⟨F, v, StR.putv (Stp.refl s) e1 e2, e2, fun H2 Q _ h => ⟨v, e1, h⟩⟩
      | own o =>
        obtain ⟨p, rfl, h0, ho⟩ := e2
        obtain ⟨F2, l2, st2, r2⟩ := (s.drop i).freeze h0 ho (drop_not s e e1) (.inl ⟨i, o, e, e1⟩)
        have z := StR.putv st2 e1 r2
        rw [List.set_set] at z
        exact ⟨F2, _, z, r2, fun H2 Q _ h => ⟨_, e1, h⟩⟩
theorem de_lcKO (i : Nat) (c : Ctx X W k) (ok : BlkOk X.N X.env.scope scope own) (hg : ∀ i : BIx, DG (blkX X scope i) keep tg f) (he : ∀ i : BIx, DV (blkX X scope i) W0 elt me)
    (hN : X.N[i]? = some x := by rfl) (hv : Vis X.env.scope x := by first | exact Or.inl rfl | exact Or.inr (Or.inl rfl) | exact Or.inr (Or.inr rfl)) (hd : (x == ("__debug__" : Str)) = false := by decide) (hcd : (x == ("__classdict__" : Str)) = false := by decide)
    (hk : ((List.range X.N.length).all fun i => keep.getD i false || (own.map (·.2)).contains i) = true := by rfl) (hs : ∀ y, foldedSetIterable (.Name x np) X.env y = pure y := by intro _; rfl) :
    DE X W (.ListComp elt [⟨tg, .Name x np, [], 0⟩] scope pos) (lcKO i (own.map (·.2)) f (ret true) me) := by
  obtain ⟨g, pg, qg⟩ := dg_all hg
  obtain ⟨te, pe, qe⟩ := dv_all he
  have hP : PE X (.ListComp elt [⟨tg, .Name x np, [], 0⟩] scope pos) (tLc (iKeys (tVar i)) g tYes te (own.map (·.2))) :=
    pe_lc c.calm c.nd (pi_keys (pe_var hN hv hd hcd)) ok (fun s H C cl fp => pg (s, H, C, cl, fp)) (fun s H C cl fp => pts_nil) (fun s H C cl fp => pe (s, H, C, cl, fp)) hs
  have hP2 := pe_or (pe_lock hP) hP
  refine ⟨fun σ H Q => σ.length = X.N.length → (tLockE (tLc (iKeys (tVar i)) g tYes te (own.map (·.2))) σ H Q ∨ tLc (iKeys (tVar i)) g tYes te (own.map (·.2)) σ H Q), ⟨fun pins s σ H Q I hw => hP2.run pins s σ H Q I (hw I.len)⟩, fun F σ H ds s r ds' Q er hq hl => ?_⟩
  exact lcko_at s (keep_of hk hl) (rd_dks i hN) qg (fun F σ H ds s => At.ret s rfl fun Q h => h) qe r ds' Q er hq
end
end DL
/-! DLv: the law's promise, the end. -/
namespace DL
open PySem PySem.Spec PyProof.Rows L2
def spLaw (K : PySem.W.Frag) : Sp := fun vs H Q _ => ∃ (a : Addr) (ns : List Int), vs = [V.ref a] ∧ ns.length ≤ 63 ∧ SqL K H a (ns.map V.int) ∧ ∀ H', Q (.bl true) H'
theorem law_imp {K : PySem.W.Frag} {m : Mir} (hm : ∀ ns : List Int, ns.length ≤ 63 → ∃ outs, m [.val (.lst (ns.map .int))] = some (.ok (.val (.bl true)), outs)) (vs : List V) (H : Hp) (Q : VK) (E : XK) (h : spLaw K vs H Q E) : spD K 1 m vs H Q E := by
  obtain ⟨a, ns, rfl, hl, hs, q⟩ := h
  obtain ⟨outs, em⟩ := hm ns hl
  have key : ∀ F : Hp, Sub F H → LstAt K F a (ns.map V.int) → spD K 1 m [V.ref a] H Q E := fun F sb hF => by
    refine ⟨rfl, F, [.val (.lst (ns.map .int))], _, outs, ⟨sb, rfl, fun i s e => ?_, fun i j o o' p e1 => ?_⟩, em, ?_⟩
    · cases i with
      | zero =>
        cases e
        refine ⟨_, rfl, ?_⟩
        show Rep K F (.lst _) _
        unfold Rep
        exact ⟨a, _, rfl, hF, rep_ints ns⟩
      | succ i => simp at e
    · cases i with
      | zero => cases e1
      | succ i => simp at e1
    · intro F' H' v st rel
      have e2 : v = .bl true := rel.1
      rw [e2]; exact q H'
  rcases hs with (h | ⟨o, h⟩) | h
  · exact key (upd (fun _ => none) a (.lst (ns.map V.int))) (fun b u e => by
      by_cases hb : b = a
      · subst hb; rw [upd_same] at e; cases e; exact .inl h
      · rw [upd_ne hb] at e; cases e) (.inl upd_same)
  · exact key (upd (fun _ => none) a (.lst (ns.map V.int))) (fun b u e => by
      by_cases hb : b = a
      · subst hb; rw [upd_same] at e; cases e; exact .inr ⟨trivial, o, h⟩
      · rw [upd_ne hb] at e; cases e) (.inl upd_same)
  · exact key (fun _ => none) (fun b u e => by cases e) (.inr (.inr h))
theorem walk_law {l : PySem.W.OpenLaw} {k : Nat} {q : Program} {loose : List Str} {XP : (Str → Option Value) → Heap → Prop} {YP : World → Heap → Prop} {d : DefRec} {K : Params → PySem.W.Frag} (hn : l.most = some 63) (hdf : d.params.defaults = []) (hr : Room k callerA)
    (hY : ∀ (w : World) (h : Heap), YP w h → (K w.params).In h)
    (F : ∀ (w : World) (mg : Str → Option Value) (fa : Addr) (h : Heap), (K w.params).In h → h.Ns mainGlobals mg → mg d.name = some (.ref fa) →
      ∃ fd : FuncData, (∀ (s : Shared) (u : Value), BindsTo s fd ⟨[u], []⟩ [("script", u)]) ∧ ∀ base : Heap, (K w.params).In base → base.Ns mainGlobals mg → FnOk l.prog w (K w.params) mg base (L2.CX l.prog w) k fa fd ["script"] (spLaw (K w.params))) :
    PySem.W.WalkO q loose XP YP l.row.toRowW d [] (fun f vs => PySem.call f vs) :=
  L2.walk_of (n := 63) (x := "script") (CX := fun w => L2.CX l.prog w) (sp := fun w => spLaw (K w.params)) hn (by decide) hdf hr hY F (fun _ _ a ns hl _ hS => ⟨a, ns, rfl, hl, hS, fun _ => rfl⟩) fun _ _ _ _ _ z => by
    obtain ⟨_, _, _, _, _, _, _, _, _, _, _, _, z⟩ := z
    exact z.elim
theorem kit_self {K : PySem.W.Frag} {C : Addr} : PySem.W.kitOne K (.ref C) (.ref C) = some true := by
  unfold PySem.W.kitOne
  rw [if_pos (beq_self_eq_true _)]
theorem kit_VE {K : PySem.W.Frag} {C : Addr} {b : Bool} (h : PySem.W.subIn K (.ref C) (.type "ValueError") = some b) : PySem.W.kitOne K (.ref C) (.type "ValueError") = some b := by
  unfold PySem.W.kitOne
  rw [if_neg (by simp)]
  show (if PySem.W.kitMeta "ValueError" = true then PySem.W.subIn K (.ref C) (.type "ValueError") else none) = some b
  rw [if_pos (by decide +kernel)]
  exact h
theorem kit_sub {K : PySem.W.Frag} {C E : Addr} (h1 : PySem.W.isClsIn K E = true) (h2 : PySem.W.typeIn K (.ref E) = some (.type "type")) (h : PySem.W.subIn K (.ref C) (.ref E) = some true) : PySem.W.kitOne K (.ref C) (.ref E) = some true := by
  unfold PySem.W.kitOne
  split
  · rfl
  · show (if ((PySem.W.clsIn K E).isSome && PySem.W.typeIn K (.ref E) == some (.type "type")) = true then PySem.W.subIn K (.ref C) (.ref E) else none) = some true
    have h1' : (PySem.W.clsIn K E).isSome = true := h1
    rw [h1', h2]
    exact h
end DL
/-! DLw: reckoning with mirrors: what a reading ends with (wp), rule by rule, for simp. -/
namespace DL
open PySem
def wp {α : Type} (m : M α) (Q : α → DS → Prop) (ds : DS) : Prop := ∃ a ds', m ds = some (.ok a, ds') ∧ Q a ds'
section
variable {α β : Type} {Q : α → DS → Prop} {ds : DS}
theorem wp_mono {Q' : α → DS → Prop} {m : M α} (h : wp m Q ds) (hq : ∀ a ds', Q a ds' → Q' a ds') : wp m Q' ds := by
  obtain ⟨a, ds', e, q⟩ := h
  exact ⟨a, ds', e, hq a ds' q⟩
@[simp] theorem wp_ret {a : α} : wp (DL.ret a) Q ds ↔ Q a ds := by
  unfold wp DL.ret
  constructor
  · rintro ⟨a', ds', e, q⟩; cases e; exact q
  · intro h; exact ⟨a, ds, rfl, h⟩
@[simp] theorem wp_k {d : D} {Q : D → DS → Prop} : wp (k_ d) Q ds ↔ Q d ds := wp_ret
@[simp] theorem wp_bnd {m : M β} {f : β → M α} : wp (bnd m f) Q ds ↔ wp m (fun b ds1 => wp (f b) Q ds1) ds := by
  unfold wp bnd
  constructor
  · rintro ⟨a, ds', e, q⟩
    cases em : m ds with
    | none => rw [em] at e; cases e
    | some z =>
      obtain ⟨r, ds1⟩ := z
      rw [em] at e
      cases r with
      | exc C fs => cases e
      | ok b => exact ⟨b, ds1, rfl, a, ds', e, q⟩
  · rintro ⟨b, ds1, em, a, ds', e, q⟩
    exact ⟨a, ds', by rw [em]; exact e, q⟩
@[simp] theorem wp_lift {o : Option α} : wp (lift o) Q ds ↔ ∃ a, o = some a ∧ Q a ds := by
  unfold wp lift
  constructor
  · rintro ⟨a, ds', e, q⟩
    cases o with
    | none => cases e
    | some b => cases e; exact ⟨_, rfl, q⟩
  · rintro ⟨a, rfl, q⟩; exact ⟨a, ds, rfl, q⟩
@[simp] theorem wp_bin {f : D → D → Option α} {ma mb : M D} : wp (DL.bin f ma mb) Q ds ↔ wp ma (fun a ds1 => wp mb (fun b ds2 => ∃ c, f a b = some c ∧ Q c ds2) ds1) ds := by
  unfold DL.bin; simp
@[simp] theorem wp_un {f : D → Option α} {ma : M D} : wp (un f ma) Q ds ↔ wp ma (fun a ds1 => ∃ c, f a = some c ∧ Q c ds1) ds := by
  unfold un; simp
@[simp] theorem wp_apM {f : β → Option α} {m : M β} : wp (apM f m) Q ds ↔ wp m (fun a ds1 => ∃ c, f a = some c ∧ Q c ds1) ds := by
  unfold apM; simp
theorem wp_stuck : wp (stuck : M α) Q ds ↔ False := by
  unfold wp stuck; simp
@[simp] theorem wp_ifM {c : M Bool} {a b : M α} : wp (ifM c a b) Q ds ↔ wp c (fun k ds1 => if k = true then wp a Q ds1 else wp b Q ds1) ds := by
  unfold ifM
  rw [wp_bnd]
  constructor <;> intro h <;> refine wp_mono h fun k ds1 q => ?_ <;> cases k <;> simpa using q
@[simp] theorem wp_ngM {c : M Bool} {Q : Bool → DS → Prop} : wp (ngM c) Q ds ↔ wp c (fun k ds1 => Q (!k) ds1) ds := by
  unfold ngM; simp
@[simp] theorem wp_isB {m : M D} {Q : Bool → DS → Prop} : wp (isB m) Q ds ↔ wp m (fun d ds1 => ∃ k, d = .bl k ∧ Q k ds1) ds := by
  unfold isB
  rw [wp_bnd]
  constructor <;> intro h <;> refine wp_mono h fun d ds1 q => ?_
  · cases d with
    | bl k => exact ⟨k, rfl, by simpa using q⟩
    | _ => exact (wp_stuck.mp q).elim
  · obtain ⟨k, rfl, q⟩ := q
    simpa using q
@[simp] theorem wp_fz {m : M SV} {Q : D → DS → Prop} : wp (fz m) Q ds ↔ wp m (fun s ds1 => Q s.d ds1) ds := by
  unfold wp fz
  constructor
  · rintro ⟨a, ds', e, q⟩
    cases em : m ds with
    | none => rw [em] at e; cases e
    | some z =>
      obtain ⟨r, ds1⟩ := z
      rw [em] at e
      cases r with
      | exc C fs => cases e
      | ok b => cases e; exact ⟨b, _, rfl, q⟩
  · rintro ⟨b, ds1, em, q⟩
    exact ⟨b.d, ds1, by rw [em], q⟩
@[simp] theorem wp_vl {m : M D} {Q : SV → DS → Prop} : wp (vl m) Q ds ↔ wp m (fun s ds1 => Q (.val s) ds1) ds := by
  unfold wp vl
  constructor
  · rintro ⟨a, ds', e, q⟩
    cases em : m ds with
    | none => rw [em] at e; cases e
    | some z =>
      obtain ⟨r, ds1⟩ := z
      rw [em] at e
      cases r with
      | exc C fs => cases e
      | ok b => cases e; exact ⟨b, _, rfl, q⟩
  · rintro ⟨b, ds1, em, q⟩
    exact ⟨.val b, ds1, by rw [em], q⟩
theorem wp_get {f : SV → DS → α} {g : SV → DS → DS} {i : Nat} {m : M α} (h : ∀ ds, m ds = match ds[i]? with | some (some s) => some (.ok (f s ds), g s ds) | _ => none) : wp m Q ds ↔ ∃ s, ds[i]? = some (some s) ∧ Q (f s ds) (g s ds) := by
  unfold wp
  rw [h]
  constructor
  · rintro ⟨a, ds', e, q⟩
    split at e
    · rename_i s es; cases e; exact ⟨s, es, q⟩
    · cases e
  · rintro ⟨s, es, q⟩
    exact ⟨_, _, by rw [es], q⟩
@[simp] theorem wp_rd {i : Nat} {Q : D → DS → Prop} : wp (rd i) Q ds ↔ ∃ s, ds[i]? = some (some s) ∧ Q s.d (ds.set i (some (.val s.d))) := wp_get (f := fun s _ => s.d) (g := fun s ds => ds.set i (some (.val s.d))) fun ds => by unfold rd; rfl
@[simp] theorem wp_mv {i : Nat} {Q : SV → DS → Prop} : wp (mv i) Q ds ↔ ∃ s, ds[i]? = some (some s) ∧ Q s (ds.set i none) := wp_get (f := fun s _ => s) (g := fun _ ds => ds.set i none) fun ds => by unfold mv; rfl
@[simp] theorem wp_pk {i : Nat} {Q : D → DS → Prop} : wp (pk i) Q ds ↔ ∃ s, ds[i]? = some (some s) ∧ Q s.d ds := wp_get (f := fun s _ => s.d) (g := fun _ ds => ds) fun ds => by unfold pk; rfl
theorem wp_ixN {i : Nat} {mb : M D} {Q : D → DS → Prop} (h : wp mb (fun b ds1 => ∃ s, ds1[i]? = some (some s) ∧ ∃ c, ixO s.d b = some c ∧ Q c ds1) ds) (h0 : ∃ s, ds[i]? = some (some s)) : wp (ixN_ i mb) Q ds := by
  obtain ⟨s0, e0⟩ := h0
  obtain ⟨b, ds1, em, s, es, c, ec, q⟩ := h
  refine ⟨c, ds1, ?_, q⟩
  unfold ixN_ bnd
  rw [e0]
  simp only [em, es, lift, ec]
@[simp] theorem wp_ixNk {i : Nat} {d : D} {Q : D → DS → Prop} : wp (ixN_ i (k_ d)) Q ds ↔ ∃ s, ds[i]? = some (some s) ∧ ∃ c, ixO s.d d = some c ∧ Q c ds := by
  constructor
  · rintro ⟨c, ds', e, q⟩
    unfold ixN_ at e
    split at e
    · rename_i s es
      simp only [bnd, k_, DL.ret, es, lift] at e
      cases ec : ixO s.d d with
      | none => rw [ec] at e; cases e
      | some c' => rw [ec] at e; cases e; exact ⟨s, es, _, ec, q⟩
    · cases e
  · rintro ⟨s, es, c, ec, q⟩
    exact wp_ixN (by simp; exact ⟨s, es, c, ec, q⟩) ⟨s, es⟩
@[simp] theorem wp_nilA {Q : List D → DS → Prop} : wp nilA Q ds ↔ Q [] ds := wp_ret
@[simp] theorem wp_consA {m : M D} {r : M (List D)} {Q : List D → DS → Prop} : wp (consA m r) Q ds ↔ wp m (fun d ds1 => wp r (fun l ds2 => Q (d :: l) ds2) ds1) ds := by
  unfold consA; simp
@[simp] theorem wp_consS {m : M SV} {r : M (List SV)} {Q : List SV → DS → Prop} : wp (consS m r) Q ds ↔ wp m (fun d ds1 => wp r (fun l ds2 => Q (d :: l) ds2) ds1) ds := by
  unfold consS; simp
@[simp] theorem wp_gNil {Q : List AG → DS → Prop} : wp gNilA Q ds ↔ Q [] ds := wp_ret
@[simp] theorem wp_gEv {m : M D} {r : M (List AG)} {Q : List AG → DS → Prop} : wp (gEv m r) Q ds ↔ wp m (fun d ds1 => wp r (fun l ds2 => Q (.inl d :: l) ds2) ds1) ds := by
  unfold gEv; simp
@[simp] theorem wp_gBy {i : Nat} {r : M (List AG)} {Q : List AG → DS → Prop} : wp (gBy i r) Q ds ↔ (∃ s, ds[i]? = some (some s)) ∧ wp r (fun l ds2 => Q (.inr i :: l) ds2) ds := by
  constructor
  · rintro ⟨a, ds', e, q⟩
    unfold gBy at e
    split at e
    · rename_i s es
      refine ⟨⟨s, es⟩, ?_⟩
      have : wp (bnd r fun l => DL.ret (.inr i :: l)) Q ds := ⟨a, ds', e, q⟩
      simpa using this
    · cases e
  · rintro ⟨⟨s, es⟩, h⟩
    have : wp (bnd r fun l => DL.ret (.inr i :: l)) Q ds := by simpa using h
    obtain ⟨a, ds', e, q⟩ := this
    exact ⟨a, ds', by unfold gBy; rw [es]; exact e, q⟩
@[simp] theorem wp_lstM {m : M (List D)} {Q : SV → DS → Prop} : wp (lstM m) Q ds ↔ wp m (fun l ds1 => l.length ≤ sizeLine ∧ Q (.own (.lst l)) ds1) ds := by
  unfold lstM
  rw [wp_bnd]
  constructor <;> intro h <;> refine wp_mono h fun l ds1 q => ?_
  · simp only [wp_lift] at q
    obtain ⟨a, e, q⟩ := q
    split at e
    · cases e; exact ⟨by assumption, q⟩
    · cases e
  · simp only [wp_lift]; exact ⟨_, if_pos q.1, q.2⟩
@[simp] theorem wp_tupM {m : M (List D)} {Q : D → DS → Prop} : wp (tupM m) Q ds ↔ wp m (fun l ds1 => l.length ≤ sizeLine ∧ Q (.tup l) ds1) ds := by
  unfold tupM
  rw [wp_bnd]
  constructor <;> intro h <;> refine wp_mono h fun l ds1 q => ?_
  · simp only [wp_lift] at q
    obtain ⟨a, e, q⟩ := q
    split at e
    · cases e; exact ⟨by assumption, q⟩
    · cases e
  · simp only [wp_lift]; exact ⟨_, if_pos q.1, q.2⟩
@[simp] theorem wp_someP {m : M D} {Q : Option Int → DS → Prop} : wp (someP m) Q ds ↔ wp m (fun d ds1 => ∃ i, d = .int i ∧ Q (some i) ds1) ds := by
  unfold someP
  rw [wp_bnd]
  constructor <;> intro h <;> refine wp_mono h fun d ds1 q => ?_
  · cases d with
    | int k => exact ⟨k, rfl, by simpa using q⟩
    | _ => exact (wp_stuck.mp q).elim
  · obtain ⟨k, rfl, q⟩ := q
    simpa using q
@[simp] theorem wp_slM {ma : M D} {ml mh : M (Option Int)} {Q : SV → DS → Prop} : wp (slM ma ml mh) Q ds ↔ wp ma (fun a ds1 => wp ml (fun lo ds2 => wp mh (fun hi ds3 => ∃ s, slO a lo hi = some s ∧ Q s ds3) ds2) ds1) ds := by
  unfold slM; simp
theorem wp_slN {i : Nat} {ml mh : M (Option Int)} {Q : SV → DS → Prop} (h0 : ∃ s, ds[i]? = some (some s)) (h : wp ml (fun lo ds2 => wp mh (fun hi ds3 => ∃ s, ds3[i]? = some (some s) ∧ ∃ t, slO s.d lo hi = some t ∧ Q t ds3) ds2) ds) : wp (slN i ml mh) Q ds := by
  obtain ⟨s0, e0⟩ := h0
  obtain ⟨lo, ds1, e1, hi, ds2, e2, s, es, t, et, q⟩ := h
  refine ⟨t, ds2, ?_, q⟩
  unfold slN bnd
  rw [e0]
  simp only [e1, e2, es, lift, et]
@[simp] theorem wp_strM {f : Str → D → Option α} {mo me : M D} : wp (strM f mo me) Q ds ↔ wp mo (fun d ds1 => ∃ x, d = .str x ∧ wp me (fun b ds2 => ∃ c, f x b = some c ∧ Q c ds2) ds1) ds := by
  unfold strM
  rw [wp_bnd]
  constructor <;> intro h <;> refine wp_mono h fun d ds1 q => ?_
  · cases d with
    | str k => exact ⟨k, rfl, by simpa using q⟩
    | _ => exact (wp_stuck.mp q).elim
  · obtain ⟨k, rfl, q⟩ := q
    simpa using q
@[simp] theorem wp_chain {f g : D → D → Option D} {ma mb mc : M D} {Q : D → DS → Prop} : wp (chain f g ma mb mc) Q ds ↔ wp ma (fun a ds1 => wp mb (fun b ds2 => ∃ k, f a b = some (.bl k) ∧ if k = true then wp mc (fun c ds3 => ∃ e, g b c = some e ∧ Q e ds3) ds2 else Q (.bl false) ds2) ds1) ds := by
  unfold chain
  rw [wp_bnd]
  constructor <;> intro h <;> refine wp_mono h fun a ds1 q => ?_
  · rw [wp_bnd] at q
    refine wp_mono q fun b ds2 q => ?_
    rw [wp_bnd, wp_lift] at q
    obtain ⟨d, e, q⟩ := q
    cases d with
    | bl k => exact ⟨k, e, by cases k <;> simpa using q⟩
    | _ => exact (wp_stuck.mp q).elim
  · rw [wp_bnd]
    refine wp_mono q fun b ds2 q => ?_
    obtain ⟨k, e, q⟩ := q
    rw [wp_bnd, wp_lift]
    exact ⟨_, e, by cases k <;> simpa using q⟩
/-- a call, by what the callee answers -/
theorem wp_call {n : Nat} {m : Mir} {args : M (List AG)} {Q : SV → DS → Prop} (h : wp args (fun l ds1 => ∃ svs, rslv ds1 l = some svs ∧ (refsG l).Nodup ∧ l.length = n ∧ ∃ s outs, m svs = some (.ok s, outs) ∧ Q s (wback l outs ds1)) ds) : wp (callM n m args) Q ds := by
  unfold callM
  rw [wp_bnd]
  refine wp_mono h fun l ds1 ⟨svs, e1, nd, hl, s, outs, em, q⟩ => ⟨s, _, ?_, q⟩
  unfold appM
  rw [e1]
  simp only [nd, hl, and_self, if_true, em]
end
/-! ### statements -/
/-- a block ends by falling through (N), or by a return (R) -/
def ws (m : MS) (N : DS → Prop) (R : SV → DS → Prop) (ds : DS) : Prop := ∃ o ds', m ds = some (.ok o, ds') ∧ match o with
  | .nx => N ds'
  | .rt s => R s ds'
  | _ => False
section
variable {N : DS → Prop} {R : SV → DS → Prop} {ds : DS}
theorem ws_mono {m : MS} {N' : DS → Prop} {R' : SV → DS → Prop} (h : ws m N R ds) (hn : ∀ ds, N ds → N' ds) (hr : ∀ s ds, R s ds → R' s ds) : ws m N' R' ds := by
  obtain ⟨o, ds', e, q⟩ := h
  refine ⟨o, ds', e, ?_⟩
  cases o with
  | nx => exact hn _ q
  | rt s => exact hr _ _ q
  | bk => exact q
  | ct => exact q
@[simp] theorem ws_nx : ws (DL.ret .nx) N R ds ↔ N ds := by
  unfold ws DL.ret
  constructor
  · rintro ⟨o, ds', e, q⟩; cases e; exact q
  · intro h; exact ⟨_, _, rfl, h⟩
@[simp] theorem ws_seq {a b : MS} : ws (seqM a b) N R ds ↔ ws a (fun ds1 => ws b N R ds1) R ds := by
  unfold ws seqM
  constructor
  · rintro ⟨o, ds', e, q⟩
    split at e
    · rename_i ds1 e1
      exact ⟨.nx, ds1, e1, o, ds', e, q⟩
    · rename_i hx
      cases o with
      | nx => exact absurd e (hx _)
      | rt s => exact ⟨_, _, e, q⟩
      | bk => exact q.elim
      | ct => exact q.elim
  · rintro ⟨o, ds', e, q⟩
    cases o with
    | nx =>
      obtain ⟨o2, ds2, e2, q2⟩ := q
      exact ⟨o2, ds2, by rw [e]; exact e2, q2⟩
    | rt s => exact ⟨.rt s, ds', by rw [e], q⟩
    | bk => exact q.elim
    | ct => exact q.elim
@[simp] theorem ws_bnd {β : Type} {m : M β} {f : β → MS} : ws (bnd m f) N R ds ↔ wp m (fun b ds1 => ws (f b) N R ds1) ds := by
  unfold ws wp bnd
  constructor
  · rintro ⟨o, ds', e, q⟩
    cases em : m ds with
    | none => rw [em] at e; cases e
    | some z =>
      obtain ⟨r, ds1⟩ := z
      rw [em] at e
      cases r with
      | exc C fs => cases e
      | ok b => exact ⟨b, ds1, rfl, o, ds', e, q⟩
  · rintro ⟨b, ds1, em, o, ds', e, q⟩
    exact ⟨o, ds', by rw [em]; exact e, q⟩
@[simp] theorem ws_if {c : M Bool} {a b : MS} : ws (ifM c a b) N R ds ↔ wp c (fun k ds1 => if k = true then ws a N R ds1 else ws b N R ds1) ds := by
  unfold ifM
  rw [ws_bnd]
  constructor <;> intro h <;> refine wp_mono h fun k ds1 q => ?_ <;> cases k <;> simpa using q
theorem ws_some {f : DS → DS} : ws (fun ds => some (.ok .nx, f ds)) N R ds ↔ N (f ds) := by
  unfold ws
  constructor
  · rintro ⟨o, ds', e, q⟩; cases e; exact q
  · intro h; exact ⟨_, _, rfl, h⟩
@[simp] theorem ws_set {i : Nat} {m : M SV} : ws (setM i m) N R ds ↔ wp m (fun s ds1 => N (ds1.set i (some s))) ds := by
  unfold setM
  rw [ws_bnd]
  constructor <;> intro h <;> refine wp_mono h fun k ds1 q => ?_
  · exact ws_some.mp q
  · exact ws_some.mpr q
@[simp] theorem ws_drop {α : Type} {m : M α} : ws (dropM m) N R ds ↔ wp m (fun _ ds1 => N ds1) ds := by
  unfold dropM; simp
@[simp] theorem ws_ret {m : M SV} : ws (retM m) N R ds ↔ wp m (fun s ds1 => R s ds1) ds := by
  unfold retM
  rw [ws_bnd]
  constructor <;> intro h <;> refine wp_mono h fun k ds1 q => ?_
  · obtain ⟨o, ds', e, q⟩ := q
    cases e; exact q
  · exact ⟨_, _, rfl, q⟩
@[simp] theorem ws_asg {m : M D} {f : TgF} : ws (asgM m f) N R ds ↔ wp m (fun d ds1 => ∃ ds2, f d ds1 = some ds2 ∧ N ds2) ds := by
  unfold asgM
  rw [ws_bnd]
  constructor <;> intro h <;> refine wp_mono h fun d ds1 q => ?_
  · obtain ⟨o, ds', e, q⟩ := q
    cases ef : f d ds1 with
    | none => simp only [ef] at e; cases e
    | some ds2 => simp only [ef] at e; cases e; exact ⟨_, rfl, q⟩
  · obtain ⟨ds2, ef, q⟩ := q
    exact ⟨.nx, ds2, by simp only [ef], q⟩
@[simp] theorem ws_par {i j : Nat} {m : M (List SV)} : ws (parM i j m) N R ds ↔ wp m (fun l ds1 => ∃ a b, l = [a, b] ∧ N ((ds1.set i (some a)).set j (some b))) ds := by
  unfold parM
  rw [ws_bnd]
  constructor <;> intro h <;> refine wp_mono h fun l ds1 q => ?_
  · obtain ⟨o, ds', e, q⟩ := q
    split at e
    · cases e; exact ⟨_, _, rfl, q⟩
    · cases e
  · obtain ⟨a, b, rfl, q⟩ := q
    exact ⟨.nx, _, rfl, q⟩
theorem ws_cut {a b : MS} (Mid : DS → Prop) (h1 : ws a Mid R ds) (h2 : ∀ ds, Mid ds → ws b N R ds) : ws (seqM a b) N R ds := ws_seq.mpr (ws_mono h1 h2 fun _ _ q => q)
theorem ws_ite {c : M Bool} {a b : MS} {k : Bool} {ds1 : DS} (hc : c ds = some (.ok k, ds1)) (h : if k = true then ws a N R ds1 else ws b N R ds1) : ws (ifM c a b) N R ds := ws_if.mpr ⟨k, ds1, hc, h⟩
/-- a def, by its body -/
theorem mir_of {n nl : Nat} {keep : List Bool} {body : MS} {as : List SV} {S : SV → List (Option SV) → Prop} (hl : as.length = n) (h : ws body (fun ds => S (.val .non) (maskK keep ds)) (fun s ds => S s (maskK keep ds)) (as.map some ++ List.replicate (nl - n) none)) :
    ∃ s outs, mirOf n nl keep body as = some (.ok s, outs) ∧ S s outs := by
  obtain ⟨o, ds', e, q⟩ := h
  unfold mirOf
  rw [if_pos hl, e]
  cases o with
  | nx => exact ⟨_, _, rfl, q⟩
  | rt s => exact ⟨_, _, rfl, q⟩
  | bk => exact q.elim
  | ct => exact q.elim
/-- for, by what holds behind each turn -/
theorem ws_for {tg : TgF} {body : MS} (I : List D → DS → Prop) (hs : ∀ d r ds, I (d :: r) ds → ∃ ds1, tg d ds = some ds1 ∧ ws body (fun ds2 => I r ds2) R ds1) (he : ∀ ds, I [] ds → N ds) : ∀ (l : List D) (ds : DS), I l ds → ws (forM tg body l) N R ds
  | [], ds, h => by unfold forM; simpa using he ds h
  | d :: r, ds, h => by
    obtain ⟨ds1, e1, o, ds2, e2, q⟩ := hs d r ds h
    cases o with
    | nx =>
      obtain ⟨o', ds', e3, q3⟩ := ws_for I hs he r ds2 q
      refine ⟨o', ds', ?_, q3⟩
      unfold forM
      simp only [e1, e2, e3]
    | rt s =>
      refine ⟨.rt s, ds2, ?_, q⟩
      unfold forM
      simp only [e1, e2]
    | bk => exact q.elim
    | ct => exact q.elim
@[simp] theorem ws_forI {m : M (List D)} {tg : TgF} {body : MS} : ws (forI m tg body) N R ds ↔ wp m (fun l ds1 => ws (forM tg body l) N R ds1) ds := by
  unfold forI; simp
/-- while, by a measure -/
theorem ws_while {c : M Bool} {b : MS} (I : Nat → DS → Prop) (hs : ∀ n ds, I n ds → wp c (fun k ds1 => if k = true then ws b (fun ds2 => ∃ n', n' < n ∧ I n' ds2) R ds1 else N ds1) ds) (n : Nat) (h : I n ds) : ws (whileM c b) N R ds := by
  have key : ∀ (n : Nat) (ds : DS), I n ds → ∃ k o ds', whileN k c b ds = some (.ok o, ds') ∧ match o with
      | .nx => N ds'
      | .rt s => R s ds'
      | _ => False := fun n => by
    induction n using Nat.strongRecOn with
    | ind n ih =>
      intro ds h
      obtain ⟨k, ds1, e1, q⟩ := hs n ds h
      cases k with
      | false =>
        simp only [Bool.false_eq_true, if_false] at q
        exact ⟨1, .nx, ds1, by unfold whileN bnd; rw [e1]; rfl, q⟩
      | true =>
        simp only [if_true] at q
        obtain ⟨o, ds2, e2, q⟩ := q
        cases o with
        | nx =>
          obtain ⟨n', hn, q⟩ := q
          obtain ⟨k, o', ds3, e3, q3⟩ := ih n' hn ds2 q
          exact ⟨k + 1, o', ds3, by unfold whileN bnd; rw [e1]; simp only [if_true, e2]; exact e3, q3⟩
        | rt s => exact ⟨1, .rt s, ds2, by unfold whileN bnd; rw [e1]; simp only [if_true, e2], q⟩
        | bk => exact q.elim
        | ct => exact q.elim
  obtain ⟨k, o, ds', e, q⟩ := key n ds h
  exact ⟨o, ds', whileM_eq e, q⟩
end
section
variable {ds : DS}
theorem wp_mut {i : Nat} {f : List D → List D → Option (List D × D)} {ma : M (List D)} {Q : SV → DS → Prop} (h0 : ∃ l, ds[i]? = some (some (.own (.lst l)))) (h : wp ma (fun as ds1 => ∃ xs, ds1[i]? = some (some (.own (.lst xs))) ∧ ∃ ys d, f xs as = some (ys, d) ∧ Q (.val d) (ds1.set i (some (.own (.lst ys))))) ds) : wp (mutM i f ma) Q ds := by
  obtain ⟨l, e0⟩ := h0
  obtain ⟨as, ds1, e1, xs, e2, ys, d, e3, q⟩ := h
  refine ⟨_, _, ?_, q⟩
  unfold mutM bnd
  rw [e0]
  simp only [e1, e2, e3]
/-- a comprehension, by what holds behind each turn -/
theorem wp_lcGo {vs : List Nat} {tg : TgF} {e : M D} {Q : List D → DS → Prop} (I : List D → List D → DS → Prop) (hs : ∀ d r acc ds, I (d :: r) acc ds → ∃ ds1, tg d (wipeD ds vs) = some ds1 ∧ wp e (fun y ds3 => acc.length < sizeLine ∧ I r (acc ++ [y]) ds3) ds1) (he : ∀ acc ds, I [] acc ds → Q acc ds) :
    ∀ (l acc : List D) (ds : DS), I l acc ds → wp (lcGo vs tg (DL.ret true) e l acc) Q ds
  | [], acc, ds, h => by unfold lcGo; simpa using he acc ds h
  | d :: r, acc, ds, h => by
    obtain ⟨ds1, e1, y, ds3, e2, hl, q⟩ := hs d r acc ds h
    obtain ⟨a, ds', e3, q3⟩ := wp_lcGo I hs he r _ ds3 q
    refine ⟨a, ds', ?_, q3⟩
    simp only [lcGo, e1, DL.ret, e2, if_pos hl, e3]
theorem wp_lc {vs : List Nat} {mi : M (List D)} {tg : TgF} {e : M D} {Q : SV → DS → Prop} (I : DS → List D → List D → DS → Prop) (h : wp mi (fun xs ds1 => I ds1 xs [] ds1) ds) (hs : ∀ ds0 d r acc ds, I ds0 (d :: r) acc ds → ∃ ds1, tg d (wipeD ds vs) = some ds1 ∧ wp e (fun y ds3 => acc.length < sizeLine ∧ I ds0 r (acc ++ [y]) ds3) ds1)
    (he : ∀ ds0 acc ds, I ds0 [] acc ds → Q (.own (.lst acc)) (restD ds0 (wipeD ds vs) vs)) : wp (lcM vs mi tg (DL.ret true) e) Q ds := by
  unfold lcM
  rw [wp_bnd]
  refine wp_mono h fun xs ds1 q => ?_
  obtain ⟨acc, ds2, e2, q2⟩ := wp_lcGo (Q := fun acc ds => Q (.own (.lst acc)) (restD ds1 (wipeD ds vs) vs)) (I ds1) (hs ds1) (he ds1) xs [] ds1 q
  exact ⟨_, _, by simp only [e2], q2⟩
@[simp] theorem wp_itM {m : M D} {Q : List D → DS → Prop} : wp (itM m) Q ds ↔ wp m (fun d ds1 => ∃ l, seqOf d = some l ∧ Q l ds1) ds := by
  unfold itM; simp
theorem wp_while {c : M Bool} {b : MS} {N : DS → Prop} {R : SV → DS → Prop} (I : Nat → DS → Prop) (n : Nat) (h : I n ds) (hs : ∀ n ds, I n ds → wp c (fun k ds1 => if k = true then ws b (fun ds2 => ∃ n', n' < n ∧ I n' ds2) R ds1 else N ds1) ds) : ws (whileM c b) N R ds := ws_while I hs n h
@[simp] theorem wp_andV {ma mb : M D} {Q : D → DS → Prop} : wp (andV ma mb) Q ds ↔ wp ma (fun d ds1 => ∃ k, d = .bl k ∧ if k = true then wp mb Q ds1 else Q (.bl false) ds1) ds := by
  unfold andV
  rw [wp_bnd]
  constructor <;> intro h <;> refine wp_mono h fun d ds1 q => ?_
  · cases d with
    | bl k => exact ⟨k, rfl, by cases k <;> simpa using q⟩
    | _ => exact (wp_stuck.mp q).elim
  · obtain ⟨k, rfl, q⟩ := q
    cases k <;> simpa using q
@[simp] theorem wp_orV {ma mb : M D} {Q : D → DS → Prop} : wp (orV ma mb) Q ds ↔ wp ma (fun d ds1 => ∃ k, d = .bl k ∧ if k = true then Q (.bl true) ds1 else wp mb Q ds1) ds := by
  unfold orV
  rw [wp_bnd]
  constructor <;> intro h <;> refine wp_mono h fun d ds1 q => ?_
  · cases d with
    | bl k => exact ⟨k, rfl, by cases k <;> simpa using q⟩
    | _ => exact (wp_stuck.mp q).elim
  · obtain ⟨k, rfl, q⟩ := q
    cases k <;> simpa using q
@[simp] theorem wp_notV {ma : M D} {Q : D → DS → Prop} : wp (notV ma) Q ds ↔ wp ma (fun d ds1 => ∃ k, d = .bl k ∧ Q (.bl (!k)) ds1) ds := by
  unfold notV
  rw [wp_bnd]
  constructor <;> intro h <;> refine wp_mono h fun d ds1 q => ?_
  · cases d with
    | bl k => exact ⟨k, rfl, by simpa using q⟩
    | _ => exact (wp_stuck.mp q).elim
  · obtain ⟨k, rfl, q⟩ := q
    simpa using q
/-- a call of one argument -/
theorem wp_call1 {m : Mir} {marg : M D} {Q : SV → DS → Prop} (h : wp marg (fun a ds1 => ∃ s o, m [.val a] = some (.ok s, [o]) ∧ Q s ds1) ds) : wp (callM 1 m (gEv marg gNilA)) Q ds := by
  refine wp_call ?_
  rw [wp_gEv]
  refine wp_mono h fun a ds1 ⟨s, o, e, q⟩ => ?_
  rw [wp_gNil]
  exact ⟨[.val a], by simp [rslv], by simp [refsG], rfl, _, _, e, by simpa [wback] using q⟩
end
end DL
/-! DLwx: reckoning with mirrors that may raise. -/
namespace DL
open PySem
/-- a block ends by falling through (N), by a return (R), by an exception (X) -/
def wx (m : MS) (N : DS → Prop) (R : SV → DS → Prop) (X : Addr → List (Str × D) → DS → Prop) (ds : DS) : Prop := ∃ r ds', m ds = some (r, ds') ∧ match r with
  | .ok .nx => N ds'
  | .ok (.rt s) => R s ds'
  | .ok _ => False
  | .exc C fs => X C fs ds'
section
variable {N : DS → Prop} {R : SV → DS → Prop} {X : Addr → List (Str × D) → DS → Prop} {ds : DS}
theorem wx_of {m : MS} (h : ws m N R ds) : wx m N R X ds := by
  obtain ⟨o, ds', e, q⟩ := h
  refine ⟨.ok o, ds', e, ?_⟩
  cases o <;> exact q
theorem wx_cut {a b : MS} (Mid : DS → Prop) (h1 : wx a Mid R X ds) (h2 : ∀ ds, Mid ds → wx b N R X ds) : wx (seqM a b) N R X ds := by
  obtain ⟨r, ds', e, q⟩ := h1
  cases r with
  | exc C fs => exact ⟨.exc C fs, ds', by unfold seqM; rw [e], q⟩
  | ok o =>
    cases o with
    | nx =>
      obtain ⟨r2, ds2, e2, q2⟩ := h2 ds' q
      exact ⟨r2, ds2, by unfold seqM; rw [e]; exact e2, q2⟩
    | rt s => exact ⟨.ok (.rt s), ds', by unfold seqM; rw [e], q⟩
    | bk => exact q.elim
    | ct => exact q.elim
theorem wx_if {c : M Bool} {a b : MS} (h : wp c (fun k ds1 => if k = true then wx a N R X ds1 else wx b N R X ds1) ds) : wx (ifM c a b) N R X ds := by
  obtain ⟨k, ds1, e, r, ds2, e2, q⟩ : ∃ k ds1, c ds = some (.ok k, ds1) ∧ ∃ r ds2, (if k = true then a else b) ds1 = some (r, ds2) ∧ match r with
      | .ok .nx => N ds2
      | .ok (.rt s) => R s ds2
      | .ok _ => False
      | .exc C fs => X C fs ds2 := by
    obtain ⟨k, ds1, e, q⟩ := h
    cases k with
    | true => exact ⟨true, ds1, e, q⟩
    | false => exact ⟨false, ds1, e, q⟩
  exact ⟨r, ds2, by unfold ifM bnd; rw [e]; exact e2, q⟩
theorem wx_raise {C : Addr} {f : Str} {m : M (List D)} (h : wp m (fun l ds1 => ∃ d, l = [d] ∧ X C [(f, d)] ds1) ds) : wx (raiseM C f m) N R X ds := by
  obtain ⟨l, ds1, e, d, rfl, q⟩ := h
  exact ⟨.exc C [(f, d)], ds1, by unfold raiseM bnd; simp only [e], q⟩
theorem wx_for {tg : TgF} {body : MS} (I : List D → DS → Prop) (hs : ∀ d r ds, I (d :: r) ds → ∃ ds1, tg d ds = some ds1 ∧ wx body (fun ds2 => I r ds2) R X ds1) (he : ∀ ds, I [] ds → N ds) : ∀ (l : List D) (ds : DS), I l ds → wx (forM tg body l) N R X ds
  | [], ds, h => ⟨.ok .nx, ds, by unfold forM; rfl, he ds h⟩
  | d :: r, ds, h => by
    obtain ⟨ds1, e1, o, ds2, e2, q⟩ := hs d r ds h
    cases o with
    | exc C fs => exact ⟨.exc C fs, ds2, by unfold forM; simp only [e1, e2], q⟩
    | ok o =>
      cases o with
      | nx =>
        obtain ⟨o', ds', e3, q3⟩ := wx_for I hs he r ds2 q
        exact ⟨o', ds', by unfold forM; simp only [e1, e2, e3], q3⟩
      | rt s => exact ⟨.ok (.rt s), ds2, by unfold forM; simp only [e1, e2], q⟩
      | bk => exact q.elim
      | ct => exact q.elim
theorem wx_forI {m : M (List D)} {tg : TgF} {body : MS} (h : wp m (fun l ds1 => wx (forM tg body l) N R X ds1) ds) : wx (forI m tg body) N R X ds := by
  obtain ⟨l, ds1, e, r, ds2, e2, q⟩ := h
  exact ⟨r, ds2, by unfold forI bnd; rw [e]; exact e2, q⟩
/-- a def that may raise, by its body -/
theorem mirx_of {n nl : Nat} {keep : List Bool} {body : MS} {as : List SV} {S : DL.R SV → List (Option SV) → Prop} (hl : as.length = n) (h : wx body (fun ds => S (.ok (.val .non)) (maskK keep ds)) (fun s ds => S (.ok s) (maskK keep ds)) (fun C fs ds => S (.exc C fs) (maskK keep ds)) (as.map some ++ List.replicate (nl - n) none)) :
    ∃ r outs, mirOf n nl keep body as = some (r, outs) ∧ S r outs := by
  obtain ⟨r, ds', e, q⟩ := h
  unfold mirOf
  rw [if_pos hl, e]
  cases r with
  | exc C fs => exact ⟨_, _, rfl, q⟩
  | ok o =>
    cases o with
    | nx => exact ⟨_, _, rfl, q⟩
    | rt s => exact ⟨_, _, rfl, q⟩
    | bk => exact q.elim
    | ct => exact q.elim
end
end DL
set_option maxHeartbeats 4000000
namespace K96
open PySem PySem.Spec PyProof.Rows L2 DL
/-- where the classes stand -/
structure CA where
  Arrows : Addr
  NoText : Addr
  LotError : Addr
/-- the mirrors -/
def tb_exc (A : CA) : List (Addr × D × Bool) := [(A.NoText, .ref A.NoText, true), (A.NoText, .ty "ValueError", true)]
noncomputable def bb_is_name (A : CA) : MS :=
  (seqM (ifM (ifM (ngM (isB (apM isiO (consA (rd 0) (consA (k_ (.ty "str")) nilA))))) (ret true) (ngM (isB (chain leO leO (k_ (.int 1)) (un lenO (pk 0)) (k_ (.int 8)))))) (retM (vl (k_ (.bl false)))) (ret .nx))
  (retM (vl (un allO (fz (lcM [1] (itM (rd 0)) (tgN 1) (ret true) (bin inO (rd 1) (k_ (.str "abcdefghijklmnopqrstuvwxyz")))))))))
noncomputable def m_is_name (A : CA) : Mir := mirOf 1 2 [true] (bb_is_name A)
noncomputable def bb_need_places (A : CA) : MS :=
  (seqM (ifM (ngM (isB (chain leO leO (k_ (.int 1)) (un lenO (pk 0)) (k_ (.int 16))))) stuck (ret .nx))
  (seqM (forI (apM enumD (consA (rd 0) nilA)) (tgT 2 (tgCons (tgN 1) (tgCons (tgN 2) tgNil))) (ifM (ifM (ngM (isB (fz (callM 1 (m_is_name A) (gEv (rd 2) gNilA))))) (ret true) (isB (bin inO (rd 2) (fz (slN 0 (ret none) (someP (rd 1))))))) stuck (ret .nx)))
  (retM (vl (un tupleO (fz (un sortO (pk 0))))))))
noncomputable def m_need_places (A : CA) : Mir := mirOf 1 3 [true] (bb_need_places A)
noncomputable def bb_is_pair (A : CA) : MS :=
  (seqM (ifM (ifM (ngM (isB (apM isiO (consA (rd 1) (consA (k_ (.ty "tuple")) nilA))))) (ret true) (isB (bin neO (un lenO (pk 1)) (k_ (.int 2))))) (retM (vl (k_ (.bl false)))) (ret .nx))
  (retM (vl (un allO (fz (lcM [2] (itM (rd 1)) (tgN 2) (ret true) (andV (apM isiO (consA (rd 2) (consA (k_ (.ty "str")) nilA))) (bin inO (rd 2) (pk 0)))))))))
noncomputable def m_is_pair (A : CA) : Mir := mirOf 2 3 [true, true] (bb_is_pair A)
noncomputable def bb_Arrows___init__ (A : CA) : MS :=
  (seqM (setFld 0 A.Arrows "known" (fz (callM 1 (m_need_places A) (gEv (rd 1) gNilA))))
  (seqM (forI (itM (fz (un sortO (fz (un listO (pk 2)))))) (tgN 3) (ifM (ifM (ngM (isB (fz (callM 1 (m_is_name A) (gEv (rd 3) gNilA))))) (ret true) (ifM (ngM (isB (fz (callM 2 (m_is_pair A) (gEv (un (fldO A.Arrows "known") (pk 0)) (gEv (ixN_ 2 (rd 3)) gNilA)))))) (ret true) (isB (bin eqO (bin ixO (ixN_ 2 (rd 3)) (k_ (.int 0))) (bin ixO (ixN_ 2 (rd 3)) (k_ (.int 1))))))) stuck (ret .nx)))
  (seqM (ifM (isB (bin gtO (un lenO (pk 2)) (k_ (.int 24)))) stuck (ret .nx))
  (setFld 0 A.Arrows "leading" (fz (dcM [3] (itM (fz (un sortO (fz (un listO (pk 2)))))) (tgN 3) (rd 3) (un tupleO (ixN_ 2 (rd 3)))))))))
noncomputable def m_Arrows___init__ (A : CA) : Mir := mirOf 3 4 [true, true, true] (bb_Arrows___init__ A)
noncomputable def bb_Arrows_places (A : CA) : MS :=
  (retM (un listO (un (fldO A.Arrows "known") (pk 0))))
noncomputable def m_Arrows_places (A : CA) : Mir := mirOf 1 1 [true] (bb_Arrows_places A)
noncomputable def bb_Arrows_arrows (A : CA) : MS :=
  (retM (un dictO (un (fldO A.Arrows "leading") (pk 0))))
noncomputable def m_Arrows_arrows (A : CA) : Mir := mirOf 1 1 [true] (bb_Arrows_arrows A)
noncomputable def bb_Arrows_arrow (A : CA) : MS :=
  (seqM (ifM (isB (bin ninO (rd 1) (un (fldO A.Arrows "leading") (pk 0)))) stuck (ret .nx))
  (retM (vl (bin ixO (un (fldO A.Arrows "leading") (pk 0)) (rd 1)))))
noncomputable def m_Arrows_arrow (A : CA) : Mir := mirOf 2 2 [true, true] (bb_Arrows_arrow A)
noncomputable def bb_Arrows___eq__ (A : CA) : MS :=
  (retM (vl (andV (apM (isiC A.Arrows) (consA (rd 1) (consA (k_ (.ref A.Arrows)) nilA))) (andV (bin eqO (un (fldO A.Arrows "known") (pk 0)) (un (fldO A.Arrows "known") (pk 1))) (bin eqO (un (fldO A.Arrows "leading") (pk 0)) (un (fldO A.Arrows "leading") (pk 1)))))))
noncomputable def m_Arrows___eq__ (A : CA) : Mir := mirOf 2 2 [true, true] (bb_Arrows___eq__ A)
noncomputable def bb_arrows_text (A : CA) : MS :=
  (seqM (setM 1 (lstM (consA (k_ (.str "arrows")) (consA (strM joinO (k_ (.str " ")) (fz (lstM (consA (k_ (.str "places")) (starA (un (fldO A.Arrows "known") (pk 0)) nilA))))) nilA))))
  (seqM (forK (un (fldO A.Arrows "leading") (rd 0)) (tgN 2) (dropM (mutM 1 appendF (consA (strM joinO (k_ (.str " ")) (fz (lstM (consA (k_ (.str "arrow")) (consA (rd 2) (starA (bin ixO (un (fldO A.Arrows "leading") (pk 0)) (rd 2)) nilA)))))) nilA))))
  (retM (vl (strM joinO (k_ (.str "\n")) (pk 1))))))
noncomputable def m_arrows_text (A : CA) : Mir := mirOf 1 3 [true] (bb_arrows_text A)
noncomputable def bb_read_places (A : CA) : MS :=
  (seqM (setM 1 (strM splitO (rd 0) (k_ (.str " "))))
  (seqM (ifM (ifM (isB (bin neO (ixN_ 1 (k_ (.int 0))) (k_ (.str "places")))) (ret true) (ifM (ngM (isB (chain leO leO (k_ (.int 2)) (un lenO (pk 1)) (fz (bin addO (k_ (.int 16)) (k_ (.int 1))))))) (ret true) (ngM (isB (un allO (fz (lcM [2] (itM (fz (slN 1 (someP (k_ (.int 1))) (ret none)))) (tgN 2) (ret true) (fz (callM 1 (m_is_name A) (gEv (rd 2) gNilA)))))))))) (retM (vl (k_ .non))) (ret .nx))
  (retM (ifM (isB (bin eqO (fz (slN 1 (someP (k_ (.int 1))) (ret none))) (fz (setSortM (fz (slN 1 (someP (k_ (.int 1))) (ret none))))))) (slN 1 (someP (k_ (.int 1))) (ret none)) (vl (k_ .non))))))
noncomputable def m_read_places (A : CA) : Mir := mirOf 1 3 [true] (bb_read_places A)
noncomputable def bb_read_arrow (A : CA) : MS :=
  (seqM (setM 3 (strM splitO (rd 2) (k_ (.str " "))))
  (seqM (ifM (ifM (isB (bin neO (un lenO (pk 3)) (k_ (.int 4)))) (ret true) (ifM (isB (bin neO (ixN_ 3 (k_ (.int 0))) (k_ (.str "arrow")))) (ret true) (ifM (ngM (isB (fz (callM 1 (m_is_name A) (gEv (ixN_ 3 (k_ (.int 1))) gNilA))))) (ret true) (isB (bin geO (un lenO (pk 1)) (k_ (.int 24))))))) (retM (vl (k_ .non))) (ret .nx))
  (seqM (ifM (ifM (isB (bin ninO (ixN_ 3 (k_ (.int 2))) (pk 0))) (ret true) (ifM (isB (bin ninO (ixN_ 3 (k_ (.int 3))) (pk 0))) (ret true) (isB (bin eqO (ixN_ 3 (k_ (.int 2))) (ixN_ 3 (k_ (.int 3))))))) (retM (vl (k_ .non))) (ret .nx))
  (seqM (ifM (isB (un anyO (fz (lcKO 1 [4] (tgN 4) (ret true) (bin geO (rd 4) (ixN_ 3 (k_ (.int 1)))))))) (retM (vl (k_ .non))) (ret .nx))
  (retM (vl (tupM (consA (ixN_ 3 (k_ (.int 1))) (consA (ixN_ 3 (k_ (.int 2))) (consA (ixN_ 3 (k_ (.int 3))) nilA))))))))))
noncomputable def m_read_arrow (A : CA) : Mir := mirOf 3 5 [true, true, true] (bb_read_arrow A)
noncomputable def bb_read_arrows (A : CA) : MS :=
  (seqM (ifM (ngM (isB (apM isiO (consA (rd 0) (consA (k_ (.ty "str")) nilA))))) (raiseM A.NoText "line" (consA (k_ (.int 0)) nilA)) (ret .nx))
  (seqM (setM 1 (strM splitO (rd 0) (k_ (.str "\n"))))
  (seqM (ifM (isB (bin neO (ixN_ 1 (k_ (.int 0))) (k_ (.str "arrows")))) (raiseM A.NoText "line" (consA (k_ (.int 1)) nilA)) (ret .nx))
  (seqM (setM 2 (ifM (isB (bin gtO (un lenO (pk 1)) (k_ (.int 1)))) (callM 1 (m_read_places A) (gEv (ixN_ 1 (k_ (.int 1))) gNilA)) (vl (k_ .non))))
  (seqM (ifM (isB (bin isNO (rd 2) (k_ .non))) (raiseM A.NoText "line" (consA (k_ (.int 2)) nilA)) (ret .nx))
  (seqM (setM 3 (ret (.own (.dct []))))
  (seqM (forI (apM enumD (consA (fz (slN 1 (someP (k_ (.int 2))) (ret none))) nilA)) (tgT 2 (tgCons (tgN 4) (tgCons (tgN 5) tgNil))) (seqM (setM 6 (callM 3 (m_read_arrow A) (gEv (rd 2) (gBy 3 (gEv (rd 5) gNilA)))))
  (seqM (ifM (isB (bin isNO (rd 6) (k_ .non))) (raiseM A.NoText "line" (consA (fz (bin addO (rd 4) (k_ (.int 3)))) nilA)) (ret .nx))
  (asgM (tupM (consA (ixN_ 6 (k_ (.int 1))) (consA (ixN_ 6 (k_ (.int 2))) nilA))) (tgS 3 (ixN_ 6 (k_ (.int 0))))))))
  (retM (newM A.Arrows 3 (m_Arrows___init__ A) (gEv (rd 2) (gBy 3 gNilA)))))))))))
noncomputable def m_read_arrows (A : CA) : Mir := mirOf 1 7 [true] (bb_read_arrows A)
noncomputable def bb_turning_text (A : CA) : MS :=
  (retM (vl (strM joinO (k_ (.str "\n")) (fz (lcM [1] (itM (fz (un sortO (fz (un listO (pk 0)))))) (tgN 1) (ret true) (fjGo [(fmtM (rd 1)), (k_ (.str " ")), (fmtM (bin ixO (ixN_ 0 (rd 1)) (k_ (.int 0)))), (k_ (.str " ")), (fmtM (bin ixO (ixN_ 0 (rd 1)) (k_ (.int 1))))] Str.empty))))))
noncomputable def m_turning_text (A : CA) : Mir := mirOf 1 2 [true] (bb_turning_text A)
noncomputable def bb__law_hand (A : CA) : MS :=
  (retM (lstM (consA (fz (lcM [1] (itM (fz (slN 0 (ret none) (someP (k_ (.int 63)))))) (tgN 1) (ret true) (un absO (un intO (pk 1))))) (consA (k_ (.int 0)) (consA (k_ (.int 0)) (consA (fz (bin addO (k_ (.int 211)) (bin mulO (k_ (.int 3)) (un lenO (fz (slN 0 (ret none) (someP (k_ (.int 63))))))))) (consA (k_ (.int 0)) nilA)))))))
noncomputable def m__law_hand (A : CA) : Mir := mirOf 1 2 [true] (bb__law_hand A)
noncomputable def bb__law_draw (A : CA) : MS :=
  (seqM (ifM (ifM (isB (bin eqO (ixN_ 0 (k_ (.int 2))) (k_ (.int 0)))) (isB (bin ltO (ixN_ 0 (k_ (.int 1))) (un lenO (ixN_ 0 (k_ (.int 0)))))) (ret false)) (seqM (setM 2 (vl (bin ixO (ixN_ 0 (k_ (.int 0))) (ixN_ 0 (k_ (.int 1))))))
  (seqM (asgM (fz (bin addO (ixN_ 0 (k_ (.int 1))) (k_ (.int 1)))) (tgS 0 (k_ (.int 1))))
  (seqM (asgM (bin modO (un intO (fz (bin addO (fz (bin addO (bin mulO (ixN_ 0 (k_ (.int 3))) (k_ (.int 69621))) (bin mulO (rd 2) (k_ (.int 40692))))) (k_ (.int 173))))) (k_ (.int 2147483629))) (tgS 0 (k_ (.int 3))))
  (ifM (isB (bin geO (rd 2) (bin powO (k_ (.int 10)) (k_ (.int 18))))) (asgM (rd 2) (tgS 0 (k_ (.int 2)))) (ret .nx))))) (ret .nx))
  (seqM (ifM (isB (bin gtO (ixN_ 0 (k_ (.int 2))) (k_ (.int 0)))) (seqM (setM 3 (vl (bin modO (un intO (ixN_ 0 (k_ (.int 2)))) (pk 1))))
  (seqM (asgM (bin divO (ixN_ 0 (k_ (.int 2))) (pk 1)) (tgS 0 (k_ (.int 2))))
  (retM (mv 3)))) (ret .nx))
  (seqM (asgM (fz (bin addO (ixN_ 0 (k_ (.int 4))) (k_ (.int 1)))) (tgS 0 (k_ (.int 4))))
  (seqM (setM 4 (vl (bin modO (un intO (bin mulO (un intO (fz (bin addO (ixN_ 0 (k_ (.int 3))) (bin mulO (k_ (.int 7919)) (ixN_ 0 (k_ (.int 4))))))) (k_ (.int 48271)))) (k_ (.int 2147483647)))))
  (seqM (setM 4 (vl (bin modO (un intO (bin mulO (rd 4) (fz (bin addO (bin divO (rd 4) (k_ (.int 1009))) (k_ (.int 69621)))))) (k_ (.int 2147483647)))))
  (seqM (setM 4 (vl (bin modO (un intO (bin mulO (rd 4) (fz (bin addO (bin divO (rd 4) (k_ (.int 2003))) (k_ (.int 40014)))))) (k_ (.int 2147483563)))))
  (retM (vl (bin modO (un intO (bin divO (rd 4) (k_ (.int 16)))) (pk 1))))))))))
noncomputable def m__law_draw (A : CA) : Mir := mirOf 2 5 [true, true] (bb__law_draw A)
noncomputable def bb__law_any (A : CA) : MS :=
  (retM (vl (ixN_ 1 (fz (callM 2 (m__law_draw A) (gBy 0 (gEv (un lenO (pk 1)) gNilA)))))))
noncomputable def m__law_any (A : CA) : Mir := mirOf 2 2 [true, true] (bb__law_any A)
noncomputable def bb__law_mixed (A : CA) : MS :=
  (seqM (parM 2 3 (consS (un listO (pk 1)) (consS (lstM nilA) (ret []))))
  (seqM (whileM (isB (bin gtO (un lenO (pk 2)) (k_ (.int 0)))) (dropM (mutM 3 appendF (consA (fz (mutM 2 popAtF (consA (fz (callM 2 (m__law_draw A) (gBy 0 (gEv (un lenO (pk 2)) gNilA)))) nilA))) nilA))))
  (retM (mv 3))))
noncomputable def m__law_mixed (A : CA) : Mir := mirOf 2 4 [true, true] (bb__law_mixed A)
noncomputable def bb__law_same (A : CA) (rec : Mir) : MS :=
  (seqM (ifM (isB (apM isiO (consA (rd 1) (consA (tupM (consA (k_ (.ty "tuple")) (consA (k_ (.ty "list")) nilA))) nilA)))) (seqM (ifM (ifM (isB (bin neO (apM isiO (consA (rd 0) (consA (k_ (.ty "tuple")) nilA))) (apM isiO (consA (rd 1) (consA (k_ (.ty "tuple")) nilA))))) (ret true) (ngM (isB (apM isiO (consA (rd 0) (consA (tupM (consA (k_ (.ty "tuple")) (consA (k_ (.ty "list")) nilA))) nilA)))))) (retM (vl (k_ (.bl false)))) (ret .nx))
  (retM (vl (andV (bin eqO (un lenO (pk 0)) (un lenO (pk 1))) (un allO (fz (lcM [2, 3] (apM zipD (consA (rd 0) (consA (rd 1) nilA))) (tgT 2 (tgCons (tgN 2) (tgCons (tgN 3) tgNil))) (ret true) (fz (callM 2 rec (gEv (rd 2) (gEv (rd 3) gNilA))))))))))) (ret .nx))
  (seqM (ifM (ifM (isB (apM isiO (consA (rd 1) (consA (k_ (.ty "bool")) nilA)))) (ret true) (ifM (isB (apM isiO (consA (rd 0) (consA (k_ (.ty "bool")) nilA)))) (ret true) (ifM (isB (bin isNO (rd 1) (k_ .non))) (ret true) (isB (bin isNO (rd 0) (k_ .non)))))) (retM (vl (andV (bin eqO (apM isiO (consA (rd 0) (consA (k_ (.ty "bool")) nilA))) (apM isiO (consA (rd 1) (consA (k_ (.ty "bool")) nilA)))) (andV (bin eqO (bin isNO (rd 0) (k_ .non)) (bin isNO (rd 1) (k_ .non))) (bin eqO (rd 0) (pk 1)))))) (ret .nx))
  (retM (vl (andV (bin eqO (apM isiO (consA (rd 0) (consA (k_ (.ty "str")) nilA))) (apM isiO (consA (rd 1) (consA (k_ (.ty "str")) nilA)))) (andV (apM isiO (consA (rd 0) (consA (tupM (consA (k_ (.ty "int")) (consA (k_ (.ty "str")) nilA))) nilA))) (bin eqO (rd 0) (pk 1))))))))
noncomputable def mm__law_same (A : CA) : Nat → Mir
  | 0 => fun _ => none
  | n + 1 => mirOf 2 4 [true, true] (bb__law_same A (mm__law_same A n))
noncomputable abbrev m__law_same (A : CA) : Mir := mm__law_same A 4
noncomputable def bb__law_names (A : CA) : MS :=
  (seqM (setM 2 (lstM nilA))
  (seqM (whileM (isB (bin ltO (un lenO (pk 2)) (pk 1))) (seqM (setM 3 (callM 2 (m__law_any A) (gBy 0 (gEv (fz (lstM (consA (k_ (.int 1)) (consA (k_ (.int 1)) (consA (k_ (.int 2)) (consA (k_ (.int 8)) nilA)))))) gNilA))))
  (seqM (setM 4 (vl (strM joinO (k_ (.str "")) (fz (lcM [5] (apM rng1 (consA (rd 3) nilA)) (tgN 5) (ret true) (fz (callM 2 (m__law_any A) (gBy 0 (gEv (k_ (.str "abcdexyz")) gNilA)))))))))
  (seqM (ifM (isB (bin inO (rd 4) (pk 2))) (setM 4 (bin addO (k_ (.str "k")) (bin ixO (k_ (.str "abcdefghijklmnopqrstuvwxyz")) (un lenO (pk 2))))) (ret .nx))
  (dropM (mutM 2 appendF (consA (rd 4) nilA)))))))
  (retM (mv 2))))
noncomputable def m__law_names (A : CA) : Mir := mirOf 2 6 [true, true] (bb__law_names A)
noncomputable def bb__law_drawn (A : CA) : MS :=
  (seqM (setM 1 (callM 2 (m__law_names A) (gBy 0 (gEv (fz (bin addO (k_ (.int 1)) (fz (callM 2 (m__law_draw A) (gBy 0 (gEv (fz (callM 2 (m__law_any A) (gBy 0 (gEv (fz (lstM (consA (k_ (.int 3)) (consA (k_ (.int 6)) (consA (k_ (.int 16)) nilA))))) gNilA)))) gNilA)))))) gNilA))))
  (seqM (setM 2 (ret (.own (.dct []))))
  (seqM (ifM (isB (bin gtO (un lenO (pk 1)) (k_ (.int 1)))) (forI (itM (fz (callM 2 (m__law_names A) (gBy 0 (gEv (fz (callM 2 (m__law_draw A) (gBy 0 (gEv (fz (callM 2 (m__law_any A) (gBy 0 (gEv (fz (lstM (consA (k_ (.int 3)) (consA (k_ (.int 8)) (consA (k_ (.int 25)) nilA))))) gNilA)))) gNilA)))) gNilA))))) (tgN 3) (asgM (un tupleO (fz (slM (fz (callM 2 (m__law_mixed A) (gBy 0 (gEv (rd 1) gNilA)))) (ret none) (someP (k_ (.int 2)))))) (tgS 2 (rd 3)))) (ret .nx))
  (retM (vl (tupM (consA (rd 1) (consA (rd 2) nilA))))))))
noncomputable def m__law_drawn (A : CA) : Mir := mirOf 1 4 [true] (bb__law_drawn A)
noncomputable def bb__law_text (A : CA) : MS :=
  (seqM (setM 2 (lstM (consA (k_ (.str "arrows")) (consA (fz (bin addO (k_ (.str "places ")) (strM joinO (k_ (.str " ")) (fz (un sortO (pk 0)))))) nilA))))
  (seqM (forI (itM (fz (un sortO (pk 1)))) (tgN 3) (dropM (mutM 2 appendF (consA (fz (bin addO (fz (bin addO (fz (bin addO (fz (bin addO (fz (bin addO (k_ (.str "arrow ")) (pk 3))) (k_ (.str " ")))) (bin ixO (ixN_ 1 (rd 3)) (k_ (.int 0))))) (k_ (.str " ")))) (bin ixO (ixN_ 1 (rd 3)) (k_ (.int 1))))) nilA))))
  (retM (vl (strM joinO (k_ (.str "\n")) (pk 2))))))
noncomputable def m__law_text (A : CA) : Mir := mirOf 2 4 [true, true] (bb__law_text A)
noncomputable def bb__law_is_name (A : CA) : MS :=
  (retM (vl (andV (chain leO leO (k_ (.int 1)) (un lenO (pk 0)) (k_ (.int 8))) (un allO (fz (lcM [1] (itM (rd 0)) (tgN 1) (ret true) (bin inO (rd 1) (k_ (.str "abcdefghijklmnopqrstuvwxyz")))))))))
noncomputable def m__law_is_name (A : CA) : Mir := mirOf 1 2 [true] (bb__law_is_name A)
noncomputable def bb__law_read (A : CA) : MS :=
  (seqM (setM 1 (strM splitO (rd 0) (k_ (.str "\n"))))
  (seqM (ifM (isB (bin neO (ixN_ 1 (k_ (.int 0))) (k_ (.str "arrows")))) (retM (vl (tupM (consA (k_ (.str "bad")) (consA (k_ (.int 1)) nilA))))) (ret .nx))
  (seqM (ifM (isB (bin eqO (un lenO (pk 1)) (k_ (.int 1)))) (retM (vl (tupM (consA (k_ (.str "bad")) (consA (k_ (.int 2)) nilA))))) (ret .nx))
  (seqM (setM 2 (strM splitO (ixN_ 1 (k_ (.int 1))) (k_ (.str " "))))
  (seqM (setM 3 (slN 2 (someP (k_ (.int 1))) (ret none)))
  (seqM (ifM (ifM (isB (bin neO (ixN_ 2 (k_ (.int 0))) (k_ (.str "places")))) (ret true) (ifM (ngM (isB (chain leO leO (k_ (.int 1)) (un lenO (pk 3)) (k_ (.int 16))))) (ret true) (ngM (isB (un allO (fz (lcM [8] (itM (rd 3)) (tgN 8) (ret true) (fz (callM 1 (m__law_is_name A) (gEv (rd 8) gNilA)))))))))) (retM (vl (tupM (consA (k_ (.str "bad")) (consA (k_ (.int 2)) nilA))))) (ret .nx))
  (seqM (ifM (ngM (isB (un allO (fz (lcM [9, 10] (apM zipD (consA (rd 3) (consA (fz (slN 3 (someP (k_ (.int 1))) (ret none))) nilA))) (tgT 2 (tgCons (tgN 9) (tgCons (tgN 10) tgNil))) (ret true) (bin ltO (rd 9) (pk 10))))))) (retM (vl (tupM (consA (k_ (.str "bad")) (consA (k_ (.int 2)) nilA))))) (ret .nx))
  (seqM (parM 4 5 (consS (ret (.own (.dct []))) (consS (vl (k_ (.str ""))) (ret []))))
  (seqM (forI (apM enumD (consA (fz (slN 1 (someP (k_ (.int 2))) (ret none))) nilA)) (tgT 2 (tgCons (tgN 6) (tgCons (tgN 7) tgNil))) (seqM (setM 2 (strM splitO (rd 7) (k_ (.str " "))))
  (seqM (ifM (ifM (isB (bin neO (un lenO (pk 2)) (k_ (.int 4)))) (ret true) (ifM (isB (bin neO (ixN_ 2 (k_ (.int 0))) (k_ (.str "arrow")))) (ret true) (ifM (ngM (isB (fz (callM 1 (m__law_is_name A) (gEv (ixN_ 2 (k_ (.int 1))) gNilA))))) (ret true) (ifM (isB (bin leO (ixN_ 2 (k_ (.int 1))) (pk 5))) (ret true) (isB (bin eqO (rd 6) (k_ (.int 24)))))))) (retM (vl (tupM (consA (k_ (.str "bad")) (consA (fz (bin addO (rd 6) (k_ (.int 3)))) nilA))))) (ret .nx))
  (seqM (ifM (ifM (isB (bin ninO (ixN_ 2 (k_ (.int 2))) (pk 3))) (ret true) (ifM (isB (bin ninO (ixN_ 2 (k_ (.int 3))) (pk 3))) (ret true) (isB (bin eqO (ixN_ 2 (k_ (.int 2))) (ixN_ 2 (k_ (.int 3))))))) (retM (vl (tupM (consA (k_ (.str "bad")) (consA (fz (bin addO (rd 6) (k_ (.int 3)))) nilA))))) (ret .nx))
  (asgM (tupM (consA (tupM (consA (ixN_ 2 (k_ (.int 2))) (consA (ixN_ 2 (k_ (.int 3))) nilA))) (consA (ixN_ 2 (k_ (.int 1))) nilA))) (tgT 2 (tgCons (tgS 4 (ixN_ 2 (k_ (.int 1)))) (tgCons (tgN 5) tgNil))))))))
  (retM (vl (tupM (consA (k_ (.str "told")) (consA (rd 3) (consA (rd 4) nilA)))))))))))))))
noncomputable def m__law_read (A : CA) : Mir := mirOf 1 11 [true] (bb__law_read A)
noncomputable def bb__law_said (A : CA) : MS :=
  (seqM (tryM [A.NoText] 2 (setM 1 (callM 1 (m_read_arrows A) (gEv (rd 0) gNilA))) (fun d a C => (retM (ifM (ifM (isB (apM (isXO (tb_exc A) d a C) (consA (rd 2) (consA (k_ (.ref A.NoText)) nilA)))) (isB (apM (isXO (tb_exc A) d a C) (consA (rd 2) (consA (k_ (.ty "ValueError")) nilA)))) (ret false)) (vl (tupM (consA (k_ (.str "bad")) (consA (un (xfO d a C "line") (rd 2)) nilA)))) (vl (tupM (consA (k_ (.str "other")) nilA)))))))
  (retM (vl (tupM (consA (k_ (.str "told")) (consA (fz (methV A.Arrows "places" 1 (m_Arrows_places A) (rd 1) gNilA)) (consA (fz (methV A.Arrows "arrows" 1 (m_Arrows_arrows A) (rd 1) gNilA)) nilA)))))))
noncomputable def m__law_said (A : CA) : Mir := mirOf 1 3 [true] (bb__law_said A)
noncomputable def bb__law_bent (A : CA) : MS :=
  (seqM (parM 2 3 (consS (strM splitO (rd 1) (k_ (.str "\n"))) (consS (callM 2 (m__law_draw A) (gBy 0 (gEv (k_ (.int 6)) gNilA))) (ret []))))
  (seqM (parM 4 5 (consS (callM 2 (m__law_draw A) (gBy 0 (gEv (un lenO (pk 2)) gNilA))) (consS (callM 2 (m__law_draw A) (gBy 0 (gEv (fz (bin addO (un lenO (pk 1)) (k_ (.int 1)))) gNilA))) (ret []))))
  (seqM (setM 6 (callM 2 (m__law_any A) (gBy 0 (gEv (fz (lstM (consA (k_ (.str " ")) (consA (k_ (.str "\n")) (consA (k_ (.str "a")) (consA (k_ (.str "z")) (consA (k_ (.str "A")) (consA (k_ (.str "1")) (consA (k_ (.str "-")) (consA (k_ (.str "arrow")) (consA (k_ (.str "\narrow a b c")) (consA (k_ (.str "places")) (consA (k_ (.str "")) nilA))))))))))))) gNilA))))
  (seqM (ifM (isB (bin eqO (rd 3) (k_ (.int 0)))) (retM (bin addO (fz (bin addO (fz (slN 1 (ret none) (someP (rd 5)))) (pk 6))) (fz (slN 1 (someP (rd 5)) (ret none))))) (ret .nx))
  (seqM (ifM (isB (bin eqO (rd 3) (k_ (.int 1)))) (retM (bin addO (fz (bin addO (fz (slN 1 (ret none) (someP (rd 5)))) (pk 6))) (fz (slN 1 (someP (fz (bin addO (rd 5) (k_ (.int 1))))) (ret none))))) (ret .nx))
  (seqM (ifM (isB (bin eqO (rd 3) (k_ (.int 2)))) (retM (slN 1 (ret none) (someP (rd 5)))) (ret .nx))
  (seqM (setM 7 (callM 2 (m__law_draw A) (gBy 0 (gEv (un lenO (pk 2)) gNilA))))
  (seqM (ifM (isB (bin eqO (rd 3) (k_ (.int 3)))) (asgM (tupM (consA (ixN_ 2 (rd 7)) (consA (ixN_ 2 (rd 4)) nilA))) (tgT 2 (tgCons (tgS 2 (rd 4)) (tgCons (tgS 2 (rd 7)) tgNil)))) (ifM (isB (bin eqO (rd 3) (k_ (.int 4)))) (dropM (mutM 2 insertF (consA (rd 4) (consA (ixN_ 2 (rd 7)) nilA)))) (seqM (setM 8 (strM splitO (ixN_ 2 (rd 4)) (k_ (.str " "))))
  (seqM (parM 9 10 (consS (callM 2 (m__law_draw A) (gBy 0 (gEv (un lenO (pk 8)) gNilA))) (consS (callM 2 (m__law_draw A) (gBy 0 (gEv (un lenO (pk 8)) gNilA))) (ret []))))
  (seqM (asgM (fz (callM 2 (m__law_any A) (gBy 0 (gEv (fz (lstM (consA (ixN_ 8 (rd 10)) (consA (k_ (.str "zz")) (consA (k_ (.str "arrow")) (consA (k_ (.str "places")) (consA (k_ (.str "abcdefghi")) (consA (k_ (.str "")) nilA)))))))) gNilA)))) (tgS 8 (rd 9)))
  (asgM (strM joinO (k_ (.str " ")) (pk 8)) (tgS 2 (rd 4))))))))
  (retM (vl (strM joinO (k_ (.str "\n")) (pk 2))))))))))))
noncomputable def m__law_bent (A : CA) : Mir := mirOf 2 11 [true, true] (bb__law_bent A)
noncomputable def bb__law_is_told (A : CA) : MS :=
  (seqM (parM 1 2 (consS (callM 1 (m__law_read A) (gEv (rd 0) gNilA)) (consS (callM 1 (m__law_said A) (gEv (rd 0) gNilA)) (ret []))))
  (seqM (ifM (isB (bin eqO (ixN_ 1 (k_ (.int 0))) (k_ (.str "bad")))) (retM (callM 2 (m__law_same A) (gEv (rd 2) (gEv (rd 1) gNilA)))) (ret .nx))
  (seqM (ifM (ifM (isB (bin neO (ixN_ 2 (k_ (.int 0))) (k_ (.str "told")))) (ret true) (ifM (ngM (isB (fz (callM 2 (m__law_same A) (gEv (ixN_ 2 (k_ (.int 1))) (gEv (fz (un sortO (ixN_ 1 (k_ (.int 1))))) gNilA)))))) (ret true) (isB (bin neO (ixN_ 2 (k_ (.int 2))) (ixN_ 1 (k_ (.int 2))))))) (retM (vl (k_ (.bl false)))) (ret .nx))
  (retM (vl (bin eqO (fz (callM 1 (m_arrows_text A) (gEv (fz (callM 1 (m_read_arrows A) (gEv (rd 0) gNilA))) gNilA))) (pk 0)))))))
noncomputable def m__law_is_told (A : CA) : Mir := mirOf 1 3 [true] (bb__law_is_told A)
noncomputable def bb__law_turning (A : CA) : MS :=
  (seqM (parM 2 3 (consS (ret (.own (.dct []))) (consS (lstM nilA) (ret []))))
  (seqM (forI (itM (fz (callM 2 (m__law_names A) (gBy 0 (gEv (fz (callM 2 (m__law_draw A) (gBy 0 (gEv (k_ (.int 9)) gNilA)))) gNilA))))) (tgN 4) (asgM (tupM (consA (fz (callM 2 (m__law_any A) (gBy 0 (gEv (rd 1) gNilA)))) (consA (fz (callM 2 (m__law_any A) (gBy 0 (gEv (rd 1) gNilA)))) nilA))) (tgS 2 (rd 4))))
  (seqM (forI (itM (fz (un sortO (pk 2)))) (tgN 4) (dropM (mutM 3 appendF (consA (fz (bin addO (fz (bin addO (fz (bin addO (fz (bin addO (rd 4) (k_ (.str " ")))) (bin ixO (ixN_ 2 (rd 4)) (k_ (.int 0))))) (k_ (.str " ")))) (bin ixO (ixN_ 2 (rd 4)) (k_ (.int 1))))) nilA))))
  (retM (vl (tupM (consA (rd 2) (consA (strM joinO (k_ (.str "\n")) (pk 3)) nilA))))))))
noncomputable def m__law_turning (A : CA) : Mir := mirOf 2 5 [true, true] (bb__law_turning A)
noncomputable def bb_law (A : CA) : MS :=
  (seqM (setM 1 (callM 1 (m__law_hand A) (gEv (rd 0) gNilA)))
  (seqM (forI (apM rng1 (consA (k_ (.int 3)) nilA)) (tgN 2) (seqM (asgM (fz (callM 1 (m__law_drawn A) (gBy 1 gNilA))) (tgT 2 (tgCons (tgN 3) (tgCons (tgN 4) tgNil))))
  (seqM (parM 5 6 (consS (newM A.Arrows 3 (m_Arrows___init__ A) (gEv (fz (callM 2 (m__law_mixed A) (gBy 1 (gEv (rd 3) gNilA)))) (gEv (rd 4) gNilA))) (consS (callM 2 (m__law_text A) (gEv (rd 3) (gEv (rd 4) gNilA))) (ret []))))
  (seqM (ifM (ifM (ngM (isB (fz (callM 2 (m__law_same A) (gEv (fz (callM 1 (m_arrows_text A) (gEv (rd 5) gNilA))) (gEv (rd 6) gNilA)))))) (ret true) (ifM (isB (bin (neOwn A.Arrows (m_Arrows___eq__ A)) (fz (callM 1 (m_read_arrows A) (gEv (rd 6) gNilA))) (rd 5))) (ret true) (ngM (isB (fz (callM 1 (m__law_is_told A) (gEv (rd 6) gNilA))))))) (retM (vl (k_ (.bl false)))) (ret .nx))
  (seqM (forI (apM rng1 (consA (k_ (.int 9)) nilA)) (tgN 7) (seqM (setM 8 (callM 2 (m__law_bent A) (gBy 1 (gEv (rd 6) gNilA))))
  (ifM (ifM (ngM (isB (fz (callM 1 (m__law_is_told A) (gEv (rd 8) gNilA))))) (ret true) (ngM (isB (fz (callM 1 (m__law_is_told A) (gEv (fz (callM 2 (m__law_bent A) (gBy 1 (gEv (rd 8) gNilA)))) gNilA)))))) (retM (vl (k_ (.bl false)))) (ret .nx))))
  (seqM (setM 9 (callM 1 (m__law_drawn A) (gBy 1 gNilA)))
  (seqM (ifM (isB (bin neO (bin eqO (fz (callM 1 (m_arrows_text A) (gEv (fz (newM A.Arrows 3 (m_Arrows___init__ A) (gEv (ixN_ 9 (k_ (.int 0))) (gEv (ixN_ 9 (k_ (.int 1))) gNilA)))) gNilA))) (pk 6)) (bin eqO (fz (callM 2 (m__law_text A) (gEv (ixN_ 9 (k_ (.int 0))) (gEv (ixN_ 9 (k_ (.int 1))) gNilA)))) (pk 6)))) (retM (vl (k_ (.bl false)))) (ret .nx))
  (seqM (setM 10 (callM 2 (m__law_any A) (gBy 1 (gEv (fz (lstM (consA (k_ .non) (consA (k_ (.int 0)) (consA (k_ (.bl true)) (consA (fz (lstM (consA (k_ (.str "arrows")) nilA))) (consA (tupM (consA (k_ (.str "arrows")) nilA)) (consA (fz (ret (.own (.dct [])))) nilA)))))))) gNilA))))
  (seqM (ifM (ifM (isB (bin neO (fz (callM 1 (m__law_said A) (gEv (rd 10) gNilA))) (tupM (consA (k_ (.str "bad")) (consA (k_ (.int 0)) nilA))))) (ret true) (ifM (isB (bin neO (fz (callM 1 (m__law_said A) (gEv (k_ (.str "")) gNilA))) (tupM (consA (k_ (.str "bad")) (consA (k_ (.int 1)) nilA))))) (ret true) (isB (bin neO (fz (callM 1 (m__law_said A) (gEv (k_ (.str "arrows")) gNilA))) (tupM (consA (k_ (.str "bad")) (consA (k_ (.int 2)) nilA))))))) (retM (vl (k_ (.bl false)))) (ret .nx))
  (seqM (asgM (fz (callM 2 (m__law_turning A) (gBy 1 (gEv (rd 3) gNilA)))) (tgT 2 (tgCons (tgN 11) (tgCons (tgN 12) tgNil))))
  (ifM (ifM (isB (bin gtO (un lenO (pk 11)) (k_ (.int 0)))) (ngM (isB (fz (callM 2 (m__law_same A) (gEv (fz (callM 1 (m_turning_text A) (gEv (rd 11) gNilA))) (gEv (rd 12) gNilA)))))) (ret false)) (retM (vl (k_ (.bl false)))) (ret .nx))))))))))))
  (seqM (setM 13 (newM A.Arrows 3 (m_Arrows___init__ A) (gEv (fz (lstM (consA (k_ (.str "a")) (consA (k_ (.str "b")) nilA)))) (gEv (fz (un dictO (fz (lcM [14] (itM (k_ (.str "abcdefghijklmnopqrstuvwx"))) (tgN 14) (ret true) (tupM (consA (fz (bin addO (k_ (.str "n")) (pk 14))) (consA (tupM (consA (k_ (.str "b")) (consA (k_ (.str "a")) nilA))) nilA))))))) gNilA))))
  (seqM (setM 6 (callM 1 (m_arrows_text A) (gEv (rd 13) gNilA)))
  (retM (vl (andV (bin (eqOwn A.Arrows (m_Arrows___eq__ A)) (fz (callM 1 (m_read_arrows A) (gEv (rd 6) gNilA))) (rd 13)) (bin eqO (fz (callM 1 (m__law_said A) (gEv (fz (bin addO (rd 6) (k_ (.str "\narrow z a b")))) gNilA))) (tupM (consA (k_ (.str "bad")) (consA (k_ (.int 27)) nilA)))))))))))
noncomputable def m_law (A : CA) : Mir := mirOf 1 15 [true] (bb_law A)
end K96
namespace K96
open PySem PySem.Spec PyProof.Rows L2 DL
def topS (i : Nat) : Stmt := PySem.Challenge.pw_freerealm_k96_whole_arrow_texts.main.body.getD i (.Pass ⟨0, 0, 0, 0⟩)
abbrev s_is_name : Stmt := topS 11
abbrev N_is_name : List Str := ["thing", "letter"]
abbrev s_need_places : Stmt := topS 14
abbrev N_need_places : List Str := ["places", "index", "name"]
abbrev s_is_pair : Stmt := topS 15
abbrev N_is_pair : List Str := ["known", "thing", "place"]
abbrev s_Arrows___init__ : Stmt := inClass (topS 17) 0
abbrev N_Arrows___init__ : List Str := ["self", "places", "arrows", "name"]
abbrev s_Arrows_places : Stmt := inClass (topS 17) 1
abbrev N_Arrows_places : List Str := ["self"]
abbrev s_Arrows_arrows : Stmt := inClass (topS 17) 2
abbrev N_Arrows_arrows : List Str := ["self"]
abbrev s_Arrows_arrow : Stmt := inClass (topS 17) 3
abbrev N_Arrows_arrow : List Str := ["self", "name"]
abbrev s_Arrows___eq__ : Stmt := inClass (topS 17) 4
abbrev N_Arrows___eq__ : List Str := ["self", "other"]
abbrev s_arrows_text : Stmt := topS 22
abbrev N_arrows_text : List Str := ["arrows", "found", "name"]
abbrev s_read_places : Stmt := topS 23
abbrev N_read_places : List Str := ["line", "words", "word"]
abbrev s_read_arrow : Stmt := topS 24
abbrev N_read_arrow : List Str := ["places", "found", "line", "words", "name"]
abbrev s_read_arrows : Stmt := topS 25
abbrev N_read_arrows : List Str := ["text", "lines", "places", "found", "at", "line", "told"]
abbrev s_turning_text : Stmt := topS 26
abbrev N_turning_text : List Str := ["turning", "tie"]
abbrev s__law_hand : Stmt := topS 28
abbrev N__law_hand : List Str := ["script", "cell"]
abbrev s__law_draw : Stmt := topS 29
abbrev N__law_draw : List Str := ["hand", "many", "cell", "digit", "number"]
abbrev s__law_any : Stmt := topS 30
abbrev N__law_any : List Str := ["hand", "some"]
abbrev s__law_mixed : Stmt := topS 31
abbrev N__law_mixed : List Str := ["hand", "some", "pool", "found"]
abbrev s__law_same : Stmt := topS 32
abbrev N__law_same : List Str := ["one", "due", "a", "b"]
abbrev s__law_names : Stmt := topS 33
abbrev N__law_names : List Str := ["hand", "many", "found", "size", "name", "turn"]
abbrev s__law_drawn : Stmt := topS 34
abbrev N__law_drawn : List Str := ["hand", "places", "found", "name"]
abbrev s__law_text : Stmt := topS 35
abbrev N__law_text : List Str := ["places", "arrows", "lines", "name"]
abbrev s__law_is_name : Stmt := topS 36
abbrev N__law_is_name : List Str := ["word", "sign"]
abbrev s__law_read : Stmt := topS 37
abbrev N__law_read : List Str := ["text", "lines", "words", "places", "found", "last", "at", "line", "word", "one", "other"]
abbrev s__law_said : Stmt := topS 38
abbrev N__law_said : List Str := ["thing", "told", "error"]
abbrev s__law_bent : Stmt := topS 39
abbrev N__law_bent : List Str := ["hand", "text", "lines", "kind", "at", "spot", "sign", "other", "words", "place", "far"]
abbrev s__law_is_told : Stmt := topS 40
abbrev N__law_is_told : List Str := ["thing", "due", "said"]
abbrev s__law_turning : Stmt := topS 41
abbrev N__law_turning : List Str := ["hand", "places", "turning", "lines", "name"]
abbrev s_law : Stmt := topS 42
abbrev N_law : List Str := ["script", "hand", "turn", "places", "arrows", "made", "text", "again", "bent", "other", "odd", "turning", "due", "wide", "letter"]
abbrev s_NoText___init__ : Stmt := inClass (topS 5) 0
/-- what the top has laid -/
structure TX (K : PySem.W.Frag) (mg : Str → Option Value) (A : CA) where
  fa_is_name : Addr
  fd_is_name : FuncData
  F_is_name : Fun K "is_name" "is_name" s_is_name fa_is_name fd_is_name
  b_is_name : Binds K fd_is_name ["thing"] []
  g_is_name : mg "is_name" = some (.ref fa_is_name)
  fa_need_places : Addr
  fd_need_places : FuncData
  F_need_places : Fun K "need_places" "need_places" s_need_places fa_need_places fd_need_places
  b_need_places : Binds K fd_need_places ["places"] []
  g_need_places : mg "need_places" = some (.ref fa_need_places)
  fa_is_pair : Addr
  fd_is_pair : FuncData
  F_is_pair : Fun K "is_pair" "is_pair" s_is_pair fa_is_pair fd_is_pair
  b_is_pair : Binds K fd_is_pair ["known", "thing"] []
  g_is_pair : mg "is_pair" = some (.ref fa_is_pair)
  fa_Arrows___init__ : Addr
  fd_Arrows___init__ : FuncData
  F_Arrows___init__ : Fun K "__init__" "Arrows.__init__" s_Arrows___init__ fa_Arrows___init__ fd_Arrows___init__
  b_Arrows___init__ : Binds K fd_Arrows___init__ ["self", "places", "arrows"] []
  fa_Arrows_places : Addr
  fd_Arrows_places : FuncData
  F_Arrows_places : Fun K "places" "Arrows.places" s_Arrows_places fa_Arrows_places fd_Arrows_places
  b_Arrows_places : Binds K fd_Arrows_places ["self"] []
  me_Arrows_places : Meth K A.Arrows "places" fa_Arrows_places
  fa_Arrows_arrows : Addr
  fd_Arrows_arrows : FuncData
  F_Arrows_arrows : Fun K "arrows" "Arrows.arrows" s_Arrows_arrows fa_Arrows_arrows fd_Arrows_arrows
  b_Arrows_arrows : Binds K fd_Arrows_arrows ["self"] []
  me_Arrows_arrows : Meth K A.Arrows "arrows" fa_Arrows_arrows
  fa_Arrows_arrow : Addr
  fd_Arrows_arrow : FuncData
  F_Arrows_arrow : Fun K "arrow" "Arrows.arrow" s_Arrows_arrow fa_Arrows_arrow fd_Arrows_arrow
  b_Arrows_arrow : Binds K fd_Arrows_arrow ["self", "name"] []
  me_Arrows_arrow : Meth K A.Arrows "arrow" fa_Arrows_arrow
  fa_Arrows___eq__ : Addr
  fd_Arrows___eq__ : FuncData
  F_Arrows___eq__ : Fun K "__eq__" "Arrows.__eq__" s_Arrows___eq__ fa_Arrows___eq__ fd_Arrows___eq__
  b_Arrows___eq__ : Binds K fd_Arrows___eq__ ["self", "other"] []
  me_Arrows___eq__ : Meth K A.Arrows "__eq__" fa_Arrows___eq__
  fa_arrows_text : Addr
  fd_arrows_text : FuncData
  F_arrows_text : Fun K "arrows_text" "arrows_text" s_arrows_text fa_arrows_text fd_arrows_text
  b_arrows_text : Binds K fd_arrows_text ["arrows"] []
  g_arrows_text : mg "arrows_text" = some (.ref fa_arrows_text)
  fa_read_places : Addr
  fd_read_places : FuncData
  F_read_places : Fun K "read_places" "read_places" s_read_places fa_read_places fd_read_places
  b_read_places : Binds K fd_read_places ["line"] []
  g_read_places : mg "read_places" = some (.ref fa_read_places)
  fa_read_arrow : Addr
  fd_read_arrow : FuncData
  F_read_arrow : Fun K "read_arrow" "read_arrow" s_read_arrow fa_read_arrow fd_read_arrow
  b_read_arrow : Binds K fd_read_arrow ["places", "found", "line"] []
  g_read_arrow : mg "read_arrow" = some (.ref fa_read_arrow)
  fa_read_arrows : Addr
  fd_read_arrows : FuncData
  F_read_arrows : Fun K "read_arrows" "read_arrows" s_read_arrows fa_read_arrows fd_read_arrows
  b_read_arrows : Binds K fd_read_arrows ["text"] []
  g_read_arrows : mg "read_arrows" = some (.ref fa_read_arrows)
  fa_turning_text : Addr
  fd_turning_text : FuncData
  F_turning_text : Fun K "turning_text" "turning_text" s_turning_text fa_turning_text fd_turning_text
  b_turning_text : Binds K fd_turning_text ["turning"] []
  g_turning_text : mg "turning_text" = some (.ref fa_turning_text)
  fa__law_hand : Addr
  fd__law_hand : FuncData
  F__law_hand : Fun K "_law_hand" "_law_hand" s__law_hand fa__law_hand fd__law_hand
  b__law_hand : Binds K fd__law_hand ["script"] []
  g__law_hand : mg "_law_hand" = some (.ref fa__law_hand)
  fa__law_draw : Addr
  fd__law_draw : FuncData
  F__law_draw : Fun K "_law_draw" "_law_draw" s__law_draw fa__law_draw fd__law_draw
  b__law_draw : Binds K fd__law_draw ["hand", "many"] []
  g__law_draw : mg "_law_draw" = some (.ref fa__law_draw)
  fa__law_any : Addr
  fd__law_any : FuncData
  F__law_any : Fun K "_law_any" "_law_any" s__law_any fa__law_any fd__law_any
  b__law_any : Binds K fd__law_any ["hand", "some"] []
  g__law_any : mg "_law_any" = some (.ref fa__law_any)
  fa__law_mixed : Addr
  fd__law_mixed : FuncData
  F__law_mixed : Fun K "_law_mixed" "_law_mixed" s__law_mixed fa__law_mixed fd__law_mixed
  b__law_mixed : Binds K fd__law_mixed ["hand", "some"] []
  g__law_mixed : mg "_law_mixed" = some (.ref fa__law_mixed)
  fa__law_same : Addr
  fd__law_same : FuncData
  F__law_same : Fun K "_law_same" "_law_same" s__law_same fa__law_same fd__law_same
  b__law_same : Binds K fd__law_same ["one", "due"] []
  g__law_same : mg "_law_same" = some (.ref fa__law_same)
  fa__law_names : Addr
  fd__law_names : FuncData
  F__law_names : Fun K "_law_names" "_law_names" s__law_names fa__law_names fd__law_names
  b__law_names : Binds K fd__law_names ["hand", "many"] []
  g__law_names : mg "_law_names" = some (.ref fa__law_names)
  fa__law_drawn : Addr
  fd__law_drawn : FuncData
  F__law_drawn : Fun K "_law_drawn" "_law_drawn" s__law_drawn fa__law_drawn fd__law_drawn
  b__law_drawn : Binds K fd__law_drawn ["hand"] []
  g__law_drawn : mg "_law_drawn" = some (.ref fa__law_drawn)
  fa__law_text : Addr
  fd__law_text : FuncData
  F__law_text : Fun K "_law_text" "_law_text" s__law_text fa__law_text fd__law_text
  b__law_text : Binds K fd__law_text ["places", "arrows"] []
  g__law_text : mg "_law_text" = some (.ref fa__law_text)
  fa__law_is_name : Addr
  fd__law_is_name : FuncData
  F__law_is_name : Fun K "_law_is_name" "_law_is_name" s__law_is_name fa__law_is_name fd__law_is_name
  b__law_is_name : Binds K fd__law_is_name ["word"] []
  g__law_is_name : mg "_law_is_name" = some (.ref fa__law_is_name)
  fa__law_read : Addr
  fd__law_read : FuncData
  F__law_read : Fun K "_law_read" "_law_read" s__law_read fa__law_read fd__law_read
  b__law_read : Binds K fd__law_read ["text"] []
  g__law_read : mg "_law_read" = some (.ref fa__law_read)
  fa__law_said : Addr
  fd__law_said : FuncData
  F__law_said : Fun K "_law_said" "_law_said" s__law_said fa__law_said fd__law_said
  b__law_said : Binds K fd__law_said ["thing"] []
  g__law_said : mg "_law_said" = some (.ref fa__law_said)
  fa__law_bent : Addr
  fd__law_bent : FuncData
  F__law_bent : Fun K "_law_bent" "_law_bent" s__law_bent fa__law_bent fd__law_bent
  b__law_bent : Binds K fd__law_bent ["hand", "text"] []
  g__law_bent : mg "_law_bent" = some (.ref fa__law_bent)
  fa__law_is_told : Addr
  fd__law_is_told : FuncData
  F__law_is_told : Fun K "_law_is_told" "_law_is_told" s__law_is_told fa__law_is_told fd__law_is_told
  b__law_is_told : Binds K fd__law_is_told ["thing"] []
  g__law_is_told : mg "_law_is_told" = some (.ref fa__law_is_told)
  fa__law_turning : Addr
  fd__law_turning : FuncData
  F__law_turning : Fun K "_law_turning" "_law_turning" s__law_turning fa__law_turning fd__law_turning
  b__law_turning : Binds K fd__law_turning ["hand", "places"] []
  g__law_turning : mg "_law_turning" = some (.ref fa__law_turning)
  fa_law : Addr
  fd_law : FuncData
  F_law : Fun K "law" "law" s_law fa_law fd_law
  b_law : Binds K fd_law ["script"] []
  g_law : mg "law" = some (.ref fa_law)
  fa_NoText___init__ : Addr
  fd_NoText___init__ : FuncData
  F_NoText___init__ : Fun K "__init__" "NoText.__init__" s_NoText___init__ fa_NoText___init__ fd_NoText___init__
  b_NoText___init__ : Binds K fd_NoText___init__ ["self", "line"] []
  ox_NoText : OexC K A.NoText
  oi_NoText : PySem.W.findIn K (.ref A.NoText) "__init__" = some (some (.ref fa_NoText___init__))
  ot_NoText : PySem.W.typeIn K (.ref fa_NoText___init__) = some (.type "function")
  xn_NoText_line : PySem.W.findIn K (.ref A.NoText) "line" = some none
  xf_NoText : XfC K A.NoText
  xe_NoText : ExcC K A.NoText
  xm_NoText_LotError : PySem.W.exmOne K (.ref A.NoText) (.ref A.LotError) = some true
  kt_NoText_NoText : PySem.W.kitOne K (.ref A.NoText) (.ref A.NoText) = some true
  kt_NoText_ValueError : PySem.W.kitOne K (.ref A.NoText) (.type "ValueError") = some true
  gc_NoText : mg "NoText" = some (.ref A.NoText)
  gc_LotError : mg "LotError" = some (.ref A.LotError)
  is_Arrows : IsC K A.Arrows
  eq_Arrows : EqC K A.Arrows fa_Arrows___eq__
  cl_Arrows : Cls K A.Arrows
  gc_Arrows : mg "Arrows" = some (.ref A.Arrows)
  mk_Arrows : Mk K A.Arrows fa_Arrows___init__
  na_Arrows_known : NoAttr K A.Arrows "known"
  na_Arrows_leading : NoAttr K A.Arrows "leading"
  t_LETTERS : Tok
  c_LETTERS : mg "LETTERS" = some (.str "abcdefghijklmnopqrstuvwxyz" t_LETTERS)
  t_MOST_LETTERS : Tok
  c_MOST_LETTERS : mg "MOST_LETTERS" = some (.int 8 t_MOST_LETTERS)
  t_MOST_THINGS : Tok
  c_MOST_THINGS : mg "MOST_THINGS" = some (.int 24 t_MOST_THINGS)
  t_MOST_PLACES : Tok
  c_MOST_PLACES : mg "MOST_PLACES" = some (.int 16 t_MOST_PLACES)
  t_ARROWS : Tok
  c_ARROWS : mg "ARROWS" = some (.str "arrows" t_ARROWS)
  t_PLACES : Tok
  c_PLACES : mg "PLACES" = some (.str "places" t_PLACES)
  t_ARROW : Tok
  c_ARROW : mg "ARROW" = some (.str "arrow" t_ARROW)
  b_ValueError : mg "ValueError" = none
  b_abs : mg "abs" = none
  b_all : mg "all" = none
  b_any : mg "any" = none
  b_bool : mg "bool" = none
  b_dict : mg "dict" = none
  b_enumerate : mg "enumerate" = none
  b_int : mg "int" = none
  b_isinstance : mg "isinstance" = none
  b_len : mg "len" = none
  b_list : mg "list" = none
  b_range : mg "range" = none
  b_set : mg "set" = none
  b_sorted : mg "sorted" = none
  b_str : mg "str" = none
  b_tuple : mg "tuple" = none
  b_zip : mg "zip" = none
section
variable {P : Program} {w : World} {K : PySem.W.Frag} {mg : Str → Option Value} {base : Heap} {A : CA}
theorem tb_ok (T : TX K mg A) : ∀ t ∈ tb_exc A, ∀ cv, clsV t.2.1 = some cv → PySem.W.kitOne K (.ref t.1) cv = some t.2.2 := by
  intro t ht cv hc
  simp only [tb_exc, List.mem_cons, List.not_mem_nil, or_false] at ht
  rcases ht with rfl | rfl
  · cases hc; exact T.kt_NoText_NoText
  · cases hc; exact T.kt_NoText_ValueError
theorem ok_NoText___init__ (T : TX K mg A) : FnOk P w K mg base (L2.CX P w) 1 T.fa_NoText___init__ T.fd_NoText___init__ ["self", "line"] (spX A.NoText "line") := by
  refine' fn_exc T.F_NoText___init__ T.ox_NoText T.xn_NoText_line ?hb ?hs ?hbody ?S ?hv0 ?hv1 rfl rfl
  case hb => (conv => lhs; whnf)
  case hs => (conv => lhs; whnf)
  case hbody => rfl
  case hv0 => rfl
  case hv1 => rfl
  case S => exact ⟨rfl, rfl, rfl, by decide +kernel, rfl, by decide +kernel, by decide +kernel⟩
theorem ok_is_name (T : TX K mg A) : FnOk P w K mg base (L2.CX P w) 1 T.fa_is_name T.fd_is_name ["thing"] (spD K 1 (m_is_name A)) :=
  by
  refine' fn_mk2 (N := N_is_name) (keep := [true]) (m := bb_is_name A) T.F_is_name ?hb ?hs ?S rfl rfl ?hB
  case hb => (conv => lhs; whnf)
  case hs => (conv => lhs; whnf)
  case S => exact ⟨rfl, rfl, rfl, by decide +kernel, rfl, by decide +kernel, by decide +kernel⟩
  case hB =>
    intro cdv _ _ _ _ _ c
    unfold bb_is_name
    exact (dss_cons (dst_if (DW.t (dw_or (dt_not (dt_val (dv_callN call_isiA isi_call T.b_isinstance (by decide +kernel) (da_cons (dv_rd 0) (da_cons (dv_ty T.b_str (by decide +kernel)) da_nil))))) (dw_or1 (dt_not (dt_chain op_leA ord_op2 op_leA ord_op2 dv_int (dv_callB call_lenA len_call T.b_len (by decide +kernel) (dr_pk 0)) (DV.toR (dv_gint T.c_MOST_LETTERS))))))) (dss_one (dst_ret (dv_bl).toE)) dss_nil)
  (dss_one (dst_ret ((dv_callB (cr_all c.calm) all_call T.b_all (by decide +kernel) (DV.toR ((de_lc (own := [("letter", 1)]) (keep := [true, false]) c (di_seq (dv_rd 0)) (blkOk_by (by dsimp only [cxOf, envOfC]; decide +kernel)) (fun i => (dg_name 1 (c.blk i).nd)) (fun i => (dv_cmp (op_inA (c.blk i).hu) in_op2 (by rfl) (dv_rd 1) (DV.toR (dv_gstr T.c_LETTERS)))))).toV))).toE)))
theorem ok_need_places (T : TX K mg A) : FnOk P w K mg base (L2.CX P w) 2 T.fa_need_places T.fd_need_places ["places"] (spD K 1 (m_need_places A)) :=
  by
  refine' fn_mk2 (N := N_need_places) (keep := [true]) (m := bb_need_places A) T.F_need_places ?hb ?hs ?S rfl rfl ?hB
  case hb => (conv => lhs; whnf)
  case hs => (conv => lhs; whnf)
  case S => exact ⟨rfl, rfl, rfl, by decide +kernel, rfl, by decide +kernel, by decide +kernel⟩
  case hB =>
    intro cdv _ _ _ _ _ c
    unfold bb_need_places
    exact (dss_cons (dst_if (dt_not (dt_chain op_leA ord_op2 op_leA ord_op2 dv_int (dv_callB call_lenA len_call T.b_len (by decide +kernel) (dr_pk 0)) (DV.toR (dv_gint T.c_MOST_PLACES)))) (dss_one dst_never) dss_nil)
  (dss_cons (dst_for c.own c.calm (di_enum (da_cons (dv_rd 0) da_nil) T.b_enumerate) (dg_tup c.calm (dgs_cons (dg_name 1 c.nd) (dgs_cons (dg_name 2 c.nd) dgs_nil))) (dss_one (dst_if (DW.t (dw_or (dt_not (dt_val ((de_call c (ok_is_name T) (by decide) T.g_is_name T.F_is_name.kp T.b_is_name (dag_ev (dv_rd 2) dag_nil))).toV)) (dw_or1 (dt_cmp (op_inA c.hu) in_op2 (by rfl) (dv_rd 2) (DV.toR ((de_slN 0 dp_none (dp_some (dv_rd 1)))).toV))))) (dss_one dst_never) dss_nil)))
  (dss_one (dst_ret ((dv_tuple T.b_tuple ((de_callB (call_sortA c.calm) sort_call T.b_sorted (by decide +kernel) (dr_pk 0))).toV)).toE))))
theorem ok_is_pair (T : TX K mg A) : FnOk P w K mg base (L2.CX P w) 1 T.fa_is_pair T.fd_is_pair ["known", "thing"] (spD K 2 (m_is_pair A)) :=
  by
  refine' fn_mk2 (N := N_is_pair) (keep := [true, true]) (m := bb_is_pair A) T.F_is_pair ?hb ?hs ?S rfl rfl ?hB
  case hb => (conv => lhs; whnf)
  case hs => (conv => lhs; whnf)
  case S => exact ⟨rfl, rfl, rfl, by decide +kernel, rfl, by decide +kernel, by decide +kernel⟩
  case hB =>
    intro cdv _ _ _ _ _ c
    unfold bb_is_pair
    exact (dss_cons (dst_if (DW.t (dw_or (dt_not (dt_val (dv_callN call_isiA isi_call T.b_isinstance (by decide +kernel) (da_cons (dv_rd 1) (da_cons (dv_ty T.b_tuple (by decide +kernel)) da_nil))))) (dw_or1 (dt_cmp (op_neA c.hu65) ne_op2 (nomark _) (dv_callB call_lenA len_call T.b_len (by decide +kernel) (dr_pk 1)) (DV.toR dv_int))))) (dss_one (dst_ret (dv_bl).toE)) dss_nil)
  (dss_one (dst_ret ((dv_callB (cr_all c.calm) all_call T.b_all (by decide +kernel) (DV.toR ((de_lc (own := [("place", 2)]) (keep := [true, true, false]) c (di_seq (dv_rd 1)) (blkOk_by (by dsimp only [cxOf, envOfC]; decide +kernel)) (fun i => (dg_name 2 (c.blk i).nd)) (fun i => (dv_and (dv_callN call_isiA isi_call T.b_isinstance (by decide +kernel) (da_cons (dv_rd 2) (da_cons (dv_ty T.b_str (by decide +kernel)) da_nil))) (dv_one (dv_cmp (op_inA (c.blk i).hu) in_op2 (by rfl) (dv_rd 2) (dr_pk 0))))))).toV))).toE)))
theorem ok_Arrows___init__ (T : TX K mg A) : FnOk P w K mg base (L2.CX P w) 3 T.fa_Arrows___init__ T.fd_Arrows___init__ ["self", "places", "arrows"] (spD K 3 (m_Arrows___init__ A)) :=
  by
  refine' fn_mk2 (N := N_Arrows___init__) (keep := [true, true, true]) (m := bb_Arrows___init__ A) T.F_Arrows___init__ ?hb ?hs ?S rfl rfl ?hB
  case hb => (conv => lhs; whnf)
  case hs => (conv => lhs; whnf)
  case S => exact ⟨rfl, rfl, rfl, by decide +kernel, rfl, by decide +kernel, by decide +kernel⟩
  case hB =>
    intro cdv _ _ _ _ _ c
    unfold bb_Arrows___init__
    exact (dss_cons (dst_fld 0 T.cl_Arrows T.na_Arrows_known ((de_call c (ok_need_places T) (by decide) T.g_need_places T.F_need_places.kp T.b_need_places (dag_ev (dv_rd 1) dag_nil))).toV)
  (dss_cons (dst_for c.own c.calm (di_seq ((de_callB (call_sortA c.calm) sort_call T.b_sorted (by decide +kernel) (DV.toR ((de_callTy (call_listA c.calm) list_call T.b_list (by decide +kernel) (dr_pk 2))).toV))).toV) (dg_name 3 c.nd) (dss_one (dst_if (DW.t (dw_or (dt_not (dt_val ((de_call c (ok_is_name T) (by decide) T.g_is_name T.F_is_name.kp T.b_is_name (dag_ev (dv_rd 3) dag_nil))).toV)) (dw_or (dt_not (dt_val ((de_call c (ok_is_pair T) (by decide) T.g_is_pair T.F_is_pair.kp T.b_is_pair (dag_ev (dv_fld T.cl_Arrows T.na_Arrows_known (dr_pk 0)) (dag_ev (dv_ixN 2 c.hu (dv_rd 3)) dag_nil)))).toV)) (dw_or1 (dt_cmp (op_eqA c.hu65) eq_op2 (nomark _) (dv_ix c.hu (dv_ixN 2 c.hu (dv_rd 3)) dv_int) (DV.toR (dv_ix c.hu (dv_ixN 2 c.hu (dv_rd 3)) dv_int))))))) (dss_one dst_never) dss_nil)))
  (dss_cons (dst_if (dt_cmp op_gtA ord_op2 (nomark _) (dv_callB call_lenA len_call T.b_len (by decide +kernel) (dr_pk 2)) (DV.toR (dv_gint T.c_MOST_THINGS))) (dss_one dst_never) dss_nil)
  (dss_one (dst_fld 0 T.cl_Arrows T.na_Arrows_leading ((de_dc (own := [("name", 3)]) (keep := [true, true, true, false]) c (di_seq ((de_callB (call_sortA c.calm) sort_call T.b_sorted (by decide +kernel) (DV.toR ((de_callTy (call_listA c.calm) list_call T.b_list (by decide +kernel) (dr_pk 2))).toV))).toV) (blkOk_by (by dsimp only [cxOf, envOfC]; decide +kernel)) (fun i => (dg_name 3 (c.blk i).nd)) (fun i => (dv_rd 3)) (fun i => (dv_tuple T.b_tuple (dv_ixN 2 (c.blk i).hu (dv_rd 3)))))).toV)))))
theorem ok_Arrows_places (T : TX K mg A) : FnOk P w K mg base (L2.CX P w) 1 T.fa_Arrows_places T.fd_Arrows_places ["self"] (spD K 1 (m_Arrows_places A)) :=
  by
  refine' fn_mk2 (N := N_Arrows_places) (keep := [true]) (m := bb_Arrows_places A) T.F_Arrows_places ?hb ?hs ?S rfl rfl ?hB
  case hb => (conv => lhs; whnf)
  case hs => (conv => lhs; whnf)
  case S => exact ⟨rfl, rfl, rfl, by decide +kernel, rfl, by decide +kernel, by decide +kernel⟩
  case hB =>
    intro cdv _ _ _ _ _ c
    unfold bb_Arrows_places
    exact (dss_one (dst_ret (de_callTy (call_listA c.calm) list_call T.b_list (by decide +kernel) (DV.toR (dv_fld T.cl_Arrows T.na_Arrows_known (dr_pk 0))))))
theorem ok_Arrows_arrows (T : TX K mg A) : FnOk P w K mg base (L2.CX P w) 1 T.fa_Arrows_arrows T.fd_Arrows_arrows ["self"] (spD K 1 (m_Arrows_arrows A)) :=
  by
  refine' fn_mk2 (N := N_Arrows_arrows) (keep := [true]) (m := bb_Arrows_arrows A) T.F_Arrows_arrows ?hb ?hs ?S rfl rfl ?hB
  case hb => (conv => lhs; whnf)
  case hs => (conv => lhs; whnf)
  case S => exact ⟨rfl, rfl, rfl, by decide +kernel, rfl, by decide +kernel, by decide +kernel⟩
  case hB =>
    intro cdv _ _ _ _ _ c
    unfold bb_Arrows_arrows
    exact (dss_one (dst_ret (de_callTy (call_dictA c.calm) dict_call T.b_dict (by decide +kernel) (DV.toR (dv_fld T.cl_Arrows T.na_Arrows_leading (dr_pk 0))))))
theorem ok_Arrows_arrow (T : TX K mg A) : FnOk P w K mg base (L2.CX P w) 1 T.fa_Arrows_arrow T.fd_Arrows_arrow ["self", "name"] (spD K 2 (m_Arrows_arrow A)) :=
  by
  refine' fn_mk2 (N := N_Arrows_arrow) (keep := [true, true]) (m := bb_Arrows_arrow A) T.F_Arrows_arrow ?hb ?hs ?S rfl rfl ?hB
  case hb => (conv => lhs; whnf)
  case hs => (conv => lhs; whnf)
  case S => exact ⟨rfl, rfl, rfl, by decide +kernel, rfl, by decide +kernel, by decide +kernel⟩
  case hB =>
    intro cdv _ _ _ _ _ c
    unfold bb_Arrows_arrow
    exact (dss_cons (dst_if (dt_cmp (op_ninA c.hu) nin_op2 (by rfl) (dv_rd 1) (DV.toR (dv_fld T.cl_Arrows T.na_Arrows_leading (dr_pk 0)))) (dss_one dst_never) dss_nil)
  (dss_one (dst_ret ((dv_ix c.hu (dv_fld T.cl_Arrows T.na_Arrows_leading (dr_pk 0)) (dv_rd 1))).toE)))
theorem ok_Arrows___eq__ (T : TX K mg A) : FnOk P w K mg base (L2.CX P w) 1 T.fa_Arrows___eq__ T.fd_Arrows___eq__ ["self", "other"] (spD K 2 (m_Arrows___eq__ A)) :=
  by
  refine' fn_mk2 (N := N_Arrows___eq__) (keep := [true, true]) (m := bb_Arrows___eq__ A) T.F_Arrows___eq__ ?hb ?hs ?S rfl rfl ?hB
  case hb => (conv => lhs; whnf)
  case hs => (conv => lhs; whnf)
  case S => exact ⟨rfl, rfl, rfl, by decide +kernel, rfl, by decide +kernel, by decide +kernel⟩
  case hB =>
    intro cdv _ _ _ _ _ c
    unfold bb_Arrows___eq__
    exact (dss_one (dst_ret ((dv_and (dv_callN call_isiA (isiC_call T.is_Arrows) T.b_isinstance (by decide +kernel) (da_cons (dv_rd 1) (da_cons (dv_gcls T.gc_Arrows) da_nil))) (dv_and (dv_cmp (op_eqA c.hu65) eq_op2 (nomark _) (dv_fld T.cl_Arrows T.na_Arrows_known (dr_pk 0)) (DV.toR (dv_fld T.cl_Arrows T.na_Arrows_known (dr_pk 1)))) (dv_one (dv_cmp (op_eqA c.hu65) eq_op2 (nomark _) (dv_fld T.cl_Arrows T.na_Arrows_leading (dr_pk 0)) (DV.toR (dv_fld T.cl_Arrows T.na_Arrows_leading (dr_pk 1)))))))).toE))
theorem ok_arrows_text (T : TX K mg A) : FnOk P w K mg base (L2.CX P w) 1 T.fa_arrows_text T.fd_arrows_text ["arrows"] (spD K 1 (m_arrows_text A)) :=
  by
  refine' fn_mk2 (N := N_arrows_text) (keep := [true]) (m := bb_arrows_text A) T.F_arrows_text ?hb ?hs ?S rfl rfl ?hB
  case hb => (conv => lhs; whnf)
  case hs => (conv => lhs; whnf)
  case S => exact ⟨rfl, rfl, rfl, by decide +kernel, rfl, by decide +kernel, by decide +kernel⟩
  case hB =>
    intro cdv _ _ _ _ _ c
    unfold bb_arrows_text
    exact (dss_cons (dst_set 1 c.nd (de_lst (da_cons (dv_gstr T.c_ARROWS) (da_cons (dv_join dv_str (DV.toR ((de_lst (da_cons (dv_gstr T.c_PLACES) (da_star (dv_fld T.cl_Arrows T.na_Arrows_known (dr_pk 0)) da_nil)))).toV)) da_nil))))
  (dss_cons (dst_forK c (dk_fld T.cl_Arrows T.na_Arrows_leading (dk_rdN 0)) (dg_name 2 c.nd) (dss_one (dst_expr (de_mut 1 PySem.F.slot_list_append PySem.F.type_list_append mt_append append_mut (da_cons (dv_join dv_str (DV.toR ((de_lst (da_cons (dv_gstr T.c_ARROW) (da_cons (dv_rd 2) (da_star (dv_ix c.hu (dv_fld T.cl_Arrows T.na_Arrows_leading (dr_pk 0)) (dv_rd 2)) da_nil))))).toV)) da_nil)))))
  (dss_one (dst_ret ((dv_join dv_str (dr_pk 1))).toE))))
theorem ok_read_places (T : TX K mg A) : FnOk P w K mg base (L2.CX P w) 2 T.fa_read_places T.fd_read_places ["line"] (spD K 1 (m_read_places A)) :=
  by
  refine' fn_mk2 (N := N_read_places) (keep := [true]) (m := bb_read_places A) T.F_read_places ?hb ?hs ?S rfl rfl ?hB
  case hb => (conv => lhs; whnf)
  case hs => (conv => lhs; whnf)
  case S => exact ⟨rfl, rfl, rfl, by decide +kernel, rfl, by decide +kernel, by decide +kernel⟩
  case hB =>
    intro cdv _ _ _ _ _ c
    unfold bb_read_places
    exact (dss_cons (dst_set 1 c.nd (de_split (dv_rd 0) (DV.toR dv_str)))
  (dss_cons (dst_if (DW.t (dw_or (dt_cmp (op_neA c.hu65) ne_op2 (nomark _) (dv_ixN 1 c.hu dv_int) (DV.toR (dv_gstr T.c_PLACES))) (dw_or (dt_not (dt_chain op_leA ord_op2 op_leA ord_op2 dv_int (dv_callB call_lenA len_call T.b_len (by decide +kernel) (dr_pk 1)) (DV.toR ((de_bin op_addA add_op2 (dv_gint T.c_MOST_PLACES) (DV.toR dv_int))).toV))) (dw_or1 (dt_not (dt_val (dv_callB (cr_all c.calm) all_call T.b_all (by decide +kernel) (DV.toR ((de_lc (own := [("word", 2)]) (keep := [true, true, false]) c (di_seq ((de_slN 1 (dp_some dv_int) dp_none)).toV) (blkOk_by (by dsimp only [cxOf, envOfC]; decide +kernel)) (fun i => (dg_name 2 (c.blk i).nd)) (fun i => ((de_call (c.blk i) (ok_is_name T) (by decide) T.g_is_name T.F_is_name.kp T.b_is_name (dag_ev (dv_rd 2) dag_nil))).toV))).toV)))))))) (dss_one (dst_ret (dv_non).toE)) dss_nil)
  (dss_one (dst_ret (de_if (dt_cmp (op_eqA c.hu65) eq_op2 (nomark _) ((de_slN 1 (dp_some dv_int) dp_none)).toV (DV.toR ((de_setSort c.calm T.b_sorted (by decide +kernel) T.b_set (by decide +kernel) (DV.toR ((de_slN 1 (dp_some dv_int) dp_none)).toV))).toV)) (de_slN 1 (dp_some dv_int) dp_none) (dv_non).toE)))))
theorem ok_read_arrow (T : TX K mg A) : FnOk P w K mg base (L2.CX P w) 2 T.fa_read_arrow T.fd_read_arrow ["places", "found", "line"] (spD K 3 (m_read_arrow A)) :=
  by
  refine' fn_mk2 (N := N_read_arrow) (keep := [true, true, true]) (m := bb_read_arrow A) T.F_read_arrow ?hb ?hs ?S rfl rfl ?hB
  case hb => (conv => lhs; whnf)
  case hs => (conv => lhs; whnf)
  case S => exact ⟨rfl, rfl, rfl, by decide +kernel, rfl, by decide +kernel, by decide +kernel⟩
  case hB =>
    intro cdv _ _ _ _ _ c
    unfold bb_read_arrow
    exact (dss_cons (dst_set 3 c.nd (de_split (dv_rd 2) (DV.toR dv_str)))
  (dss_cons (dst_if (DW.t (dw_or (dt_cmp (op_neA c.hu65) ne_op2 (nomark _) (dv_callB call_lenA len_call T.b_len (by decide +kernel) (dr_pk 3)) (DV.toR dv_int)) (dw_or (dt_cmp (op_neA c.hu65) ne_op2 (nomark _) (dv_ixN 3 c.hu dv_int) (DV.toR (dv_gstr T.c_ARROW))) (dw_or (dt_not (dt_val ((de_call c (ok_is_name T) (by decide) T.g_is_name T.F_is_name.kp T.b_is_name (dag_ev (dv_ixN 3 c.hu dv_int) dag_nil))).toV)) (dw_or1 (dt_cmp op_geA ord_op2 (nomark _) (dv_callB call_lenA len_call T.b_len (by decide +kernel) (dr_pk 1)) (DV.toR (dv_gint T.c_MOST_THINGS)))))))) (dss_one (dst_ret (dv_non).toE)) dss_nil)
  (dss_cons (dst_if (DW.t (dw_or (dt_cmp (op_ninA c.hu) nin_op2 (by rfl) (dv_ixN 3 c.hu dv_int) (dr_pk 0)) (dw_or (dt_cmp (op_ninA c.hu) nin_op2 (by rfl) (dv_ixN 3 c.hu dv_int) (dr_pk 0)) (dw_or1 (dt_cmp (op_eqA c.hu65) eq_op2 (nomark _) (dv_ixN 3 c.hu dv_int) (DV.toR (dv_ixN 3 c.hu dv_int))))))) (dss_one (dst_ret (dv_non).toE)) dss_nil)
  (dss_cons (dst_if (dt_val (dv_callB (cr_any c.calm) any_call T.b_any (by decide +kernel) (DV.toR ((de_lcKO (own := [("name", 4)]) (keep := [true, true, true, true, false]) 1 c (blkOk_by (by dsimp only [cxOf, envOfC]; decide +kernel)) (fun i => (dg_name 4 (c.blk i).nd)) (fun i => (dv_cmp op_geA ord_op2 (nomark _) (dv_rd 4) (DV.toR (dv_ixN 3 (c.blk i).hu dv_int)))))).toV))) (dss_one (dst_ret (dv_non).toE)) dss_nil)
  (dss_one (dst_ret ((dv_tup (da_cons (dv_ixN 3 c.hu dv_int) (da_cons (dv_ixN 3 c.hu dv_int) (da_cons (dv_ixN 3 c.hu dv_int) da_nil))))).toE))))))
theorem ok_read_arrows (T : TX K mg A) : FnOk P w K mg base (L2.CX P w) 5 T.fa_read_arrows T.fd_read_arrows ["text"] (spD K 1 (m_read_arrows A)) :=
  by
  refine' fn_mk2 (N := N_read_arrows) (keep := [true]) (m := bb_read_arrows A) T.F_read_arrows ?hb ?hs ?S rfl rfl ?hB
  case hb => (conv => lhs; whnf)
  case hs => (conv => lhs; whnf)
  case S => exact ⟨rfl, rfl, rfl, by decide +kernel, rfl, by decide +kernel, by decide +kernel⟩
  case hB =>
    intro cdv _ _ _ _ _ c
    unfold bb_read_arrows
    exact (dss_cons (dst_if (dt_not (dt_val (dv_callN call_isiA isi_call T.b_isinstance (by decide +kernel) (da_cons (dv_rd 0) (da_cons (dv_ty T.b_str (by decide +kernel)) da_nil))))) (dss_one (dst_raise c T.ox_NoText T.oi_NoText T.ot_NoText (ok_NoText___init__ T) (by decide) T.b_NoText___init__ T.gc_NoText (da_cons dv_int da_nil))) dss_nil)
  (dss_cons (dst_set 1 c.nd (de_split (dv_rd 0) (DV.toR dv_str)))
  (dss_cons (dst_if (dt_cmp (op_neA c.hu65) ne_op2 (nomark _) (dv_ixN 1 c.hu dv_int) (DV.toR (dv_gstr T.c_ARROWS))) (dss_one (dst_raise c T.ox_NoText T.oi_NoText T.ot_NoText (ok_NoText___init__ T) (by decide) T.b_NoText___init__ T.gc_NoText (da_cons dv_int da_nil))) dss_nil)
  (dss_cons (dst_set 2 c.nd (de_if (dt_cmp op_gtA ord_op2 (nomark _) (dv_callB call_lenA len_call T.b_len (by decide +kernel) (dr_pk 1)) (DV.toR dv_int)) (de_call c (ok_read_places T) (by decide) T.g_read_places T.F_read_places.kp T.b_read_places (dag_ev (dv_ixN 1 c.hu dv_int) dag_nil)) (dv_non).toE))
  (dss_cons (dst_if (dt_cmp op_isN isN_op2 (nomark _) (dv_rd 2) (DV.toR dv_non)) (dss_one (dst_raise c T.ox_NoText T.oi_NoText T.ot_NoText (ok_NoText___init__ T) (by decide) T.b_NoText___init__ T.gc_NoText (da_cons dv_int da_nil))) dss_nil)
  (dss_cons (dst_set 3 c.nd de_dnew)
  (dss_cons (dst_for c.own c.calm (di_enum (da_cons ((de_slN 1 (dp_some dv_int) dp_none)).toV da_nil) T.b_enumerate) (dg_tup c.calm (dgs_cons (dg_name 4 c.nd) (dgs_cons (dg_name 5 c.nd) dgs_nil))) (dss_cons (dst_set 6 c.nd (de_call c (ok_read_arrow T) (by decide) T.g_read_arrow T.F_read_arrow.kp T.b_read_arrow (dag_ev (dv_rd 2) (dag_by 3 (dag_ev (dv_rd 5) dag_nil)))))
  (dss_cons (dst_if (dt_cmp op_isN isN_op2 (nomark _) (dv_rd 6) (DV.toR dv_non)) (dss_one (dst_raise c T.ox_NoText T.oi_NoText T.ot_NoText (ok_NoText___init__ T) (by decide) T.b_NoText___init__ T.gc_NoText (da_cons ((de_bin op_addA add_op2 (dv_rd 4) (DV.toR dv_int))).toV da_nil))) dss_nil)
  (dss_one (dst_asg (dv_tup (da_cons (dv_ixN 6 c.hu dv_int) (da_cons (dv_ixN 6 c.hu dv_int) da_nil))) (dg_sub (W := W0) 3 c.hu (dv_ixN 6 c.hu dv_int)))))))
  (dss_one (dst_ret (de_make c T.mk_Arrows (ok_Arrows___init__ T) (by decide) T.gc_Arrows T.b_Arrows___init__ (dag_ev (dv_rd 2) (dag_by 3 dag_nil))))))))))))
theorem ok_turning_text (T : TX K mg A) : FnOk P w K mg base (L2.CX P w) 1 T.fa_turning_text T.fd_turning_text ["turning"] (spD K 1 (m_turning_text A)) :=
  by
  refine' fn_mk2 (N := N_turning_text) (keep := [true]) (m := bb_turning_text A) T.F_turning_text ?hb ?hs ?S rfl rfl ?hB
  case hb => (conv => lhs; whnf)
  case hs => (conv => lhs; whnf)
  case S => exact ⟨rfl, rfl, rfl, by decide +kernel, rfl, by decide +kernel, by decide +kernel⟩
  case hB =>
    intro cdv _ _ _ _ _ c
    unfold bb_turning_text
    exact (dss_one (dst_ret ((dv_join dv_str (DV.toR ((de_lc (own := [("tie", 1)]) (keep := [true, false]) c (di_seq ((de_callB (call_sortA c.calm) sort_call T.b_sorted (by decide +kernel) (DV.toR ((de_callTy (call_listA c.calm) list_call T.b_list (by decide +kernel) (dr_pk 0))).toV))).toV) (blkOk_by (by dsimp only [cxOf, envOfC]; decide +kernel)) (fun i => (dg_name 1 (c.blk i).nd)) (fun i => (dv_fstr (DJ.cons (dv_fmt (dv_rd 1)) (DJ.cons dv_str (DJ.cons (dv_fmt (dv_ix (c.blk i).hu (dv_ixN 0 (c.blk i).hu (dv_rd 1)) dv_int)) (DJ.cons dv_str (DJ.cons (dv_fmt (dv_ix (c.blk i).hu (dv_ixN 0 (c.blk i).hu (dv_rd 1)) dv_int)) DJ.nil))))))))).toV))).toE))
theorem ok__law_hand (T : TX K mg A) : FnOk P w K mg base (L2.CX P w) 1 T.fa__law_hand T.fd__law_hand ["script"] (spD K 1 (m__law_hand A)) :=
  by
  refine' fn_mk2 (N := N__law_hand) (keep := [true]) (m := bb__law_hand A) T.F__law_hand ?hb ?hs ?S rfl rfl ?hB
  case hb => (conv => lhs; whnf)
  case hs => (conv => lhs; whnf)
  case S => exact ⟨rfl, rfl, rfl, by decide +kernel, rfl, by decide +kernel, by decide +kernel⟩
  case hB =>
    intro cdv _ _ _ _ _ c
    unfold bb__law_hand
    exact (dss_one (dst_ret (de_lst (da_cons ((de_lc (own := [("cell", 1)]) (keep := [true, false]) c (di_seq ((de_slN 0 dp_none (dp_some dv_int))).toV) (blkOk_by (by dsimp only [cxOf, envOfC]; decide +kernel)) (fun i => (dg_name 1 (c.blk i).nd)) (fun i => (dv_callB call_abs abs_call T.b_abs (by decide +kernel) (DV.toR (dv_callTy call_int1 int_call T.b_int (by decide +kernel) (dr_pk 1))))))).toV (da_cons dv_int (da_cons dv_int (da_cons ((de_bin op_addA add_op2 dv_int (DV.toR (dv_bin op_mul mul_op2 dv_int (DV.toR (dv_callB call_lenA len_call T.b_len (by decide +kernel) (DV.toR ((de_slN 0 dp_none (dp_some dv_int))).toV))))))).toV (da_cons dv_int da_nil))))))))
theorem ok__law_draw (T : TX K mg A) : FnOk P w K mg base (L2.CX P w) 1 T.fa__law_draw T.fd__law_draw ["hand", "many"] (spD K 2 (m__law_draw A)) :=
  by
  refine' fn_mk2 (N := N__law_draw) (keep := [true, true]) (m := bb__law_draw A) T.F__law_draw ?hb ?hs ?S rfl rfl ?hB
  case hb => (conv => lhs; whnf)
  case hs => (conv => lhs; whnf)
  case S => exact ⟨rfl, rfl, rfl, by decide +kernel, rfl, by decide +kernel, by decide +kernel⟩
  case hB =>
    intro cdv _ _ _ _ _ c
    unfold bb__law_draw
    exact (dss_cons (dst_if (DW.t (dw_and (dt_cmp (op_eqA c.hu65) eq_op2 (nomark _) (dv_ixN 0 c.hu dv_int) (DV.toR dv_int)) (dw_and1 (dt_cmp op_ltA ord_op2 (nomark _) (dv_ixN 0 c.hu dv_int) (DV.toR (dv_callB call_lenA len_call T.b_len (by decide +kernel) (DV.toR (dv_ixN 0 c.hu dv_int)))))))) (dss_cons (dst_set 2 c.nd ((dv_ix c.hu (dv_ixN 0 c.hu dv_int) (dv_ixN 0 c.hu dv_int))).toE)
  (dss_cons (dst_asg ((de_bin op_addA add_op2 (dv_ixN 0 c.hu dv_int) (DV.toR dv_int))).toV (dg_sub (W := W0) 0 c.hu dv_int))
  (dss_cons (dst_asg (dv_bin op_mod mod_op2 (dv_callTy call_int1 int_call T.b_int (by decide +kernel) (DV.toR ((de_bin op_addA add_op2 ((de_bin op_addA add_op2 (dv_bin op_mul mul_op2 (dv_ixN 0 c.hu dv_int) (DV.toR dv_int)) (DV.toR (dv_bin op_mul mul_op2 (dv_rd 2) (DV.toR dv_int))))).toV (DV.toR dv_int))).toV)) (DV.toR dv_int)) (dg_sub (W := W0) 0 c.hu dv_int))
  (dss_one (dst_if (dt_cmp op_geA ord_op2 (nomark _) (dv_rd 2) (DV.toR (dv_bin op_pow pow_op2 dv_int (DV.toR dv_int)))) (dss_one (dst_asg (dv_rd 2) (dg_sub (W := W0) 0 c.hu dv_int))) dss_nil))))) dss_nil)
  (dss_cons (dst_if (dt_cmp op_gtA ord_op2 (nomark _) (dv_ixN 0 c.hu dv_int) (DV.toR dv_int)) (dss_cons (dst_set 3 c.nd ((dv_bin op_mod mod_op2 (dv_callTy call_int1 int_call T.b_int (by decide +kernel) (DV.toR (dv_ixN 0 c.hu dv_int))) (dr_pk 1))).toE)
  (dss_cons (dst_asg (dv_bin op_fdiv div_op2 (dv_ixN 0 c.hu dv_int) (dr_pk 1)) (dg_sub (W := W0) 0 c.hu dv_int))
  (dss_one (dst_ret (de_mv 3))))) dss_nil)
  (dss_cons (dst_asg ((de_bin op_addA add_op2 (dv_ixN 0 c.hu dv_int) (DV.toR dv_int))).toV (dg_sub (W := W0) 0 c.hu dv_int))
  (dss_cons (dst_set 4 c.nd ((dv_bin op_mod mod_op2 (dv_callTy call_int1 int_call T.b_int (by decide +kernel) (DV.toR (dv_bin op_mul mul_op2 (dv_callTy call_int1 int_call T.b_int (by decide +kernel) (DV.toR ((de_bin op_addA add_op2 (dv_ixN 0 c.hu dv_int) (DV.toR (dv_bin op_mul mul_op2 dv_int (DV.toR (dv_ixN 0 c.hu dv_int)))))).toV)) (DV.toR dv_int)))) (DV.toR dv_int))).toE)
  (dss_cons (dst_set 4 c.nd ((dv_bin op_mod mod_op2 (dv_callTy call_int1 int_call T.b_int (by decide +kernel) (DV.toR (dv_bin op_mul mul_op2 (dv_rd 4) (DV.toR ((de_bin op_addA add_op2 (dv_bin op_fdiv div_op2 (dv_rd 4) (DV.toR dv_int)) (DV.toR dv_int))).toV)))) (DV.toR dv_int))).toE)
  (dss_cons (dst_set 4 c.nd ((dv_bin op_mod mod_op2 (dv_callTy call_int1 int_call T.b_int (by decide +kernel) (DV.toR (dv_bin op_mul mul_op2 (dv_rd 4) (DV.toR ((de_bin op_addA add_op2 (dv_bin op_fdiv div_op2 (dv_rd 4) (DV.toR dv_int)) (DV.toR dv_int))).toV)))) (DV.toR dv_int))).toE)
  (dss_one (dst_ret ((dv_bin op_mod mod_op2 (dv_callTy call_int1 int_call T.b_int (by decide +kernel) (DV.toR (dv_bin op_fdiv div_op2 (dv_rd 4) (DV.toR dv_int)))) (dr_pk 1))).toE))))))))
theorem ok__law_any (T : TX K mg A) : FnOk P w K mg base (L2.CX P w) 2 T.fa__law_any T.fd__law_any ["hand", "some"] (spD K 2 (m__law_any A)) :=
  by
  refine' fn_mk2 (N := N__law_any) (keep := [true, true]) (m := bb__law_any A) T.F__law_any ?hb ?hs ?S rfl rfl ?hB
  case hb => (conv => lhs; whnf)
  case hs => (conv => lhs; whnf)
  case S => exact ⟨rfl, rfl, rfl, by decide +kernel, rfl, by decide +kernel, by decide +kernel⟩
  case hB =>
    intro cdv _ _ _ _ _ c
    unfold bb__law_any
    exact (dss_one (dst_ret ((dv_ixN 1 c.hu ((de_call c (ok__law_draw T) (by decide) T.g__law_draw T.F__law_draw.kp T.b__law_draw (dag_by 0 (dag_ev (dv_callB call_lenA len_call T.b_len (by decide +kernel) (dr_pk 1)) dag_nil)))).toV)).toE))
theorem ok__law_mixed (T : TX K mg A) : FnOk P w K mg base (L2.CX P w) 2 T.fa__law_mixed T.fd__law_mixed ["hand", "some"] (spD K 2 (m__law_mixed A)) :=
  by
  refine' fn_mk2 (N := N__law_mixed) (keep := [true, true]) (m := bb__law_mixed A) T.F__law_mixed ?hb ?hs ?S rfl rfl ?hB
  case hb => (conv => lhs; whnf)
  case hs => (conv => lhs; whnf)
  case S => exact ⟨rfl, rfl, rfl, by decide +kernel, rfl, by decide +kernel, by decide +kernel⟩
  case hB =>
    intro cdv _ _ _ _ _ c
    unfold bb__law_mixed
    exact (dss_cons (dst_par 2 3 c.calm c.nd (das_cons (de_callTy (call_listA c.calm) list_call T.b_list (by decide +kernel) (dr_pk 1)) (das_cons (de_lst da_nil) das_nil)))
  (dss_cons (dst_while c.own (dt_cmp op_gtA ord_op2 (nomark _) (dv_callB call_lenA len_call T.b_len (by decide +kernel) (dr_pk 2)) (DV.toR dv_int)) (dss_one (dst_expr (de_mut 3 PySem.F.slot_list_append PySem.F.type_list_append mt_append append_mut (da_cons ((de_mut 2 PySem.F.slot_list_pop PySem.F.type_list_pop mt_popAt popAt_mut (da_cons ((de_call c (ok__law_draw T) (by decide) T.g__law_draw T.F__law_draw.kp T.b__law_draw (dag_by 0 (dag_ev (dv_callB call_lenA len_call T.b_len (by decide +kernel) (dr_pk 2)) dag_nil)))).toV da_nil))).toV da_nil)))))
  (dss_one (dst_ret (de_mv 3)))))
theorem okr__law_same (T : TX K mg A) : ∀ n : Nat, FnOk P w K mg base (L2.CX P w) (n + 1) T.fa__law_same T.fd__law_same ["one", "due"] (spD K 2 (mm__law_same A n))
  | 0 => fn_none
  | n' + 1 => by
    have REC := okr__law_same T n'
    refine' fn_mk2 (N := N__law_same) (keep := [true, true]) (m := bb__law_same A (mm__law_same A n')) T.F__law_same ?hb ?hs ?S rfl rfl ?hB
    case hb => (conv => lhs; whnf)
    case hs => (conv => lhs; whnf)
    case S => exact ⟨rfl, rfl, rfl, by decide +kernel, rfl, by decide +kernel, by decide +kernel⟩
    case hB =>
      intro cdv _ _ _ _ _ c
      unfold bb__law_same
      exact (dss_cons (dst_if (dt_val (dv_callN call_isiA isi_call T.b_isinstance (by decide +kernel) (da_cons (dv_rd 1) (da_cons (dv_tup (da_cons (dv_ty T.b_tuple (by decide +kernel)) (da_cons (dv_ty T.b_list (by decide +kernel)) da_nil))) da_nil)))) (dss_cons (dst_if (DW.t (dw_or (dt_cmp (op_neA c.hu65) ne_op2 (nomark _) (dv_callN call_isiA isi_call T.b_isinstance (by decide +kernel) (da_cons (dv_rd 0) (da_cons (dv_ty T.b_tuple (by decide +kernel)) da_nil))) (DV.toR (dv_callN call_isiA isi_call T.b_isinstance (by decide +kernel) (da_cons (dv_rd 1) (da_cons (dv_ty T.b_tuple (by decide +kernel)) da_nil))))) (dw_or1 (dt_not (dt_val (dv_callN call_isiA isi_call T.b_isinstance (by decide +kernel) (da_cons (dv_rd 0) (da_cons (dv_tup (da_cons (dv_ty T.b_tuple (by decide +kernel)) (da_cons (dv_ty T.b_list (by decide +kernel)) da_nil))) da_nil)))))))) (dss_one (dst_ret (dv_bl).toE)) dss_nil)
  (dss_one (dst_ret ((dv_and (dv_cmp (op_eqA c.hu65) eq_op2 (nomark _) (dv_callB call_lenA len_call T.b_len (by decide +kernel) (dr_pk 0)) (DV.toR (dv_callB call_lenA len_call T.b_len (by decide +kernel) (dr_pk 1)))) (dv_one (dv_callB (cr_all c.calm) all_call T.b_all (by decide +kernel) (DV.toR ((de_lc (own := [("a", 2), ("b", 3)]) (keep := [true, true, false, false]) c (di_zip (da_cons (dv_rd 0) (da_cons (dv_rd 1) da_nil)) T.b_zip) (blkOk_by (by dsimp only [cxOf, envOfC]; decide +kernel)) (fun i => (dg_tup (c.blk i).calm (dgs_cons (dg_name 2 (c.blk i).nd) (dgs_cons (dg_name 3 (c.blk i).nd) dgs_nil)))) (fun i => ((de_call (c.blk i) REC (Nat.le_refl _) T.g__law_same T.F__law_same.kp T.b__law_same (dag_ev (dv_rd 2) (dag_ev (dv_rd 3) dag_nil)))).toV))).toV))))).toE))) dss_nil)
  (dss_cons (dst_if (DW.t (dw_or (dt_val (dv_callN call_isiA isi_call T.b_isinstance (by decide +kernel) (da_cons (dv_rd 1) (da_cons (dv_ty T.b_bool (by decide +kernel)) da_nil)))) (dw_or (dt_val (dv_callN call_isiA isi_call T.b_isinstance (by decide +kernel) (da_cons (dv_rd 0) (da_cons (dv_ty T.b_bool (by decide +kernel)) da_nil)))) (dw_or (dt_cmp op_isN isN_op2 (nomark _) (dv_rd 1) (DV.toR dv_non)) (dw_or1 (dt_cmp op_isN isN_op2 (nomark _) (dv_rd 0) (DV.toR dv_non))))))) (dss_one (dst_ret ((dv_and (dv_cmp (op_eqA c.hu65) eq_op2 (nomark _) (dv_callN call_isiA isi_call T.b_isinstance (by decide +kernel) (da_cons (dv_rd 0) (da_cons (dv_ty T.b_bool (by decide +kernel)) da_nil))) (DV.toR (dv_callN call_isiA isi_call T.b_isinstance (by decide +kernel) (da_cons (dv_rd 1) (da_cons (dv_ty T.b_bool (by decide +kernel)) da_nil))))) (dv_and (dv_cmp (op_eqA c.hu65) eq_op2 (nomark _) (dv_cmp op_isN isN_op2 (nomark _) (dv_rd 0) (DV.toR dv_non)) (DV.toR (dv_cmp op_isN isN_op2 (nomark _) (dv_rd 1) (DV.toR dv_non)))) (dv_one (dv_cmp (op_eqA c.hu65) eq_op2 (nomark _) (dv_rd 0) (dr_pk 1)))))).toE)) dss_nil)
  (dss_one (dst_ret ((dv_and (dv_cmp (op_eqA c.hu65) eq_op2 (nomark _) (dv_callN call_isiA isi_call T.b_isinstance (by decide +kernel) (da_cons (dv_rd 0) (da_cons (dv_ty T.b_str (by decide +kernel)) da_nil))) (DV.toR (dv_callN call_isiA isi_call T.b_isinstance (by decide +kernel) (da_cons (dv_rd 1) (da_cons (dv_ty T.b_str (by decide +kernel)) da_nil))))) (dv_and (dv_callN call_isiA isi_call T.b_isinstance (by decide +kernel) (da_cons (dv_rd 0) (da_cons (dv_tup (da_cons (dv_ty T.b_int (by decide +kernel)) (da_cons (dv_ty T.b_str (by decide +kernel)) da_nil))) da_nil))) (dv_one (dv_cmp (op_eqA c.hu65) eq_op2 (nomark _) (dv_rd 0) (dr_pk 1)))))).toE))))
theorem ok__law_same (T : TX K mg A) : FnOk P w K mg base (L2.CX P w) 5 T.fa__law_same T.fd__law_same ["one", "due"] (spD K 2 (m__law_same A)) := okr__law_same T 4
theorem ok__law_names (T : TX K mg A) : FnOk P w K mg base (L2.CX P w) 3 T.fa__law_names T.fd__law_names ["hand", "many"] (spD K 2 (m__law_names A)) :=
  by
  refine' fn_mk2 (N := N__law_names) (keep := [true, true]) (m := bb__law_names A) T.F__law_names ?hb ?hs ?S rfl rfl ?hB
  case hb => (conv => lhs; whnf)
  case hs => (conv => lhs; whnf)
  case S => exact ⟨rfl, rfl, rfl, by decide +kernel, rfl, by decide +kernel, by decide +kernel⟩
  case hB =>
    intro cdv _ _ _ _ _ c
    unfold bb__law_names
    exact (dss_cons (dst_set 2 c.nd (de_lst da_nil))
  (dss_cons (dst_while c.own (dt_cmp op_ltA ord_op2 (nomark _) (dv_callB call_lenA len_call T.b_len (by decide +kernel) (dr_pk 2)) (dr_pk 1)) (dss_cons (dst_set 3 c.nd (de_call c (ok__law_any T) (by decide) T.g__law_any T.F__law_any.kp T.b__law_any (dag_by 0 (dag_ev ((de_lst (da_cons dv_int (da_cons dv_int (da_cons dv_int (da_cons dv_int da_nil)))))).toV dag_nil))))
  (dss_cons (dst_set 4 c.nd ((dv_join dv_str (DV.toR ((de_lc (own := [("turn", 5)]) (keep := [true, true, true, true, true, false]) c (di_range1 (da_cons (dv_rd 3) da_nil) T.b_range) (blkOk_by (by dsimp only [cxOf, envOfC]; decide +kernel)) (fun i => (dg_name 5 (c.blk i).nd)) (fun i => ((de_call (c.blk i) (ok__law_any T) (by decide) T.g__law_any T.F__law_any.kp T.b__law_any (dag_by 0 (dag_ev dv_str dag_nil)))).toV))).toV))).toE)
  (dss_cons (dst_if (dt_cmp (op_inA c.hu) in_op2 (by rfl) (dv_rd 4) (dr_pk 2)) (dss_one (dst_set 4 c.nd (de_bin op_addA add_op2 dv_str (DV.toR (dv_ix c.hu dv_str (dv_callB call_lenA len_call T.b_len (by decide +kernel) (dr_pk 2))))))) dss_nil)
  (dss_one (dst_expr (de_mut 2 PySem.F.slot_list_append PySem.F.type_list_append mt_append append_mut (da_cons (dv_rd 4) da_nil))))))))
  (dss_one (dst_ret (de_mv 2)))))
theorem ok__law_drawn (T : TX K mg A) : FnOk P w K mg base (L2.CX P w) 4 T.fa__law_drawn T.fd__law_drawn ["hand"] (spD K 1 (m__law_drawn A)) :=
  by
  refine' fn_mk2 (N := N__law_drawn) (keep := [true]) (m := bb__law_drawn A) T.F__law_drawn ?hb ?hs ?S rfl rfl ?hB
  case hb => (conv => lhs; whnf)
  case hs => (conv => lhs; whnf)
  case S => exact ⟨rfl, rfl, rfl, by decide +kernel, rfl, by decide +kernel, by decide +kernel⟩
  case hB =>
    intro cdv _ _ _ _ _ c
    unfold bb__law_drawn
    exact (dss_cons (dst_set 1 c.nd (de_call c (ok__law_names T) (by decide) T.g__law_names T.F__law_names.kp T.b__law_names (dag_by 0 (dag_ev ((de_bin op_addA add_op2 dv_int (DV.toR ((de_call c (ok__law_draw T) (by decide) T.g__law_draw T.F__law_draw.kp T.b__law_draw (dag_by 0 (dag_ev ((de_call c (ok__law_any T) (by decide) T.g__law_any T.F__law_any.kp T.b__law_any (dag_by 0 (dag_ev ((de_lst (da_cons dv_int (da_cons dv_int (da_cons dv_int da_nil))))).toV dag_nil)))).toV dag_nil)))).toV))).toV dag_nil))))
  (dss_cons (dst_set 2 c.nd de_dnew)
  (dss_cons (dst_if (dt_cmp op_gtA ord_op2 (nomark _) (dv_callB call_lenA len_call T.b_len (by decide +kernel) (dr_pk 1)) (DV.toR dv_int)) (dss_one (dst_for c.own c.calm (di_seq ((de_call c (ok__law_names T) (by decide) T.g__law_names T.F__law_names.kp T.b__law_names (dag_by 0 (dag_ev ((de_call c (ok__law_draw T) (by decide) T.g__law_draw T.F__law_draw.kp T.b__law_draw (dag_by 0 (dag_ev ((de_call c (ok__law_any T) (by decide) T.g__law_any T.F__law_any.kp T.b__law_any (dag_by 0 (dag_ev ((de_lst (da_cons dv_int (da_cons dv_int (da_cons dv_int da_nil))))).toV dag_nil)))).toV dag_nil)))).toV dag_nil)))).toV) (dg_name 3 c.nd) (dss_one (dst_asg (dv_tuple T.b_tuple ((de_sl ((de_call c (ok__law_mixed T) (by decide) T.g__law_mixed T.F__law_mixed.kp T.b__law_mixed (dag_by 0 (dag_ev (dv_rd 1) dag_nil)))).toV dp_none (dp_some dv_int))).toV) (dg_sub (W := W0) 2 c.hu (dv_rd 3)))))) dss_nil)
  (dss_one (dst_ret ((dv_tup (da_cons (dv_rd 1) (da_cons (dv_rd 2) da_nil)))).toE)))))
theorem ok__law_text (T : TX K mg A) : FnOk P w K mg base (L2.CX P w) 1 T.fa__law_text T.fd__law_text ["places", "arrows"] (spD K 2 (m__law_text A)) :=
  by
  refine' fn_mk2 (N := N__law_text) (keep := [true, true]) (m := bb__law_text A) T.F__law_text ?hb ?hs ?S rfl rfl ?hB
  case hb => (conv => lhs; whnf)
  case hs => (conv => lhs; whnf)
  case S => exact ⟨rfl, rfl, rfl, by decide +kernel, rfl, by decide +kernel, by decide +kernel⟩
  case hB =>
    intro cdv _ _ _ _ _ c
    unfold bb__law_text
    exact (dss_cons (dst_set 2 c.nd (de_lst (da_cons dv_str (da_cons ((de_bin op_addA add_op2 dv_str (DV.toR (dv_join dv_str (DV.toR ((de_callB (call_sortA c.calm) sort_call T.b_sorted (by decide +kernel) (dr_pk 0))).toV))))).toV da_nil))))
  (dss_cons (dst_for c.own c.calm (di_seq ((de_callB (call_sortA c.calm) sort_call T.b_sorted (by decide +kernel) (dr_pk 1))).toV) (dg_name 3 c.nd) (dss_one (dst_expr (de_mut 2 PySem.F.slot_list_append PySem.F.type_list_append mt_append append_mut (da_cons ((de_bin op_addA add_op2 ((de_bin op_addA add_op2 ((de_bin op_addA add_op2 ((de_bin op_addA add_op2 ((de_bin op_addA add_op2 dv_str (dr_pk 3))).toV (DV.toR dv_str))).toV (DV.toR (dv_ix c.hu (dv_ixN 1 c.hu (dv_rd 3)) dv_int)))).toV (DV.toR dv_str))).toV (DV.toR (dv_ix c.hu (dv_ixN 1 c.hu (dv_rd 3)) dv_int)))).toV da_nil)))))
  (dss_one (dst_ret ((dv_join dv_str (dr_pk 2))).toE))))
theorem ok__law_is_name (T : TX K mg A) : FnOk P w K mg base (L2.CX P w) 1 T.fa__law_is_name T.fd__law_is_name ["word"] (spD K 1 (m__law_is_name A)) :=
  by
  refine' fn_mk2 (N := N__law_is_name) (keep := [true]) (m := bb__law_is_name A) T.F__law_is_name ?hb ?hs ?S rfl rfl ?hB
  case hb => (conv => lhs; whnf)
  case hs => (conv => lhs; whnf)
  case S => exact ⟨rfl, rfl, rfl, by decide +kernel, rfl, by decide +kernel, by decide +kernel⟩
  case hB =>
    intro cdv _ _ _ _ _ c
    unfold bb__law_is_name
    exact (dss_one (dst_ret ((dv_and (dv_chain op_leA ord_op2 op_leA ord_op2 dv_int (dv_callB call_lenA len_call T.b_len (by decide +kernel) (dr_pk 0)) (DV.toR dv_int)) (dv_one (dv_callB (cr_all c.calm) all_call T.b_all (by decide +kernel) (DV.toR ((de_lc (own := [("sign", 1)]) (keep := [true, false]) c (di_seq (dv_rd 0)) (blkOk_by (by dsimp only [cxOf, envOfC]; decide +kernel)) (fun i => (dg_name 1 (c.blk i).nd)) (fun i => (dv_cmp (op_inA (c.blk i).hu) in_op2 (by rfl) (dv_rd 1) (DV.toR dv_str))))).toV))))).toE))
theorem ok__law_read (T : TX K mg A) : FnOk P w K mg base (L2.CX P w) 2 T.fa__law_read T.fd__law_read ["text"] (spD K 1 (m__law_read A)) :=
  by
  refine' fn_mk2 (N := N__law_read) (keep := [true]) (m := bb__law_read A) T.F__law_read ?hb ?hs ?S rfl rfl ?hB
  case hb => (conv => lhs; whnf)
  case hs => (conv => lhs; whnf)
  case S => exact ⟨rfl, rfl, rfl, by decide +kernel, rfl, by decide +kernel, by decide +kernel⟩
  case hB =>
    intro cdv _ _ _ _ _ c
    unfold bb__law_read
    exact (dss_cons (dst_set 1 c.nd (de_split (dv_rd 0) (DV.toR dv_str)))
  (dss_cons (dst_if (dt_cmp (op_neA c.hu65) ne_op2 (nomark _) (dv_ixN 1 c.hu dv_int) (DV.toR dv_str)) (dss_one (dst_ret ((dv_tup (da_cons dv_str (da_cons dv_int da_nil)))).toE)) dss_nil)
  (dss_cons (dst_if (dt_cmp (op_eqA c.hu65) eq_op2 (nomark _) (dv_callB call_lenA len_call T.b_len (by decide +kernel) (dr_pk 1)) (DV.toR dv_int)) (dss_one (dst_ret ((dv_tup (da_cons dv_str (da_cons dv_int da_nil)))).toE)) dss_nil)
  (dss_cons (dst_set 2 c.nd (de_split (dv_ixN 1 c.hu dv_int) (DV.toR dv_str)))
  (dss_cons (dst_set 3 c.nd (de_slN 2 (dp_some dv_int) dp_none))
  (dss_cons (dst_if (DW.t (dw_or (dt_cmp (op_neA c.hu65) ne_op2 (nomark _) (dv_ixN 2 c.hu dv_int) (DV.toR dv_str)) (dw_or (dt_not (dt_chain op_leA ord_op2 op_leA ord_op2 dv_int (dv_callB call_lenA len_call T.b_len (by decide +kernel) (dr_pk 3)) (DV.toR dv_int))) (dw_or1 (dt_not (dt_val (dv_callB (cr_all c.calm) all_call T.b_all (by decide +kernel) (DV.toR ((de_lc (own := [("word", 8)]) (keep := [true, true, true, true, true, true, true, true, false, true, true]) c (di_seq (dv_rd 3)) (blkOk_by (by dsimp only [cxOf, envOfC]; decide +kernel)) (fun i => (dg_name 8 (c.blk i).nd)) (fun i => ((de_call (c.blk i) (ok__law_is_name T) (by decide) T.g__law_is_name T.F__law_is_name.kp T.b__law_is_name (dag_ev (dv_rd 8) dag_nil))).toV))).toV)))))))) (dss_one (dst_ret ((dv_tup (da_cons dv_str (da_cons dv_int da_nil)))).toE)) dss_nil)
  (dss_cons (dst_if (dt_not (dt_val (dv_callB (cr_all c.calm) all_call T.b_all (by decide +kernel) (DV.toR ((de_lc (own := [("one", 9), ("other", 10)]) (keep := [true, true, true, true, true, true, true, true, true, false, false]) c (di_zip (da_cons (dv_rd 3) (da_cons ((de_slN 3 (dp_some dv_int) dp_none)).toV da_nil)) T.b_zip) (blkOk_by (by dsimp only [cxOf, envOfC]; decide +kernel)) (fun i => (dg_tup (c.blk i).calm (dgs_cons (dg_name 9 (c.blk i).nd) (dgs_cons (dg_name 10 (c.blk i).nd) dgs_nil)))) (fun i => (dv_cmp op_ltA ord_op2 (nomark _) (dv_rd 9) (dr_pk 10))))).toV)))) (dss_one (dst_ret ((dv_tup (da_cons dv_str (da_cons dv_int da_nil)))).toE)) dss_nil)
  (dss_cons (dst_par 4 5 c.calm c.nd (das_cons de_dnew (das_cons (dv_str).toE das_nil)))
  (dss_cons (dst_for c.own c.calm (di_enum (da_cons ((de_slN 1 (dp_some dv_int) dp_none)).toV da_nil) T.b_enumerate) (dg_tup c.calm (dgs_cons (dg_name 6 c.nd) (dgs_cons (dg_name 7 c.nd) dgs_nil))) (dss_cons (dst_set 2 c.nd (de_split (dv_rd 7) (DV.toR dv_str)))
  (dss_cons (dst_if (DW.t (dw_or (dt_cmp (op_neA c.hu65) ne_op2 (nomark _) (dv_callB call_lenA len_call T.b_len (by decide +kernel) (dr_pk 2)) (DV.toR dv_int)) (dw_or (dt_cmp (op_neA c.hu65) ne_op2 (nomark _) (dv_ixN 2 c.hu dv_int) (DV.toR dv_str)) (dw_or (dt_not (dt_val ((de_call c (ok__law_is_name T) (by decide) T.g__law_is_name T.F__law_is_name.kp T.b__law_is_name (dag_ev (dv_ixN 2 c.hu dv_int) dag_nil))).toV)) (dw_or (dt_cmp op_leA ord_op2 (nomark _) (dv_ixN 2 c.hu dv_int) (dr_pk 5)) (dw_or1 (dt_cmp (op_eqA c.hu65) eq_op2 (nomark _) (dv_rd 6) (DV.toR dv_int)))))))) (dss_one (dst_ret ((dv_tup (da_cons dv_str (da_cons ((de_bin op_addA add_op2 (dv_rd 6) (DV.toR dv_int))).toV da_nil)))).toE)) dss_nil)
  (dss_cons (dst_if (DW.t (dw_or (dt_cmp (op_ninA c.hu) nin_op2 (by rfl) (dv_ixN 2 c.hu dv_int) (dr_pk 3)) (dw_or (dt_cmp (op_ninA c.hu) nin_op2 (by rfl) (dv_ixN 2 c.hu dv_int) (dr_pk 3)) (dw_or1 (dt_cmp (op_eqA c.hu65) eq_op2 (nomark _) (dv_ixN 2 c.hu dv_int) (DV.toR (dv_ixN 2 c.hu dv_int))))))) (dss_one (dst_ret ((dv_tup (da_cons dv_str (da_cons ((de_bin op_addA add_op2 (dv_rd 6) (DV.toR dv_int))).toV da_nil)))).toE)) dss_nil)
  (dss_one (dst_asg (dv_tup (da_cons (dv_tup (da_cons (dv_ixN 2 c.hu dv_int) (da_cons (dv_ixN 2 c.hu dv_int) da_nil))) (da_cons (dv_ixN 2 c.hu dv_int) da_nil))) (dg_tup c.calm (dgs_cons (dg_sub (W := W0) 4 c.hu (dv_ixN 2 c.hu dv_int)) (dgs_cons (dg_name 5 c.nd) dgs_nil)))))))))
  (dss_one (dst_ret ((dv_tup (da_cons dv_str (da_cons (dv_rd 3) (da_cons (dv_rd 4) da_nil))))).toE)))))))))))
theorem ok__law_said (T : TX K mg A) : FnOk P w K mg base (L2.CX P w) 6 T.fa__law_said T.fd__law_said ["thing"] (spD K 1 (m__law_said A)) :=
  by
  refine' fn_mk2 (N := N__law_said) (keep := [true]) (m := bb__law_said A) T.F__law_said ?hb ?hs ?S rfl rfl ?hB
  case hb => (conv => lhs; whnf)
  case hs => (conv => lhs; whnf)
  case S => exact ⟨rfl, rfl, rfl, by decide +kernel, rfl, by decide +kernel, by decide +kernel⟩
  case hB =>
    intro cdv _ _ _ _ _ c
    unfold bb__law_said
    exact (dss_cons (dst_try (Cs := [A.NoText]) 2 c (mg_names T.gc_LotError) (all1 (P := fun C => PySem.W.exmOne K (.ref C) (.ref A.LotError) = some true) T.xm_NoText_LotError all0) (fun W' pn xe c => (dss_one (dst_set 1 c.nd (de_call c (ok_read_arrows T) (by decide) T.g_read_arrows T.F_read_arrows.kp T.b_read_arrows (dag_ev (dv_rd 0) dag_nil))))) (fun a oe C d pn hC hz hf => (dss_one (dst_ret (de_if (DW.t (dw_and (dt_val (dv_callN (call_isX ((all1 (P := fun C => ExcC K C) T.xe_NoText all0) C hC) hz hf) (isX_call (tb_ok T)) T.b_isinstance (by decide +kernel) (da_cons (dv_rd 2) (da_cons (dv_gcls T.gc_NoText) da_nil)))) (dw_and1 (dt_val (dv_callN (call_isX ((all1 (P := fun C => ExcC K C) T.xe_NoText all0) C hC) hz hf) (isX_call (tb_ok T)) T.b_isinstance (by decide +kernel) (da_cons (dv_rd 2) (da_cons (dv_ty T.b_ValueError (by decide +kernel)) da_nil))))))) ((dv_tup (da_cons dv_str (da_cons (dv_xf ((all1 (P := fun C => XfC K C) T.xf_NoText all0) C hC) ((all1 (P := fun C => PySem.W.findIn K (.ref C) "line" = some none) T.xn_NoText_line all0) C hC) hz hf (dv_rd 2)) da_nil)))).toE ((dv_tup (da_cons dv_str da_nil))).toE)))))
  (dss_one (dst_ret ((dv_tup (da_cons dv_str (da_cons ((de_methV0 c T.cl_Arrows T.me_Arrows_places (ok_Arrows_places T) (by decide) T.b_Arrows_places (dv_rd 1))).toV (da_cons ((de_methV0 c T.cl_Arrows T.me_Arrows_arrows (ok_Arrows_arrows T) (by decide) T.b_Arrows_arrows (dv_rd 1))).toV da_nil))))).toE)))
theorem ok__law_bent (T : TX K mg A) : FnOk P w K mg base (L2.CX P w) 3 T.fa__law_bent T.fd__law_bent ["hand", "text"] (spD K 2 (m__law_bent A)) :=
  by
  refine' fn_mk2 (N := N__law_bent) (keep := [true, true]) (m := bb__law_bent A) T.F__law_bent ?hb ?hs ?S rfl rfl ?hB
  case hb => (conv => lhs; whnf)
  case hs => (conv => lhs; whnf)
  case S => exact ⟨rfl, rfl, rfl, by decide +kernel, rfl, by decide +kernel, by decide +kernel⟩
  case hB =>
    intro cdv _ _ _ _ _ c
    unfold bb__law_bent
    exact (dss_cons (dst_par 2 3 c.calm c.nd (das_cons (de_split (dv_rd 1) (DV.toR dv_str)) (das_cons (de_call c (ok__law_draw T) (by decide) T.g__law_draw T.F__law_draw.kp T.b__law_draw (dag_by 0 (dag_ev dv_int dag_nil))) das_nil)))
  (dss_cons (dst_par 4 5 c.calm c.nd (das_cons (de_call c (ok__law_draw T) (by decide) T.g__law_draw T.F__law_draw.kp T.b__law_draw (dag_by 0 (dag_ev (dv_callB call_lenA len_call T.b_len (by decide +kernel) (dr_pk 2)) dag_nil))) (das_cons (de_call c (ok__law_draw T) (by decide) T.g__law_draw T.F__law_draw.kp T.b__law_draw (dag_by 0 (dag_ev ((de_bin op_addA add_op2 (dv_callB call_lenA len_call T.b_len (by decide +kernel) (dr_pk 1)) (DV.toR dv_int))).toV dag_nil))) das_nil)))
  (dss_cons (dst_set 6 c.nd (de_call c (ok__law_any T) (by decide) T.g__law_any T.F__law_any.kp T.b__law_any (dag_by 0 (dag_ev ((de_lst (da_cons dv_str (da_cons dv_str (da_cons dv_str (da_cons dv_str (da_cons dv_str (da_cons dv_str (da_cons dv_str (da_cons dv_str (da_cons dv_str (da_cons dv_str (da_cons dv_str da_nil))))))))))))).toV dag_nil))))
  (dss_cons (dst_if (dt_cmp (op_eqA c.hu65) eq_op2 (nomark _) (dv_rd 3) (DV.toR dv_int)) (dss_one (dst_ret (de_bin op_addA add_op2 ((de_bin op_addA add_op2 ((de_slN 1 dp_none (dp_some (dv_rd 5)))).toV (dr_pk 6))).toV (DV.toR ((de_slN 1 (dp_some (dv_rd 5)) dp_none)).toV)))) dss_nil)
  (dss_cons (dst_if (dt_cmp (op_eqA c.hu65) eq_op2 (nomark _) (dv_rd 3) (DV.toR dv_int)) (dss_one (dst_ret (de_bin op_addA add_op2 ((de_bin op_addA add_op2 ((de_slN 1 dp_none (dp_some (dv_rd 5)))).toV (dr_pk 6))).toV (DV.toR ((de_slN 1 (dp_some ((de_bin op_addA add_op2 (dv_rd 5) (DV.toR dv_int))).toV) dp_none)).toV)))) dss_nil)
  (dss_cons (dst_if (dt_cmp (op_eqA c.hu65) eq_op2 (nomark _) (dv_rd 3) (DV.toR dv_int)) (dss_one (dst_ret (de_slN 1 dp_none (dp_some (dv_rd 5))))) dss_nil)
  (dss_cons (dst_set 7 c.nd (de_call c (ok__law_draw T) (by decide) T.g__law_draw T.F__law_draw.kp T.b__law_draw (dag_by 0 (dag_ev (dv_callB call_lenA len_call T.b_len (by decide +kernel) (dr_pk 2)) dag_nil))))
  (dss_cons (dst_if (dt_cmp (op_eqA c.hu65) eq_op2 (nomark _) (dv_rd 3) (DV.toR dv_int)) (dss_one (dst_asg (dv_tup (da_cons (dv_ixN 2 c.hu (dv_rd 7)) (da_cons (dv_ixN 2 c.hu (dv_rd 4)) da_nil))) (dg_tup c.calm (dgs_cons (dg_sub (W := W0) 2 c.hu (dv_rd 4)) (dgs_cons (dg_sub (W := W0) 2 c.hu (dv_rd 7)) dgs_nil))))) (dss_one (dst_if (dt_cmp (op_eqA c.hu65) eq_op2 (nomark _) (dv_rd 3) (DV.toR dv_int)) (dss_one (dst_expr (de_mut 2 PySem.F.slot_list_insert PySem.F.type_list_insert mt_insert insert_mut (da_cons (dv_rd 4) (da_cons (dv_ixN 2 c.hu (dv_rd 7)) da_nil))))) (dss_cons (dst_set 8 c.nd (de_split (dv_ixN 2 c.hu (dv_rd 4)) (DV.toR dv_str)))
  (dss_cons (dst_par 9 10 c.calm c.nd (das_cons (de_call c (ok__law_draw T) (by decide) T.g__law_draw T.F__law_draw.kp T.b__law_draw (dag_by 0 (dag_ev (dv_callB call_lenA len_call T.b_len (by decide +kernel) (dr_pk 8)) dag_nil))) (das_cons (de_call c (ok__law_draw T) (by decide) T.g__law_draw T.F__law_draw.kp T.b__law_draw (dag_by 0 (dag_ev (dv_callB call_lenA len_call T.b_len (by decide +kernel) (dr_pk 8)) dag_nil))) das_nil)))
  (dss_cons (dst_asg ((de_call c (ok__law_any T) (by decide) T.g__law_any T.F__law_any.kp T.b__law_any (dag_by 0 (dag_ev ((de_lst (da_cons (dv_ixN 8 c.hu (dv_rd 10)) (da_cons dv_str (da_cons dv_str (da_cons dv_str (da_cons dv_str (da_cons dv_str da_nil)))))))).toV dag_nil)))).toV (dg_sub (W := W0) 8 c.hu (dv_rd 9)))
  (dss_one (dst_asg (dv_join dv_str (dr_pk 8)) (dg_sub (W := W0) 2 c.hu (dv_rd 4))))))))))
  (dss_one (dst_ret ((dv_join dv_str (dr_pk 2))).toE))))))))))
theorem ok__law_is_told (T : TX K mg A) : FnOk P w K mg base (L2.CX P w) 7 T.fa__law_is_told T.fd__law_is_told ["thing"] (spD K 1 (m__law_is_told A)) :=
  by
  refine' fn_mk2 (N := N__law_is_told) (keep := [true]) (m := bb__law_is_told A) T.F__law_is_told ?hb ?hs ?S rfl rfl ?hB
  case hb => (conv => lhs; whnf)
  case hs => (conv => lhs; whnf)
  case S => exact ⟨rfl, rfl, rfl, by decide +kernel, rfl, by decide +kernel, by decide +kernel⟩
  case hB =>
    intro cdv _ _ _ _ _ c
    unfold bb__law_is_told
    exact (dss_cons (dst_par 1 2 c.calm c.nd (das_cons (de_call c (ok__law_read T) (by decide) T.g__law_read T.F__law_read.kp T.b__law_read (dag_ev (dv_rd 0) dag_nil)) (das_cons (de_call c (ok__law_said T) (by decide) T.g__law_said T.F__law_said.kp T.b__law_said (dag_ev (dv_rd 0) dag_nil)) das_nil)))
  (dss_cons (dst_if (dt_cmp (op_eqA c.hu65) eq_op2 (nomark _) (dv_ixN 1 c.hu dv_int) (DV.toR dv_str)) (dss_one (dst_ret (de_call c (ok__law_same T) (by decide) T.g__law_same T.F__law_same.kp T.b__law_same (dag_ev (dv_rd 2) (dag_ev (dv_rd 1) dag_nil))))) dss_nil)
  (dss_cons (dst_if (DW.t (dw_or (dt_cmp (op_neA c.hu65) ne_op2 (nomark _) (dv_ixN 2 c.hu dv_int) (DV.toR dv_str)) (dw_or (dt_not (dt_val ((de_call c (ok__law_same T) (by decide) T.g__law_same T.F__law_same.kp T.b__law_same (dag_ev (dv_ixN 2 c.hu dv_int) (dag_ev ((de_callB (call_sortA c.calm) sort_call T.b_sorted (by decide +kernel) (DV.toR (dv_ixN 1 c.hu dv_int)))).toV dag_nil)))).toV)) (dw_or1 (dt_cmp (op_neA c.hu65) ne_op2 (nomark _) (dv_ixN 2 c.hu dv_int) (DV.toR (dv_ixN 1 c.hu dv_int))))))) (dss_one (dst_ret (dv_bl).toE)) dss_nil)
  (dss_one (dst_ret ((dv_cmp (op_eqA c.hu65) eq_op2 (nomark _) ((de_call c (ok_arrows_text T) (by decide) T.g_arrows_text T.F_arrows_text.kp T.b_arrows_text (dag_ev ((de_call c (ok_read_arrows T) (by decide) T.g_read_arrows T.F_read_arrows.kp T.b_read_arrows (dag_ev (dv_rd 0) dag_nil))).toV dag_nil))).toV (dr_pk 0))).toE)))))
theorem ok__law_turning (T : TX K mg A) : FnOk P w K mg base (L2.CX P w) 4 T.fa__law_turning T.fd__law_turning ["hand", "places"] (spD K 2 (m__law_turning A)) :=
  by
  refine' fn_mk2 (N := N__law_turning) (keep := [true, true]) (m := bb__law_turning A) T.F__law_turning ?hb ?hs ?S rfl rfl ?hB
  case hb => (conv => lhs; whnf)
  case hs => (conv => lhs; whnf)
  case S => exact ⟨rfl, rfl, rfl, by decide +kernel, rfl, by decide +kernel, by decide +kernel⟩
  case hB =>
    intro cdv _ _ _ _ _ c
    unfold bb__law_turning
    exact (dss_cons (dst_par 2 3 c.calm c.nd (das_cons de_dnew (das_cons (de_lst da_nil) das_nil)))
  (dss_cons (dst_for c.own c.calm (di_seq ((de_call c (ok__law_names T) (by decide) T.g__law_names T.F__law_names.kp T.b__law_names (dag_by 0 (dag_ev ((de_call c (ok__law_draw T) (by decide) T.g__law_draw T.F__law_draw.kp T.b__law_draw (dag_by 0 (dag_ev dv_int dag_nil)))).toV dag_nil)))).toV) (dg_name 4 c.nd) (dss_one (dst_asg (dv_tup (da_cons ((de_call c (ok__law_any T) (by decide) T.g__law_any T.F__law_any.kp T.b__law_any (dag_by 0 (dag_ev (dv_rd 1) dag_nil)))).toV (da_cons ((de_call c (ok__law_any T) (by decide) T.g__law_any T.F__law_any.kp T.b__law_any (dag_by 0 (dag_ev (dv_rd 1) dag_nil)))).toV da_nil))) (dg_sub (W := W0) 2 c.hu (dv_rd 4)))))
  (dss_cons (dst_for c.own c.calm (di_seq ((de_callB (call_sortA c.calm) sort_call T.b_sorted (by decide +kernel) (dr_pk 2))).toV) (dg_name 4 c.nd) (dss_one (dst_expr (de_mut 3 PySem.F.slot_list_append PySem.F.type_list_append mt_append append_mut (da_cons ((de_bin op_addA add_op2 ((de_bin op_addA add_op2 ((de_bin op_addA add_op2 ((de_bin op_addA add_op2 (dv_rd 4) (DV.toR dv_str))).toV (DV.toR (dv_ix c.hu (dv_ixN 2 c.hu (dv_rd 4)) dv_int)))).toV (DV.toR dv_str))).toV (DV.toR (dv_ix c.hu (dv_ixN 2 c.hu (dv_rd 4)) dv_int)))).toV da_nil)))))
  (dss_one (dst_ret ((dv_tup (da_cons (dv_rd 2) (da_cons (dv_join dv_str (dr_pk 3)) da_nil)))).toE)))))
theorem ok_law (T : TX K mg A) : FnOk P w K mg base (L2.CX P w) 8 T.fa_law T.fd_law ["script"] (spD K 1 (m_law A)) :=
  by
  refine' fn_mk2 (N := N_law) (keep := [true]) (m := bb_law A) T.F_law ?hb ?hs ?S rfl rfl ?hB
  case hb => (conv => lhs; whnf)
  case hs => (conv => lhs; whnf)
  case S => exact ⟨rfl, rfl, rfl, by decide +kernel, rfl, by decide +kernel, by decide +kernel⟩
  case hB =>
    intro cdv _ _ _ _ _ c
    unfold bb_law
    exact (dss_cons (dst_set 1 c.nd (de_call c (ok__law_hand T) (by decide) T.g__law_hand T.F__law_hand.kp T.b__law_hand (dag_ev (dv_rd 0) dag_nil)))
  (dss_cons (dst_for c.own c.calm (di_range1 (da_cons dv_int da_nil) T.b_range) (dg_name 2 c.nd) (dss_cons (dst_asg ((de_call c (ok__law_drawn T) (by decide) T.g__law_drawn T.F__law_drawn.kp T.b__law_drawn (dag_by 1 dag_nil))).toV (dg_tup c.calm (dgs_cons (dg_name 3 c.nd) (dgs_cons (dg_name 4 c.nd) dgs_nil))))
  (dss_cons (dst_par 5 6 c.calm c.nd (das_cons (de_make c T.mk_Arrows (ok_Arrows___init__ T) (by decide) T.gc_Arrows T.b_Arrows___init__ (dag_ev ((de_call c (ok__law_mixed T) (by decide) T.g__law_mixed T.F__law_mixed.kp T.b__law_mixed (dag_by 1 (dag_ev (dv_rd 3) dag_nil)))).toV (dag_ev (dv_rd 4) dag_nil))) (das_cons (de_call c (ok__law_text T) (by decide) T.g__law_text T.F__law_text.kp T.b__law_text (dag_ev (dv_rd 3) (dag_ev (dv_rd 4) dag_nil))) das_nil)))
  (dss_cons (dst_if (DW.t (dw_or (dt_not (dt_val ((de_call c (ok__law_same T) (by decide) T.g__law_same T.F__law_same.kp T.b__law_same (dag_ev ((de_call c (ok_arrows_text T) (by decide) T.g_arrows_text T.F_arrows_text.kp T.b_arrows_text (dag_ev (dv_rd 5) dag_nil))).toV (dag_ev (dv_rd 6) dag_nil)))).toV)) (dw_or (dt_cmpF (op_neO T.eq_Arrows (ok_Arrows___eq__ T) T.b_Arrows___eq__ (c.room.mono (by decide))) neO_op (nomark _) ((de_call c (ok_read_arrows T) (by decide) T.g_read_arrows T.F_read_arrows.kp T.b_read_arrows (dag_ev (dv_rd 6) dag_nil))).toV (dv_rd 5)) (dw_or1 (dt_not (dt_val ((de_call c (ok__law_is_told T) (by decide) T.g__law_is_told T.F__law_is_told.kp T.b__law_is_told (dag_ev (dv_rd 6) dag_nil))).toV)))))) (dss_one (dst_ret (dv_bl).toE)) dss_nil)
  (dss_cons (dst_for c.own c.calm (di_range1 (da_cons dv_int da_nil) T.b_range) (dg_name 7 c.nd) (dss_cons (dst_set 8 c.nd (de_call c (ok__law_bent T) (by decide) T.g__law_bent T.F__law_bent.kp T.b__law_bent (dag_by 1 (dag_ev (dv_rd 6) dag_nil))))
  (dss_one (dst_if (DW.t (dw_or (dt_not (dt_val ((de_call c (ok__law_is_told T) (by decide) T.g__law_is_told T.F__law_is_told.kp T.b__law_is_told (dag_ev (dv_rd 8) dag_nil))).toV)) (dw_or1 (dt_not (dt_val ((de_call c (ok__law_is_told T) (by decide) T.g__law_is_told T.F__law_is_told.kp T.b__law_is_told (dag_ev ((de_call c (ok__law_bent T) (by decide) T.g__law_bent T.F__law_bent.kp T.b__law_bent (dag_by 1 (dag_ev (dv_rd 8) dag_nil)))).toV dag_nil))).toV))))) (dss_one (dst_ret (dv_bl).toE)) dss_nil))))
  (dss_cons (dst_set 9 c.nd (de_call c (ok__law_drawn T) (by decide) T.g__law_drawn T.F__law_drawn.kp T.b__law_drawn (dag_by 1 dag_nil)))
  (dss_cons (dst_if (dt_cmp (op_neA c.hu65) ne_op2 (nomark _) (dv_cmp (op_eqA c.hu65) eq_op2 (nomark _) ((de_call c (ok_arrows_text T) (by decide) T.g_arrows_text T.F_arrows_text.kp T.b_arrows_text (dag_ev ((de_make c T.mk_Arrows (ok_Arrows___init__ T) (by decide) T.gc_Arrows T.b_Arrows___init__ (dag_ev (dv_ixN 9 c.hu dv_int) (dag_ev (dv_ixN 9 c.hu dv_int) dag_nil)))).toV dag_nil))).toV (dr_pk 6)) (DV.toR (dv_cmp (op_eqA c.hu65) eq_op2 (nomark _) ((de_call c (ok__law_text T) (by decide) T.g__law_text T.F__law_text.kp T.b__law_text (dag_ev (dv_ixN 9 c.hu dv_int) (dag_ev (dv_ixN 9 c.hu dv_int) dag_nil)))).toV (dr_pk 6)))) (dss_one (dst_ret (dv_bl).toE)) dss_nil)
  (dss_cons (dst_set 10 c.nd (de_call c (ok__law_any T) (by decide) T.g__law_any T.F__law_any.kp T.b__law_any (dag_by 1 (dag_ev ((de_lst (da_cons dv_non (da_cons dv_int (da_cons dv_bl (da_cons ((de_lst (da_cons dv_str da_nil))).toV (da_cons (dv_tup (da_cons dv_str da_nil)) (da_cons (de_dnew).toV da_nil)))))))).toV dag_nil))))
  (dss_cons (dst_if (DW.t (dw_or (dt_cmp (op_neA c.hu65) ne_op2 (nomark _) ((de_call c (ok__law_said T) (by decide) T.g__law_said T.F__law_said.kp T.b__law_said (dag_ev (dv_rd 10) dag_nil))).toV (DV.toR (dv_tup (da_cons dv_str (da_cons dv_int da_nil))))) (dw_or (dt_cmp (op_neA c.hu65) ne_op2 (nomark _) ((de_call c (ok__law_said T) (by decide) T.g__law_said T.F__law_said.kp T.b__law_said (dag_ev dv_str dag_nil))).toV (DV.toR (dv_tup (da_cons dv_str (da_cons dv_int da_nil))))) (dw_or1 (dt_cmp (op_neA c.hu65) ne_op2 (nomark _) ((de_call c (ok__law_said T) (by decide) T.g__law_said T.F__law_said.kp T.b__law_said (dag_ev dv_str dag_nil))).toV (DV.toR (dv_tup (da_cons dv_str (da_cons dv_int da_nil))))))))) (dss_one (dst_ret (dv_bl).toE)) dss_nil)
  (dss_cons (dst_asg ((de_call c (ok__law_turning T) (by decide) T.g__law_turning T.F__law_turning.kp T.b__law_turning (dag_by 1 (dag_ev (dv_rd 3) dag_nil)))).toV (dg_tup c.calm (dgs_cons (dg_name 11 c.nd) (dgs_cons (dg_name 12 c.nd) dgs_nil))))
  (dss_one (dst_if (DW.t (dw_and (dt_cmp op_gtA ord_op2 (nomark _) (dv_callB call_lenA len_call T.b_len (by decide +kernel) (dr_pk 11)) (DV.toR dv_int)) (dw_and1 (dt_not (dt_val ((de_call c (ok__law_same T) (by decide) T.g__law_same T.F__law_same.kp T.b__law_same (dag_ev ((de_call c (ok_turning_text T) (by decide) T.g_turning_text T.F_turning_text.kp T.b_turning_text (dag_ev (dv_rd 11) dag_nil))).toV (dag_ev (dv_rd 12) dag_nil)))).toV))))) (dss_one (dst_ret (dv_bl).toE)) dss_nil))))))))))))
  (dss_cons (dst_set 13 c.nd (de_make c T.mk_Arrows (ok_Arrows___init__ T) (by decide) T.gc_Arrows T.b_Arrows___init__ (dag_ev ((de_lst (da_cons dv_str (da_cons dv_str da_nil)))).toV (dag_ev ((de_callTy (call_dictA c.calm) dict_call T.b_dict (by decide +kernel) (DV.toR ((de_lc (own := [("letter", 14)]) (keep := [true, true, true, true, true, true, true, true, true, true, true, true, true, true, false]) c (di_seq dv_str) (blkOk_by (by dsimp only [cxOf, envOfC]; decide +kernel)) (fun i => (dg_name 14 (c.blk i).nd)) (fun i => (dv_tup (da_cons ((de_bin op_addA add_op2 dv_str (dr_pk 14))).toV (da_cons (dv_tup (da_cons dv_str (da_cons dv_str da_nil))) da_nil)))))).toV))).toV dag_nil))))
  (dss_cons (dst_set 6 c.nd (de_call c (ok_arrows_text T) (by decide) T.g_arrows_text T.F_arrows_text.kp T.b_arrows_text (dag_ev (dv_rd 13) dag_nil)))
  (dss_one (dst_ret ((dv_and (dv_cmpF (op_eqO T.eq_Arrows (ok_Arrows___eq__ T) T.b_Arrows___eq__ (c.room.mono (by decide))) eqO_op (nomark _) ((de_call c (ok_read_arrows T) (by decide) T.g_read_arrows T.F_read_arrows.kp T.b_read_arrows (dag_ev (dv_rd 6) dag_nil))).toV (dv_rd 13)) (dv_one (dv_cmp (op_eqA c.hu65) eq_op2 (nomark _) ((de_call c (ok__law_said T) (by decide) T.g__law_said T.F__law_said.kp T.b__law_said (dag_ev ((de_bin op_addA add_op2 (dv_rd 6) (DV.toR dv_str))).toV dag_nil))).toV (DV.toR (dv_tup (da_cons dv_str (da_cons dv_int da_nil)))))))).toE))))))
theorem all_mk {l : PySem.W.OpenLaw} {w : World} {K : PySem.W.Frag} {h : Heap} {mg : Str → Option Value} {fa : Addr} (hm : ∀ (A : CA) (ns : List Int), ns.length ≤ 63 → ∃ outs, m_law A [.val (.lst (ns.map .int))] = some (.ok (.val (.bl true)), outs)) (X : K.In h) (G : h.Ns mainGlobals mg) (hfa : mg "law" = some (.ref fa))
  {C_Arrows C_NoText C_LotError : Addr}
  {f1 : Addr} {od1 an1 : Option Addr} {sl1 : Array (Option Value)} {oc1 kV1 dc1 pm1 cd1 ct1 : Value}
  {f2 : Addr} {od2 an2 : Option Addr} {sl2 : Array (Option Value)} {oc2 kV2 dc2 pm2 cd2 ct2 : Value}
  {f3 : Addr} {od3 an3 : Option Addr} {sl3 : Array (Option Value)} {oc3 kV3 dc3 pm3 cd3 ct3 : Value}
  {f4 : Addr} {od4 an4 : Option Addr} {sl4 : Array (Option Value)} {oc4 kV4 dc4 pm4 cd4 ct4 : Value}
  {f5 : Addr} {od5 an5 : Option Addr} {sl5 : Array (Option Value)} {oc5 kV5 dc5 pm5 cd5 ct5 : Value}
  {f6 : Addr} {od6 an6 : Option Addr} {sl6 : Array (Option Value)} {oc6 kV6 dc6 pm6 cd6 ct6 : Value}
  {f7 : Addr} {od7 an7 : Option Addr} {sl7 : Array (Option Value)} {oc7 kV7 dc7 pm7 cd7 ct7 : Value}
  {f8 : Addr} {od8 an8 : Option Addr} {sl8 : Array (Option Value)} {oc8 kV8 dc8 pm8 cd8 ct8 : Value}
  {f9 : Addr} {od9 an9 : Option Addr} {sl9 : Array (Option Value)} {oc9 kV9 dc9 pm9 cd9 ct9 : Value}
  {f10 : Addr} {od10 an10 : Option Addr} {sl10 : Array (Option Value)} {oc10 kV10 dc10 pm10 cd10 ct10 : Value}
  {f11 : Addr} {od11 an11 : Option Addr} {sl11 : Array (Option Value)} {oc11 kV11 dc11 pm11 cd11 ct11 : Value}
  {f12 : Addr} {od12 an12 : Option Addr} {sl12 : Array (Option Value)} {oc12 kV12 dc12 pm12 cd12 ct12 : Value}
  {f13 : Addr} {od13 an13 : Option Addr} {sl13 : Array (Option Value)} {oc13 kV13 dc13 pm13 cd13 ct13 : Value}
  {f14 : Addr} {od14 an14 : Option Addr} {sl14 : Array (Option Value)} {oc14 kV14 dc14 pm14 cd14 ct14 : Value}
  {f15 : Addr} {od15 an15 : Option Addr} {sl15 : Array (Option Value)} {oc15 kV15 dc15 pm15 cd15 ct15 : Value}
  {f16 : Addr} {od16 an16 : Option Addr} {sl16 : Array (Option Value)} {oc16 kV16 dc16 pm16 cd16 ct16 : Value}
  {f17 : Addr} {od17 an17 : Option Addr} {sl17 : Array (Option Value)} {oc17 kV17 dc17 pm17 cd17 ct17 : Value}
  {f18 : Addr} {od18 an18 : Option Addr} {sl18 : Array (Option Value)} {oc18 kV18 dc18 pm18 cd18 ct18 : Value}
  {f19 : Addr} {od19 an19 : Option Addr} {sl19 : Array (Option Value)} {oc19 kV19 dc19 pm19 cd19 ct19 : Value}
  {f20 : Addr} {od20 an20 : Option Addr} {sl20 : Array (Option Value)} {oc20 kV20 dc20 pm20 cd20 ct20 : Value}
  {f21 : Addr} {od21 an21 : Option Addr} {sl21 : Array (Option Value)} {oc21 kV21 dc21 pm21 cd21 ct21 : Value}
  {f22 : Addr} {od22 an22 : Option Addr} {sl22 : Array (Option Value)} {oc22 kV22 dc22 pm22 cd22 ct22 : Value}
  {f23 : Addr} {od23 an23 : Option Addr} {sl23 : Array (Option Value)} {oc23 kV23 dc23 pm23 cd23 ct23 : Value}
  {f24 : Addr} {od24 an24 : Option Addr} {sl24 : Array (Option Value)} {oc24 kV24 dc24 pm24 cd24 ct24 : Value}
  {f25 : Addr} {od25 an25 : Option Addr} {sl25 : Array (Option Value)} {oc25 kV25 dc25 pm25 cd25 ct25 : Value}
  {f26 : Addr} {od26 an26 : Option Addr} {sl26 : Array (Option Value)} {oc26 kV26 dc26 pm26 cd26 ct26 : Value}
  {f27 : Addr} {od27 an27 : Option Addr} {sl27 : Array (Option Value)} {oc27 kV27 dc27 pm27 cd27 ct27 : Value}
  {f28 : Addr} {od28 an28 : Option Addr} {sl28 : Array (Option Value)} {oc28 kV28 dc28 pm28 cd28 ct28 : Value}
  {f29 : Addr} {od29 an29 : Option Addr} {sl29 : Array (Option Value)} {oc29 kV29 dc29 pm29 cd29 ct29 : Value}
  {nm_NoText q_NoText : Str} {N_NoText : Addr} {bs_NoText : List Value} {sn_NoText : List Str} {sub_NoText : List Value} {ab_NoText : Bool} {col_NoText : Option Bool} {dd_NoText : Option Addr} {m0_NoText m1_NoText m2_NoText m3_NoText m5_NoText : Option Value}
  {t_LETTERS : Tok}
  {t_MOST_LETTERS : Tok}
  {t_MOST_THINGS : Tok}
  {t_MOST_PLACES : Tok}
  {t_ARROWS : Tok}
  {t_PLACES : Tok}
  {t_ARROW : Tok}
  (g_Arrows : PySem.W.nsIn K mainGlobals "Arrows" = some (some (.ref C_Arrows)))
  (g_NoText : PySem.W.nsIn K mainGlobals "NoText" = some (some (.ref C_NoText)))
  (g_LotError : PySem.W.nsIn K mainGlobals "LotError" = some (some (.ref C_LotError)))
  (a1 : PySem.W.nsIn K mainGlobals "is_name" = some (some (.ref f1)))
  (l1 : K.lookup f1 = some ⟨oc1, od1, .func (PySem.W.fnOf "is_name" "is_name" (defArgs s_is_name) (defBody s_is_name) (defScope s_is_name) .none kV1 dc1 pm1 an1 cd1 ct1), sl1⟩)
  (c1 : PySem.W.codeIn K cd1 "is_name" = true)
  (k1 : PySem.W.keepIn K (.ref f1) = true)
  (a2 : PySem.W.nsIn K mainGlobals "need_places" = some (some (.ref f2)))
  (l2 : K.lookup f2 = some ⟨oc2, od2, .func (PySem.W.fnOf "need_places" "need_places" (defArgs s_need_places) (defBody s_need_places) (defScope s_need_places) .none kV2 dc2 pm2 an2 cd2 ct2), sl2⟩)
  (c2 : PySem.W.codeIn K cd2 "need_places" = true)
  (k2 : PySem.W.keepIn K (.ref f2) = true)
  (a3 : PySem.W.nsIn K mainGlobals "is_pair" = some (some (.ref f3)))
  (l3 : K.lookup f3 = some ⟨oc3, od3, .func (PySem.W.fnOf "is_pair" "is_pair" (defArgs s_is_pair) (defBody s_is_pair) (defScope s_is_pair) .none kV3 dc3 pm3 an3 cd3 ct3), sl3⟩)
  (c3 : PySem.W.codeIn K cd3 "is_pair" = true)
  (k3 : PySem.W.keepIn K (.ref f3) = true)
  (a4 : PySem.W.findIn K (.ref C_Arrows) "__init__" = some (some (.ref f4)))
  (l4 : K.lookup f4 = some ⟨oc4, od4, .func (PySem.W.fnOf "__init__" "Arrows.__init__" (defArgs s_Arrows___init__) (defBody s_Arrows___init__) (defScope s_Arrows___init__) .none kV4 dc4 pm4 an4 cd4 ct4), sl4⟩)
  (c4 : PySem.W.codeIn K cd4 "Arrows.__init__" = true)
  (k4 : PySem.W.keepIn K (.ref f4) = true)
  (i4 : PySem.W.isFn K (.ref f4) = true)
  (a5 : PySem.W.findIn K (.ref C_Arrows) "places" = some (some (.ref f5)))
  (l5 : K.lookup f5 = some ⟨oc5, od5, .func (PySem.W.fnOf "places" "Arrows.places" (defArgs s_Arrows_places) (defBody s_Arrows_places) (defScope s_Arrows_places) .none kV5 dc5 pm5 an5 cd5 ct5), sl5⟩)
  (c5 : PySem.W.codeIn K cd5 "Arrows.places" = true)
  (k5 : PySem.W.keepIn K (.ref f5) = true)
  (i5 : PySem.W.isFn K (.ref f5) = true)
  (a6 : PySem.W.findIn K (.ref C_Arrows) "arrows" = some (some (.ref f6)))
  (l6 : K.lookup f6 = some ⟨oc6, od6, .func (PySem.W.fnOf "arrows" "Arrows.arrows" (defArgs s_Arrows_arrows) (defBody s_Arrows_arrows) (defScope s_Arrows_arrows) .none kV6 dc6 pm6 an6 cd6 ct6), sl6⟩)
  (c6 : PySem.W.codeIn K cd6 "Arrows.arrows" = true)
  (k6 : PySem.W.keepIn K (.ref f6) = true)
  (i6 : PySem.W.isFn K (.ref f6) = true)
  (a7 : PySem.W.findIn K (.ref C_Arrows) "arrow" = some (some (.ref f7)))
  (l7 : K.lookup f7 = some ⟨oc7, od7, .func (PySem.W.fnOf "arrow" "Arrows.arrow" (defArgs s_Arrows_arrow) (defBody s_Arrows_arrow) (defScope s_Arrows_arrow) .none kV7 dc7 pm7 an7 cd7 ct7), sl7⟩)
  (c7 : PySem.W.codeIn K cd7 "Arrows.arrow" = true)
  (k7 : PySem.W.keepIn K (.ref f7) = true)
  (i7 : PySem.W.isFn K (.ref f7) = true)
  (a8 : PySem.W.findIn K (.ref C_Arrows) "__eq__" = some (some (.ref f8)))
  (l8 : K.lookup f8 = some ⟨oc8, od8, .func (PySem.W.fnOf "__eq__" "Arrows.__eq__" (defArgs s_Arrows___eq__) (defBody s_Arrows___eq__) (defScope s_Arrows___eq__) .none kV8 dc8 pm8 an8 cd8 ct8), sl8⟩)
  (c8 : PySem.W.codeIn K cd8 "Arrows.__eq__" = true)
  (k8 : PySem.W.keepIn K (.ref f8) = true)
  (i8 : PySem.W.isFn K (.ref f8) = true)
  (a9 : PySem.W.nsIn K mainGlobals "arrows_text" = some (some (.ref f9)))
  (l9 : K.lookup f9 = some ⟨oc9, od9, .func (PySem.W.fnOf "arrows_text" "arrows_text" (defArgs s_arrows_text) (defBody s_arrows_text) (defScope s_arrows_text) .none kV9 dc9 pm9 an9 cd9 ct9), sl9⟩)
  (c9 : PySem.W.codeIn K cd9 "arrows_text" = true)
  (k9 : PySem.W.keepIn K (.ref f9) = true)
  (a10 : PySem.W.nsIn K mainGlobals "read_places" = some (some (.ref f10)))
  (l10 : K.lookup f10 = some ⟨oc10, od10, .func (PySem.W.fnOf "read_places" "read_places" (defArgs s_read_places) (defBody s_read_places) (defScope s_read_places) .none kV10 dc10 pm10 an10 cd10 ct10), sl10⟩)
  (c10 : PySem.W.codeIn K cd10 "read_places" = true)
  (k10 : PySem.W.keepIn K (.ref f10) = true)
  (a11 : PySem.W.nsIn K mainGlobals "read_arrow" = some (some (.ref f11)))
  (l11 : K.lookup f11 = some ⟨oc11, od11, .func (PySem.W.fnOf "read_arrow" "read_arrow" (defArgs s_read_arrow) (defBody s_read_arrow) (defScope s_read_arrow) .none kV11 dc11 pm11 an11 cd11 ct11), sl11⟩)
  (c11 : PySem.W.codeIn K cd11 "read_arrow" = true)
  (k11 : PySem.W.keepIn K (.ref f11) = true)
  (a12 : PySem.W.nsIn K mainGlobals "read_arrows" = some (some (.ref f12)))
  (l12 : K.lookup f12 = some ⟨oc12, od12, .func (PySem.W.fnOf "read_arrows" "read_arrows" (defArgs s_read_arrows) (defBody s_read_arrows) (defScope s_read_arrows) .none kV12 dc12 pm12 an12 cd12 ct12), sl12⟩)
  (c12 : PySem.W.codeIn K cd12 "read_arrows" = true)
  (k12 : PySem.W.keepIn K (.ref f12) = true)
  (a13 : PySem.W.nsIn K mainGlobals "turning_text" = some (some (.ref f13)))
  (l13 : K.lookup f13 = some ⟨oc13, od13, .func (PySem.W.fnOf "turning_text" "turning_text" (defArgs s_turning_text) (defBody s_turning_text) (defScope s_turning_text) .none kV13 dc13 pm13 an13 cd13 ct13), sl13⟩)
  (c13 : PySem.W.codeIn K cd13 "turning_text" = true)
  (k13 : PySem.W.keepIn K (.ref f13) = true)
  (a14 : PySem.W.nsIn K mainGlobals "_law_hand" = some (some (.ref f14)))
  (l14 : K.lookup f14 = some ⟨oc14, od14, .func (PySem.W.fnOf "_law_hand" "_law_hand" (defArgs s__law_hand) (defBody s__law_hand) (defScope s__law_hand) .none kV14 dc14 pm14 an14 cd14 ct14), sl14⟩)
  (c14 : PySem.W.codeIn K cd14 "_law_hand" = true)
  (k14 : PySem.W.keepIn K (.ref f14) = true)
  (a15 : PySem.W.nsIn K mainGlobals "_law_draw" = some (some (.ref f15)))
  (l15 : K.lookup f15 = some ⟨oc15, od15, .func (PySem.W.fnOf "_law_draw" "_law_draw" (defArgs s__law_draw) (defBody s__law_draw) (defScope s__law_draw) .none kV15 dc15 pm15 an15 cd15 ct15), sl15⟩)
  (c15 : PySem.W.codeIn K cd15 "_law_draw" = true)
  (k15 : PySem.W.keepIn K (.ref f15) = true)
  (a16 : PySem.W.nsIn K mainGlobals "_law_any" = some (some (.ref f16)))
  (l16 : K.lookup f16 = some ⟨oc16, od16, .func (PySem.W.fnOf "_law_any" "_law_any" (defArgs s__law_any) (defBody s__law_any) (defScope s__law_any) .none kV16 dc16 pm16 an16 cd16 ct16), sl16⟩)
  (c16 : PySem.W.codeIn K cd16 "_law_any" = true)
  (k16 : PySem.W.keepIn K (.ref f16) = true)
  (a17 : PySem.W.nsIn K mainGlobals "_law_mixed" = some (some (.ref f17)))
  (l17 : K.lookup f17 = some ⟨oc17, od17, .func (PySem.W.fnOf "_law_mixed" "_law_mixed" (defArgs s__law_mixed) (defBody s__law_mixed) (defScope s__law_mixed) .none kV17 dc17 pm17 an17 cd17 ct17), sl17⟩)
  (c17 : PySem.W.codeIn K cd17 "_law_mixed" = true)
  (k17 : PySem.W.keepIn K (.ref f17) = true)
  (a18 : PySem.W.nsIn K mainGlobals "_law_same" = some (some (.ref f18)))
  (l18 : K.lookup f18 = some ⟨oc18, od18, .func (PySem.W.fnOf "_law_same" "_law_same" (defArgs s__law_same) (defBody s__law_same) (defScope s__law_same) .none kV18 dc18 pm18 an18 cd18 ct18), sl18⟩)
  (c18 : PySem.W.codeIn K cd18 "_law_same" = true)
  (k18 : PySem.W.keepIn K (.ref f18) = true)
  (a19 : PySem.W.nsIn K mainGlobals "_law_names" = some (some (.ref f19)))
  (l19 : K.lookup f19 = some ⟨oc19, od19, .func (PySem.W.fnOf "_law_names" "_law_names" (defArgs s__law_names) (defBody s__law_names) (defScope s__law_names) .none kV19 dc19 pm19 an19 cd19 ct19), sl19⟩)
  (c19 : PySem.W.codeIn K cd19 "_law_names" = true)
  (k19 : PySem.W.keepIn K (.ref f19) = true)
  (a20 : PySem.W.nsIn K mainGlobals "_law_drawn" = some (some (.ref f20)))
  (l20 : K.lookup f20 = some ⟨oc20, od20, .func (PySem.W.fnOf "_law_drawn" "_law_drawn" (defArgs s__law_drawn) (defBody s__law_drawn) (defScope s__law_drawn) .none kV20 dc20 pm20 an20 cd20 ct20), sl20⟩)
  (c20 : PySem.W.codeIn K cd20 "_law_drawn" = true)
  (k20 : PySem.W.keepIn K (.ref f20) = true)
  (a21 : PySem.W.nsIn K mainGlobals "_law_text" = some (some (.ref f21)))
  (l21 : K.lookup f21 = some ⟨oc21, od21, .func (PySem.W.fnOf "_law_text" "_law_text" (defArgs s__law_text) (defBody s__law_text) (defScope s__law_text) .none kV21 dc21 pm21 an21 cd21 ct21), sl21⟩)
  (c21 : PySem.W.codeIn K cd21 "_law_text" = true)
  (k21 : PySem.W.keepIn K (.ref f21) = true)
  (a22 : PySem.W.nsIn K mainGlobals "_law_is_name" = some (some (.ref f22)))
  (l22 : K.lookup f22 = some ⟨oc22, od22, .func (PySem.W.fnOf "_law_is_name" "_law_is_name" (defArgs s__law_is_name) (defBody s__law_is_name) (defScope s__law_is_name) .none kV22 dc22 pm22 an22 cd22 ct22), sl22⟩)
  (c22 : PySem.W.codeIn K cd22 "_law_is_name" = true)
  (k22 : PySem.W.keepIn K (.ref f22) = true)
  (a23 : PySem.W.nsIn K mainGlobals "_law_read" = some (some (.ref f23)))
  (l23 : K.lookup f23 = some ⟨oc23, od23, .func (PySem.W.fnOf "_law_read" "_law_read" (defArgs s__law_read) (defBody s__law_read) (defScope s__law_read) .none kV23 dc23 pm23 an23 cd23 ct23), sl23⟩)
  (c23 : PySem.W.codeIn K cd23 "_law_read" = true)
  (k23 : PySem.W.keepIn K (.ref f23) = true)
  (a24 : PySem.W.nsIn K mainGlobals "_law_said" = some (some (.ref f24)))
  (l24 : K.lookup f24 = some ⟨oc24, od24, .func (PySem.W.fnOf "_law_said" "_law_said" (defArgs s__law_said) (defBody s__law_said) (defScope s__law_said) .none kV24 dc24 pm24 an24 cd24 ct24), sl24⟩)
  (c24 : PySem.W.codeIn K cd24 "_law_said" = true)
  (k24 : PySem.W.keepIn K (.ref f24) = true)
  (a25 : PySem.W.nsIn K mainGlobals "_law_bent" = some (some (.ref f25)))
  (l25 : K.lookup f25 = some ⟨oc25, od25, .func (PySem.W.fnOf "_law_bent" "_law_bent" (defArgs s__law_bent) (defBody s__law_bent) (defScope s__law_bent) .none kV25 dc25 pm25 an25 cd25 ct25), sl25⟩)
  (c25 : PySem.W.codeIn K cd25 "_law_bent" = true)
  (k25 : PySem.W.keepIn K (.ref f25) = true)
  (a26 : PySem.W.nsIn K mainGlobals "_law_is_told" = some (some (.ref f26)))
  (l26 : K.lookup f26 = some ⟨oc26, od26, .func (PySem.W.fnOf "_law_is_told" "_law_is_told" (defArgs s__law_is_told) (defBody s__law_is_told) (defScope s__law_is_told) .none kV26 dc26 pm26 an26 cd26 ct26), sl26⟩)
  (c26 : PySem.W.codeIn K cd26 "_law_is_told" = true)
  (k26 : PySem.W.keepIn K (.ref f26) = true)
  (a27 : PySem.W.nsIn K mainGlobals "_law_turning" = some (some (.ref f27)))
  (l27 : K.lookup f27 = some ⟨oc27, od27, .func (PySem.W.fnOf "_law_turning" "_law_turning" (defArgs s__law_turning) (defBody s__law_turning) (defScope s__law_turning) .none kV27 dc27 pm27 an27 cd27 ct27), sl27⟩)
  (c27 : PySem.W.codeIn K cd27 "_law_turning" = true)
  (k27 : PySem.W.keepIn K (.ref f27) = true)
  (a28 : PySem.W.nsIn K mainGlobals "law" = some (some (.ref f28)))
  (l28 : K.lookup f28 = some ⟨oc28, od28, .func (PySem.W.fnOf "law" "law" (defArgs s_law) (defBody s_law) (defScope s_law) .none kV28 dc28 pm28 an28 cd28 ct28), sl28⟩)
  (c28 : PySem.W.codeIn K cd28 "law" = true)
  (k28 : PySem.W.keepIn K (.ref f28) = true)
  (pg_Arrows : PySem.W.plainGet K C_Arrows Str.empty = true)
  (hd_Arrows : PySem.W.hasDictIn K C_Arrows = true)
  (po_Arrows : PySem.W.plainOver K C_Arrows = true)
  (sa_Arrows : PySem.W.findIn K (.ref C_Arrows) "__setattr__" = some (some (.builtin "object.__setattr__")))
  (mk_Arrows : PySem.W.makesIn K C_Arrows = true)
  (kc_Arrows : PySem.W.keepIn K (.ref C_Arrows) = true)
  (na_Arrows_known : PySem.W.findIn K (.ref C_Arrows) "known" = some none)
  (na_Arrows_leading : PySem.W.findIn K (.ref C_Arrows) "leading" = some none)
  (cn : PySem.W.specialIn K (.builtin "object.__class__") "__get__" = some (some (.builtin "getset_descriptor.__get__")))
  (ct : PySem.W.takesIn K (.builtin "object.__class__") = some true)
  (ca_Arrows : PySem.W.findIn K (.ref C_Arrows) "__class__" = some (some (.builtin "object.__class__")))
  (cm_Arrows : PySem.W.mroIn K C_Arrows (.type "object") = some true)
  (ne_Arrows : PySem.W.findIn K (.ref C_Arrows) "__ne__" = some (some (.builtin "object.__ne__")))
  (sb_Arrows : PySem.W.subIn K (.ref C_Arrows) (.type "object") = some true)
  (a29 : PySem.W.findIn K (.ref C_NoText) "__init__" = some (some (.ref f29)))
  (l29 : K.lookup f29 = some ⟨oc29, od29, .func (PySem.W.fnOf "__init__" "NoText.__init__" (defArgs s_NoText___init__) (defBody s_NoText___init__) (defScope s_NoText___init__) .none kV29 dc29 pm29 an29 cd29 ct29), sl29⟩)
  (c29 : PySem.W.codeIn K cd29 "NoText.__init__" = true)
  (k29 : PySem.W.keepIn K (.ref f29) = true)
  (t29 : PySem.W.typeIn K (.ref f29) = some (.type "function"))
  (xL_NoText : K.lookup C_NoText = some (excClassObj nm_NoText q_NoText C_NoText N_NoText bs_NoText [.ref C_LotError, .type "ValueError", .type "Exception", .type "BaseException", .type "object"] true sn_NoText sub_NoText ab_NoText col_NoText dd_NoText m0_NoText m1_NoText m2_NoText m3_NoText m5_NoText "ValueError.__new__"))
  (sa_NoText : PySem.W.findIn K (.ref C_NoText) "__setattr__" = some (some (.builtin "object.__setattr__")))
  (eC_NoText : PySem.W.subIn K (.ref C_NoText) (.type "BaseException") = some true)
  (tC_NoText : PySem.W.typeIn K (.ref C_NoText) = some (.type "type"))
  (kC_NoText : PySem.W.keepIn K (.ref C_NoText) = true)
  (ga_NoText : PySem.W.findIn K (.ref C_NoText) "__getattribute__" = some (some (.builtin "BaseException.__getattribute__")))
  (gg_NoText : PySem.W.findIn K (.ref C_NoText) "__getattr__" = some none)
  (hC_NoText : PySem.W.hasDictIn K C_NoText = true)
  (ca_NoText : PySem.W.findIn K (.ref C_NoText) "__class__" = some (some (.builtin "object.__class__")))
  (cm_NoText : PySem.W.mroIn K C_NoText (.type "object") = some true)
  (xn_NoText_line : PySem.W.findIn K (.ref C_NoText) "line" = some none)
  (eC_LotError : PySem.W.subIn K (.ref C_LotError) (.type "BaseException") = some true)
  (tC_LotError : PySem.W.typeIn K (.ref C_LotError) = some (.type "type"))
  (hC_LotError : PySem.W.hasDictIn K C_LotError = true)
  (xs_NoText_LotError : PySem.W.subIn K (.ref C_NoText) (.ref C_LotError) = some true)
  (kv_NoText : PySem.W.subIn K (.ref C_NoText) (.type "ValueError") = some true)
  (c_LETTERS : PySem.W.nsIn K mainGlobals "LETTERS" = some (some (.str "abcdefghijklmnopqrstuvwxyz" t_LETTERS)))
  (c_MOST_LETTERS : PySem.W.nsIn K mainGlobals "MOST_LETTERS" = some (some (.int 8 t_MOST_LETTERS)))
  (c_MOST_THINGS : PySem.W.nsIn K mainGlobals "MOST_THINGS" = some (some (.int 24 t_MOST_THINGS)))
  (c_MOST_PLACES : PySem.W.nsIn K mainGlobals "MOST_PLACES" = some (some (.int 16 t_MOST_PLACES)))
  (c_ARROWS : PySem.W.nsIn K mainGlobals "ARROWS" = some (some (.str "arrows" t_ARROWS)))
  (c_PLACES : PySem.W.nsIn K mainGlobals "PLACES" = some (some (.str "places" t_PLACES)))
  (c_ARROW : PySem.W.nsIn K mainGlobals "ARROW" = some (some (.str "arrow" t_ARROW)))
  (z_ValueError : PySem.W.nsIn K mainGlobals "ValueError" = some none)
  (z_abs : PySem.W.nsIn K mainGlobals "abs" = some none)
  (z_all : PySem.W.nsIn K mainGlobals "all" = some none)
  (z_any : PySem.W.nsIn K mainGlobals "any" = some none)
  (z_bool : PySem.W.nsIn K mainGlobals "bool" = some none)
  (z_dict : PySem.W.nsIn K mainGlobals "dict" = some none)
  (z_enumerate : PySem.W.nsIn K mainGlobals "enumerate" = some none)
  (z_int : PySem.W.nsIn K mainGlobals "int" = some none)
  (z_isinstance : PySem.W.nsIn K mainGlobals "isinstance" = some none)
  (z_len : PySem.W.nsIn K mainGlobals "len" = some none)
  (z_list : PySem.W.nsIn K mainGlobals "list" = some none)
  (z_range : PySem.W.nsIn K mainGlobals "range" = some none)
  (z_set : PySem.W.nsIn K mainGlobals "set" = some none)
  (z_sorted : PySem.W.nsIn K mainGlobals "sorted" = some none)
  (z_str : PySem.W.nsIn K mainGlobals "str" = some none)
  (z_tuple : PySem.W.nsIn K mainGlobals "tuple" = some none)
  (z_zip : PySem.W.nsIn K mainGlobals "zip" = some none) :
  ∃ fd : FuncData, (∀ (s : Shared) (v : Value), BindsTo s fd ⟨[v], []⟩ [("script", v)]) ∧ ∀ base : Heap, K.In base → base.Ns mainGlobals mg → FnOk l.prog w K mg base (L2.CX l.prog w) 8 fa fd ["script"] (spLaw K) := by
  have e : f28 = fa := Value.ref.inj (Option.some.inj ((PySem.W.mg_of X G a28).symm.trans hfa))
  subst e
  have F1 := fun_mk (st := s_is_name) l1 c1 k1
  have b1 := F1.binds (ps := ["thing"]) fun _ _ _ _ _ _ us hl => match us, hl with | [_], _ => rfl
  have F2 := fun_mk (st := s_need_places) l2 c2 k2
  have b2 := F2.binds (ps := ["places"]) fun _ _ _ _ _ _ us hl => match us, hl with | [_], _ => rfl
  have F3 := fun_mk (st := s_is_pair) l3 c3 k3
  have b3 := F3.binds (ps := ["known", "thing"]) fun _ _ _ _ _ _ us hl => match us, hl with | [_, _], _ => rfl
  have F4 := fun_mk (st := s_Arrows___init__) l4 c4 k4
  have b4 := F4.binds (ps := ["self", "places", "arrows"]) fun _ _ _ _ _ _ us hl => match us, hl with | [_, _, _], _ => rfl
  have F5 := fun_mk (st := s_Arrows_places) l5 c5 k5
  have b5 := F5.binds (ps := ["self"]) fun _ _ _ _ _ _ us hl => match us, hl with | [_], _ => rfl
  have F6 := fun_mk (st := s_Arrows_arrows) l6 c6 k6
  have b6 := F6.binds (ps := ["self"]) fun _ _ _ _ _ _ us hl => match us, hl with | [_], _ => rfl
  have F7 := fun_mk (st := s_Arrows_arrow) l7 c7 k7
  have b7 := F7.binds (ps := ["self", "name"]) fun _ _ _ _ _ _ us hl => match us, hl with | [_, _], _ => rfl
  have F8 := fun_mk (st := s_Arrows___eq__) l8 c8 k8
  have b8 := F8.binds (ps := ["self", "other"]) fun _ _ _ _ _ _ us hl => match us, hl with | [_, _], _ => rfl
  have F9 := fun_mk (st := s_arrows_text) l9 c9 k9
  have b9 := F9.binds (ps := ["arrows"]) fun _ _ _ _ _ _ us hl => match us, hl with | [_], _ => rfl
  have F10 := fun_mk (st := s_read_places) l10 c10 k10
  have b10 := F10.binds (ps := ["line"]) fun _ _ _ _ _ _ us hl => match us, hl with | [_], _ => rfl
  have F11 := fun_mk (st := s_read_arrow) l11 c11 k11
  have b11 := F11.binds (ps := ["places", "found", "line"]) fun _ _ _ _ _ _ us hl => match us, hl with | [_, _, _], _ => rfl
  have F12 := fun_mk (st := s_read_arrows) l12 c12 k12
  have b12 := F12.binds (ps := ["text"]) fun _ _ _ _ _ _ us hl => match us, hl with | [_], _ => rfl
  have F13 := fun_mk (st := s_turning_text) l13 c13 k13
  have b13 := F13.binds (ps := ["turning"]) fun _ _ _ _ _ _ us hl => match us, hl with | [_], _ => rfl
  have F14 := fun_mk (st := s__law_hand) l14 c14 k14
  have b14 := F14.binds (ps := ["script"]) fun _ _ _ _ _ _ us hl => match us, hl with | [_], _ => rfl
  have F15 := fun_mk (st := s__law_draw) l15 c15 k15
  have b15 := F15.binds (ps := ["hand", "many"]) fun _ _ _ _ _ _ us hl => match us, hl with | [_, _], _ => rfl
  have F16 := fun_mk (st := s__law_any) l16 c16 k16
  have b16 := F16.binds (ps := ["hand", "some"]) fun _ _ _ _ _ _ us hl => match us, hl with | [_, _], _ => rfl
  have F17 := fun_mk (st := s__law_mixed) l17 c17 k17
  have b17 := F17.binds (ps := ["hand", "some"]) fun _ _ _ _ _ _ us hl => match us, hl with | [_, _], _ => rfl
  have F18 := fun_mk (st := s__law_same) l18 c18 k18
  have b18 := F18.binds (ps := ["one", "due"]) fun _ _ _ _ _ _ us hl => match us, hl with | [_, _], _ => rfl
  have F19 := fun_mk (st := s__law_names) l19 c19 k19
  have b19 := F19.binds (ps := ["hand", "many"]) fun _ _ _ _ _ _ us hl => match us, hl with | [_, _], _ => rfl
  have F20 := fun_mk (st := s__law_drawn) l20 c20 k20
  have b20 := F20.binds (ps := ["hand"]) fun _ _ _ _ _ _ us hl => match us, hl with | [_], _ => rfl
  have F21 := fun_mk (st := s__law_text) l21 c21 k21
  have b21 := F21.binds (ps := ["places", "arrows"]) fun _ _ _ _ _ _ us hl => match us, hl with | [_, _], _ => rfl
  have F22 := fun_mk (st := s__law_is_name) l22 c22 k22
  have b22 := F22.binds (ps := ["word"]) fun _ _ _ _ _ _ us hl => match us, hl with | [_], _ => rfl
  have F23 := fun_mk (st := s__law_read) l23 c23 k23
  have b23 := F23.binds (ps := ["text"]) fun _ _ _ _ _ _ us hl => match us, hl with | [_], _ => rfl
  have F24 := fun_mk (st := s__law_said) l24 c24 k24
  have b24 := F24.binds (ps := ["thing"]) fun _ _ _ _ _ _ us hl => match us, hl with | [_], _ => rfl
  have F25 := fun_mk (st := s__law_bent) l25 c25 k25
  have b25 := F25.binds (ps := ["hand", "text"]) fun _ _ _ _ _ _ us hl => match us, hl with | [_, _], _ => rfl
  have F26 := fun_mk (st := s__law_is_told) l26 c26 k26
  have b26 := F26.binds (ps := ["thing"]) fun _ _ _ _ _ _ us hl => match us, hl with | [_], _ => rfl
  have F27 := fun_mk (st := s__law_turning) l27 c27 k27
  have b27 := F27.binds (ps := ["hand", "places"]) fun _ _ _ _ _ _ us hl => match us, hl with | [_, _], _ => rfl
  have F28 := fun_mk (st := s_law) l28 c28 k28
  have b28 := F28.binds (ps := ["script"]) fun _ _ _ _ _ _ us hl => match us, hl with | [_], _ => rfl
  have cl_Arrows : Cls K C_Arrows := ⟨pg_Arrows, hd_Arrows, po_Arrows, sa_Arrows⟩
  have F29 := fun_mk (st := s_NoText___init__) l29 c29 k29
  have b29 := F29.binds (ps := ["self", "line"]) fun _ _ _ _ _ _ us hl => match us, hl with | [_, _], _ => rfl
  let T : TX K mg ⟨C_Arrows, C_NoText, C_LotError⟩ := {
    gc_Arrows := PySem.W.mg_of X G g_Arrows
    gc_NoText := PySem.W.mg_of X G g_NoText
    gc_LotError := PySem.W.mg_of X G g_LotError
    fa_is_name := f1
    fd_is_name := _
    F_is_name := F1
    b_is_name := b1
    g_is_name := PySem.W.mg_of X G a1
    fa_need_places := f2
    fd_need_places := _
    F_need_places := F2
    b_need_places := b2
    g_need_places := PySem.W.mg_of X G a2
    fa_is_pair := f3
    fd_is_pair := _
    F_is_pair := F3
    b_is_pair := b3
    g_is_pair := PySem.W.mg_of X G a3
    fa_Arrows___init__ := f4
    fd_Arrows___init__ := _
    F_Arrows___init__ := F4
    b_Arrows___init__ := b4
    fa_Arrows_places := f5
    fd_Arrows_places := _
    F_Arrows_places := F5
    b_Arrows_places := b5
    me_Arrows_places := ⟨a5, i5, k5⟩
    fa_Arrows_arrows := f6
    fd_Arrows_arrows := _
    F_Arrows_arrows := F6
    b_Arrows_arrows := b6
    me_Arrows_arrows := ⟨a6, i6, k6⟩
    fa_Arrows_arrow := f7
    fd_Arrows_arrow := _
    F_Arrows_arrow := F7
    b_Arrows_arrow := b7
    me_Arrows_arrow := ⟨a7, i7, k7⟩
    fa_Arrows___eq__ := f8
    fd_Arrows___eq__ := _
    F_Arrows___eq__ := F8
    b_Arrows___eq__ := b8
    me_Arrows___eq__ := ⟨a8, i8, k8⟩
    fa_arrows_text := f9
    fd_arrows_text := _
    F_arrows_text := F9
    b_arrows_text := b9
    g_arrows_text := PySem.W.mg_of X G a9
    fa_read_places := f10
    fd_read_places := _
    F_read_places := F10
    b_read_places := b10
    g_read_places := PySem.W.mg_of X G a10
    fa_read_arrow := f11
    fd_read_arrow := _
    F_read_arrow := F11
    b_read_arrow := b11
    g_read_arrow := PySem.W.mg_of X G a11
    fa_read_arrows := f12
    fd_read_arrows := _
    F_read_arrows := F12
    b_read_arrows := b12
    g_read_arrows := PySem.W.mg_of X G a12
    fa_turning_text := f13
    fd_turning_text := _
    F_turning_text := F13
    b_turning_text := b13
    g_turning_text := PySem.W.mg_of X G a13
    fa__law_hand := f14
    fd__law_hand := _
    F__law_hand := F14
    b__law_hand := b14
    g__law_hand := PySem.W.mg_of X G a14
    fa__law_draw := f15
    fd__law_draw := _
    F__law_draw := F15
    b__law_draw := b15
    g__law_draw := PySem.W.mg_of X G a15
    fa__law_any := f16
    fd__law_any := _
    F__law_any := F16
    b__law_any := b16
    g__law_any := PySem.W.mg_of X G a16
    fa__law_mixed := f17
    fd__law_mixed := _
    F__law_mixed := F17
    b__law_mixed := b17
    g__law_mixed := PySem.W.mg_of X G a17
    fa__law_same := f18
    fd__law_same := _
    F__law_same := F18
    b__law_same := b18
    g__law_same := PySem.W.mg_of X G a18
    fa__law_names := f19
    fd__law_names := _
    F__law_names := F19
    b__law_names := b19
    g__law_names := PySem.W.mg_of X G a19
    fa__law_drawn := f20
    fd__law_drawn := _
    F__law_drawn := F20
    b__law_drawn := b20
    g__law_drawn := PySem.W.mg_of X G a20
    fa__law_text := f21
    fd__law_text := _
    F__law_text := F21
    b__law_text := b21
    g__law_text := PySem.W.mg_of X G a21
    fa__law_is_name := f22
    fd__law_is_name := _
    F__law_is_name := F22
    b__law_is_name := b22
    g__law_is_name := PySem.W.mg_of X G a22
    fa__law_read := f23
    fd__law_read := _
    F__law_read := F23
    b__law_read := b23
    g__law_read := PySem.W.mg_of X G a23
    fa__law_said := f24
    fd__law_said := _
    F__law_said := F24
    b__law_said := b24
    g__law_said := PySem.W.mg_of X G a24
    fa__law_bent := f25
    fd__law_bent := _
    F__law_bent := F25
    b__law_bent := b25
    g__law_bent := PySem.W.mg_of X G a25
    fa__law_is_told := f26
    fd__law_is_told := _
    F__law_is_told := F26
    b__law_is_told := b26
    g__law_is_told := PySem.W.mg_of X G a26
    fa__law_turning := f27
    fd__law_turning := _
    F__law_turning := F27
    b__law_turning := b27
    g__law_turning := PySem.W.mg_of X G a27
    fa_law := f28
    fd_law := _
    F_law := F28
    b_law := b28
    g_law := PySem.W.mg_of X G a28
    cl_Arrows := cl_Arrows
    mk_Arrows := ⟨mk_Arrows, a4, i4, kc_Arrows⟩
    na_Arrows_known := na_Arrows_known
    na_Arrows_leading := na_Arrows_leading
    is_Arrows := ⟨cl_Arrows, ca_Arrows, cn, ct, cm_Arrows, kit_self⟩
    eq_Arrows := ⟨cl_Arrows, a8, i8, ne_Arrows, sb_Arrows⟩
    fa_NoText___init__ := f29
    fd_NoText___init__ := _
    F_NoText___init__ := F29
    b_NoText___init__ := b29
    ox_NoText := ⟨⟨nm_NoText, q_NoText, N_NoText, bs_NoText, _, sn_NoText, sub_NoText, ab_NoText, col_NoText, dd_NoText, m0_NoText, m1_NoText, m2_NoText, m3_NoText, m5_NoText, xL_NoText, rfl⟩, sa_NoText, eC_NoText, tC_NoText, kC_NoText⟩
    oi_NoText := a29
    ot_NoText := t29
    xn_NoText_line := xn_NoText_line
    xf_NoText := ⟨ga_NoText, gg_NoText, eC_NoText, hC_NoText⟩
    xe_NoText := ⟨ga_NoText, gg_NoText, eC_NoText, hC_NoText, ca_NoText, cn, ct, cm_NoText⟩
    xm_NoText_LotError := PySem.W.exm_ref eC_LotError hC_LotError tC_LotError xs_NoText_LotError
    kt_NoText_NoText := kit_self
    kt_NoText_ValueError := kit_VE kv_NoText
    t_LETTERS := t_LETTERS
    c_LETTERS := PySem.W.mg_of X G c_LETTERS
    t_MOST_LETTERS := t_MOST_LETTERS
    c_MOST_LETTERS := PySem.W.mg_of X G c_MOST_LETTERS
    t_MOST_THINGS := t_MOST_THINGS
    c_MOST_THINGS := PySem.W.mg_of X G c_MOST_THINGS
    t_MOST_PLACES := t_MOST_PLACES
    c_MOST_PLACES := PySem.W.mg_of X G c_MOST_PLACES
    t_ARROWS := t_ARROWS
    c_ARROWS := PySem.W.mg_of X G c_ARROWS
    t_PLACES := t_PLACES
    c_PLACES := PySem.W.mg_of X G c_PLACES
    t_ARROW := t_ARROW
    c_ARROW := PySem.W.mg_of X G c_ARROW
    b_ValueError := PySem.W.mg_none_of X G z_ValueError
    b_abs := PySem.W.mg_none_of X G z_abs
    b_all := PySem.W.mg_none_of X G z_all
    b_any := PySem.W.mg_none_of X G z_any
    b_bool := PySem.W.mg_none_of X G z_bool
    b_dict := PySem.W.mg_none_of X G z_dict
    b_enumerate := PySem.W.mg_none_of X G z_enumerate
    b_int := PySem.W.mg_none_of X G z_int
    b_isinstance := PySem.W.mg_none_of X G z_isinstance
    b_len := PySem.W.mg_none_of X G z_len
    b_list := PySem.W.mg_none_of X G z_list
    b_range := PySem.W.mg_none_of X G z_range
    b_set := PySem.W.mg_none_of X G z_set
    b_sorted := PySem.W.mg_none_of X G z_sorted
    b_str := PySem.W.mg_none_of X G z_str
    b_tuple := PySem.W.mg_none_of X G z_tuple
    b_zip := PySem.W.mg_none_of X G z_zip }
  exact ⟨_, fun s v => .of_eq rfl, fun base _ _ => (ok_law T).imp (law_imp (hm _))⟩
end
end K96
/-! P96a: k96, plain: what is drawn. -/
namespace P96
open PySem DL K96
abbrev hnd (l : List Int) (k : Nat) (c s n : Int) : OO := .lst [.lst (l.map .int), .int k, .int c, .int s, .int n]
@[simp] theorem eq_int (i j : Int) : eqO (.int i) (.int j) = some (.bl (i == j)) := by
  simp [eqO, eqF, okE, flatD, depD, eqD]
@[simp] theorem lt_int (i j : Int) : ltO (.int i) (.int j) = some (.bl (decide (i < j))) := rfl
@[simp] theorem le_int (i j : Int) : leO (.int i) (.int j) = some (.bl (decide (i ≤ j))) := rfl
@[simp] theorem gt_int (i j : Int) : gtO (.int i) (.int j) = some (.bl (decide (j < i))) := rfl
@[simp] theorem ge_int (i j : Int) : geO (.int i) (.int j) = some (.bl (decide (j ≤ i))) := rfl
@[simp] theorem add_int (i j : Int) : addO (.int i) (.int j) = some (.val (.int (i + j))) := rfl
@[simp] theorem sv_val (d : D) : SV.d (.val d) = d := rfl
@[simp] theorem sv_own (o : OO) : SV.d (.own o) = o.d := rfl
@[simp] theorem oo_lst (l : List D) : OO.d (.lst l) = .lst l := rfl
@[simp] theorem oo_dct (l : List (L2.Key × D)) : OO.d (.dct l) = .dct l := rfl
@[simp] theorem int_int (i : Int) : intO (.int i) = some (.int i) := rfl
@[simp] theorem mod_int (i j : Int) (h : 0 < j) : modO (.int i) (.int j) = some (.int (i % j)) := by simp [modO, int2, h]
@[simp] theorem div_int (i j : Int) (h : 0 < j) (h2 : j < 1073741824) : divO (.int i) (.int j) = some (.int (i / j)) := by simp [divO, int2, h, h2]
@[simp] theorem mul_r (i j : Int) (h : -(2 ^ 64) < j ∧ j < 2 ^ 64) : mulO (.int i) (.int j) = some (.int (i * j)) := by
  unfold mulO int2
  simp only
  rw [if_pos (.inr h)]
  rfl
theorem mul_l (i j : Int) (h : -(2 ^ 64) < i ∧ i < 2 ^ 64) : mulO (.int i) (.int j) = some (.int (i * j)) := by
  unfold mulO int2
  simp only
  rw [if_pos (.inl h)]
  rfl
@[simp] theorem pow_18 : powO (.int 10) (.int 18) = some (.int 1000000000000000000) := by
  unfold powO int2
  simp
@[simp] theorem maskK_nil (ds : DS) : maskK [] ds = [] := by cases ds <;> rfl
@[simp] theorem maskK_t (b : List Bool) (o : Option SV) (ds : DS) : maskK (true :: b) (o :: ds) = o :: maskK b ds := rfl
@[simp] theorem maskK_f (b : List Bool) (o : Option SV) (ds : DS) : maskK (false :: b) (o :: ds) = none :: maskK b ds := rfl
@[simp] theorem len_lst (l : List D) : lenO (.lst l) = some (.int l.length) := rfl
theorem ix_lst (l : List D) (k : Nat) (d : D) (h : l[k]? = some d) : ixO (.lst l) (.int k) = some d := by
  have hk := (List.getElem?_eq_some_iff.mp h).1
  rw [← h]
  simp [ixO, L2.atI, L2.ixN, hk]
@[simp] theorem ix_0 (a : D) (l : List D) : ixO (.lst (a :: l)) (.int 0) = some a := ix_lst _ 0 _ rfl
@[simp] theorem ix_1 (a b : D) (l : List D) : ixO (.lst (a :: b :: l)) (.int 1) = some b := ix_lst _ 1 _ rfl
@[simp] theorem ix_2 (a b c : D) (l : List D) : ixO (.lst (a :: b :: c :: l)) (.int 2) = some c := ix_lst _ 2 _ rfl
@[simp] theorem ix_3 (a b c d : D) (l : List D) : ixO (.lst (a :: b :: c :: d :: l)) (.int 3) = some d := ix_lst _ 3 _ rfl
@[simp] theorem ix_4 (a b c d e : D) (l : List D) : ixO (.lst (a :: b :: c :: d :: e :: l)) (.int 4) = some e := ix_lst _ 4 _ rfl
theorem tgS_k (i : Nat) (k d : D) (ds : DS) (o o' : OO) (h : ds[i]? = some (some (.own o))) (h2 : setF o k d = some o') : tgS i (k_ k) d ds = some (ds.set i (some (.own o'))) := by
  unfold tgS k_ DL.ret
  simp only [h, h2]
  rfl
@[simp] theorem tgS_0 (a d : D) (l : List D) (ds : List (Option SV)) (k : Int) (o' : OO) (h : setF (.lst (a :: l)) (.int k) d = some o') : tgS 0 (k_ (.int k)) d (some (.own (.lst (a :: l))) :: ds) = some (some (.own o') :: ds) := tgS_k 0 _ d _ _ o' rfl h
@[simp] theorem set_1 (a b d : D) (l : List D) : setF (.lst (a :: b :: l)) (.int 1) d = some (.lst (a :: d :: l)) := by simp [setF, L2.ixN]; omega
@[simp] theorem set_2 (a b c d : D) (l : List D) : setF (.lst (a :: b :: c :: l)) (.int 2) d = some (.lst (a :: b :: d :: l)) := by simp [setF, L2.ixN]; omega
@[simp] theorem set_3 (a b c e d : D) (l : List D) : setF (.lst (a :: b :: c :: e :: l)) (.int 3) d = some (.lst (a :: b :: c :: d :: l)) := by simp [setF, L2.ixN]; omega
@[simp] theorem set_4 (a b c e g d : D) (l : List D) : setF (.lst (a :: b :: c :: e :: g :: l)) (.int 4) d = some (.lst (a :: b :: c :: e :: d :: l)) := by simp [setF, L2.ixN]; omega
theorem modb (x : Int) : -(2 ^ 64) < x % 2147483647 ∧ x % 2147483647 < 2 ^ 64 := ⟨by omega, by omega⟩
def Drawn (l : List Int) (m : Int) (s : SV) (outs : List (Option SV)) : Prop := ∃ (d : Int) (k' : Nat) (c' s' n' : Int), s = .val (.int d) ∧ 0 ≤ d ∧ d < m ∧ 0 ≤ c' ∧ outs = [some (.own (hnd l k' c' s' n')), some (.val (.int m))]
theorem draw_ok (A : CA) (l : List Int) (k : Nat) (c s n m : Int) (hl : ∀ x ∈ l, 0 ≤ x) (hc : 0 ≤ c) (hm : 0 < m) (hm2 : m < 1073741824) :
    ∃ s' outs, m__law_draw A [.own (hnd l k c s n), .val (.int m)] = some (.ok s', outs) ∧ Drawn l m s' outs := by
  refine mir_of rfl ?_
  unfold bb__law_draw
  refine ws_cut (fun ds => ∃ (k' : Nat) (c' s' : Int) (x : Option SV), 0 ≤ c' ∧ ds = [some (.own (hnd l k' c' s' n)), some (.val (.int m)), x, none, none]) ?_ ?_
  · refine ws_if.mpr ?_
    by_cases h0 : c = 0
    · by_cases hk : k < l.length
      · have e1 : ixO (.lst (l.map .int)) (.int k) = some (.int l[k]) := ix_lst _ _ _ (by simp [hk])
        have hx := hl l[k] (List.getElem_mem hk)
        generalize l[k] = y at e1 hx
        subst h0
        simp [hk, e1]
        by_cases hb : y < 1000000000000000000
        · exact .inl ⟨hb, k + 1, by simp⟩
        · exact .inr ⟨by omega, hx, k + 1, by simp⟩
      · simp [h0, hk]; exact ⟨k, rfl⟩
    · simp [h0, hc]; exact ⟨k, rfl⟩
  · rintro ds ⟨k', c', s', x, hc', rfl⟩
    refine ws_cut (fun ds => ds = [some (.own (hnd l k' c' s' n)), some (.val (.int m)), x, none, none]) ?_ ?_
    · refine ws_if.mpr ?_
      simp [hm, hm2]
      by_cases h : c' ≤ 0
      · exact .inl h
      · exact .inr ⟨by omega, _, _, _, _, _, rfl, Int.emod_nonneg _ (by omega), Int.emod_lt_of_pos _ hm, Int.ediv_nonneg hc' (by omega), rfl⟩
    · rintro ds rfl
      simp [hm, hm2]
      refine ⟨_, mul_l _ _ (by decide), _, rfl, _, rfl, _, mul_r _ _ (by decide), _, rfl, _, mod_int _ _ (by decide), _, div_int _ _ (by decide) (by decide), _, rfl, _, mul_l _ _ (modb _), _, rfl, _, mod_int _ _ (by decide), _, div_int _ _ (by decide) (by decide), _, rfl, _, mul_l _ _ (modb _), _, rfl, _, mod_int _ _ (by decide), _, div_int _ _ (by decide) (by decide), ?_⟩
      simp [hm]
      exact ⟨_, _, _, _, _, rfl, Int.emod_nonneg _ (by omega), Int.emod_lt_of_pos _ hm, hc', rfl⟩
/-- a hand that may be drawn from -/
def HS (o : OO) : Prop := ∃ (l : List Int) (k : Nat) (c s n : Int), (∀ x ∈ l, 0 ≤ x) ∧ 0 ≤ c ∧ o = hnd l k c s n
theorem draw_hs (A : CA) {o : OO} {m : Int} (h : HS o) (hm : 0 < m) (hm2 : m < 1073741824) : ∃ d o', 0 ≤ d ∧ d < m ∧ HS o' ∧ m__law_draw A [.own o, .val (.int m)] = some (.ok (.val (.int d)), [some (.own o'), some (.val (.int m))]) := by
  obtain ⟨l, k, c, s, n, hl, hc, rfl⟩ := h
  obtain ⟨s', outs, e, d, k', c', s2, n', rfl, h0, h1, hc', rfl⟩ := draw_ok A l k c s n m hl hc hm hm2
  exact ⟨d, _, h0, h1, ⟨l, k', c', s2, n', hl, hc', rfl⟩, e⟩
theorem wp_draw (A : CA) {i : Nat} {marg : M D} {Q : SV → DS → Prop} {ds : DS} (h0 : ∃ s, ds[i]? = some (some s)) (h : wp marg (fun a ds1 => ∃ o m, ds1[i]? = some (some (.own o)) ∧ HS o ∧ a = .int m ∧ 0 < m ∧ m < 1073741824 ∧ ∀ d o', 0 ≤ d → d < m → HS o' → Q (.val (.int d)) (ds1.set i (some (.own o')))) ds) :
    wp (callM 2 (m__law_draw A) (gBy i (gEv marg gNilA))) Q ds := by
  refine wp_call ?_
  rw [wp_gBy]
  refine ⟨h0, ?_⟩
  rw [wp_gEv]
  refine wp_mono h fun a ds1 ⟨o, m, e0, ho, ea, h1, h2, q⟩ => ?_
  subst ea
  obtain ⟨d, o', d0, d1, ho', e⟩ := draw_hs A ho h1 h2
  rw [wp_gNil]
  refine ⟨[.own o, .val (.int m)], by simp [rslv, e0], by simp [refsG], rfl, _, _, e, ?_⟩
  simpa [wback] using q d o' d0 d1 ho'
/-- _law_any: one of the things -/
theorem any_ok (A : CA) {o : OO} {d : D} {n : Nat} {P : D → Prop} (h : HS o) (hl : lenO d = some (.int n)) (hn : 0 < n) (hn2 : n < 1073741824) (hP : ∀ k : Nat, k < n → ∃ x, ixO d (.int k) = some x ∧ P x) :
    ∃ s outs, m__law_any A [.own o, .val d] = some (.ok s, outs) ∧ ∃ x o', P x ∧ HS o' ∧ s = .val x ∧ outs = [some (.own o'), some (.val d)] := by
  refine mir_of rfl ?_
  unfold bb__law_any
  rw [ws_ret, wp_vl]
  refine wp_ixN ?_ ⟨_, rfl⟩
  rw [wp_fz]
  refine wp_draw A ⟨_, rfl⟩ ?_
  simp [hl]
  refine ⟨h, hn, by omega, fun e o' e0 e1 ho' => ?_⟩
  obtain ⟨x, ex, px⟩ := hP e.toNat (by omega)
  have : ((e.toNat : Nat) : Int) = e := by omega
  rw [this] at ex
  exact ⟨x, ex, px, ho'⟩
end P96
/-! P96b: k96, plain: what is drawn, on. -/
namespace P96
open PySem DL K96
theorem wp_any (A : CA) {i : Nat} {marg : M D} {Q : SV → DS → Prop} {ds : DS} (P : D → Prop) (h0 : ∃ s, ds[i]? = some (some s)) (h : wp marg (fun a ds1 => ∃ o n, ds1[i]? = some (some (.own o)) ∧ HS o ∧ lenO a = some (.int (n : Nat)) ∧ 0 < n ∧ n < 1073741824 ∧ (∀ k : Nat, k < n → ∃ x, ixO a (.int k) = some x ∧ P x) ∧ ∀ x o', P x → HS o' → Q (.val x) (ds1.set i (some (.own o')))) ds) :
    wp (callM 2 (m__law_any A) (gBy i (gEv marg gNilA))) Q ds := by
  refine wp_call ?_
  rw [wp_gBy]
  refine ⟨h0, ?_⟩
  rw [wp_gEv]
  refine wp_mono h fun a ds1 ⟨o, n, e0, ho, ea, h1, h2, hP, q⟩ => ?_
  obtain ⟨s, outs, e, x, o', px, ho', rfl, rfl⟩ := any_ok A ho ea h1 h2 hP
  rw [wp_gNil]
  refine ⟨[.own o, .val a], by simp [rslv, e0], by simp [refsG], rfl, _, _, e, ?_⟩
  simpa [wback] using q x o' px ho'
/-- _law_mixed: the same things in some order -/
theorem mixed_ok (A : CA) {o : OO} {xs : List D} (h : HS o) (hz : xs.length < 1073741824) (hz2 : xs.length < sizeLine) :
    ∃ s outs, m__law_mixed A [.own o, .val (.lst xs)] = some (.ok s, outs) ∧ ∃ ys o', ys.Perm xs ∧ HS o' ∧ s = .own (.lst ys) ∧ outs = [some (.own o'), some (.val (.lst xs))] := by
  refine mir_of rfl ?_
  unfold bb__law_mixed
  refine ws_cut (fun ds => ∃ o' pool found, HS o' ∧ (found ++ pool).Perm xs ∧ ds = [some (.own o'), some (.val (.lst xs)), some (.own (.lst pool)), some (.own (.lst found))]) ?_ ?_
  · simp [listO]
    exact ⟨_, _, ⟨rfl, rfl⟩, o, h, xs, [], by simp, rfl, rfl, rfl⟩
  rintro ds ⟨o', pool, found, ho, hp, rfl⟩
  refine ws_cut (fun ds => ∃ o' found, HS o' ∧ found.Perm xs ∧ ds = [some (.own o'), some (.val (.lst xs)), some (.own (.lst [])), some (.own (.lst found))]) ?_ ?_
  · refine wp_while (fun n ds => ∃ o' pool found, pool.length = n ∧ HS o' ∧ (found ++ pool).Perm xs ∧ ds = [some (.own o'), some (.val (.lst xs)), some (.own (.lst pool)), some (.own (.lst found))]) pool.length ⟨o', pool, found, rfl, ho, hp, rfl⟩ ?_
    rintro n ds ⟨o', pool, found, rfl, ho, hp, rfl⟩
    have hle : found.length + pool.length = xs.length := by rw [← List.length_append]; exact hp.length_eq
    simp
    by_cases h0 : pool = []
    · subst h0
      simp at hp ⊢
      exact ⟨ho, hp⟩
    · have hpos : 0 < pool.length := List.length_pos_iff.mpr h0
      refine .inr ⟨hpos, ?_⟩
      refine wp_mut ⟨_, rfl⟩ ?_
      simp
      refine wp_mut ⟨_, rfl⟩ ?_
      simp
      refine wp_draw A ⟨_, rfl⟩ ?_
      simp
      refine ⟨ho, hpos, by omega, fun d o2 d0 d1 ho2 => ?_⟩
      have hd : d.toNat < pool.length := by omega
      refine ⟨pool.eraseIdx d.toNat, pool[d.toNat], by simp [popAtF, d0, hd]; omega, ?_⟩
      refine ⟨found ++ [pool[d.toNat]], ⟨.non, ?_⟩, pool.length - 1, by omega, o2, _, ?_, ho2, found ++ [pool[d.toNat]], ?_, rfl, rfl, rfl⟩
      · simp [appendF]; omega
      · rw [List.length_eraseIdx_of_lt hd]
      · rw [List.append_assoc]
        refine List.Perm.trans ?_ hp
        exact List.Perm.append_left _ (L2.erase_perm pool d.toNat _ (List.getElem?_eq_getElem hd))
  · rintro ds ⟨o', found, ho, hp, rfl⟩
    simp
    exact ⟨hp, ho⟩
end P96
/-! P96c: k96, plain: names. -/
namespace P96
open PySem DL K96
abbrev tl (z : Str) : List Nat := z.cps.toList
/-- 1 to 8 small letters -/
def NameS (z : Str) : Prop := 1 ≤ z.length ∧ z.length ≤ 8 ∧ ∀ c ∈ tl z, 97 ≤ c ∧ c ≤ 122
theorem tl_app (x y : Str) : tl (x ++ y) = tl x ++ tl y := by
  show (x.cps ++ y.cps).toList = _
  simp
theorem len_tl (x : Str) : x.length = (tl x).length := by simp [tl, Str.length]
theorem tl_inj {x y : Str} (h : tl x = tl y) : x = y := by
  cases x; cases y
  simp only [Str.mk.injEq]
  exact Array.toList_inj.mp h
theorem tl_join (sep : Str) : ∀ (r : List Str) (x : Str), tl (Str.join sep (x :: r)) = tl x ++ (r.map fun y => tl sep ++ tl y).flatten
  | [], x => by simp [Str.join]
  | y :: r, x => by
    show tl (x ++ sep ++ Str.join sep (y :: r)) = _
    rw [tl_app, tl_app, tl_join sep r y]
    simp
theorem txt_join (sep : Str) (l : List Str) : Txt.join sep l = Str.join sep l := StrLaws.glued_eq_join sep l
theorem join0 (l : List Str) : tl (Txt.join (Str.ofString "") l) = (l.map tl).flatten := by
  rw [txt_join]
  cases l with
  | nil => decide +kernel
  | cons x r =>
    rw [tl_join]
    have e : tl (Str.ofString "") = [] := by decide +kernel
    simp [e]
/-- the signs that a name is drawn from -/
def okc (c : Nat) : Prop := c ∈ [97, 98, 99, 100, 101, 120, 121, 122]
theorem abc8 : tl (Str.ofString "abcdexyz") = [97, 98, 99, 100, 101, 120, 121, 122] := by decide +kernel
theorem abc26 : tl (Str.ofString "abcdefghijklmnopqrstuvwxyz") = (List.range 26).map (97 + ·) := by decide +kernel
theorem ix_str (z : Str) (k : Nat) (c : Nat) (h : (tl z)[k]? = some c) (hz : z.length < 2 ^ 63) : ixO (.str z) (.int k) = some (.str ⟨#[c]⟩) := by
  have hk := (List.getElem?_eq_some_iff.mp h).1
  rw [← len_tl] at hk
  have e : z.cps[k]? = some c := by rw [← Array.getElem?_toList]; exact h
  unfold ixO
  simp only
  rw [if_pos ⟨by omega, by omega, by omega⟩, Int.toNat_natCast, e]
  rfl
theorem eq_str (x y : Str) : eqD (.str x) (.str y) = (x == y) := rfl
theorem in_strs (z : Str) (l : List Str) : inO (.str z) (.lst (l.map .str)) = some (.bl (decide (z ∈ l))) := by
  have h1 : (l.map D.str).all leafD = true := by simp [leafD]
  unfold inO memF
  simp only [leafD, h1, Bool.and_self, if_true, Option.map_some]
  congr 2
  rw [List.any_map]
  show (l.any fun y => y == z) = _
  rw [Bool.eq_iff_iff]
  simp
end P96
/-! P96d: k96, plain: names that are drawn. -/
namespace P96
open PySem DL K96
theorem szl : sizeLine = 16777216 := PySem.sizeLine_eq
abbrev sing (c : Nat) : Str := ⟨#[c]⟩
theorem flat_sing (cs : List Nat) : ((cs.map sing).map tl).flatten = cs := by
  induction cs with
  | nil => rfl
  | cons c r ih => simp only [List.map_cons, List.flatten_cons, ih]; rfl
theorem strs_sing (cs : List Nat) : strsD (cs.map fun c => D.str (sing c)) = some (cs.map sing) := by
  have := strsD_map (cs.map sing)
  rw [List.map_map] at this
  exact this
theorem sum_sing (cs : List Nat) : ((cs.map sing).map (·.length)).sum = cs.length := by
  induction cs with
  | nil => rfl
  | cons c r ih => simp only [List.map_cons, List.sum_cons, ih, List.length_cons]; simp [Str.length]; omega
theorem len0 : (Str.ofString "").length = 0 := by decide +kernel
theorem wp_word (A : CA) {o : OO} {m sz : Int} {found : OO} {x4 : Option SV} {Q : D → DS → Prop} (ho : HS o) (h1 : 0 ≤ sz) (h2 : sz ≤ 8)
    (q : ∀ o' w, HS o' → (w.length : Int) = sz → (∀ c ∈ tl w, okc c) → Q (.str w) [some (.own o'), some (.val (.int m)), some (.own found), some (.val (.int sz)), x4, none]) :
    wp (strM joinO (k_ (.str "")) (fz (lcM [5] (apM rng1 (consA (rd 3) nilA)) (tgN 5) (DL.ret true) (fz (callM 2 (m__law_any A) (gBy 0 (gEv (k_ (.str "abcdexyz")) gNilA))))))) Q [some (.own o), some (.val (.int m)), some (.own found), some (.val (.int sz)), x4, none] := by
  rw [wp_strM, wp_k]
  refine ⟨_, rfl, ?_⟩
  rw [wp_fz]
  refine wp_lc (fun ds0 r acc ds => ∃ (o' : OO) (cs : List Nat) (x5 : Option SV), HS o' ∧ acc = cs.map (fun c => D.str (sing c)) ∧ (∀ c ∈ cs, okc c) ∧ ((cs.length + r.length : Nat) : Int) = sz ∧ ds0 = [some (.own o), some (.val (.int m)), some (.own found), some (.val (.int sz)), x4, none] ∧ ds = [some (.own o'), some (.val (.int m)), some (.own found), some (.val (.int sz)), x4, x5]) ?_ ?_ ?_
  · simp [rng1]
    exact ⟨_, ⟨⟨by omega, by omega⟩, rfl⟩, ho, by simp; omega⟩
  · rintro ds0 d r acc ds ⟨o', cs, x5, ho', rfl, hc, hl, rfl, rfl⟩
    refine ⟨_, rfl, ?_⟩
    simp only [wipeD, List.set]
    rw [wp_fz]
    refine wp_any A (fun x => ∃ c, okc c ∧ x = .str (sing c)) ⟨_, rfl⟩ ?_
    rw [wp_k]
    refine ⟨o', 8, rfl, ho', rfl, by omega, by omega, fun k hk => ?_, fun x o2 hx ho2 => ?_⟩
    · have hk2 : k < [97, 98, 99, 100, 101, 120, 121, 122].length := hk
      exact ⟨_, ix_str _ k _ (by rw [abc8]; exact List.getElem?_eq_getElem hk2) (by decide +kernel), _, List.getElem_mem hk2, rfl⟩
    · obtain ⟨c, hc2, rfl⟩ := hx
      have hl2 : cs.length ≤ 8 := by simp at hl; omega
      refine ⟨by rw [List.length_map, szl]; omega, o2, cs ++ [c], some (.val d), ho2, by simp, ?_, by simp at hl ⊢; omega, by first | rfl | trivial, by first | rfl | trivial⟩
      intro c' hc'
      rcases List.mem_append.mp hc' with h | h
      · exact hc c' h
      · rw [List.mem_singleton.mp h]; exact hc2
  · rintro ds0 acc ds ⟨o', cs, x5, ho', rfl, hc, hl, rfl, rfl⟩
    simp only [List.length_nil, Nat.add_zero] at hl
    refine ⟨.str (Txt.join (Str.ofString "") (cs.map sing)), ?_, ?_⟩
    · simp only [sv_own, oo_lst, joinO]
      rw [strs_sing]
      simp only [Option.bind_some]
      rw [sum_sing, len0, if_pos (by simp; omega)]
    · have e : tl (Txt.join (Str.ofString "") (cs.map sing)) = cs := by rw [join0, flat_sing]
      have := q o' (Txt.join (Str.ofString "") (cs.map sing)) ho' (by rw [len_tl, e]; exact hl) (by rw [e]; exact hc)
      simpa [restD, wipeD, valO] using this
/-- the name that is taken where a drawn one stands already -/
def kS (i : Nat) : Str := Str.ofString "k" ++ sing (97 + i)
theorem kS_tl (i : Nat) : tl (kS i) = [107, 97 + i] := by
  unfold kS
  rw [tl_app]
  have e : tl (Str.ofString "k") = [107] := by decide +kernel
  rw [e]; rfl
theorem kS_inj {i j : Nat} (h : kS i = kS j) : i = j := by
  have := congrArg tl h
  rw [kS_tl, kS_tl] at this
  simp at this
  exact this
def Nm (n : Nat) (z : Str) : Prop := NameS z ∧ (107 ∉ tl z ∨ ∃ i, i < n ∧ z = kS i)
theorem okc_bd {c : Nat} (h : okc c) : 97 ≤ c ∧ c ≤ 122 ∧ c ≠ 107 := by
  unfold okc at h
  simp at h
  omega
theorem word_nm {n : Nat} {w : Str} (h1 : 1 ≤ w.length) (h2 : w.length ≤ 8) (hc : ∀ c ∈ tl w, okc c) : Nm n w :=
  ⟨⟨h1, h2, fun c h => ⟨(okc_bd (hc c h)).1, (okc_bd (hc c h)).2.1⟩⟩, .inl fun h => (okc_bd (hc _ h)).2.2 rfl⟩
theorem kS_nm {n i : Nat} (h : i < n) (h2 : i < 26) : Nm n (kS i) := by
  refine ⟨⟨?_, ?_, fun c hc => ?_⟩, .inr ⟨i, h, rfl⟩⟩
  · rw [len_tl, kS_tl]; simp
  · rw [len_tl, kS_tl]; simp
  · rw [kS_tl] at hc
    simp at hc
    omega
theorem Nm.mono {n m : Nat} {z : Str} (h : Nm n z) (hl : n ≤ m) : Nm m z := ⟨h.1, h.2.imp id fun ⟨i, a, b⟩ => ⟨i, by omega, b⟩⟩
theorem kS_new {l : List Str} (h : ∀ z ∈ l, Nm l.length z) : kS l.length ∉ l := fun hm => by
  rcases (h _ hm).2 with q | ⟨i, hi, e⟩
  · apply q; rw [kS_tl]; simp
  · have := kS_inj e
    omega
theorem lenk : (Str.ofString "k").length = 1 := by decide +kernel
theorem app_map (l : List Str) (z : Str) : l.map D.str ++ [D.str z] = (l ++ [z]).map D.str := by simp
theorem add_str (x y : Str) (h : x.length + y.length ≤ 100) : addO (.str x) (.str y) = some (.val (.str (x ++ y))) := by
  unfold addO
  simp only
  rw [if_pos (by rw [szl]; omega)]
theorem app_F (l : List D) (d : D) (h : l.length < 1000) : appendF l [d] = some (l ++ [d], .non) := by
  unfold appendF
  simp only
  rw [if_pos (by rw [szl]; omega)]
theorem names_ok (A : CA) {o : OO} {m : Nat} (ho : HS o) (hm : m ≤ 25) :
    ∃ s outs, m__law_names A [.own o, .val (.int m)] = some (.ok s, outs) ∧ ∃ (ns : List Str) (o' : OO), HS o' ∧ ns.Nodup ∧ ns.length = m ∧ (∀ z ∈ ns, NameS z) ∧ s = .own (.lst (ns.map .str)) ∧ outs = [some (.own o'), some (.val (.int m))] := by
  refine mir_of rfl ?_
  unfold bb__law_names
  refine ws_cut (fun ds => ds = [some (.own o), some (.val (.int m)), some (.own (.lst [])), none, none, none]) ?_ ?_
  · simp
  rintro ds rfl
  refine ws_cut (fun ds => ∃ (o' : OO) (ns : List Str) (x3 x4 : Option SV), HS o' ∧ ns.Nodup ∧ ns.length = m ∧ (∀ z ∈ ns, Nm ns.length z) ∧ ds = [some (.own o'), some (.val (.int m)), some (.own (.lst (ns.map .str))), x3, x4, none]) ?_ ?_
  · refine wp_while (fun k ds => ∃ (o' : OO) (ns : List Str) (x3 x4 : Option SV), HS o' ∧ ns.Nodup ∧ ns.length + k = m ∧ (∀ z ∈ ns, Nm ns.length z) ∧ ds = [some (.own o'), some (.val (.int m)), some (.own (.lst (ns.map .str))), x3, x4, none]) m ⟨o, [], none, none, ho, by simp, by simp, by simp, rfl⟩ ?_
    rintro k ds ⟨o', ns, x3, x4, ho', nd, hl, hn, rfl⟩
    simp only [wp_isB, wp_bin, wp_un, wp_pk, List.getElem?_cons_succ, List.getElem?_cons_zero, Option.some.injEq, exists_eq_left', sv_own, sv_val, oo_lst, len_lst, lt_int, List.length_map, D.bl.injEq]
    by_cases hlt : ns.length < m
    · have hlt2 : ((ns.length : Nat) : Int) < (m : Nat) := by omega
      simp only [hlt2, decide_true, if_true]
      -- the size
      refine ws_cut (fun ds => ∃ (o2 : OO) (sz : Int), HS o2 ∧ 1 ≤ sz ∧ sz ≤ 8 ∧ ds = [some (.own o2), some (.val (.int m)), some (.own (.lst (ns.map .str))), some (.val (.int sz)), x4, none]) ?_ ?_
      · rw [ws_set]
        refine wp_any A (fun x => ∃ i : Int, 1 ≤ i ∧ i ≤ 8 ∧ x = .int i) ⟨_, rfl⟩ ?_
        simp only [wp_fz, wp_lstM, wp_consA, wp_k, wp_nilA, sv_own, oo_lst]
        refine ⟨by rw [szl]; simp, o', 4, rfl, ho', rfl, by omega, by omega, fun j hj => ?_, fun x o2 hx ho2 => ?_⟩
        · refine ⟨[D.int 1, .int 1, .int 2, .int 8][j], ix_lst _ j _ (List.getElem?_eq_getElem hj), ?_⟩
          match j, hj with
          | 0, _ => exact ⟨1, by omega, by omega, rfl⟩
          | 1, _ => exact ⟨1, by omega, by omega, rfl⟩
          | 2, _ => exact ⟨2, by omega, by omega, rfl⟩
          | 3, _ => exact ⟨8, by omega, by omega, rfl⟩
        · obtain ⟨i, h1, h8, rfl⟩ := hx
          exact ⟨o2, i, ho2, h1, h8, rfl⟩
      rintro ds ⟨o2, sz, ho2, s1, s8, rfl⟩
      -- the word
      refine ws_cut (fun ds => ∃ (o3 : OO) (w : Str), HS o3 ∧ Nm ns.length w ∧ ds = [some (.own o3), some (.val (.int m)), some (.own (.lst (ns.map .str))), some (.val (.int sz)), some (.val (.str w)), none]) ?_ ?_
      · rw [ws_set, wp_vl]
        refine wp_word A ho2 (by omega) s8 fun o3 w ho3 hw hc => ⟨o3, w, ho3, word_nm (by omega) (by omega) hc, rfl⟩
      rintro ds ⟨o3, w, ho3, hw, rfl⟩
      -- another one, where it stands already
      refine ws_cut (fun ds => ∃ w' : Str, Nm (ns.length + 1) w' ∧ w' ∉ ns ∧ ds = [some (.own o3), some (.val (.int m)), some (.own (.lst (ns.map .str))), some (.val (.int sz)), some (.val (.str w')), none]) ?_ ?_
      · rw [ws_if]
        simp only [wp_isB, wp_bin, wp_rd, wp_pk, List.getElem?_cons_succ, List.getElem?_cons_zero, Option.some.injEq, exists_eq_left', sv_own, sv_val, oo_lst, List.set, in_strs, D.bl.injEq]
        by_cases hin : w ∈ ns
        · simp only [hin, decide_true, if_true, ws_set, wp_bin, wp_k, wp_un, wp_pk, List.getElem?_cons_succ, List.getElem?_cons_zero, Option.some.injEq, exists_eq_left', sv_own, oo_lst, len_lst, List.length_map]
          refine ⟨_, ix_str _ ns.length (97 + ns.length) (by rw [abc26, List.getElem?_map, List.getElem?_range (by omega)]; rfl) (by decide +kernel), _, add_str _ _ (by rw [lenk]; simp [Str.length]), ?_⟩
          exact ⟨kS ns.length, kS_nm (by omega) (by omega), kS_new hn, rfl⟩
        · simp only [hin, decide_false, Bool.false_eq_true, if_false, ws_nx]
          exact ⟨w, hw.mono (by omega), hin, rfl⟩
      rintro ds ⟨w', hw', hnew, rfl⟩
      rw [ws_drop]
      refine wp_mut ⟨_, rfl⟩ ?_
      simp only [wp_consA, wp_rd, wp_nilA, List.getElem?_cons_succ, List.getElem?_cons_zero, Option.some.injEq, exists_eq_left', sv_val, List.set]
      refine ⟨_, rfl, _, _, app_F _ _ (by simp; omega), k - 1, by omega, o3, ns ++ [w'], _, _, ho3, ?_, ?_, ?_, by rw [app_map]⟩
      · exact List.nodup_append.mpr ⟨nd, by simp, fun a ha b hb e => by
          rw [List.mem_singleton.mp hb] at e
          exact hnew (e ▸ ha)⟩
      · simp; omega
      · intro z hz
        rw [List.length_append]
        rcases List.mem_append.mp hz with h | h
        · exact (hn z h).mono (by simp)
        · rw [List.mem_singleton.mp h]; exact hw'
    · have hlt2 : ¬ ((ns.length : Nat) : Int) < (m : Nat) := by omega
      simp only [hlt2, decide_false, Bool.false_eq_true, if_false]
      exact ⟨o', ns, x3, x4, ho', nd, by omega, hn, rfl⟩
  · rintro ds ⟨o', ns, x3, x4, ho', nd, hl, hn, rfl⟩
    simp only [ws_ret, wp_mv, List.getElem?_cons_succ, List.getElem?_cons_zero, Option.some.injEq, exists_eq_left', List.set]
    exact ⟨ns, o', ho', nd, hl, fun z hz => (hn z hz).1, rfl, by simp⟩
end P96
/-! P96e: k96, plain: places and arrows that are drawn. -/
namespace P96
open PySem DL K96
theorem wp_hand {m : Mir} {i : Nat} {marg : M D} {Q : SV → DS → Prop} {ds : DS} (h0 : ∃ s, ds[i]? = some (some s)) (h : wp marg (fun a ds1 => ∃ o s o', ds1[i]? = some (some (.own o)) ∧ m [.own o, .val a] = some (.ok s, [some (.own o'), some (.val a)]) ∧ Q s (ds1.set i (some (.own o')))) ds) :
    wp (callM 2 m (gBy i (gEv marg gNilA))) Q ds := by
  refine wp_call ?_
  rw [wp_gBy]
  refine ⟨h0, ?_⟩
  rw [wp_gEv]
  refine wp_mono h fun a ds1 ⟨o, s, o', e0, e, q⟩ => ?_
  rw [wp_gNil]
  exact ⟨[.own o, .val a], by simp [rslv, e0], by simp [refsG], rfl, _, _, e, by simpa [wback] using q⟩
theorem wp_hand0 {m : Mir} {i : Nat} {Q : SV → DS → Prop} {ds : DS} {o o' : OO} {s : SV} (e0 : ds[i]? = some (some (.own o))) (e : m [.own o] = some (.ok s, [some (.own o')])) (q : Q s (ds.set i (some (.own o')))) :
    wp (callM 1 m (gBy i gNilA)) Q ds := by
  refine wp_call ?_
  rw [wp_gBy]
  refine ⟨⟨_, e0⟩, ?_⟩
  rw [wp_gNil]
  exact ⟨[.own o], by simp [rslv, e0], by simp [refsG], rfl, _, _, e, by simpa [wback] using q⟩
abbrev Ar := List (Str × Str × Str)
def arK (ar : Ar) : List (L2.Key × D) := ar.map fun p => (.inr p.1, .tup [.str p.2.1, .str p.2.2])
abbrev dA (ar : Ar) : D := .dct (arK ar)
abbrev dL (ps : List Str) : D := .lst (ps.map .str)
structure PlOk (ps : List Str) : Prop where
  nd : ps.Nodup
  nm : ∀ z ∈ ps, NameS z
  l1 : 1 ≤ ps.length
  l16 : ps.length ≤ 16
structure ArOk (ps : List Str) (ar : Ar) : Prop where
  nd : (ar.map (·.1)).Nodup
  nm : ∀ p ∈ ar, NameS p.1
  a : ∀ p ∈ ar, p.2.1 ∈ ps
  b : ∀ p ∈ ar, p.2.2 ∈ ps
  ne : ∀ p ∈ ar, p.2.1 ≠ p.2.2
  l24 : ar.length ≤ 24
theorem ArOk.nil (ps : List Str) : ArOk ps [] := ⟨by simp, by simp, by simp, by simp, by simp, by simp⟩
theorem put_new {kvs : List (L2.Key × D)} {k : L2.Key} {d : D} (h : ∀ kv ∈ kvs, kv.1 ≠ k) : putD kvs k d = kvs ++ [(k, d)] := by
  unfold putD
  rw [if_neg]
  simp only [List.any_eq_true, decide_eq_true_eq, not_exists, not_and]
  exact fun kv hkv e => h kv hkv e
/-- how many: one of three bounds, then below it -/
theorem wp_many (A : CA) {i : Nat} {a b c : Int} {Q : SV → DS → Prop} {ds : DS} {o : OO} (h0 : ds[i]? = some (some (.own o))) (ho : HS o) (ha : 0 < a ∧ a ≤ 25) (hb : 0 < b ∧ b ≤ 25) (hc : 0 < c ∧ c ≤ 25) {K : Int} (hK : a ≤ K ∧ b ≤ K ∧ c ≤ K)
    (q : ∀ (d : Nat) o', (d : Int) < K → HS o' → Q (.val (.int d)) (ds.set i (some (.own o')))) :
    wp (callM 2 (m__law_draw A) (gBy i (gEv (fz (callM 2 (m__law_any A) (gBy i (gEv (fz (lstM (consA (k_ (.int a)) (consA (k_ (.int b)) (consA (k_ (.int c)) nilA))))) gNilA)))) gNilA))) Q ds := by
  refine wp_draw A ⟨_, h0⟩ ?_
  rw [wp_fz]
  refine wp_any A (fun x => ∃ j : Int, 0 < j ∧ j ≤ K ∧ j ≤ 25 ∧ x = .int j) ⟨_, h0⟩ ?_
  simp only [wp_fz, wp_lstM, wp_consA, wp_k, wp_nilA, sv_own, oo_lst]
  refine ⟨by rw [szl]; simp, o, 3, h0, ho, rfl, by omega, by omega, fun j hj => ?_, fun x o2 hx ho2 => ?_⟩
  · refine ⟨[D.int a, .int b, .int c][j], ix_lst _ j _ (List.getElem?_eq_getElem hj), ?_⟩
    match j, hj with
    | 0, _ => exact ⟨a, by omega, by omega, by omega, rfl⟩
    | 1, _ => exact ⟨b, by omega, by omega, by omega, rfl⟩
    | 2, _ => exact ⟨c, by omega, by omega, by omega, rfl⟩
  · obtain ⟨j, j1, j2, j3, rfl⟩ := hx
    have hi : i < ds.length := (List.getElem?_eq_some_iff.mp h0).1
    refine ⟨o2, j, by simp [hi], ho2, rfl, by omega, by omega, fun d o' d0 d1 ho' => ?_⟩
    have e : ((d.toNat : Nat) : Int) = d := by omega
    have := q d.toNat o' (by omega) ho'
    rw [e] at this
    rw [List.set_set]
    exact this
theorem take2 {ps : List Str} {ys : List D} (h : ys.Perm (ps.map .str)) (nd : ps.Nodup) (h2 : 2 ≤ ps.length) : ∃ a b, ys.take 2 = [.str a, .str b] ∧ a ∈ ps ∧ b ∈ ps ∧ a ≠ b := by
  have hl : ys.length = ps.length := by rw [h.length_eq]; simp
  match ys, hl with
  | [], hl => simp at hl; omega
  | [_], hl => simp at hl; omega
  | x :: y :: r, hl =>
    have hx : x ∈ ps.map D.str := h.subset (by simp)
    have hy : y ∈ ps.map D.str := h.subset (by simp)
    obtain ⟨a, ha, rfl⟩ := List.mem_map.mp hx
    obtain ⟨b, hb, rfl⟩ := List.mem_map.mp hy
    refine ⟨a, b, by simp, ha, hb, fun e => ?_⟩
    have n1 : (ps.map D.str).Nodup := by
      refine List.Pairwise.map _ (fun a b hne e => hne ?_) nd
      cases e; rfl
    have n2 := h.symm.nodup n1
    subst e
    simp at n2
theorem drawn_ok (A : CA) {o : OO} (ho : HS o) :
    ∃ s outs, m__law_drawn A [.own o] = some (.ok s, outs) ∧ ∃ (ps : List Str) (ar : Ar) (o' : OO), HS o' ∧ PlOk ps ∧ ArOk ps ar ∧ s = .val (.tup [dL ps, dA ar]) ∧ outs = [some (.own o')] := by
  refine mir_of rfl ?_
  unfold bb__law_drawn
  refine ws_cut (fun ds => ∃ (o' : OO) (ps : List Str), HS o' ∧ PlOk ps ∧ ds = [some (.own o'), some (.own (.lst (ps.map .str))), none, none]) ?_ ?_
  · rw [ws_set]
    refine wp_hand ⟨_, rfl⟩ ?_
    rw [wp_fz, wp_bin, wp_k, wp_fz]
    refine wp_many A rfl ho ⟨by omega, by omega⟩ ⟨by omega, by omega⟩ ⟨by omega, by omega⟩ (K := 16) ⟨by omega, by omega, by omega⟩ fun d o' hd ho' => ?_
    obtain ⟨s, outs, e, ns, o2, ho2, nd, hl, hn, rfl, rfl⟩ := names_ok A (m := d + 1) ho' (by omega)
    have e1 : ((d + 1 : Nat) : Int) = 1 + d := by omega
    rw [e1] at e
    refine ⟨_, add_int 1 d, _, _, _, rfl, e, o2, ns, ho2, ⟨nd, hn, by omega, by omega⟩, rfl⟩
  rintro ds ⟨o1, ps, ho1, hps, rfl⟩
  refine ws_cut (fun ds => ds = [some (.own o1), some (.own (.lst (ps.map .str))), some (.own (.dct [])), none]) ?_ ?_
  · simp
  rintro ds rfl
  refine ws_cut (fun ds => ∃ (o' : OO) (ar : Ar) (s1 : SV) (x3 : Option SV), HS o' ∧ ArOk ps ar ∧ s1.d = dL ps ∧ ds = [some (.own o'), some s1, some (.own (.dct (arK ar))), x3]) ?_ ?_
  · rw [ws_if]
    simp only [wp_isB, wp_bin, wp_un, wp_pk, wp_k, List.getElem?_cons_succ, List.getElem?_cons_zero, Option.some.injEq, exists_eq_left', sv_own, oo_lst, len_lst, gt_int, List.length_map, D.bl.injEq]
    by_cases h2 : 1 < ps.length
    · have h2' : (1 : Int) < (ps.length : Nat) := by omega
      simp only [h2', decide_true, if_true]
      rw [ws_forI, wp_itM, wp_fz]
      refine wp_hand ⟨_, rfl⟩ ?_
      rw [wp_fz]
      refine wp_many A rfl ho1 ⟨by omega, by omega⟩ ⟨by omega, by omega⟩ ⟨by omega, by omega⟩ (K := 25) ⟨by omega, by omega, by omega⟩ fun d o2 hd ho2 => ?_
      obtain ⟨s, outs, e, ns, o3, ho3, nd, hl, hn, rfl, rfl⟩ := names_ok A (m := d) ho2 (by omega)
      refine ⟨_, _, _, rfl, e, _, rfl, ?_⟩
      refine ws_for (fun r ds => ∃ (o' : OO) (ar : Ar) (rs : List Str) (s1 : SV) (x3 : Option SV), HS o' ∧ ArOk ps ar ∧ r = rs.map D.str ∧ (ar.map (·.1) ++ rs) = ns ∧ s1.d = dL ps ∧ ds = [some (.own o'), some s1, some (.own (.dct (arK ar))), x3]) ?_ ?_ _ _ ⟨o3, [], ns, _, none, ho3, ArOk.nil ps, rfl, by simp, rfl, rfl⟩
      · rintro x r ds ⟨o', ar, rs, s1, x3, ho', har, hr, hns, hs1, rfl⟩
        cases rs with
        | nil => simp at hr
        | cons z rs =>
          simp only [List.map_cons, List.cons.injEq] at hr
          obtain ⟨rfl, rfl⟩ := hr
          refine ⟨_, rfl, ?_⟩
          simp only [List.set]
          rw [ws_asg, wp_un, wp_fz, wp_slM, wp_fz]
          refine wp_hand ⟨_, rfl⟩ ?_
          rw [wp_rd]
          refine ⟨_, rfl, ?_⟩
          rw [hs1]
          obtain ⟨s, outs, e, ys, o4, hp, ho4, rfl, rfl⟩ := mixed_ok A (xs := ps.map D.str) ho' (by simp; have := hps.l16; omega) (by simp; have := hps.l16; rw [szl]; omega)
          refine ⟨o', _, o4, rfl, e, ?_⟩
          obtain ⟨a, b, e2, ha, hb, hab⟩ := take2 hp hps.nd (by omega)
          simp only [wp_ret, wp_someP, wp_k, D.int.injEq, exists_eq_left']
          have hlen : ys.length = ps.length := by rw [hp.length_eq]; simp
          have e3 : slO (SV.d (.own (.lst ys))) none (some 2) = some (.own (.lst [.str a, .str b])) := by
            simp only [sv_own, oo_lst, slO, cutD]
            have q1 : HT.sIx ys.length 0 none = 0 := by simp [HT.sIx]
            have q2 : HT.sIx ys.length ys.length (some 2) = 2 := by simp [HT.sIx]; omega
            rw [q1, q2, List.drop_zero, Nat.sub_zero, e2]
          have hz : z ∉ ar.map (·.1) := fun hm => by
            have n1 := nd
            rw [← hns] at n1
            exact (List.nodup_append.mp n1).2.2 z hm z (by simp) rfl
          have har2 : ar.length < 24 := by
            have := congrArg List.length hns
            simp at this
            omega
          refine ⟨_, e3, _, rfl, _, ?_, o4, ar ++ [(z, a, b)], rs, .val (dL ps), some (.val (.str z)), ho4, ⟨?_, ?_, ?_, ?_, ?_, by simp; omega⟩, rfl, by simp [← hns], rfl, rfl⟩
          · have hput : putD (arK ar) (.inr z) (.tup [.str a, .str b]) = arK (ar ++ [(z, a, b)]) := by
              rw [put_new]
              · simp [arK]
              · intro kv hkv e
                obtain ⟨p, hp, rfl⟩ := List.mem_map.mp hkv
                simp only [Sum.inr.injEq] at e
                exact hz (List.mem_map.mpr ⟨p, hp, e⟩)
            have hsz : (arK ar).length < sizeLine := by rw [szl]; simp [arK]; omega
            simp [tgS, rd, setF, keyD, hput, hsz]
          · rw [List.map_append, List.map_singleton]
            exact List.nodup_append.mpr ⟨har.nd, by simp, fun x hx y hy e => hz (by have e2 : x = z := e.trans (List.mem_singleton.mp hy); rw [← e2]; exact hx)⟩
          · intro p hp
            rcases List.mem_append.mp hp with h | h
            · exact har.nm p h
            · rw [List.mem_singleton.mp h]; exact hn z (by rw [← hns]; simp)
          · intro p hp
            rcases List.mem_append.mp hp with h | h
            · exact har.a p h
            · rw [List.mem_singleton.mp h]; exact ha
          · intro p hp
            rcases List.mem_append.mp hp with h | h
            · exact har.b p h
            · rw [List.mem_singleton.mp h]; exact hb
          · intro p hp
            rcases List.mem_append.mp hp with h | h
            · exact har.ne p h
            · rw [List.mem_singleton.mp h]; exact hab
      · rintro ds ⟨o', ar, rs, s1, x3, ho', har, hr, hns, hs1, rfl⟩
        exact ⟨o', ar, s1, x3, ho', har, hs1, rfl⟩
    · have h2' : ¬ (1 : Int) < (ps.length : Nat) := by omega
      simp only [h2', decide_false, Bool.false_eq_true, if_false, ws_nx]
      exact ⟨o1, [], _, none, ho1, ArOk.nil ps, rfl, rfl⟩
  · rintro ds ⟨o', ar, s1, x3, ho', har, hs1, rfl⟩
    simp [hs1]
    exact ⟨by rw [szl]; omega, ps, ar, o', ho', hps, har, ⟨rfl, rfl⟩, rfl⟩
end P96
/-! P96f: k96, plain: is_name and the like. -/
namespace P96
open PySem DL K96
def isNm (z : Str) : Bool := decide (1 ≤ z.length) && decide (z.length ≤ 8) && (tl z).all fun c => decide (97 ≤ c) && decide (c ≤ 122)
theorem isNm_iff (z : Str) : isNm z = true ↔ NameS z := by
  unfold isNm NameS
  rw [Bool.and_eq_true, Bool.and_eq_true, decide_eq_true_eq, decide_eq_true_eq, List.all_eq_true, and_assoc]
  simp only [Bool.and_eq_true, decide_eq_true_eq]
theorem in_abc (c : Nat) : inO (.str (sing c)) (.str (Str.ofString "abcdefghijklmnopqrstuvwxyz")) = some (.bl (decide (97 ≤ c) && decide (c ≤ 122))) := by
  unfold inO memF
  have e : (sing c).cps.toList = [c] := rfl
  simp only [e, Option.map_some]
  have e2 : (Str.ofString "abcdefghijklmnopqrstuvwxyz").cps.toList = (List.range 26).map (97 + ·) := abc26
  rw [e2]
  congr 2
  rw [Bool.eq_iff_iff, decide_eq_true_eq, Bool.and_eq_true, decide_eq_true_eq, decide_eq_true_eq, List.mem_map]
  constructor
  · rintro ⟨x, hx, rfl⟩
    have := List.mem_range.mp hx
    omega
  · rintro ⟨h1, h2⟩
    exact ⟨c - 97, List.mem_range.mpr (by omega), by omega⟩
theorem bls_map (l : List Bool) : blsD (l.map .bl) = some l := by
  induction l with
  | nil => rfl
  | cons b r ih => simp [blsD, ih]
theorem all_map (l : List Bool) : allO (.lst (l.map .bl)) = some (.bl (l.all id)) := by simp [allO, bls_map]
theorem any_map (l : List Bool) : anyO (.lst (l.map .bl)) = some (.bl (l.any id)) := by simp [anyO, bls_map]
/-- a comprehension that reckons each item by itself: the slots stay -/
theorem wp_lcf {i : Nat} {mi : M (List D)} {e : M D} {Q : SV → DS → Prop} {ds : DS} (f : D → D) (h : wp mi (fun xs ds1 => xs.length < 16777216 ∧ i < ds1.length ∧ (∀ x ∈ xs, wp e (fun y ds3 => y = f x ∧ ds3.set i none = ds1.set i none) (ds1.set i (some (.val x)))) ∧ Q (.own (.lst (xs.map f))) ((ds1.set i none).set i (valO ds1[i]?))) ds) :
    wp (lcM [i] mi (tgN i) (DL.ret true) e) Q ds := by
  refine wp_lc (fun ds0 r acc ds => ∃ done, acc = done.map f ∧ (done ++ r).length < 16777216 ∧ i < ds0.length ∧ (∀ x ∈ r, wp e (fun y ds3 => y = f x ∧ ds3.set i none = ds0.set i none) (ds0.set i (some (.val x)))) ∧ Q (.own (.lst ((done ++ r).map f))) ((ds0.set i none).set i (valO ds0[i]?)) ∧ ds.set i none = ds0.set i none) ?_ ?_ ?_
  · exact wp_mono h fun xs ds1 ⟨h1, h2, h3, h4⟩ => ⟨[], rfl, by simpa using h1, h2, h3, by simpa using h4, rfl⟩
  · rintro ds0 d r acc ds ⟨done, rfl, hl, hi, he, hq, hd⟩
    refine ⟨_, rfl, ?_⟩
    simp only [wipeD]
    have e1 : (ds.set i none).set i (some (.val d)) = ds0.set i (some (.val d)) := by rw [hd, List.set_set]
    rw [e1]
    refine wp_mono (he d (by simp)) fun y ds3 ⟨hy, h3⟩ => ?_
    refine ⟨by rw [szl, List.length_map]; simp at hl; omega, done ++ [d], by rw [hy]; simp, by simpa using hl, hi, fun x hx => he x (by simp [hx]), by simpa using hq, h3⟩
  · rintro ds0 acc ds ⟨done, rfl, hl, hi, he, hq, hd⟩
    simp only [restD, wipeD]
    rw [hd]
    simpa using hq
theorem seq_str (z : Str) : seqOf (.str z) = some ((tl z).map fun c => .str (sing c)) := rfl
theorem le_ch (z : Str) (i j : Int) (hz : True) : (decide (i ≤ (z.length : Nat)) && decide ((z.length : Int) ≤ j)) = (decide (i ≤ (z.length : Nat)) && decide ((z.length : Int) ≤ j)) := rfl
def lc (d : D) : D := match d with
  | .str y => .bl ((tl y).all fun c => decide (97 ≤ c) && decide (c ≤ 122))
  | d => d
/-- the signs of a short text, each asked -/
theorem lets_ok {i : Nat} {Q : D → DS → Prop} {ds : DS} {z : Str} (h8 : z.length ≤ 8) (hd : ∃ s, ds[0]? = some (some s) ∧ s.d = .str z) (hi : i < ds.length) (hi0 : i ≠ 0) (hn : ds[i]? = some none)
    (q : Q (.bl ((tl z).all fun c => decide (97 ≤ c) && decide (c ≤ 122))) (ds.set 0 (some (.val (.str z))))) :
    wp (un allO (fz (lcM [i] (itM (rd 0)) (tgN i) (DL.ret true) (DL.bin inO (rd i) (k_ (.str "abcdefghijklmnopqrstuvwxyz")))))) Q ds := by
  obtain ⟨s, e0, es⟩ := hd
  rw [wp_un, wp_fz]
  refine wp_lcf lc ?_
  rw [wp_itM, wp_rd]
  refine ⟨s, e0, _, by rw [es]; exact seq_str z, ?_⟩
  rw [es]
  refine ⟨by rw [List.length_map, ← len_tl]; omega, by rw [List.length_set]; exact hi, fun x hx => ?_, ?_⟩
  · obtain ⟨c, hc, rfl⟩ := List.mem_map.mp hx
    rw [wp_bin, wp_rd]
    refine ⟨_, List.getElem?_set_self (by rw [List.length_set]; exact hi), ?_⟩
    rw [wp_k]
    refine ⟨_, in_abc c, ?_, ?_⟩
    · simp [lc, tl]
    · simp [List.set_set]
  · refine ⟨.bl ((tl z).all fun c => decide (97 ≤ c) && decide (c ≤ 122)), ?_, ?_⟩
    · rw [sv_own, oo_lst, List.map_map]
      have e : ((tl z).map (lc ∘ fun c => D.str (sing c))) = ((tl z).map fun c => decide (97 ≤ c) && decide (c ≤ 122)).map D.bl := by
        rw [List.map_map]
        apply List.map_congr_left
        intro c hc
        simp [lc, tl]
      rw [e, all_map, List.all_map]
      rfl
    · have e1 : (ds.set 0 (some (.val (.str z))))[i]? = some none := by rw [List.getElem?_set_ne (by omega)]; exact hn
      have e2 : ((ds.set 0 (some (.val (.str z)))).set i none).set i (valO (some none)) = ds.set 0 (some (.val (.str z))) := by
        rw [List.set_set]
        apply List.ext_getElem?
        intro j
        by_cases hj : i = j
        · subst hj
          rw [List.getElem?_set_self (by rw [List.length_set]; exact hi), e1]; rfl
        · rw [List.getElem?_set_ne hj]
      rw [e1, e2]
      exact q
theorem isi_str (z : Str) : isiO [.str z, .ty "str"] = some (.bl true) := by simp [isiO, tyN, subTy, okTys]
theorem len_str {z : Str} (h : z.length ≤ 16777216) : lenO (.str z) = some (.int z.length) := by
  unfold lenO
  simp only
  rw [if_pos (by rw [szl]; exact h)]
theorem isname_ok (A : CA) (z : Str) (hz : z.length ≤ 16777216) : ∃ s outs, m_is_name A [.val (.str z)] = some (.ok s, outs) ∧ s = .val (.bl (isNm z)) ∧ outs = [some (.val (.str z))] := by
  refine mir_of rfl ?_
  unfold bb_is_name
  by_cases h : 1 ≤ z.length ∧ z.length ≤ 8
  · refine ws_cut (fun ds => ds = [some (.val (.str z)), none]) ?_ ?_
    · have a1 : (1 : Int) ≤ z.length := by omega
      have a2 : (z.length : Int) ≤ 8 := by omega
      simp [isi_str, a1, a2, len_str hz]
    · rintro ds rfl
      rw [ws_ret, wp_vl]
      refine lets_ok h.2 ⟨_, rfl, rfl⟩ (by simp) (by omega) rfl ?_
      simp [isNm, h]
  · have a1 : ¬ ((1 : Int) ≤ z.length ∧ (z.length : Int) ≤ 8) := by omega
    have a3 : isNm z = false := by
      simp [isNm]
      intro h1 h2
      exact absurd ⟨h1, h2⟩ h
    rw [ws_seq]
    by_cases h1 : 1 ≤ z.length
    · have b1 : (1 : Int) ≤ z.length := by omega
      have b2 : ¬ (z.length : Int) ≤ 8 := by omega
      simp [isi_str, b1, b2, a3, len_str hz]
    · have b1 : ¬ (1 : Int) ≤ z.length := by omega
      simp [isi_str, b1, a3, len_str hz]
theorem lisname_ok (A : CA) (z : Str) (hz : z.length ≤ 16777216) : ∃ s outs, m__law_is_name A [.val (.str z)] = some (.ok s, outs) ∧ s = .val (.bl (isNm z)) ∧ outs = [some (.val (.str z))] := by
  refine mir_of rfl ?_
  unfold bb__law_is_name
  rw [ws_ret, wp_vl]
  show wp _ _ [some (SV.val (D.str z)), none]
  rw [wp_andV]
  by_cases h1 : 1 ≤ z.length
  · have b1 : (1 : Int) ≤ z.length := by omega
    by_cases h2 : z.length ≤ 8
    · have b2 : (z.length : Int) ≤ 8 := by omega
      simp only [wp_chain, wp_k, wp_un, wp_pk, le_int, List.getElem?_cons_zero, Option.some.injEq, exists_eq_left', sv_val, len_str hz, D.bl.injEq, b1, b2, decide_true, if_true]
      refine wp_un.mp (lets_ok (i := 1) (ds := [some (.val (.str z)), none]) (Q := fun c ds1 => SV.val c = SV.val (D.bl (isNm z)) ∧ maskK [true] ds1 = [some (SV.val (D.str z))]) h2 ⟨_, rfl, rfl⟩ (by simp) (by omega) rfl ?_)
      simp [isNm, h1, h2]
    · have b2 : ¬ (z.length : Int) ≤ 8 := by omega
      have a3 : isNm z = false := by simp [isNm, h2]
      simp [len_str hz, b1, b2, a3]
  · have b1 : ¬ (1 : Int) ≤ z.length := by omega
    have a3 : isNm z = false := by simp [isNm, h1]
    simp [len_str hz, b1, a3]
end P96
/-! P96g: k96, plain: what a text tells, by _law_read. -/
namespace P96
open PySem DL K96
def wl (l : Str) : List Str := Txt.split l (Str.ofString " ")
def ln (t : Str) : List Str := Txt.split t (Str.ofString "\n")
def incr (ps : List Str) : Bool := (ps.zip (ps.drop 1)).all fun p => ltS p.1 p.2
def plOf (l : Str) : Option (List Str) := match wl l with
  | w :: ps => if w = Str.ofString "places" ∧ 1 ≤ ps.length ∧ ps.length ≤ 16 ∧ ps.all isNm = true ∧ incr ps = true then some ps else none
  | [] => none
def arOf (ps : List Str) (at_ : Nat) (last l : Str) : Option (Str × Str × Str) := match wl l with
  | [w0, w1, w2, w3] => if w0 = Str.ofString "arrow" ∧ isNm w1 = true ∧ ltS last w1 = true ∧ at_ ≠ 24 ∧ w2 ∈ ps ∧ w3 ∈ ps ∧ w2 ≠ w3 then some (w1, w2, w3) else none
  | _ => none
def goAr (ps : List Str) : List Str → Nat → Str → Ar → Nat ⊕ Ar
  | [], _, _, ar => .inr ar
  | l :: r, at_, last, ar => match arOf ps at_ last l with
    | some x => goAr ps r (at_ + 1) x.1 (ar ++ [x])
    | none => .inl (at_ + 3)
def pars (t : Str) : Nat ⊕ (List Str × Ar) := match ln t with
  | [] => .inl 1
  | [l0] => if l0 = Str.ofString "arrows" then .inl 2 else .inl 1
  | l0 :: l1 :: r => if l0 = Str.ofString "arrows" then match plOf l1 with
      | none => .inl 2
      | some ps => match goAr ps r 0 (Str.ofString "") [] with
        | .inl n => .inl n
        | .inr ar => .inr (ps, ar)
    else .inl 1
def enc (x : Nat ⊕ (List Str × Ar)) : D := match x with
  | .inl n => .tup [.str (Str.ofString "bad"), .int n]
  | .inr (ps, ar) => .tup [.str (Str.ofString "told"), dL ps, dA ar]
theorem split_o {x y : Str} (hy : (y.length == 0) = false) (hx : x.length ≤ 1000000) : splitO x (.str y) = some (.own (.lst ((Txt.split x y).map .str))) := by
  unfold splitO
  simp only
  rw [if_pos ⟨hy, by rw [szl]; omega⟩]
theorem nl_ne : ((Str.ofString "\n").length == 0) = false := by decide +kernel
theorem sp_ne : ((Str.ofString " ").length == 0) = false := by decide +kernel
theorem ln_len (t : Str) : (ln t).length ≤ t.length + 2 := PyProof.Rows.split_le t _
theorem wl_len (t : Str) : (wl t).length ≤ t.length + 2 := PyProof.Rows.split_le t _
theorem ln_short {t l : Str} (h : l ∈ ln t) : l.length ≤ t.length := PyProof.Rows.part_short h
theorem wl_short {t l : Str} (h : l ∈ wl t) : l.length ≤ t.length := PyProof.Rows.part_short h
theorem ln_pos (t : Str) : 1 ≤ (ln t).length := PyProof.Rows.split_pos t _
theorem wl_pos (t : Str) : 1 ≤ (wl t).length := PyProof.Rows.split_pos t _
@[simp] theorem ne_str (x y : Str) : neO (.str x) (.str y) = some (.bl (!(x == y))) := rfl
@[simp] theorem eq_strs (x y : Str) : eqO (.str x) (.str y) = some (.bl (x == y)) := rfl
/-- a comprehension over texts that asks each one by itself -/
theorem names_all (A : CA) {i j : Nat} {Q : D → DS → Prop} {ds : DS} {s : SV} {ps : List Str} (e0 : ds[j]? = some (some s)) (es : s.d = dL ps) (hl : ∀ z ∈ ps, z.length ≤ 16777216) (h16 : ps.length < 16777216) (hij : i ≠ j) (hi : i < ds.length) (hn : ds[i]? = some none)
    (q : Q (.bl (ps.all isNm)) (ds.set j (some (.val (dL ps))))) :
    wp (un allO (fz (lcM [i] (itM (rd j)) (tgN i) (DL.ret true) (fz (callM 1 (m__law_is_name A) (gEv (rd i) gNilA)))))) Q ds := by
  rw [wp_un, wp_fz]
  refine wp_lcf (fun d => match d with | .str z => .bl (isNm z) | d => d) ?_
  rw [wp_itM, wp_rd]
  refine ⟨s, e0, _, by rw [es]; rfl, ?_⟩
  rw [es]
  refine ⟨by rw [List.length_map]; exact h16, by rw [List.length_set]; exact hi, fun x hx => ?_, ?_⟩
  · obtain ⟨z, hz, rfl⟩ := List.mem_map.mp hx
    rw [wp_fz]
    refine wp_call1 ?_
    rw [wp_rd]
    refine ⟨_, List.getElem?_set_self (by rw [List.length_set]; exact hi), ?_⟩
    obtain ⟨s', o', e, rfl, rfl⟩ := lisname_ok A z (hl z hz)
    exact ⟨_, _, e, rfl, by simp [List.set_set]⟩
  · refine ⟨.bl (ps.all isNm), ?_, ?_⟩
    · rw [sv_own, oo_lst, List.map_map]
      have e : (ps.map ((fun d => match d with | .str z => D.bl (isNm z) | d => d) ∘ D.str)) = (ps.map isNm).map D.bl := by
        rw [List.map_map]; rfl
      rw [e, all_map, List.all_map]
      rfl
    · have e1 : (ds.set j (some (.val (dL ps))))[i]? = some none := by rw [List.getElem?_set_ne (fun h => hij h.symm)]; exact hn
      have e2 : ((ds.set j (some (.val (dL ps)))).set i none).set i (valO (some none)) = ds.set j (some (.val (dL ps))) := by
        rw [List.set_set]
        apply List.ext_getElem?
        intro k
        by_cases hk : i = k
        · subst hk
          rw [List.getElem?_set_self (by rw [List.length_set]; exact hi), e1]; rfl
        · rw [List.getElem?_set_ne hk]
      rw [e1, e2]
      exact q
theorem drop1 (w : Str) (ps : List Str) : cutD ((w :: ps).map D.str) (some 1) none = ps.map D.str := by
  unfold cutD
  have q1 : HT.sIx ((w :: ps).map D.str).length 0 (some 1) = 1 := by simp [HT.sIx]
  have q2 : HT.sIx ((w :: ps).map D.str).length ((w :: ps).map D.str).length none = ((w :: ps).map D.str).length := rfl
  rw [q1, q2]
  simp [List.take_of_length_le]
theorem cut1 (ps : List Str) (h : 1 ≤ ps.length) : cutD (ps.map D.str) (some 1) none = (ps.drop 1).map D.str := by
  cases ps with
  | nil => simp at h
  | cons w r => exact drop1 w r
theorem cut2 (ps : List Str) (h : 2 ≤ ps.length) : cutD (ps.map D.str) (some 2) none = (ps.drop 2).map D.str := by
  unfold cutD
  have q1 : HT.sIx (ps.map D.str).length 0 (some 2) = 2 := by simp [HT.sIx]; omega
  have q2 : HT.sIx (ps.map D.str).length (ps.map D.str).length none = (ps.map D.str).length := rfl
  rw [q1, q2, List.take_of_length_le (by simp), ← List.map_drop]
def pr (p : Str × Str) : D := .tup [.str p.1, .str p.2]
theorem zip_map (xs ys : List Str) : zipD [.lst (xs.map D.str), .lst (ys.map D.str)] = some ((xs.zip ys).map pr) := by
  unfold zipD
  simp only
  congr 1
  rw [List.zip_map, List.map_map]
  rfl
theorem lt_str (x y : Str) : ltO (.str x) (.str y) = some (.bl (ltS x y)) := rfl
/-- rising: each below the next -/
theorem incr_ok {Q : D → DS → Prop} {a0 a1 a2 : Option SV} {ps : List Str} (h1 : 1 ≤ ps.length) (h16 : ps.length ≤ 16)
    (q : Q (.bl (incr ps)) ([a0, a1, a2, some (.val (dL ps))] ++ List.replicate 7 none)) :
    wp (un allO (fz (lcM [9, 10] (apM zipD (consA (rd 3) (consA (fz (slN 3 (someP (k_ (.int 1))) (DL.ret none))) nilA))) (tgT 2 (tgCons (tgN 9) (tgCons (tgN 10) tgNil))) (DL.ret true) (DL.bin ltO (rd 9) (pk 10))))) Q ([a0, a1, a2, some (.val (dL ps))] ++ List.replicate 7 none) := by
  rw [wp_un, wp_fz]
  refine wp_lc (fun ds0 r acc ds => ∃ (done rest : List (Str × Str)) (x9 x10 : Option SV), acc = done.map (fun p => D.bl (ltS p.1 p.2)) ∧ r = rest.map pr ∧ done ++ rest = ps.zip (ps.drop 1) ∧ ds0 = [a0, a1, a2, some (.val (dL ps))] ++ List.replicate 7 none ∧ ds = [a0, a1, a2, some (.val (dL ps)), none, none, none, none, none, x9, x10]) ?_ ?_ ?_
  · rw [wp_apM, wp_consA, wp_rd]
    refine ⟨_, rfl, ?_⟩
    rw [wp_consA, wp_fz]
    refine wp_slN ⟨_, rfl⟩ ?_
    simp only [wp_someP, wp_k, wp_ret, D.int.injEq, exists_eq_left', wp_nilA]
    refine ⟨_, rfl, .own (.lst ((ps.drop 1).map .str)), ?_, _, zip_map ps (ps.drop 1), [], _, none, none, rfl, rfl, by simp, rfl, rfl⟩
    show some (SV.own (OO.lst (cutD (ps.map D.str) (some 1) none))) = _
    rw [cut1 ps h1]
  · rintro ds0 d r acc ds ⟨done, rest, x9, x10, rfl, hr, hall, rfl, rfl⟩
    cases rest with
    | nil => simp at hr
    | cons p rest =>
      simp only [List.map_cons, List.cons.injEq] at hr
      obtain ⟨rfl, rfl⟩ := hr
      refine ⟨_, rfl, ?_⟩
      rw [wp_bin, wp_rd]
      refine ⟨_, rfl, ?_⟩
      rw [wp_pk]
      refine ⟨_, rfl, _, lt_str _ _, ?_, done ++ [p], rest, _, _, by simp, rfl, by rw [List.append_assoc]; exact hall, rfl, rfl⟩
      have := congrArg List.length hall
      simp at this
      rw [List.length_map, szl]
      omega
  · rintro ds0 acc ds ⟨done, rest, x9, x10, rfl, hr, hall, rfl, rfl⟩
    have hr2 : rest = [] := by
      cases rest with
      | nil => rfl
      | cons p rest => simp at hr
    subst hr2
    refine ⟨.bl (incr ps), ?_, q⟩
    rw [sv_own, oo_lst]
    have e : done.map (fun p => D.bl (ltS p.1 p.2)) = (done.map fun p => ltS p.1 p.2).map D.bl := by rw [List.map_map]; rfl
    rw [e, all_map, List.all_map]
    simp only [List.append_nil] at hall
    rw [hall]
    rfl
def en : Nat → List Str → List D
  | _, [] => []
  | k, l :: r => .tup [.int k, .str l] :: en (k + 1) r
theorem enum_map (ls : List Str) : enumD [.lst (ls.map D.str)] = some (en 0 ls) := by
  have key : ∀ (ls : List Str) (k : Nat), (((List.range' k ls.length).map fun i => D.int (i : Nat)).zip (ls.map D.str)).map (fun p => D.tup [p.1, p.2]) = en k ls := fun ls => by
    induction ls with
    | nil => intro k; rfl
    | cons l r ih =>
      intro k
      simp only [List.length_cons, List.range'_succ, List.map_cons, List.zip_cons_cons, en]
      rw [ih (k + 1)]
  unfold enumD
  simp only [List.length_map]
  rw [List.range_eq_range', key]
theorem le_str (x y : Str) : leO (.str x) (.str y) = some (.bl (!ltS y x)) := rfl
@[simp] theorem ne_int (i j : Int) : neO (.int i) (.int j) = some (.bl (!(i == j))) := by
  simp [neO, eqF, okE, flatD, depD, eqD]
theorem nin_strs (z : Str) (l : List Str) : ninO (.str z) (dL l) = some (.bl (!decide (z ∈ l))) := by
  have h := in_strs z l
  unfold inO at h
  unfold ninO
  cases e : memF (.str z) (.lst (l.map .str)) with
  | none => rw [e] at h; cases h
  | some b => rw [e] at h; simp at h; simp [h]
theorem line_ok (A : CA) {t l last : Str} {ps : List Str} {ar : Ar} {k : Nat} {x1 : Option SV} {x2 : Option SV} {N : DS → Prop} {R : SV → DS → Prop} (hl : l.length ≤ 1000000) (hk : k ≤ 24) (hlen : ar.length = k) (hsort : ∀ p ∈ ar, leB p.1 last = true)
    (hN : ∀ x x2', arOf ps k last l = some x → N [some (.val (.str t)), x1, some x2', some (.val (dL ps)), some (.own (.dct (arK (ar ++ [x])))), some (.val (.str x.1)), some (.val (.int k)), some (.val (.str l)), none, none, none])
    (hR : arOf ps k last l = none → ∀ ds', maskK [true] ds' = [some (.val (.str t))] → R (.val (enc (.inl (k + 3)))) ds') :
    ws (seqM (setM 2 (strM splitO (rd 7) (k_ (.str " "))))
  (seqM (ifM (ifM (isB (DL.bin neO (un lenO (pk 2)) (k_ (.int 4)))) (DL.ret true) (ifM (isB (DL.bin neO (ixN_ 2 (k_ (.int 0))) (k_ (.str "arrow")))) (DL.ret true) (ifM (ngM (isB (fz (callM 1 (m__law_is_name A) (gEv (ixN_ 2 (k_ (.int 1))) gNilA))))) (DL.ret true) (ifM (isB (DL.bin leO (ixN_ 2 (k_ (.int 1))) (pk 5))) (DL.ret true) (isB (DL.bin eqO (rd 6) (k_ (.int 24)))))))) (retM (vl (tupM (consA (k_ (.str "bad")) (consA (fz (DL.bin addO (rd 6) (k_ (.int 3)))) nilA))))) (DL.ret .nx))
  (seqM (ifM (ifM (isB (DL.bin ninO (ixN_ 2 (k_ (.int 2))) (pk 3))) (DL.ret true) (ifM (isB (DL.bin ninO (ixN_ 2 (k_ (.int 3))) (pk 3))) (DL.ret true) (isB (DL.bin eqO (ixN_ 2 (k_ (.int 2))) (ixN_ 2 (k_ (.int 3))))))) (retM (vl (tupM (consA (k_ (.str "bad")) (consA (fz (DL.bin addO (rd 6) (k_ (.int 3)))) nilA))))) (DL.ret .nx))
  (asgM (tupM (consA (tupM (consA (ixN_ 2 (k_ (.int 2))) (consA (ixN_ 2 (k_ (.int 3))) nilA))) (consA (ixN_ 2 (k_ (.int 1))) nilA))) (tgT 2 (tgCons (tgS 4 (ixN_ 2 (k_ (.int 1)))) (tgCons (tgN 5) tgNil))))))) N R
    [some (.val (.str t)), x1, x2, some (.val (dL ps)), some (.own (.dct (arK ar))), some (.val (.str last)), some (.val (.int k)), some (.val (.str l)), none, none, none] := by
  refine ws_cut (fun ds => ds = [some (.val (.str t)), x1, some (.own (.lst ((wl l).map .str))), some (.val (dL ps)), some (.own (.dct (arK ar))), some (.val (.str last)), some (.val (.int k)), some (.val (.str l)), none, none, none]) ?_ ?_
  · rw [ws_set, wp_strM, wp_rd]
    refine ⟨_, rfl, _, rfl, ?_⟩
    rw [wp_k]
    exact ⟨_, split_o sp_ne hl, rfl⟩
  rintro ds rfl
  have hb : arOf ps k last l = none → ∀ ds', maskK [true] ds' = [some (.val (.str t))] → R (.val (.tup [.str (Str.ofString "bad"), .int ((k : Int) + 3)])) ds' := fun h ds' hm => by
    have := hR h ds' hm
    have e : ((k + 3 : Nat) : Int) = (k : Int) + 3 := by omega
    simp only [enc, e] at this
    exact this
  have hwl := wl_len l
  by_cases h4 : (wl l).length = 4
  · obtain ⟨w0, w1, w2, w3, e4⟩ : ∃ w0 w1 w2 w3, wl l = [w0, w1, w2, w3] := by
      match hw : wl l, h4 with
      | [a, b, c, d], _ => exact ⟨a, b, c, d, rfl⟩
    rw [e4]
    have hw1 : w1.length ≤ 16777216 := by
      have := wl_short (t := l) (l := w1) (by rw [e4]; simp)
      omega
    obtain ⟨s', o', eN, rfl, rfl⟩ := lisname_ok A w1 hw1
    have none_of : ¬ (w0 = Str.ofString "arrow" ∧ isNm w1 = true ∧ ltS last w1 = true ∧ k ≠ 24 ∧ w2 ∈ ps ∧ w3 ∈ ps ∧ w2 ≠ w3) → arOf ps k last l = none := fun h => by
      unfold arOf
      rw [e4]
      simp only
      rw [if_neg h]
    have hbad : arOf ps k last l = none → ∀ N' : DS → Prop, ws (retM (vl (tupM (consA (k_ (.str "bad")) (consA (fz (DL.bin addO (rd 6) (k_ (.int 3)))) nilA))))) N' R
        [some (.val (.str t)), x1, some (.own (.lst ([w0, w1, w2, w3].map .str))), some (.val (dL ps)), some (.own (.dct (arK ar))), some (.val (.str last)), some (.val (.int k)), some (.val (.str l)), none, none, none] := fun h N' => by
      simp [szl]
      exact hb h _ (by simp)
    refine ws_cut (fun ds => (w0 = Str.ofString "arrow" ∧ isNm w1 = true ∧ ltS last w1 = true ∧ k ≠ 24) ∧ ds = [some (.val (.str t)), x1, some (.own (.lst ([w0, w1, w2, w3].map .str))), some (.val (dL ps)), some (.own (.dct (arK ar))), some (.val (.str last)), some (.val (.int k)), some (.val (.str l)), none, none, none]) ?_ ?_
    · rw [ws_if, wp_ifM, wp_isB, wp_bin, wp_un, wp_pk]
      refine ⟨_, rfl, _, rfl, ?_⟩
      rw [wp_k]
      refine ⟨_, ne_int _ _, _, rfl, ?_⟩
      rw [if_neg (by simp), wp_ifM, wp_isB, wp_bin, wp_ixNk]
      refine ⟨_, rfl, _, ix_0 _ _, ?_⟩
      rw [wp_k]
      refine ⟨_, ne_str _ _, _, rfl, ?_⟩
      by_cases g0 : w0 = Str.ofString "arrow"
      · rw [if_neg (by simp [g0]), wp_ifM, wp_ngM, wp_isB, wp_fz]
        refine wp_call1 ?_
        rw [wp_ixNk]
        refine ⟨_, rfl, _, ix_1 _ _ _, _, _, eN, _, rfl, ?_⟩
        by_cases g1 : isNm w1 = true
        · rw [if_neg (by simp [g1]), wp_ifM, wp_isB, wp_bin, wp_ixNk]
          refine ⟨_, rfl, _, ix_1 _ _ _, ?_⟩
          rw [wp_pk]
          refine ⟨_, rfl, _, le_str _ _, _, rfl, ?_⟩
          by_cases g2 : ltS last w1 = true
          · rw [if_neg (by simp [g2]), wp_isB, wp_bin, wp_rd]
            refine ⟨_, rfl, ?_⟩
            rw [wp_k]
            refine ⟨_, eq_int _ _, _, rfl, ?_⟩
            by_cases g3 : k = 24
            · rw [if_pos (by simp [g3])]
              exact hbad (none_of fun h => h.2.2.2.1 g3) _
            · have g3' : ¬ (k : Int) = 24 := by omega
              rw [if_neg (by simp [g3']), ws_nx]
              exact ⟨⟨g0, g1, g2, g3⟩, rfl⟩
          · rw [if_pos (by simp [g2]), wp_ret, if_pos rfl]
            exact hbad (none_of fun h => g2 h.2.2.1) _
        · rw [if_pos (by simp [g1]), wp_ret, if_pos rfl]
          exact hbad (none_of fun h => g1 h.2.1) _
      · rw [if_pos (by simp [g0]), wp_ret, if_pos rfl]
        exact hbad (none_of fun h => g0 h.1) _
    rintro ds ⟨⟨g0, g1, g2, g3⟩, rfl⟩
    refine ws_cut (fun ds => (w2 ∈ ps ∧ w3 ∈ ps ∧ w2 ≠ w3) ∧ ds = [some (.val (.str t)), x1, some (.own (.lst ([w0, w1, w2, w3].map .str))), some (.val (dL ps)), some (.own (.dct (arK ar))), some (.val (.str last)), some (.val (.int k)), some (.val (.str l)), none, none, none]) ?_ ?_
    · rw [ws_if, wp_ifM, wp_isB, wp_bin, wp_ixNk]
      refine ⟨_, rfl, _, ix_2 _ _ _ _, ?_⟩
      rw [wp_pk]
      refine ⟨_, rfl, _, nin_strs _ _, _, rfl, ?_⟩
      by_cases c0 : w2 ∈ ps
      · rw [if_neg (by simp [c0]), wp_ifM, wp_isB, wp_bin, wp_ixNk]
        refine ⟨_, rfl, _, ix_3 _ _ _ _ _, ?_⟩
        rw [wp_pk]
        refine ⟨_, rfl, _, nin_strs _ _, _, rfl, ?_⟩
        by_cases c1 : w3 ∈ ps
        · rw [if_neg (by simp [c1]), wp_isB, wp_bin, wp_ixNk]
          refine ⟨_, rfl, _, ix_2 _ _ _ _, ?_⟩
          rw [wp_ixNk]
          refine ⟨_, rfl, _, ix_3 _ _ _ _ _, _, eq_strs _ _, _, rfl, ?_⟩
          by_cases c2 : w2 = w3
          · rw [if_pos (by simp [c2])]
            exact hbad (none_of fun h => h.2.2.2.2.2.2 c2) _
          · rw [if_neg (by simp [c2]), ws_nx]
            exact ⟨⟨c0, c1, c2⟩, rfl⟩
        · rw [if_pos (by simp [c1]), wp_ret, if_pos rfl]
          exact hbad (none_of fun h => c1 h.2.2.2.2.2.1) _
      · rw [if_pos (by simp [c0]), wp_ret, if_pos rfl]
        exact hbad (none_of fun h => c0 h.2.2.2.2.1) _
    rintro ds ⟨⟨c0, c1, c2⟩, rfl⟩
    have hsome : arOf ps k last l = some (w1, w2, w3) := by
      unfold arOf
      rw [e4]
      simp only
      rw [if_pos ⟨g0, g1, g2, g3, c0, c1, c2⟩]
    have hput : putD (arK ar) (.inr w1) (.tup [.str w2, .str w3]) = arK (ar ++ [(w1, w2, w3)]) := by
      rw [put_new]
      · simp [arK]
      · intro kv hkv e
        obtain ⟨p, hp, rfl⟩ := List.mem_map.mp hkv
        simp only [Sum.inr.injEq] at e
        have q := hsort p hp
        rw [e] at q
        unfold leB at q
        rw [g2] at q
        cases q
    have hsz : (arK ar).length < sizeLine := by rw [szl]; simp [arK]; omega
    rw [ws_asg]
    simp only [wp_tupM, wp_consA, wp_ixNk, wp_nilA]
    refine ⟨_, rfl, _, ix_2 _ _ _ _, _, rfl, _, ix_3 _ _ _ _ _, by rw [szl]; simp, _, rfl, _, ix_1 _ _ _, by rw [szl]; simp, _, ?_, hN _ (.own (.lst ([w0, w1, w2, w3].map .str))) hsome⟩
    simp [tgT, tgCons, tgNil, tgN, tgS, ixN_, k_, DL.ret, bnd, lift, setF, keyD, hput, hsz]
  · have en : arOf ps k last l = none := by
      unfold arOf
      split
      · rename_i e; rw [e] at h4; simp at h4
      · rfl
    have h4' : ¬ ((wl l).length : Int) = 4 := by omega
    rw [ws_seq]
    simp [h4', szl]
    exact hb en _ (by simp)
theorem arOf_some {ps : List Str} {k : Nat} {last l : Str} {x : Str × Str × Str} (h : arOf ps k last l = some x) : ltS last x.1 = true ∧ k ≠ 24 ∧ isNm x.1 = true ∧ x.2.1 ∈ ps ∧ x.2.2 ∈ ps ∧ x.2.1 ≠ x.2.2 ∧ wl l = [Str.ofString "arrow", x.1, x.2.1, x.2.2] := by
  unfold arOf at h
  split at h
  · rename_i w0 w1 w2 w3 e
    split at h
    · rename_i c
      cases h
      exact ⟨c.2.2.1, c.2.2.2.1, c.2.1, c.2.2.2.2.1, c.2.2.2.2.2.1, c.2.2.2.2.2.2, by rw [e, c.1]⟩
    · cases h
  · cases h
theorem leB_refl (x : Str) : leB x x = true := by
  have := leB_total x x
  simpa using this
theorem leB_of_lt {x y : Str} (h : ltS x y = true) : leB x y = true := by
  have h1 : leB y x = false := by unfold leB; rw [h]; rfl
  have := leB_total x y
  simpa [h1] using this
theorem sort_more {ar : Ar} {last : Str} {x : Str × Str × Str} (h : ∀ p ∈ ar, leB p.1 last = true) (hx : ltS last x.1 = true) : ∀ p ∈ ar ++ [x], leB p.1 x.1 = true := fun p hp => by
  rcases List.mem_append.mp hp with q | q
  · exact leB_trans _ _ _ (h p q) (leB_of_lt hx)
  · rw [List.mem_singleton.mp q]; exact leB_refl _
theorem lread_ok (A : CA) (t : Str) (ht : t.length ≤ 1000000) : ∃ s outs, m__law_read A [.val (.str t)] = some (.ok s, outs) ∧ s = .val (enc (pars t)) ∧ outs = [some (.val (.str t))] := by
  refine mir_of rfl ?_
  unfold bb__law_read
  refine ws_cut (fun ds => ds = [some (.val (.str t)), some (.own (.lst ((ln t).map .str)))] ++ List.replicate 9 none) ?_ ?_
  · rw [ws_set, wp_strM, wp_rd]
    refine ⟨_, rfl, _, rfl, ?_⟩
    rw [wp_k]
    exact ⟨_, split_o nl_ne ht, rfl⟩
  rintro ds rfl
  have hp := ln_pos t
  have hen : enc (pars t) = enc (pars t) := rfl
  cases hln : ln t with
  | nil => rw [hln] at hp; simp at hp
  | cons l0 r0 =>
    by_cases h0 : l0 = Str.ofString "arrows"
    · subst h0
      cases r0 with
      | nil =>
        have e : pars t = .inl 2 := by simp [pars, hln]
        rw [e]
        simp [enc, szl]
      | cons l1 r =>
        have hl1 : l1.length ≤ 1000000 := by
          have := ln_short (t := t) (l := l1) (by rw [hln]; simp)
          omega
        refine ws_cut (fun ds => ds = [some (.val (.str t)), some (.own (.lst ((ln t).map .str)))] ++ List.replicate 9 none) ?_ ?_
        · rw [hln]; simp
        rintro ds rfl
        refine ws_cut (fun ds => ds = [some (.val (.str t)), some (.own (.lst ((ln t).map .str)))] ++ List.replicate 9 none) ?_ ?_
        · rw [hln]; simp; omega
        rintro ds rfl
        refine ws_cut (fun ds => ds = [some (.val (.str t)), some (.own (.lst ((ln t).map .str))), some (.own (.lst ((wl l1).map .str)))] ++ List.replicate 8 none) ?_ ?_
        · rw [hln, ws_set, wp_strM, wp_ixNk]
          refine ⟨_, rfl, _, ix_1 _ _ _, _, rfl, ?_⟩
          rw [wp_k]
          exact ⟨_, split_o sp_ne hl1, rfl⟩
        rintro ds rfl
        have hwp := wl_pos l1
        cases hwl : wl l1 with
        | nil => rw [hwl] at hwp; simp at hwp
        | cons w0 ps =>
          have hps : ∀ z ∈ ps, z.length ≤ 16777216 := fun z hz => by
            have := wl_short (t := l1) (l := z) (by rw [hwl]; simp [hz])
            omega
          have hpl : ps.length < 16777216 := by
            have := wl_len l1
            rw [hwl] at this
            simp at this
            omega
          refine ws_cut (fun ds => ds = [some (.val (.str t)), some (.own (.lst ((ln t).map .str))), some (.own (.lst ((w0 :: ps).map .str))), some (.own (.lst (ps.map .str)))] ++ List.replicate 7 none) ?_ ?_
          · rw [ws_set]
            refine wp_slN ⟨_, rfl⟩ ?_
            simp only [wp_someP, wp_k, wp_ret, D.int.injEq, exists_eq_left']
            refine ⟨_, rfl, .own (.lst (ps.map .str)), ?_, rfl⟩
            show some (SV.own (OO.lst (cutD ((w0 :: ps).map D.str) (some 1) none))) = _
            rw [drop1]
          rintro ds rfl
          have bad2 : plOf l1 = none → pars t = .inl 2 := fun h => by
            unfold pars
            rw [hln]
            simp [h]
          by_cases c1 : w0 = Str.ofString "places"
          · by_cases c2 : 1 ≤ ps.length ∧ ps.length ≤ 16
            · have d1 : (1 : Int) ≤ ps.length := by omega
              have d2 : (ps.length : Int) ≤ 16 := by omega
              refine ws_cut (fun ds => ps.all isNm = true ∧ ds = [some (.val (.str t)), some (.own (.lst ((ln t).map .str))), some (.own (.lst ((w0 :: ps).map .str))), some (.val (dL ps))] ++ List.replicate 7 none) ?_ ?_
              · rw [ws_if, wp_ifM, wp_isB, wp_bin, wp_ixNk]
                refine ⟨_, rfl, _, ix_0 _ _, ?_⟩
                rw [wp_k]
                refine ⟨_, ne_str _ _, _, rfl, ?_⟩
                rw [c1, beq_self_eq_true]
                simp only [Bool.not_true, Bool.false_eq_true, if_false]
                rw [wp_ifM, wp_ngM, wp_isB, wp_chain, wp_k, wp_un, wp_pk]
                refine ⟨_, rfl, _, rfl, true, ?_, ?_⟩
                · simp [d1]
                rw [if_pos rfl, wp_k]
                refine ⟨_, le_int _ _, true, ?_, ?_⟩
                · simp [d2]
                simp only [Bool.not_true, Bool.false_eq_true, if_false]
                rw [wp_ngM, wp_isB]
                refine names_all A (i := 8) (j := 3) (s := .own (.lst (ps.map .str))) rfl rfl hps hpl (by omega) (by simp) rfl ?_
                refine ⟨_, rfl, ?_⟩
                cases hall : ps.all isNm with
                | true => simp [c1]
                | false =>
                  have e : pars t = .inl 2 := bad2 (by simp [plOf, hwl, hall])
                  rw [e]
                  simp [enc, szl]
              rintro ds ⟨hall, rfl⟩
              refine ws_cut (fun ds => incr ps = true ∧ ds = [some (.val (.str t)), some (.own (.lst ((ln t).map .str))), some (.own (.lst ((w0 :: ps).map .str))), some (.val (dL ps))] ++ List.replicate 7 none) ?_ ?_
              · rw [ws_if, wp_ngM, wp_isB]
                refine incr_ok c2.1 c2.2 ?_
                refine ⟨_, rfl, ?_⟩
                cases hinc : incr ps with
                | true => simp
                | false =>
                  have e : pars t = .inl 2 := bad2 (by simp [plOf, hwl, hinc])
                  rw [e]
                  simp [enc, szl]
              rintro ds ⟨hinc, rfl⟩
              have hpo : plOf l1 = some ps := by
                unfold plOf
                rw [hwl]
                simp only
                rw [if_pos ⟨c1, c2.1, c2.2, hall, hinc⟩]
              have hpar : pars t = match goAr ps r 0 (Str.ofString "") [] with
                | .inl n => .inl n
                | .inr ar => .inr (ps, ar) := by
                unfold pars
                rw [hln]
                simp [hpo]
              refine ws_cut (fun ds => ds = [some (.val (.str t)), some (.own (.lst ((ln t).map .str))), some (.own (.lst ((w0 :: ps).map .str))), some (.val (dL ps)), some (.own (.dct [])), some (.val (.str (Str.ofString "")))] ++ List.replicate 5 none) ?_ ?_
              · simp
              rintro ds rfl
              have hls : ∀ l ∈ r, l.length ≤ 1000000 := fun l hl => by
                have := ln_short (t := t) (l := l) (by rw [hln]; simp [hl])
                omega
              rw [ws_seq, ws_forI, wp_apM, wp_consA, wp_fz]
              refine wp_slN ⟨_, rfl⟩ ?_
              simp only [wp_someP, wp_k, wp_ret, D.int.injEq, exists_eq_left', wp_nilA]
              refine ⟨_, rfl, .own (.lst (r.map .str)), ?_, _, enum_map r, ?_⟩
              · show some (SV.own (OO.lst (cutD ((ln t).map D.str) (some 2) none))) = _
                rw [cut2 _ (by rw [hln]; simp), hln]
                rfl
              refine ws_for (fun rr ds => ∃ (ls : List Str) (k : Nat) (last : Str) (ar : Ar) (x2 x6 x7 : Option SV), rr = en k ls ∧ goAr ps ls k last ar = goAr ps r 0 (Str.ofString "") [] ∧ (∀ l ∈ ls, l.length ≤ 1000000) ∧ ar.length = k ∧ k ≤ 24 ∧ (∀ p ∈ ar, leB p.1 last = true) ∧
                ds = [some (.val (.str t)), some (.own (.lst ((ln t).map .str))), x2, some (.val (dL ps)), some (.own (.dct (arK ar))), some (.val (.str last)), x6, x7, none, none, none]) ?_ ?_ _ _ ⟨r, 0, _, [], _, _, _, rfl, rfl, hls, rfl, by omega, by simp, rfl⟩
              · rintro d rr ds ⟨ls, k, last, ar, x2, x6, x7, hr, hg, hl, hlen, hk, hsort, rfl⟩
                cases ls with
                | nil => cases hr
                | cons l ls =>
                  unfold en at hr
                  cases hr
                  refine ⟨_, rfl, ?_⟩
                  refine line_ok A (hl l (by simp)) hk hlen hsort (fun x x2' hx => ?_) fun hx ds' hm => ?_
                  · obtain ⟨a1, a2, _⟩ := arOf_some hx
                    refine ⟨ls, k + 1, x.1, ar ++ [x], _, _, _, rfl, ?_, fun l' hl' => hl l' (by simp [hl']), by simp [hlen], by omega, sort_more hsort a1, rfl⟩
                    rw [← hg]
                    conv => rhs; unfold goAr
                    rw [hx]
                  · have e : goAr ps r 0 (Str.ofString "") [] = .inl (k + 3) := by
                      rw [← hg]
                      conv => lhs; unfold goAr
                      rw [hx]
                    rw [hpar, e]
                    exact ⟨rfl, hm⟩
              · rintro ds ⟨ls, k, last, ar, x2, x6, x7, hr, hg, hl, hlen, hk, hsort, rfl⟩
                cases ls with
                | cons l ls => cases hr
                | nil =>
                  have e : goAr ps r 0 (Str.ofString "") [] = .inr ar := by rw [← hg]; rfl
                  rw [hpar, e]
                  simp [enc, szl]
            · have e : pars t = .inl 2 := bad2 (by
                unfold plOf
                rw [hwl]
                simp only
                rw [if_neg]
                rintro ⟨_, h1, h2, _⟩
                exact c2 ⟨h1, h2⟩)
              rw [e]
              have d1 : ¬ ((1 : Int) ≤ ps.length ∧ (ps.length : Int) ≤ 16) := by omega
              by_cases h1 : (1 : Int) ≤ ps.length
              · have h2 : ¬ (ps.length : Int) ≤ 16 := by omega
                simp [c1, h1, h2, enc, szl]
              · simp [c1, h1, enc, szl]
          · have e : pars t = .inl 2 := bad2 (by simp [plOf, hwl, c1])
            rw [e]
            simp [c1, enc, szl]
    · have e : pars t = .inl 1 := by
        unfold pars
        rw [hln]
        cases r0 <;> simp [h0]
      rw [e]
      simp [h0, enc, szl]
end P96
/-! P96h: k96, plain: the reader of the package. -/
namespace P96
open PySem DL K96
theorem ltS_iff (x y : Str) : ltS x y = true ↔ leB y x = false := by
  unfold leB; cases ltS x y <;> simp
theorem ltS_trans {x y z : Str} (h : ltS x y = true) (h' : ltS y z = true) : ltS x z = true := by
  cases e : ltS x z with
  | true => rfl
  | false =>
    have h1 : leB z x = true := by unfold leB; rw [e]; rfl
    have h2 := leB_trans _ _ _ h1 (leB_of_lt h)
    rw [(ltS_iff y z).mp h'] at h2
    cases h2
theorem ltS_irr (x : Str) : ltS x x = false := by
  have := leB_refl x
  unfold leB at this
  simpa using this
theorem incr_pw : ∀ {ps : List Str}, incr ps = true → ps.Pairwise fun a b => ltS a b = true
  | [], _ => List.Pairwise.nil
  | [x], _ => by simp
  | x :: y :: r, h => by
    have h1 : ltS x y = true ∧ incr (y :: r) = true := by
      unfold incr at h ⊢
      simpa using h
    have ih := incr_pw h1.2
    refine List.pairwise_cons.mpr ⟨fun z hz => ?_, ih⟩
    rcases List.mem_cons.mp hz with rfl | hz
    · exact h1.1
    · exact ltS_trans h1.1 ((List.pairwise_cons.mp ih).1 z hz)
theorem pw_incr : ∀ {ps : List Str}, (ps.Pairwise fun a b => ltS a b = true) → incr ps = true
  | [], _ => rfl
  | [x], _ => rfl
  | x :: y :: r, h => by
    have h1 := List.pairwise_cons.mp h
    have ih := pw_incr h1.2
    have h2 := h1.1 y (by simp)
    unfold incr at ih ⊢
    simp only [List.drop_succ_cons, List.drop_zero, List.zip_cons_cons, List.all_cons, h2, Bool.true_and] at ih ⊢
    exact ih
theorem pw_nodup {ps : List Str} (h : ps.Pairwise fun a b => ltS a b = true) : ps.Nodup := h.imp fun {a b} q e => by
  rw [e, ltS_irr] at q; cases q
theorem setSort_iff (ps : List Str) : ps = setSortS ps ↔ incr ps = true := by
  have hm : ∀ z, z ∈ metS ps [] ↔ z ∈ ps := fun z => by rw [met_mem]; simp
  have nd := met_nodup ps [] List.nodup_nil
  constructor
  · intro e
    have hp : (setSortS ps).Perm (metS ps []) := sortS_perm _
    have nd2 : ps.Nodup := by rw [e]; exact hp.symm.nodup nd
    have pw : ps.Pairwise fun a b => leB a b = true := by rw [e]; exact sortS_pw _
    refine pw_incr ?_
    have := List.Pairwise.and pw nd2
    refine this.imp fun {a b} q => ?_
    cases e2 : ltS a b with
    | true => rfl
    | false =>
      have h1 : leB b a = true := by unfold leB; rw [e2]; rfl
      exact absurd (leB_anti a b q.1 h1) q.2
  · intro h
    have pw := incr_pw h
    have nd2 := pw_nodup pw
    refine sortS_uniq ?_ (pw.imp fun {a b} q => leB_of_lt q)
    exact (List.perm_ext_iff_of_nodup nd2 nd).mpr fun z => (hm z).symm
theorem name_ok {z : Str} (h : NameS z) : flatD (.str z) = true := by
  show z.cps.all (· < 0x110000) = true
  rw [← Array.all_toList, List.all_eq_true]
  intro c hc
  have := (h.2.2 c hc).2
  simp
  omega
theorem flat_names : ∀ {ps : List Str}, (∀ z ∈ ps, NameS z) → flatDs (ps.map D.str) = true
  | [], _ => rfl
  | z :: r, h => by
    show (flatD (.str z) && flatDs (r.map D.str)) = true
    rw [name_ok (h z (by simp)), flat_names fun y hy => h y (by simp [hy])]
    rfl
theorem dep_names : ∀ ps : List Str, depDs (ps.map D.str) = 0
  | [] => rfl
  | z :: r => by
    show max (depD (.str z)) (depDs (r.map D.str)) = 0
    rw [dep_names r]
    rfl
theorem eqs_names : ∀ ps qs : List Str, eqDs (ps.map D.str) (qs.map D.str) = decide (ps = qs)
  | [], [] => rfl
  | [], _ :: _ => rfl
  | _ :: _, [] => rfl
  | x :: xs, y :: ys => by
    show ((x == y) && eqDs (xs.map D.str) (ys.map D.str)) = _
    rw [eqs_names xs ys, Bool.eq_iff_iff]
    simp
theorem okE_names {ps : List Str} (h : ∀ z ∈ ps, NameS z) : okE (dL ps) = true := by
  unfold okE
  have h1 : flatD (dL ps) = true := flat_names h
  have h2 : depD (dL ps) = 1 := by
    show depDs (ps.map D.str) + 1 = 1
    rw [dep_names]
  rw [h1, h2]
  rfl
theorem eq_names {ps qs : List Str} (h : ∀ z ∈ ps, NameS z) (h' : ∀ z ∈ qs, NameS z) : eqO (dL ps) (dL qs) = some (.bl (decide (ps = qs))) := by
  unfold eqO eqF
  simp only [okE_names h, okE_names h', Bool.and_self, if_true, Option.map_some]
  congr 2
  exact eqs_names ps qs
theorem len_mem {ps : List Str} : setSortS ps = setSortS ps := rfl
theorem setSort_mem {ps : List Str} {z : Str} (h : z ∈ setSortS ps) : z ∈ ps := by
  have h1 : z ∈ metS ps [] := (sortS_perm _).subset h
  rw [met_mem] at h1
  simpa using h1
/-- all(is_name(word) for words behind the first) -/
theorem isnames_all (A : CA) {i : Nat} {mi : M (List D)} {Q : D → DS → Prop} {ds : DS} {ps : List Str} (hl : ∀ z ∈ ps, z.length ≤ 16777216) (h16 : ps.length < 16777216) (hi : i < ds.length) (hn : ds[i]? = some none) (hm : ∀ Q' : List D → DS → Prop, Q' (ps.map D.str) ds → wp mi Q' ds)
    (q : Q (.bl (ps.all isNm)) ds) :
    wp (un allO (fz (lcM [i] mi (tgN i) (DL.ret true) (fz (callM 1 (m_is_name A) (gEv (rd i) gNilA)))))) Q ds := by
  rw [wp_un, wp_fz]
  refine wp_lcf (fun d => match d with | .str z => .bl (isNm z) | d => d) (hm _ ?_)
  refine ⟨by rw [List.length_map]; exact h16, hi, fun x hx => ?_, ?_⟩
  · obtain ⟨z, hz, rfl⟩ := List.mem_map.mp hx
    rw [wp_fz]
    refine wp_call1 ?_
    rw [wp_rd]
    refine ⟨_, List.getElem?_set_self hi, ?_⟩
    obtain ⟨s', o', e, rfl, rfl⟩ := isname_ok A z (hl z hz)
    exact ⟨_, _, e, rfl, by simp [List.set_set]⟩
  · refine ⟨.bl (ps.all isNm), ?_, ?_⟩
    · rw [sv_own, oo_lst, List.map_map]
      have e : (ps.map ((fun d => match d with | .str z => D.bl (isNm z) | d => d) ∘ D.str)) = (ps.map isNm).map D.bl := by
        rw [List.map_map]; rfl
      rw [e, all_map, List.all_map]
      rfl
    · have e2 : (ds.set i none).set i (valO (some none)) = ds := by
        rw [List.set_set]
        apply List.ext_getElem?
        intro k
        by_cases hk : i = k
        · subst hk
          rw [List.getElem?_set_self hi, hn]; rfl
        · rw [List.getElem?_set_ne hk]
      rw [hn, e2]
      exact q
theorem tail_sl {w : Str} {ps : List Str} {Q : SV → DS → Prop} {ds : DS} {i : Nat} (h : ds[i]? = some (some (.own (.lst ((w :: ps).map .str))))) (q : Q (.own (.lst (ps.map .str))) ds) : wp (slN i (someP (k_ (.int 1))) (DL.ret none)) Q ds := by
  refine wp_slN ⟨_, h⟩ ?_
  simp only [wp_someP, wp_k, wp_ret, D.int.injEq, exists_eq_left']
  refine ⟨_, h, .own (.lst (ps.map .str)), ?_, q⟩
  show some (SV.own (OO.lst (cutD ((w :: ps).map D.str) (some 1) none))) = _
  rw [drop1]
def plS (o : Option (List Str)) : SV := match o with
  | some ps => .own (.lst (ps.map .str))
  | none => .val .non
theorem rplaces_ok (A : CA) (l : Str) (hl : l.length ≤ 1000000) : ∃ s outs, m_read_places A [.val (.str l)] = some (.ok s, outs) ∧ s = plS (plOf l) ∧ outs = [some (.val (.str l))] := by
  refine mir_of rfl ?_
  unfold bb_read_places
  refine ws_cut (fun ds => ds = [some (.val (.str l)), some (.own (.lst ((wl l).map .str))), none]) ?_ ?_
  · rw [ws_set, wp_strM, wp_rd]
    refine ⟨_, rfl, _, rfl, ?_⟩
    rw [wp_k]
    exact ⟨_, split_o sp_ne hl, rfl⟩
  rintro ds rfl
  have hwp := wl_pos l
  cases hwl : wl l with
  | nil => rw [hwl] at hwp; simp at hwp
  | cons w0 ps =>
    have hps : ∀ z ∈ ps, z.length ≤ 16777216 := fun z hz => by
      have := wl_short (t := l) (l := z) (by rw [hwl]; simp [hz])
      omega
    have hpl : ps.length < 16777216 := by
      have := wl_len l
      rw [hwl] at this
      simp at this
      omega
    have none_of : ¬ (w0 = Str.ofString "places" ∧ 1 ≤ ps.length ∧ ps.length ≤ 16 ∧ ps.all isNm = true ∧ incr ps = true) → plOf l = none := fun h => by
      unfold plOf
      rw [hwl]
      simp only
      rw [if_neg h]
    have hbad : plOf l = none → ∀ N' : DS → Prop, ws (retM (vl (k_ .non))) N' (fun s ds => s = plS (plOf l) ∧ maskK [true] ds = [some (SV.val (D.str l))]) [some (.val (.str l)), some (.own (.lst ((w0 :: ps).map .str))), none] := fun h N' => by
      rw [h]
      simp [plS]
    refine ws_cut (fun ds => (w0 = Str.ofString "places" ∧ 1 ≤ ps.length ∧ ps.length ≤ 16 ∧ ps.all isNm = true) ∧ ds = [some (.val (.str l)), some (.own (.lst ((w0 :: ps).map .str))), none]) ?_ ?_
    · rw [ws_if, wp_ifM, wp_isB, wp_bin, wp_ixNk]
      refine ⟨_, rfl, _, ix_0 _ _, ?_⟩
      rw [wp_k]
      refine ⟨_, ne_str _ _, _, rfl, ?_⟩
      by_cases c1 : w0 = Str.ofString "places"
      · rw [if_neg (by simp [c1]), wp_ifM, wp_ngM, wp_isB, wp_chain, wp_k, wp_un, wp_pk]
        refine ⟨_, rfl, _, rfl, _, le_int _ _, ?_⟩
        by_cases c2 : 1 ≤ ps.length
        · rw [if_pos (by simp; omega), wp_fz, wp_bin, wp_k, wp_k]
          refine ⟨_, add_int _ _, _, le_int _ _, _, rfl, ?_⟩
          by_cases c3 : ps.length ≤ 16
          · rw [if_neg (by simp; omega), wp_ngM, wp_isB]
            refine isnames_all A (i := 2) (ps := ps) hps hpl (by simp) rfl (fun Q' hq => ?_) ?_
            · rw [wp_itM, wp_fz]
              exact tail_sl rfl ⟨_, rfl, hq⟩
            refine ⟨_, rfl, ?_⟩
            cases hall : ps.all isNm with
            | true => simp [c1, c2, c3]
            | false =>
              rw [if_pos (show (!false) = true from rfl)]
              exact hbad (none_of fun h => by rw [hall] at h; simp at h) _
          · rw [if_pos (by simp; omega), wp_ret, if_pos rfl]
            exact hbad (none_of fun h => c3 h.2.2.1) _
        · rw [if_neg (by simp; omega)]
          refine ⟨_, rfl, ?_⟩
          rw [if_pos (show (!false) = true from rfl), wp_ret, if_pos rfl]
          exact hbad (none_of fun h => c2 h.2.1) _
      · rw [if_pos (by simp [c1]), wp_ret, if_pos rfl]
        exact hbad (none_of fun h => c1 h.1) _
    rintro ds ⟨⟨c1, c2, c3, hall⟩, rfl⟩
    have hnm : ∀ z ∈ ps, NameS z := fun z hz => (isNm_iff z).mp (List.all_eq_true.mp hall z hz)
    rw [ws_ret, wp_ifM, wp_isB, wp_bin, wp_fz]
    refine tail_sl rfl ?_
    rw [wp_fz]
    have e1 : ∀ Q' : SV → DS → Prop, Q' (.own (.lst ((setSortS ps).map .str))) [some (.val (.str l)), some (.own (.lst ((w0 :: ps).map .str))), none] → wp (setSortM (fz (slN 1 (someP (k_ (.int 1))) (DL.ret none)))) Q' [some (.val (.str l)), some (.own (.lst ((w0 :: ps).map .str))), none] := fun Q' hq => by
      unfold setSortM
      rw [wp_bnd, wp_fz]
      refine tail_sl rfl ?_
      simp only [sv_own, oo_lst]
      rw [strsD_map]
      simp only
      rw [if_pos (by omega), wp_ret]
      exact hq
    refine e1 _ ?_
    refine ⟨_, eq_names hnm (fun z hz => hnm z (setSort_mem hz)), _, rfl, ?_⟩
    by_cases hinc : incr ps = true
    · have e : plOf l = some ps := by
        unfold plOf
        rw [hwl]
        simp only
        rw [if_pos ⟨c1, c2, c3, hall, hinc⟩]
      rw [if_pos (by rw [decide_eq_true ((setSort_iff ps).mpr hinc)]), e]
      exact tail_sl rfl ⟨rfl, by simp⟩
    · rw [if_neg (by rw [decide_eq_false (fun q => hinc ((setSort_iff ps).mp q))]; simp), none_of fun h => hinc h.2.2.2.2]
      simp [plS]
end P96
/-! P96i: k96, plain: the reader of the package, arrows. -/
namespace P96
open PySem DL K96
theorem wp_lcKO {i : Nat} {vs : List Nat} {f : TgF} {e : M D} {kvs : List (L2.Key × D)} {Q : SV → DS → Prop} {ds : DS} (h0 : ds[i]? = some (some (.own (.dct kvs)))) (h : wp (lcM vs (keyL kvs) f (DL.ret true) e) (fun s ds2 => Q s (ds2.set i (some (.own (.dct kvs))))) (ds.set i none)) : wp (lcKO i vs f (DL.ret true) e) Q ds := by
  obtain ⟨s, ds2, e2, q⟩ := h
  exact ⟨s, _, by unfold lcKO; rw [h0]; simp only [e2], q⟩
@[simp] theorem wp_keyL {kvs : List (L2.Key × D)} {Q : List D → DS → Prop} {ds : DS} : wp (keyL kvs) Q ds ↔ Q (kvs.map fun kv => keyV kv.1) ds := by
  unfold wp keyL
  constructor
  · rintro ⟨a, ds', e, q⟩; cases e; exact q
  · intro h; exact ⟨_, _, rfl, h⟩
theorem keys_ar (ar : Ar) : (arK ar).map (fun kv => keyV kv.1) = (ar.map (·.1)).map D.str := by
  unfold arK
  rw [List.map_map, List.map_map]
  rfl
theorem ge_str (x y : Str) : geO (.str x) (.str y) = some (.bl (!ltS x y)) := rfl
/-- the last key, or no text yet -/
def LastOk (ar : Ar) (last : Str) : Prop := (∀ p ∈ ar, leB p.1 last = true) ∧ ((ar = [] ∧ last = Str.ofString "") ∨ last ∈ ar.map (·.1))
theorem lt_empty {z : Str} (h : 1 ≤ z.length) : ltS (Str.ofString "") z = true := by
  unfold ltS
  have e : (Str.ofString "").cps.toList = [] := by decide +kernel
  rw [e, decide_eq_true_eq]
  rw [len_tl] at h
  cases hz : tl z with
  | nil => rw [hz] at h; simp at h
  | cons c r =>
    show [] < tl z
    rw [hz]
    exact List.nil_lt_cons c r
theorem any_ge {ar : Ar} {last w : Str} (h : LastOk ar last) (hw : 1 ≤ w.length) : ((ar.map (·.1)).any fun z => !ltS z w) = !ltS last w := by
  cases hl : ltS last w with
  | true =>
    rw [Bool.not_true, List.any_eq_false]
    intro z hz
    obtain ⟨p, hp, rfl⟩ := List.mem_map.mp hz
    have h1 := h.1 p hp
    cases e : ltS p.1 w with
    | true => simp
    | false =>
      have h2 : leB w p.1 = true := by unfold leB; rw [e]; rfl
      have h3 := leB_trans _ _ _ h2 h1
      rw [(ltS_iff last w).mp hl] at h3
      cases h3
  | false =>
    rw [Bool.not_false, List.any_eq_true]
    rcases h.2 with ⟨_, e⟩ | hm
    · rw [e, lt_empty hw] at hl; cases hl
    · exact ⟨last, hm, by rw [hl]; rfl⟩
def arD (o : Option (Str × Str × Str)) : D := match o with
  | some x => .tup [.str x.1, .str x.2.1, .str x.2.2]
  | none => .non
theorem rarrow_ok (A : CA) {l last : Str} {ps : List Str} {ar : Ar} {k : Nat} (hl : l.length ≤ 1000000) (hk : k ≤ 24) (hlen : ar.length = k) (hlast : LastOk ar last) :
    ∃ s outs, m_read_arrow A [.val (dL ps), .own (.dct (arK ar)), .val (.str l)] = some (.ok s, outs) ∧ s = .val (arD (arOf ps k last l)) ∧ outs = [some (.val (dL ps)), some (.own (.dct (arK ar))), some (.val (.str l))] := by
  refine mir_of rfl ?_
  unfold bb_read_arrow
  refine ws_cut (fun ds => ds = [some (.val (dL ps)), some (.own (.dct (arK ar))), some (.val (.str l)), some (.own (.lst ((wl l).map .str))), none]) ?_ ?_
  · rw [ws_set, wp_strM, wp_rd]
    refine ⟨_, rfl, _, rfl, ?_⟩
    rw [wp_k]
    exact ⟨_, split_o sp_ne hl, rfl⟩
  rintro ds rfl
  have hwl := wl_len l
  by_cases h4 : (wl l).length = 4
  · obtain ⟨w0, w1, w2, w3, e4⟩ : ∃ w0 w1 w2 w3, wl l = [w0, w1, w2, w3] := by
      match hw : wl l, h4 with
      | [a, b, c, d], _ => exact ⟨a, b, c, d, rfl⟩
    rw [e4]
    have hw1 : w1.length ≤ 16777216 := by
      have := wl_short (t := l) (l := w1) (by rw [e4]; simp)
      omega
    obtain ⟨s', o', eN, rfl, rfl⟩ := isname_ok A w1 hw1
    have none_of : ¬ (w0 = Str.ofString "arrow" ∧ isNm w1 = true ∧ ltS last w1 = true ∧ k ≠ 24 ∧ w2 ∈ ps ∧ w3 ∈ ps ∧ w2 ≠ w3) → arOf ps k last l = none := fun h => by
      unfold arOf
      rw [e4]
      simp only
      rw [if_neg h]
    have hbad : arOf ps k last l = none → ∀ N' : DS → Prop, ws (retM (vl (k_ .non))) N' (fun s ds => s = .val (arD (arOf ps k last l)) ∧ maskK [true, true, true] ds = [some (.val (dL ps)), some (.own (.dct (arK ar))), some (.val (.str l))])
        [some (.val (dL ps)), some (.own (.dct (arK ar))), some (.val (.str l)), some (.own (.lst ([w0, w1, w2, w3].map .str))), none] := fun h N' => by
      rw [h]
      simp [arD]
    refine ws_cut (fun ds => (w0 = Str.ofString "arrow" ∧ isNm w1 = true ∧ k ≠ 24) ∧ ds = [some (.val (dL ps)), some (.own (.dct (arK ar))), some (.val (.str l)), some (.own (.lst ([w0, w1, w2, w3].map .str))), none]) ?_ ?_
    · rw [ws_if, wp_ifM, wp_isB, wp_bin, wp_un, wp_pk]
      refine ⟨_, rfl, _, rfl, ?_⟩
      rw [wp_k]
      refine ⟨_, ne_int _ _, _, rfl, ?_⟩
      rw [if_neg (by simp), wp_ifM, wp_isB, wp_bin, wp_ixNk]
      refine ⟨_, rfl, _, ix_0 _ _, ?_⟩
      rw [wp_k]
      refine ⟨_, ne_str _ _, _, rfl, ?_⟩
      by_cases g0 : w0 = Str.ofString "arrow"
      · rw [if_neg (by simp [g0]), wp_ifM, wp_ngM, wp_isB, wp_fz]
        refine wp_call1 ?_
        rw [wp_ixNk]
        refine ⟨_, rfl, _, ix_1 _ _ _, _, _, eN, _, rfl, ?_⟩
        by_cases g1 : isNm w1 = true
        · rw [if_neg (by simp [g1]), wp_isB, wp_bin, wp_un, wp_pk]
          have e5 : lenO (SV.d (.own (.dct (arK ar)))) = some (.int k) := by
            simp [lenO, arK, hlen]
          refine ⟨_, rfl, _, e5, ?_⟩
          rw [wp_k]
          refine ⟨_, ge_int _ _, _, rfl, ?_⟩
          by_cases g3 : k = 24
          · rw [if_pos (by simp [g3])]
            exact hbad (none_of fun h => h.2.2.2.1 g3) _
          · rw [if_neg (by simp; omega), ws_nx]
            exact ⟨⟨g0, g1, g3⟩, rfl⟩
        · rw [if_pos (by simp [g1]), wp_ret, if_pos rfl]
          exact hbad (none_of fun h => g1 h.2.1) _
      · rw [if_pos (by simp [g0]), wp_ret, if_pos rfl]
        exact hbad (none_of fun h => g0 h.1) _
    rintro ds ⟨⟨g0, g1, g3⟩, rfl⟩
    refine ws_cut (fun ds => (w2 ∈ ps ∧ w3 ∈ ps ∧ w2 ≠ w3) ∧ ds = [some (.val (dL ps)), some (.own (.dct (arK ar))), some (.val (.str l)), some (.own (.lst ([w0, w1, w2, w3].map .str))), none]) ?_ ?_
    · rw [ws_if, wp_ifM, wp_isB, wp_bin, wp_ixNk]
      refine ⟨_, rfl, _, ix_2 _ _ _ _, ?_⟩
      rw [wp_pk]
      refine ⟨_, rfl, _, nin_strs _ _, _, rfl, ?_⟩
      by_cases c0 : w2 ∈ ps
      · rw [if_neg (by simp [c0]), wp_ifM, wp_isB, wp_bin, wp_ixNk]
        refine ⟨_, rfl, _, ix_3 _ _ _ _ _, ?_⟩
        rw [wp_pk]
        refine ⟨_, rfl, _, nin_strs _ _, _, rfl, ?_⟩
        by_cases c1 : w3 ∈ ps
        · rw [if_neg (by simp [c1]), wp_isB, wp_bin, wp_ixNk]
          refine ⟨_, rfl, _, ix_2 _ _ _ _, ?_⟩
          rw [wp_ixNk]
          refine ⟨_, rfl, _, ix_3 _ _ _ _ _, _, eq_strs _ _, _, rfl, ?_⟩
          by_cases c2 : w2 = w3
          · rw [if_pos (by simp [c2])]
            exact hbad (none_of fun h => h.2.2.2.2.2.2 c2) _
          · rw [if_neg (by simp [c2]), ws_nx]
            exact ⟨⟨c0, c1, c2⟩, rfl⟩
        · rw [if_pos (by simp [c1]), wp_ret, if_pos rfl]
          exact hbad (none_of fun h => c1 h.2.2.2.2.2.1) _
      · rw [if_pos (by simp [c0]), wp_ret, if_pos rfl]
        exact hbad (none_of fun h => c0 h.2.2.2.2.1) _
    rintro ds ⟨⟨c0, c1, c2⟩, rfl⟩
    have hw : 1 ≤ w1.length := ((isNm_iff w1).mp g1).1
    refine ws_cut (fun ds => ltS last w1 = true ∧ ds = [some (.val (dL ps)), some (.own (.dct (arK ar))), some (.val (.str l)), some (.own (.lst ([w0, w1, w2, w3].map .str))), none]) ?_ ?_
    · rw [ws_if, wp_isB, wp_un, wp_fz]
      refine wp_lcKO (kvs := arK ar) rfl ?_
      refine wp_lcf (fun d => match d with | .str z => .bl (!ltS z w1) | d => d) ?_
      rw [wp_keyL, keys_ar]
      refine ⟨by simp; omega, by simp, fun x hx => ?_, ?_⟩
      · obtain ⟨z, hz, rfl⟩ := List.mem_map.mp hx
        rw [wp_bin, wp_rd]
        refine ⟨_, rfl, ?_⟩
        rw [wp_ixNk]
        exact ⟨_, rfl, _, ix_1 _ _ _, _, ge_str _ _, rfl, rfl⟩
      · refine ⟨.bl (!ltS last w1), ?_, _, rfl, ?_⟩
        · rw [sv_own, oo_lst, List.map_map]
          have e : ((ar.map (·.1)).map ((fun d => match d with | .str z => D.bl (!ltS z w1) | d => d) ∘ D.str)) = ((ar.map (·.1)).map fun z => !ltS z w1).map D.bl := by
            simp only [List.map_map]; rfl
          rw [e, any_map, List.any_map]
          congr 2
          exact any_ge hlast hw
        · by_cases g2 : ltS last w1 = true
          · rw [if_neg (by simp [g2]), ws_nx]
            exact ⟨g2, rfl⟩
          · rw [if_pos (by simp [g2])]
            exact hbad (none_of fun h => g2 h.2.2.1) _
    rintro ds ⟨g2, rfl⟩
    have hsome : arOf ps k last l = some (w1, w2, w3) := by
      unfold arOf
      rw [e4]
      simp only
      rw [if_pos ⟨g0, g1, g2, g3, c0, c1, c2⟩]
    rw [hsome]
    simp [szl, arD]
  · have en : arOf ps k last l = none := by
      unfold arOf
      split
      · rename_i e; rw [e] at h4; simp at h4
      · rfl
    have h4' : ¬ ((wl l).length : Int) = 4 := by omega
    rw [en, ws_seq]
    simp [h4', arD]
end P96
/-! P96j: k96, plain: Arrows made. -/
namespace P96
open PySem DL K96
theorem name_len {z : Str} (h : NameS z) : z.length ≤ 16777216 := by have := h.2.1; omega
theorem cutTo (ps : List Str) (k : Nat) (h : k ≤ ps.length) : cutD (ps.map D.str) none (some (k : Nat)) = (ps.take k).map D.str := by
  unfold cutD
  have q1 : HT.sIx (ps.map D.str).length 0 none = 0 := rfl
  have q2 : HT.sIx (ps.map D.str).length (ps.map D.str).length (some ((k : Nat) : Int)) = k := by rw [HT.sIx_nat]; simp; omega
  rw [q1, q2, List.drop_zero, Nat.sub_zero, List.map_take]
theorem sort_o {ps : List Str} (h : ps.length < 64) : sortO (dL ps) = some (.own (.lst ((sortS ps).map .str))) := by
  unfold sortO
  simp only
  rw [strsD_map]
  simp only
  rw [if_pos h]
theorem need_ok (A : CA) {ps : List Str} (h : PlOk ps) : ∃ s outs, m_need_places A [.val (dL ps)] = some (.ok s, outs) ∧ s = .val (.tup ((sortS ps).map .str)) ∧ outs = [some (.val (dL ps))] := by
  refine mir_of rfl ?_
  unfold bb_need_places
  have d1 : (1 : Int) ≤ ps.length := by have := h.l1; omega
  have d2 : (ps.length : Int) ≤ 16 := by have := h.l16; omega
  refine ws_cut (fun ds => ds = [some (.val (dL ps)), none, none]) ?_ ?_
  · simp [d1, d2]
  rintro ds rfl
  refine ws_cut (fun ds => ∃ x1 x2, ds = [some (.val (dL ps)), x1, x2]) ?_ ?_
  · rw [ws_forI, wp_apM, wp_consA, wp_rd]
    refine ⟨_, rfl, ?_⟩
    rw [wp_nilA]
    refine ⟨_, enum_map ps, ?_⟩
    refine ws_for (fun rr ds => ∃ (ls : List Str) (k : Nat) (x1 x2 : Option SV), rr = en k ls ∧ ps.drop k = ls ∧ k + ls.length = ps.length ∧ ds = [some (.val (dL ps)), x1, x2]) ?_ ?_ _ _ ⟨ps, 0, none, none, rfl, rfl, by simp, rfl⟩
    · rintro d rr ds ⟨ls, k, x1, x2, hr, hd, hk, rfl⟩
      cases ls with
      | nil => cases hr
      | cons l ls =>
        unfold en at hr
        cases hr
        have hkl : k < ps.length := by simp at hk; omega
        have hl : ps[k] = l := by
          have := List.drop_eq_getElem_cons hkl
          rw [hd] at this
          exact (List.cons.inj this).1.symm
        have hm : l ∈ ps := by rw [← hl]; exact List.getElem_mem hkl
        refine ⟨_, rfl, ?_⟩
        obtain ⟨s', o', eN, rfl, rfl⟩ := isname_ok A l (name_len (h.nm l hm))
        have hn : isNm l = true := (isNm_iff l).mpr (h.nm l hm)
        have hnot : l ∉ ps.take k := fun hin => by
          have n1 : (ps.take k ++ ps.drop k).Nodup := by rw [List.take_append_drop]; exact h.nd
          exact (List.nodup_append.mp n1).2.2 l hin l (by rw [hd]; simp) rfl
        rw [ws_if, wp_ifM, wp_ngM, wp_isB, wp_fz]
        refine wp_call1 ?_
        rw [wp_rd]
        refine ⟨_, rfl, _, _, eN, _, rfl, ?_⟩
        rw [if_neg (by simp [hn]), wp_isB, wp_bin, wp_rd]
        refine ⟨_, rfl, ?_⟩
        rw [wp_fz]
        refine wp_slN ⟨_, rfl⟩ ?_
        rw [wp_ret, wp_someP, wp_rd]
        refine ⟨_, rfl, _, rfl, _, rfl, .own (.lst ((ps.take k).map .str)), ?_, _, in_strs _ _, _, rfl, ?_⟩
        · show some (SV.own (OO.lst (cutD (ps.map D.str) none (some (k : Nat))))) = _
          rw [cutTo ps k (by omega)]
        · rw [if_neg (by simp [hnot]), ws_nx]
          refine ⟨ls, k + 1, _, _, rfl, ?_, by simp at hk; omega, rfl⟩
          rw [← List.drop_drop, hd]
          rfl
    · rintro ds ⟨ls, k, x1, x2, hr, hd, hk, rfl⟩
      exact ⟨x1, x2, rfl⟩
  · rintro ds ⟨x1, x2, rfl⟩
    rw [ws_ret, wp_vl, wp_un, wp_fz, wp_un, wp_pk]
    refine ⟨_, rfl, _, sort_o (by have := h.l16; omega), _, rfl, ?_⟩
    simp
/-- a pair of texts that are known -/
theorem pair_ok (A : CA) {ks : List Str} {a b : Str} (ha : a ∈ ks) (hb : b ∈ ks) : ∃ s outs, m_is_pair A [.val (.tup (ks.map .str)), .val (.tup [.str a, .str b])] = some (.ok s, outs) ∧ s = .val (.bl true) ∧ outs = [some (.val (.tup (ks.map .str))), some (.val (.tup [.str a, .str b]))] := by
  refine mir_of rfl ?_
  unfold bb_is_pair
  have e1 : isiO [.tup [.str a, .str b], .ty "tuple"] = some (.bl true) := by simp [isiO, tyN, subTy, okTys]
  have e2 : lenO (.tup [.str a, .str b]) = some (.int 2) := rfl
  have in_t : ∀ z, z ∈ ks → inO (.str z) (.tup (ks.map .str)) = some (.bl true) := fun z hz => by
    have := in_strs z ks
    rw [decide_eq_true hz] at this
    exact this
  refine ws_cut (fun ds => ds = [some (.val (.tup (ks.map .str))), some (.val (.tup [.str a, .str b])), none]) ?_ ?_
  · simp [e1, e2]
  rintro ds rfl
  rw [ws_ret, wp_vl, wp_un, wp_fz]
  refine wp_lcf (fun _ => .bl true) ?_
  rw [wp_itM, wp_rd]
  refine ⟨_, rfl, _, rfl, ?_⟩
  refine ⟨by simp, by simp, fun x hx => ?_, ?_⟩
  · have hx2 : ∃ z, z ∈ ks ∧ x = .str z := by
      simp at hx
      rcases hx with rfl | rfl
      · exact ⟨a, ha, rfl⟩
      · exact ⟨b, hb, rfl⟩
    obtain ⟨z, hz, rfl⟩ := hx2
    simp [isi_str, in_t z hz]
  · have e3 : allO (SV.d (.own (.lst ([D.str a, D.str b].map fun _ => D.bl true)))) = some (.bl true) := by simp [allO, blsD]
    exact ⟨_, e3, rfl, rfl⟩
end P96
/-! P96k: k96, plain: Arrows made, on. -/
namespace P96
open PySem DL K96
/-- a dict comprehension, by what holds behind each turn -/
theorem wp_dcGo {vs : List Nat} {tg : TgF} {ke e : M D} {Q : List (L2.Key × D) → DS → Prop} (I : List D → List (L2.Key × D) → DS → Prop) (hs : ∀ d r acc ds, I (d :: r) acc ds → ∃ ds1, tg d (wipeD ds vs) = some ds1 ∧ wp ke (fun kd ds2 => ∃ k, keyD kd = some k ∧ wp e (fun y ds3 => acc.length < sizeLine ∧ I r (putD acc k y) ds3) ds2) ds1) (he : ∀ acc ds, I [] acc ds → Q acc ds) :
    ∀ (l : List D) (acc : List (L2.Key × D)) (ds : DS), I l acc ds → wp (dcGo vs tg ke e l acc) Q ds
  | [], acc, ds, h => by unfold dcGo; simpa using he acc ds h
  | d :: r, acc, ds, h => by
    obtain ⟨ds1, e1, kd, ds2, e2, k, ek, y, ds3, e3, hl, q⟩ := hs d r acc ds h
    obtain ⟨a, ds', e4, q4⟩ := wp_dcGo I hs he r _ ds3 q
    exact ⟨a, ds', by simp only [dcGo, e1, e2, ek, e3, if_pos hl, e4], q4⟩
theorem wp_dc {vs : List Nat} {mi : M (List D)} {tg : TgF} {ke e : M D} {Q : SV → DS → Prop} {ds : DS} (I : DS → List D → List (L2.Key × D) → DS → Prop) (h : wp mi (fun xs ds1 => I ds1 xs [] ds1) ds) (hs : ∀ ds0 d r acc ds, I ds0 (d :: r) acc ds → ∃ ds1, tg d (wipeD ds vs) = some ds1 ∧ wp ke (fun kd ds2 => ∃ k, keyD kd = some k ∧ wp e (fun y ds3 => acc.length < sizeLine ∧ I ds0 r (putD acc k y) ds3) ds2) ds1)
    (he : ∀ ds0 acc ds, I ds0 [] acc ds → Q (.own (.dct acc)) (restD ds0 (wipeD ds vs) vs)) : wp (dcM vs mi tg ke e) Q ds := by
  unfold dcM
  rw [wp_bnd]
  refine wp_mono h fun xs ds1 q => ?_
  obtain ⟨acc, ds2, e2, q2⟩ := wp_dcGo (Q := fun acc ds => Q (.own (.dct acc)) (restD ds1 (wipeD ds vs) vs)) (I ds1) (hs ds1) (he ds1) xs [] ds1 q
  exact ⟨_, _, by simp only [e2], q2⟩
/-- arrows by their names, sorted -/
def sAr (ar : Ar) : Ar := ar.mergeSort fun p q => leB p.1 q.1
theorem sAr_perm (ar : Ar) : (sAr ar).Perm ar := List.mergeSort_perm _ _
theorem sAr_keys (ar : Ar) : (sAr ar).map (·.1) = sortS (ar.map (·.1)) := by
  refine sortS_uniq ((sAr_perm ar).map _) ?_
  have h : (sAr ar).Pairwise fun p q => leB p.1 q.1 = true := List.pairwise_mergeSort (le := fun p q : Str × Str × Str => leB p.1 q.1) (fun a b c => leB_trans a.1 b.1 c.1) (fun a b => leB_total a.1 b.1) ar
  exact h.map _ fun _ _ q => q
theorem get_ar {ar : Ar} {p : Str × Str × Str} (nd : (ar.map (·.1)).Nodup) (h : p ∈ ar) : getD (arK ar) (.inr p.1) = some (.tup [.str p.2.1, .str p.2.2]) := by
  induction ar with
  | nil => cases h
  | cons q r ih =>
    have n1 := List.nodup_cons.mp (show (q.1 :: r.map (·.1)).Nodup from nd)
    unfold getD arK
    rw [List.map_cons, List.find?_cons]
    by_cases e : q.1 = p.1
    · rw [show decide ((Sum.inr q.1 : L2.Key) = Sum.inr p.1) = true by rw [e]; simp]
      rcases List.mem_cons.mp h with rfl | hr
      · rfl
      · exact absurd (by rw [e]; exact List.mem_map.mpr ⟨p, hr, rfl⟩) n1.1
    · rw [show decide ((Sum.inr q.1 : L2.Key) = Sum.inr p.1) = false by simp [e]]
      rcases List.mem_cons.mp h with rfl | hr
      · exact absurd rfl e
      · exact ih n1.2 hr
theorem ix_ar {ar : Ar} {p : Str × Str × Str} (nd : (ar.map (·.1)).Nodup) (h : p ∈ ar) : ixO (dA ar) (.str p.1) = some (.tup [.str p.2.1, .str p.2.2]) := get_ar nd h
theorem wp_setFld {i : Nat} {C : Addr} {f : Str} {m : M D} {N : DS → Prop} {R : SV → DS → Prop} {ds : DS} (h : wp m (fun d ds1 => ∃ fs, ds1[i]? = some (some (.own (.obj C fs))) ∧ fs.length < 1000 ∧ N (ds1.set i (some (.own (.obj C (putFD f d fs)))))) ds) : ws (setFld i C f m) N R ds := by
  obtain ⟨d, ds1, e, fs, e2, hl, q⟩ := h
  exact ⟨.nx, _, by unfold setFld bnd; simp only [e, e2]; rw [if_pos ⟨trivial, hl⟩], q⟩
theorem sort_keys {ar : Ar} (h : ar.length < 64) {Q : List D → DS → Prop} {ds : DS} {s : SV} (e0 : ds[2]? = some (some s)) (es : s.d = dA ar) (q : Q ((sortS (ar.map (·.1))).map D.str) ds) : wp (itM (fz (un sortO (fz (un listO (pk 2)))))) Q ds := by
  rw [wp_itM, wp_fz, wp_un, wp_fz, wp_un, wp_pk]
  have e1 : listO (dA ar) = some (.own (.lst ((ar.map (·.1)).map D.str))) := by
    show some (SV.own (OO.lst ((arK ar).map fun kv => keyV kv.1))) = _
    rw [keys_ar]
  have e2 : sortO (SV.d (.own (.lst ((ar.map (·.1)).map D.str)))) = some (.own (.lst ((sortS (ar.map (·.1))).map .str))) := sort_o (by simpa using h)
  exact ⟨s, e0, _, by rw [es]; exact e1, _, e2, _, rfl, q⟩
theorem sorted_of {ar : Ar} {z : Str} (h : z ∈ sortS (ar.map (·.1))) : ∃ p ∈ ar, p.1 = z := by
  have := (sortS_perm _).subset h
  obtain ⟨p, hp, e⟩ := List.mem_map.mp this
  exact ⟨p, hp, e⟩
/-- an Arrows, as a datum's fields -/
def arF (ps : List Str) (ar : Ar) : List (Str × D) := [(Str.ofString "known", .tup ((sortS ps).map .str)), (Str.ofString "leading", dA (sAr ar))]
theorem made_ok (A : CA) {ps : List Str} {ar : Ar} {s : SV} (hp : PlOk ps) (ha : ArOk ps ar) (es : s.d = dA ar) :
    ∃ r outs, m_Arrows___init__ A [.own (.obj A.Arrows []), .val (dL ps), s] = some (.ok r, outs) ∧ r = .val .non ∧ outs = [some (.own (.obj A.Arrows (arF ps ar))), some (.val (dL ps)), some s] := by
  refine mir_of rfl ?_
  unfold bb_Arrows___init__
  have h64 : ar.length < 64 := by have := ha.l24; omega
  refine ws_cut (fun ds => ds = [some (.own (.obj A.Arrows [(Str.ofString "known", .tup ((sortS ps).map .str))])), some (.val (dL ps)), some s, none]) ?_ ?_
  · refine wp_setFld ?_
    rw [wp_fz]
    refine wp_call1 ?_
    rw [wp_rd]
    obtain ⟨s', o', e, rfl, rfl⟩ := need_ok A hp
    exact ⟨_, rfl, _, _, e, _, rfl, by simp, rfl⟩
  rintro ds rfl
  refine ws_cut (fun ds => ∃ x3, ds = [some (.own (.obj A.Arrows [(Str.ofString "known", .tup ((sortS ps).map .str))])), some (.val (dL ps)), some s, x3]) ?_ ?_
  · rw [ws_forI]
    refine sort_keys h64 rfl es ?_
    refine ws_for (fun rr ds => ∃ (zs : List Str) (x3 : Option SV), rr = zs.map D.str ∧ (∀ z ∈ zs, ∃ p ∈ ar, p.1 = z) ∧ ds = [some (.own (.obj A.Arrows [(Str.ofString "known", .tup ((sortS ps).map .str))])), some (.val (dL ps)), some s, x3]) ?_ ?_ _ _ ⟨sortS (ar.map (·.1)), none, rfl, fun z hz => sorted_of hz, rfl⟩
    · rintro d rr ds ⟨zs, x3, hr, hz, rfl⟩
      cases zs with
      | nil => cases hr
      | cons z zs =>
        cases hr
        obtain ⟨p, hpa, rfl⟩ := hz z (by simp)
        have hnm := ha.nm p hpa
        obtain ⟨s', o', eN, rfl, rfl⟩ := isname_ok A p.1 (name_len hnm)
        have hks : ∀ y, y ∈ ps → y ∈ sortS ps := fun y hy => (sortS_perm ps).symm.subset hy
        obtain ⟨s2, o2, eP, rfl, rfl⟩ := pair_ok A (hks _ (ha.a p hpa)) (hks _ (ha.b p hpa))
        have hix : ixO s.d (.str p.1) = some (.tup [.str p.2.1, .str p.2.2]) := by rw [es]; exact ix_ar ha.nd hpa
        refine ⟨_, rfl, ?_⟩
        rw [ws_if, wp_ifM, wp_ngM, wp_isB, wp_fz]
        refine wp_call1 ?_
        rw [wp_rd]
        refine ⟨_, rfl, _, _, eN, _, rfl, ?_⟩
        rw [if_neg (by simp [(isNm_iff p.1).mpr hnm]), wp_ifM, wp_ngM, wp_isB, wp_fz]
        refine wp_call ?_
        rw [wp_gEv, wp_un, wp_pk]
        refine ⟨_, rfl, .tup ((sortS ps).map .str), by simp [fldO, SV.d, OO.d, List.lookup], ?_⟩
        rw [wp_gEv]
        refine wp_ixN ?_ ⟨_, rfl⟩
        rw [wp_rd]
        refine ⟨_, rfl, _, rfl, _, hix, ?_⟩
        rw [wp_gNil]
        refine ⟨_, rfl, by simp [refsG], rfl, _, _, eP, _, rfl, ?_⟩
        rw [if_neg (by simp), wp_isB, wp_bin, wp_bin]
        refine wp_ixN ?_ ⟨_, rfl⟩
        rw [wp_rd]
        refine ⟨_, rfl, _, rfl, _, hix, ?_⟩
        rw [wp_k]
        refine ⟨.str p.2.1, rfl, ?_⟩
        rw [wp_bin]
        refine wp_ixN ?_ ⟨_, rfl⟩
        rw [wp_rd]
        refine ⟨_, rfl, _, rfl, _, hix, ?_⟩
        rw [wp_k]
        refine ⟨.str p.2.2, rfl, _, eq_strs _ _, _, rfl, ?_⟩
        rw [if_neg (by simp [ha.ne p hpa]), ws_nx]
        exact ⟨zs, _, rfl, fun y hy => hz y (by simp [hy]), rfl⟩
    · rintro ds ⟨zs, x3, hr, hz, rfl⟩
      exact ⟨x3, rfl⟩
  rintro ds ⟨x3, rfl⟩
  refine ws_cut (fun ds => ds = [some (.own (.obj A.Arrows [(Str.ofString "known", .tup ((sortS ps).map .str))])), some (.val (dL ps)), some s, x3]) ?_ ?_
  · have e5 : lenO s.d = some (.int ar.length) := by rw [es]; simp [lenO, arK]
    have e6 : ¬ (24 : Int) < ar.length := by have := ha.l24; omega
    rw [ws_if, wp_isB, wp_bin, wp_un, wp_pk]
    refine ⟨_, rfl, _, e5, ?_⟩
    rw [wp_k]
    refine ⟨_, gt_int _ _, _, rfl, ?_⟩
    rw [if_neg (by simp [e6]), ws_nx]
  rintro ds rfl
  refine wp_setFld ?_
  rw [wp_fz]
  refine wp_dc (fun ds0 rr acc ds => ∃ (done rest : Ar) (x : Option SV), acc = arK done ∧ rr = rest.map (fun p => D.str p.1) ∧ done ++ rest = sAr ar ∧ ds0 = [some (.own (.obj A.Arrows [(Str.ofString "known", .tup ((sortS ps).map .str))])), some (.val (dL ps)), some s, x3] ∧
    ds = [some (.own (.obj A.Arrows [(Str.ofString "known", .tup ((sortS ps).map .str))])), some (.val (dL ps)), some s, x]) ?_ ?_ ?_
  · refine sort_keys h64 rfl es ?_
    refine ⟨[], sAr ar, x3, rfl, ?_, rfl, rfl, rfl⟩
    rw [← sAr_keys, List.map_map]
    rfl
  · rintro ds0 d rr acc ds ⟨done, rest, x, rfl, hr, hall, rfl, rfl⟩
    cases rest with
    | nil => cases hr
    | cons p rest =>
      cases hr
      have hpa : p ∈ ar := (sAr_perm ar).subset (by rw [← hall]; simp)
      have hix : ixO s.d (.str p.1) = some (.tup [.str p.2.1, .str p.2.2]) := by rw [es]; exact ix_ar ha.nd hpa
      refine ⟨_, rfl, ?_⟩
      rw [wp_rd]
      refine ⟨_, rfl, .inr p.1, rfl, ?_⟩
      rw [wp_un]
      refine wp_ixN ?_ ⟨_, rfl⟩
      rw [wp_rd]
      refine ⟨_, rfl, _, rfl, _, hix, .tup [.str p.2.1, .str p.2.2], rfl, ?_, done ++ [p], rest, _, ?_, rfl, by rw [List.append_assoc]; exact hall, rfl, rfl⟩
      · have h1 := congrArg List.length hall
        have h2 := (sAr_perm ar).length_eq
        rw [List.length_append] at h1
        simp at h1
        rw [szl]
        simp [arK]
        omega
      · rw [put_new]
        · simp [arK]
        · intro kv hkv e
          obtain ⟨q, hq, rfl⟩ := List.mem_map.mp hkv
          simp only [Sum.inr.injEq] at e
          have n1 : ((sAr ar).map (·.1)).Nodup := ((sAr_perm ar).map _).symm.nodup ha.nd
          rw [← hall, List.map_append] at n1
          exact (List.nodup_append.mp n1).2.2 q.1 (List.mem_map.mpr ⟨q, hq, rfl⟩) p.1 (by simp) e
  · rintro ds0 acc ds ⟨done, rest, x, rfl, hr, hall, rfl, rfl⟩
    have hr2 : rest = [] := by
      cases rest with
      | nil => rfl
      | cons p rest => cases hr
    subst hr2
    rw [List.append_nil] at hall
    subst hall
    refine ⟨_, rfl, by simp, rfl, ?_⟩
    simp only [sv_own, oo_dct]
    rfl
end P96
/-! P96l: k96, plain: read_arrows. -/
namespace P96
open PySem DL K96
theorem plOf_ok {l : Str} {ps : List Str} (h : plOf l = some ps) : PlOk ps ∧ incr ps = true ∧ wl l = Str.ofString "places" :: ps := by
  unfold plOf at h
  split at h
  · rename_i w qs e
    split at h
    · rename_i c
      cases h
      exact ⟨⟨pw_nodup (incr_pw c.2.2.2.2), fun z hz => (isNm_iff z).mp (List.all_eq_true.mp c.2.2.2.1 z hz), c.2.1, c.2.2.1⟩, c.2.2.2.2, by rw [e, c.1]⟩
    · cases h
  · cases h
theorem last_more {ar : Ar} {last : Str} {x : Str × Str × Str} (h : LastOk ar last) (hx : ltS last x.1 = true) : LastOk (ar ++ [x]) x.1 := ⟨sort_more h.1 hx, .inr (by simp)⟩
theorem ar_more {ps : List Str} {ar : Ar} {last l : Str} {k : Nat} {x : Str × Str × Str} (ha : ArOk ps ar) (hl : LastOk ar last) (hk : ar.length = k) (hk2 : k ≤ 24) (h : arOf ps k last l = some x) : ArOk ps (ar ++ [x]) := by
  obtain ⟨h1, h2, h3, h4, h5, h6, _⟩ := arOf_some h
  have hz : x.1 ∉ ar.map (·.1) := fun hm => by
    obtain ⟨p, hp, e⟩ := List.mem_map.mp hm
    have q := hl.1 p hp
    rw [e] at q
    unfold leB at q
    rw [h1] at q
    cases q
  refine ⟨?_, ?_, ?_, ?_, ?_, by simp; omega⟩
  · rw [List.map_append, List.map_singleton]
    exact List.nodup_append.mpr ⟨ha.nd, by simp, fun y hy z hz2 e => hz (by have e2 : y = x.1 := e.trans (List.mem_singleton.mp hz2); rw [← e2]; exact hy)⟩
  all_goals intro p hp; rcases List.mem_append.mp hp with q | q
  · exact ha.nm p q
  · rw [List.mem_singleton.mp q]; exact (isNm_iff _).mp h3
  · exact ha.a p q
  · rw [List.mem_singleton.mp q]; exact h4
  · exact ha.b p q
  · rw [List.mem_singleton.mp q]; exact h5
  · exact ha.ne p q
  · rw [List.mem_singleton.mp q]; exact h6
theorem wp_new {C : Addr} {n : Nat} {m : Mir} {args : M (List AG)} {Q : SV → DS → Prop} {ds : DS} (h : wp args (fun l ds1 => ∃ svs, rslv ds1 l = some svs ∧ (refsG l).Nodup ∧ l.length + 1 = n ∧ ∃ s outs, m (.own (.obj C []) :: svs) = some (.ok (.val .non), some s :: outs) ∧ Q s (wback l outs ds1)) ds) : wp (newM C n m args) Q ds := by
  unfold newM
  rw [wp_bnd]
  refine wp_mono h fun l ds1 ⟨svs, e1, nd, hl, s, outs, em, q⟩ => ⟨s, _, ?_, q⟩
  simp only [e1, nd, hl, and_self, if_true, em]
theorem tgS_gen {i : Nat} {mk : M D} {ds : DS} {o o' : OO} {k d : D} (hm : mk ds = some (.ok k, ds)) (h : ds[i]? = some (some (.own o))) (h2 : setF o k d = some o') : tgS i mk d ds = some (ds.set i (some (.own o'))) := by
  unfold tgS
  simp only [hm, h, h2]
  rfl
def outR (A : CA) (x : Nat ⊕ (List Str × Ar)) : DL.R SV := match x with
  | .inl n => .exc A.NoText [(Str.ofString "line", .int n)]
  | .inr (ps, ar) => .ok (.own (.obj A.Arrows (arF ps ar)))
theorem rarrows_ok (A : CA) (t : Str) (ht : t.length ≤ 1000000) : ∃ r outs, m_read_arrows A [.val (.str t)] = some (r, outs) ∧ r = outR A (pars t) ∧ outs = [some (.val (.str t))] := by
  refine mirx_of rfl ?_
  unfold bb_read_arrows
  have raise_ok : ∀ (n : Nat) (N : DS → Prop) (ds : DS) (m : M (List D)), pars t = .inl n → wp m (fun l ds1 => l = [.int (n : Nat)] ∧ maskK [true] ds1 = [some (SV.val (D.str t))]) ds →
      wx (raiseM A.NoText (Str.ofString "line") m) N (fun s ds => R.ok s = outR A (pars t) ∧ maskK [true] ds = [some (SV.val (D.str t))]) (fun C fs ds => R.exc C fs = outR A (pars t) ∧ maskK [true] ds = [some (SV.val (D.str t))]) ds := fun n N ds m hp hw => by
    refine wx_raise (wp_mono hw fun l ds1 ⟨e, hm⟩ => ⟨_, e, ?_, hm⟩)
    rw [hp]
    rfl
  refine wx_cut (fun ds => ds = some (.val (.str t)) :: List.replicate 6 none) ?_ ?_
  · refine wx_of ?_
    rw [ws_if]
    simp [isi_str]
  rintro ds rfl
  refine wx_cut (fun ds => ds = some (.val (.str t)) :: some (.own (.lst ((ln t).map .str))) :: List.replicate 5 none) ?_ ?_
  · refine wx_of ?_
    rw [ws_set, wp_strM, wp_rd]
    refine ⟨_, rfl, _, rfl, ?_⟩
    rw [wp_k]
    exact ⟨_, split_o nl_ne ht, rfl⟩
  rintro ds rfl
  have hp := ln_pos t
  cases hln : ln t with
  | nil => rw [hln] at hp; simp at hp
  | cons l0 r0 =>
    refine wx_cut (fun ds => l0 = Str.ofString "arrows" ∧ ds = some (.val (.str t)) :: some (.own (.lst ((ln t).map .str))) :: List.replicate 5 none) ?_ ?_
    · refine wx_if ?_
      rw [wp_isB, wp_bin, wp_ixNk]
      refine ⟨_, rfl, _, ix_0 _ _, ?_⟩
      rw [wp_k]
      refine ⟨_, ne_str _ _, _, rfl, ?_⟩
      by_cases h0 : l0 = Str.ofString "arrows"
      · rw [if_neg (by simp [h0])]
        refine wx_of ?_
        rw [ws_nx]
        exact ⟨h0, by rw [hln]⟩
      · rw [if_pos (by simp [h0])]
        refine raise_ok 1 _ _ _ (by unfold pars; rw [hln]; cases r0 <;> simp [h0]) ?_
        simp
    rintro ds ⟨h0, rfl⟩
    subst h0
    cases r0 with
    | nil =>
      have hpar : pars t = .inl 2 := by unfold pars; rw [hln]; simp
      refine wx_cut (fun ds => ds = [some (.val (.str t)), some (.own (.lst ((ln t).map .str))), some (.val .non), none, none, none, none]) ?_ ?_
      · refine wx_of ?_
        rw [hln]
        simp
      rintro ds rfl
      refine wx_cut (fun _ => False) ?_ (fun _ h => h.elim)
      refine wx_if ?_
      rw [wp_isB, wp_bin, wp_rd]
      refine ⟨_, rfl, ?_⟩
      rw [wp_k]
      refine ⟨_, rfl, true, rfl, ?_⟩
      rw [if_pos rfl]
      refine raise_ok 2 _ _ _ hpar ?_
      simp
    | cons l1 r =>
      have hl1 : l1.length ≤ 1000000 := by
        have := ln_short (t := t) (l := l1) (by rw [hln]; simp)
        omega
      have hls : ∀ l ∈ r, l.length ≤ 1000000 := fun l hl => by
        have := ln_short (t := t) (l := l) (by rw [hln]; simp [hl])
        omega
      refine wx_cut (fun ds => ds = [some (.val (.str t)), some (.own (.lst ((ln t).map .str))), some (plS (plOf l1)), none, none, none, none]) ?_ ?_
      · refine wx_of ?_
        rw [hln, ws_set, wp_ifM, wp_isB, wp_bin, wp_un, wp_pk]
        refine ⟨_, rfl, _, rfl, ?_⟩
        rw [wp_k]
        refine ⟨_, gt_int _ _, _, rfl, ?_⟩
        rw [if_pos (by simp; omega)]
        refine wp_call1 ?_
        rw [wp_ixNk]
        obtain ⟨s', o', e, rfl, rfl⟩ := rplaces_ok A l1 hl1
        exact ⟨_, rfl, _, ix_1 _ _ _, _, _, e, rfl⟩
      rintro ds rfl
      cases hpo : plOf l1 with
      | none =>
        have hpar : pars t = .inl 2 := by unfold pars; rw [hln]; simp [hpo]
        refine wx_cut (fun _ => False) ?_ (fun _ h => h.elim)
        refine wx_if ?_
        rw [wp_isB, wp_bin, wp_rd]
        refine ⟨_, rfl, ?_⟩
        rw [wp_k]
        refine ⟨_, rfl, true, rfl, ?_⟩
        rw [if_pos rfl]
        refine raise_ok 2 _ _ _ hpar ?_
        simp
      | some ps =>
        obtain ⟨hps, hinc, hwl⟩ := plOf_ok hpo
        have hpar : pars t = match goAr ps r 0 (Str.ofString "") [] with
          | .inl n => .inl n
          | .inr ar => .inr (ps, ar) := by
          unfold pars
          rw [hln]
          simp only [if_true]
          rw [hpo] <;> rfl
        refine wx_cut (fun ds => ds = [some (.val (.str t)), some (.own (.lst ((ln t).map .str))), some (.val (dL ps)), none, none, none, none]) ?_ ?_
        · refine wx_if ?_
          rw [wp_isB, wp_bin, wp_rd]
          refine ⟨_, rfl, ?_⟩
          rw [wp_k]
          refine ⟨_, rfl, false, rfl, ?_⟩
          rw [if_neg (by simp)]
          refine wx_of ?_
          rw [ws_nx]
          rfl
        rintro ds rfl
        refine wx_cut (fun ds => ds = [some (.val (.str t)), some (.own (.lst ((ln t).map .str))), some (.val (dL ps)), some (.own (.dct [])), none, none, none]) ?_ ?_
        · refine wx_of ?_
          simp
        rintro ds rfl
        refine wx_cut (fun ds => ∃ (ar : Ar) (x4 x5 x6 : Option SV), goAr ps r 0 (Str.ofString "") [] = .inr ar ∧ ArOk ps ar ∧ ds = [some (.val (.str t)), some (.own (.lst ((ln t).map .str))), some (.val (dL ps)), some (.own (.dct (arK ar))), x4, x5, x6]) ?_ ?_
        · refine wx_forI ?_
          rw [wp_apM, wp_consA, wp_fz]
          refine wp_slN ⟨_, rfl⟩ ?_
          simp only [wp_someP, wp_k, wp_ret, D.int.injEq, exists_eq_left', wp_nilA]
          refine ⟨_, rfl, .own (.lst (r.map .str)), ?_, _, enum_map r, ?_⟩
          · show some (SV.own (OO.lst (cutD ((ln t).map D.str) (some 2) none))) = _
            rw [cut2 _ (by rw [hln]; simp), hln]
            rfl
          refine wx_for (fun rr ds => ∃ (ls : List Str) (k : Nat) (last : Str) (ar : Ar) (x4 x5 x6 : Option SV), rr = en k ls ∧ goAr ps ls k last ar = goAr ps r 0 (Str.ofString "") [] ∧ (∀ l ∈ ls, l.length ≤ 1000000) ∧ ar.length = k ∧ k ≤ 24 ∧ LastOk ar last ∧ ArOk ps ar ∧
            ds = [some (.val (.str t)), some (.own (.lst ((ln t).map .str))), some (.val (dL ps)), some (.own (.dct (arK ar))), x4, x5, x6]) ?_ ?_ _ _ ⟨r, 0, _, [], none, none, none, rfl, rfl, hls, rfl, by omega, ⟨by simp, .inl ⟨rfl, rfl⟩⟩, ArOk.nil ps, rfl⟩
          · rintro d rr ds ⟨ls, k, last, ar, x4, x5, x6, hr, hg, hl, hlen, hk, hlast, har, rfl⟩
            cases ls with
            | nil => cases hr
            | cons l ls =>
              unfold en at hr
              cases hr
              refine ⟨_, rfl, ?_⟩
              obtain ⟨s', o', e, rfl, rfl⟩ := rarrow_ok A (ps := ps) (hl l (by simp)) hk hlen hlast
              refine wx_cut (fun ds => ds = [some (.val (.str t)), some (.own (.lst ((ln t).map .str))), some (.val (dL ps)), some (.own (.dct (arK ar))), some (.val (.int k)), some (.val (.str l)), some (.val (arD (arOf ps k last l)))]) ?_ ?_
              · refine wx_of ?_
                rw [ws_set]
                refine wp_call ?_
                rw [wp_gEv, wp_rd]
                refine ⟨_, rfl, ?_⟩
                rw [wp_gBy]
                refine ⟨⟨_, rfl⟩, ?_⟩
                rw [wp_gEv, wp_rd]
                refine ⟨_, rfl, ?_⟩
                rw [wp_gNil]
                exact ⟨_, rfl, by simp [refsG], rfl, _, _, e, rfl⟩
              rintro ds rfl
              cases hx : arOf ps k last l with
              | none =>
                have hg2 : pars t = .inl (k + 3) := by
                  rw [hpar, ← hg]
                  have : goAr ps (l :: ls) k last ar = .inl (k + 3) := by
                    unfold goAr
                    rw [hx]
                  rw [this]
                refine wx_cut (fun _ => False) ?_ (fun _ h => h.elim)
                refine wx_if ?_
                rw [wp_isB, wp_bin, wp_rd]
                refine ⟨_, rfl, ?_⟩
                rw [wp_k]
                refine ⟨_, rfl, true, rfl, ?_⟩
                rw [if_pos rfl]
                refine raise_ok (k + 3) _ _ _ hg2 ?_
                simp
              | some x =>
                obtain ⟨a1, a2, _⟩ := arOf_some hx
                refine wx_cut (fun ds => ds = [some (.val (.str t)), some (.own (.lst ((ln t).map .str))), some (.val (dL ps)), some (.own (.dct (arK ar))), some (.val (.int k)), some (.val (.str l)), some (.val (arD (some x)))]) ?_ ?_
                · refine wx_if ?_
                  rw [wp_isB, wp_bin, wp_rd]
                  refine ⟨_, rfl, ?_⟩
                  rw [wp_k]
                  refine ⟨_, rfl, false, rfl, ?_⟩
                  rw [if_neg (by simp)]
                  refine wx_of ?_
                  rw [ws_nx]
                  rfl
                rintro ds rfl
                have hput : putD (arK ar) (.inr x.1) (.tup [.str x.2.1, .str x.2.2]) = arK (ar ++ [x]) := by
                  rw [put_new]
                  · simp [arK]
                  · intro kv hkv e
                    obtain ⟨p, hp, rfl⟩ := List.mem_map.mp hkv
                    simp only [Sum.inr.injEq] at e
                    have q := hlast.1 p hp
                    rw [e] at q
                    unfold leB at q
                    rw [a1] at q
                    cases q
                have hsz : (arK ar).length < sizeLine := by rw [szl]; simp [arK]; omega
                refine wx_of ?_
                rw [ws_asg, wp_tupM, wp_consA, wp_ixNk]
                refine ⟨_, rfl, .str x.2.1, rfl, ?_⟩
                rw [wp_consA, wp_ixNk]
                refine ⟨_, rfl, .str x.2.2, rfl, ?_⟩
                rw [wp_nilA]
                refine ⟨by rw [szl]; simp, [some (.val (.str t)), some (.own (.lst ((ln t).map .str))), some (.val (dL ps)), some (.own (.dct (arK (ar ++ [x])))), some (.val (.int k)), some (.val (.str l)), some (.val (arD (some x)))], ?_, ls, k + 1, x.1, ar ++ [x], _, _, _, rfl, ?_, fun l' hl' => hl l' (by simp [hl']), by simp [hlen], by omega, last_more hlast a1, ar_more har hlast hlen hk hx, rfl⟩
                · have e0 : ixO (SV.d (.val (arD (some x)))) (.int 0) = some (.str x.1) := rfl
                  refine (tgS_gen (k := .str x.1) (o := .dct (arK ar)) (o' := .dct (arK (ar ++ [x]))) ?_ rfl ?_).trans rfl
                  · rfl
                  · simp [setF, keyD, hput, hsz]
                · rw [← hg]
                  conv => rhs; unfold goAr
                  rw [hx]
          · rintro ds ⟨ls, k, last, ar, x4, x5, x6, hr, hg, hl, hlen, hk, hlast, har, rfl⟩
            cases ls with
            | cons l ls => cases hr
            | nil => exact ⟨ar, x4, x5, x6, by rw [← hg]; rfl, har, rfl⟩
        · rintro ds ⟨ar, x4, x5, x6, hg, har, rfl⟩
          refine wx_of ?_
          rw [ws_ret]
          refine wp_new ?_
          rw [wp_gEv, wp_rd]
          refine ⟨_, rfl, ?_⟩
          rw [wp_gBy]
          refine ⟨⟨_, rfl⟩, ?_⟩
          rw [wp_gNil]
          obtain ⟨r', o', e, rfl, rfl⟩ := made_ok A (s := .own (.dct (arK ar))) hps har rfl
          refine ⟨_, rfl, by simp [refsG], rfl, _, _, e, ?_, rfl⟩
          rw [hpar, hg]
          rfl
end P96
/-! P96m: k96, plain: what is said of a text. -/
namespace P96
open PySem DL K96
theorem known_ok (C : Addr) (ps : List Str) (ar : Ar) : fldO C (Str.ofString "known") (.obj C (arF ps ar)) = some (.tup ((sortS ps).map .str)) := by
  unfold fldO
  simp only [if_true]
  rfl
theorem leading_ok (C : Addr) (ps : List Str) (ar : Ar) : fldO C (Str.ofString "leading") (.obj C (arF ps ar)) = some (dA (sAr ar)) := by
  unfold fldO
  simp only [if_true]
  rfl
theorem places_ok (A : CA) (ps : List Str) (ar : Ar) : ∃ s outs, m_Arrows_places A [.val (.obj A.Arrows (arF ps ar))] = some (.ok s, outs) ∧ s = .own (.lst ((sortS ps).map .str)) ∧ outs = [some (.val (.obj A.Arrows (arF ps ar)))] := by
  refine mir_of rfl ?_
  unfold bb_Arrows_places
  simp [known_ok, listO]
theorem arrows_ok (A : CA) (ps : List Str) (ar : Ar) : ∃ s outs, m_Arrows_arrows A [.val (.obj A.Arrows (arF ps ar))] = some (.ok s, outs) ∧ s = .own (.dct (arK (sAr ar))) ∧ outs = [some (.val (.obj A.Arrows (arF ps ar)))] := by
  refine mir_of rfl ?_
  unfold bb_Arrows_arrows
  simp [leading_ok, dictO]
theorem try_exc {Cs : List Addr} {i : Nat} {mb : MS} {mh : Option Addr → Addr → Addr → MS} {ds ds1 : DS} {C : Addr} {fs : List (Str × D)} {S : SV} {DF : DS} (h : mb ds = some (.exc C fs, ds1)) (hC : C ∈ Cs) (hi : i < ds1.length)
    (hh : ∀ d a, ws (mh d a C) (fun _ => False) (fun s ds2 => s = S ∧ ds2.set i none = DF) (ds1.set i (some (.val (.xcp d a C fs))))) : tryM Cs i mb mh ds = some (.ok (.rt S), DF) := by
  unfold tryM
  rw [h]
  simp only
  rw [if_pos ⟨hC, hi⟩]
  refine anyX_eq fun d a => ?_
  obtain ⟨o, ds2, e, q⟩ := hh d a
  cases o with
  | nx => exact q.elim
  | bk => exact q.elim
  | ct => exact q.elim
  | rt s =>
    obtain ⟨rfl, e2⟩ := q
    unfold clrX
    rw [e]
    simp only [e2]
/-- what _law_said tells of what read_arrows refuses -/
theorem said_bad (A : CA) {d : D} {n : Int} (h : m_read_arrows A [.val d] = some (.exc A.NoText [(Str.ofString "line", .int n)], [some (.val d)])) :
    ∃ s outs, m__law_said A [.val d] = some (.ok s, outs) ∧ s = .val (.tup [.str (Str.ofString "bad"), .int n]) ∧ outs = [some (.val d)] := by
  have hb : (setM 1 (callM 1 (m_read_arrows A) (gEv (rd 0) gNilA))) [some (.val d), none, none] = some (.exc A.NoText [(Str.ofString "line", .int n)], [some (.val d), none, none]) := by
    simp [setM, callM, bnd, gEv, gNilA, DL.ret, rd, appM, rslv, refsG, h, wback]
  have ht := try_exc (Cs := [A.NoText]) (i := 2) (mh := fun d a C => (retM (ifM (ifM (isB (apM (isXO (tb_exc A) d a C) (consA (rd 2) (consA (k_ (.ref A.NoText)) nilA)))) (isB (apM (isXO (tb_exc A) d a C) (consA (rd 2) (consA (k_ (.ty "ValueError")) nilA)))) (DL.ret false)) (vl (tupM (consA (k_ (.str "bad")) (consA (un (xfO d a C "line") (rd 2)) nilA)))) (vl (tupM (consA (k_ (.str "other")) nilA))))))
    (S := .val (.tup [.str (Str.ofString "bad"), .int n])) (DF := [some (.val d), none, none]) hb (by simp) (by simp) fun d a => by
      simp [isXO, isxT, tb_exc, clsV, xfO, szl, List.lookup]
  refine mir_of rfl ?_
  unfold bb__law_said
  rw [ws_seq]
  exact ⟨_, _, ht, rfl, rfl⟩
theorem wp_meth0 {C : Addr} {nm : Str} {m : Mir} {mo : M D} {Q : SV → DS → Prop} {ds : DS} (h : wp mo (fun d ds1 => ∃ fs, d = .obj C fs ∧ fs.lookup nm = none ∧ ∃ s o, m [.val d] = some (.ok s, [o]) ∧ Q s ds1) ds) : wp (methV C nm 1 m mo gNilA) Q ds := by
  unfold methV
  rw [wp_bnd]
  refine wp_mono h fun d ds1 ⟨fs, hd, hl, s, o, e, q⟩ => ?_
  subst hd
  simp only
  rw [if_pos ⟨trivial, hl⟩, wp_bnd, wp_gNil]
  refine ⟨s, ds1, ?_, q⟩
  simp [appN, appM, rslv, refsG, e, wback]
theorem ws_try {Cs : List Addr} {i : Nat} {mb : MS} {mh : Option Addr → Addr → Addr → MS} {N : DS → Prop} {R : SV → DS → Prop} {ds : DS} (h : ws mb N R ds) : ws (tryM Cs i mb mh) N R ds := by
  obtain ⟨o, ds', e, q⟩ := h
  exact ⟨o, ds', by unfold tryM; rw [e], q⟩
/-- what _law_said tells of a text that is read -/
theorem said_told (A : CA) {d : D} {ps : List Str} {ar : Ar} (h : m_read_arrows A [.val d] = some (.ok (.own (.obj A.Arrows (arF ps ar))), [some (.val d)])) :
    ∃ s outs, m__law_said A [.val d] = some (.ok s, outs) ∧ s = .val (.tup [.str (Str.ofString "told"), dL (sortS ps), dA (sAr ar)]) ∧ outs = [some (.val d)] := by
  refine mir_of rfl ?_
  unfold bb__law_said
  refine ws_cut (fun ds => ds = [some (.val d), some (.own (.obj A.Arrows (arF ps ar))), none]) ?_ ?_
  · refine ws_try ?_
    rw [ws_set]
    refine wp_call1 ?_
    rw [wp_rd]
    exact ⟨_, rfl, _, _, h, rfl⟩
  rintro ds rfl
  obtain ⟨s1, o1, e1, rfl, rfl⟩ := places_ok A ps ar
  obtain ⟨s2, o2, e2, rfl, rfl⟩ := arrows_ok A ps ar
  rw [ws_ret, wp_vl, wp_tupM, wp_consA, wp_k, wp_consA, wp_fz]
  refine wp_meth0 ?_
  rw [wp_rd]
  refine ⟨_, rfl, arF ps ar, rfl, rfl, _, _, e1, ?_⟩
  rw [wp_consA, wp_fz]
  refine wp_meth0 ?_
  rw [wp_rd]
  refine ⟨_, rfl, arF ps ar, rfl, rfl, _, _, e2, ?_⟩
  rw [wp_nilA]
  exact ⟨by rw [szl]; simp, rfl, rfl⟩
end P96
/-! P96n: k96, plain: _law_same. -/
namespace P96
open PySem DL K96
theorem same_str (A : CA) (n : Nat) (x y : Str) : ∃ s outs, mm__law_same A (n + 1) [.val (.str x), .val (.str y)] = some (.ok s, outs) ∧ s = .val (.bl (x == y)) ∧ outs = [some (.val (.str x)), some (.val (.str y))] := by
  show ∃ s outs, mirOf 2 4 [true, true] (bb__law_same A (mm__law_same A n)) _ = _ ∧ _
  refine mir_of rfl ?_
  unfold bb__law_same
  have e1 : isiO [.str y, .tup [.ty "tuple", .ty "list"]] = some (.bl false) := by simp [isiO, tyN, subTy, okTys, isTys]
  have e2 : isiO [.str y, .ty "bool"] = some (.bl false) := by simp [isiO, tyN, subTy, okTys]
  have e3 : isiO [.str x, .ty "bool"] = some (.bl false) := by simp [isiO, tyN, subTy, okTys]
  have e4 : isNO (.str y) .non = some (.bl false) := rfl
  have e5 : isNO (.str x) .non = some (.bl false) := rfl
  have e6 : isiO [.str x, .tup [.ty "int", .ty "str"]] = some (.bl true) := by simp [isiO, tyN, subTy, okTys, isTys]
  have e7 : eqO (.bl true) (.bl true) = some (.bl true) := by simp [eqO, eqF, okE, flatD, depD, eqD]
  refine ws_cut (fun ds => ds = [some (.val (.str x)), some (.val (.str y)), none, none]) ?_ ?_
  · rw [ws_if, wp_isB, wp_apM, wp_consA, wp_rd]
    refine ⟨_, rfl, ?_⟩
    simp only [wp_consA, wp_tupM, wp_k, wp_nilA]
    refine ⟨by rw [szl]; simp, _, e1, _, rfl, ?_⟩
    rw [if_neg (by simp), ws_nx]
    rfl
  rintro ds rfl
  refine ws_cut (fun ds => ds = [some (.val (.str x)), some (.val (.str y)), none, none]) ?_ ?_
  · rw [ws_if]
    simp [e2, e3, e4, e5]
  rintro ds rfl
  rw [ws_ret, wp_vl]
  simp [isi_str, e6, e7, szl]
theorem same_int (A : CA) (n : Nat) (i j : Int) : ∃ s outs, mm__law_same A (n + 1) [.val (.int i), .val (.int j)] = some (.ok s, outs) ∧ s = .val (.bl (i == j)) ∧ outs = [some (.val (.int i)), some (.val (.int j))] := by
  show ∃ s outs, mirOf 2 4 [true, true] (bb__law_same A (mm__law_same A n)) _ = _ ∧ _
  refine mir_of rfl ?_
  unfold bb__law_same
  have e1 : isiO [.int j, .tup [.ty "tuple", .ty "list"]] = some (.bl false) := by simp [isiO, tyN, subTy, okTys, isTys]
  have e2 : isiO [.int j, .ty "bool"] = some (.bl false) := by simp [isiO, tyN, subTy, okTys]
  have e3 : isiO [.int i, .ty "bool"] = some (.bl false) := by simp [isiO, tyN, subTy, okTys]
  have e4 : isNO (.int j) .non = some (.bl false) := rfl
  have e5 : isNO (.int i) .non = some (.bl false) := rfl
  have e6 : isiO [.int i, .tup [.ty "int", .ty "str"]] = some (.bl true) := by simp [isiO, tyN, subTy, okTys, isTys]
  have e7 : eqO (.bl false) (.bl false) = some (.bl true) := by simp [eqO, eqF, okE, flatD, depD, eqD]
  have e8 : isiO [.int i, .ty "str"] = some (.bl false) := by simp [isiO, tyN, subTy, okTys]
  have e9 : isiO [.int j, .ty "str"] = some (.bl false) := by simp [isiO, tyN, subTy, okTys]
  refine ws_cut (fun ds => ds = [some (.val (.int i)), some (.val (.int j)), none, none]) ?_ ?_
  · rw [ws_if, wp_isB, wp_apM, wp_consA, wp_rd]
    refine ⟨_, rfl, ?_⟩
    simp only [wp_consA, wp_tupM, wp_k, wp_nilA]
    refine ⟨by rw [szl]; simp, _, e1, _, rfl, ?_⟩
    rw [if_neg (by simp), ws_nx]
    rfl
  rintro ds rfl
  refine ws_cut (fun ds => ds = [some (.val (.int i)), some (.val (.int j)), none, none]) ?_ ?_
  · rw [ws_if]
    simp [e2, e3, e4, e5]
  rintro ds rfl
  rw [ws_ret, wp_vl]
  simp [e8, e9, e6, e7, szl]
/-- a text or a number, the same as itself -/
def Leaf (d : D) : Prop := (∃ x, d = .str x) ∨ ∃ i, d = .int i
theorem same_leaf (A : CA) (n : Nat) {d : D} (h : Leaf d) : mm__law_same A (n + 1) [.val d, .val d] = some (.ok (.val (.bl true)), [some (.val d), some (.val d)]) := by
  rcases h with ⟨x, rfl⟩ | ⟨i, rfl⟩
  · obtain ⟨s, o, e, rfl, rfl⟩ := same_str A n x x
    rw [e]; simp
  · obtain ⟨s, o, e, rfl, rfl⟩ := same_int A n i i
    rw [e]; simp
theorem wp_call2 {m : Mir} {ma mb : M D} {Q : SV → DS → Prop} {ds : DS} (h : wp ma (fun a ds1 => wp mb (fun b ds2 => ∃ s o1 o2, m [.val a, .val b] = some (.ok s, [o1, o2]) ∧ Q s ds2) ds1) ds) : wp (callM 2 m (gEv ma (gEv mb gNilA))) Q ds := by
  refine wp_call ?_
  rw [wp_gEv]
  refine wp_mono h fun a ds1 h2 => ?_
  rw [wp_gEv]
  refine wp_mono h2 fun b ds2 ⟨s, o1, o2, e, q⟩ => ?_
  rw [wp_gNil]
  exact ⟨[.val a, .val b], by simp [rslv], by simp [refsG], rfl, _, _, e, by simpa [wback] using q⟩
/-- a list or a tuple of such -/
theorem same_seq (A : CA) (n : Nat) {d : D} {xs : List D} (hd : d = .lst xs ∨ d = .tup xs) (h : ∀ x ∈ xs, Leaf x) (hl : xs.length < 16777216) :
    ∃ s outs, mm__law_same A (n + 2) [.val d, .val d] = some (.ok s, outs) ∧ s = .val (.bl true) ∧ outs = [some (.val d), some (.val d)] := by
  show ∃ s outs, mirOf 2 4 [true, true] (bb__law_same A (mm__law_same A (n + 1))) _ = _ ∧ _
  refine mir_of rfl ?_
  unfold bb__law_same
  have e1 : isiO [d, .tup [.ty "tuple", .ty "list"]] = some (.bl true) := by rcases hd with rfl | rfl <;> simp [isiO, tyN, subTy, okTys, isTys]
  obtain ⟨b, e2⟩ : ∃ b, isiO [d, .ty "tuple"] = some (.bl b) := by rcases hd with rfl | rfl <;> simp [isiO, tyN, subTy, okTys]
  have e3 : neO (.bl b) (.bl b) = some (.bl false) := by simp [neO, eqF, okE, flatD, depD, eqD]
  have e4 : lenO d = some (.int xs.length) := by rcases hd with rfl | rfl <;> rfl
  have e5 : zipD [d, d] = some ((xs.zip xs).map fun p => .tup [p.1, p.2]) := by rcases hd with rfl | rfl <;> rfl
  rw [ws_seq, ws_if, wp_isB, wp_apM, wp_consA, wp_rd]
  refine ⟨_, rfl, ?_⟩
  simp only [wp_consA, wp_tupM, wp_k, wp_nilA]
  refine ⟨by rw [szl]; simp, _, e1, _, rfl, ?_⟩
  rw [if_pos rfl]
  refine ws_cut (fun ds => ds = [some (.val d), some (.val d), none, none]) ?_ ?_
  · rw [ws_if]
    simp [e1, e2, e3, szl]
  rintro ds rfl
  rw [ws_ret, wp_vl, wp_andV, wp_bin, wp_un, wp_pk]
  refine ⟨_, rfl, _, e4, ?_⟩
  rw [wp_un, wp_pk]
  refine ⟨_, rfl, _, e4, _, eq_int _ _, true, by simp, ?_⟩
  rw [if_pos rfl, wp_un, wp_fz]
  refine wp_lc (fun ds0 r acc ds => ∃ (k : Nat) (rest : List D) (x2 x3 : Option SV), acc = List.replicate k (.bl true) ∧ r = (rest.map fun x => .tup [x, x]) ∧ (∀ x ∈ rest, Leaf x) ∧ k + rest.length = xs.length ∧ ds0 = [some (.val d), some (.val d), none, none] ∧ ds = [some (.val d), some (.val d), x2, x3]) ?_ ?_ ?_
  · simp only [wp_apM, wp_consA, wp_rd, wp_nilA]
    refine ⟨_, rfl, _, rfl, _, e5, 0, xs, none, none, rfl, ?_, h, by simp, rfl, rfl⟩
    have : ∀ l : List D, (l.zip l).map (fun p => D.tup [p.1, p.2]) = l.map fun x => .tup [x, x] := fun l => by
      induction l with
      | nil => rfl
      | cons a r ih => simp only [List.zip_cons_cons, List.map_cons, ih]
    exact this xs
  · rintro ds0 d' r acc ds ⟨k, rest, x2, x3, rfl, hr, hlf, hk, rfl, rfl⟩
    cases rest with
    | nil => cases hr
    | cons x rest =>
      cases hr
      refine ⟨_, rfl, ?_⟩
      rw [wp_fz]
      refine wp_call2 ?_
      rw [wp_rd]
      refine ⟨_, rfl, ?_⟩
      rw [wp_rd]
      refine ⟨_, rfl, _, _, _, same_leaf A n (hlf x (by simp)), ?_, k + 1, rest, _, _, ?_, rfl, fun y hy => hlf y (by simp [hy]), by simp at hk; omega, rfl, rfl⟩
      · rw [List.length_replicate, szl]; simp at hk; omega
      · rw [List.replicate_succ']
        rfl
  · rintro ds0 acc ds ⟨k, rest, x2, x3, rfl, hr, hlf, hk, rfl, rfl⟩
    have e6 : allO (.lst (List.replicate k (D.bl true))) = some (.bl true) := by
      have := all_map (List.replicate k true)
      rw [List.map_replicate] at this
      rw [this]
      simp
    exact ⟨_, e6, rfl, rfl⟩
end P96
/-! P96o: k96, plain: Arrows.__eq__. -/
namespace P96
open PySem DL K96
theorem eqs_refl : ∀ ps : List Str, eqDs (ps.map D.str) (ps.map D.str) = true := fun ps => by
  rw [eqs_names]; simp
theorem get_arK {ar : Ar} {p : Str × Str × Str} (nd : (ar.map (·.1)).Nodup) (h : p ∈ ar) : getD (arK ar) (.inr p.1) = some (.tup [.str p.2.1, .str p.2.2]) := get_ar nd h
theorem eqDct_refl {ar : Ar} (nd : (ar.map (·.1)).Nodup) : eqDct (arK ar) (arK ar) = true := by
  unfold eqDct
  rw [Bool.and_eq_true]
  refine ⟨by simp, ?_⟩
  rw [List.all_eq_true]
  intro kv hkv
  obtain ⟨p, hp, rfl⟩ := List.mem_map.mp hkv
  simp only [get_arK nd hp]
  exact eqs_refl [p.2.1, p.2.2]
theorem vals_ar {ps : List Str} {ar : Ar} (hp : ∀ z ∈ ps, NameS z) (ha : ∀ p ∈ ar, p.2.1 ∈ ps ∧ p.2.2 ∈ ps) : valsOk (arK ar) = true := by
  unfold valsOk
  rw [List.all_eq_true]
  intro kv hkv
  obtain ⟨p, hpa, rfl⟩ := List.mem_map.mp hkv
  have h : ∀ z ∈ [p.2.1, p.2.2], NameS z := by
    intro z hz
    have := ha p hpa
    simp only [List.mem_cons, List.not_mem_nil, or_false] at hz
    rcases hz with rfl | rfl
    · exact hp _ this.1
    · exact hp _ this.2
  unfold okE
  have h1 : flatD (.tup [.str p.2.1, .str p.2.2]) = true := flat_names h
  have h2 : depD (.tup [.str p.2.1, .str p.2.2]) = 1 := by
    show depDs ([p.2.1, p.2.2].map D.str) + 1 = 1
    rw [dep_names]
  simp only [h1, h2]
  rfl
theorem eq_dA {ps : List Str} {ar : Ar} (hp : ∀ z ∈ ps, NameS z) (ha : ArOk ps ar) : eqO (dA ar) (dA ar) = some (.bl true) := by
  unfold eqO eqF
  simp only [vals_ar hp fun p h => ⟨ha.a p h, ha.b p h⟩, eqDct_refl ha.nd, Bool.and_self, if_true, Option.map_some]
theorem ne_dA {ps : List Str} {ar : Ar} (hp : ∀ z ∈ ps, NameS z) (ha : ArOk ps ar) : neO (dA ar) (dA ar) = some (.bl false) := by
  unfold neO eqF
  simp only [vals_ar hp fun p h => ⟨ha.a p h, ha.b p h⟩, eqDct_refl ha.nd, Bool.and_self, if_true, Option.map_some]
  rfl
theorem okE_tnames {ps : List Str} (h : ∀ z ∈ ps, NameS z) : okE (.tup (ps.map .str)) = true := by
  unfold okE
  have h1 : flatD (.tup (ps.map .str)) = true := flat_names h
  have h2 : depD (.tup (ps.map .str)) = 1 := by
    show depDs (ps.map D.str) + 1 = 1
    rw [dep_names]
  rw [h1, h2]
  rfl
theorem eq_tnames {ps : List Str} (h : ∀ z ∈ ps, NameS z) : eqO (.tup (ps.map .str)) (.tup (ps.map .str)) = some (.bl true) := by
  unfold eqO eqF
  simp only [okE_tnames h, Bool.and_self, if_true, Option.map_some]
  congr 2
  exact eqs_refl ps
theorem sAr_ok {ps : List Str} {ar : Ar} (ha : ArOk ps ar) : ArOk ps (sAr ar) := by
  have hs := sAr_perm ar
  refine ⟨(hs.map _).symm.nodup ha.nd, fun p h => ha.nm p (hs.subset h), fun p h => ha.a p (hs.subset h), fun p h => ha.b p (hs.subset h), fun p h => ha.ne p (hs.subset h), ?_⟩
  rw [hs.length_eq]
  exact ha.l24
theorem same_obj (A : CA) {ps : List Str} {ar : Ar} (hp : PlOk ps) (ha : ArOk ps ar) : ∃ s outs, m_Arrows___eq__ A [.val (.obj A.Arrows (arF ps ar)), .val (.obj A.Arrows (arF ps ar))] = some (.ok s, outs) ∧ s = .val (.bl true) := by
  have hx : ∀ m : Mir, m = m_Arrows___eq__ A → ∃ s outs, m [.val (.obj A.Arrows (arF ps ar)), .val (.obj A.Arrows (arF ps ar))] = some (.ok s, outs) ∧ s = .val (.bl true) := by
    rintro m rfl
    unfold m_Arrows___eq__
    refine mir_of (S := fun s _ => s = .val (.bl true)) rfl ?_
    unfold bb_Arrows___eq__
    have hn : ∀ z ∈ sortS ps, NameS z := fun z hz => hp.nm z ((sortS_perm ps).subset hz)
    have e1 := eq_tnames hn
    have e2 := eq_dA hp.nm (sAr_ok ha)
    rw [ws_ret, wp_vl, wp_andV, wp_apM, wp_consA, wp_rd]
    refine ⟨_, rfl, ?_⟩
    rw [wp_consA, wp_k, wp_nilA]
    refine ⟨.bl true, by unfold isiC; simp, true, rfl, ?_⟩
    rw [if_pos rfl, wp_andV, wp_bin, wp_un, wp_pk]
    refine ⟨_, rfl, _, known_ok _ _ _, ?_⟩
    rw [wp_un, wp_pk]
    refine ⟨_, rfl, _, known_ok _ _ _, _, e1, true, rfl, ?_⟩
    rw [if_pos rfl, wp_bin, wp_un, wp_pk]
    refine ⟨_, rfl, _, leading_ok _ _ _, ?_⟩
    rw [wp_un, wp_pk]
    exact ⟨_, rfl, _, leading_ok _ _ _, _, e2, rfl⟩
  exact hx _ rfl
theorem own_eq (A : CA) {ps : List Str} {ar : Ar} (hp : PlOk ps) (ha : ArOk ps ar) : eqOwn A.Arrows (m_Arrows___eq__ A) (.obj A.Arrows (arF ps ar)) (.obj A.Arrows (arF ps ar)) = some (.bl true) := by
  obtain ⟨s, o, e, rfl⟩ := same_obj A hp ha
  unfold eqOwn
  simp only [and_self, if_true, e]
theorem own_ne (A : CA) {ps : List Str} {ar : Ar} (hp : PlOk ps) (ha : ArOk ps ar) : neOwn A.Arrows (m_Arrows___eq__ A) (.obj A.Arrows (arF ps ar)) (.obj A.Arrows (arF ps ar)) = some (.bl false) := by
  unfold neOwn
  rw [own_eq A hp ha]
  rfl
end P96
/-! P96p: k96, plain: arrows_text. -/
namespace P96
open PySem DL K96
theorem ws_forK {m : M D} {tg : TgF} {body : MS} {N : DS → Prop} {R : SV → DS → Prop} {ds : DS} (h : wp m (fun d ds1 => ∃ l, keysO d = some l ∧ ws (forM tg (noExc body) l) N R ds1) ds) : ws (forK m tg body) N R ds := by
  obtain ⟨d, ds1, e, l, el, o, ds2, e2, q⟩ := h
  refine ⟨o, ds2, ?_, q⟩
  unfold forK noExc forI bnd kM
  simp only [e, el]
  unfold noExc at e2
  simp only [e2]
theorem ws_noExc {m : MS} {N : DS → Prop} {R : SV → DS → Prop} {ds : DS} (h : ws m N R ds) : ws (noExc m) N R ds := by
  obtain ⟨o, ds2, e, q⟩ := h
  exact ⟨o, ds2, by unfold noExc; rw [e], q⟩
theorem wp_starA {m : M D} {r : M (List D)} {Q : List D → DS → Prop} {ds : DS} (h : wp m (fun d ds1 => ∃ xs, (d = .lst xs ∨ d = .tup xs) ∧ wp r (fun ys ds2 => Q (xs ++ ys) ds2) ds1) ds) : wp (starA m r) Q ds := by
  unfold starA
  rw [wp_bnd]
  refine wp_mono h fun d ds1 ⟨xs, hd, q⟩ => ?_
  rcases hd with rfl | rfl <;> simpa using q
def plL (ps : List Str) : Str := Txt.join (Str.ofString " ") (Str.ofString "places" :: ps)
def arL (p : Str × Str × Str) : Str := Txt.join (Str.ofString " ") [Str.ofString "arrow", p.1, p.2.1, p.2.2]
def lnT (ps : List Str) (ar : Ar) : List Str := Str.ofString "arrows" :: plL ps :: ar.map arL
def txt (ps : List Str) (ar : Ar) : Str := Txt.join (Str.ofString "\n") (lnT ps ar)
theorem join_o {x : Str} {ys : List Str} (h : (ys.map (·.length)).sum + ys.length * x.length ≤ 16777216) : joinO x (.lst (ys.map .str)) = some (.str (Txt.join x ys)) := by
  unfold joinO
  simp only [strsD_map, Option.bind_some]
  rw [if_pos h]
theorem sum_le {ys : List Str} {n : Nat} (h : ∀ y ∈ ys, y.length ≤ n) : (ys.map (·.length)).sum ≤ ys.length * n := by
  induction ys with
  | nil => simp
  | cons a r ih =>
    have h1 := h a (by simp)
    have h2 := ih fun y hy => h y (by simp [hy])
    simp only [List.map_cons, List.sum_cons, List.length_cons, Nat.add_mul, Nat.one_mul]
    omega
theorem len_sp : (Str.ofString " ").length = 1 := by decide +kernel
theorem len_nl : (Str.ofString "\n").length = 1 := by decide +kernel
theorem join_le {sep : Str} {ys : List Str} {n : Nat} (hs : sep.length = 1) (h : ∀ y ∈ ys, y.length ≤ n) : (Txt.join sep ys).length ≤ ys.length * (n + 1) := by
  cases ys with
  | nil => exact Nat.zero_le _
  | cons a l =>
    have e := PyProof.Rows.len_join_cons sep a l
    have h2 := sum_le h
    have e2 : (Txt.join sep (a :: l)).length = ((a :: l).map (·.length)).sum + l.length * sep.length := (congrArg Str.length (PySem.StrLaws.glued_eq_join sep (a :: l))).trans e
    rw [e2, hs]
    simp only [List.length_cons, Nat.add_mul, Nat.mul_add, Nat.mul_one, Nat.one_mul] at h2 ⊢
    omega
theorem plL_le {ps : List Str} (h : ∀ z ∈ ps, NameS z) (h16 : ps.length ≤ 16) : (plL ps).length ≤ 153 := by
  have := join_le (sep := Str.ofString " ") (ys := Str.ofString "places" :: ps) (n := 8) len_sp (by
    intro y hy
    rcases List.mem_cons.mp hy with rfl | hy
    · decide +kernel
    · exact (h y hy).2.1)
  unfold plL
  simp only [List.length_cons] at this
  omega
theorem arL_le {p : Str × Str × Str} (h : NameS p.1) (h1 : NameS p.2.1) (h2 : NameS p.2.2) : (arL p).length ≤ 36 := by
  have := join_le (sep := Str.ofString " ") (ys := [Str.ofString "arrow", p.1, p.2.1, p.2.2]) (n := 8) len_sp (by
    intro y hy
    simp only [List.mem_cons, List.not_mem_nil, or_false] at hy
    rcases hy with rfl | rfl | rfl | rfl
    · decide +kernel
    · exact h.2.1
    · exact h1.2.1
    · exact h2.2.1)
  unfold arL
  simpa using this
theorem lnT_le {ps : List Str} {ar : Ar} (hp : PlOk ps) (ha : ArOk ps ar) : ∀ y ∈ lnT ps ar, y.length ≤ 153 := by
  intro y hy
  unfold lnT at hy
  rcases List.mem_cons.mp hy with rfl | hy
  · decide +kernel
  rcases List.mem_cons.mp hy with rfl | hy
  · exact plL_le hp.nm hp.l16
  obtain ⟨p, hpa, rfl⟩ := List.mem_map.mp hy
  have := arL_le (ha.nm p hpa) (hp.nm _ (ha.a p hpa)) (hp.nm _ (ha.b p hpa))
  omega
theorem lnT_len (ps : List Str) (ar : Ar) : (lnT ps ar).length = ar.length + 2 := by simp [lnT]
theorem txt_le {ps : List Str} {ar : Ar} (hp : PlOk ps) (ha : ArOk ps ar) : (txt ps ar).length ≤ 4004 := by
  have := join_le (sep := Str.ofString "\n") len_nl (lnT_le hp ha)
  rw [lnT_len] at this
  unfold txt
  have := ha.l24
  omega
theorem join_nm {w : Str} {ps : List Str} (hw : w.length ≤ 8) (h : ∀ z ∈ ps, NameS z) (h16 : ps.length ≤ 16) : joinO (Str.ofString " ") (.lst ((w :: ps).map .str)) = some (.str (Txt.join (Str.ofString " ") (w :: ps))) := by
  refine join_o ?_
  have := sum_le (ys := w :: ps) (n := 8) (by
    intro y hy
    rcases List.mem_cons.mp hy with rfl | hy
    · exact hw
    · exact (h y hy).2.1)
  rw [len_sp]
  simp only [List.length_cons] at this ⊢
  omega
theorem atext_ok (A : CA) {ps : List Str} {ar : Ar} (hp : PlOk ps) (ha : ArOk ps ar) :
    ∃ s outs, m_arrows_text A [.val (.obj A.Arrows (arF ps ar))] = some (.ok s, outs) ∧ s = .val (.str (txt (sortS ps) (sAr ar))) ∧ outs = [some (.val (.obj A.Arrows (arF ps ar)))] := by
  have hps : ∀ z ∈ sortS ps, NameS z := fun z hz => hp.nm z ((sortS_perm ps).subset hz)
  have hl := (sortS_perm ps).length_eq
  have h16 : (sortS ps).length ≤ 16 := by rw [hl]; exact hp.l16
  have hp2 : PlOk (sortS ps) := ⟨(sortS_perm ps).symm.nodup hp.nd, hps, by rw [hl]; exact hp.l1, h16⟩
  have hs := sAr_ok ha
  have hs2 : ArOk (sortS ps) (sAr ar) := ⟨hs.nd, hs.nm, fun p h => (sortS_perm ps).symm.subset (hs.a p h), fun p h => (sortS_perm ps).symm.subset (hs.b p h), hs.ne, hs.l24⟩
  refine mir_of rfl ?_
  unfold bb_arrows_text
  refine ws_cut (fun ds => ds = [some (.val (.obj A.Arrows (arF ps ar))), some (.own (.lst ([Str.ofString "arrows", plL (sortS ps)].map .str))), none]) ?_ ?_
  · rw [ws_set, wp_lstM, wp_consA, wp_k, wp_consA, wp_strM, wp_k]
    refine ⟨_, rfl, ?_⟩
    rw [wp_fz, wp_lstM, wp_consA, wp_k]
    refine wp_starA ?_
    rw [wp_un, wp_pk]
    refine ⟨_, rfl, _, known_ok _ _ _, _, .inr rfl, ?_⟩
    rw [wp_nilA]
    refine ⟨by rw [szl]; simp; omega, .str (plL (sortS ps)), ?_, ?_⟩
    · have := join_nm (w := Str.ofString "places") (by decide +kernel) hps h16
      rw [List.append_nil]
      exact this
    · rw [wp_nilA]
      exact ⟨by rw [szl]; simp, rfl⟩
  rintro ds rfl
  refine ws_cut (fun ds => ∃ x, ds = [some (.val (.obj A.Arrows (arF ps ar))), some (.own (.lst ((lnT (sortS ps) (sAr ar)).map .str))), x]) ?_ ?_
  · refine ws_forK ?_
    rw [wp_un, wp_rd]
    refine ⟨_, rfl, _, leading_ok _ _ _, (sAr ar).map (fun p => D.str p.1), ?_, ?_⟩
    · show some ((arK (sAr ar)).map fun kv => keyV kv.1) = _
      rw [keys_ar, List.map_map]
      rfl
    refine ws_for (fun rr ds => ∃ (done rest : Ar) (x : Option SV), rr = rest.map (fun p => D.str p.1) ∧ done ++ rest = sAr ar ∧ ds = [some (.val (.obj A.Arrows (arF ps ar))), some (.own (.lst ((lnT (sortS ps) done).map .str))), x]) ?_ ?_ _ _ ⟨[], sAr ar, none, rfl, rfl, rfl⟩
    · rintro d rr ds ⟨done, rest, x, hr, hall, rfl⟩
      cases rest with
      | nil => cases hr
      | cons p rest =>
        cases hr
        have hpa : p ∈ sAr ar := by rw [← hall]; simp
        refine ⟨_, rfl, ws_noExc ?_⟩
        rw [ws_drop]
        refine wp_mut ⟨_, rfl⟩ ?_
        rw [wp_consA, wp_strM, wp_k]
        refine ⟨_, rfl, ?_⟩
        rw [wp_fz, wp_lstM, wp_consA, wp_k, wp_consA, wp_rd]
        refine ⟨_, rfl, ?_⟩
        refine wp_starA ?_
        rw [wp_bin, wp_un, wp_pk]
        refine ⟨_, rfl, _, leading_ok _ _ _, ?_⟩
        rw [wp_rd]
        refine ⟨_, rfl, _, ix_ar hs.nd hpa, _, .inr rfl, ?_⟩
        rw [wp_nilA]
        refine ⟨by rw [szl]; simp, .str (arL p), ?_, ?_⟩
        · have := join_nm (w := Str.ofString "arrow") (ps := [p.1, p.2.1, p.2.2]) (by decide +kernel) (by
            intro z hz
            simp only [List.mem_cons, List.not_mem_nil, or_false] at hz
            rcases hz with rfl | rfl | rfl
            · exact hs.nm _ hpa
            · exact hps _ (hs2.a _ hpa)
            · exact hps _ (hs2.b _ hpa)) (by simp)
          exact this
        · rw [wp_nilA]
          refine ⟨_, rfl, ((lnT (sortS ps) (done ++ [p])).map .str), .non, ?_, done ++ [p], rest, _, rfl, by rw [List.append_assoc]; exact hall, rfl⟩
          have h1 := congrArg List.length hall
          have h2 := (sAr_perm ar).length_eq
          have h3 := ha.l24
          unfold appendF
          simp only
          rw [if_pos]
          · simp [lnT]
          · rw [szl, List.length_map, lnT_len]
            simp at h1
            omega
    · rintro ds ⟨done, rest, x, hr, hall, rfl⟩
      have hr2 : rest = [] := by
        cases rest with
        | nil => rfl
        | cons p rest => cases hr
      subst hr2
      rw [List.append_nil] at hall
      subst hall
      exact ⟨x, rfl⟩
  rintro ds ⟨x, rfl⟩
  rw [ws_ret, wp_vl, wp_strM, wp_k]
  refine ⟨_, rfl, ?_⟩
  rw [wp_pk]
  refine ⟨_, rfl, .str (txt (sortS ps) (sAr ar)), ?_, rfl, rfl⟩
  refine join_o ?_
  have h1 := sum_le (lnT_le hp2 hs2)
  rw [lnT_len] at h1 ⊢
  rw [len_nl]
  have := hs.l24
  omega
end P96
/-! P96q: k96, plain: the text of what a text tells is the text; what the text of arrows tells. -/
namespace P96
open PySem DL K96
theorem nl_tl : TL.tl (Str.ofString "\n") = [10] := by decide +kernel
theorem sp_tl : TL.tl (Str.ofString " ") = [32] := by decide +kernel
theorem ln_join {ls : List Str} (h0 : ls ≠ []) (h : ∀ l ∈ ls, 10 ∉ tl l) : ln (Txt.join (Str.ofString "\n") ls) = ls := TL.split_join (s := 10) (S := []) nl_tl (by decide +kernel) h0 h
theorem wl_join {ls : List Str} (h0 : ls ≠ []) (h : ∀ l ∈ ls, 32 ∉ tl l) : wl (Txt.join (Str.ofString " ") ls) = ls := TL.split_join (s := 32) (S := []) sp_tl (by decide +kernel) h0 h
theorem join_ln (t : Str) : Txt.join (Str.ofString "\n") (ln t) = t := by rw [txt_join]; exact StrLaws.join_split _ _
theorem join_wl (t : Str) : Txt.join (Str.ofString " ") (wl t) = t := by rw [txt_join]; exact StrLaws.join_split _ _
theorem arOf_arL {ps : List Str} {k : Nat} {last l : Str} {x : Str × Str × Str} (h : arOf ps k last l = some x) : l = arL x := by
  obtain ⟨_, _, _, _, _, _, e⟩ := arOf_some h
  rw [← join_wl l, e]
  rfl
theorem goAr_ls {ps : List Str} : ∀ (ls : List Str) (k : Nat) (last : Str) (a0 ar : Ar), goAr ps ls k last a0 = .inr ar → ∃ more, ar = a0 ++ more ∧ ls = more.map arL
  | [], _, _, a0, ar, h => by
    unfold goAr at h
    cases h
    exact ⟨[], by simp, rfl⟩
  | l :: r, k, last, a0, ar, h => by
    unfold goAr at h
    split at h
    · rename_i x hx
      obtain ⟨more, h1, h2⟩ := goAr_ls r _ _ _ _ h
      exact ⟨x :: more, by rw [h1]; simp, by rw [h2, arOf_arL hx]; rfl⟩
    · cases h
/-- rising by name -/
def Rise (ar : Ar) : Prop := ar.Pairwise fun p q => ltS p.1 q.1 = true
theorem goAr_ok {ps : List Str} : ∀ (ls : List Str) (k : Nat) (last : Str) (a0 ar : Ar), ArOk ps a0 → LastOk a0 last → a0.length = k → k ≤ 24 → Rise a0 → goAr ps ls k last a0 = .inr ar → ArOk ps ar ∧ Rise ar
  | [], _, _, a0, ar, h1, _, _, _, h5, h => by
    unfold goAr at h
    cases h
    exact ⟨h1, h5⟩
  | l :: r, k, last, a0, ar, h1, h2, h3, h4, h5, h => by
    unfold goAr at h
    split at h
    · rename_i x hx
      obtain ⟨a1, a2, _⟩ := arOf_some hx
      refine goAr_ok r _ _ _ _ (ar_more h1 h2 h3 h4 hx) (last_more h2 a1) (by simp [h3]) (by omega) ?_ h
      refine List.pairwise_append.mpr ⟨h5, by simp, fun p hp q hq => ?_⟩
      rw [List.mem_singleton.mp hq]
      have e := h2.1 p hp
      rw [ltS_iff]
      cases e3 : leB x.1 p.1 with
      | false => rfl
      | true =>
        have := leB_trans _ _ _ e3 e
        rw [ltS_iff] at a1
        rw [a1] at this
        cases this
    · cases h
theorem sAr_rise {ar : Ar} (h : Rise ar) : sAr ar = ar := by
  unfold sAr
  refine List.mergeSort_of_pairwise ?_
  exact h.imp fun q => leB_of_lt q
theorem sortS_incr {ps : List Str} (h : incr ps = true) : sortS ps = ps := by
  refine (sortS_uniq (List.Perm.refl _) ?_).symm
  exact (incr_pw h).imp fun q => leB_of_lt q
theorem pars_txt {t : Str} {ps : List Str} {ar : Ar} (h : pars t = .inr (ps, ar)) : t = txt ps ar ∧ PlOk ps ∧ incr ps = true ∧ ArOk ps ar ∧ Rise ar := by
  unfold pars at h
  split at h
  · cases h
  · split at h <;> cases h
  · rename_i l0 l1 r e
    split at h
    · rename_i h0
      split at h
      · cases h
      · rename_i ps' hp
        split at h
        · cases h
        · rename_i ar' hg
          cases h
          obtain ⟨q1, q2, q3⟩ := plOf_ok hp
          obtain ⟨more, m1, m2⟩ := goAr_ls _ _ _ _ _ hg
          have q4 := goAr_ok _ _ _ _ _ (ArOk.nil ps) ⟨by simp, .inl ⟨rfl, rfl⟩⟩ rfl (Nat.zero_le 24) (by simp [Rise]) hg
          refine ⟨?_, q1, q2, q4⟩
          rw [← join_ln t, e, h0, m2]
          rw [List.nil_append] at m1
          subst m1
          have e1 : l1 = plL ps := by rw [← join_wl l1, q3]; rfl
          rw [e1]
          rfl
    · cases h
theorem nm_no {z : Str} (h : NameS z) {c : Nat} (hc : c < 97) : c ∉ tl z := fun hm => by
  have := h.2.2 c hm
  omega
theorem tl_sp (l : List Str) : ∀ c ∈ tl (Txt.join (Str.ofString " ") l), c = 32 ∨ ∃ w ∈ l, c ∈ tl w := by
  intro c hc
  rw [txt_join] at hc
  cases l with
  | nil =>
    have : tl (Str.join (Str.ofString " ") []) = [] := by decide +kernel
    rw [this] at hc
    cases hc
  | cons x r =>
    rw [tl_join] at hc
    rcases List.mem_append.mp hc with h | h
    · exact .inr ⟨x, by simp, h⟩
    · obtain ⟨y, hy, hcy⟩ := List.mem_flatten.mp h
      obtain ⟨w, hw, rfl⟩ := List.mem_map.mp hy
      rcases List.mem_append.mp hcy with q | q
      · left
        have e : tl (Str.ofString " ") = [32] := sp_tl
        rw [e] at q
        simpa using q
      · exact .inr ⟨w, by simp [hw], q⟩
theorem no_in {w : Str} {c : Nat} {l : List Nat} (e : tl w = l) (h : (l.all fun x => x != c) = true) : c ∉ tl w := fun hm => by
  rw [e] at hm
  have := List.all_eq_true.mp h c hm
  simp at this
theorem w_pl : tl (Str.ofString "places") = [112, 108, 97, 99, 101, 115] := by decide +kernel
theorem w_ar : tl (Str.ofString "arrow") = [97, 114, 114, 111, 119] := by decide +kernel
theorem w_ars : tl (Str.ofString "arrows") = [97, 114, 114, 111, 119, 115] := by decide +kernel
theorem plL_nl {ps : List Str} (h : ∀ z ∈ ps, NameS z) : 10 ∉ tl (plL ps) := fun hm => by
  rcases tl_sp _ _ hm with e | ⟨w, hw, hc⟩
  · cases e
  · rcases List.mem_cons.mp hw with rfl | hw
    · exact no_in w_pl (by decide) hc
    · exact nm_no (h w hw) (by omega) hc
theorem wl_pl {ps : List Str} (h : ∀ z ∈ ps, NameS z) : wl (plL ps) = Str.ofString "places" :: ps := wl_join (by simp) fun w hw => by
  rcases List.mem_cons.mp hw with rfl | hw
  · exact no_in w_pl (by decide)
  · exact nm_no (h w hw) (by omega)
theorem arL_nl {p : Str × Str × Str} (h : NameS p.1) (h1 : NameS p.2.1) (h2 : NameS p.2.2) : 10 ∉ tl (arL p) := fun hm => by
  rcases tl_sp _ _ hm with e | ⟨w, hw, hc⟩
  · cases e
  · simp only [List.mem_cons, List.not_mem_nil, or_false] at hw
    rcases hw with rfl | rfl | rfl | rfl
    · exact no_in w_ar (by decide) hc
    · exact nm_no h (by omega) hc
    · exact nm_no h1 (by omega) hc
    · exact nm_no h2 (by omega) hc
theorem wl_ar {p : Str × Str × Str} (h : NameS p.1) (h1 : NameS p.2.1) (h2 : NameS p.2.2) : wl (arL p) = [Str.ofString "arrow", p.1, p.2.1, p.2.2] := wl_join (by simp) fun w hw => by
  simp only [List.mem_cons, List.not_mem_nil, or_false] at hw
  rcases hw with rfl | rfl | rfl | rfl
  · exact no_in w_ar (by decide)
  · exact nm_no h (by omega)
  · exact nm_no h1 (by omega)
  · exact nm_no h2 (by omega)
theorem ln_txt {ps : List Str} {ar : Ar} (hp : PlOk ps) (ha : ArOk ps ar) : ln (txt ps ar) = lnT ps ar := ln_join (by simp [lnT]) fun l hl => by
  unfold lnT at hl
  rcases List.mem_cons.mp hl with rfl | hl
  · exact no_in w_ars (by decide)
  rcases List.mem_cons.mp hl with rfl | hl
  · exact plL_nl hp.nm
  obtain ⟨p, hpa, rfl⟩ := List.mem_map.mp hl
  exact arL_nl (ha.nm p hpa) (hp.nm _ (ha.a p hpa)) (hp.nm _ (ha.b p hpa))
theorem goAr_back {ps : List Str} {ar : Ar} (hp : PlOk ps) (ha : ArOk ps ar) (hr : Rise ar) : ∀ (rest done : Ar) (last : Str), done ++ rest = ar → (∀ p ∈ rest, ltS last p.1 = true) → goAr ps (rest.map arL) done.length last done = .inr ar
  | [], done, last, e, _ => by
    rw [List.append_nil] at e
    subst e
    rfl
  | x :: r, done, last, e, hl => by
    have hx : x ∈ ar := by rw [← e]; simp
    have hlen := congrArg List.length e
    have h24 := ha.l24
    simp only [List.length_append, List.length_cons] at hlen
    have hw := wl_ar (ha.nm x hx) (hp.nm _ (ha.a x hx)) (hp.nm _ (ha.b x hx))
    have ho : arOf ps done.length last (arL x) = some x := by
      unfold arOf
      rw [hw]
      simp only
      rw [if_pos ⟨trivial, (isNm_iff _).mpr (ha.nm x hx), hl x (by simp), by omega, ha.a x hx, ha.b x hx, ha.ne x hx⟩]
    have hr2 : Rise (done ++ x :: r) := by rw [e]; exact hr
    have h3 := (List.pairwise_append.mp hr2).2.1
    have ih := goAr_back hp ha hr r (done ++ [x]) x.1 (by rw [← e]; simp) (List.pairwise_cons.mp h3).1
    simp only [List.map_cons]
    unfold goAr
    rw [ho]
    simp only
    rw [List.length_append] at ih
    exact ih
theorem pars_back {ps : List Str} {ar : Ar} (hp : PlOk ps) (hi : incr ps = true) (ha : ArOk ps ar) (hr : Rise ar) : pars (txt ps ar) = .inr (ps, ar) := by
  unfold pars
  rw [ln_txt hp ha]
  unfold lnT
  simp only [if_true]
  have hpl : plOf (plL ps) = some ps := by
    unfold plOf
    rw [wl_pl hp.nm]
    simp only
    rw [if_pos ⟨trivial, hp.l1, hp.l16, List.all_eq_true.mpr fun z hz => (isNm_iff z).mpr (hp.nm z hz), hi⟩]
  rw [hpl]
  simp only
  have := goAr_back hp ha hr ar [] (Str.ofString "") rfl fun p h => lt_empty (ha.nm p h).1
  simp only [List.length_nil] at this
  rw [this]
theorem sortS_inc {ps : List Str} (nd : ps.Nodup) : incr (sortS ps) = true := by
  refine pw_incr ?_
  have h := List.Pairwise.and (sortS_pw ps) ((sortS_perm ps).symm.nodup nd)
  refine h.imp fun {a b} q => ?_
  rw [ltS_iff]
  cases e : leB b a with
  | false => rfl
  | true => exact absurd (leB_anti a b q.1 e) q.2
theorem sAr_rises {ar : Ar} (nd : (ar.map (·.1)).Nodup) : Rise (sAr ar) := by
  have h1 := sortS_inc nd
  rw [← sAr_keys] at h1
  have := incr_pw h1
  rw [List.pairwise_map] at this
  exact this
theorem plOk_sort {ps : List Str} (hp : PlOk ps) : PlOk (sortS ps) := by
  have hl := (sortS_perm ps).length_eq
  exact ⟨(sortS_perm ps).symm.nodup hp.nd, fun z hz => hp.nm z ((sortS_perm ps).subset hz), by rw [hl]; exact hp.l1, by rw [hl]; exact hp.l16⟩
theorem arOk_sort {ps : List Str} {ar : Ar} (ha : ArOk ps ar) : ArOk (sortS ps) (sAr ar) := by
  have hs := sAr_ok ha
  exact ⟨hs.nd, hs.nm, fun p h => (sortS_perm ps).symm.subset (hs.a p h), fun p h => (sortS_perm ps).symm.subset (hs.b p h), hs.ne, hs.l24⟩
/-- what the text of arrows tells -/
theorem pars_sorted {ps : List Str} {ar : Ar} (hp : PlOk ps) (ha : ArOk ps ar) : pars (txt (sortS ps) (sAr ar)) = .inr (sortS ps, sAr ar) :=
  pars_back (plOk_sort hp) (sortS_inc hp.nd) (arOk_sort ha) (sAr_rises ha.nd)
end P96
/-! P96r: k96, plain: _law_is_told holds of every text. -/
namespace P96
open PySem DL K96
theorem istold_ok (A : CA) {t : Str} (ht : t.length ≤ 1000000) : ∃ s outs, m__law_is_told A [.val (.str t)] = some (.ok s, outs) ∧ s = .val (.bl true) ∧ outs = [some (.val (.str t))] := by
  obtain ⟨sd, od, ed, rfl, rfl⟩ := lread_ok A t ht
  obtain ⟨rr, ro, er, rfl, rfl⟩ := rarrows_ok A t ht
  refine mir_of rfl ?_
  unfold bb__law_is_told
  cases hpar : pars t with
  | inl n =>
    rw [hpar] at ed er
    obtain ⟨ss, os, es, rfl, rfl⟩ := said_bad A (d := .str t) (n := n) er
    refine ws_cut (fun ds => ds = [some (.val (.str t)), some (.val (enc (.inl n))), some (.val (.tup [.str (Str.ofString "bad"), .int n]))]) ?_ ?_
    · rw [ws_par, wp_consS]
      refine wp_call1 ?_
      rw [wp_rd]
      refine ⟨_, rfl, _, _, ed, ?_⟩
      rw [wp_consS]
      refine wp_call1 ?_
      rw [wp_rd]
      refine ⟨_, rfl, _, _, es, ?_⟩
      rw [wp_ret]
      exact ⟨_, _, rfl, rfl⟩
    rintro ds rfl
    refine ws_cut (fun _ => False) ?_ (fun _ h => h.elim)
    rw [ws_if, wp_isB, wp_bin, wp_ixNk]
    refine ⟨_, rfl, .str (Str.ofString "bad"), rfl, ?_⟩
    rw [wp_k]
    refine ⟨_, eq_strs _ _, _, rfl, ?_⟩
    rw [if_pos (by simp), ws_ret]
    refine wp_call2 ?_
    rw [wp_rd]
    refine ⟨_, rfl, ?_⟩
    rw [wp_rd]
    refine ⟨_, rfl, ?_⟩
    obtain ⟨s', o', e', rfl, rfl⟩ := same_seq A 2 (d := .tup [.str (Str.ofString "bad"), .int n]) (xs := [.str (Str.ofString "bad"), .int n]) (.inr rfl) (by
      intro x hx
      simp only [List.mem_cons, List.not_mem_nil, or_false] at hx
      rcases hx with rfl | rfl
      · exact .inl ⟨_, rfl⟩
      · exact .inr ⟨_, rfl⟩) (by simp)
    exact ⟨_, _, _, e', rfl, rfl⟩
  | inr x =>
    obtain ⟨ps, ar⟩ := x
    rw [hpar] at ed er
    obtain ⟨htx, hp, hi, ha, hr⟩ := pars_txt hpar
    have hso := sortS_incr hi
    have hsa := sAr_rise hr
    obtain ⟨ss, os, es, rfl, rfl⟩ := said_told A (d := .str t) er
    rw [hso, hsa] at es
    obtain ⟨st, ot, et, rfl, rfl⟩ := atext_ok A hp ha
    rw [hso, hsa, ← htx] at et
    refine ws_cut (fun ds => ds = [some (.val (.str t)), some (.val (enc (.inr (ps, ar)))), some (.val (.tup [.str (Str.ofString "told"), dL ps, dA ar]))]) ?_ ?_
    · rw [ws_par, wp_consS]
      refine wp_call1 ?_
      rw [wp_rd]
      refine ⟨_, rfl, _, _, ed, ?_⟩
      rw [wp_consS]
      refine wp_call1 ?_
      rw [wp_rd]
      refine ⟨_, rfl, _, _, es, ?_⟩
      rw [wp_ret]
      exact ⟨_, _, rfl, rfl⟩
    rintro ds rfl
    refine ws_cut (fun ds => ds = [some (.val (.str t)), some (.val (enc (.inr (ps, ar)))), some (.val (.tup [.str (Str.ofString "told"), dL ps, dA ar]))]) ?_ ?_
    · rw [ws_if, wp_isB, wp_bin, wp_ixNk]
      refine ⟨_, rfl, .str (Str.ofString "told"), rfl, ?_⟩
      rw [wp_k]
      refine ⟨_, eq_strs _ _, _, rfl, ?_⟩
      rw [if_neg (by decide +kernel), ws_nx]
    rintro ds rfl
    refine ws_cut (fun ds => ds = [some (.val (.str t)), some (.val (enc (.inr (ps, ar)))), some (.val (.tup [.str (Str.ofString "told"), dL ps, dA ar]))]) ?_ ?_
    · rw [ws_if, wp_ifM, wp_isB, wp_bin, wp_ixNk]
      refine ⟨_, rfl, .str (Str.ofString "told"), rfl, ?_⟩
      rw [wp_k]
      refine ⟨_, ne_str _ _, _, rfl, ?_⟩
      rw [if_neg (by simp), wp_ifM, wp_ngM, wp_isB, wp_fz]
      refine wp_call2 ?_
      rw [wp_ixNk]
      refine ⟨_, rfl, dL ps, rfl, ?_⟩
      rw [wp_fz, wp_un, wp_ixNk]
      have h64 : ps.length < 64 := by have := hp.l16; omega
      refine ⟨_, rfl, dL ps, rfl, _, sort_o h64, ?_⟩
      rw [hso]
      obtain ⟨s', o', e', rfl, rfl⟩ := same_seq A 2 (d := dL ps) (xs := ps.map .str) (.inl rfl) (by
        intro x hx
        obtain ⟨z, _, rfl⟩ := List.mem_map.mp hx
        exact .inl ⟨_, rfl⟩) (by rw [List.length_map]; omega)
      refine ⟨_, _, _, e', true, rfl, ?_⟩
      rw [if_neg (by simp), wp_isB, wp_bin, wp_ixNk]
      refine ⟨_, rfl, dA ar, rfl, ?_⟩
      rw [wp_ixNk]
      refine ⟨_, rfl, dA ar, rfl, _, ne_dA hp.nm ha, false, rfl, ?_⟩
      rw [if_neg (by simp), ws_nx]
    rintro ds rfl
    rw [ws_ret, wp_vl, wp_bin, wp_fz]
    refine wp_call1 ?_
    rw [wp_fz]
    refine wp_call1 ?_
    rw [wp_rd]
    refine ⟨_, rfl, _, _, er, _, _, et, ?_⟩
    rw [wp_pk]
    refine ⟨_, rfl, _, eq_strs _ _, ?_, rfl⟩
    simp
end P96
/-! P96s: k96, plain: the law's own text of arrows. -/
namespace P96
open PySem DL K96
theorem plL_eq (ps : List Str) (h : ps ≠ []) : Str.ofString "places " ++ Txt.join (Str.ofString " ") ps = plL ps := by
  cases ps with
  | nil => exact absurd rfl h
  | cons x r =>
    apply tl_inj
    unfold plL
    rw [txt_join, txt_join, tl_app, tl_join, tl_join, w_pl]
    have e1 : tl (Str.ofString "places ") = [112, 108, 97, 99, 101, 115, 32] := by decide +kernel
    have e2 : tl (Str.ofString " ") = [32] := sp_tl
    rw [e1]
    simp only [List.map_cons, List.flatten_cons, e2]
    rfl
theorem arL_eq (p : Str × Str × Str) : Str.ofString "arrow " ++ p.1 ++ Str.ofString " " ++ p.2.1 ++ Str.ofString " " ++ p.2.2 = arL p := by
  apply tl_inj
  unfold arL
  rw [txt_join, tl_join]
  have e1 : tl (Str.ofString "arrow ") = [97, 114, 114, 111, 119, 32] := by decide +kernel
  have e2 : tl (Str.ofString " ") = [32] := sp_tl
  simp only [tl_app, e1, e2, w_ar, List.map_cons, List.map_nil, List.flatten_cons, List.flatten_nil, List.append_nil, List.append_assoc]
  rfl
theorem sort_dA {ar : Ar} (h : ar.length < 64) : sortO (dA ar) = some (.own (.lst ((sAr ar).map fun p => D.str p.1))) := by
  unfold sortO
  simp only
  have e : keysS (arK ar) = some (ar.map (·.1)) := by
    unfold keysS
    rw [keys_ar, strsD_map]
  rw [e]
  simp only
  rw [if_pos (by simpa using h), ← sAr_keys, List.map_map]
  rfl
theorem join_sp {ps : List Str} (h : ∀ z ∈ ps, NameS z) (h16 : ps.length ≤ 16) : joinO (Str.ofString " ") (dL ps) = some (.str (Txt.join (Str.ofString " ") ps)) := by
  refine join_o ?_
  have := sum_le (ys := ps) (n := 8) (fun y hy => (h y hy).2.1)
  rw [len_sp]
  omega
theorem len_app (x y : Str) : (x ++ y).length = x.length + y.length := by rw [len_tl, tl_app, List.length_append, ← len_tl, ← len_tl]
theorem ltext_ok (A : CA) {ps : List Str} {ar : Ar} (hp : PlOk ps) (ha : ArOk ps ar) :
    ∃ s outs, m__law_text A [.val (dL ps), .val (dA ar)] = some (.ok s, outs) ∧ s = .val (.str (txt (sortS ps) (sAr ar))) ∧ outs = [some (.val (dL ps)), some (.val (dA ar))] := by
  have hp2 := plOk_sort hp
  have hs := sAr_ok ha
  have hs2 := arOk_sort ha
  refine mir_of rfl ?_
  unfold bb__law_text
  refine ws_cut (fun ds => ds = [some (.val (dL ps)), some (.val (dA ar)), some (.own (.lst ([Str.ofString "arrows", plL (sortS ps)].map .str))), none]) ?_ ?_
  · rw [ws_set, wp_lstM, wp_consA, wp_k, wp_consA, wp_fz, wp_bin, wp_k, wp_strM, wp_k]
    refine ⟨_, rfl, ?_⟩
    rw [wp_fz, wp_un, wp_pk]
    have h64 : ps.length < 64 := by have := hp.l16; omega
    refine ⟨_, rfl, _, sort_o h64, _, join_sp hp2.nm hp2.l16, .val (.str (plL (sortS ps))), ?_, ?_⟩
    · unfold addO
      simp only
      have h1 := plL_le hp2.nm hp2.l16
      rw [← plL_eq _ (fun e => by have := hp2.l1; rw [e] at this; simp at this), len_app] at h1
      rw [if_pos (by rw [szl]; omega), plL_eq _ (fun e => by have := hp2.l1; rw [e] at this; simp at this)]
    · rw [wp_nilA]
      exact ⟨by rw [szl]; simp, rfl⟩
  rintro ds rfl
  refine ws_cut (fun ds => ∃ x, ds = [some (.val (dL ps)), some (.val (dA ar)), some (.own (.lst ((lnT (sortS ps) (sAr ar)).map .str))), x]) ?_ ?_
  · rw [ws_forI, wp_itM, wp_fz, wp_un, wp_pk]
    refine ⟨_, rfl, _, sort_dA (by have := ha.l24; omega), _, rfl, ?_⟩
    refine ws_for (fun rr ds => ∃ (done rest : Ar) (x : Option SV), rr = rest.map (fun p => D.str p.1) ∧ done ++ rest = sAr ar ∧ ds = [some (.val (dL ps)), some (.val (dA ar)), some (.own (.lst ((lnT (sortS ps) done).map .str))), x]) ?_ ?_ _ _ ⟨[], sAr ar, none, rfl, rfl, rfl⟩
    · rintro d rr ds ⟨done, rest, x, hr, hall, rfl⟩
      cases rest with
      | nil => cases hr
      | cons p rest =>
        cases hr
        have hpa : p ∈ sAr ar := by rw [← hall]; simp
        have hpm : p ∈ ar := (sAr_perm ar).subset hpa
        refine ⟨_, rfl, ?_⟩
        rw [ws_drop]
        refine wp_mut ⟨_, rfl⟩ ?_
        have n1 := (hs.nm _ hpa).2.1
        have n2 := (hp2.nm _ (hs2.a _ hpa)).2.1
        have n3 := (hp2.nm _ (hs2.b _ hpa)).2.1
        have l1 : (Str.ofString "arrow ").length = 6 := by decide +kernel
        have l2 := len_sp
        rw [wp_consA, wp_fz, wp_bin, wp_fz, wp_bin, wp_fz, wp_bin, wp_fz, wp_bin, wp_fz, wp_bin, wp_k, wp_pk]
        refine ⟨_, rfl, _, add_str _ _ (by omega), ?_⟩
        rw [wp_k]
        refine ⟨_, add_str _ _ (by rw [len_app]; omega), ?_⟩
        rw [wp_bin]
        rw [show (rd 3 : M D) = rd 3 from rfl]
        refine wp_ixN ?_ ⟨_, rfl⟩
        rw [wp_rd]
        refine ⟨_, rfl, _, rfl, _, ix_ar ha.nd hpm, ?_⟩
        rw [wp_k]
        refine ⟨_, rfl, _, add_str _ _ (by simp only [len_app]; omega), ?_⟩
        rw [wp_k]
        refine ⟨_, add_str _ _ (by simp only [len_app]; omega), ?_⟩
        rw [wp_bin]
        refine wp_ixN ?_ ⟨_, rfl⟩
        rw [wp_rd]
        refine ⟨_, rfl, _, rfl, _, ix_ar ha.nd hpm, ?_⟩
        rw [wp_k]
        refine ⟨_, rfl, _, add_str _ _ (by simp only [len_app]; omega), ?_⟩
        rw [wp_nilA]
        refine ⟨_, rfl, ((lnT (sortS ps) (done ++ [p])).map .str), .non, ?_, done ++ [p], rest, _, rfl, by rw [List.append_assoc]; exact hall, rfl⟩
        have h1 := congrArg List.length hall
        have h2 := (sAr_perm ar).length_eq
        have h3 := ha.l24
        unfold appendF
        simp only
        rw [if_pos]
        · have := arL_eq p
          simp only [SV.d, lnT, List.map_append, List.map_cons, List.map_nil, List.cons_append, List.nil_append, List.append_assoc]
          rw [← arL_eq p]
        · rw [szl, List.length_map, lnT_len]
          simp at h1
          omega
    · rintro ds ⟨done, rest, x, hr, hall, rfl⟩
      have hr2 : rest = [] := by
        cases rest with
        | nil => rfl
        | cons p rest => cases hr
      subst hr2
      rw [List.append_nil] at hall
      subst hall
      exact ⟨x, rfl⟩
  rintro ds ⟨x, rfl⟩
  rw [ws_ret, wp_vl, wp_strM, wp_k]
  refine ⟨_, rfl, ?_⟩
  rw [wp_pk]
  refine ⟨_, rfl, .str (txt (sortS ps) (sAr ar)), ?_, rfl, rfl⟩
  refine join_o ?_
  have h1 := sum_le (lnT_le hp2 hs2)
  rw [lnT_len] at h1 ⊢
  rw [len_nl]
  have := hs.l24
  omega
end P96
/-! P96t: k96, plain: bent texts are texts, and not too long. -/
namespace P96
open PySem DL K96
theorem wp_drawN (A : CA) {i : Nat} {marg : M D} {Q : SV → DS → Prop} {ds : DS} (h0 : ∃ s, ds[i]? = some (some s)) (h : wp marg (fun a ds1 => ∃ (o : OO) (m : Nat), ds1[i]? = some (some (.own o)) ∧ HS o ∧ a = .int m ∧ 0 < m ∧ m < 1073741824 ∧ ∀ (d : Nat) o', d < m → HS o' → Q (.val (.int d)) (ds1.set i (some (.own o')))) ds) :
    wp (callM 2 (m__law_draw A) (gBy i (gEv marg gNilA))) Q ds := by
  refine wp_draw A h0 (wp_mono h fun a ds1 ⟨o, m, e0, ho, ea, h1, h2, q⟩ => ⟨o, m, e0, ho, ea, by omega, by omega, fun d o' d0 d1 ho' => ?_⟩)
  have := q d.toNat o' (by omega) ho'
  have e : ((d.toNat : Nat) : Int) = d := by omega
  rw [e] at this
  exact this
/-- how long a text of such lines is at most -/
def W (ls : List Str) : Nat := (ls.map (·.length)).sum + ls.length
theorem W_join {sep : Str} (hs : sep.length = 1) : ∀ ls : List Str, (Txt.join sep ls).length ≤ W ls
  | [] => by
    have : Txt.join sep [] = Str.empty := rfl
    rw [this]; exact Nat.zero_le _
  | a :: l => by
    have e := PyProof.Rows.len_join_cons sep a l
    have e2 : (Txt.join sep (a :: l)).length = ((a :: l).map (·.length)).sum + l.length * sep.length := (congrArg Str.length (PySem.StrLaws.glued_eq_join sep (a :: l))).trans e
    rw [e2, hs]
    unfold W
    simp only [List.length_cons]
    omega
theorem W_cut {sep : Str} (hs : sep.length = 1) {ls : List Str} (h : 1 ≤ ls.length) : W ls = (Txt.join sep ls).length + 1 := by
  cases ls with
  | nil => simp at h
  | cons a l =>
    have e := PyProof.Rows.len_join_cons sep a l
    have e2 : (Txt.join sep (a :: l)).length = ((a :: l).map (·.length)).sum + l.length * sep.length := (congrArg Str.length (PySem.StrLaws.glued_eq_join sep (a :: l))).trans e
    rw [e2, hs]
    unfold W
    simp only [List.length_cons]
    omega
theorem W_ln (t : Str) : W (ln t) = t.length + 1 := by
  rw [W_cut len_nl (ln_pos t), join_ln]
theorem W_wl (t : Str) : W (wl t) = t.length + 1 := by
  rw [W_cut len_sp (wl_pos t), join_wl]
theorem W_set : ∀ (ls : List Str) (i : Nat) (x : Str), W (ls.set i x) ≤ W ls + x.length
  | [], i, x => by simp [W]
  | a :: l, 0, x => by simp [W]; omega
  | a :: l, i + 1, x => by
    have := W_set l i x
    unfold W at *
    simp only [List.set_cons_succ, List.map_cons, List.sum_cons, List.length_cons] at *
    omega
theorem W_ins (ls : List Str) (i : Nat) (x : Str) : W (ls.take i ++ [x] ++ ls.drop i) = W ls + x.length + 1 := by
  have e : W ls = W (ls.take i ++ ls.drop i) := by rw [List.take_append_drop]
  rw [e]
  unfold W
  simp only [List.map_append, List.sum_append, List.length_append, List.map_cons, List.map_nil, List.sum_cons, List.sum_nil, List.length_cons, List.length_nil]
  omega
theorem W_mem {ls : List Str} {x : Str} (h : x ∈ ls) : x.length + 1 ≤ W ls := by
  induction ls with
  | nil => cases h
  | cons a l ih =>
    unfold W at *
    simp only [List.map_cons, List.sum_cons, List.length_cons]
    rcases List.mem_cons.mp h with rfl | h
    · omega
    · have := ih h
      omega
theorem ix_ls {ls : List Str} {k : Nat} {x : Str} (h : ls[k]? = some x) : ixO (.lst (ls.map .str)) (.int k) = some (.str x) := ix_lst _ _ _ (by rw [List.getElem?_map, h]; rfl)
theorem set_ls {ls : List Str} {k : Nat} (h : k < ls.length) (x : Str) : setF (.lst (ls.map .str)) (.int k) (.str x) = some (.lst ((ls.set k x).map .str)) := by
  simp [setF, L2.ixN, h, List.map_set]
theorem join_w {sep : Str} (hs : sep.length = 1) {ls : List Str} (h : W ls ≤ 16777216) : joinO sep (.lst (ls.map .str)) = some (.str (Txt.join sep ls)) := by
  refine join_o ?_
  rw [hs, Nat.mul_one]
  exact h
theorem cat_str (x y : Str) (h : x.length + y.length ≤ 16777216) : addO (.str x) (.str y) = some (.val (.str (x ++ y))) := by
  unfold addO
  simp only
  rw [if_pos (by rw [szl]; exact h)]
theorem sl_str (z : Str) (lo hi : Option Int) (h : z.length ≤ 16777216) : slO (.str z) lo hi = some (.val (.str (L2.cutS z lo hi))) := by
  unfold slO
  simp only
  rw [if_pos (by rw [szl]; exact h)]
theorem pick {l : List D} {n : Nat} {P : D → Prop} (h : ∀ x ∈ l, P x) (e : l.length = n := by rfl) : ∀ k : Nat, k < n → ∃ x, ixO (.lst l) (.int k) = some x ∧ P x := fun k hk => by
  subst e
  exact ⟨l[k], ix_lst _ _ _ (List.getElem?_eq_getElem hk), h _ (List.getElem_mem hk)⟩
theorem mem_P {P : D → Prop} : (∀ x ∈ ([] : List D), P x) := fun x h => by cases h
theorem tgT2 {f g : TgF} {a b : D} {ds ds1 ds2 : DS} (h1 : f a ds = some ds1) (h2 : g b ds1 = some ds2) : tgT 2 (tgCons f (tgCons g tgNil)) (.tup [a, b]) ds = some ds2 := by
  simp [tgT, tgCons, tgNil, h1, h2]
def ShS (n : Nat) (x : D) : Prop := ∃ z : Str, x = .str z ∧ z.length ≤ n
theorem bent_ok (A : CA) {o : OO} {t : Str} (ho : HS o) (ht : t.length ≤ 100000) :
    ∃ s outs, m__law_bent A [.own o, .val (.str t)] = some (.ok s, outs) ∧ ∃ (z : Str) (o' : OO), HS o' ∧ z.length ≤ 3 * t.length + 100 ∧ s = .val (.str z) ∧ outs = [some (.own o'), some (.val (.str t))] := by
  have hlen : (ln t).length ≤ 100002 := by have := ln_len t; omega
  have hpos := ln_pos t
  refine mir_of rfl ?_
  unfold bb__law_bent
  refine ws_cut (fun ds => ∃ (o' : OO) (kd : Nat), HS o' ∧ ds = [some (.own o'), some (.val (.str t)), some (.own (.lst ((ln t).map .str))), some (.val (.int kd)), none, none, none, none, none, none, none]) ?_ ?_
  · rw [ws_par, wp_consS, wp_strM, wp_rd]
    refine ⟨_, rfl, _, rfl, ?_⟩
    rw [wp_k]
    refine ⟨_, split_o nl_ne (by omega), ?_⟩
    rw [wp_consS]
    refine wp_drawN A ⟨_, rfl⟩ ?_
    rw [wp_k]
    refine ⟨o, 6, rfl, ho, rfl, by omega, by omega, fun d o' hd ho' => ?_⟩
    rw [wp_ret]
    exact ⟨_, _, rfl, o', d, ho', rfl⟩
  rintro ds ⟨o1, kd, ho1, rfl⟩
  refine ws_cut (fun ds => ∃ (o' : OO) (at_ spot : Nat), HS o' ∧ at_ < (ln t).length ∧ ds = [some (.own o'), some (.val (.str t)), some (.own (.lst ((ln t).map .str))), some (.val (.int kd)), some (.val (.int at_)), some (.val (.int spot)), none, none, none, none, none]) ?_ ?_
  · rw [ws_par, wp_consS]
    refine wp_drawN A ⟨_, rfl⟩ ?_
    rw [wp_un, wp_pk]
    refine ⟨_, rfl, _, len_lst _, o1, (ln t).length, rfl, ho1, by simp, by omega, by omega, fun d o2 hd ho2 => ?_⟩
    rw [wp_consS]
    refine wp_drawN A ⟨_, rfl⟩ ?_
    rw [wp_fz, wp_bin, wp_un, wp_pk]
    refine ⟨_, rfl, _, len_str (by omega), ?_⟩
    rw [wp_k]
    refine ⟨_, add_int _ _, o2, t.length + 1, rfl, ho2, rfl, by omega, by omega, fun e o3 he ho3 => ?_⟩
    rw [wp_ret]
    exact ⟨_, _, rfl, o3, d, e, ho3, hd, rfl⟩
  rintro ds ⟨o2, at_, spot, ho2, hat, rfl⟩
  refine ws_cut (fun ds => ∃ (o' : OO) (sg : Str), HS o' ∧ sg.length ≤ 12 ∧ ds = [some (.own o'), some (.val (.str t)), some (.own (.lst ((ln t).map .str))), some (.val (.int kd)), some (.val (.int at_)), some (.val (.int spot)), some (.val (.str sg)), none, none, none, none]) ?_ ?_
  · rw [ws_set]
    refine wp_any A (ShS 12) ⟨_, rfl⟩ ?_
    simp only [wp_fz, wp_lstM, wp_consA, wp_k, wp_nilA, sv_own, oo_lst]
    refine ⟨by rw [szl]; simp, o2, 11, rfl, ho2, rfl, by omega, by omega, pick ?_, fun x o' hx ho' => ?_⟩
    · intro x hx
      simp only [List.mem_cons, List.not_mem_nil, or_false] at hx
      rcases hx with rfl | rfl | rfl | rfl | rfl | rfl | rfl | rfl | rfl | rfl | rfl <;> exact ⟨_, rfl, by decide +kernel⟩
    · obtain ⟨z, rfl, hz⟩ := hx
      exact ⟨o', z, ho', hz, rfl⟩
  rintro ds ⟨o3, sg, ho3, hsg, rfl⟩
  have hc := fun lo hi => L2.cutS_length t lo hi
  refine ws_cut (fun ds => ds = [some (.own o3), some (.val (.str t)), some (.own (.lst ((ln t).map .str))), some (.val (.int kd)), some (.val (.int at_)), some (.val (.int spot)), some (.val (.str sg)), none, none, none, none]) ?_ ?_
  · rw [ws_if, wp_isB, wp_bin, wp_rd]
    refine ⟨_, rfl, ?_⟩
    rw [wp_k]
    refine ⟨_, eq_int _ _, _, rfl, ?_⟩
    split
    · rw [ws_ret, wp_bin, wp_fz, wp_bin, wp_fz]
      refine wp_slN ⟨_, rfl⟩ ?_
      simp only [wp_someP, wp_k, wp_ret, wp_rd]
      have l1 := hc none (some spot)
      have l2 := hc (some spot) none
      refine ⟨_, rfl, _, rfl, _, rfl, _, sl_str t none (some spot) (by omega), ?_⟩
      rw [wp_pk]
      refine ⟨_, rfl, _, cat_str _ _ (by omega), ?_⟩
      rw [wp_fz]
      refine wp_slN ⟨_, rfl⟩ ?_
      simp only [wp_someP, wp_k, wp_ret, wp_rd]
      refine ⟨_, rfl, _, rfl, _, rfl, _, sl_str t (some spot) none (by omega), _, cat_str _ _ ?_, _, o3, ho3, ?_, rfl, rfl⟩
      · rw [len_app]; omega
      · rw [len_app, len_app]; omega
    · rw [ws_nx]
      rfl
  rintro ds rfl
  refine ws_cut (fun ds => ds = [some (.own o3), some (.val (.str t)), some (.own (.lst ((ln t).map .str))), some (.val (.int kd)), some (.val (.int at_)), some (.val (.int spot)), some (.val (.str sg)), none, none, none, none]) ?_ ?_
  · rw [ws_if, wp_isB, wp_bin, wp_rd]
    refine ⟨_, rfl, ?_⟩
    rw [wp_k]
    refine ⟨_, eq_int _ _, _, rfl, ?_⟩
    split
    · rw [ws_ret, wp_bin, wp_fz, wp_bin, wp_fz]
      refine wp_slN ⟨_, rfl⟩ ?_
      simp only [wp_someP, wp_k, wp_ret, wp_rd]
      have l1 := hc none (some spot)
      have l2 := hc (some (spot + 1)) none
      refine ⟨_, rfl, _, rfl, _, rfl, _, sl_str t none (some spot) (by omega), ?_⟩
      rw [wp_pk]
      refine ⟨_, rfl, _, cat_str _ _ (by omega), ?_⟩
      rw [wp_fz]
      refine wp_slN ⟨_, rfl⟩ ?_
      simp only [wp_someP, wp_k, wp_ret, wp_fz, wp_bin, wp_rd]
      refine ⟨_, rfl, _, add_int _ _, _, rfl, _, rfl, _, sl_str t (some (spot + 1)) none (by omega), _, cat_str _ _ ?_, _, o3, ho3, ?_, rfl, rfl⟩
      · rw [len_app]; omega
      · rw [len_app, len_app]; omega
    · rw [ws_nx]
      rfl
  rintro ds rfl
  refine ws_cut (fun ds => ds = [some (.own o3), some (.val (.str t)), some (.own (.lst ((ln t).map .str))), some (.val (.int kd)), some (.val (.int at_)), some (.val (.int spot)), some (.val (.str sg)), none, none, none, none]) ?_ ?_
  · rw [ws_if, wp_isB, wp_bin, wp_rd]
    refine ⟨_, rfl, ?_⟩
    rw [wp_k]
    refine ⟨_, eq_int _ _, _, rfl, ?_⟩
    split
    · rw [ws_ret]
      refine wp_slN ⟨_, rfl⟩ ?_
      simp only [wp_someP, wp_k, wp_ret, wp_rd]
      have l1 := hc none (some spot)
      exact ⟨_, rfl, _, rfl, _, rfl, _, sl_str t none (some spot) (by omega), _, o3, ho3, by omega, rfl, rfl⟩
    · rw [ws_nx]
      rfl
  rintro ds rfl
  refine ws_cut (fun ds => ∃ (o' : OO) (ot : Nat), HS o' ∧ ot < (ln t).length ∧ ds = [some (.own o'), some (.val (.str t)), some (.own (.lst ((ln t).map .str))), some (.val (.int kd)), some (.val (.int at_)), some (.val (.int spot)), some (.val (.str sg)), some (.val (.int ot)), none, none, none]) ?_ ?_
  · rw [ws_set]
    refine wp_drawN A ⟨_, rfl⟩ ?_
    rw [wp_un, wp_pk]
    exact ⟨_, rfl, _, len_lst _, o3, (ln t).length, rfl, ho3, by simp, by omega, by omega, fun d o' hd ho' => ⟨o', d, ho', hd, rfl⟩⟩
  rintro ds ⟨o4, ot, ho4, hot, rfl⟩
  have ea : (ln t)[at_]? = some (ln t)[at_] := List.getElem?_eq_getElem hat
  have eo : (ln t)[ot]? = some (ln t)[ot] := List.getElem?_eq_getElem hot
  have la := ln_short (t := t) (l := (ln t)[at_]) (List.getElem_mem hat)
  have lo := ln_short (t := t) (l := (ln t)[ot]) (List.getElem_mem hot)
  have hW := W_ln t
  refine ws_cut (fun ds => ∃ (o' : OO) (ls : List Str) (x : List (Option SV)), HS o' ∧ W ls ≤ 3 * t.length + 11 ∧ ds = some (.own o') :: some (.val (.str t)) :: some (.own (.lst (ls.map .str))) :: x) ?_ ?_
  · rw [ws_if, wp_isB, wp_bin, wp_rd]
    refine ⟨_, rfl, ?_⟩
    rw [wp_k]
    refine ⟨_, eq_int _ _, _, rfl, ?_⟩
    split
    · rw [ws_asg, wp_tupM, wp_consA]
      refine wp_ixN ?_ ⟨_, rfl⟩
      rw [wp_rd]
      refine ⟨_, rfl, _, rfl, _, ix_ls eo, ?_⟩
      rw [wp_consA]
      refine wp_ixN ?_ ⟨_, rfl⟩
      rw [wp_rd]
      refine ⟨_, rfl, _, rfl, _, ix_ls ea, ?_⟩
      rw [wp_nilA]
      refine ⟨by rw [szl]; simp, [some (.own o4), some (.val (.str t)), some (.own (.lst ((((ln t).set at_ (ln t)[ot]).set ot (ln t)[at_]).map .str))), some (.val (.int kd)), some (.val (.int at_)), some (.val (.int spot)), some (.val (.str sg)), some (.val (.int ot)), none, none, none], ?_, o4, ((ln t).set at_ (ln t)[ot]).set ot (ln t)[at_], _, ho4, ?_, rfl⟩
      · exact tgT2 (tgS_gen (k := .int at_) (o := .lst ((ln t).map .str)) rfl rfl (set_ls hat _)) ((tgS_gen (k := .int ot) (o := .lst (((ln t).set at_ (ln t)[ot]).map .str)) rfl rfl (set_ls (by rw [List.length_set]; exact hot) _)).trans rfl)
      · have := W_set (ln t) at_ (ln t)[ot]
        have := W_set ((ln t).set at_ (ln t)[ot]) ot (ln t)[at_]
        omega
    · rw [ws_if, wp_isB, wp_bin, wp_rd]
      refine ⟨_, rfl, ?_⟩
      rw [wp_k]
      refine ⟨_, eq_int _ _, _, rfl, ?_⟩
      split
      · rw [ws_drop]
        refine wp_mut ⟨_, rfl⟩ ?_
        rw [wp_consA, wp_rd]
        refine ⟨_, rfl, ?_⟩
        rw [wp_consA]
        refine wp_ixN ?_ ⟨_, rfl⟩
        rw [wp_rd]
        refine ⟨_, rfl, _, rfl, _, ix_ls eo, ?_⟩
        rw [wp_nilA]
        refine ⟨_, rfl, ((ln t).take at_ ++ [(ln t)[ot]] ++ (ln t).drop at_).map .str, .non, ?_, o4, (ln t).take at_ ++ [(ln t)[ot]] ++ (ln t).drop at_, _, ho4, ?_, rfl⟩
        · unfold insertF
          simp only [SV.d]
          rw [if_pos ⟨by omega, by omega, by rw [szl, List.length_map]; omega⟩]
          simp [List.map_take, List.map_drop]
        · rw [W_ins]; omega
      · refine ws_cut (fun ds => ds = [some (.own o4), some (.val (.str t)), some (.own (.lst ((ln t).map .str))), some (.val (.int kd)), some (.val (.int at_)), some (.val (.int spot)), some (.val (.str sg)), some (.val (.int ot)), some (.own (.lst ((wl (ln t)[at_]).map .str))), none, none]) ?_ ?_
        · rw [ws_set, wp_strM]
          refine wp_ixN ?_ ⟨_, rfl⟩
          rw [wp_rd]
          refine ⟨_, rfl, _, rfl, _, ix_ls ea, _, rfl, ?_⟩
          rw [wp_k]
          exact ⟨_, split_o sp_ne (by omega), rfl⟩
        rintro ds rfl
        have wlen := wl_len (ln t)[at_]
        have wpos := wl_pos (ln t)[at_]
        refine ws_cut (fun ds => ∃ (o' : OO) (pl fr : Nat), HS o' ∧ pl < (wl (ln t)[at_]).length ∧ fr < (wl (ln t)[at_]).length ∧ ds = [some (.own o'), some (.val (.str t)), some (.own (.lst ((ln t).map .str))), some (.val (.int kd)), some (.val (.int at_)), some (.val (.int spot)), some (.val (.str sg)), some (.val (.int ot)), some (.own (.lst ((wl (ln t)[at_]).map .str))), some (.val (.int pl)), some (.val (.int fr))]) ?_ ?_
        · rw [ws_par, wp_consS]
          refine wp_drawN A ⟨_, rfl⟩ ?_
          rw [wp_un, wp_pk]
          refine ⟨_, rfl, _, len_lst _, o4, (wl (ln t)[at_]).length, rfl, ho4, by simp, by omega, by omega, fun d o5 hd ho5 => ?_⟩
          rw [wp_consS]
          refine wp_drawN A ⟨_, rfl⟩ ?_
          rw [wp_un, wp_pk]
          refine ⟨_, rfl, _, len_lst _, o5, (wl (ln t)[at_]).length, rfl, ho5, by simp, by omega, by omega, fun e o6 he ho6 => ?_⟩
          rw [wp_ret]
          exact ⟨_, _, rfl, o6, d, e, ho6, hd, he, rfl⟩
        rintro ds ⟨o5, pl, fr, ho5, hpl, hfr, rfl⟩
        have ef : (wl (ln t)[at_])[fr]? = some (wl (ln t)[at_])[fr] := List.getElem?_eq_getElem hfr
        have lf := wl_short (t := (ln t)[at_]) (l := (wl (ln t)[at_])[fr]) (List.getElem_mem hfr)
        have hWw := W_wl (ln t)[at_]
        refine ws_cut (fun ds => ∃ (o' : OO) (w : Str), HS o' ∧ w.length ≤ (ln t)[at_].length + 9 ∧ ds = [some (.own o'), some (.val (.str t)), some (.own (.lst ((ln t).map .str))), some (.val (.int kd)), some (.val (.int at_)), some (.val (.int spot)), some (.val (.str sg)), some (.val (.int ot)), some (.own (.lst (((wl (ln t)[at_]).set pl w).map .str))), some (.val (.int pl)), some (.val (.int fr))]) ?_ ?_
        · rw [ws_asg, wp_fz]
          refine wp_any A (ShS ((ln t)[at_].length + 9)) ⟨_, rfl⟩ ?_
          rw [wp_fz, wp_lstM, wp_consA]
          refine wp_ixN ?_ ⟨_, rfl⟩
          rw [wp_rd]
          refine ⟨_, rfl, _, rfl, _, ix_ls ef, ?_⟩
          simp only [wp_consA, wp_k, wp_nilA]
          refine ⟨by rw [szl]; simp, o5, 6, rfl, ho5, rfl, by omega, by omega, pick ?_, fun x o' hx ho' => ?_⟩
          · intro x hx
            simp only [List.mem_cons, List.not_mem_nil, or_false] at hx
            rcases hx with rfl | rfl | rfl | rfl | rfl | rfl
            · exact ⟨_, rfl, by omega⟩
            all_goals exact ⟨_, rfl, Nat.le_trans (show _ ≤ 9 by decide +kernel) (by omega)⟩
          · obtain ⟨w, rfl, hw⟩ := hx
            refine ⟨_, tgS_gen (k := .int pl) (o := .lst ((wl (ln t)[at_]).map .str)) rfl rfl (set_ls hpl _), o', w, ho', hw, rfl⟩
        rintro ds ⟨o6, w, ho6, hw, rfl⟩
        have w1 := W_set (wl (ln t)[at_]) pl w
        have w2 := W_join len_sp ((wl (ln t)[at_]).set pl w)
        rw [ws_asg, wp_strM, wp_k]
        refine ⟨_, rfl, ?_⟩
        rw [wp_pk]
        refine ⟨_, rfl, _, join_w len_sp (by omega), _, tgS_gen (k := .int at_) (o := .lst ((ln t).map .str)) rfl rfl (set_ls hat _), o6, (ln t).set at_ (Txt.join (Str.ofString " ") ((wl (ln t)[at_]).set pl w)), _, ho6, ?_, rfl⟩
        have w3 := W_set (ln t) at_ (Txt.join (Str.ofString " ") ((wl (ln t)[at_]).set pl w))
        omega
  rintro ds ⟨o7, ls, x, ho7, hls, rfl⟩
  rw [ws_ret, wp_vl, wp_strM, wp_k]
  refine ⟨_, rfl, ?_⟩
  rw [wp_pk]
  refine ⟨_, rfl, _, join_w len_nl (by omega), _, o7, ho7, ?_, rfl, rfl⟩
  have := W_join len_nl ls
  omega
end P96
/-! P96u: k96, plain: turnings and their texts. -/
namespace P96
open PySem DL K96
structure TuOk (ps : List Str) (tu : Ar) : Prop where
  nd : (tu.map (·.1)).Nodup
  nm : ∀ p ∈ tu, NameS p.1
  a : ∀ p ∈ tu, p.2.1 ∈ ps
  b : ∀ p ∈ tu, p.2.2 ∈ ps
  l8 : tu.length ≤ 8
def tuL (p : Str × Str × Str) : Str := p.1 ++ Str.ofString " " ++ p.2.1 ++ Str.ofString " " ++ p.2.2
def tuT (tu : Ar) : Str := Txt.join (Str.ofString "\n") ((sAr tu).map tuL)
theorem tuL_le {ps : List Str} {tu : Ar} (hp : PlOk ps) (ht : TuOk ps tu) {p : Str × Str × Str} (h : p ∈ tu) : (tuL p).length ≤ 26 := by
  have n1 := (ht.nm _ h).2.1
  have n2 := (hp.nm _ (ht.a _ h)).2.1
  have n3 := (hp.nm _ (ht.b _ h)).2.1
  have l2 := len_sp
  unfold tuL
  simp only [len_app]
  omega
theorem put_ar {tu : Ar} {p : Str × Str × Str} (h : p.1 ∉ tu.map (·.1)) : putD (arK tu) (.inr p.1) (.tup [.str p.2.1, .str p.2.2]) = arK (tu ++ [p]) := by
  rw [put_new]
  · simp [arK]
  · intro kv hkv e
    obtain ⟨q, hq, rfl⟩ := List.mem_map.mp hkv
    simp only [Sum.inr.injEq] at e
    exact h (List.mem_map.mpr ⟨q, hq, e⟩)
theorem wp_anyS (A : CA) {i : Nat} {marg : M D} {Q : SV → DS → Prop} {ds : DS} {ps : List Str} (hp : PlOk ps) (h0 : ∃ s, ds[i]? = some (some s)) (h : wp marg (fun a ds1 => a = dL ps ∧ ∃ o, ds1[i]? = some (some (.own o)) ∧ HS o ∧ ∀ z o', z ∈ ps → HS o' → Q (.val (.str z)) (ds1.set i (some (.own o')))) ds) :
    wp (callM 2 (m__law_any A) (gBy i (gEv marg gNilA))) Q ds := by
  refine wp_any A (fun x => ∃ z ∈ ps, x = .str z) h0 (wp_mono h fun a ds1 ⟨ea, o, e0, ho, q⟩ => ?_)
  subst ea
  have := hp.l1
  have := hp.l16
  refine ⟨o, ps.length, e0, ho, by rw [len_lst, List.length_map], by omega, by omega, fun k hk => ?_, fun x o' ⟨z, hz, e⟩ ho' => by rw [e]; exact q z o' hz ho'⟩
  exact ⟨.str ps[k], ix_ls (List.getElem?_eq_getElem hk), _, List.getElem_mem hk, rfl⟩
theorem turning_ok (A : CA) {o : OO} {ps : List Str} (ho : HS o) (hp : PlOk ps) :
    ∃ s outs, m__law_turning A [.own o, .val (dL ps)] = some (.ok s, outs) ∧ ∃ (tu : Ar) (o' : OO), HS o' ∧ TuOk ps tu ∧ s = .val (.tup [dA tu, .str (tuT tu)]) ∧ outs = [some (.own o'), some (.val (dL ps))] := by
  refine mir_of rfl ?_
  unfold bb__law_turning
  refine ws_cut (fun ds => ds = [some (.own o), some (.val (dL ps)), some (.own (.dct [])), some (.own (.lst [])), none]) ?_ ?_
  · rw [ws_par, wp_consS, wp_ret, wp_consS, wp_lstM, wp_nilA]
    refine ⟨by rw [szl]; simp, ?_⟩
    rw [wp_ret]
    exact ⟨_, _, rfl, rfl⟩
  rintro ds rfl
  refine ws_cut (fun ds => ∃ (o' : OO) (tu : Ar) (x : Option SV), HS o' ∧ TuOk ps tu ∧ ds = [some (.own o'), some (.val (dL ps)), some (.own (.dct (arK tu))), some (.own (.lst [])), x]) ?_ ?_
  · rw [ws_forI, wp_itM, wp_fz]
    refine wp_hand ⟨_, rfl⟩ ?_
    rw [wp_fz]
    refine wp_drawN A ⟨_, rfl⟩ ?_
    rw [wp_k]
    refine ⟨o, 9, rfl, ho, rfl, by omega, by omega, fun d o2 hd ho2 => ?_⟩
    obtain ⟨s, outs, e, ns, o3, ho3, nd, hl, hn, rfl, rfl⟩ := names_ok A (m := d) ho2 (by omega)
    refine ⟨_, _, _, rfl, e, _, rfl, ?_⟩
    refine ws_for (fun r ds => ∃ (o' : OO) (tu : Ar) (rs : List Str) (x : Option SV), HS o' ∧ TuOk ps tu ∧ r = rs.map D.str ∧ (tu.map (·.1) ++ rs) = ns ∧ ds = [some (.own o'), some (.val (dL ps)), some (.own (.dct (arK tu))), some (.own (.lst [])), x]) ?_ ?_ _ _ ⟨o3, [], ns, none, ho3, ⟨by simp, by simp, by simp, by simp, by simp⟩, rfl, by simp, rfl⟩
    · rintro dd r ds ⟨o', tu, rs, x, ho', htu, hr, hns, rfl⟩
      cases rs with
      | nil => cases hr
      | cons z rs =>
        simp only [List.map_cons, List.cons.injEq] at hr
        obtain ⟨rfl, rfl⟩ := hr
        refine ⟨_, rfl, ?_⟩
        rw [ws_asg, wp_tupM, wp_consA, wp_fz]
        refine wp_anyS A hp ⟨_, rfl⟩ ?_
        rw [wp_rd]
        refine ⟨_, rfl, rfl, o', rfl, ho', fun za o4 hza ho4 => ?_⟩
        rw [wp_consA, wp_fz]
        refine wp_anyS A hp ⟨_, rfl⟩ ?_
        rw [wp_rd]
        refine ⟨_, rfl, rfl, o4, rfl, ho4, fun zb o5 hzb ho5 => ?_⟩
        have hz : z ∉ tu.map (·.1) := fun hm => by
          have n1 := nd
          rw [← hns] at n1
          exact (List.nodup_append.mp n1).2.2 z hm z (by simp) rfl
        have htl : tu.length < 8 := by
          have := congrArg List.length hns
          simp at this
          omega
        rw [wp_nilA]
        refine ⟨by rw [szl]; simp, [some (.own o5), some (.val (dL ps)), some (.own (.dct (arK (tu ++ [(z, za, zb)])))), some (.own (.lst [])), some (.val (.str z))], ?_, o5, tu ++ [(z, za, zb)], rs, _, ho5, ⟨?_, ?_, ?_, ?_, by simp; omega⟩, rfl, by simp [← hns], rfl⟩
        · have hsz : (arK tu).length < sizeLine := by rw [szl]; simp [arK]; omega
          have hput := put_ar (p := (z, za, zb)) hz
          refine (tgS_gen (k := .str z) (o := .dct (arK tu)) (o' := .dct (arK (tu ++ [(z, za, zb)]))) rfl rfl ?_).trans rfl
          simp only [setF, keyD, Option.bind_some, hsz, if_true]
          rw [← hput]
          rfl
        · rw [List.map_append, List.map_singleton]
          exact List.nodup_append.mpr ⟨htu.nd, by simp, fun x hx y hy e => hz (by have e2 : x = z := e.trans (List.mem_singleton.mp hy); rw [← e2]; exact hx)⟩
        · intro p hp
          rcases List.mem_append.mp hp with h | h
          · exact htu.nm p h
          · rw [List.mem_singleton.mp h]; exact hn z (by rw [← hns]; simp)
        · intro p hp
          rcases List.mem_append.mp hp with h | h
          · exact htu.a p h
          · rw [List.mem_singleton.mp h]; exact hza
        · intro p hp
          rcases List.mem_append.mp hp with h | h
          · exact htu.b p h
          · rw [List.mem_singleton.mp h]; exact hzb
    · rintro ds ⟨o', tu, rs, x, ho', htu, hr, hns, rfl⟩
      exact ⟨o', tu, x, ho', htu, rfl⟩
  rintro ds ⟨o1, tu, x, ho1, htu, rfl⟩
  have hsp := sAr_perm tu
  refine ws_cut (fun ds => ∃ x, ds = [some (.own o1), some (.val (dL ps)), some (.own (.dct (arK tu))), some (.own (.lst (((sAr tu).map tuL).map .str))), x] ∨ ds = [some (.own o1), some (.val (dL ps)), some (.val (dA tu)), some (.own (.lst (((sAr tu).map tuL).map .str))), x]) ?_ ?_
  · rw [ws_forI, wp_itM, wp_fz, wp_un, wp_pk]
    refine ⟨_, rfl, _, sort_dA (by have := htu.l8; omega), _, rfl, ?_⟩
    refine ws_for (fun rr ds => ∃ (done rest : Ar) (x : Option SV), rr = rest.map (fun p => D.str p.1) ∧ done ++ rest = sAr tu ∧ ds = [some (.own o1), some (.val (dL ps)), some (.own (.dct (arK tu))), some (.own (.lst ((done.map tuL).map .str))), x]) ?_ ?_ _ _ ⟨[], sAr tu, x, rfl, rfl, rfl⟩
    · rintro d rr ds ⟨done, rest, x, hr, hall, rfl⟩
      cases rest with
      | nil => cases hr
      | cons p rest =>
        cases hr
        have hpa : p ∈ sAr tu := by rw [← hall]; simp
        have hpm : p ∈ tu := hsp.subset hpa
        refine ⟨_, rfl, ?_⟩
        rw [ws_drop]
        refine wp_mut ⟨_, rfl⟩ ?_
        have n1 := (htu.nm _ hpm).2.1
        have n2 := (hp.nm _ (htu.a _ hpm)).2.1
        have n3 := (hp.nm _ (htu.b _ hpm)).2.1
        have l2 := len_sp
        rw [wp_consA, wp_fz, wp_bin, wp_fz, wp_bin, wp_fz, wp_bin, wp_fz, wp_bin, wp_rd]
        refine ⟨_, rfl, ?_⟩
        rw [wp_k]
        refine ⟨_, add_str _ _ (by omega), ?_⟩
        rw [wp_bin]
        refine wp_ixN ?_ ⟨_, rfl⟩
        rw [wp_rd]
        refine ⟨_, rfl, _, rfl, _, ix_ar htu.nd hpm, ?_⟩
        rw [wp_k]
        refine ⟨_, rfl, _, add_str _ _ (by simp only [len_app]; omega), ?_⟩
        rw [wp_k]
        refine ⟨_, add_str _ _ (by simp only [len_app]; omega), ?_⟩
        rw [wp_bin]
        refine wp_ixN ?_ ⟨_, rfl⟩
        rw [wp_rd]
        refine ⟨_, rfl, _, rfl, _, ix_ar htu.nd hpm, ?_⟩
        rw [wp_k]
        refine ⟨_, rfl, _, add_str _ _ (by simp only [len_app]; omega), ?_⟩
        rw [wp_nilA]
        refine ⟨_, rfl, (((done ++ [p]).map tuL).map .str), .non, ?_, done ++ [p], rest, _, rfl, by rw [List.append_assoc]; exact hall, rfl⟩
        have h1 := congrArg List.length hall
        have h2 := hsp.length_eq
        have h3 := htu.l8
        unfold appendF
        simp only
        rw [if_pos]
        · simp only [List.map_append, List.map_cons, List.map_nil]
          rfl
        · rw [szl, List.length_map, List.length_map]
          simp at h1
          omega
    · rintro ds ⟨done, rest, x, hr, hall, rfl⟩
      have hr2 : rest = [] := by
        cases rest with
        | nil => rfl
        | cons p rest => cases hr
      subst hr2
      rw [List.append_nil] at hall
      subst hall
      exact ⟨x, .inl rfl⟩
  have hj : joinO (Str.ofString "\n") (.lst (((sAr tu).map tuL).map .str)) = some (.str (tuT tu)) := by
    refine join_o ?_
    have h1 := sum_le (ys := (sAr tu).map tuL) (n := 26) (by
      intro y hy
      obtain ⟨p, hpa, rfl⟩ := List.mem_map.mp hy
      exact tuL_le hp htu (hsp.subset hpa))
    have h2 := hsp.length_eq
    have h3 := htu.l8
    rw [len_nl]
    rw [List.length_map] at *
    omega
  rintro ds ⟨x, rfl | rfl⟩
  all_goals
    rw [ws_ret, wp_vl, wp_tupM, wp_consA, wp_rd]
    refine ⟨_, rfl, ?_⟩
    rw [wp_consA, wp_strM, wp_k]
    refine ⟨_, rfl, ?_⟩
    rw [wp_pk]
    refine ⟨_, rfl, _, hj, ?_⟩
    rw [wp_nilA]
    exact ⟨by rw [szl]; simp, tu, o1, ho1, htu, rfl, rfl⟩
theorem fmt_str {y : Str} (h : y.length ≤ 16777216) : fmtD (.str y) = some y := by
  unfold fmtD
  simp only
  rw [if_pos (by rw [szl]; exact h)]
theorem wp_fmt {m : M D} {Q : D → DS → Prop} {ds : DS} (h : wp m (fun d ds1 => ∃ y, fmtD d = some y ∧ Q (.str y) ds1) ds) : wp (fmtM m) Q ds := by
  unfold fmtM
  rw [wp_bnd]
  refine wp_mono h fun d ds1 ⟨y, e, q⟩ => ?_
  rw [e]
  simpa using q
theorem wp_fj0 {acc : Str} {Q : D → DS → Prop} {ds : DS} (q : Q (.str acc) ds) : wp (fjGo [] acc) Q ds := by
  unfold fjGo
  simpa using q
theorem wp_fj {m : M D} {r : List (M D)} {acc : Str} {Q : D → DS → Prop} {ds : DS} (h : wp m (fun d ds1 => ∃ y, d = .str y ∧ acc.length + y.length ≤ 16777216 ∧ wp (fjGo r (acc ++ y)) Q ds1) ds) : wp (fjGo (m :: r) acc) Q ds := by
  unfold fjGo
  rw [wp_bnd]
  refine wp_mono h fun d ds1 ⟨y, e, hl, q⟩ => ?_
  subst e
  simp only
  rw [if_pos (by rw [szl, len_app]; exact hl)]
  exact q
theorem tutext_ok (A : CA) {ps : List Str} {tu : Ar} (hp : PlOk ps) (htu : TuOk ps tu) :
    ∃ s outs, m_turning_text A [.val (dA tu)] = some (.ok s, outs) ∧ s = .val (.str (tuT tu)) ∧ outs = [some (.val (dA tu))] := by
  have hsp := sAr_perm tu
  refine mir_of rfl ?_
  unfold bb_turning_text
  rw [ws_ret, wp_vl, wp_strM, wp_k]
  refine ⟨_, rfl, ?_⟩
  rw [wp_fz]
  have hj : joinO (Str.ofString "\n") (.lst (((sAr tu).map tuL).map .str)) = some (.str (tuT tu)) := by
    refine join_o ?_
    have h1 := sum_le (ys := (sAr tu).map tuL) (n := 26) (by
      intro y hy
      obtain ⟨p, hpa, rfl⟩ := List.mem_map.mp hy
      exact tuL_le hp htu (hsp.subset hpa))
    have h2 := hsp.length_eq
    have h3 := htu.l8
    rw [len_nl]
    rw [List.length_map] at *
    omega
  refine wp_lc (fun ds0 r acc ds => ∃ (done rest : Ar) (x : Option SV), r = rest.map (fun p => D.str p.1) ∧ done ++ rest = sAr tu ∧ acc = (done.map tuL).map .str ∧ ds0 = [some (.val (dA tu)), none] ∧ ds = [some (.val (dA tu)), x]) ?_ ?_ ?_
  · rw [wp_itM, wp_fz, wp_un, wp_fz, wp_un, wp_pk]
    refine ⟨_, rfl, .own (.lst ((tu.map (·.1)).map .str)), ?_, ?_⟩
    · show listO (dA tu) = _
      unfold listO
      simp only [keys_ar]
    · have h64 : (tu.map (·.1)).length < 64 := by rw [List.length_map]; have := htu.l8; omega
      refine ⟨_, sort_o h64, _, rfl, [], sAr tu, none, ?_, rfl, rfl, rfl, rfl⟩
      rw [← sAr_keys, List.map_map]
      rfl
  · rintro ds0 d r acc ds ⟨done, rest, x, hr, hall, rfl, rfl, rfl⟩
    cases rest with
    | nil => cases hr
    | cons p rest =>
      cases hr
      have hpa : p ∈ sAr tu := by rw [← hall]; simp
      have hpm : p ∈ tu := hsp.subset hpa
      have n1 := (htu.nm _ hpm).2.1
      have n2 := (hp.nm _ (htu.a _ hpm)).2.1
      have n3 := (hp.nm _ (htu.b _ hpm)).2.1
      have l2 := len_sp
      have l0 : Str.empty.length = 0 := rfl
      refine ⟨_, rfl, ?_⟩
      refine wp_fj (wp_fmt ?_)
      rw [wp_rd]
      refine ⟨_, rfl, _, fmt_str (by omega), _, rfl, by omega, ?_⟩
      refine wp_fj ?_
      rw [wp_k]
      refine ⟨_, rfl, by simp only [len_app]; omega, ?_⟩
      refine wp_fj (wp_fmt ?_)
      rw [wp_bin]
      refine wp_ixN ?_ ⟨_, rfl⟩
      rw [wp_rd]
      refine ⟨_, rfl, _, rfl, _, ix_ar htu.nd hpm, ?_⟩
      rw [wp_k]
      refine ⟨.str p.2.1, rfl, _, fmt_str (by omega), _, rfl, by simp only [len_app]; omega, ?_⟩
      refine wp_fj ?_
      rw [wp_k]
      refine ⟨_, rfl, by simp only [len_app]; omega, ?_⟩
      refine wp_fj (wp_fmt ?_)
      rw [wp_bin]
      refine wp_ixN ?_ ⟨_, rfl⟩
      rw [wp_rd]
      refine ⟨_, rfl, _, rfl, _, ix_ar htu.nd hpm, ?_⟩
      rw [wp_k]
      refine ⟨.str p.2.2, rfl, _, fmt_str (by omega), _, rfl, by simp only [len_app]; omega, ?_⟩
      refine wp_fj0 ?_
      have h1 := congrArg List.length hall
      have h2 := hsp.length_eq
      have h3 := htu.l8
      refine ⟨?_, done ++ [p], rest, _, rfl, by rw [List.append_assoc]; exact hall, ?_, rfl, rfl⟩
      · rw [szl, List.length_map, List.length_map]
        simp at h1
        omega
      · have e : Str.empty ++ p.1 ++ Str.ofString " " ++ p.2.1 ++ Str.ofString " " ++ p.2.2 = tuL p := by
          apply tl_inj
          unfold tuL
          simp only [tl_app]
          rfl
        rw [e]
        simp
  · rintro ds0 acc ds ⟨done, rest, x, hr, hall, rfl, rfl, rfl⟩
    have hr2 : rest = [] := by
      cases rest with
      | nil => rfl
      | cons p rest => cases hr
    subst hr2
    rw [List.append_nil] at hall
    subst hall
    exact ⟨_, hj, rfl, rfl⟩
end P96
/-! P96v: k96, plain: the hand made; odd things; the widest arrows. -/
namespace P96
open PySem DL K96
def abI (d : D) : D := match d with
  | .int i => .int (if i < 0 then -i else i)
  | d => d
theorem hand_ok (A : CA) {ns : List Int} (hn : ns.length ≤ 63) : ∃ s outs, m__law_hand A [.val (.lst (ns.map .int))] = some (.ok s, outs) ∧ ∃ o, HS o ∧ s = .own o ∧ outs = [some (.val (.lst (ns.map .int)))] := by
  have hcut : cutD (ns.map D.int) none (some 63) = ns.map D.int := by
    unfold cutD
    have q1 : HT.sIx (ns.map D.int).length 0 none = 0 := rfl
    have q2 : HT.sIx (ns.map D.int).length (ns.map D.int).length (some 63) = ns.length := by
      have := HT.sIx_nat (ns.map D.int).length (ns.map D.int).length 63
      rw [List.length_map] at this ⊢
      have e : ((63 : Nat) : Int) = 63 := rfl
      rw [e] at this
      rw [this]; omega
    rw [q1, q2, List.drop_zero, Nat.sub_zero]
    exact List.take_of_length_le (by rw [List.length_map]; omega)
  refine mir_of rfl ?_
  unfold bb__law_hand
  rw [ws_ret, wp_lstM, wp_consA, wp_fz]
  refine wp_lcf abI ?_
  rw [wp_itM, wp_fz]
  refine wp_slN ⟨_, rfl⟩ ?_
  simp only [wp_someP, wp_k, wp_ret]
  refine ⟨_, rfl, _, rfl, .own (.lst (ns.map .int)), ?_, _, rfl, ?_, by simp, fun x hx => ?_, ?_⟩
  · show some (SV.own (OO.lst (cutD (ns.map D.int) none (some 63)))) = _
    rw [hcut]
  · rw [List.length_map]; omega
  · obtain ⟨i, hi, rfl⟩ := List.mem_map.mp hx
    rw [wp_un, wp_un, wp_pk]
    exact ⟨_, rfl, _, rfl, _, rfl, rfl, rfl⟩
  · rw [wp_consA, wp_k, wp_consA, wp_k, wp_consA, wp_fz, wp_bin, wp_k, wp_bin, wp_k, wp_un, wp_fz]
    refine wp_slN ⟨_, rfl⟩ ?_
    simp only [wp_someP, wp_k, wp_ret]
    refine ⟨_, rfl, _, rfl, .own (.lst (ns.map .int)), ?_, .int ns.length, ?_, .int (3 * ns.length), ?_, .val (.int (211 + 3 * ns.length)), rfl, ?_⟩
    · show some (SV.own (OO.lst (cutD (ns.map D.int) none (some 63)))) = _
      rw [hcut]
    · show lenO (.lst (ns.map D.int)) = _
      rw [len_lst, List.length_map]
    · exact mul_l _ _ ⟨by decide, by decide⟩
    · rw [wp_consA, wp_k, wp_nilA]
      refine ⟨by rw [szl]; simp, _, ?_, rfl, rfl⟩
      refine ⟨ns.map (fun i => if i < 0 then -i else i), 0, 0, 211 + 3 * ns.length, 0, ?_, by omega, ?_⟩
      · intro x hx
        obtain ⟨i, _, rfl⟩ := List.mem_map.mp hx
        split <;> omega
      · unfold hnd
        rw [List.map_map, List.map_map]
        rfl
theorem odd_ok (A : CA) {d : D} (h : isiO [d, .ty "str"] = some (.bl false)) : m_read_arrows A [.val d] = some (.exc A.NoText [(Str.ofString "line", .int 0)], [some (.val d)]) := by
  have : ∃ r outs, m_read_arrows A [.val d] = some (r, outs) ∧ r = .exc A.NoText [(Str.ofString "line", .int 0)] ∧ outs = [some (.val d)] := by
    refine mirx_of rfl ?_
    unfold bb_read_arrows
    refine wx_cut (fun _ => False) ?_ (fun _ h => h.elim)
    refine wx_if ?_
    rw [wp_ngM, wp_isB, wp_apM, wp_consA, wp_rd]
    refine ⟨_, rfl, ?_⟩
    rw [wp_consA, wp_k, wp_nilA]
    refine ⟨_, h, _, rfl, ?_⟩
    rw [if_pos (by rfl)]
    refine wx_raise ?_
    rw [wp_consA, wp_k, wp_nilA]
    exact ⟨_, rfl, rfl, rfl⟩
  obtain ⟨r, o, e, rfl, rfl⟩ := this
  exact e
theorem ln_one {t : Str} (h : 10 ∉ tl t) : ln t = [t] := by
  have := ln_join (ls := [t]) (by simp) (by simpa using h)
  exact this
theorem pars_empty : pars (Str.ofString "") = .inl 1 := by
  unfold pars
  have e : tl (Str.ofString "") = [] := by decide +kernel
  rw [ln_one (by rw [e]; simp)]
  simp only
  rw [if_neg (by decide +kernel)]
theorem pars_arrows : pars (Str.ofString "arrows") = .inl 2 := by
  unfold pars
  rw [ln_one (no_in w_ars (by decide))]
  simp only
  rw [if_pos trivial]
def wAr : Ar := ((List.range 24).map fun k => (Str.ofString "n" ++ sing (97 + k), Str.ofString "b", Str.ofString "a"))
def wPs : List Str := [Str.ofString "a", Str.ofString "b"]
theorem wPl : PlOk wPs := ⟨by decide +kernel, fun z hz => (isNm_iff z).mp (List.all_eq_true.mp (show wPs.all isNm = true by decide +kernel) z hz), by decide, by decide⟩
theorem wInc : incr wPs = true := by decide +kernel
theorem wArk : ArOk wPs wAr := by
  have h : wAr.all (fun p => isNm p.1 && decide (p.2.1 ∈ wPs) && decide (p.2.2 ∈ wPs) && decide (p.2.1 ≠ p.2.2)) = true := by decide +kernel
  have h2 := fun p hp => List.all_eq_true.mp h p hp
  simp only [Bool.and_eq_true, decide_eq_true_eq] at h2
  exact ⟨by decide +kernel, fun p hp => (isNm_iff _).mp (h2 p hp).1.1.1, fun p hp => (h2 p hp).1.1.2, fun p hp => (h2 p hp).1.2, fun p hp => (h2 p hp).2, by decide⟩
theorem wRise : Rise wAr := by unfold Rise; decide +kernel
theorem wPars : pars (txt wPs wAr ++ Str.ofString "\narrow z a b") = .inl 27 := by decide +kernel
end P96
/-! P96w: k96, plain: the law. -/
namespace P96
open PySem DL K96
theorem sortS_idem (ps : List Str) : sortS (sortS ps) = sortS ps := (sortS_uniq (List.Perm.refl _) (sortS_pw ps)).symm
theorem sortS_perm_eq {ps qs : List Str} (h : qs.Perm ps) : sortS qs = sortS ps := sortS_uniq ((sortS_perm qs).trans h) (sortS_pw qs)
theorem arF_sorted {ps : List Str} {ar : Ar} (ha : ArOk ps ar) : arF (sortS ps) (sAr ar) = arF ps ar := by
  unfold arF
  rw [sortS_idem, sAr_rise (sAr_rises ha.nd)]
theorem perm_map {ys : List D} {ps : List Str} (h : ys.Perm (ps.map .str)) : ∃ qs : List Str, ys = qs.map .str ∧ qs.Perm ps := by
  have hf : ∀ y ∈ ys, ∃ z, y = D.str z := fun y hy => by
    obtain ⟨z, _, e⟩ := List.mem_map.mp (h.subset hy)
    exact ⟨z, e.symm⟩
  have : ∀ l : List D, (∀ y ∈ l, ∃ z, y = D.str z) → ∃ qs : List Str, l = qs.map .str := fun l => by
    induction l with
    | nil => exact fun _ => ⟨[], rfl⟩
    | cons a r ih =>
      intro h
      obtain ⟨z, rfl⟩ := h a (by simp)
      obtain ⟨qs, rfl⟩ := ih fun y hy => h y (by simp [hy])
      exact ⟨z :: qs, rfl⟩
  obtain ⟨qs, rfl⟩ := this ys hf
  refine ⟨qs, rfl, ?_⟩
  have := h.map (fun d : D => match d with | .str z => z | _ => Str.empty)
  simp only [List.map_map] at this
  have e : ∀ l : List Str, l.map ((fun d : D => match d with | .str z => z | _ => Str.empty) ∘ D.str) = l := fun l => by
    induction l with
    | nil => rfl
    | cons a r ih => rw [List.map_cons, ih]; rfl
  rw [e, e] at this
  exact this
theorem PlOk.perm {ps qs : List Str} (hp : PlOk ps) (h : qs.Perm ps) : PlOk qs := ⟨h.symm.nodup hp.nd, fun z hz => hp.nm z (h.subset hz), by rw [h.length_eq]; exact hp.l1, by rw [h.length_eq]; exact hp.l16⟩
theorem ArOk.perm {ps qs : List Str} {ar : Ar} (ha : ArOk ps ar) (h : qs.Perm ps) : ArOk qs ar := ⟨ha.nd, ha.nm, fun p hp => h.symm.subset (ha.a p hp), fun p hp => h.symm.subset (ha.b p hp), ha.ne, ha.l24⟩
theorem rd_told (A : CA) {ps : List Str} {ar : Ar} (hp : PlOk ps) (ha : ArOk ps ar) : m_read_arrows A [.val (.str (txt (sortS ps) (sAr ar)))] = some (.ok (.own (.obj A.Arrows (arF ps ar))), [some (.val (.str (txt (sortS ps) (sAr ar))))]) := by
  obtain ⟨rr, ro, er, rfl, rfl⟩ := rarrows_ok A (txt (sortS ps) (sAr ar)) (by have := txt_le (plOk_sort hp) (arOk_sort ha); omega)
  rw [pars_sorted hp ha] at er
  rw [er]
  unfold outR
  simp only
  rw [arF_sorted ha]
theorem bad_ne (n : Int) : neO (.tup [.str (Str.ofString "bad"), .int n]) (.tup [.str (Str.ofString "bad"), .int n]) = some (.bl false) := by
  have h1 : okE (.tup [.str (Str.ofString "bad"), .int n]) = true := by
    unfold okE
    have : flatD (.str (Str.ofString "bad")) = true := by
      refine name_ok ((isNm_iff _).mp ?_)
      decide +kernel
    simp [flatD, flatDs, depD, depDs] at this ⊢
    exact this
  have h2 : eqD (.tup [.str (Str.ofString "bad"), .int n]) (.tup [.str (Str.ofString "bad"), .int n]) = true := by
    simp [eqD, eqDs]
  unfold neO eqF
  simp only [h1, h2, Bool.and_self, if_true, Option.map_some]
  rfl
theorem bad_eq (n : Int) : eqO (.tup [.str (Str.ofString "bad"), .int n]) (.tup [.str (Str.ofString "bad"), .int n]) = some (.bl true) := by
  have h := bad_ne n
  unfold neO at h
  unfold eqO
  cases e : eqF (.tup [.str (Str.ofString "bad"), .int n]) (.tup [.str (Str.ofString "bad"), .int n]) with
  | none => rw [e] at h; cases h
  | some k =>
    rw [e] at h
    cases k with
    | true => rfl
    | false => cases h
def oddP (d : D) : Prop := isiO [d, .ty "str"] = some (.bl false)
theorem nebb (b : Bool) : neO (.bl b) (.bl b) = some (.bl false) := by simp [neO, eqF, okE, flatD, depD, eqD]
theorem main (A : CA) (ns : List Int) (hn : ns.length ≤ 63) : ∃ outs, m_law A [.val (.lst (ns.map .int))] = some (.ok (.val (.bl true)), outs) := by
  suffices h : ∃ s outs, m_law A [.val (.lst (ns.map .int))] = some (.ok s, outs) ∧ s = .val (.bl true) by
    obtain ⟨s, o, e, rfl⟩ := h
    exact ⟨o, e⟩
  have hx : ∀ m : Mir, m = m_law A → ∃ s outs, m [.val (.lst (ns.map .int))] = some (.ok s, outs) ∧ s = .val (.bl true) := by
    rintro m rfl
    refine mir_of (S := fun s _ => s = .val (.bl true)) rfl ?_
    unfold bb_law
    refine ws_cut (fun ds => ∃ o, HS o ∧ ds = [some (.val (.lst (ns.map .int))), some (.own o), none, none, none, none, none, none, none, none, none, none, none, none, none]) ?_ ?_
    · rw [ws_set]
      refine wp_call1 ?_
      rw [wp_rd]
      obtain ⟨s, outs, e, o, ho, rfl, rfl⟩ := hand_ok A hn
      exact ⟨_, rfl, _, _, e, o, ho, rfl⟩
    rintro ds ⟨o, ho, rfl⟩
    refine ws_cut (fun ds => ∃ (o : OO) (x2 x3 x4 x5 x6 x7 x8 x9 x10 x11 x12 : Option SV), HS o ∧ ds = [some (.val (.lst (ns.map .int))), some (.own o), x2, x3, x4, x5, x6, x7, x8, x9, x10, x11, x12, none, none]) ?_ ?_
    · rw [ws_forI, wp_apM, wp_consA, wp_k, wp_nilA]
      refine ⟨_, rfl, ?_⟩
      refine ws_for (fun r ds => ∃ (o : OO) (x2 x3 x4 x5 x6 x7 x8 x9 x10 x11 x12 : Option SV), HS o ∧ ds = [some (.val (.lst (ns.map .int))), some (.own o), x2, x3, x4, x5, x6, x7, x8, x9, x10, x11, x12, none, none]) ?_ (fun ds h => h) _ _ ⟨o, _, _, _, _, _, _, _, _, _, _, _, ho, rfl⟩
      rintro d r ds ⟨o, x2, x3, x4, x5, x6, x7, x8, x9, x10, x11, x12, ho, rfl⟩
      refine ⟨_, rfl, ?_⟩
      -- what is drawn
      refine ws_cut (fun ds => ∃ (o : OO) (ps : List Str) (ar : Ar), HS o ∧ PlOk ps ∧ ArOk ps ar ∧ ds = [some (.val (.lst (ns.map .int))), some (.own o), some (.val d), some (.val (dL ps)), some (.val (dA ar)), x5, x6, x7, x8, x9, x10, x11, x12, none, none]) ?_ ?_
      · obtain ⟨s, outs, e, ps, ar, o', ho', hp, ha, rfl, rfl⟩ := drawn_ok A ho
        rw [ws_asg, wp_fz]
        refine wp_hand0 rfl e ⟨_, rfl, o', ps, ar, ho', hp, ha, rfl⟩
      rintro ds ⟨o1, ps, ar, ho1, hp, ha, rfl⟩
      obtain ⟨t, ht⟩ : ∃ t, t = txt (sortS ps) (sAr ar) := ⟨_, rfl⟩
      have htl : t.length ≤ 4004 := by rw [ht]; exact txt_le (plOk_sort hp) (arOk_sort ha)
      -- made, and its text
      refine ws_cut (fun ds => ∃ o : OO, HS o ∧ ds = [some (.val (.lst (ns.map .int))), some (.own o), some (.val d), some (.val (dL ps)), some (.val (dA ar)), some (.own (.obj A.Arrows (arF ps ar))), some (.val (.str t)), x7, x8, x9, x10, x11, x12, none, none]) ?_ ?_
      · rw [ws_par, wp_consS]
        refine wp_new ?_
        rw [wp_gEv, wp_fz]
        refine wp_hand ⟨_, rfl⟩ ?_
        rw [wp_rd]
        have h16 := hp.l16
        obtain ⟨s, outs, e, ys, o2, hper, ho2, rfl, rfl⟩ := mixed_ok A (xs := ps.map .str) ho1 (by rw [List.length_map]; omega) (by rw [List.length_map, szl]; omega)
        obtain ⟨qs, rfl, hq⟩ := perm_map hper
        refine ⟨_, rfl, o1, _, o2, rfl, e, ?_⟩
        rw [wp_gEv, wp_rd]
        refine ⟨_, rfl, ?_⟩
        rw [wp_gNil]
        obtain ⟨r', o', e', rfl, rfl⟩ := made_ok A (s := .val (dA ar)) (hp.perm hq) (ha.perm hq) rfl
        refine ⟨[.val (dL qs), .val (dA ar)], rfl, by simp [refsG], rfl, _, _, e', ?_⟩
        have efq : arF qs ar = arF ps ar := by unfold arF; rw [sortS_perm_eq hq]
        rw [efq, wp_consS]
        refine wp_call2 ?_
        rw [wp_rd]
        refine ⟨_, rfl, ?_⟩
        rw [wp_rd]
        refine ⟨_, rfl, ?_⟩
        obtain ⟨s2, outs2, e2, rfl, rfl⟩ := ltext_ok A hp ha
        refine ⟨_, _, _, e2, ?_⟩
        rw [wp_ret, ← ht]
        exact ⟨_, _, rfl, o2, ho2, rfl⟩
      rintro ds ⟨o2, ho2, rfl⟩
      obtain ⟨sa, oa, ea, rfl, rfl⟩ := atext_ok A hp ha
      have er := rd_told A hp ha
      rw [← ht] at ea er
      obtain ⟨si, oi, ei, rfl, rfl⟩ := istold_ok A (t := t) (by omega)
      refine ws_cut (fun ds => ds = [some (.val (.lst (ns.map .int))), some (.own o2), some (.val d), some (.val (dL ps)), some (.val (dA ar)), some (.val (.obj A.Arrows (arF ps ar))), some (.val (.str t)), x7, x8, x9, x10, x11, x12, none, none]) ?_ ?_
      · rw [ws_if, wp_ifM, wp_ngM, wp_isB, wp_fz]
        refine wp_call2 ?_
        rw [wp_fz]
        refine wp_call1 ?_
        rw [wp_rd]
        refine ⟨_, rfl, _, _, ea, ?_⟩
        rw [wp_rd]
        obtain ⟨s3, o3, e3, rfl, rfl⟩ := same_str A 3 t t
        refine ⟨_, rfl, _, _, _, e3, _, rfl, ?_⟩
        rw [if_neg (by simp), wp_ifM, wp_isB, wp_bin, wp_fz]
        refine wp_call1 ?_
        rw [wp_rd]
        refine ⟨_, rfl, _, _, er, ?_⟩
        rw [wp_rd]
        refine ⟨_, rfl, _, own_ne A hp ha, _, rfl, ?_⟩
        rw [if_neg (by simp), wp_ngM, wp_isB, wp_fz]
        refine wp_call1 ?_
        rw [wp_rd]
        refine ⟨_, rfl, _, _, ei, _, rfl, ?_⟩
        rw [if_neg (by simp), ws_nx]
        rfl
      rintro ds rfl
      -- bent texts
      refine ws_cut (fun ds => ∃ (o : OO) (x7 x8 : Option SV), HS o ∧ ds = [some (.val (.lst (ns.map .int))), some (.own o), some (.val d), some (.val (dL ps)), some (.val (dA ar)), some (.val (.obj A.Arrows (arF ps ar))), some (.val (.str t)), x7, x8, x9, x10, x11, x12, none, none]) ?_ ?_
      · rw [ws_forI, wp_apM, wp_consA, wp_k, wp_nilA]
        refine ⟨_, rfl, ?_⟩
        refine ws_for (fun r ds => ∃ (o : OO) (x7 x8 : Option SV), HS o ∧ ds = [some (.val (.lst (ns.map .int))), some (.own o), some (.val d), some (.val (dL ps)), some (.val (dA ar)), some (.val (.obj A.Arrows (arF ps ar))), some (.val (.str t)), x7, x8, x9, x10, x11, x12, none, none]) ?_ (fun ds h => h) _ _ ⟨o2, _, _, ho2, rfl⟩
        rintro d7 r ds ⟨o3, x7, x8, ho3, rfl⟩
        refine ⟨_, rfl, ?_⟩
        obtain ⟨sb, ob, eb, z, o4, ho4, hz, rfl, rfl⟩ := bent_ok A (t := t) ho3 (by omega)
        refine ws_cut (fun ds => ds = [some (.val (.lst (ns.map .int))), some (.own o4), some (.val d), some (.val (dL ps)), some (.val (dA ar)), some (.val (.obj A.Arrows (arF ps ar))), some (.val (.str t)), some (.val d7), some (.val (.str z)), x9, x10, x11, x12, none, none]) ?_ ?_
        · rw [ws_set]
          refine wp_hand ⟨_, rfl⟩ ?_
          rw [wp_rd]
          exact ⟨_, rfl, o3, _, o4, rfl, eb, rfl⟩
        rintro ds rfl
        obtain ⟨s5, o5, e5, rfl, rfl⟩ := istold_ok A (t := z) (by omega)
        obtain ⟨s6, o6, e6, z2, o7, ho7, hz2, rfl, rfl⟩ := bent_ok A (t := z) ho4 (by omega)
        obtain ⟨s8, o8, e8, rfl, rfl⟩ := istold_ok A (t := z2) (by omega)
        rw [ws_if, wp_ifM, wp_ngM, wp_isB, wp_fz]
        refine wp_call1 ?_
        rw [wp_rd]
        refine ⟨_, rfl, _, _, e5, _, rfl, ?_⟩
        rw [if_neg (by simp), wp_ngM, wp_isB, wp_fz]
        refine wp_call1 ?_
        rw [wp_fz]
        refine wp_hand ⟨_, rfl⟩ ?_
        rw [wp_rd]
        refine ⟨_, rfl, o4, _, o7, rfl, e6, _, _, e8, _, rfl, ?_⟩
        rw [if_neg (by simp), ws_nx]
        exact ⟨o7, _, _, ho7, rfl⟩
      rintro ds ⟨o3, x7, x8, ho3, rfl⟩
      -- others
      refine ws_cut (fun ds => ∃ (o : OO) (qs : List Str) (br : Ar), HS o ∧ PlOk qs ∧ ArOk qs br ∧ ds = [some (.val (.lst (ns.map .int))), some (.own o), some (.val d), some (.val (dL ps)), some (.val (dA ar)), some (.val (.obj A.Arrows (arF ps ar))), some (.val (.str t)), x7, x8, some (.val (.tup [dL qs, dA br])), x10, x11, x12, none, none]) ?_ ?_
      · obtain ⟨s, outs, e, qs, br, o', ho', hq, hb, rfl, rfl⟩ := drawn_ok A ho3
        rw [ws_set]
        refine wp_hand0 rfl e ⟨o', qs, br, ho', hq, hb, rfl⟩
      rintro ds ⟨o4, qs, br, ho4, hq, hb, rfl⟩
      refine ws_cut (fun ds => ds = [some (.val (.lst (ns.map .int))), some (.own o4), some (.val d), some (.val (dL ps)), some (.val (dA ar)), some (.val (.obj A.Arrows (arF ps ar))), some (.val (.str t)), x7, x8, some (.val (.tup [dL qs, dA br])), x10, x11, x12, none, none]) ?_ ?_
      · rw [ws_if, wp_isB, wp_bin, wp_bin, wp_fz]
        refine wp_call1 ?_
        rw [wp_fz]
        refine wp_new ?_
        rw [wp_gEv, wp_ixNk]
        refine ⟨_, rfl, dL qs, rfl, ?_⟩
        rw [wp_gEv, wp_ixNk]
        refine ⟨_, rfl, dA br, rfl, ?_⟩
        rw [wp_gNil]
        obtain ⟨r', o', e', rfl, rfl⟩ := made_ok A (s := .val (dA br)) hq hb rfl
        obtain ⟨s5, o5, e5, rfl, rfl⟩ := atext_ok A hq hb
        refine ⟨[.val (dL qs), .val (dA br)], rfl, by simp [refsG], rfl, _, _, e', _, _, e5, ?_⟩
        rw [wp_pk]
        refine ⟨_, rfl, _, eq_strs _ _, ?_⟩
        rw [wp_bin, wp_fz]
        refine wp_call2 ?_
        rw [wp_ixNk]
        refine ⟨_, rfl, dL qs, rfl, ?_⟩
        rw [wp_ixNk]
        refine ⟨_, rfl, dA br, rfl, ?_⟩
        obtain ⟨s6, o6, e6, rfl, rfl⟩ := ltext_ok A hq hb
        refine ⟨_, _, _, e6, ?_⟩
        rw [wp_pk]
        refine ⟨_, rfl, _, eq_strs _ _, _, nebb _, _, rfl, ?_⟩
        rw [if_neg (by simp), ws_nx]
        rfl
      rintro ds rfl
      -- odd things
      refine ws_cut (fun ds => ∃ (o : OO) (od : D), HS o ∧ oddP od ∧ ds = [some (.val (.lst (ns.map .int))), some (.own o), some (.val d), some (.val (dL ps)), some (.val (dA ar)), some (.val (.obj A.Arrows (arF ps ar))), some (.val (.str t)), x7, x8, some (.val (.tup [dL qs, dA br])), some (.val od), x11, x12, none, none]) ?_ ?_
      · rw [ws_set]
        refine wp_any A oddP ⟨_, rfl⟩ ?_
        simp only [wp_fz, wp_lstM, wp_consA, wp_k, wp_nilA, wp_tupM, wp_ret, sv_own, oo_lst, oo_dct]
        refine ⟨by rw [szl]; simp, by rw [szl]; simp, by rw [szl]; simp, o4, 6, rfl, ho4, rfl, by omega, by omega, pick ?_, fun x o' hx ho' => ?_⟩
        · intro x hx
          simp only [List.mem_cons, List.not_mem_nil, or_false] at hx
          rcases hx with rfl | rfl | rfl | rfl | rfl | rfl <;> simp [oddP, isiO, tyN, subTy, okTys]
        · exact ⟨o', x, ho', hx, rfl⟩
      rintro ds ⟨o5, od, ho5, hod, rfl⟩
      obtain ⟨s1, u1, e1, rfl, rfl⟩ := said_bad A (d := od) (n := 0) (odd_ok A hod)
      have eemp : m__law_said A [.val (.str (Str.ofString ""))] = some (.ok (.val (.tup [.str (Str.ofString "bad"), .int 1])), [some (.val (.str (Str.ofString "")))]) := by
        obtain ⟨rr, ro, er, rfl, rfl⟩ := rarrows_ok A (Str.ofString "") (by decide +kernel)
        rw [pars_empty] at er
        obtain ⟨s, u, e, rfl, rfl⟩ := said_bad A (d := .str (Str.ofString "")) (n := 1) er
        exact e
      have earr : m__law_said A [.val (.str (Str.ofString "arrows"))] = some (.ok (.val (.tup [.str (Str.ofString "bad"), .int 2])), [some (.val (.str (Str.ofString "arrows")))]) := by
        obtain ⟨rr, ro, er, rfl, rfl⟩ := rarrows_ok A (Str.ofString "arrows") (by decide +kernel)
        rw [pars_arrows] at er
        obtain ⟨s, u, e, rfl, rfl⟩ := said_bad A (d := .str (Str.ofString "arrows")) (n := 2) er
        exact e
      refine ws_cut (fun ds => ds = [some (.val (.lst (ns.map .int))), some (.own o5), some (.val d), some (.val (dL ps)), some (.val (dA ar)), some (.val (.obj A.Arrows (arF ps ar))), some (.val (.str t)), x7, x8, some (.val (.tup [dL qs, dA br])), some (.val od), x11, x12, none, none]) ?_ ?_
      · rw [ws_if, wp_ifM, wp_isB, wp_bin, wp_fz]
        refine wp_call1 ?_
        rw [wp_rd]
        refine ⟨_, rfl, _, _, e1, ?_⟩
        simp only [wp_tupM, wp_consA, wp_k, wp_nilA]
        refine ⟨by rw [szl]; simp, _, bad_ne 0, _, rfl, ?_⟩
        rw [if_neg (by simp), wp_ifM, wp_isB, wp_bin, wp_fz]
        refine wp_call1 ?_
        rw [wp_k]
        refine ⟨_, _, eemp, ?_⟩
        simp only [wp_tupM, wp_consA, wp_k, wp_nilA]
        refine ⟨by rw [szl]; simp, _, bad_ne 1, _, rfl, ?_⟩
        rw [if_neg (by simp), wp_isB, wp_bin, wp_fz]
        refine wp_call1 ?_
        rw [wp_k]
        refine ⟨_, _, earr, ?_⟩
        simp only [wp_tupM, wp_consA, wp_k, wp_nilA]
        refine ⟨by rw [szl]; simp, _, bad_ne 2, _, rfl, ?_⟩
        rw [if_neg (by simp), ws_nx]
        rfl
      rintro ds rfl
      -- turnings
      refine ws_cut (fun ds => ∃ (o : OO) (tu : Ar), HS o ∧ TuOk ps tu ∧ ds = [some (.val (.lst (ns.map .int))), some (.own o), some (.val d), some (.val (dL ps)), some (.val (dA ar)), some (.val (.obj A.Arrows (arF ps ar))), some (.val (.str t)), x7, x8, some (.val (.tup [dL qs, dA br])), some (.val od), some (.val (dA tu)), some (.val (.str (tuT tu))), none, none]) ?_ ?_
      · obtain ⟨s, outs, e, tu, o', ho', htu, rfl, rfl⟩ := turning_ok A ho5 hp
        rw [ws_asg, wp_fz]
        refine wp_hand ⟨_, rfl⟩ ?_
        rw [wp_rd]
        refine ⟨_, rfl, o5, _, o', rfl, e, _, rfl, o', tu, ho', htu, rfl⟩
      rintro ds ⟨o6, tu, ho6, htu, rfl⟩
      obtain ⟨s2, u2, e2, rfl, rfl⟩ := tutext_ok A hp htu
      rw [ws_if, wp_ifM, wp_isB, wp_bin, wp_un, wp_pk]
      refine ⟨_, rfl, .int tu.length, by simp [lenO, arK], ?_⟩
      rw [wp_k]
      refine ⟨_, gt_int _ _, _, rfl, ?_⟩
      split
      · rw [wp_ngM, wp_isB, wp_fz]
        refine wp_call2 ?_
        rw [wp_fz]
        refine wp_call1 ?_
        rw [wp_rd]
        refine ⟨_, rfl, _, _, e2, ?_⟩
        rw [wp_rd]
        obtain ⟨s3, o3, e3, rfl, rfl⟩ := same_str A 3 (tuT tu) (tuT tu)
        refine ⟨_, rfl, _, _, _, e3, _, rfl, ?_⟩
        rw [if_neg (by simp), ws_nx]
        exact ⟨o6, _, _, _, _, _, _, _, _, _, _, _, ho6, rfl⟩
      · rw [wp_ret, if_neg (by simp), ws_nx]
        exact ⟨o6, _, _, _, _, _, _, _, _, _, _, _, ho6, rfl⟩
    rintro ds ⟨o, x2, x3, x4, x5, x6, x7, x8, x9, x10, x11, x12, ho, rfl⟩
    -- the widest
    have hw1 := sortS_incr wInc
    have hw2 := sAr_rise wRise
    refine ws_cut (fun ds => ds = [some (.val (.lst (ns.map .int))), some (.own o), x2, x3, x4, x5, x6, x7, x8, x9, x10, x11, x12, some (.own (.obj A.Arrows (arF wPs wAr))), none]) ?_ ?_
    · rw [ws_set]
      refine wp_new ?_
      rw [wp_gEv, wp_fz, wp_lstM]
      simp only [wp_consA, wp_k, wp_nilA]
      refine ⟨by rw [szl]; simp, ?_⟩
      rw [wp_gEv, wp_fz, wp_un, wp_fz]
      refine wp_lcf (fun d => match d with | .str y => .tup [.str (Str.ofString "n" ++ y), .tup [.str (Str.ofString "b"), .str (Str.ofString "a")]] | d => d) ?_
      rw [wp_itM, wp_k]
      refine ⟨_, seq_str _, by decide +kernel, by simp, fun x hx => ?_, ?_⟩
      · obtain ⟨c, hc, rfl⟩ := List.mem_map.mp hx
        rw [wp_tupM, wp_consA, wp_fz, wp_bin, wp_k, wp_pk]
        refine ⟨_, rfl, .val (.str (Str.ofString "n" ++ sing c)), cat_str _ _ (by
          have h1 : (Str.ofString "n").length = 1 := by decide +kernel
          have h2 : (sing c).length = 1 := rfl
          rw [h1]
          show 1 + (sing c).length ≤ _
          rw [h2]; omega), ?_⟩
        simp only [wp_consA, wp_tupM, wp_k, wp_nilA]
        exact ⟨by rw [szl]; simp, by rw [szl]; simp, rfl, rfl⟩
      · refine ⟨.own (.dct (arK wAr)), ?_, ?_⟩
        · have e : tl (Str.ofString "abcdefghijklmnopqrstuvwx") = (List.range 24).map (97 + ·) := by decide +kernel
          rw [e, List.map_map, sv_own, oo_lst, List.map_map]
          rfl
        rw [wp_gNil]
        obtain ⟨r', o', e', rfl, rfl⟩ := made_ok A (s := .val (dA wAr)) wPl wArk rfl
        exact ⟨[.val (dL wPs), .val (dA wAr)], rfl, by simp [refsG], rfl, _, _, e', rfl⟩
    rintro ds rfl
    obtain ⟨sa, oa, ea, rfl, rfl⟩ := atext_ok A wPl wArk
    have er := rd_told A wPl wArk
    rw [hw1, hw2] at ea er
    obtain ⟨t, ht⟩ : ∃ t, t = txt wPs wAr := ⟨_, rfl⟩
    have htl : t.length ≤ 4004 := by rw [ht]; exact txt_le wPl wArk
    have hpar := wPars
    rw [← ht] at ea er hpar
    have l3 : (Str.ofString "\narrow z a b").length = 12 := by decide +kernel
    have es : m__law_said A [.val (.str (t ++ Str.ofString "\narrow z a b"))] = some (.ok (.val (.tup [.str (Str.ofString "bad"), .int 27])), [some (.val (.str (t ++ Str.ofString "\narrow z a b")))]) := by
      obtain ⟨rr, ro, er, rfl, rfl⟩ := rarrows_ok A (t ++ Str.ofString "\narrow z a b") (by rw [len_app, l3]; omega)
      rw [hpar] at er
      obtain ⟨s, u, e, rfl, rfl⟩ := said_bad A (d := .str (t ++ Str.ofString "\narrow z a b")) (n := 27) er
      exact e
    refine ws_cut (fun ds => ds = [some (.val (.lst (ns.map .int))), some (.own o), x2, x3, x4, x5, some (.val (.str t)), x7, x8, x9, x10, x11, x12, some (.val (.obj A.Arrows (arF wPs wAr))), none]) ?_ ?_
    · rw [ws_set]
      refine wp_call1 ?_
      rw [wp_rd]
      exact ⟨_, rfl, _, _, ea, rfl⟩
    rintro ds rfl
    rw [ws_ret, wp_vl, wp_andV, wp_bin, wp_fz]
    refine wp_call1 ?_
    rw [wp_rd]
    refine ⟨_, rfl, _, _, er, ?_⟩
    rw [wp_rd]
    refine ⟨_, rfl, _, own_eq A wPl wArk, true, rfl, ?_⟩
    rw [if_pos rfl, wp_bin, wp_fz]
    refine wp_call1 ?_
    rw [wp_fz, wp_bin, wp_rd]
    refine ⟨_, rfl, ?_⟩
    rw [wp_k]
    refine ⟨_, cat_str t _ (by rw [l3]; omega), _, _, es, ?_⟩
    simp only [wp_tupM, wp_consA, wp_k, wp_nilA]
    exact ⟨by rw [szl]; simp, _, bad_eq 27, rfl⟩
  exact hx _ rfl
end P96
open PySem PySem.W PyProof.Rows in
set_option maxRecDepth 100000 in
set_option maxHeartbeats 0 in
theorem PySem.Challenge.cw_freerealm_k96_whole_arrow_texts_holds : PySem.Challenge.rw_freerealm_k96_whole_arrow_texts.Holds := by
  w_on; o_law; k_head; (case hw => w_witness2)
  k_fill
  refine _root_.DL.walk_law (l := PySem.Challenge.rw_freerealm_k96_whole_arrow_texts) (k := 8) rfl rfl ⟨rfl, by decide, by decide⟩ (fun w h Y => PySem.W.kIn_of Y) ?F
  case F =>
    intro w mg fa h KX G hmg
    refine' _root_.K96.all_mk _root_.P96.main KX G hmg ?g_Arrows ?g_NoText ?g_LotError ?a1 ?l1 ?c1 ?k1 ?a2 ?l2 ?c2 ?k2 ?a3 ?l3 ?c3 ?k3 ?a4 ?l4 ?c4 ?k4 ?i4 ?a5 ?l5 ?c5 ?k5 ?i5 ?a6 ?l6 ?c6 ?k6 ?i6 ?a7 ?l7 ?c7 ?k7 ?i7 ?a8 ?l8 ?c8 ?k8 ?i8 ?a9 ?l9 ?c9 ?k9 ?a10 ?l10 ?c10 ?k10 ?a11 ?l11 ?c11 ?k11 ?a12 ?l12 ?c12 ?k12 ?a13 ?l13 ?c13 ?k13 ?a14 ?l14 ?c14 ?k14 ?a15 ?l15 ?c15 ?k15 ?a16 ?l16 ?c16 ?k16 ?a17 ?l17 ?c17 ?k17 ?a18 ?l18 ?c18 ?k18 ?a19 ?l19 ?c19 ?k19 ?a20 ?l20 ?c20 ?k20 ?a21 ?l21 ?c21 ?k21 ?a22 ?l22 ?c22 ?k22 ?a23 ?l23 ?c23 ?k23 ?a24 ?l24 ?c24 ?k24 ?a25 ?l25 ?c25 ?k25 ?a26 ?l26 ?c26 ?k26 ?a27 ?l27 ?c27 ?k27 ?a28 ?l28 ?c28 ?k28 ?pg_Arrows ?hd_Arrows ?po_Arrows ?sa_Arrows ?mk_Arrows ?kc_Arrows ?na_Arrows_known ?na_Arrows_leading ?cn ?ct ?ca_Arrows ?cm_Arrows ?ne_Arrows ?sb_Arrows ?a29 ?l29 ?c29 ?k29 ?t29 ?xL_NoText ?sa_NoText ?eC_NoText ?tC_NoText ?kC_NoText ?ga_NoText ?gg_NoText ?hC_NoText ?ca_NoText ?cm_NoText ?xn_NoText_line ?eC_LotError ?tC_LotError ?hC_LotError ?xs_NoText_LotError ?kv_NoText ?c_LETTERS ?c_MOST_LETTERS ?c_MOST_THINGS ?c_MOST_PLACES ?c_ARROWS ?c_PLACES ?c_ARROW ?z_ValueError ?z_abs ?z_all ?z_any ?z_bool ?z_dict ?z_enumerate ?z_int ?z_isinstance ?z_len ?z_list ?z_range ?z_set ?z_sorted ?z_str ?z_tuple ?z_zip
    (case g_Arrows => k_is)
    (case g_NoText => k_is)
    (case g_LotError => k_is)
    (case a1 => k_is)
    (case l1 => k_is)
    (case c1 => k_is)
    (case k1 => k_is)
    (case a2 => k_is)
    (case l2 => k_is)
    (case c2 => k_is)
    (case k2 => k_is)
    (case a3 => k_is)
    (case l3 => k_is)
    (case c3 => k_is)
    (case k3 => k_is)
    (case a4 => k_is)
    (case l4 => k_is)
    (case c4 => k_is)
    (case k4 => k_is)
    (case i4 => k_is)
    (case a5 => k_is)
    (case l5 => k_is)
    (case c5 => k_is)
    (case k5 => k_is)
    (case i5 => k_is)
    (case a6 => k_is)
    (case l6 => k_is)
    (case c6 => k_is)
    (case k6 => k_is)
    (case i6 => k_is)
    (case a7 => k_is)
    (case l7 => k_is)
    (case c7 => k_is)
    (case k7 => k_is)
    (case i7 => k_is)
    (case a8 => k_is)
    (case l8 => k_is)
    (case c8 => k_is)
    (case k8 => k_is)
    (case i8 => k_is)
    (case a9 => k_is)
    (case l9 => k_is)
    (case c9 => k_is)
    (case k9 => k_is)
    (case a10 => k_is)
    (case l10 => k_is)
    (case c10 => k_is)
    (case k10 => k_is)
    (case a11 => k_is)
    (case l11 => k_is)
    (case c11 => k_is)
    (case k11 => k_is)
    (case a12 => k_is)
    (case l12 => k_is)
    (case c12 => k_is)
    (case k12 => k_is)
    (case a13 => k_is)
    (case l13 => k_is)
    (case c13 => k_is)
    (case k13 => k_is)
    (case a14 => k_is)
    (case l14 => k_is)
    (case c14 => k_is)
    (case k14 => k_is)
    (case a15 => k_is)
    (case l15 => k_is)
    (case c15 => k_is)
    (case k15 => k_is)
    (case a16 => k_is)
    (case l16 => k_is)
    (case c16 => k_is)
    (case k16 => k_is)
    (case a17 => k_is)
    (case l17 => k_is)
    (case c17 => k_is)
    (case k17 => k_is)
    (case a18 => k_is)
    (case l18 => k_is)
    (case c18 => k_is)
    (case k18 => k_is)
    (case a19 => k_is)
    (case l19 => k_is)
    (case c19 => k_is)
    (case k19 => k_is)
    (case a20 => k_is)
    (case l20 => k_is)
    (case c20 => k_is)
    (case k20 => k_is)
    (case a21 => k_is)
    (case l21 => k_is)
    (case c21 => k_is)
    (case k21 => k_is)
    (case a22 => k_is)
    (case l22 => k_is)
    (case c22 => k_is)
    (case k22 => k_is)
    (case a23 => k_is)
    (case l23 => k_is)
    (case c23 => k_is)
    (case k23 => k_is)
    (case a24 => k_is)
    (case l24 => k_is)
    (case c24 => k_is)
    (case k24 => k_is)
    (case a25 => k_is)
    (case l25 => k_is)
    (case c25 => k_is)
    (case k25 => k_is)
    (case a26 => k_is)
    (case l26 => k_is)
    (case c26 => k_is)
    (case k26 => k_is)
    (case a27 => k_is)
    (case l27 => k_is)
    (case c27 => k_is)
    (case k27 => k_is)
    (case a28 => k_is)
    (case l28 => k_is)
    (case c28 => k_is)
    (case k28 => k_is)
    (case pg_Arrows => k_is)
    (case hd_Arrows => k_is)
    (case po_Arrows => k_is)
    (case sa_Arrows => k_is)
    (case mk_Arrows => k_is)
    (case kc_Arrows => k_is)
    (case na_Arrows_known => k_is)
    (case na_Arrows_leading => k_is)
    (case cn => k_is)
    (case ct => k_is)
    (case ca_Arrows => k_is)
    (case cm_Arrows => k_is)
    (case ne_Arrows => k_is)
    (case sb_Arrows => k_is)
    (case a29 => k_is)
    (case l29 => k_is)
    (case c29 => k_is)
    (case k29 => k_is)
    (case t29 => k_is)
    (case xL_NoText => k_is)
    (case sa_NoText => k_is)
    (case eC_NoText => k_is)
    (case tC_NoText => k_is)
    (case kC_NoText => k_is)
    (case ga_NoText => k_is)
    (case gg_NoText => k_is)
    (case hC_NoText => k_is)
    (case ca_NoText => k_is)
    (case cm_NoText => k_is)
    (case xn_NoText_line => k_is)
    (case eC_LotError => k_is)
    (case tC_LotError => k_is)
    (case hC_LotError => k_is)
    (case xs_NoText_LotError => k_is)
    (case kv_NoText => k_is)
    (case c_LETTERS => k_is)
    (case c_MOST_LETTERS => k_is)
    (case c_MOST_THINGS => k_is)
    (case c_MOST_PLACES => k_is)
    (case c_ARROWS => k_is)
    (case c_PLACES => k_is)
    (case c_ARROW => k_is)
    (case z_ValueError => k_is)
    (case z_abs => k_is)
    (case z_all => k_is)
    (case z_any => k_is)
    (case z_bool => k_is)
    (case z_dict => k_is)
    (case z_enumerate => k_is)
    (case z_int => k_is)
    (case z_isinstance => k_is)
    (case z_len => k_is)
    (case z_list => k_is)
    (case z_range => k_is)
    (case z_set => k_is)
    (case z_sorted => k_is)
    (case z_str => k_is)
    (case z_tuple => k_is)
    (case z_zip => k_is)
