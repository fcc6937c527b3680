import PyProof.Rows.All
import Wide.All
import OpenK.AllK
import Wide.FinOn
import HandS.EndTab
import HandS.ForMost
import HandS.ForExc
import HandS.Lambda
import HandS.Deep
import HandS.TupAny
import HandS.Zip
import HandS.Rev
import HandS.IsInst
import HandS.ExcOwn
import HandS.RevTup
import PyProof.ListRange
import KE.SortData
import KE.KSortKey
import HandS.ExcInit
import HandS.ExcSuper
import HandS.ExcField
import HandS.ExcIs
import KE.KExcSuper
import KE.KSuper
import HandS.TupSets
import PySem.Challenge.RW_keptwhole_k62_whole_parts_tell_all_three
section
set_option Elab.async false
set_option linter.all false
set_option maxRecDepth 100000
/-! DLa: plain data over the layer: what a value stands for (Dd), frozen cells F within the heap H, owned slots; the judgements on data. -/
namespace DL
open PySem PySem.Spec L2

/-- plain data -/
inductive D where
  | non | bl (b : Bool) | int (i : Int) | str (x : Str)
  | lst (xs : List D) | tup (xs : List D)
  | dk (kvs : List (Key × D)) | ins (c : Str) (fs : List (Str × D)) | scr (ns : List Int)
abbrev Tbs := List (Addr × Str)
structure Gx where
  K : PySem.W.Frag
  mg : Str → Option Value
  T : Tbs
abbrev gx (T : Tbs) (X : Cx) : Gx := ⟨X.K, X.mg, T⟩
/-- no table of code objects -/
def nT (o : HO) : Prop := ∀ ps, o ≠ .tbl ps
theorem nT_lst {xs : List V} : nT (.lst xs) := fun _ z => nomatch z
theorem nT_dK {xs : List (Key × V)} : nT (.dK xs) := fun _ z => nomatch z

mutual
inductive Dd (g : Gx) (F : Hp) : V → D → Prop
  | non : Dd g F .non .non
  | bl (b : Bool) : Dd g F (.bl b) (.bl b)
  | int (i : Int) : Dd g F (.int i) (.int i)
  | str (x : Str) : Dd g F (.str x) (.str x)
  | lst {a : Addr} {xs : List V} {ds : List D} : F a = some (.lst xs) → Ds g F xs ds → Dd g F (.ref a) (.lst ds)
  | tup {a : Addr} {xs : List V} {ds : List D} : F a = some (.tup xs) → Ds g F xs ds → Dd g F (.ref a) (.tup ds)
  | dk {a : Addr} {kvs : List (Key × V)} {kds : List (Key × D)} : Rd F a (.dK kvs) → Dk g F kvs kds → Dd g F (.ref a) (.dk kds)
  | ins {a C dx : Addr} {c : Str} {fs : List (Str × V)} {ds : List (Str × D)} : g.mg c = some (.ref C) → F a = some (.ins C dx fs) → Df g F fs ds → Dd g F (.ref a) (.ins c ds)
  | scr {a : Addr} {ns : List Int} : SqL g.K F a (ns.map V.int) → Dd g F (.ref a) (.scr ns)
inductive Ds (g : Gx) (F : Hp) : List V → List D → Prop
  | nil : Ds g F [] []
  | cons {v : V} {vs : List V} {d : D} {ds : List D} : Dd g F v d → Ds g F vs ds → Ds g F (v :: vs) (d :: ds)
inductive Dk (g : Gx) (F : Hp) : List (Key × V) → List (Key × D) → Prop
  | nil : Dk g F [] []
  | cons {k : Key} {v : V} {vs : List (Key × V)} {d : D} {ds : List (Key × D)} : Dd g F v d → Dk g F vs ds → Dk g F ((k, v) :: vs) ((k, d) :: ds)
inductive Df (g : Gx) (F : Hp) : List (Str × V) → List (Str × D) → Prop
  | nil : Df g F [] []
  | cons {k : Str} {v : V} {vs : List (Str × V)} {d : D} {ds : List (Str × D)} : Dd g F v d → Df g F vs ds → Df g F ((k, v) :: vs) ((k, d) :: ds)
end

theorem rd_mono {F F' : Hp} {a : Addr} {u : HO} (s : Same F F') (h : Rd F a u) : Rd F' a u := by
  rcases h with h | ⟨o, h⟩
  · exact .inl (s _ _ h)
  · exact .inr ⟨o, s _ _ h⟩
mutual
theorem Dd.mono {g : Gx} {F F' : Hp} (s : Same F F') : ∀ {v : V} {d : D}, Dd g F v d → Dd g F' v d
  | _, _, .non => .non
  | _, _, .bl b => .bl b
  | _, _, .int b => .int b
  | _, _, .str b => .str b
  | _, _, .lst h r => .lst (s _ _ h) (Ds.mono s r)
  | _, _, .tup h r => .tup (s _ _ h) (Ds.mono s r)
  | _, _, .dk h r => .dk (rd_mono s h) (Dk.mono s r)
  | _, _, .ins m h r => .ins m (s _ _ h) (Df.mono s r)
  | _, _, .scr h => .scr (s.seq h)
theorem Ds.mono {g : Gx} {F F' : Hp} (s : Same F F') : ∀ {v : List V} {d : List D}, Ds g F v d → Ds g F' v d
  | _, _, .nil => .nil
  | _, _, .cons h r => .cons (Dd.mono s h) (Ds.mono s r)
theorem Dk.mono {g : Gx} {F F' : Hp} (s : Same F F') : ∀ {v : List (Key × V)} {d : List (Key × D)}, Dk g F v d → Dk g F' v d
  | _, _, .nil => .nil
  | _, _, .cons h r => .cons (Dd.mono s h) (Dk.mono s r)
theorem Df.mono {g : Gx} {F F' : Hp} (s : Same F F') : ∀ {v : List (Str × V)} {d : List (Str × D)}, Df g F v d → Df g F' v d
  | _, _, .nil => .nil
  | _, _, .cons h r => .cons (Dd.mono s h) (Df.mono s r)
end
section
variable {g : Gx} {F : Hp}
theorem Ds.length : ∀ {vs : List V} {ds : List D}, Ds g F vs ds → vs.length = ds.length
  | _, _, .nil => rfl
  | _, _, .cons _ r => by rw [List.length_cons, List.length_cons, Ds.length r]
theorem Ds.get : ∀ {vs : List V} {ds : List D} {i : Nat} {d : D}, Ds g F vs ds → ds[i]? = some d → ∃ v, vs[i]? = some v ∧ Dd g F v d
  | _, _, _, _, .nil, e => by simp at e
  | _, _, 0, _, .cons h _, e => by simp at e; subst e; exact ⟨_, rfl, h⟩
  | _, _, i + 1, d, .cons _ r, e => by
    obtain ⟨v, h1, h2⟩ := Ds.get (i := i) (d := d) r (by simpa using e)
    exact ⟨v, by simpa using h1, h2⟩
theorem Ds.at : ∀ {vs : List V} {ds : List D} {i : Nat} {v : V}, Ds g F vs ds → vs[i]? = some v → ∃ d, ds[i]? = some d ∧ Dd g F v d
  | _, _, _, _, .nil, e => by simp at e
  | _, _, 0, _, .cons h _, e => by simp at e; subst e; exact ⟨_, rfl, h⟩
  | _, _, i + 1, d, .cons _ r, e => by
    obtain ⟨v, h1, h2⟩ := Ds.at (i := i) (v := d) r (by simpa using e)
    exact ⟨v, by simpa using h1, h2⟩
theorem Ds.append : ∀ {vs ws : List V} {ds es : List D}, Ds g F vs ds → Ds g F ws es → Ds g F (vs ++ ws) (ds ++ es)
  | _, _, _, _, .nil, s => s
  | _, _, _, _, .cons h r, s => .cons h (Ds.append r s)
theorem Ds.take : ∀ {vs : List V} {ds : List D} (n : Nat), Ds g F vs ds → Ds g F (vs.take n) (ds.take n)
  | _, _, 0, _ => .nil
  | _, _, _ + 1, .nil => .nil
  | _, _, n + 1, .cons h r => .cons h (Ds.take n r)
theorem Ds.drop : ∀ {vs : List V} {ds : List D} (n : Nat), Ds g F vs ds → Ds g F (vs.drop n) (ds.drop n)
  | _, _, 0, r => r
  | _, _, _ + 1, .nil => .nil
  | _, _, n + 1, .cons _ r => Ds.drop n r
theorem Ds.reverse : ∀ {vs : List V} {ds : List D}, Ds g F vs ds → Ds g F vs.reverse ds.reverse
  | _, _, .nil => .nil
  | _, _, .cons h r => by
    rw [List.reverse_cons, List.reverse_cons]
    exact Ds.append (Ds.reverse r) (.cons h .nil)
theorem Ds.set {v : V} {d : D} (h : Dd g F v d) : ∀ {vs : List V} {ds : List D} (i : Nat), Ds g F vs ds → Ds g F (vs.set i v) (ds.set i d)
  | _, _, _, .nil => .nil
  | _, _, 0, .cons _ r => .cons h r
  | _, _, i + 1, .cons q r => .cons q (Ds.set h i r)
theorem Ds.ints : ∀ {vs : List V} {ns : List Int}, Ds g F vs (ns.map D.int) → vs = ns.map V.int
  | _, [], .nil => rfl
  | _, n :: ns, .cons h r => by
    cases h
    rw [List.map_cons, Ds.ints r]
theorem Ds.bls : ∀ {vs : List V} {ns : List Bool}, Ds g F vs (ns.map D.bl) → vs = ns.map V.bl
  | _, [], .nil => rfl
  | _, n :: ns, .cons h r => by
    cases h
    rw [List.map_cons, Ds.bls r]
end

/-! ### slots -/
inductive Sl where
  | no | sh (d : D) | ow (d : D) | mu (d : D)
def Own (g : Gx) (F H : Hp) (l : Addr) : D → Prop
  | .lst ds => ∃ vs, H l = some (.lst vs) ∧ Ds g F vs ds
  | .dk kds => ∃ kvs, H l = some (.dK kvs) ∧ Dk g F kvs kds
  | _ => False
def oD (ρ : List Sl) (i : Nat) : Option D := match ρ[i]? with
  | some (.ow d) => some d
  | some (.mu d) => some d
  | _ => none
def Oa (σ : St) (ρ : List Sl) (a : Addr) : Prop := ∃ i d, oD ρ i = some d ∧ σ[i]? = some (some (.ref a))

/-- the tables are there, and no frozen cell is one -/
def TB (T : Tbs) (F H : Hp) : Prop := LamX.Tabs T H ∧ ∀ a ps, F a ≠ some (.tbl ps)
structure Rep (g : Gx) (F H : Hp) (σ : St) (ρ : List Sl) : Prop where
  len : σ.length = ρ.length
  sh : ∀ (i : Nat) (d : D), ρ[i]? = some (.sh d) → ∃ v, σ[i]? = some (some v) ∧ Dd g F v d
  ow : ∀ (i : Nat) (d : D), oD ρ i = some d → ∃ l, σ[i]? = some (some (.ref l)) ∧ F l = none ∧ Own g F H l d
  ne : ∀ (i j : Nat) (d e : D) (l : Addr), oD ρ i = some d → oD ρ j = some e → σ[i]? = some (some (.ref l)) → σ[j]? = some (some (.ref l)) → i = j
  fr : Same F H
  tb : TB g.T F H

structure Go (g : Gx) (σ : St) (ρ : List Sl) (F H : Hp) (σ' : St) (ρ' : List Sl) (F' H' : Hp) : Prop where
  rep : Rep g F' H' σ' ρ'
  fF : Same F F'
  fz : ∀ a, H a ≠ none → ¬ Oa σ ρ a → F' a = F a
  kp : ∀ a o, H a = some o → nT o → ¬ Oa σ ρ a → H' a = some o
  oa : ∀ a, Oa σ' ρ' a → Oa σ ρ a ∨ H a = none
  th : ∀ a, H a ≠ none → H' a ≠ none
  mu : ∀ (i : Nat) (d : D), ρ[i]? = some (.mu d) → (∃ d', ρ'[i]? = some (.mu d')) ∧ σ'[i]? = σ[i]?

section
variable {g : Gx} {F H F1 H1 F2 H2 : Hp} {σ σ1 σ2 : St} {ρ ρ1 ρ2 : List Sl}
theorem Own.hs {l : Addr} {d : D} (o : Own g F H l d) : ∃ u, H l = some u ∧ nT u := by
  cases d <;> first
    | exact False.elim o
    | (obtain ⟨vs, h, _⟩ := o; exact ⟨_, h, (fun _ z => nomatch z)⟩)
theorem Own.mut {l : Addr} {d : D} (o : Own g F H l d) : Mut (H l) := by
  cases d <;> first
    | exact False.elim o
    | (obtain ⟨vs, h, _⟩ := o; rw [h]; trivial)
theorem Own.mono {l : Addr} {d : D} (o : Own g F H l d) (s : Same F F1) (e : H1 l = H l) : Own g F1 H1 l d := by
  cases d <;> first
    | exact False.elim o
    | (obtain ⟨vs, h, r⟩ := o; exact ⟨vs, e.trans h, r.mono s⟩)
theorem Rep.oaH (R : Rep g F H σ ρ) {a : Addr} (o : Oa σ ρ a) : H a ≠ none ∧ F a = none := by
  obtain ⟨i, d, h1, h2⟩ := o
  obtain ⟨l, e1, e2, e3⟩ := R.ow i d h1
  rw [h2] at e1
  cases e1
  obtain ⟨u, e, _⟩ := e3.hs
  exact ⟨by rw [e]; exact (fun q => nomatch q), e2⟩
theorem Rep.ext (R : Rep g F H σ ρ) (s : Same F F1) (t : Same F1 H1) (o : ∀ a, Oa σ ρ a → F1 a = none ∧ H1 a = H a) (tb : TB g.T F1 H1) : Rep g F1 H1 σ ρ where
  len := R.len
  sh := fun i d e => by
    obtain ⟨v, h1, h2⟩ := R.sh i d e
    exact ⟨v, h1, h2.mono s⟩
  ow := fun i d e => by
    obtain ⟨l, h1, h2, h3⟩ := R.ow i d e
    obtain ⟨q1, q2⟩ := o l ⟨i, d, e, h1⟩
    exact ⟨l, h1, q1, h3.mono s q2⟩
  ne := R.ne
  fr := t
  tb := tb
theorem Go.refl (R : Rep g F H σ ρ) : Go g σ ρ F H σ ρ F H :=
  ⟨R, Same.refl _, fun _ _ _ => rfl, fun _ _ h _ _ => h, fun _ h => .inl h, fun _ h => h, fun _ d h => ⟨⟨d, h⟩, rfl⟩⟩
theorem Go.trans (a : Go g σ ρ F H σ1 ρ1 F1 H1) (b : Go g σ1 ρ1 F1 H1 σ2 ρ2 F2 H2) : Go g σ ρ F H σ2 ρ2 F2 H2 where
  rep := b.rep
  fF := a.fF.trans b.fF
  fz := fun c h n => by
    have h1 := a.th c h
    rw [b.fz c h1 fun o => (a.oa c o).elim n h, a.fz c h n]
  kp := fun c o h t n => by
    have hn : H c ≠ none := by rw [h]; exact fun q => nomatch q
    exact b.kp c o (a.kp c o h t n) t fun q => (a.oa c q).elim n hn
  oa := fun c h => by
    rcases b.oa c h with h | h
    · exact a.oa c h
    · refine .inr ?_
      cases q : H c with
      | none => rfl
      | some o => exact absurd h (a.th c (by rw [q]; exact fun z => nomatch z))
  th := fun c h => b.th c (a.th c h)
  mu := fun i d h => by
    obtain ⟨⟨d1, h1⟩, e1⟩ := a.mu i d h
    obtain ⟨h2, e2⟩ := b.mu i d1 h1
    exact ⟨h2, e2.trans e1⟩
theorem nt_upd {F : Hp} {p : Addr} {o : HO} (h : ∀ a ps, F a ≠ some (.tbl ps)) (t : nT o) : ∀ a ps, upd F p o a ≠ some (.tbl ps) := fun a ps e => by
  by_cases z : a = p
  · rw [z, upd_same] at e; exact t ps (Option.some.inj e)
  · rw [upd_ne z] at e; exact h a ps e
/-- nothing that is owned or frozen or tracked changes, but tables of code objects -/
theorem Go.growT (R : Rep g F H σ ρ) (sF : Same F F1) (sH : ∀ a o, H a = some o → nT o → H1 a = some o) (th : ∀ a, H a ≠ none → H1 a ≠ none) (fr : Same F1 H1) (fz : ∀ a, H a ≠ none → F1 a = F a) (tb : TB g.T F1 H1) : Go g σ ρ F H σ ρ F1 H1 where
  rep := R.ext sF fr (fun a o => by
    obtain ⟨h1, h2⟩ := R.oaH o
    refine ⟨(fz a h1).trans h2, ?_⟩
    obtain ⟨i, d, q1, q2⟩ := o
    obtain ⟨l, e1, _, e3⟩ := R.ow i d q1
    rw [q2] at e1
    cases e1
    obtain ⟨u, hu, hn⟩ := e3.hs
    rw [hu]
    exact sH a u hu hn) tb
  fF := sF
  fz := fun a h _ => fz a h
  kp := fun a o h t _ => sH a o h t
  oa := fun a h => .inl h
  th := th
  mu := fun i d h => ⟨⟨d, h⟩, rfl⟩
/-- cells laid anew: σ, ρ as they are -/
theorem Go.grow (R : Rep g F H σ ρ) (sF : Same F F1) (sH : ∀ a o, H a = some o → H1 a = some o) (fr : Same F1 H1) (fz : ∀ a, H a ≠ none → F1 a = F a) (nt : ∀ a ps, F1 a = some (.tbl ps) → F a = some (.tbl ps)) : Go g σ ρ F H σ ρ F1 H1 :=
  Go.growT R sF (fun a o h _ => sH a o h) (fun a h => by
    cases q : H a with
    | none => exact absurd q h
    | some u => rw [sH a u q]; exact fun z => nomatch z) fr fz ⟨R.tb.1.ext sH, fun a ps e => R.tb.2 a ps (nt a ps e)⟩
/-- a new frozen cell -/
theorem Go.alloc (R : Rep g F H σ ρ) {p : Addr} (n : H p = none) (o : HO) (t : nT o) : Go g σ ρ F H σ ρ (upd F p o) (upd H p o) := by
  have nF : F p = none := R.fr.free n
  refine Go.grow R (fun a u e => ?_) (fun a u e => ?_) (fun a u e => ?_) (fun a h => ?_) fun a ps e => ?_
  · rw [upd_ne (ne_of_none e nF)]; exact e
  · rw [upd_ne (ne_of_none e n)]; exact e
  · by_cases q : a = p
    · subst q; rw [upd_same] at e ⊢; exact e
    · rw [upd_ne q] at e ⊢; exact R.fr a u e
  · have q : a ≠ p := fun z => h (by rw [z]; exact n)
    rw [upd_ne q]
  · by_cases z : a = p
    · rw [z, upd_same] at e; exact absurd (Option.some.inj e) (t ps)
    · rw [upd_ne z] at e; exact e
/-- a new cell that is not frozen -/
theorem Go.allocO (R : Rep g F H σ ρ) {p : Addr} (n : H p = none) (o : HO) : Go g σ ρ F H σ ρ F (upd H p o) :=
  Go.grow R (Same.refl _) (fun a u e => by rw [upd_ne (ne_of_none e n)]; exact e) (fun a u e => by
    have e' := R.fr a u e
    rw [upd_ne (ne_of_none e' n)]; exact e') (fun _ _ => rfl) fun _ _ e => e
/-- a cell that nobody owns is frozen -/
theorem Go.freeze (R : Rep g F H σ ρ) {p : Addr} {o : HO} (h : H p = some o) (nF : F p = none) (no : ¬ Oa σ ρ p) (t : nT o) : Rep g (upd F p o) H σ ρ := by
  refine R.ext (fun a u e => ?_) (fun a u e => ?_) (fun a q => ⟨?_, rfl⟩) ⟨R.tb.1, nt_upd R.tb.2 t⟩
  · rw [upd_ne (ne_of_none e nF)]; exact e
  · by_cases z : a = p
    · subst z; rw [upd_same] at e; cases e; exact h
    · rw [upd_ne z] at e; exact R.fr a u e
  · have z : a ≠ p := fun z => no (by rw [← z]; exact q)
    rw [upd_ne z]; exact (R.oaH q).2
end

/-! ### results -/
structure Ex where
  cls : Str
  fs : List (Str × D)
def ExOk (g : Gx) (F : Hp) (cls : Value) (d : Option Addr) (x : Ex) : Prop :=
  ∃ C, g.mg x.cls = some (.ref C) ∧ cls = .ref C ∧ (x.fs ≠ [] → ∃ dd vs, d = some dd ∧ F dd = some (.xd vs) ∧ Df g F vs x.fs)
inductive Res (α : Type) where
  | ok (a : α) (ρ : List Sl) | ex (x : Ex) (ρ : List Sl) | no
def Res.bind {α β : Type} (r : Res α) (k : α → List Sl → Res β) : Res β := match r with
  | .ok a ρ => k a ρ
  | .ex x ρ => .ex x ρ
  | .no => .no
@[simp] theorem Res.bind_ok {α β : Type} (a : α) (ρ : List Sl) (k : α → List Sl → Res β) : (Res.ok a ρ).bind k = k a ρ := rfl
@[simp] theorem Res.bind_ex {α β : Type} (x : Ex) (ρ : List Sl) (k : α → List Sl → Res β) : (Res.ex (α := α) x ρ).bind k = .ex x ρ := rfl
@[simp] theorem Res.bind_no {α β : Type} (k : α → List Sl → Res β) : (Res.no (α := α)).bind k = .no := rfl
/-- an option's value, else nothing -/
def Res.of {α : Type} (o : Option α) (ρ : List Sl) : Res α := match o with
  | some a => .ok a ρ
  | none => .no
@[simp] theorem Res.of_some {α : Type} (a : α) (ρ : List Sl) : Res.of (some a) ρ = .ok a ρ := rfl
@[simp] theorem Res.of_none {α : Type} (ρ : List Sl) : Res.of (none : Option α) ρ = .no := rfl

abbrev Rel (α β : Type) := Gx → Hp → Hp → St → List Sl → β → α → Prop
section
variable {α β γ δ : Type}
/-- what is wanted of a result -/
def At (g : Gx) (W : WX) (rel : Rel α β) (r : Res α) (σ : St) (ρ : List Sl) (F H : Hp) (Q : β → Hp → Prop) : Prop := match r with
  | .ok a ρ' => ∀ b F' H', Go g σ ρ F H σ ρ' F' H' → rel g F' H' σ ρ' b a → Q b H'
  | .ex x ρ' => ∀ F' H' cls d, Go g σ ρ F H σ ρ' F' H' → ExOk g F' cls d x → W cls d σ H'
  | .no => False
def tG (g : Gx) (W : WX) (rel : Rel α β) (f : List Sl → Res α) : St → Hp → (β → Hp → Prop) → Prop := fun σ H Q => ∃ F ρ, Rep g F H σ ρ ∧ At g W rel (f ρ) σ ρ F H Q
variable {g : Gx} {W : WX} {rel : Rel α β} {rel2 : Rel γ δ} {σ : St} {ρ ρ1 : List Sl} {F H F1 H1 : Hp}
theorem At.rebase {r : Res α} {Q : β → Hp → Prop} (h : At g W rel r σ ρ F H Q) (go : Go g σ ρ F H σ ρ1 F1 H1) : At g W rel r σ ρ1 F1 H1 Q := by
  cases r with
  | ok a ρ' => exact fun b F' H' go' q => h b F' H' (go.trans go') q
  | ex x ρ' => exact fun F' H' cls d go' q => h F' H' cls d (go.trans go') q
  | no => exact h
theorem At.seq {r : Res α} {k : α → List Sl → Res γ} {Q : δ → Hp → Prop} {P : β → Hp → Prop} (h : At g W rel2 (r.bind k) σ ρ F H Q)
    (step : ∀ b a ρ1 F1 H1, Go g σ ρ F H σ ρ1 F1 H1 → rel g F1 H1 σ ρ1 b a → At g W rel2 (k a ρ1) σ ρ1 F1 H1 Q → P b H1) : At g W rel r σ ρ F H P := by
  cases r with
  | ok a ρ' =>
    have h : At g W rel2 (k a ρ') σ ρ F H Q := h
    exact fun b F' H' go q => step b a ρ' F' H' go q (h.rebase go)
  | ex x ρ' => exact h
  | no => exact h
theorem At.now {a : α} {Q : β → Hp → Prop} (h : At g W rel (.ok a ρ1) σ ρ F H Q) {b : β} (go : Go g σ ρ F H σ ρ1 F1 H1) (r : rel g F1 H1 σ ρ1 b a) : Q b H1 := h b F1 H1 go r
end

abbrev relD : Rel D V := fun g F _ _ _ v d => Dd g F v d
inductive Rs where
  | sh (d : D) | ow (d : D)
/-- an operand: frozen data, or the slot that it was read from -/
inductive AV where
  | vd (d : D) | vs (i : Nat)
def AvOk (g : Gx) (F H : Hp) (σ : St) (ρ : List Sl) (v : V) : AV → Prop
  | .vd d => Dd g F v d
  | .vs i => σ[i]? = some (some v)
abbrev relV : Rel AV V := AvOk
inductive AvsOk (g : Gx) (F H : Hp) (σ : St) (ρ : List Sl) : List V → List AV → Prop
  | nil : AvsOk g F H σ ρ [] []
  | cons {v : V} {a : AV} {vs : List V} {as : List AV} : AvOk g F H σ ρ v a → AvsOk g F H σ ρ vs as → AvsOk g F H σ ρ (v :: vs) (a :: as)
abbrev relA : Rel (List AV) (List V) := AvsOk
abbrev relB : Rel Bool Bool := fun _ _ _ _ _ b a => b = a

abbrev GE := List Sl → Res D
abbrev GW := List Sl → Res Rs
abbrev GV := List Sl → Res AV
abbrev GA := List Sl → Res (List AV)
abbrev GB := List Sl → Res Bool

def DE (T : Tbs) (X : Cx) (W : WX) (e : Expr) (f : GE) : Prop := PE X e (tG (gx T X) W relD f)
def DV (T : Tbs) (X : Cx) (W : WX) (e : Expr) (f : GV) : Prop := PE X e (tG (gx T X) W relV f)
def DA (T : Tbs) (X : Cx) (W : WX) (es : List Expr) (f : GA) : Prop := PA X es (tG (gx T X) W relA f)
def DT (T : Tbs) (X : Cx) (W : WX) (e : Expr) (f : GB) : Prop := PT X e (tG (gx T X) W relB f)
/-- a value that may be owned: laid since the start -/
def AtW (g : Gx) (W : WX) (r : Res Rs) (σ : St) (ρ : List Sl) (F H : Hp) (Q : V → Hp → Prop) : Prop := match r with
  | .ok (.sh d) ρ' => ∀ v F' H', Go g σ ρ F H σ ρ' F' H' → Dd g F' v d → Q v H'
  | .ok (.ow d) ρ' => ∀ l F' H', Go g σ ρ F H σ ρ' F' H' → F' l = none → Own g F' H' l d → ¬ Oa σ ρ' l → H l = none → Q (.ref l) H'
  | .ex x ρ' => ∀ F' H' cls d, Go g σ ρ F H σ ρ' F' H' → ExOk g F' cls d x → W cls d σ H'
  | .no => False
def tW (g : Gx) (W : WX) (f : GW) : TE := fun σ H Q => ∃ F ρ, Rep g F H σ ρ ∧ AtW g W (f ρ) σ ρ F H Q
def DW (T : Tbs) (X : Cx) (W : WX) (e : Expr) (f : GW) : Prop := PE X e (tW (gx T X) W f)

theorem AtW.rebase {g : Gx} {W : WX} {σ : St} {ρ ρ1 : List Sl} {F H F1 H1 : Hp} {r : Res Rs} {Q : V → Hp → Prop} (h : AtW g W r σ ρ F H Q) (go : Go g σ ρ F H σ ρ1 F1 H1) : AtW g W r σ ρ1 F1 H1 Q := by
  cases r with
  | ok a ρ' =>
    cases a with
    | sh d => exact fun b F' H' go' q => h b F' H' (go.trans go') q
    | ow d =>
      refine fun b F' H' go' q1 q2 qo q3 => h b F' H' (go.trans go') q1 q2 qo ?_
      cases z : H b with
      | none => rfl
      | some o => exact absurd q3 (go.th b (by rw [z]; exact (fun e => nomatch e)))
  | ex x ρ' => exact fun F' H' cls d go' q => h F' H' cls d (go.trans go') q
  | no => exact h
theorem At.seqW {α β : Type} {rel : Rel α β} {g : Gx} {W : WX} {σ : St} {ρ : List Sl} {F H : Hp} {r : Res α} {k : α → List Sl → Res Rs} {Q : V → Hp → Prop} {P : β → Hp → Prop} (h : AtW g W (r.bind k) σ ρ F H Q)
    (step : ∀ b a ρ1 F1 H1, Go g σ ρ F H σ ρ1 F1 H1 → rel g F1 H1 σ ρ1 b a → AtW g W (k a ρ1) σ ρ1 F1 H1 Q → P b H1) : At g W rel r σ ρ F H P := by
  cases r with
  | ok a ρ' =>
    have h : AtW g W (k a ρ') σ ρ F H Q := h
    exact fun b F' H' go q => step b a ρ' F' H' go q (h.rebase go)
  | ex x ρ' => exact h
  | no => exact h

theorem PE.weak {X : Cx} {e : Expr} {t t' : TE} (h : PE X e t) (w : ∀ σ H Q, t' σ H Q → t σ H Q) : PE X e t' := ⟨fun pins s σ H Q I q => h.run pins s σ H Q I (w σ H Q q)⟩
theorem PA.weak {X : Cx} {e : List Expr} {t t' : TA} (h : PA X e t) (w : ∀ σ H Q, t' σ H Q → t σ H Q) : PA X e t' := ⟨fun pos pins s σ H Q I q => h.run pos pins s σ H Q I (w σ H Q q)⟩
theorem PT.weak {X : Cx} {e : Expr} {t t' : TT} (h : PT X e t) (w : ∀ σ H Q, t' σ H Q → t σ H Q) : PT X e t' := ⟨fun pins s σ H Q I q => h.run pins s σ H Q I (w σ H Q q)⟩
theorem PW.weak {X : Cx} {e : Expr} {t t' : TT} (h : PW X e t) (w : ∀ σ H Q, t' σ H Q → t σ H Q) : PW X e t' := ⟨fun wh pins s σ H Q I q => h.run wh pins s σ H Q I (w σ H Q q)⟩
theorem PS.weak {X : Cx} {e : Stmt} {t t' : TS} (h : PS X e t) (w : ∀ Dn σ H, t' Dn σ H → t Dn σ H) : PS X e t' := ⟨fun pins s σ H Q I q => h.run pins s σ H Q I (w Q σ H q)⟩
theorem PSs.weak {X : Cx} {e : List Stmt} {t t' : TS} (h : PSs X e t) (w : ∀ Dn σ H, t' Dn σ H → t Dn σ H) : PSs X e t' := ⟨fun pins s σ H Q I q => h.run pins s σ H Q I (w Q σ H q)⟩
theorem PG.weak {X : Cx} {e : Expr} {t t' : TG} (h : PG X e t) (w : ∀ v σ H Q, t' v σ H Q → t v σ H Q) : PG X e t' := ⟨fun pins s σ H v u Q I r q => h.run pins s σ H v u Q I r (w v σ H Q q)⟩
theorem PI.weak {X : Cx} {tg e : Expr} {t t' : TI} (h : PI X tg e t) (w : ∀ σ H Q, t' σ H Q → t σ H Q) : PI X tg e t' := ⟨fun pins s σ H Q I q => h.run pins s σ H Q I (w σ H Q q)⟩
end DL
end
section
set_option Elab.async false
set_option linter.all false
set_option maxRecDepth 100000
/-! DLb: expressions on data: names, constants, operators, displays, subscripts, calls of built-ins. -/
namespace DL
open PySem PySem.Spec L2

/-! ### operands -/
def vD (ρ : List Sl) : AV → Option D
  | .vd d => some d
  | .vs i => match ρ[i]? with
    | some (.sh d) => some d
    | some (.ow d) => some d
    | some (.mu d) => some d
    | _ => none
/-- a value read: frozen data, or a cell that a slot owns -/
def Rv (g : Gx) (F H : Hp) (v : V) (d : D) : Prop := Dd g F v d ∨ ∃ l, v = .ref l ∧ Own g F H l d
inductive Rvs (g : Gx) (F H : Hp) : List V → List D → Prop
  | nil : Rvs g F H [] []
  | cons {v : V} {d : D} {vs : List V} {ds : List D} : Rv g F H v d → Rvs g F H vs ds → Rvs g F H (v :: vs) (d :: ds)
section
variable {g : Gx} {F H F1 H1 : Hp} {σ : L2.St} {ρ ρ1 : List Sl} {v : V} {d : D}
theorem AvOk.rv {a : AV} (R : Rep g F H σ ρ) (h : AvOk g F H σ ρ v a) (e : vD ρ a = some d) : Rv g F H v d := by
  cases a with
  | vd c => cases e; exact .inl h
  | vs i =>
    have h : σ[i]? = some (some v) := h
    cases q : ρ[i]? with
    | none => simp [vD, q] at e
    | some s =>
      cases s with
      | no => simp [vD, q] at e
      | sh c =>
        obtain rfl : c = d := by simpa [vD, q] using e
        obtain ⟨w, h1, h2⟩ := R.sh i c q
        rw [h] at h1; cases h1
        exact .inl h2
      | ow c =>
        obtain rfl : c = d := by simpa [vD, q] using e
        obtain ⟨l, h1, _, h3⟩ := R.ow i c (by simp [oD, q])
        rw [h] at h1; cases h1
        exact .inr ⟨l, rfl, h3⟩
      | mu c =>
        obtain rfl : c = d := by simpa [vD, q] using e
        obtain ⟨l, h1, _, h3⟩ := R.ow i c (by simp [oD, q])
        rw [h] at h1; cases h1
        exact .inr ⟨l, rfl, h3⟩
theorem AvOk.go {a : AV} (h : AvOk g F H σ ρ v a) (go : Go g σ ρ F H σ ρ1 F1 H1) : AvOk g F1 H1 σ ρ1 v a := by
  cases a with
  | vd c => exact Dd.mono go.fF h
  | vs i => exact h
theorem AvsOk.go {vs : List V} {as : List AV} (h : AvsOk g F H σ ρ vs as) (go : Go g σ ρ F H σ ρ1 F1 H1) : AvsOk g F1 H1 σ ρ1 vs as := by
  induction h with
  | nil => exact .nil
  | cons h _ ih => exact .cons (h.go go) ih
def vDs (ρ : List Sl) : List AV → Option (List D)
  | [] => some []
  | a :: as => (vD ρ a).bind fun d => (vDs ρ as).bind fun ds => some (d :: ds)
theorem AvsOk.rvs {vs : List V} {as : List AV} (R : Rep g F H σ ρ) (h : AvsOk g F H σ ρ vs as) : ∀ {ds : List D}, vDs ρ as = some ds → Rvs g F H vs ds := by
  induction h with
  | nil => intro ds e; cases e; exact .nil
  | @cons v a vs as h _ ih =>
    intro ds e
    unfold vDs at e
    cases q : vD ρ a with
    | none => rw [q] at e; cases e
    | some d =>
      rw [q] at e
      cases q2 : vDs ρ as with
      | none => rw [q2] at e; cases e
      | some es =>
        rw [q2] at e
        cases e
        exact .cons (h.rv R q) (ih q2)
theorem Rv.lst {ds : List D} (R : Rep g F H σ ρ) (h : Rv g F H v (.lst ds)) : ∃ a vs, v = .ref a ∧ H a = some (.lst vs) ∧ Ds g F vs ds := by
  rcases h with h | ⟨l, rfl, vs, h1, h2⟩
  · cases h with | lst h1 h2 => exact ⟨_, _, rfl, R.fr _ _ h1, h2⟩
  · exact ⟨l, vs, rfl, h1, h2⟩
theorem Rv.tup {ds : List D} (R : Rep g F H σ ρ) (h : Rv g F H v (.tup ds)) : ∃ a vs, v = .ref a ∧ H a = some (.tup vs) ∧ F a = some (.tup vs) ∧ Ds g F vs ds := by
  rcases h with h | ⟨l, rfl, h⟩
  · cases h with | tup h1 h2 => exact ⟨_, _, rfl, R.fr _ _ h1, h1, h2⟩
  · exact False.elim h
theorem Rv.dk {ds : List (Key × D)} (R : Rep g F H σ ρ) (h : Rv g F H v (.dk ds)) : ∃ a vs, v = .ref a ∧ Rd H a (.dK vs) ∧ Dk g F vs ds := by
  rcases h with h | ⟨l, rfl, vs, h1, h2⟩
  · cases h with | dk h1 h2 => exact ⟨_, _, rfl, rd_mono R.fr h1, h2⟩
  · exact ⟨l, vs, rfl, .inl h1, h2⟩
theorem Rv.scr {ns : List Int} (R : Rep g F H σ ρ) (h : Rv g F H v (.scr ns)) : ∃ a, v = .ref a ∧ SqL g.K H a (ns.map V.int) := by
  rcases h with h | ⟨l, rfl, h⟩
  · cases h with | scr h1 => exact ⟨_, rfl, R.fr.seq h1⟩
  · exact False.elim h
theorem Rv.flat {d : D} (h : Rv g F H v d) : (∀ i, d = .int i → v = .int i) ∧ (∀ i, d = .bl i → v = .bl i) ∧ (∀ i, d = .str i → v = .str i) ∧ (d = .non → v = .non) := by
  rcases h with h | ⟨l, rfl, h⟩
  · refine ⟨fun i e => ?_, fun i e => ?_, fun i e => ?_, fun e => ?_⟩ <;> (subst e; cases h; rfl)
  · refine ⟨fun i e => ?_, fun i e => ?_, fun i e => ?_, fun e => ?_⟩ <;> (subst e; exact False.elim h)
theorem Rv.int {i : Int} (h : Rv g F H v (.int i)) : v = .int i := h.flat.1 i rfl
theorem Rv.bl {i : Bool} (h : Rv g F H v (.bl i)) : v = .bl i := h.flat.2.1 i rfl
theorem Rv.str {i : Str} (h : Rv g F H v (.str i)) : v = .str i := h.flat.2.2.1 i rfl
theorem Rv.non (h : Rv g F H v .non) : v = .non := h.flat.2.2.2 rfl
end

/-! ### data as PyData -/
mutual
def D.py : D → PyData
  | .non => .none
  | .bl b => .bool b
  | .int i => .int i
  | .str x => .str x
  | .lst xs => .list (D.pys xs)
  | .tup xs => .tuple (D.pys xs)
  | .dk _ => .none
  | .ins _ _ => .none
  | .scr _ => .none
def D.pys : List D → List PyData
  | [] => []
  | x :: xs => D.py x :: D.pys xs
end
mutual
/-- None, bools, ints, texts, lists, tuples -/
def D.pure : D → Bool
  | .non => true
  | .bl _ => true
  | .int _ => true
  | .str _ => true
  | .lst xs => D.pures xs
  | .tup xs => D.pures xs
  | .dk _ => false
  | .ins _ _ => false
  | .scr _ => false
def D.pures : List D → Bool
  | [] => true
  | x :: xs => D.pure x && D.pures xs
end
section
variable {g : Gx} {F H : Hp}
mutual
theorem Dd.dp (s : Same F H) : ∀ {v : V} {d : D}, Dd g F v d → d.pure = true → Dp g.K H v d.py
  | _, _, .non, _ => by rw [D.py]; exact .non
  | _, _, .bl b, _ => by rw [D.py]; exact .bl b
  | _, _, .int b, _ => by rw [D.py]; exact .int b
  | _, _, .str b, _ => by rw [D.py]; exact .str b
  | _, _, .lst h r, e => by rw [D.py]; rw [D.pure] at e; exact .lst (.of (s _ _ h)) (Ds.dp s r e)
  | _, _, .tup h r, e => by rw [D.py]; rw [D.pure] at e; exact .tup (.of (s _ _ h)) (Ds.dp s r e)
  | _, _, .dk _ _, e => by rw [D.pure] at e; cases e
  | _, _, .ins _ _ _, e => by rw [D.pure] at e; cases e
  | _, _, .scr _, e => by rw [D.pure] at e; cases e
theorem Ds.dp (s : Same F H) : ∀ {v : List V} {d : List D}, Ds g F v d → D.pures d = true → DpAll g.K H v (D.pys d)
  | _, _, .nil, _ => by rw [D.pys]; exact .nil
  | _, _, .cons h r, e => by
    rw [D.pures, Bool.and_eq_true] at e
    rw [D.pys]
    exact .cons (Dd.dp s h e.1) (Ds.dp s r e.2)
end
theorem Rv.dp {v : V} {d : D} (s : Same F H) (h : Rv g F H v d) (e : d.pure = true) : Dp g.K H v d.py := by
  rcases h with h | ⟨l, rfl, h⟩
  · exact h.dp s e
  · cases d with
    | lst ds =>
      obtain ⟨vs, h1, h2⟩ := h
      rw [D.py]
      rw [D.pure] at e
      exact .lst (.of h1) (h2.dp s e)
    | dk _ => rw [D.pure] at e; cases e
    | _ => exact False.elim h
end

/-! ### coercions -/
def Rs.d : Rs → D
  | .sh d => d
  | .ow d => d
@[simp] theorem Rs.d_sh (d : D) : (Rs.sh d).d = d := rfl
@[simp] theorem Rs.d_ow (d : D) : (Rs.ow d).d = d := rfl
def gFr (f : GW) : GE := fun ρ => (f ρ).bind fun r ρ1 => .ok r.d ρ1
def gVd (f : GW) : GV := fun ρ => (f ρ).bind fun r ρ1 => .ok (.vd r.d) ρ1
def gSh (f : GE) : GW := fun ρ => (f ρ).bind fun r ρ1 => .ok (.sh r) ρ1
def gVsR (i : Nat) : GV := fun ρ => match ρ[i]? with
  | some (.sh _) => .ok (.vs i) ρ
  | some (.ow _) => .ok (.vs i) ρ
  | some (.mu _) => .ok (.vs i) ρ
  | _ => .no
section
variable {g : Gx} {F H : Hp} {T : Tbs} {X : Cx} {W : WX} {e : Expr}
theorem Own.dd {l : Addr} {d : D} (o : Own g F H l d) : ∃ u, H l = some u ∧ nT u ∧ ∀ F1 : Hp, Same F F1 → F1 l = some u → Dd g F1 (.ref l) d := by
  cases d <;> first
    | exact False.elim o
    | (obtain ⟨vs, h, r⟩ := o; exact ⟨_, h, (fun _ z => nomatch z), fun F1 s e => by first | exact .lst e (r.mono s) | exact .dk (.inl e) (r.mono s)⟩)
/-- what is owned by nobody is frozen -/
theorem Go.frz {σ σ' : L2.St} {ρ ρ' : List Sl} {F' H' : Hp} {l : Addr} {u : HO} (go : Go g σ ρ F H σ' ρ' F' H') (e : H' l = some u) (nF : F' l = none) (no : ¬ Oa σ' ρ' l) (nH : H l = none) (t : nT u) : Go g σ ρ F H σ' ρ' (upd F' l u) H' where
  rep := Go.freeze go.rep e nF no t
  fF := go.fF.trans fun a o h => by rw [upd_ne (ne_of_none h nF)]; exact h
  fz := fun a h n => by
    have q : a ≠ l := fun z => h (by rw [z]; exact nH)
    rw [upd_ne q]; exact go.fz a h n
  kp := go.kp
  oa := go.oa
  th := go.th
  mu := go.mu
theorem AtW.fr {σ : L2.St} {ρ ρ' : List Sl} {r : Rs} {Q : V → Hp → Prop} (h : ∀ v F' H', Go g σ ρ F H σ ρ' F' H' → Dd g F' v r.d → Q v H') : AtW g W (.ok r ρ') σ ρ F H Q := by
  cases r with
  | sh d => exact h
  | ow d =>
    intro l F' H' go nF o no nH
    obtain ⟨u, e, t, k⟩ := o.dd
    exact h _ _ _ (go.frz e nF no nH t) (k _ (fun a o h => by rw [upd_ne (ne_of_none h nF)]; exact h) upd_same)
theorem AtW.of {α : Type} {rel : Rel α V} {σ : L2.St} {ρ : List Sl} {r : Res Rs} {k : Rs → List Sl → Res α} {Q : V → Hp → Prop} (h : At g W rel (r.bind k) σ ρ F H Q)
    (step : ∀ a ρ1, ∃ c, k a ρ1 = .ok c ρ1 ∧ ∀ v F' H', Dd g F' v a.d → rel g F' H' σ ρ1 v c) : AtW g W r σ ρ F H Q := by
  cases r with
  | ok a ρ' =>
    obtain ⟨c, e, q⟩ := step a ρ'
    have h : At g W rel (k a ρ') σ ρ F H Q := h
    rw [e] at h
    exact AtW.fr fun v F' H' go dd => h v F' H' go (q v F' H' dd)
  | ex x ρ' => exact h
  | no => exact h
theorem de_fr {f : GW} (h : DW T X W e f) : DE T X W e (gFr f) := PE.weak h fun σ H Q ⟨F, ρ, R, q⟩ => ⟨F, ρ, R, AtW.of q fun a ρ1 => ⟨_, rfl, fun _ _ _ h => h⟩⟩
theorem dv_vd {f : GW} (h : DW T X W e f) : DV T X W e (gVd f) := PE.weak h fun σ H Q ⟨F, ρ, R, q⟩ => ⟨F, ρ, R, AtW.of q fun a ρ1 => ⟨_, rfl, fun _ _ _ h => h⟩⟩
theorem dw_sh {f : GE} (h : DE T X W e f) : DW T X W e (gSh f) := PE.weak h fun σ H Q ⟨F, ρ, R, q⟩ => ⟨F, ρ, R, At.seqW q fun b a ρ1 F1 H1 go r h => h b F1 H1 (Go.refl go.rep) r⟩
/-- a slot's name, to be read where it stands -/
theorem dv_vs {i : Nat} {x : Str} {pos : Pos} (hN : X.N[i]? = some x := by rfl) (hv : Vis X.env.scope x := by first | exact Or.inl rfl | exact Or.inr (Or.inl rfl) | exact Or.inr (Or.inr rfl)) (hd : (x == ("__debug__" : Str)) = false := by decide)
    (hcd : (x == ("__classdict__" : Str)) = false := by decide) : DV T X W (.Name x pos) (gVsR i) := PE.weak (pe_var hN hv hd hcd) fun σ H Q ⟨F, ρ, R, q⟩ => by
  have q' : At (gx T X) W relV (gVsR i ρ) σ ρ F H Q := q
  unfold gVsR at q'
  cases z : ρ[i]? with
  | none => rw [z] at q'; exact False.elim q'
  | some s =>
    rw [z] at q'
    cases s with
    | no => exact False.elim q'
    | sh d =>
      obtain ⟨v, h1, h2⟩ := R.sh i d z
      exact ⟨v, h1, q' v F H (Go.refl R) h1⟩
    | ow d =>
      obtain ⟨l, h1, h2, h3⟩ := R.ow i d (by simp [oD, z])
      exact ⟨.ref l, h1, q' _ F H (Go.refl R) h1⟩
    | mu d =>
      obtain ⟨l, h1, h2, h3⟩ := R.ow i d (by simp [oD, z])
      exact ⟨.ref l, h1, q' _ F H (Go.refl R) h1⟩
end
end DL
end
section
set_option Elab.async false
set_option linter.all false
set_option maxRecDepth 100000
/-! DLc: rules for expressions on data. -/
namespace DL
open PySem PySem.Spec L2

/-! ### names and constants -/
def gN (i : Nat) : GW := fun ρ => match ρ[i]? with
  | some (.sh d) => .ok (.sh d) ρ
  | _ => .no
/-- an owned slot's list is frozen, and read -/
def gTk (i : Nat) : GW := fun ρ => match ρ[i]? with
  | some (.ow d) => .ok (.sh d) (ρ.set i (.sh d))
  | some (.sh d) => .ok (.sh d) ρ
  | _ => .no
def gC (d : D) : GW := fun ρ => .ok (.sh d) ρ
section
variable {g : Gx} {F H : Hp} {T : Tbs} {X : Cx} {W : WX} {e : Expr} {σ : L2.St} {ρ : List Sl}
theorem oD_set_sh {i j : Nat} {d c : D} (h : oD (ρ.set i (.sh d)) j = some c) : oD ρ j = some c ∧ j ≠ i := by
  by_cases q : i = j
  · subst q
    unfold oD at h
    by_cases hl : i < ρ.length
    · rw [List.getElem?_set_self hl] at h; cases h
    · rw [List.getElem?_eq_none (by rw [List.length_set]; omega)] at h; cases h
  · unfold oD at h ⊢
    rw [List.getElem?_set_ne q] at h
    exact ⟨h, fun z => q z.symm⟩
/-- an owned slot is frozen -/
theorem Go.take (R : Rep g F H σ ρ) {i : Nat} {d : D} (h : ρ[i]? = some (.ow d)) : ∃ l F1, σ[i]? = some (some (.ref l)) ∧ Go g σ ρ F H σ (ρ.set i (.sh d)) F1 H ∧ Dd g F1 (.ref l) d := by
  have ho : oD ρ i = some d := by simp [oD, h]
  obtain ⟨l, h1, h2, h3⟩ := R.ow i d ho
  obtain ⟨u, e, t, k⟩ := h3.dd
  have sF : Same F (upd F l u) := fun a o q => by rw [upd_ne (ne_of_none q h2)]; exact q
  have dd : Dd g (upd F l u) (.ref l) d := k _ sF upd_same
  have hi : i < ρ.length := by
    rcases Nat.lt_or_ge i ρ.length with q | q
    · exact q
    · rw [List.getElem?_eq_none q] at h; cases h
  have hoa : ∀ a, Oa σ (ρ.set i (.sh d)) a → Oa σ ρ a ∧ a ≠ l := fun a ⟨j, c, q1, q2⟩ => by
    obtain ⟨q3, q4⟩ := oD_set_sh q1
    refine ⟨⟨j, c, q3, q2⟩, fun z => ?_⟩
    subst z
    exact q4 (R.ne j i c d a q3 ho q2 h1)
  refine ⟨l, upd F l u, h1, ⟨⟨by rw [R.len, List.length_set], fun j c q => ?_, fun j c q => ?_, fun j k' c c' a q1 q2 q3 q4 => ?_, fun a o q => ?_, ⟨R.tb.1, nt_upd R.tb.2 t⟩⟩, sF, fun a q n => ?_, fun a o q _ _ => q, fun a q => .inl (hoa a q).1, fun a q => q, fun j c q => ?_⟩, dd⟩
  · by_cases z : i = j
    · subst z
      rw [List.getElem?_set_self hi] at q
      cases q
      exact ⟨_, h1, dd⟩
    · rw [List.getElem?_set_ne z] at q
      obtain ⟨v, q1, q2⟩ := R.sh j c q
      exact ⟨v, q1, q2.mono sF⟩
  · obtain ⟨q3, q4⟩ := oD_set_sh q
    obtain ⟨m, e1, e2, e3⟩ := R.ow j c q3
    refine ⟨m, e1, ?_, e3.mono sF rfl⟩
    have z : m ≠ l := fun z => by subst z; exact q4 (R.ne j i c d m q3 ho e1 h1)
    rw [upd_ne z]; exact e2
  · exact R.ne j k' c c' a (oD_set_sh q1).1 (oD_set_sh q2).1 q3 q4
  · by_cases z : a = l
    · subst z; rw [upd_same] at q; cases q; exact e
    · rw [upd_ne z] at q; exact R.fr a o q
  · have z : a ≠ l := fun z => by subst z; exact n ⟨i, d, ho, h1⟩
    rw [upd_ne z]
  · have z : i ≠ j := fun z => by subst z; rw [h] at q; cases q
    exact ⟨⟨c, by rw [List.getElem?_set_ne z]; exact q⟩, rfl⟩
theorem dw_n {i : Nat} {x : Str} {pos : Pos} (hN : X.N[i]? = some x := by rfl) (hv : Vis X.env.scope x := by first | exact Or.inl rfl | exact Or.inr (Or.inl rfl) | exact Or.inr (Or.inr rfl)) (hd : (x == ("__debug__" : Str)) = false := by decide)
    (hcd : (x == ("__classdict__" : Str)) = false := by decide) : DW T X W (.Name x pos) (gN i) := PE.weak (pe_var hN hv hd hcd) fun σ H Q ⟨F, ρ, R, q⟩ => by
  have q' : AtW (gx T X) W (gN i ρ) σ ρ F H Q := q
  unfold gN at q'
  cases z : ρ[i]? with
  | none => rw [z] at q'; exact False.elim q'
  | some s =>
    rw [z] at q'
    cases s with
    | sh d =>
      obtain ⟨v, h1, h2⟩ := R.sh i d z
      exact ⟨v, h1, q' v F H (Go.refl R) h2⟩
    | _ => exact False.elim q'
theorem dw_tk {i : Nat} {x : Str} {pos : Pos} (hN : X.N[i]? = some x := by rfl) (hv : Vis X.env.scope x := by first | exact Or.inl rfl | exact Or.inr (Or.inl rfl) | exact Or.inr (Or.inr rfl)) (hd : (x == ("__debug__" : Str)) = false := by decide)
    (hcd : (x == ("__classdict__" : Str)) = false := by decide) : DW T X W (.Name x pos) (gTk i) := PE.weak (pe_var hN hv hd hcd) fun σ H Q ⟨F, ρ, R, q⟩ => by
  have q' : AtW (gx T X) W (gTk i ρ) σ ρ F H Q := q
  unfold gTk at q'
  cases z : ρ[i]? with
  | none => rw [z] at q'; exact False.elim q'
  | some s =>
    rw [z] at q'
    cases s with
    | sh d =>
      obtain ⟨v, h1, h2⟩ := R.sh i d z
      exact ⟨v, h1, q' v F H (Go.refl R) h2⟩
    | ow d =>
      obtain ⟨l, F1, h1, go, dd⟩ := Go.take R z
      exact ⟨_, h1, q' _ F1 H go dd⟩
    | _ => exact False.elim q'
theorem dw_c {e : Expr} {v : V} {d : D} (h : PE X e (tC v)) (k : ∀ F : Hp, Dd (gx T X) F v d) : DW T X W e (gC d) := PE.weak h fun σ H Q ⟨F, ρ, R, q⟩ => q v F H (Go.refl R) (k F)
theorem dw_int {i j pos} : DW T X W (.Constant (.int i) j pos) (gC (.int i)) := dw_c pe_int fun _ => .int i
theorem dw_bl {b j pos} : DW T X W (.Constant (.bool b) j pos) (gC (.bl b)) := dw_c pe_bl fun _ => .bl b
theorem dw_non {j pos} : DW T X W (.Constant .none j pos) (gC .non) := dw_c pe_non fun _ => .non
theorem dw_str {x j pos} : DW T X W (.Constant (.str x) j pos) (gC (.str x)) := dw_c pe_str fun _ => .str x
/-- a module's whole number -/
theorem dw_gint {x : Str} {i : Int} {pos : Pos} (hg : Gl X x) (h : ∃ u, X.mg x = some u ∧ RelV (.int i) u) (hd : (x == ("__debug__" : Str)) = false := by decide) : DW T X W (.Name x pos) (gC (.int i)) := by
  obtain ⟨u, hm, r⟩ := h
  exact dw_c (pe_glob hg hm r hd) fun _ => .int i
end

/-! ### operators -/
def OpW (T : Tbs) (X : Cx) (f : Value → Value → Sem Value) (φ : D → D → Option Rs) : Prop :=
  ∃ r, OpR X f r ∧ ∀ (W : WX) (σ : L2.St) (ρ : List Sl) (F H : Hp) (x y : V) (d e : D) (c : Rs) (Q : VK), Rep (gx T X) F H σ ρ → Rv (gx T X) F H x d → Rv (gx T X) F H y e → φ d e = some c → AtW (gx T X) W (.ok c ρ) σ ρ F H Q → r x y H Q
def op2 (φ : D → D → Option Rs) (ρ : List Sl) (a b : AV) : Res Rs := match vD ρ a, vD ρ b with
  | some d, some e => Res.of (φ d e) ρ
  | _, _ => .no
def gOp (φ : D → D → Option Rs) (fa fb : GV) : GW := fun ρ => (fa ρ).bind fun a ρ1 => (fb ρ1).bind fun b ρ2 => op2 φ ρ2 a b
section
variable {T : Tbs} {X : Cx} {W : WX} {a b c : Expr} {fa fb : GV} {pos : Pos}
theorem op2_at {r : R2} {φ : D → D → Option Rs} (hs : ∀ (W : WX) (σ : L2.St) (ρ : List Sl) (F H : Hp) (x y : V) (d e : D) (c : Rs) (Q : VK), Rep (gx T X) F H σ ρ → Rv (gx T X) F H x d → Rv (gx T X) F H y e → φ d e = some c → AtW (gx T X) W (.ok c ρ) σ ρ F H Q → r x y H Q)
    {σ : L2.St} {ρ : List Sl} {F H : Hp} {x y : V} {a b : AV} {Q : VK} (R : Rep (gx T X) F H σ ρ) (ra : AvOk (gx T X) F H σ ρ x a) (rb : AvOk (gx T X) F H σ ρ y b) (q : AtW (gx T X) W (op2 φ ρ a b) σ ρ F H Q) : r x y H Q := by
  unfold op2 at q
  cases e1 : vD ρ a with
  | none => rw [e1] at q; exact False.elim q
  | some d =>
    cases e2 : vD ρ b with
    | none => rw [e1, e2] at q; exact False.elim q
    | some e =>
      rw [e1, e2] at q
      have q : AtW (gx T X) W (Res.of (φ d e) ρ) σ ρ F H Q := q
      cases e3 : φ d e with
      | none => rw [e3] at q; exact False.elim q
      | some c =>
        rw [e3] at q
        exact hs W σ ρ F H x y d e c Q R (ra.rv R e1) (rb.rv R e2) e3 q
theorem dw_op {op : Operator} {φ : D → D → Option Rs} (ho : OpW T X (binaryOp op) φ) (ha : DV T X W a fa) (hb : DV T X W b fb) : DW T X W (.BinOp a op b pos) (gOp φ fa fb) := by
  obtain ⟨r, hr, hs⟩ := ho
  exact PE.weak (pe_op hr ha hb) fun σ H Q ⟨F, ρ, R, q⟩ => ⟨F, ρ, R, At.seqW q fun x a ρ1 F1 H1 go ra q1 => ⟨F1, ρ1, go.rep, At.seqW q1 fun y b ρ2 F2 H2 go2 rb q2 => op2_at hs go2.rep (ra.go go2) rb q2⟩⟩
theorem dw_cmp {op : CmpOp} {φ : D → D → Option Rs} (ho : OpW T X (compareOp op) φ) (ha : DV T X W a fa) (hb : DV T X W b fb) (hm : behindInMarks op b = false := by first | exact nomark _ | rfl) : DW T X W (.Compare a [op] [b] pos) (gOp φ fa fb) := by
  obtain ⟨r, hr, hs⟩ := ho
  exact PE.weak (pe_cmpR hr ha hb hm) fun σ H Q ⟨F, ρ, R, q⟩ => ⟨F, ρ, R, At.seqW q fun x a ρ1 F1 H1 go ra q1 => ⟨F1, ρ1, go.rep, At.seqW q1 fun y b ρ2 F2 H2 go2 rb q2 => op2_at hs go2.rep (ra.go go2) rb q2⟩⟩
end

def fAdd : D → D → Option Rs
  | .int i, .int j => some (.sh (.int (i + j)))
  | .lst xs, .lst ys => if xs.length + ys.length ≤ 1000000 then some (.ow (.lst (xs ++ ys))) else none
  | .tup xs, .tup ys => if xs.length + ys.length ≤ 1000000 then some (.sh (.tup (xs ++ ys))) else none
  | _, _ => none
def fSub : D → D → Option Rs
  | .int i, .int j => some (.sh (.int (i - j)))
  | _, _ => none
def small (i : Int) : Bool := decide (-18446744073709551616 < i) && decide (i < 18446744073709551616)
def fMul : D → D → Option Rs
  | .int i, .int j => if small i || small j then some (.sh (.int (i * j))) else none
  | _, _ => none
def fFdiv : D → D → Option Rs
  | .int i, .int j => if 0 < j ∧ j < 1073741824 then some (.sh (.int (i / j))) else none
  | _, _ => none
def fMod : D → D → Option Rs
  | .int i, .int j => if 0 < j then some (.sh (.int (i % j))) else none
  | _, _ => none
def fPow : D → D → Option Rs
  | .int i, .int j => if 0 ≤ j ∧ j ≤ 1000000 ∧ i.natAbs < 18446744073709551616 then some (.sh (.int (i ^ j.toNat))) else none
  | _, _ => none
def fI (p : Int → Int → Bool) : D → D → Option Rs
  | .int i, .int j => some (.sh (.bl (p i j)))
  | _, _ => none
theorem mil : (1000000 : Nat) ≤ sizeLine := by rw [sizeLine_eq]; decide
section
variable {T : Tbs} {X : Cx}
theorem AtW.sh {g : Gx} {W : WX} {σ : L2.St} {ρ : List Sl} {F H : Hp} {d : D} {Q : VK} (R : Rep g F H σ ρ) (q : AtW g W (.ok (.sh d) ρ) σ ρ F H Q) {v : V} (h : Dd g F v d) : Q v H := q v F H (Go.refl R) h
/-- a new frozen cell -/
theorem AtW.new {g : Gx} {W : WX} {σ : L2.St} {ρ : List Sl} {F H : Hp} {d : D} {Q : VK} (R : Rep g F H σ ρ) (q : AtW g W (.ok (.sh d) ρ) σ ρ F H Q) {p : Addr} (n : H p = none) {o : HO} (h : Dd g (upd F p o) (.ref p) d) (t : nT o := by exact fun _ z => nomatch z) : Q (.ref p) (upd H p o) :=
  q _ _ _ (Go.alloc R n o t) h
theorem sameUpd {F : Hp} {p : Addr} {o : HO} (n : F p = none) : Same F (upd F p o) := fun a u e => by rw [upd_ne (ne_of_none e n)]; exact e
theorem Rep.noOa {g : Gx} {σ : L2.St} {ρ : List Sl} {F H : Hp} (R : Rep g F H σ ρ) {p : Addr} (n : H p = none) : ¬ Oa σ ρ p := fun z => (R.oaH z).1 n
/-- a new list that nobody owns yet -/
theorem AtW.newL {g : Gx} {W : WX} {σ : L2.St} {ρ : List Sl} {F H : Hp} {ds : List D} {Q : VK} (R : Rep g F H σ ρ) (q : AtW g W (.ok (.ow (.lst ds)) ρ) σ ρ F H Q) {p : Addr} (n : H p = none) {vs : List V} (h : Ds g F vs ds) : Q (.ref p) (upd H p (.lst vs)) :=
  q p F _ (Go.allocO R n _) (R.fr.free n) ⟨vs, upd_same, h⟩ (R.noOa n) n
theorem ow_i0 {f : Value → Value → Sem Value} {h : Int → Int → Int} {φ : D → D → Option Rs} (ho : OpR X f (rI0 fun i j => .int (h i j))) (e : ∀ d e c, φ d e = some c → ∃ i j, d = .int i ∧ e = .int j ∧ c = .sh (.int (h i j))) : OpW T X f φ :=
  ⟨_, ho, fun W σ ρ F H x y d e' c Q R rx ry hc q => by
    obtain ⟨i, j, rfl, rfl, rfl⟩ := e d e' c hc
    exact ⟨i, j, rx.int, ry.int, AtW.sh R q (.int _)⟩⟩
theorem ow_iC {f : Value → Value → Sem Value} {C : Int → Int → Prop} {h : Int → Int → Int} {φ : D → D → Option Rs} (ho : OpR X f (rI C fun i j => .int (h i j))) (e : ∀ d e c, φ d e = some c → ∃ i j, d = .int i ∧ e = .int j ∧ C i j ∧ c = .sh (.int (h i j))) : OpW T X f φ :=
  ⟨_, ho, fun W σ ρ F H x y d e' c Q R rx ry hc q => by
    obtain ⟨i, j, rfl, rfl, z, rfl⟩ := e d e' c hc
    exact ⟨i, j, rx.int, ry.int, z, AtW.sh R q (.int _)⟩⟩
theorem ow_b0 {f : Value → Value → Sem Value} {p : Int → Int → Bool} (ho : OpR X f (rI0 fun i j => .bl (p i j))) : OpW T X f (fI p) :=
  ⟨_, ho, fun W σ ρ F H x y d e' c Q R rx ry hc q => by
    unfold fI at hc
    split at hc
    · cases hc
      exact ⟨_, _, rx.int, ry.int, AtW.sh R q (.bl _)⟩
    · cases hc⟩
theorem ow_sub : OpW T X (binaryOp .Sub) fSub := ow_i0 op_sub fun d e c h => by
  unfold fSub at h
  split at h
  · cases h; exact ⟨_, _, rfl, rfl, rfl⟩
  · cases h
theorem ow_add : OpW T X (binaryOp .Add) fAdd := by
  refine ⟨_, op_add.or (op_cat.or op_catA), fun W σ ρ F H x y d e' c Q R rx ry hc q => ?_⟩
  unfold fAdd at hc
  split at hc
  · cases hc
    exact .inl ⟨_, _, rx.int, ry.int, AtW.sh R q (.int _)⟩
  · split at hc
    · rename_i hz
      cases hc
      obtain ⟨a, vs, rfl, h1, h2⟩ := rx.lst R
      obtain ⟨b, ws, rfl, h3, h4⟩ := ry.lst R
      refine .inr (.inl ⟨a, b, vs, ws, rfl, rfl, h1, h3, ?_, fun p n => AtW.newL R q n (h2.append h4)⟩)
      rw [h2.length, h4.length]
      exact Nat.le_trans hz mil
    · cases hc
  · split at hc
    · rename_i hz
      cases hc
      obtain ⟨a, vs, rfl, h1, f1, h2⟩ := rx.tup R
      obtain ⟨b, ws, rfl, h3, f3, h4⟩ := ry.tup R
      refine .inr (.inr ⟨a, b, vs, ws, rfl, rfl, .of h1, .of h3, ?_, fun e => ?_, fun _ e => ?_, fun _ _ p n => ?_⟩)
      · rw [h2.length, h4.length]
        exact Nat.le_trans hz mil
      · subst e
        cases h2
        exact AtW.sh R q (.tup f3 h4)
      · subst e
        cases h4
        exact AtW.sh R q (by rw [List.append_nil]; exact .tup f1 h2)
      · have s := sameUpd (o := .tup (vs ++ ws)) (R.fr.free n)
        exact AtW.new R q n (.tup upd_same ((h2.mono s).append (h4.mono s)))
    · cases hc
  · cases hc
theorem small_iff {i : Int} (h : small i = true) : -(2 ^ 64) < i ∧ i < 2 ^ 64 := by
  unfold small at h
  rw [Bool.and_eq_true, decide_eq_true_eq, decide_eq_true_eq] at h
  exact h
theorem ow_mul : OpW T X (binaryOp .Mult) fMul := ow_iC op_mul fun d e c h => by
  unfold fMul at h
  split at h
  · split at h
    · rename_i hz
      cases h
      refine ⟨_, _, rfl, rfl, ?_, rfl⟩
      rcases Bool.or_eq_true _ _ ▸ hz with z | z
      · exact .inl (small_iff z)
      · exact .inr (small_iff z)
    · cases h
  · cases h
theorem ow_fdiv : OpW T X (binaryOp .FloorDiv) fFdiv := ow_iC op_fdiv fun d e c h => by
  unfold fFdiv at h
  split at h
  · split at h
    · rename_i hz
      cases h
      exact ⟨_, _, rfl, rfl, hz, rfl⟩
    · cases h
  · cases h
theorem ow_mod : OpW T X (binaryOp .Mod) fMod := ow_iC op_mod fun d e c h => by
  unfold fMod at h
  split at h
  · split at h
    · rename_i hz
      cases h
      exact ⟨_, _, rfl, rfl, hz, rfl⟩
    · cases h
  · cases h
theorem ow_pow : OpW T X (binaryOp .Pow) fPow := ow_iC op_pow fun d e c h => by
  unfold fPow at h
  split at h
  · split at h
    · rename_i hz
      cases h
      exact ⟨_, _, rfl, rfl, hz, rfl⟩
    · cases h
  · cases h
theorem ow_lt : OpW T X (compareOp .Lt) (fI fun i j => decide (i < j)) := ow_b0 op_lt
theorem ow_le : OpW T X (compareOp .LtE) (fI fun i j => decide (i ≤ j)) := ow_b0 op_le
theorem ow_gt : OpW T X (compareOp .Gt) (fI fun i j => decide (j < i)) := ow_b0 op_gt
theorem ow_ge : OpW T X (compareOp .GtE) (fI fun i j => decide (j ≤ i)) := ow_b0 op_ge
end

/-! ### ==, in -/
/-- plain data, not too deep -/
def D.okp (d : D) : Bool := d.pure && SeqAt.shaped d.py
def D.eqv (d e : D) : Bool := PyData.eqv d.py e.py
def fEq : D → D → Option Rs
  | .int i, .int j => some (.sh (.bl (i == j)))
  | .str i, .str j => some (.sh (.bl (i == j)))
  | d, e => if d.okp && e.okp then some (.sh (.bl (d.eqv e))) else none
def fNe : D → D → Option Rs
  | .int i, .int j => some (.sh (.bl (!(i == j))))
  | .str i, .str j => some (.sh (.bl (!(i == j))))
  | d, e => if d.okp && e.okp then some (.sh (.bl (!d.eqv e))) else none
def inD (d : D) (xs : List D) : Bool := xs.any fun y => y.eqv d
def D.items : D → Option (List D)
  | .lst xs => some xs
  | .tup xs => some xs
  | _ => none
def fIn (neg : Bool) : D → D → Option Rs := fun d e => match e.items with
  | some xs => if d.okp && e.okp then some (.sh (.bl (if neg then !inD d xs else inD d xs))) else none
  | none => none
theorem okp_and {d e : D} (h : (d.okp && e.okp) = true) : (d.pure = true ∧ SeqAt.shaped d.py = true) ∧ (e.pure = true ∧ SeqAt.shaped e.py = true) := by
  unfold D.okp at h
  simp only [Bool.and_eq_true] at h
  exact h
theorem inD_py (d : D) : ∀ xs : List D, ((D.pys xs).any fun z => PyData.eqv z d.py) = inD d xs
  | [] => by rw [D.pys]; rfl
  | x :: xs => by
    rw [D.pys, List.any_cons, inD_py d xs]
    rfl
def rInT (K : PySem.W.Frag) (neg : Bool) : R2 := fun x y H Q => ∃ d ds, Dp K H x d ∧ Dp K H y (.tuple ds) ∧ SeqAt.shaped d = true ∧ SeqAt.shaped (.tuple ds) = true ∧ Q (.bl (if neg then !ds.any fun z => PyData.eqv z d else ds.any fun z => PyData.eqv z d)) H
section
variable {T : Tbs} {X : Cx}
theorem op_inT (hu : X.A.units + 65 < cLine) : OpR X (compareOp .In) (rInT X.K false) := by
  intro pins s σ H x y v u Q I rx ry h
  obtain ⟨d, ds, hd, he, sd, se, q⟩ := h
  obtain ⟨as, r1⟩ := Dp.reads I d x v hd rx
  obtain ⟨bs, r2⟩ := Dp.reads I (.tuple ds) y u he ry
  exact SeqAt.in_tuple_reads r2 r1 (SeqAt.canLay_of_shaped se) (SeqAt.canLay_of_shaped sd) (PyProof.Rows.room_in_shaped sd hu) ⟨.bl _, H, I, rfl, q⟩
theorem op_notInT (hu : X.A.units + 65 < cLine) : OpR X (compareOp .NotIn) (rInT X.K true) := by
  intro pins s σ H x y v u Q I rx ry h
  obtain ⟨d, ds, hd, he, sd, se, q⟩ := h
  obtain ⟨as, r1⟩ := Dp.reads I d x v hd rx
  obtain ⟨bs, r2⟩ := Dp.reads I (.tuple ds) y u he ry
  exact SeqAt.notIn_tuple_reads r2 r1 (SeqAt.canLay_of_shaped se) (SeqAt.canLay_of_shaped sd) (PyProof.Rows.room_in_shaped sd hu) ⟨.bl _, H, I, rfl, q⟩
theorem units65 {k : Nat} (hr : Room k X.A) : X.A.units + 65 < cLine := by have := hr.un; omega
theorem ow_eq {k : Nat} (hr : Room k X.A) : OpW T X (compareOp .Eq) fEq := ⟨_, op_eq.or (op_eqD hr.units), fun W σ ρ F H x y d e' c Q R rx ry hc q => by
  unfold fEq at hc
  split at hc
  · cases hc
    rw [rx.int, ry.int]
    exact .inl ⟨rfl, by rw [dec_int]; exact AtW.sh R q (.bl _)⟩
  · cases hc
    rw [rx.str, ry.str]
    exact .inl ⟨rfl, by rw [dec_str]; exact AtW.sh R q (.bl _)⟩
  · split at hc
    · rename_i hz
      cases hc
      obtain ⟨⟨p1, s1⟩, p2, s2⟩ := okp_and hz
      exact .inr ⟨_, _, rx.dp R.fr p1, ry.dp R.fr p2, s1, s2, AtW.sh R q (.bl _)⟩
    · cases hc⟩
theorem ow_ne {k : Nat} (hr : Room k X.A) : OpW T X (compareOp .NotEq) fNe := ⟨_, op_ne.or (op_neD hr.units), fun W σ ρ F H x y d e' c Q R rx ry hc q => by
  unfold fNe at hc
  split at hc
  · cases hc
    rw [rx.int, ry.int]
    exact .inl ⟨rfl, by rw [dec_int]; exact AtW.sh R q (.bl _)⟩
  · cases hc
    rw [rx.str, ry.str]
    exact .inl ⟨rfl, by rw [dec_str]; exact AtW.sh R q (.bl _)⟩
  · split at hc
    · rename_i hz
      cases hc
      obtain ⟨⟨p1, s1⟩, p2, s2⟩ := okp_and hz
      exact .inr ⟨_, _, rx.dp R.fr p1, ry.dp R.fr p2, s1, s2, AtW.sh R q (.bl _)⟩
    · cases hc⟩
theorem ow_in {k : Nat} (hr : Room k X.A) : OpW T X (compareOp .In) (fIn false) := ⟨_, (op_inD (units65 hr)).or (op_inT (units65 hr)), fun W σ ρ F H x y d e' c Q R rx ry hc q => by
  unfold fIn at hc
  split at hc
  · rename_i xs hx
    split at hc
    · rename_i hz
      cases hc
      obtain ⟨⟨p1, s1⟩, p2, s2⟩ := okp_and hz
      cases e' with
      | lst ys =>
        cases hx
        have h2 := ry.dp R.fr p2
        rw [D.py] at h2 s2
        refine .inl ⟨d.py, _, rx.dp R.fr p1, h2, s1, s2, ?_⟩
        rw [inD_py]
        exact AtW.sh R q (.bl _)
      | tup ys =>
        cases hx
        have h2 := ry.dp R.fr p2
        rw [D.py] at h2 s2
        refine .inr ⟨d.py, _, rx.dp R.fr p1, h2, s1, s2, ?_⟩
        rw [inD_py]
        exact AtW.sh R q (.bl _)
      | _ => cases hx
    · cases hc
  · cases hc⟩
theorem ow_notin {k : Nat} (hr : Room k X.A) : OpW T X (compareOp .NotIn) (fIn true) := ⟨_, (op_notInD (units65 hr)).or (op_notInT (units65 hr)), fun W σ ρ F H x y d e' c Q R rx ry hc q => by
  unfold fIn at hc
  split at hc
  · rename_i xs hx
    split at hc
    · rename_i hz
      cases hc
      obtain ⟨⟨p1, s1⟩, p2, s2⟩ := okp_and hz
      cases e' with
      | lst ys =>
        cases hx
        have h2 := ry.dp R.fr p2
        rw [D.py] at h2 s2
        refine .inl ⟨d.py, _, rx.dp R.fr p1, h2, s1, s2, ?_⟩
        rw [inD_py]
        exact AtW.sh R q (.bl _)
      | tup ys =>
        cases hx
        have h2 := ry.dp R.fr p2
        rw [D.py] at h2 s2
        refine .inr ⟨d.py, _, rx.dp R.fr p1, h2, s1, s2, ?_⟩
        rw [inD_py]
        exact AtW.sh R q (.bl _)
      | _ => cases hx
    · cases hc
  · cases hc⟩
/-- x is None -/
def fIsN (neg : Bool) : D → D → Option Rs := fun d e => match e with
  | .non => some (.sh (.bl (match d with
    | .non => !neg
    | _ => neg)))
  | _ => none
theorem Rv.isN {g : Gx} {F H : Hp} {v : V} {d : D} (h : Rv g F H v d) : decide (v = .non) = (match d with
    | .non => true
    | _ => false) := by
  rcases h with h | ⟨l, rfl, h⟩
  · cases h <;> simp
  · cases d <;> first | exact False.elim h | simp
theorem ow_is : OpW T X (compareOp .Is) (fIsN false) := ⟨_, op_isN, fun W σ ρ F H x y d e' c Q R rx ry hc q => by
  unfold fIsN at hc
  split at hc
  · cases hc
    refine ⟨ry.non, ?_⟩
    rw [rx.isN]
    refine AtW.sh R q ?_
    cases d <;> exact .bl _
  · cases hc⟩
theorem ow_isnot : OpW T X (compareOp .IsNot) (fIsN true) := ⟨_, op_notN, fun W σ ρ F H x y d e' c Q R rx ry hc q => by
  unfold fIsN at hc
  split at hc
  · cases hc
    refine ⟨ry.non, ?_⟩
    rw [rx.isN]
    refine AtW.sh R q ?_
    cases d <;> exact .bl _
  · cases hc⟩
end
end DL
end
section
set_option Elab.async false
set_option linter.all false
set_option maxRecDepth 100000
/-! DLd: operand lists, displays, subscripts, slices, tests, calls of built-ins. -/
namespace DL
open PySem PySem.Spec L2

def frD (ρ : List Sl) : AV → Option D
  | .vd d => some d
  | .vs i => match ρ[i]? with
    | some (.sh d) => some d
    | _ => none
def frDs (ρ : List Sl) : List AV → Option (List D)
  | [] => some []
  | a :: as => (frD ρ a).bind fun d => (frDs ρ as).bind fun ds => some (d :: ds)
def gNil : GA := fun ρ => .ok [] ρ
def gCons (f : GV) (r : GA) : GA := fun ρ => (f ρ).bind fun a ρ1 => (r ρ1).bind fun as ρ2 => .ok (a :: as) ρ2
section
variable {g : Gx} {F H F1 H1 : Hp} {T : Tbs} {X : Cx} {W : WX} {e : Expr} {es : List Expr} {σ : L2.St} {ρ ρ1 : List Sl} {v : V} {d : D}
theorem AvOk.dd {a : AV} (R : Rep g F H σ ρ) (h : AvOk g F H σ ρ v a) (e : frD ρ a = some d) : Dd g F v d := by
  cases a with
  | vd c => cases e; exact h
  | vs i =>
    have h : σ[i]? = some (some v) := h
    cases q : ρ[i]? with
    | none => simp [frD, q] at e
    | some s =>
      cases s with
      | sh c =>
        obtain rfl : c = d := by simpa [frD, q] using e
        obtain ⟨w, h1, h2⟩ := R.sh i c q
        rw [h] at h1; cases h1
        exact h2
      | _ => simp [frD, q] at e
theorem AvsOk.dds {vs : List V} {as : List AV} (R : Rep g F H σ ρ) (h : AvsOk g F H σ ρ vs as) : ∀ {ds : List D}, frDs ρ as = some ds → Ds g F vs ds := by
  induction h with
  | nil => intro ds e; cases e; exact .nil
  | @cons v a vs as h _ ih =>
    intro ds e
    unfold frDs at e
    cases q : frD ρ a with
    | none => rw [q] at e; cases e
    | some d =>
      rw [q] at e
      cases q2 : frDs ρ as with
      | none => rw [q2] at e; cases e
      | some es =>
        rw [q2] at e
        cases e
        exact .cons (h.dd R q) (ih q2)
theorem da_nil : DA T X W [] gNil := PA.weak pa_nil fun σ H Q ⟨F, ρ, R, q⟩ => q [] F H (Go.refl R) .nil
theorem da_cons {f : GV} {r : GA} (ha : DV T X W e f) (hr : DA T X W es r) (hs : starEach (e :: es) X.env = (false, eval e X.env) :: starEach es X.env := by rfl) : DA T X W (e :: es) (gCons f r) :=
  PA.weak (pa_cons ha hr hs) fun σ H Q ⟨F, ρ, R, q⟩ => ⟨F, ρ, R, At.seq q fun v a ρ1 F1 H1 go ra q1 => ⟨F1, ρ1, go.rep, At.seq q1 fun vs as ρ2 F2 H2 go2 rs q2 => At.now q2 (Go.refl go2.rep) (.cons (ra.go go2) rs)⟩⟩
end

/-! ### displays -/
def gTup (f : GA) : GW := fun ρ => (f ρ).bind fun as ρ1 => match frDs ρ1 as with
  | some ds => if ds.length ≤ 1000000 then .ok (.sh (.tup ds)) ρ1 else .no
  | none => .no
def gLst (f : GA) : GW := fun ρ => (f ρ).bind fun as ρ1 => match frDs ρ1 as with
  | some ds => if ds.length ≤ 1000000 then .ok (.ow (.lst ds)) ρ1 else .no
  | none => .no
section
variable {T : Tbs} {X : Cx} {W : WX} {es : List Expr} {pos : Pos} {f : GA}
theorem dw_tup {x1} (h : DA T X W es f) : DW T X W (.Tuple es x1 pos) (gTup f) := PE.weak (pe_tup h) fun σ H Q ⟨F, ρ, R, q⟩ => ⟨F, ρ, R, At.seqW q fun vs as ρ1 F1 H1 go ra q1 => by
  cases e : frDs ρ1 as with
  | none => rw [e] at q1; exact False.elim q1
  | some ds =>
    rw [e] at q1
    have q1 : AtW (gx T X) W (if ds.length ≤ 1000000 then .ok (.sh (.tup ds)) ρ1 else .no) σ ρ1 F1 H1 Q := q1
    split at q1
    · rename_i hz
      have dd := ra.dds go.rep e
      refine ⟨by rw [dd.length]; exact Nat.le_trans hz mil, fun p n => ?_⟩
      exact AtW.new go.rep q1 n (.tup upd_same (dd.mono (sameUpd (go.rep.fr.free n))))
    · exact False.elim q1⟩
theorem dw_lst (h : DA T X W es f) : DW T X W (.List es pos) (gLst f) := PE.weak (pe_lst h) fun σ H Q ⟨F, ρ, R, q⟩ => ⟨F, ρ, R, At.seqW q fun vs as ρ1 F1 H1 go ra q1 => by
  cases e : frDs ρ1 as with
  | none => rw [e] at q1; exact False.elim q1
  | some ds =>
    rw [e] at q1
    have q1 : AtW (gx T X) W (if ds.length ≤ 1000000 then .ok (.ow (.lst ds)) ρ1 else .no) σ ρ1 F1 H1 Q := q1
    split at q1
    · rename_i hz
      have dd := ra.dds go.rep e
      refine ⟨by rw [dd.length]; exact Nat.le_trans hz mil, fun p n => ?_⟩
      exact AtW.newL go.rep q1 n dd
    · exact False.elim q1⟩
end

/-! ### subscripts, slices -/
def fIx : D → D → Option Rs
  | .lst ds, .int i => (atI ds i).map .sh
  | .tup ds, .int i => (atI ds i).map .sh
  | .scr ns, .int i => (atI ns i).map fun n => .sh (.int n)
  | _, _ => none
theorem Ds.atI {g : Gx} {F : Hp} {vs : List V} {ds : List D} {i : Int} {d : D} (h : Ds g F vs ds) (e : L2.atI ds i = some d) : ∃ v, L2.atI vs i = some v ∧ Dd g F v d := by
  unfold L2.atI at e ⊢
  rw [h.length]
  cases q : ixN ds.length i with
  | none => rw [q] at e; cases e
  | some j =>
    rw [q] at e
    exact h.get (show ds[j]? = some d from e)
theorem atI_map {α β : Type} (f : α → β) {xs : List α} {i : Int} {x : α} (e : atI xs i = some x) : atI (xs.map f) i = some (f x) := by
  unfold atI at e ⊢
  rw [List.length_map]
  cases q : ixN xs.length i with
  | none => rw [q] at e; cases e
  | some j =>
    rw [q] at e
    have e : xs[j]? = some x := e
    show (xs.map f)[j]? = _
    rw [List.getElem?_map, e]
    rfl
/-- x[i] = v's reading: an item stays where it is read -/
def DPo (T : Tbs) (X : Cx) (W : WX) (e : Option Expr) (f : List Sl → Res (Option Int)) : Prop := PO X e (tG (gx T X) W (fun _ _ _ _ _ b a => b = a) f)
def gP0 : List Sl → Res (Option Int) := fun ρ => .ok none ρ
def gP1 (f : GV) : List Sl → Res (Option Int) := fun ρ => (f ρ).bind fun a ρ1 => match vD ρ1 a with
  | some (.int i) => .ok (some i) ρ1
  | _ => .no
def cutA {α : Type} (xs : List α) (lo hi : Option Int) : List α := (xs.drop (HT.sIx xs.length 0 lo)).take (HT.sIx xs.length xs.length hi - HT.sIx xs.length 0 lo)
theorem Ds.cut {g : Gx} {F : Hp} {vs : List V} {ds : List D} (h : Ds g F vs ds) (lo hi : Option Int) : Ds g F (cutV vs lo hi) (cutA ds lo hi) := by
  unfold cutV cutA
  rw [h.length]
  exact (h.drop _).take _
def fSl : D → Option Int → Option Int → Option Rs
  | .lst ds, lo, hi => some (.ow (.lst (cutA ds lo hi)))
  | .tup ds, lo, hi => some (.sh (.tup (cutA ds lo hi)))
  | _, _, _ => none
def gSl (fe : GV) (fl fh : List Sl → Res (Option Int)) : GW := fun ρ => (fe ρ).bind fun a ρ1 => (fl ρ1).bind fun lo ρ2 => (fh ρ2).bind fun hi ρ3 => match vD ρ3 a with
  | some d => Res.of (fSl d lo hi) ρ3
  | none => .no
theorem cutA_whole {α : Type} {xs : List α} {lo hi : Option Int} (h : HT.sIx xs.length 0 lo = 0 ∧ HT.sIx xs.length xs.length hi = xs.length) : cutA xs lo hi = xs := by
  unfold cutA
  rw [h.1, h.2, List.drop_zero, Nat.sub_zero, List.take_length]
section
variable {T : Tbs} {X : Cx} {W : WX} {e a b : Expr} {lo hi : Option Expr} {fa fb : GV} {fl fh : List Sl → Res (Option Int)} {pos p2 : Pos}
theorem dpo_none : DPo T X W none gP0 := ⟨fun pins s σ H Q I ⟨F, ρ, R, q⟩ => po_none.run pins s σ H Q I (q none F H (Go.refl R) rfl)⟩
theorem dpo_some (h : DV T X W e fa) : DPo T X W (some e) (gP1 fa) := ⟨fun pins s σ H Q I ⟨F, ρ, R, q⟩ => (po_some h).run pins s σ H Q I ⟨F, ρ, R, At.seq q fun v a ρ1 F1 H1 go ra q1 => by
  cases z : vD ρ1 a with
  | none => rw [z] at q1; exact False.elim q1
  | some d =>
    rw [z] at q1
    have rv := ra.rv go.rep z
    cases d with
    | int i => exact ⟨i, rv.int, At.now q1 (Go.refl go.rep) rfl⟩
    | _ => exact False.elim q1⟩⟩
theorem ix_ok (W : WX) (σ : L2.St) (ρ : List Sl) (F H : Hp) (x y : V) (d e : D) (c : Rs) (Q : VK) (R : Rep (gx T X) F H σ ρ) (rx : Rv (gx T X) F H x d) (ry : Rv (gx T X) F H y e) (hc : fIx d e = some c) (q : AtW (gx T X) W (.ok c ρ) σ ρ F H Q) : rIxL X.K x y H Q ∨ rIxT X.K x y H Q := by
  unfold fIx at hc
  split at hc
  · rename_i ds i
    cases z : L2.atI ds i with
    | none => rw [z] at hc; cases hc
    | some d' =>
      rw [z] at hc
      cases hc
      obtain ⟨a, vs, rfl, h1, h2⟩ := rx.lst R
      obtain ⟨v, e1, e2⟩ := h2.atI z
      exact .inl ⟨a, vs, i, v, rfl, ry.int, .of h1, e1, AtW.sh R q e2⟩
  · rename_i ds i
    cases z : L2.atI ds i with
    | none => rw [z] at hc; cases hc
    | some d' =>
      rw [z] at hc
      cases hc
      obtain ⟨a, vs, rfl, h1, _, h2⟩ := rx.tup R
      obtain ⟨v, e1, e2⟩ := h2.atI z
      exact .inr ⟨a, vs, i, v, rfl, ry.int, .of h1, e1, AtW.sh R q e2⟩
  · rename_i ns i
    cases z : L2.atI ns i with
    | none => rw [z] at hc; cases hc
    | some d' =>
      rw [z] at hc
      cases hc
      obtain ⟨a, rfl, h1⟩ := rx.scr R
      exact .inl ⟨a, _, i, .int d', rfl, ry.int, h1, atI_map V.int z, AtW.sh R q (.int _)⟩
  · cases hc
theorem dw_ix (ha : DV T X W a fa) (hb : DV T X W b fb) (hs : PlainIx b := by intro _ _; rfl) : DW T X W (.Subscript a b pos) (gOp fIx fa fb) :=
  PE.weak (pe_ix (ix_list.or ix_tup) ha hb hs) fun σ H Q ⟨F, ρ, R, q⟩ => ⟨F, ρ, R, At.seqW q fun x a ρ1 F1 H1 go ra q1 => ⟨F1, ρ1, go.rep, At.seqW q1 fun y b ρ2 F2 H2 go2 rb q2 =>
    op2_at (r := fun x y H Q => rIxL X.K x y H Q ∨ rIxT X.K x y H Q) ix_ok go2.rep (ra.go go2) rb q2⟩⟩
theorem dw_sl (ha : DV T X W e fa) (hl : DPo T X W lo fl) (hh : DPo T X W hi fh) : DW T X W (.Subscript e (.Slice lo hi none p2) pos) (gSl fa fl fh) :=
  PE.weak (pe_slice (sl_list.or sl_tupA) ha hl hh) fun σ H Q ⟨F, ρ, R, q⟩ => ⟨F, ρ, R, At.seqW q fun x a ρ1 F1 H1 go ra q1 => ⟨F1, ρ1, go.rep, At.seqW q1 fun y b ρ2 F2 H2 go2 rb q2 => ⟨F2, ρ2, go2.rep, At.seqW q2 fun z c ρ3 F3 H3 go3 rc q3 => by
    subst rb rc
    cases e : vD ρ3 a with
    | none => rw [e] at q3; exact False.elim q3
    | some d =>
      rw [e] at q3
      have q3 : AtW (gx T X) W (Res.of (fSl d y z) ρ3) σ ρ3 F3 H3 Q := q3
      have rv := ((ra.go go2).go go3).rv go3.rep e
      cases d with
      | lst ds =>
        obtain ⟨l, vs, rfl, h1, h2⟩ := rv.lst go3.rep
        exact .inl ⟨l, vs, rfl, .of h1, fun p n => AtW.newL go3.rep q3 n (h2.cut y z)⟩
      | tup ds =>
        obtain ⟨l, vs, rfl, h1, f1, h2⟩ := rv.tup go3.rep
        refine .inr ⟨l, vs, rfl, .of h1, fun w => ?_, fun _ p n => ?_⟩
        · rw [h2.length] at w
          have q3 : AtW (gx T X) W (.ok (.sh (.tup (cutA ds y z))) ρ3) σ ρ3 F3 H3 Q := q3
          rw [cutA_whole w] at q3
          exact AtW.sh go3.rep q3 (.tup f1 h2)
        · exact AtW.new go3.rep q3 n (.tup upd_same ((h2.cut y z).mono (sameUpd (go3.rep.fr.free n))))
      | _ => exact False.elim q3⟩⟩⟩
end

/-! ### tests -/
def gB (f : GW) : GB := fun ρ => (f ρ).bind fun r ρ1 => match r.d with
  | .bl b => .ok b ρ1
  | _ => .no
def gNot (f : GB) : GB := fun ρ => (f ρ).bind fun b ρ1 => .ok (!b) ρ1
def gAnd (f h : GB) : GB := fun ρ => (f ρ).bind fun b ρ1 => if b = true then h ρ1 else .ok false ρ1
def gOr (f h : GB) : GB := fun ρ => (f ρ).bind fun b ρ1 => if b = true then .ok true ρ1 else h ρ1
def gNotV (f : GW) : GW := fun ρ => (f ρ).bind fun r ρ1 => match r.d with
  | .bl b => .ok (.sh (.bl (!b))) ρ1
  | _ => .no
def gAndV (f h : GW) : GW := fun ρ => (f ρ).bind fun r ρ1 => match r.d with
  | .bl true => h ρ1
  | .bl false => .ok (.sh (.bl false)) ρ1
  | _ => .no
def gOrV (f h : GW) : GW := fun ρ => (f ρ).bind fun r ρ1 => match r.d with
  | .bl true => .ok (.sh (.bl true)) ρ1
  | .bl false => h ρ1
  | _ => .no
def gIf (t : GB) (f h : GW) : GW := fun ρ => (t ρ).bind fun b ρ1 => if b = true then f ρ1 else h ρ1
def D.tru : D → Option Bool
  | .non => some false
  | .bl b => some b
  | .int i => some (i != 0)
  | .lst xs => some (!xs.isEmpty)
  | .tup xs => some (!xs.isEmpty)
  | _ => none
def gTru (f : GV) : GB := fun ρ => (f ρ).bind fun a ρ1 => match vD ρ1 a with
  | some d => Res.of d.tru ρ1
  | none => .no
def DTw (T : Tbs) (X : Cx) (W : WX) (e : Expr) (f : GB) : Prop := PW X e (tG (gx T X) W relB f)
/-- from an expression's frozen value on -/
theorem AtW.ofB {β : Type} {g : Gx} {W : WX} {rel : Rel β β} {σ : L2.St} {ρ : List Sl} {F H : Hp} {r : Res Rs} {k : D → List Sl → Res β} {Q : β → Hp → Prop} {P : V → Hp → Prop} (h : At g W rel (r.bind fun r ρ1 => k r.d ρ1) σ ρ F H Q)
    (step : ∀ v d ρ1 F1 H1, Go g σ ρ F H σ ρ1 F1 H1 → Dd g F1 v d → At g W rel (k d ρ1) σ ρ1 F1 H1 Q → P v H1) : AtW g W r σ ρ F H P := by
  cases r with
  | ok a ρ' =>
    have h : At g W rel (k a.d ρ') σ ρ F H Q := h
    exact AtW.fr fun v F' H' go dd => step v _ _ F' H' go dd (h.rebase go)
  | ex x ρ' => exact h
  | no => exact h
theorem AtW.ofW {g : Gx} {W : WX} {σ : L2.St} {ρ : List Sl} {F H : Hp} {r : Res Rs} {k : D → List Sl → Res Rs} {Q P : V → Hp → Prop} (h : AtW g W (r.bind fun r ρ1 => k r.d ρ1) σ ρ F H Q)
    (step : ∀ v d ρ1 F1 H1, Go g σ ρ F H σ ρ1 F1 H1 → Dd g F1 v d → AtW g W (k d ρ1) σ ρ1 F1 H1 Q → P v H1) : AtW g W r σ ρ F H P := by
  cases r with
  | ok a ρ' =>
    have h : AtW g W (k a.d ρ') σ ρ F H Q := h
    exact AtW.fr fun v F' H' go dd => step v _ _ F' H' go dd (h.rebase go)
  | ex x ρ' => exact h
  | no => exact h
section
variable {T : Tbs} {X : Cx} {W : WX} {e a b c : Expr} {rest : List Expr} {f h : GW} {t u : GB} {fa : GV} {pos : Pos}
theorem gB_at {σ : L2.St} {ρ : List Sl} {F H : Hp} {r : Res Rs} {Q : Bool → Hp → Prop} (q : At (gx T X) W relB (r.bind fun r ρ1 => match r.d with
  | .bl b => .ok b ρ1
  | _ => .no) σ ρ F H Q) : AtW (gx T X) W r σ ρ F H fun x H1 => ∃ c, x = .bl c ∧ Q c H1 := by
  refine AtW.ofB (k := fun d ρ1 => match d with
    | .bl b => .ok b ρ1
    | _ => .no) q fun v d ρ1 F1 H1 go dd q1 => ?_
  cases dd with
  | bl b => exact ⟨b, rfl, At.now q1 (Go.refl go.rep) rfl⟩
  | _ => exact False.elim q1
theorem dt_val (hf : DW T X W e f) (he : ∀ whole, isTrue e X.env whole = (do let v ← whole; standAt e.pos; holding [v] (truthy v)) := by intro _; rfl) : DT T X W e (gB f) :=
  PT.weak (pt_val hf he) fun σ H Q ⟨F, ρ, R, q⟩ => ⟨F, ρ, R, gB_at q⟩
theorem dt_cmp {op : CmpOp} {φ : D → D → Option Rs} {fa fb : GV} (ho : OpW T X (compareOp op) φ) (ha : DV T X W a fa) (hb : DV T X W b fb) (hm : behindInMarks op b = false := by first | exact nomark _ | rfl) : DT T X W (.Compare a [op] [b] pos) (gB (gOp φ fa fb)) := by
  obtain ⟨r, hr, hs⟩ := ho
  refine PT.weak (pt_cmpR hr ha hb hm) fun σ H Q ⟨F, ρ, R, q⟩ => ?_
  have q2 := gB_at q
  exact ⟨F, ρ, R, At.seqW q2 fun x a ρ1 F1 H1 go ra q1 => ⟨F1, ρ1, go.rep, At.seqW q1 fun y b ρ2 F2 H2 go2 rb q2 => op2_at hs go2.rep (ra.go go2) rb q2⟩⟩
theorem dt_not (h : DT T X W a t) : DT T X W (.UnaryOp .Not a pos) (gNot t) := PT.weak (pt_not h) fun σ H Q ⟨F, ρ, R, q⟩ => ⟨F, ρ, R, At.seq q fun c a ρ1 F1 H1 go e q1 => by
  subst e
  exact At.now q1 (Go.refl go.rep) rfl⟩
theorem dtw_and1 (h : DT T X W a t) : DTw T X W (.BoolOp .And [a] pos) t := pw_and1 h
theorem dtw_or1 (h : DT T X W a t) : DTw T X W (.BoolOp .Or [a] pos) t := pw_or1 h
theorem dtw_and (h : DT T X W a t) (k : DTw T X W (.BoolOp .And (b :: rest) pos) u) : DTw T X W (.BoolOp .And (a :: b :: rest) pos) (gAnd t u) := PW.weak (pw_and h k) fun σ H Q ⟨F, ρ, R, q⟩ => ⟨F, ρ, R, At.seq q fun c a ρ1 F1 H1 go e q1 => by
  subst e
  cases c with
  | true => exact ⟨F1, ρ1, go.rep, q1⟩
  | false => exact At.now q1 (Go.refl go.rep) rfl⟩
theorem dtw_or (h : DT T X W a t) (k : DTw T X W (.BoolOp .Or (b :: rest) pos) u) : DTw T X W (.BoolOp .Or (a :: b :: rest) pos) (gOr t u) := PW.weak (pw_or h k) fun σ H Q ⟨F, ρ, R, q⟩ => ⟨F, ρ, R, At.seq q fun c a ρ1 F1 H1 go e q1 => by
  subst e
  cases c with
  | false => exact ⟨F1, ρ1, go.rep, q1⟩
  | true => exact At.now q1 (Go.refl go.rep) rfl⟩
theorem dt_w (h : DTw T X W a t) : DT T X W a t := PW.pt h
theorem dt_tru (h : DV T X W a fa) (he : ∀ whole, isTrue a X.env whole = (do let v ← whole; standAt a.pos; holding [v] (truthy v)) := by intro _; rfl) : DT T X W a (gTru fa) := PT.weak (pt_truth h he) fun σ H Q ⟨F, ρ, R, q⟩ => ⟨F, ρ, R, At.seq q fun v a ρ1 F1 H1 go ra q1 => by
  cases z : vD ρ1 a with
  | none => rw [z] at q1; exact False.elim q1
  | some d =>
    rw [z] at q1
    have q1 : At (gx T X) W relB (Res.of d.tru ρ1) σ ρ1 F1 H1 Q := q1
    have rv := ra.rv go.rep z
    cases d with
    | non => exact ⟨false, by rw [rv.non]; rfl, At.now q1 (Go.refl go.rep) rfl⟩
    | bl b => exact ⟨b, by rw [rv.bl]; rfl, At.now q1 (Go.refl go.rep) rfl⟩
    | int i => exact ⟨i != 0, by rw [rv.int]; rfl, At.now q1 (Go.refl go.rep) rfl⟩
    | lst ds =>
      obtain ⟨l, vs, rfl, h1, h2⟩ := rv.lst go.rep
      refine ⟨!ds.isEmpty, .inl ⟨vs, .of h1, ?_⟩, At.now q1 (Go.refl go.rep) rfl⟩
      cases h2 <;> rfl
    | tup ds =>
      obtain ⟨l, vs, rfl, h1, _, h2⟩ := rv.tup go.rep
      refine ⟨!ds.isEmpty, .inr (.inl ⟨vs, .of h1, ?_⟩), At.now q1 (Go.refl go.rep) rfl⟩
      cases h2 <;> rfl
    | _ => exact False.elim q1⟩
theorem dw_not (hf : DW T X W a f) : DW T X W (.UnaryOp .Not a pos) (gNotV f) := PE.weak (pe_not hf) fun σ H Q ⟨F, ρ, R, q⟩ => ⟨F, ρ, R, AtW.ofW (k := fun d ρ1 => match d with
    | .bl b => .ok (.sh (.bl (!b))) ρ1
    | _ => .no) q fun v d ρ1 F1 H1 go dd q1 => by
  cases dd with
  | bl b => exact ⟨b, rfl, AtW.sh go.rep q1 (.bl _)⟩
  | _ => exact False.elim q1⟩
theorem dw_one {op} (hf : DW T X W a f) : DW T X W (.BoolOp op [a] pos) f := pe_one hf
theorem dw_and (hf : DW T X W a f) (hh : DW T X W (.BoolOp .And (b :: rest) pos) h) : DW T X W (.BoolOp .And (a :: b :: rest) pos) (gAndV f h) := PE.weak (pe_and hf hh) fun σ H Q ⟨F, ρ, R, q⟩ => ⟨F, ρ, R, AtW.ofW (k := fun d ρ1 => match d with
    | .bl true => h ρ1
    | .bl false => .ok (.sh (.bl false)) ρ1
    | _ => .no) q fun v d ρ1 F1 H1 go dd q1 => by
  cases dd with
  | bl b =>
    refine ⟨b, rfl, ?_⟩
    cases b with
    | true => exact ⟨F1, ρ1, go.rep, q1⟩
    | false => exact AtW.sh go.rep q1 (.bl _)
  | _ => exact False.elim q1⟩
theorem dw_or (hf : DW T X W a f) (hh : DW T X W (.BoolOp .Or (b :: rest) pos) h) : DW T X W (.BoolOp .Or (a :: b :: rest) pos) (gOrV f h) := PE.weak (pe_or hf hh) fun σ H Q ⟨F, ρ, R, q⟩ => ⟨F, ρ, R, AtW.ofW (k := fun d ρ1 => match d with
    | .bl true => .ok (.sh (.bl true)) ρ1
    | .bl false => h ρ1
    | _ => .no) q fun v d ρ1 F1 H1 go dd q1 => by
  cases dd with
  | bl b =>
    refine ⟨b, rfl, ?_⟩
    cases b with
    | false => exact ⟨F1, ρ1, go.rep, q1⟩
    | true => exact AtW.sh go.rep q1 (.bl _)
  | _ => exact False.elim q1⟩
theorem dw_if (ht : DT T X W c t) (hf : DW T X W a f) (hh : DW T X W b h) : DW T X W (.IfExp c a b pos) (gIf t f h) := PE.weak (pe_ifExp ht hf hh) fun σ H Q ⟨F, ρ, R, q⟩ => ⟨F, ρ, R, At.seqW q fun c a ρ1 F1 H1 go e q1 => by
  subst e
  cases c with
  | true => exact ⟨F1, ρ1, go.rep, q1⟩
  | false => exact ⟨F1, ρ1, go.rep, q1⟩⟩
end

/-! ### calls of built-ins -/
def CallW (T : Tbs) (X : Cx) (f : Value) (φ : List D → Option Rs) : Prop :=
  ∃ r, CallR X f r ∧ ∀ (W : WX) (σ : L2.St) (ρ : List Sl) (F H : Hp) (xs : List V) (ds : List D) (c : Rs) (Q : VK), Rep (gx T X) F H σ ρ → Rvs (gx T X) F H xs ds → φ ds = some c → AtW (gx T X) W (.ok c ρ) σ ρ F H Q → r xs H Q
def gCall (φ : List D → Option Rs) (fa : GA) : GW := fun ρ => (fa ρ).bind fun as ρ1 => match vDs ρ1 as with
  | some ds => Res.of (φ ds) ρ1
  | none => .no
section
variable {T : Tbs} {X : Cx} {W : WX} {e : Expr} {es : List Expr} {fa : GA} {φ : List D → Option Rs} {x : Str} {p pos : Pos} {id Ty : String}
theorem gCall_at {r : List V → Hp → VK → Prop} (hs : ∀ (W : WX) (σ : L2.St) (ρ : List Sl) (F H : Hp) (xs : List V) (ds : List D) (c : Rs) (Q : VK), Rep (gx T X) F H σ ρ → Rvs (gx T X) F H xs ds → φ ds = some c → AtW (gx T X) W (.ok c ρ) σ ρ F H Q → r xs H Q)
    {σ : L2.St} {H : Hp} {Q : VK} (h : tW (gx T X) W (gCall φ fa) σ H Q) : tCB r (tG (gx T X) W relA fa) σ H Q := by
  obtain ⟨F, ρ, R, q⟩ := h
  refine ⟨F, ρ, R, At.seqW q fun vs as ρ1 F1 H1 go ra q1 => ?_⟩
  cases z : vDs ρ1 as with
  | none => rw [z] at q1; exact False.elim q1
  | some ds =>
    rw [z] at q1
    have q1 : AtW (gx T X) W (Res.of (φ ds) ρ1) σ ρ1 F1 H1 Q := q1
    cases z2 : φ ds with
    | none => rw [z2] at q1; exact False.elim q1
    | some c =>
      rw [z2] at q1
      exact hs W σ ρ1 F1 H1 vs ds c Q go.rep (ra.rvs go.rep z) z2 q1
theorem dw_callB (hc : CallW T X (.builtin id) φ) (hg : Gl X x) (hm : X.mg x = none) (hv : bootBuiltins x = some (.builtin id)) (ha : DA T X W (e :: es) fa) (hn : x ≠ "__name__" := by decide) (hdb : (x == ("__debug__" : Str)) = false := by decide)
    (he : starEach (e :: es) X.env = (false, eval e X.env) :: starEach es X.env := by rfl) (hpl : (backTo pos (starEach es X.env)).any (·.1) = false := by rfl) : DW T X W (.Call (.Name x p) (e :: es) [] pos) (gCall φ fa) := by
  obtain ⟨r, hr, hs⟩ := hc
  exact PE.weak (pe_callB hr hg hm hv ha hn hdb he hpl) fun σ H Q q => gCall_at hs q
theorem dw_callT (hc : CallW T X (.type Ty) φ) (hg : Gl X x) (hm : X.mg x = none) (hv : bootBuiltins x = some (.type Ty)) (ha : DA T X W (e :: es) fa) (hn : x ≠ "__name__" := by decide) (hdb : (x == ("__debug__" : Str)) = false := by decide)
    (he : starEach (e :: es) X.env = (false, eval e X.env) :: starEach es X.env := by rfl) (hpl : (backTo pos (starEach es X.env)).any (·.1) = false := by rfl) : DW T X W (.Call (.Name x p) (e :: es) [] pos) (gCall φ fa) := by
  obtain ⟨r, hr, hs⟩ := hc
  exact PE.weak (pe_callTy hr hg hm hv ha hn hdb he hpl) fun σ H Q q => gCall_at hs q
end
def fLen : List D → Option Rs
  | [.lst ds] => some (.sh (.int ds.length))
  | [.tup ds] => some (.sh (.int ds.length))
  | [.scr ns] => some (.sh (.int ns.length))
  | _ => none
def fAbs : List D → Option Rs
  | [.int i] => some (.sh (.int (if i < 0 then -i else i)))
  | _ => none
def fInt : List D → Option Rs
  | [.int i] => some (.sh (.int i))
  | [.bl b] => some (.sh (.int (if b then 1 else 0)))
  | _ => none
def fList : List D → Option Rs
  | [.lst ds] => some (.ow (.lst ds))
  | [.tup ds] => some (.ow (.lst ds))
  | _ => none
def fTuple : List D → Option Rs
  | [.lst ds] => some (.sh (.tup ds))
  | [.tup ds] => some (.sh (.tup ds))
  | _ => none
def D.ints : List D → Option (List Int)
  | [] => some []
  | .int i :: r => (D.ints r).map (i :: ·)
  | _ => none
def D.bls : List D → Option (List Bool)
  | [] => some []
  | .bl i :: r => (D.bls r).map (i :: ·)
  | _ => none
theorem ints_map : ∀ {ds : List D} {ns : List Int}, D.ints ds = some ns → ds = ns.map D.int
  | [], _, e => by cases e; rfl
  | d :: r, ns, e => by
    cases d <;> first
      | (unfold D.ints at e
         cases q : D.ints r with
         | none => rw [q] at e; cases e
         | some ms =>
           rw [q] at e
           cases e
           rw [ints_map q]
           rfl)
      | (unfold D.ints at e; cases e)
theorem bls_map : ∀ {ds : List D} {ns : List Bool}, D.bls ds = some ns → ds = ns.map D.bl
  | [], _, e => by cases e; rfl
  | d :: r, ns, e => by
    cases d <;> first
      | (unfold D.bls at e
         cases q : D.bls r with
         | none => rw [q] at e; cases e
         | some ms =>
           rw [q] at e
           cases e
           rw [bls_map q]
           rfl)
      | (unfold D.bls at e; cases e)
@[simp] theorem ints_of : ∀ ns : List Int, D.ints (ns.map D.int) = some ns
  | [] => rfl
  | n :: ns => by rw [List.map_cons, D.ints, ints_of ns]; rfl
@[simp] theorem bls_of : ∀ ns : List Bool, D.bls (ns.map D.bl) = some ns
  | [] => rfl
  | n :: ns => by rw [List.map_cons, D.bls, bls_of ns]; rfl
def fSum : List D → Option Rs
  | [.lst ds] => (D.ints ds).map fun ns => .sh (.int ns.sum)
  | _ => none
def maxL : List Int → Int
  | [] => 0
  | [x] => x
  | x :: y :: r => if x < maxL (y :: r) then maxL (y :: r) else x
def minL : List Int → Int
  | [] => 0
  | [x] => x
  | x :: y :: r => if minL (y :: r) < x then minL (y :: r) else x
def fMax : List D → Option Rs
  | [.int i, .int j] => some (.sh (.int (if j > i then j else i)))
  | [.lst ds] => match D.ints ds with
    | some (n :: ns) => some (.sh (.int (maxL (n :: ns))))
    | _ => none
  | _ => none
def fMin : List D → Option Rs
  | [.int i, .int j] => some (.sh (.int (if j < i then j else i)))
  | [.lst ds] => match D.ints ds with
    | some (n :: ns) => some (.sh (.int (minL (n :: ns))))
    | _ => none
  | _ => none
def fAny : List D → Option Rs
  | [.lst ds] => (D.bls ds).map fun ns => .sh (.bl (ns.any id))
  | _ => none
def fAll : List D → Option Rs
  | [.lst ds] => (D.bls ds).map fun ns => .sh (.bl (ns.all id))
  | _ => none
theorem maxL_is : ∀ ns : List Int, ns ≠ [] → maxL ns ∈ ns ∧ ∀ y ∈ ns, y ≤ maxL ns
  | [], h => absurd rfl h
  | [x], _ => ⟨by simp [maxL], fun y hy => by simp at hy; subst hy; simp [maxL]⟩
  | x :: y :: r, _ => by
    obtain ⟨h1, h2⟩ := maxL_is (y :: r) (by simp)
    unfold maxL
    split
    · refine ⟨List.mem_cons_of_mem _ h1, fun z hz => ?_⟩
      rcases List.mem_cons.mp hz with rfl | hz
      · omega
      · exact h2 z hz
    · refine ⟨List.mem_cons_self, fun z hz => ?_⟩
      rcases List.mem_cons.mp hz with rfl | hz
      · omega
      · have := h2 z hz
        omega
theorem minL_is : ∀ ns : List Int, ns ≠ [] → minL ns ∈ ns ∧ ∀ y ∈ ns, minL ns ≤ y
  | [], h => absurd rfl h
  | [x], _ => ⟨by simp [minL], fun y hy => by simp at hy; subst hy; simp [minL]⟩
  | x :: y :: r, _ => by
    obtain ⟨h1, h2⟩ := minL_is (y :: r) (by simp)
    unfold minL
    split
    · refine ⟨List.mem_cons_of_mem _ h1, fun z hz => ?_⟩
      rcases List.mem_cons.mp hz with rfl | hz
      · omega
      · exact h2 z hz
    · refine ⟨List.mem_cons_self, fun z hz => ?_⟩
      rcases List.mem_cons.mp hz with rfl | hz
      · omega
      · have := h2 z hz
        omega
section
variable {T : Tbs} {X : Cx} {g : Gx} {F H : Hp} {σ : L2.St} {ρ : List Sl}
theorem Rvs.one {xs : List V} {d : D} (h : Rvs g F H xs [d]) : ∃ x, xs = [x] ∧ Rv g F H x d := by
  cases h with
  | cons h t => cases t; exact ⟨_, rfl, h⟩
theorem Rvs.two {xs : List V} {d e : D} (h : Rvs g F H xs [d, e]) : ∃ x y, xs = [x, y] ∧ Rv g F H x d ∧ Rv g F H y e := by
  cases h with
  | cons h t =>
    obtain ⟨y, rfl, h2⟩ := t.one
    exact ⟨_, _, rfl, h, h2⟩
theorem cw_len : CallW T X (.builtin "len") fLen := ⟨_, call_len_seq, fun W σ ρ F H xs ds c Q R rs hc q => by
  unfold fLen at hc
  split at hc
  · cases hc
    obtain ⟨x, rfl, h⟩ := rs.one
    obtain ⟨a, vs, rfl, h1, h2⟩ := h.lst R
    refine ⟨a, vs, rfl, .inl (.of h1), ?_⟩
    rw [h2.length]
    exact AtW.sh R q (.int _)
  · cases hc
    obtain ⟨x, rfl, h⟩ := rs.one
    obtain ⟨a, vs, rfl, h1, _, h2⟩ := h.tup R
    refine ⟨a, vs, rfl, .inr (.of h1), ?_⟩
    rw [h2.length]
    exact AtW.sh R q (.int _)
  · cases hc
    obtain ⟨x, rfl, h⟩ := rs.one
    obtain ⟨a, rfl, h1⟩ := h.scr R
    refine ⟨a, _, rfl, .inl h1, ?_⟩
    rw [List.length_map]
    exact AtW.sh R q (.int _)
  · cases hc⟩
theorem cw_abs : CallW T X (.builtin "abs") fAbs := ⟨_, call_abs, fun W σ ρ F H xs ds c Q R rs hc q => by
  unfold fAbs at hc
  split at hc
  · cases hc
    obtain ⟨x, rfl, h⟩ := rs.one
    exact ⟨_, by rw [h.int], AtW.sh R q (.int _)⟩
  · cases hc⟩
theorem cw_int : CallW T X (.type "int") fInt := ⟨_, call_int1, fun W σ ρ F H xs ds c Q R rs hc q => by
  unfold fInt at hc
  split at hc
  · cases hc
    obtain ⟨x, rfl, h⟩ := rs.one
    exact .inl ⟨_, by rw [h.int], AtW.sh R q (.int _)⟩
  · cases hc
    obtain ⟨x, rfl, h⟩ := rs.one
    exact .inr ⟨_, by rw [h.bl], AtW.sh R q (.int _)⟩
  · cases hc⟩
theorem cw_list : CallW T X (.type "list") fList := ⟨_, call_list_of, fun W σ ρ F H xs ds c Q R rs hc q => by
  unfold fList at hc
  split at hc
  · cases hc
    obtain ⟨x, rfl, h⟩ := rs.one
    obtain ⟨a, vs, rfl, h1, h2⟩ := h.lst R
    exact ⟨a, vs, rfl, .inl (.of h1), fun p n => AtW.newL R q n h2⟩
  · cases hc
    obtain ⟨x, rfl, h⟩ := rs.one
    obtain ⟨a, vs, rfl, h1, _, h2⟩ := h.tup R
    exact ⟨a, vs, rfl, .inr (.of h1), fun p n => AtW.newL R q n h2⟩
  · cases hc⟩
theorem cw_tuple : CallW T X (.type "tuple") fTuple := ⟨_, call_tuple_of, fun W σ ρ F H xs ds c Q R rs hc q => by
  unfold fTuple at hc
  split at hc
  · cases hc
    obtain ⟨x, rfl, h⟩ := rs.one
    obtain ⟨a, vs, rfl, h1, h2⟩ := h.lst R
    exact ⟨a, vs, rfl, .inl ⟨.of h1, fun p n => AtW.new R q n (.tup upd_same (h2.mono (sameUpd (R.fr.free n))))⟩⟩
  · cases hc
    obtain ⟨x, rfl, h⟩ := rs.one
    obtain ⟨a, vs, rfl, h1, f1, h2⟩ := h.tup R
    exact ⟨a, vs, rfl, .inr ⟨.of h1, AtW.sh R q (.tup f1 h2)⟩⟩
  · cases hc⟩
theorem cw_sum (hc : X.calm = true) : CallW T X (.builtin "sum") fSum := ⟨_, cr_sum hc, fun W σ ρ F H xs ds c Q R rs hc q => by
  unfold fSum at hc
  split at hc
  · rename_i es
    cases z : D.ints es with
    | none => rw [z] at hc; cases hc
    | some ns =>
      rw [z] at hc
      cases hc
      obtain ⟨x, rfl, h⟩ := rs.one
      obtain ⟨a, vs, rfl, h1, h2⟩ := h.lst R
      rw [ints_map z] at h2
      rw [h2.ints] at h1
      exact ⟨a, ns, rfl, .of h1, AtW.sh R q (.int _)⟩
  · cases hc⟩
theorem cw_max (hc : X.calm = true) : CallW T X (.builtin "max") fMax := ⟨_, CallR.or (call_max2 hc) (cr_max hc), fun W σ ρ F H xs ds c Q R rs hc q => by
  unfold fMax at hc
  split at hc
  · cases hc
    obtain ⟨x, y, rfl, h, h'⟩ := rs.two
    exact .inl ⟨_, _, by rw [h.int, h'.int], AtW.sh R q (.int _)⟩
  · rename_i es
    split at hc
    · rename_i n ns z
      cases hc
      obtain ⟨x, rfl, h⟩ := rs.one
      obtain ⟨a, vs, rfl, h1, h2⟩ := h.lst R
      rw [ints_map z] at h2
      rw [h2.ints] at h1
      refine .inr ⟨a, n :: ns, rfl, .of h1, Nat.succ_pos _, fun m hm hb => ?_⟩
      obtain ⟨e1, e2⟩ := maxL_is (n :: ns) (by simp)
      have e : m = maxL (n :: ns) := by
        have := hb _ e1
        have := e2 _ hm
        omega
      rw [e]
      exact AtW.sh R q (.int _)
    · cases hc
  · cases hc⟩
theorem cw_min (hc : X.calm = true) : CallW T X (.builtin "min") fMin := ⟨_, CallR.or (call_min2 hc) (cr_min hc), fun W σ ρ F H xs ds c Q R rs hc q => by
  unfold fMin at hc
  split at hc
  · cases hc
    obtain ⟨x, y, rfl, h, h'⟩ := rs.two
    exact .inl ⟨_, _, by rw [h.int, h'.int], AtW.sh R q (.int _)⟩
  · rename_i es
    split at hc
    · rename_i n ns z
      cases hc
      obtain ⟨x, rfl, h⟩ := rs.one
      obtain ⟨a, vs, rfl, h1, h2⟩ := h.lst R
      rw [ints_map z] at h2
      rw [h2.ints] at h1
      refine .inr ⟨a, n :: ns, rfl, .of h1, Nat.succ_pos _, fun m hm hb => ?_⟩
      obtain ⟨e1, e2⟩ := minL_is (n :: ns) (by simp)
      have e : m = minL (n :: ns) := by
        have := hb _ e1
        have := e2 _ hm
        omega
      rw [e]
      exact AtW.sh R q (.int _)
    · cases hc
  · cases hc⟩
theorem cw_any (hc : X.calm = true) : CallW T X (.builtin "any") fAny := ⟨_, cr_any hc, fun W σ ρ F H xs ds c Q R rs hc q => by
  unfold fAny at hc
  split at hc
  · rename_i es
    cases z : D.bls es with
    | none => rw [z] at hc; cases hc
    | some ns =>
      rw [z] at hc
      cases hc
      obtain ⟨x, rfl, h⟩ := rs.one
      obtain ⟨a, vs, rfl, h1, h2⟩ := h.lst R
      rw [bls_map z] at h2
      rw [h2.bls] at h1
      exact ⟨a, ns, rfl, .of h1, AtW.sh R q (.bl _)⟩
  · cases hc⟩
theorem cw_all (hc : X.calm = true) : CallW T X (.builtin "all") fAll := ⟨_, cr_all hc, fun W σ ρ F H xs ds c Q R rs hc q => by
  unfold fAll at hc
  split at hc
  · rename_i es
    cases z : D.bls es with
    | none => rw [z] at hc; cases hc
    | some ns =>
      rw [z] at hc
      cases hc
      obtain ⟨x, rfl, h⟩ := rs.one
      obtain ⟨a, vs, rfl, h1, h2⟩ := h.lst R
      rw [bls_map z] at h2
      rw [h2.bls] at h1
      exact ⟨a, ns, rfl, .of h1, AtW.sh R q (.bl _)⟩
  · cases hc⟩
end
end DL
end
section
set_option Elab.async false
set_option linter.all false
set_option maxRecDepth 100000
/-! DLe: targets, what is walked, comprehensions. -/
namespace DL
open PySem PySem.Spec L2

/-! ### slots stored -/
/-- tables are as they were where no cell of theirs is changed -/
theorem tabs_upd {T : Tbs} {H : Hp} {p : Addr} {o : HO} (t : LamX.Tabs T H) (h : H p = none ∨ (∃ ws, H p = some (.lst ws)) ∨ ∃ ws, H p = some (.dK ws)) : LamX.Tabs T (upd H p o) := by
  have keep : ∀ a u, H a = some u → (∀ ws, u ≠ .lst ws) → (∀ ws, u ≠ .dK ws) → upd H p o a = some u := fun a u e n m => by
    have q : a ≠ p := fun z => by
      rw [z] at e
      rcases h with h | ⟨ws, h⟩ | ⟨ws, h⟩
      · rw [h] at e; cases e
      · rw [h] at e; cases e; exact n ws rfl
      · rw [h] at e; cases e; exact m ws rfl
    rw [upd_ne q]; exact e
  intro q hq
  obtain ⟨ps, h1, h2, h3⟩ := t q hq
  refine ⟨ps, keep _ _ h1 (fun _ z => nomatch z) (fun _ z => nomatch z), h2, fun pos cv hc => ?_⟩
  obtain ⟨c, e1, e2⟩ := h3 pos cv hc
  exact ⟨c, e1, keep _ _ e2 (fun _ z => nomatch (show HO.ext _ = _ from z)) (fun _ z => nomatch (show HO.ext _ = _ from z))⟩
section
variable {g : Gx} {F H F0 H0 : Hp} {σ σ0 : L2.St} {ρ ρ0 : List Sl} {v : V} {d : D}
theorem oD_lt {i : Nat} (h : oD ρ i = some d) : i < ρ.length := by
  rcases Nat.lt_or_ge i ρ.length with q | q
  · exact q
  · unfold oD at h; rw [List.getElem?_eq_none q] at h; cases h
theorem oD_set_ne {i j : Nat} {s : Sl} (h : i ≠ j) : oD (ρ.set i s) j = oD ρ j := by
  unfold oD; rw [List.getElem?_set_ne h]
theorem oD_set_no {i j : Nat} {s : Sl} {c : D} (hs : ∀ e, s ≠ .ow e ∧ s ≠ .mu e) (h : oD (ρ.set i s) j = some c) : oD ρ j = some c ∧ j ≠ i := by
  by_cases q : i = j
  · subst q
    have hl := oD_lt h
    rw [List.length_set] at hl
    unfold oD at h
    rw [List.getElem?_set_self hl] at h
    cases s with
    | ow e => exact absurd rfl (hs e).1
    | mu e => exact absurd rfl (hs e).2
    | _ => cases h
  · rw [oD_set_ne q] at h
    exact ⟨h, fun z => q z.symm⟩
/-- a slot is stored with frozen data -/
theorem Go.set (R : Rep g F H σ ρ) {i : Nat} (hm : ∀ e, ρ[i]? ≠ some (.mu e)) (h : Dd g F v d) : Go g σ ρ F H (σ.set i (some v)) (ρ.set i (.sh d)) F H := by
  have hs : ∀ e, Sl.sh d ≠ .ow e ∧ Sl.sh d ≠ .mu e := fun e => ⟨(fun z => nomatch z), (fun z => nomatch z)⟩
  have old : ∀ {j : Nat} {c : D} {a : Addr}, oD (ρ.set i (.sh d)) j = some c → (σ.set i (some v))[j]? = some (some (.ref a)) → oD ρ j = some c ∧ σ[j]? = some (some (.ref a)) := fun {j c a} q1 q2 => by
    obtain ⟨q3, q4⟩ := oD_set_no hs q1
    rw [List.getElem?_set_ne (Ne.symm q4)] at q2
    exact ⟨q3, q2⟩
  refine ⟨⟨by rw [List.length_set, List.length_set]; exact R.len, fun j c q => ?_, fun j c q => ?_, fun j k c c' a q1 q2 q3 q4 => ?_, R.fr, R.tb⟩, Same.refl _, fun _ _ _ => rfl, fun _ _ h _ _ => h, fun a ⟨j, c, q1, q2⟩ => ?_, fun _ h => h, fun j c q => ?_⟩
  · by_cases z : i = j
    · subst z
      have hl : i < ρ.length := by
        rcases Nat.lt_or_ge i ρ.length with w | w
        · exact w
        · rw [List.getElem?_eq_none (by rw [List.length_set]; exact w)] at q; cases q
      rw [List.getElem?_set_self hl] at q
      cases q
      exact ⟨v, List.getElem?_set_self (by rw [R.len]; exact hl), h⟩
    · rw [List.getElem?_set_ne z] at q ⊢
      exact R.sh j c q
  · obtain ⟨q3, q4⟩ := oD_set_no hs q
    rw [List.getElem?_set_ne (Ne.symm q4)]
    exact R.ow j c q3
  · obtain ⟨e1, e2⟩ := old q1 q3
    obtain ⟨e3, e4⟩ := old q2 q4
    exact R.ne j k c c' a e1 e3 e2 e4
  · obtain ⟨e1, e2⟩ := old q1 q2
    exact .inl ⟨j, c, e1, e2⟩
  · have z : i ≠ j := fun z => by subst z; exact hm c q
    exact ⟨⟨c, by rw [List.getElem?_set_ne z]; exact q⟩, by rw [List.getElem?_set_ne z]⟩
/-- a slot takes what nobody owns -/
theorem Go.setO (go : Go g σ0 ρ0 F0 H0 σ ρ F H) {i : Nat} (hm : ∀ e, ρ[i]? ≠ some (.mu e)) {l : Addr} (nF : F l = none) (o : Own g F H l d) (no : ¬ Oa σ ρ l) (n0 : H0 l = none) : Go g σ0 ρ0 F0 H0 (σ.set i (some (.ref l))) (ρ.set i (.ow d)) F H := by
  have R := go.rep
  have old : ∀ {j : Nat} {c : D} {a : Addr}, i ≠ j → oD (ρ.set i (.ow d)) j = some c → (σ.set i (some (.ref l)))[j]? = some (some (.ref a)) → oD ρ j = some c ∧ σ[j]? = some (some (.ref a)) := fun {j c a} z q1 q2 => by
    rw [oD_set_ne z] at q1
    rw [List.getElem?_set_ne z] at q2
    exact ⟨q1, q2⟩
  have self : ∀ {c : D}, oD (ρ.set i (.ow d)) i = some c → c = d ∧ (σ.set i (some (.ref l)))[i]? = some (some (.ref l)) := fun {c} q => by
    have hl := oD_lt q
    rw [List.length_set] at hl
    unfold oD at q
    rw [List.getElem?_set_self hl] at q
    cases q
    exact ⟨rfl, List.getElem?_set_self (by rw [R.len]; exact hl)⟩
  refine ⟨⟨by rw [List.length_set, List.length_set]; exact R.len, fun j c q => ?_, fun j c q => ?_, fun j k c c' a q1 q2 q3 q4 => ?_, R.fr, R.tb⟩, go.fF, go.fz, go.kp, fun a ⟨j, c, q1, q2⟩ => ?_, go.th, fun j c q => ?_⟩
  · by_cases z : i = j
    · subst z
      by_cases hl : i < ρ.length
      · rw [List.getElem?_set_self hl] at q; cases q
      · rw [List.getElem?_eq_none (by rw [List.length_set]; omega)] at q; cases q
    · rw [List.getElem?_set_ne z] at q ⊢
      exact R.sh j c q
  · by_cases z : i = j
    · subst z
      obtain ⟨rfl, e⟩ := self q
      exact ⟨l, e, nF, o⟩
    · rw [oD_set_ne z] at q
      rw [List.getElem?_set_ne z]
      exact R.ow j c q
  · by_cases z : i = j
    · subst z
      obtain ⟨rfl, e⟩ := self q1
      rw [e] at q3; cases q3
      by_cases y : i = k
      · exact y
      · obtain ⟨e1, e2⟩ := old y q2 q4
        exact absurd ⟨k, c', e1, e2⟩ no
    · obtain ⟨e1, e2⟩ := old z q1 q3
      by_cases y : i = k
      · subst y
        obtain ⟨rfl, e⟩ := self q2
        rw [e] at q4; cases q4
        exact absurd ⟨j, c, e1, e2⟩ no
      · obtain ⟨e3, e4⟩ := old y q2 q4
        exact R.ne j k c c' a e1 e3 e2 e4
  · by_cases z : i = j
    · subst z
      obtain ⟨rfl, e⟩ := self q1
      rw [e] at q2; cases q2
      exact .inr n0
    · obtain ⟨e1, e2⟩ := old z q1 q2
      exact go.oa a ⟨j, c, e1, e2⟩
  · obtain ⟨⟨c', q1⟩, q2⟩ := go.mu j c q
    have z : i ≠ j := fun z => by subst z; exact hm c' q1
    exact ⟨⟨c', by rw [List.getElem?_set_ne z]; exact q1⟩, by rw [List.getElem?_set_ne z]; exact q2⟩
/-- a slot is forgotten -/
theorem Go.clear (go : Go g σ0 ρ0 F0 H0 σ ρ F H) {i : Nat} (hm : ∀ e, ρ0[i]? ≠ some (.mu e)) : Go g σ0 ρ0 F0 H0 (σ.set i none) (ρ.set i .no) F H := by
  have R := go.rep
  have hs : ∀ e, Sl.no ≠ .ow e ∧ Sl.no ≠ .mu e := fun e => ⟨(fun z => nomatch z), (fun z => nomatch z)⟩
  have old : ∀ {j : Nat} {c : D} {a : Addr}, oD (ρ.set i .no) j = some c → (σ.set i none)[j]? = some (some (.ref a)) → oD ρ j = some c ∧ σ[j]? = some (some (.ref a)) := fun {j c a} q1 q2 => by
    obtain ⟨q3, q4⟩ := oD_set_no hs q1
    rw [List.getElem?_set_ne (Ne.symm q4)] at q2
    exact ⟨q3, q2⟩
  refine ⟨⟨by rw [List.length_set, List.length_set]; exact R.len, fun j c q => ?_, fun j c q => ?_, fun j k c c' a q1 q2 q3 q4 => ?_, R.fr, R.tb⟩, go.fF, go.fz, go.kp, fun a ⟨j, c, q1, q2⟩ => ?_, go.th, fun j c q => ?_⟩
  · by_cases z : i = j
    · subst z
      by_cases hl : i < ρ.length
      · rw [List.getElem?_set_self hl] at q; cases q
      · rw [List.getElem?_eq_none (by rw [List.length_set]; omega)] at q; cases q
    · rw [List.getElem?_set_ne z] at q ⊢
      exact R.sh j c q
  · obtain ⟨q3, q4⟩ := oD_set_no hs q
    rw [List.getElem?_set_ne (Ne.symm q4)]
    exact R.ow j c q3
  · obtain ⟨e1, e2⟩ := old q1 q3
    obtain ⟨e3, e4⟩ := old q2 q4
    exact R.ne j k c c' a e1 e3 e2 e4
  · obtain ⟨e1, e2⟩ := old q1 q2
    exact go.oa a ⟨j, c, e1, e2⟩
  · have z : i ≠ j := fun z => by subst z; exact hm c q
    obtain ⟨⟨c', q1⟩, q2⟩ := go.mu j c q
    exact ⟨⟨c', by rw [List.getElem?_set_ne z]; exact q1⟩, by rw [List.getElem?_set_ne z]; exact q2⟩
end
def wipeS (ρ : List Sl) : List Nat → List Sl
  | [] => ρ
  | v :: vs => (wipeS ρ vs).set v .no
def unw (ρ ρ' : List Sl) : List Nat → List Sl
  | [] => ρ'
  | v :: vs => match ρ[v]? with
    | some s => (unw ρ ρ' vs).set v s
    | none => unw ρ ρ' vs
theorem wipeS_length (ρ : List Sl) : ∀ vs : List Nat, (wipeS ρ vs).length = ρ.length
  | [] => rfl
  | v :: vs => by unfold wipeS; rw [List.length_set, wipeS_length ρ vs]
theorem wipeS_not {ρ : List Sl} {i : Nat} : ∀ {vs : List Nat}, i ∉ vs → (wipeS ρ vs)[i]? = ρ[i]?
  | [], _ => rfl
  | v :: vs, h => by
    unfold wipeS
    rw [List.getElem?_set_ne (fun z => h (by rw [z]; exact List.mem_cons_self)), wipeS_not fun z => h (List.mem_cons_of_mem _ z)]
theorem wipeS_in {ρ : List Sl} {i : Nat} : ∀ {vs : List Nat}, i ∈ vs → (wipeS ρ vs)[i]? = none ∨ (wipeS ρ vs)[i]? = some .no
  | v :: vs, h => by
    unfold wipeS
    by_cases z : v = i
    · subst z
      by_cases hl : v < (wipeS ρ vs).length
      · exact .inr (List.getElem?_set_self hl)
      · exact .inl (List.getElem?_eq_none (by rw [List.length_set]; omega))
    · rw [List.getElem?_set_ne z]
      rcases List.mem_cons.mp h with q | q
      · exact absurd q.symm z
      · exact wipeS_in q
theorem wipe_not {σ : L2.St} {i : Nat} : ∀ {vs : List Nat}, i ∉ vs → (wipe σ vs)[i]? = σ[i]?
  | [], _ => rfl
  | v :: vs, h => by
    unfold wipe
    rw [List.getElem?_set_ne (fun z => h (by rw [z]; exact List.mem_cons_self)), wipe_not fun z => h (List.mem_cons_of_mem _ z)]
theorem wipe_same {σ σ' : L2.St} {sl : List Nat} (hl : σ'.length = σ.length) (h : ∀ j, j ∉ sl → σ'[j]? = σ[j]?) : ∀ {vs : List Nat}, (∀ j ∈ sl, j ∈ vs) → wipe σ' vs = wipe σ vs := by
  intro vs hs
  refine List.ext_getElem? fun j => ?_
  by_cases q : j ∈ vs
  · have key : ∀ (τ : L2.St) (ws : List Nat), j ∈ ws → (wipe τ ws)[j]? = if j < τ.length then some none else none := by
      intro τ ws
      induction ws with
      | nil => intro h; cases h
      | cons w ws ih =>
        intro hj
        unfold wipe
        by_cases z : w = j
        · subst z
          by_cases hl : w < τ.length
          · rw [List.getElem?_set_self (by rw [wipe_length]; exact hl), if_pos hl]
          · rw [List.getElem?_eq_none (by rw [List.length_set, wipe_length]; omega), if_neg hl]
        · rw [List.getElem?_set_ne z]
          rcases List.mem_cons.mp hj with q | q
          · exact absurd q.symm z
          · exact ih q
    rw [key σ' vs q, key σ vs q, hl]
  · rw [wipe_not q, wipe_not q]
    exact h j fun z => q (hs j z)
theorem unw_length {ρ ρ' : List Sl} : ∀ {vs : List Nat}, (unw ρ ρ' vs).length = ρ'.length
  | [] => rfl
  | v :: vs => by
    unfold unw
    cases ρ[v]? with
    | none => exact unw_length (vs := vs)
    | some s => show (List.set _ _ _).length = _; rw [List.length_set]; exact unw_length (vs := vs)
theorem unw_not {ρ ρ' : List Sl} {i : Nat} : ∀ {vs : List Nat}, i ∉ vs → (unw ρ ρ' vs)[i]? = ρ'[i]?
  | [], _ => rfl
  | v :: vs, h => by
    unfold unw
    have ih := unw_not (ρ := ρ) (ρ' := ρ') (vs := vs) fun z => h (List.mem_cons_of_mem _ z)
    cases ρ[v]? with
    | none => exact ih
    | some s =>
      show (List.set _ _ _)[i]? = _
      rw [List.getElem?_set_ne (fun z => h (by rw [z]; exact List.mem_cons_self)), ih]
theorem unw_in {ρ ρ' : List Sl} {i : Nat} (hl : ρ'.length = ρ.length) : ∀ {vs : List Nat}, i ∈ vs → (unw ρ ρ' vs)[i]? = ρ[i]?
  | v :: vs, h => by
    unfold unw
    by_cases z : v = i
    · subst z
      cases q : ρ[v]? with
      | none =>
        have : ρ.length ≤ v := List.getElem?_eq_none_iff.mp q
        show (unw ρ ρ' vs)[v]? = none
        exact List.getElem?_eq_none (by rw [unw_length]; omega)
      | some s =>
        have hv : v < ρ.length := (List.getElem?_eq_some_iff.mp q).1
        show (List.set _ _ _)[v]? = _
        exact List.getElem?_set_self (by rw [unw_length]; omega)
    · have hi : i ∈ vs := by
        rcases List.mem_cons.mp h with q | q
        · exact absurd q.symm z
        · exact q
      have ih := unw_in (ρ := ρ) (ρ' := ρ') hl hi
      cases ρ[v]? with
      | none => exact ih
      | some s =>
        show (List.set _ _ _)[i]? = _
        rw [List.getElem?_set_ne z, ih]
section
variable {g : Gx} {F H F0 H0 F1 H1 : Hp} {σ σ0 : L2.St} {ρ ρ0 ρ1 ρe : List Sl}
theorem Rep.clear (R : Rep g F H σ ρ) (i : Nat) : Rep g F H (σ.set i none) (ρ.set i .no) := by
  have hs : ∀ e, Sl.no ≠ .ow e ∧ Sl.no ≠ .mu e := fun e => ⟨(fun z => nomatch z), (fun z => nomatch z)⟩
  have old : ∀ {j : Nat} {c : D} {a : Addr}, oD (ρ.set i .no) j = some c → (σ.set i none)[j]? = some (some (.ref a)) → oD ρ j = some c ∧ σ[j]? = some (some (.ref a)) := fun {j c a} q1 q2 => by
    obtain ⟨q3, q4⟩ := oD_set_no hs q1
    rw [List.getElem?_set_ne (Ne.symm q4)] at q2
    exact ⟨q3, q2⟩
  refine ⟨by rw [List.length_set, List.length_set]; exact R.len, fun j c q => ?_, fun j c q => ?_, fun j k c c' a q1 q2 q3 q4 => ?_, R.fr, R.tb⟩
  · by_cases z : i = j
    · subst z
      by_cases hl : i < ρ.length
      · rw [List.getElem?_set_self hl] at q; cases q
      · rw [List.getElem?_eq_none (by rw [List.length_set]; omega)] at q; cases q
    · rw [List.getElem?_set_ne z] at q ⊢
      exact R.sh j c q
  · obtain ⟨q3, q4⟩ := oD_set_no hs q
    rw [List.getElem?_set_ne (Ne.symm q4)]
    exact R.ow j c q3
  · obtain ⟨e1, e2⟩ := old q1 q3
    obtain ⟨e3, e4⟩ := old q2 q4
    exact R.ne j k c c' a e1 e3 e2 e4
theorem Rep.wiped (R : Rep g F H σ ρ) : ∀ vs : List Nat, Rep g F H (wipe σ vs) (wipeS ρ vs)
  | [] => R
  | v :: vs => (Rep.wiped R vs).clear v
theorem Go.wiped (go : Go g σ0 ρ0 F0 H0 σ ρ F H) : ∀ {vs : List Nat}, (∀ i ∈ vs, ∀ e, ρ0[i]? ≠ some (.mu e)) → Go g σ0 ρ0 F0 H0 (wipe σ vs) (wipeS ρ vs) F H
  | [], _ => go
  | v :: vs, h => (Go.wiped go (vs := vs) fun i hi => h i (List.mem_cons_of_mem _ hi)).clear (h v List.mem_cons_self)
/-- behind a block: its own names are as they were ahead of it -/
theorem Go.unwipe (R : Rep g F1 H1 σ ρ1) {vs : List Nat} (go : Go g (wipe σ vs) (wipeS ρ1 vs) F1 H1 (wipe σ vs) ρe F H) : Go g σ ρ1 F1 H1 σ (unw ρ1 ρe vs) F H := by
  have hl : ρe.length = ρ1.length := by
    have := go.rep.len
    rw [wipe_length, R.len] at this
    exact this.symm
  -- who is owned in the block is owned outside, by a name that is not the block's
  have oo : ∀ {a : Addr}, Oa (wipe σ vs) (wipeS ρ1 vs) a → ∃ j d, j ∉ vs ∧ oD ρ1 j = some d ∧ σ[j]? = some (some (.ref a)) := fun {a} ⟨j, d, q1, q2⟩ => by
    have hj : j ∉ vs := fun z => by
      rcases wipeS_in (ρ := ρ1) z with w | w <;> (unfold oD at q1; rw [w] at q1; cases q1)
    refine ⟨j, d, hj, ?_, ?_⟩
    · unfold oD at q1 ⊢; rw [wipeS_not hj] at q1; exact q1
    · rw [wipe_not hj] at q2; exact q2
  have oi : ∀ {a : Addr}, Oa (wipe σ vs) (wipeS ρ1 vs) a → Oa σ ρ1 a := fun {a} h => let ⟨j, d, _, h2, h3⟩ := oo h; ⟨j, d, h2, h3⟩
  have inD : ∀ {i : Nat}, i ∈ vs → oD (unw ρ1 ρe vs) i = oD ρ1 i := fun {i} h => by unfold oD; rw [unw_in hl h]
  have noD : ∀ {i : Nat}, i ∉ vs → oD (unw ρ1 ρe vs) i = oD ρe i := fun {i} h => by unfold oD; rw [unw_not h]
  -- an own name's cell is not the block's
  have apart : ∀ {i : Nat} {d : D} {l : Addr}, i ∈ vs → oD ρ1 i = some d → σ[i]? = some (some (.ref l)) → ¬ Oa (wipe σ vs) (wipeS ρ1 vs) l := fun {i d l} h e1 e2 z => by
    obtain ⟨j, d', hj, q1, q2⟩ := oo z
    exact hj (by rw [← R.ne i j d d' l e1 q1 e2 q2]; exact h)
  have end_oo : ∀ {j : Nat} {d : D} {l : Addr}, j ∉ vs → oD ρe j = some d → σ[j]? = some (some (.ref l)) → Oa (wipe σ vs) (wipeS ρ1 vs) l ∨ H1 l = none := fun {j d l} h e1 e2 => go.oa l ⟨j, d, e1, by rw [wipe_not h]; exact e2⟩
  refine ⟨⟨by rw [unw_length, hl]; exact R.len, fun i d q => ?_, fun i d q => ?_, fun i j d e l q1 q2 q3 q4 => ?_, go.rep.fr, go.rep.tb⟩, go.fF, fun a h n => go.fz a h fun z => n (oi z), fun a o h t n => go.kp a o h t fun z => n (oi z), fun a ⟨i, d, q1, q2⟩ => ?_, go.th, fun i d q => ?_⟩
  · by_cases z : i ∈ vs
    · rw [unw_in hl z] at q
      obtain ⟨v, h1, h2⟩ := R.sh i d q
      exact ⟨v, h1, h2.mono go.fF⟩
    · rw [unw_not z] at q
      obtain ⟨v, h1, h2⟩ := go.rep.sh i d q
      rw [wipe_not z] at h1
      exact ⟨v, h1, h2⟩
  · by_cases z : i ∈ vs
    · rw [inD z] at q
      obtain ⟨l, h1, h2, h3⟩ := R.ow i d q
      obtain ⟨u, hu, ht⟩ := h3.hs
      have na := apart z q h1
      have hn : H1 l ≠ none := by rw [hu]; exact (fun e => nomatch e)
      exact ⟨l, h1, (go.fz l hn na).trans h2, h3.mono go.fF ((go.kp l u hu ht na).trans hu.symm)⟩
    · rw [noD z] at q
      obtain ⟨l, h1, h2, h3⟩ := go.rep.ow i d q
      rw [wipe_not z] at h1
      exact ⟨l, h1, h2, h3⟩
  · by_cases z : i ∈ vs
    · rw [inD z] at q1
      by_cases y : j ∈ vs
      · rw [inD y] at q2
        exact R.ne i j d e l q1 q2 q3 q4
      · rw [noD y] at q2
        rcases end_oo y q2 q4 with w | w
        · exact absurd w (apart z q1 q3)
        · exact absurd w (R.oaH ⟨i, d, q1, q3⟩).1
    · rw [noD z] at q1
      by_cases y : j ∈ vs
      · rw [inD y] at q2
        rcases end_oo z q1 q3 with w | w
        · exact absurd w (apart y q2 q4)
        · exact absurd w (R.oaH ⟨j, e, q2, q4⟩).1
      · rw [noD y] at q2
        exact go.rep.ne i j d e l q1 q2 (by rw [wipe_not z]; exact q3) (by rw [wipe_not y]; exact q4)
  · by_cases z : i ∈ vs
    · rw [inD z] at q1
      exact .inl ⟨i, d, q1, q2⟩
    · rw [noD z] at q1
      rcases end_oo z q1 q2 with w | w
      · exact .inl (oi w)
      · exact .inr w
  · by_cases z : i ∈ vs
    · exact ⟨⟨d, by rw [unw_in hl z]; exact q⟩, rfl⟩
    · obtain ⟨⟨d', q1⟩, _⟩ := go.mu i d (by rw [wipeS_not z]; exact q)
      exact ⟨⟨d', by rw [unw_not z]; exact q1⟩, rfl⟩
/-- a cell laid since the start, that nobody owns, is changed -/
theorem Go.side (go : Go g σ0 ρ0 F0 H0 σ ρ F H) {p : Addr} (n0 : H0 p = none) (nF : F p = none) (no : ¬ Oa σ ρ p) (o : HO) (lst : H p = none ∨ (∃ ws, H p = some (.lst ws)) ∨ ∃ ws, H p = some (.dK ws)) : Go g σ0 ρ0 F0 H0 σ ρ F (upd H p o) where
  rep := go.rep.ext (Same.refl _) (fun a u e => by
    have q : a ≠ p := fun z => by rw [z, nF] at e; cases e
    rw [upd_ne q]; exact go.rep.fr a u e) (fun a h => by
    have q : a ≠ p := fun z => no (by rw [← z]; exact h)
    exact ⟨(go.rep.oaH h).2, by rw [upd_ne q]⟩) ⟨tabs_upd go.rep.tb.1 lst, go.rep.tb.2⟩
  fF := go.fF
  fz := go.fz
  kp := fun a u h t n => by
    have q : a ≠ p := fun z => by rw [z, n0] at h; cases h
    rw [upd_ne q]; exact go.kp a u h t n
  oa := go.oa
  th := fun a h => by
    by_cases q : a = p
    · rw [q]; rw [upd_same]; exact (fun e => nomatch e)
    · rw [upd_ne q]; exact go.th a h
  mu := go.mu
end

/-! ### targets -/
abbrev HT1 := D → List Sl → Option (List Sl)
def tTg (g : Gx) (sl : List Nat) (h : HT1) : TG := fun v σ H Q => ∃ F ρ d, Rep g F H σ ρ ∧ Dd g F v d ∧ match h d ρ with
  | some ρ' => ∀ σ', (∀ j, j ∉ sl → σ'[j]? = σ[j]?) → σ'.length = σ.length → Go g σ ρ F H σ' ρ' F H → Q σ' H
  | none => False
def tTgs (g : Gx) (sl : List Nat) (h : List D → List Sl → Option (List Sl)) : TGs := fun vs σ H Q => ∃ F ρ ds, Rep g F H σ ρ ∧ Ds g F vs ds ∧ match h ds ρ with
  | some ρ' => ∀ σ', (∀ j, j ∉ sl → σ'[j]? = σ[j]?) → σ'.length = σ.length → Go g σ ρ F H σ' ρ' F H → Q σ' H
  | none => False
def DG (T : Tbs) (X : Cx) (sl : List Nat) (e : Expr) (h : HT1) : Prop := PG X e (tTg (gx T X) sl h)
def DGs (T : Tbs) (X : Cx) (sl : List Nat) (es : List Expr) (h : List D → List Sl → Option (List Sl)) : Prop := PGs X es (tTgs (gx T X) sl h)
def hN (i : Nat) : HT1 := fun d ρ => match ρ[i]? with
  | some (.mu _) => none
  | some _ => some (ρ.set i (.sh d))
  | none => none
def hNil : List D → List Sl → Option (List Sl) := fun ds ρ => match ds with
  | [] => some ρ
  | _ => none
def hCons (h : HT1) (k : List D → List Sl → Option (List Sl)) : List D → List Sl → Option (List Sl) := fun ds ρ => match ds with
  | d :: r => (h d ρ).bind (k r)
  | [] => none
def hT (n : Nat) (k : List D → List Sl → Option (List Sl)) : HT1 := fun d ρ => match d.items with
  | some ds => if ds.length = n then k ds ρ else none
  | none => none
theorem PG.orG {X : Cx} {e : Expr} {t t' : TG} (h : PG X e t) (h' : PG X e t') : PG X e (fun v σ H Q => t v σ H Q ∨ t' v σ H Q) :=
  ⟨fun pins s σ H v u Q I r q => q.elim (h.run pins s σ H v u Q I r) (h'.run pins s σ H v u Q I r)⟩
section
variable {T : Tbs} {X : Cx} {pos : Pos}
theorem dg_n {i : Nat} {x : Str} (hNd : X.N.Nodup) (hi : X.N[i]? = some x) (hx : Loc X.env.scope x) (hf : X.fn x = true ∨ X.env.scope.names.lookup x = some .local := by first | exact .inl rfl | exact .inr rfl | assumption) : DG T X [i] (.Name x pos) (hN i) :=
  PG.weak (pg_name hNd hi hx hf) fun v σ H Q ⟨F, ρ, d, R, dd, q⟩ => by
    have q : match hN i d ρ with
      | some ρ' => ∀ σ', (∀ j, j ∉ [i] → σ'[j]? = σ[j]?) → σ'.length = σ.length → Go (gx T X) σ ρ F H σ' ρ' F H → Q σ' H
      | none => False := q
    unfold hN at q
    cases z : ρ[i]? with
    | none => rw [z] at q; exact False.elim q
    | some s =>
      rw [z] at q
      cases s with
      | mu c => exact False.elim q
      | _ =>
        refine q _ (fun j hj => List.getElem?_set_ne fun w => hj (by rw [w]; exact List.mem_cons_self)) List.length_set (Go.set R (fun e w => ?_) dd)
        rw [z] at w
        cases w
theorem dgs_nil : DGs T X [] [] hNil := ⟨fun pins s σ H vs us Q I r ⟨F, ρ, ds, R, dd, q⟩ => pgs_nil.run pins s σ H vs us Q I r (by
  cases dd with
  | nil => exact ⟨rfl, q σ (fun _ _ => rfl) rfl (Go.refl R)⟩
  | cons _ _ => exact False.elim q)⟩
theorem dgs_cons {e : Expr} {es : List Expr} {sl sl' : List Nat} {h : HT1} {k : List D → List Sl → Option (List Sl)} (h1 : DG T X sl e h) (h2 : DGs T X sl' es k)
    (hs : (assignEach (e :: es) X.env).map (·.2) = assign e X.env :: (assignEach es X.env).map (·.2) := by rfl) : DGs T X (sl ++ sl') (e :: es) (hCons h k) :=
  ⟨fun pins s σ H vs us Q I r ⟨F, ρ, ds, R, dd, q⟩ => (pgs_cons h1 h2 hs).run pins s σ H vs us Q I r (by
    cases dd with
    | nil => exact False.elim q
    | @cons v vs d ds dv dd =>
      have q : match (h d ρ).bind (k ds) with
        | some ρ' => ∀ σ', (∀ j, j ∉ sl ++ sl' → σ'[j]? = σ[j]?) → σ'.length = σ.length → Go (gx T X) σ ρ F H σ' ρ' F H → Q σ' H
        | none => False := q
      cases z : h d ρ with
      | none => rw [z] at q; exact False.elim q
      | some ρ1 =>
        rw [z] at q
        have q : match k ds ρ1 with
          | some ρ' => ∀ σ', (∀ j, j ∉ sl ++ sl' → σ'[j]? = σ[j]?) → σ'.length = σ.length → Go (gx T X) σ ρ F H σ' ρ' F H → Q σ' H
          | none => False := q
        refine ⟨v, vs, rfl, F, ρ, d, R, dv, ?_⟩
        rw [z]
        intro σ1 e1 l1 go1
        refine ⟨F, ρ1, ds, go1.rep, dd, ?_⟩
        cases y : k ds ρ1 with
        | none => rw [y] at q; exact False.elim q
        | some ρ2 =>
          rw [y] at q
          intro σ2 e2 l2 go2
          exact q σ2 (fun j hj => (e2 j fun w => hj (List.mem_append_right _ w)).trans (e1 j fun w => hj (List.mem_append_left _ w))) (l2.trans l1) (go1.trans go2))⟩
theorem dg_t {es : List Expr} {n k : Nat} {sl : List Nat} {h : List D → List Sl → Option (List Sl)} (hc : X.calm = true) (hh : DGs T X sl es h)
    (hn : (assignEach es X.env).length = n := by rfl) (hst : (assignEach es X.env).findIdx? (·.1) = none := by rfl) : DG T X sl (.Tuple es k pos) (hT n h) :=
  PG.weak (PG.orG (pg_tup hc hh hn hst) (pg_lst hc hh hn hst)) fun v σ H Q ⟨F, ρ, d, R, dd, q⟩ => by
    have q : match hT n h d ρ with
      | some ρ' => ∀ σ', (∀ j, j ∉ sl → σ'[j]? = σ[j]?) → σ'.length = σ.length → Go (gx T X) σ ρ F H σ' ρ' F H → Q σ' H
      | none => False := q
    unfold hT at q
    cases dd with
    | @lst a vs ds h1 h2 =>
      have q : match (if ds.length = n then h ds ρ else none) with
        | some ρ' => ∀ σ', (∀ j, j ∉ sl → σ'[j]? = σ[j]?) → σ'.length = σ.length → Go (gx T X) σ ρ F H σ' ρ' F H → Q σ' H
        | none => False := q
      by_cases z : ds.length = n
      · rw [if_pos z] at q
        exact .inr ⟨a, vs, rfl, .of (R.fr _ _ h1), h2.length.trans z, F, ρ, ds, R, h2, q⟩
      · rw [if_neg z] at q; exact False.elim q
    | @tup a vs ds h1 h2 =>
      have q : match (if ds.length = n then h ds ρ else none) with
        | some ρ' => ∀ σ', (∀ j, j ∉ sl → σ'[j]? = σ[j]?) → σ'.length = σ.length → Go (gx T X) σ ρ F H σ' ρ' F H → Q σ' H
        | none => False := q
      by_cases z : ds.length = n
      · rw [if_pos z] at q
        exact .inl ⟨a, vs, rfl, .of (R.fr _ _ h1), h2.length.trans z, F, ρ, ds, R, h2, q⟩
      · rw [if_neg z] at q; exact False.elim q
    | _ => exact False.elim q
end

/-! ### what is walked -/
structure Yl (g : Gx) (J : It) (F : Hp) (items : List D) : Prop where
  go : ∀ (i : Nat) (H : Hp), Same F H → i < items.length → J.go i H
  yl : ∀ (i : Nat) (H : Hp) (x : V) (H' F1 : Hp), Same F F1 → Same F1 H → i < items.length → J.yld i H x H' →
    ∃ F2 d, items[i]? = some d ∧ Dd g F2 x d ∧ Same F1 F2 ∧ Same F2 H' ∧ (∀ a o, H a = some o → H' a = some o) ∧ (∀ a, H a ≠ none → F2 a = F1 a) ∧ ∀ a ps, F2 a = some (.tbl ps) → F1 a = some (.tbl ps)
  st : ∀ (i : Nat) (H : Hp), Same F H → items.length ≤ i → J.stop i H
abbrev relI : Rel (List D) It := fun g F _ _ _ J items => Yl g J F items
abbrev GI := List Sl → Res (List D)
def DI (T : Tbs) (X : Cx) (W : WX) (tg iter : Expr) (f : GI) : Prop := PI X tg iter (tG (gx T X) W relI f)
theorem Yl.list {g : Gx} {F : Hp} {a : Addr} {vs : List V} {ds : List D} (h : F a = some (.lst vs)) (hd : Ds g F vs ds) : Yl g (Itl g.K a) F ds where
  go := fun i H s hi => by
    obtain ⟨v, e, _⟩ := hd.get (List.getElem?_eq_getElem hi)
    exact ⟨vs, v, .of (s _ _ h), e⟩
  yl := fun i H x H' F1 s1 s2 hi ⟨e, y⟩ => by
    subst e
    have q := y vs (.of (s2 _ _ (s1 _ _ h)))
    obtain ⟨d, e1, e2⟩ := hd.at q
    exact ⟨F1, d, e1, e2.mono s1, Same.refl _, s2, fun _ _ h => h, fun _ _ => rfl, fun _ _ e => e⟩
  st := fun i H s hi => ⟨vs, .of (s _ _ h), by rw [hd.length]; exact hi⟩
theorem Yl.tup {g : Gx} {F : Hp} {a : Addr} {vs : List V} {ds : List D} (h : F a = some (.tup vs)) (hd : Ds g F vs ds) : Yl g (Itt g.K a) F ds where
  go := fun i H s hi => by
    obtain ⟨v, e, _⟩ := hd.get (List.getElem?_eq_getElem hi)
    exact ⟨vs, v, .of (s _ _ h), e⟩
  yl := fun i H x H' F1 s1 s2 hi ⟨e, y⟩ => by
    subst e
    have q := y vs (.of (s2 _ _ (s1 _ _ h)))
    obtain ⟨d, e1, e2⟩ := hd.at q
    exact ⟨F1, d, e1, e2.mono s1, Same.refl _, s2, fun _ _ h => h, fun _ _ => rfl, fun _ _ e => e⟩
  st := fun i H s hi => ⟨vs, .of (s _ _ h), by rw [hd.length]; exact hi⟩
def rgD (lo : Int) (n : Nat) : List D := (List.range n).map fun (k : Nat) => .int (lo + (k : Int))
theorem Yl.rng {g : Gx} {F : Hp} (lo : Int) (n : Nat) : Yl g (Itr lo n) F (rgD lo n) where
  go := fun i H s hi => by
    unfold rgD at hi; rw [List.length_map, List.length_range] at hi; exact hi
  yl := fun i H x H' F1 s1 s2 hi ⟨e, y⟩ => by
    subst e
    subst y
    refine ⟨F1, .int (lo + i), ?_, .int _, Same.refl _, s2, fun _ _ h => h, fun _ _ => rfl, fun _ _ e => e⟩
    unfold rgD at hi ⊢
    rw [List.length_map, List.length_range] at hi
    rw [List.getElem?_map, List.getElem?_range hi]
    rfl
  st := fun i H s hi => by
    unfold rgD at hi; rw [List.length_map, List.length_range] at hi; exact hi
def iSq (K : PySem.W.Frag) (tl : TE) : TI := fun σ H R => tl σ H fun x H1 => ∃ a, x = .ref a ∧ (((∃ xs, SqL K H1 a xs) ∧ R (Itl K a) H1) ∨ ((∃ xs, SqT K H1 a xs) ∧ R (Itt K a) H1))
def gIt (f : GW) : GI := fun ρ => (f ρ).bind fun r ρ1 => Res.of r.d.items ρ1
/-- from a frozen value on, to any kind of result -/
theorem AtW.ofB2 {α β : Type} {g : Gx} {W : WX} {rel : Rel α β} {σ : L2.St} {ρ : List Sl} {F H : Hp} {r : Res Rs} {k : D → List Sl → Res α} {Q : β → Hp → Prop} {P : V → Hp → Prop} (h : At g W rel (r.bind fun r ρ1 => k r.d ρ1) σ ρ F H Q)
    (step : ∀ v d ρ1 F1 H1, Go g σ ρ F H σ ρ1 F1 H1 → Dd g F1 v d → At g W rel (k d ρ1) σ ρ1 F1 H1 Q → P v H1) : AtW g W r σ ρ F H P := by
  cases r with
  | ok a ρ' =>
    have h : At g W rel (k a.d ρ') σ ρ F H Q := h
    exact AtW.fr fun v F' H' go dd => step v _ _ F' H' go dd (h.rebase go)
  | ex x ρ' => exact h
  | no => exact h
section
variable {T : Tbs} {X : Cx} {W : WX} {tg e a b : Expr} {f : GW} {fa : GA} {p pos : Pos}
theorem pi_sq {tl : TE} (hl : PE X e tl) : PI X tg e (iSq X.K tl) := by
  refine ⟨fun pins s σ H R I h => ?_⟩
  refine thn (hl.run pins s σ H _ I h) fun v s1 ⟨x, H1, I1, r1, q1⟩ => ?_
  obtain ⟨a, e, ⟨⟨xs, hq⟩, q⟩ | ⟨⟨xs, hq⟩, q⟩⟩ := q1
  · subst e
    cases r1
    obtain ⟨its, rv, p, hz⟩ := I1.list hq
    refine wpAny_pyIter_list p.isList ?_
    refine ⟨s1.heap.objs.size, [s1.heap.objs.size], _, _, H1, rfl, I1.kept (t' := s1.toks) fun b o e => Heap.get?_push_of_some _ e, turn_list a _, ⟨_, Heap.get?_push_size _ rfl, rfl, rfl⟩, fun b hb => ?_, q⟩
    have e : b = s1.heap.objs.size := by simpa using hb
    subst e
    exact I1.fpOk (Nat.le_refl _) (I1.hok.fresh (Nat.le_refl _))
  · subst e
    cases r1
    obtain ⟨its, rv, p, hz⟩ := I1.tuple hq
    refine wpAny_pyIter_tuple (show s1.heap.IsTuple a its.toArray from p) ?_
    refine ⟨s1.heap.objs.size, [s1.heap.objs.size], _, _, H1, rfl, I1.kept (t' := s1.toks) fun b o e => Heap.get?_push_of_some _ e, turn_tuple a _, ⟨_, Heap.get?_push_size _ rfl, rfl, rfl⟩, fun b hb => ?_, q⟩
    have e : b = s1.heap.objs.size := by simpa using hb
    subst e
    exact I1.fpOk (Nat.le_refl _) (I1.hok.fresh (Nat.le_refl _))
theorem di_sq (h : DW T X W e f) : DI T X W tg e (gIt f) := PI.weak (pi_sq h) fun σ H Q ⟨F, ρ, R, q⟩ => ⟨F, ρ, R, AtW.ofB2 (k := fun d ρ1 => Res.of d.items ρ1) q fun v d ρ1 F1 H1 go dd q1 => by
  cases dd with
  | lst h1 h2 => exact ⟨_, rfl, .inl ⟨⟨_, .of (go.rep.fr _ _ h1)⟩, At.now q1 (Go.refl go.rep) (Yl.list h1 h2)⟩⟩
  | tup h1 h2 => exact ⟨_, rfl, .inr ⟨⟨_, .of (go.rep.fr _ _ h1)⟩, At.now q1 (Go.refl go.rep) (Yl.tup h1 h2)⟩⟩
  | _ => exact False.elim q1⟩
end
end DL
end
section
set_option Elab.async false
set_option linter.all false
set_option maxRecDepth 100000
/-! DLf: ranges, list comprehensions. -/
namespace DL
open PySem PySem.Spec L2

def ints1 : List D → Option Int
  | [.int i] => some i
  | _ => none
theorem ints1_is {ds : List D} {p : Int} (h : ints1 ds = some p) : ds = [.int p] := by
  unfold ints1 at h
  split at h
  · cases h; rfl
  · cases h
def gR1 (f : GA) : GI := fun ρ => (f ρ).bind fun as ρ1 => match (vDs ρ1 as).bind ints1 with
  | some j => if -4611686018427387904 ≤ j ∧ j < 4611686018427387904 then .ok (rgD 0 j.toNat) ρ1 else .no
  | none => .no
section
variable {T : Tbs} {X : Cx} {W : WX} {tg e a b : Expr} {f : GW} {fa : GA} {p pos : Pos}
theorem di_r1 (hg : Gl X "range") (hm : X.mg "range" = none) (ha : DA T X W [a] fa) (hs : starEach [a] X.env = [(false, eval a X.env)] := by rfl) : DI T X W tg (.Call (.Name "range" p) [a] [] pos) (gR1 fa) :=
  PI.weak (pi_range1 hg hm ha hs) fun σ H Q ⟨F, ρ, R, q⟩ => ⟨F, ρ, R, At.seq q fun vs as ρ1 F1 H1 go ra q1 => by
    cases z : vDs ρ1 as with
    | none => rw [z] at q1; exact False.elim q1
    | some ds =>
      rw [z] at q1
      have rs := ra.rvs go.rep z
      have q1 : At (gx T X) W relI (match ints1 ds with
        | some j => if -4611686018427387904 ≤ j ∧ j < 4611686018427387904 then .ok (rgD 0 j.toNat) ρ1 else .no
        | none => .no) σ ρ1 F1 H1 Q := q1
      cases y : ints1 ds with
      | none => rw [y] at q1; exact False.elim q1
      | some j =>
        rw [y] at q1
        rw [ints1_is y] at rs
        obtain ⟨v, rfl, h⟩ := rs.one
        have q1 : At (gx T X) W relI (if -4611686018427387904 ≤ j ∧ j < 4611686018427387904 then .ok (rgD 0 j.toNat) ρ1 else .no) σ ρ1 F1 H1 Q := q1
        split at q1
        · rename_i hz
          exact ⟨j, by rw [h.int], hz.1, hz.2, At.now q1 (Go.refl go.rep) (Yl.rng _ _)⟩
        · exact False.elim q1⟩
end
def ints2 : List D → Option (Int × Int)
  | [.int i, .int j] => some (i, j)
  | _ => none
theorem ints2_is {ds : List D} {p : Int × Int} (h : ints2 ds = some p) : ds = [.int p.1, .int p.2] := by
  unfold ints2 at h
  split at h
  · cases h; rfl
  · cases h
def gR2 (f : GA) : GI := fun ρ => (f ρ).bind fun as ρ1 => match (vDs ρ1 as).bind ints2 with
  | some (i, j) => if (-4611686018427387904 ≤ i ∧ i < 4611686018427387904) ∧ -4611686018427387904 ≤ j ∧ j < 4611686018427387904 then .ok (rgD i (j - i).toNat) ρ1 else .no
  | none => .no
section
variable {T : Tbs} {X : Cx} {W : WX} {tg e a b : Expr} {f : GW} {fa : GA} {p pos : Pos}
theorem di_r2 (hg : Gl X "range") (hm : X.mg "range" = none) (ha : DA T X W [a, b] fa) (hs : starEach [a, b] X.env = [(false, eval a X.env), (false, eval b X.env)] := by rfl) (hs2 : starEach [b] X.env = [(false, eval b X.env)] := by rfl) : DI T X W tg (.Call (.Name "range" p) [a, b] [] pos) (gR2 fa) :=
  PI.weak (pi_range2 hg hm ha hs hs2) fun σ H Q ⟨F, ρ, R, q⟩ => ⟨F, ρ, R, At.seq q fun vs as ρ1 F1 H1 go ra q1 => by
    cases z : vDs ρ1 as with
    | none => rw [z] at q1; exact False.elim q1
    | some ds =>
      rw [z] at q1
      have rs := ra.rvs go.rep z
      have q1 : At (gx T X) W relI (match ints2 ds with
        | some (i, j) => if (-4611686018427387904 ≤ i ∧ i < 4611686018427387904) ∧ -4611686018427387904 ≤ j ∧ j < 4611686018427387904 then .ok (rgD i (j - i).toNat) ρ1 else .no
        | none => .no) σ ρ1 F1 H1 Q := q1
      cases y : ints2 ds with
      | none => rw [y] at q1; exact False.elim q1
      | some ij =>
        rw [y] at q1
        rw [ints2_is y] at rs
        obtain ⟨v, w, rfl, h, h'⟩ := rs.two
        have q1 : At (gx T X) W relI (if (-4611686018427387904 ≤ ij.1 ∧ ij.1 < 4611686018427387904) ∧ -4611686018427387904 ≤ ij.2 ∧ ij.2 < 4611686018427387904 then .ok (rgD ij.1 (ij.2 - ij.1).toNat) ρ1 else .no) σ ρ1 F1 H1 Q := q1
        split at q1
        · rename_i hz
          exact ⟨ij.1, ij.2, by rw [h.int, h'.int], ⟨hz.1.1, hz.1.2, hz.2.1, hz.2.2⟩, At.now q1 (Go.refl go.rep) (Yl.rng _ _)⟩
        · exact False.elim q1⟩
end

/-! ### list comprehensions -/
abbrev W0 : WX := fun _ _ _ _ => False
def DTs (T : Tbs) (X : Cx) (W : WX) (ifs : List Expr) (f : GB) : Prop := PTs X ifs (tG (gx T X) W relB f)
def gYes : GB := fun ρ => .ok true ρ
def lcL (vs : List Nat) (h : HT1) (ft : GB) (fe : GE) : List D → List Sl → Res (List D)
  | [], ρ => .ok [] ρ
  | x :: xs, ρ => match h x ρ with
    | none => .no
    | some ρa => match ft ρa with
      | .ok true ρb => match fe ρb with
        | .ok d ρc => match lcL vs h ft fe xs (wipeS ρc vs) with
          | .ok ds ρe => .ok (d :: ds) ρe
          | _ => .no
        | _ => .no
      | .ok false ρb => lcL vs h ft fe xs (wipeS ρb vs)
      | _ => .no
def gLc (vs : List Nat) (fi : GI) (h : HT1) (ft : GB) (fe : GE) : GW := fun ρ => (fi ρ).bind fun items ρ1 => if items.length ≤ 1000000 then match lcL vs h ft fe items (wipeS ρ1 vs) with
    | .ok ds ρe => .ok (.ow (.lst ds)) (unw ρ1 ρe vs)
    | _ => .no
  else .no
/-- what holds behind i turns -/
def LcAt (g : Gx) (vs : List Nat) (h : HT1) (ft : GB) (fe : GE) (items all : List D) (ρe : List Sl) (σ : L2.St) (ρ1 : List Sl) (F1 H1 : Hp) (Da : Addr) (i : Nat) (H : Hp) : Prop :=
  ∃ (F : Hp) (ρ : List Sl) (acc rest : List D) (ws : List V), Go g (wipe σ vs) (wipeS ρ1 vs) F1 H1 (wipe σ vs) ρ F H ∧ H Da = some (.lst ws) ∧ F Da = none ∧ ¬ Oa (wipe σ vs) ρ Da ∧ Ds g F ws acc ∧ acc.length ≤ i ∧
    lcL vs h ft fe (items.drop i) ρ = .ok rest ρe ∧ acc ++ rest = all
section
variable {T : Tbs} {X : Cx} {W : WX} {elt tg iter c : Expr} {ifs : List Expr} {scope : Scope} {own : List (Str × Nat)} {pos : Pos} {fi : GI} {h : HT1} {ft : GB} {fe : GE} {sl : List Nat}
theorem dts_nil : DTs T X W [] gYes := ⟨fun pins s σ H Q I ⟨F, ρ, R, q⟩ => pts_nil.run pins s σ H Q I (q true F H (Go.refl R) rfl)⟩
theorem dts_one (h : DT T X W c ft) : DTs T X W [c] ft := pts_one h
theorem wipe_wipe {σ : L2.St} {vs : List Nat} : wipe (wipe σ vs) vs = wipe σ vs := wipe_same (sl := vs) (wipe_length σ vs) (fun j hj => wipe_not hj) fun j hj => hj
theorem lc_start {g : Gx} {σ : L2.St} {ρ1 : List Sl} {F1 H1 : Hp} {vs : List Nat} {items all : List D} {ρe : List Sl} {Da : Addr} (R : Rep g F1 H1 σ ρ1) (n : H1 Da = none) (e : lcL vs h ft fe items (wipeS ρ1 vs) = .ok all ρe) :
    LcAt g vs h ft fe items all ρe σ ρ1 F1 H1 Da 0 (upd H1 Da (.lst [])) :=
  ⟨F1, wipeS ρ1 vs, [], all, [], (Go.refl (R.wiped vs)).side n (R.fr.free n) ((R.wiped vs).noOa n) _ (.inl n), upd_same, R.fr.free n, (R.wiped vs).noOa n, .nil, Nat.le_refl _, e, rfl⟩
theorem lc_at {vsO : List Nat} (hsl : ∀ j ∈ sl, j ∈ vsO) {σ : L2.St} {H : Hp} {Q : VK} (q : tW (gx T X) W (gLc vsO fi h ft fe) σ H Q) :
    tLc (tG (gx T X) W relI fi) (tTg (gx T X) sl h) (tG (gx T X) W0 relB ft) (tG (gx T X) W0 relD fe) vsO σ H Q := by
  obtain ⟨F, ρ, R, q⟩ := q
  refine ⟨F, ρ, R, At.seqW q fun J items ρ1 F1 H1 go yl q1 => ?_⟩
  split at q1
  · rename_i hz
    cases z : lcL vsO h ft fe items (wipeS ρ1 vsO) with
    | no => rw [z] at q1; exact False.elim q1
    | ex x ρ' => rw [z] at q1; exact False.elim q1
    | ok all ρe =>
      rw [z] at q1
      have q1 : AtW (gx T X) W (.ok (.ow (.lst all)) (unw ρ1 ρe vsO)) σ ρ1 F1 H1 Q := q1
      intro Da nD
      refine ⟨fun i m H => m = items.length - i ∧ i ≤ items.length ∧ LcAt (gx T X) vsO h ft fe items all ρe σ ρ1 F1 H1 Da i H, ⟨items.length, rfl, Nat.zero_le _, lc_start go.rep nD z⟩, ?_⟩
      rintro i m H2 ⟨rfl, hle, F2, ρ2, acc, rest, ws, go2, hD, fD, oD2, dacc, hac, hrun, hall⟩
      have s12 : Same F1 H2 := go2.fF.trans go2.rep.fr
      by_cases hlt : i < items.length
      · refine .inr ⟨yl.go i H2 s12 hlt, LcAt (gx T X) vsO h ft fe items all ρe σ ρ1 F1 H1 Da (i + 1), fun H' p => ⟨items.length - (i + 1), by omega, rfl, hlt, p⟩, fun x H3 y => ?_⟩
        obtain ⟨F3, d, hd, dd, s23, s3, k3, f3, t3⟩ := yl.yl i H2 x H3 F2 go2.fF go2.rep.fr hlt y
        have go3 := Go.grow go2.rep s23 k3 s3 f3 t3
        have ed : items[i] = d := Option.some.inj ((List.getElem?_eq_getElem hlt).symm.trans hd)
        rw [List.drop_eq_getElem_cons hlt, ed] at hrun
        have hrun : (match h d ρ2 with
          | none => .no
          | some ρa => match ft ρa with
            | .ok true ρb => match fe ρb with
              | .ok d ρc => match lcL vsO h ft fe (items.drop (i + 1)) (wipeS ρc vsO) with
                | .ok ds ρe => .ok (d :: ds) ρe
                | _ => .no
              | _ => .no
            | .ok false ρb => lcL vsO h ft fe (items.drop (i + 1)) (wipeS ρb vsO)
            | _ => .no) = Res.ok rest ρe := hrun
        have mu0 : ∀ j ∈ vsO, ∀ e, (wipeS ρ1 vsO)[j]? ≠ some (.mu e) := fun j hj e w => by
          rcases wipeS_in (ρ := ρ1) hj with u | u <;> (rw [u] at w; cases w)
        refine ⟨F3, ρ2, d, go3.rep, dd, ?_⟩
        cases z1 : h d ρ2 with
        | none => rw [z1] at hrun; cases hrun
        | some ρa =>
          rw [z1] at hrun
          intro σ4 e4 l4 go4
          have ew : wipe σ4 vsO = wipe σ vsO := (wipe_same l4 e4 hsl).trans wipe_wipe
          refine ⟨ew, F3, ρa, go4.rep, ?_⟩
          have goT := (go2.trans go3).trans go4
          have hD3 : H3 Da = some (.lst ws) := k3 Da _ hD
          have nz : H3 Da ≠ none := by rw [hD3]; exact (fun e => nomatch e)
          have fD3 : F3 Da = none := (f3 Da (by rw [hD]; exact (fun e => nomatch e))).trans fD
          have oD3 : ¬ Oa σ4 ρa Da := fun w => (go4.oa Da w).elim (fun w => oD2 w) nz
          -- the turn's end, from σ4 and a state ρz
          have fin : ∀ {F5 H5 : Hp} {ρz : List Sl} {acc2 rest2 : List D} {ws2 : List V}, Go (gx T X) (wipe σ vsO) (wipeS ρ1 vsO) F1 H1 σ4 ρz F5 H5 → H5 Da = some (.lst ws2) → F5 Da = none → ¬ Oa σ4 ρz Da → Ds (gx T X) F5 ws2 acc2 → acc2.length ≤ i + 1 →
              lcL vsO h ft fe (items.drop (i + 1)) (wipeS ρz vsO) = .ok rest2 ρe → acc2 ++ rest2 = all → LcAt (gx T X) vsO h ft fe items all ρe σ ρ1 F1 H1 Da (i + 1) H5 := fun {F5 H5 ρz acc2 rest2 ws2} g5 h1 h2 h3 h4 h5 h6 h7 => by
            have gw := g5.wiped (vs := vsO) mu0
            rw [ew] at gw
            refine ⟨F5, wipeS ρz vsO, acc2, rest2, ws2, gw, h1, h2, fun w => h3 ?_, h4, h5, h6, h7⟩
            obtain ⟨j, c, w1, w2⟩ := w
            have hj : j ∉ vsO := fun u => by
              rcases wipeS_in (ρ := ρz) u with u | u <;> (unfold oD at w1; rw [u] at w1; cases w1)
            rw [← ew, wipe_not hj] at w2
            refine ⟨j, c, ?_, w2⟩
            unfold oD at w1 ⊢
            rw [wipeS_not hj] at w1
            exact w1
          have hrun : (match ft ρa with
            | .ok true ρb => match fe ρb with
              | .ok d ρc => match lcL vsO h ft fe (items.drop (i + 1)) (wipeS ρc vsO) with
                | .ok ds ρe => .ok (d :: ds) ρe
                | _ => .no
              | _ => .no
            | .ok false ρb => lcL vsO h ft fe (items.drop (i + 1)) (wipeS ρb vsO)
            | _ => .no) = Res.ok rest ρe := hrun
          cases z2 : ft ρa with
          | no => rw [z2] at hrun; cases hrun
          | ex x ρ' => rw [z2] at hrun; cases hrun
          | ok b ρb =>
            rw [z2] at hrun
            intro b' F5 H5 go5 eb
            subst eb
            have hD5 : H5 Da = some (.lst ws) := go5.kp Da _ hD3 nT_lst oD3
            have nz5 : H5 Da ≠ none := by rw [hD5]; exact (fun e => nomatch e)
            have fD5 : F5 Da = none := (go5.fz Da nz oD3).trans fD3
            have oD5 : ¬ Oa σ4 ρb Da := fun w => (go5.oa Da w).elim oD3 nz
            cases b' with
            | false =>
              rw [if_neg Bool.false_ne_true]
              exact fin (goT.trans go5) hD5 fD5 oD5 (dacc.mono ((s23.trans (Same.refl _)).trans go5.fF)) (by omega) hrun hall
            | true =>
              rw [if_pos rfl]
              have hrun : (match fe ρb with
                | .ok d ρc => match lcL vsO h ft fe (items.drop (i + 1)) (wipeS ρc vsO) with
                  | .ok ds ρe => .ok (d :: ds) ρe
                  | _ => .no
                | _ => .no) = Res.ok rest ρe := hrun
              refine ⟨F5, ρb, go5.rep, ?_⟩
              cases z3 : fe ρb with
              | no => rw [z3] at hrun; cases hrun
              | ex x ρ' => rw [z3] at hrun; cases hrun
              | ok dy ρc =>
                rw [z3] at hrun
                intro y F6 H6 go6 ddy
                have hD6 : H6 Da = some (.lst ws) := go6.kp Da _ hD5 nT_lst oD5
                have nz6 : H6 Da ≠ none := by rw [hD6]; exact (fun e => nomatch e)
                have fD6 : F6 Da = none := (go6.fz Da nz5 oD5).trans fD5
                have oD6 : ¬ Oa σ4 ρc Da := fun w => (go6.oa Da w).elim oD5 nz5
                refine ⟨ws, hD6, ?_, ?_⟩
                · rw [dacc.length]
                  have := mil
                  omega
                · have hrun : (match lcL vsO h ft fe (items.drop (i + 1)) (wipeS ρc vsO) with
                    | .ok ds ρe => .ok (dy :: ds) ρe
                    | _ => .no) = Res.ok rest ρe := hrun
                  cases z4 : lcL vsO h ft fe (items.drop (i + 1)) (wipeS ρc vsO) with
                  | no => rw [z4] at hrun; cases hrun
                  | ex x ρ' => rw [z4] at hrun; cases hrun
                  | ok ds ρe' =>
                    rw [z4] at hrun
                    cases hrun
                    have goS := ((goT.trans go5).trans go6).side (p := Da) nD fD6 oD6 (.lst (ws ++ [y])) (.inr (.inl ⟨ws, hD6⟩))
                    refine fin goS upd_same fD6 oD6 ((dacc.mono ((s23.trans go5.fF).trans go6.fF)).append (.cons ddy .nil)) (by rw [List.length_append, List.length_singleton]; omega) z4 ?_
                    rw [List.append_assoc]
                    exact hall
      · have hi : i = items.length := by omega
        subst hi
        refine .inl ⟨yl.st _ H2 s12 (Nat.le_refl _), ?_⟩
        rw [List.drop_length] at hrun
        have hrun : Res.ok [] ρ2 = Res.ok rest ρe := hrun
        cases hrun
        rw [List.append_nil] at hall
        subst hall
        have gU := Go.unwipe go.rep go2
        refine q1 Da F2 H2 gU fD ⟨ws, hD, dacc⟩ (fun w => (gU.oa Da w).elim (fun w => (go.rep.oaH w).1 nD) fun _ => ?_) nD
        -- Da is owned by no name outside
        obtain ⟨j, c, w1, w2⟩ := w
        by_cases hj : j ∈ vsO
        · have e1 : oD ρ1 j = some c := by
            unfold oD at w1 ⊢
            rw [unw_in (by
              have := go2.rep.len
              rw [wipe_length, go.rep.len] at this
              exact this.symm) hj] at w1
            exact w1
          exact absurd nD (go.rep.oaH ⟨j, c, e1, w2⟩).1
        · refine oD2 ⟨j, c, ?_, ?_⟩
          · unfold oD at w1 ⊢
            rw [unw_not hj] at w1
            exact w1
          · rw [wipe_not hj]; exact w2
  · exact False.elim q1
theorem dw_lc (hc : X.calm = true) (hNd : X.N.Nodup) (hi : DI T X W tg iter fi) (ok : BlkOk X.N X.env.scope scope own)
    (hg : ∀ (s : Shared) (H : Hp) (C : Addr) (cl : List (Str × Addr)) (fp : List Addr), DG T (X.blk s H scope (compEnvC scope cl C X.env) fp) sl tg h)
    (ht : ∀ (s : Shared) (H : Hp) (C : Addr) (cl : List (Str × Addr)) (fp : List Addr), DTs T (X.blk s H scope (compEnvC scope cl C X.env) fp) W0 ifs ft)
    (he : ∀ (s : Shared) (H : Hp) (C : Addr) (cl : List (Str × Addr)) (fp : List Addr), DE T (X.blk s H scope (compEnvC scope cl C X.env) fp) W0 elt fe)
    (hsl : ∀ j ∈ sl, j ∈ own.map (·.2)) (hs : ∀ x, foldedSetIterable iter X.env x = pure x := by intro _; rfl) : DW T X W (.ListComp elt [⟨tg, iter, ifs, 0⟩] scope pos) (gLc (own.map (·.2)) fi h ft fe) :=
  PE.weak (pe_lc (g := tTg (gx T X) sl h) (tt := tG (gx T X) W0 relB ft) (te := tG (gx T X) W0 relD fe) hc hNd hi ok hg ht he hs) fun σ H Q q => lc_at hsl q
end
end DL
end
section
set_option Elab.async false
set_option linter.all false
set_option maxRecDepth 100000
/-! DLg: statements, loops, defs and their calls. -/
namespace DL
open PySem PySem.Spec L2

inductive Out where
  | nx (ρ : List Sl) | bk (ρ : List Sl) | ct (ρ : List Sl) | rt (r : Rs) (ρ : List Sl) | ex (x : Ex) (ρ : List Sl) | no
abbrev GS := List Sl → Out
def AtS (g : Gx) (W : WX) (o : Out) (σ : L2.St) (ρ : List Sl) (F H : Hp) (Dn : Ends) : Prop := match o with
  | .nx ρ' => ∀ σ' F' H', Go g σ ρ F H σ' ρ' F' H' → Dn.nx σ' H'
  | .bk ρ' => ∀ σ' F' H', Go g σ ρ F H σ' ρ' F' H' → Dn.bk σ' H'
  | .ct ρ' => ∀ σ' F' H', Go g σ ρ F H σ' ρ' F' H' → Dn.ct σ' H'
  | .rt (.sh d) ρ' => ∀ v σ' F' H', Go g σ ρ F H σ' ρ' F' H' → Dd g F' v d → Dn.rt v H'
  | .rt (.ow d) ρ' => ∀ l σ' F' H', Go g σ ρ F H σ' ρ' F' H' → F' l = none → Own g F' H' l d → ¬ Oa σ' ρ' l → H l = none → Dn.rt (.ref l) H'
  | .ex x ρ' => ∀ σ' F' H' cls d, Go g σ ρ F H σ' ρ' F' H' → ExOk g F' cls d x → W cls d σ' H'
  | .no => False
def sD (g : Gx) (W : WX) (f : GS) : TS := fun Dn σ H => ∃ F ρ, Rep g F H σ ρ ∧ AtS g W (f ρ) σ ρ F H Dn
def DS (T : Tbs) (X : Cx) (W : WX) (st : Stmt) (f : GS) : Prop := PS X st (sD (gx T X) W f)
def DB (T : Tbs) (X : Cx) (W : WX) (st : List Stmt) (f : GS) : Prop := PSs X st (sD (gx T X) W f)
def Res.bindS {α : Type} (r : Res α) (k : α → List Sl → Out) : Out := match r with
  | .ok a ρ => k a ρ
  | .ex x ρ => .ex x ρ
  | .no => .no
@[simp] theorem Res.bindS_ok {α : Type} (a : α) (ρ : List Sl) (k : α → List Sl → Out) : (Res.ok a ρ).bindS k = k a ρ := rfl
@[simp] theorem Res.bindS_ex {α : Type} (x : Ex) (ρ : List Sl) (k : α → List Sl → Out) : (Res.ex (α := α) x ρ).bindS k = .ex x ρ := rfl
@[simp] theorem Res.bindS_no {α : Type} (k : α → List Sl → Out) : (Res.no (α := α)).bindS k = .no := rfl
section
variable {g : Gx} {W : WX} {F H F1 H1 : Hp} {σ σ1 : L2.St} {ρ ρ1 : List Sl} {Dn : Ends}
theorem Go.nn (go : Go g σ ρ F H σ1 ρ1 F1 H1) {l : Addr} (h : H1 l = none) : H l = none := by
  cases z : H l with
  | none => rfl
  | some o => exact absurd h (go.th l (by rw [z]; exact (fun e => nomatch e)))
theorem AtS.rebase {o : Out} (h : AtS g W o σ ρ F H Dn) (go : Go g σ ρ F H σ1 ρ1 F1 H1) : AtS g W o σ1 ρ1 F1 H1 Dn := by
  cases o with
  | nx ρ' => exact fun σ' F' H' go' => h σ' F' H' (go.trans go')
  | bk ρ' => exact fun σ' F' H' go' => h σ' F' H' (go.trans go')
  | ct ρ' => exact fun σ' F' H' go' => h σ' F' H' (go.trans go')
  | rt r ρ' =>
    cases r with
    | sh d => exact fun v σ' F' H' go' => h v σ' F' H' (go.trans go')
    | ow d => exact fun l σ' F' H' go' a b c e => h l σ' F' H' (go.trans go') a b c (go.nn e)
  | ex x ρ' => exact fun σ' F' H' cls d go' => h σ' F' H' cls d (go.trans go')
  | no => exact h
theorem At.seqS {α β : Type} {rel : Rel α β} {r : Res α} {k : α → List Sl → Out} {P : β → Hp → Prop} (h : AtS g W (r.bindS k) σ ρ F H Dn)
    (step : ∀ b a ρ1 F1 H1, Go g σ ρ F H σ ρ1 F1 H1 → rel g F1 H1 σ ρ1 b a → AtS g W (k a ρ1) σ ρ1 F1 H1 Dn → P b H1) : At g W rel r σ ρ F H P := by
  cases r with
  | ok a ρ' =>
    have h : AtS g W (k a ρ') σ ρ F H Dn := h
    exact fun b F' H' go q => step b a ρ' F' H' go q (h.rebase go)
  | ex x ρ' => exact fun F' H' cls d go q => h σ F' H' cls d go q
  | no => exact h
theorem AtW.seqS {r : Res Rs} {k : Rs → List Sl → Out} {P : V → Hp → Prop} (h : AtS g W (r.bindS k) σ ρ F H Dn)
    (s1 : ∀ v d ρ1 F1 H1, Go g σ ρ F H σ ρ1 F1 H1 → Dd g F1 v d → AtS g W (k (.sh d) ρ1) σ ρ F H Dn → P v H1)
    (s2 : ∀ l d ρ1 F1 H1, Go g σ ρ F H σ ρ1 F1 H1 → F1 l = none → Own g F1 H1 l d → ¬ Oa σ ρ1 l → H l = none → AtS g W (k (.ow d) ρ1) σ ρ F H Dn → P (.ref l) H1) : AtW g W r σ ρ F H P := by
  cases r with
  | ok a ρ' =>
    have h : AtS g W (k a ρ') σ ρ F H Dn := h
    cases a with
    | sh d => exact fun v F' H' go dd => s1 v d ρ' F' H' go dd h
    | ow d => exact fun l F' H' go a b c e => s2 l d ρ' F' H' go a b c e h
  | ex x ρ' => exact fun F' H' cls d go q => h σ F' H' cls d go q
  | no => exact h
end

/-! ### blocks -/
def gSeq (f h : GS) : GS := fun ρ => match f ρ with
  | .nx ρ1 => h ρ1
  | o => o
def gNx : GS := fun ρ => .nx ρ
def gBk : GS := fun ρ => .bk ρ
def gCt : GS := fun ρ => .ct ρ
def gNo : GS := fun _ => .no
def Rs.sl : Rs → Sl
  | .sh d => .sh d
  | .ow d => .ow d
@[simp] theorem Rs.sl_sh (d : D) : (Rs.sh d).sl = .sh d := rfl
@[simp] theorem Rs.sl_ow (d : D) : (Rs.ow d).sl = .ow d := rfl
def stO (ρ : List Sl) (i : Nat) (r : Rs) : Out := match ρ[i]? with
  | some (.mu _) => .no
  | some _ => .nx (ρ.set i r.sl)
  | none => .no
def gSet (i : Nat) (f : GW) : GS := fun ρ => (f ρ).bindS fun r ρ1 => stO ρ1 i r
def gRet (f : GW) : GS := fun ρ => (f ρ).bindS fun r ρ1 => .rt r ρ1
def gRetN : GS := fun ρ => .rt (.sh .non) ρ
def gIfS (t : GB) (f h : GS) : GS := fun ρ => (t ρ).bindS fun b ρ1 => if b = true then f ρ1 else h ρ1
def gDrop (f : GW) : GS := fun ρ => (f ρ).bindS fun _ ρ1 => .nx ρ1
def gAsg (f : GE) (h : HT1) : GS := fun ρ => (f ρ).bindS fun d ρ1 => match h d ρ1 with
  | some ρ2 => .nx ρ2
  | none => .no
def forL (h : HT1) (body : GS) : List D → List Sl → Out
  | [], ρ => .nx ρ
  | x :: xs, ρ => match h x ρ with
    | none => .no
    | some ρa => match body ρa with
      | .nx ρb => forL h body xs ρb
      | .ct ρb => forL h body xs ρb
      | .bk ρb => .nx ρb
      | o => o
def gFor (fi : GI) (h : HT1) (body : GS) : GS := fun ρ => (fi ρ).bindS fun items ρ1 => forL h body items ρ1
section
variable {T : Tbs} {X : Cx} {W : WX} {st : Stmt} {rest a b : List Stmt} {e c tg iter : Expr} {f h : GS} {fw : GW} {fe : GE} {t : GB} {fi : GI} {ht : HT1} {sl : List Nat} {pos : Pos}
theorem db_nil : DB T X W [] gNx := PSs.weak pss_nil fun Dn σ H ⟨F, ρ, R, q⟩ => q σ F H (Go.refl R)
theorem gSeq_at {g : Gx} {Dn : Ends} {σ : L2.St} {H : Hp} (q : sD g W (gSeq f h) Dn σ H) : sD g W f { Dn with nx := sD g W h Dn } σ H := by
  obtain ⟨F, ρ, R, q⟩ := q
  refine ⟨F, ρ, R, ?_⟩
  have q : AtS g W (match f ρ with
    | .nx ρ1 => h ρ1
    | o => o) σ ρ F H Dn := q
  cases z : f ρ with
  | nx ρ1 =>
    rw [z] at q
    exact fun σ' F' H' go => ⟨F', ρ1, go.rep, AtS.rebase q go⟩
  | rt r ρ' => rw [z] at q; cases r <;> exact q
  | _ => rw [z] at q; exact q
theorem db_cons (h1 : DS T X W st f) (h2 : DB T X W rest h) : DB T X W (st :: rest) (gSeq f h) := PSs.weak (pss_cons h1 h2) fun Dn σ H q => gSeq_at q
theorem db_one (h1 : DS T X W st f) : DB T X W [st] f := pss_one h1
theorem ds_pass : DS T X W (.Pass pos) gNx := PS.weak ps_pass fun Dn σ H ⟨F, ρ, R, q⟩ => q σ F H (Go.refl R)
theorem ds_break : DS T X W (.Break pos) gBk := PS.weak ps_break fun Dn σ H ⟨F, ρ, R, q⟩ => q σ F H (Go.refl R)
theorem ds_continue : DS T X W (.Continue pos) gCt := PS.weak ps_continue fun Dn σ H ⟨F, ρ, R, q⟩ => q σ F H (Go.refl R)
theorem ds_never : DS T X W st gNo := PS.weak (t := tNever) ps_never fun Dn σ H ⟨F, ρ, R, q⟩ => q
theorem db_never : DB T X W rest gNo := PSs.weak (t := tNever) pss_never fun Dn σ H ⟨F, ρ, R, q⟩ => q
theorem stO_sh {g : Gx} {Dn : Ends} {σ : L2.St} {ρ ρ1 : List Sl} {F H F1 H1 : Hp} {i : Nat} {v : V} {d : D} (q : AtS g W (stO ρ1 i (.sh d)) σ ρ F H Dn) (go : Go g σ ρ F H σ ρ1 F1 H1) (dd : Dd g F1 v d) : Dn.nx (σ.set i (some v)) H1 := by
  unfold stO at q
  cases z : ρ1[i]? with
  | none => rw [z] at q; exact False.elim q
  | some s =>
    rw [z] at q
    cases s with
    | mu c => exact False.elim q
    | _ => exact q _ _ _ (go.trans (Go.set go.rep (fun e w => by rw [z] at w; cases w) dd))
theorem stO_ow {g : Gx} {Dn : Ends} {σ : L2.St} {ρ ρ1 : List Sl} {F H F1 H1 : Hp} {i : Nat} {l : Addr} {d : D} (q : AtS g W (stO ρ1 i (.ow d)) σ ρ F H Dn) (go : Go g σ ρ F H σ ρ1 F1 H1) (nF : F1 l = none) (o : Own g F1 H1 l d) (no : ¬ Oa σ ρ1 l) (n : H l = none) : Dn.nx (σ.set i (some (.ref l))) H1 := by
  unfold stO at q
  cases z : ρ1[i]? with
  | none => rw [z] at q; exact False.elim q
  | some s =>
    rw [z] at q
    cases s with
    | mu c => exact False.elim q
    | _ => exact q _ _ _ (go.setO (fun e w => by rw [z] at w; cases w) nF o no n)
theorem gSet_at {g : Gx} {Dn : Ends} {σ : L2.St} {H : Hp} {i : Nat} (q : sD g W (gSet i fw) Dn σ H) : tAsg (tW g W fw) (gName i) Dn σ H := by
  obtain ⟨F, ρ, R, q⟩ := q
  exact ⟨F, ρ, R, AtW.seqS q (fun v d ρ1 F1 H1 go dd q1 => stO_sh q1 go dd) fun l d ρ1 F1 H1 go a b c e q1 => stO_ow q1 go a b c e⟩
theorem ds_set {i : Nat} {x : Str} {pos' : Pos} (hNd : X.N.Nodup) (hi : X.N[i]? = some x) (hx : Loc X.env.scope x) (he : DW T X W e fw) (hs : swapsWith e (some (.Name x pos')) pos.line X.env = pure false := by rfl) (hf : X.fn x = true ∨ X.env.scope.names.lookup x = some .local := by first | exact .inl rfl | exact .inr rfl | assumption) :
    DS T X W (.Assign [.Name x pos'] e pos) (gSet i fw) := PS.weak (ps_set hNd hi hx he hs hf) fun Dn σ H q => gSet_at q
theorem ds_ret (he : DW T X W e fw) : DS T X W (.Return (some e) pos) (gRet fw) := PS.weak (ps_ret he) fun Dn σ H ⟨F, ρ, R, q⟩ =>
  ⟨F, ρ, R, AtW.seqS q (fun v d ρ1 F1 H1 go dd q1 => q1 v σ F1 H1 go dd) fun l d ρ1 F1 H1 go a b c e q1 => q1 l σ F1 H1 go a b c e⟩
theorem ds_retN : DS T X W (.Return none pos) gRetN := PS.weak ps_retN fun Dn σ H ⟨F, ρ, R, q⟩ => q .non σ F H (Go.refl R) .non
theorem ds_if {c : Expr} (hc : DT T X W c t) (ha : DB T X W a f) (hb : DB T X W b h) : DS T X W (.If c a b pos) (gIfS t f h) := PS.weak (ps_if hc ha hb) fun Dn σ H ⟨F, ρ, R, q⟩ => ⟨F, ρ, R, At.seqS q fun c a ρ1 F1 H1 go e q1 => by
  subst e
  cases c with
  | true => exact ⟨F1, ρ1, go.rep, q1⟩
  | false => exact ⟨F1, ρ1, go.rep, q1⟩⟩
theorem ds_drop (he : DW T X W e fw) (hs : swapsWith e none pos.line X.env = pure false := by rfl) : DS T X W (.Expr e pos) (gDrop fw) := PS.weak (ps_expr he hs) fun Dn σ H ⟨F, ρ, R, q⟩ =>
  ⟨F, ρ, R, AtW.seqS q (fun v d ρ1 F1 H1 go dd q1 => q1 σ F1 H1 go) fun l d ρ1 F1 H1 go a b c e q1 => q1 σ F1 H1 go⟩
/-- target = value, any target -/
theorem ds_asg (he : DE T X W e fe) (hg : DG T X sl tg ht) (hs : swapsWithSole [tg] e pos.line X.env = pure false := by rfl) (hw : swappedStores [tg] e X.env = pure none := by rfl)
    (h1 : (assignEach [tg] X.env).map (·.2) = [assign tg X.env] := by rfl) : DS T X W (.Assign [tg] e pos) (gAsg fe ht) := PS.weak (ps_asg he hg hs hw h1) fun Dn σ H ⟨F, ρ, R, q⟩ =>
  ⟨F, ρ, R, At.seqS q fun v d ρ1 F1 H1 go dd q1 => ⟨F1, ρ1, d, go.rep, dd, by
    have q1 : AtS (gx T X) W (match ht d ρ1 with
      | some ρ2 => .nx ρ2
      | none => .no) σ ρ1 F1 H1 Dn := q1
    cases z : ht d ρ1 with
    | none => rw [z] at q1; exact False.elim q1
    | some ρ2 =>
      rw [z] at q1
      exact fun σ' _ _ go' => q1 σ' F1 H1 go'⟩⟩
theorem ds_for (hp : PassesOwn (model X.prog X.w) X.A X.env X.xe) (hc : X.calm = true) (hi : DI T X W tg iter fi) (hg : DG T X sl tg ht) (hb : DB T X W a f)
    (hs : ∀ x, foldedSetIterable iter X.env x = pure x := by intro _; rfl) : DS T X W (.For tg iter a [] pos) (gFor fi ht f) := PS.weak (ps_for hp hc hi hg hb hs) fun Dn σ H ⟨F, ρ, R, q⟩ => ⟨F, ρ, R, At.seqS q fun J items ρ1 F1 H1 go yl q1 => by
  refine ⟨fun i m σ' H' => m = items.length - i ∧ i ≤ items.length ∧ ∃ F' ρ', Go (gx T X) σ ρ1 F1 H1 σ' ρ' F' H' ∧ forL ht f (items.drop i) ρ' = forL ht f items ρ1, ⟨items.length, rfl, Nat.zero_le _, F1, ρ1, Go.refl go.rep, rfl⟩, ?_⟩
  rintro i m σ2 H2 ⟨rfl, hle, F2, ρ2, go2, hrun⟩
  have s12 : Same F1 H2 := go2.fF.trans go2.rep.fr
  have q2 : AtS (gx T X) W (forL ht f (items.drop i) ρ2) σ2 ρ2 F2 H2 Dn := by rw [hrun]; exact q1.rebase go2
  by_cases hlt : i < items.length
  · refine .inr ⟨yl.go i H2 s12 hlt, fun σ' H' => ∃ F' ρ', Go (gx T X) σ ρ1 F1 H1 σ' ρ' F' H' ∧ forL ht f (items.drop (i + 1)) ρ' = forL ht f items ρ1, fun σ' H' p => ⟨items.length - (i + 1), by omega, rfl, hlt, p⟩, fun x H3 y => ?_⟩
    obtain ⟨F3, d, hd, dd, s23, s3, k3, f3, t3⟩ := yl.yl i H2 x H3 F2 go2.fF go2.rep.fr hlt y
    have go3 := Go.grow go2.rep s23 k3 s3 f3 t3
    have ed : items[i] = d := Option.some.inj ((List.getElem?_eq_getElem hlt).symm.trans hd)
    rw [List.drop_eq_getElem_cons hlt, ed] at hrun q2
    have e0 : forL ht f (d :: items.drop (i + 1)) ρ2 = (match ht d ρ2 with
      | none => .no
      | some ρa => match f ρa with
        | .nx ρb => forL ht f (items.drop (i + 1)) ρb
        | .ct ρb => forL ht f (items.drop (i + 1)) ρb
        | .bk ρb => .nx ρb
        | o => o) := rfl
    rw [e0] at hrun q2
    refine ⟨F3, ρ2, d, go3.rep, dd, ?_⟩
    cases z1 : ht d ρ2 with
    | none => rw [z1] at q2; exact False.elim q2
    | some ρa =>
      rw [z1] at hrun q2
      intro σ4 e4 l4 go4
      have goT := go3.trans go4
      refine ⟨F3, ρa, go4.rep, ?_⟩
      have hrun : (match f ρa with
        | .nx ρb => forL ht f (items.drop (i + 1)) ρb
        | .ct ρb => forL ht f (items.drop (i + 1)) ρb
        | .bk ρb => .nx ρb
        | o => o) = forL ht f items ρ1 := hrun
      have q2 : AtS (gx T X) W (match f ρa with
        | .nx ρb => forL ht f (items.drop (i + 1)) ρb
        | .ct ρb => forL ht f (items.drop (i + 1)) ρb
        | .bk ρb => .nx ρb
        | o => o) σ2 ρ2 F2 H2 Dn := q2
      cases z2 : f ρa with
      | nx ρb =>
        rw [z2] at hrun
        exact fun σ' F' H' go5 => ⟨F', ρb, (go2.trans goT).trans go5, hrun⟩
      | ct ρb =>
        rw [z2] at hrun
        exact fun σ' F' H' go5 => ⟨F', ρb, (go2.trans goT).trans go5, hrun⟩
      | bk ρb =>
        rw [z2] at q2
        exact fun σ' F' H' go5 => q2 σ' F' H' (goT.trans go5)
      | rt r ρb =>
        rw [z2] at q2
        cases r with
        | sh d => exact fun v σ' F' H' go5 => q2 v σ' F' H' (goT.trans go5)
        | ow d => exact fun l σ' F' H' go5 a b c e => q2 l σ' F' H' (goT.trans go5) a b c (goT.nn e)
      | ex x ρb =>
        rw [z2] at q2
        exact fun σ' F' H' cls d go5 => q2 σ' F' H' cls d (goT.trans go5)
      | no => rw [z2] at q2; exact False.elim q2
  · have hi : i = items.length := by omega
    subst hi
    rw [List.drop_length] at q2
    exact .inl ⟨yl.st _ H2 s12 (Nat.le_refl _), q2 σ2 F2 H2 (Go.refl go2.rep)⟩⟩
end

theorem own_kind {g : Gx} {F H : Hp} {l : Addr} {d : D} (o : Own g F H l d) : (∃ ws, H l = some (.lst ws)) ∨ ∃ ws, H l = some (.dK ws) := by
  cases d <;> first
    | exact False.elim o
    | (obtain ⟨vs, h, _⟩ := o; first | exact .inl ⟨_, h⟩ | exact .inr ⟨_, h⟩)
/-! ### owned cells changed -/
def putO (ρ : List Sl) (i : Nat) (d : D) : List Sl := match ρ[i]? with
  | some (.ow _) => ρ.set i (.ow d)
  | some (.mu _) => ρ.set i (.mu d)
  | _ => ρ
section
variable {g : Gx} {F H F1 H1 : Hp} {σ : L2.St} {ρ : List Sl}
theorem putO_length {i : Nat} {d : D} : (putO ρ i d).length = ρ.length := by
  unfold putO
  split <;> first | rw [List.length_set] | rfl
theorem putO_ne {i j : Nat} {d : D} (h : i ≠ j) : (putO ρ i d)[j]? = ρ[j]? := by
  unfold putO
  split <;> first | rw [List.getElem?_set_ne h] | rfl
theorem oD_putO_ne {i j : Nat} {d : D} (h : i ≠ j) : oD (putO ρ i d) j = oD ρ j := by
  unfold oD; rw [putO_ne h]
theorem oD_putO {i : Nat} {c d : D} (h : oD ρ i = some c) : oD (putO ρ i d) i = some d := by
  have hl := oD_lt h
  unfold oD at h
  unfold putO
  cases z : ρ[i]? with
  | none => rw [z] at h; cases h
  | some s =>
    rw [z] at h
    cases s with
    | ow e => show oD (ρ.set i (.ow d)) i = _; unfold oD; rw [List.getElem?_set_self hl]
    | mu e => show oD (ρ.set i (.mu d)) i = _; unfold oD; rw [List.getElem?_set_self hl]
    | _ => cases h
theorem putO_sh {i j : Nat} {c d e : D} (h : oD ρ i = some c) (q : (putO ρ i d)[j]? = some (.sh e)) : ρ[j]? = some (.sh e) ∧ i ≠ j := by
  by_cases z : i = j
  · subst z
    have := oD_putO (d := d) h
    unfold oD at this
    rw [q] at this
    cases this
  · rw [putO_ne z] at q; exact ⟨q, z⟩
/-- what slot i owns at l has changed, and things were laid; no other owned or frozen or tracked cell has changed -/
theorem Go.chg (R : Rep g F H σ ρ) {i : Nat} {c d : D} {l : Addr} (h : oD ρ i = some c) (hl : σ[i]? = some (some (.ref l))) (sF : Same F F1) (fr : Same F1 H1) (fz : ∀ a, H a ≠ none → a ≠ l → F1 a = F a) (kp : ∀ a o, H a = some o → nT o → a ≠ l → H1 a = some o) (th : ∀ a, H a ≠ none → H1 a ≠ none) (nF : F1 l = none)
    (o : Own g F1 H1 l d) (tb : TB g.T F1 H1) : Go g σ ρ F H σ (putO ρ i d) F1 H1 := by
  have ol : Oa σ ρ l := ⟨i, c, h, hl⟩
  have back : ∀ {j : Nat} {e : D}, oD (putO ρ i d) j = some e → ∃ e', oD ρ j = some e' := fun {j e} q => by
    by_cases z : i = j
    · subst z; exact ⟨c, h⟩
    · rw [oD_putO_ne z] at q; exact ⟨e, q⟩
  refine ⟨⟨by rw [putO_length]; exact R.len, fun j e q => ?_, fun j e q => ?_, fun j k e e' a q1 q2 q3 q4 => ?_, fr, tb⟩, sF, fun a q n => fz a q fun z => n (by rw [z]; exact ol), fun a o q t n => kp a o q t fun z => n (by rw [z]; exact ol), fun a ⟨j, e, q1, q2⟩ => ?_, th, fun j e q => ?_⟩
  · obtain ⟨q1, _⟩ := putO_sh h q
    obtain ⟨v, h1, h2⟩ := R.sh j e q1
    exact ⟨v, h1, h2.mono sF⟩
  · by_cases z : i = j
    · subst z
      rw [oD_putO h] at q
      cases q
      exact ⟨l, hl, nF, o⟩
    · rw [oD_putO_ne z] at q
      obtain ⟨m, h1, h2, h3⟩ := R.ow j e q
      have ne : m ≠ l := fun w => by subst w; exact z (R.ne i j c e m h q hl h1)
      obtain ⟨u, hu, ht⟩ := h3.hs
      have hn : H m ≠ none := by rw [hu]; exact (fun e => nomatch e)
      exact ⟨m, h1, (fz m hn ne).trans h2, h3.mono sF ((kp m u hu ht ne).trans hu.symm)⟩
  · obtain ⟨e1, w1⟩ := back q1
    obtain ⟨e2, w2⟩ := back q2
    exact R.ne j k e1 e2 a w1 w2 q3 q4
  · obtain ⟨e1, w1⟩ := back q1
    exact .inl ⟨j, e1, w1, q2⟩
  · refine ⟨?_, rfl⟩
    by_cases z : i = j
    · subst z
      unfold putO
      rw [q]
      exact ⟨d, List.getElem?_set_self (oD_lt h)⟩
    · rw [putO_ne z]; exact ⟨e, q⟩
/-- the cell alone -/
theorem Go.chg1 (R : Rep g F H σ ρ) {i : Nat} {c d : D} {l : Addr} {u : HO} (h : oD ρ i = some c) (hl : σ[i]? = some (some (.ref l))) (o : Own g F (upd H l u) l d) : Go g σ ρ F H σ (putO ρ i d) F (upd H l u) := by
  obtain ⟨m, h1, h2, h3⟩ := R.ow i c h
  rw [hl] at h1
  cases h1
  refine Go.chg R h hl (Same.refl _) (fun a w e => ?_) (fun _ _ _ => rfl) (fun a w e _ n => by rw [upd_ne n]; exact e) (fun a q => ?_) h2 o ⟨tabs_upd R.tb.1 (.inr (own_kind h3)), R.tb.2⟩
  rotate_left
  · by_cases z : a = l
    · rw [z, upd_same]; exact (fun e => nomatch e)
    · rw [upd_ne z]; exact q
  have n : a ≠ l := fun z => by rw [z, h2] at e; cases e
  rw [upd_ne n]; exact R.fr a w e
end

/-! ### defs -/
abbrev Sem' := List Sl → Res Rs
def spD (g : Gx) (n : Nat) (f : Sem') : Sp := fun vs H Q E => vs.length = n ∧ tW g (fun c d _ H => E c d H) f (vs.map some) H Q
structure FnD (T : Tbs) (P : Program) (w : World) (K : PySem.W.Frag) (mg : Str → Option Value) (base : Heap) (k : Nat) (f : Addr) (fd : FuncData) (ps : List Str) (sem : Sem') : Prop where
  run : ∀ (A : Around) (outer : List Env) (s : Shared) (H : Hp) (args : Args) (us : List Value) (vs : List V) (Q : VK) (E : XK), A.guards = some [] → Room k A → Env0 P w K mg base A outer s H → BindsTo s fd args (ps.zip us) → Vals vs us → spD ⟨K, mg, T⟩ ps.length sem vs H Q E →
    codeAny (model P w) A (.call (.ref f) args) (CR (L2.CX P w) outer P w H s Q E) s
/-- what a def hands back of its parameters' slots -/
def bks : List Sl → List Sl → List Sl
  | [], _ => []
  | .mu _ :: r, ρ => ρ.headD .no :: bks r ρ.tail
  | .sh d :: r, ρ => .sh d :: bks r ρ.tail
  | _ :: r, ρ => .no :: bks r ρ.tail
def fnS (m : Nat) (body : GS) : Sem' := fun ρ => match body (ρ ++ List.replicate m .no) with
  | .rt r ρ1 => .ok r (bks ρ ρ1)
  | .nx ρ1 => .ok (.sh .non) (bks ρ ρ1)
  | .ex x ρ1 => .ex x (bks ρ ρ1)
  | _ => .no
theorem bks_length : ∀ {ρ ρ1 : List Sl}, (bks ρ ρ1).length = ρ.length
  | [], _ => rfl
  | .mu _ :: r, ρ => by unfold bks; rw [List.length_cons, List.length_cons, bks_length]
  | .sh _ :: r, ρ => by unfold bks; rw [List.length_cons, List.length_cons, bks_length]
  | .no :: r, ρ => by unfold bks; rw [List.length_cons, List.length_cons, bks_length]
  | .ow _ :: r, ρ => by unfold bks; rw [List.length_cons, List.length_cons, bks_length]
theorem tail_get {α : Type} (l : List α) (i : Nat) : l.tail[i]? = l[i + 1]? := by cases l <;> simp
theorem bks_sh : ∀ {ρ ρ1 : List Sl} {i : Nat} {d : D}, ρ[i]? = some (.sh d) → (bks ρ ρ1)[i]? = some (.sh d)
  | s :: r, ρ1, 0, d, h => by
    have : s = .sh d := by simpa using h
    subst this
    rfl
  | s :: r, ρ1, i + 1, d, h => by
    have h : r[i]? = some (.sh d) := by simpa using h
    cases s <;> exact bks_sh (ρ1 := ρ1.tail) h
theorem bks_mu : ∀ {ρ ρ1 : List Sl} {i : Nat} {d d' : D}, ρ[i]? = some (.mu d) → ρ1[i]? = some (.mu d') → (bks ρ ρ1)[i]? = some (.mu d')
  | s :: r, ρ1, 0, d, d', h, h' => by
    have : s = .mu d := by simpa using h
    subst this
    cases ρ1 with
    | nil => cases h'
    | cons a t =>
      have : a = .mu d' := by simpa using h'
      subst this
      rfl
  | s :: r, ρ1, i + 1, d, d', h, h' => by
    have h : r[i]? = some (.mu d) := by simpa using h
    have h' : ρ1.tail[i]? = some (.mu d') := by rw [tail_get]; exact h'
    cases s <;> exact bks_mu (ρ1 := ρ1.tail) h h'
theorem bks_oD : ∀ {ρ ρ1 : List Sl} {i : Nat} {d : D}, oD (bks ρ ρ1) i = some d → ∃ c, ρ[i]? = some (.mu c)
  | [], _, i, d, h => by simp [bks, oD] at h
  | s :: r, ρ1, 0, d, h => by
    cases s with
    | mu c => exact ⟨c, rfl⟩
    | _ => simp [bks, oD] at h
  | s :: r, ρ1, i + 1, d, h => by
    have h : oD (bks r ρ1.tail) i = some d := by cases s <;> exact h
    obtain ⟨c, e⟩ := bks_oD h
    exact ⟨c, by simpa using e⟩
section
variable {g : Gx} {F H F1 H1 : Hp} {σ σ1 : L2.St} {ρ ρ1 : List Sl}
theorem rep_start {N : List Str} {vs : List V} (hl : vs.length ≤ N.length) (R : Rep g F H (vs.map some) ρ) : Rep g F H (start N vs) (ρ ++ List.replicate (N.length - vs.length) .no) := by
  have hρ : ρ.length = vs.length := by have := R.len; rw [List.length_map] at this; exact this.symm
  have nn : ∀ {j : Nat}, ρ.length ≤ j → (ρ ++ List.replicate (N.length - vs.length) Sl.no)[j]? = none ∨ (ρ ++ List.replicate (N.length - vs.length) Sl.no)[j]? = some .no := fun {j} h => by
    rw [List.getElem?_append_right h, List.getElem?_replicate]
    split
    · exact .inr rfl
    · exact .inl rfl
  have lt : ∀ {j : Nat} {d : D}, oD (ρ ++ List.replicate (N.length - vs.length) Sl.no) j = some d → oD ρ j = some d ∧ j < vs.length := fun {j d} h => by
    rcases Nat.lt_or_ge j ρ.length with q | q
    · unfold oD at h ⊢
      rw [List.getElem?_append_left q] at h
      exact ⟨h, by omega⟩
    · unfold oD at h
      rcases nn q with w | w <;> (rw [w] at h; cases h)
  have st : ∀ {j : Nat}, j < vs.length → (start N vs)[j]? = (vs.map some)[j]? := fun {j} h => by
    unfold L2.start
    rw [List.getElem?_append_left (by rw [List.length_map]; exact h)]
  refine ⟨?_, fun j d q => ?_, fun j d q => ?_, fun j k d e l q1 q2 q3 q4 => ?_, R.fr, R.tb⟩
  · unfold L2.start
    rw [List.length_append, List.length_append, List.length_map, List.length_replicate, List.length_replicate, hρ]
  · rcases Nat.lt_or_ge j ρ.length with w | w
    · rw [List.getElem?_append_left w] at q
      obtain ⟨v, h1, h2⟩ := R.sh j d q
      exact ⟨v, (st (by omega)).trans h1, h2⟩
    · rcases nn w with u | u <;> (rw [u] at q; cases q)
  · obtain ⟨h1, h2⟩ := lt q
    obtain ⟨l, e1, e2, e3⟩ := R.ow j d h1
    exact ⟨l, (st h2).trans e1, e2, e3⟩
  · obtain ⟨h1, h2⟩ := lt q1
    obtain ⟨h3, h4⟩ := lt q2
    exact R.ne j k d e l h1 h3 ((st h2).symm.trans q3) ((st h4).symm.trans q4)
/-- behind a def's body, at its caller -/
theorem go_end {N : List Str} {vs : List V} (hl : vs.length ≤ N.length) (R : Rep g F H (vs.map some) ρ) (go : Go g (start N vs) (ρ ++ List.replicate (N.length - vs.length) .no) F H σ1 ρ1 F1 H1) :
    Go g (vs.map some) ρ F H (vs.map some) (bks ρ ρ1) F1 H1 ∧ ∀ a, Oa (vs.map some) (bks ρ ρ1) a → Oa σ1 ρ1 a := by
  have hρ : ρ.length = vs.length := by have := R.len; rw [List.length_map] at this; exact this.symm
  have st : ∀ {j : Nat}, j < vs.length → (start N vs)[j]? = (vs.map some)[j]? := fun {j} h => by
    unfold L2.start
    rw [List.getElem?_append_left (by rw [List.length_map]; exact h)]
  have low : ∀ {j : Nat} {s : Sl}, ρ[j]? = some s → j < vs.length ∧ (ρ ++ List.replicate (N.length - vs.length) Sl.no)[j]? = some s := fun {j s} h => by
    have q := (List.getElem?_eq_some_iff.mp h).1
    exact ⟨by omega, by rw [List.getElem?_append_left q]; exact h⟩
  -- a parameter that is changed in place
  have mu : ∀ {j : Nat} {c : D}, ρ[j]? = some (.mu c) → ∃ d', ρ1[j]? = some (.mu d') ∧ (bks ρ ρ1)[j]? = some (.mu d') ∧ σ1[j]? = (vs.map some)[j]? := fun {j c} h => by
    obtain ⟨h1, h2⟩ := low h
    obtain ⟨⟨d', e1⟩, e2⟩ := go.mu j c h2
    exact ⟨d', e1, bks_mu h e1, e2.trans (st h1)⟩
  have oo : ∀ {a : Addr}, Oa (start N vs) (ρ ++ List.replicate (N.length - vs.length) Sl.no) a → Oa (vs.map some) ρ a := fun {a} ⟨j, d, q1, q2⟩ => by
    rcases Nat.lt_or_ge j ρ.length with w | w
    · refine ⟨j, d, ?_, (st (by omega)).symm.trans q2⟩
      unfold oD at q1 ⊢
      rw [List.getElem?_append_left w] at q1
      exact q1
    · unfold oD at q1
      rw [List.getElem?_append_right w, List.getElem?_replicate] at q1
      split at q1
      · rename_i hh
        split at hh <;> cases hh
      · rename_i hh
        split at hh <;> cases hh
      · cases q1
  have oe : ∀ {j : Nat} {d : D}, oD (bks ρ ρ1) j = some d → ∃ c, ρ[j]? = some (.mu c) ∧ oD ρ1 j = some d ∧ σ1[j]? = (vs.map some)[j]? := fun {j d} h => by
    obtain ⟨c, hc⟩ := bks_oD h
    obtain ⟨d', e1, e2, e3⟩ := mu hc
    refine ⟨c, hc, ?_, e3⟩
    unfold oD at h ⊢
    rw [e2] at h
    rw [e1]
    exact h
  have fin : ∀ a, Oa (vs.map some) (bks ρ ρ1) a → Oa σ1 ρ1 a := fun a ⟨j, d, q1, q2⟩ => by
    obtain ⟨c, _, e2, e3⟩ := oe q1
    exact ⟨j, d, e2, e3.trans q2⟩
  refine ⟨⟨⟨by rw [bks_length]; exact R.len, fun j d q => ?_, fun j d q => ?_, fun j k d e l q1 q2 q3 q4 => ?_, go.rep.fr, go.rep.tb⟩, go.fF, fun a h n => go.fz a h fun z => n (oo z), fun a o h t n => go.kp a o h t fun z => n (oo z), fun a ⟨j, d, q1, q2⟩ => ?_, go.th, fun j d q => ?_⟩, fin⟩
  · have hlt : j < ρ.length := by rw [← bks_length (ρ1 := ρ1)]; exact (List.getElem?_eq_some_iff.mp q).1
    cases z : ρ[j]? with
    | none => rw [List.getElem?_eq_none_iff] at z; omega
    | some s =>
      cases s with
      | sh c =>
        rw [bks_sh z] at q
        cases q
        obtain ⟨v, h1, h2⟩ := R.sh j d z
        exact ⟨v, h1, h2.mono go.fF⟩
      | mu c =>
        obtain ⟨d', _, e2, _⟩ := mu z
        rw [e2] at q; cases q
      | no =>
        exact absurd q (by
          have : ∀ {ρ ρ1 : List Sl} {j : Nat} {d : D}, ρ[j]? = some .no → (bks ρ ρ1)[j]? ≠ some (.sh d) := by
            intro ρ
            induction ρ with
            | nil => intro ρ1 j d h; cases h
            | cons s r ih =>
              intro ρ1 j d h
              cases j with
              | zero =>
                have : s = .no := by simpa using h
                subst this
                intro w
                cases w
              | succ j =>
                have h : r[j]? = some .no := by simpa using h
                cases s <;> exact ih h
          exact this z)
      | ow c =>
        exact absurd q (by
          have : ∀ {ρ ρ1 : List Sl} {j : Nat} {c d : D}, ρ[j]? = some (.ow c) → (bks ρ ρ1)[j]? ≠ some (.sh d) := by
            intro ρ
            induction ρ with
            | nil => intro ρ1 j c d h; cases h
            | cons s r ih =>
              intro ρ1 j c d h
              cases j with
              | zero =>
                have : s = .ow c := by simpa using h
                subst this
                intro w
                cases w
              | succ j =>
                have h : r[j]? = some (.ow c) := by simpa using h
                cases s <;> exact ih h
          exact this z)
  · obtain ⟨c, h1, h2, h3⟩ := oe q
    obtain ⟨l, e1, e2, e3⟩ := go.rep.ow j d h2
    exact ⟨l, h3.symm.trans e1, e2, e3⟩
  · obtain ⟨c, h1, h2, h3⟩ := oe q1
    obtain ⟨c', h4, h5, h6⟩ := oe q2
    exact go.rep.ne j k d e l h2 h5 (h3.trans q3) (h6.trans q4)
  · obtain ⟨c, h1, h2, h3⟩ := oe q1
    rcases go.oa a ⟨j, d, h2, h3.trans q2⟩ with w | w
    · exact .inl (oo w)
    · exact .inr w
  · obtain ⟨d', _, e2, _⟩ := mu q
    exact ⟨⟨d', e2⟩, rfl⟩
end
section
variable {T : Tbs} {P : Program} {w : World} {K : PySem.W.Frag} {mg : Str → Option Value} {base : Heap}
theorem fnD_of {x qual : Str} {st : Stmt} {f : Addr} {fd : FuncData} {N ps : List Str} {k : Nat} {body : GS} (F : Fun K x qual st f fd) (S : FnScope N ps (defScope st))
    (hb : ∀ (cdv : Value) (A : Around) (outer : List Env) (s : Shared) (H : Hp) (E : XK), fd.code = cdv → A.guards = some [] → Room k (A.deeper (PyProof.Rows.envOfC qual (defScope st) s.heap.objs.size f cdv)) →
      DB T (cxOf (L2.CX P w) P w K mg base N qual (defScope st) f cdv A outer s H E) (fun c d _ H => E c d H) (defBody st) body) : FnD T P w K mg base (k + 1) f fd ps (fnS (N.length - ps.length) body) := by
  have hpl : ps.length ≤ N.length := by have := congrArg List.length S.pre; rw [List.length_take] at this; omega
  obtain ⟨oc, od, kV, doc, pm, an, cdv, ct, osl, rfl, lk, hcd⟩ := F.ex
  refine ⟨fun A outer s H args us vs Q E hgd hr e0 hbn rv h => ?_⟩
  refine LamX.run_ofS lk hcd S hr e0 hbn rv h.1 fun hr' => ⟨_, hb cdv A outer s H E rfl hgd hr', ?_⟩
  obtain ⟨hl, F0, ρ, R, q⟩ := h
  have hl' : vs.length ≤ N.length := by omega
  rw [← hl] at q
  have RS : Rep ⟨K, mg, T⟩ F0 H (L2.start N vs) (ρ ++ List.replicate (N.length - vs.length) Sl.no) := rep_start hl' R
  show sD ⟨K, mg, T⟩ (fun c d _ H => E c d H) body { nx := fun _ H' => Q .non H', rt := Q } (L2.start N vs) H
  refine ⟨F0, ρ ++ List.replicate (N.length - vs.length) Sl.no, RS, ?_⟩
  have q : AtW ⟨K, mg, T⟩ (fun c d _ H => E c d H) (match body (ρ ++ List.replicate (N.length - vs.length) .no) with
    | .rt r ρ1 => .ok r (bks ρ ρ1)
    | .nx ρ1 => .ok (.sh .non) (bks ρ ρ1)
    | .ex x ρ1 => .ex x (bks ρ ρ1)
    | _ => .no) (vs.map some) ρ F0 H Q := q
  cases z : body (ρ ++ List.replicate (N.length - vs.length) .no) with
  | nx ρ1 =>
    rw [z] at q
    exact fun σ' F' H' go => q .non F' H' (go_end hl' R go).1 .non
  | rt r ρ1 =>
    rw [z] at q
    cases r with
    | sh d => exact fun v σ' F' H' go dd => q v F' H' (go_end hl' R go).1 dd
    | ow d => exact fun l σ' F' H' go a b c e => q l F' H' (go_end hl' R go).1 a b (fun u => c ((go_end hl' R go).2 l u)) e
  | ex x ρ1 =>
    rw [z] at q
    exact fun σ' F' H' cls d go xk => q F' H' cls d (go_end hl' R go).1 xk
  | bk ρ1 => rw [z] at q; exact False.elim q
  | ct ρ1 => rw [z] at q; exact False.elim q
  | no => rw [z] at q; exact False.elim q
end
end DL
end
section
set_option Elab.async false
set_option linter.all false
set_option maxRecDepth 100000
/-! DLh: calls of defs, methods of owned lists, isinstance. -/
namespace DL
open PySem PySem.Spec L2

/-! ### calls of defs -/
def plainS (n : Nat) (sem : Sem') (as : List AV) (ρ : List Sl) : Res Rs := match frDs ρ as with
  | some ds => if ds.length = n then (match sem (ds.map .sh) with
    | .ok rs _ => .ok rs ρ
    | .ex x _ => .ex x ρ
    | .no => .no) else .no
  | none => .no
/-- the first operand is a slot's own list, changed in place -/
def mutS (n : Nat) (sem : Sem') (as : List AV) (ρ : List Sl) : Res Rs := match as with
  | .vs i :: r => match oD ρ i with
    | some d => match frDs ρ r with
      | some ds => if ds.length + 1 = n then (match sem (.mu d :: ds.map .sh) with
        | .ok rs (.mu d' :: _) => .ok rs (putO ρ i d')
        | .ex x (.mu d' :: _) => .ex x (putO ρ i d')
        | _ => .no) else .no
      | none => .no
    | none => .no
  | _ => .no
def gF (n : Nat) (sem : Sem') (fa : GA) : GW := fun ρ => (fa ρ).bind fun as ρ1 => plainS n sem as ρ1
def gFM (n : Nat) (sem : Sem') (fa : GA) : GW := fun ρ => (fa ρ).bind fun as ρ1 => mutS n sem as ρ1
section
variable {g : Gx} {W : WX} {F H F1 H1 : Hp} {σ : L2.St} {ρ : List Sl} {vs : List V} {ds : List D} {n : Nat} {sem : Sem'} {as : List AV} {Q : VK}
theorem shs_get {i : Nat} {s : Sl} (h : (ds.map Sl.sh)[i]? = some s) : ∃ d, ds[i]? = some d ∧ s = .sh d := by
  rw [List.getElem?_map] at h
  cases z : ds[i]? with
  | none => rw [z] at h; cases h
  | some d => rw [z] at h; cases h; exact ⟨d, rfl, rfl⟩
theorem shs_oD {i : Nat} {d : D} (h : oD (ds.map Sl.sh) i = some d) : False := by
  unfold oD at h
  cases z : (ds.map Sl.sh)[i]? with
  | none => rw [z] at h; cases h
  | some s =>
    obtain ⟨e, _, rfl⟩ := shs_get z
    rw [z] at h; cases h
theorem rep_args (fr : Same F H) (tb : TB g.T F H) (dd : Ds g F vs ds) : Rep g F H (vs.map some) (ds.map Sl.sh) where
  len := by rw [List.length_map, List.length_map]; exact dd.length
  sh := fun i d h => by
    obtain ⟨e, h1, h2⟩ := shs_get h
    cases h2
    obtain ⟨v, q1, q2⟩ := dd.get h1
    exact ⟨v, by rw [List.getElem?_map, q1]; rfl, q2⟩
  ow := fun i d h => (shs_oD h).elim
  ne := fun i j d e l h _ _ _ => (shs_oD h).elim
  fr := fr
  tb := tb
theorem go_lift0 {ρ' : List Sl} (R : Rep g F H σ ρ) (go : Go g (vs.map some) (ds.map Sl.sh) F H (vs.map some) ρ' F1 H1) : Go g σ ρ F H σ ρ F1 H1 :=
  have no : ∀ a, ¬ Oa (vs.map some) (ds.map Sl.sh) a := fun a ⟨i, d, h, _⟩ => shs_oD h
  Go.growT R go.fF (fun a o h t => go.kp a o h t (no a)) go.th go.rep.fr (fun a h => go.fz a h (no a)) go.rep.tb
theorem plain_at (R : Rep g F H σ ρ) (ra : AvsOk g F H σ ρ vs as) (q : AtW g W (plainS n sem as ρ) σ ρ F H Q) : spD g n sem vs H Q (fun c d H => W c d σ H) := by
  unfold plainS at q
  cases z : frDs ρ as with
  | none => rw [z] at q; exact False.elim q
  | some ds =>
    rw [z] at q
    have dd := ra.dds R z
    have q : AtW g W (if ds.length = n then (match sem (ds.map .sh) with
      | .ok rs _ => .ok rs ρ
      | .ex x _ => .ex x ρ
      | .no => .no) else .no) σ ρ F H Q := q
    split at q
    · rename_i hn
      refine ⟨by rw [dd.length]; exact hn, F, ds.map .sh, rep_args R.fr R.tb dd, ?_⟩
      cases y : sem (ds.map .sh) with
      | ok rs ρ' =>
        rw [y] at q
        cases rs with
        | sh d => exact fun v F' H' go dd => q v F' H' (go_lift0 R go) dd
        | ow d => exact fun l F' H' go a b c e => q l F' H' (go_lift0 R go) a b (R.noOa e) e
      | ex x ρ' => rw [y] at q; exact fun F' H' cls d go k => q F' H' cls d (go_lift0 R go) k
      | no => rw [y] at q; exact False.elim q
    · exact False.elim q
theorem rep_argsM (fr : Same F H) (tb : TB g.T F H) {l : Addr} {d0 : D} (nF : F l = none) (o : Own g F H l d0) (dd : Ds g F vs ds) : Rep g F H ((V.ref l :: vs).map some) (.mu d0 :: ds.map Sl.sh) where
  len := by rw [List.length_map, List.length_cons, List.length_cons, List.length_map, dd.length]
  sh := fun i d h => by
    cases i with
    | zero => cases h
    | succ i =>
      obtain ⟨e, h1, h2⟩ := shs_get (show (ds.map Sl.sh)[i]? = some (.sh d) by simpa using h)
      cases h2
      obtain ⟨v, q1, q2⟩ := dd.get h1
      exact ⟨v, by simp [q1], q2⟩
  ow := fun i d h => by
    cases i with
    | zero =>
      have : d0 = d := by simpa [oD] using h
      subst this
      exact ⟨l, rfl, nF, o⟩
    | succ i => exact (shs_oD (show oD (ds.map Sl.sh) i = some d by simpa [oD] using h)).elim
  ne := fun i j d e m h h' _ _ => by
    cases i with
    | zero =>
      cases j with
      | zero => rfl
      | succ j => exact (shs_oD (show oD (ds.map Sl.sh) j = some e by simpa [oD] using h')).elim
    | succ i => exact (shs_oD (show oD (ds.map Sl.sh) i = some d by simpa [oD] using h)).elim
  fr := fr
  tb := tb
theorem oaM {l a : Addr} {d0 : D} : Oa ((V.ref l :: vs).map some) (.mu d0 :: ds.map Sl.sh) a → a = l := fun ⟨i, d, h, h'⟩ => by
  cases i with
  | zero =>
    have : some (V.ref l) = some (V.ref a) := by simpa using h'
    cases this
    rfl
  | succ i => exact (shs_oD (show oD (ds.map Sl.sh) i = some d by simpa [oD] using h)).elim
theorem go_liftM {i : Nat} {l : Addr} {c d0 d' : D} {ρ' : List Sl} (R : Rep g F H σ ρ) (h : oD ρ i = some c) (hl : σ[i]? = some (some (.ref l))) (go : Go g ((V.ref l :: vs).map some) (.mu d0 :: ds.map Sl.sh) F H ((V.ref l :: vs).map some) (.mu d' :: ρ') F1 H1) :
    Go g σ ρ F H σ (putO ρ i d') F1 H1 := by
  obtain ⟨m, e1, e2, e3⟩ := go.rep.ow 0 d' (by simp [oD])
  have e1 : some (V.ref l) = some (V.ref m) := by simpa using e1
  cases e1
  exact Go.chg R h hl go.fF go.rep.fr (fun a w n => go.fz a w fun z => n (oaM z)) (fun a o w t n => go.kp a o w t fun z => n (oaM z)) go.th e2 e3 go.rep.tb
theorem mut_at (R : Rep g F H σ ρ) (ra : AvsOk g F H σ ρ vs as) (q : AtW g W (mutS n sem as ρ) σ ρ F H Q) : spD g n sem vs H Q (fun c d H => W c d σ H) := by
  cases ra with
  | nil => exact False.elim q
  | @cons v a vs as hv ra =>
    cases a with
    | vd d => exact False.elim q
    | vs i =>
      simp only [mutS] at q
      cases z0 : oD ρ i with
      | none => rw [z0] at q; exact False.elim q
      | some d0 =>
        rw [z0] at q
        obtain ⟨l, hl, nF, o⟩ := R.ow i d0 z0
        have hv : σ[i]? = some (some v) := hv
        rw [hv] at hl
        cases hl
        cases z : frDs ρ as with
        | none => rw [z] at q; exact False.elim q
        | some ds =>
          rw [z] at q
          have dd := ra.dds R z
          have q : AtW g W (if ds.length + 1 = n then (match sem (.mu d0 :: ds.map .sh) with
            | .ok rs (.mu d' :: _) => .ok rs (putO ρ i d')
            | .ex x (.mu d' :: _) => .ex x (putO ρ i d')
            | _ => .no) else .no) σ ρ F H Q := q
          split at q
          · rename_i hn
            refine ⟨by rw [List.length_cons, dd.length]; exact hn, F, .mu d0 :: ds.map .sh, rep_argsM R.fr R.tb nF o dd, ?_⟩
            cases y : sem (.mu d0 :: ds.map .sh) with
            | ok rs ρ' =>
              rw [y] at q
              match ρ', q with
              | .mu d' :: ρ', q =>
                cases rs with
                | sh d => exact fun v F' H' go dd => q v F' H' (go_liftM R z0 hv go) dd
                | ow d => exact fun l' F' H' go a b c e => q l' F' H' (go_liftM R z0 hv go) a b (fun u => by
                    rcases (go_liftM R z0 hv go).oa l' u with w | w
                    · exact (R.oaH w).1 e
                    · obtain ⟨j, c', u1, u2⟩ := u
                      have : ∃ c'', oD ρ j = some c'' := by
                        by_cases zz : i = j
                        · subst zz; exact ⟨d0, z0⟩
                        · rw [oD_putO_ne zz] at u1; exact ⟨c', u1⟩
                      obtain ⟨c'', u3⟩ := this
                      exact (R.oaH ⟨j, c'', u3, u2⟩).1 e) e
              | [], q => exact False.elim q
              | .sh _ :: _, q => exact False.elim q
              | .ow _ :: _, q => exact False.elim q
              | .no :: _, q => exact False.elim q
            | ex x ρ' =>
              rw [y] at q
              match ρ', q with
              | .mu d' :: ρ', q => exact fun F' H' cls d go k => q F' H' cls d (go_liftM R z0 hv go) k
              | [], q => exact False.elim q
              | .sh _ :: _, q => exact False.elim q
              | .ow _ :: _, q => exact False.elim q
              | .no :: _, q => exact False.elim q
            | no => rw [y] at q; exact False.elim q
          · exact False.elim q
end
section
variable {T : Tbs} {X : Cx} {W : WX} {k : Nat} {f : Addr} {fd : FuncData} {ps ks : List Str} {sem : Sem'} {x : Str} {p pos : Pos} {e : Expr} {es : List Expr} {fa fk : GA} {kws : List Keyword}
theorem run_fnD {pins : List (Addr × Obj)} {σ : L2.St} {H : Hp} {s : Shared} {args : Args} {us : List Value} {vs : List V} {Q : VK} (F : FnD T X.prog X.w X.K X.mg X.base k f fd ps sem) (tk : Takes X W) (hgd : X.A.guards = some []) (hr : Room k X.A) (I : Inv X pins σ H s) (hb : BindsTo s fd args (ps.zip us)) (r : Vals vs us)
    (h : spD (gx T X) ps.length sem vs H Q (WE W σ)) : wpAny (model X.prog X.w) X.A (call (.ref f) args.pos args.kw) (EP X pins σ Q) X.xe s := by
  refine wpAny_call (codeAny_mono (F.run X.A X.stack s H args us vs Q (WE W σ) hgd hr I.env0 hb r h) fun r s' hq => ?_)
  cases r with
  | error e => exact passAt tk σ pins H s e s' I hq
  | ok fl =>
    cases fl with
    | ret u => exact I.after hq
    | next => exact False.elim hq
    | brk => exact False.elim hq
    | cont => exact False.elim hq
theorem pe_callG (F : FnD T X.prog X.w X.K X.mg X.base k f fd ps sem) (tk : Takes X W) (hgd : X.A.guards = some []) (hr : Room k X.A) (hg : Gl X x) (hm : X.mg x = some (.ref f)) (hk : PySem.W.keepIn X.K (.ref f) = true) (hb : Binds X.K fd ps []) {t : TA} (ha : PA X (e :: es) t)
    (hdb : (x == ("__debug__" : Str)) = false := by decide) (he : starEach (e :: es) X.env = (false, eval e X.env) :: starEach es X.env := by rfl) (hpl : (backTo pos (starEach es X.env)).any (·.1) = false := by rfl) :
    PE X (.Call (.Name x p) (e :: es) [] pos) (fun σ H Q => t σ H fun vs H1 => spD (gx T X) ps.length sem vs H1 Q (WE W σ)) := by
  refine ⟨fun pins s σ H Q I h => ?_⟩
  refine wpAny_Call_Name_kw (ld_glob I hg hm ?_ hdb)
  refine PySem.W.callWith_K (h₀ := X.base) I.ok.mod.kin hk (thn (ha.run pos pins s σ H _ I h) fun us s1 ⟨vs, H1, I1, r, q⟩ => ⟨I1.kIn, ?_⟩) he hpl
  have hl : us.length = ps.length := r.length.symm.trans q.1
  have hb' := hb s1 us I1.kIn (by simpa using hl)
  rw [List.append_nil] at hb'
  exact run_fnD F tk hgd hr I1 hb' r q
theorem dw_call (F : FnD T X.prog X.w X.K X.mg X.base k f fd ps sem) (tk : Takes X W) (hgd : X.A.guards = some []) (hr : Room k X.A) (hg : Gl X x) (hm : X.mg x = some (.ref f)) (hk : PySem.W.keepIn X.K (.ref f) = true) (hb : Binds X.K fd ps []) (ha : DA T X W (e :: es) fa)
    (hdb : (x == ("__debug__" : Str)) = false := by decide) (he : starEach (e :: es) X.env = (false, eval e X.env) :: starEach es X.env := by rfl) (hpl : (backTo pos (starEach es X.env)).any (·.1) = false := by rfl) :
    DW T X W (.Call (.Name x p) (e :: es) [] pos) (gF ps.length sem fa) :=
  PE.weak (pe_callG F tk hgd hr hg hm hk hb ha hdb he hpl) fun σ H Q ⟨F0, ρ, R, q⟩ => ⟨F0, ρ, R, At.seqW q fun vs as ρ1 F1 H1 go ra q1 => plain_at go.rep ra q1⟩
theorem dw_callM (F : FnD T X.prog X.w X.K X.mg X.base k f fd ps sem) (tk : Takes X W) (hgd : X.A.guards = some []) (hr : Room k X.A) (hg : Gl X x) (hm : X.mg x = some (.ref f)) (hk : PySem.W.keepIn X.K (.ref f) = true) (hb : Binds X.K fd ps []) (ha : DA T X W (e :: es) fa)
    (hdb : (x == ("__debug__" : Str)) = false := by decide) (he : starEach (e :: es) X.env = (false, eval e X.env) :: starEach es X.env := by rfl) (hpl : (backTo pos (starEach es X.env)).any (·.1) = false := by rfl) :
    DW T X W (.Call (.Name x p) (e :: es) [] pos) (gFM ps.length sem fa) :=
  PE.weak (pe_callG F tk hgd hr hg hm hk hb ha hdb he hpl) fun σ H Q ⟨F0, ρ, R, q⟩ => ⟨F0, ρ, R, At.seqW q fun vs as ρ1 F1 H1 go ra q1 => mut_at go.rep ra q1⟩
end

/-! ### calls with keywords alone -/
/-- the keywords' values in the parameters' order: place j of the parameters is the keyword at perm[j] -/
def permL {α : Type} (perm : List Nat) (ws : List α) : List α := perm.filterMap fun j => ws[j]?
def KPerm (K : PySem.W.Frag) (fd : FuncData) (ps ks : List Str) (perm : List Nat) : Prop := ∀ (s : Shared) (ws : List Value), ws.length = ks.length → BindsTo s fd ⟨[], ks.zip ws⟩ (ps.zip (permL perm ws))
def DK (T : Tbs) (X : Cx) (W : WX) (kws : List Keyword) (f : GA) : Prop := PK X kws (tG (gx T X) W relA f)
theorem PK.weak {X : Cx} {e : List Keyword} {t t' : TA} (h : PK X e t) (w : ∀ σ H Q, t' σ H Q → t σ H Q) : PK X e t' := ⟨fun pos pins s σ H Q I q => h.run pos pins s σ H Q I (w σ H Q q)⟩
def gFK (n : Nat) (perm : List Nat) (sem : Sem') (fa : GA) : GW := fun ρ => (fa ρ).bind fun as ρ1 => if as.length = perm.length ∧ perm.all (fun j => decide (j < as.length)) = true then plainS n sem (permL perm as) ρ1 else .no
theorem perm_vals {perm : List Nat} {vs : List V} {us : List Value} (r : Vals vs us) : Vals (permL perm vs) (permL perm us) := by
  unfold permL
  induction perm with
  | nil => exact .nil
  | cons j perm ih =>
    rw [List.filterMap_cons, List.filterMap_cons]
    cases z : vs[j]? with
    | none => rw [r.none_of z]; exact ih
    | some v =>
      obtain ⟨u, hu, ru⟩ := r.get z
      rw [hu]
      exact .cons ru ih
theorem AvsOk.get {g : Gx} {F H : Hp} {σ : L2.St} {ρ : List Sl} {vs : List V} {as : List AV} (h : AvsOk g F H σ ρ vs as) : ∀ {j : Nat}, (∀ v, vs[j]? = some v → ∃ a, as[j]? = some a ∧ AvOk g F H σ ρ v a) ∧ (vs[j]? = none → as[j]? = none) := by
  induction h with
  | nil => intro j; exact ⟨fun v e => by simp at e, fun _ => by simp⟩
  | @cons v a vs as hv _ ih =>
    intro j
    cases j with
    | zero => exact ⟨fun w e => by simp at e; subst e; exact ⟨a, rfl, hv⟩, fun e => by simp at e⟩
    | succ j =>
      obtain ⟨h1, h2⟩ := ih (j := j)
      exact ⟨fun w e => by
        obtain ⟨b, q1, q2⟩ := h1 w (by simpa using e)
        exact ⟨b, by simpa using q1, q2⟩, fun e => by simpa using h2 (by simpa using e)⟩
theorem AvsOk.perm {g : Gx} {F H : Hp} {σ : L2.St} {ρ : List Sl} {vs : List V} {as : List AV} (h : AvsOk g F H σ ρ vs as) (perm : List Nat) : AvsOk g F H σ ρ (permL perm vs) (permL perm as) := by
  unfold permL
  induction perm with
  | nil => exact .nil
  | cons j perm ih =>
    rw [List.filterMap_cons, List.filterMap_cons]
    obtain ⟨h1, h2⟩ := h.get (j := j)
    cases z : vs[j]? with
    | none => rw [h2 z]; exact ih
    | some v =>
      obtain ⟨a, ha, ra⟩ := h1 v z
      rw [ha]
      exact .cons ra ih
theorem AvsOk.length {g : Gx} {F H : Hp} {σ : L2.St} {ρ : List Sl} {vs : List V} {as : List AV} (h : AvsOk g F H σ ρ vs as) : vs.length = as.length := by
  induction h with
  | nil => rfl
  | cons _ _ ih => rw [List.length_cons, List.length_cons, ih]
section
variable {T : Tbs} {X : Cx} {W : WX} {k : Nat} {f : Addr} {fd : FuncData} {ps ks : List Str} {perm : List Nat} {sem : Sem'} {x nm : Str} {p pos kpos : Pos} {e : Expr} {es : List Expr} {fv : GV} {fk : GA} {kws : List Keyword}
theorem dk_nil : DK T X W [] gNil := PK.weak pk_nil fun σ H Q ⟨F, ρ, R, q⟩ => q [] F H (Go.refl R) .nil
theorem dk_cons (ha : DV T X W e fv) (hr : DK T X W kws fk) : DK T X W (⟨nm, e, kpos⟩ :: kws) (gCons fv fk) :=
  PK.weak (pk_cons ha hr) fun σ H Q ⟨F, ρ, R, q⟩ => ⟨F, ρ, R, At.seq q fun v a ρ1 F1 H1 go ra q1 => ⟨F1, ρ1, go.rep, At.seq q1 fun vs as ρ2 F2 H2 go2 rs q2 => At.now q2 (Go.refl go2.rep) (.cons (ra.go go2) rs)⟩⟩
theorem dw_callK (F : FnD T X.prog X.w X.K X.mg X.base k f fd ps sem) (tk : Takes X W) (hgd : X.A.guards = some []) (hr : Room k X.A) (hg : Gl X x) (hm : X.mg x = some (.ref f)) (hk : PySem.W.keepIn X.K (.ref f) = true) (hb : KPerm X.K fd ps ks perm) (hp : perm.length = ks.length) (hkw : DK T X W kws fk)
    (hall : (backToKw pos (keywordEach kws X.env)).all (·.1.isSome) = true := by rfl) (hks : (backToKw pos (keywordEach kws X.env)).filterMap (·.1) = ks := by rfl) (hdb : (x == ("__debug__" : Str)) = false := by decide)
    (hpl : ((backTo pos (starEach [] X.env)).any (·.1) || (backToKw pos (keywordEach kws X.env)).any (·.1.isNone)) = false := by rfl) :
    DW T X W (.Call (.Name x p) [] kws pos) (gFK ps.length perm sem fk) := by
  refine ⟨fun pins s σ H Q I ⟨F0, ρ, R, q⟩ => ?_⟩
  refine wpAny_Call_Name_kw (ld_glob I hg hm ?_ hdb)
  refine PySem.W.callWith_KW0 (h₀ := X.base) I.ok.mod.kin hk hall ?_ hpl
  have key : tG (gx T X) W relA fk σ H fun zs H2 => zs.length = ks.length ∧ spD (gx T X) ps.length sem (permL perm zs) H2 Q (WE W σ) := ⟨F0, ρ, R, At.seqW q fun vs as ρ1 F1 H1 go ra q1 => by
    split at q1
    · rename_i hz
      exact ⟨by rw [ra.length, hz.1, hp], plain_at go.rep (ra.perm perm) q1⟩
    · exact False.elim q1⟩
  refine thn (hkw.run pos pins s σ H _ I key) fun ws s2 ⟨zs, H2, I2, rz, l2, q2⟩ => ⟨I2.kIn, ?_⟩
  rw [hks]
  have r2 := perm_vals (perm := perm) rz
  exact run_fnD (args := ⟨[], ks.zip ws⟩) F tk hgd hr I2 (hb s2 ws (rz.length.symm.trans l2)) r2 q2
end

/-! ### methods and stores of owned lists -/
set_option maxHeartbeats 1000000 in
def rExtendT (K : PySem.W.Frag) : V → List V → Hp → VK → Prop := fun x vs H Q => ∃ l b xs zs, x = .ref l ∧ vs = [.ref b] ∧ H l = some (.lst xs) ∧ SqT K H b zs ∧ xs.length + zs.length ≤ sizeLine ∧ Q .non (upd H l (.lst (xs ++ zs)))
theorem mt_extendT {X : Cx} : MtM X "list.extend" (rExtendT X.K) := by
  intro pins s σ H x vs v us Q I rx rv h
  obtain ⟨l, b, xs, zs, rfl, rfl, hH, hB, hz, q⟩ := h
  cases rx
  obtain ⟨u, rfl, ru⟩ := rv.one
  cases ru
  obtain ⟨z, its, n, r, hl, e⟩ := I.lstM hH
  obtain ⟨its2, r2, pt, hl2⟩ := I.tuple hB
  have e1 := r.length
  have e2 := r2.length
  obtain ⟨o, ho, hc, n2, hd⟩ := id pt
  refine wpAny_call_entry F.slot_list_extend ⟨_, e, rfl⟩ F.entry_list_extend ?_ (F.args_list_extend_2 _ _)
  show wpAny _ _ (Builtin.List.listExtendWith (.ref l) (.ref b) .none) _ _ _
  unfold Builtin.List.listExtendWith
  refine wpAny_bind (wpAny_typeOf (T := "tuple") ⟨o, ho, hc⟩ ?_)
  have ht : (Value.type "tuple" == Value.type "tuple") = true := by rfl
  rw [if_pos (by rw [ht]; simp)]
  refine wpAny_bind (PyProof.Rows.listItems_at ho hd ?_)
  refine wpAny_bind (PyProof.Rows.listItems_at e rfl ?_)
  have hlong : ¬ (!its.toArray.isEmpty && Builtin.List.listTooLong (its.toArray.size + its2.toArray.size)) = true := by
    have hsz : its.toArray.size + its2.toArray.size ≤ sizeLine := by rw [List.size_toArray, List.size_toArray]; omega
    rw [notLongL hsz, Bool.and_false]
    exact Bool.false_ne_true
  rw [if_neg hlong]
  refine wpAny_bind (PyProof.Rows.listUpdate_at e rfl ?_ (by rw [List.size_toArray]; omega) (by rw [Array.size_append, List.size_toArray, List.size_toArray]; omega))
  refine wpAny_pure ⟨_, rfl, ?_⟩
  refine ⟨.non, _, I.lset (its' := its ++ its2) hH e (by simp) (r.append r2) ?_, rfl, q⟩
  rw [List.length_append]
  omega
def rExtA (K : PySem.W.Frag) : V → List V → Hp → VK → Prop := fun x vs H Q => rExtend x vs H Q ∨ rExtendT K x vs H Q
theorem mt_extA {X : Cx} : MtM X "list.extend" (rExtA X.K) := fun pins s σ H x vs v us Q I rx rv h => h.elim (mt_extend pins s σ H x vs v us Q I rx rv) (mt_extendT pins s σ H x vs v us Q I rx rv)
def lst? : D → Option (List D)
  | .lst ds => some ds
  | _ => none
theorem lst?_is {d : D} {ds : List D} (h : lst? d = some ds) : d = .lst ds := by
  cases d <;> first | (cases h; rfl) | cases h
def appS (i : Nat) (d : D) (ρ : List Sl) : Out := match (oD ρ i).bind lst? with
  | some ds => if ds.length < 1000000 then .nx (putO ρ i (.lst (ds ++ [d]))) else .no
  | none => .no
def gApp (i : Nat) (f : GE) : GS := fun ρ => (f ρ).bindS fun d ρ1 => appS i d ρ1
def extS (i : Nat) (a : AV) (ρ : List Sl) : Out := match (oD ρ i).bind lst?, (vD ρ a).bind D.items with
  | some ds, some es => if ds.length + es.length ≤ 1000000 then .nx (putO ρ i (.lst (ds ++ es))) else .no
  | _, _ => .no
def gExt (i : Nat) (f : GV) : GS := fun ρ => (f ρ).bindS fun a ρ1 => extS i a ρ1
def isetS (i : Nat) (d : D) (a : AV) (ρ : List Sl) : Out := match (oD ρ i).bind lst?, vD ρ a with
  | some ds, some (.int k) => match ixN ds.length k with
    | some j => .nx (putO ρ i (.lst (ds.set j d)))
    | none => .no
  | _, _ => .no
/-- x[k] = e: e, then k -/
def isOl (ρ : List Sl) (i : Nat) : Bool := ((oD ρ i).bind lst?).isSome
def gISet (i : Nat) (f : GE) (h : GV) : GS := fun ρ => (f ρ).bindS fun d ρ1 => if isOl ρ1 i = true then (h ρ1).bindS fun a ρ2 => isetS i d a ρ2 else .no
section
variable {T : Tbs} {X : Cx} {W : WX} {e ix : Expr} {f : GE} {h : GV} {i : Nat} {x : Str} {apos cpos spos pos xp tp : Pos}
theorem oD_bind {ρ : List Sl} {i : Nat} {ds : List D} (h : (oD ρ i).bind lst? = some ds) : oD ρ i = some (.lst ds) := by
  cases z : oD ρ i with
  | none => rw [z] at h; cases h
  | some d => rw [z] at h; rw [lst?_is h]
theorem ow_of {g : Gx} {F H : Hp} {σ : L2.St} {ρ : List Sl} (R : Rep g F H σ ρ) {i : Nat} {ds : List D} (h : (oD ρ i).bind lst? = some ds) : ∃ l vs, σ[i]? = some (some (.ref l)) ∧ H l = some (.lst vs) ∧ Ds g F vs ds := by
  obtain ⟨l, e1, _, vs, e2, e3⟩ := R.ow i _ (oD_bind h)
  exact ⟨l, vs, e1, e2, e3⟩
/-- the slot's cell ahead of the operand -/
theorem ow_hd {g : Gx} {F H : Hp} {σ : L2.St} {ρ : List Sl} (R : Rep g F H σ ρ) {i : Nat} {d : D} (h : oD ρ i = some d) : ∃ l u, σ[i]? = some (some (.ref l)) ∧ H l = some u ∧ Own g F H l d := by
  obtain ⟨l, e1, _, e3⟩ := R.ow i _ h
  obtain ⟨u, hu, _⟩ := e3.hs
  exact ⟨l, u, e1, hu, e3⟩
def gApp' (i : Nat) (f : GE) : GS := fun ρ => if isOl ρ i = true then gApp i f ρ else .no
def gExt' (i : Nat) (f : GV) : GS := fun ρ => if isOl ρ i = true then gExt i f ρ else .no
theorem isOl_of {ρ : List Sl} {i : Nat} (h : isOl ρ i = true) : ∃ ds, (oD ρ i).bind lst? = some ds := Option.isSome_iff_exists.mp h
theorem ds_app {c : Expr} (he : PE X c (tBM X.K "list" rAppend (tVar i) (tCons (tG (gx T X) W relD f) tNil))) (hs : swapsWith c none spos.line X.env = pure false := by rfl) :
    DS T X W (.Expr c spos) (gApp' i f) := by
  refine PS.weak (ps_expr he hs) fun Dn σ H ⟨F, ρ, R, q⟩ => ?_
  unfold gApp' at q
  split at q
  · rename_i ho
    obtain ⟨ds, hds⟩ := isOl_of ho
    obtain ⟨l, vs, e1, e2, e3⟩ := ow_of R hds
    refine ⟨.ref l, e1, .inl ⟨rfl, _, .of e2⟩, F, ρ, R, At.seqS q fun v d ρ1 F1 H1 go dd q1 => ?_⟩
    unfold appS at q1
    cases z : (oD ρ1 i).bind lst? with
    | none => rw [z] at q1; exact False.elim q1
    | some es =>
      rw [z] at q1
      have q1 : AtS (gx T X) W (if es.length < 1000000 then .nx (putO ρ1 i (.lst (es ++ [d]))) else .no) σ ρ1 F1 H1 Dn := q1
      split at q1
      · rename_i hz
        obtain ⟨l', ws, e4, e5, e6⟩ := ow_of go.rep z
        rw [e1] at e4
        cases e4
        refine ⟨l, ws, v, rfl, rfl, e5, by rw [e6.length]; have := mil; omega, ?_⟩
        exact q1 σ F1 _ (Go.chg1 go.rep (oD_bind z) e1 ⟨ws ++ [v], upd_same, e6.append (.cons dd .nil)⟩)
      · exact False.elim q1
  · exact False.elim q
theorem ds_ext {c : Expr} (he : PE X c (tBM X.K "list" (rExtA X.K) (tVar i) (tCons (tG (gx T X) W relV h) tNil))) (hs : swapsWith c none spos.line X.env = pure false := by rfl) :
    DS T X W (.Expr c spos) (gExt' i h) := by
  refine PS.weak (ps_expr he hs) fun Dn σ H ⟨F, ρ, R, q⟩ => ?_
  unfold gExt' at q
  split at q
  · rename_i ho
    obtain ⟨ds, hds⟩ := isOl_of ho
    obtain ⟨l, vs, e1, e2, e3⟩ := ow_of R hds
    refine ⟨.ref l, e1, .inl ⟨rfl, _, .of e2⟩, F, ρ, R, At.seqS q fun v a ρ1 F1 H1 go ra q1 => ?_⟩
    unfold extS at q1
    cases z : (oD ρ1 i).bind lst? with
    | none => rw [z] at q1; exact False.elim q1
    | some es =>
      cases y : (vD ρ1 a).bind D.items with
      | none => rw [z, y] at q1; exact False.elim q1
      | some fs =>
        rw [z, y] at q1
        have q1 : AtS (gx T X) W (if es.length + fs.length ≤ 1000000 then .nx (putO ρ1 i (.lst (es ++ fs))) else .no) σ ρ1 F1 H1 Dn := q1
        split at q1
        · rename_i hz
          obtain ⟨l', ws, e4, e5, e6⟩ := ow_of go.rep z
          rw [e1] at e4
          cases e4
          cases y2 : vD ρ1 a with
          | none => rw [y2] at y; cases y
          | some d =>
            rw [y2] at y
            have fin : ∀ us, Ds (gx T X) F1 us fs → Dn.nx σ (L2.upd H1 l (.lst (ws ++ us))) := fun us h2 => q1 σ F1 _ (Go.chg1 go.rep (oD_bind z) e1 ⟨ws ++ us, upd_same, e6.append h2⟩)
            cases d with
            | lst gs =>
              cases y
              obtain ⟨b, us, rfl, h1, h2⟩ := (ra.rv go.rep y2).lst go.rep
              exact .inl ⟨l, b, ws, us, rfl, rfl, e5, h1, by rw [e6.length, h2.length]; exact Nat.le_trans hz mil, fin us h2⟩
            | tup gs =>
              cases y
              obtain ⟨b, us, rfl, h1, _, h2⟩ := (ra.rv go.rep y2).tup go.rep
              exact .inr ⟨l, b, ws, us, rfl, rfl, e5, .of h1, by rw [e6.length, h2.length]; exact Nat.le_trans hz mil, fin us h2⟩
            | _ => cases y
        · exact False.elim q1
  · exact False.elim q
theorem ds_iset (hi : X.N[i]? = some x) (hv : Vis X.env.scope x) (he : DE T X W e f) (hx : DV T X W ix h) (hs : swapsWithSole [.Subscript (.Name x xp) ix tp] e pos.line X.env = pure false := by rfl) (hw : swappedStores [.Subscript (.Name x xp) ix tp] e X.env = pure none := by rfl)
    (h1 : (assignEach [.Subscript (.Name x xp) ix tp] X.env).map (·.2) = [assign (.Subscript (.Name x xp) ix tp) X.env] := by rfl)
    (ha : ∀ v, assign (.Subscript (.Name x xp) ix tp) X.env v = (do
      let ov ← holding [v] (eval (.Name x xp) X.env)
      let iv ← holding [v, ov] (eval ix X.env)
      standAt tp
      holding [v, ov, iv] (setItem ov iv v)
      release [v, ov, iv] []) := by intro _; rfl)
    (hd : (x == ("__debug__" : Str)) = false := by decide) (hcd : (x == ("__classdict__" : Str)) = false := by decide) :
    DS T X W (.Assign [.Subscript (.Name x xp) ix tp] e pos) (gISet i f h) := by
  refine PS.weak (ps_asg he (pg_sub (pe_var hi hv hd hcd) hx set_list ha) hs hw h1) fun Dn σ H ⟨F, ρ, R, q⟩ => ⟨F, ρ, R, At.seqS q fun v d ρ1 F1 H1 go dd q1 => ?_⟩
  split at q1
  · rename_i ho
    obtain ⟨ds, hds⟩ := isOl_of ho
    obtain ⟨l, vs, e1, e2, e3⟩ := ow_of go.rep hds
    refine ⟨.ref l, e1, F1, ρ1, go.rep, At.seqS q1 fun iv a ρ2 F2 H2 go2 ra q2 => ?_⟩
    unfold isetS at q2
    cases z : (oD ρ2 i).bind lst? with
    | none => rw [z] at q2; exact False.elim q2
    | some es =>
      cases y : vD ρ2 a with
      | none => rw [z, y] at q2; exact False.elim q2
      | some kd =>
        rw [z, y] at q2
        have rk := ra.rv go2.rep y
        cases kd with
        | int k =>
          have q2 : AtS (gx T X) W (match ixN es.length k with
            | some j => .nx (putO ρ2 i (.lst (es.set j d)))
            | none => .no) σ ρ2 F2 H2 Dn := q2
          cases w : ixN es.length k with
          | none => rw [w] at q2; exact False.elim q2
          | some j =>
            rw [w] at q2
            obtain ⟨l', ws, e4, e5, e6⟩ := ow_of go2.rep z
            rw [e1] at e4
            cases e4
            refine ⟨l, ws, k, j, rfl, rk.int, e5, by rw [e6.length]; exact w, ?_⟩
            exact q2 σ F2 _ (Go.chg1 go2.rep (oD_bind z) e1 ⟨ws.set j v, upd_same, e6.set (dd.mono go2.fF) j⟩)
        | _ => exact False.elim q2
  · exact False.elim q1
end
end DL
end
section
set_option Elab.async false
set_option linter.all false
set_option maxRecDepth 100000
set_option maxHeartbeats 1000000
/-! DLr: list(reversed(tuple or list)). -/
namespace DLr
open PySem PySem.Spec PyProof.Rows RT

theorem nolen_rt : typeLookup (.type "reversed") "__len__" = pure none := by rw [typeLookup_type, builtinLookup_eq_fast]; kernel_rfl
theorem slot_rt_hint : Slot "reversed" "__length_hint__" "reversed.__length_hint__" :=
  .of (owner := "reversed") (n := "__length_hint__") (by rw [typeLookup_type, builtinLookup_eq_fast]; kernel_rfl) (by decide +kernel) (by decide +kernel) (by decide +kernel)
    (by first | exact .inl (by decide +kernel) | exact .inr (by decide +kernel)) (by rw [isSubtype_type]; kernel_rfl)
theorem entry_rt_hint : entryFor table "reversed.__length_hint__" = some Builtin.«reversed.__length_hint__» := entryFor_of_tree (by kernel_rfl)
theorem args_rt_hint (a : Value) : argsOk "reversed.__length_hint__" ⟨[a], []⟩ := by
  unfold argsOk; rw [signature?_of (id := "reversed.__length_hint__") (n := ['_', '_', 't', 'n', 'i', 'h', '_', 'h', 't', 'g', 'n', 'e', 'l', '_', '_']) (o := ['d', 'e', 's', 'r', 'e', 'v', 'e', 'r']) (by kernel_rfl) owner_rt]; kernel_rfl
section
variable {prog : Program} {w : World} {A : Around} {E : Value → Shared → Prop} {s : Shared}
theorem hint_call {it t : Addr} {items : Array Value} {Q : Value → Shared → Prop} (hit : IsRt s.heap it t ((items.size : Int) - 1)) (ht : IsTup s.heap t items) (hsz : items.size ≤ 2 ^ 24)
    (h : ∀ k tk, Q (.int (items.size : Int) k) { s with toks := tk }) : wpAny (model prog w) A (call (.builtin "reversed.__length_hint__") [.ref it]) Q E s := by
  obtain ⟨o, ho, hc, hd⟩ := id hit
  refine wpAny_call_entry slot_rt_hint hit.typeIs entry_rt_hint ?_ (args_rt_hint _)
  unfold Builtin.«reversed.__length_hint__»
  refine wpAny_bind (wpAny_of_eq (a := Value.ref it) rfl ?_)
  try dsimp only
  refine wpAny_bind (wpAny_field ho hd (x := .ref t) rfl ?_)
  try dsimp only
  rw [if_neg (show ¬ ((Value.ref t == Value.none) = true) from Bool.false_ne_true)]
  try dsimp only
  refine wpAny_bind (m := call (.builtin "len") [.ref t]) (PyProof.Rows.len_tuple ht (by omega) ?_)
  refine wpAny_bind (wpAny_of_eq (a := some ((items.size : Nat) : Int)) rfl ?_)
  try dsimp only
  refine wpAny_bind (wpAny_field (s := { s with toks := s.toks + 1 + 1 }) ho hd (x := rawInt ((items.size : Int) - 1)) rfl ?_)
  show wpAny _ _ (if ((items.size : Nat) : Int) < ((items.size : Int) - 1) + 1 then _ else _) _ _ _
  rw [if_neg (by omega)]
  refine wpAny_bind (m := mkInt _) (wpAny_mkInt ?_)
  show wpAny _ _ (pure (Fin.done (.ret (.int ((items.size : Int) - 1 + 1) _)))) _ _ _
  refine wpAny_pure ⟨_, rfl, ?_⟩
  rw [show (items.size : Int) - 1 + 1 = items.size by omega]
  exact h _ _
theorem wpAny_hint_rt {it t : Addr} {items : Array Value} {Q : Bool → Shared → Prop} (hit : IsRt s.heap it t ((items.size : Int) - 1)) (ht : IsTup s.heap t items) (hsz : items.size ≤ 2 ^ 24)
    (h : ∀ tk, Q ((items.size : Int) != 0) { s with toks := tk }) : wpAny (model prog w) A (Builtin.List.listLengthHint (.ref it)) Q E s := by
  unfold Builtin.List.listLengthHint
  refine wpAny_bind (wpAny_specialOf hit.typeIs nolen_rt ?_)
  show wpAny _ A (specialOf (Value.ref it) (Str.ofString "__length_hint__") >>= _) _ _ _
  refine wpAny_bind (wpAny_specialOf hit.typeIs slot_rt_hint.lookup ?_)
  generalize hid : ("reversed.__length_hint__" : String) = id0
  wp_delta
  rw [show splitId id0 = some ("reversed", "__length_hint__") from by subst hid; decide +kernel]
  subst hid
  refine wpAny_bind (wpAny_isInstance (T := "reversed") (b := true) hit.typeIs (by rw [isSubtype_type]; kernel_rfl) ?_)
  refine wpAny_ite_split (fun hab => absurd hab (by decide)) (fun _ => ?_)
  refine wpAny_ite_split (fun hab => absurd hab (by decide +kernel)) (fun _ => ?_)
  refine wpAny_bind (wpAny_rule ?_)
  refine wpAny_bind (wpAny_of_eq (slot_rt_hint.bind _) ?_)
  try dsimp only
  refine wpAny_bind (wpAny_attempt (hint_call hit ht hsz fun k tk => ?_))
  try dsimp only
  generalize items.size = n at h hsz ⊢
  have ea : asInt? (Value.int (n : Int) k) = pure (some ((n : Nat) : Int)) := rfl
  rw [ea, pure_bind]
  try dsimp only
  have hf : Builtin.List.listFitsIndex ((n : Nat) : Int) = true := by
    unfold Builtin.List.listFitsIndex
    simp only [Bool.and_eq_true, decide_eq_true_eq]
    omega
  have htl : Builtin.List.listTooLong (((n : Nat) : Int).toNat) = false := by simp [Builtin.List.listTooLong, sizeLine]; omega
  rw [if_neg (show ¬ ((!Builtin.List.listFitsIndex (n : Int)) = true) by rw [hf]; decide), if_neg (show ¬ ((n : Int) < 0) by omega), if_neg (show ¬ (Builtin.List.listTooLong ((n : Int).toNat) = true) by rw [htl]; decide)]
  exact wpAny_pure (h _)
theorem walks_rt (hh : A.handled = none) (it t : Addr) (hne : t ≠ it) (items : Array Value) (hsz : items.size ≤ sizeLine) :
    Walks prog w A it [it, t] [it] items.size (fun i v => items[items.size - 1 - i]? = some v) (fun i h => i ≤ items.size ∧ IsRt h it t ((items.size : Int) - 1 - i) ∧ IsTup h t items) where
  sub := fun b hb => by simp at hb; simp [hb]
  frame := fun _ _ _ st hk => ⟨st.1, st.2.1.at fun o e => hk it (by simp) o e, let ⟨o, ho, r⟩ := st.2.2; ⟨o, hk t (by simp) o ho, r⟩⟩
  item := fun i s Q E hi st hQ => by
    obtain ⟨h1, h2, h3⟩ := st
    have e0 : ((items.size : Int) - 1 - i) = ((items.size - 1 - i : Nat) : Int) := by omega
    rw [e0] at h2
    have hx : items[items.size - 1 - i]? = some items[items.size - 1 - i] := Array.getElem?_eq_getElem (by omega)
    refine next_rt_item h2 h3 hx hsz fun h' hit' sb => hQ _ h' _ hx ⟨hi, ?_, ?_⟩ fun b o hb e => (sb.2 b (fun z => hb (by simp [z]))).trans e
    · rw [show (items.size : Int) - 1 - (i + 1 : Nat) = ((items.size - 1 - i : Nat) : Int) - 1 by omega]; exact hit'
    · obtain ⟨o, ho, r⟩ := h3
      exact ⟨o, (sb.2 t hne).trans ho, r⟩
  done := fun s Q E st hQ => by
    obtain ⟨h1, h2, h3⟩ := st
    rw [show (items.size : Int) - 1 - (items.size : Nat) = -1 by omega] at h2
    exact next_rt_end hh h2 fun h' eb => hQ h' _ fun b o hb e => eb b o (fun z => hb (by simp [z])) e
  self := fun i s Q E st hQ => iter_rt st.2.1 hQ
theorem wpAny_extend_rt {R : Result → Shared → Prop} {it t : Addr} {items : Array Value} (hh : A.handled = none) (hit : IsRt s.heap it t ((items.size : Int) - 1)) (ht : IsTup s.heap t items) (hne : t ≠ it) (hsz : items.size ≤ 2 ^ 24) (S : Addr) (res : Value) (c₀ : Nat)
    (hSi : S ≠ it) (hSt : S ≠ t) (hS : s.heap.get? S = some { cls := .type "list", data := .seq #[] c₀ })
    (hR : ∀ h' tk acc' c', (∀ b o, b ≠ S → b ≠ it → s.heap.get? b = some o → h'.get? b = some o) → h'.get? S = some { cls := .type "list", dict := none, data := .seq acc' c', slots := #[] } →
      ItemsOf (fun i v => items[items.size - 1 - i]? = some v) acc' items.size → R (.ok (.ret res)) { s with heap := h', toks := tk }) :
    wpAny (model prog w) A.in1 (Builtin.List.listExtendWith (.ref S) (.ref it) res)
      (fun fin s' => match fin with | .done f => R (.ok f) s' | .again c' => c'.quiet = true ∧ codeAny (model prog w) A c' R s') (fun e s' => R (.error e) s') s := by
  have hln : items.size ≤ sizeLine := by rw [sizeLine_eq]; omega
  have hSf : S ∉ [it, t] := by simp [hSi, hSt]
  have W := (walks_rt (prog := prog) (w := w) (A := A.in1) hh it t hne items hln).toS
  have key : ∀ (h : Heap) (c₁ tk : Nat), (∀ b o, b ≠ S → s.heap.get? b = some o → h.get? b = some o) →
      h.get? S = some { cls := .type "list", data := .seq #[] c₁ } → codeAny (model prog w) A (.builtin "list.extend.loop" ⟨[.ref S, .ref it, res], []⟩) R { s with heap := h, toks := tk } := by
    intro h c₁ tk hk hS₁
    refine codeAny_extend_loopS W hln S hSf res items.size 0 _ #[] c₁ rfl (Nat.zero_le _) ⟨Nat.zero_le _, ?_, ?_⟩ hS₁ (ItemsOf.nil _) fun s' acc' c' hm hS' hacc => ?_
    · rw [show (items.size : Int) - 1 - ((0 : Nat) : Int) = (items.size : Int) - 1 by omega]
      exact hit.at fun o e => hk it o (Ne.symm hSi) e
    · obtain ⟨o, ho, r⟩ := ht
      exact ⟨o, hk t o (Ne.symm hSt) ho, r⟩
    rw [Moved.eq_with hm]
    refine hR s'.heap s'.toks acc' c' (fun b o hb hb2 e => hm.heap b o (fun hmem => ?_) (hk b o hb e)) hS' hacc
    rcases List.mem_cons.mp hmem with e' | hmem
    · exact hb e'
    · exact hb2 (List.mem_singleton.mp hmem)
  unfold Builtin.List.listExtendWith
  refine wpAny_bind (wpAny_typeOf (T := "reversed") hit.typeIs ?_)
  have h1 : Builtin.List.listSameRef (.ref S) (.ref it) = false := by simp [Builtin.List.listSameRef, hSi]
  have h2 : (Value.type "reversed" == Value.type "list") = false := by decide
  have h3 : (Value.type "reversed" == Value.type "tuple") = false := by decide
  simp only [h1, h2, h3, Bool.or_false, Bool.false_eq_true, if_false]
  refine wpAny_bind (iter_rt hit ?_)
  refine wpAny_bind (wpAny_holding (wpAny_hint_rt hit ht hsz fun tk => ?_))
  refine wpAny_ite_split (fun _ => ?_) (fun _ => wpAny_pure ⟨plainId_quiet F.plain_extend_loop _, key _ c₀ _ (fun b o _ e => e) hS⟩)
  refine wpAny_bind (wpAny_rule ?_)
  refine wpAny_bind ?_
  show wpAny _ _ (updateSeq S (·.push .none) >>= fun _ => updateSeq S (·.pop)) _ _ _
  refine wpAny_bind (wpAny_updateSeq hS rfl ?_)
  have hS₂ := Heap.get?_update_self (Obj.mapSeq (·.push Value.none)) hS rfl
  refine wpAny_updateSeq (hz := by seq_fits) hS₂ rfl ?_
  have hS₃ := Heap.get?_update_self (Obj.mapSeq (·.pop)) hS₂ rfl
  exact wpAny_pure ⟨plainId_quiet F.plain_extend_loop _, key _ _ _ (fun b o hb e => (Heap.get?_update_other _ _ (Ne.symm hb)).trans ((Heap.get?_update_other _ _ (Ne.symm hb)).trans e)) hS₃⟩
theorem wpAny_list_init_rt {R : Result → Shared → Prop} {it t : Addr} {items : Array Value} (hh : A.handled = none) (hit : IsRt s.heap it t ((items.size : Int) - 1)) (ht : IsTup s.heap t items) (hne : t ≠ it) (hsz : items.size ≤ 2 ^ 24) (S : Addr)
    (hSi : S ≠ it) (hSt : S ≠ t) (hS : s.heap.get? S = some { cls := .type "list", data := .seq #[] })
    (hR : ∀ h' tk acc' c', (∀ b o, b ≠ S → b ≠ it → s.heap.get? b = some o → h'.get? b = some o) → h'.get? S = some { cls := .type "list", dict := none, data := .seq acc' c', slots := #[] } →
      ItemsOf (fun i v => items[items.size - 1 - i]? = some v) acc' items.size → R (.ok (.ret .none)) { s with heap := h', toks := tk }) :
    wpAny (model prog w) A.in1 (Builtin.«list.__init__» ⟨[.ref S, .ref it], []⟩)
      (fun fin s' => match fin with | .done f => R (.ok f) s' | .again c' => c'.quiet = true ∧ codeAny (model prog w) A c' R s') (fun e s' => R (.error e) s') s := by
  show wpAny _ _ (do let old ← Builtin.List.listItems (.ref S); Builtin.List.listUpdate (.ref S) (fun _ => #[]); letGo old.toList.reverse; Builtin.List.listExtendWith (.ref S) (.ref it) .none) _ _ s
  refine wpAny_bind ?_
  unfold Builtin.List.listItems
  refine wpAny_bind (wpAny_seqItems hS rfl (wpAny_pure ?_))
  show wpAny _ _ (updateSeq S (fun _ => #[]) >>= fun _ => letGo (#[] : Array Value).toList.reverse >>= fun _ => Builtin.List.listExtendWith (.ref S) (.ref it) .none) _ _ s
  refine wpAny_bind (wpAny_updateSeq hS rfl ?_)
  have hS₂ := Heap.get?_update_self (Obj.mapSeq (fun _ => (#[] : Array Value))) hS rfl
  have oth : ∀ b o, b ≠ S → s.heap.get? b = some o → (s.heap.update S (Obj.mapSeq (fun _ => (#[] : Array Value)))).get? b = some o :=
    fun b o hb e => (Heap.get?_update_other _ _ (Ne.symm hb)).trans e
  refine wpAny_bind (wpAny_letGo ?_)
  refine wpAny_extend_rt (s := { s with heap := s.heap.update S (Obj.mapSeq (fun _ => (#[] : Array Value))) }) hh (hit.at fun o e => oth it o (Ne.symm hSi) e) (let ⟨o, ho, r⟩ := ht; ⟨o, oth t o (Ne.symm hSt) ho, r⟩) hne hsz S .none _ hSi hSt hS₂ fun h' tk acc' c' hk hS' hacc => ?_
  exact hR h' tk acc' c' (fun b o hb hb2 e => hk b o hb hb2 (oth b o hb e)) hS' hacc
theorem call_list_rt {Q : Value → Shared → Prop} {it t : Addr} {items : Array Value} (hh : A.handled = none) (hit : IsRt s.heap it t ((items.size : Int) - 1)) (ht : IsTup s.heap t items) (hne : t ≠ it) (hsz : items.size ≤ 2 ^ 24)
    (hQ : ∀ h' tk acc' c', (∀ b o, b ≠ it → s.heap.get? b = some o → h'.get? b = some o) →
      h'.get? s.heap.objs.size = some { cls := .type "list", dict := none, data := .seq acc' c', slots := #[] } → ItemsOf (fun i v => items[items.size - 1 - i]? = some v) acc' items.size → Q (.ref s.heap.objs.size) { s with heap := h', toks := tk }) :
    wpAny (model prog w) A (call (.type "list") [.ref it]) Q E s := by
  refine callType_codes (Q₁ := fun obj s₁ => obj = .ref s.heap.objs.size ∧ s₁ = { s with heap := s.heap.push { cls := .type "list", data := .seq #[] } }) F.called_list (F.typeCall_list_1 _) F.entry_list_init
    (code_list_new _ ⟨rfl, rfl⟩) fun obj s₁ h₁ => ?_
  obtain ⟨rfl, rfl⟩ := h₁
  have hS : (s.heap.push { cls := .type "list", data := .seq #[] }).get? s.heap.objs.size = some { cls := .type "list", data := .seq #[] } := Heap.get?_push_size _ rfl
  obtain ⟨oi, hoi, _⟩ := id hit
  obtain ⟨ot, hot, rt⟩ := id ht
  refine ⟨⟨_, hS, rfl⟩, F.args_list_init_2 _ _, wpAny_list_init_rt (A := A.in1) (s := { s with heap := s.heap.push { cls := .type "list", data := .seq #[] } }) hh (hit.at fun o e => Heap.get?_push_of_some _ e) ⟨ot, Heap.get?_push_of_some _ hot, rt⟩ hne hsz _ (Nat.ne_of_gt (Heap.lt_size hoi)) (Nat.ne_of_gt (Heap.lt_size hot)) hS fun h' tk acc' c' hk hS' hacc => ?_⟩
  exact ⟨rfl, hQ h' tk acc' c' (fun b o hb e => hk b o (Nat.ne_of_lt (Heap.lt_size e)) hb (Heap.get?_push_of_some _ e)) hS' hacc⟩
theorem wpAny_extend_lri {R : Result → Shared → Prop} {it l : Addr} {items : Array Value} (hh : A.handled = none) (hit : s.heap.IsRevIter it l ((items.size : Int) - 1)) (hl : s.heap.IsList l items) (hne : l ≠ it) (hn : items.size ≤ sizeLine) (S : Addr) (res : Value) (c₀ : Nat)
    (hSi : S ≠ it) (hSl : S ≠ l) (hS : s.heap.get? S = some { cls := .type "list", data := .seq #[] c₀ })
    (hR : ∀ h' tk acc' c', (∀ b o, b ≠ S → b ≠ it → s.heap.get? b = some o → h'.get? b = some o) → h'.get? S = some { cls := .type "list", dict := none, data := .seq acc' c', slots := #[] } →
      ItemsOf (fun i v => items[items.size - 1 - i]? = some v) acc' items.size → R (.ok (.ret res)) { s with heap := h', toks := tk }) :
    wpAny (model prog w) A.in1 (Builtin.List.listExtendWith (.ref S) (.ref it) res)
      (fun fin s' => match fin with | .done f => R (.ok f) s' | .again c' => c'.quiet = true ∧ codeAny (model prog w) A c' R s') (fun e s' => R (.error e) s') s := by
  have hSf : S ∉ [it, l] := by simp [hSi, hSl]
  have W := (Walks.listRev (prog := prog) (w := w) (A := A.in1) hh it l hne items).toS
  have hT : s.TypeIs (.ref it) "list_reverseiterator" := Heap.IsRevIter.typeIs hit
  have h1 : Builtin.List.listSameRef (.ref S) (.ref it) = false := by simp [Builtin.List.listSameRef, hSi]
  unfold Builtin.List.listExtendWith
  refine wpAny_bind (wpAny_typeOf hT ?_)
  rw [if_neg (by rw [h1]; decide)]
  refine wpAny_bind (wpAny_pyIter_revIter hit ?_)
  refine wpAny_bind (wpAny_holding ?_)
  unfold Builtin.List.listLengthHint
  refine wpAny_bind (wpAny_specialOf hT nolen_lri ?_)
  show wpAny _ A.in1 (specialOf (Value.ref it) (Str.ofString "__length_hint__") >>= _) _ _ _
  refine wpAny_bind (wpAny_specialOf hT hint_lri ?_)
  generalize hid : ("list_reverseiterator.__length_hint__" : String) = id0
  wp_delta
  rw [show splitId id0 = some ("list_reverseiterator", "__length_hint__") from by subst hid; decide +kernel]
  subst hid
  refine wpAny_bind (wpAny_isInstance (b := true) hT (by rw [isSubtype_type]; kernel_rfl) ?_)
  refine wpAny_pure ?_
  rw [if_neg (by decide)]
  have e0 : ((items.size : Nat) : Int) - 1 - ((0 : Nat) : Int) = (items.size : Int) - 1 := by omega
  refine wpAny_pure ⟨plainId_quiet F.plain_extend_loop _, codeAny_extend_loopS W hn _ hSf _ items.size 0 _ _ _ rfl (Nat.zero_le _) ⟨Nat.zero_le _, by rw [e0]; exact hit, hl⟩ hS (ItemsOf.nil _) fun s' acc' c' hm hS' hacc => ?_⟩
  rw [Moved.eq_with hm]
  refine hR s'.heap s'.toks acc' c' (fun b o hb hb2 e => hm.heap b o (fun hmem => ?_) e) hS' hacc
  rcases List.mem_cons.mp hmem with e' | hmem
  · exact hb e'
  · exact hb2 (List.mem_singleton.mp hmem)
theorem wpAny_list_init_lri {R : Result → Shared → Prop} {it l : Addr} {items : Array Value} (hh : A.handled = none) (hit : s.heap.IsRevIter it l ((items.size : Int) - 1)) (hl : s.heap.IsList l items) (hne : l ≠ it) (hn : items.size ≤ sizeLine) (S : Addr)
    (hSi : S ≠ it) (hSl : S ≠ l) (hS : s.heap.get? S = some { cls := .type "list", data := .seq #[] })
    (hR : ∀ h' tk acc' c', (∀ b o, b ≠ S → b ≠ it → s.heap.get? b = some o → h'.get? b = some o) → h'.get? S = some { cls := .type "list", dict := none, data := .seq acc' c', slots := #[] } →
      ItemsOf (fun i v => items[items.size - 1 - i]? = some v) acc' items.size → R (.ok (.ret .none)) { s with heap := h', toks := tk }) :
    wpAny (model prog w) A.in1 (Builtin.«list.__init__» ⟨[.ref S, .ref it], []⟩)
      (fun fin s' => match fin with | .done f => R (.ok f) s' | .again c' => c'.quiet = true ∧ codeAny (model prog w) A c' R s') (fun e s' => R (.error e) s') s := by
  show wpAny _ _ (do let old ← Builtin.List.listItems (.ref S); Builtin.List.listUpdate (.ref S) (fun _ => #[]); letGo old.toList.reverse; Builtin.List.listExtendWith (.ref S) (.ref it) .none) _ _ s
  refine wpAny_bind ?_
  unfold Builtin.List.listItems
  refine wpAny_bind (wpAny_seqItems hS rfl (wpAny_pure ?_))
  show wpAny _ _ (updateSeq S (fun _ => #[]) >>= fun _ => letGo (#[] : Array Value).toList.reverse >>= fun _ => Builtin.List.listExtendWith (.ref S) (.ref it) .none) _ _ s
  refine wpAny_bind (wpAny_updateSeq hS rfl ?_)
  have hS₂ := Heap.get?_update_self (Obj.mapSeq (fun _ => (#[] : Array Value))) hS rfl
  have oth : ∀ b o, b ≠ S → s.heap.get? b = some o → (s.heap.update S (Obj.mapSeq (fun _ => (#[] : Array Value)))).get? b = some o :=
    fun b o hb e => (Heap.get?_update_other _ _ (Ne.symm hb)).trans e
  refine wpAny_bind (wpAny_letGo ?_)
  refine wpAny_extend_lri (s := { s with heap := s.heap.update S (Obj.mapSeq (fun _ => (#[] : Array Value))) }) hh (hit.at fun o e => oth it o (Ne.symm hSi) e) (hl.at fun o e => oth l o (Ne.symm hSl) e) hne hn S .none _ hSi hSl hS₂ fun h' tk acc' c' hk hS' hacc => ?_
  exact hR h' tk acc' c' (fun b o hb hb2 e => hk b o hb hb2 (oth b o hb e)) hS' hacc
theorem call_list_lri {Q : Value → Shared → Prop} {it l : Addr} {items : Array Value} (hh : A.handled = none) (hit : s.heap.IsRevIter it l ((items.size : Int) - 1)) (hl : s.heap.IsList l items) (hne : l ≠ it) (hn : items.size ≤ sizeLine)
    (hQ : ∀ h' tk acc' c', (∀ b o, b ≠ it → s.heap.get? b = some o → h'.get? b = some o) →
      h'.get? s.heap.objs.size = some { cls := .type "list", dict := none, data := .seq acc' c', slots := #[] } → ItemsOf (fun i v => items[items.size - 1 - i]? = some v) acc' items.size → Q (.ref s.heap.objs.size) { s with heap := h', toks := tk }) :
    wpAny (model prog w) A (call (.type "list") [.ref it]) Q E s := by
  refine callType_codes (Q₁ := fun obj s₁ => obj = .ref s.heap.objs.size ∧ s₁ = { s with heap := s.heap.push { cls := .type "list", data := .seq #[] } }) F.called_list (F.typeCall_list_1 _) F.entry_list_init
    (code_list_new _ ⟨rfl, rfl⟩) fun obj s₁ h₁ => ?_
  obtain ⟨rfl, rfl⟩ := h₁
  have hS : (s.heap.push { cls := .type "list", data := .seq #[] }).get? s.heap.objs.size = some { cls := .type "list", data := .seq #[] } := Heap.get?_push_size _ rfl
  obtain ⟨oi, hoi, _⟩ := id hit
  obtain ⟨ol, hol, _⟩ := id hl
  refine ⟨⟨_, hS, rfl⟩, F.args_list_init_2 _ _, wpAny_list_init_lri (A := A.in1) (s := { s with heap := s.heap.push { cls := .type "list", data := .seq #[] } }) hh (hit.at fun o e => Heap.get?_push_of_some _ e) (hl.push _) hne hn _ (Nat.ne_of_gt (Heap.lt_size hoi)) (Nat.ne_of_gt (Heap.lt_size hol)) hS fun h' tk acc' c' hk hS' hacc => ?_⟩
  exact ⟨rfl, hQ h' tk acc' c' (fun b o hb e => hk b o (Nat.ne_of_lt (Heap.lt_size e)) hb (Heap.get?_push_of_some _ e)) hS' hacc⟩
end
end DLr
end
section
set_option Elab.async false
set_option linter.all false
set_option maxRecDepth 100000
set_option maxHeartbeats 1000000
/-! DLs: sorted(list or tuple of data), list(reversed(tuple)), as calls. -/
namespace DLs
open PySem PySem.Spec PySem.Calls PyProof.Rows PySem.W
section
variable {prog : Program} {w : World} {A : Around} {E : Value → Shared → Prop} {s : Shared}
theorem collect_tup {l : Addr} {vs : List Value} {Q : List Value → Shared → Prop} (hl : IsTup s.heap l vs.toArray)
    (h : Q vs { s with heap := (s.heap.push (seqObj "list" #[] 0)).update s.heap.objs.size (Obj.mapSeq (· ++ vs.toArray)) }) (hsz : vs.length ≤ sizeLine) :
    wpAny (model prog w) A (collect (.ref l)) Q E s := by
  obtain ⟨o, ho, hc, n, hd⟩ := id hl
  unfold collect
  refine wpAny_bind (wpAny_runValue (codeAny_builtin entry_proto_collect' ?_))
  show wpAny _ _ (do again (.builtin "list.__iadd__" ⟨[← newList [], .ref l], []⟩)) _ _ s
  refine wpAny_bind (wpAny_newList (wpAny_pure ⟨Code.quiet_builtin _ (by decide +kernel), codeAny_builtin entry_list_iadd' ?_⟩))
  show wpAny _ _ (Builtin.List.listExtendWith (.ref s.heap.objs.size) (.ref l) (.ref s.heap.objs.size)) _ _ { s with heap := s.heap.push (seqObj "list" #[] 0) }
  unfold Builtin.List.listExtendWith
  have ho' : (s.heap.push (seqObj "list" #[] 0)).get? l = some o := Heap.get?_push_of_some _ ho
  refine wpAny_bind (wpAny_typeOf (T := "tuple") ⟨o, ho', hc⟩ ?_)
  have ht : (Value.type "tuple" == Value.type "tuple") = true := by rfl
  rw [if_pos (by rw [ht]; simp)]
  refine wpAny_bind (listItems_at ho' hd ?_)
  refine wpAny_bind (listItems_at (xs := #[]) (n := 0) (Heap.get?_push_size _ rfl) rfl ?_)
  rw [if_neg (by simp)]
  refine wpAny_bind (listUpdate_at (xs := #[]) (n := 0) (Heap.get?_push_size _ rfl) rfl ?_ (Nat.zero_le _) (by show (#[] ++ vs.toArray).size ≤ sizeLine + 1; simp only [Array.size_append, List.size_toArray, List.length_nil]; omega))
  refine wpAny_pure ?_
  show wpAny (model prog w) A (do
      let o ← load s.heap.objs.size
      match o.data with
      | .seq xs _ => pure xs.toList
      | _ => unsupported "internal:collect") Q E { s with heap := (s.heap.push (seqObj "list" #[] 0)).update s.heap.objs.size (Obj.mapSeq (· ++ vs.toArray)) }
  refine wpAny_bind (wpAny_load (get?_update_seq (Heap.get?_push_size _ rfl) _) ?_)
  show wpAny _ _ (pure ((#[] : Array Value) ++ vs.toArray).toList) Q E _
  rw [show ((#[] : Array Value) ++ vs.toArray).toList = vs by simp]
  exact wpAny_pure h
theorem sortedT_of_sort {l : Addr} {vs : List Value} {kw : List (Str × Value)} {Q : Value → Shared → Prop} (hl : IsTup s.heap l vs.toArray) (hL : vs.length ≤ sizeLine) (ha1 : argsOk "sorted" ⟨[.ref l], kw⟩) (ha2 : ∀ x, argsOk "list.sort" ⟨[.ref x], kw⟩)
    (body : ∀ E' : Value → Shared → Prop, wpAny (model prog w) A.in1.in1 (Builtin.«list.sort» ⟨[.ref (s.heap.objs.size + 1)], kw⟩) (fun f s' => f = .done (.ret .none) ∧ Q (.ref (s.heap.objs.size + 1)) s') E' { s with heap := copyHeap s.heap vs }) :
    wpAny (model prog w) A (call (.builtin "sorted") [.ref l] kw) Q E s := by
  refine call_function_entry_kw kind_sorted plain_sorted entry_sorted ha1 ?_
  unfold Builtin.«sorted»
  refine wpAny_bind (m := checkCount "sorted" 1 1 _) (wpAny_pure ?_)
  refine wpAny_bind (collect_tup hl ?_ hL)
  refine wpAny_bind (wpAny_newList ?_ hL)
  have hsz : ((s.heap.push (seqObj "list" #[] 0)).update s.heap.objs.size (Obj.mapSeq (· ++ vs.toArray))).objs.size = s.heap.objs.size + 1 := by
    rw [Heap.size_update, size_push']
  show wpAny _ _ _ _ _ { s with heap := copyHeap s.heap vs }
  rw [hsz]
  refine wpAny_bind (wpAny_holding (wpAny_call_entry_kw slot_list_sort ⟨_, copyHeap_at s.heap vs, rfl⟩ entry_list_sort ?body (ha2 _)))
  case body =>
    show wpAny (model prog w) A.in1.in1 (Builtin.«list.sort» ⟨[.ref (s.heap.objs.size + 1)], kw⟩) _ _ _
    refine wpAny_mono (body _) (fun f s' hf => ?_) fun _ _ e => e
    obtain ⟨rfl, hq⟩ := hf
    exact ⟨_, rfl, wpAny_pure ⟨_, rfl, hq⟩⟩
theorem sortedT_vals {κ : PyProof.Rows.KeyKind} {l : Addr} {vs : List Value} {Q : Value → Shared → Prop} (hl : IsTup s.heap l vs.toArray) (S : SortsAt prog w A.in1.in1 { s with heap := sortingHeap (copyHeap s.heap vs) (s.heap.objs.size + 1) vs } κ vs) (hL : vs.length ≤ sizeLine)
    (h : Q (.ref (s.heap.objs.size + 1)) { s with heap := sortedAll s.heap vs (sortVals κ false vs vs).toArray }) : wpAny (model prog w) A (call (.builtin "sorted") [.ref l]) Q E s :=
  sortedT_of_sort hl hL (args_sorted1 _) (fun _ => args_list_sort _) fun _ => list_sort_vals (s := { s with heap := copyHeap s.heap vs }) (copyHeap_at s.heap vs) S hL ⟨rfl, h⟩
theorem sortedT_data {β : Type} {vs : List Value} {bs : List β} {enc : β → PyData} {R : Value → β → Prop} {l : Addr} {Q : Value → Shared → Prop} (hl : IsTup s.heap l vs.toArray) (e : EachIs R vs bs) (er : EachIs (fun v b => ∃ as, Reads s.heap v (enc b) as) vs bs) (hal : AllAlike (bs.map enc)) (hk : Sortable (bs.map enc)) (hL : bs.length ≤ sizeLine)
    (hu : ∀ b, b ∈ bs → A.units + 2 + (enc b).depth < cLine) (h : ∀ out, out.length = bs.length → EachIs R out (bs.mergeSort (dataLe false enc)) → Q (.ref (s.heap.objs.size + 1)) { s with heap := sortedAll s.heap vs (List.toArray out) }) :
    wpAny (model prog w) A (call (.builtin "sorted") [.ref l]) Q E s := by
  have er' : EachIs (fun v b => ∃ as, Reads (sortingHeap (copyHeap s.heap vs) (s.heap.objs.size + 1) vs) v (enc b) as) vs bs := er.mono fun _ _ ⟨as, r⟩ => ⟨as, PyProof.Rows.Reads.keeps (fun _ _ => sorting_copy_old) r⟩
  exact sortedT_vals hl (SortsAt.data (s := { s with heap := sortingHeap (copyHeap s.heap vs) (s.heap.objs.size + 1) vs }) (each_map (R := fun v d => ∃ as, Reads (sortingHeap (copyHeap s.heap vs) (s.heap.objs.size + 1) vs) v d as) enc er') hal hk (bound_map hu)) (by rw [e.length]; exact hL)
    (h _ (by rw [sortVals_length false rfl]; exact e.length) (sortVals_data false e er' hal))
end
end DLs
namespace DL
open PySem PySem.Spec L2
/-! ### list(reversed(t)) -/
def tListRev (K : PySem.W.Frag) (te : TE) : TE := fun σ H Q => te σ H fun v H1 => ∃ (a : Addr) (xs : List V), v = .ref a ∧ (SqT K H1 a xs ∨ SqL K H1 a xs) ∧ xs.length ≤ 1000000 ∧ ∀ q, H1 q = none → Q (.ref q) (upd H1 q (.lst xs.reverse))
theorem pe_listRev {X : Cx} {e : Expr} {te : TE} {p p2 pos pos2 : Pos} (hc : X.calm = true) (hg : Gl X "list") (hm : X.mg "list" = none) (hg2 : Gl X "reversed") (hm2 : X.mg "reversed" = none) (he : PE X e te)
    (hs : starEach [e] X.env = (false, eval e X.env) :: starEach [] X.env := by rfl)
    (hs2 : starEach [.Call (.Name "reversed" p2) [e] [] pos2] X.env = (false, eval (.Call (.Name "reversed" p2) [e] [] pos2) X.env) :: starEach [] X.env := by rfl) :
    PE X (.Call (.Name "list" p) [.Call (.Name "reversed" p2) [e] [] pos2] [] pos) (tListRev X.K te) := by
  refine ⟨fun pins s σ H Q I h => ?_⟩
  refine PyProof.Rows.Call_ (ld_blt I hg hm PyProof.Rows.boot_list (PyProof.Rows.callWith_type1 (PyProof.Rows.args_cons (PyProof.Rows.Call_ (ld_blt I hg2 hm2 PyProof.Rows.boot_reversed (PyProof.Rows.callWith_type1 (PyProof.Rows.args_cons (thn (he.run pins s σ H _ I h) fun u s1 ⟨v, H1, I1, r1, q1⟩ => PyProof.Rows.args_nil ?_) hs) hs rfl))) hs2) hs2 rfl))
  obtain ⟨a, xs, ev, hq, hz, q⟩ := q1
  subst ev
  obtain rfl : u = Value.ref a := r1
  rcases hq with hq | hq
  · obtain ⟨its, rv, p', hz'⟩ := I1.tuple hq
    have hl := rv.length
    have hsz : its.toArray.size ≤ 2 ^ 24 := by rw [List.size_toArray]; omega
    refine RT.call_reversed_tup p' (fun A E Q k => PyProof.Rows.len_tuple p' (by omega) k) (PyProof.Rows.args_nil ?_)
    have k0 : ∀ b o, s1.heap.get? b = some o → (s1.heap.push (RT.rtObj a ((its.toArray.size : Int) - 1))).get? b = some o := fun b o e => Heap.get?_push_of_some _ e
    have I2 : Inv X pins σ H1 { s1 with heap := s1.heap.push (RT.rtObj a ((its.toArray.size : Int) - 1)), toks := s1.toks + 1 + 1 } := I1.kept (t' := s1.toks + 1 + 1) k0
    have f : FpOk X pins H1 s1.heap.objs.size := I1.fpOk (H' := H1) (b := s1.heap.objs.size) (Nat.le_refl _) (I1.hok.fresh (Nat.le_refl _))
    obtain ⟨ol, hol, _⟩ := id p'
    have hne : a ≠ s1.heap.objs.size := Nat.ne_of_lt (Heap.lt_size hol)
    have p2' : PyProof.Rows.IsTup (s1.heap.push (RT.rtObj a ((its.toArray.size : Int) - 1))) a its.toArray := let ⟨o, ho, r⟩ := p'; ⟨o, k0 _ _ ho, r⟩
    refine DLr.call_list_rt (s := { s1 with heap := s1.heap.push (RT.rtObj a ((its.toArray.size : Int) - 1)), toks := s1.toks + 1 + 1 }) (I1.ok.hd hc) ⟨_, Heap.get?_push_size _ rfl, rfl, rfl⟩ p2' hne hsz fun h' tk acc c' hk hS hi => ?_
    have hlen : xs.reverse.length ≤ sizeLine := by rw [List.length_reverse]; exact hz'
    refine ⟨.ref _, upd H1 (s1.heap.push (RT.rtObj a ((its.toArray.size : Int) - 1))).objs.size (.lst xs.reverse), I2.turnedNew (t' := tk) (ch := [s1.heap.objs.size]) (fun b o hb e => hk b o (fun z => hb (by simp [z])) e) (fun b hb => ?_) (Nat.le_refl _) ⟨hlen, acc.toList, c', RT.vals_rev rv hi, ?_⟩, rfl, q _ (I2.hok.fresh (Nat.le_refl _))⟩
    · have e : b = s1.heap.objs.size := by simpa using hb
      subst e
      exact f
    · rw [Array.toArray_toList]; exact hS
  · obtain ⟨its, rv, p', hz'⟩ := I1.list hq
    have hl' := p'.isList
    refine call_reversed_list hl' (PyProof.Rows.args_nil ?_)
    have k0 : ∀ b o, s1.heap.get? b = some o → (s1.heap.push (revObj a ((its.toArray.size : Int) - 1))).get? b = some o := fun b o e => Heap.get?_push_of_some _ e
    have I2 : Inv X pins σ H1 { s1 with heap := s1.heap.push (revObj a ((its.toArray.size : Int) - 1)), toks := s1.toks } := I1.kept (t' := s1.toks) k0
    have f : FpOk X pins H1 s1.heap.objs.size := I1.fpOk (H' := H1) (b := s1.heap.objs.size) (Nat.le_refl _) (I1.hok.fresh (Nat.le_refl _))
    obtain ⟨ol, hol, _⟩ := id hl'
    have hne : a ≠ s1.heap.objs.size := Nat.ne_of_lt (Heap.lt_size hol)
    have hn : its.toArray.size ≤ sizeLine := by rw [List.size_toArray, ← rv.length]; exact hz'
    refine DLr.call_list_lri (s := { s1 with heap := s1.heap.push (revObj a ((its.toArray.size : Int) - 1)), toks := s1.toks }) (I1.ok.hd hc) ⟨_, Heap.get?_push_size _ rfl, rfl, rfl⟩ (hl'.push _) hne hn fun h' tk acc c' hk hS hi => ?_
    have hlen : xs.reverse.length ≤ sizeLine := by rw [List.length_reverse]; exact hz'
    refine ⟨.ref _, upd H1 (s1.heap.push (revObj a ((its.toArray.size : Int) - 1))).objs.size (.lst xs.reverse), I2.turnedNew (t' := tk) (ch := [s1.heap.objs.size]) (fun b o hb e => hk b o (fun z => hb (by simp [z])) e) (fun b hb => ?_) (Nat.le_refl _) ⟨hlen, acc.toList, c', RT.vals_rev rv hi, ?_⟩, rfl, q _ (I2.hok.fresh (Nat.le_refl _))⟩
    · have e : b = s1.heap.objs.size := by simpa using hb
      subst e
      exact f
    · rw [Array.toArray_toList]; exact hS
def fListRev : D → Option Rs
  | .tup ds => if ds.length ≤ 1000000 then some (.ow (.lst ds.reverse)) else none
  | .lst ds => if ds.length ≤ 1000000 then some (.ow (.lst ds.reverse)) else none
  | _ => none
def gListRev (f : GW) : GW := fun ρ => (f ρ).bind fun r ρ1 => Res.of (fListRev r.d) ρ1
theorem dw_listRev {T : Tbs} {X : Cx} {W : WX} {e : Expr} {f : GW} {p p2 pos pos2 : Pos} (hc : X.calm = true) (hg : Gl X "list") (hm : X.mg "list" = none) (hg2 : Gl X "reversed") (hm2 : X.mg "reversed" = none) (he : DW T X W e f)
    (hs : starEach [e] X.env = (false, eval e X.env) :: starEach [] X.env := by rfl)
    (hs2 : starEach [.Call (.Name "reversed" p2) [e] [] pos2] X.env = (false, eval (.Call (.Name "reversed" p2) [e] [] pos2) X.env) :: starEach [] X.env := by rfl) :
    DW T X W (.Call (.Name "list" p) [.Call (.Name "reversed" p2) [e] [] pos2] [] pos) (gListRev f) :=
  PE.weak (pe_listRev hc hg hm hg2 hm2 he hs hs2) fun σ H Q ⟨F, ρ, R, q⟩ => ⟨F, ρ, R, AtW.ofW (k := fun d ρ1 => Res.of (fListRev d) ρ1) q fun v d ρ1 F1 H1 go dd q1 => by
    cases dd with
    | @tup a vs ds h1 h2 =>
      have q1 : AtW (gx T X) W (Res.of (if ds.length ≤ 1000000 then some (.ow (.lst ds.reverse)) else none) ρ1) σ ρ1 F1 H1 Q := q1
      split at q1
      · rename_i hz
        exact ⟨a, vs, rfl, .inl (.of (go.rep.fr _ _ h1)), by rw [h2.length]; exact hz, fun p n => AtW.newL go.rep q1 n h2.reverse⟩
      · exact False.elim q1
    | @lst a vs ds h1 h2 =>
      have q1 : AtW (gx T X) W (Res.of (if ds.length ≤ 1000000 then some (.ow (.lst ds.reverse)) else none) ρ1) σ ρ1 F1 H1 Q := q1
      split at q1
      · rename_i hz
        exact ⟨a, vs, rfl, .inr (.of (go.rep.fr _ _ h1)), by rw [h2.length]; exact hz, fun p n => AtW.newL go.rep q1 n h2.reverse⟩
      · exact False.elim q1
    | _ => exact False.elim q1⟩

/-! ### sorted -/
def D.le (a b : D) : Bool := PySem.W.dataLe false D.py a b
def D.tupN : D → Bool
  | .tup (_ :: _) => true
  | _ => false
def D.noTN : D → Bool
  | .tup _ => false
  | .non => false
  | .dk _ => false
  | .ins _ _ => false
  | .scr _ => false
  | _ => true
def okSort (ds : List D) : Bool := ds.all D.okp && ds.all (fun a => ds.all fun b => PySem.W.alike a.py b.py) && (ds.all D.tupN || ds.all D.noTN) && decide (ds.length ≤ 1000000)
def fSorted : List D → Option Rs
  | [.lst ds] => if okSort ds then some (.ow (.lst (ds.mergeSort D.le))) else none
  | [.tup ds] => if okSort ds then some (.ow (.lst (ds.mergeSort D.le))) else none
  | _ => none
theorem okSort_is {ds : List D} (h : okSort ds = true) : (∀ d ∈ ds, d.pure = true ∧ d.py.depth ≤ 64) ∧ PySem.W.AllAlike (ds.map D.py) ∧ PySem.W.Sortable (ds.map D.py) ∧ ds.length ≤ 1000000 := by
  unfold okSort at h
  simp only [Bool.and_eq_true, Bool.or_eq_true, List.all_eq_true, decide_eq_true_eq] at h
  obtain ⟨⟨⟨h1, h2⟩, h3⟩, h4⟩ := h
  refine ⟨fun d hd => ?_, fun a ha b hb => ?_, ?_, h4⟩
  · have q := h1 d hd
    unfold D.okp at q
    rw [Bool.and_eq_true] at q
    exact ⟨q.1, SeqAt.depth_of_shaped q.2⟩
  · obtain ⟨a', ha', rfl⟩ := List.mem_map.mp ha
    obtain ⟨b', hb', rfl⟩ := List.mem_map.mp hb
    exact h2 a' ha' b' hb'
  · rcases h3 with h3 | h3
    · refine .inl fun d hd => ?_
      obtain ⟨d', hd', rfl⟩ := List.mem_map.mp hd
      have q := h3 d' hd'
      unfold D.tupN at q
      split at q
      · rw [D.py, D.pys]; exact ⟨_, _, rfl⟩
      · cases q
    · refine .inr fun d hd => ?_
      obtain ⟨d', hd', rfl⟩ := List.mem_map.mp hd
      have q := h3 d' hd'
      cases d' <;> first | (cases q; done) | (rw [D.py]; exact ⟨(fun z => nomatch z), fun xs => (fun z => nomatch z)⟩)
theorem each_vals {g : Gx} {F : Hp} : ∀ {vs : List V} {us : List Value} {ds : List D}, Vals vs us → Ds g F vs ds → PySem.W.EachIs (fun u (b : V × D) => RelV b.1 u ∧ Dd g F b.1 b.2) us (vs.zip ds)
  | _, _, _, .nil, .nil => .nil
  | _, _, _, .cons r t, .cons d e => .cons ⟨r, d⟩ (each_vals t e)
theorem each_back {g : Gx} {F : Hp} : ∀ {us : List Value} {bs : List (V × D)}, PySem.W.EachIs (fun u (b : V × D) => RelV b.1 u ∧ Dd g F b.1 b.2) us bs → Vals (bs.map (·.1)) us ∧ Ds g F (bs.map (·.1)) (bs.map (·.2))
  | _, _, .nil => ⟨.nil, .nil⟩
  | _, _, .cons r t => let ⟨h1, h2⟩ := each_back t; ⟨.cons r.1 h1, .cons r.2 h2⟩
theorem each_reads {X : Cx} {T : Tbs} {pins : List (Addr × Obj)} {σ : L2.St} {H F : Hp} {s : Shared} (I : Inv X pins σ H s) (sF : Same F H) : ∀ {us : List Value} {bs : List (V × D)}, PySem.W.EachIs (fun u (b : V × D) => RelV b.1 u ∧ Dd (gx T X) F b.1 b.2) us bs → (∀ b ∈ bs, b.2.pure = true) →
    PySem.W.EachIs (fun u (b : V × D) => ∃ as, Reads s.heap u b.2.py as) us bs
  | _, _, .nil, _ => .nil
  | _, _, .cons (b := b) r t, h => .cons (Dp.reads I _ _ _ (r.2.dp sF (h b (List.mem_cons_self ..))) r.1) (each_reads I sF t fun c hc => h c (List.mem_cons_of_mem _ hc))
def rSortD (T : Tbs) (X : Cx) : List V → Hp → VK → Prop := fun xs H Q => ∃ (a : Addr) (vs : List V) (ds : List D) (F : Hp), xs = [.ref a] ∧ (H a = some (.lst vs) ∨ H a = some (.tup vs)) ∧ Same F H ∧ Ds (gx T X) F vs ds ∧ okSort ds = true ∧ ∀ p ws, H p = none → Ds (gx T X) F ws (ds.mergeSort D.le) → Q (.ref p) (upd H p (.lst ws))
theorem cr_sortD {T : Tbs} {X : Cx} {k : Nat} (hr : Room k X.A) : CallR X (.builtin "sorted") (rSortD T X) := by
  intro pins s σ H xs us Q I r h
  obtain ⟨a, vs, ds, F, rfl, ha, sF, dd, ok, q⟩ := h
  rw [Vals.ref1 r]
  obtain ⟨h1, h2, h3, h4⟩ := okSort_is ok
  have hlen := dd.length
  have e2 : (vs.zip ds).map (·.2) = ds := by rw [List.map_snd_zip (by omega)]
  have fin : ∀ its : List Value, Vals vs its → ∀ out : List Value, out.length = (vs.zip ds).length → PySem.W.EachIs (fun u (b : V × D) => RelV b.1 u ∧ Dd (gx T X) F b.1 b.2) out ((vs.zip ds).mergeSort (PySem.W.dataLe false fun b => b.2.py)) →
      EP X pins σ Q (.ref (s.heap.objs.size + 1)) { s with heap := PyProof.Rows.sortedAll s.heap its (List.toArray out) } := by
    intro its rv out ho eo
    obtain ⟨b1, b2⟩ := each_back eo
    have e3 : ((vs.zip ds).mergeSort (PySem.W.dataLe false fun b : V × D => b.2.py)).map (·.2) = ds.mergeSort D.le := by
      rw [List.map_mergeSort (f := fun b : V × D => b.2) (r := PySem.W.dataLe false fun b : V × D => b.2.py) (s := D.le) (fun a _ b _ => rfl), e2]
    rw [e3] at b2
    obtain ⟨ep, he'⟩ := PyProof.Rows.sortedAll_at s.heap its out.toArray
    have hl2 : (((vs.zip ds).mergeSort (PySem.W.dataLe false fun b : V × D => b.2.py)).map (·.1)).length ≤ sizeLine := by
      rw [List.length_map, List.length_mergeSort, List.length_zip]
      have := mil
      omega
    exact ⟨.ref _, upd H (s.heap.objs.size + 1) (.lst _), I.laid (t' := s.toks) (fun _ _ => PyProof.Rows.sortedAll_old) (Nat.le_succ _) ⟨hl2, out, ep, b1, he'⟩, rfl, q _ _ (I.hok.fresh (Nat.le_succ _)) b2⟩
  have hu : ∀ b : V × D, b ∈ vs.zip ds → X.A.units + 2 + b.2.py.depth < cLine := fun b hb => by
    have := (h1 b.2 (List.of_mem_zip hb).2).2
    have := hr.un
    omega
  have al : PySem.W.AllAlike ((vs.zip ds).map fun b => b.2.py) := by
    have e : ((vs.zip ds).map fun b : V × D => b.2.py) = ds.map D.py := by
      rw [show (fun b : V × D => b.2.py) = D.py ∘ Prod.snd from rfl, ← List.map_map, e2]
    rw [e]; exact h2
  have so : PySem.W.Sortable ((vs.zip ds).map fun b => b.2.py) := by
    have e : ((vs.zip ds).map fun b : V × D => b.2.py) = ds.map D.py := by
      rw [show (fun b : V × D => b.2.py) = D.py ∘ Prod.snd from rfl, ← List.map_map, e2]
    rw [e]; exact h3
  have hL : (vs.zip ds).length ≤ sizeLine := by
    rw [List.length_zip]
    have := mil
    omega
  rcases ha with ha | ha
  · obtain ⟨its, rv, hl, _⟩ := I.list (.of ha)
    have ev := each_vals rv dd
    exact PySem.W.sorted_data (enc := fun b : V × D => b.2.py) hl.isList ev (each_reads I sF ev fun b hb => (h1 b.2 (List.of_mem_zip hb).2).1) al so hL hu (fin its rv)
  · obtain ⟨its, rv, hl, _⟩ := I.tuple (.of ha)
    have ev := each_vals rv dd
    exact DLs.sortedT_data (enc := fun b : V × D => b.2.py) hl ev (each_reads I sF ev fun b hb => (h1 b.2 (List.of_mem_zip hb).2).1) al so hL hu (fin its rv)
theorem cw_sorted {T : Tbs} {X : Cx} {k : Nat} (hr : Room k X.A) : CallW T X (.builtin "sorted") fSorted := ⟨_, cr_sortD hr, fun W σ ρ F H xs ds c Q R rs hc q => by
  unfold fSorted at hc
  split at hc
  · split at hc
    · rename_i hz
      cases hc
      obtain ⟨x, rfl, h⟩ := rs.one
      obtain ⟨a, vs, rfl, h1, h2⟩ := h.lst R
      exact ⟨a, vs, _, F, rfl, .inl h1, R.fr, h2, hz, fun p ws n dd => AtW.newL R q n dd⟩
    · cases hc
  · split at hc
    · rename_i hz
      cases hc
      obtain ⟨x, rfl, h⟩ := rs.one
      obtain ⟨a, vs, rfl, h1, _, h2⟩ := h.tup R
      exact ⟨a, vs, _, F, rfl, .inr h1, R.fr, h2, hz, fun p ws n dd => AtW.newL R q n dd⟩
    · cases hc
  · cases hc⟩
end DL
end
section
set_option Elab.async false
set_option linter.all false
set_option maxRecDepth 100000
set_option maxHeartbeats 1000000
/-! DLi: isinstance, zip, parallel stores, comprehensions stored on one line, negation, repr. -/
namespace DL
open PySem PySem.Spec L2

/-! ### isinstance -/
/-- the built-in type of a value -/
def D.ty : D → Option String
  | .non => some "NoneType"
  | .bl _ => some "bool"
  | .int _ => some "int"
  | .str _ => some "str"
  | .lst _ => some "list"
  | .tup _ => some "tuple"
  | .dk _ => some "dict"
  | .ins _ _ => none
  | .scr _ => none
theorem Rv.ty {g : Gx} {F H : Hp} {v : V} {d : D} {t : String} (sF : Same F H) (h : Rv g F H v d) (e : d.ty = some t) : TyX g.K H v (.type t) := by
  rcases h with h | ⟨l, rfl, h⟩
  · cases h with
    | non => cases e; exact .base .non
    | bl b => cases e; exact .base (.bl b)
    | int b => cases e; exact .base (.int b)
    | str b => cases e; exact .base (.str b)
    | lst h1 _ => cases e; exact .base (.lst (sF _ _ h1))
    | tup h1 _ => cases e; exact .base (.tup (sF _ _ h1))
    | dk h1 _ =>
      cases e
      rcases h1 with h1 | ⟨o, h1⟩
      · exact .base (.dK (sF _ _ h1))
      · exact .fDict (sF _ _ h1)
    | ins _ _ _ => cases e
    | scr _ => cases e
  · cases d <;> first
      | exact False.elim h
      | (cases e; obtain ⟨vs, h1, _⟩ := h; first | exact .base (.lst h1) | exact .base (.dK h1))
def tyAny (t : String) : List String → Option Bool
  | [] => some false
  | c :: r => match kitB t c with
    | some true => some true
    | some false => tyAny t r
    | none => none
theorem tyAny_is {K : PySem.W.Frag} {t : String} : ∀ {cs : List String} {b : Bool}, tyAny t cs = some b → PySem.W.kitAny K (.type t) (cs.map Value.type) = some b
  | [], b, h => by cases h; rfl
  | c :: r, b, h => by
    unfold tyAny at h
    rw [List.map_cons]
    unfold PySem.W.kitAny
    cases z : kitB t c with
    | none => rw [z] at h; cases h
    | some x =>
      rw [z] at h
      rw [kit_ty z]
      cases x with
      | true => exact h
      | false => exact tyAny_is h
def fIsi (c : String) (d : D) : Option Bool := d.ty.bind fun t => kitB t c
def fIsiT (cs : List String) (d : D) : Option Bool := d.ty.bind fun t => tyAny t cs
def gIsi (φ : D → Option Bool) (f : GV) : GW := fun ρ => (f ρ).bind fun a ρ1 => match vD ρ1 a with
  | some d => Res.of ((φ d).map fun b => .sh (.bl b)) ρ1
  | none => .no
/-- names of built-in types, as a list of operands -/
def PTy (X : Cx) (es : List Expr) (cs : List String) : Prop := ∃ t : TA, PA X es t ∧ ∀ σ H Q, Q (cs.map V.ty) H → t σ H Q
section
variable {T : Tbs} {X : Cx} {W : WX} {e a : Expr} {es : List Expr} {f : GV} {c : Str} {t : String} {cs : List String} {p q pos tpos : Pos}
theorem pty_nil : PTy X [] [] := ⟨tNil, pa_nil, fun _ _ _ h => h⟩
theorem pty_cons (hg : Gl X c) (hm : X.mg c = none) (hv : bootBuiltins c = some (.type t)) (h : PTy X es cs) (hn : c ≠ "__name__" := by decide) (hd : (c == ("__debug__" : Str)) = false := by decide)
    (hs : starEach (.Name c q :: es) X.env = (false, eval (.Name c q) X.env) :: starEach es X.env := by rfl) : PTy X (.Name c q :: es) (t :: cs) := by
  obtain ⟨tt, h1, h2⟩ := h
  exact ⟨_, pa_cons (pe_bltn (v := .ty t) hg hm hv rfl hn hd) h1 hs, fun σ H Q h => h2 σ H _ h⟩
theorem isi_at {φ : D → Option Bool} {σ : L2.St} {H : Hp} {Q : VK} (h : tW (gx T X) W (gIsi φ f) σ H Q) (P : V → Hp → Prop)
    (step : ∀ v d b F H1, Rv (gx T X) F H1 v d → Same F H1 → φ d = some b → Q (.bl b) H1 → P v H1) : tG (gx T X) W relV f σ H P := by
  obtain ⟨F, ρ, R, q⟩ := h
  refine ⟨F, ρ, R, At.seqW q fun v a ρ1 F1 H1 go ra q1 => ?_⟩
  cases z : vD ρ1 a with
  | none => rw [z] at q1; exact False.elim q1
  | some d =>
    rw [z] at q1
    have q1 : AtW (gx T X) W (Res.of ((φ d).map fun b => .sh (.bl b)) ρ1) σ ρ1 F1 H1 Q := q1
    cases y : φ d with
    | none => rw [y] at q1; exact False.elim q1
    | some b =>
      rw [y] at q1
      exact step v d b F1 H1 (ra.rv go.rep z) go.rep.fr y (AtW.sh go.rep q1 (.bl b))
theorem dw_isi (hg : Gl X "isinstance") (hm : X.mg "isinstance" = none) (ha : DV T X W e f) (hgc : Gl X c) (hmc : X.mg c = none) (hv : bootBuiltins c = some (.type t)) (hn : c ≠ "__name__" := by decide) (hd : (c == ("__debug__" : Str)) = false := by decide)
    (he : starEach [e, .Name c q] X.env = (false, eval e X.env) :: starEach [.Name c q] X.env := by rfl) (he2 : starEach [.Name c q] X.env = (false, eval (.Name c q) X.env) :: starEach [] X.env := by rfl) (hpl : (backTo pos (starEach [.Name c q] X.env)).any (·.1) = false := by rfl) :
    DW T X W (.Call (.Name "isinstance" p) [e, .Name c q] [] pos) (gIsi (fIsi t) f) :=
  PE.weak (pe_callB call_isi hg hm (by decide +kernel) (pa_cons ha (pa_cons (pe_bltn (v := .ty t) hgc hmc hv rfl hn hd) pa_nil he2) he) (he := he) (hpl := hpl)) fun σ H Q h =>
    isi_at h _ fun v d b F H1 rv sF hb q => by
      unfold fIsi at hb
      cases z : d.ty with
      | none => rw [z] at hb; cases hb
      | some ty =>
        rw [z] at hb
        exact ⟨v, .ty t, _, _, b, rfl, .ty t, rv.ty sF z, kit_ty hb, q⟩
theorem dw_isiT {k : Nat} (hg : Gl X "isinstance") (hm : X.mg "isinstance" = none) (ha : DV T X W e f) (ht : PTy X es cs) (hz : cs.length ≤ 1000000)
    (he : starEach [e, .Tuple es k tpos] X.env = (false, eval e X.env) :: starEach [.Tuple es k tpos] X.env := by rfl) (he2 : starEach [.Tuple es k tpos] X.env = (false, eval (.Tuple es k tpos) X.env) :: starEach [] X.env := by rfl) (hpl : (backTo pos (starEach [.Tuple es k tpos] X.env)).any (·.1) = false := by rfl) :
    DW T X W (.Call (.Name "isinstance" p) [e, .Tuple es k tpos] [] pos) (gIsi (fIsiT cs) f) := by
  obtain ⟨tt, h1, h2⟩ := ht
  refine PE.weak (pe_callB call_isiT hg hm (by decide +kernel) (pa_cons ha (pa_cons (pe_tup h1) pa_nil he2) he) (he := he) (hpl := hpl)) fun σ H Q h => ?_
  obtain ⟨F, ρ, R, q⟩ := h
  refine ⟨F, ρ, R, At.seqW q fun v a ρ1 F1 H1 go ra q1 => ?_⟩
  cases z : vD ρ1 a with
  | none => rw [z] at q1; exact False.elim q1
  | some d =>
    rw [z] at q1
    have q1 : AtW (gx T X) W (Res.of ((fIsiT cs d).map fun b => .sh (.bl b)) ρ1) σ ρ1 F1 H1 Q := q1
    cases y : fIsiT cs d with
    | none => rw [y] at q1; exact False.elim q1
    | some b =>
      rw [y] at q1
      have rv := ra.rv go.rep z
      have hb := y
      unfold fIsiT at hb
      cases w : d.ty with
      | none => rw [w] at hb; cases hb
      | some ty =>
        rw [w] at hb
        refine h2 σ H1 _ ⟨by rw [List.length_map]; exact Nat.le_trans hz mil, fun p n => ?_⟩
        have gg := Go.allocO go.rep n (.tup (cs.map V.ty))
        have rv' := ((ra.go gg).rv gg.rep z).ty gg.rep.fr w
        have hp : ∀ l : List String, Paired ClsV (l.map V.ty) (l.map Value.type) := fun l => by
          induction l with
          | nil => exact .nil
          | cons a l ih => exact .cons (.ty a) ih
        refine ⟨v, p, cs.map V.ty, _, cs.map Value.type, b, rfl, upd_same, hp cs, rv', tyAny_is hb, ?_⟩
        exact q1 (.bl b) F1 _ gg (.bl b)
end

/-! ### zip of two tuples, of two lists -/
def zipD : List D → List D → List D
  | x :: xs, y :: ys => .tup [x, y] :: zipD xs ys
  | _, _ => []
theorem zipD_length : ∀ xs ys : List D, (zipD xs ys).length = min xs.length ys.length
  | [], ys => by simp [zipD]
  | x :: xs, [] => by simp [zipD]
  | x :: xs, y :: ys => by simp only [zipD, List.length_cons, zipD_length xs ys]; omega
theorem zipD_get : ∀ {xs ys : List D} {i : Nat} {x y : D}, xs[i]? = some x → ys[i]? = some y → (zipD xs ys)[i]? = some (.tup [x, y])
  | x :: xs, y :: ys, 0, a, b, h1, h2 => by simp at h1 h2; subst h1 h2; rfl
  | x :: xs, y :: ys, i + 1, a, b, h1, h2 => by
    have := zipD_get (i := i) (xs := xs) (ys := ys) (x := a) (y := b) (by simpa using h1) (by simpa using h2)
    simpa [zipD] using this
  | [], _, i, a, b, h1, h2 => by simp at h1
  | _ :: _, [], i, a, b, h1, h2 => by simp at h2
def fZip : List D → Option (List D)
  | [.lst a, .lst b] => some (zipD a b)
  | [.tup a, .tup b] => some (zipD a b)
  | _ => none
def gZip (f : GA) : GI := fun ρ => (f ρ).bind fun as ρ1 => match frDs ρ1 as with
  | some ds => Res.of (fZip ds) ρ1
  | none => .no
theorem yl_zip {g : Gx} {F : Hp} {xs ys : List V} {ds es : List D} (J : It) (d1 : Ds g F xs ds) (d2 : Ds g F ys es)
    (go : ∀ (i : Nat) (H : Hp) (x y : V), Same F H → xs[i]? = some x → ys[i]? = some y → J.go i H)
    (yld : ∀ (i : Nat) (H : Hp) (v : V) (H' : Hp), Same F H → J.yld i H v H' → ∃ T x y, v = .ref T ∧ H T = none ∧ H' = upd H T (.tup [x, y]) ∧ xs[i]? = some x ∧ ys[i]? = some y)
    (st : ∀ (i : Nat) (H : Hp), Same F H → xs.length ≤ i ∨ ys.length ≤ i → J.stop i H) : Yl g J F (zipD ds es) where
  go := fun i H s hi => by
    rw [zipD_length] at hi
    obtain ⟨x, hx, _⟩ := d1.get (List.getElem?_eq_getElem (show i < ds.length by omega))
    obtain ⟨y, hy, _⟩ := d2.get (List.getElem?_eq_getElem (show i < es.length by omega))
    exact go i H x y s hx hy
  yl := fun i H v H' F1 s1 s2 hi yy => by
    obtain ⟨T, x, y, rfl, n, rfl, hx, hy⟩ := yld i H v H' (s1.trans s2) yy
    obtain ⟨a, ha, da⟩ := d1.at hx
    obtain ⟨b, hb, db⟩ := d2.at hy
    have nF : F1 T = none := s2.free n
    have s3 : Same F1 (upd F1 T (.tup [x, y])) := sameUpd nF
    refine ⟨upd F1 T (.tup [x, y]), .tup [a, b], zipD_get ha hb, .tup upd_same (.cons (da.mono (s1.trans s3)) (.cons (db.mono (s1.trans s3)) .nil)), s3, fun c o e => ?_, fun c o e => ?_, fun c h => ?_, fun c ps e => ?_⟩
    · by_cases z : c = T
      · subst z; rw [upd_same] at e ⊢; exact e
      · rw [upd_ne z] at e ⊢; exact s2 c o e
    · rw [upd_ne (ne_of_none e n)]; exact e
    · have z : c ≠ T := fun z => h (by rw [z]; exact n)
      rw [upd_ne z]
    · by_cases z : c = T
      · rw [z, upd_same] at e; cases e
      · rw [upd_ne z] at e; exact e
  st := fun i H s hi => st i H s (by
    rw [zipD_length] at hi
    have := d1.length
    have := d2.length
    omega)
section
variable {T : Tbs} {X : Cx} {W : WX} {e e2 : Expr} {fa : GA} {p pos tpos : Pos} {elts : List Expr} {kk : Nat}
theorem di_zip (hg : Gl X "zip") (hm : X.mg "zip" = none) (ha : DA T X W [e, e2] fa)
    (hs : starEach [e, e2] X.env = (false, eval e X.env) :: starEach [e2] X.env := by rfl) (hpl : (backTo pos (starEach [e2] X.env)).any (·.1) = false := by rfl) :
    DI T X W (.Tuple elts kk tpos) (.Call (.Name "zip" p) [e, e2] [] pos) (gZip fa) :=
  PI.weak (RZ.pi_zipA hg hm ha hs hpl) fun σ H Q ⟨F, ρ, R, q⟩ => ⟨F, ρ, R, At.seq q fun vs as ρ1 F1 H1 go ra q1 => by
    cases z : frDs ρ1 as with
    | none => rw [z] at q1; exact False.elim q1
    | some ds =>
      rw [z] at q1
      have dd := ra.dds go.rep z
      have q1 : At (gx T X) W relI (Res.of (fZip ds) ρ1) σ ρ1 F1 H1 Q := q1
      unfold fZip at q1
      split at q1
      · rename_i as bs
        cases dd with
        | cons h1 t => cases t with
          | cons h2 t => cases t; cases h1 with
            | @lst a xs _ f1 d1 => cases h2 with
              | @lst b ys _ f2 d2 =>
                refine ⟨a, b, xs, ys, rfl, .inl ⟨.of (go.rep.fr _ _ f1), .of (go.rep.fr _ _ f2), At.now q1 (Go.refl go.rep) (yl_zip _ d1 d2 (fun i H x y s hx hy => ⟨xs, ys, x, y, .of (s _ _ f1), .of (s _ _ f2), hx, hy⟩) (fun i H v H' s ⟨T, x, y, e1, e2, e3, e4, e5⟩ => ⟨T, x, y, e1, e2, e3, e4 xs (.of (s _ _ f1)), e5 ys (.of (s _ _ f2))⟩) fun i H s h => ⟨xs, ys, .of (s _ _ f1), .of (s _ _ f2), h⟩)⟩⟩
      · rename_i as bs
        cases dd with
        | cons h1 t => cases t with
          | cons h2 t => cases t; cases h1 with
            | @tup a xs _ f1 d1 => cases h2 with
              | @tup b ys _ f2 d2 =>
                refine ⟨a, b, xs, ys, rfl, .inr ⟨.of (go.rep.fr _ _ f1), .of (go.rep.fr _ _ f2), At.now q1 (Go.refl go.rep) (yl_zip _ d1 d2 (fun i H x y s hx hy => ⟨xs, ys, x, y, .of (s _ _ f1), .of (s _ _ f2), hx, hy⟩) (fun i H v H' s ⟨T, x, y, e1, e2, e3, e4, e5⟩ => ⟨T, x, y, e1, e2, e3, e4 xs (.of (s _ _ f1)), e5 ys (.of (s _ _ f2))⟩) fun i H s h => ⟨xs, ys, .of (s _ _ f1), .of (s _ _ f2), h⟩)⟩⟩
      · exact False.elim q1⟩
end
end DL
end
section
set_option Elab.async false
set_option linter.all false
set_option maxRecDepth 100000
set_option maxHeartbeats 1000000
/-! DLj: negation, parallel stores, comprehensions stored on one line, comprehensions of two clauses, repr. -/
namespace DL
open PySem PySem.Spec L2

def gNeg (f : GV) : GW := fun ρ => (f ρ).bind fun a ρ1 => match vD ρ1 a with
  | some (.int i) => .ok (.sh (.int (-i))) ρ1
  | _ => .no
section
variable {T : Tbs} {X : Cx} {W : WX} {a : Expr} {f : GV} {pos : Pos}
theorem dw_neg (h : DV T X W a f) : DW T X W (.UnaryOp .USub a pos) (gNeg f) := PE.weak (pe_un un_neg h) fun σ H Q ⟨F, ρ, R, q⟩ => ⟨F, ρ, R, At.seqW q fun v a ρ1 F1 H1 go ra q1 => by
  cases z : vD ρ1 a with
  | none => rw [z] at q1; exact False.elim q1
  | some d =>
    rw [z] at q1
    have rv := ra.rv go.rep z
    cases d with
    | int i => exact ⟨i, rv.int, AtW.sh go.rep q1 (.int _)⟩
    | _ => exact False.elim q1⟩
end

/-! ### name = [..] on one line -/
section
variable {T : Tbs} {X : Cx} {W : WX} {elt tg iter : Expr} {ifs : List Expr} {scope : Scope} {own : List (Str × Nat)} {pos py spos : Pos} {fi : GI} {h : HT1} {ft : GB} {fe : GE} {sl : List Nat} {i : Nat} {y : Str}
theorem ds_setLc (hc : X.calm = true) (hNd : X.N.Nodup) (hy : X.N[i]? = some y) (hyl : X.env.scope.names.lookup y = some .local)
    (hsw : swapsWith (.ListComp elt [⟨tg, iter, ifs, 0⟩] scope pos) (some (.Name y py)) spos.line X.env = pure true) (hi : DI T X W tg iter fi) (ok : BlkOk X.N X.env.scope scope own)
    (hg : ∀ (s : Shared) (H : Hp) (C : Addr) (cl : List (Str × Addr)) (fp : List Addr), DG T (X.blk s H scope (compEnvC scope cl C X.env) fp) sl tg h)
    (ht : ∀ (s : Shared) (H : Hp) (C : Addr) (cl : List (Str × Addr)) (fp : List Addr), DTs T (X.blk s H scope (compEnvC scope cl C X.env) fp) W0 ifs ft)
    (he : ∀ (s : Shared) (H : Hp) (C : Addr) (cl : List (Str × Addr)) (fp : List Addr), DE T (X.blk s H scope (compEnvC scope cl C X.env) fp) W0 elt fe)
    (hsl : ∀ j ∈ sl, j ∈ own.map (·.2)) (hs : ∀ x, foldedSetIterable iter X.env x = pure x := by intro _; rfl) :
    DS T X W (.Assign [.Name y py] (.ListComp elt [⟨tg, iter, ifs, 0⟩] scope pos) spos) (gSet i (gLc (own.map (·.2)) fi h ft fe)) :=
  PS.weak (ps_setLc (g := tTg (gx T X) sl h) (tt := tG (gx T X) W0 relB ft) (te := tG (gx T X) W0 relD fe) hc hNd hy hyl hsw hi ok hg ht he hs) fun Dn σ H q => lc_at hsl (gSet_at q)
end

/-! ### a, b = e1, e2 -/
/-- a value in hand: frozen, or a cell that nobody owns -/
def Held (g : Gx) (σ : L2.St) (ρ : List Sl) (F H H0 : Hp) (v : V) : Rs → Prop
  | .sh d => Dd g F v d
  | .ow d => ∃ l, v = .ref l ∧ F l = none ∧ Own g F H l d ∧ ¬ Oa σ ρ l ∧ H0 l = none
section
variable {g : Gx} {F H F0 H0 F1 H1 : Hp} {σ σ0 σ1 : L2.St} {ρ ρ0 ρ1 : List Sl} {v w : V} {r r2 : Rs} {W : WX}
theorem Held.go (h : Held g σ ρ F H H0 v r) (go : Go g σ ρ F H σ1 ρ1 F1 H1) : Held g σ1 ρ1 F1 H1 H0 v r := by
  cases r with
  | sh d => exact Dd.mono go.fF h
  | ow d =>
    obtain ⟨l, e, nF, o, no, n0⟩ := h
    obtain ⟨u, hu, ht⟩ := o.hs
    have nz : H l ≠ none := by rw [hu]; exact (fun e => nomatch e)
    exact ⟨l, e, (go.fz l nz no).trans nF, o.mono go.fF ((go.kp l u hu ht no).trans hu.symm), fun z => (go.oa l z).elim no nz, n0⟩
theorem AtW.held {ρ' : List Sl} {Q : V → Hp → Prop} (h : AtW g W (.ok r ρ') σ ρ F H Q) (go : Go g σ ρ F H σ ρ' F1 H1) (hd : Held g σ ρ' F1 H1 H v r) : Q v H1 := by
  cases r with
  | sh d => exact h v F1 H1 go hd
  | ow d =>
    obtain ⟨l, rfl, nF, o, no, n0⟩ := hd
    exact h l F1 H1 go nF o no n0
theorem AtW.seqH {r : Res Rs} {k : Rs → List Sl → Out} {Dn : Ends} {P : V → Hp → Prop} (h : AtS g W (r.bindS k) σ ρ F H Dn)
    (step : ∀ v a ρ1 F1 H1, Go g σ ρ F H σ ρ1 F1 H1 → Held g σ ρ1 F1 H1 H v a → AtS g W (k a ρ1) σ ρ F H Dn → P v H1) : AtW g W r σ ρ F H P :=
  AtW.seqS h (fun v d ρ1 F1 H1 go dd q => step v (.sh d) ρ1 F1 H1 go dd q) fun l d ρ1 F1 H1 go a b c e q => step (.ref l) (.ow d) ρ1 F1 H1 go ⟨l, rfl, a, b, c, e⟩ q
theorem AtW.seqH2 {r : Res Rs} {k : Rs → List Sl → Out} {Dn : Ends} {P : V → Hp → Prop} (h : AtS g W (r.bindS k) σ ρ F H Dn) (go0 : Go g σ ρ F H σ ρ1 F1 H1)
    (step : ∀ v a ρ2 F2 H2, Go g σ ρ1 F1 H1 σ ρ2 F2 H2 → Held g σ ρ2 F2 H2 H1 v a → AtS g W (k a ρ2) σ ρ F H Dn → P v H2) : AtW g W r σ ρ1 F1 H1 P := by
  cases r with
  | ok a ρ' =>
    have h : AtS g W (k a ρ') σ ρ F H Dn := h
    cases a with
    | sh d => exact fun v F' H' go dd => step v (.sh d) ρ' F' H' go dd h
    | ow d => exact fun l F' H' go a b c e => step (.ref l) (.ow d) ρ' F' H' go ⟨l, rfl, a, b, c, e⟩ h
  | ex x ρ' => exact fun F' H' cls d go q => h σ F' H' cls d (go0.trans go) q
  | no => exact h
/-- a held value is stored -/
theorem Go.put (go : Go g σ0 ρ0 F0 H0 σ ρ F H) {i : Nat} (hm : ∀ e, ρ[i]? ≠ some (.mu e)) (h : Held g σ ρ F H H0 v r) : Go g σ0 ρ0 F0 H0 (σ.set i (some v)) (ρ.set i r.sl) F H := by
  cases r with
  | sh d => exact go.trans (Go.set go.rep hm h)
  | ow d =>
    obtain ⟨l, rfl, nF, o, no, n0⟩ := h
    exact go.setO hm nF o no n0
/-- another held value stays held -/
theorem Held.put {i : Nat} (h : Held g σ ρ F H H0 w r2) (n : ∀ l d, r2 = .ow d → w = .ref l → v ≠ .ref l) (hl : σ.length = ρ.length) : Held g (σ.set i (some v)) (ρ.set i r.sl) F H H0 w r2 := by
  cases r2 with
  | sh d => exact h
  | ow d =>
    obtain ⟨l, e, nF, o, no, n0⟩ := h
    refine ⟨l, e, nF, o, fun ⟨j, c, q1, q2⟩ => ?_, n0⟩
    by_cases z : i = j
    · subst z
      by_cases hi : i < σ.length
      · rw [List.getElem?_set_self hi] at q2
        exact n l d rfl e (Option.some.inj (Option.some.inj q2))
      · rw [List.getElem?_eq_none (by rw [List.length_set]; omega)] at q2; cases q2
    · rw [oD_set_ne z] at q1
      rw [List.getElem?_set_ne z] at q2
      exact no ⟨j, c, q1, q2⟩
end
def noMu (ρ : List Sl) (i : Nat) : Bool := match ρ[i]? with
  | some (.mu _) => false
  | some _ => true
  | none => false
theorem noMu_is {ρ : List Sl} {i : Nat} (h : noMu ρ i = true) : ∀ e, ρ[i]? ≠ some (.mu e) := fun e z => by
  unfold noMu at h
  rw [z] at h
  cases h
def noScr : Rs → Bool
  | .sh (.scr _) => false
  | _ => true
def gPar (i j : Nat) (f1 f2 : GW) : GS := fun ρ => (f1 ρ).bindS fun r1 ρ1 => (f2 ρ1).bindS fun r2 ρ2 => if (noMu ρ2 i && noMu ρ2 j) && noScr r1 then .nx ((ρ2.set i r1.sl).set j r2.sl) else .no
theorem Held.there {g : Gx} {F H H0 : Hp} {σ : L2.St} {ρ : List Sl} {l : Addr} {r : Rs} (fr : Same F H) (h : Held g σ ρ F H H0 (.ref l) r) (n : noScr r = true) : H l ≠ none := by
  cases r with
  | sh d =>
    have dv : Dd g F (.ref l) d := h
    cases dv with
    | lst k _ => rw [fr _ _ k]; exact (fun z => nomatch z)
    | tup k _ => rw [fr _ _ k]; exact (fun z => nomatch z)
    | dk k _ =>
      rcases k with k | ⟨o, k⟩
      · rw [fr _ _ k]; exact (fun z => nomatch z)
      · rw [fr _ _ k]; exact (fun z => nomatch z)
    | ins _ k _ => rw [fr _ _ k]; exact (fun z => nomatch z)
    | scr _ => cases n
  | ow d =>
    obtain ⟨l', e, _, o, _, _⟩ := h
    cases e
    obtain ⟨u, hu, _⟩ := o.hs
    rw [hu]; exact (fun z => nomatch z)
section
variable {T : Tbs} {X : Cx} {W : WX} {i j : Nat} {x y : Str} {a b : Expr} {f1 f2 : GW} {px py pt pos : Pos} {kt k2 : Nat} {pt2 : Pos}
theorem ds_par (hc : X.calm = true) (hNd : X.N.Nodup) (hi : X.N[i]? = some x) (hj : X.N[j]? = some y) (hij : i ≠ j)
    (hx : X.env.scope.names.lookup x = some .local) (hy : X.env.scope.names.lookup y = some .local) (h1 : DW T X W a f1) (h2 : DW T X W b f2)
    (hw : swappedStores [.Tuple [.Name x px, .Name y py] kt pt] (.Tuple [a, b] k2 pt2) X.env = pure (some [x, y]))
    (hs : swapsWithSole [.Tuple [.Name x px, .Name y py] kt pt] (.Tuple [a, b] k2 pt2) pos.line X.env = pure false := by rfl)
    (he : starEach [a, b] X.env = (false, eval a X.env) :: starEach [b] X.env := by rfl) (he2 : starEach [b] X.env = (false, eval b X.env) :: starEach [] X.env := by rfl) :
    DS T X W (.Assign [.Tuple [.Name x px, .Name y py] kt pt] (.Tuple [a, b] k2 pt2) pos) (gPar i j f1 f2) :=
  PS.weak (ps_par hc hNd hi hj hij hx hy (pa_cons h1 (pa_cons h2 pa_nil he2) he) hw hs) fun Dn σ H ⟨F, ρ, R, q⟩ => ⟨F, ρ, R, AtW.seqH q fun v r1 ρ1 F1 H1 go hd q1 => ⟨F1, ρ1, go.rep, AtW.seqH2 q1 go fun w r2 ρ2 F2 H2 go2 hd2 q2 => by
    refine ⟨v, w, rfl, ?_⟩
    split at q2
    · rename_i hz
      simp only [Bool.and_eq_true] at hz
      have goT := go.trans go2
      have g1 := goT.put (noMu_is hz.1.1) (hd.go go2)
      have hdw : Held (gx T X) (σ.set i (some v)) (ρ2.set i r1.sl) F2 H2 H w r2 := by
        refine Held.put ?_ ?_ goT.rep.len
        · cases r2 with
          | sh d => exact hd2
          | ow d =>
            obtain ⟨l, e, nF, o, no, n0⟩ := hd2
            exact ⟨l, e, nF, o, no, go.nn n0⟩
        · intro l d er e ev
          subst er
          obtain ⟨l', e', _, _, _, n0⟩ := hd2
          rw [e] at e'
          cases e'
          rw [ev] at hd
          exact Held.there go.rep.fr hd hz.2 n0
      exact q2 _ F2 H2 (g1.put (fun e z => by
        rw [List.getElem?_set_ne hij] at z
        exact noMu_is hz.1.2 e z) hdw)
    · exact False.elim q2⟩⟩
end

/-! ### repr -/
def D.dsp : D → Bool
  | .dk _ => false
  | .ins _ _ => false
  | .scr _ => false
  | _ => true
def fRepr : List D → Option Rs
  | [d] => if d.dsp && d.okp && d.py.showable && decide (d.py.shown.length ≤ 1000000) then some (.sh (.str d.py.shown)) else none
  | _ => none
def rReprD (T : Tbs) (X : Cx) : List V → Hp → VK → Prop := fun xs H Q => ∃ (v : V) (d : D) (F : Hp), xs = [v] ∧ Rv (gx T X) F H v d ∧ Same F H ∧ d.dsp = true ∧ d.okp = true ∧ d.py.showable = true ∧ d.py.shown.length ≤ 1000000 ∧ Q (.str d.py.shown) H
theorem cr_reprD {T : Tbs} {X : Cx} (hun : X.A.units + 200 < cLine) (hgd : X.A.guards = some []) : CallR X (.builtin "repr") (rReprD T X) := by
  intro pins s σ H xs us Q I r h
  obtain ⟨v, d, F, rfl, rv, sF, hdsp, hok, hsh, hz, q⟩ := h
  unfold D.okp at hok
  rw [Bool.and_eq_true] at hok
  obtain ⟨u, rfl, ru⟩ := vals1 r
  have hv : (∃ a, v = .ref a) ∨ (v = .non ∧ d = .non) ∨ (∃ b, v = .bl b ∧ d = .bl b) ∨ (∃ b, v = .int b ∧ d = .int b) ∨ ∃ b, v = .str b ∧ d = .str b := by
    rcases rv with rv | ⟨l, rfl, _⟩
    · cases rv <;> first | exact .inl ⟨_, rfl⟩ | exact .inr (.inl ⟨rfl, rfl⟩) | exact .inr (.inr (.inl ⟨_, rfl, rfl⟩)) | exact .inr (.inr (.inr (.inl ⟨_, rfl, rfl⟩))) | exact .inr (.inr (.inr (.inr ⟨_, rfl, rfl⟩)))
    · exact .inl ⟨_, rfl⟩
  have fin : ∀ (u : Tok) (s' : Shared), s'.heap = s.heap → s'.gens = s.gens → s'.drawn = s.drawn → s'.os = s.os → EP X pins σ Q (.str d.py.shown u) s' := fun u s' e1 e2 e3 e4 => by
    obtain ⟨h1, g1, d1, t1, o1⟩ := s'
    cases e1; cases e2; cases e3; cases e4
    exact ⟨.str _, H, I.tok _, ⟨_, rfl⟩, q⟩
  rcases hv with ⟨a, rfl⟩ | ⟨rfl, rfl⟩ | ⟨b, rfl, rfl⟩ | ⟨b, rfl, rfl⟩ | ⟨b, rfl, rfl⟩
  rotate_left
  · obtain rfl : u = Value.none := ru
    exact PySem.P.repr_of_none (fin _ _ rfl rfl rfl rfl)
  · obtain rfl : u = Value.bool b := ru
    exact PySem.P.repr_of_bool (fin _ _ rfl rfl rfl rfl)
  · obtain ⟨t, rfl⟩ := ru
    exact PySem.P.repr_of_int (of_decide_eq_true hsh) (fin _ _ rfl rfl rfl rfl)
  · obtain ⟨t, rfl⟩ := ru
    exact PySem.P.repr_of_str (fin _ _ rfl rfl rfl rfl) (Nat.le_trans hz mil)
  obtain ⟨as, rd⟩ := Dp.reads I _ _ _ (rv.dp sF hok.1) ru
  obtain rfl : u = Value.ref a := ru
  have hd := SeqAt.depth_of_shaped hok.2
  exact PySem.repr_of_reads' rd hsh (PyData.noDict_hsm (PyData.hasDict_of_canLay _ (SeqAt.canLay_of_shaped hok.2))) hgd (by omega) (fun _ _ e => e) (fun h' u tk hk => ⟨.str _, H, I.kept hk, ⟨_, rfl⟩, q⟩) (Nat.le_trans hz mil)
theorem cw_repr {T : Tbs} {X : Cx} {k : Nat} (hr : Room k X.A) (hgd : X.A.guards = some []) : CallW T X (.builtin "repr") fRepr := ⟨_, cr_reprD (by have := hr.un; omega) hgd, fun W σ ρ F H xs ds c Q R rs hc q => by
  unfold fRepr at hc
  split at hc
  · split at hc
    · rename_i hz
      cases hc
      simp only [Bool.and_eq_true, decide_eq_true_eq] at hz
      obtain ⟨x, rfl, h⟩ := rs.one
      exact ⟨x, _, F, rfl, h, R.fr, hz.1.1.1, hz.1.1.2, hz.1.2, hz.2, AtW.sh R q (.str _)⟩
    · cases hc
  · cases hc⟩
end DL
end
section
set_option Elab.async false
set_option linter.all false
set_option maxRecDepth 100000
set_option maxHeartbeats 1000000
/-! DLk: list comprehensions of two clauses. -/
namespace DL
open PySem PySem.Spec L2

def lcO (vs vs1 : List Nat) (h : HT1) (ft : GB) (fi1 : GI) (h1 : HT1) (ft1 : GB) (fe : GE) : List D → List Sl → Res (List D)
  | [], ρ => .ok [] ρ
  | x :: xs, ρ => match h x ρ with
    | none => .no
    | some ρa => match ft ρa with
      | .ok true ρb => match fi1 ρb with
        | .ok items ρc => match lcL vs1 h1 ft1 fe items (wipeS ρc vs1) with
          | .ok ds ρd => match lcO vs vs1 h ft fi1 h1 ft1 fe xs (wipeS ρd vs) with
            | .ok es ρe => .ok (ds ++ es) ρe
            | _ => .no
          | _ => .no
        | _ => .no
      | .ok false ρb => lcO vs vs1 h ft fi1 h1 ft1 fe xs (wipeS ρb vs)
      | _ => .no
def gLc2 (vs vs1 : List Nat) (fi : GI) (h : HT1) (ft : GB) (fi1 : GI) (h1 : HT1) (ft1 : GB) (fe : GE) : GW := fun ρ => (fi ρ).bind fun items ρ1 => match lcO vs vs1 h ft fi1 h1 ft1 fe items (wipeS ρ1 vs) with
  | .ok ds ρe => if ds.length ≤ 1000000 then .ok (.ow (.lst ds)) (unw ρ1 ρe vs) else .no
  | _ => .no
/-- behind i turns of the first clause -/
def LoAt (g : Gx) (vs vs1 : List Nat) (h : HT1) (ft : GB) (fi1 : GI) (h1 : HT1) (ft1 : GB) (fe : GE) (items all : List D) (ρe : List Sl) (σ : L2.St) (ρ1 : List Sl) (F1 H1 : Hp) (Da : Addr) (i : Nat) (H : Hp) : Prop :=
  ∃ (F : Hp) (ρ : List Sl) (acc rest : List D) (ws : List V), Go g (wipe σ vs) (wipeS ρ1 vs) F1 H1 (wipe σ vs) ρ F H ∧ H Da = some (.lst ws) ∧ F Da = none ∧ ¬ Oa (wipe σ vs) ρ Da ∧ Ds g F ws acc ∧
    lcO vs vs1 h ft fi1 h1 ft1 fe (items.drop i) ρ = .ok rest ρe ∧ acc ++ rest = all
/-- behind j turns of the second, within turn i: σ4 the slots of the first clause's turn; xs: what the first clause has still to walk -/
def LiAt (g : Gx) (vs vs1 : List Nat) (h : HT1) (ft : GB) (fi1 : GI) (h1 : HT1) (ft1 : GB) (fe : GE) (xs its all : List D) (ρe : List Sl) (σ σ4 : L2.St) (ρ1 : List Sl) (F1 H1 F6 : Hp) (Da : Addr) (j : Nat) (H : Hp) : Prop :=
  ∃ (F : Hp) (ρ ρd : List Sl) (acc rest es : List D) (ws : List V), Same F6 F ∧ Go g (wipe σ vs) (wipeS ρ1 vs) F1 H1 (wipe σ4 vs1) ρ F H ∧ H Da = some (.lst ws) ∧ F Da = none ∧ ¬ Oa (wipe σ4 vs1) ρ Da ∧ Ds g F ws acc ∧
    lcL vs1 h1 ft1 fe (its.drop j) ρ = .ok rest ρd ∧ lcO vs vs1 h ft fi1 h1 ft1 fe xs (wipeS ρd vs) = .ok es ρe ∧ acc ++ (rest ++ es) = all
theorem oa_wipe {σ : L2.St} {ρ : List Sl} {vs : List Nat} {a : Addr} (h : Oa (wipe σ vs) (wipeS ρ vs) a) : Oa σ ρ a := by
  obtain ⟨j, c, w1, w2⟩ := h
  have hj : j ∉ vs := fun u => by
    rcases wipeS_in (ρ := ρ) u with u | u <;> (unfold oD at w1; rw [u] at w1; cases w1)
  rw [wipe_not hj] at w2
  refine ⟨j, c, ?_, w2⟩
  unfold oD at w1 ⊢
  rw [wipeS_not hj] at w1
  exact w1
section
variable {T : Tbs} {X : Cx} {W : WX} {fi fi1 : GI} {h h1 : HT1} {ft ft1 : GB} {fe : GE} {sl sl1 vs vs1 : List Nat}
theorem noMuW {ρ1 : List Sl} {vs : List Nat} : ∀ j ∈ vs, ∀ e, (wipeS ρ1 vs)[j]? ≠ some (.mu e) := fun j hj e w => by
  rcases wipeS_in (ρ := ρ1) hj with u | u <;> (rw [u] at w; cases w)
theorem lc2_at (hsl : ∀ j ∈ sl, j ∈ vs) (hv : ∀ j ∈ vs1, j ∈ vs) (hsl1 : ∀ j ∈ sl1, j ∈ vs1) {σ : L2.St} {H : Hp} {Q : VK} (q : tW (gx T X) W (gLc2 vs vs1 fi h ft fi1 h1 ft1 fe) σ H Q) :
    tLc2 (tG (gx T X) W relI fi) (tTg (gx T X) sl h) (tG (gx T X) W0 relB ft) (tG (gx T X) W0 relI fi1) (tTg (gx T X) sl1 h1) (tG (gx T X) W0 relB ft1) (tG (gx T X) W0 relD fe) vs vs1 σ H Q := by
  obtain ⟨F, ρ, R, q⟩ := q
  refine ⟨F, ρ, R, At.seqW q fun J items ρ1 F1 H1 go yl q1 => ?_⟩
  cases z : lcO vs vs1 h ft fi1 h1 ft1 fe items (wipeS ρ1 vs) with
  | no => rw [z] at q1; exact False.elim q1
  | ex x ρ' => rw [z] at q1; exact False.elim q1
  | ok all ρe =>
    rw [z] at q1
    have q1 : AtW (gx T X) W (if all.length ≤ 1000000 then .ok (.ow (.lst all)) (unw ρ1 ρe vs) else .no) σ ρ1 F1 H1 Q := q1
    split at q1
    rotate_left
    · exact False.elim q1
    rename_i hz
    intro Da nD
    refine ⟨fun i m H => m = items.length - i ∧ i ≤ items.length ∧ LoAt (gx T X) vs vs1 h ft fi1 h1 ft1 fe items all ρe σ ρ1 F1 H1 Da i H, ⟨items.length, rfl, Nat.zero_le _, ?_⟩, ?_⟩
    · have R1 := go.rep
      exact ⟨F1, wipeS ρ1 vs, [], all, [], (Go.refl (R1.wiped vs)).side nD (R1.fr.free nD) ((R1.wiped vs).noOa nD) _ (.inl nD), upd_same, R1.fr.free nD, (R1.wiped vs).noOa nD, .nil, z, rfl⟩
    rintro i m H2 ⟨rfl, hle, F2, ρ2, acc, rest, ws, go2, hD, fD, oD2, dacc, hrun, hall⟩
    have s12 : Same F1 H2 := go2.fF.trans go2.rep.fr
    by_cases hlt : i < items.length
    · refine .inr ⟨yl.go i H2 s12 hlt, LoAt (gx T X) vs vs1 h ft fi1 h1 ft1 fe items all ρe σ ρ1 F1 H1 Da (i + 1), fun H' p => ⟨items.length - (i + 1), by omega, rfl, hlt, p⟩, fun x H3 y => ?_⟩
      obtain ⟨F3, d, hd, dd, s23, s3, k3, f3, t3⟩ := yl.yl i H2 x H3 F2 go2.fF go2.rep.fr hlt y
      have go3 := Go.grow go2.rep s23 k3 s3 f3 t3
      have ed : items[i] = d := Option.some.inj ((List.getElem?_eq_getElem hlt).symm.trans hd)
      rw [List.drop_eq_getElem_cons hlt, ed] at hrun
      have hrun : (match h d ρ2 with
        | none => .no
        | some ρa => match ft ρa with
          | .ok true ρb => match fi1 ρb with
            | .ok its ρc => match lcL vs1 h1 ft1 fe its (wipeS ρc vs1) with
              | .ok ds ρd => match lcO vs vs1 h ft fi1 h1 ft1 fe (items.drop (i + 1)) (wipeS ρd vs) with
                | .ok es ρe => .ok (ds ++ es) ρe
                | _ => .no
              | _ => .no
            | _ => .no
          | .ok false ρb => lcO vs vs1 h ft fi1 h1 ft1 fe (items.drop (i + 1)) (wipeS ρb vs)
          | _ => .no) = Res.ok rest ρe := hrun
      refine ⟨F3, ρ2, d, go3.rep, dd, ?_⟩
      cases z1 : h d ρ2 with
      | none => rw [z1] at hrun; cases hrun
      | some ρa =>
        rw [z1] at hrun
        intro σ4 e4 l4 go4
        have ew : wipe σ4 vs = wipe σ vs := (wipe_same l4 e4 hsl).trans wipe_wipe
        refine ⟨ew, F3, ρa, go4.rep, ?_⟩
        have goT := (go2.trans go3).trans go4
        have hD3 : H3 Da = some (.lst ws) := k3 Da _ hD
        have nz : H3 Da ≠ none := by rw [hD3]; exact (fun e => nomatch e)
        have fD3 : F3 Da = none := (f3 Da (by rw [hD]; exact (fun e => nomatch e))).trans fD
        have oD3 : ¬ Oa σ4 ρa Da := fun w => (go4.oa Da w).elim (fun w => oD2 w) nz
        -- the first clause's turn ends, from any slots τ that wipe to the block's
        have fin : ∀ {τ : L2.St} {F5 H5 : Hp} {ρz : List Sl} {acc2 rest2 : List D} {ws2 : List V}, wipe τ vs = wipe σ vs → Go (gx T X) (wipe σ vs) (wipeS ρ1 vs) F1 H1 τ ρz F5 H5 → H5 Da = some (.lst ws2) → F5 Da = none → ¬ Oa τ ρz Da → Ds (gx T X) F5 ws2 acc2 →
            lcO vs vs1 h ft fi1 h1 ft1 fe (items.drop (i + 1)) (wipeS ρz vs) = .ok rest2 ρe → acc2 ++ rest2 = all → LoAt (gx T X) vs vs1 h ft fi1 h1 ft1 fe items all ρe σ ρ1 F1 H1 Da (i + 1) H5 := fun {τ F5 H5 ρz acc2 rest2 ws2} et g5 h1 h2 h3 h4 h6 h7 => by
          have gw := g5.wiped (vs := vs) noMuW
          rw [et] at gw
          exact ⟨F5, wipeS ρz vs, acc2, rest2, ws2, gw, h1, h2, fun w => h3 (oa_wipe (by rw [et]; exact w)), h4, h6, h7⟩
        have hrun : (match ft ρa with
          | .ok true ρb => match fi1 ρb with
            | .ok its ρc => match lcL vs1 h1 ft1 fe its (wipeS ρc vs1) with
              | .ok ds ρd => match lcO vs vs1 h ft fi1 h1 ft1 fe (items.drop (i + 1)) (wipeS ρd vs) with
                | .ok es ρe => .ok (ds ++ es) ρe
                | _ => .no
              | _ => .no
            | _ => .no
          | .ok false ρb => lcO vs vs1 h ft fi1 h1 ft1 fe (items.drop (i + 1)) (wipeS ρb vs)
          | _ => .no) = Res.ok rest ρe := hrun
        cases z2 : ft ρa with
        | no => rw [z2] at hrun; cases hrun
        | ex x ρ' => rw [z2] at hrun; cases hrun
        | ok b ρb =>
          rw [z2] at hrun
          intro b' F5 H5 go5 eb
          subst eb
          have hD5 : H5 Da = some (.lst ws) := go5.kp Da _ hD3 nT_lst oD3
          have nz5 : H5 Da ≠ none := by rw [hD5]; exact (fun e => nomatch e)
          have fD5 : F5 Da = none := (go5.fz Da nz oD3).trans fD3
          have oD5 : ¬ Oa σ4 ρb Da := fun w => (go5.oa Da w).elim oD3 nz
          cases b' with
          | false =>
            rw [if_neg Bool.false_ne_true]
            exact fin ew (goT.trans go5) hD5 fD5 oD5 (dacc.mono (s23.trans go5.fF)) hrun hall
          | true =>
            rw [if_pos rfl]
            have hrun : (match fi1 ρb with
              | .ok its ρc => match lcL vs1 h1 ft1 fe its (wipeS ρc vs1) with
                | .ok ds ρd => match lcO vs vs1 h ft fi1 h1 ft1 fe (items.drop (i + 1)) (wipeS ρd vs) with
                  | .ok es ρe => .ok (ds ++ es) ρe
                  | _ => .no
                | _ => .no
              | _ => .no) = Res.ok rest ρe := hrun
            refine ⟨F5, ρb, go5.rep, ?_⟩
            cases z3 : fi1 ρb with
            | no => rw [z3] at hrun; cases hrun
            | ex x ρ' => rw [z3] at hrun; cases hrun
            | ok its ρc =>
              rw [z3] at hrun
              have hrun : (match lcL vs1 h1 ft1 fe its (wipeS ρc vs1) with
                | .ok ds ρd => match lcO vs vs1 h ft fi1 h1 ft1 fe (items.drop (i + 1)) (wipeS ρd vs) with
                  | .ok es ρe => .ok (ds ++ es) ρe
                  | _ => .no
                | _ => .no) = Res.ok rest ρe := hrun
              cases z4 : lcL vs1 h1 ft1 fe its (wipeS ρc vs1) with
              | no => rw [z4] at hrun; cases hrun
              | ex x ρ' => rw [z4] at hrun; cases hrun
              | ok ds ρd =>
                rw [z4] at hrun
                have hrun : (match lcO vs vs1 h ft fi1 h1 ft1 fe (items.drop (i + 1)) (wipeS ρd vs) with
                  | .ok es ρe => .ok (ds ++ es) ρe
                  | _ => .no) = Res.ok rest ρe := hrun
                cases z5 : lcO vs vs1 h ft fi1 h1 ft1 fe (items.drop (i + 1)) (wipeS ρd vs) with
                | no => rw [z5] at hrun; cases hrun
                | ex x ρ' => rw [z5] at hrun; cases hrun
                | ok es ρe' =>
                  rw [z5] at hrun
                  cases hrun
                  intro J1 F6 H6 go6 yl6
                  have hD6 : H6 Da = some (.lst ws) := go6.kp Da _ hD5 nT_lst oD5
                  have nz6 : H6 Da ≠ none := by rw [hD6]; exact (fun e => nomatch e)
                  have fD6 : F6 Da = none := (go6.fz Da nz5 oD5).trans fD5
                  have oD6 : ¬ Oa σ4 ρc Da := fun w => (go6.oa Da w).elim oD5 nz5
                  have eww : wipe (wipe σ4 vs1) vs = wipe σ vs := by
                    rw [← ew]
                    exact wipe_same (sl := vs1) (wipe_length _ _) (fun j hj => wipe_not hj) hv
                  have goI : Go (gx T X) (wipe σ vs) (wipeS ρ1 vs) F1 H1 (wipe σ4 vs1) (wipeS ρc vs1) F6 H6 := ((goT.trans go5).trans go6).wiped fun j hj => noMuW j (hv j hj)
                  refine ⟨fun j k H => k = its.length - j ∧ j ≤ its.length ∧ LiAt (gx T X) vs vs1 h ft fi1 h1 ft1 fe (items.drop (i + 1)) its all ρe σ σ4 ρ1 F1 H1 F6 Da j H, ⟨its.length, rfl, Nat.zero_le _, ⟨F6, wipeS ρc vs1, ρd, acc, ds, es, ws, Same.refl _, goI, hD6, fD6, fun w => oD6 (oa_wipe w), dacc.mono ((s23.trans go5.fF).trans go6.fF), z4, z5, hall⟩⟩, ?_⟩
                  rintro j k H7 ⟨rfl, hje, F7, ρ7, ρd7, acc7, rest7, es7, ws7, s6, go7, hD7, fD7, oD7, dacc7, hrun7, hes7, hall7⟩
                  have s67 : Same F6 H7 := s6.trans go7.rep.fr
                  by_cases hjt : j < its.length
                  · refine .inr ⟨yl6.go j H7 s67 hjt, LiAt (gx T X) vs vs1 h ft fi1 h1 ft1 fe (items.drop (i + 1)) its all ρe σ σ4 ρ1 F1 H1 F6 Da (j + 1), fun H' p => ⟨its.length - (j + 1), by omega, rfl, hjt, p⟩, fun x1 H8 y1 => ?_⟩
                    obtain ⟨F8, d1, hd1, dd1, s78, s8, k8, f8, t8⟩ := yl6.yl j H7 x1 H8 F7 s6 go7.rep.fr hjt y1
                    have go8 := Go.grow go7.rep s78 k8 s8 f8 t8
                    have ed1 : its[j] = d1 := Option.some.inj ((List.getElem?_eq_getElem hjt).symm.trans hd1)
                    rw [List.drop_eq_getElem_cons hjt, ed1] at hrun7
                    have hrun7 : (match h1 d1 ρ7 with
                      | none => .no
                      | some ρa => match ft1 ρa with
                        | .ok true ρb => match fe ρb with
                          | .ok d ρc => match lcL vs1 h1 ft1 fe (its.drop (j + 1)) (wipeS ρc vs1) with
                            | .ok ds ρe => .ok (d :: ds) ρe
                            | _ => .no
                          | _ => .no
                        | .ok false ρb => lcL vs1 h1 ft1 fe (its.drop (j + 1)) (wipeS ρb vs1)
                        | _ => .no) = Res.ok rest7 ρd7 := hrun7
                    refine ⟨F8, ρ7, d1, go8.rep, dd1, ?_⟩
                    cases y2 : h1 d1 ρ7 with
                    | none => rw [y2] at hrun7; cases hrun7
                    | some ρa7 =>
                      rw [y2] at hrun7
                      intro σ9 e9 l9 go9
                      have ew9 : wipe σ9 vs1 = wipe σ4 vs1 := (wipe_same l9 e9 hsl1).trans wipe_wipe
                      refine ⟨ew9, F8, ρa7, go9.rep, ?_⟩
                      have goT9 := (go7.trans go8).trans go9
                      have hD8 : H8 Da = some (.lst ws7) := k8 Da _ hD7
                      have nz8 : H8 Da ≠ none := by rw [hD8]; exact (fun e => nomatch e)
                      have fD8 : F8 Da = none := (f8 Da (by rw [hD7]; exact (fun e => nomatch e))).trans fD7
                      have oD8 : ¬ Oa σ9 ρa7 Da := fun w => (go9.oa Da w).elim (fun w => oD7 w) nz8
                      have fin1 : ∀ {F5 H5 : Hp} {ρz : List Sl} {acc2 rest2 : List D} {ws2 : List V}, Same F6 F5 → Go (gx T X) (wipe σ vs) (wipeS ρ1 vs) F1 H1 σ9 ρz F5 H5 → H5 Da = some (.lst ws2) → F5 Da = none → ¬ Oa σ9 ρz Da → Ds (gx T X) F5 ws2 acc2 →
                          lcL vs1 h1 ft1 fe (its.drop (j + 1)) (wipeS ρz vs1) = .ok rest2 ρd7 → acc2 ++ (rest2 ++ es7) = all → LiAt (gx T X) vs vs1 h ft fi1 h1 ft1 fe (items.drop (i + 1)) its all ρe σ σ4 ρ1 F1 H1 F6 Da (j + 1) H5 := fun {F5 H5 ρz acc2 rest2 ws2} g0 g5 h1' h2' h3' h4' h6' h7' => by
                        have gw := g5.wiped (vs := vs1) fun j hj => noMuW j (hv j hj)
                        rw [ew9] at gw
                        exact ⟨F5, wipeS ρz vs1, ρd7, acc2, rest2, es7, ws2, g0, gw, h1', h2', fun w => h3' (oa_wipe (by rw [ew9]; exact w)), h4', h6', hes7, h7'⟩
                      have hrun7 : (match ft1 ρa7 with
                        | .ok true ρb => match fe ρb with
                          | .ok d ρc => match lcL vs1 h1 ft1 fe (its.drop (j + 1)) (wipeS ρc vs1) with
                            | .ok ds ρe => .ok (d :: ds) ρe
                            | _ => .no
                          | _ => .no
                        | .ok false ρb => lcL vs1 h1 ft1 fe (its.drop (j + 1)) (wipeS ρb vs1)
                        | _ => .no) = Res.ok rest7 ρd7 := hrun7
                      cases y3 : ft1 ρa7 with
                      | no => rw [y3] at hrun7; cases hrun7
                      | ex x ρ' => rw [y3] at hrun7; cases hrun7
                      | ok b1 ρb7 =>
                        rw [y3] at hrun7
                        intro b1' F10 H10 go10 eb1
                        subst eb1
                        have hD10 : H10 Da = some (.lst ws7) := go10.kp Da _ hD8 nT_lst oD8
                        have nz10 : H10 Da ≠ none := by rw [hD10]; exact (fun e => nomatch e)
                        have fD10 : F10 Da = none := (go10.fz Da nz8 oD8).trans fD8
                        have oD10 : ¬ Oa σ9 ρb7 Da := fun w => (go10.oa Da w).elim oD8 nz8
                        have s610 : Same F6 F10 := (s6.trans s78).trans go10.fF
                        cases b1' with
                        | false =>
                          rw [if_neg Bool.false_ne_true]
                          exact fin1 s610 (goT9.trans go10) hD10 fD10 oD10 (dacc7.mono (s78.trans go10.fF)) hrun7 hall7
                        | true =>
                          rw [if_pos rfl]
                          have hrun7 : (match fe ρb7 with
                            | .ok d ρc => match lcL vs1 h1 ft1 fe (its.drop (j + 1)) (wipeS ρc vs1) with
                              | .ok ds ρe => .ok (d :: ds) ρe
                              | _ => .no
                            | _ => .no) = Res.ok rest7 ρd7 := hrun7
                          refine ⟨F10, ρb7, go10.rep, ?_⟩
                          cases y4 : fe ρb7 with
                          | no => rw [y4] at hrun7; cases hrun7
                          | ex x ρ' => rw [y4] at hrun7; cases hrun7
                          | ok dy ρc7 =>
                            rw [y4] at hrun7
                            have hrun7 : (match lcL vs1 h1 ft1 fe (its.drop (j + 1)) (wipeS ρc7 vs1) with
                              | .ok ds ρe => .ok (dy :: ds) ρe
                              | _ => .no) = Res.ok rest7 ρd7 := hrun7
                            cases y5 : lcL vs1 h1 ft1 fe (its.drop (j + 1)) (wipeS ρc7 vs1) with
                            | no => rw [y5] at hrun7; cases hrun7
                            | ex x ρ' => rw [y5] at hrun7; cases hrun7
                            | ok ds8 ρd8 =>
                              rw [y5] at hrun7
                              cases hrun7
                              intro yv F11 H11 go11 ddy
                              have hD11 : H11 Da = some (.lst ws7) := go11.kp Da _ hD10 nT_lst oD10
                              have nz11 : H11 Da ≠ none := by rw [hD11]; exact (fun e => nomatch e)
                              have fD11 : F11 Da = none := (go11.fz Da nz10 oD10).trans fD10
                              have oD11 : ¬ Oa σ9 ρc7 Da := fun w => (go11.oa Da w).elim oD10 nz10
                              refine ⟨ws7, hD11, ?_, ?_⟩
                              · rw [dacc7.length]
                                have := mil
                                have e := congrArg List.length hall7
                                simp only [List.length_append, List.length_cons] at e
                                omega
                              · have goS := ((goT9.trans go10).trans go11).side (p := Da) nD fD11 oD11 (.lst (ws7 ++ [yv])) (.inr (.inl ⟨ws7, hD11⟩))
                                refine fin1 (s610.trans go11.fF) goS upd_same fD11 oD11 ((dacc7.mono ((s78.trans go10.fF).trans go11.fF)).append (.cons ddy .nil)) y5 ?_
                                rw [List.append_assoc]
                                exact hall7
                  · have hj : j = its.length := by omega
                    subst hj
                    refine .inl ⟨yl6.st _ H7 s67 (Nat.le_refl _), ?_⟩
                    rw [List.drop_length] at hrun7
                    have hrun7 : Res.ok [] ρ7 = Res.ok rest7 ρd7 := hrun7
                    cases hrun7
                    exact fin eww go7 hD7 fD7 oD7 dacc7 hes7 (by rw [List.nil_append] at hall7; exact hall7)
    · have hi : i = items.length := by omega
      subst hi
      refine .inl ⟨yl.st _ H2 s12 (Nat.le_refl _), ?_⟩
      rw [List.drop_length] at hrun
      have hrun : Res.ok [] ρ2 = Res.ok rest ρe := hrun
      cases hrun
      rw [List.append_nil] at hall
      subst hall
      have gU := Go.unwipe go.rep go2
      refine q1 Da F2 H2 gU fD ⟨ws, hD, dacc⟩ (fun w => (gU.oa Da w).elim (fun w => (go.rep.oaH w).1 nD) fun _ => ?_) nD
      obtain ⟨j, c, w1, w2⟩ := w
      by_cases hj : j ∈ vs
      · have e1 : oD ρ1 j = some c := by
          unfold oD at w1 ⊢
          rw [unw_in (by
            have := go2.rep.len
            rw [wipe_length, go.rep.len] at this
            exact this.symm) hj] at w1
          exact w1
        exact absurd nD (go.rep.oaH ⟨j, c, e1, w2⟩).1
      · refine oD2 ⟨j, c, ?_, ?_⟩
        · unfold oD at w1 ⊢
          rw [unw_not hj] at w1
          exact w1
        · rw [wipe_not hj]; exact w2
theorem dw_lc2 {elt tg iter tg1 iter1 : Expr} {ifs ifs1 : List Expr} {scope : Scope} {own : List (Str × Nat)} {pos : Pos} (hc : X.calm = true) (hNd : X.N.Nodup) (hi : DI T X W tg iter fi) (ok : BlkOk X.N X.env.scope scope own)
    (hg : ∀ (s : Shared) (H : Hp) (C : Addr) (cl : List (Str × Addr)) (fp : List Addr), DG T (X.blk s H scope (compEnvC scope cl C X.env) fp) sl tg h)
    (ht : ∀ (s : Shared) (H : Hp) (C : Addr) (cl : List (Str × Addr)) (fp : List Addr), DTs T (X.blk s H scope (compEnvC scope cl C X.env) fp) W0 ifs ft)
    (hi1 : ∀ (s : Shared) (H : Hp) (C : Addr) (cl : List (Str × Addr)) (fp : List Addr), DI T (X.blk s H scope (compEnvC scope cl C X.env) fp) W0 tg1 iter1 fi1)
    (hg1 : ∀ (s : Shared) (H : Hp) (C : Addr) (cl : List (Str × Addr)) (fp : List Addr), DG T (X.blk s H scope (compEnvC scope cl C X.env) fp) sl1 tg1 h1)
    (ht1 : ∀ (s : Shared) (H : Hp) (C : Addr) (cl : List (Str × Addr)) (fp : List Addr), DTs T (X.blk s H scope (compEnvC scope cl C X.env) fp) W0 ifs1 ft1)
    (he : ∀ (s : Shared) (H : Hp) (C : Addr) (cl : List (Str × Addr)) (fp : List Addr), DE T (X.blk s H scope (compEnvC scope cl C X.env) fp) W0 elt fe)
    (hsl : ∀ j ∈ sl, j ∈ own.map (·.2)) (hv : ∀ j ∈ vs1, j ∈ own.map (·.2)) (hsl1 : ∀ j ∈ sl1, j ∈ vs1) (hs : ∀ x, foldedSetIterable iter X.env x = pure x := by intro _; rfl) (hs1 : ∀ env x, foldedSetIterable iter1 env x = pure x := by intro _ _; rfl) :
    DW T X W (.ListComp elt [⟨tg, iter, ifs, 0⟩, ⟨tg1, iter1, ifs1, 0⟩] scope pos) (gLc2 (own.map (·.2)) vs1 fi h ft fi1 h1 ft1 fe) :=
  PE.weak (pe_lc2 (g := tTg (gx T X) sl h) (g1 := tTg (gx T X) sl1 h1) (tt := tG (gx T X) W0 relB ft) (tt1 := tG (gx T X) W0 relB ft1) (wi1 := tG (gx T X) W0 relI fi1) (te := tG (gx T X) W0 relD fe) hc hNd hi ok hv hg ht hi1 hg1 ht1 he hs hs1) fun σ H Q q => lc2_at hsl hv hsl1 q
end
end DL
end
section
set_option Elab.async false
set_option linter.all false
set_option maxRecDepth 100000
set_option maxHeartbeats 1000000
/-! DLl: sorted(xs, key=lambda x: (x[0], x[1])). -/
namespace DLq
open PySem PySem.Spec PySem.Calls PyProof.Rows PySem.W
section
variable {prog : Program} {w : World} {A : Around} {E : Value → Shared → Prop} {s : Shared}
/-- x[j] of a local that holds a tuple -/
theorem item_at {env : Env} {m : Str → Option Value} {x : Str} {t : Addr} {items : Array Value} {j : Nat} {v : Value} {p1 p2 p3 : Pos} {jj : Nat} {Q : Value → Shared → Prop} (hk : env.scope.kind = .function) (hl : env.kindOf x = some .local) (hns : s.heap.Ns env.locals m)
    (hv : m x = some (.ref t)) (ht : IsTup s.heap t items) (hj : items[j]? = some v) (hsz : items.size ≤ 1000000) (hd : (x == ("__debug__" : Str)) = false) (h : ∀ tk, Q v { s with toks := tk }) :
    wpAny (model prog w) A (eval (.Subscript (.Name x p1) (.Constant (.int (j : Int)) jj p2) p3) env) Q E s := by
  have hlt : j < items.size := (Array.getElem?_eq_some_iff.mp hj).1
  refine Subscript_Constant (wpAny_Name (wpAny_loadName_local hk hl hns hv (wpAny_Constant_int ⟨"tuple", "tuple.__getitem__", slot_tuple_getitem.lookup, ht.typeIs, ?_⟩)) hd)
  exact getItem_tuple (s := { s with toks := _ }) ht (by omega) (by omega) (seqIndex_of (by omega) (by omega)) hj (h _)
abbrev keyBody (x : Str) (p1 p2 p3 p4 p5 p6 p7 : Pos) (j1 j2 kt : Nat) : Expr := .Tuple [.Subscript (.Name x p1) (.Constant (.int 0) j1 p2) p3, .Subscript (.Name x p4) (.Constant (.int 1) j2 p5) p6] kt p7
theorem key_call {f c' t : Addr} {qual x : Str} {params : Arguments} {scope : Scope} {cl : List (Str × Addr)} {pm ctv a b : Value} {items : Array Value} {p1 p2 p3 p4 p5 p6 p7 : Pos} {j1 j2 kt : Nat} {Q : Value → Shared → Prop}
    (hf : s.heap.get? f = some (kla_obj "<lambda>" qual params (keyBody x p1 p2 p3 p4 p5 p6 p7 j1 j2 kt) scope cl pm c' ctv)) (hcd : s.heap.CodeRec (.ref c') qual) (hroom : A.depth < recursionLimit) (hlim : s.heap.NoLimit)
    (hbind : ∀ v, bindArgs (kla_fn "<lambda>" qual params (keyBody x p1 p2 p3 p4 p5 p6 p7 j1 j2 kt) scope cl pm (.ref c') ctv) ⟨[v], []⟩ = pure [(x, v)])
    (hk : scope.kind = .function) (hco : scope.isCoroutine = false) (hgen : scope.isGenerator = false) (hcell : ∀ y ∈ scope.names, y.2 ≠ .cell) (hx : scope.names.lookup x = some .local) (hd : (x == ("__debug__" : Str)) = false)
    (ht : IsTup s.heap t items) (h0 : items[0]? = some a) (h1 : items[1]? = some b) (hsz : items.size ≤ 1000000)
    (hQ : ∀ h' tk T, (∀ b o, s.heap.get? b = some o → h'.get? b = some o) → s.heap.objs.size ≤ T → h'.get? T = some { cls := .type "tuple", data := .seq #[a, b] } → Q (.ref T) { s with heap := h', toks := tk }) :
    wpAny (model prog w) A (call (.ref f) [.ref t]) Q E s := by
  refine wpAny_call (kla_callFunE hroom hf rfl hco hgen rfl hcd ?_)
  rw [hbind]
  refine wpAny_pure (wpAny_newFunctionEnv hcell (fun y hy => ?_) (fun h₁ hns hsb => ⟨hlim.fresh _ hsb, ?_⟩) hk)
  · have e : y = (x, .ref t) := by simpa using hy
    rw [e]; exact hx
  show codeAny _ _ (.expr _ (envX qual scope s.heap.objs.size f (.ref c') cl)) _ _
  have kp : ∀ b o, s.heap.get? b = some o → h₁.get? b = some o := fun b o e => hsb.extBut b o (Nat.ne_of_lt (Heap.lt_size e)) (Heap.get?_push_of_some _ e)
  have ht1 : IsTup h₁ t items := let ⟨o, ho, r⟩ := ht; ⟨o, kp _ _ ho, r⟩
  have hm : (fun y => [(x, Value.ref t)].reverse.lookup y) x = some (Value.ref t) := by simp [List.lookup]
  refine kla_codeExpr (wpAny_Tuple_spliced (elts := [.Subscript (.Name x p1) (.Constant (.int 0) j1 p2) p3, .Subscript (.Name x p4) (.Constant (.int 1) j2 p5) p6]) ?_)
  show wpAny _ _ (spliced ((false, eval (.Subscript (.Name x p1) (.Constant (.int 0) j1 p2) p3) (envX qual scope s.heap.objs.size f (.ref c') cl)) :: backTo p7 (starEach [.Subscript (.Name x p4) (.Constant (.int 1) j2 p5) p6] (envX qual scope s.heap.objs.size f (.ref c') cl)))) _ _ _
  refine spliced_cons (item_at (j := 0) (s := { s with heap := h₁, toks := _ }) hk hx hns hm ht1 h0 hsz hd fun tk1 => ?_)
  show wpAny _ _ (spliced ((false, eval (.Subscript (.Name x p4) (.Constant (.int 1) j2 p5) p6) (envX qual scope s.heap.objs.size f (.ref c') cl)) :: backTo p7 (starEach [] (envX qual scope s.heap.objs.size f (.ref c') cl)))) _ _ _
  refine spliced_cons (item_at (j := 1) (s := { s with heap := h₁, toks := _ }) hk hx hns hm ht1 h1 hsz hd fun tk2 => ?_)
  refine spliced_nil ⟨by show 2 ≤ sizeLine; decide, ?_⟩
  exact hQ _ _ _ (fun b o e => Heap.get?_push_of_some _ (kp b o e)) (by
    have := hns.lt
    exact Nat.le_of_lt this) (Heap.get?_push_size _ rfl)
end
end DLq

namespace DL
open PySem PySem.Spec L2
/-! ### the heap below and above a frame -/
def below (h : Heap) (L : Addr) : Heap := ⟨h.objs.extract 0 L, h.life⟩
theorem below_at {h : Heap} {L b : Nat} : (below h L).get? b = if b < L then h.get? b else none := by
  unfold below Heap.get?
  rw [Array.getElem?_extract]
  by_cases hb : b < L
  · rw [if_pos hb]
    by_cases hs : b < h.objs.size
    · rw [if_pos (by omega)]; simp
    · rw [if_neg (by omega), Array.getElem?_eq_none (by omega)]
  · rw [if_neg (by omega), if_neg hb]
theorem below_size {h : Heap} {L : Nat} : (below h L).objs.size ≤ L := by
  unfold below
  rw [Array.size_extract]
  exact Nat.le_trans (Nat.sub_le _ _) (Nat.min_le_left _ _)
def above (h : Heap) (L : Addr) : List (Addr × Obj) := (List.range h.objs.size).filterMap fun b => if L < b then (h.get? b).map fun o => (b, o) else none
theorem mem_above {h : Heap} {L : Addr} {p : Addr × Obj} : p ∈ above h L ↔ L < p.1 ∧ h.get? p.1 = some p.2 := by
  unfold above
  rw [List.mem_filterMap]
  constructor
  · rintro ⟨b, hb, e⟩
    split at e
    · rename_i hl
      cases q : h.get? b with
      | none => rw [q] at e; cases e
      | some o => rw [q] at e; cases e; exact ⟨hl, q⟩
    · cases e
  · rintro ⟨hl, e⟩
    exact ⟨p.1, List.mem_range.mpr (Heap.lt_size e), by rw [if_pos hl, e]; rfl⟩
theorem fr_below {h : Heap} {L : Addr} {m : Str → Option Value} (hn : h.Ns L m) : PyProof.Rows.Fr (below h L) L h m :=
  ⟨hn, (fun b o e => by
    rw [below_at] at e
    split at e
    · exact e
    · cases e), below_size⟩
theorem news_above {h : Heap} {L : Addr} : PyProof.Rows.News (below h L) L h (above h L) := fun p hp => by
  obtain ⟨h1, h2⟩ := mem_above.mp hp
  refine ⟨h2, Nat.ne_of_gt h1, ?_⟩
  rw [below_at, if_neg (Nat.lt_asymm h1)]
/-- all but the frame's object is kept -/
theorem keep_of {h h' : Heap} {L : Addr} {m : Str → Option Value} (F : PyProof.Rows.Fr (below h L) L h' m) (N : ∀ p ∈ above h L, h'.get? p.1 = some p.2) : ∀ b o, b ≠ L → h.get? b = some o → h'.get? b = some o := fun b o n e => by
  by_cases q : b < L
  · exact F.keep b o (by rw [below_at, if_pos q]; exact e)
  · exact N (b, o) (mem_above.mpr ⟨Nat.lt_of_le_of_ne (Nat.le_of_not_lt q) (Ne.symm n), e⟩)
section
variable {X : Cx} {pins : List (Addr × Obj)} {σ : L2.St} {H : Hp} {s : Shared}
/-- a lambda's function object is made -/
theorem lam_makeD {T : Tbs} {c P : Addr} {params : Arguments} {body : Expr} {scope : Scope} {pos : Pos} {E : Value → Shared → Prop} {Q : Value → Shared → Prop} (I : L2.Inv X pins σ H s) (TB : LamX.TabB X.base X.mg c P) (hcode : X.env.code = .ref c)
    (hm : (P, X.env.qual ++ "<lambda>") ∈ T) (hu : ∀ p ∈ T, p.1 = P → p.2 = X.env.qual ++ "<lambda>") (hT : LamX.Tabs T H) (hdef : defaultsOf params X.env = ([], [])) (hfree : ∀ y ∈ scope.names, y.2 = .free → ∃ c, X.env.cells.lookup y.1 = some c)
    (h : ∀ (f c' : Addr) (pm ctv : Value) (H1 : Hp) (s' : Shared), L2.Inv X pins σ H1 s' → LamX.ExtN H H1 → (∀ a, H a ≠ none → H1 a ≠ none) → LamX.Tabs T H1 → (∀ a, a ≠ P → H a = none → (∀ o, s.heap.get? a = some o → H1 a = none)) →
      s'.heap.get? f = some (PySem.W.kla_obj "<lambda>" (X.env.qual ++ "<lambda>") params body scope (cloFrom X.env.cells scope.names []) pm c' ctv) → H1 f = none → f ∉ frs X.stack → H1 c' = some (LamX.CodeO c' (X.env.qual ++ "<lambda>")) → (∀ a, H1 a ≠ none → H a ≠ none ∨ H1 a = some (LamX.CodeO a (X.env.qual ++ "<lambda>"))) → Q (.ref f) s') :
    wpAny (model X.prog X.w) X.A (eval (.Lambda params body scope pos) X.env) Q E s := by
  obtain ⟨ps, hP, ht, ha⟩ := hT _ hm
  refine PySem.W.kla_eval hdef ?_
  have bP : s.heap.BuiltinsAt X.mg P := TB.bm.keeps I.bk
  have hP' : s.heap.get? P = some { cls := .none, data := .fields ps } := I.hok P _ hP
  have nofr : ∀ f, s.heap.objs.size ≤ f → f ∉ frs X.stack := fun f hf z => (List.mem_cons.mp (I.stkSub _ z)).elim (fun e => Nat.lt_irrefl _ (Nat.lt_of_lt_of_le (by rw [e]; exact I.lt) hf)) fun e => I.nofs hf e
  cases hc : codeAmong pos ps.toList with
  | none =>
    refine PySem.W.kla_makeFunction (mg := X.mg) (c := c) (P := P) (ps := ps) (closure_ok hfree) I.ok.glob (I.mod.glob.keeps I.bk) hcode (TB.code.keeps I.bk) hP' ht hc TB.gP bP fun c' ctv h' tk hx hge hlt hrec htb => ?_
    obtain ⟨c2, oc, vs, t, e2, hoc, hd, hv⟩ := hrec
    cases e2
    have hsz : s.heap.objs.size ≤ h'.objs.size := Nat.le_trans hge (Nat.le_of_lt hlt)
    have nC : H c' = none := I.hok.fresh hge
    have I1 := LamX.inv_table (t' := tk) (more := #[rawInt pos.line, rawInt pos.col, .ref c']) (h' := h'.push (PySem.W.kla_obj "<lambda>" (X.env.qual ++ "<lambda>") params body scope (cloFrom X.env.cells scope.names []) ((X.mg "__name__").getD .none) c' ctv)) I hP
      (fun b o hb e => Heap.get?_push_of_some _ (hx b o hb e)) (Heap.get?_push_of_some _ htb) hge ⟨oc, vs, t, Heap.get?_push_of_some _ hoc, hd, hv⟩
    have nP : P ≠ c' := ne_of_none hP nC
    have hE : LamX.ExtN H (upd (upd H P (.tbl (ps ++ #[rawInt pos.line, rawInt pos.col, .ref c']))) c' (LamX.CodeO c' (X.env.qual ++ "<lambda>"))) := fun b o e n => by
      rw [upd_ne (ne_of_none e nC), upd_ne (fun z => n ps (Option.some.inj (e.symm.trans (by rw [z]; exact hP))))]
      exact e
    have eL : (ps ++ #[rawInt pos.line, rawInt pos.col, .ref c']).toList = ps.toList ++ [rawInt pos.line, rawInt pos.col, .ref c'] := by simp
    have n1 : h'.objs.size ≠ c' := Nat.ne_of_gt hlt
    have n2 : h'.objs.size ≠ P := Nat.ne_of_gt (Nat.lt_of_lt_of_le (Heap.lt_size hP') hsz)
    refine h h'.objs.size c' ((X.mg "__name__").getD .none) ctv _ _ I1 hE (fun a q => ?_) (fun p hp => ?_) (fun a n q o e => ?_) (Heap.get?_push_size _ rfl) (by rw [upd_ne n1, upd_ne n2]; exact I.hok.fresh hsz) (nofr _ hsz) upd_same (fun a q => ?_)
    · by_cases z : a = c'
      · rw [z, upd_same]; exact (fun e => nomatch e)
      · rw [upd_ne z]
        by_cases y : a = P
        · rw [y, upd_same]; exact (fun e => nomatch e)
        · rw [upd_ne y]; exact q
    · by_cases hb : p.1 = P
      · rw [hu p hp hb, hb]
        refine ⟨_, by rw [upd_ne nP, upd_same], by rw [eL]; exact PySem.TriplesOk_snoc _ _ _ _ ht, fun p' cv hcv => ?_⟩
        rw [eL] at hcv
        rcases LamX.among_app _ ht hcv with z | z
        · obtain ⟨c0, e1, e2⟩ := ha p' cv z
          exact ⟨c0, e1, hE _ _ e2 LamX.codeO_ne⟩
        · exact ⟨c', z, upd_same⟩
      · obtain ⟨ps', a1, a2, a3⟩ := hT p hp
        refine ⟨ps', by rw [upd_ne (ne_of_none a1 nC), upd_ne hb]; exact a1, a2, fun p' cv hcv => ?_⟩
        obtain ⟨c0, e1, e2⟩ := a3 p' cv hcv
        exact ⟨c0, e1, hE _ _ e2 LamX.codeO_ne⟩
    · have lt := Heap.lt_size e
      rw [upd_ne (Nat.ne_of_lt (Nat.lt_of_lt_of_le lt hge)), upd_ne n]; exact q
    · by_cases z : a = c'
      · rw [z]; exact .inr upd_same
      · rw [upd_ne z] at q
        by_cases y : a = P
        · rw [y]; exact .inl (by rw [hP]; exact (fun e => nomatch e))
        · rw [upd_ne y] at q; exact .inl q
  | some cv =>
    obtain ⟨c', e, hco⟩ := ha pos cv hc
    subst e
    refine PySem.W.kla_makeFunctionHit (mg := X.mg) (c := c) (P := P) (ps := ps) (closure_ok hfree) I.ok.glob (I.mod.glob.keeps I.bk) hcode (TB.code.keeps I.bk) hP' ht hc bP fun ctv h' tk hx hsz => ?_
    have I1 : L2.Inv X pins σ H { s with heap := h'.push (PySem.W.kla_obj "<lambda>" (X.env.qual ++ "<lambda>") params body scope (cloFrom X.env.cells scope.names []) ((X.mg "__name__").getD .none) c' ctv), toks := tk } := I.kept fun b o e => Heap.get?_push_of_some _ (hx b o e)
    exact h h'.objs.size c' ((X.mg "__name__").getD .none) ctv H _ I1 (LamX.ExtN.refl H) (fun _ q => q) hT (fun _ _ q _ _ => q) (Heap.get?_push_size _ rfl) (I.hok.fresh hsz) (nofr _ hsz) hco (fun _ q => .inl q)
/-- sorted has run: all but the frame's object is kept, a new list lies at D -/
theorem inv_sorted {h' : Heap} {t' : Nat} {D : Addr} {ws : List V} {out : List Value} {c : Nat} {m : Str → Option Value} (I : L2.Inv X pins σ H s) (hn0 : s.heap.Ns X.env.locals m) (hn : h'.Ns X.env.locals m) (k : ∀ b o, b ≠ X.env.locals → s.heap.get? b = some o → h'.get? b = some o) (nD : s.heap.get? D = none)
    (hD : h'.get? D = some { cls := .type "list", data := .seq out.toArray c }) (hz : ws.length ≤ sizeLine) (r : Vals ws out) : L2.Inv X pins σ (upd H D (.lst ws)) { s with heap := h', toks := t' } := by
  have hDn : H D = none := I.hok.gone nD
  have nL : ∀ b u, H b = some u → b ≠ X.env.locals := fun b u e z => by rw [z, I.free] at e; cases e
  refine I.step (g' := s.gens) (d' := s.drawn) (ch := []) (fun b hb => absurd hb (by simp)) (fun b o n _ _ e _ => k b o n e) (fun b o n _ _ e _ => ⟨o.slots, k b o n e⟩) (fun b o _ e n => ?_) (fun b o _ e => ?_) (fun b xs e => ?_) (fun b o u e => ?_) (fun b ps e => ⟨#[], ?_⟩) (fun m' hm' => ?_) (fun b u e => ?_) I.bare
  · rw [upd_ne (fun z => by rw [z, nD] at e; cases e)]; exact n
  · by_cases z : b = X.env.locals
    · rw [z]
      obtain ⟨o', _, _, q, _⟩ := hn
      exact ⟨o', q⟩
    · exact ⟨o, k b o z e⟩
  · rw [upd_ne (ne_of_none e hDn)]; exact e
  · rw [upd_ne (ne_of_none e hDn)]; exact e
  · rw [upd_ne (ne_of_none e hDn), e]; simp
  · have em : m' = m := by
      obtain ⟨o1, es1, ep1, a1, b1, _, c1⟩ := hm'
      obtain ⟨o2, es2, ep2, a2, b2, _, c2⟩ := hn0
      rw [a1] at a2
      cases a2
      rw [b1] at b2
      cases b2
      funext y
      rw [← c1 y, ← c2 y]
    rw [em]
    exact hn
  · by_cases hb : b = D
    · subst hb
      rw [upd_same] at e
      cases e
      exact ⟨hz, out, c, r, hD⟩
    · rw [upd_ne hb] at e
      refine (I.hok b u e).stay (fun c v hc q => k c v ?_ q) (fun c q => by rw [upd_ne (ne_of_none q hDn)]; exact q) fun c xs q => by rw [upd_ne (ne_of_none q hDn)]; exact q
      rcases hc with z | z
      · rw [z]; exact nL b u e
      · exact nL c _ z
end
/-! ### the rule -/
def keyPy : D → PyData
  | .tup (.int a :: .int b :: _) => .tuple [.int a, .int b]
  | _ => .tuple [.int 0]
def D.keyed : D → Bool
  | .tup (.int _ :: .int _ :: r) => decide (r.length ≤ 1000)
  | _ => false
def D.kle (a b : D) : Bool := PySem.W.dataLe false keyPy a b
def fSortK : D → Option Rs
  | .lst ds => if ds.all D.keyed && decide (ds.length ≤ 1000000) then some (.ow (.lst (ds.mergeSort D.kle))) else none
  | _ => none
def gSortK (f : GV) : GW := fun ρ => (f ρ).bind fun a ρ1 => match vD ρ1 a with
  | some d => Res.of (fSortK d) ρ1
  | none => .no
theorem keyed_is {d : D} (h : d.keyed = true) : ∃ a b r, d = .tup (.int a :: .int b :: r) ∧ r.length ≤ 1000 := by
  unfold D.keyed at h
  split at h
  · exact ⟨_, _, _, rfl, of_decide_eq_true h⟩
  · cases h
theorem keys_alike {ds : List D} (h : ∀ d ∈ ds, d.keyed = true) : PySem.W.AllAlike (ds.map keyPy) ∧ PySem.W.Sortable (ds.map keyPy) := by
  refine ⟨fun a ha b hb => ?_, .inl fun a ha => ?_⟩
  · obtain ⟨a', ha', rfl⟩ := List.mem_map.mp ha
    obtain ⟨b', hb', rfl⟩ := List.mem_map.mp hb
    obtain ⟨x, y, r, rfl, _⟩ := keyed_is (h a' ha')
    obtain ⟨x', y', r', rfl, _⟩ := keyed_is (h b' hb')
    simp [keyPy, PySem.W.alike, PySem.W.alikeAll]
  · obtain ⟨a', ha', rfl⟩ := List.mem_map.mp ha
    obtain ⟨x, y, r, rfl, _⟩ := keyed_is (h a' ha')
    exact ⟨_, _, rfl⟩
/-- what sorted with the key does, at the library's level -/
theorem sortK_raw {T : Tbs} {X : Cx} {pins : List (Addr × Obj)} {σ : L2.St} {H F : Hp} {s : Shared} {Q : VK} {l f c' : Addr} {vs : List V} {ds : List D} {qual x : Str} {params : Arguments} {scope : Scope} {cl : List (Str × Addr)} {pm ctv : Value} {p1 p2 p3 p4 p5 p6 p7 : Pos} {j1 j2 kt k : Nat}
    (I : L2.Inv X pins σ H s) (hr : Room k X.A) (hl : H l = some (.lst vs)) (sF : Same F H) (dd : Ds (gx T X) F vs ds) (hk : ∀ d ∈ ds, d.keyed = true) (hz : ds.length ≤ 1000000)
    (hf : s.heap.get? f = some (PySem.W.kla_obj "<lambda>" qual params (DLq.keyBody x p1 p2 p3 p4 p5 p6 p7 j1 j2 kt) scope cl pm c' ctv)) (hc : H c' = some (LamX.CodeO c' qual))
    (hbind : ∀ v, bindArgs (PySem.W.kla_fn "<lambda>" qual params (DLq.keyBody x p1 p2 p3 p4 p5 p6 p7 j1 j2 kt) scope cl pm (.ref c') ctv) ⟨[v], []⟩ = pure [(x, v)])
    (hsk : scope.kind = .function) (hco : scope.isCoroutine = false) (hgen : scope.isGenerator = false) (hcell : ∀ y ∈ scope.names, y.2 ≠ .cell) (hx : scope.names.lookup x = some .local) (hd : (x == ("__debug__" : Str)) = false)
    (q : ∀ p ws, H p = none → Ds (gx T X) F ws (ds.mergeSort D.kle) → Q (.ref p) (upd H p (.lst ws))) :
    wpAny (model X.prog X.w) X.A (call (.builtin "sorted") [.ref l] [(Str.ofString "key", .ref f)]) (EP X pins σ Q) X.xe s := by
  obtain ⟨m, hns, _⟩ := I.loc
  obtain ⟨its, rv, pl, hzl⟩ := I.list (.of hl)
  have hlen := dd.length
  have e2 : (vs.zip ds).map (·.2) = ds := by rw [List.map_snd_zip (by omega)]
  have ek : (vs.zip ds).map (fun b => keyPy b.2) = ds.map keyPy := by
    rw [show (fun b : V × D => keyPy b.2) = keyPy ∘ Prod.snd from rfl, ← List.map_map, e2]
  have hal := keys_alike hk
  rw [← ek] at hal
  have hL : (vs.zip ds).length ≤ sizeLine := by
    rw [List.length_zip]
    have := mil
    omega
  have hu : ∀ b : V × D, b ∈ vs.zip ds → X.A.units + 2 + (keyPy b.2).depth < cLine := fun b hb => by
    obtain ⟨a, b', r, e, _⟩ := keyed_is (hk b.2 (List.of_mem_zip hb).2)
    rw [e]
    have := hr.un
    have : (keyPy (.tup (.int a :: .int b' :: r))).depth ≤ 4 := by simp [keyPy, PyData.depth, PyData.depthAll]
    omega
  have fL : f ≠ X.env.locals := fun z => by
    obtain ⟨o, es, ep, a, b, _⟩ := hns
    rw [← z, hf] at a
    cases a
    cases b
  have ev := each_vals rv dd
  refine PySem.W.sorted_key_data_frame (f := .ref f) (R := fun u (b : V × D) => RelV b.1 u ∧ Dd (gx T X) F b.1 b.2) (m := m) (L := X.env.locals) (h₀ := below s.heap X.env.locals) (news := above s.heap X.env.locals) (b := false) (fun b : V × D => keyPy b.2) (fr_below hns) news_above pl.isList ev hal.1 hal.2 hL hu ?_ ?_ ?_ ?_ ?_
  · unfold argsOk; kernel_rfl
  · intro y; unfold argsOk; kernel_rfl
  · exact fun a => rfl
  · rintro v ⟨w, d⟩ ⟨rw_, dw⟩ hb h tk own Fh Nh
    obtain ⟨a, b, r, e, hr1⟩ := keyed_is (hk d (List.of_mem_zip hb).2)
    have dw : Dd (gx T X) F w d := dw
    have rw_ : RelV w v := rw_
    subst e
    have keep := keep_of Fh fun p hp => (Nh p (List.mem_append_left _ hp)).1
    have bL : ∀ b o, X.base.get? b = some o → h.get? b = some o := fun b o e => keep b o (fun z => by
      have h1 := Heap.lt_size e
      have h2 := Nat.le_trans I.ok.bsz I.ok.above
      rw [z] at h1
      exact Nat.lt_irrefl _ (Nat.lt_of_lt_of_le h1 h2)) (I.bk b o e)
    cases dw with
    | @tup t ws _ ht dws =>
      obtain rfl : v = Value.ref t := rw_
      obtain ⟨its2, rv2, pt, hz2⟩ := I.tuple (.of (sF _ _ ht))
      have tL : t ≠ X.env.locals := fun z => by
        have := sF _ _ ht
        rw [z, I.free] at this
        cases this
      have hl2 := rv2.length
      have dl := dws.length
      obtain ⟨w0, e0, d0⟩ := dws.get (i := 0) (d := .int a) rfl
      obtain ⟨w1, e1, d1⟩ := dws.get (i := 1) (d := .int b) rfl
      cases d0
      cases d1
      obtain ⟨u0, x0, k0, rfl⟩ := rv2.get e0
      obtain ⟨u1, x1, k1, rfl⟩ := rv2.get e1
      obtain ⟨⟨oc, vsc, tc, hoc, hdc, hvc⟩, _, _⟩ := I.hok c' _ hc
      have cL : c' ≠ X.env.locals := fun z => by rw [z, I.free] at hc; cases hc
      have pth : PyProof.Rows.IsTup h t its2.toArray := let ⟨o, ho, r⟩ := pt; ⟨o, keep _ _ tL ho, r⟩
      refine DLq.key_call (s := { s with heap := h, toks := tk }) (keep f _ fL hf) ⟨c', oc, vsc, tc, rfl, keep _ _ cL hoc, hdc, hvc⟩ (by have := hr.dp; show X.A.depth < _; omega) (I.ok.mod.nolimit.keeps bL) hbind hsk hco hgen hcell hx hd pth (a := .int a k0) (b := .int b k1) (by simpa using x0) (by simpa using x1) (by
        simp only [List.length_cons] at dl
        rw [List.size_toArray]
        omega) fun h' tk' Ta kp hT1 hT2 => ?_
      refine ⟨h', tk', [(Ta, { cls := .type "tuple", data := .seq #[.int a k0, .int b k1] })], rfl, fun g _ hm => ⟨_, .tuple (hm _ List.mem_cons_self) rfl rfl (.cons (.int _ _) (.cons (.int _ _) .nil))⟩, fun p hp => ?_, Fh.kept kp, fun p hp => ?_⟩
      · rw [List.mem_singleton.mp hp]
      · rcases List.mem_append.mp hp with hp | hp
        · have y := Nh p hp
          exact ⟨kp _ _ y.1, y.2⟩
        · rw [List.mem_singleton.mp hp]
          have lL := Fh.ns.lt
          refine ⟨hT2, Nat.ne_of_gt (Nat.lt_of_lt_of_le lL hT1), ?_⟩
          rw [below_at, if_neg (Nat.lt_asymm (Nat.lt_of_lt_of_le lL hT1))]
  · intro Da out c h' tk Fh Nh hD ho eo
    obtain ⟨b1, b2⟩ := each_back eo
    have e3 : ((vs.zip ds).mergeSort (PySem.W.dataLe false fun b : V × D => keyPy b.2)).map (·.2) = ds.mergeSort D.kle := by
      rw [List.map_mergeSort (f := fun b : V × D => b.2) (r := PySem.W.dataLe false fun b : V × D => keyPy b.2) (s := D.kle) (fun a _ b _ => rfl), e2]
    rw [e3] at b2
    have nDa := Nh (Da, PySem.W.listOf (List.toArray out) c) List.mem_cons_self
    have keep := keep_of Fh fun p hp => (Nh p (List.mem_cons_of_mem _ hp)).1
    have nD : s.heap.get? Da = none := by
      cases z : s.heap.get? Da with
      | none => rfl
      | some o =>
        by_cases hlt : Da < X.env.locals
        · have := nDa.2.2
          rw [below_at, if_pos hlt, z] at this
          cases this
        · exact absurd (hD (Da, o) (mem_above.mpr ⟨Nat.lt_of_le_of_ne (Nat.le_of_not_lt hlt) (Ne.symm nDa.2.1), z⟩)) (Nat.lt_irrefl _)
    have hl2 : (((vs.zip ds).mergeSort (PySem.W.dataLe false fun b : V × D => keyPy b.2)).map (·.1)).length ≤ sizeLine := by
      rw [List.length_map, List.length_mergeSort, List.length_zip]
      have := mil
      omega
    exact ⟨.ref _, upd H Da (.lst _), inv_sorted (t' := tk) I hns Fh.ns keep nD nDa.1 hl2 b1, rfl, q _ _ (I.hok.gone nD) b2⟩
/-- no own cell, the parameter alone -/
structure KeyS (sc scope : Scope) (x : Str) : Prop where
  kind : scope.kind = .function
  co : scope.isCoroutine = false
  gen : scope.isGenerator = false
  cell : ∀ y ∈ scope.names, y.2 ≠ .cell
  par : scope.names.lookup x = some .local
  free : ∀ y ∈ scope.names, y.2 ≠ .free
section
variable {T : Tbs} {X : Cx} {W : WX} {e : Expr} {f : GV} {x : Str} {c P : Addr} {k : Nat} {params : Arguments} {scope : Scope} {p pos lpos kpos p1 p2 p3 p4 p5 p6 p7 : Pos} {j1 j2 kt : Nat}
theorem dw_sortK (hr : Room k X.A) (hg : Gl X "sorted") (hm : X.mg "sorted" = none) (ha : DV T X W e f) (TB : LamX.TabB X.base X.mg c P) (hcode : X.env.code = .ref c) (hmT : (P, X.env.qual ++ "<lambda>") ∈ T) (hu : ∀ p ∈ T, p.1 = P → p.2 = X.env.qual ++ "<lambda>")
    (hdef : defaultsOf params X.env = ([], [])) (L : KeyS X.env.scope scope x) (hd : (x == ("__debug__" : Str)) = false)
    (hbind : ∀ (q : Str) (cl : List (Str × Addr)) (pm cv ctv v : Value), bindArgs (PySem.W.kla_fn "<lambda>" q params (DLq.keyBody x p1 p2 p3 p4 p5 p6 p7 j1 j2 kt) scope cl pm cv ctv) ⟨[v], []⟩ = pure [(x, v)])
    (he : backTo pos (starEach [e] X.env) = (false, eval e X.env) :: backTo pos (starEach [] X.env) := by rfl) (hpl : (backTo pos (starEach [e] X.env)).any (·.1) = false := by rfl) (hs : starEach [e] X.env = (false, eval e X.env) :: starEach [] X.env := by rfl) :
    DW T X W (.Call (.Name "sorted" p) [e] [⟨some (Str.ofString "key"), .Lambda params (DLq.keyBody x p1 p2 p3 p4 p5 p6 p7 j1 j2 kt) scope lpos, kpos⟩] pos) (gSortK f) := by
  refine ⟨fun pins s σ H Q I ⟨F, ρ, R, q⟩ => ?_⟩
  have key : tCons (tG (gx T X) W relV f) tNil σ H fun vs H1 => ∃ l ws ds F1 ρ1, vs = [V.ref l] ∧ H1 l = some (.lst ws) ∧ Rep (gx T X) F1 H1 σ ρ1 ∧ Ds (gx T X) F1 ws ds ∧ (∀ d ∈ ds, d.keyed = true) ∧ ds.length ≤ 1000000 ∧ AtW (gx T X) W (.ok (.ow (.lst (ds.mergeSort D.kle))) ρ1) σ ρ1 F1 H1 Q := by
    refine ⟨F, ρ, R, At.seqW q fun v a ρ1 F1 H1 go ra q1 => ?_⟩
    cases z : vD ρ1 a with
    | none => rw [z] at q1; exact False.elim q1
    | some d =>
      rw [z] at q1
      have rv := ra.rv go.rep z
      cases d with
      | lst ds =>
        have q1 : AtW (gx T X) W (Res.of (if ds.all D.keyed && decide (ds.length ≤ 1000000) then some (.ow (.lst (ds.mergeSort D.kle))) else none) ρ1) σ ρ1 F1 H1 Q := q1
        split at q1
        · rename_i hz
          simp only [Bool.and_eq_true, List.all_eq_true, decide_eq_true_eq] at hz
          obtain ⟨l, ws, rfl, h1, h2⟩ := rv.lst go.rep
          exact ⟨l, ws, ds, F1, ρ1, rfl, h1, go.rep, h2, hz.1, hz.2, q1⟩
        · exact False.elim q1
      | _ => exact False.elim q1
  have fin : ∀ (us : List Value) (s1 : Shared) (l : Addr) (ws : List V) (ds : List D) (F1 H1 : Hp) (ρ1 : List Sl), L2.Inv X pins σ H1 s1 → H1 l = some (.lst ws) → Rep (gx T X) F1 H1 σ ρ1 → Ds (gx T X) F1 ws ds → (∀ d ∈ ds, d.keyed = true) → ds.length ≤ 1000000 → AtW (gx T X) W (.ok (.ow (.lst (ds.mergeSort D.kle))) ρ1) σ ρ1 F1 H1 Q →
      wpAny (model X.prog X.w) X.A (eval (.Lambda params (DLq.keyBody x p1 p2 p3 p4 p5 p6 p7 j1 j2 kt) scope lpos) X.env) (fun v s2 => wpAny (model X.prog X.w) X.A (call (.builtin "sorted") [.ref l] [(Str.ofString "key", v)]) (EP X pins σ Q) X.xe s2) X.xe s1 := by
    intro us s1 l ws ds F1 H1 ρ1 I1 hl R1 dd hk hz q1
    refine lam_makeD I1 TB hcode hmT hu R1.tb.1 hdef (fun y hy z => absurd z (L.free y hy)) fun fa c' pm ctv H2 s2 I2 eN th T2 _ hf hfn _ hc' _ => ?_
    have s12 : Same F1 H2 := fun a o h => eN a o (R1.fr a o h) fun ps z => R1.tb.2 a ps (by rw [h, z])
    have go2 : Go (gx T X) σ ρ1 F1 H1 σ ρ1 F1 H2 := Go.growT R1 (Same.refl _) (fun a o h t => eN a o h t) th s12 (fun _ _ => rfl) ⟨T2, R1.tb.2⟩
    refine sortK_raw I2 hr (eN _ _ hl (fun ps z => nomatch z)) s12 dd hk hz hf hc' (fun v => hbind _ _ _ _ _ v) L.kind L.co L.gen L.cell L.par hd fun pa wz nP dz => ?_
    exact q1 pa F1 _ (go2.trans (Go.allocO go2.rep nP _)) (s12.free nP) ⟨wz, upd_same, dz⟩ (go2.rep.noOa nP) (go2.nn nP)
  refine wpAny_Call_Name_kw (ld_blt I hg hm (u := .builtin "sorted") (by decide +kernel) ?_)
  refine PyProof.Rows.callWith_kw (thn ((pa_cons ha pa_nil hs).run pos pins s σ H _ I key) fun us s1 ⟨vs, H1, I1, r1, l, ws, ds, F1, ρ1, e1, hl, R1, dd, hk, hz, q1⟩ => ?_) he hpl rfl rfl
  subst e1
  rw [Vals.ref1 r1]
  show wpAny _ _ (evalAll [(do let v ← eval (.Lambda params (DLq.keyBody x p1 p2 p3 p4 p5 p6 p7 j1 j2 kt) scope lpos) X.env; standAt pos; pure v)]) _ _ s1
  refine wpAny_evalAll_cons (wpAny_bind (thn (fin us s1 l ws ds F1 H1 ρ1 I1 hl R1 dd hk hz q1) fun v s2 hv => wpAny_bind (wpAny_standAt (wpAny_pure ?_))))
  exact wpAny_evalAll_nil hv
end
end DL
end
section
set_option Elab.async false
set_option linter.all false
set_option maxRecDepth 100000
set_option maxHeartbeats 2000000
/-! DLz: the end of a law row, over data. -/
namespace DL
open PySem PySem.Spec PyProof.Rows L2
theorem sem_at {g : Gx} {F H : Hp} {a : Addr} {ns : List Int} {sem : Sem'} {ρ' : List Sl} {E : XK} (fr : Same F H) (tb : TB g.T F H) (hs : SqL g.K F a (ns.map V.int)) (h : sem [.sh (.scr ns)] = .ok (.sh (.bl true)) ρ') : spD g 1 sem [.ref a] H (fun v _ => v = .bl true) E := by
  refine ⟨rfl, F, [.sh (.scr ns)], rep_args (ds := [.scr ns]) fr tb (.cons (.scr hs) .nil), ?_⟩
  rw [h]
  intro v F' H' go dd
  cases dd
  rfl
/-- what may be tracked at the law's start -/
def startH (ts : List Addr) (a : Addr) (o : Option HO) : Hp := fun b => if b ∈ ts then some (.tbl #[]) else if b = a then o else none
section
variable {ts : List Addr} {a b : Addr} {o : Option HO}
theorem sH_ts (h : b ∈ ts) : startH ts a o b = some (.tbl #[]) := if_pos h
theorem sH_a (h : a ∉ ts) : startH ts a o a = o := by unfold startH; rw [if_neg h, if_pos rfl]
theorem sH_ne (h : b ∉ ts) (n : b ≠ a) : startH ts a o b = none := by unfold startH; rw [if_neg h, if_neg n]
theorem sH_inv {u : HO} (e : startH ts a o b = some u) : (b ∈ ts ∧ u = .tbl #[]) ∨ (b ∉ ts ∧ b = a ∧ o = some u) := by
  unfold startH at e
  split at e
  · rename_i h
    cases e
    exact .inl ⟨h, rfl⟩
  · rename_i h
    split at e
    · rename_i h2
      exact .inr ⟨h, h2, e⟩
    · cases e
end
theorem law_callG {T : Tbs} {P : Program} {w : World} {K : PySem.W.Frag} {mg mb : Str → Option Value} {k : Nat} {fa a : Addr} {cs : List (Addr × Addr)} {fd : FuncData} {x : Str} {sem : Sem'} {s₁ : Shared} {vs : List Value} {ns : List Int}
    (KX : K.In s₁.heap) (hns : s₁.heap.Ns mainGlobals mg) (hb : s₁.heap.Ns builtinsNs mb) (hbb : ∀ x : Str, x ≠ "__name__" → mb x = bootBuiltins x) (hlim : s₁.heap.NoLimit) (hg : s₁.gens = #[])
    (hT : ∀ p ∈ cs, s₁.heap.get? p.2 = some { cls := .none, data := .fields #[] }) (nT : ∀ p ∈ cs, K.lookup p.2 = none) (C : ∀ p ∈ cs, PySem.W.CodeHd s₁.heap p.1 p.2) (hTc : ∀ p ∈ T, p.1 ∈ cs.map (·.2))
    (hbm : ∃ (bm : Addr) (ob : Obj), mg "__builtins__" = some (.ref bm) ∧ bm ≠ builtinsNs ∧ s₁.heap.get? bm = some ob ∧ ob.cls = .type "module" ∧ ob.dict = some builtinsNs ∧ ob.data = .plain)
    (ha : s₁.heap.get? a = some { cls := .type "list", data := .seq vs.toArray }) (hi : IntsAre vs ns) (hl : ns.length ≤ sizeLine) (hr : Room k callerA)
    (F : ∀ base : Heap, K.In base → base.Ns mainGlobals mg → (∀ p ∈ cs, LamX.TabB base mg p.1 p.2) → FnD T P w K mg base k fa fd [x] sem) (hbind : ∀ (s : Shared) (u : Value), BindsTo s fd ⟨[u], []⟩ [(x, u)])
    (hsem : ∃ ρ', sem [.sh (.scr ns)] = .ok (.sh (.bl true)) ρ') :
    codeAny (model P w) callerA (.call (.ref fa) ⟨[.ref a], []⟩) (fun r s' => r = .ok (.ret (.bool true)) ∧ OldK s₁.heap s'.heap ∧ s'.os = s₁.os ∧ AllBare s'.gens) s₁ := by
  obtain ⟨ρ', hsem⟩ := hsem
  have rv := vals_ints hi
  have lenV := hi.length
  have isT : ∀ b : Addr, b ∈ cs.map (·.2) → s₁.heap.get? b = some { cls := .none, data := .fields #[] } := fun b hb => by
    obtain ⟨p, hp, e⟩ := List.mem_map.mp hb
    rw [← e]
    exact hT p hp
  have aT : a ∉ cs.map (·.2) := fun z => by
    have q := isT a z
    rw [ha] at q
    have z' : Data.seq vs.toArray _ = Data.fields #[] := congrArg Obj.data (Option.some.inj q)
    cases z'
  have memT : ∀ p ∈ cs, p.2 ∈ cs.map (·.2) := fun p hp => List.mem_map.mpr ⟨p, hp, rfl⟩
  -- the script: frozen, or in the written part
  obtain ⟨o, hoS, hoK, hoF⟩ : ∃ o : Option HO, (∀ H : Hp, H a = o → SqL K H a (ns.map V.int)) ∧ (o ≠ none → K.lookup a = none) ∧ (∀ u, o = some u → u = .frz { cls := .type "list", data := .seq vs.toArray } (.lst (ns.map V.int))) := by
    cases hk : K.lookup a with
    | some o =>
      have e := KX a o hk
      rw [ha] at e
      cases e
      exact ⟨none, fun H _ => .inr ⟨_, vs.toArray, _, hk, rfl, rfl, rfl, by rw [List.size_toArray, lenV]; exact hl, by simpa using rv⟩, fun z => absurd rfl z, fun u z => by cases z⟩
    | none => exact ⟨some (.frz { cls := .type "list", data := .seq vs.toArray } (.lst (ns.map V.int))), fun H e => .inl (.inr ⟨_, e⟩), fun _ => rfl, fun u z => (Option.some.inj z).symm⟩
  generalize hHd : startH (cs.map (·.2)) a o = H
  have hH : ∀ p ∈ cs, H p.2 = some (.tbl #[]) := fun p hp => by rw [← hHd]; exact sH_ts (memT p hp)
  have hHa : H a = o := by rw [← hHd]; exact sH_a aT
  have hOnly : ∀ b, H b ≠ none → b = a ∨ b ∈ cs.map (·.2) := fun b z => by
    cases q : H b with
    | none => exact absurd q z
    | some u =>
      rw [← hHd] at q
      rcases sH_inv q with ⟨h1, _⟩ | ⟨_, h2, _⟩
      · exact .inr h1
      · exact .inl h2
  have hok : HOk P w H s₁.heap := fun b u e => by
    rw [← hHd] at e
    rcases sH_inv e with ⟨h1, rfl⟩ | ⟨_, rfl, h3⟩
    · exact isT b h1
    · rw [hoF u h3]
      exact ⟨ha, by rw [List.length_map]; exact hl, vs, _, rv, ha⟩
  have noD : ∀ {b : Addr} {ob : Obj}, s₁.heap.get? b = some ob → (∀ vs n, ob.data ≠ .seq vs n) → ob.data ≠ .fields #[] → H b = none := fun {b ob} e h1 h2 => by
    cases q : H b with
    | none => rfl
    | some u =>
      rcases hOnly b (by rw [q]; exact (fun z => nomatch z)) with z | z
      · rw [z, ha] at e
        cases e
        exact (h1 _ _ rfl).elim
      · rw [isT b z] at e
        cases e
        exact (h2 rfl).elim
  have base_of : ∀ {b : Addr} {ob : Obj}, s₁.heap.get? b = some ob → H b = none → (hidT s₁.heap H).get? b = some ob := fun e n => hidT_get e n
  have nsK : ∀ {b : Addr} {m : Str → Option Value}, s₁.heap.Ns b m → (hidT s₁.heap H).Ns b m := fun {b m} ⟨ob, es, ep, e, d, r⟩ =>
    ⟨ob, es, ep, base_of e (noD e (fun vs n z => by rw [d] at z; cases z) fun z => by rw [d] at z; cases z), d, r⟩
  have hKb : K.In (hidT s₁.heap H) := fun b ob e => base_of (KX b ob e) (by
    cases q : H b with
    | none => rfl
    | some u =>
      rcases hOnly b (by rw [q]; exact (fun z => nomatch z)) with z | z
      · rw [z] at e q
        rw [hoK (by rw [← hHa, q]; exact (fun z => nomatch z))] at e
        cases e
      · obtain ⟨p, hp, ep⟩ := List.mem_map.mp z
        rw [← ep, nT p hp] at e
        cases e)
  have hM : L2.Mod K mg (hidT s₁.heap H) := ⟨hKb, nsK hns, ⟨mb, nsK hb, hbb⟩, let ⟨mc, h1, h2⟩ := hlim; ⟨mc, nsK h1, h2⟩⟩
  have TBs : ∀ p ∈ cs, LamX.TabB (hidT s₁.heap H) mg p.1 p.2 := fun p hp => by
    have hTp := hT p hp
    refine ⟨?_, ?_, fun z => ?_⟩
    · obtain ⟨oc, us, file, tf, flags, tg, inF, text, tt, e1, r1, r2, r3, r⟩ := C p hp
      refine ⟨oc, us, file, tf, flags, tg, inF, text, tt, base_of e1 (noD e1 (fun vs n z => ?_) fun z => ?_), r1, r2, r3, r⟩
      · rw [r2] at z; cases z
      · rw [r2] at z
        cases z
        simp at r3
    · obtain ⟨bm, ob, b1, b2, b3, b4, b5, b6⟩ := hbm
      have nG : bm ≠ mainGlobals := fun q => by
        obtain ⟨og, es, ep, e, hd, _⟩ := hns
        rw [q, e] at b3
        cases b3
        rw [hd] at b6
        cases b6
      have nP : bm ≠ p.2 := fun q => by
        rw [q, hTp] at b3
        cases b3
        cases b6
      refine ⟨bm, ob, b1, b2, nG, nP, base_of b3 (noD b3 (fun vs n z => ?_) fun z => ?_), b4, b5, b6⟩
      · rw [b6] at z; cases z
      · rw [b6] at z; cases z
    · obtain ⟨og, es, ep, e, hd, _⟩ := hns
      rw [z, hTp] at e
      cases e
      cases hd
  have e0 : Env0 P w K mg (hidT s₁.heap H) callerA [] s₁ H := ⟨rfl, hM, fun b ob e => of_hidT e, Nat.le_of_eq (hidT_size _ _), trivial, fun b hb => absurd (show b ∈ ([] : List Addr) from hb) (by simp), hok, .of_eq hg⟩
  have spd : spD ⟨K, mg, T⟩ 1 sem [.ref a] H (fun v _ => v = .bl true) fun _ _ _ => False := by
    refine sem_at (F := startH [] a o) (fun b u e => ?_) ⟨fun p hp => ?_, fun b ps e => ?_⟩ (hoS _ (sH_a (by simp))) hsem
    · rcases sH_inv e with ⟨h1, _⟩ | ⟨_, rfl, h3⟩
      · cases h1
      · rw [hHa]; exact h3
    · obtain ⟨q, hq, e⟩ := List.mem_map.mp (hTc p hp)
      exact LamX.TabS.nil (by rw [← e]; exact hH q hq)
    · rcases sH_inv e with ⟨h1, _⟩ | ⟨_, _, h3⟩
      · cases h1
      · cases hoF _ h3
  refine codeAny_mono ((F _ hKb (nsK hns) TBs).run callerA [] s₁ H ⟨[.ref a], []⟩ [.ref a] [.ref a] _ _ rfl hr e0 (hbind s₁ (.ref a)) (.cons rfl .nil) spd) fun r s' h => ?_
  cases r with
  | error e =>
    obtain ⟨_, _, _, _, _, _, _, _, _, _, _, _, z⟩ := (show L2.CX P w [] H s₁ _ e s' from h)
    exact z.elim
  | ok fl =>
    cases fl with
    | next => exact False.elim h
    | brk => exact False.elim h
    | cont => exact False.elim h
    | ret u =>
      obtain ⟨v, H', os, bare, un, hok', r', q⟩ := h
      have q' : v = .bl true := q
      subst q'
      obtain rfl : u = Value.bool true := r'
      have grown : ∀ p ∈ cs, ∃ more : Array Value, s'.heap.get? p.2 = some { cls := .none, data := .fields more } := fun p hp => by
        obtain ⟨more, z⟩ := un.tbls p.2 #[] (hH p hp)
        exact ⟨_, hok' p.2 _ z⟩
      have key : ∀ b ob, b ∉ cs.map (·.2) → s₁.heap.get? b = some ob → s'.heap.get? b = some ob := fun b ob nb e => by
        cases q : H b with
        | none => exact un.keep b ob e q (by intro z; exact absurd (show b ∈ ([] : List Addr) from z) (by simp)) (by simp)
        | some u =>
          rcases hOnly b (by rw [q]; exact (fun z => nomatch z)) with z | z
          · subst z
            have eu := hoF u (by rw [← hHa]; exact q)
            rw [eu] at q
            obtain ⟨e1, _⟩ := hok b _ q
            obtain ⟨e2, _⟩ := hok' b _ (un.frzs b _ _ q)
            rw [e] at e1
            cases e1
            exact e2
          · exact absurd z nb
      refine ⟨rfl, ⟨fun b ob e => ?_, fun b ob e => ?_⟩, os, bare⟩
      · by_cases hb : b ∈ cs.map (·.2)
        · obtain ⟨p, hp, ep⟩ := List.mem_map.mp hb
          obtain ⟨more, hm⟩ := grown p hp
          rw [← ep] at e ⊢
          rw [hT p hp] at e
          cases e
          exact .inr (.inl ⟨((C p hp).tab (hT p hp)).isCodeTable, rfl, #[], more, rfl, by rw [Array.empty_append]; exact hm⟩)
        · exact .inl (key b ob hb e)
      · by_cases hb : b ∈ cs.map (·.2)
        · obtain ⟨p, hp, ep⟩ := List.mem_map.mp hb
          obtain ⟨more, hm⟩ := grown p hp
          rw [← ep]
          exact ⟨_, hm⟩
        · exact ⟨ob, key b ob hb e⟩
/-- the table of a def of the module's top is empty at the law's start -/
def TabsOk (K : PySem.W.Frag) (q : Program) (h : Heap) : Prop := ∀ (x : Str) (c P : Addr), ((recsOf q).any fun e => e.name == x) = true → PySem.W.tabIn K x = some (c, P) → PySem.W.CodeHd h c P ∧ h.get? P = some { cls := .none, data := .fields #[] }
/-- what is known of the law at the head's heap h -/
def LawG (l : PySem.W.OpenLaw) (w : World) (K : PySem.W.Frag) (k n : Nat) (x : Str) (mg : Str → Option Value) (fa : Addr) (h : Heap) : Prop :=
  ∃ (fd : FuncData) (cs : List (Addr × Addr)) (T : Tbs) (sem : Sem'), (∀ p ∈ cs, h.get? p.2 = some { cls := .none, data := .fields #[] }) ∧ (∀ p ∈ cs, K.lookup p.2 = none) ∧ (∀ p ∈ cs, PySem.W.CodeHd h p.1 p.2) ∧ (∀ p ∈ T, p.1 ∈ cs.map (·.2)) ∧ (∀ (s : Shared) (u : Value), BindsTo s fd ⟨[u], []⟩ [(x, u)]) ∧
    (∀ ns : List Int, ns.length ≤ n → (∀ z ∈ ns, Builtin.Int.intBits z ≤ 1048576) → ∃ ρ', sem [.sh (.scr ns)] = .ok (.sh (.bl true)) ρ') ∧
    ∀ base : Heap, K.In base → base.Ns mainGlobals mg → (∀ p ∈ cs, LamX.TabB base mg p.1 p.2) → FnD T l.prog w K mg base k fa fd [x] sem
theorem walk_G {l : PySem.W.OpenLaw} {n k : Nat} {q : Program} {loose : List Str} {XP : (Str → Option Value) → Heap → Prop} {YP : World → Heap → Prop} {d : DefRec} {K : Params → PySem.W.Frag} {x : Str}
    (hn : l.most = some n) (hn2 : n ≤ sizeLine) (hdf : d.params.defaults = []) (hr : Room k callerA) (hY : ∀ (w : World) (h : Heap), YP w h → (K w.params).In h)
    (F : ∀ (w : World) (mg : Str → Option Value) (fa : Addr) (h : Heap), YP w h → (K w.params).In h → h.Ns mainGlobals mg → mg d.name = some (.ref fa) → TabsOk (K w.params) q h → LawG l w (K w.params) k n x mg fa h) :
    PySem.W.WalkO q loose XP YP l.row.toRowW d [] (fun f vs => PySem.call f vs) := by
  refine Att.attach_callB hn hdf fun w s₀ s₁ mg mb fa o pm cd doc a vs ns G Y ho hd hcd hmg hobj hints hlen hbits hg => ?_
  have KX := hY w _ Y
  obtain ⟨fd, cs, T, sem, hT, nT, C, hTc, hb, hsem, hF⟩ := F w mg fa _ Y KX G.T.g hmg fun x c P hx ht => by
    obtain ⟨e, he, hn⟩ := List.any_eq_true.mp hx
    have hx2 : ((recsOf q).find? fun e => e.name == x).isSome = true := List.find?_isSome.mpr ⟨e, he, hn⟩
    obtain ⟨e2, he2⟩ := Option.isSome_iff_exists.mp hx2
    exact PySem.W.tab_of G.T KX he2 ht
  exact law_callG KX G.T.g G.T.b G.T.builtins G.T.nolimit hg hT nT C hTc G.T.bmain hobj hints (Nat.le_trans hlen hn2) hr hF hb (hsem ns hlen hbits)
end DL
end
section
set_option Elab.async false
set_option linter.all false
set_option maxRecDepth 100000
/-! DLy: defs by name, for generated texts. -/
namespace DL
open PySem PySem.Spec L2
/-- the def of the name x, its text st -/
def Has (K : PySem.W.Frag) (mg : Str → Option Value) (x : Str) (st : Stmt) : Prop := ∃ f fd, mg x = some (.ref f) ∧ Fun K x x st f fd
/-- .. and what it does -/
def Cal (T : Tbs) (P : Program) (w : World) (K : PySem.W.Frag) (mg : Str → Option Value) (base : Heap) (k : Nat) (x : Str) (st : Stmt) (ps : List Str) (sem : Sem') : Prop := ∃ f fd, mg x = some (.ref f) ∧ Fun K x x st f fd ∧ FnD T P w K mg base k f fd ps sem
/-- how all its parameters are given by place -/
def ByPlace (st : Stmt) (x : Str) (ps : List Str) : Prop := ∀ (kV doc pm : Value) (an : Option Addr) (cdv ct : Value) (us : List Value), us.length = ps.length → bindArgs (PySem.W.fnOf x x (defArgs st) (defBody st) (defScope st) .none kV doc pm an cdv ct) ⟨us, []⟩ = pure (ps.zip us)
/-- .. and by name -/
def ByName (st : Stmt) (x : Str) (ps ks : List Str) (perm : List Nat) : Prop := ∀ (kV doc pm : Value) (an : Option Addr) (cdv ct : Value) (ws : List Value), ws.length = ks.length → bindArgs (PySem.W.fnOf x x (defArgs st) (defBody st) (defScope st) .none kV doc pm an cdv ct) ⟨[], ks.zip ws⟩ = pure (ps.zip (permL perm ws))
section
variable {T : Tbs} {X : Cx} {W : WX} {k : Nat} {st : Stmt} {ps ks : List Str} {perm : List Nat} {sem : Sem'} {x : Str} {p pos : Pos} {e : Expr} {es : List Expr} {fa fk : GA} {kws : List Keyword}
theorem dw_callC (C : Cal T X.prog X.w X.K X.mg X.base k x st ps sem) (hb : ByPlace st x ps) (tk : Takes X W) (hgd : X.A.guards = some []) (hr : Room k X.A) (hg : Gl X x) (ha : DA T X W (e :: es) fa)
    (hdb : (x == ("__debug__" : Str)) = false := by decide) (he : starEach (e :: es) X.env = (false, eval e X.env) :: starEach es X.env := by rfl) (hpl : (backTo pos (starEach es X.env)).any (·.1) = false := by rfl) :
    DW T X W (.Call (.Name x p) (e :: es) [] pos) (gF ps.length sem fa) := by
  obtain ⟨f, fd, hm, F, D⟩ := C
  exact dw_call D tk hgd hr hg hm F.kp (F.binds hb) ha hdb he hpl
theorem dw_callMC (C : Cal T X.prog X.w X.K X.mg X.base k x st ps sem) (hb : ByPlace st x ps) (tk : Takes X W) (hgd : X.A.guards = some []) (hr : Room k X.A) (hg : Gl X x) (ha : DA T X W (e :: es) fa)
    (hdb : (x == ("__debug__" : Str)) = false := by decide) (he : starEach (e :: es) X.env = (false, eval e X.env) :: starEach es X.env := by rfl) (hpl : (backTo pos (starEach es X.env)).any (·.1) = false := by rfl) :
    DW T X W (.Call (.Name x p) (e :: es) [] pos) (gFM ps.length sem fa) := by
  obtain ⟨f, fd, hm, F, D⟩ := C
  exact dw_callM D tk hgd hr hg hm F.kp (F.binds hb) ha hdb he hpl
theorem dw_callKC (C : Cal T X.prog X.w X.K X.mg X.base k x st ps sem) (hb : ByName st x ps ks perm) (hp : perm.length = ks.length) (tk : Takes X W) (hgd : X.A.guards = some []) (hr : Room k X.A) (hg : Gl X x) (hkw : DK T X W kws fk)
    (hall : (backToKw pos (keywordEach kws X.env)).all (·.1.isSome) = true := by rfl) (hks : (backToKw pos (keywordEach kws X.env)).filterMap (·.1) = ks := by rfl) (hdb : (x == ("__debug__" : Str)) = false := by decide)
    (hpl : ((backTo pos (starEach [] X.env)).any (·.1) || (backToKw pos (keywordEach kws X.env)).any (·.1.isNone)) = false := by rfl) :
    DW T X W (.Call (.Name x p) [] kws pos) (gFK ps.length perm sem fk) := by
  obtain ⟨f, fd, hm, F, D⟩ := C
  refine dw_callK D tk hgd hr hg hm F.kp (fun s ws hl => ?_) hp hkw hall hks hdb hpl
  obtain ⟨oc, od, kV, doc, pm, an, cdv, ct, osl, rfl, lk, hcd⟩ := F.ex
  exact .of_eq (hb kV doc pm an cdv ct ws hl)
end
theorem cal_of {T : Tbs} {P : Program} {w : World} {K : PySem.W.Frag} {mg : Str → Option Value} {base : Heap} {k : Nat} {x : Str} {st : Stmt} {N ps : List Str} {body : GS} {sem : Sem'} (h : Has K mg x st) (S : FnScope N ps (defScope st)) (hs : sem = fnS (N.length - ps.length) body)
    (hb : ∀ (f : Addr) (fd : FuncData) (cdv : Value) (A : Around) (outer : List Env) (s : Shared) (H : Hp) (E : XK), mg x = some (.ref f) → Fun K x x st f fd → fd.code = cdv → A.guards = some [] → Room k (A.deeper (PyProof.Rows.envOfC x (defScope st) s.heap.objs.size f cdv)) →
      DB T (cxOf (L2.CX P w) P w K mg base N x (defScope st) f cdv A outer s H E) (fun c d _ H => E c d H) (defBody st) body) : Cal T P w K mg base (k + 1) x st ps sem := by
  subst hs
  obtain ⟨f, fd, hm, F⟩ := h
  exact ⟨f, fd, hm, F, fnD_of F S fun cdv A outer s H E hcd hgd hr => hb f fd cdv A outer s H E hm F hcd hgd hr⟩
end DL
end
section
set_option Elab.async false
set_option linter.all false
set_option maxRecDepth 100000
/-! DLx: the mirrors, applied, as equations. -/
namespace DL
open PySem PySem.Spec L2
theorem gFr_e (f : GW) (ρ : List Sl) : DL.gFr f ρ = (f ρ).bind fun r ρ1 => .ok r.d ρ1 := rfl
theorem gVd_e (f : GW) (ρ : List Sl) : DL.gVd f ρ = (f ρ).bind fun r ρ1 => .ok (.vd r.d) ρ1 := rfl
theorem gSh_e (f : GE) (ρ : List Sl) : DL.gSh f ρ = (f ρ).bind fun r ρ1 => .ok (.sh r) ρ1 := rfl
theorem gVsR_e (i : Nat) (ρ : List Sl) : DL.gVsR i ρ = match ρ[i]? with
  | some (.sh _) => .ok (.vs i) ρ
  | some (.ow _) => .ok (.vs i) ρ
  | some (.mu _) => .ok (.vs i) ρ
  | _ => .no := rfl
theorem gN_e (i : Nat) (ρ : List Sl) : DL.gN i ρ = match ρ[i]? with
  | some (.sh d) => .ok (.sh d) ρ
  | _ => .no := rfl
theorem gTk_e (i : Nat) (ρ : List Sl) : DL.gTk i ρ = match ρ[i]? with
  | some (.ow d) => .ok (.sh d) (ρ.set i (.sh d))
  | some (.sh d) => .ok (.sh d) ρ
  | _ => .no := rfl
theorem gC_e (d : D) (ρ : List Sl) : DL.gC d ρ = .ok (.sh d) ρ := rfl
theorem gOp_e (φ : D → D → Option Rs) (fa fb : GV) (ρ : List Sl) : DL.gOp φ fa fb ρ = (fa ρ).bind fun a ρ1 => (fb ρ1).bind fun b ρ2 => op2 φ ρ2 a b := rfl
theorem gNil_e  (ρ : List Sl) : DL.gNil  ρ = .ok [] ρ := rfl
theorem gCons_e (f : GV) (r : GA) (ρ : List Sl) : DL.gCons f r ρ = (f ρ).bind fun a ρ1 => (r ρ1).bind fun as ρ2 => .ok (a :: as) ρ2 := rfl
theorem gTup_e (f : GA) (ρ : List Sl) : DL.gTup f ρ = (f ρ).bind fun as ρ1 => match frDs ρ1 as with
  | some ds => if ds.length ≤ 1000000 then .ok (.sh (.tup ds)) ρ1 else .no
  | none => .no := rfl
theorem gLst_e (f : GA) (ρ : List Sl) : DL.gLst f ρ = (f ρ).bind fun as ρ1 => match frDs ρ1 as with
  | some ds => if ds.length ≤ 1000000 then .ok (.ow (.lst ds)) ρ1 else .no
  | none => .no := rfl
theorem gP0_e  (ρ : List Sl) : DL.gP0  ρ = .ok none ρ := rfl
theorem gP1_e (f : GV) (ρ : List Sl) : DL.gP1 f ρ = (f ρ).bind fun a ρ1 => match vD ρ1 a with
  | some (.int i) => .ok (some i) ρ1
  | _ => .no := rfl
theorem gSl_e (fe : GV) (fl fh : List Sl → Res (Option Int)) (ρ : List Sl) : DL.gSl fe fl fh ρ = (fe ρ).bind fun a ρ1 => (fl ρ1).bind fun lo ρ2 => (fh ρ2).bind fun hi ρ3 => match vD ρ3 a with
  | some d => Res.of (fSl d lo hi) ρ3
  | none => .no := rfl
theorem gB_e (f : GW) (ρ : List Sl) : DL.gB f ρ = (f ρ).bind fun r ρ1 => match r.d with
  | .bl b => .ok b ρ1
  | _ => .no := rfl
theorem gNot_e (f : GB) (ρ : List Sl) : DL.gNot f ρ = (f ρ).bind fun b ρ1 => .ok (!b) ρ1 := rfl
theorem gAnd_e (f h : GB) (ρ : List Sl) : DL.gAnd f h ρ = (f ρ).bind fun b ρ1 => if b = true then h ρ1 else .ok false ρ1 := rfl
theorem gOr_e (f h : GB) (ρ : List Sl) : DL.gOr f h ρ = (f ρ).bind fun b ρ1 => if b = true then .ok true ρ1 else h ρ1 := rfl
theorem gNotV_e (f : GW) (ρ : List Sl) : DL.gNotV f ρ = (f ρ).bind fun r ρ1 => match r.d with
  | .bl b => .ok (.sh (.bl (!b))) ρ1
  | _ => .no := rfl
theorem gAndV_e (f h : GW) (ρ : List Sl) : DL.gAndV f h ρ = (f ρ).bind fun r ρ1 => match r.d with
  | .bl true => h ρ1
  | .bl false => .ok (.sh (.bl false)) ρ1
  | _ => .no := rfl
theorem gOrV_e (f h : GW) (ρ : List Sl) : DL.gOrV f h ρ = (f ρ).bind fun r ρ1 => match r.d with
  | .bl true => .ok (.sh (.bl true)) ρ1
  | .bl false => h ρ1
  | _ => .no := rfl
theorem gIf_e (t : GB) (f h : GW) (ρ : List Sl) : DL.gIf t f h ρ = (t ρ).bind fun b ρ1 => if b = true then f ρ1 else h ρ1 := rfl
theorem gTru_e (f : GV) (ρ : List Sl) : DL.gTru f ρ = (f ρ).bind fun a ρ1 => match vD ρ1 a with
  | some d => Res.of d.tru ρ1
  | none => .no := rfl
theorem gCall_e (φ : List D → Option Rs) (fa : GA) (ρ : List Sl) : DL.gCall φ fa ρ = (fa ρ).bind fun as ρ1 => match vDs ρ1 as with
  | some ds => Res.of (φ ds) ρ1
  | none => .no := rfl
theorem hN_e (i : Nat) (d : D) (ρ : List Sl) : DL.hN i d ρ = match ρ[i]? with
  | some (.mu _) => none
  | some _ => some (ρ.set i (.sh d))
  | none => none := rfl
theorem hNil_e  (ds : List D) (ρ : List Sl) : DL.hNil  ds ρ = match ds with
  | [] => some ρ
  | _ => none := rfl
theorem hCons_e (h : HT1) (k : List D → List Sl → Option (List Sl)) (ds : List D) (ρ : List Sl) : DL.hCons h k ds ρ = match ds with
  | d :: r => (h d ρ).bind (k r)
  | [] => none := rfl
theorem hT_e (n : Nat) (k : List D → List Sl → Option (List Sl)) (d : D) (ρ : List Sl) : DL.hT n k d ρ = match d.items with
  | some ds => if ds.length = n then k ds ρ else none
  | none => none := rfl
theorem gIt_e (f : GW) (ρ : List Sl) : DL.gIt f ρ = (f ρ).bind fun r ρ1 => Res.of r.d.items ρ1 := rfl
theorem gR1_e (f : GA) (ρ : List Sl) : DL.gR1 f ρ = (f ρ).bind fun as ρ1 => match (vDs ρ1 as).bind ints1 with
  | some j => if -4611686018427387904 ≤ j ∧ j < 4611686018427387904 then .ok (rgD 0 j.toNat) ρ1 else .no
  | none => .no := rfl
theorem gR2_e (f : GA) (ρ : List Sl) : DL.gR2 f ρ = (f ρ).bind fun as ρ1 => match (vDs ρ1 as).bind ints2 with
  | some (i, j) => if (-4611686018427387904 ≤ i ∧ i < 4611686018427387904) ∧ -4611686018427387904 ≤ j ∧ j < 4611686018427387904 then .ok (rgD i (j - i).toNat) ρ1 else .no
  | none => .no := rfl
theorem gYes_e  (ρ : List Sl) : DL.gYes  ρ = .ok true ρ := rfl
theorem gLc_e (vs : List Nat) (fi : GI) (h : HT1) (ft : GB) (fe : GE) (ρ : List Sl) : DL.gLc vs fi h ft fe ρ = (fi ρ).bind fun items ρ1 => if items.length ≤ 1000000 then match lcL vs h ft fe items (wipeS ρ1 vs) with
    | .ok ds ρe => .ok (.ow (.lst ds)) (unw ρ1 ρe vs)
    | _ => .no
  else .no := rfl
theorem gLc2_e (vs vs1 : List Nat) (fi : GI) (h : HT1) (ft : GB) (fi1 : GI) (h1 : HT1) (ft1 : GB) (fe : GE) (ρ : List Sl) : DL.gLc2 vs vs1 fi h ft fi1 h1 ft1 fe ρ = (fi ρ).bind fun items ρ1 => match lcO vs vs1 h ft fi1 h1 ft1 fe items (wipeS ρ1 vs) with
  | .ok ds ρe => if ds.length ≤ 1000000 then .ok (.ow (.lst ds)) (unw ρ1 ρe vs) else .no
  | _ => .no := rfl
theorem gSeq_e (f h : GS) (ρ : List Sl) : DL.gSeq f h ρ = match f ρ with
  | .nx ρ1 => h ρ1
  | o => o := rfl
theorem gNx_e  (ρ : List Sl) : DL.gNx  ρ = .nx ρ := rfl
theorem gBk_e  (ρ : List Sl) : DL.gBk  ρ = .bk ρ := rfl
theorem gCt_e  (ρ : List Sl) : DL.gCt  ρ = .ct ρ := rfl
theorem gNo_e  (ρ : List Sl) : DL.gNo  ρ = .no := rfl
theorem gSet_e (i : Nat) (f : GW) (ρ : List Sl) : DL.gSet i f ρ = (f ρ).bindS fun r ρ1 => stO ρ1 i r := rfl
theorem gRet_e (f : GW) (ρ : List Sl) : DL.gRet f ρ = (f ρ).bindS fun r ρ1 => .rt r ρ1 := rfl
theorem gRetN_e  (ρ : List Sl) : DL.gRetN  ρ = .rt (.sh .non) ρ := rfl
theorem gIfS_e (t : GB) (f h : GS) (ρ : List Sl) : DL.gIfS t f h ρ = (t ρ).bindS fun b ρ1 => if b = true then f ρ1 else h ρ1 := rfl
theorem gDrop_e (f : GW) (ρ : List Sl) : DL.gDrop f ρ = (f ρ).bindS fun _ ρ1 => .nx ρ1 := rfl
theorem gAsg_e (f : GE) (h : HT1) (ρ : List Sl) : DL.gAsg f h ρ = (f ρ).bindS fun d ρ1 => match h d ρ1 with
  | some ρ2 => .nx ρ2
  | none => .no := rfl
theorem gFor_e (fi : GI) (h : HT1) (body : GS) (ρ : List Sl) : DL.gFor fi h body ρ = (fi ρ).bindS fun items ρ1 => forL h body items ρ1 := rfl
theorem fnS_e (m : Nat) (body : GS) (ρ : List Sl) : DL.fnS m body ρ = match body (ρ ++ List.replicate m .no) with
  | .rt r ρ1 => .ok r (bks ρ ρ1)
  | .nx ρ1 => .ok (.sh .non) (bks ρ ρ1)
  | .ex x ρ1 => .ex x (bks ρ ρ1)
  | _ => .no := rfl
theorem gF_e (n : Nat) (sem : Sem') (fa : GA) (ρ : List Sl) : DL.gF n sem fa ρ = (fa ρ).bind fun as ρ1 => plainS n sem as ρ1 := rfl
theorem gFM_e (n : Nat) (sem : Sem') (fa : GA) (ρ : List Sl) : DL.gFM n sem fa ρ = (fa ρ).bind fun as ρ1 => mutS n sem as ρ1 := rfl
theorem gFK_e (n : Nat) (perm : List Nat) (sem : Sem') (fa : GA) (ρ : List Sl) : DL.gFK n perm sem fa ρ = (fa ρ).bind fun as ρ1 => if as.length = perm.length ∧ perm.all (fun j => decide (j < as.length)) = true then plainS n sem (permL perm as) ρ1 else .no := rfl
theorem gApp_e (i : Nat) (f : GE) (ρ : List Sl) : DL.gApp i f ρ = (f ρ).bindS fun d ρ1 => appS i d ρ1 := rfl
theorem gExt_e (i : Nat) (f : GV) (ρ : List Sl) : DL.gExt i f ρ = (f ρ).bindS fun a ρ1 => extS i a ρ1 := rfl
theorem gISet_e (i : Nat) (f : GE) (h : GV) (ρ : List Sl) : DL.gISet i f h ρ = (f ρ).bindS fun d ρ1 => if isOl ρ1 i = true then (h ρ1).bindS fun a ρ2 => isetS i d a ρ2 else .no := rfl
theorem gAppP_e (i : Nat) (f : GE) (ρ : List Sl) : DL.gApp' i f ρ = if isOl ρ i = true then gApp i f ρ else .no := rfl
theorem gExtP_e (i : Nat) (f : GV) (ρ : List Sl) : DL.gExt' i f ρ = if isOl ρ i = true then gExt i f ρ else .no := rfl
theorem gIsi_e (φ : D → Option Bool) (f : GV) (ρ : List Sl) : DL.gIsi φ f ρ = (f ρ).bind fun a ρ1 => match vD ρ1 a with
  | some d => Res.of ((φ d).map fun b => .sh (.bl b)) ρ1
  | none => .no := rfl
theorem gZip_e (f : GA) (ρ : List Sl) : DL.gZip f ρ = (f ρ).bind fun as ρ1 => match frDs ρ1 as with
  | some ds => Res.of (fZip ds) ρ1
  | none => .no := rfl
theorem gListRev_e (f : GW) (ρ : List Sl) : DL.gListRev f ρ = (f ρ).bind fun r ρ1 => Res.of (fListRev r.d) ρ1 := rfl
theorem gSortK_e (f : GV) (ρ : List Sl) : DL.gSortK f ρ = (f ρ).bind fun a ρ1 => match vD ρ1 a with
  | some d => Res.of (fSortK d) ρ1
  | none => .no := rfl
theorem gNeg_e (f : GV) (ρ : List Sl) : DL.gNeg f ρ = (f ρ).bind fun a ρ1 => match vD ρ1 a with
  | some (.int i) => .ok (.sh (.int (-i))) ρ1
  | _ => .no := rfl
theorem gPar_e (i j : Nat) (f1 f2 : GW) (ρ : List Sl) : DL.gPar i j f1 f2 ρ = (f1 ρ).bindS fun r1 ρ1 => (f2 ρ1).bindS fun r2 ρ2 => if (noMu ρ2 i && noMu ρ2 j) && noScr r1 then .nx ((ρ2.set i r1.sl).set j r2.sl) else .no := rfl
end DL
end
section
set_option Elab.async false
set_option linter.all false
set_option maxRecDepth 100000
/-! DLv: loops and comprehensions of mirrors, in plain Lean. -/
namespace DL
open PySem
section
variable {α β : Type} {vs : List Nat} {h : HT1} {ft : GB} {fe : GE} {body : GS}
/-- a comprehension that changes nothing -/
theorem lcL_pure {enc : α → D} {ρ0 : List Sl} {p : α → Bool} {f : α → D} : ∀ {xs : List α}, (∀ x ∈ xs, ∃ ρa ρb, h (enc x) ρ0 = some ρa ∧ ft ρa = .ok (p x) ρb ∧ (p x = false → wipeS ρb vs = ρ0) ∧ (p x = true → ∃ ρc, fe ρb = .ok (f x) ρc ∧ wipeS ρc vs = ρ0)) →
    lcL vs h ft fe (xs.map enc) ρ0 = .ok ((xs.filter p).map f) ρ0
  | [], _ => rfl
  | x :: xs, H => by
    obtain ⟨ρa, ρb, h1, h2, h3, h4⟩ := H x List.mem_cons_self
    have ih := lcL_pure (xs := xs) fun y hy => H y (List.mem_cons_of_mem _ hy)
    have e0 : lcL vs h ft fe ((x :: xs).map enc) ρ0 = (match h (enc x) ρ0 with
      | none => .no
      | some ρa => match ft ρa with
        | .ok true ρb => match fe ρb with
          | .ok d ρc => match lcL vs h ft fe (xs.map enc) (wipeS ρc vs) with
            | .ok ds ρe => .ok (d :: ds) ρe
            | _ => .no
          | _ => .no
        | .ok false ρb => lcL vs h ft fe (xs.map enc) (wipeS ρb vs)
        | _ => .no) := rfl
    rw [e0, h1]
    simp only [h2]
    cases q : p x with
    | false =>
      rw [List.filter_cons_of_neg (by rw [q]; decide)]
      simp only [h3 q, ih]
    | true =>
      obtain ⟨ρc, h5, h6⟩ := h4 q
      rw [List.filter_cons_of_pos q, List.map_cons]
      simp only [h5, h6, ih]
theorem lcL_map {enc : α → D} {ρ0 : List Sl} {f : α → D} {xs : List α} (H : ∀ x ∈ xs, ∃ ρa ρb ρc, h (enc x) ρ0 = some ρa ∧ ft ρa = .ok true ρb ∧ fe ρb = .ok (f x) ρc ∧ wipeS ρc vs = ρ0) : lcL vs h ft fe (xs.map enc) ρ0 = .ok (xs.map f) ρ0 := by
  have := lcL_pure (vs := vs) (h := h) (ft := ft) (fe := fe) (enc := enc) (ρ0 := ρ0) (p := fun _ => true) (f := f) (xs := xs) fun x hx => by
    obtain ⟨ρa, ρb, ρc, a, b, c, d⟩ := H x hx
    exact ⟨ρa, ρb, a, b, fun z => (by cases z), fun _ => ⟨ρc, c, d⟩⟩
  rw [this, List.filter_eq_self.mpr fun _ _ => rfl]
/-- a comprehension whose tests and elements change the slots -/
theorem lcL_sub {enc : α → D} {R : List Sl → Prop} : ∀ {xs : List α}, (∀ x ∈ xs, ∀ ρ, R ρ → ∃ ρa ρb b, h (enc x) ρ = some ρa ∧ ft ρa = .ok b ρb ∧ (b = false → R (wipeS ρb vs)) ∧ (b = true → ∃ ρc, fe ρb = .ok (enc x) ρc ∧ R (wipeS ρc vs))) →
    ∀ {ρ : List Sl}, R ρ → ∃ (ys : List α) (ρe : List Sl), ys.Sublist xs ∧ lcL vs h ft fe (xs.map enc) ρ = .ok (ys.map enc) ρe ∧ R ρe
  | [], _, ρ, r => ⟨[], ρ, .slnil, rfl, r⟩
  | x :: xs, H, ρ, r => by
    obtain ⟨ρa, ρb, b, h1, h2, h3, h4⟩ := H x List.mem_cons_self ρ r
    have ih := fun {ρ} r => lcL_sub (xs := xs) (fun y hy => H y (List.mem_cons_of_mem _ hy)) (ρ := ρ) r
    have e0 : lcL vs h ft fe ((x :: xs).map enc) ρ = (match h (enc x) ρ with
      | none => .no
      | some ρa => match ft ρa with
        | .ok true ρb => match fe ρb with
          | .ok d ρc => match lcL vs h ft fe (xs.map enc) (wipeS ρc vs) with
            | .ok ds ρe => .ok (d :: ds) ρe
            | _ => .no
          | _ => .no
        | .ok false ρb => lcL vs h ft fe (xs.map enc) (wipeS ρb vs)
        | _ => .no) := rfl
    rw [e0, h1]
    simp only [h2]
    cases b with
    | false =>
      obtain ⟨ys, ρe, a1, a2, a3⟩ := ih (h3 rfl)
      exact ⟨ys, ρe, .cons _ a1, a2, a3⟩
    | true =>
      obtain ⟨ρc, h5, h6⟩ := h4 rfl
      obtain ⟨ys, ρe, a1, a2, a3⟩ := ih h6
      refine ⟨x :: ys, ρe, .cons_cons _ a1, ?_, a3⟩
      simp only [h5, a2, List.map_cons]
/-- .. elements drawn -/
theorem lcL_draw {R : List Sl → Prop} {P : D → Prop} (H : ∀ x ρ, R ρ → ∃ ρa ρb ρc d, h x ρ = some ρa ∧ ft ρa = .ok true ρb ∧ fe ρb = .ok d ρc ∧ P d ∧ R (wipeS ρc vs)) :
    ∀ {xs : List D} {ρ : List Sl}, R ρ → ∃ (ds : List D) (ρe : List Sl), lcL vs h ft fe xs ρ = .ok ds ρe ∧ R ρe ∧ ds.length = xs.length ∧ ∀ d ∈ ds, P d
  | [], ρ, r => ⟨[], ρ, rfl, r, rfl, fun d hd => absurd hd (by simp)⟩
  | x :: xs, ρ, r => by
    obtain ⟨ρa, ρb, ρc, d, h1, h2, h3, h4, h5⟩ := H x ρ r
    obtain ⟨ds, ρe, a1, a2, a3, a4⟩ := lcL_draw H (xs := xs) h5
    refine ⟨d :: ds, ρe, ?_, a2, by simp [a3], fun e he => ?_⟩
    · have e0 : lcL vs h ft fe (x :: xs) ρ = (match h x ρ with
        | none => .no
        | some ρa => match ft ρa with
          | .ok true ρb => match fe ρb with
            | .ok d ρc => match lcL vs h ft fe xs (wipeS ρc vs) with
              | .ok ds ρe => .ok (d :: ds) ρe
              | _ => .no
            | _ => .no
          | .ok false ρb => lcL vs h ft fe xs (wipeS ρb vs)
          | _ => .no) := rfl
      rw [e0, h1]
      simp only [h2, h3, a1]
    · rcases List.mem_cons.mp he with rfl | he
      · exact h4
      · exact a4 e he
/-- a loop by its invariant -/
theorem forL_inv {enc : α → D} {R : β → List Sl → Prop} {step : β → α → β} : ∀ {xs : List α}, (∀ b x ρ, x ∈ xs → R b ρ → ∃ ρa ρb, h (enc x) ρ = some ρa ∧ (body ρa = .nx ρb ∨ body ρa = .ct ρb) ∧ R (step b x) ρb) →
    ∀ {b : β} {ρ : List Sl}, R b ρ → ∃ ρ', forL h body (xs.map enc) ρ = .nx ρ' ∧ R (xs.foldl step b) ρ'
  | [], _, b, ρ, r => ⟨ρ, rfl, r⟩
  | x :: xs, H, b, ρ, r => by
    obtain ⟨ρa, ρb, h1, h2, h3⟩ := H b x ρ List.mem_cons_self r
    obtain ⟨ρ', a1, a2⟩ := forL_inv (xs := xs) (fun b y ρ hy => H b y ρ (List.mem_cons_of_mem _ hy)) h3
    refine ⟨ρ', ?_, a2⟩
    have e0 : forL h body ((x :: xs).map enc) ρ = (match h (enc x) ρ with
      | none => .no
      | some ρa => match body ρa with
        | .nx ρb => forL h body (xs.map enc) ρb
        | .ct ρb => forL h body (xs.map enc) ρb
        | .bk ρb => .nx ρb
        | o => o) := rfl
    rw [e0, h1]
    rcases h2 with h2 | h2 <;> simp only [h2, a1]
/-- a loop, by what is left to walk -/
theorem forL_rest {enc : α → D} {R : List α → List Sl → Prop} (H : ∀ x rest ρ, R (x :: rest) ρ → ∃ ρa ρb, h (enc x) ρ = some ρa ∧ (body ρa = .nx ρb ∨ body ρa = .ct ρb) ∧ R rest ρb) : ∀ {xs : List α} {ρ : List Sl}, R xs ρ → ∃ ρ', forL h body (xs.map enc) ρ = .nx ρ' ∧ R [] ρ'
  | [], ρ, r => ⟨ρ, rfl, r⟩
  | x :: xs, ρ, r => by
    obtain ⟨ρa, ρb, h1, h2, h3⟩ := H x xs ρ r
    obtain ⟨ρ', a1, a2⟩ := forL_rest H (xs := xs) h3
    refine ⟨ρ', ?_, a2⟩
    have e0 : forL h body ((x :: xs).map enc) ρ = (match h (enc x) ρ with
      | none => .no
      | some ρa => match body ρa with
        | .nx ρb => forL h body (xs.map enc) ρb
        | .ct ρb => forL h body (xs.map enc) ρb
        | .bk ρb => .nx ρb
        | o => o) := rfl
    rw [e0, h1]
    rcases h2 with h2 | h2 <;> simp only [h2, a1]
/-- .. without a state to tell -/
theorem forL_all {R : List Sl → Prop} {xs : List D} (H : ∀ x ρ, x ∈ xs → R ρ → ∃ ρa ρb, h x ρ = some ρa ∧ (body ρa = .nx ρb ∨ body ρa = .ct ρb) ∧ R ρb) {ρ : List Sl} (r : R ρ) : ∃ ρ', forL h body xs ρ = .nx ρ' ∧ R ρ' := by
  obtain ⟨ρ', a1, a2⟩ := forL_inv (enc := id) (R := fun (_ : Unit) ρ => R ρ) (step := fun _ _ => ()) (xs := xs) (fun _ x ρ hx hr => H x ρ hx hr) (b := ()) r
  exact ⟨ρ', by simpa using a1, a2⟩
end
end DL
end
section
set_option Elab.async false
set_option linter.all false
set_option maxRecDepth 100000
set_option maxHeartbeats 2000000
/-! DLm: own exceptions over any base, whose __init__ says super().__init__(a written text) and keeps its argument. -/
namespace DL
open PySem PySem.Spec L2 PyProof.Rows
/-- what the built-in base gives -/
structure ExB (B newId initId : String) (tl : List Value) : Prop where
  base : ExcBaseFacts B newId initId tl
  kx : PySem.W.KxsFacts B initId
  st : StoreFacts B tl "object.__setattr__" "object"
/-- what the written part says of the class at C, whose instances get the one field fld -/
structure OwnE (K : PySem.W.Frag) (C : Addr) (B newId : String) (tl : List Value) (fld : Str) : Prop where
  made : PySem.W.excInitIn K C tl newId = true
  ov : PySem.W.excOver K C tl = true
  tk : PySem.W.takerIn K C fld = some none
  hd : PySem.W.hasDictIn K C = true
  sa : PySem.W.findIn K (.ref C) "__setattr__" = some (some (.builtin "object.__setattr__"))
  sB : PySem.W.subIn K (.ref C) (.type B) = some true
  exC : PySem.W.subIn K (.ref C) (.type "BaseException") = some true
  tyC : PySem.W.typeIn K (.ref C) = some (.type "type")
  kC : PySem.W.keepIn K (.ref C) = true
section
open PySem.W
variable {prog : Program} {w : World} {A : Around} {E : Value → Shared → Prop} {hp : Heap} {gn : Array GenState} {dr : Drawn} {tt : Nat} {os : OsState} {B newId initId : String} {tl : List Value} {K : Frag} {x C t0 : Addr} {fld : Str} {v c2 : Value}
theorem set_first {Q : Unit → Shared → Prop} (XB : ExB B newId initId tl) (T : OwnE K C B newId tl fld) (X : K.In hp) (hx : hp.get? x = some (excObj C t0 none c2))
    (hq : ∀ h1 tk1 dx, (∀ b o, b ≠ x → hp.get? b = some o → h1.get? b = some o) → hp.objs.size ≤ dx → dx ≠ x → h1.get? x = some (excObj C t0 (some dx) c2) → h1.Ns1 dx (fun y => if y = fld then some v else none) → Q () ⟨h1, gn, dr, tk1, os⟩) :
    wpAny (model prog w) A (setAttr (.ref x) fld v) Q E ⟨hp, gn, dr, tt, os⟩ := by
  have I : InstAt hp x (excObj C t0 none c2) C none := ⟨hx, rfl, rfl, trivial⟩
  refine set_plain (od := none) X I T.sa (osa_openX (s := ⟨hp, gn, dr, tt + 1, os⟩) (od := none) XB.st X I T.ov T.tk fun b => ?_)
  obtain ⟨cd, hc, hdd⟩ := any_some T.hd
  have lx : x < hp.objs.size := Heap.lt_size hx
  refine wpAny_bind (wpAny_pure (wpAny_bind (instanceDict_exc (s := ⟨hp, gn, dr, tt + 1, os⟩) hx (looks_clsIn X hc) hdd ?_)))
  refine HandSPX.store_in_new (hp := (hp.push (dictOf [] 0)).update x fun o => { o with dict := some hp.objs.size }) ?_ fun h1 tk1 hn1 hs => ?_
  · exact ⟨_, #[], 0, (Heap.get?_update_ne _ _ _ _ (Nat.ne_of_gt lx)).trans (Heap.get?_push_at rfl rfl), rfl, fun e he => absurd he (by simp), fun _ => rfl⟩
  · refine hq h1 tk1 hp.objs.size (fun b o hb ho => ?_) (Nat.le_refl _) (Nat.ne_of_gt lx) ?_ hn1
    · exact (hs.2 b (Nat.ne_of_lt (Heap.lt_size ho))).trans ((Heap.get?_update_ne _ _ _ _ hb).trans (Heap.get?_push_of_some _ ho))
    · exact (hs.2 x (Nat.ne_of_lt lx)).trans (Heap.get?_update_self _ (Heap.get?_push_of_some _ hx) rfl)
/-- the bound __init__ of the base, called with one thing -/
theorem call_binit {u : Addr} {us : List Value} {Q : Value → Shared → Prop} (XB : ExB B newId initId tl) (T : OwnE K C B newId tl fld) (X : K.In hp) (hx : hp.get? x = some (excObj C t0 none .none)) (hu : hp.get? u = some (kxs_mw initId x)) (hz : us.length ≤ sizeLine)
    (hq : ∀ h1 t1, (∀ b o, b ≠ x → hp.get? b = some o → h1.get? b = some o) → h1.get? x = some (excObj C t1 none .none) → Q .none ⟨h1, gn, dr, tt, os⟩) :
    wpAny (model prog w) A (call (.ref u) us) Q E ⟨hp, gn, dr, tt, os⟩ := by
  obtain ⟨nm, N', qn, bs, bm, hdct, sn, sub, ab, col, dd, k0, k1, k2, k3, k5, hC, hT⟩ := excInit_of X T.made
  refine wpAny_call (codeAny_of_tree (show wpAny _ A.in1 (callAny (.ref u) ⟨us, []⟩) _ _ _ from ?_))
  simp only [callAny]
  refine wpAny_bind (wpAny_load hu ?_)
  have tr : (Value.type "method-wrapper" == Value.type "method" || Value.type "method-wrapper" == Value.type "builtin_function_or_method" || Value.type "method-wrapper" == Value.type "method-wrapper") = true := by decide
  simp only [kxs_mw, tr, if_true]
  refine KFB.if_so (by decide) (wpAny_bind (check_bound_init XB.base.toExcCallFacts hC hx rfl (wpAny_bind (wpAny_pure (wpAny_pure ⟨plainId_quiet XB.base.init.plain _, codeAny_builtin XB.base.initEntry ?_⟩)))))
  exact exc_init_tree (cls := .ref C) (t0 := t0) (dv := none) (c2 := .none) (c3 := .none) (b4 := .bool false) hx hz fun h1 k e1 _ => hq h1 _ k e1
end

/-- the promise of such an __init__ -/
def spI (C : Addr) (fld : Str) : Sp := fun vs H Q _ => ∃ (a : Addr) (v : V), vs = [.ref a, v] ∧ H a = some (exo a C none) ∧ ∀ d, H d = none → d ≠ a → Q .non (upd (upd H d (exd d [(fld, v)])) a (exo a C (some d)))
section
open PySem.W
/-- the def's facts: its text, its cell __class__, its code object's file -/
structure SupTxt (P : Program) (K : Frag) (mg : Str → Option Value) (C f cc cda : Addr) (B initId : String) (qual sf fld : Str) (scope : Scope) : Prop where
  cell : ∃ cl cld csl, K.lookup cc = some ⟨cl, cld, .cell (some (.ref C)), csl⟩
  code : codeIn K (.ref cda) qual = true
  file : ∃ ccl cdd vs ccs file tf, K.lookup cda = some ⟨ccl, cdd, .fields vs, ccs⟩ ∧ vs[2]? = some (.str file tf) ∧ ((P.main.file : Str) == file) = true
  isC : (clsIn K C).isSome = true
  sub : mroIn K C (.ref C) = some true
  sup : ks_superIn K C C "__init__" = some (some (.builtin initId))
  any : nsIn K cStatics "thirdparty.any" = some none
  nS : mg "super" = none
  top : (P.main.scope.names.lookup ("super" : Str)).isSome = false
  s1 : scope.names.lookup ("super" : Str) = some .globalImplicit
  s2 : scope.names.lookup ("__class__" : Str) = some .free
  s3 : scope.names.lookup sf = some .local
  s4 : scope.names.lookup fld = some .local
  s5 : ∀ x ∈ scope.names, x.2 ≠ .cell
  s6 : scope.isCoroutine = false
  s7 : scope.isGenerator = false
  s8 : scope.kind = .function
  ne : sf ≠ fld
/-- behind the store: what is kept, what stands now -/
theorem ex_done {P : Program} {w : World} {H : Hp} {h h5 : Heap} {a C dx t1 : Addr} {fld : Str} {v : V} {u : Value} {fs : List Addr} (hok : HOk P w H h) (ea : H a = some (exo a C none)) (kp : ∀ b o, b ≠ a → h.get? b = some o → h5.get? b = some o)
    (ge : h.objs.size ≤ dx) (ne : dx ≠ a) (e5 : h5.get? a = some (excObj C t1 (some dx) .none)) (n5 : h5.Ns1 dx (fun y => if y = fld then some u else none)) (rv : L2.RelV v u) :
    Un fs [] H (upd (upd H dx (exd dx [(fld, v)])) a (exo a C (some dx))) h h5 ∧ HOk P w (upd (upd H dx (exd dx [(fld, v)])) a (exo a C (some dx))) h5 ∧ H dx = none := by
  have nd : H dx = none := hok.fresh ge
  have far : ∀ {b : Addr} {o : Obj}, h.get? b = some o → b ≠ dx := fun q => Nat.ne_of_lt (Nat.lt_of_lt_of_le (Heap.lt_size q) ge)
  have na : ∀ {b : Addr}, H b = none → b ≠ a := fun n z => by rw [z, ea] at n; cases n
  have up : ∀ {b : Addr} {o : HO}, H b = some o → b ≠ a → upd (upd H dx (exd dx [(fld, v)])) a (exo a C (some dx)) b = some o := fun q z => by rw [upd_ne z, upd_ne (ne_of_none q nd), q]
  refine ⟨⟨fun b o q n _ _ => kp b o (na n) q, fun b o q n _ _ => ⟨o.slots, kp b o (na n) q⟩, fun b o q n _ => by rw [upd_ne (na n), upd_ne (far q), n], fun b o q _ => ?_, fun b xs q => up q (at_ne ea q exo_tup), fun b o z q => up q (at_ne ea q exo_frz), fun b ps q => ⟨#[], by rw [up q (at_ne ea q exo_tbl)]; simp⟩⟩, fun b o q => ?_, nd⟩
  · by_cases z : b = a
    · rw [z]; exact ⟨_, e5⟩
    · exact ⟨o, kp b o z q⟩
  · by_cases z : b = a
    · rw [z] at q ⊢; rw [upd_same] at q; cases q; exact exo_ok e5
    · rw [upd_ne z] at q
      by_cases z2 : b = dx
      · rw [z2] at q ⊢; rw [upd_same] at q; cases q; exact exd_ok n5 (relO_put (fs := []) rv fun _ => trivial)
      · rw [upd_ne z2] at q
        refine (hok b o q).stay (fun c y hc y2 => kp c y ?_ y2) (fun c hc => up hc (at_ne ea hc exo_own)) fun c xs hc => up hc (at_ne ea hc exo_tup)
        exact hc.elim (fun e => by rw [e]; exact z) fun e => at_ne ea e exo_own
/-- its two rows -/
structure SupPos where
  (p0 p1 p2 p3 p4 p5 p6 p7 p8 p9 : Pos)
  j : Nat
abbrev supC (p : SupPos) (txt : Str) : Expr := .Call (.Attribute (.Call (.Name "super" p.p0) [] [] p.p1) "__init__" p.p2) [.Constant (.str txt) p.j p.p3] [] p.p4
abbrev supB (p : SupPos) (txt sf fld : Str) : List Stmt := [.Expr (supC p txt) p.p5, .Assign [.Attribute (.Name sf p.p6) fld p.p7] (.Name fld p.p8) p.p9]
/-- how they are read, where the scope is written -/
structure SupRead (p : SupPos) (txt sf fld : Str) (env : Env) : Prop where
  ev : ∃ pl : Sem Bool, eval (supC p txt) env = (do
      let ov ← attributeBase (.Call (.Name "super" p.p0) [] [] p.p1) "__init__" env (eval (.Call (.Name "super" p.p0) [] [] p.p1) env)
      standAt p.p2.atName
      let (f, first) ← holding [ov] (getMethod ov "__init__" pl)
      callWith p.p4 f first (backTo p.p4 (starEach [.Constant (.str txt) p.j p.p3] env)) [])
  hi : interactive env = false
  hs : swapsWith (supC p txt) none p.p5.line env = pure false
  h2 : swapsWith (.Name fld p.p8) (some (.Attribute (.Name sf p.p6) fld p.p7)) p.p9.line env = pure false
  he : starEach [.Constant (.str txt) p.j p.p3] env = (false, eval (.Constant (.str txt) p.j p.p3) env) :: starEach [] env
  hpl : (backTo p.p4 (starEach [] env)).any (·.1) = false
theorem sup_fn {P : Program} {w : World} {K : Frag} {mg : Str → Option Value} {base : Heap} {CX : CXT} {C f cc cda : Addr} {B newId initId : String} {tl : List Value} {qual sf fld txt name : Str} {scope : Scope} {params : Arguments} {ar : Arg} {dV kV doc pm ct oc : Value} {an od : Option Addr} {osl : Array (Option Value)}
    {p : SupPos} (XB : ExB B newId initId tl) (T : OwnE K C B newId tl fld) (S : SupTxt P K mg C f cc cda B initId qual sf fld scope) (Rd : ∀ L, SupRead p txt sf fld (ksEnv qual scope L f (.ref cda) cc))
    (lk : K.lookup f = some ⟨oc, od, .func (ksFn name qual params (supB p txt sf fld) scope dV kV doc pm an (.ref cda) ct cc), osl⟩)
    (hp : (params.posonlyargs ++ params.args).head? = some ar) (har : ar.arg = sf) (d1 : (sf == ("__debug__" : Str)) = false) (d2 : (fld == ("__debug__" : Str)) = false) (d3 : (sf == ("__classdict__" : Str)) = false) (d4 : (fld == ("__classdict__" : Str)) = false) :
    FnOk P w K mg base CX 1 f (ksFn name qual params (supB p txt sf fld) scope dV kV doc pm an (.ref cda) ct cc) [sf, fld] (spI C fld) := by
  refine ⟨fun vs H Q E ⟨a, v, e, _⟩ => by rw [e]; rfl, fun A outer s H args us vs Q E hr e0 hb r hsp => ?_⟩
  obtain ⟨a, v, rfl, ea, hq⟩ := hsp
  cases r with
  | cons ra rr =>
    rename_i ua _
    cases rr with
    | cons rv rr =>
      rename_i uv _
      cases rr
      obtain rfl : ua = Value.ref a := ra
      have kB : ∀ b o, base.get? b = some o → s.heap.get? b = some o := fun b o e => (e0.bs b o e).1
      have KX : K.In s.heap := e0.mod.kin.keeps kB
      have lim : s.heap.NoLimit := e0.mod.nolimit.keeps kB
      obtain ⟨mb, hbn, hbv⟩ := e0.mod.blt
      obtain ⟨t0, hx⟩ := exo_at e0.hok ea
      obtain ⟨cl, cld, csl, hcell⟩ := S.cell
      obtain ⟨ccl, cdd, fvs, ccs, file, tf, hco, hvs, hfile⟩ := S.file
      obtain ⟨cdC, hclC⟩ := Option.isSome_iff_exists.mp S.isC
      refine ks_codeAny_call_defAt (binds := [sf, fld].zip [Value.ref a, uv]) (fd := ksFn name qual params _ scope dV kV doc pm an (.ref cda) ct cc) hr.depth (KX _ _ lk) rfl lim (codeRec_of KX S.code) rfl hb S.s5 (fun y hy => ?_) (fun h1 hns hk => ?_) S.s6 S.s7 S.s8
      · rcases List.mem_cons.mp hy with rfl | hy
        · exact S.s3
        · rw [List.mem_singleton.mp hy]; exact S.s4
      rw [show callEnv (ksFn name qual params (supB p txt sf fld) scope dV kV doc pm an (.ref cda) ct cc) s.heap.objs.size f = ksEnv qual scope s.heap.objs.size f (.ref cda) cc from rfl]
      have k1 : ∀ b o, base.get? b = some o → h1.get? b = some o := fun b o e => hk b o (kB b o e)
      have K1 : K.In h1 := e0.mod.kin.keeps k1
      have hx1 := hk _ _ hx
      have L1 : (ksEnv qual scope s.heap.objs.size f (.ref cda) cc).kindOf "super" = some .globalImplicit := S.s1
      have vS : ([sf, fld].zip [Value.ref a, uv]).reverse.lookup sf = some (.ref a) := by
        have q : (sf == fld) = false := by simpa using S.ne
        simp [List.lookup, q]
      have vF : ([sf, fld].zip [Value.ref a, uv]).reverse.lookup fld = some uv := by simp [List.lookup]
      obtain ⟨oD, hD1, hD2⟩ : ∃ oD, h1.get? C = some oD ∧ oD.data = .cls cdC := by
        unfold clsIn at hclC
        split at hclC
        · rename_i o ho
          cases hclC
          exact ⟨_, K1 _ _ ho, rfl⟩
        · cases hclC
      obtain ⟨⟨pl, hev⟩, hi, hsw, hs2, hse, hpl⟩ := Rd s.heap.objs.size
      refine ks_wpAt_execs_cons (ks_wpAt_Expr_any (ks_wpAt_MethodCall (pl := pl) (ks_wpAt_super_base (env := ksEnv qual scope s.heap.objs.size f (.ref cda) cc) L1 S.s2 (by decide) rfl (K1 _ _ lk) rfl hp rfl (K1 _ _ hco) rfl hvs hfile S.top ?_) hev) hi hsw)
      refine ks_loadName_global S.s8 L1 (PySem.Calls.loadGlobal_builtin (env := ksEnv qual scope s.heap.objs.size f (.ref cda) cc) (e0.mod.glob.keeps k1) S.nS (hbn.keeps k1) ((hbv _ (by decide)).trans PyProof.Rows.Boot.«super») ⟨rfl, ?_⟩)
      refine wpAny_loadName_free S.s8 S.s2 rfl ⟨_, K1 _ _ hcell, rfl⟩ ?_
      refine wpAny_loadName_local S.s8 (by rw [har]; exact S.s3) hns (by rw [har]; exact vS) ?_
      refine ks_wpAny_isType_cls hD1 hD2 ⟨rfl, ?_⟩
      refine ks_wpAny_call_super hD1 hD2 hx1 rfl (fun c e => nomatch e) (looks_mroIn K1 S.sub) (fun h2 e2 k2 => ?_)
      have K2 : K.In h2 := K1.keeps k2
      have hx2 := k2 _ _ hx1
      have I2 : InstAt h2 a (excObj C t0 none .none) C none := ⟨hx2, rfl, rfl, trivial⟩
      have hI : Looks (model P w) h2 (isInstance (.ref a) (.type B)) true := I2.type.andThen (looks_subIn K2 T.sB)
      have sS : alongIn K "__init__" ((cdC.mro.dropWhile (· != .ref C)).drop 1) = some (some (.builtin initId)) := by
        have z := S.sup
        unfold ks_superIn at z
        rw [hclC] at z
        exact z
      refine kxs_getMethod XB.kx e2 (looks_opaque K2 S.any) (l₀ := cdC.mro) (fun A Q E s k q => wpAny_bind ((looks_clsIn K2 hclC) A _ E s k (wpAny_pure q))) rfl K2 sS hI (ks_ne K2 I2 hclC) (by decide) ?_
      have hx3 : (h2.push (kxs_mw initId a)).get? a = some (excObj C t0 none .none) := Heap.get?_push_of_some _ hx2
      rw [hse]
      refine kxs_callWith (i := initId) (x := a) (by show (false || (backTo p.p4 (starEach [] _)).any (·.1)) = false; rw [hpl]; rfl) (PySem.Calls.evalArgs_plain (PySem.Calls.spliced_cons (wpAny_Constant_str (k := p.j) (pos := p.p3) (PySem.Calls.spliced_nil ⟨Heap.get?_push_at rfl rfl, ?_⟩))))
      refine call_binit XB T (K2.keeps fun b o e => Heap.get?_push_of_some _ e) hx3 (Heap.get?_push_at rfl rfl) (by rw [sizeLine_eq]; show 1 ≤ 16777216; decide) fun h4 t1 k4 e4 => ?_
      have kk : ∀ b o, b ≠ a → h1.get? b = some o → h4.get? b = some o := fun b o n e => k4 b o n (Heap.get?_push_of_some _ (k2 b o e))
      have la : a < s.heap.objs.size := Heap.lt_size hx
      have K4 : K.In h4 := fun b o e => kk b o (fun z => by
        have q := e0.bs b o (e0.mod.kin b o e)
        rw [z, ea] at q
        cases q.2) (K1 b o e)
      obtain ⟨oL, es, ep, hL, hr5⟩ := hns
      have hn4 : h4.Ns s.heap.objs.size (fun x => ([sf, fld].zip [Value.ref a, uv]).reverse.lookup x) := ⟨oL, es, ep, kk _ _ (Nat.ne_of_gt la) hL, hr5⟩
      refine ks_wpAt_execs_cons (wpAt_of_wpAny (plainObj_wpAny_Assign_Attribute (wpAny_Name (wpAny_loadName_local S.s8 S.s4 hn4 vF (wpAny_Name (wpAny_loadName_local S.s8 S.s3 hn4 vS (set_first XB T K4 e4 fun h5 tk5 dx k5 ge ne e5 n5 => ?_)) d1)) d2) hs2))
      have gL : s.heap.objs.size ≤ dx := Nat.le_trans (Nat.le_of_lt (Heap.lt_size (kk _ _ (Nat.ne_of_gt la) hL))) ge
      obtain ⟨d1', d2', d3'⟩ := ex_done (fs := frs outer) e0.hok ea (fun b o n e => k5 b o n (kk b o n (hk b o e))) gL ne e5 n5 rv
      exact wpAt_of_wpAny (wpAny_execs_nil ⟨.non, _, rfl, e0.bare, d1', d2', rfl, hq dx d3' ne⟩)
end
theorem del_upd2 {H1 : Hp} {a d : Addr} {o o' q u : HO} (n : H1 a = none) (ne : d ≠ a) : upd (del (upd (upd (upd H1 a o) d q) a o') a) d u = upd H1 d u := by
  funext b
  by_cases z : b = d
  · rw [z, upd_same, upd_same]
  · rw [upd_ne z, upd_ne z]
    by_cases y : b = a
    · rw [y, del_same, n]
    · rw [del_ne y, upd_ne y, upd_ne z, upd_ne y]
/-- C(e) -/
def tMk (C : Addr) (fld : Str) (ta : TA) : L2.St → Hp → XK → Prop := fun σ H Q => ta σ H fun vs H1 => ∃ v, vs = [v] ∧ ∀ d, H1 d = none → Q (.ref C) (some d) (upd H1 d (.xd [(fld, v)]))
theorem pmk_sup {X : Cx} {x : Str} {C fI : Addr} {fd : FuncData} {B newId initId : String} {tl : List Value} {sf fld : Str} {e : Expr} {ta : TA} {p pos : Pos} (XB : ExB B newId initId tl) (T : OwnE X.K C B newId tl fld) (iC : PySem.W.findIn X.K (.ref C) "__init__" = some (some (.ref fI)))
    (tI : PySem.W.typeIn X.K (.ref fI) = some (.type "function")) (F1 : FnOk X.prog X.w X.K X.mg X.base C8.CX0 1 fI fd [sf, fld] (spI C fld)) (hr : Room 2 X.A) (hb : Binds X.K fd [sf, fld] []) (hg : Gl X x) (hm : X.mg x = some (.ref C)) (ha : PA X [e] ta)
    (hdb : (x == ("__debug__" : Str)) = false := by decide) (h1 : starEach [e] X.env = (false, eval e X.env) :: starEach [] X.env := by rfl) (h2 : (backTo pos (starEach [] X.env)).any (·.1) = false := by rfl) :
    PMk X (.Call (.Name x p) [e] [] pos) (tMk C fld ta) := by
  intro pins s σ H Q I h
  refine wpAny_Call_Name_kw (ld_glob I hg hm (PySem.W.callWith_K (h₀ := X.base) I.ok.mod.kin T.kC (thn (ha.run pos pins s σ H _ I h) fun us s1 ⟨vs, H1, I1, r1, v, ev, q1⟩ => ⟨I1.kIn, ?_⟩) h1 h2) hdb)
  subst ev
  show wpAny (model X.prog X.w) X.A (call (.ref C) us) _ _ _
  obtain ⟨g1, gn, dr, tk, os⟩ := s1
  obtain ⟨nm, N', qn, bs, bm, hdct, sn, sub, ab, col, dd, k0, k1, k2, k3, k5, hC, hT⟩ := PySem.W.excInit_of I1.kIn T.made
  have big : g1.objs.size ≤ g1.objs.size + 1 := Nat.le_add_right _ _
  have nA : H1 (g1.objs.size + 1) = none := I1.hok.fresh big
  have kp : ∀ b o, g1.get? b = some o → ((g1.push (PySem.W.kdv_tup us)).push (PySem.HandSPX.excO C g1.objs.size)).get? b = some o := fun b o q => Heap.get?_push_of_some _ (Heap.get?_push_of_some _ q)
  have isE : ((g1.push (PySem.W.kdv_tup us)).push (PySem.HandSPX.excO C g1.objs.size)).get? (g1.objs.size + 1) = some (PySem.HandSPX.excO C g1.objs.size) := by heap_get
  have I2 := I1.laid (t' := tk) (a := g1.objs.size + 1) (o := exo (g1.objs.size + 1) C none) (h' := (g1.push (PySem.W.kdv_tup us)).push (PySem.HandSPX.excO C g1.objs.size)) kp big (exo_ok isE)
  cases r1 with
  | @cons _ u0 _ ur rv rr =>
    cases rr
    have go : spI C fld [.ref (g1.objs.size + 1), v] (upd H1 (g1.objs.size + 1) (exo (g1.objs.size + 1) C none)) (fun v2 H2 => v2 = .non ∧ ∃ d, H1 d = none ∧ d ≠ g1.objs.size + 1 ∧ H2 = upd (upd (upd H1 (g1.objs.size + 1) (exo (g1.objs.size + 1) C none)) d (exd d [(fld, v)])) (g1.objs.size + 1) (exo (g1.objs.size + 1) C (some d))) (fun _ _ _ => False) :=
      ⟨_, v, rfl, upd_same, fun d n ne => ⟨rfl, d, by rw [upd_ne ne] at n; exact n, ne, rfl⟩⟩
    refine wpAny_call (PySem.HandSPX.call_own XB.base hT hC (PySem.W.looks_findIn I1.kIn iC) (fun self => PySem.W.bind_fn I1.kIn self tI) (by rw [sizeLine_eq]; show 1 ≤ 16777216; decide) (codeAny_mono (F1.run _ X.stack _ _ ⟨[.ref (g1.objs.size + 1), u0], []⟩ [.ref (g1.objs.size + 1), u0] _ _ _ (hr.make C [u0] []) (I2.env0.make C [u0] []) (hb _ [.ref (g1.objs.size + 1), u0] I2.kIn rfl) (show Vals [V.ref (g1.objs.size + 1), v] [Value.ref (g1.objs.size + 1), u0] from .cons rfl (.cons rv .nil)) go) fun r s2 hq => ?_))
    cases r with
    | error er => exact False.elim hq
    | ok fl =>
      cases fl with
      | ret u =>
        obtain ⟨v2, H2, os2, bare2, un2, hok2, rv2, ev2, d, n, ne, eH⟩ := hq
        subst ev2 eH
        obtain ⟨h2, gn2, dr2, tk2, os'⟩ := s2
        have fin := mk_end (Q := Q) (d2 := dr2) (t2 := tk2) (raises_own T.exC T.tyC) I1 big kp un2 hok2 os2 bare2 upd_same (by rw [upd_ne ne, upd_same]) n (by rw [del_upd2 nA ne]; exact q1 d n)
        exact ⟨rv2, fin⟩
      | _ => exact False.elim hq
/-! ### raise C(e) on data -/
def gRaise (c fld : Str) (f : GE) : GS := fun ρ => (f ρ).bindS fun d ρ1 => .ex ⟨c, [(fld, d)]⟩ ρ1
theorem ds_raise {Tb : Tbs} {X : Cx} {W : WX} {x : Str} {C fI : Addr} {fd : FuncData} {B newId initId : String} {tl : List Value} {sf fld : Str} {e : Expr} {f : GE} {p pos pos' : Pos} (hc : X.calm = true) (tk : Takes X W) (XB : ExB B newId initId tl) (T : OwnE X.K C B newId tl fld)
    (iC : PySem.W.findIn X.K (.ref C) "__init__" = some (some (.ref fI))) (tI : PySem.W.typeIn X.K (.ref fI) = some (.type "function")) (F1 : FnOk X.prog X.w X.K X.mg X.base C8.CX0 1 fI fd [sf, fld] (spI C fld)) (hr : Room 2 X.A) (hb : Binds X.K fd [sf, fld] []) (hg : Gl X x) (hm : X.mg x = some (.ref C)) (he : DE Tb X W e f)
    (hdb : (x == ("__debug__" : Str)) = false := by decide) (h1 : starEach [e] X.env = (false, eval e X.env) :: starEach [] X.env := by rfl) (h2 : (backTo pos (starEach [] X.env)).any (·.1) = false := by rfl) :
    DS Tb X W (.Raise (some (.Call (.Name x p) [e] [] pos)) none pos') (gRaise x fld f) := PS.weak (ps_raise hc tk (pmk_sup XB T iC tI F1 hr hb hg hm (pa_cons he pa_nil (hs := h1)) hdb h1 h2)) fun Dn σ H ⟨F, ρ, R, q⟩ =>
  ⟨F, ρ, R, At.seqS q fun v d ρ1 F1 H1 go dd q1 => ⟨v, rfl, fun dx n => by
    have nt : nT (.xd [(fld, v)]) := fun ps z => nomatch z
    have g2 := Go.alloc go.rep n (.xd [(fld, v)]) nt
    refine q1 σ _ _ (.ref C) (some dx) g2 ⟨C, hm, rfl, fun _ => ⟨dx, _, rfl, upd_same, .cons (dd.mono g2.fF) .nil⟩⟩⟩⟩
end DL
end
section
set_option Elab.async false
set_option linter.all false
set_option maxRecDepth 100000
set_option maxHeartbeats 4000000
/-! DLn: try .. except X as e: .. except Y as e: ..; a lambda handed to a def that calls it within such a try. -/
namespace DL
open PySem PySem.Spec L2 PyProof.Rows
abbrev Su := Addr → Value → Option Addr → TS
/-- what the clauses, each 'as' slot i, wish of an exception -/
def wAsM (K : PySem.W.Frag) (i : Nat) (Wout : WX) (Dn : Ends) : List (Value × Su) → WX
  | [] => Wout
  | (c, ts) :: r => fun cls d σ H => ∃ b, PySem.W.exmOne K cls c = some b ∧
      (b = true → ∀ a, H a = none → ts a cls d ⟨fun s h => Dn.nx (s.set i none) h, Dn.rt, fun s h => Dn.bk (s.set i none) h, fun s h => Dn.ct (s.set i none) h⟩ (σ.set i (some (.ref a))) H) ∧ (b = false → wAsM K i Wout Dn r cls d σ H)
inductive HdsAs (X : Cx) (n : Str) : List ExceptHandler → List (Value × Su) → Prop
  | nil : HdsAs X n [] []
  | cons {x : Str} {c : Value} {ts : Su} {st : Stmt} {rest : List Stmt} {np pos' : Pos} {hds : List ExceptHandler} {l : List (Value × Su)} (hc : Names X x c)
      (hsu : ∀ (a : Addr) (oe : Obj) (cls : Value) (d : Option Addr) (pn : List (Addr × Obj)), Zc cls d oe → (∃ vs, oe.data = .fields vs) → PSs (X.suite a ((a, oe) :: pn)) (st :: rest) (ts a cls d)) (r : HdsAs X n hds l) :
      HdsAs X n (.ExceptHandler (some (.Name x np)) (some n) (st :: rest) pos' :: hds) ((c, ts) :: l)
section
variable {X : Cx} {pins : List (Addr × Obj)} {σ6 : L2.St} {H6 : Hp} {s6 : Shared} {B : Heap} {sI s0 : Shared} {a : Addr} {cls : Value} {d : Option Addr} {hds : List ExceptHandler} {l : List (Value × Su)} {n : Str} {i : Nat} {Wout : WX} {Dn : Ends} {σ1 : L2.St} {H1 : Hp}
/-- the clauses, one after the other, at an exception that has landed -/
theorem handle_as (hs : X.stack = X.env :: X.outer) (hf : X.env.frame = some X.env.locals) (hN : X.N.Nodup) (hi : X.N[i]? = some n) (hln : X.env.kindOf n = some .local) (tk : Takes X Wout) (ok : X.Ok) (J : Inv X pins σ1 H1 sI)
    (nb : ∀ b o, sI.heap.get? b = some o → b ∉ frs X.stack → B.get? b = some o) (na : H1 a = none) (os : s0.os = sI.os) (ag : AllBare s0.gens) :
    ∀ {hds : List ExceptHandler} {l : List (Value × Su)}, HdsAs X n hds l → ∀ h3 : Heap, HandSPX.FlyingZ B (X.env :: X.outer) a (Zc cls d) h3 → sI.heap.UpToSlots h3 → wAsM X.K i Wout Dn l cls d σ1 H1 →
      wpAny (model X.prog X.w) X.A (handleBy (.ref a) X.env hds) (SP X pins Dn) X.xe { s0 with heap := h3 } := by
  have suited : ∀ {h : Heap} (fl : HandSPX.FlyingZ B (X.env :: X.outer) a (Zc cls d) h), sI.heap.UpToSlots h → ∃ (oe : Obj) (vs : Array Value), h.get? a = some oe ∧ Zc cls d oe ∧ oe.data = .fields vs ∧ Inv (X.suite a ((a, oe) :: (X.pn ++ pins))) [] σ1 H1 { s0 with heap := h } := fun {h} fl up => by
    have J3 : Inv X pins σ1 H1 { s0 with heap := h } := J.landed nb fl.1 up os ag
    obtain ⟨oe, vs, he, hz, hd⟩ := fl.there
    have nfr : a ∉ frs (X.env :: X.outer) := fun hm => by
      obtain ⟨_, o', e', hnf⟩ := fl.2.2.1.mem hm
      rw [he] at e'
      cases e'
      exact hnf _ hd
    refine ⟨oe, vs, he, hz, hd, J3.suite he hd na (fun z => nfr (List.mem_filterMap.mpr ⟨X.env, List.mem_cons_self, by rw [hf, z]⟩)) fun hm => ?_⟩
    obtain ⟨e, he2, q⟩ := List.mem_filterMap.mp hm
    exact nfr (List.mem_filterMap.mpr ⟨e, List.mem_cons_of_mem _ he2, q⟩)
  intro hds l hk
  induction hk with
  | nil =>
    intro h3 fl up w
    refine wpAny_handleBy_nil ?_
    obtain ⟨_, _, _, oe, vs, T, oT, tsT, he, _, hd, h1, _⟩ := id fl
    have tr : wpAny (model X.prog X.w) X.A (setFlight (.ref a) X.env.frame) (fun _ s4 => wpAny (model X.prog X.w) X.A (throw (.ref a) : Sem Flow) (SP X pins Dn) X.xe s4) X.xe { s0 with heap := h3 } := by
      rw [hf]
      exact HandSPX.setFlight_upZ fl fun h4 hh4 up4 => wpAny_throw (tk _ _ ⟨a, B, sI, pins, σ1, H1, cls, d, rfl, J, nb, up.trans up4, .inr (.inr (by rw [hs]; exact hh4)), na, os, ag, w⟩)
    unfold PySem.passOn
    refine wpAny_bind (wpAny_field he hd h1 ?_)
    rw [if_neg (show ¬ ((Value.ref T == Value.none) = true) by simp)]
    first | exact wpAny_bind (wpAny_pure (wpAny_bind tr)) | exact wpAny_bind tr
  | @cons x c ts st rest np pos' hds2 l2 hc hsu r ih =>
    intro h3 fl up w
    obtain ⟨b, hb1, hyes, hno⟩ := w
    obtain ⟨oe, vs, he, hz, hd, S3⟩ := suited fl up
    have J3 : Inv X pins σ1 H1 { s0 with heap := h3 } := J.landed nb fl.1 up os ag
    refine wpAny_handleBy_cons (codeAny_handlers_test ?_) (by intro q; cases q)
    have LM := PySem.W.exm_one (M := model X.prog X.w) J3.kIn (fun A Q E s k q => wpAny_typeOf_ref (k _ _ he) (by rw [hz.1]; exact q)) hb1
    have test : ∀ {Q : Value → Shared → Prop} {E : Value → Shared → Prop}, Q c { s0 with heap := h3 } → wpAny (model X.prog X.w) (X.A.mark (some (.ref a))) (eval (.Name x np) X.env) Q E { s0 with heap := h3 } := fun {Q E} q => by
      obtain ⟨hg, hdbg, hm | ⟨hm, hv, hnn⟩⟩ := hc
      · exact ld_glob (X := X.suite a ((a, oe) :: (X.pn ++ pins))) S3 hg hm q hdbg
      · exact ld_blt (X := X.suite a ((a, oe) :: (X.pn ++ pins))) S3 hg hm hv q hnn hdbg
    refine test (LM.here ?_)
    cases b with
    | false => exact ih h3 fl up (hno rfl)
    | true =>
      refine codeAny_handlers_suite_as (HandSPX.lands_againZ fl fun h4 fl4 up4 => ?_)
      obtain ⟨oe4, vs4, _, hz4, hd4, S4⟩ := suited fl4 (up.trans up4)
      refine store_ok (X := X.suite a ((a, oe4) :: (X.pn ++ pins))) (v := .ref a) S4 hN hi (.inl hln) rfl (fun s5 S5 => ?_) (.inr hln)
      refine wpAny_mono ((hsu a oe4 cls d (X.pn ++ pins) hz4 ⟨_, hd4⟩).run [] s5 _ H1 _ S5 (hyes rfl a na)) (fun f s6 hsp => ?_) fun _ _ z => False.elim z
      have gone : ∀ {σ6 : L2.St} {H6 : Hp} {Q : Shared → Prop}, Inv (X.suite a ((a, oe4) :: (X.pn ++ pins))) [] σ6 H6 s6 → (∀ s7, Inv X pins (σ6.set i none) H6 s7 → Q s7) →
          wpAny (model X.prog X.w) X.A (do bindName X.env n .none; unbindBehindTheSuite X.env n pos') (fun _ s7 => Q s7) X.xe s6 := fun S6 hq => gone_ok (S6.unsuite ok) hN hi hln hq
      cases f with
      | ret u =>
        obtain ⟨v6, σ6, H6, S6, r6, q6⟩ := hsp
        exact gone S6 fun s7 J7 => ⟨_, _, _, J7, r6, q6⟩
      | _ =>
        obtain ⟨σ6, H6, S6, q6⟩ := hsp
        exact gone S6 fun s7 J7 => ⟨_, _, J7, q6⟩
theorem ps_try_asM {body : List Stmt} {h₀ : ExceptHandler} {pos : Pos} {tb : WX → TS} (hs : X.stack = X.env :: X.outer) (hf : X.env.frame = some X.env.locals) (hN : X.N.Nodup) (hi : X.N[i]? = some n) (hln : X.env.kindOf n = some .local) (tk : Takes X Wout)
    (hb : ∀ (W : WX) (pn : List (Addr × Obj)) (xe : Value → Shared → Prop), Takes (X.tr pn xe) W → PassesOwn (model X.prog X.w) X.A X.env xe → PSs (X.tr pn xe) body (tb W)) (hh : HdsAs X n (h₀ :: hds) l) :
    PS X (.Try body (h₀ :: hds) [] [] pos) (fun Dn σ H => tb (wAsM X.K i Wout Dn l) Dn σ H) := by
  refine ⟨fun pins s σ H Dn I h => wpAny_Try_except ?_⟩
  have ok := I.ok
  refine wpAny_mono ((hb (wAsM X.K i Wout Dn l) (X.pn ++ pins) (fun e s₁ => wpAny (model X.prog X.w) X.A (noteFrame e X.env) (fun _ s₂ => wpAny (model X.prog X.w) X.A (setFlight e none) (fun _ s₃ =>
    wpAny (model X.prog X.w) X.A (handleBy e X.env (h₀ :: hds)) (SP X pins Dn) X.xe s₃) X.xe s₂) X.xe s₁) (fun u s0 xx => ?_) PassesOwn.looking).run [] s σ H Dn (I.toTry _) h) (fun f s1 hsp => ?_) fun e s1 he => he
  · obtain ⟨a, B, sI, pins', σ1, H1, cls, d, rfl, J', nb, up, sky, na, os, ag, w⟩ := xx
    have sky' : Sky B (X.env :: X.outer) a (Zc cls d) X.env.locals s0.heap := by rw [← hs]; exact sky
    show wpAny (model X.prog X.w) X.A (noteFrame (.ref a) X.env) _ _ _
    exact Sky.land Zc.steady (by rw [ok.frames, hs]) hf sky' fun h3 fl3 up3 => handle_as hs hf hN hi hln tk ok (J'.ofTry ok) nb na os ag hh h3 fl3 (up.trans up3) w
  · cases f with
    | next =>
      obtain ⟨σ1, H1, J1, q⟩ := hsp
      exact wpAny_execs_nil ⟨σ1, H1, J1.ofTry ok, q⟩
    | ret u =>
      obtain ⟨v, σ1, H1, J1, r, q⟩ := hsp
      exact ⟨v, σ1, H1, J1.ofTry ok, r, q⟩
    | _ =>
      obtain ⟨σ1, H1, J1, q⟩ := hsp
      exact ⟨σ1, H1, J1.ofTry ok, q⟩
end
end DL
end
section
set_option Elab.async false
set_option linter.all false
set_option maxRecDepth 100000
set_option maxHeartbeats 4000000
/-! DLo: a lambda without parameters handed to a def that calls it in a try and tells what came of it. -/
namespace DL
open PySem PySem.Spec L2 PyProof.Rows LamX
/-! ### isinstance of a caught error, where it is one -/
theorem ansT {K : PySem.W.Frag} {a C D : Addr} (e : PySem.W.kitOne K (.ref C) (.ref D) = some true) :
    PySem.Answers (fun s => K.In s.heap ∧ ∃ oe vs, s.heap.get? a = some oe ∧ oe.cls = .ref C ∧ oe.data = .fields vs) (.ref a) (.ref D) true := by
  intro dep tk prog w A R s hs
  obtain ⟨h0, g, d, tt, os⟩ := s
  obtain ⟨⟨KX, oe, vs, ho, hc, hd⟩, hq⟩ := hs
  have LT : PySem.W.Looks (model prog w) h0 (typeOf (.ref a)) (.ref C) := fun A Q E s k q => wpAny_typeOf_ref (k _ _ ho) (by rw [hc]; exact q)
  unfold PySem.W.kitOne at e
  unfold Builtin.«isinstance.nested»
  refine wpAny_bind (LT.at ?_)
  by_cases q : (Value.ref C == Value.ref D) = true
  · rw [if_pos q]
    first
      | exact wpAny_bind (wpAny_rule (hq tt))
      | exact wpAny_bind (wpAny_rule (wpAny_pure (hq tt)))
  · rw [if_neg q] at e ⊢
    obtain ⟨l1, l2, l3⟩ := PySem.W.kit_cls (M := model prog w) KX e
    have LI : PySem.W.Looks (model prog w) h0 (isInstance (.ref a) (.ref D)) true := LT.andThen l3
    refine wpAny_bind (l1.at ?_)
    rw [if_pos (by decide)]
    k_delta "plainIsInstance"
    refine wpAny_bind (wpAny_bind (l2.at ?_))
    simp only [Bool.not_true, Bool.false_eq_true, if_false]
    refine wpAny_bind (LI.at ?_)
    first
      | exact wpAny_pure (wpAny_pure (hq tt))
      | (simp only [if_true]; first | exact wpAny_pure (wpAny_pure (hq tt)) | exact wpAny_pure (hq tt) | exact wpAny_bind (wpAny_pure (wpAny_pure (hq tt))))
def rIsT (a D : Addr) : List V → Hp → VK → Prop := fun xs H Q => xs = [.ref a, .ref D] ∧ Q (.bl true) H
theorem call_isT {X : Cx} {a C D : Addr} {oe : Obj} {d : Option Addr} {pn : List (Addr × Obj)} (hz : Zc (.ref C) d oe) (hf : ∃ vs, oe.data = .fields vs) (e : PySem.W.kitOne X.K (.ref C) (.ref D) = some true) :
    CallR (X.suite a ((a, oe) :: pn)) (.builtin "isinstance") (rIsT a D) := by
  intro pins s σ H xs us Q I r h
  obtain ⟨rfl, q⟩ := h
  cases r with
  | cons rx rr =>
    cases rr with
    | cons rt rr =>
      cases rr
      cases rx
      cases rt
      obtain ⟨hget, _⟩ := I.pin (a, oe) (List.mem_append.mpr (.inl List.mem_cons_self))
      obtain ⟨vs, hv⟩ := hf
      exact PySem.call_isinstance (S := fun _ R s => (X.K.In s.heap ∧ ∃ oe vs, s.heap.get? a = some oe ∧ oe.cls = .ref C ∧ oe.data = .fields vs) ∧ ∀ tk, R (.ok (.ret (.bool true))) { s with toks := tk })
        (fun prog w A R s hs => PySem.isinstance_outer (ansT e 0 _ prog w A R s hs) (fun z => nomatch z)) ⟨⟨I.kIn, oe, vs, hget, hz.1, hv⟩, fun tk => ⟨.bl true, H, I.kept (t' := tk) fun _ _ z => z, rfl, q⟩⟩

/-! ### the lambda called by the def that got it -/
theorem takes_len {X : Cx} {W : WX} (tk : Takes X W) : Takes X (fun c d σ H => σ.length = X.N.length → W c d σ H) := fun u s' ⟨a, B, sI, pins, σ, H, cls, d, e, I, nb, up, sky, na, os, ag, w⟩ =>
  tk u s' ⟨a, B, sI, pins, σ, H, cls, d, e, I, nb, up, sky, na, os, ag, w I.len⟩
theorem act_lam {X : Cx} {pins : List (Addr × Obj)} {σ : L2.St} {H : Hp} {s : Shared} {Eg : XK} {Ng : List Str} {qg : Str} {sg : Scope} {g f c' : Addr} {cdg pm ctv : Value} {params : Arguments} {body : Expr} {scope : Scope} {k i : Nat} {a : Str} {pn : List (Addr × Obj)} {xe : Value → Shared → Prop} {W : WX} {E : XK} {tb : TE} {p1 p2 : Pos}
    (I : Inv X pins σ H s) (L : LamS X.env.scope scope) (hf : s.heap.get? f = some (PySem.W.kla_obj "<lambda>" (X.env.qual ++ "<lambda>") params body scope (cloFrom X.env.cells scope.names []) pm c' ctv)) (hfn : H f = none) (hfr : f ∉ frs X.stack)
    (hbind : bindArgs (PySem.W.kla_fn "<lambda>" (X.env.qual ++ "<lambda>") params body scope (cloFrom X.env.cells scope.names []) pm (.ref c') ctv) ⟨[], []⟩ = pure [])
    (tk : Takes ((cxOf C8.CX0 X.prog X.w X.K X.mg X.base Ng qg sg g cdg X.A X.stack s H Eg).tr pn xe) W) (hW : ∀ cls d σ' H', σ'.length = Ng.length → E cls d H' → W cls d σ' H') (hr : Room (k + 1) (X.A.deeper (envOfC qg sg s.heap.objs.size g cdg)))
    (hbody : ∀ (s1 : Shared) (H1 : Hp), Room k ((X.A.deeper (envOfC qg sg s.heap.objs.size g cdg)).deeper (lamEnv X scope s1.heap.objs.size f c')) → PE (lamCx X (X.A.deeper (envOfC qg sg s.heap.objs.size g cdg)) (envOfC qg sg s.heap.objs.size g cdg :: X.stack) s1 H1 E scope f c') body tb)
    (hN : Ng[i]? = some a) (hv : Vis sg a) (hd : (a == ("__debug__" : Str)) = false) (hcd : (a == ("__classdict__" : Str)) = false) :
    PE ((cxOf C8.CX0 X.prog X.w X.K X.mg X.base Ng qg sg g cdg X.A X.stack s H Eg).tr pn xe) (.Call (.Name a p1) [] [] p2)
      (fun σZ HZ Q => σZ[i]? = some (some (.ref f)) ∧ HZ c' = some (CodeO c' (X.env.qual ++ "<lambda>")) ∧ tb σ HZ Q) := by
  refine ⟨fun pinsZ sZ σZ HZ Q IZ ⟨hs, hc, ht⟩ => wpAny_Call_Name_kw (thn ((pe_var (pos := p1) (i := i) hN hv hd hcd).run pinsZ sZ σZ HZ (fun v H1 => v = .ref f ∧ H1 = HZ) IZ ⟨.ref f, hs, rfl, rfl⟩) fun u s1 ⟨v, H1, I1, r1, ev, eH⟩ => ?_)⟩
  subst ev eH
  obtain rfl : u = Value.ref f := r1
  have of1 := I1.base.keep f _ hf hfn hfr (fun z => nomatch (show f ∈ ([] : List Addr) from z))
  refine PySem.W.callWith_F0 ⟨_, _, _, _, of1⟩ ?_
  have un : Un (frs X.stack) [] H H1 s.heap s1.heap := I1.base
  obtain ⟨⟨oc, vs, t, hoc, hdc, hvc⟩, _, _⟩ := I1.hok c' _ hc
  have rc : codeAny (model X.prog X.w) (X.A.deeper (envOfC qg sg s.heap.objs.size g cdg)) (.call (.ref f) ⟨[], []⟩) (CR (L2.CX X.prog X.w) (envOfC qg sg s.heap.objs.size g cdg :: X.stack) X.prog X.w H1 s1 Q E) s1 := by
    refine PySem.W.kla_callFunE hr.depth of1 rfl L.co L.gen rfl ⟨c', oc, vs, t, rfl, hoc, hdc, hvc⟩ ?_
    rw [hbind]
    refine wpAny_pure (wpAny_newFunctionEnv (fun y hy => (L.own y hy).2) (fun y hy => absurd hy (by simp)) (fun h₁ hns hsb => ⟨I1.nolimit.fresh _ hsb, ?_⟩) L.kind)
    have kp : ∀ b o, s1.heap.get? b = some o → h₁.get? b = some o := fun b o e => hsb.extBut b o (Nat.ne_of_lt (Heap.lt_size e)) (Heap.get?_push_of_some _ e)
    have J := lam_start2 (X := X) (tk := s1.toks + ([] : List (Str × Value)).length) (f := f) (c' := c') (E := E) I L I1.env0 hr.hd un hns kp
    refine PySem.W.kla_codeExpr (wpAny_mono ((hbody s1 H1 (hr.deeper _)).run [] _ _ H1 Q J ht) (fun v s' ⟨w', H', J', rv, q⟩ => ⟨w', H', J'.os, J'.bare, J'.base, J'.hok, rv, q⟩) fun e s' hq => hq)
  have hx := passes_call (takes_len tk) (E := E) (fun cls d σ' H' e hl => hW cls d σ' H' hl e)
  refine wpAny_call (codeAny_mono rc fun r s' hq => ?_)
  cases r with
  | error e => exact hx pinsZ σZ H1 s1 e s' I1 hq
  | ok fl =>
    cases fl with
    | ret u => exact I1.after hq
    | _ => exact False.elim hq
/-- a def that calls what it got (LamX.GivesTo, the wish told with the slots' number) -/
def Gives2 (X : Cx) (Ng : List Str) (x : Str) (sg : Scope) (g : Addr) (cdg : Value) (bg : List Stmt) (a : Str) (q : Str) (TT : (XK → Hp → VK → Prop) → Hp → VK → Prop) : Prop :=
  ∀ (f c' : Addr) (s : Shared) (H : Hp) (Q : VK) (tl : XK → Hp → VK → Prop), Room 1 (X.A.deeper (envOfC x sg s.heap.objs.size g cdg)) →
    (∀ (W : WX) (pn : List (Addr × Obj)) (xe : Value → Shared → Prop) (E : XK) (p1 p2 : Pos), Takes ((cxOf C8.CX0 X.prog X.w X.K X.mg X.base Ng x sg g cdg X.A X.stack s H C8.E0).tr pn xe) W → (∀ cls d σ' H', σ'.length = Ng.length → E cls d H' → W cls d σ' H') →
      PE ((cxOf C8.CX0 X.prog X.w X.K X.mg X.base Ng x sg g cdg X.A X.stack s H C8.E0).tr pn xe) (.Call (.Name a p1) [] [] p2) (fun σZ HZ Q => σZ[0]? = some (some (.ref f)) ∧ HZ c' = some (CodeO c' q) ∧ tl E HZ Q)) →
    H c' = some (CodeO c' q) → TT tl H Q →
    ∃ t, PSs (cxOf C8.CX0 X.prog X.w X.K X.mg X.base Ng x sg g cdg X.A X.stack s H C8.E0) bg t ∧ t { nx := fun _ H' => Q .non H', rt := Q } (L2.start Ng [.ref f]) H
def tLam2 (T : Tbs) (TT : (XK → Hp → VK → Prop) → Hp → VK → Prop) (t : XK → TE) : TE := fun σ H Q => Tabs T H ∧ ∀ H1, ExtN H H1 → (∀ a, H a ≠ none → H1 a ≠ none) → Tabs T H1 → TT (fun E H' Q' => t E σ H' Q') H1 Q
/-- x(lambda: body) -/
theorem pe_lam2 {X : Cx} {T : Tbs} {TT : (XK → Hp → VK → Prop) → Hp → VK → Prop} {x a : Str} {g c P : Addr} {k : Nat} {pg : Arguments} {bg : List Stmt} {sg : Scope} {dV kV doc pm cdv ct oc : Value} {an od : Option Addr} {osl : Array (Option Value)} {Ng : List Str}
    {params : Arguments} {body : Expr} {scope : Scope} {t : XK → TE} {p lpos pos : Pos} (hg : Gl X x) (hm : X.mg x = some (.ref g)) (hk : PySem.W.keepIn X.K (.ref g) = true)
    (lk : X.K.lookup g = some ⟨oc, od, .func (PySem.W.fnOf x x pg bg sg dV kV doc pm an cdv ct), osl⟩) (hcg : PySem.W.codeIn X.K cdv x = true) (hb : L2.Binds X.K (PySem.W.fnOf x x pg bg sg dV kV doc pm an cdv ct) [a] []) (Sg : FnScope Ng [a] sg) (hNg : Ng[0]? = some a) (hva : Vis sg a)
    (hG : Gives2 X Ng x sg g cdv bg a (X.env.qual ++ "<lambda>") TT) (hgd : X.A.guards = some [])
    (TB : TabB X.base X.mg c P) (hcode : X.env.code = .ref c) (hmT : (P, X.env.qual ++ "<lambda>") ∈ T) (hu : ∀ p ∈ T, p.1 = P → p.2 = X.env.qual ++ "<lambda>") (hr : Room (k + 2) X.A) (L : LamS X.env.scope scope) (hdef : defaultsOf params X.env = ([], []))
    (hbind : ∀ (q : Str) (cl : List (Str × Addr)) (pm cv ctv : Value), bindArgs (PySem.W.kla_fn "<lambda>" q params body scope cl pm cv ctv) ⟨[], []⟩ = pure [])
    (hbody : ∀ (A : Around) (outer : List Env) (s : Shared) (H : Hp) (E : XK) (f c' : Addr), A.guards = some [] → Room k (A.deeper (lamEnv X scope s.heap.objs.size f c')) → PE (lamCx X A outer s H E scope f c') body (t E))
    (hdb : (x == ("__debug__" : Str)) = false := by decide) (hd : (a == ("__debug__" : Str)) = false := by decide) (hcd : (a == ("__classdict__" : Str)) = false := by decide) :
    PE X (.Call (.Name x p) [.Lambda params body scope lpos] [] pos) (tLam2 T TT t) := by
  refine ⟨fun pins s σ H Q I ⟨hT, h⟩ => wpAny_Call_Name_kw (ld_glob I hg hm (PySem.W.callWith_K (h₀ := X.base) I.ok.mod.kin hk ?_ (by rfl) (by rfl)) hdb)⟩
  show wpAny _ _ (spliced ((false, eval (.Lambda params body scope lpos) X.env) :: backTo pos (starEach [] X.env))) _ _ s
  refine Calls.spliced_cons (lam_makeD I TB hcode hmT hu hT hdef (L.has I.ok) fun f c' pm' ctv H1 s' I1 eN th T1 _ hf hfn hfr hco _ => Calls.spliced_nil ⟨I1.kIn, ?_⟩)
  have rc : codeAny (model X.prog X.w) X.A (.call (.ref g) ⟨[.ref f], []⟩) (CR C8.CX0 X.stack X.prog X.w H1 s' Q C8.E0) s' :=
    run_ofS (N := Ng) (ps := [a]) (us := [.ref f]) (vs := [.ref f]) lk hcg Sg hr I1.env0 (hb s' [.ref f] I1.kIn rfl) (.cons rfl .nil) rfl fun hr' =>
      hG f c' s' H1 Q (fun E H' Q' => t E σ H' Q') (hr'.mono (by omega)) (fun W pn xe E p1 p2 tk hW => act_lam (i := 0) I1 L hf hfn hfr (hbind _ _ _ _ _) tk hW hr' (fun s1 H2 hr2 => hbody _ _ s1 H2 E f c' hgd hr2) hNg hva hd hcd) hco (h H1 eN th T1)
  refine wpAny_call (codeAny_mono rc fun r s2 hq => ?_)
  cases r with
  | error e => exact (show False from hq).elim
  | ok fl =>
    cases fl with
    | ret u => exact I1.after hq
    | _ => exact False.elim hq
end DL
end
section
set_option Elab.async false
set_option linter.all false
set_option maxRecDepth 100000
set_option maxHeartbeats 4000000
/-! DLp: the clauses' answers on data; what the def tells. -/
namespace DL
open PySem PySem.Spec L2 PyProof.Rows LamX
/-- what stands in a clause's tuple: a text, repr(e.f), e.f, isinstance(e, c) where it is one -/
inductive HEl where
  | str (s : Str) | rep (f : Str) | fld (f : Str) | isT
structure Hnd where
  cls : Str
  els : List HEl
def HEl.ev (x : Ex) : HEl → Option D
  | .str s => some (.str s)
  | .rep f => (x.fs.lookup f).bind fun d => (fRepr [d]).map Rs.d
  | .fld f => x.fs.lookup f
  | .isT => some (.bl true)
def evs (x : Ex) : List HEl → Option (List D)
  | [] => some []
  | e :: r => (e.ev x).bind fun d => (evs x r).map (d :: ·)
/-- what comes of the call -/
def heardR (told : Option Str) (hs : List Hnd) : Res D → Res Rs
  | .ok d ρ => .ok (match told with
    | some t => .sh (.tup [.str t, d])
    | none => .sh .non) ρ
  | .ex x ρ => match hs.find? (fun h => h.cls == x.cls) with
    | some h => match evs x h.els with
      | some ds => if ds.length ≤ 1000000 then .ok (.sh (.tup ds)) ρ else .no
      | none => .no
    | none => .no
  | .no => .no
def gHeard (told : Option Str) (hs : List Hnd) (f : GE) : GW := fun ρ => heardR told hs (f ρ)

def XcAt (g : Gx) (F H : Hp) (d : Option Addr) (x : Ex) : Prop := Same F H ∧ (x.fs ≠ [] → ∃ dd vs, d = some dd ∧ F dd = some (.xd vs) ∧ Df g F vs x.fs)
theorem Df.look {g : Gx} {F : Hp} {f : Str} : ∀ {vs : List (Str × V)} {ds : List (Str × D)} {d : D}, Df g F vs ds → ds.lookup f = some d → ∃ v, vs.lookup f = some v ∧ Dd g F v d
  | _, _, _, .nil, e => by cases e
  | (k, v) :: vs, (_, d') :: ds, d, .cons h r, e => by
    simp only [List.lookup] at e ⊢
    split at e
    · cases e
      exact ⟨v, rfl, h⟩
    · exact Df.look r e
/-- an element's reading -/
def tHe (g : Gx) (a : Addr) (cls : Value) (d : Option Addr) (i : Nat) (C : Addr) (el : HEl) : TE := fun σ H Q => σ[i]? = some (some (.ref a)) ∧ cls = .ref C ∧ ∃ F x D, XcAt g F H d x ∧ el.ev x = some D ∧ ∀ v, Dd g F v D → Q v H
def tHes (g : Gx) (a : Addr) (cls : Value) (d : Option Addr) (i : Nat) (C : Addr) (els : List HEl) : TA := fun σ H Q => σ[i]? = some (some (.ref a)) ∧ cls = .ref C ∧ ∃ F x ds, XcAt g F H d x ∧ evs x els = some ds ∧ ∀ vs, Ds g F vs ds → Q vs H
section
variable {T : Tbs} {X : Cx} {a C : Addr} {oe : Obj} {cls : Value} {d : Option Addr} {pn : List (Addr × Obj)} {i k : Nat} {n s fld : Str} {p p1 p2 p3 : Pos} {j : Nat} {el : HEl} {els : List HEl} {e : Expr} {es : List Expr}
theorem he_str : PE (X.suite a ((a, oe) :: pn)) (.Constant (.str s) j p) (tHe (gx T X) a cls d i C (.str s)) := PE.weak pe_str fun σ H Q ⟨_, _, F, x, D, h, e, q⟩ => by
  cases e
  exact q _ (.str s)
theorem he_fld (XF : XfC X.K C) (hno : PySem.W.findIn X.K (.ref C) fld = some none) (hz : Zc cls d oe) (hf : ∃ vs, oe.data = .fields vs) (hN : X.N[i]? = some n := by rfl) (hv : Vis X.env.scope n := by first | exact Or.inl rfl | exact Or.inr (Or.inl rfl)) (hd : (n == ("__debug__" : Str)) = false := by decide)
    (hcd : (n == ("__classdict__" : Str)) = false := by decide) (hb : attributeBase (.Name n p1) fld X.env (eval (.Name n p1) X.env) = eval (.Name n p1) X.env := by rfl) :
    PE (X.suite a ((a, oe) :: pn)) (.Attribute (.Name n p1) fld p2) (tHe (gx T X) a cls d i C (.fld fld)) :=
  PE.weak (pe_xf XF hno hz hf (pe_var (X := X.suite a ((a, oe) :: pn)) (i := i) hN hv hd hcd) hb) fun σ H Q ⟨hs, hc, F, x, D, ⟨sF, h⟩, e, q⟩ => by
    have e : x.fs.lookup fld = some D := e
    obtain ⟨dd, vs, e1, e2, e3⟩ := h (fun z => by rw [z] at e; cases e)
    obtain ⟨v, l, dv⟩ := e3.look e
    exact ⟨_, hs, rfl, hc, dd, vs, v, e1, sF _ _ e2, l, q v dv⟩
theorem he_rep (XF : XfC X.K C) (hno : PySem.W.findIn X.K (.ref C) fld = some none) (hz : Zc cls d oe) (hf : ∃ vs, oe.data = .fields vs) (hun : X.A.units + 200 < cLine) (hgd : X.A.guards = some []) (hg : Gl X "repr") (hm : X.mg "repr" = none) (hN : X.N[i]? = some n := by rfl)
    (hv : Vis X.env.scope n := by first | exact Or.inl rfl | exact Or.inr (Or.inl rfl)) (hd : (n == ("__debug__" : Str)) = false := by decide) (hcd : (n == ("__classdict__" : Str)) = false := by decide)
    (hb : attributeBase (.Name n p1) fld X.env (eval (.Name n p1) X.env) = eval (.Name n p1) X.env := by rfl) (h1 : starEach [.Attribute (.Name n p1) fld p2] X.env = (false, eval (.Attribute (.Name n p1) fld p2) X.env) :: starEach [] X.env := by rfl)
    (h2 : (backTo p3 (starEach [] X.env)).any (·.1) = false := by rfl) :
    PE (X.suite a ((a, oe) :: pn)) (.Call (.Name "repr" p) [.Attribute (.Name n p1) fld p2] [] p3) (tHe (gx T X) a cls d i C (.rep fld)) :=
  PE.weak (pe_callB (X := X.suite a ((a, oe) :: pn)) (cr_reprD (T := T) (X := X.suite a ((a, oe) :: pn)) hun hgd) hg hm (by decide +kernel) (pa_cons (he_fld (T := T) XF hno hz hf hN hv hd hcd hb) pa_nil h1) (by decide) (by decide) h1 h2) fun σ H Q ⟨hs, hc, F, x, D, h, e, q⟩ => by
    have e : ((x.fs.lookup fld).bind fun d => (fRepr [d]).map Rs.d) = some D := e
    obtain ⟨d0, e1, e2⟩ := Option.bind_eq_some_iff.mp e
    refine ⟨hs, hc, F, x, d0, h, e1, fun v dv => ?_⟩
    simp only [fRepr] at e2
    split at e2
    · rename_i hh
      cases e2
      simp only [Bool.and_eq_true, decide_eq_true_eq] at hh
      exact ⟨v, d0, F, rfl, .inl dv, h.1, hh.1.1.1, hh.1.1.2, hh.1.2, hh.2, q _ (.str _)⟩
    · cases e2
theorem he_isT {cn : Str} {E : Addr} (hz : Zc cls d oe) (hf : ∃ vs, oe.data = .fields vs) (hk : PySem.W.kitOne X.K (.ref C) (.ref E) = some true) (hg : Gl X "isinstance") (hm : X.mg "isinstance" = none) (hgc : Gl X cn) (hmc : X.mg cn = some (.ref E)) (hN : X.N[i]? = some n := by rfl)
    (hv : Vis X.env.scope n := by first | exact Or.inl rfl | exact Or.inr (Or.inl rfl)) (hd : (n == ("__debug__" : Str)) = false := by decide) (hcd : (n == ("__classdict__" : Str)) = false := by decide) (hdc : (cn == ("__debug__" : Str)) = false := by decide)
    (h1 : starEach [.Name n p1, .Name cn p2] X.env = (false, eval (.Name n p1) X.env) :: starEach [.Name cn p2] X.env := by rfl) (h3 : starEach [.Name cn p2] X.env = (false, eval (.Name cn p2) X.env) :: starEach [] X.env := by rfl)
    (h2 : (backTo p3 (starEach [.Name cn p2] X.env)).any (·.1) = false := by rfl) :
    PE (X.suite a ((a, oe) :: pn)) (.Call (.Name "isinstance" p) [.Name n p1, .Name cn p2] [] p3) (tHe (gx T X) a cls d i C .isT) := by
  refine ⟨fun pins s σ H Q I ⟨hs, hc, F, x, D, h, e, q⟩ => ?_⟩
  subst hc
  cases e
  have P := pe_callB (pos := p3) (p := p) (X := X.suite a ((a, oe) :: pn)) (call_isT hz hf hk) hg hm (by decide +kernel) (pa_cons (pe_var (X := X.suite a ((a, oe) :: pn)) (pos := p1) (i := i) hN hv hd hcd) (pa_cons (pe_glob (X := X.suite a ((a, oe) :: pn)) (v := .ref E) (pos := p2) hgc hmc rfl hdc) pa_nil h3) h1) (by decide) (by decide) h1 h2
  exact P.run pins s σ H Q I ⟨_, hs, rfl, q _ (.bl true)⟩
theorem hes_nil : PA (X.suite a ((a, oe) :: pn)) [] (tHes (gx T X) a cls d i C []) := PA.weak pa_nil fun σ H Q ⟨_, _, F, x, ds, h, e, q⟩ => by
  cases e
  exact q _ .nil
theorem hes_cons (h1 : PE (X.suite a ((a, oe) :: pn)) e (tHe (gx T X) a cls d i C el)) (h2 : PA (X.suite a ((a, oe) :: pn)) es (tHes (gx T X) a cls d i C els)) (hs : starEach (e :: es) X.env = (false, eval e X.env) :: starEach es X.env := by rfl) :
    PA (X.suite a ((a, oe) :: pn)) (e :: es) (tHes (gx T X) a cls d i C (el :: els)) := PA.weak (pa_cons (X := X.suite a ((a, oe) :: pn)) h1 h2 hs) fun σ H Q ⟨hi, hc, F, x, ds, h, e, q⟩ => by
  obtain ⟨D, e1, e2⟩ := Option.bind_eq_some_iff.mp (show ((el.ev x).bind fun d => (evs x els).map (d :: ·)) = some ds from e)
  obtain ⟨Ds', e3, rfl⟩ := Option.map_eq_some_iff.mp e2
  exact ⟨hi, hc, F, x, D, h, e1, fun v dv => ⟨hi, hc, F, x, Ds', h, e3, fun vs dvs => q _ (.cons dv dvs)⟩⟩
end
/-- a clause's suite: return (..) -/
def suT (g : Gx) (i : Nat) (C : Addr) (els : List HEl) : Su := fun a cls d Dn σ H => σ[i]? = some (some (.ref a)) ∧ cls = .ref C ∧ ∃ F x ds, XcAt g F H d x ∧ evs x els = some ds ∧ ds.length ≤ 1000000 ∧ ∀ vs p, Ds g F vs ds → H p = none → Dn.rt (.ref p) (upd H p (.tup vs))
theorem hd_nil {X : Cx} {n : Str} : HdsAs X n [] [] := .nil
theorem hd_cons {T : Tbs} {X : Cx} {n x : Str} {C : Addr} {i : Nat} {els : List HEl} {es : List Expr} {np pos' p3 p4 : Pos} {kt : Nat} {hds : List ExceptHandler} {l : List (Value × Su)} (hg : Gl X x) (hm : X.mg x = some (.ref C))
    (hsu : ∀ (a : Addr) (oe : Obj) (cls : Value) (d : Option Addr) (pn : List (Addr × Obj)), Zc cls d oe → (∃ vs, oe.data = .fields vs) → PA (X.suite a ((a, oe) :: pn)) es (tHes (gx T X) a cls d i C els)) (r : HdsAs X n hds l) (hd : (x == ("__debug__" : Str)) = false := by decide)
    (hns : (starEach es X.env).any (·.1) = false := by rfl) :
    HdsAs X n (.ExceptHandler (some (.Name x np)) (some n) [.Return (some (.Tuple es kt p3)) p4] pos' :: hds) ((.ref C, suT (gx T X) i C els) :: l) :=
  .cons ⟨hg, hd, .inl hm⟩ (fun a oe cls d pn hz hf => PSs.weak (pss_one (ps_ret (pe_tup (hsu a oe cls d pn hz hf)))) fun Dn σ H ⟨hi, hc, F, x, ds, h, e, hz, q⟩ => ⟨hi, hc, F, x, ds, h, e, fun vs dvs => ⟨by rw [dvs.length]; exact Nat.le_trans hz mil, fun p np => q vs p dvs np⟩⟩) r
end DL
end
section
set_option Elab.async false
set_option linter.all false
set_option maxRecDepth 100000
set_option maxHeartbeats 4000000
/-! DLq: heard(lambda: e), on data. -/
namespace DL
open PySem PySem.Spec L2 PyProof.Rows LamX
/-- what an exception comes to -/
def WExc (g : Gx) (hsC : List (Addr × Hnd)) (cls : Value) (d : Option Addr) (H : Hp) (Q : VK) : Prop :=
  ∃ F x p ds, p ∈ hsC ∧ (hsC.map (·.2)).find? (fun h => h.cls == x.cls) = some p.2 ∧ cls = .ref p.1 ∧ XcAt g F H d x ∧ evs x p.2.els = some ds ∧ ds.length ≤ 1000000 ∧ ∀ vs t, Ds g F vs ds → H t = none → Q (.ref t) (upd H t (.tup vs))
def WTold (told : Option Str) (v : V) (H : Hp) (Q : VK) : Prop := match told with
  | some t => ∀ p, H p = none → Q (.ref p) (upd H p (.tup [.str t, v]))
  | none => Q .non H
def THd (g : Gx) (told : Option Str) (hsC : List (Addr × Hnd)) (tl : XK → Hp → VK → Prop) (H : Hp) (Q : VK) : Prop :=
  ∃ E : XK, (∀ cls d H', E cls d H' → WExc g hsC cls d H' Q) ∧ ∀ P : VK, (∀ v H', WTold told v H' Q → P v H') → tl E H P
abbrev clsOf (g : Gx) (i : Nat) (hsC : List (Addr × Hnd)) : List (Value × Su) := hsC.map fun p => (.ref p.1, suT g i p.1 p.2.els)
/-- which clause takes which error -/
def ExmOk (K : PySem.W.Frag) (hsC : List (Addr × Hnd)) : Prop := ∀ p ∈ hsC, ∀ q ∈ hsC, PySem.W.exmOne K (.ref p.1) (.ref q.1) = some (q.2.cls == p.2.cls)
theorem wish_of {g : Gx} {K : PySem.W.Frag} {i : Nat} {Wout : WX} {Dn : Ends} {σ : L2.St} {H : Hp} {d : Option Addr} {F : Hp} {x : Ex} {C : Addr} {h : Hnd} {ds : List D} {Q : VK} (hi : i < σ.length) (hq : Dn.rt = Q) (hx : h.cls = x.cls) (ha : XcAt g F H d x) (he : evs x h.els = some ds) (hz : ds.length ≤ 1000000)
    (q : ∀ vs t, Ds g F vs ds → H t = none → Q (.ref t) (upd H t (.tup vs))) : ∀ {l : List (Addr × Hnd)}, (∀ p ∈ l, PySem.W.exmOne K (.ref C) (.ref p.1) = some (p.2.cls == x.cls)) → (∀ p ∈ l, p.2.cls = x.cls → p.1 = C) → (l.map (·.2)).find? (fun h => h.cls == x.cls) = some h → wAsM K i Wout Dn (clsOf g i l) (.ref C) d σ H
  | [], _, _, e => by cases e
  | p :: l, h1, h2, e => by
    refine ⟨_, h1 p List.mem_cons_self, fun hb a na => ?_, fun hb => ?_⟩
    · have e2 : p.2 = h := by
        rw [List.map_cons, List.find?_cons_of_pos (p := fun h : Hnd => h.cls == x.cls) hb] at e
        exact Option.some.inj e
      have e3 := h2 p List.mem_cons_self (by simpa using hb)
      rw [e2, e3]
      refine ⟨List.getElem?_set_self hi, rfl, F, x, ds, ha, he, hz, fun vs t dvs nt => ?_⟩
      show Dn.rt _ _
      rw [hq]
      exact q vs t dvs nt
    · rw [List.map_cons, List.find?_cons_of_neg (p := fun h : Hnd => h.cls == x.cls) (by rw [hb]; exact Bool.false_ne_true)] at e
      exact wish_of hi hq hx ha he hz q (fun p hp => h1 p (List.mem_cons_of_mem _ hp)) (fun p hp => h2 p (List.mem_cons_of_mem _ hp)) e
section
variable {T : Tbs} {X : Cx} {Ng : List Str} {x a n q t : Str} {sg : Scope} {g : Addr} {cdg : Value} {hsC : List (Addr × Hnd)} {h₀ : ExceptHandler} {hds : List ExceptHandler} {p0 p1 p2 p3 p4 p5 p6 p7 : Pos} {j kt : Nat}
theorem wExc_wish {Q : VK} {Dn : Ends} {E : XK} (hE : ∀ cls d H', E cls d H' → WExc (gx T X) hsC cls d H' Q) (hq : Dn.rt = Q) (hN : 1 < Ng.length) (hex : ExmOk X.K hsC) (hun : ∀ p ∈ hsC, ∀ q ∈ hsC, p.2.cls = q.2.cls → p.1 = q.1) {Wout : WX} :
    ∀ cls d σ' H', σ'.length = Ng.length → E cls d H' → wAsM X.K 1 Wout Dn (clsOf (gx T X) 1 hsC) cls d σ' H' := fun cls d σ' H' hl e => by
  obtain ⟨F, x, p, ds, hp, hf, rfl, ha, he, hz, qq⟩ := hE cls d H' e
  have hx : p.2.cls = x.cls := by simpa using List.find?_some hf
  exact wish_of (by rw [hl]; exact hN) hq hx ha he hz qq (fun q hq => by rw [hex p hp q hq, hx]) (fun q hq e => hun q hq p hp (e.trans hx.symm)) hf
/-- try: return (t, a()) except ..: .. -/
theorem heard_told (hex : ExmOk X.K hsC) (hun : ∀ p ∈ hsC, ∀ q ∈ hsC, p.2.cls = q.2.cls → p.1 = q.1) (hN : 1 < Ng.length) (h0 : ∀ f : Addr, (L2.start Ng [V.ref f])[0]? = some (some (V.ref f))) (nd : Ng.Nodup) (hn : Ng[1]? = some n) (hln : sg.names.lookup n = some .local)
    (hh : ∀ (f : Addr) (s : Shared) (H : Hp), Room 1 (X.A.deeper (envOfC x sg s.heap.objs.size g cdg)) → HdsAs (cxOf C8.CX0 X.prog X.w X.K X.mg X.base Ng x sg g cdg X.A X.stack s H C8.E0) n (h₀ :: hds) (clsOf (gx T X) 1 hsC)) :
    Gives2 X Ng x sg g cdg [.Try [.Return (some (.Tuple [.Constant (.str t) j p0, .Call (.Name a p1) [] [] p2] kt p3)) p4] (h₀ :: hds) [] [] p5] a q (THd (gx T X) (some t) hsC) := by
  intro f c' s H Q tl hr act hc h
  obtain ⟨E, hE, ht⟩ := h
  refine ⟨_, pss_one (ps_try_asM (X := cxOf C8.CX0 X.prog X.w X.K X.mg X.base Ng x sg g cdg X.A X.stack s H C8.E0) (i := 1) (n := n)
      (tb := fun W Dn σ H => (∀ cls d σ' H', σ'.length = Ng.length → E cls d H' → W cls d σ' H') ∧ σ[0]? = some (some (.ref f)) ∧ H c' = some (CodeO c' q) ∧ ∀ P : VK, (∀ v H', (∀ p, H' p = none → Dn.rt (.ref p) (upd H' p (.tup [.str t, v]))) → P v H') → tl E H P)
      rfl rfl nd hn hln L2.takes0 (fun W pn xe tk _ => ?_) (hh f s H hr)), ?_⟩
  · refine ⟨fun pins s' σ H' D I ⟨hW, h1, h2, h3⟩ => ?_⟩
    have hp := act W pn xe E p1 p2 tk hW
    have ha := pa_cons (pe_str (x := t) (j := j) (pos := p0)) (pa_cons hp pa_nil)
    exact (pss_one (ps_ret (pos := p4) (pe_tup (x1 := kt) (pos := p3) ha))).run pins s' σ H' D I ⟨h1, h2, h3 _ fun v H' q => ⟨by show 2 ≤ sizeLine; rw [sizeLine_eq]; decide, q⟩⟩
  · exact ⟨wExc_wish hE rfl hN hex hun, h0 f, hc, ht⟩
/-- try: a() except ..: .. behind it: return None -/
theorem heard_plain (hex : ExmOk X.K hsC) (hun : ∀ p ∈ hsC, ∀ q ∈ hsC, p.2.cls = q.2.cls → p.1 = q.1) (hN : 1 < Ng.length) (h0 : ∀ f : Addr, (L2.start Ng [V.ref f])[0]? = some (some (V.ref f))) (nd : Ng.Nodup) (hn : Ng[1]? = some n) (hln : sg.names.lookup n = some .local)
    (hh : ∀ (f : Addr) (s : Shared) (H : Hp), Room 1 (X.A.deeper (envOfC x sg s.heap.objs.size g cdg)) → HdsAs (cxOf C8.CX0 X.prog X.w X.K X.mg X.base Ng x sg g cdg X.A X.stack s H C8.E0) n (h₀ :: hds) (clsOf (gx T X) 1 hsC)) :
    Gives2 X Ng x sg g cdg [.Try [.Expr (.Call (.Name a p1) [] [] p2) p4] (h₀ :: hds) [] [] p5, .Return (some (.Constant .none j p6)) p7] a q (THd (gx T X) none hsC) := by
  intro f c' s H Q tl hr act hc h
  obtain ⟨E, hE, ht⟩ := h
  refine ⟨_, pss_cons (ps_try_asM (X := cxOf C8.CX0 X.prog X.w X.K X.mg X.base Ng x sg g cdg X.A X.stack s H C8.E0) (i := 1) (n := n)
      (tb := fun W Dn σ H => (∀ cls d σ' H', σ'.length = Ng.length → E cls d H' → W cls d σ' H') ∧ σ[0]? = some (some (.ref f)) ∧ H c' = some (CodeO c' q) ∧ ∀ P : VK, (∀ v H', Dn.nx σ H' → P v H') → tl E H P)
      rfl rfl nd hn hln L2.takes0 (fun W pn xe tk _ => ?_) (hh f s H hr)) (pss_one (ps_ret pe_non)), ?_⟩
  · refine ⟨fun pins s' σ H' D I ⟨hW, h1, h2, h3⟩ => ?_⟩
    exact (pss_one (ps_expr (pos := p4) (act W pn xe E p1 p2 tk hW))).run pins s' σ H' D I ⟨h1, h2, h3 _ fun v H' q => q⟩
  · exact ⟨wExc_wish hE rfl hN hex hun, h0 f, hc, fun P hP => ht P fun v H' q => hP v H' q⟩
end

/-- the def of the name x tells what came of what it got -/
def Hrd (T : Tbs) (P : Program) (w : World) (K : PySem.W.Frag) (mg : Str → Option Value) (base : Heap) (x : Str) (st : Stmt) (a : Str) (Ng : List Str) (told : Option Str) (hs : List Hnd) : Prop :=
  ∃ (g : Addr) (fd : FuncData) (hsC : List (Addr × Hnd)), mg x = some (.ref g) ∧ Fun K x x st g fd ∧ hsC.map (·.2) = hs ∧ (∀ p ∈ hsC, mg p.2.cls = some (.ref p.1)) ∧
    ∀ (X : Cx) (q : Str), X.prog = P → X.w = w → X.K = K → X.mg = mg → X.base = base → X.A.guards = some [] → Gives2 X Ng x (defScope st) g fd.code (defBody st) a q (THd ⟨K, mg, T⟩ told hsC)
theorem extN_rep {g : Gx} {F H H1 : Hp} {σ : L2.St} {ρ : List Sl} (R : Rep g F H σ ρ) (eN : ExtN H H1) (th : ∀ a, H a ≠ none → H1 a ≠ none) (T1 : Tabs g.T H1) : Go g σ ρ F H σ ρ F H1 :=
  Go.growT R (Same.refl _) (fun a o e n => eN a o e n) th (fun a o e => eN a o (R.fr a o e) fun ps z => R.tb.2 a ps (by rw [e, z])) (fun _ _ => rfl) ⟨T1, R.tb.2⟩
theorem dw_heard {T : Tbs} {X : Cx} {W : WX} {x a : Str} {st : Stmt} {Ng : List Str} {told : Option Str} {hs : List Hnd} {c P : Addr} {k : Nat} {params : Arguments} {body : Expr} {scope : Scope} {p lpos pos : Pos} {f : GE} (C : Hrd T X.prog X.w X.K X.mg X.base x st a Ng told hs) (hb : ByPlace st x [a]) (Sg : FnScope Ng [a] (defScope st))
    (hNg : Ng[0]? = some a) (hva : Vis (defScope st) a) (hgd : X.A.guards = some []) (TB : TabB X.base X.mg c P) (hcode : X.env.code = .ref c) (hmT : (P, X.env.qual ++ "<lambda>") ∈ T) (hu : ∀ p ∈ T, p.1 = P → p.2 = X.env.qual ++ "<lambda>") (hr : Room (k + 2) X.A) (L : LamS X.env.scope scope) (hg : Gl X x)
    (hbody : ∀ (A : Around) (outer : List Env) (s : Shared) (H : Hp) (E : XK) (f0 c' : Addr), A.guards = some [] → Room k (A.deeper (lamEnv X scope s.heap.objs.size f0 c')) → DE T (lamCx X A outer s H E scope f0 c') (fun c d _ H => E c d H) body f)
    (hdef : defaultsOf params X.env = ([], []) := by rfl) (hbind : ∀ (q : Str) (cl : List (Str × Addr)) (pm cv ctv : Value), bindArgs (PySem.W.kla_fn "<lambda>" q params body scope cl pm cv ctv) ⟨[], []⟩ = pure [] := by intros; rfl)
    (hdb : (x == ("__debug__" : Str)) = false := by decide) (hd : (a == ("__debug__" : Str)) = false := by decide) (hcd : (a == ("__classdict__" : Str)) = false := by decide) :
    DW T X W (.Call (.Name x p) [.Lambda params body scope lpos] [] pos) (gHeard told hs f) := by
  obtain ⟨g, fd, hsC, hm, Fn, ehs, hcl, G⟩ := C
  have hbd := Fn.binds hb
  obtain ⟨oc, od, kV, doc, pm, an, cdv, ct, osl, rfl, lk, hcg⟩ := Fn.ex
  refine PE.weak (pe_lam2 (t := fun E => tG (gx T X) (fun c d _ H => E c d H) relD f) hg hm Fn.kp lk hcg hbd Sg hNg hva (G X _ rfl rfl rfl rfl rfl hgd) hgd TB hcode hmT hu hr L hdef hbind (fun A outer s H E f0 c' h1 h2 => hbody A outer s H E f0 c' h1 h2) hdb hd hcd) fun σ H Q ⟨F, ρ, R, q⟩ => ⟨R.tb.1, fun H1 eN th T1 => ?_⟩
  have g1 := extN_rep R eN th T1
  have q : AtW (gx T X) W (heardR told hs (f ρ)) σ ρ F H Q := q
  refine ⟨fun cls d H' => ∃ F' ρ' y, f ρ = .ex y ρ' ∧ Go (gx T X) σ ρ F H σ ρ' F' H' ∧ ExOk (gx T X) F' cls d y, fun cls d H' ⟨F', ρ', y, ey, go, xk⟩ => ?_, fun Pk hP => ⟨F, ρ, g1.rep, ?_⟩⟩
  · rw [ey] at q
    have q : AtW (gx T X) W (match hs.find? (fun h => h.cls == y.cls) with
      | some h => match evs y h.els with
        | some ds => if ds.length ≤ 1000000 then .ok (.sh (.tup ds)) ρ' else .no
        | none => .no
      | none => .no) σ ρ F H Q := q
    cases e1 : hs.find? (fun h => h.cls == y.cls) with
    | none => rw [e1] at q; exact False.elim q
    | some h =>
      rw [e1] at q
      cases e2 : evs y h.els with
      | none => simp only [e2] at q; exact False.elim q
      | some ds =>
        simp only [e2] at q
        split at q
        · rename_i hz
          obtain ⟨Cx', m1, rfl, m3⟩ := xk
          have hmem := List.mem_of_find?_eq_some e1
          rw [← ehs] at hmem e1
          obtain ⟨pr, hpr, epr⟩ := List.mem_map.mp hmem
          have hcy : h.cls = y.cls := by simpa using List.find?_some e1
          have e3 := hcl pr hpr
          rw [epr, hcy] at e3
          have m1 : X.mg y.cls = some (.ref Cx') := m1
          rw [m1] at e3
          cases e3
          refine ⟨F', y, pr, ds, hpr, by rw [epr]; exact e1, rfl, ⟨go.rep.fr, m3⟩, by rw [epr]; exact e2, hz, fun vs t dvs nt => ?_⟩
          have g2 := Go.alloc go.rep nt (.tup vs) (fun ps z => nomatch z)
          exact q (.ref t) _ _ (go.trans g2) (.tup upd_same (dvs.mono g2.fF))
        · exact False.elim q
  · cases e : f ρ with
    | ok d ρ' =>
      rw [e] at q
      refine fun v F' H' go dd => hP v H' ?_
      have goT := g1.trans go
      cases told with
      | none => exact q .non F' H' goT .non
      | some t =>
        intro pt npt
        have g2 := Go.alloc goT.rep npt (.tup [.str t, v]) (fun ps z => nomatch z)
        exact q (.ref pt) _ _ (goT.trans g2) (.tup upd_same (.cons (.str t) (.cons (dd.mono g2.fF) .nil)))
    | ex y ρ' => exact fun F' H' cls d go xk => ⟨F', ρ', y, rfl, g1.trans go, xk⟩
    | no => rw [e] at q; exact False.elim q
end DL
end
section
set_option Elab.async false
set_option linter.all false
set_option maxRecDepth 100000
set_option maxHeartbeats 4000000
/-! DLt: sorted(set(xs)), xs a list of pairs of small ints. -/
namespace DL
open PySem PySem.Spec L2
/-! ### strictly rising lists -/
section
variable {α : Type} (lt : α → α → Bool)
def insU (x : α) : List α → List α
  | [] => [x]
  | y :: r => if lt x y = true then x :: y :: r else if lt y x = true then y :: insU x r else y :: r
def sortU (xs : List α) : List α := xs.foldr (insU lt) []
end
structure StrictLt {α : Type} (lt : α → α → Bool) : Prop where
  irr : ∀ a, lt a a = false
  tr : ∀ a b c, lt a b = true → lt b c = true → lt a c = true
  tri : ∀ a b, lt a b = false → lt b a = false → a = b
section
variable {α : Type} {lt : α → α → Bool} (S : StrictLt lt)
include S
theorem mem_insU {x y : α} : ∀ {l : List α}, y ∈ insU lt x l ↔ y = x ∨ y ∈ l
  | [] => by simp [insU]
  | z :: r => by
    unfold insU
    split
    · simp
    · rename_i h1
      split
      · rw [List.mem_cons, mem_insU, List.mem_cons]
        constructor <;> (intro h; rcases h with h | h | h <;> simp [h])
      · rename_i h2
        have e := S.tri x z (by simpa using h1) (by simpa using h2)
        subst e
        simp
theorem insU_up {x : α} : ∀ {l : List α}, l.Pairwise (fun a b => lt a b = true) → (insU lt x l).Pairwise (fun a b => lt a b = true)
  | [], _ => by simp [insU]
  | z :: r, h => by
    obtain ⟨h1, h2⟩ := List.pairwise_cons.mp h
    unfold insU
    split
    · rename_i q
      refine List.pairwise_cons.mpr ⟨fun y hy => ?_, h⟩
      rcases List.mem_cons.mp hy with rfl | hy
      · exact q
      · exact S.tr _ _ _ q (h1 y hy)
    · split
      · rename_i q
        refine List.pairwise_cons.mpr ⟨fun y hy => ?_, insU_up h2⟩
        rcases (mem_insU S).mp hy with rfl | hy
        · exact q
        · exact h1 y hy
      · exact h
theorem mem_sortU {y : α} : ∀ {l : List α}, y ∈ sortU lt l ↔ y ∈ l
  | [] => by simp [sortU]
  | z :: r => by
    show y ∈ insU lt z (sortU lt r) ↔ _
    rw [mem_insU S, mem_sortU, List.mem_cons]
theorem sortU_up : ∀ (l : List α), (sortU lt l).Pairwise (fun a b => lt a b = true)
  | [] => .nil
  | z :: r => insU_up S (sortU_up r)
/-- two strictly rising lists of the same things are one -/
theorem up_ext : ∀ {l m : List α}, l.Pairwise (fun a b => lt a b = true) → m.Pairwise (fun a b => lt a b = true) → (∀ y, y ∈ l ↔ y ∈ m) → l = m
  | [], [], _, _, _ => rfl
  | [], y :: m, _, _, h => absurd ((h y).mpr List.mem_cons_self) (by simp)
  | y :: l, [], _, _, h => absurd ((h y).mp List.mem_cons_self) (by simp)
  | x :: l, y :: m, h1, h2, h => by
    obtain ⟨a1, a2⟩ := List.pairwise_cons.mp h1
    obtain ⟨b1, b2⟩ := List.pairwise_cons.mp h2
    have e : x = y := by
      rcases List.mem_cons.mp ((h x).mp List.mem_cons_self) with e | e
      · exact e
      · rcases List.mem_cons.mp ((h y).mpr List.mem_cons_self) with e2 | e2
        · exact e2.symm
        · have q := S.tr _ _ _ (b1 x e) (a1 y e2)
          rw [S.irr] at q
          cases q
    subst e
    rw [up_ext a2 b2 fun y => ⟨fun hy => ?_, fun hy => ?_⟩]
    · rcases List.mem_cons.mp ((h y).mp (List.mem_cons_of_mem _ hy)) with e | e
      · rw [e] at hy
        have q := a1 x hy
        rw [S.irr] at q
        cases q
      · exact e
    · rcases List.mem_cons.mp ((h y).mpr (List.mem_cons_of_mem _ hy)) with e | e
      · rw [e] at hy
        have q := b1 x hy
        rw [S.irr] at q
        cases q
      · exact e
theorem sortU_is {l m : List α} (h : m.Pairwise (fun a b => lt a b = true)) (hm : ∀ y, y ∈ m ↔ y ∈ l) : sortU lt l = m := up_ext S (sortU_up S l) h fun y => (mem_sortU S).trans (hm y).symm
end
def ltP (a b : Int × Int) : Bool := decide (a.1 < b.1) || (decide (a.1 = b.1) && decide (a.2 < b.2))
theorem ltP_is {a b : Int × Int} : ltP a b = true ↔ a.1 < b.1 ∨ (a.1 = b.1 ∧ a.2 < b.2) := by simp [ltP]
theorem ltP_strict : StrictLt ltP where
  irr := fun a => by
    cases h : ltP a a with
    | false => rfl
    | true => rcases ltP_is.mp h with h | h <;> omega
  tr := fun a b c h1 h2 => ltP_is.mpr (by rcases ltP_is.mp h1 with h1 | h1 <;> rcases ltP_is.mp h2 with h2 | h2 <;> omega)
  tri := fun a b h1 h2 => by
    have n1 : ¬ (a.1 < b.1 ∨ (a.1 = b.1 ∧ a.2 < b.2)) := fun z => by rw [ltP_is.mpr z] at h1; cases h1
    have n2 : ¬ (b.1 < a.1 ∨ (b.1 = a.1 ∧ b.2 < a.2)) := fun z => by rw [ltP_is.mpr z] at h2; cases h2
    obtain ⟨a1, a2⟩ := a
    obtain ⟨b1, b2⟩ := b
    simp only at n1 n2
    have e1 : a1 = b1 := by omega
    have e2 : a2 = b2 := by omega
    rw [e1, e2]
/-! ### pairs as data -/
def eP2 (p : Int × Int) : D := .tup [.int p.1, .int p.2]
def pairD : D → Option (Int × Int)
  | .tup [.int a, .int b] => some (a, b)
  | _ => none
def pairsD : List D → Option (List (Int × Int))
  | [] => some []
  | d :: r => (pairD d).bind fun p => (pairsD r).map (p :: ·)
theorem pairD_is {d : D} {p : Int × Int} (h : pairD d = some p) : d = eP2 p := by
  unfold pairD at h
  split at h
  · cases h; rfl
  · cases h
@[simp] theorem pairsD_map : ∀ (ps : List (Int × Int)), pairsD (ps.map eP2) = some ps
  | [] => rfl
  | p :: r => by
    rw [List.map_cons]
    show ((pairD (eP2 p)).bind fun p => (pairsD (r.map eP2)).map (p :: ·)) = _
    rw [pairsD_map r]
    rfl
theorem pairsD_is : ∀ {ds : List D} {ps : List (Int × Int)}, pairsD ds = some ps → ds = ps.map eP2
  | [], _, h => by cases h; rfl
  | d :: r, ps, h => by
    obtain ⟨p, h1, h2⟩ := Option.bind_eq_some_iff.mp (show ((pairD d).bind fun p => (pairsD r).map (p :: ·)) = some ps from h)
    obtain ⟨q, h3, rfl⟩ := Option.map_eq_some_iff.mp h2
    rw [pairD_is h1, pairsD_is h3]
    rfl
def smP (p : Int × Int) : Bool := decide (0 ≤ p.1) && decide (p.1 < 64) && decide (0 ≤ p.2) && decide (p.2 < 64)
def fSortSet : List D → Option Rs
  | [.lst ds] => match pairsD ds with
    | some ps => if decide (ps.length < 64) && ps.all smP then some (.ow (.lst ((sortU ltP ps).map eP2))) else none
    | none => none
  | _ => none
theorem smP_is {p : Int × Int} (h : smP p = true) : (0 ≤ p.1 ∧ p.1 < 64) ∧ 0 ≤ p.2 ∧ p.2 < 64 := by
  simp only [smP, Bool.and_eq_true, decide_eq_true_eq] at h
  exact ⟨⟨h.1.1.1, h.1.1.2⟩, h.1.2, h.2⟩
/-- where they stand -/
theorem pairs_at {g : Gx} {F : Hp} : ∀ {vs : List V} {ps : List (Int × Int)}, Ds g F vs (ps.map eP2) → ∃ ks : List (Addr × List Int), vs = ks.map (fun p => V.ref p.1) ∧ ks.map (·.2) = ps.map (fun p => [p.1, p.2]) ∧ ∀ p ∈ ks, F p.1 = some (.tup (p.2.map V.int))
  | _, [], .nil => ⟨[], rfl, rfl, fun p h => absurd h (by simp)⟩
  | _, p :: ps, .cons h r => by
    obtain ⟨ks, e1, e2, e3⟩ := pairs_at r
    cases h with
    | tup h1 h2 =>
      rename_i a xs
      have e := Ds.ints (ns := [p.1, p.2]) h2
      subst e
      refine ⟨(a, [p.1, p.2]) :: ks, by rw [e1]; rfl, by rw [List.map_cons, List.map_cons, e2], fun q hq => ?_⟩
      rcases List.mem_cons.mp hq with rfl | hq
      · exact h1
      · exact e3 q hq

def toP : List Int → Int × Int
  | [a, b] => (a, b)
  | _ => (0, 0)
theorem code_lt {a b : Int × Int} (h : TS.code 64 [a.1, a.2] ≤ TS.code 64 [b.1, b.2]) (ha : smP a = true) (hb : smP b = true) (ne : a ≠ b) : ltP a b = true := by
  obtain ⟨a1, a2⟩ := smP_is ha
  obtain ⟨b1, b2⟩ := smP_is hb
  refine ltP_is.mpr (pair_lt h (fun z => ne ?_) a1 a2 b1 b2)
  simp only [List.cons.injEq, and_true] at z
  exact Prod.ext z.1 z.2
theorem dw_sortSet {T : Tbs} {X : Cx} {W : WX} {e : Expr} {fa : GA} {p1 p2 p3 p4 : Pos} (hc : X.calm = true) (hu : X.A.units + 64 < cLine) (hg : Gl X "sorted") (hm : X.mg "sorted" = none) (hg2 : Gl X "set") (hm2 : X.mg "set" = none) (ha : DA T X W [e] fa)
    (h1 : starEach [e] X.env = (false, eval e X.env) :: starEach [] X.env := by rfl) (h2 : (backTo p3 (starEach [] X.env)).any (·.1) = false := by rfl)
    (h3 : starEach [.Call (.Name "set" p2) [e] [] p3] X.env = (false, eval (.Call (.Name "set" p2) [e] [] p3) X.env) :: starEach [] X.env := by rfl) (h4 : (backTo p4 (starEach [] X.env)).any (·.1) = false := by rfl) :
    DW T X W (.Call (.Name "sorted" p1) [.Call (.Name "set" p2) [e] [] p3] [] p4) (gCall fSortSet fa) :=
  PE.weak (pe_callB (cr_sortedT hc) hg hm (by decide +kernel) (pa_cons (pe_callTy (cr_setOfT hc hu) hg2 hm2 (by decide +kernel) ha (by decide) (by decide) h1 h2) pa_nil h3) (by decide) (by decide) h3 h4) fun σ H Q q =>
    gCall_at (r := fun vs H Q => rSetOfT X.K X.prog X.w vs H fun x H2 => rSortedT X.K X.prog X.w [x] H2 Q) (fun W σ ρ F H xs ds c Q R rs hcφ q => by
      unfold fSortSet at hcφ
      split at hcφ
      · rename_i ds0
        split at hcφ
        · rename_i ps hps
          split at hcφ
          · rename_i hz
            cases hcφ
            simp only [Bool.and_eq_true, decide_eq_true_eq, List.all_eq_true] at hz
            obtain ⟨hz1, hz2⟩ := hz
            obtain ⟨x, rfl, rv⟩ := rs.one
            obtain ⟨l, vs, rfl, hl, dvs⟩ : ∃ l vs, x = V.ref l ∧ SqL X.K H l vs ∧ Ds (gx T X) F vs ds0 := by
              rcases rv with rv | ⟨l, rfl, vs, hl, dvs⟩
              · cases rv with
                | lst h1 h2 => exact ⟨_, _, rfl, .of (R.fr _ _ h1), h2⟩
              · exact ⟨l, vs, rfl, .of hl, dvs⟩
            rw [pairsD_is hps] at dvs
            obtain ⟨ks, e1, e2, e3⟩ := pairs_at dvs
            subst e1
            have lk : ks.length = ps.length := by have := congrArg List.length e2; simpa using this
            have kin : ∀ p ∈ ks, ∃ q ∈ ps, p.2 = [q.1, q.2] := fun p hp => by
              have : p.2 ∈ ks.map (·.2) := List.mem_map_of_mem hp
              rw [e2] at this
              obtain ⟨q, hq, e⟩ := List.mem_map.mp this
              exact ⟨q, hq, e.symm⟩
            refine ⟨l, ks, rfl, hl, fun p hp => .of (R.fr _ _ (e3 p hp)), by omega, fun a L na hL1 hL2 => ?_⟩
            have nFa : F a = none := R.fr.free na
            have up1 : ∀ p ∈ L, upd H a (SetTO X.prog X.w a L) p.1 = some (.tup (p.2.map V.int)) := fun p hp => by
              have q := R.fr _ _ (e3 p (hL1 p hp))
              rw [upd_ne (ne_of_none q na)]
              exact q
            refine ⟨a, L, 2, 64, rfl, upd_same, fun p hp => .of (up1 p hp), by decide, fun p hp => ?_, fun L' pn pm nd hf pw npn => ?_⟩
            · obtain ⟨q, hq, e⟩ := kin p (hL1 p hp)
              rw [e]
              obtain ⟨b1, b2⟩ := smP_is (hz2 q hq)
              exact ⟨rfl, fun m hm => by
                rcases List.mem_cons.mp hm with rfl | hm
                · exact b1
                · rw [List.mem_singleton.mp hm]; exact b2⟩
            · have mL : ∀ p, p ∈ L' → p ∈ ks := fun p hp => hL1 p (pm.mem_iff.mp hp)
              have es : sortU ltP ps = L'.map (fun p => toP p.2) := by
                refine sortU_is ltP_strict ?_ fun y => ?_
                · rw [List.pairwise_map]
                  refine List.Pairwise.imp_of_mem ?_ (pw.and (List.pairwise_map.mp nd))
                  intro p r hp hr ⟨h1, h2⟩
                  obtain ⟨q, hq, eq⟩ := kin p (mL p hp)
                  obtain ⟨q', hq', eq'⟩ := kin r (mL r hr)
                  rw [eq, eq'] at h1 h2 ⊢
                  exact code_lt h1 (hz2 q hq) (hz2 q' hq') (fun z => h2 (congrArg (fun p : Int × Int => [p.1, p.2]) z))
                · rw [List.mem_map]
                  constructor
                  · rintro ⟨p, hp, rfl⟩
                    obtain ⟨q, hq, eq⟩ := kin p (mL p hp)
                    rw [eq]
                    exact hq
                  · intro hy
                    have : [y.1, y.2] ∈ ks.map (·.2) := by rw [e2]; exact List.mem_map.mpr ⟨y, hy, rfl⟩
                    obtain ⟨p, hp, ep⟩ := List.mem_map.mp this
                    obtain ⟨p', hp', ep'⟩ := List.mem_map.mp (hL2 p hp)
                    exact ⟨p', pm.mem_iff.mpr hp', by rw [ep', ep]; rfl⟩
              have g1 := Go.allocO R na (SetTO X.prog X.w a L)
              have g2 := Go.allocO g1.rep npn (.lst (L'.map fun q => V.ref q.1))
              have nHp : H pn = none := by
                have : upd H a (SetTO X.prog X.w a L) pn = none := npn
                by_cases z : pn = a
                · rw [z, upd_same] at this; cases this
                · rw [upd_ne z] at this; exact this
              refine q pn F _ (g1.trans g2) (R.fr.free nHp) ⟨_, upd_same, ?_⟩ (R.noOa nHp) nHp
              rw [es, List.map_map]
              have go : ∀ {M : List (Addr × List Int)}, (∀ p ∈ M, p ∈ ks) → Ds (gx T X) F (M.map fun q => V.ref q.1) (M.map (eP2 ∘ fun p => toP p.2)) := by
                intro M
                induction M with
                | nil => intro _; exact .nil
                | cons m M ih =>
                  intro h
                  have hm := h m List.mem_cons_self
                  obtain ⟨q, hq, eq⟩ := kin m hm
                  have h1 := e3 m hm
                  rw [List.map_cons, List.map_cons]
                  refine .cons ?_ (ih fun p hp => h p (List.mem_cons_of_mem _ hp))
                  rw [Function.comp_apply, eq]
                  rw [eq] at h1
                  exact .tup h1 (.cons (.int _) (.cons (.int _) .nil))
              exact go mL
          · cases hcφ
        · cases hcφ
      · cases hcφ) q
end DL
end
section
set_option Elab.async false
set_option linter.all false
set_option maxRecDepth 100000
set_option maxHeartbeats 4000000
/-! DLu: errors by name, for generated texts. -/
namespace DL
open PySem PySem.Spec L2 PyProof.Rows PySem.W
theorem un64 {k : Nat} {A : Around} (r : Room k A) : A.units + 64 < cLine := by have := r.un; omega
theorem un200 {k : Nat} {A : Around} (r : Room k A) : A.units + 200 < cLine := by have := r.un; omega
theorem allOf1 {α : Type} {P : α → Prop} {a : α} (h : P a) : ∀ p ∈ [a], P p := fun p hp => by rw [List.mem_singleton.mp hp]; exact h
theorem allOf2 {α : Type} {P : α → Prop} {a b : α} (h : P a) (h2 : P b) : ∀ p ∈ [a, b], P p := fun p hp => (List.mem_cons.mp hp).elim (fun e => by rw [e]; exact h) (allOf1 h2 p)
theorem allOf3 {α : Type} {P : α → Prop} {a b c : α} (h : P a) (h2 : P b) (h3 : P c) : ∀ p ∈ [a, b, c], P p := fun p hp => (List.mem_cons.mp hp).elim (fun e => by rw [e]; exact h) (allOf2 h2 h3 p)
theorem allOf4 {α : Type} {P : α → Prop} {a b c d : α} (h : P a) (h2 : P b) (h3 : P c) (h4 : P d) : ∀ p ∈ [a, b, c, d], P p := fun p hp => (List.mem_cons.mp hp).elim (fun e => by rw [e]; exact h) (allOf3 h2 h3 h4 p)
def initOf (s : Stmt) : Stmt := match s with
  | .ClassDef _ _ _ (f :: _) _ _ _ _ _ _ _ => f
  | s => s
/-- the error of the name x, its one field fld -/
def Rais (P : Program) (w : World) (K : PySem.W.Frag) (mg : Str → Option Value) (base : Heap) (x fld : Str) : Prop :=
  ∃ (C fI : Addr) (fd : FuncData) (B newId initId : String) (tl : List Value) (sf : Str), mg x = some (.ref C) ∧ ExB B newId initId tl ∧ OwnE K C B newId tl fld ∧ findIn K (.ref C) "__init__" = some (some (.ref fI)) ∧ typeIn K (.ref fI) = some (.type "function") ∧
    FnOk P w K mg base C8.CX0 1 fI fd [sf, fld] (spI C fld) ∧ L2.Binds K fd [sf, fld] []
theorem ds_raiseC {Tb : Tbs} {X : Cx} {W : WX} {x fld : Str} {e : Expr} {f : GE} {p pos pos' : Pos} {k : Nat} (R : Rais X.prog X.w X.K X.mg X.base x fld) (hc : X.calm = true) (tk : Takes X W) (hr : Room k X.A) (hk : 2 ≤ k) (hg : Gl X x) (he : DE Tb X W e f)
    (hdb : (x == ("__debug__" : Str)) = false := by decide) (h1 : starEach [e] X.env = (false, eval e X.env) :: starEach [] X.env := by rfl) (h2 : (backTo pos (starEach [] X.env)).any (·.1) = false := by rfl) :
    DS Tb X W (.Raise (some (.Call (.Name x p) [e] [] pos)) none pos') (gRaise x fld f) := by
  obtain ⟨C, fI, fd, B, newId, initId, tl, sf, hm, XB, T, iC, tI, F1, hb⟩ := R
  exact ds_raise hc tk XB T iC tI F1 (hr.mono hk) hb hg hm he hdb h1 h2
theorem exB_ValueError : ExB "ValueError" "ValueError.__new__" "ValueError.__init__" [.type "ValueError", .type "Exception", .type "BaseException", .type "object"] := ⟨F.excBase_ValueError, kxs_ValueError, F.store_ValueError⟩
theorem rais_mk {P : Program} {w : World} {K : PySem.W.Frag} {mg : Str → Option Value} {base : Heap} {x fld sf qual txt : Str} {st : Stmt} {C fI cc cda : Addr} {B newId initId : String} {tl : List Value} {kV doc pm ct oc ccl cl : Value} {an od cdd cld : Option Addr} {osl ccs csl : Array (Option Value)} {fvs : Array Value} {file : Str} {tf : Tok} {p : SupPos} {ar : Arg}
    (hm : mg x = some (.ref C)) (nS : mg "super" = none) (XB : ExB B newId initId tl) (iC : findIn K (.ref C) "__init__" = some (some (.ref fI))) (lI : K.lookup fI = some ⟨oc, od, .func (ksFn "__init__" qual (defArgs st) (defBody st) (defScope st) .none kV doc pm an (.ref cda) ct cc), osl⟩)
    (tI : typeIn K (.ref fI) = some (.type "function")) (cI : codeIn K (.ref cda) qual = true) (dI : K.lookup cda = some ⟨ccl, cdd, .fields fvs, ccs⟩) (vI : fvs[2]? = some (.str file tf)) (flI : ((P.main.file : Str) == file) = true) (oI : K.lookup cc = some ⟨cl, cld, .cell (some (.ref C)), csl⟩)
    (sC : (clsIn K C).isSome = true) (mC : mroIn K C (.ref C) = some true) (uC : ks_superIn K C C "__init__" = some (some (.builtin initId))) (yC : nsIn K cStatics "thirdparty.any" = some none)
    (eC : excInitIn K C tl newId = true) (vC : excOver K C tl = true) (kC : takerIn K C fld = some none) (hC : hasDictIn K C = true) (zC : findIn K (.ref C) "__setattr__" = some (some (.builtin "object.__setattr__"))) (bC : subIn K (.ref C) (.type B) = some true) (xC : subIn K (.ref C) (.type "BaseException") = some true)
    (tC : typeIn K (.ref C) = some (.type "type")) (pC : keepIn K (.ref C) = true) (top : (P.main.scope.names.lookup ("super" : Str)).isSome = false)
    (hB : defBody st = supB p txt sf fld) (hS : (defScope st).names.lookup ("super" : Str) = some .globalImplicit ∧ (defScope st).names.lookup ("__class__" : Str) = some .free ∧ (defScope st).names.lookup sf = some .local ∧ (defScope st).names.lookup fld = some .local ∧ (∀ x ∈ (defScope st).names, x.2 ≠ .cell) ∧ (defScope st).isCoroutine = false ∧ (defScope st).isGenerator = false ∧ (defScope st).kind = .function ∧ sf ≠ fld)
    (Rd : ∀ L, SupRead p txt sf fld (ksEnv qual (defScope st) L fI (.ref cda) cc)) (hp : ((defArgs st).posonlyargs ++ (defArgs st).args).head? = some ar) (har : ar.arg = sf) (hd : (sf == ("__debug__" : Str)) = false ∧ (fld == ("__debug__" : Str)) = false ∧ (sf == ("__classdict__" : Str)) = false ∧ (fld == ("__classdict__" : Str)) = false)
    (hbind : ∀ (kV doc pm : Value) (an : Option Addr) (cdv ct : Value) (cc : Addr) (us : List Value), us.length = 2 → bindArgs (ksFn "__init__" qual (defArgs st) (defBody st) (defScope st) .none kV doc pm an cdv ct cc) ⟨us, []⟩ = pure ([sf, fld].zip us)) : Rais P w K mg base x fld := by
  have T : OwnE K C B newId tl fld := ⟨eC, vC, kC, hC, zC, bC, xC, tC, pC⟩
  have S : SupTxt P K mg C fI cc cda B initId qual sf fld (defScope st) := ⟨⟨_, _, _, oI⟩, cI, ⟨_, _, _, _, _, _, dI, vI, flI⟩, sC, mC, uC, yC, nS, top, hS.1, hS.2.1, hS.2.2.1, hS.2.2.2.1, hS.2.2.2.2.1, hS.2.2.2.2.2.1, hS.2.2.2.2.2.2.1, hS.2.2.2.2.2.2.2.1, hS.2.2.2.2.2.2.2.2⟩
  refine ⟨C, fI, _, B, newId, initId, tl, sf, hm, XB, T, iC, tI, sup_fn (p := p) (txt := txt) XB T S Rd (by rw [← hB]; exact lI) hp har hd.1 hd.2.1 hd.2.2.1 hd.2.2.2, ?_⟩
  rw [← hB]
  exact L2.Binds.all fun us hl => hbind _ _ _ _ _ _ _ us hl
end DL
end
section
set_option Elab.async false
set_option linter.all false
set_option maxRecDepth 100000
/-! DLx2: more mirrors, applied, as equations. -/
namespace DL
open PySem PySem.Spec L2
theorem gRaise_e (c fld : Str) (f : GE) (ρ : List Sl) : DL.gRaise c fld f ρ = (f ρ).bindS fun d ρ1 => .ex ⟨c, [(fld, d)]⟩ ρ1 := rfl
theorem gHeard_e (told : Option Str) (hs : List Hnd) (f : GE) (ρ : List Sl) : DL.gHeard told hs f ρ = heardR told hs (f ρ) := rfl
end DL
end
section
set_option Elab.async false
set_option linter.all false
set_option maxRecDepth 100000
set_option maxHeartbeats 4000000
/-! written by gen.py: the defs as functions on data, and that they are. -/
namespace K62
open PySem PySem.Spec L2 DL
def topS (i : Nat) : Stmt := PySem.Challenge.pw_keptwhole_k62_whole_parts_tell_all_three.main.body.getD i (.Pass ⟨0, 0, 0, 0⟩)
abbrev s_is_integer : Stmt := topS 4
abbrev N_is_integer : List Str := ["value"]
abbrev P_is_integer : List Str := ["value"]
theorem sc_is_integer : FnScope N_is_integer P_is_integer (defScope s_is_integer) := ⟨rfl, rfl, rfl, by decide +kernel, rfl, by decide +kernel, by decide +kernel⟩
theorem bp_is_integer : ByPlace s_is_integer "is_integer" P_is_integer := fun _ _ _ _ _ _ us hl => match us, hl with
  | [_], _ => rfl
abbrev s_is_number : Stmt := topS 5
abbrev N_is_number : List Str := ["value"]
abbrev P_is_number : List Str := ["value"]
theorem sc_is_number : FnScope N_is_number P_is_number (defScope s_is_number) := ⟨rfl, rfl, rfl, by decide +kernel, rfl, by decide +kernel, by decide +kernel⟩
theorem bp_is_number : ByPlace s_is_number "is_number" P_is_number := fun _ _ _ _ _ _ us hl => match us, hl with
  | [_], _ => rfl
abbrev s_is_below : Stmt := topS 6
abbrev N_is_below : List Str := ["value", "most"]
abbrev P_is_below : List Str := ["value", "most"]
theorem sc_is_below : FnScope N_is_below P_is_below (defScope s_is_below) := ⟨rfl, rfl, rfl, by decide +kernel, rfl, by decide +kernel, by decide +kernel⟩
theorem bp_is_below : ByPlace s_is_below "is_below" P_is_below := fun _ _ _ _ _ _ us hl => match us, hl with
  | [_, _], _ => rfl
abbrev s_is_sequence : Stmt := topS 7
abbrev N_is_sequence : List Str := ["value"]
abbrev P_is_sequence : List Str := ["value"]
theorem sc_is_sequence : FnScope N_is_sequence P_is_sequence (defScope s_is_sequence) := ⟨rfl, rfl, rfl, by decide +kernel, rfl, by decide +kernel, by decide +kernel⟩
theorem bp_is_sequence : ByPlace s_is_sequence "is_sequence" P_is_sequence := fun _ _ _ _ _ _ us hl => match us, hl with
  | [_], _ => rfl
abbrev s_is_base_hunk : Stmt := topS 9
abbrev N_is_base_hunk : List Str := ["base", "value", "low", "high", "things"]
abbrev P_is_base_hunk : List Str := ["base", "value"]
theorem sc_is_base_hunk : FnScope N_is_base_hunk P_is_base_hunk (defScope s_is_base_hunk) := ⟨rfl, rfl, rfl, by decide +kernel, rfl, by decide +kernel, by decide +kernel⟩
theorem bp_is_base_hunk : ByPlace s_is_base_hunk "is_base_hunk" P_is_base_hunk := fun _ _ _ _ _ _ us hl => match us, hl with
  | [_, _], _ => rfl
abbrev s_check_hunks : Stmt := topS 10
abbrev N_check_hunks : List Str := ["base", "value", "one", "other", "low", "high", "things"]
abbrev P_check_hunks : List Str := ["base", "value"]
theorem sc_check_hunks : FnScope N_check_hunks P_check_hunks (defScope s_check_hunks) := ⟨rfl, rfl, rfl, by decide +kernel, rfl, by decide +kernel, by decide +kernel⟩
theorem bp_check_hunks : ByPlace s_check_hunks "check_hunks" P_check_hunks := fun _ _ _ _ _ _ us hl => match us, hl with
  | [_, _], _ => rfl
abbrev s_put_hunks : Stmt := topS 11
abbrev N_put_hunks : List Str := ["rows", "low", "high", "hunks", "found", "at", "start", "end", "things"]
abbrev P_put_hunks : List Str := ["rows", "low", "high", "hunks"]
theorem sc_put_hunks : FnScope N_put_hunks P_put_hunks (defScope s_put_hunks) := ⟨rfl, rfl, rfl, by decide +kernel, rfl, by decide +kernel, by decide +kernel⟩
theorem bp_put_hunks : ByPlace s_put_hunks "put_hunks" P_put_hunks := fun _ _ _ _ _ _ us hl => match us, hl with
  | [_, _, _, _], _ => rfl
abbrev s_apply_hunks : Stmt := topS 12
abbrev N_apply_hunks : List Str := ["base", "hunks"]
abbrev P_apply_hunks : List Str := ["base", "hunks"]
theorem sc_apply_hunks : FnScope N_apply_hunks P_apply_hunks (defScope s_apply_hunks) := ⟨rfl, rfl, rfl, by decide +kernel, rfl, by decide +kernel, by decide +kernel⟩
theorem bp_apply_hunks : ByPlace s_apply_hunks "apply_hunks" P_apply_hunks := fun _ _ _ _ _ _ us hl => match us, hl with
  | [_, _], _ => rfl
abbrev s_stretches_of : Stmt := topS 13
abbrev N_stretches_of : List Str := ["ours", "theirs", "found", "low", "high", "things"]
abbrev P_stretches_of : List Str := ["ours", "theirs"]
theorem sc_stretches_of : FnScope N_stretches_of P_stretches_of (defScope s_stretches_of) := ⟨rfl, rfl, rfl, by decide +kernel, rfl, by decide +kernel, by decide +kernel⟩
theorem bp_stretches_of : ByPlace s_stretches_of "stretches_of" P_stretches_of := fun _ _ _ _ _ _ us hl => match us, hl with
  | [_, _], _ => rfl
abbrev s_part_of : Stmt := topS 14
abbrev N_part_of : List Str := ["base", "ours", "theirs", "low", "high", "here", "hunk", "there", "rows"]
abbrev P_part_of : List Str := ["base", "ours", "theirs", "low", "high"]
theorem sc_part_of : FnScope N_part_of P_part_of (defScope s_part_of) := ⟨rfl, rfl, rfl, by decide +kernel, rfl, by decide +kernel, by decide +kernel⟩
theorem bp_part_of : ByPlace s_part_of "part_of" P_part_of := fun _ _ _ _ _ _ us hl => match us, hl with
  | [_, _, _, _, _], _ => rfl
abbrev s_merge_parts : Stmt := topS 15
abbrev N_merge_parts : List Str := ["base", "ours", "theirs", "one", "other", "found", "at", "low", "high"]
abbrev P_merge_parts : List Str := ["base", "ours", "theirs"]
theorem sc_merge_parts : FnScope N_merge_parts P_merge_parts (defScope s_merge_parts) := ⟨rfl, rfl, rfl, by decide +kernel, rfl, by decide +kernel, by decide +kernel⟩
theorem bp_merge_parts : ByPlace s_merge_parts "merge_parts" P_merge_parts := fun _ _ _ _ _ _ us hl => match us, hl with
  | [_, _, _], _ => rfl
abbrev s_joined_rows : Stmt := topS 16
abbrev N_joined_rows : List Str := ["pieces", "found", "rows"]
abbrev P_joined_rows : List Str := ["pieces"]
theorem sc_joined_rows : FnScope N_joined_rows P_joined_rows (defScope s_joined_rows) := ⟨rfl, rfl, rfl, by decide +kernel, rfl, by decide +kernel, by decide +kernel⟩
theorem bp_joined_rows : ByPlace s_joined_rows "joined_rows" P_joined_rows := fun _ _ _ _ _ _ us hl => match us, hl with
  | [_], _ => rfl
abbrev s_base_of : Stmt := topS 17
abbrev N_base_of : List Str := ["parts", "part"]
abbrev P_base_of : List Str := ["parts"]
theorem sc_base_of : FnScope N_base_of P_base_of (defScope s_base_of) := ⟨rfl, rfl, rfl, by decide +kernel, rfl, by decide +kernel, by decide +kernel⟩
theorem bp_base_of : ByPlace s_base_of "base_of" P_base_of := fun _ _ _ _ _ _ us hl => match us, hl with
  | [_], _ => rfl
abbrev s_ours_of : Stmt := topS 18
abbrev N_ours_of : List Str := ["parts", "part"]
abbrev P_ours_of : List Str := ["parts"]
theorem sc_ours_of : FnScope N_ours_of P_ours_of (defScope s_ours_of) := ⟨rfl, rfl, rfl, by decide +kernel, rfl, by decide +kernel, by decide +kernel⟩
theorem bp_ours_of : ByPlace s_ours_of "ours_of" P_ours_of := fun _ _ _ _ _ _ us hl => match us, hl with
  | [_], _ => rfl
abbrev s_theirs_of : Stmt := topS 19
abbrev N_theirs_of : List Str := ["parts", "part"]
abbrev P_theirs_of : List Str := ["parts"]
theorem sc_theirs_of : FnScope N_theirs_of P_theirs_of (defScope s_theirs_of) := ⟨rfl, rfl, rfl, by decide +kernel, rfl, by decide +kernel, by decide +kernel⟩
theorem bp_theirs_of : ByPlace s_theirs_of "theirs_of" P_theirs_of := fun _ _ _ _ _ _ us hl => match us, hl with
  | [_], _ => rfl
abbrev s__law_box : Stmt := topS 21
abbrev N__law_box : List Str := ["_law_script", "_law_k", "_law_cell", "_law_great"]
abbrev P__law_box : List Str := ["_law_script", "_law_k"]
theorem sc__law_box : FnScope N__law_box P__law_box (defScope s__law_box) := ⟨rfl, rfl, rfl, by decide +kernel, rfl, by decide +kernel, by decide +kernel⟩
theorem bp__law_box : ByPlace s__law_box "_law_box" P__law_box := fun _ _ _ _ _ _ us hl => match us, hl with
  | [_, _], _ => rfl
abbrev s__law_take : Stmt := topS 22
abbrev N__law_take : List Str := ["_law_box_here", "_law_many", "_law_digit", "_law_raw"]
abbrev P__law_take : List Str := ["_law_box_here", "_law_many"]
theorem sc__law_take : FnScope N__law_take P__law_take (defScope s__law_take) := ⟨rfl, rfl, rfl, by decide +kernel, rfl, by decide +kernel, by decide +kernel⟩
theorem bp__law_take : ByPlace s__law_take "_law_take" P__law_take := fun _ _ _ _ _ _ us hl => match us, hl with
  | [_, _], _ => rfl
abbrev s__law_pick : Stmt := topS 23
abbrev N__law_pick : List Str := ["_law_box_here", "_law_some"]
abbrev P__law_pick : List Str := ["_law_box_here", "_law_some"]
theorem sc__law_pick : FnScope N__law_pick P__law_pick (defScope s__law_pick) := ⟨rfl, rfl, rfl, by decide +kernel, rfl, by decide +kernel, by decide +kernel⟩
theorem bp__law_pick : ByPlace s__law_pick "_law_pick" P__law_pick := fun _ _ _ _ _ _ us hl => match us, hl with
  | [_, _], _ => rfl
abbrev s__law_side : Stmt := topS 24
abbrev N__law_side : List Str := ["_law_box_here", "_law_base", "_law_many", "_law_found", "_law_at", "_law_turn", "_law_low", "_law_high", "_law_things", "_law_one"]
abbrev P__law_side : List Str := ["_law_box_here", "_law_base", "_law_many"]
theorem sc__law_side : FnScope N__law_side P__law_side (defScope s__law_side) := ⟨rfl, rfl, rfl, by decide +kernel, rfl, by decide +kernel, by decide +kernel⟩
theorem bp__law_side : ByPlace s__law_side "_law_side" P__law_side := fun _ _ _ _ _ _ us hl => match us, hl with
  | [_, _, _], _ => rfl
abbrev s__law_put : Stmt := topS 25
abbrev N__law_put : List Str := ["_law_base", "_law_hunks", "_law_rows", "_law_low", "_law_high", "_law_things"]
abbrev P__law_put : List Str := ["_law_base", "_law_hunks"]
theorem sc__law_put : FnScope N__law_put P__law_put (defScope s__law_put) := ⟨rfl, rfl, rfl, by decide +kernel, rfl, by decide +kernel, by decide +kernel⟩
theorem bp__law_put : ByPlace s__law_put "_law_put" P__law_put := fun _ _ _ _ _ _ us hl => match us, hl with
  | [_, _], _ => rfl
abbrev s__law_meet : Stmt := topS 26
abbrev N__law_meet : List Str := ["_law_one", "_law_other"]
abbrev P__law_meet : List Str := ["_law_one", "_law_other"]
theorem sc__law_meet : FnScope N__law_meet P__law_meet (defScope s__law_meet) := ⟨rfl, rfl, rfl, by decide +kernel, rfl, by decide +kernel, by decide +kernel⟩
theorem bp__law_meet : ByPlace s__law_meet "_law_meet" P__law_meet := fun _ _ _ _ _ _ us hl => match us, hl with
  | [_, _], _ => rfl
abbrev s__law_stretches : Stmt := topS 27
abbrev N__law_stretches : List Str := ["_law_ours", "_law_theirs", "_law_found", "_law_hunk", "_law_turn", "_law_one", "_law_other", "_law_some"]
abbrev P__law_stretches : List Str := ["_law_ours", "_law_theirs"]
theorem sc__law_stretches : FnScope N__law_stretches P__law_stretches (defScope s__law_stretches) := ⟨rfl, rfl, rfl, by decide +kernel, rfl, by decide +kernel, by decide +kernel⟩
theorem bp__law_stretches : ByPlace s__law_stretches "_law_stretches" P__law_stretches := fun _ _ _ _ _ _ us hl => match us, hl with
  | [_, _], _ => rfl
abbrev s__law_parts : Stmt := topS 28
abbrev N__law_parts : List Str := ["_law_base", "_law_ours", "_law_theirs", "_law_found", "_law_at", "_law_low", "_law_high", "_law_here", "_law_hunk", "_law_there", "_law_rows", "_law_word", "_law_part"]
abbrev P__law_parts : List Str := ["_law_base", "_law_ours", "_law_theirs"]
theorem sc__law_parts : FnScope N__law_parts P__law_parts (defScope s__law_parts) := ⟨rfl, rfl, rfl, by decide +kernel, rfl, by decide +kernel, by decide +kernel⟩
theorem bp__law_parts : ByPlace s__law_parts "_law_parts" P__law_parts := fun _ _ _ _ _ _ us hl => match us, hl with
  | [_, _, _], _ => rfl
abbrev s__law_exchanged : Stmt := topS 29
abbrev N__law_exchanged : List Str := ["_law_parts_here", "_law_found", "_law_part"]
abbrev P__law_exchanged : List Str := ["_law_parts_here"]
theorem sc__law_exchanged : FnScope N__law_exchanged P__law_exchanged (defScope s__law_exchanged) := ⟨rfl, rfl, rfl, by decide +kernel, rfl, by decide +kernel, by decide +kernel⟩
theorem bp__law_exchanged : ByPlace s__law_exchanged "_law_exchanged" P__law_exchanged := fun _ _ _ _ _ _ us hl => match us, hl with
  | [_], _ => rfl
abbrev s__law_none_right : Stmt := topS 31
abbrev N__law_none_right : List Str := ["_law_box_here", "_law_base", "_law_hunks", "_law_many", "_law_at", "_law_bad", "_law_odd"]
abbrev P__law_none_right : List Str := ["_law_box_here", "_law_base", "_law_hunks"]
theorem sc__law_none_right : FnScope N__law_none_right P__law_none_right (defScope s__law_none_right) := ⟨rfl, rfl, rfl, by decide +kernel, rfl, by decide +kernel, by decide +kernel⟩
theorem bp__law_none_right : ByPlace s__law_none_right "_law_none_right" P__law_none_right := fun _ _ _ _ _ _ us hl => match us, hl with
  | [_, _, _], _ => rfl
abbrev s_law : Stmt := topS 32
abbrev N_law : List Str := ["_law_script", "_law_k", "_law_box_here", "_law_base", "_law_at", "_law_ours", "_law_theirs", "_law_mixed", "_law_hunk", "_law_one", "_law_handed", "_law_low", "_law_high", "_law_things", "_law_parts_here", "_law_due"]
abbrev P_law : List Str := ["_law_script"]
theorem sc_law : FnScope N_law P_law (defScope s_law) := ⟨rfl, rfl, rfl, by decide +kernel, rfl, by decide +kernel, by decide +kernel⟩
theorem bp_law : ByPlace s_law "law" P_law := fun _ _ _ _ _ _ us hl => match us, hl with
  | [_], _ => rfl
abbrev s__law_heard : Stmt := topS 30
abbrev N__law_heard : List Str := ["_law_ask", "fault"]
abbrev P__law_heard : List Str := ["_law_ask"]
theorem sc__law_heard : FnScope N__law_heard P__law_heard (defScope s__law_heard) := ⟨rfl, rfl, rfl, by decide +kernel, rfl, by decide +kernel, by decide +kernel⟩
theorem bp__law_heard : ByPlace s__law_heard "_law_heard" P__law_heard := fun _ _ _ _ _ _ us hl => match us, hl with
  | [_], _ => rfl
def hs__law_heard : List Hnd := [⟨"Refused", [.str "refused", .rep "at", .isT]⟩]
theorem bn_base_of_parts : ByName s_base_of "base_of" P_base_of ["parts"] [0] := fun _ _ _ _ _ _ ws hl => match ws, hl with
  | [_], _ => rfl
theorem bn_check_hunks_value_base : ByName s_check_hunks "check_hunks" P_check_hunks ["value", "base"] [1, 0] := fun _ _ _ _ _ _ ws hl => match ws, hl with
  | [_, _], _ => rfl
theorem bn_merge_parts_theirs_ours_base : ByName s_merge_parts "merge_parts" P_merge_parts ["theirs", "ours", "base"] [2, 1, 0] := fun _ _ _ _ _ _ ws hl => match ws, hl with
  | [_, _, _], _ => rfl
theorem bn_ours_of_parts : ByName s_ours_of "ours_of" P_ours_of ["parts"] [0] := fun _ _ _ _ _ _ ws hl => match ws, hl with
  | [_], _ => rfl
theorem bn_theirs_of_parts : ByName s_theirs_of "theirs_of" P_theirs_of ["parts"] [0] := fun _ _ _ _ _ _ ws hl => match ws, hl with
  | [_], _ => rfl
abbrev i_Refused : Stmt := initOf (topS 2)
/-- what the top has written -/
structure Ok (T : Tbs) (P : Program) (w : World) (base : Heap) (K : PySem.W.Frag) (mg : Str → Option Value) : Prop where
  z_abs : mg "abs" = none
  z_all : mg "all" = none
  z_bool : mg "bool" = none
  z_int : mg "int" = none
  z_isinstance : mg "isinstance" = none
  z_len : mg "len" = none
  z_list : mg "list" = none
  z_max : mg "max" = none
  z_min : mg "min" = none
  z_range : mg "range" = none
  z_repr : mg "repr" = none
  z_reversed : mg "reversed" = none
  z_set : mg "set" = none
  z_sorted : mg "sorted" = none
  z_super : mg "super" = none
  z_tuple : mg "tuple" = none
  z_zip : mg "zip" = none
  h_is_integer : Has K mg "is_integer" s_is_integer
  h_is_number : Has K mg "is_number" s_is_number
  h_is_below : Has K mg "is_below" s_is_below
  h_is_sequence : Has K mg "is_sequence" s_is_sequence
  h_is_base_hunk : Has K mg "is_base_hunk" s_is_base_hunk
  h_check_hunks : Has K mg "check_hunks" s_check_hunks
  h_put_hunks : Has K mg "put_hunks" s_put_hunks
  h_apply_hunks : Has K mg "apply_hunks" s_apply_hunks
  h_stretches_of : Has K mg "stretches_of" s_stretches_of
  h_part_of : Has K mg "part_of" s_part_of
  h_merge_parts : Has K mg "merge_parts" s_merge_parts
  h_joined_rows : Has K mg "joined_rows" s_joined_rows
  h_base_of : Has K mg "base_of" s_base_of
  h_ours_of : Has K mg "ours_of" s_ours_of
  h_theirs_of : Has K mg "theirs_of" s_theirs_of
  h__law_box : Has K mg "_law_box" s__law_box
  h__law_take : Has K mg "_law_take" s__law_take
  h__law_pick : Has K mg "_law_pick" s__law_pick
  h__law_side : Has K mg "_law_side" s__law_side
  h__law_put : Has K mg "_law_put" s__law_put
  h__law_meet : Has K mg "_law_meet" s__law_meet
  h__law_stretches : Has K mg "_law_stretches" s__law_stretches
  h__law_parts : Has K mg "_law_parts" s__law_parts
  h__law_exchanged : Has K mg "_law_exchanged" s__law_exchanged
  h__law_none_right : Has K mg "_law_none_right" s__law_none_right
  h_law : Has K mg "law" s_law
  t_stretches_of : ∃ c Pt, (∀ f fd, mg "stretches_of" = some (.ref f) → Fun K "stretches_of" "stretches_of" s_stretches_of f fd → fd.code = .ref c) ∧ LamX.TabB base mg c Pt ∧ (Pt, ("stretches_of" : Str) ++ ".<locals>." ++ "<lambda>") ∈ T ∧ ∀ p ∈ T, p.1 = Pt → p.2 = ("stretches_of" : Str) ++ ".<locals>." ++ "<lambda>"
  t__law_none_right : ∃ c Pt, (∀ f fd, mg "_law_none_right" = some (.ref f) → Fun K "_law_none_right" "_law_none_right" s__law_none_right f fd → fd.code = .ref c) ∧ LamX.TabB base mg c Pt ∧ (Pt, ("_law_none_right" : Str) ++ ".<locals>." ++ "<lambda>") ∈ T ∧ ∀ p ∈ T, p.1 = Pt → p.2 = ("_law_none_right" : Str) ++ ".<locals>." ++ "<lambda>"
  e_Refused : Rais P w K mg base "Refused" "at"
  h__law_heard : Has K mg "_law_heard" s__law_heard
  q__law_heard : ∃ cRefused cKeepError : Addr, mg "Refused" = some (.ref cRefused) ∧ mg "KeepError" = some (.ref cKeepError) ∧ XfC K cRefused ∧ PySem.W.findIn K (.ref cRefused) "at" = some none ∧ PySem.W.kitOne K (.ref cRefused) (.ref cKeepError) = some true ∧ PySem.W.exmOne K (.ref cRefused) (.ref cRefused) = some true
theorem hrd__law_heard {T : Tbs} {P : Program} {w : World} {K : PySem.W.Frag} {mg : Str → Option Value} {base : Heap} (O : Ok T P w base K mg) : Hrd T P w K mg base "_law_heard" s__law_heard "_law_ask" N__law_heard (some "told") hs__law_heard := by
  obtain ⟨cRefused, cKeepError, mRefused, mKeepError, XRefused, nRefused_at, kRefused_KeepError, xRefused_Refused⟩ := O.q__law_heard
  obtain ⟨g, fd, hm, Fn⟩ := O.h__law_heard
  refine ⟨g, fd, [(cRefused, ⟨"Refused", [.str "refused", .rep "at", .isT]⟩)], hm, Fn, rfl, ?_, ?_⟩
  · intro p hp
    simp only [List.mem_cons, List.not_mem_nil, or_false] at hp
    rcases hp with rfl
    · exact mRefused
  · intro X q e1 e2 e3 e4 e5 hgd
    subst e1 e2 e3 e4 e5
    refine heard_told (T := T) ?_ ?_ (by decide) (fun f => rfl) sc__law_heard.nd rfl rfl (fun f s H hr => (hd_cons rfl mRefused (fun a oe cls d pn hz hf => (hes_cons he_str (hes_cons (he_rep XRefused nRefused_at hz hf (un200 hr) hgd rfl O.z_repr) (hes_cons (he_isT hz hf kRefused_KeepError rfl O.z_isinstance rfl mKeepError) hes_nil)))) hd_nil))
    · intro p hp q hq
      simp only [List.mem_cons, List.not_mem_nil, or_false] at hp hq
      rcases hp with rfl <;> rcases hq with rfl
      · rw [xRefused_Refused]; show some true = some (("Refused" : Str) == "Refused"); decide
    · intro p hp q hq he
      simp only [List.mem_cons, List.not_mem_nil, or_false] at hp hq
      rcases hp with rfl <;> rcases hq with rfl
      · rfl
/-! is_integer: 0 value -/
def g_is_integer : GS := (gRet (gAndV (gIsi (fIsi "int") (gVsR 0)) (gNotV (gIsi (fIsi "bool") (gVsR 0)))))
def sem_is_integer : Sem' := fnS 0 g_is_integer
theorem cal_is_integer {T : Tbs} {P : Program} {w : World} {K : PySem.W.Frag} {mg : Str → Option Value} {base : Heap} (O : Ok T P w base K mg) : Cal T P w K mg base 1 "is_integer" s_is_integer P_is_integer sem_is_integer :=
  cal_of (N := N_is_integer) (ps := P_is_integer) (body := g_is_integer) O.h_is_integer sc_is_integer rfl fun f fd cdv A outer s H E hm F hcd hgd hr => by
  have nd := sc_is_integer.nd
  have tk : Takes (cxOf (L2.CX P w) P w K mg base N_is_integer "is_integer" (defScope s_is_integer) f cdv A outer s H E) (fun c d _ H => E c d H) := takes_of rfl rfl rfl rfl
  exact (db_one (ds_ret (dw_and (dw_isi rfl O.z_isinstance (dv_vs (i := 0)) rfl O.z_int (t := "int") (by decide +kernel)) (dw_one (dw_not (dw_isi rfl O.z_isinstance (dv_vs (i := 0)) rfl O.z_bool (t := "bool") (by decide +kernel)))))))
/-! is_number: 0 value -/
def g_is_number : GS := (gRet (gAndV (gF 1 sem_is_integer (gCons (gVsR 0) gNil)) (gOp (fI fun i j => decide (j ≤ i)) (gVsR 0) (gVd (gC (.int 0))))))
def sem_is_number : Sem' := fnS 0 g_is_number
theorem cal_is_number {T : Tbs} {P : Program} {w : World} {K : PySem.W.Frag} {mg : Str → Option Value} {base : Heap} (O : Ok T P w base K mg) : Cal T P w K mg base 2 "is_number" s_is_number P_is_number sem_is_number :=
  cal_of (N := N_is_number) (ps := P_is_number) (body := g_is_number) O.h_is_number sc_is_number rfl fun f fd cdv A outer s H E hm F hcd hgd hr => by
  have nd := sc_is_number.nd
  have tk : Takes (cxOf (L2.CX P w) P w K mg base N_is_number "is_number" (defScope s_is_number) f cdv A outer s H E) (fun c d _ H => E c d H) := takes_of rfl rfl rfl rfl
  exact (db_one (ds_ret (dw_and (dw_callC (cal_is_integer O) bp_is_integer tk hgd (hr.mono (by decide)) rfl (da_cons (dv_vs (i := 0)) da_nil)) (dw_one (dw_cmp ow_ge (dv_vs (i := 0)) (dv_vd dw_int))))))
/-! is_below: 0 value, 1 most -/
def g_is_below : GS := (gRet (gAndV (gF 1 sem_is_number (gCons (gVsR 0) gNil)) (gOp (fI fun i j => decide (i < j)) (gVsR 0) (gVsR 1))))
def sem_is_below : Sem' := fnS 0 g_is_below
theorem cal_is_below {T : Tbs} {P : Program} {w : World} {K : PySem.W.Frag} {mg : Str → Option Value} {base : Heap} (O : Ok T P w base K mg) : Cal T P w K mg base 3 "is_below" s_is_below P_is_below sem_is_below :=
  cal_of (N := N_is_below) (ps := P_is_below) (body := g_is_below) O.h_is_below sc_is_below rfl fun f fd cdv A outer s H E hm F hcd hgd hr => by
  have nd := sc_is_below.nd
  have tk : Takes (cxOf (L2.CX P w) P w K mg base N_is_below "is_below" (defScope s_is_below) f cdv A outer s H E) (fun c d _ H => E c d H) := takes_of rfl rfl rfl rfl
  exact (db_one (ds_ret (dw_and (dw_callC (cal_is_number O) bp_is_number tk hgd (hr.mono (by decide)) rfl (da_cons (dv_vs (i := 0)) da_nil)) (dw_one (dw_cmp ow_lt (dv_vs (i := 0)) (dv_vs (i := 1)))))))
/-! is_sequence: 0 value -/
def g_is_sequence : GS := (gRet (gIsi (fIsiT ["list", "tuple"]) (gVsR 0)))
def sem_is_sequence : Sem' := fnS 0 g_is_sequence
theorem cal_is_sequence {T : Tbs} {P : Program} {w : World} {K : PySem.W.Frag} {mg : Str → Option Value} {base : Heap} (O : Ok T P w base K mg) : Cal T P w K mg base 1 "is_sequence" s_is_sequence P_is_sequence sem_is_sequence :=
  cal_of (N := N_is_sequence) (ps := P_is_sequence) (body := g_is_sequence) O.h_is_sequence sc_is_sequence rfl fun f fd cdv A outer s H E hm F hcd hgd hr => by
  have nd := sc_is_sequence.nd
  have tk : Takes (cxOf (L2.CX P w) P w K mg base N_is_sequence "is_sequence" (defScope s_is_sequence) f cdv A outer s H E) (fun c d _ H => E c d H) := takes_of rfl rfl rfl rfl
  exact (db_one (ds_ret (dw_isiT rfl O.z_isinstance (dv_vs (i := 0)) (pty_cons (t := "list") rfl O.z_list (by decide +kernel) (pty_cons (t := "tuple") rfl O.z_tuple (by decide +kernel) pty_nil)) (by decide))))
/-! is_base_hunk: 0 base, 1 value, 2 low, 3 high, 4 things -/
def g_is_base_hunk : GS := (gSeq (gIfS (gOr (gNot (gB (gF 1 sem_is_sequence (gCons (gVsR 1) gNil)))) (gOr (gB (gOp fNe (gVd (gCall fLen (gCons (gVsR 1) gNil))) (gVd (gC (.int 3))))) (gNot (gB (gF 1 sem_is_sequence (gCons (gVd (gOp fIx (gVsR 1) (gVd (gC (.int 2))))) gNil))))))
    (gRet (gC (.bl false)))
    gNx)
    (gSeq (gAsg (gFr (gN 1)) (hT 3 (hCons (hN 2) (hCons (hN 3) (hCons (hN 4) hNil)))))
    (gSeq (gIfS (gOr (gNot (gB (gF 2 sem_is_below (gCons (gVsR 3) (gCons (gVd (gOp fAdd (gVd (gCall fLen (gCons (gVsR 0) gNil))) (gVd (gC (.int 1))))) gNil))))) (gNot (gB (gF 2 sem_is_below (gCons (gVsR 2) (gCons (gVd (gOp fAdd (gVsR 3) (gVd (gC (.int 1))))) gNil))))))
    (gRet (gC (.bl false)))
    gNx)
    (gRet (gOrV (gOp (fI fun i j => decide (j < i)) (gVsR 3) (gVsR 2)) (gOp (fI fun i j => decide (j < i)) (gVd (gCall fLen (gCons (gVsR 4) gNil))) (gVd (gC (.int 0)))))))))
def sem_is_base_hunk : Sem' := fnS 3 g_is_base_hunk
theorem cal_is_base_hunk {T : Tbs} {P : Program} {w : World} {K : PySem.W.Frag} {mg : Str → Option Value} {base : Heap} (O : Ok T P w base K mg) : Cal T P w K mg base 4 "is_base_hunk" s_is_base_hunk P_is_base_hunk sem_is_base_hunk :=
  cal_of (N := N_is_base_hunk) (ps := P_is_base_hunk) (body := g_is_base_hunk) O.h_is_base_hunk sc_is_base_hunk rfl fun f fd cdv A outer s H E hm F hcd hgd hr => by
  have nd := sc_is_base_hunk.nd
  have tk : Takes (cxOf (L2.CX P w) P w K mg base N_is_base_hunk "is_base_hunk" (defScope s_is_base_hunk) f cdv A outer s H E) (fun c d _ H => E c d H) := takes_of rfl rfl rfl rfl
  exact (db_cons (ds_if (dt_w (dtw_or (dt_not (dt_val (dw_callC (cal_is_sequence O) bp_is_sequence tk hgd (hr.mono (by decide)) rfl (da_cons (dv_vs (i := 1)) da_nil)))) (dtw_or (dt_cmp (ow_ne hr) (dv_vd (dw_callB cw_len rfl O.z_len (by decide +kernel) (da_cons (dv_vs (i := 1)) da_nil))) (dv_vd dw_int)) (dtw_or1 (dt_not (dt_val (dw_callC (cal_is_sequence O) bp_is_sequence tk hgd (hr.mono (by decide)) rfl (da_cons (dv_vd (dw_ix (dv_vs (i := 1)) (dv_vd dw_int))) da_nil))))))))
    (db_one (ds_ret dw_bl))
    db_nil)
    (db_cons (ds_asg (de_fr (dw_n (i := 1))) (dg_t rfl (dgs_cons (dg_n (i := 2) nd rfl (by first | exact .inl rfl | exact .inr rfl)) (dgs_cons (dg_n (i := 3) nd rfl (by first | exact .inl rfl | exact .inr rfl)) (dgs_cons (dg_n (i := 4) nd rfl (by first | exact .inl rfl | exact .inr rfl)) dgs_nil)))))
    (db_cons (ds_if (dt_w (dtw_or (dt_not (dt_val (dw_callC (cal_is_below O) bp_is_below tk hgd (hr.mono (by decide)) rfl (da_cons (dv_vs (i := 3)) (da_cons (dv_vd (dw_op ow_add (dv_vd (dw_callB cw_len rfl O.z_len (by decide +kernel) (da_cons (dv_vs (i := 0)) da_nil))) (dv_vd dw_int))) da_nil))))) (dtw_or1 (dt_not (dt_val (dw_callC (cal_is_below O) bp_is_below tk hgd (hr.mono (by decide)) rfl (da_cons (dv_vs (i := 2)) (da_cons (dv_vd (dw_op ow_add (dv_vs (i := 3)) (dv_vd dw_int))) da_nil))))))))
    (db_one (ds_ret dw_bl))
    db_nil)
    (db_one (ds_ret (dw_or (dw_cmp ow_gt (dv_vs (i := 3)) (dv_vs (i := 2))) (dw_one (dw_cmp ow_gt (dv_vd (dw_callB cw_len rfl O.z_len (by decide +kernel) (da_cons (dv_vs (i := 4)) da_nil))) (dv_vd dw_int)))))))))
/-! check_hunks: 0 base, 1 value, 2 one, 3 other, 4 low, 5 high, 6 things -/
def g_check_hunks : GS := (gSeq (gIfS (gOr (gNot (gB (gF 1 sem_is_sequence (gCons (gVsR 1) gNil)))) (gNot (gB (gCall fAll (gCons (gVd (gLc [2] (gIt (gN 1)) (hN 2) gYes (gFr (gF 2 sem_is_base_hunk (gCons (gVsR 0) (gCons (gVsR 2) gNil)))))) gNil)))))
    (gRaise "Refused" "at" (gFr (gN 1)))
    gNx)
    (gSeq (gIfS (gNot (gB (gCall fAll (gCons (gVd (gLc [2, 3] (gZip (gCons (gVsR 1) (gCons (gVd (gSl (gVsR 1) (gP1 (gVd (gC (.int 1)))) gP0)) gNil))) (hT 2 (hCons (hN 2) (hCons (hN 3) hNil))) gYes (gFr (gOp (fI fun i j => decide (i < j)) (gVd (gOp fIx (gVsR 2) (gVd (gC (.int 1))))) (gVd (gOp fIx (gVsR 3) (gVd (gC (.int 0))))))))) gNil))))
    (gRaise "Refused" "at" (gFr (gN 1)))
    gNx)
    (gRet (gCall fTuple (gCons (gVd (gLc [4, 5, 6] (gIt (gN 1)) (hT 3 (hCons (hN 4) (hCons (hN 5) (hCons (hN 6) hNil)))) gYes (gFr (gTup (gCons (gVsR 4) (gCons (gVsR 5) (gCons (gVd (gCall fTuple (gCons (gVsR 6) gNil))) gNil))))))) gNil)))))
def sem_check_hunks : Sem' := fnS 5 g_check_hunks
theorem cal_check_hunks {T : Tbs} {P : Program} {w : World} {K : PySem.W.Frag} {mg : Str → Option Value} {base : Heap} (O : Ok T P w base K mg) : Cal T P w K mg base 5 "check_hunks" s_check_hunks P_check_hunks sem_check_hunks :=
  cal_of (N := N_check_hunks) (ps := P_check_hunks) (body := g_check_hunks) O.h_check_hunks sc_check_hunks rfl fun f fd cdv A outer s H E hm F hcd hgd hr => by
  have nd := sc_check_hunks.nd
  have tk : Takes (cxOf (L2.CX P w) P w K mg base N_check_hunks "check_hunks" (defScope s_check_hunks) f cdv A outer s H E) (fun c d _ H => E c d H) := takes_of rfl rfl rfl rfl
  exact (db_cons (ds_if (dt_w (dtw_or (dt_not (dt_val (dw_callC (cal_is_sequence O) bp_is_sequence tk hgd (hr.mono (by decide)) rfl (da_cons (dv_vs (i := 1)) da_nil)))) (dtw_or1 (dt_not (dt_val (dw_callB (cw_all rfl) rfl O.z_all (by decide +kernel) (da_cons (dv_vd (dw_lc (own := [("one", 2)]) rfl nd (di_sq (dw_n (i := 1))) (blkOk_by (own := [("one", 2)]) (by kernel_rfl)) (fun _ _ _ _ _ => (dg_n (i := 2) nd rfl (by first | exact .inl rfl | exact .inr rfl))) (fun _ _ _ _ _ => dts_nil) (fun _ _ _ _ _ => (de_fr (dw_callC (cal_is_base_hunk O) bp_is_base_hunk LamX.takes0 hgd (hr.mono (by decide)) rfl (da_cons (dv_vs (i := 0)) (da_cons (dv_vs (i := 2)) da_nil))))) (by decide))) da_nil)))))))
    (db_one (ds_raiseC O.e_Refused rfl tk hr (by decide) rfl (de_fr (dw_n (i := 1)))))
    db_nil)
    (db_cons (ds_if (dt_not (dt_val (dw_callB (cw_all rfl) rfl O.z_all (by decide +kernel) (da_cons (dv_vd (dw_lc (own := [("one", 2), ("other", 3)]) rfl nd (di_zip rfl O.z_zip (da_cons (dv_vs (i := 1)) (da_cons (dv_vd (dw_sl (dv_vs (i := 1)) (dpo_some (dv_vd dw_int)) dpo_none)) da_nil))) (blkOk_by (own := [("one", 2), ("other", 3)]) (by kernel_rfl)) (fun _ _ _ _ _ => (dg_t rfl (dgs_cons (dg_n (i := 2) nd rfl (by first | exact .inl rfl | exact .inr rfl)) (dgs_cons (dg_n (i := 3) nd rfl (by first | exact .inl rfl | exact .inr rfl)) dgs_nil)))) (fun _ _ _ _ _ => dts_nil) (fun _ _ _ _ _ => (de_fr (dw_cmp ow_lt (dv_vd (dw_ix (dv_vs (i := 2)) (dv_vd dw_int))) (dv_vd (dw_ix (dv_vs (i := 3)) (dv_vd dw_int)))))) (by decide))) da_nil))))
    (db_one (ds_raiseC O.e_Refused rfl tk hr (by decide) rfl (de_fr (dw_n (i := 1)))))
    db_nil)
    (db_one (ds_ret (dw_callT cw_tuple rfl O.z_tuple (by decide +kernel) (da_cons (dv_vd (dw_lc (own := [("low", 4), ("high", 5), ("things", 6)]) rfl nd (di_sq (dw_n (i := 1))) (blkOk_by (own := [("low", 4), ("high", 5), ("things", 6)]) (by kernel_rfl)) (fun _ _ _ _ _ => (dg_t rfl (dgs_cons (dg_n (i := 4) nd rfl (by first | exact .inl rfl | exact .inr rfl)) (dgs_cons (dg_n (i := 5) nd rfl (by first | exact .inl rfl | exact .inr rfl)) (dgs_cons (dg_n (i := 6) nd rfl (by first | exact .inl rfl | exact .inr rfl)) dgs_nil))))) (fun _ _ _ _ _ => dts_nil) (fun _ _ _ _ _ => (de_fr (dw_tup (da_cons (dv_vs (i := 4)) (da_cons (dv_vs (i := 5)) (da_cons (dv_vd (dw_callT cw_tuple rfl O.z_tuple (by decide +kernel) (da_cons (dv_vs (i := 6)) da_nil))) da_nil)))))) (by decide))) da_nil))))))
/-! put_hunks: 0 rows, 1 low, 2 high, 3 hunks, 4 found, 5 at, 6 start, 7 end, 8 things -/
def g_put_hunks : GS := (gSeq (gSet 4 (gLst gNil))
    (gSeq (gSet 5 (gN 1))
    (gSeq (gFor (gIt (gN 3)) (hT 3 (hCons (hN 6) (hCons (hN 7) (hCons (hN 8) hNil))))
    (gIfS (gAnd (gB (gOp (fI fun i j => decide (i ≤ j)) (gVsR 1) (gVsR 6))) (gB (gOp (fI fun i j => decide (i ≤ j)) (gVsR 7) (gVsR 2))))
    (gSeq (gExt' 4 (gVd (gOp fAdd (gVd (gCall fList (gCons (gVd (gSl (gVsR 0) (gP1 (gVsR 5)) (gP1 (gVsR 6)))) gNil))) (gVd (gCall fList (gCons (gVsR 8) gNil))))))
    (gSet 5 (gN 7)))
    gNx))
    (gRet (gCall fTuple (gCons (gVd (gOp fAdd (gVsR 4) (gVd (gCall fList (gCons (gVd (gSl (gVsR 0) (gP1 (gVsR 5)) (gP1 (gVsR 2)))) gNil))))) gNil))))))
def sem_put_hunks : Sem' := fnS 5 g_put_hunks
theorem cal_put_hunks {T : Tbs} {P : Program} {w : World} {K : PySem.W.Frag} {mg : Str → Option Value} {base : Heap} (O : Ok T P w base K mg) : Cal T P w K mg base 1 "put_hunks" s_put_hunks P_put_hunks sem_put_hunks :=
  cal_of (N := N_put_hunks) (ps := P_put_hunks) (body := g_put_hunks) O.h_put_hunks sc_put_hunks rfl fun f fd cdv A outer s H E hm F hcd hgd hr => by
  have nd := sc_put_hunks.nd
  have tk : Takes (cxOf (L2.CX P w) P w K mg base N_put_hunks "put_hunks" (defScope s_put_hunks) f cdv A outer s H E) (fun c d _ H => E c d H) := takes_of rfl rfl rfl rfl
  exact (db_cons (ds_set (i := 4) nd rfl (by first | exact .inl rfl | exact .inr rfl) (dw_lst da_nil))
    (db_cons (ds_set (i := 5) nd rfl (by first | exact .inl rfl | exact .inr rfl) (dw_n (i := 1)))
    (db_cons (ds_for (passes_of rfl) rfl (di_sq (dw_n (i := 3))) (dg_t rfl (dgs_cons (dg_n (i := 6) nd rfl (by first | exact .inl rfl | exact .inr rfl)) (dgs_cons (dg_n (i := 7) nd rfl (by first | exact .inl rfl | exact .inr rfl)) (dgs_cons (dg_n (i := 8) nd rfl (by first | exact .inl rfl | exact .inr rfl)) dgs_nil))))
    (db_one (ds_if (dt_w (dtw_and (dt_cmp ow_le (dv_vs (i := 1)) (dv_vs (i := 6))) (dtw_and1 (dt_cmp ow_le (dv_vs (i := 7)) (dv_vs (i := 2))))))
    (db_cons (ds_ext (i := 4) (pe_bm PySem.F.plainAttrs_list PySem.F.slot_list_extend PySem.F.type_list_extend mt_extA (pv 4) (pa_cons (dv_vd (dw_op ow_add (dv_vd (dw_callT cw_list rfl O.z_list (by decide +kernel) (da_cons (dv_vd (dw_sl (dv_vs (i := 0)) (dpo_some (dv_vs (i := 5))) (dpo_some (dv_vs (i := 6))))) da_nil))) (dv_vd (dw_callT cw_list rfl O.z_list (by decide +kernel) (da_cons (dv_vs (i := 8)) da_nil))))) pa_nil)))
    (db_one (ds_set (i := 5) nd rfl (by first | exact .inl rfl | exact .inr rfl) (dw_n (i := 7)))))
    db_nil)))
    (db_one (ds_ret (dw_callT cw_tuple rfl O.z_tuple (by decide +kernel) (da_cons (dv_vd (dw_op ow_add (dv_vs (i := 4)) (dv_vd (dw_callT cw_list rfl O.z_list (by decide +kernel) (da_cons (dv_vd (dw_sl (dv_vs (i := 0)) (dpo_some (dv_vs (i := 5))) (dpo_some (dv_vs (i := 2))))) da_nil))))) da_nil)))))))
/-! apply_hunks: 0 base, 1 hunks -/
def g_apply_hunks : GS := (gRet (gF 4 sem_put_hunks (gCons (gVsR 0) (gCons (gVd (gC (.int 0))) (gCons (gVd (gCall fLen (gCons (gVsR 0) gNil))) (gCons (gVd (gF 2 sem_check_hunks (gCons (gVsR 0) (gCons (gVsR 1) gNil)))) gNil))))))
def sem_apply_hunks : Sem' := fnS 0 g_apply_hunks
theorem cal_apply_hunks {T : Tbs} {P : Program} {w : World} {K : PySem.W.Frag} {mg : Str → Option Value} {base : Heap} (O : Ok T P w base K mg) : Cal T P w K mg base 6 "apply_hunks" s_apply_hunks P_apply_hunks sem_apply_hunks :=
  cal_of (N := N_apply_hunks) (ps := P_apply_hunks) (body := g_apply_hunks) O.h_apply_hunks sc_apply_hunks rfl fun f fd cdv A outer s H E hm F hcd hgd hr => by
  have nd := sc_apply_hunks.nd
  have tk : Takes (cxOf (L2.CX P w) P w K mg base N_apply_hunks "apply_hunks" (defScope s_apply_hunks) f cdv A outer s H E) (fun c d _ H => E c d H) := takes_of rfl rfl rfl rfl
  exact (db_one (ds_ret (dw_callC (cal_put_hunks O) bp_put_hunks tk hgd (hr.mono (by decide)) rfl (da_cons (dv_vs (i := 0)) (da_cons (dv_vd dw_int) (da_cons (dv_vd (dw_callB cw_len rfl O.z_len (by decide +kernel) (da_cons (dv_vs (i := 0)) da_nil))) (da_cons (dv_vd (dw_callC (cal_check_hunks O) bp_check_hunks tk hgd (hr.mono (by decide)) rfl (da_cons (dv_vs (i := 0)) (da_cons (dv_vs (i := 1)) da_nil)))) da_nil)))))))
/-! stretches_of: 0 ours, 1 theirs, 2 found, 3 low, 4 high, 5 things -/
def g_stretches_of : GS := (gSeq (gSet 2 (gLst gNil))
    (gSeq (gFor (gIt (gSortK (gVd (gOp fAdd (gVd (gCall fList (gCons (gVsR 0) gNil))) (gVd (gCall fList (gCons (gVsR 1) gNil))))))) (hT 3 (hCons (hN 3) (hCons (hN 4) (hCons (hN 5) hNil))))
    (gIfS (gAnd (gB (gOp (fI fun i j => decide (j < i)) (gVd (gCall fLen (gCons (gVsR 2) gNil))) (gVd (gC (.int 0))))) (gB (gOp (fI fun i j => decide (i ≤ j)) (gVsR 3) (gVd (gOp fIx (gVd (gOp fIx (gVsR 2) (gVd (gNeg (gVd (gC (.int 1))))))) (gVd (gC (.int 1))))))))
    (gISet 2 (gFr (gTup (gCons (gVd (gOp fIx (gVd (gOp fIx (gVsR 2) (gVd (gNeg (gVd (gC (.int 1))))))) (gVd (gC (.int 0))))) (gCons (gVd (gCall fMax (gCons (gVd (gOp fIx (gVd (gOp fIx (gVsR 2) (gVd (gNeg (gVd (gC (.int 1))))))) (gVd (gC (.int 1))))) (gCons (gVsR 4) gNil)))) gNil)))) (gVd (gNeg (gVd (gC (.int 1))))))
    (gApp' 2 (gFr (gTup (gCons (gVsR 3) (gCons (gVsR 4) gNil)))))))
    (gRet (gTk 2))))
def sem_stretches_of : Sem' := fnS 4 g_stretches_of
theorem cal_stretches_of {T : Tbs} {P : Program} {w : World} {K : PySem.W.Frag} {mg : Str → Option Value} {base : Heap} (O : Ok T P w base K mg) : Cal T P w K mg base 1 "stretches_of" s_stretches_of P_stretches_of sem_stretches_of :=
  cal_of (N := N_stretches_of) (ps := P_stretches_of) (body := g_stretches_of) O.h_stretches_of sc_stretches_of rfl fun f fd cdv A outer s H E hm F hcd hgd hr => by
  have nd := sc_stretches_of.nd
  have tk : Takes (cxOf (L2.CX P w) P w K mg base N_stretches_of "stretches_of" (defScope s_stretches_of) f cdv A outer s H E) (fun c d _ H => E c d H) := takes_of rfl rfl rfl rfl
  obtain ⟨c0, Pt, hcode0, tabB, hmT, hu⟩ := O.t_stretches_of
  have hcode : cdv = .ref c0 := hcd ▸ hcode0 f fd hm F
  exact (db_cons (ds_set (i := 2) nd rfl (by first | exact .inl rfl | exact .inr rfl) (dw_lst da_nil))
    (db_cons (ds_for (passes_of rfl) rfl (di_sq (dw_sortK hr rfl O.z_sorted (dv_vd (dw_op ow_add (dv_vd (dw_callT cw_list rfl O.z_list (by decide +kernel) (da_cons (dv_vs (i := 0)) da_nil))) (dv_vd (dw_callT cw_list rfl O.z_list (by decide +kernel) (da_cons (dv_vs (i := 1)) da_nil))))) tabB hcode hmT hu rfl ⟨rfl, rfl, rfl, by decide +kernel, rfl, by decide +kernel⟩ (by decide) (fun _ _ _ _ _ _ => rfl))) (dg_t rfl (dgs_cons (dg_n (i := 3) nd rfl (by first | exact .inl rfl | exact .inr rfl)) (dgs_cons (dg_n (i := 4) nd rfl (by first | exact .inl rfl | exact .inr rfl)) (dgs_cons (dg_n (i := 5) nd rfl (by first | exact .inl rfl | exact .inr rfl)) dgs_nil))))
    (db_one (ds_if (dt_w (dtw_and (dt_cmp ow_gt (dv_vd (dw_callB cw_len rfl O.z_len (by decide +kernel) (da_cons (dv_vs (i := 2)) da_nil))) (dv_vd dw_int)) (dtw_and1 (dt_cmp ow_le (dv_vs (i := 3)) (dv_vd (dw_ix (dv_vd (dw_ix (dv_vs (i := 2)) (dv_vd (dw_neg (dv_vd dw_int))))) (dv_vd dw_int)))))))
    (db_one (ds_iset (i := 2) rfl (by first | exact .inl rfl | exact .inr (.inl rfl)) (de_fr (dw_tup (da_cons (dv_vd (dw_ix (dv_vd (dw_ix (dv_vs (i := 2)) (dv_vd (dw_neg (dv_vd dw_int))))) (dv_vd dw_int))) (da_cons (dv_vd (dw_callB (cw_max rfl) rfl O.z_max (by decide +kernel) (da_cons (dv_vd (dw_ix (dv_vd (dw_ix (dv_vs (i := 2)) (dv_vd (dw_neg (dv_vd dw_int))))) (dv_vd dw_int))) (da_cons (dv_vs (i := 4)) da_nil)))) da_nil)))) (dv_vd (dw_neg (dv_vd dw_int)))))
    (db_one (ds_app (i := 2) (pe_bm PySem.F.plainAttrs_list PySem.F.slot_list_append PySem.F.type_list_append mt_append (pv 2) (pa_cons (de_fr (dw_tup (da_cons (dv_vs (i := 3)) (da_cons (dv_vs (i := 4)) da_nil)))) pa_nil)))))))
    (db_one (ds_ret (dw_tk (i := 2))))))
/-! part_of: 0 base, 1 ours, 2 theirs, 3 low, 4 high, 5 here, 6 hunk, 7 there, 8 rows -/
def g_part_of : GS := (gSeq (gSet 5 (gLc [6] (gIt (gN 1)) (hN 6) (gAnd (gB (gOp (fI fun i j => decide (i ≤ j)) (gVsR 3) (gVd (gOp fIx (gVsR 6) (gVd (gC (.int 0))))))) (gB (gOp (fI fun i j => decide (i ≤ j)) (gVd (gOp fIx (gVsR 6) (gVd (gC (.int 1))))) (gVsR 4)))) (gFr (gN 6))))
    (gSeq (gSet 7 (gLc [6] (gIt (gN 2)) (hN 6) (gAnd (gB (gOp (fI fun i j => decide (i ≤ j)) (gVsR 3) (gVd (gOp fIx (gVsR 6) (gVd (gC (.int 0))))))) (gB (gOp (fI fun i j => decide (i ≤ j)) (gVd (gOp fIx (gVsR 6) (gVd (gC (.int 1))))) (gVsR 4)))) (gFr (gN 6))))
    (gSeq (gSet 8 (gCall fTuple (gCons (gVd (gSl (gVsR 0) (gP1 (gVsR 3)) (gP1 (gVsR 4)))) gNil)))
    (gSeq (gIfS (gB (gOp fEq (gVd (gCall fLen (gCons (gVsR 7) gNil))) (gVd (gC (.int 0)))))
    (gRet (gTup (gCons (gVd (gC (.str "ours"))) (gCons (gVd (gTk 8)) (gCons (gVd (gF 4 sem_put_hunks (gCons (gVsR 0) (gCons (gVsR 3) (gCons (gVsR 4) (gCons (gVd (gTk 5)) gNil)))))) gNil)))))
    gNx)
    (gSeq (gIfS (gB (gOp fEq (gVd (gCall fLen (gCons (gVsR 5) gNil))) (gVd (gC (.int 0)))))
    (gRet (gTup (gCons (gVd (gC (.str "theirs"))) (gCons (gVd (gTk 8)) (gCons (gVd (gF 4 sem_put_hunks (gCons (gVsR 0) (gCons (gVsR 3) (gCons (gVsR 4) (gCons (gVd (gTk 7)) gNil)))))) gNil)))))
    gNx)
    (gSeq (gIfS (gB (gOp fEq (gVsR 5) (gVsR 7)))
    (gRet (gTup (gCons (gVd (gC (.str "alike"))) (gCons (gVd (gTk 8)) (gCons (gVd (gF 4 sem_put_hunks (gCons (gVsR 0) (gCons (gVsR 3) (gCons (gVsR 4) (gCons (gVd (gTk 5)) gNil)))))) gNil)))))
    gNx)
    (gRet (gTup (gCons (gVd (gC (.str "clash"))) (gCons (gVd (gTk 8)) (gCons (gVd (gF 4 sem_put_hunks (gCons (gVsR 0) (gCons (gVsR 3) (gCons (gVsR 4) (gCons (gVd (gTk 5)) gNil)))))) (gCons (gVd (gF 4 sem_put_hunks (gCons (gVsR 0) (gCons (gVsR 3) (gCons (gVsR 4) (gCons (gVd (gTk 7)) gNil)))))) gNil))))))))))))
def sem_part_of : Sem' := fnS 4 g_part_of
theorem cal_part_of {T : Tbs} {P : Program} {w : World} {K : PySem.W.Frag} {mg : Str → Option Value} {base : Heap} (O : Ok T P w base K mg) : Cal T P w K mg base 2 "part_of" s_part_of P_part_of sem_part_of :=
  cal_of (N := N_part_of) (ps := P_part_of) (body := g_part_of) O.h_part_of sc_part_of rfl fun f fd cdv A outer s H E hm F hcd hgd hr => by
  have nd := sc_part_of.nd
  have tk : Takes (cxOf (L2.CX P w) P w K mg base N_part_of "part_of" (defScope s_part_of) f cdv A outer s H E) (fun c d _ H => E c d H) := takes_of rfl rfl rfl rfl
  exact (db_cons (ds_setLc (own := [("hunk", 6)]) rfl nd (i := 5) rfl rfl (sw_true rfl rfl rfl rfl) (di_sq (dw_n (i := 1))) (blkOk_by (own := [("hunk", 6)]) (by kernel_rfl)) (fun _ _ _ _ _ => (dg_n (i := 6) nd rfl (by first | exact .inl rfl | exact .inr rfl))) (fun _ _ _ _ _ => (dts_one (dt_w (dtw_and (dt_cmp ow_le (dv_vs (i := 3)) (dv_vd (dw_ix (dv_vs (i := 6)) (dv_vd dw_int)))) (dtw_and1 (dt_cmp ow_le (dv_vd (dw_ix (dv_vs (i := 6)) (dv_vd dw_int))) (dv_vs (i := 4)))))))) (fun _ _ _ _ _ => (de_fr (dw_n (i := 6)))) (by decide))
    (db_cons (ds_setLc (own := [("hunk", 6)]) rfl nd (i := 7) rfl rfl (sw_true rfl rfl rfl rfl) (di_sq (dw_n (i := 2))) (blkOk_by (own := [("hunk", 6)]) (by kernel_rfl)) (fun _ _ _ _ _ => (dg_n (i := 6) nd rfl (by first | exact .inl rfl | exact .inr rfl))) (fun _ _ _ _ _ => (dts_one (dt_w (dtw_and (dt_cmp ow_le (dv_vs (i := 3)) (dv_vd (dw_ix (dv_vs (i := 6)) (dv_vd dw_int)))) (dtw_and1 (dt_cmp ow_le (dv_vd (dw_ix (dv_vs (i := 6)) (dv_vd dw_int))) (dv_vs (i := 4)))))))) (fun _ _ _ _ _ => (de_fr (dw_n (i := 6)))) (by decide))
    (db_cons (ds_set (i := 8) nd rfl (by first | exact .inl rfl | exact .inr rfl) (dw_callT cw_tuple rfl O.z_tuple (by decide +kernel) (da_cons (dv_vd (dw_sl (dv_vs (i := 0)) (dpo_some (dv_vs (i := 3))) (dpo_some (dv_vs (i := 4))))) da_nil)))
    (db_cons (ds_if (dt_cmp (ow_eq hr) (dv_vd (dw_callB cw_len rfl O.z_len (by decide +kernel) (da_cons (dv_vs (i := 7)) da_nil))) (dv_vd dw_int))
    (db_one (ds_ret (dw_tup (da_cons (dv_vd dw_str) (da_cons (dv_vd (dw_tk (i := 8))) (da_cons (dv_vd (dw_callC (cal_put_hunks O) bp_put_hunks tk hgd (hr.mono (by decide)) rfl (da_cons (dv_vs (i := 0)) (da_cons (dv_vs (i := 3)) (da_cons (dv_vs (i := 4)) (da_cons (dv_vd (dw_tk (i := 5))) da_nil)))))) da_nil))))))
    db_nil)
    (db_cons (ds_if (dt_cmp (ow_eq hr) (dv_vd (dw_callB cw_len rfl O.z_len (by decide +kernel) (da_cons (dv_vs (i := 5)) da_nil))) (dv_vd dw_int))
    (db_one (ds_ret (dw_tup (da_cons (dv_vd dw_str) (da_cons (dv_vd (dw_tk (i := 8))) (da_cons (dv_vd (dw_callC (cal_put_hunks O) bp_put_hunks tk hgd (hr.mono (by decide)) rfl (da_cons (dv_vs (i := 0)) (da_cons (dv_vs (i := 3)) (da_cons (dv_vs (i := 4)) (da_cons (dv_vd (dw_tk (i := 7))) da_nil)))))) da_nil))))))
    db_nil)
    (db_cons (ds_if (dt_cmp (ow_eq hr) (dv_vs (i := 5)) (dv_vs (i := 7)))
    (db_one (ds_ret (dw_tup (da_cons (dv_vd dw_str) (da_cons (dv_vd (dw_tk (i := 8))) (da_cons (dv_vd (dw_callC (cal_put_hunks O) bp_put_hunks tk hgd (hr.mono (by decide)) rfl (da_cons (dv_vs (i := 0)) (da_cons (dv_vs (i := 3)) (da_cons (dv_vs (i := 4)) (da_cons (dv_vd (dw_tk (i := 5))) da_nil)))))) da_nil))))))
    db_nil)
    (db_one (ds_ret (dw_tup (da_cons (dv_vd dw_str) (da_cons (dv_vd (dw_tk (i := 8))) (da_cons (dv_vd (dw_callC (cal_put_hunks O) bp_put_hunks tk hgd (hr.mono (by decide)) rfl (da_cons (dv_vs (i := 0)) (da_cons (dv_vs (i := 3)) (da_cons (dv_vs (i := 4)) (da_cons (dv_vd (dw_tk (i := 5))) da_nil)))))) (da_cons (dv_vd (dw_callC (cal_put_hunks O) bp_put_hunks tk hgd (hr.mono (by decide)) rfl (da_cons (dv_vs (i := 0)) (da_cons (dv_vs (i := 3)) (da_cons (dv_vs (i := 4)) (da_cons (dv_vd (dw_tk (i := 7))) da_nil)))))) da_nil)))))))))))))
/-! merge_parts: 0 base, 1 ours, 2 theirs, 3 one, 4 other, 5 found, 6 at, 7 low, 8 high -/
def g_merge_parts : GS := (gSeq (gPar 3 4 (gF 2 sem_check_hunks (gCons (gVsR 0) (gCons (gVsR 1) gNil))) (gF 2 sem_check_hunks (gCons (gVsR 0) (gCons (gVsR 2) gNil))))
    (gSeq (gSet 5 (gLst gNil))
    (gSeq (gSet 6 (gC (.int 0)))
    (gSeq (gFor (gIt (gF 2 sem_stretches_of (gCons (gVd (gTk 3)) (gCons (gVd (gTk 4)) gNil)))) (hT 2 (hCons (hN 7) (hCons (hN 8) hNil)))
    (gSeq (gIfS (gB (gOp (fI fun i j => decide (j < i)) (gVsR 7) (gVsR 6)))
    (gApp' 5 (gFr (gTup (gCons (gVd (gC (.str "same"))) (gCons (gVd (gCall fTuple (gCons (gVd (gSl (gVsR 0) (gP1 (gVsR 6)) (gP1 (gVsR 7)))) gNil))) gNil)))))
    gNx)
    (gSeq (gApp' 5 (gFr (gF 5 sem_part_of (gCons (gVsR 0) (gCons (gVd (gTk 3)) (gCons (gVd (gTk 4)) (gCons (gVsR 7) (gCons (gVsR 8) gNil))))))))
    (gSet 6 (gN 8)))))
    (gSeq (gIfS (gB (gOp (fI fun i j => decide (j < i)) (gVd (gCall fLen (gCons (gVsR 0) gNil))) (gVsR 6)))
    (gApp' 5 (gFr (gTup (gCons (gVd (gC (.str "same"))) (gCons (gVd (gCall fTuple (gCons (gVd (gSl (gVsR 0) (gP1 (gVsR 6)) gP0)) gNil))) gNil)))))
    gNx)
    (gRet (gCall fTuple (gCons (gVsR 5) gNil))))))))
def sem_merge_parts : Sem' := fnS 6 g_merge_parts
theorem cal_merge_parts {T : Tbs} {P : Program} {w : World} {K : PySem.W.Frag} {mg : Str → Option Value} {base : Heap} (O : Ok T P w base K mg) : Cal T P w K mg base 6 "merge_parts" s_merge_parts P_merge_parts sem_merge_parts :=
  cal_of (N := N_merge_parts) (ps := P_merge_parts) (body := g_merge_parts) O.h_merge_parts sc_merge_parts rfl fun f fd cdv A outer s H E hm F hcd hgd hr => by
  have nd := sc_merge_parts.nd
  have tk : Takes (cxOf (L2.CX P w) P w K mg base N_merge_parts "merge_parts" (defScope s_merge_parts) f cdv A outer s H E) (fun c d _ H => E c d H) := takes_of rfl rfl rfl rfl
  exact (db_cons (ds_par (i := 3) (j := 4) rfl nd rfl rfl (by decide) rfl rfl (dw_callC (cal_check_hunks O) bp_check_hunks tk hgd (hr.mono (by decide)) rfl (da_cons (dv_vs (i := 0)) (da_cons (dv_vs (i := 1)) da_nil))) (dw_callC (cal_check_hunks O) bp_check_hunks tk hgd (hr.mono (by decide)) rfl (da_cons (dv_vs (i := 0)) (da_cons (dv_vs (i := 2)) da_nil))) rfl)
    (db_cons (ds_set (i := 5) nd rfl (by first | exact .inl rfl | exact .inr rfl) (dw_lst da_nil))
    (db_cons (ds_set (i := 6) nd rfl (by first | exact .inl rfl | exact .inr rfl) dw_int)
    (db_cons (ds_for (passes_of rfl) rfl (di_sq (dw_callC (cal_stretches_of O) bp_stretches_of tk hgd (hr.mono (by decide)) rfl (da_cons (dv_vd (dw_tk (i := 3))) (da_cons (dv_vd (dw_tk (i := 4))) da_nil)))) (dg_t rfl (dgs_cons (dg_n (i := 7) nd rfl (by first | exact .inl rfl | exact .inr rfl)) (dgs_cons (dg_n (i := 8) nd rfl (by first | exact .inl rfl | exact .inr rfl)) dgs_nil)))
    (db_cons (ds_if (dt_cmp ow_gt (dv_vs (i := 7)) (dv_vs (i := 6)))
    (db_one (ds_app (i := 5) (pe_bm PySem.F.plainAttrs_list PySem.F.slot_list_append PySem.F.type_list_append mt_append (pv 5) (pa_cons (de_fr (dw_tup (da_cons (dv_vd dw_str) (da_cons (dv_vd (dw_callT cw_tuple rfl O.z_tuple (by decide +kernel) (da_cons (dv_vd (dw_sl (dv_vs (i := 0)) (dpo_some (dv_vs (i := 6))) (dpo_some (dv_vs (i := 7))))) da_nil))) da_nil)))) pa_nil))))
    db_nil)
    (db_cons (ds_app (i := 5) (pe_bm PySem.F.plainAttrs_list PySem.F.slot_list_append PySem.F.type_list_append mt_append (pv 5) (pa_cons (de_fr (dw_callC (cal_part_of O) bp_part_of tk hgd (hr.mono (by decide)) rfl (da_cons (dv_vs (i := 0)) (da_cons (dv_vd (dw_tk (i := 3))) (da_cons (dv_vd (dw_tk (i := 4))) (da_cons (dv_vs (i := 7)) (da_cons (dv_vs (i := 8)) da_nil))))))) pa_nil)))
    (db_one (ds_set (i := 6) nd rfl (by first | exact .inl rfl | exact .inr rfl) (dw_n (i := 8)))))))
    (db_cons (ds_if (dt_cmp ow_gt (dv_vd (dw_callB cw_len rfl O.z_len (by decide +kernel) (da_cons (dv_vs (i := 0)) da_nil))) (dv_vs (i := 6)))
    (db_one (ds_app (i := 5) (pe_bm PySem.F.plainAttrs_list PySem.F.slot_list_append PySem.F.type_list_append mt_append (pv 5) (pa_cons (de_fr (dw_tup (da_cons (dv_vd dw_str) (da_cons (dv_vd (dw_callT cw_tuple rfl O.z_tuple (by decide +kernel) (da_cons (dv_vd (dw_sl (dv_vs (i := 0)) (dpo_some (dv_vs (i := 6))) dpo_none)) da_nil))) da_nil)))) pa_nil))))
    db_nil)
    (db_one (ds_ret (dw_callT cw_tuple rfl O.z_tuple (by decide +kernel) (da_cons (dv_vs (i := 5)) da_nil)))))))))
/-! joined_rows: 0 pieces, 1 found, 2 rows -/
def g_joined_rows : GS := (gSeq (gSet 1 (gLst gNil))
    (gSeq (gFor (gIt (gN 0)) (hN 2)
    (gExt' 1 (gVsR 2)))
    (gRet (gCall fTuple (gCons (gVsR 1) gNil)))))
def sem_joined_rows : Sem' := fnS 2 g_joined_rows
theorem cal_joined_rows {T : Tbs} {P : Program} {w : World} {K : PySem.W.Frag} {mg : Str → Option Value} {base : Heap} (O : Ok T P w base K mg) : Cal T P w K mg base 1 "joined_rows" s_joined_rows P_joined_rows sem_joined_rows :=
  cal_of (N := N_joined_rows) (ps := P_joined_rows) (body := g_joined_rows) O.h_joined_rows sc_joined_rows rfl fun f fd cdv A outer s H E hm F hcd hgd hr => by
  have nd := sc_joined_rows.nd
  have tk : Takes (cxOf (L2.CX P w) P w K mg base N_joined_rows "joined_rows" (defScope s_joined_rows) f cdv A outer s H E) (fun c d _ H => E c d H) := takes_of rfl rfl rfl rfl
  exact (db_cons (ds_set (i := 1) nd rfl (by first | exact .inl rfl | exact .inr rfl) (dw_lst da_nil))
    (db_cons (ds_for (passes_of rfl) rfl (di_sq (dw_n (i := 0))) (dg_n (i := 2) nd rfl (by first | exact .inl rfl | exact .inr rfl))
    (db_one (ds_ext (i := 1) (pe_bm PySem.F.plainAttrs_list PySem.F.slot_list_extend PySem.F.type_list_extend mt_extA (pv 1) (pa_cons (dv_vs (i := 2)) pa_nil)))))
    (db_one (ds_ret (dw_callT cw_tuple rfl O.z_tuple (by decide +kernel) (da_cons (dv_vs (i := 1)) da_nil))))))
/-! base_of: 0 parts, 1 part -/
def g_base_of : GS := (gRet (gF 1 sem_joined_rows (gCons (gVd (gLc [1] (gIt (gN 0)) (hN 1) gYes (gFr (gOp fIx (gVsR 1) (gVd (gC (.int 1))))))) gNil)))
def sem_base_of : Sem' := fnS 1 g_base_of
theorem cal_base_of {T : Tbs} {P : Program} {w : World} {K : PySem.W.Frag} {mg : Str → Option Value} {base : Heap} (O : Ok T P w base K mg) : Cal T P w K mg base 2 "base_of" s_base_of P_base_of sem_base_of :=
  cal_of (N := N_base_of) (ps := P_base_of) (body := g_base_of) O.h_base_of sc_base_of rfl fun f fd cdv A outer s H E hm F hcd hgd hr => by
  have nd := sc_base_of.nd
  have tk : Takes (cxOf (L2.CX P w) P w K mg base N_base_of "base_of" (defScope s_base_of) f cdv A outer s H E) (fun c d _ H => E c d H) := takes_of rfl rfl rfl rfl
  exact (db_one (ds_ret (dw_callC (cal_joined_rows O) bp_joined_rows tk hgd (hr.mono (by decide)) rfl (da_cons (dv_vd (dw_lc (own := [("part", 1)]) rfl nd (di_sq (dw_n (i := 0))) (blkOk_by (own := [("part", 1)]) (by kernel_rfl)) (fun _ _ _ _ _ => (dg_n (i := 1) nd rfl (by first | exact .inl rfl | exact .inr rfl))) (fun _ _ _ _ _ => dts_nil) (fun _ _ _ _ _ => (de_fr (dw_ix (dv_vs (i := 1)) (dv_vd dw_int)))) (by decide))) da_nil))))
/-! ours_of: 0 parts, 1 part -/
def g_ours_of : GS := (gRet (gF 1 sem_joined_rows (gCons (gVd (gLc [1] (gIt (gN 0)) (hN 1) gYes (gFr (gIf (gB (gOp (fIn false) (gVd (gOp fIx (gVsR 1) (gVd (gC (.int 0))))) (gVd (gTup (gCons (gVd (gC (.str "ours"))) (gCons (gVd (gC (.str "alike"))) (gCons (gVd (gC (.str "clash"))) gNil))))))) (gOp fIx (gVsR 1) (gVd (gC (.int 2)))) (gOp fIx (gVsR 1) (gVd (gC (.int 1)))))))) gNil)))
def sem_ours_of : Sem' := fnS 1 g_ours_of
theorem cal_ours_of {T : Tbs} {P : Program} {w : World} {K : PySem.W.Frag} {mg : Str → Option Value} {base : Heap} (O : Ok T P w base K mg) : Cal T P w K mg base 2 "ours_of" s_ours_of P_ours_of sem_ours_of :=
  cal_of (N := N_ours_of) (ps := P_ours_of) (body := g_ours_of) O.h_ours_of sc_ours_of rfl fun f fd cdv A outer s H E hm F hcd hgd hr => by
  have nd := sc_ours_of.nd
  have tk : Takes (cxOf (L2.CX P w) P w K mg base N_ours_of "ours_of" (defScope s_ours_of) f cdv A outer s H E) (fun c d _ H => E c d H) := takes_of rfl rfl rfl rfl
  exact (db_one (ds_ret (dw_callC (cal_joined_rows O) bp_joined_rows tk hgd (hr.mono (by decide)) rfl (da_cons (dv_vd (dw_lc (own := [("part", 1)]) rfl nd (di_sq (dw_n (i := 0))) (blkOk_by (own := [("part", 1)]) (by kernel_rfl)) (fun _ _ _ _ _ => (dg_n (i := 1) nd rfl (by first | exact .inl rfl | exact .inr rfl))) (fun _ _ _ _ _ => dts_nil) (fun _ _ _ _ _ => (de_fr (dw_if (dt_cmp (ow_in hr) (dv_vd (dw_ix (dv_vs (i := 1)) (dv_vd dw_int))) (dv_vd (dw_tup (da_cons (dv_vd dw_str) (da_cons (dv_vd dw_str) (da_cons (dv_vd dw_str) da_nil)))))) (dw_ix (dv_vs (i := 1)) (dv_vd dw_int)) (dw_ix (dv_vs (i := 1)) (dv_vd dw_int))))) (by decide))) da_nil))))
/-! theirs_of: 0 parts, 1 part -/
def g_theirs_of : GS := (gRet (gF 1 sem_joined_rows (gCons (gVd (gLc [1] (gIt (gN 0)) (hN 1) gYes (gFr (gIf (gB (gOp (fIn false) (gVd (gOp fIx (gVsR 1) (gVd (gC (.int 0))))) (gVd (gTup (gCons (gVd (gC (.str "theirs"))) (gCons (gVd (gC (.str "alike"))) (gCons (gVd (gC (.str "clash"))) gNil))))))) (gOp fIx (gVsR 1) (gVd (gNeg (gVd (gC (.int 1)))))) (gOp fIx (gVsR 1) (gVd (gC (.int 1)))))))) gNil)))
def sem_theirs_of : Sem' := fnS 1 g_theirs_of
theorem cal_theirs_of {T : Tbs} {P : Program} {w : World} {K : PySem.W.Frag} {mg : Str → Option Value} {base : Heap} (O : Ok T P w base K mg) : Cal T P w K mg base 2 "theirs_of" s_theirs_of P_theirs_of sem_theirs_of :=
  cal_of (N := N_theirs_of) (ps := P_theirs_of) (body := g_theirs_of) O.h_theirs_of sc_theirs_of rfl fun f fd cdv A outer s H E hm F hcd hgd hr => by
  have nd := sc_theirs_of.nd
  have tk : Takes (cxOf (L2.CX P w) P w K mg base N_theirs_of "theirs_of" (defScope s_theirs_of) f cdv A outer s H E) (fun c d _ H => E c d H) := takes_of rfl rfl rfl rfl
  exact (db_one (ds_ret (dw_callC (cal_joined_rows O) bp_joined_rows tk hgd (hr.mono (by decide)) rfl (da_cons (dv_vd (dw_lc (own := [("part", 1)]) rfl nd (di_sq (dw_n (i := 0))) (blkOk_by (own := [("part", 1)]) (by kernel_rfl)) (fun _ _ _ _ _ => (dg_n (i := 1) nd rfl (by first | exact .inl rfl | exact .inr rfl))) (fun _ _ _ _ _ => dts_nil) (fun _ _ _ _ _ => (de_fr (dw_if (dt_cmp (ow_in hr) (dv_vd (dw_ix (dv_vs (i := 1)) (dv_vd dw_int))) (dv_vd (dw_tup (da_cons (dv_vd dw_str) (da_cons (dv_vd dw_str) (da_cons (dv_vd dw_str) da_nil)))))) (dw_ix (dv_vs (i := 1)) (dv_vd (dw_neg (dv_vd dw_int)))) (dw_ix (dv_vs (i := 1)) (dv_vd dw_int))))) (by decide))) da_nil))))
/-! _law_box: 0 _law_script, 1 _law_k, 2 _law_cell, 3 _law_great -/
def g__law_box : GS := (gSeq (gSet 2 (gOp fAdd (gVd (gOp fMul (gVd (gC (.int 8081))) (gVsR 1))) (gVd (gC (.int 607)))))
    (gSeq (gIfS (gB (gOp (fI fun i j => decide (i < j)) (gVsR 1) (gVd (gCall fLen (gCons (gVsR 0) gNil)))))
    (gSet 2 (gCall fAbs (gCons (gVd (gCall fInt (gCons (gVd (gOp fIx (gVsR 0) (gVsR 1))) gNil))) gNil)))
    (gIfS (gB (gOp (fI fun i j => decide (j < i)) (gVd (gCall fLen (gCons (gVsR 0) gNil))) (gVd (gC (.int 0)))))
    (gSet 2 (gOp fAdd (gVsR 2) (gVd (gOp fMul (gVd (gOp fMod (gVd (gCall fInt (gCons (gVd (gCall fAbs (gCons (gVd (gCall fInt (gCons (gVd (gOp fIx (gVsR 0) (gVd (gOp fMod (gVd (gCall fInt (gCons (gVsR 1) gNil))) (gVd (gCall fLen (gCons (gVsR 0) gNil))))))) gNil))) gNil))) gNil))) (gVd (gC (.int 2147483587))))) (gVd (gC (.int 50261)))))))
    gNx))
    (gSeq (gSet 3 (gIf (gB (gOp (fI fun i j => decide (j ≤ i)) (gVsR 2) (gVd (gOp fPow (gVd (gC (.int 10))) (gVd (gC (.int 18))))))) (gTk 2) (gC (.int 0))))
    (gRet (gLst (gCons (gVd (gTk 3)) (gCons (gVd (gOp fAdd (gVd (gOp fMod (gVd (gCall fInt (gCons (gVd (gOp fAdd (gVd (gOp fMul (gVd (gOp fMod (gVd (gCall fInt (gCons (gVsR 2) gNil))) (gVd (gC (.int 2147483587))))) (gVd (gC (.int 69621))))) (gVd (gOp fMul (gVd (gC (.int 607))) (gVsR 1))))) gNil))) (gVd (gC (.int 2147483587))))) (gVd (gC (.int 1))))) gNil)))))))
def sem__law_box : Sem' := fnS 2 g__law_box
theorem cal__law_box {T : Tbs} {P : Program} {w : World} {K : PySem.W.Frag} {mg : Str → Option Value} {base : Heap} (O : Ok T P w base K mg) : Cal T P w K mg base 1 "_law_box" s__law_box P__law_box sem__law_box :=
  cal_of (N := N__law_box) (ps := P__law_box) (body := g__law_box) O.h__law_box sc__law_box rfl fun f fd cdv A outer s H E hm F hcd hgd hr => by
  have nd := sc__law_box.nd
  have tk : Takes (cxOf (L2.CX P w) P w K mg base N__law_box "_law_box" (defScope s__law_box) f cdv A outer s H E) (fun c d _ H => E c d H) := takes_of rfl rfl rfl rfl
  exact (db_cons (ds_set (i := 2) nd rfl (by first | exact .inl rfl | exact .inr rfl) (dw_op ow_add (dv_vd (dw_op ow_mul (dv_vd dw_int) (dv_vs (i := 1)))) (dv_vd dw_int)))
    (db_cons (ds_if (dt_cmp ow_lt (dv_vs (i := 1)) (dv_vd (dw_callB cw_len rfl O.z_len (by decide +kernel) (da_cons (dv_vs (i := 0)) da_nil))))
    (db_one (ds_set (i := 2) nd rfl (by first | exact .inl rfl | exact .inr rfl) (dw_callB cw_abs rfl O.z_abs (by decide +kernel) (da_cons (dv_vd (dw_callT cw_int rfl O.z_int (by decide +kernel) (da_cons (dv_vd (dw_ix (dv_vs (i := 0)) (dv_vs (i := 1)))) da_nil))) da_nil))))
    (db_one (ds_if (dt_cmp ow_gt (dv_vd (dw_callB cw_len rfl O.z_len (by decide +kernel) (da_cons (dv_vs (i := 0)) da_nil))) (dv_vd dw_int))
    (db_one (ds_set (i := 2) nd rfl (by first | exact .inl rfl | exact .inr rfl) (dw_op ow_add (dv_vs (i := 2)) (dv_vd (dw_op ow_mul (dv_vd (dw_op ow_mod (dv_vd (dw_callT cw_int rfl O.z_int (by decide +kernel) (da_cons (dv_vd (dw_callB cw_abs rfl O.z_abs (by decide +kernel) (da_cons (dv_vd (dw_callT cw_int rfl O.z_int (by decide +kernel) (da_cons (dv_vd (dw_ix (dv_vs (i := 0)) (dv_vd (dw_op ow_mod (dv_vd (dw_callT cw_int rfl O.z_int (by decide +kernel) (da_cons (dv_vs (i := 1)) da_nil))) (dv_vd (dw_callB cw_len rfl O.z_len (by decide +kernel) (da_cons (dv_vs (i := 0)) da_nil))))))) da_nil))) da_nil))) da_nil))) (dv_vd dw_int))) (dv_vd dw_int))))))
    db_nil)))
    (db_cons (ds_set (i := 3) nd rfl (by first | exact .inl rfl | exact .inr rfl) (dw_if (dt_cmp ow_ge (dv_vs (i := 2)) (dv_vd (dw_op ow_pow (dv_vd dw_int) (dv_vd dw_int)))) (dw_tk (i := 2)) dw_int))
    (db_one (ds_ret (dw_lst (da_cons (dv_vd (dw_tk (i := 3))) (da_cons (dv_vd (dw_op ow_add (dv_vd (dw_op ow_mod (dv_vd (dw_callT cw_int rfl O.z_int (by decide +kernel) (da_cons (dv_vd (dw_op ow_add (dv_vd (dw_op ow_mul (dv_vd (dw_op ow_mod (dv_vd (dw_callT cw_int rfl O.z_int (by decide +kernel) (da_cons (dv_vs (i := 2)) da_nil))) (dv_vd dw_int))) (dv_vd dw_int))) (dv_vd (dw_op ow_mul (dv_vd dw_int) (dv_vs (i := 1)))))) da_nil))) (dv_vd dw_int))) (dv_vd dw_int))) da_nil))))))))
/-! _law_take: 0 _law_box_here, 1 _law_many, 2 _law_digit, 3 _law_raw -/
def g__law_take : GS := (gSeq (gIfS (gB (gOp (fI fun i j => decide (j < i)) (gVd (gOp fIx (gVsR 0) (gVd (gC (.int 0))))) (gVd (gC (.int 0)))))
    (gSeq (gSet 2 (gOp fMod (gVd (gCall fInt (gCons (gVd (gOp fIx (gVsR 0) (gVd (gC (.int 0))))) gNil))) (gVsR 1)))
    (gSeq (gISet 0 (gFr (gOp fFdiv (gVd (gOp fIx (gVsR 0) (gVd (gC (.int 0))))) (gVsR 1))) (gVd (gC (.int 0))))
    (gRet (gTk 2))))
    gNx)
    (gSeq (gSet 3 (gOp fMod (gVd (gCall fInt (gCons (gVd (gOp fAdd (gVd (gOp fMul (gVd (gOp fIx (gVsR 0) (gVd (gC (.int 1))))) (gVd (gC (.int 40692))))) (gVd (gC (.int 211))))) gNil))) (gVd (gC (.int 2147483399)))))
    (gSeq (gISet 0 (gFr (gOp fAdd (gVd (gOp fMod (gVd (gCall fInt (gCons (gVd (gOp fAdd (gVd (gOp fMul (gVsR 3) (gVd (gC (.int 40014))))) (gVd (gC (.int 31))))) gNil))) (gVd (gC (.int 2147483587))))) (gVd (gC (.int 1))))) (gVd (gC (.int 1))))
    (gRet (gOp fMod (gVd (gCall fInt (gCons (gVd (gOp fFdiv (gVd (gOp fAdd (gVd (gOp fMul (gVsR 3) (gVd (gC (.int 2147483629))))) (gVd (gOp fIx (gVsR 0) (gVd (gC (.int 1))))))) (gVd (gC (.int 8219))))) gNil))) (gVsR 1))))))
def sem__law_take : Sem' := fnS 2 g__law_take
theorem cal__law_take {T : Tbs} {P : Program} {w : World} {K : PySem.W.Frag} {mg : Str → Option Value} {base : Heap} (O : Ok T P w base K mg) : Cal T P w K mg base 1 "_law_take" s__law_take P__law_take sem__law_take :=
  cal_of (N := N__law_take) (ps := P__law_take) (body := g__law_take) O.h__law_take sc__law_take rfl fun f fd cdv A outer s H E hm F hcd hgd hr => by
  have nd := sc__law_take.nd
  have tk : Takes (cxOf (L2.CX P w) P w K mg base N__law_take "_law_take" (defScope s__law_take) f cdv A outer s H E) (fun c d _ H => E c d H) := takes_of rfl rfl rfl rfl
  exact (db_cons (ds_if (dt_cmp ow_gt (dv_vd (dw_ix (dv_vs (i := 0)) (dv_vd dw_int))) (dv_vd dw_int))
    (db_cons (ds_set (i := 2) nd rfl (by first | exact .inl rfl | exact .inr rfl) (dw_op ow_mod (dv_vd (dw_callT cw_int rfl O.z_int (by decide +kernel) (da_cons (dv_vd (dw_ix (dv_vs (i := 0)) (dv_vd dw_int))) da_nil))) (dv_vs (i := 1))))
    (db_cons (ds_iset (i := 0) rfl (by first | exact .inl rfl | exact .inr (.inl rfl)) (de_fr (dw_op ow_fdiv (dv_vd (dw_ix (dv_vs (i := 0)) (dv_vd dw_int))) (dv_vs (i := 1)))) (dv_vd dw_int))
    (db_one (ds_ret (dw_tk (i := 2))))))
    db_nil)
    (db_cons (ds_set (i := 3) nd rfl (by first | exact .inl rfl | exact .inr rfl) (dw_op ow_mod (dv_vd (dw_callT cw_int rfl O.z_int (by decide +kernel) (da_cons (dv_vd (dw_op ow_add (dv_vd (dw_op ow_mul (dv_vd (dw_ix (dv_vs (i := 0)) (dv_vd dw_int))) (dv_vd dw_int))) (dv_vd dw_int))) da_nil))) (dv_vd dw_int)))
    (db_cons (ds_iset (i := 0) rfl (by first | exact .inl rfl | exact .inr (.inl rfl)) (de_fr (dw_op ow_add (dv_vd (dw_op ow_mod (dv_vd (dw_callT cw_int rfl O.z_int (by decide +kernel) (da_cons (dv_vd (dw_op ow_add (dv_vd (dw_op ow_mul (dv_vs (i := 3)) (dv_vd dw_int))) (dv_vd dw_int))) da_nil))) (dv_vd dw_int))) (dv_vd dw_int))) (dv_vd dw_int))
    (db_one (ds_ret (dw_op ow_mod (dv_vd (dw_callT cw_int rfl O.z_int (by decide +kernel) (da_cons (dv_vd (dw_op ow_fdiv (dv_vd (dw_op ow_add (dv_vd (dw_op ow_mul (dv_vs (i := 3)) (dv_vd dw_int))) (dv_vd (dw_ix (dv_vs (i := 0)) (dv_vd dw_int))))) (dv_vd dw_int))) da_nil))) (dv_vs (i := 1))))))))
/-! _law_pick: 0 _law_box_here, 1 _law_some -/
def g__law_pick : GS := (gRet (gOp fIx (gVsR 1) (gVd (gFM 2 sem__law_take (gCons (gVsR 0) (gCons (gVd (gCall fLen (gCons (gVsR 1) gNil))) gNil))))))
def sem__law_pick : Sem' := fnS 0 g__law_pick
theorem cal__law_pick {T : Tbs} {P : Program} {w : World} {K : PySem.W.Frag} {mg : Str → Option Value} {base : Heap} (O : Ok T P w base K mg) : Cal T P w K mg base 2 "_law_pick" s__law_pick P__law_pick sem__law_pick :=
  cal_of (N := N__law_pick) (ps := P__law_pick) (body := g__law_pick) O.h__law_pick sc__law_pick rfl fun f fd cdv A outer s H E hm F hcd hgd hr => by
  have nd := sc__law_pick.nd
  have tk : Takes (cxOf (L2.CX P w) P w K mg base N__law_pick "_law_pick" (defScope s__law_pick) f cdv A outer s H E) (fun c d _ H => E c d H) := takes_of rfl rfl rfl rfl
  exact (db_one (ds_ret (dw_ix (dv_vs (i := 1)) (dv_vd (dw_callMC (cal__law_take O) bp__law_take tk hgd (hr.mono (by decide)) rfl (da_cons (dv_vs (i := 0)) (da_cons (dv_vd (dw_callB cw_len rfl O.z_len (by decide +kernel) (da_cons (dv_vs (i := 1)) da_nil))) da_nil)))))))
/-! _law_side: 0 _law_box_here, 1 _law_base, 2 _law_many, 3 _law_found, 4 _law_at, 5 _law_turn, 6 _law_low, 7 _law_high, 8 _law_things, 9 _law_one -/
def g__law_side : GS := (gSeq (gPar 3 4 (gLst gNil) (gC (.int 0)))
    (gSeq (gFor (gR1 (gCons (gVsR 2) gNil)) (hN 5)
    (gSeq (gSet 6 (gOp fAdd (gVsR 4) (gVd (gFM 2 sem__law_take (gCons (gVsR 0) (gCons (gVd (gC (.int 3))) gNil))))))
    (gSeq (gSet 7 (gOp fAdd (gVsR 6) (gVd (gFM 2 sem__law_pick (gCons (gVsR 0) (gCons (gVd (gLst (gCons (gVd (gC (.int 0))) (gCons (gVd (gC (.int 0))) (gCons (gVd (gC (.int 1))) (gCons (gVd (gC (.int 1))) (gCons (gVd (gC (.int 2))) gNil))))))) gNil))))))
    (gSeq (gSet 8 (gCall fTuple (gCons (gVd (gLc [9] (gR1 (gCons (gVd (gFM 2 sem__law_take (gCons (gVsR 0) (gCons (gVd (gC (.int 3))) gNil)))) gNil)) (hN 9) gYes (gFr (gFM 2 sem__law_take (gCons (gVsR 0) (gCons (gVd (gC (.int 9))) gNil)))))) gNil)))
    (gIfS (gAnd (gB (gOp (fI fun i j => decide (i ≤ j)) (gVsR 7) (gVd (gCall fLen (gCons (gVsR 1) gNil))))) (gOr (gB (gOp (fI fun i j => decide (j < i)) (gVsR 7) (gVsR 6))) (gB (gOp fNe (gVsR 8) (gVd (gTup gNil))))))
    (gSeq (gApp' 3 (gFr (gTup (gCons (gVd (gTk 6)) (gCons (gVd (gTk 7)) (gCons (gVd (gTk 8)) gNil))))))
    (gSet 4 (gOp fAdd (gVsR 7) (gVd (gC (.int 1))))))
    gNx)))))
    (gRet (gCall fTuple (gCons (gVsR 3) gNil)))))
def sem__law_side : Sem' := fnS 7 g__law_side
theorem cal__law_side {T : Tbs} {P : Program} {w : World} {K : PySem.W.Frag} {mg : Str → Option Value} {base : Heap} (O : Ok T P w base K mg) : Cal T P w K mg base 3 "_law_side" s__law_side P__law_side sem__law_side :=
  cal_of (N := N__law_side) (ps := P__law_side) (body := g__law_side) O.h__law_side sc__law_side rfl fun f fd cdv A outer s H E hm F hcd hgd hr => by
  have nd := sc__law_side.nd
  have tk : Takes (cxOf (L2.CX P w) P w K mg base N__law_side "_law_side" (defScope s__law_side) f cdv A outer s H E) (fun c d _ H => E c d H) := takes_of rfl rfl rfl rfl
  exact (db_cons (ds_par (i := 3) (j := 4) rfl nd rfl rfl (by decide) rfl rfl (dw_lst da_nil) dw_int rfl)
    (db_cons (ds_for (passes_of rfl) rfl (di_r1 rfl O.z_range (da_cons (dv_vs (i := 2)) da_nil)) (dg_n (i := 5) nd rfl (by first | exact .inl rfl | exact .inr rfl))
    (db_cons (ds_set (i := 6) nd rfl (by first | exact .inl rfl | exact .inr rfl) (dw_op ow_add (dv_vs (i := 4)) (dv_vd (dw_callMC (cal__law_take O) bp__law_take tk hgd (hr.mono (by decide)) rfl (da_cons (dv_vs (i := 0)) (da_cons (dv_vd dw_int) da_nil))))))
    (db_cons (ds_set (i := 7) nd rfl (by first | exact .inl rfl | exact .inr rfl) (dw_op ow_add (dv_vs (i := 6)) (dv_vd (dw_callMC (cal__law_pick O) bp__law_pick tk hgd (hr.mono (by decide)) rfl (da_cons (dv_vs (i := 0)) (da_cons (dv_vd (dw_lst (da_cons (dv_vd dw_int) (da_cons (dv_vd dw_int) (da_cons (dv_vd dw_int) (da_cons (dv_vd dw_int) (da_cons (dv_vd dw_int) da_nil))))))) da_nil))))))
    (db_cons (ds_set (i := 8) nd rfl (by first | exact .inl rfl | exact .inr rfl) (dw_callT cw_tuple rfl O.z_tuple (by decide +kernel) (da_cons (dv_vd (dw_lc (own := [("_law_one", 9)]) rfl nd (di_r1 rfl O.z_range (da_cons (dv_vd (dw_callMC (cal__law_take O) bp__law_take tk hgd (hr.mono (by decide)) rfl (da_cons (dv_vs (i := 0)) (da_cons (dv_vd dw_int) da_nil)))) da_nil)) (blkOk_by (own := [("_law_one", 9)]) (by kernel_rfl)) (fun _ _ _ _ _ => (dg_n (i := 9) nd rfl (by first | exact .inl rfl | exact .inr rfl))) (fun _ _ _ _ _ => dts_nil) (fun _ _ _ _ _ => (de_fr (dw_callMC (cal__law_take O) bp__law_take LamX.takes0 hgd (hr.mono (by decide)) rfl (da_cons (dv_vs (i := 0)) (da_cons (dv_vd dw_int) da_nil))))) (by decide))) da_nil)))
    (db_one (ds_if (dt_w (dtw_and (dt_cmp ow_le (dv_vs (i := 7)) (dv_vd (dw_callB cw_len rfl O.z_len (by decide +kernel) (da_cons (dv_vs (i := 1)) da_nil)))) (dtw_and1 (dt_w (dtw_or (dt_cmp ow_gt (dv_vs (i := 7)) (dv_vs (i := 6))) (dtw_or1 (dt_cmp (ow_ne hr) (dv_vs (i := 8)) (dv_vd (dw_tup da_nil)))))))))
    (db_cons (ds_app (i := 3) (pe_bm PySem.F.plainAttrs_list PySem.F.slot_list_append PySem.F.type_list_append mt_append (pv 3) (pa_cons (de_fr (dw_tup (da_cons (dv_vd (dw_tk (i := 6))) (da_cons (dv_vd (dw_tk (i := 7))) (da_cons (dv_vd (dw_tk (i := 8))) da_nil))))) pa_nil)))
    (db_one (ds_set (i := 4) nd rfl (by first | exact .inl rfl | exact .inr rfl) (dw_op ow_add (dv_vs (i := 7)) (dv_vd dw_int)))))
    db_nil))))))
    (db_one (ds_ret (dw_callT cw_tuple rfl O.z_tuple (by decide +kernel) (da_cons (dv_vs (i := 3)) da_nil))))))
/-! _law_put: 0 _law_base, 1 _law_hunks, 2 _law_rows, 3 _law_low, 4 _law_high, 5 _law_things -/
def g__law_put : GS := (gSeq (gSet 2 (gCall fList (gCons (gVsR 0) gNil)))
    (gSeq (gFor (gIt (gListRev (gN 1))) (hT 3 (hCons (hN 3) (hCons (hN 4) (hCons (hN 5) hNil))))
    (gSet 2 (gOp fAdd (gVd (gOp fAdd (gVd (gSl (gVsR 2) gP0 (gP1 (gVsR 3)))) (gVd (gCall fList (gCons (gVsR 5) gNil))))) (gVd (gSl (gVsR 2) (gP1 (gVsR 4)) gP0)))))
    (gRet (gCall fTuple (gCons (gVsR 2) gNil)))))
def sem__law_put : Sem' := fnS 4 g__law_put
theorem cal__law_put {T : Tbs} {P : Program} {w : World} {K : PySem.W.Frag} {mg : Str → Option Value} {base : Heap} (O : Ok T P w base K mg) : Cal T P w K mg base 1 "_law_put" s__law_put P__law_put sem__law_put :=
  cal_of (N := N__law_put) (ps := P__law_put) (body := g__law_put) O.h__law_put sc__law_put rfl fun f fd cdv A outer s H E hm F hcd hgd hr => by
  have nd := sc__law_put.nd
  have tk : Takes (cxOf (L2.CX P w) P w K mg base N__law_put "_law_put" (defScope s__law_put) f cdv A outer s H E) (fun c d _ H => E c d H) := takes_of rfl rfl rfl rfl
  exact (db_cons (ds_set (i := 2) nd rfl (by first | exact .inl rfl | exact .inr rfl) (dw_callT cw_list rfl O.z_list (by decide +kernel) (da_cons (dv_vs (i := 0)) da_nil)))
    (db_cons (ds_for (passes_of rfl) rfl (di_sq (dw_listRev rfl rfl O.z_list rfl O.z_reversed (dw_n (i := 1)))) (dg_t rfl (dgs_cons (dg_n (i := 3) nd rfl (by first | exact .inl rfl | exact .inr rfl)) (dgs_cons (dg_n (i := 4) nd rfl (by first | exact .inl rfl | exact .inr rfl)) (dgs_cons (dg_n (i := 5) nd rfl (by first | exact .inl rfl | exact .inr rfl)) dgs_nil))))
    (db_one (ds_set (i := 2) nd rfl (by first | exact .inl rfl | exact .inr rfl) (dw_op ow_add (dv_vd (dw_op ow_add (dv_vd (dw_sl (dv_vs (i := 2)) dpo_none (dpo_some (dv_vs (i := 3))))) (dv_vd (dw_callT cw_list rfl O.z_list (by decide +kernel) (da_cons (dv_vs (i := 5)) da_nil))))) (dv_vd (dw_sl (dv_vs (i := 2)) (dpo_some (dv_vs (i := 4))) dpo_none))))))
    (db_one (ds_ret (dw_callT cw_tuple rfl O.z_tuple (by decide +kernel) (da_cons (dv_vs (i := 2)) da_nil))))))
/-! _law_meet: 0 _law_one, 1 _law_other -/
def g__law_meet : GS := (gRet (gAndV (gOp (fI fun i j => decide (i ≤ j)) (gVd (gOp fIx (gVsR 0) (gVd (gC (.int 0))))) (gVd (gOp fIx (gVsR 1) (gVd (gC (.int 1)))))) (gOp (fI fun i j => decide (i ≤ j)) (gVd (gOp fIx (gVsR 1) (gVd (gC (.int 0))))) (gVd (gOp fIx (gVsR 0) (gVd (gC (.int 1))))))))
def sem__law_meet : Sem' := fnS 0 g__law_meet
theorem cal__law_meet {T : Tbs} {P : Program} {w : World} {K : PySem.W.Frag} {mg : Str → Option Value} {base : Heap} (O : Ok T P w base K mg) : Cal T P w K mg base 1 "_law_meet" s__law_meet P__law_meet sem__law_meet :=
  cal_of (N := N__law_meet) (ps := P__law_meet) (body := g__law_meet) O.h__law_meet sc__law_meet rfl fun f fd cdv A outer s H E hm F hcd hgd hr => by
  have nd := sc__law_meet.nd
  have tk : Takes (cxOf (L2.CX P w) P w K mg base N__law_meet "_law_meet" (defScope s__law_meet) f cdv A outer s H E) (fun c d _ H => E c d H) := takes_of rfl rfl rfl rfl
  exact (db_one (ds_ret (dw_and (dw_cmp ow_le (dv_vd (dw_ix (dv_vs (i := 0)) (dv_vd dw_int))) (dv_vd (dw_ix (dv_vs (i := 1)) (dv_vd dw_int)))) (dw_one (dw_cmp ow_le (dv_vd (dw_ix (dv_vs (i := 1)) (dv_vd dw_int))) (dv_vd (dw_ix (dv_vs (i := 0)) (dv_vd dw_int))))))))
/-! _law_stretches: 0 _law_ours, 1 _law_theirs, 2 _law_found, 3 _law_hunk, 4 _law_turn, 5 _law_one, 6 _law_other, 7 _law_some -/
def g__law_stretches : GS := (gSeq (gSet 2 (gLc [3] (gIt (gOp fAdd (gVsR 0) (gVsR 1))) (hN 3) gYes (gFr (gTup (gCons (gVd (gOp fIx (gVsR 3) (gVd (gC (.int 0))))) (gCons (gVd (gOp fIx (gVsR 3) (gVd (gC (.int 1))))) gNil))))))
    (gSeq (gFor (gR1 (gCons (gVd (gOp fAdd (gVd (gCall fLen (gCons (gVsR 2) gNil))) (gVd (gC (.int 1))))) gNil)) (hN 4)
    (gFor (gIt (gCall fList (gCons (gVsR 2) gNil))) (hN 5)
    (gFor (gIt (gCall fList (gCons (gVsR 2) gNil))) (hN 6)
    (gIfS (gAnd (gB (gOp fNe (gVsR 5) (gVsR 6))) (gAnd (gB (gOp (fIn false) (gVsR 5) (gVsR 2))) (gAnd (gB (gOp (fIn false) (gVsR 6) (gVsR 2))) (gB (gF 2 sem__law_meet (gCons (gVsR 5) (gCons (gVsR 6) gNil)))))))
    (gSet 2 (gOp fAdd (gVd (gLc [7] (gIt (gTk 2)) (hN 7) (gAnd (gB (gOp fNe (gVsR 7) (gVsR 5))) (gB (gOp fNe (gVsR 7) (gVsR 6)))) (gFr (gN 7)))) (gVd (gLst (gCons (gVd (gTup (gCons (gVd (gCall fMin (gCons (gVd (gOp fIx (gVsR 5) (gVd (gC (.int 0))))) (gCons (gVd (gOp fIx (gVsR 6) (gVd (gC (.int 0))))) gNil)))) (gCons (gVd (gCall fMax (gCons (gVd (gOp fIx (gVsR 5) (gVd (gC (.int 1))))) (gCons (gVd (gOp fIx (gVsR 6) (gVd (gC (.int 1))))) gNil)))) gNil)))) gNil)))))
    gNx))))
    (gRet (gCall fSortSet (gCons (gVsR 2) gNil)))))
def sem__law_stretches : Sem' := fnS 6 g__law_stretches
theorem cal__law_stretches {T : Tbs} {P : Program} {w : World} {K : PySem.W.Frag} {mg : Str → Option Value} {base : Heap} (O : Ok T P w base K mg) : Cal T P w K mg base 2 "_law_stretches" s__law_stretches P__law_stretches sem__law_stretches :=
  cal_of (N := N__law_stretches) (ps := P__law_stretches) (body := g__law_stretches) O.h__law_stretches sc__law_stretches rfl fun f fd cdv A outer s H E hm F hcd hgd hr => by
  have nd := sc__law_stretches.nd
  have tk : Takes (cxOf (L2.CX P w) P w K mg base N__law_stretches "_law_stretches" (defScope s__law_stretches) f cdv A outer s H E) (fun c d _ H => E c d H) := takes_of rfl rfl rfl rfl
  exact (db_cons (ds_setLc (own := [("_law_hunk", 3)]) rfl nd (i := 2) rfl rfl (sw_true rfl rfl rfl rfl) (di_sq (dw_op ow_add (dv_vs (i := 0)) (dv_vs (i := 1)))) (blkOk_by (own := [("_law_hunk", 3)]) (by kernel_rfl)) (fun _ _ _ _ _ => (dg_n (i := 3) nd rfl (by first | exact .inl rfl | exact .inr rfl))) (fun _ _ _ _ _ => dts_nil) (fun _ _ _ _ _ => (de_fr (dw_tup (da_cons (dv_vd (dw_ix (dv_vs (i := 3)) (dv_vd dw_int))) (da_cons (dv_vd (dw_ix (dv_vs (i := 3)) (dv_vd dw_int))) da_nil))))) (by decide))
    (db_cons (ds_for (passes_of rfl) rfl (di_r1 rfl O.z_range (da_cons (dv_vd (dw_op ow_add (dv_vd (dw_callB cw_len rfl O.z_len (by decide +kernel) (da_cons (dv_vs (i := 2)) da_nil))) (dv_vd dw_int))) da_nil)) (dg_n (i := 4) nd rfl (by first | exact .inl rfl | exact .inr rfl))
    (db_one (ds_for (passes_of rfl) rfl (di_sq (dw_callT cw_list rfl O.z_list (by decide +kernel) (da_cons (dv_vs (i := 2)) da_nil))) (dg_n (i := 5) nd rfl (by first | exact .inl rfl | exact .inr rfl))
    (db_one (ds_for (passes_of rfl) rfl (di_sq (dw_callT cw_list rfl O.z_list (by decide +kernel) (da_cons (dv_vs (i := 2)) da_nil))) (dg_n (i := 6) nd rfl (by first | exact .inl rfl | exact .inr rfl))
    (db_one (ds_if (dt_w (dtw_and (dt_cmp (ow_ne hr) (dv_vs (i := 5)) (dv_vs (i := 6))) (dtw_and (dt_cmp (ow_in hr) (dv_vs (i := 5)) (dv_vs (i := 2))) (dtw_and (dt_cmp (ow_in hr) (dv_vs (i := 6)) (dv_vs (i := 2))) (dtw_and1 (dt_val (dw_callC (cal__law_meet O) bp__law_meet tk hgd (hr.mono (by decide)) rfl (da_cons (dv_vs (i := 5)) (da_cons (dv_vs (i := 6)) da_nil)))))))))
    (db_one (ds_set (i := 2) nd rfl (by first | exact .inl rfl | exact .inr rfl) (dw_op ow_add (dv_vd (dw_lc (own := [("_law_some", 7)]) rfl nd (di_sq (dw_tk (i := 2))) (blkOk_by (own := [("_law_some", 7)]) (by kernel_rfl)) (fun _ _ _ _ _ => (dg_n (i := 7) nd rfl (by first | exact .inl rfl | exact .inr rfl))) (fun _ _ _ _ _ => (dts_one (dt_w (dtw_and (dt_cmp (ow_ne hr) (dv_vs (i := 7)) (dv_vs (i := 5))) (dtw_and1 (dt_cmp (ow_ne hr) (dv_vs (i := 7)) (dv_vs (i := 6)))))))) (fun _ _ _ _ _ => (de_fr (dw_n (i := 7)))) (by decide))) (dv_vd (dw_lst (da_cons (dv_vd (dw_tup (da_cons (dv_vd (dw_callB (cw_min rfl) rfl O.z_min (by decide +kernel) (da_cons (dv_vd (dw_ix (dv_vs (i := 5)) (dv_vd dw_int))) (da_cons (dv_vd (dw_ix (dv_vs (i := 6)) (dv_vd dw_int))) da_nil)))) (da_cons (dv_vd (dw_callB (cw_max rfl) rfl O.z_max (by decide +kernel) (da_cons (dv_vd (dw_ix (dv_vs (i := 5)) (dv_vd dw_int))) (da_cons (dv_vd (dw_ix (dv_vs (i := 6)) (dv_vd dw_int))) da_nil)))) da_nil)))) da_nil))))))
    db_nil)))))))
    (db_one (ds_ret (dw_sortSet rfl (un64 hr) rfl O.z_sorted rfl O.z_set (da_cons (dv_vs (i := 2)) da_nil))))))
/-! _law_parts: 0 _law_base, 1 _law_ours, 2 _law_theirs, 3 _law_found, 4 _law_at, 5 _law_low, 6 _law_high, 7 _law_here, 8 _law_hunk, 9 _law_there, 10 _law_rows, 11 _law_word, 12 _law_part -/
def g__law_parts : GS := (gSeq (gPar 3 4 (gLst gNil) (gC (.int 0)))
    (gSeq (gFor (gIt (gF 2 sem__law_stretches (gCons (gVsR 1) (gCons (gVsR 2) gNil)))) (hT 2 (hCons (hN 5) (hCons (hN 6) hNil)))
    (gSeq (gIfS (gB (gOp (fI fun i j => decide (j < i)) (gVsR 5) (gVsR 4)))
    (gApp' 3 (gFr (gTup (gCons (gVd (gC (.str "same"))) (gCons (gVd (gSl (gVsR 0) (gP1 (gVsR 4)) (gP1 (gVsR 5)))) gNil)))))
    gNx)
    (gSeq (gSet 7 (gLc [8] (gIt (gN 1)) (hN 8) (gAnd (gB (gOp (fI fun i j => decide (i ≤ j)) (gVsR 5) (gVd (gOp fIx (gVsR 8) (gVd (gC (.int 0))))))) (gB (gOp (fI fun i j => decide (i ≤ j)) (gVd (gOp fIx (gVsR 8) (gVd (gC (.int 1))))) (gVsR 6)))) (gFr (gTup (gCons (gVd (gOp fSub (gVd (gOp fIx (gVsR 8) (gVd (gC (.int 0))))) (gVsR 5))) (gCons (gVd (gOp fSub (gVd (gOp fIx (gVsR 8) (gVd (gC (.int 1))))) (gVsR 5))) (gCons (gVd (gOp fIx (gVsR 8) (gVd (gC (.int 2))))) gNil)))))))
    (gSeq (gSet 9 (gLc [8] (gIt (gN 2)) (hN 8) (gAnd (gB (gOp (fI fun i j => decide (i ≤ j)) (gVsR 5) (gVd (gOp fIx (gVsR 8) (gVd (gC (.int 0))))))) (gB (gOp (fI fun i j => decide (i ≤ j)) (gVd (gOp fIx (gVsR 8) (gVd (gC (.int 1))))) (gVsR 6)))) (gFr (gTup (gCons (gVd (gOp fSub (gVd (gOp fIx (gVsR 8) (gVd (gC (.int 0))))) (gVsR 5))) (gCons (gVd (gOp fSub (gVd (gOp fIx (gVsR 8) (gVd (gC (.int 1))))) (gVsR 5))) (gCons (gVd (gOp fIx (gVsR 8) (gVd (gC (.int 2))))) gNil)))))))
    (gSeq (gSet 10 (gSl (gVsR 0) (gP1 (gVsR 5)) (gP1 (gVsR 6))))
    (gSeq (gSet 11 (gIf (gB (gOp fEq (gVsR 9) (gVd (gLst gNil)))) (gC (.str "ours")) (gIf (gB (gOp fEq (gVsR 7) (gVd (gLst gNil)))) (gC (.str "theirs")) (gIf (gB (gOp fEq (gVsR 7) (gVsR 9))) (gC (.str "alike")) (gC (.str "clash"))))))
    (gSeq (gSet 12 (gTup (gCons (gVd (gTk 11)) (gCons (gVd (gTk 10)) (gCons (gVd (gF 2 sem__law_put (gCons (gVd (gTk 10)) (gCons (gVd (gIf (gB (gOp fEq (gVsR 11) (gVd (gC (.str "theirs"))))) (gTk 9) (gTk 7))) gNil)))) gNil)))))
    (gSeq (gApp' 3 (gFr (gIf (gB (gOp fEq (gVsR 11) (gVd (gC (.str "clash"))))) (gOp fAdd (gVsR 12) (gVd (gTup (gCons (gVd (gF 2 sem__law_put (gCons (gVd (gTk 10)) (gCons (gVd (gTk 9)) gNil)))) gNil)))) (gTk 12))))
    (gSet 4 (gN 6))))))))))
    (gRet (gCall fTuple (gCons (gVd (gIf (gB (gOp (fI fun i j => decide (i < j)) (gVsR 4) (gVd (gCall fLen (gCons (gVsR 0) gNil))))) (gOp fAdd (gVsR 3) (gVd (gLst (gCons (gVd (gTup (gCons (gVd (gC (.str "same"))) (gCons (gVd (gSl (gVsR 0) (gP1 (gVsR 4)) gP0)) gNil)))) gNil)))) (gTk 3))) gNil)))))
def sem__law_parts : Sem' := fnS 10 g__law_parts
theorem cal__law_parts {T : Tbs} {P : Program} {w : World} {K : PySem.W.Frag} {mg : Str → Option Value} {base : Heap} (O : Ok T P w base K mg) : Cal T P w K mg base 3 "_law_parts" s__law_parts P__law_parts sem__law_parts :=
  cal_of (N := N__law_parts) (ps := P__law_parts) (body := g__law_parts) O.h__law_parts sc__law_parts rfl fun f fd cdv A outer s H E hm F hcd hgd hr => by
  have nd := sc__law_parts.nd
  have tk : Takes (cxOf (L2.CX P w) P w K mg base N__law_parts "_law_parts" (defScope s__law_parts) f cdv A outer s H E) (fun c d _ H => E c d H) := takes_of rfl rfl rfl rfl
  exact (db_cons (ds_par (i := 3) (j := 4) rfl nd rfl rfl (by decide) rfl rfl (dw_lst da_nil) dw_int rfl)
    (db_cons (ds_for (passes_of rfl) rfl (di_sq (dw_callC (cal__law_stretches O) bp__law_stretches tk hgd (hr.mono (by decide)) rfl (da_cons (dv_vs (i := 1)) (da_cons (dv_vs (i := 2)) da_nil)))) (dg_t rfl (dgs_cons (dg_n (i := 5) nd rfl (by first | exact .inl rfl | exact .inr rfl)) (dgs_cons (dg_n (i := 6) nd rfl (by first | exact .inl rfl | exact .inr rfl)) dgs_nil)))
    (db_cons (ds_if (dt_cmp ow_gt (dv_vs (i := 5)) (dv_vs (i := 4)))
    (db_one (ds_app (i := 3) (pe_bm PySem.F.plainAttrs_list PySem.F.slot_list_append PySem.F.type_list_append mt_append (pv 3) (pa_cons (de_fr (dw_tup (da_cons (dv_vd dw_str) (da_cons (dv_vd (dw_sl (dv_vs (i := 0)) (dpo_some (dv_vs (i := 4))) (dpo_some (dv_vs (i := 5))))) da_nil)))) pa_nil))))
    db_nil)
    (db_cons (ds_setLc (own := [("_law_hunk", 8)]) rfl nd (i := 7) rfl rfl (sw_true rfl rfl rfl rfl) (di_sq (dw_n (i := 1))) (blkOk_by (own := [("_law_hunk", 8)]) (by kernel_rfl)) (fun _ _ _ _ _ => (dg_n (i := 8) nd rfl (by first | exact .inl rfl | exact .inr rfl))) (fun _ _ _ _ _ => (dts_one (dt_w (dtw_and (dt_cmp ow_le (dv_vs (i := 5)) (dv_vd (dw_ix (dv_vs (i := 8)) (dv_vd dw_int)))) (dtw_and1 (dt_cmp ow_le (dv_vd (dw_ix (dv_vs (i := 8)) (dv_vd dw_int))) (dv_vs (i := 6)))))))) (fun _ _ _ _ _ => (de_fr (dw_tup (da_cons (dv_vd (dw_op ow_sub (dv_vd (dw_ix (dv_vs (i := 8)) (dv_vd dw_int))) (dv_vs (i := 5)))) (da_cons (dv_vd (dw_op ow_sub (dv_vd (dw_ix (dv_vs (i := 8)) (dv_vd dw_int))) (dv_vs (i := 5)))) (da_cons (dv_vd (dw_ix (dv_vs (i := 8)) (dv_vd dw_int))) da_nil)))))) (by decide))
    (db_cons (ds_setLc (own := [("_law_hunk", 8)]) rfl nd (i := 9) rfl rfl (sw_true rfl rfl rfl rfl) (di_sq (dw_n (i := 2))) (blkOk_by (own := [("_law_hunk", 8)]) (by kernel_rfl)) (fun _ _ _ _ _ => (dg_n (i := 8) nd rfl (by first | exact .inl rfl | exact .inr rfl))) (fun _ _ _ _ _ => (dts_one (dt_w (dtw_and (dt_cmp ow_le (dv_vs (i := 5)) (dv_vd (dw_ix (dv_vs (i := 8)) (dv_vd dw_int)))) (dtw_and1 (dt_cmp ow_le (dv_vd (dw_ix (dv_vs (i := 8)) (dv_vd dw_int))) (dv_vs (i := 6)))))))) (fun _ _ _ _ _ => (de_fr (dw_tup (da_cons (dv_vd (dw_op ow_sub (dv_vd (dw_ix (dv_vs (i := 8)) (dv_vd dw_int))) (dv_vs (i := 5)))) (da_cons (dv_vd (dw_op ow_sub (dv_vd (dw_ix (dv_vs (i := 8)) (dv_vd dw_int))) (dv_vs (i := 5)))) (da_cons (dv_vd (dw_ix (dv_vs (i := 8)) (dv_vd dw_int))) da_nil)))))) (by decide))
    (db_cons (ds_set (i := 10) nd rfl (by first | exact .inl rfl | exact .inr rfl) (dw_sl (dv_vs (i := 0)) (dpo_some (dv_vs (i := 5))) (dpo_some (dv_vs (i := 6)))))
    (db_cons (ds_set (i := 11) nd rfl (by first | exact .inl rfl | exact .inr rfl) (dw_if (dt_cmp (ow_eq hr) (dv_vs (i := 9)) (dv_vd (dw_lst da_nil))) dw_str (dw_if (dt_cmp (ow_eq hr) (dv_vs (i := 7)) (dv_vd (dw_lst da_nil))) dw_str (dw_if (dt_cmp (ow_eq hr) (dv_vs (i := 7)) (dv_vs (i := 9))) dw_str dw_str))))
    (db_cons (ds_set (i := 12) nd rfl (by first | exact .inl rfl | exact .inr rfl) (dw_tup (da_cons (dv_vd (dw_tk (i := 11))) (da_cons (dv_vd (dw_tk (i := 10))) (da_cons (dv_vd (dw_callC (cal__law_put O) bp__law_put tk hgd (hr.mono (by decide)) rfl (da_cons (dv_vd (dw_tk (i := 10))) (da_cons (dv_vd (dw_if (dt_cmp (ow_eq hr) (dv_vs (i := 11)) (dv_vd dw_str)) (dw_tk (i := 9)) (dw_tk (i := 7)))) da_nil)))) da_nil)))))
    (db_cons (ds_app (i := 3) (pe_bm PySem.F.plainAttrs_list PySem.F.slot_list_append PySem.F.type_list_append mt_append (pv 3) (pa_cons (de_fr (dw_if (dt_cmp (ow_eq hr) (dv_vs (i := 11)) (dv_vd dw_str)) (dw_op ow_add (dv_vs (i := 12)) (dv_vd (dw_tup (da_cons (dv_vd (dw_callC (cal__law_put O) bp__law_put tk hgd (hr.mono (by decide)) rfl (da_cons (dv_vd (dw_tk (i := 10))) (da_cons (dv_vd (dw_tk (i := 9))) da_nil)))) da_nil)))) (dw_tk (i := 12)))) pa_nil)))
    (db_one (ds_set (i := 4) nd rfl (by first | exact .inl rfl | exact .inr rfl) (dw_n (i := 6))))))))))))
    (db_one (ds_ret (dw_callT cw_tuple rfl O.z_tuple (by decide +kernel) (da_cons (dv_vd (dw_if (dt_cmp ow_lt (dv_vs (i := 4)) (dv_vd (dw_callB cw_len rfl O.z_len (by decide +kernel) (da_cons (dv_vs (i := 0)) da_nil)))) (dw_op ow_add (dv_vs (i := 3)) (dv_vd (dw_lst (da_cons (dv_vd (dw_tup (da_cons (dv_vd dw_str) (da_cons (dv_vd (dw_sl (dv_vs (i := 0)) (dpo_some (dv_vs (i := 4))) dpo_none)) da_nil)))) da_nil)))) (dw_tk (i := 3)))) da_nil))))))
/-! _law_exchanged: 0 _law_parts_here, 1 _law_found, 2 _law_part -/
def g__law_exchanged : GS := (gSeq (gSet 1 (gLst gNil))
    (gSeq (gFor (gIt (gN 0)) (hN 2)
    (gIfS (gB (gOp fEq (gVd (gOp fIx (gVsR 2) (gVd (gC (.int 0))))) (gVd (gC (.str "clash")))))
    (gApp' 1 (gFr (gTup (gCons (gVd (gOp fIx (gVsR 2) (gVd (gC (.int 0))))) (gCons (gVd (gOp fIx (gVsR 2) (gVd (gC (.int 1))))) (gCons (gVd (gOp fIx (gVsR 2) (gVd (gC (.int 3))))) (gCons (gVd (gOp fIx (gVsR 2) (gVd (gC (.int 2))))) gNil)))))))
    (gApp' 1 (gFr (gOp fAdd (gVd (gTup (gCons (gVd (gIf (gB (gOp fEq (gVd (gOp fIx (gVsR 2) (gVd (gC (.int 0))))) (gVd (gC (.str "ours"))))) (gC (.str "theirs")) (gIf (gB (gOp fEq (gVd (gOp fIx (gVsR 2) (gVd (gC (.int 0))))) (gVd (gC (.str "theirs"))))) (gC (.str "ours")) (gOp fIx (gVsR 2) (gVd (gC (.int 0))))))) gNil))) (gVd (gSl (gVsR 2) (gP1 (gVd (gC (.int 1)))) gP0)))))))
    (gRet (gCall fTuple (gCons (gVsR 1) gNil)))))
def sem__law_exchanged : Sem' := fnS 2 g__law_exchanged
theorem cal__law_exchanged {T : Tbs} {P : Program} {w : World} {K : PySem.W.Frag} {mg : Str → Option Value} {base : Heap} (O : Ok T P w base K mg) : Cal T P w K mg base 1 "_law_exchanged" s__law_exchanged P__law_exchanged sem__law_exchanged :=
  cal_of (N := N__law_exchanged) (ps := P__law_exchanged) (body := g__law_exchanged) O.h__law_exchanged sc__law_exchanged rfl fun f fd cdv A outer s H E hm F hcd hgd hr => by
  have nd := sc__law_exchanged.nd
  have tk : Takes (cxOf (L2.CX P w) P w K mg base N__law_exchanged "_law_exchanged" (defScope s__law_exchanged) f cdv A outer s H E) (fun c d _ H => E c d H) := takes_of rfl rfl rfl rfl
  exact (db_cons (ds_set (i := 1) nd rfl (by first | exact .inl rfl | exact .inr rfl) (dw_lst da_nil))
    (db_cons (ds_for (passes_of rfl) rfl (di_sq (dw_n (i := 0))) (dg_n (i := 2) nd rfl (by first | exact .inl rfl | exact .inr rfl))
    (db_one (ds_if (dt_cmp (ow_eq hr) (dv_vd (dw_ix (dv_vs (i := 2)) (dv_vd dw_int))) (dv_vd dw_str))
    (db_one (ds_app (i := 1) (pe_bm PySem.F.plainAttrs_list PySem.F.slot_list_append PySem.F.type_list_append mt_append (pv 1) (pa_cons (de_fr (dw_tup (da_cons (dv_vd (dw_ix (dv_vs (i := 2)) (dv_vd dw_int))) (da_cons (dv_vd (dw_ix (dv_vs (i := 2)) (dv_vd dw_int))) (da_cons (dv_vd (dw_ix (dv_vs (i := 2)) (dv_vd dw_int))) (da_cons (dv_vd (dw_ix (dv_vs (i := 2)) (dv_vd dw_int))) da_nil)))))) pa_nil))))
    (db_one (ds_app (i := 1) (pe_bm PySem.F.plainAttrs_list PySem.F.slot_list_append PySem.F.type_list_append mt_append (pv 1) (pa_cons (de_fr (dw_op ow_add (dv_vd (dw_tup (da_cons (dv_vd (dw_if (dt_cmp (ow_eq hr) (dv_vd (dw_ix (dv_vs (i := 2)) (dv_vd dw_int))) (dv_vd dw_str)) dw_str (dw_if (dt_cmp (ow_eq hr) (dv_vd (dw_ix (dv_vs (i := 2)) (dv_vd dw_int))) (dv_vd dw_str)) dw_str (dw_ix (dv_vs (i := 2)) (dv_vd dw_int))))) da_nil))) (dv_vd (dw_sl (dv_vs (i := 2)) (dpo_some (dv_vd dw_int)) dpo_none)))) pa_nil)))))))
    (db_one (ds_ret (dw_callT cw_tuple rfl O.z_tuple (by decide +kernel) (da_cons (dv_vs (i := 1)) da_nil))))))
/-! _law_none_right: 0 _law_box_here, 1 _law_base, 2 _law_hunks, 3 _law_many, 4 _law_at, 5 _law_bad, 6 _law_odd -/
def g__law_none_right : GS := (gSeq (gPar 3 4 (gCall fLen (gCons (gVsR 1) gNil)) (gFM 2 sem__law_take (gCons (gVsR 0) (gCons (gVd (gOp fAdd (gVd (gCall fLen (gCons (gVsR 2) gNil))) (gVd (gC (.int 1))))) gNil))))
    (gSeq (gSet 5 (gFM 2 sem__law_pick (gCons (gVsR 0) (gCons (gVd (gLst (gCons (gVd (gC .non)) (gCons (gVd (gTup (gCons (gVd (gC (.int 0))) (gCons (gVd (gC (.int 0))) (gCons (gVd (gTup gNil)) gNil))))) (gCons (gVd (gTup (gCons (gVd (gC (.int 0))) (gCons (gVd (gOp fAdd (gVsR 3) (gVd (gC (.int 1))))) (gCons (gVd (gTup gNil)) gNil))))) (gCons (gVd (gTup (gCons (gVd (gC (.int 1))) (gCons (gVd (gC (.int 0))) (gCons (gVd (gTup (gCons (gVd (gC (.int 3))) gNil))) gNil))))) (gCons (gVd (gTup (gCons (gVd (gOp fSub (gVd (gC (.int 0))) (gVd (gC (.int 1))))) (gCons (gVd (gC (.int 0))) (gCons (gVd (gTup (gCons (gVd (gC (.int 3))) gNil))) gNil))))) (gCons (gVd (gTup (gCons (gVd (gC (.int 0))) (gCons (gVd (gC (.int 0))) gNil)))) (gCons (gVd (gTup (gCons (gVd (gC (.int 0))) (gCons (gVd (gC .non)) (gCons (gVd (gTup (gCons (gVd (gC (.int 3))) gNil))) gNil))))) (gCons (gVd (gTup (gCons (gVd (gC (.int 0))) (gCons (gVd (gC (.int 0))) (gCons (gVd (gC .non)) gNil))))) (gCons (gVd (gTup (gCons (gVd (gC (.bl true))) (gCons (gVd (gC (.int 1))) (gCons (gVd (gTup (gCons (gVd (gC (.int 3))) gNil))) gNil))))) (gCons (gVd (gTup (gCons (gVd (gC (.int 0))) (gCons (gVd (gC (.int 0))) (gCons (gVd (gTup (gCons (gVd (gC (.int 1))) gNil))) (gCons (gVd (gC (.int 0))) gNil)))))) (gCons (gVd (gC (.str "hunk"))) gNil))))))))))))) gNil))))
    (gSeq (gSet 6 (gFM 2 sem__law_pick (gCons (gVsR 0) (gCons (gVd (gLst (gCons (gVd (gOp fAdd (gVd (gOp fAdd (gVd (gCall fList (gCons (gVd (gSl (gVsR 2) gP0 (gP1 (gVsR 4)))) gNil))) (gVd (gLst (gCons (gVd (gTk 5)) gNil))))) (gVd (gCall fList (gCons (gVd (gSl (gVsR 2) (gP1 (gVsR 4)) gP0)) gNil))))) (gCons (gVd (gC .non)) (gCons (gVd (gC (.int 0))) (gCons (gVd (gC (.str "hunks"))) (gCons (gVd (gLst (gCons (gVd (gTup (gCons (gVd (gC (.int 0))) (gCons (gVd (gC (.int 0))) (gCons (gVd (gTup (gCons (gVd (gC (.int 1))) gNil))) gNil))))) (gCons (gVd (gTup (gCons (gVd (gC (.int 0))) (gCons (gVd (gC (.int 0))) (gCons (gVd (gTup (gCons (gVd (gC (.int 2))) gNil))) gNil))))) gNil)))) (gCons (gVd (gLst (gCons (gVd (gTup (gCons (gVd (gC (.int 0))) (gCons (gVd (gC (.int 0))) (gCons (gVd (gTup (gCons (gVd (gC (.int 1))) gNil))) gNil))))) (gCons (gVd (gTup (gCons (gVd (gC (.int 0))) (gCons (gVd (gCall fMin (gCons (gVd (gC (.int 1))) (gCons (gVsR 3) gNil)))) (gCons (gVd (gTup (gCons (gVd (gC (.int 2))) gNil))) gNil))))) gNil)))) gNil)))))))) gNil))))
    (gSeq (gIfS (gB (gOp fNe (gVd (gHeard (some "told") hs__law_heard (gFr (gF 2 sem_check_hunks (gCons (gVsR 1) (gCons (gVd (gTk 6)) gNil)))))) (gVd (gTup (gCons (gVd (gC (.str "refused"))) (gCons (gVd (gCall fRepr (gCons (gVsR 6) gNil))) (gCons (gVd (gC (.bl true))) gNil)))))))
    (gRet (gC (.bl false)))
    gNx)
    (gSeq (gIfS (gB (gOp fNe (gVd (gHeard (some "told") hs__law_heard (gFr (gF 3 sem_merge_parts (gCons (gVsR 1) (gCons (gVd (gTk 6)) (gCons (gVd (gC .non)) gNil))))))) (gVd (gTup (gCons (gVd (gC (.str "refused"))) (gCons (gVd (gCall fRepr (gCons (gVsR 6) gNil))) (gCons (gVd (gC (.bl true))) gNil)))))))
    (gRet (gC (.bl false)))
    gNx)
    (gSeq (gIfS (gB (gOp fNe (gVd (gHeard (some "told") hs__law_heard (gFr (gF 2 sem_apply_hunks (gCons (gVsR 1) (gCons (gVd (gTk 6)) gNil)))))) (gVd (gTup (gCons (gVd (gC (.str "refused"))) (gCons (gVd (gCall fRepr (gCons (gVsR 6) gNil))) (gCons (gVd (gC (.bl true))) gNil)))))))
    (gRet (gC (.bl false)))
    gNx)
    (gRet (gOp fEq (gVd (gHeard (some "told") hs__law_heard (gFr (gF 3 sem_merge_parts (gCons (gVsR 1) (gCons (gVd (gCall fList (gCons (gVsR 2) gNil))) (gCons (gVd (gTk 6)) gNil))))))) (gVd (gTup (gCons (gVd (gC (.str "refused"))) (gCons (gVd (gCall fRepr (gCons (gVsR 6) gNil))) (gCons (gVd (gC (.bl true))) gNil)))))))))))))
def sem__law_none_right : Sem' := fnS 4 g__law_none_right
theorem cal__law_none_right {T : Tbs} {P : Program} {w : World} {K : PySem.W.Frag} {mg : Str → Option Value} {base : Heap} (O : Ok T P w base K mg) : Cal T P w K mg base 9 "_law_none_right" s__law_none_right P__law_none_right sem__law_none_right :=
  cal_of (N := N__law_none_right) (ps := P__law_none_right) (body := g__law_none_right) O.h__law_none_right sc__law_none_right rfl fun f fd cdv A outer s H E hm F hcd hgd hr => by
  have nd := sc__law_none_right.nd
  have tk : Takes (cxOf (L2.CX P w) P w K mg base N__law_none_right "_law_none_right" (defScope s__law_none_right) f cdv A outer s H E) (fun c d _ H => E c d H) := takes_of rfl rfl rfl rfl
  obtain ⟨c0, Pt, hcode0, tabB, hmT, hu⟩ := O.t__law_none_right
  have hcode : cdv = .ref c0 := hcd ▸ hcode0 f fd hm F
  exact (db_cons (ds_par (i := 3) (j := 4) rfl nd rfl rfl (by decide) rfl rfl (dw_callB cw_len rfl O.z_len (by decide +kernel) (da_cons (dv_vs (i := 1)) da_nil)) (dw_callMC (cal__law_take O) bp__law_take tk hgd (hr.mono (by decide)) rfl (da_cons (dv_vs (i := 0)) (da_cons (dv_vd (dw_op ow_add (dv_vd (dw_callB cw_len rfl O.z_len (by decide +kernel) (da_cons (dv_vs (i := 2)) da_nil))) (dv_vd dw_int))) da_nil))) rfl)
    (db_cons (ds_set (i := 5) nd rfl (by first | exact .inl rfl | exact .inr rfl) (dw_callMC (cal__law_pick O) bp__law_pick tk hgd (hr.mono (by decide)) rfl (da_cons (dv_vs (i := 0)) (da_cons (dv_vd (dw_lst (da_cons (dv_vd dw_non) (da_cons (dv_vd (dw_tup (da_cons (dv_vd dw_int) (da_cons (dv_vd dw_int) (da_cons (dv_vd (dw_tup da_nil)) da_nil))))) (da_cons (dv_vd (dw_tup (da_cons (dv_vd dw_int) (da_cons (dv_vd (dw_op ow_add (dv_vs (i := 3)) (dv_vd dw_int))) (da_cons (dv_vd (dw_tup da_nil)) da_nil))))) (da_cons (dv_vd (dw_tup (da_cons (dv_vd dw_int) (da_cons (dv_vd dw_int) (da_cons (dv_vd (dw_tup (da_cons (dv_vd dw_int) da_nil))) da_nil))))) (da_cons (dv_vd (dw_tup (da_cons (dv_vd (dw_op ow_sub (dv_vd dw_int) (dv_vd dw_int))) (da_cons (dv_vd dw_int) (da_cons (dv_vd (dw_tup (da_cons (dv_vd dw_int) da_nil))) da_nil))))) (da_cons (dv_vd (dw_tup (da_cons (dv_vd dw_int) (da_cons (dv_vd dw_int) da_nil)))) (da_cons (dv_vd (dw_tup (da_cons (dv_vd dw_int) (da_cons (dv_vd dw_non) (da_cons (dv_vd (dw_tup (da_cons (dv_vd dw_int) da_nil))) da_nil))))) (da_cons (dv_vd (dw_tup (da_cons (dv_vd dw_int) (da_cons (dv_vd dw_int) (da_cons (dv_vd dw_non) da_nil))))) (da_cons (dv_vd (dw_tup (da_cons (dv_vd dw_bl) (da_cons (dv_vd dw_int) (da_cons (dv_vd (dw_tup (da_cons (dv_vd dw_int) da_nil))) da_nil))))) (da_cons (dv_vd (dw_tup (da_cons (dv_vd dw_int) (da_cons (dv_vd dw_int) (da_cons (dv_vd (dw_tup (da_cons (dv_vd dw_int) da_nil))) (da_cons (dv_vd dw_int) da_nil)))))) (da_cons (dv_vd dw_str) da_nil))))))))))))) da_nil))))
    (db_cons (ds_set (i := 6) nd rfl (by first | exact .inl rfl | exact .inr rfl) (dw_callMC (cal__law_pick O) bp__law_pick tk hgd (hr.mono (by decide)) rfl (da_cons (dv_vs (i := 0)) (da_cons (dv_vd (dw_lst (da_cons (dv_vd (dw_op ow_add (dv_vd (dw_op ow_add (dv_vd (dw_callT cw_list rfl O.z_list (by decide +kernel) (da_cons (dv_vd (dw_sl (dv_vs (i := 2)) dpo_none (dpo_some (dv_vs (i := 4))))) da_nil))) (dv_vd (dw_lst (da_cons (dv_vd (dw_tk (i := 5))) da_nil))))) (dv_vd (dw_callT cw_list rfl O.z_list (by decide +kernel) (da_cons (dv_vd (dw_sl (dv_vs (i := 2)) (dpo_some (dv_vs (i := 4))) dpo_none)) da_nil))))) (da_cons (dv_vd dw_non) (da_cons (dv_vd dw_int) (da_cons (dv_vd dw_str) (da_cons (dv_vd (dw_lst (da_cons (dv_vd (dw_tup (da_cons (dv_vd dw_int) (da_cons (dv_vd dw_int) (da_cons (dv_vd (dw_tup (da_cons (dv_vd dw_int) da_nil))) da_nil))))) (da_cons (dv_vd (dw_tup (da_cons (dv_vd dw_int) (da_cons (dv_vd dw_int) (da_cons (dv_vd (dw_tup (da_cons (dv_vd dw_int) da_nil))) da_nil))))) da_nil)))) (da_cons (dv_vd (dw_lst (da_cons (dv_vd (dw_tup (da_cons (dv_vd dw_int) (da_cons (dv_vd dw_int) (da_cons (dv_vd (dw_tup (da_cons (dv_vd dw_int) da_nil))) da_nil))))) (da_cons (dv_vd (dw_tup (da_cons (dv_vd dw_int) (da_cons (dv_vd (dw_callB (cw_min rfl) rfl O.z_min (by decide +kernel) (da_cons (dv_vd dw_int) (da_cons (dv_vs (i := 3)) da_nil)))) (da_cons (dv_vd (dw_tup (da_cons (dv_vd dw_int) da_nil))) da_nil))))) da_nil)))) da_nil)))))))) da_nil))))
    (db_cons (ds_if (dt_cmp (ow_ne hr) (dv_vd (dw_heard (k := 5) (hrd__law_heard O) bp__law_heard sc__law_heard rfl (.inl rfl) hgd tabB hcode hmT hu (hr.mono (by decide)) (LamX.lamS_by (by kernel_rfl)) rfl (fun A outer s H E f0 c0 hgd hr => (de_fr (dw_callC (cal_check_hunks O) bp_check_hunks (takes_of rfl rfl rfl rfl) hgd (hr.mono (by decide)) rfl (da_cons (dv_vs (i := 1)) (da_cons (dv_vd (dw_tk (i := 6))) da_nil))))))) (dv_vd (dw_tup (da_cons (dv_vd dw_str) (da_cons (dv_vd (dw_callB (cw_repr hr hgd) rfl O.z_repr (by decide +kernel) (da_cons (dv_vs (i := 6)) da_nil))) (da_cons (dv_vd dw_bl) da_nil))))))
    (db_one (ds_ret dw_bl))
    db_nil)
    (db_cons (ds_if (dt_cmp (ow_ne hr) (dv_vd (dw_heard (k := 6) (hrd__law_heard O) bp__law_heard sc__law_heard rfl (.inl rfl) hgd tabB hcode hmT hu (hr.mono (by decide)) (LamX.lamS_by (by kernel_rfl)) rfl (fun A outer s H E f0 c0 hgd hr => (de_fr (dw_callC (cal_merge_parts O) bp_merge_parts (takes_of rfl rfl rfl rfl) hgd (hr.mono (by decide)) rfl (da_cons (dv_vs (i := 1)) (da_cons (dv_vd (dw_tk (i := 6))) (da_cons (dv_vd dw_non) da_nil)))))))) (dv_vd (dw_tup (da_cons (dv_vd dw_str) (da_cons (dv_vd (dw_callB (cw_repr hr hgd) rfl O.z_repr (by decide +kernel) (da_cons (dv_vs (i := 6)) da_nil))) (da_cons (dv_vd dw_bl) da_nil))))))
    (db_one (ds_ret dw_bl))
    db_nil)
    (db_cons (ds_if (dt_cmp (ow_ne hr) (dv_vd (dw_heard (k := 6) (hrd__law_heard O) bp__law_heard sc__law_heard rfl (.inl rfl) hgd tabB hcode hmT hu (hr.mono (by decide)) (LamX.lamS_by (by kernel_rfl)) rfl (fun A outer s H E f0 c0 hgd hr => (de_fr (dw_callC (cal_apply_hunks O) bp_apply_hunks (takes_of rfl rfl rfl rfl) hgd (hr.mono (by decide)) rfl (da_cons (dv_vs (i := 1)) (da_cons (dv_vd (dw_tk (i := 6))) da_nil))))))) (dv_vd (dw_tup (da_cons (dv_vd dw_str) (da_cons (dv_vd (dw_callB (cw_repr hr hgd) rfl O.z_repr (by decide +kernel) (da_cons (dv_vs (i := 6)) da_nil))) (da_cons (dv_vd dw_bl) da_nil))))))
    (db_one (ds_ret dw_bl))
    db_nil)
    (db_one (ds_ret (dw_cmp (ow_eq hr) (dv_vd (dw_heard (k := 6) (hrd__law_heard O) bp__law_heard sc__law_heard rfl (.inl rfl) hgd tabB hcode hmT hu (hr.mono (by decide)) (LamX.lamS_by (by kernel_rfl)) rfl (fun A outer s H E f0 c0 hgd hr => (de_fr (dw_callC (cal_merge_parts O) bp_merge_parts (takes_of rfl rfl rfl rfl) hgd (hr.mono (by decide)) rfl (da_cons (dv_vs (i := 1)) (da_cons (dv_vd (dw_callT cw_list rfl O.z_list (by decide +kernel) (da_cons (dv_vs (i := 2)) da_nil))) (da_cons (dv_vd (dw_tk (i := 6))) da_nil)))))))) (dv_vd (dw_tup (da_cons (dv_vd dw_str) (da_cons (dv_vd (dw_callB (cw_repr hr hgd) rfl O.z_repr (by decide +kernel) (da_cons (dv_vs (i := 6)) da_nil))) (da_cons (dv_vd dw_bl) da_nil))))))))))))))
/-! law: 0 _law_script, 1 _law_k, 2 _law_box_here, 3 _law_base, 4 _law_at, 5 _law_ours, 6 _law_theirs, 7 _law_mixed, 8 _law_hunk, 9 _law_one, 10 _law_handed, 11 _law_low, 12 _law_high, 13 _law_things, 14 _law_parts_here, 15 _law_due -/
def g_law : GS := (gSeq (gFor (gR1 (gCons (gVd (gC (.int 3))) gNil)) (hN 1)
    (gSeq (gSet 2 (gF 2 sem__law_box (gCons (gVsR 0) (gCons (gVsR 1) gNil))))
    (gSeq (gSet 3 (gCall fTuple (gCons (gVd (gLc [4] (gR1 (gCons (gVd (gFM 2 sem__law_take (gCons (gVsR 2) (gCons (gVd (gC (.int 10))) gNil)))) gNil)) (hN 4) gYes (gFr (gOp fAdd (gVd (gC (.int 20))) (gVd (gFM 2 sem__law_take (gCons (gVsR 2) (gCons (gVd (gC (.int 4))) gNil)))))))) gNil)))
    (gSeq (gSet 5 (gFM 3 sem__law_side (gCons (gVsR 2) (gCons (gVd (gTk 3)) (gCons (gVd (gFM 2 sem__law_take (gCons (gVsR 2) (gCons (gVd (gC (.int 5))) gNil)))) gNil)))))
    (gSeq (gSet 6 (gIf (gB (gOp fEq (gVd (gFM 2 sem__law_take (gCons (gVsR 2) (gCons (gVd (gC (.int 6))) gNil)))) (gVd (gC (.int 0))))) (gTk 5) (gFM 3 sem__law_side (gCons (gVsR 2) (gCons (gVd (gTk 3)) (gCons (gVd (gFM 2 sem__law_take (gCons (gVsR 2) (gCons (gVd (gC (.int 5))) gNil)))) gNil))))))
    (gSeq (gSet 7 (gLc [8] (gIt (gTk 5)) (hN 8) (gB (gOp fEq (gVd (gFM 2 sem__law_take (gCons (gVsR 2) (gCons (gVd (gC (.int 2))) gNil)))) (gVd (gC (.int 0))))) (gFr (gN 8))))
    (gSeq (gSet 6 (gCall fTuple (gCons (gVd (gCall fSorted (gCons (gVd (gOp fAdd (gVsR 7) (gVd (gLc [8] (gIt (gTk 6)) (hN 8) (gB (gOp fEq (gVd (gLc [9] (gIt (gTk 7)) (hN 9) (gB (gF 2 sem__law_meet (gCons (gVsR 9) (gCons (gVsR 8) gNil)))) (gFr (gN 9)))) (gVd (gLst gNil)))) (gFr (gN 8)))))) gNil))) gNil)))
    (gSeq (gSet 10 (gOp fIx (gVd (gLst (gCons (gVd (gLst (gCons (gVd (gCall fList (gCons (gVsR 3) gNil))) (gCons (gVd (gLc [8] (gIt (gTk 5)) (hN 8) gYes (gFr (gCall fList (gCons (gVsR 8) gNil))))) (gCons (gVd (gLc [11, 12, 13] (gIt (gTk 6)) (hT 3 (hCons (hN 11) (hCons (hN 12) (hCons (hN 13) hNil)))) gYes (gFr (gLst (gCons (gVsR 11) (gCons (gVsR 12) (gCons (gVd (gCall fList (gCons (gVsR 13) gNil))) gNil))))))) gNil))))) gNil))) (gVd (gC (.int 0)))))
    (gSeq (gPar 14 15 (gF 3 sem_merge_parts (gCons (gVd (gOp fIx (gVsR 10) (gVd (gC (.int 0))))) (gCons (gVd (gOp fIx (gVsR 10) (gVd (gC (.int 1))))) (gCons (gVd (gOp fIx (gVsR 10) (gVd (gC (.int 2))))) gNil)))) (gF 3 sem__law_parts (gCons (gVd (gTk 3)) (gCons (gVd (gTk 5)) (gCons (gVd (gTk 6)) gNil)))))
    (gSeq (gIfS (gOr (gB (gOp fNe (gVd (gCall fRepr (gCons (gVsR 14) gNil))) (gVd (gCall fRepr (gCons (gVsR 15) gNil))))) (gB (gOp fNe (gVd (gFK 3 [2, 1, 0] sem_merge_parts (gCons (gVd (gTk 6)) (gCons (gVd (gTk 5)) (gCons (gVd (gTk 3)) gNil))))) (gVsR 15))))
    (gRet (gC (.bl false)))
    gNx)
    (gSeq (gIfS (gB (gOp fNe (gVd (gCall fRepr (gCons (gVd (gLst (gCons (gVd (gF 1 sem_base_of (gCons (gVd (gTk 14)) gNil))) (gCons (gVd (gF 1 sem_ours_of (gCons (gVd (gTk 14)) gNil))) (gCons (gVd (gF 1 sem_theirs_of (gCons (gVd (gTk 14)) gNil))) gNil))))) gNil))) (gVd (gCall fRepr (gCons (gVd (gLst (gCons (gVd (gTk 3)) (gCons (gVd (gF 2 sem__law_put (gCons (gVd (gTk 3)) (gCons (gVd (gTk 5)) gNil)))) (gCons (gVd (gF 2 sem__law_put (gCons (gVd (gTk 3)) (gCons (gVd (gTk 6)) gNil)))) gNil))))) gNil)))))
    (gRet (gC (.bl false)))
    gNx)
    (gSeq (gIfS (gOr (gB (gOp fNe (gVd (gFK 1 [0] sem_theirs_of (gCons (gVd (gTk 15)) gNil))) (gVd (gF 2 sem__law_put (gCons (gVd (gTk 3)) (gCons (gVd (gTk 6)) gNil)))))) (gOr (gB (gOp fNe (gVd (gFK 1 [0] sem_ours_of (gCons (gVd (gTk 15)) gNil))) (gVd (gF 2 sem__law_put (gCons (gVd (gTk 3)) (gCons (gVd (gTk 5)) gNil)))))) (gB (gOp fNe (gVd (gFK 1 [0] sem_base_of (gCons (gVd (gTk 15)) gNil))) (gVsR 3)))))
    (gRet (gC (.bl false)))
    gNx)
    (gSeq (gIfS (gB (gOp fNe (gVd (gF 3 sem_merge_parts (gCons (gVd (gTk 3)) (gCons (gVd (gTk 6)) (gCons (gVd (gTk 5)) gNil))))) (gVd (gF 1 sem__law_exchanged (gCons (gVd (gTk 15)) gNil)))))
    (gRet (gC (.bl false)))
    gNx)
    (gSeq (gIfS (gB (gOp fNe (gVd (gCall fRepr (gCons (gVd (gLst (gCons (gVd (gF 2 sem_check_hunks (gCons (gVd (gOp fIx (gVsR 10) (gVd (gC (.int 0))))) (gCons (gVd (gOp fIx (gVsR 10) (gVd (gC (.int 1))))) gNil)))) (gCons (gVd (gFK 2 [1, 0] sem_check_hunks (gCons (gVd (gTk 6)) (gCons (gVd (gTk 3)) gNil)))) gNil)))) gNil))) (gVd (gCall fRepr (gCons (gVd (gLst (gCons (gVd (gTk 5)) (gCons (gVd (gTk 6)) gNil)))) gNil)))))
    (gRet (gC (.bl false)))
    gNx)
    (gIfS (gNot (gB (gFM 3 sem__law_none_right (gCons (gVsR 2) (gCons (gVd (gTk 3)) (gCons (gVd (gTk 5)) gNil))))))
    (gRet (gC (.bl false)))
    gNx)))))))))))))))
    (gRet (gC (.bl true))))
def sem_law : Sem' := fnS 15 g_law
theorem cal_law {T : Tbs} {P : Program} {w : World} {K : PySem.W.Frag} {mg : Str → Option Value} {base : Heap} (O : Ok T P w base K mg) : Cal T P w K mg base 10 "law" s_law P_law sem_law :=
  cal_of (N := N_law) (ps := P_law) (body := g_law) O.h_law sc_law rfl fun f fd cdv A outer s H E hm F hcd hgd hr => by
  have nd := sc_law.nd
  have tk : Takes (cxOf (L2.CX P w) P w K mg base N_law "law" (defScope s_law) f cdv A outer s H E) (fun c d _ H => E c d H) := takes_of rfl rfl rfl rfl
  exact (db_cons (ds_for (passes_of rfl) rfl (di_r1 rfl O.z_range (da_cons (dv_vd dw_int) da_nil)) (dg_n (i := 1) nd rfl (by first | exact .inl rfl | exact .inr rfl))
    (db_cons (ds_set (i := 2) nd rfl (by first | exact .inl rfl | exact .inr rfl) (dw_callC (cal__law_box O) bp__law_box tk hgd (hr.mono (by decide)) rfl (da_cons (dv_vs (i := 0)) (da_cons (dv_vs (i := 1)) da_nil))))
    (db_cons (ds_set (i := 3) nd rfl (by first | exact .inl rfl | exact .inr rfl) (dw_callT cw_tuple rfl O.z_tuple (by decide +kernel) (da_cons (dv_vd (dw_lc (own := [("_law_at", 4)]) rfl nd (di_r1 rfl O.z_range (da_cons (dv_vd (dw_callMC (cal__law_take O) bp__law_take tk hgd (hr.mono (by decide)) rfl (da_cons (dv_vs (i := 2)) (da_cons (dv_vd dw_int) da_nil)))) da_nil)) (blkOk_by (own := [("_law_at", 4)]) (by kernel_rfl)) (fun _ _ _ _ _ => (dg_n (i := 4) nd rfl (by first | exact .inl rfl | exact .inr rfl))) (fun _ _ _ _ _ => dts_nil) (fun _ _ _ _ _ => (de_fr (dw_op ow_add (dv_vd dw_int) (dv_vd (dw_callMC (cal__law_take O) bp__law_take LamX.takes0 hgd (hr.mono (by decide)) rfl (da_cons (dv_vs (i := 2)) (da_cons (dv_vd dw_int) da_nil))))))) (by decide))) da_nil)))
    (db_cons (ds_set (i := 5) nd rfl (by first | exact .inl rfl | exact .inr rfl) (dw_callMC (cal__law_side O) bp__law_side tk hgd (hr.mono (by decide)) rfl (da_cons (dv_vs (i := 2)) (da_cons (dv_vd (dw_tk (i := 3))) (da_cons (dv_vd (dw_callMC (cal__law_take O) bp__law_take tk hgd (hr.mono (by decide)) rfl (da_cons (dv_vs (i := 2)) (da_cons (dv_vd dw_int) da_nil)))) da_nil)))))
    (db_cons (ds_set (i := 6) nd rfl (by first | exact .inl rfl | exact .inr rfl) (dw_if (dt_cmp (ow_eq hr) (dv_vd (dw_callMC (cal__law_take O) bp__law_take tk hgd (hr.mono (by decide)) rfl (da_cons (dv_vs (i := 2)) (da_cons (dv_vd dw_int) da_nil)))) (dv_vd dw_int)) (dw_tk (i := 5)) (dw_callMC (cal__law_side O) bp__law_side tk hgd (hr.mono (by decide)) rfl (da_cons (dv_vs (i := 2)) (da_cons (dv_vd (dw_tk (i := 3))) (da_cons (dv_vd (dw_callMC (cal__law_take O) bp__law_take tk hgd (hr.mono (by decide)) rfl (da_cons (dv_vs (i := 2)) (da_cons (dv_vd dw_int) da_nil)))) da_nil))))))
    (db_cons (ds_set (i := 7) nd rfl (by first | exact .inl rfl | exact .inr rfl) (dw_lc (own := [("_law_hunk", 8)]) rfl nd (di_sq (dw_tk (i := 5))) (blkOk_by (own := [("_law_hunk", 8)]) (by kernel_rfl)) (fun _ _ _ _ _ => (dg_n (i := 8) nd rfl (by first | exact .inl rfl | exact .inr rfl))) (fun _ _ _ _ _ => (dts_one (dt_cmp (ow_eq hr) (dv_vd (dw_callMC (cal__law_take O) bp__law_take LamX.takes0 hgd (hr.mono (by decide)) rfl (da_cons (dv_vs (i := 2)) (da_cons (dv_vd dw_int) da_nil)))) (dv_vd dw_int)))) (fun _ _ _ _ _ => (de_fr (dw_n (i := 8)))) (by decide)))
    (db_cons (ds_set (i := 6) nd rfl (by first | exact .inl rfl | exact .inr rfl) (dw_callT cw_tuple rfl O.z_tuple (by decide +kernel) (da_cons (dv_vd (dw_callB (cw_sorted hr) rfl O.z_sorted (by decide +kernel) (da_cons (dv_vd (dw_op ow_add (dv_vs (i := 7)) (dv_vd (dw_lc (own := [("_law_hunk", 8)]) rfl nd (di_sq (dw_tk (i := 6))) (blkOk_by (own := [("_law_hunk", 8)]) (by kernel_rfl)) (fun _ _ _ _ _ => (dg_n (i := 8) nd rfl (by first | exact .inl rfl | exact .inr rfl))) (fun _ _ _ _ _ => (dts_one (dt_cmp (ow_eq hr) (dv_vd (dw_lc (own := [("_law_one", 9)]) rfl nd (di_sq (dw_tk (i := 7))) (blkOk_by (own := [("_law_one", 9)]) (by kernel_rfl)) (fun _ _ _ _ _ => (dg_n (i := 9) nd rfl (by first | exact .inl rfl | exact .inr rfl))) (fun _ _ _ _ _ => (dts_one (dt_val (dw_callC (cal__law_meet O) bp__law_meet LamX.takes0 hgd (hr.mono (by decide)) rfl (da_cons (dv_vs (i := 9)) (da_cons (dv_vs (i := 8)) da_nil)))))) (fun _ _ _ _ _ => (de_fr (dw_n (i := 9)))) (by decide))) (dv_vd (dw_lst da_nil))))) (fun _ _ _ _ _ => (de_fr (dw_n (i := 8)))) (by decide))))) da_nil))) da_nil)))
    (db_cons (ds_set (i := 10) nd rfl (by first | exact .inl rfl | exact .inr rfl) (dw_ix (dv_vd (dw_lst (da_cons (dv_vd (dw_lst (da_cons (dv_vd (dw_callT cw_list rfl O.z_list (by decide +kernel) (da_cons (dv_vs (i := 3)) da_nil))) (da_cons (dv_vd (dw_lc (own := [("_law_hunk", 8)]) rfl nd (di_sq (dw_tk (i := 5))) (blkOk_by (own := [("_law_hunk", 8)]) (by kernel_rfl)) (fun _ _ _ _ _ => (dg_n (i := 8) nd rfl (by first | exact .inl rfl | exact .inr rfl))) (fun _ _ _ _ _ => dts_nil) (fun _ _ _ _ _ => (de_fr (dw_callT cw_list rfl O.z_list (by decide +kernel) (da_cons (dv_vs (i := 8)) da_nil)))) (by decide))) (da_cons (dv_vd (dw_lc (own := [("_law_low", 11), ("_law_high", 12), ("_law_things", 13)]) rfl nd (di_sq (dw_tk (i := 6))) (blkOk_by (own := [("_law_low", 11), ("_law_high", 12), ("_law_things", 13)]) (by kernel_rfl)) (fun _ _ _ _ _ => (dg_t rfl (dgs_cons (dg_n (i := 11) nd rfl (by first | exact .inl rfl | exact .inr rfl)) (dgs_cons (dg_n (i := 12) nd rfl (by first | exact .inl rfl | exact .inr rfl)) (dgs_cons (dg_n (i := 13) nd rfl (by first | exact .inl rfl | exact .inr rfl)) dgs_nil))))) (fun _ _ _ _ _ => dts_nil) (fun _ _ _ _ _ => (de_fr (dw_lst (da_cons (dv_vs (i := 11)) (da_cons (dv_vs (i := 12)) (da_cons (dv_vd (dw_callT cw_list rfl O.z_list (by decide +kernel) (da_cons (dv_vs (i := 13)) da_nil))) da_nil)))))) (by decide))) da_nil))))) da_nil))) (dv_vd dw_int)))
    (db_cons (ds_par (i := 14) (j := 15) rfl nd rfl rfl (by decide) rfl rfl (dw_callC (cal_merge_parts O) bp_merge_parts tk hgd (hr.mono (by decide)) rfl (da_cons (dv_vd (dw_ix (dv_vs (i := 10)) (dv_vd dw_int))) (da_cons (dv_vd (dw_ix (dv_vs (i := 10)) (dv_vd dw_int))) (da_cons (dv_vd (dw_ix (dv_vs (i := 10)) (dv_vd dw_int))) da_nil)))) (dw_callC (cal__law_parts O) bp__law_parts tk hgd (hr.mono (by decide)) rfl (da_cons (dv_vd (dw_tk (i := 3))) (da_cons (dv_vd (dw_tk (i := 5))) (da_cons (dv_vd (dw_tk (i := 6))) da_nil)))) rfl)
    (db_cons (ds_if (dt_w (dtw_or (dt_cmp (ow_ne hr) (dv_vd (dw_callB (cw_repr hr hgd) rfl O.z_repr (by decide +kernel) (da_cons (dv_vs (i := 14)) da_nil))) (dv_vd (dw_callB (cw_repr hr hgd) rfl O.z_repr (by decide +kernel) (da_cons (dv_vs (i := 15)) da_nil)))) (dtw_or1 (dt_cmp (ow_ne hr) (dv_vd (dw_callKC (cal_merge_parts O) bn_merge_parts_theirs_ours_base rfl tk hgd (hr.mono (by decide)) rfl (dk_cons (dv_vd (dw_tk (i := 6))) (dk_cons (dv_vd (dw_tk (i := 5))) (dk_cons (dv_vd (dw_tk (i := 3))) dk_nil))))) (dv_vs (i := 15))))))
    (db_one (ds_ret dw_bl))
    db_nil)
    (db_cons (ds_if (dt_cmp (ow_ne hr) (dv_vd (dw_callB (cw_repr hr hgd) rfl O.z_repr (by decide +kernel) (da_cons (dv_vd (dw_lst (da_cons (dv_vd (dw_callC (cal_base_of O) bp_base_of tk hgd (hr.mono (by decide)) rfl (da_cons (dv_vd (dw_tk (i := 14))) da_nil))) (da_cons (dv_vd (dw_callC (cal_ours_of O) bp_ours_of tk hgd (hr.mono (by decide)) rfl (da_cons (dv_vd (dw_tk (i := 14))) da_nil))) (da_cons (dv_vd (dw_callC (cal_theirs_of O) bp_theirs_of tk hgd (hr.mono (by decide)) rfl (da_cons (dv_vd (dw_tk (i := 14))) da_nil))) da_nil))))) da_nil))) (dv_vd (dw_callB (cw_repr hr hgd) rfl O.z_repr (by decide +kernel) (da_cons (dv_vd (dw_lst (da_cons (dv_vd (dw_tk (i := 3))) (da_cons (dv_vd (dw_callC (cal__law_put O) bp__law_put tk hgd (hr.mono (by decide)) rfl (da_cons (dv_vd (dw_tk (i := 3))) (da_cons (dv_vd (dw_tk (i := 5))) da_nil)))) (da_cons (dv_vd (dw_callC (cal__law_put O) bp__law_put tk hgd (hr.mono (by decide)) rfl (da_cons (dv_vd (dw_tk (i := 3))) (da_cons (dv_vd (dw_tk (i := 6))) da_nil)))) da_nil))))) da_nil))))
    (db_one (ds_ret dw_bl))
    db_nil)
    (db_cons (ds_if (dt_w (dtw_or (dt_cmp (ow_ne hr) (dv_vd (dw_callKC (cal_theirs_of O) bn_theirs_of_parts rfl tk hgd (hr.mono (by decide)) rfl (dk_cons (dv_vd (dw_tk (i := 15))) dk_nil))) (dv_vd (dw_callC (cal__law_put O) bp__law_put tk hgd (hr.mono (by decide)) rfl (da_cons (dv_vd (dw_tk (i := 3))) (da_cons (dv_vd (dw_tk (i := 6))) da_nil))))) (dtw_or (dt_cmp (ow_ne hr) (dv_vd (dw_callKC (cal_ours_of O) bn_ours_of_parts rfl tk hgd (hr.mono (by decide)) rfl (dk_cons (dv_vd (dw_tk (i := 15))) dk_nil))) (dv_vd (dw_callC (cal__law_put O) bp__law_put tk hgd (hr.mono (by decide)) rfl (da_cons (dv_vd (dw_tk (i := 3))) (da_cons (dv_vd (dw_tk (i := 5))) da_nil))))) (dtw_or1 (dt_cmp (ow_ne hr) (dv_vd (dw_callKC (cal_base_of O) bn_base_of_parts rfl tk hgd (hr.mono (by decide)) rfl (dk_cons (dv_vd (dw_tk (i := 15))) dk_nil))) (dv_vs (i := 3)))))))
    (db_one (ds_ret dw_bl))
    db_nil)
    (db_cons (ds_if (dt_cmp (ow_ne hr) (dv_vd (dw_callC (cal_merge_parts O) bp_merge_parts tk hgd (hr.mono (by decide)) rfl (da_cons (dv_vd (dw_tk (i := 3))) (da_cons (dv_vd (dw_tk (i := 6))) (da_cons (dv_vd (dw_tk (i := 5))) da_nil))))) (dv_vd (dw_callC (cal__law_exchanged O) bp__law_exchanged tk hgd (hr.mono (by decide)) rfl (da_cons (dv_vd (dw_tk (i := 15))) da_nil))))
    (db_one (ds_ret dw_bl))
    db_nil)
    (db_cons (ds_if (dt_cmp (ow_ne hr) (dv_vd (dw_callB (cw_repr hr hgd) rfl O.z_repr (by decide +kernel) (da_cons (dv_vd (dw_lst (da_cons (dv_vd (dw_callC (cal_check_hunks O) bp_check_hunks tk hgd (hr.mono (by decide)) rfl (da_cons (dv_vd (dw_ix (dv_vs (i := 10)) (dv_vd dw_int))) (da_cons (dv_vd (dw_ix (dv_vs (i := 10)) (dv_vd dw_int))) da_nil)))) (da_cons (dv_vd (dw_callKC (cal_check_hunks O) bn_check_hunks_value_base rfl tk hgd (hr.mono (by decide)) rfl (dk_cons (dv_vd (dw_tk (i := 6))) (dk_cons (dv_vd (dw_tk (i := 3))) dk_nil)))) da_nil)))) da_nil))) (dv_vd (dw_callB (cw_repr hr hgd) rfl O.z_repr (by decide +kernel) (da_cons (dv_vd (dw_lst (da_cons (dv_vd (dw_tk (i := 5))) (da_cons (dv_vd (dw_tk (i := 6))) da_nil)))) da_nil))))
    (db_one (ds_ret dw_bl))
    db_nil)
    (db_one (ds_if (dt_not (dt_val (dw_callMC (cal__law_none_right O) bp__law_none_right tk hgd (hr.mono (by decide)) rfl (da_cons (dv_vs (i := 2)) (da_cons (dv_vd (dw_tk (i := 3))) (da_cons (dv_vd (dw_tk (i := 5))) da_nil))))))
    (db_one (ds_ret dw_bl))
    db_nil))))))))))))))))
    (db_one (ds_ret dw_bl)))
end K62
end
section
set_option Elab.async false
set_option linter.all false
set_option maxRecDepth 100000
set_option maxHeartbeats 4000000
/-! K62m1: the small defs; putting hunks. -/
namespace K62
open PySem DL
theorem kb1 : L2.kitB "int" "int" = some true := by decide +kernel
theorem kb2 : L2.kitB "int" "bool" = some false := by decide +kernel
theorem kb3 : L2.kitB "list" "list" = some true := by decide +kernel
theorem kb4 : L2.kitB "tuple" "list" = some false := by decide +kernel
theorem kb5 : L2.kitB "tuple" "tuple" = some true := by decide +kernel
theorem ev_is_integer (i : Int) : sem_is_integer [.sh (.int i)] = .ok (.sh (.bl true)) [.sh (.int i)] := by
  simp [gFr_e, gVd_e, gSh_e, gVsR_e, gN_e, gTk_e, gC_e, gOp_e, gNil_e, gCons_e, gTup_e, gLst_e, gP0_e, gP1_e, gSl_e, gB_e, gNot_e, gAnd_e, gOr_e, gNotV_e, gAndV_e, gOrV_e, gIf_e, gTru_e, gCall_e, hN_e, hNil_e, hCons_e, hT_e, gIt_e, gR1_e, gR2_e, gYes_e, gLc_e, gLc2_e, gSeq_e, gNx_e, gBk_e, gCt_e, gNo_e, gSet_e, gRet_e, gRetN_e, gIfS_e, gDrop_e, gAsg_e, gFor_e, fnS_e, gF_e, gFM_e, gFK_e, gApp_e, gExt_e, gISet_e, gAppP_e, gExtP_e, gIsi_e, gZip_e, gListRev_e, gSortK_e, gNeg_e, gPar_e, gRaise_e, gHeard_e, op2, vD, vDs, frD, frDs, stO, putO, bks, plainS, mutS, permL, appS, extS, isetS, isOl, noMu, noScr, oD, lst?, Rs.sl, Rs.d, D.items, sem_is_integer, g_is_integer, fIsi, D.ty, kb1, kb2]
theorem ev_is_number (i : Int) : sem_is_number [.sh (.int i)] = .ok (.sh (.bl (decide (0 ≤ i)))) [.sh (.int i)] := by
  simp [gFr_e, gVd_e, gSh_e, gVsR_e, gN_e, gTk_e, gC_e, gOp_e, gNil_e, gCons_e, gTup_e, gLst_e, gP0_e, gP1_e, gSl_e, gB_e, gNot_e, gAnd_e, gOr_e, gNotV_e, gAndV_e, gOrV_e, gIf_e, gTru_e, gCall_e, hN_e, hNil_e, hCons_e, hT_e, gIt_e, gR1_e, gR2_e, gYes_e, gLc_e, gLc2_e, gSeq_e, gNx_e, gBk_e, gCt_e, gNo_e, gSet_e, gRet_e, gRetN_e, gIfS_e, gDrop_e, gAsg_e, gFor_e, fnS_e, gF_e, gFM_e, gFK_e, gApp_e, gExt_e, gISet_e, gAppP_e, gExtP_e, gIsi_e, gZip_e, gListRev_e, gSortK_e, gNeg_e, gPar_e, gRaise_e, gHeard_e, op2, vD, vDs, frD, frDs, stO, putO, bks, plainS, mutS, permL, appS, extS, isetS, isOl, noMu, noScr, oD, lst?, Rs.sl, Rs.d, D.items, sem_is_number, g_is_number, ev_is_integer, fI]
theorem ev_is_below (i m : Int) (h : 0 ≤ i) : sem_is_below [.sh (.int i), .sh (.int m)] = .ok (.sh (.bl (decide (i < m)))) [.sh (.int i), .sh (.int m)] := by
  simp [gFr_e, gVd_e, gSh_e, gVsR_e, gN_e, gTk_e, gC_e, gOp_e, gNil_e, gCons_e, gTup_e, gLst_e, gP0_e, gP1_e, gSl_e, gB_e, gNot_e, gAnd_e, gOr_e, gNotV_e, gAndV_e, gOrV_e, gIf_e, gTru_e, gCall_e, hN_e, hNil_e, hCons_e, hT_e, gIt_e, gR1_e, gR2_e, gYes_e, gLc_e, gLc2_e, gSeq_e, gNx_e, gBk_e, gCt_e, gNo_e, gSet_e, gRet_e, gRetN_e, gIfS_e, gDrop_e, gAsg_e, gFor_e, fnS_e, gF_e, gFM_e, gFK_e, gApp_e, gExt_e, gISet_e, gAppP_e, gExtP_e, gIsi_e, gZip_e, gListRev_e, gSortK_e, gNeg_e, gPar_e, gRaise_e, gHeard_e, op2, vD, vDs, frD, frDs, stO, putO, bks, plainS, mutS, permL, appS, extS, isetS, isOl, noMu, noScr, oD, lst?, Rs.sl, Rs.d, D.items, sem_is_below, g_is_below, ev_is_number, fI, h]
theorem ev_is_sequence_t (ds : List D) : sem_is_sequence [.sh (.tup ds)] = .ok (.sh (.bl true)) [.sh (.tup ds)] := by
  simp [gFr_e, gVd_e, gSh_e, gVsR_e, gN_e, gTk_e, gC_e, gOp_e, gNil_e, gCons_e, gTup_e, gLst_e, gP0_e, gP1_e, gSl_e, gB_e, gNot_e, gAnd_e, gOr_e, gNotV_e, gAndV_e, gOrV_e, gIf_e, gTru_e, gCall_e, hN_e, hNil_e, hCons_e, hT_e, gIt_e, gR1_e, gR2_e, gYes_e, gLc_e, gLc2_e, gSeq_e, gNx_e, gBk_e, gCt_e, gNo_e, gSet_e, gRet_e, gRetN_e, gIfS_e, gDrop_e, gAsg_e, gFor_e, fnS_e, gF_e, gFM_e, gFK_e, gApp_e, gExt_e, gISet_e, gAppP_e, gExtP_e, gIsi_e, gZip_e, gListRev_e, gSortK_e, gNeg_e, gPar_e, gRaise_e, gHeard_e, op2, vD, vDs, frD, frDs, stO, putO, bks, plainS, mutS, permL, appS, extS, isetS, isOl, noMu, noScr, oD, lst?, Rs.sl, Rs.d, D.items, sem_is_sequence, g_is_sequence, fIsiT, D.ty, tyAny, kb4, kb5]
/-! ### what the defs speak of -/
abbrev Hk := Int × Int × List Int
def eR (xs : List Int) : D := .tup (xs.map .int)
def eH (x : Hk) : D := .tup [.int x.1, .int x.2.1, .tup (x.2.2.map .int)]
def eHs (hs : List Hk) : D := .tup (hs.map eH)
/-- a base: a tuple or a list of whole numbers -/
def isB (b : D) (xs : List Int) : Prop := b = .tup (xs.map .int) ∨ b = .lst (xs.map .int)
theorem ev_is_base_hunk {b : D} {xs : List Int} {x : Hk} (hb : isB b xs) (h1 : 0 ≤ x.1) (h2 : x.1 ≤ x.2.1) (h3 : x.2.1 ≤ xs.length) (h4 : x.1 < x.2.1 ∨ x.2.2 ≠ []) : sem_is_base_hunk [.sh b, .sh (eH x)] = .ok (.sh (.bl true)) [.sh b, .sh (eH x)] := by
  obtain ⟨l, h, t⟩ := x
  have e1 : 0 ≤ h := by simp at h1 h2; omega
  simp at h1 h2 h3 h4
  have e2 : h < (xs.length : Int) + 1 := by omega
  have e3 : l < h + 1 := by omega
  have e4 : L2.atI [D.int l, D.int h, D.tup (t.map .int)] 2 = some (D.tup (t.map .int)) := rfl
  have e5 : decide (l < h) = true ∨ decide (l < h) = false ∧ decide (0 < (t.length : Int)) = true := by
    rcases h4 with h4 | h4
    · exact .inl (by simpa using h4)
    · by_cases q : l < h
      · exact .inl (by simpa using q)
      · refine .inr ⟨by simpa using q, ?_⟩
        cases t with
        | nil => exact absurd rfl h4
        | cons a t => simp
  rcases hb with rfl | rfl <;> rcases e5 with e5 | ⟨e5, e6⟩ <;>
    simp [gFr_e, gVd_e, gSh_e, gVsR_e, gN_e, gTk_e, gC_e, gOp_e, gNil_e, gCons_e, gTup_e, gLst_e, gP0_e, gP1_e, gSl_e, gB_e, gNot_e, gAnd_e, gOr_e, gNotV_e, gAndV_e, gOrV_e, gIf_e, gTru_e, gCall_e, hN_e, hNil_e, hCons_e, hT_e, gIt_e, gR1_e, gR2_e, gYes_e, gLc_e, gLc2_e, gSeq_e, gNx_e, gBk_e, gCt_e, gNo_e, gSet_e, gRet_e, gRetN_e, gIfS_e, gDrop_e, gAsg_e, gFor_e, fnS_e, gF_e, gFM_e, gFK_e, gApp_e, gExt_e, gISet_e, gAppP_e, gExtP_e, gIsi_e, gZip_e, gListRev_e, gSortK_e, gNeg_e, gPar_e, gRaise_e, gHeard_e, op2, vD, vDs, frD, frDs, stO, putO, bks, plainS, mutS, permL, appS, extS, isetS, isOl, noMu, noScr, oD, lst?, Rs.sl, Rs.d, D.items, sem_is_base_hunk, g_is_base_hunk, eH, fLen, fNe, fIx, fAdd, fI, ev_is_below, ev_is_sequence_t, e1, e2, e3, e4, e5, h1] <;> first | simpa using e6 | simpa using e5
/-! ### slices -/
def cut {α : Type} (xs : List α) (a b : Int) : List α := (xs.drop a.toNat).take (b - a).toNat
theorem cutA_map {α β : Type} (f : α → β) (xs : List α) (lo hi : Option Int) : cutA (xs.map f) lo hi = (cutA xs lo hi).map f := by
  unfold cutA
  rw [List.length_map, List.map_take, List.map_drop]
theorem sIx_nn (n : Nat) (d : Nat) {a : Int} (h : 0 ≤ a) : HT.sIx n d (some a) = min a.toNat n := by
  obtain ⟨k, rfl⟩ := Int.eq_ofNat_of_zero_le h
  exact HT.sIx_nat n d k
theorem cutA_is {α : Type} {xs : List α} {a b : Int} (h : 0 ≤ a) (hb : a ≤ b) : cutA xs (some a) (some b) = cut xs a b := by
  unfold cutA cut
  rw [sIx_nn _ _ h, sIx_nn _ _ (by omega)]
  by_cases q : a.toNat ≤ xs.length
  · rw [Nat.min_eq_left q]
    by_cases r : b.toNat ≤ xs.length
    · rw [Nat.min_eq_left r]
      congr 1
      omega
    · rw [Nat.min_eq_right (by omega), List.take_of_length_le (by rw [List.length_drop]; exact Nat.le_refl _), List.take_of_length_le (by rw [List.length_drop]; omega)]
  · rw [List.drop_of_length_le (show xs.length ≤ min a.toNat xs.length by omega), List.drop_of_length_le (show xs.length ≤ a.toNat by omega), List.take_nil, List.take_nil]
theorem cutA_to {α : Type} {xs : List α} {b : Int} (h : 0 ≤ b) : cutA xs none (some b) = xs.take b.toNat := by
  unfold cutA
  rw [sIx_nn _ _ h]
  show List.take (min b.toNat xs.length - 0) (List.drop 0 xs) = _
  rw [Nat.sub_zero, List.drop_zero]
  by_cases r : b.toNat ≤ xs.length
  · rw [Nat.min_eq_left r]
  · rw [Nat.min_eq_right (by omega), List.take_of_length_le (Nat.le_refl _), List.take_of_length_le (by omega)]
theorem cutA_from {α : Type} {xs : List α} {a : Int} (h : 0 ≤ a) : cutA xs (some a) none = xs.drop a.toNat := by
  unfold cutA
  rw [sIx_nn _ _ h]
  show List.take (xs.length - min a.toNat xs.length) (List.drop (min a.toNat xs.length) xs) = _
  rw [List.take_of_length_le (by rw [List.length_drop]; exact Nat.le_refl _)]
  by_cases r : a.toNat ≤ xs.length
  · rw [Nat.min_eq_left r]
  · rw [Nat.min_eq_right (by omega), List.drop_of_length_le (Nat.le_refl _), List.drop_of_length_le (by omega)]
theorem cut_take {α : Type} {xs : List α} {a b l : Int} (h : a ≤ l) (hl : l ≤ b) : (cut xs a b).take (l - a).toNat = cut xs a l := by
  unfold cut
  rw [List.take_take, Nat.min_eq_left (by omega)]
theorem cut_drop {α : Type} {xs : List α} {a b l : Int} (h0 : 0 ≤ a) (h : a ≤ l) (hl : l ≤ b) : (cut xs a b).drop (l - a).toNat = cut xs l b := by
  unfold cut
  rw [List.drop_take, List.drop_drop]
  congr 1
  · omega
  · congr 1
    omega
theorem cut_len {α : Type} {xs : List α} {a b : Int} : (cut xs a b).length ≤ xs.length := by
  unfold cut
  rw [List.length_take, List.length_drop]
  omega
/-! ### hunks put -/
def fwd : Int → List Int → List Hk → List Int
  | _, rows, [] => rows
  | p, rows, x :: hs => rows.take (x.1 - p).toNat ++ (x.2.2 ++ fwd x.2.1 (rows.drop (x.2.1 - p).toNat) hs)
/-- apart from each other, from s on, up to n -/
def Vd : Int → Int → List Hk → Prop
  | _, _, [] => True
  | s, n, x :: hs => s ≤ x.1 ∧ x.1 ≤ x.2.1 ∧ x.2.1 ≤ n ∧ (x.1 < x.2.1 ∨ x.2.2 ≠ []) ∧ Vd (x.2.1 + 1) n hs
/-- not too much -/
def Sm (n : Nat) (hs : List Hk) : Prop := hs.length ≤ 100 ∧ ∀ x ∈ hs, x.2.2.length ≤ n
theorem Vd.mono : ∀ {hs : List Hk} {s s' n : Int}, Vd s n hs → s' ≤ s → Vd s' n hs
  | [], _, _, _, _, _ => trivial
  | _ :: _, _, _, _, ⟨h1, h2⟩, h => ⟨by omega, h2⟩
def shO (s : Sl) : Prop := s = .no ∨ ∃ d, s = .sh d
def isHs (d : D) (hs : List Hk) : Prop := d = .tup (hs.map eH) ∨ d = .lst (hs.map eH)
def putR (b hd : D) (xs : List Int) (low high : Int) (hs rest : List Hk) (ρ : List Sl) : Prop := ∃ (found : List Int) (at_ : Int) (s6 s7 s8 : Sl), ρ = [.sh b, .sh (.int low), .sh (.int high), .sh hd, .ow (.lst (found.map .int)), .sh (.int at_), s6, s7, s8] ∧
  ((s6 = .no ∧ s7 = .no ∧ s8 = .no) ∨ ∃ a b c, s6 = .sh a ∧ s7 = .sh b ∧ s8 = .sh c) ∧ low ≤ at_ ∧ at_ ≤ high ∧ (found.length + 2000 * rest.length ≤ 2000 * hs.length) ∧ (Vd at_ high rest ∧ ∀ x ∈ rest, x.2.2.length ≤ 1000) ∧ found ++ fwd at_ (cut xs at_ high) rest = fwd low (cut xs low high) hs
abbrev putB : GS := (gIfS (gAnd (gB (gOp (fI fun i j => decide (i ≤ j)) (gVsR 1) (gVsR 6))) (gB (gOp (fI fun i j => decide (i ≤ j)) (gVsR 7) (gVsR 2))))
    (gSeq (gExt' 4 (gVd (gOp fAdd (gVd (gCall fList (DL.gCons (gVd (gSl (gVsR 0) (gP1 (gVsR 5)) (gP1 (gVsR 6)))) DL.gNil))) (gVd (gCall fList (DL.gCons (gVsR 8) DL.gNil))))))
    (gSet 5 (gN 7)))
    gNx)
theorem put_step {b hd : D} {xs : List Int} {low high : Int} {hs : List Hk} (hb : isB b xs) (h0 : 0 ≤ low) (h2 : high ≤ xs.length) (hx : xs.length ≤ 1000) (hz : hs.length ≤ 100) (x : Hk) (rest : List Hk) (ρ : List Sl) (r : putR b hd xs low high hs (x :: rest) ρ) :
    ∃ ρa ρb, hT 3 (DL.hCons (hN 6) (DL.hCons (hN 7) (DL.hCons (hN 8) hNil))) (eH x) ρ = some ρa ∧ (putB ρa = .nx ρb ∨ putB ρa = .ct ρb) ∧ putR b hd xs low high hs rest ρb := by
  obtain ⟨l, h, t⟩ := x
  obtain ⟨found, at_, s6, s7, s8, rfl, hs6, q1, q2, q3, ⟨⟨v1, v2, v3, v4, v5⟩, q4⟩, q5⟩ := r
  simp only at v1 v2 v3 v4 v5
  have t1 : t.length ≤ 1000 := q4 (l, h, t) List.mem_cons_self
  have c1 : cutA xs (some at_) (some l) = cut xs at_ l := cutA_is (by omega) v1
  have c2 : (cut xs at_ l).length ≤ 1000 := Nat.le_trans cut_len hx
  have z1 : (cut xs at_ l).length + t.length ≤ 1000000 := by omega
  have z2 : found.length + ((cut xs at_ l).length + t.length) ≤ 1000000 := by
    simp only [List.length_cons] at q3
    omega
  have z3 : low ≤ l := by omega
  refine ⟨[.sh b, .sh (.int low), .sh (.int high), .sh hd, .ow (.lst (found.map .int)), .sh (.int at_), .sh (.int l), .sh (.int h), .sh (.tup (t.map .int))], [.sh b, .sh (.int low), .sh (.int high), .sh hd, .ow (.lst ((found ++ (cut xs at_ l ++ t)).map .int)), .sh (.int h), .sh (.int l), .sh (.int h), .sh (.tup (t.map .int))], ?_, .inl ?_, ?_⟩
  · rcases hs6 with ⟨rfl, rfl, rfl⟩ | ⟨_, _, _, rfl, rfl, rfl⟩ <;> simp [gFr_e, gVd_e, gSh_e, gVsR_e, gN_e, gTk_e, gC_e, gOp_e, gNil_e, gCons_e, gTup_e, gLst_e, gP0_e, gP1_e, gSl_e, gB_e, gNot_e, gAnd_e, gOr_e, gNotV_e, gAndV_e, gOrV_e, gIf_e, gTru_e, gCall_e, hN_e, hNil_e, hCons_e, hT_e, gIt_e, gR1_e, gR2_e, gYes_e, gLc_e, gLc2_e, gSeq_e, gNx_e, gBk_e, gCt_e, gNo_e, gSet_e, gRet_e, gRetN_e, gIfS_e, gDrop_e, gAsg_e, gFor_e, fnS_e, gF_e, gFM_e, gFK_e, gApp_e, gExt_e, gISet_e, gAppP_e, gExtP_e, gIsi_e, gZip_e, gListRev_e, gSortK_e, gNeg_e, gPar_e, gRaise_e, gHeard_e, op2, vD, vDs, frD, frDs, stO, putO, bks, plainS, mutS, permL, appS, extS, isetS, isOl, noMu, noScr, oD, lst?, Rs.sl, Rs.d, D.items, eH]
  · rcases hb with rfl | rfl <;> simp [gFr_e, gVd_e, gSh_e, gVsR_e, gN_e, gTk_e, gC_e, gOp_e, gNil_e, gCons_e, gTup_e, gLst_e, gP0_e, gP1_e, gSl_e, gB_e, gNot_e, gAnd_e, gOr_e, gNotV_e, gAndV_e, gOrV_e, gIf_e, gTru_e, gCall_e, hN_e, hNil_e, hCons_e, hT_e, gIt_e, gR1_e, gR2_e, gYes_e, gLc_e, gLc2_e, gSeq_e, gNx_e, gBk_e, gCt_e, gNo_e, gSet_e, gRet_e, gRetN_e, gIfS_e, gDrop_e, gAsg_e, gFor_e, fnS_e, gF_e, gFM_e, gFK_e, gApp_e, gExt_e, gISet_e, gAppP_e, gExtP_e, gIsi_e, gZip_e, gListRev_e, gSortK_e, gNeg_e, gPar_e, gRaise_e, gHeard_e, op2, vD, vDs, frD, frDs, stO, putO, bks, plainS, mutS, permL, appS, extS, isetS, isOl, noMu, noScr, oD, lst?, Rs.sl, Rs.d, D.items, fI, fSl, fList, fAdd, cutA_map, c1, z1, z2, z3, v3]
  · refine ⟨_, h, _, _, _, rfl, .inr ⟨_, _, _, rfl, rfl, rfl⟩, by omega, v3, ?_, ⟨v5.mono (by omega), fun x hx => q4 x (List.mem_cons_of_mem _ hx)⟩, ?_⟩
    · simp only [List.length_append, List.length_cons] at q3 ⊢
      omega
    · rw [← q5]
      simp only [fwd]
      rw [cut_take v1 (by omega), cut_drop (by omega) (by omega) v3, List.append_assoc, List.append_assoc]
theorem ev_put_hunks {b hd : D} {xs : List Int} {low high : Int} {hs : List Hk} (hb : isB b xs) (hh : isHs hd hs) (h0 : 0 ≤ low) (h1 : low ≤ high) (h2 : high ≤ xs.length) (hv : Vd low high hs) (hx : xs.length ≤ 1000) (hz : Sm 1000 hs) :
    sem_put_hunks [.sh b, .sh (.int low), .sh (.int high), .sh hd] = .ok (.sh (.tup ((fwd low (cut xs low high) hs).map .int))) [.sh b, .sh (.int low), .sh (.int high), .sh hd] := by
  obtain ⟨ρ', e, found, at_, s6, s7, s8, rfl, r2, r3, r4, r5, r6, r7⟩ := forL_rest (enc := eH) (put_step hb h0 h2 hx hz.1) (xs := hs) (ρ := [.sh b, .sh (.int low), .sh (.int high), .sh hd, .ow (.lst []), .sh (.int low), .no, .no, .no]) ⟨[], low, .no, .no, .no, rfl, .inl ⟨rfl, rfl, rfl⟩, Int.le_refl _, h1, by simp, ⟨hv, hz.2⟩, rfl⟩
  have c1 : cutA xs (some at_) (some high) = cut xs at_ high := cutA_is (by omega) r4
  have c2 : (cut xs at_ high).length ≤ 1000 := Nat.le_trans cut_len hx
  have z1 : found.length + (cut xs at_ high).length ≤ 1000000 := by
    have := hz.1
    simp only [List.length_nil] at r5
    omega
  have r7 : found ++ cut xs at_ high = fwd low (cut xs low high) hs := r7
  rw [← r7]
  rcases hh with rfl | rfl <;> rcases hb with rfl | rfl <;> simp [gFr_e, gVd_e, gSh_e, gVsR_e, gN_e, gTk_e, gC_e, gOp_e, gNil_e, gCons_e, gTup_e, gLst_e, gP0_e, gP1_e, gSl_e, gB_e, gNot_e, gAnd_e, gOr_e, gNotV_e, gAndV_e, gOrV_e, gIf_e, gTru_e, gCall_e, hN_e, hNil_e, hCons_e, hT_e, gIt_e, gR1_e, gR2_e, gYes_e, gLc_e, gLc2_e, gSeq_e, gNx_e, gBk_e, gCt_e, gNo_e, gSet_e, gRet_e, gRetN_e, gIfS_e, gDrop_e, gAsg_e, gFor_e, fnS_e, gF_e, gFM_e, gFK_e, gApp_e, gExt_e, gISet_e, gAppP_e, gExtP_e, gIsi_e, gZip_e, gListRev_e, gSortK_e, gNeg_e, gPar_e, gRaise_e, gHeard_e, op2, vD, vDs, frD, frDs, stO, putO, bks, plainS, mutS, permL, appS, extS, isetS, isOl, noMu, noScr, oD, lst?, Rs.sl, Rs.d, D.items, sem_put_hunks, g_put_hunks, eHs, e, fSl, fList, fTuple, fAdd, cutA_map, c1, z1]
end K62
end
section
set_option Elab.async false
set_option linter.all false
set_option maxRecDepth 100000
set_option maxHeartbeats 4000000
/-! K62m2: checking hunks, of any form; what is none. -/
namespace K62
open PySem DL
theorem Vd.mem : ∀ {hs : List Hk} {s n : Int}, Vd s n hs → ∀ x ∈ hs, s ≤ x.1 ∧ x.1 ≤ x.2.1 ∧ x.2.1 ≤ n ∧ (x.1 < x.2.1 ∨ x.2.2 ≠ [])
  | [], _, _, _, x, hx => absurd hx (by simp)
  | y :: hs, s, n, ⟨h1, h2, h3, h4, h5⟩, x, hx => by
    rcases List.mem_cons.mp hx with rfl | hx
    · exact ⟨h1, h2, h3, h4⟩
    · have := Vd.mem h5 x hx
      exact ⟨by omega, this.2⟩
theorem zipD_mapF {α : Type} (f : α → D) : ∀ (xs ys : List α), zipD (xs.map f) (ys.map f) = (xs.zip ys).map fun p => .tup [f p.1, f p.2]
  | [], ys => by simp [zipD]
  | x :: xs, [] => by simp [zipD]
  | x :: xs, y :: ys => by simp [zipD, zipD_mapF f xs ys]
theorem at0 (x : Hk) : L2.atI [D.int x.1, D.int x.2.1, D.tup (x.2.2.map .int)] 0 = some (.int x.1) := rfl
theorem at1 (x : Hk) : L2.atI [D.int x.1, D.int x.2.1, D.tup (x.2.2.map .int)] 1 = some (.int x.2.1) := rfl
theorem a30 (x y z : D) : L2.atI [x, y, z] 0 = some x := rfl
theorem a31 (x y z : D) : L2.atI [x, y, z] 1 = some y := rfl
theorem a32 (x y z : D) : L2.atI [x, y, z] 2 = some z := rfl
theorem all_true {α : Type} (xs : List α) : D.bls (xs.map fun _ => D.bl true) = some (xs.map fun _ => true) := by
  have := bls_of (xs.map fun _ => true)
  rw [List.map_map] at this
  exact this
/-! ### of any form -/
def sq (d : D) (ds : List D) : Prop := d = .tup ds ∨ d = .lst ds
def isHk (d : D) (x : Hk) : Prop := ∃ t, sq t (x.2.2.map .int) ∧ sq d [.int x.1, .int x.2.1, t]
theorem isHk_eH (x : Hk) : isHk (eH x) x := ⟨.tup (x.2.2.map .int), .inl rfl, .inl rfl⟩
/-- a list or tuple of hunks -/
def isHL (v : D) (ps : List (D × Hk)) : Prop := sq v (ps.map (·.1)) ∧ ∀ p ∈ ps, isHk p.1 p.2
theorem isHL_eHs (hs : List Hk) : isHL (eHs hs) (hs.map fun x => (eH x, x)) := by
  refine ⟨.inl (by rw [List.map_map]; rfl), fun p hp => ?_⟩
  obtain ⟨x, _, rfl⟩ := List.mem_map.mp hp
  exact isHk_eH x
abbrev bh (b d : D) (v : Bool) : Prop := sem_is_base_hunk [.sh b, .sh d] = .ok (.sh (.bl v)) [.sh b, .sh d]
theorem kb6 : L2.kitB "list" "tuple" = some false := by decide +kernel
theorem ev_sq {d : D} {ds : List D} (h : sq d ds) : sem_is_sequence [.sh d] = .ok (.sh (.bl true)) [.sh d] := by
  rcases h with rfl | rfl <;> simp [gFr_e, gVd_e, gSh_e, gVsR_e, gN_e, gTk_e, gC_e, gOp_e, gNil_e, gCons_e, gTup_e, gLst_e, gP0_e, gP1_e, gSl_e, gB_e, gNot_e, gAnd_e, gOr_e, gNotV_e, gAndV_e, gOrV_e, gIf_e, gTru_e, gCall_e, hN_e, hNil_e, hCons_e, hT_e, gIt_e, gR1_e, gR2_e, gYes_e, gLc_e, gLc2_e, gSeq_e, gNx_e, gBk_e, gCt_e, gNo_e, gSet_e, gRet_e, gRetN_e, gIfS_e, gDrop_e, gAsg_e, gFor_e, fnS_e, gF_e, gFM_e, gFK_e, gApp_e, gExt_e, gISet_e, gAppP_e, gExtP_e, gIsi_e, gZip_e, gListRev_e, gSortK_e, gNeg_e, gPar_e, gRaise_e, gHeard_e, op2, vD, vDs, frD, frDs, stO, putO, bks, plainS, mutS, permL, appS, extS, isetS, isOl, noMu, noScr, oD, lst?, Rs.sl, Rs.d, D.items, sem_is_sequence, g_is_sequence, fIsiT, D.ty, tyAny, kb3, kb4, kb5]
theorem ev_hk {b d : D} {xs : List Int} {x : Hk} (hb : isB b xs) (hd : isHk d x) (h1 : 0 ≤ x.1) (h2 : x.1 ≤ x.2.1) (h3 : x.2.1 ≤ xs.length) (h4 : x.1 < x.2.1 ∨ x.2.2 ≠ []) : bh b d true := by
  obtain ⟨l, h, t⟩ := x
  obtain ⟨td, ht, hd⟩ := hd
  have e1 : 0 ≤ h := by simp at h1 h2; omega
  simp at h1 h2 h3 h4
  have e2 : h < (xs.length : Int) + 1 := by omega
  have e3 : l < h + 1 := by omega
  have e5 : decide (l < h) = true ∨ decide (l < h) = false ∧ decide (0 < (t.length : Int)) = true := by
    rcases h4 with h4 | h4
    · exact .inl (by simpa using h4)
    · by_cases q : l < h
      · exact .inl (by simpa using q)
      · refine .inr ⟨by simpa using q, ?_⟩
        cases t with
        | nil => exact absurd rfl h4
        | cons a t => simp
  have s1 := ev_sq hd
  have s2 := ev_sq ht
  rcases hb with rfl | rfl <;> rcases hd with rfl | rfl <;> rcases ht with rfl | rfl <;> rcases e5 with e5 | ⟨e5, e6⟩ <;>
    simp [gFr_e, gVd_e, gSh_e, gVsR_e, gN_e, gTk_e, gC_e, gOp_e, gNil_e, gCons_e, gTup_e, gLst_e, gP0_e, gP1_e, gSl_e, gB_e, gNot_e, gAnd_e, gOr_e, gNotV_e, gAndV_e, gOrV_e, gIf_e, gTru_e, gCall_e, hN_e, hNil_e, hCons_e, hT_e, gIt_e, gR1_e, gR2_e, gYes_e, gLc_e, gLc2_e, gSeq_e, gNx_e, gBk_e, gCt_e, gNo_e, gSet_e, gRet_e, gRetN_e, gIfS_e, gDrop_e, gAsg_e, gFor_e, fnS_e, gF_e, gFM_e, gFK_e, gApp_e, gExt_e, gISet_e, gAppP_e, gExtP_e, gIsi_e, gZip_e, gListRev_e, gSortK_e, gNeg_e, gPar_e, gRaise_e, gHeard_e, op2, vD, vDs, frD, frDs, stO, putO, bks, plainS, mutS, permL, appS, extS, isetS, isOl, noMu, noScr, oD, lst?, Rs.sl, Rs.d, D.items, bh, sem_is_base_hunk, g_is_base_hunk, fLen, fNe, fIx, fAdd, fI, ev_is_below, s1, s2, e1, e2, e3, e5, h1, a32] <;> first | simpa using e6 | simpa using e5
theorem pair_lt2 {b v : D} {p q : D × Hk} (hp : isHk p.1 p.2) (hq : isHk q.1 q.2) : gOp (fI fun i j => decide (i < j)) (gVd (gOp fIx (gVsR 2) (gVd (gC (.int 1))))) (gVd (gOp fIx (gVsR 3) (gVd (gC (.int 0))))) [.sh b, .sh v, .sh p.1, .sh q.1, .no, .no, .no] = .ok (.sh (.bl (decide (p.2.2.1 < q.2.1)))) [.sh b, .sh v, .sh p.1, .sh q.1, .no, .no, .no] := by
  obtain ⟨d, x⟩ := p
  obtain ⟨e, y⟩ := q
  obtain ⟨t, _, h1⟩ := hp
  obtain ⟨u, _, h2⟩ := hq
  simp only at h1 h2
  rcases h1 with rfl | rfl <;> rcases h2 with rfl | rfl <;> simp [gFr_e, gVd_e, gSh_e, gVsR_e, gN_e, gTk_e, gC_e, gOp_e, gNil_e, gCons_e, gTup_e, gLst_e, gP0_e, gP1_e, gSl_e, gB_e, gNot_e, gAnd_e, gOr_e, gNotV_e, gAndV_e, gOrV_e, gIf_e, gTru_e, gCall_e, hN_e, hNil_e, hCons_e, hT_e, gIt_e, gR1_e, gR2_e, gYes_e, gLc_e, gLc2_e, gSeq_e, gNx_e, gBk_e, gCt_e, gNo_e, gSet_e, gRet_e, gRetN_e, gIfS_e, gDrop_e, gAsg_e, gFor_e, fnS_e, gF_e, gFM_e, gFK_e, gApp_e, gExt_e, gISet_e, gAppP_e, gExtP_e, gIsi_e, gZip_e, gListRev_e, gSortK_e, gNeg_e, gPar_e, gRaise_e, gHeard_e, op2, vD, vDs, frD, frDs, stO, putO, bks, plainS, mutS, permL, appS, extS, isetS, isOl, noMu, noScr, oD, lst?, Rs.sl, Rs.d, D.items, fIx, fI, a30, a31]
theorem trip_ev {b v : D} {p : D × Hk} (hp : isHk p.1 p.2) : ∃ t, hT 3 (DL.hCons (hN 4) (DL.hCons (hN 5) (DL.hCons (hN 6) hNil))) p.1 [.sh b, .sh v, .no, .no, .no, .no, .no] = some [.sh b, .sh v, .no, .no, .sh (.int p.2.1), .sh (.int p.2.2.1), .sh t] ∧
    gFr (DL.gTup (DL.gCons (gVsR 4) (DL.gCons (gVsR 5) (DL.gCons (gVd (gCall fTuple (DL.gCons (gVsR 6) DL.gNil))) DL.gNil)))) [.sh b, .sh v, .no, .no, .sh (.int p.2.1), .sh (.int p.2.2.1), .sh t] = .ok (eH p.2) [.sh b, .sh v, .no, .no, .sh (.int p.2.1), .sh (.int p.2.2.1), .sh t] := by
  obtain ⟨d, x⟩ := p
  obtain ⟨t, h1, h2⟩ := hp
  simp only at h1 h2
  refine ⟨t, ?_, ?_⟩
  · rcases h2 with rfl | rfl <;> simp [gFr_e, gVd_e, gSh_e, gVsR_e, gN_e, gTk_e, gC_e, gOp_e, gNil_e, gCons_e, gTup_e, gLst_e, gP0_e, gP1_e, gSl_e, gB_e, gNot_e, gAnd_e, gOr_e, gNotV_e, gAndV_e, gOrV_e, gIf_e, gTru_e, gCall_e, hN_e, hNil_e, hCons_e, hT_e, gIt_e, gR1_e, gR2_e, gYes_e, gLc_e, gLc2_e, gSeq_e, gNx_e, gBk_e, gCt_e, gNo_e, gSet_e, gRet_e, gRetN_e, gIfS_e, gDrop_e, gAsg_e, gFor_e, fnS_e, gF_e, gFM_e, gFK_e, gApp_e, gExt_e, gISet_e, gAppP_e, gExtP_e, gIsi_e, gZip_e, gListRev_e, gSortK_e, gNeg_e, gPar_e, gRaise_e, gHeard_e, op2, vD, vDs, frD, frDs, stO, putO, bks, plainS, mutS, permL, appS, extS, isetS, isOl, noMu, noScr, oD, lst?, Rs.sl, Rs.d, D.items]
  · rcases h1 with rfl | rfl <;> simp [gFr_e, gVd_e, gSh_e, gVsR_e, gN_e, gTk_e, gC_e, gOp_e, gNil_e, gCons_e, gTup_e, gLst_e, gP0_e, gP1_e, gSl_e, gB_e, gNot_e, gAnd_e, gOr_e, gNotV_e, gAndV_e, gOrV_e, gIf_e, gTru_e, gCall_e, hN_e, hNil_e, hCons_e, hT_e, gIt_e, gR1_e, gR2_e, gYes_e, gLc_e, gLc2_e, gSeq_e, gNx_e, gBk_e, gCt_e, gNo_e, gSet_e, gRet_e, gRetN_e, gIfS_e, gDrop_e, gAsg_e, gFor_e, fnS_e, gF_e, gFM_e, gFK_e, gApp_e, gExt_e, gISet_e, gAppP_e, gExtP_e, gIsi_e, gZip_e, gListRev_e, gSortK_e, gNeg_e, gPar_e, gRaise_e, gHeard_e, op2, vD, vDs, frD, frDs, stO, putO, bks, plainS, mutS, permL, appS, extS, isetS, isOl, noMu, noScr, oD, lst?, Rs.sl, Rs.d, D.items, fTuple, eH]
theorem Vd.zip : ∀ {ps : List (D × Hk)} {s n : Int}, Vd s n (ps.map (·.2)) → ∀ p ∈ ps.zip (ps.tail), p.1.2.2.1 < p.2.2.1
  | [], _, _, _, p, hp => absurd hp (by simp)
  | [x], _, _, _, p, hp => absurd hp (by simp)
  | x :: y :: hs, s, n, ⟨h1, h2, h3, h4, h5⟩, p, hp => by
    have hp : p ∈ (x, y) :: (y :: hs).zip ((y :: hs).tail) := hp
    rcases List.mem_cons.mp hp with rfl | hp
    · have : x.2.2.1 + 1 ≤ y.2.1 := h5.1
      show x.2.2.1 < y.2.1
      omega
    · exact Vd.zip (ps := y :: hs) h5 p hp
abbrev ck1 : GE := gFr (gF 2 sem_is_base_hunk (DL.gCons (gVsR 0) (DL.gCons (gVsR 2) DL.gNil)))
theorem ck_all {b v : D} {ps : List (D × Bool)} (h : ∀ p ∈ ps, bh b p.1 p.2) : lcL [2] (hN 2) gYes ck1 (ps.map (·.1)) [.sh b, .sh v, .no, .no, .no, .no, .no] = .ok (ps.map fun p => .bl p.2) [.sh b, .sh v, .no, .no, .no, .no, .no] :=
  lcL_map (vs := [2]) (h := hN 2) (ft := gYes) (fe := ck1) (enc := fun p : D × Bool => p.1) (ρ0 := [.sh b, .sh v, .no, .no, .no, .no, .no]) (f := fun p => .bl p.2) (xs := ps) fun x hx =>
    ⟨[.sh b, .sh v, .sh x.1, .no, .no, .no, .no], _, [.sh b, .sh v, .sh x.1, .no, .no, .no, .no], by simp [gFr_e, gVd_e, gSh_e, gVsR_e, gN_e, gTk_e, gC_e, gOp_e, gNil_e, gCons_e, gTup_e, gLst_e, gP0_e, gP1_e, gSl_e, gB_e, gNot_e, gAnd_e, gOr_e, gNotV_e, gAndV_e, gOrV_e, gIf_e, gTru_e, gCall_e, hN_e, hNil_e, hCons_e, hT_e, gIt_e, gR1_e, gR2_e, gYes_e, gLc_e, gLc2_e, gSeq_e, gNx_e, gBk_e, gCt_e, gNo_e, gSet_e, gRet_e, gRetN_e, gIfS_e, gDrop_e, gAsg_e, gFor_e, fnS_e, gF_e, gFM_e, gFK_e, gApp_e, gExt_e, gISet_e, gAppP_e, gExtP_e, gIsi_e, gZip_e, gListRev_e, gSortK_e, gNeg_e, gPar_e, gRaise_e, gHeard_e, op2, vD, vDs, frD, frDs, stO, putO, bks, plainS, mutS, permL, appS, extS, isetS, isOl, noMu, noScr, oD, lst?, Rs.sl, Rs.d, D.items], rfl, by simp [gFr_e, gVd_e, gSh_e, gVsR_e, gN_e, gTk_e, gC_e, gOp_e, gNil_e, gCons_e, gTup_e, gLst_e, gP0_e, gP1_e, gSl_e, gB_e, gNot_e, gAnd_e, gOr_e, gNotV_e, gAndV_e, gOrV_e, gIf_e, gTru_e, gCall_e, hN_e, hNil_e, hCons_e, hT_e, gIt_e, gR1_e, gR2_e, gYes_e, gLc_e, gLc2_e, gSeq_e, gNx_e, gBk_e, gCt_e, gNo_e, gSet_e, gRet_e, gRetN_e, gIfS_e, gDrop_e, gAsg_e, gFor_e, fnS_e, gF_e, gFM_e, gFK_e, gApp_e, gExt_e, gISet_e, gAppP_e, gExtP_e, gIsi_e, gZip_e, gListRev_e, gSortK_e, gNeg_e, gPar_e, gRaise_e, gHeard_e, op2, vD, vDs, frD, frDs, stO, putO, bks, plainS, mutS, permL, appS, extS, isetS, isOl, noMu, noScr, oD, lst?, Rs.sl, Rs.d, D.items, h x hx], rfl⟩
abbrev ck2 : GE := gFr (gOp (fI fun i j => decide (i < j)) (gVd (gOp fIx (gVsR 2) (gVd (gC (.int 1))))) (gVd (gOp fIx (gVsR 3) (gVd (gC (.int 0))))))
theorem ck_near {b v : D} {ps : List ((D × Hk) × D × Hk)} (h : ∀ p ∈ ps, isHk p.1.1 p.1.2 ∧ isHk p.2.1 p.2.2) : lcL [2, 3] (hT 2 (DL.hCons (hN 2) (DL.hCons (hN 3) hNil))) gYes ck2 (ps.map fun p => .tup [p.1.1, p.2.1]) [.sh b, .sh v, .no, .no, .no, .no, .no] = .ok (ps.map fun p => .bl (decide (p.1.2.2.1 < p.2.2.1))) [.sh b, .sh v, .no, .no, .no, .no, .no] :=
  lcL_map (vs := [2, 3]) (h := hT 2 (DL.hCons (hN 2) (DL.hCons (hN 3) hNil))) (ft := gYes) (fe := ck2) (enc := fun p : (D × Hk) × D × Hk => .tup [p.1.1, p.2.1]) (ρ0 := [.sh b, .sh v, .no, .no, .no, .no, .no]) (f := fun p => .bl (decide (p.1.2.2.1 < p.2.2.1))) (xs := ps) fun x hx =>
    ⟨[.sh b, .sh v, .sh x.1.1, .sh x.2.1, .no, .no, .no], _, [.sh b, .sh v, .sh x.1.1, .sh x.2.1, .no, .no, .no], by simp [gFr_e, gVd_e, gSh_e, gVsR_e, gN_e, gTk_e, gC_e, gOp_e, gNil_e, gCons_e, gTup_e, gLst_e, gP0_e, gP1_e, gSl_e, gB_e, gNot_e, gAnd_e, gOr_e, gNotV_e, gAndV_e, gOrV_e, gIf_e, gTru_e, gCall_e, hN_e, hNil_e, hCons_e, hT_e, gIt_e, gR1_e, gR2_e, gYes_e, gLc_e, gLc2_e, gSeq_e, gNx_e, gBk_e, gCt_e, gNo_e, gSet_e, gRet_e, gRetN_e, gIfS_e, gDrop_e, gAsg_e, gFor_e, fnS_e, gF_e, gFM_e, gFK_e, gApp_e, gExt_e, gISet_e, gAppP_e, gExtP_e, gIsi_e, gZip_e, gListRev_e, gSortK_e, gNeg_e, gPar_e, gRaise_e, gHeard_e, op2, vD, vDs, frD, frDs, stO, putO, bks, plainS, mutS, permL, appS, extS, isetS, isOl, noMu, noScr, oD, lst?, Rs.sl, Rs.d, D.items], rfl, by
      have e := pair_lt2 (b := b) (v := v) (h x hx).1 (h x hx).2
      simp only [ck2, gFr_e, e]
      rfl, rfl⟩
theorem ck_trip {b v : D} {ps : List (D × Hk)} (h : ∀ p ∈ ps, isHk p.1 p.2) : lcL [4, 5, 6] (hT 3 (DL.hCons (hN 4) (DL.hCons (hN 5) (DL.hCons (hN 6) hNil)))) gYes (gFr (DL.gTup (DL.gCons (gVsR 4) (DL.gCons (gVsR 5) (DL.gCons (gVd (gCall fTuple (DL.gCons (gVsR 6) DL.gNil))) DL.gNil))))) (ps.map (·.1)) [.sh b, .sh v, .no, .no, .no, .no, .no] = .ok (ps.map fun p => eH p.2) [.sh b, .sh v, .no, .no, .no, .no, .no] :=
  lcL_map (vs := [4, 5, 6]) (h := hT 3 (DL.hCons (hN 4) (DL.hCons (hN 5) (DL.hCons (hN 6) hNil)))) (ft := gYes) (fe := gFr (DL.gTup (DL.gCons (gVsR 4) (DL.gCons (gVsR 5) (DL.gCons (gVd (gCall fTuple (DL.gCons (gVsR 6) DL.gNil))) DL.gNil)))))
    (enc := fun p : D × Hk => p.1) (ρ0 := [.sh b, .sh v, .no, .no, .no, .no, .no]) (f := fun p => eH p.2) (xs := ps) fun x hx => by
      obtain ⟨t, e1, e2⟩ := trip_ev (b := b) (v := v) (h x hx)
      exact ⟨_, _, _, e1, rfl, e2, rfl⟩
theorem bls_map {α : Type} (f : α → Bool) (xs : List α) : D.bls (xs.map fun x => D.bl (f x)) = some (xs.map f) := by
  have := bls_of (xs.map f)
  rw [List.map_map] at this
  exact this
theorem ev_check_ok {b v : D} {xs : List Int} {ps : List (D × Hk)} (hb : isB b xs) (hl : isHL v ps) (hv : Vd 0 xs.length (ps.map (·.2))) (hz : ps.length ≤ 1000) : sem_check_hunks [.sh b, .sh v] = .ok (.sh (eHs (ps.map (·.2)))) [.sh b, .sh v] := by
  obtain ⟨hs, hp⟩ := hl
  have c1 := ck_all (b := b) (v := v) (ps := ps.map fun p => (p.1, true)) fun p hp' => by
    obtain ⟨q, hq, rfl⟩ := List.mem_map.mp hp'
    obtain ⟨a1, a2, a3, a4⟩ := hv.mem q.2 (List.mem_map_of_mem hq)
    exact ev_hk hb (hp q hq) a1 a2 a3 a4
  rw [List.map_map, List.map_map] at c1
  have c2 := ck_near (b := b) (v := v) (ps := ps.zip ps.tail) fun p hp' => ⟨hp _ (List.of_mem_zip hp').1, hp _ (List.mem_of_mem_tail (List.of_mem_zip hp').2)⟩
  have c3 := ck_trip (b := b) (v := v) hp
  have al : ((ps.zip ps.tail).map fun p => decide (p.1.2.2.1 < p.2.2.1)).all id = true := by
    rw [List.all_eq_true]
    intro c hc
    obtain ⟨p, hp', rfl⟩ := List.mem_map.mp hc
    simpa using hv.zip p hp'
  have al1 : ((ps.map fun _ => true).all id) = true := by simp
  have z1 : ps.length ≤ 1000000 := by omega
  have z2 : ps.length ≤ 1000001 := by omega
  have c4 : cutA (ps.map (·.1)) (some 1) none = ps.tail.map (·.1) := by
    rw [cutA_map, cutA_from (by decide), ← List.drop_one]
    rfl
  have c5 : zipD (ps.map (·.1)) (ps.map (·.1)).tail = (ps.zip ps.tail).map fun p => .tup [p.1.1, p.2.1] := by rw [← List.map_tail]; exact zipD_mapF (fun p : D × Hk => p.1) ps ps.tail
  have b1 := bls_map (fun _ : D × Hk => true) ps
  have b2 := bls_map (fun p : (D × Hk) × D × Hk => decide (p.1.2.2.1 < p.2.2.1)) (ps.zip ps.tail)
  have s1 := ev_sq hs
  have lz : (ps.zip ps.tail).length ≤ 1000000 := by rw [List.length_zip]; omega
  have e3 : eHs (ps.map (·.2)) = .tup (ps.map fun p => eH p.2) := by unfold eHs; rw [List.map_map]; rfl
  rw [e3]
  rw [List.map_tail] at c4
  have b1' : D.bls (ps.map fun _ => D.bl true) = some (ps.map fun _ => true) := b1
  have c1' : lcL [2] (hN 2) gYes ck1 (ps.map (·.1)) [.sh b, .sh v, .no, .no, .no, .no, .no] = .ok (ps.map fun _ => .bl true) [.sh b, .sh v, .no, .no, .no, .no, .no] := c1
  rcases hs with rfl | rfl <;> simp [gFr_e, gVd_e, gSh_e, gVsR_e, gN_e, gTk_e, gC_e, gOp_e, gNil_e, gCons_e, gTup_e, gLst_e, gP0_e, gP1_e, gSl_e, gB_e, gNot_e, gAnd_e, gOr_e, gNotV_e, gAndV_e, gOrV_e, gIf_e, gTru_e, gCall_e, hN_e, hNil_e, hCons_e, hT_e, gIt_e, gR1_e, gR2_e, gYes_e, gLc_e, gLc2_e, gSeq_e, gNx_e, gBk_e, gCt_e, gNo_e, gSet_e, gRet_e, gRetN_e, gIfS_e, gDrop_e, gAsg_e, gFor_e, fnS_e, gF_e, gFM_e, gFK_e, gApp_e, gExt_e, gISet_e, gAppP_e, gExtP_e, gIsi_e, gZip_e, gListRev_e, gSortK_e, gNeg_e, gPar_e, gRaise_e, gHeard_e, op2, vD, vDs, frD, frDs, stO, putO, bks, plainS, mutS, permL, appS, extS, isetS, isOl, noMu, noScr, oD, lst?, Rs.sl, Rs.d, D.items, sem_check_hunks, g_check_hunks, s1, wipeS, unw, c1', c2, c3, c4, c5, b1', b2, al, z1, z2, lz, fAll, fTuple, fSl, fZip]
/-! ### what is none -/
theorem kb7 : L2.kitB "NoneType" "int" = some false := by decide +kernel
theorem kb8 : L2.kitB "bool" "int" = some true := by decide +kernel
theorem kb9 : L2.kitB "bool" "bool" = some true := by decide +kernel
theorem kb10 : L2.kitB "NoneType" "list" = some false := by decide +kernel
theorem kb11 : L2.kitB "NoneType" "tuple" = some false := by decide +kernel
theorem kb12 : L2.kitB "int" "list" = some false := by decide +kernel
theorem kb13 : L2.kitB "int" "tuple" = some false := by decide +kernel
theorem kb14 : L2.kitB "str" "list" = some false := by decide +kernel
theorem kb15 : L2.kitB "str" "tuple" = some false := by decide +kernel
theorem ev_nsq {d : D} (h : d = .non ∨ (∃ i, d = .int i) ∨ ∃ s, d = .str s) : sem_is_sequence [.sh d] = .ok (.sh (.bl false)) [.sh d] := by
  rcases h with rfl | ⟨i, rfl⟩ | ⟨i, rfl⟩ <;> simp [gFr_e, gVd_e, gSh_e, gVsR_e, gN_e, gTk_e, gC_e, gOp_e, gNil_e, gCons_e, gTup_e, gLst_e, gP0_e, gP1_e, gSl_e, gB_e, gNot_e, gAnd_e, gOr_e, gNotV_e, gAndV_e, gOrV_e, gIf_e, gTru_e, gCall_e, hN_e, hNil_e, hCons_e, hT_e, gIt_e, gR1_e, gR2_e, gYes_e, gLc_e, gLc2_e, gSeq_e, gNx_e, gBk_e, gCt_e, gNo_e, gSet_e, gRet_e, gRetN_e, gIfS_e, gDrop_e, gAsg_e, gFor_e, fnS_e, gF_e, gFM_e, gFK_e, gApp_e, gExt_e, gISet_e, gAppP_e, gExtP_e, gIsi_e, gZip_e, gListRev_e, gSortK_e, gNeg_e, gPar_e, gRaise_e, gHeard_e, op2, vD, vDs, frD, frDs, stO, putO, bks, plainS, mutS, permL, appS, extS, isetS, isOl, noMu, noScr, oD, lst?, Rs.sl, Rs.d, D.items, sem_is_sequence, g_is_sequence, fIsiT, D.ty, tyAny, kb10, kb11, kb12, kb13, kb14, kb15]
theorem ev_nint {d : D} (h : d = .non ∨ ∃ c, d = .bl c) : sem_is_integer [.sh d] = .ok (.sh (.bl false)) [.sh d] := by
  rcases h with rfl | ⟨i, rfl⟩ <;> simp [gFr_e, gVd_e, gSh_e, gVsR_e, gN_e, gTk_e, gC_e, gOp_e, gNil_e, gCons_e, gTup_e, gLst_e, gP0_e, gP1_e, gSl_e, gB_e, gNot_e, gAnd_e, gOr_e, gNotV_e, gAndV_e, gOrV_e, gIf_e, gTru_e, gCall_e, hN_e, hNil_e, hCons_e, hT_e, gIt_e, gR1_e, gR2_e, gYes_e, gLc_e, gLc2_e, gSeq_e, gNx_e, gBk_e, gCt_e, gNo_e, gSet_e, gRet_e, gRetN_e, gIfS_e, gDrop_e, gAsg_e, gFor_e, fnS_e, gF_e, gFM_e, gFK_e, gApp_e, gExt_e, gISet_e, gAppP_e, gExtP_e, gIsi_e, gZip_e, gListRev_e, gSortK_e, gNeg_e, gPar_e, gRaise_e, gHeard_e, op2, vD, vDs, frD, frDs, stO, putO, bks, plainS, mutS, permL, appS, extS, isetS, isOl, noMu, noScr, oD, lst?, Rs.sl, Rs.d, D.items, sem_is_integer, g_is_integer, fIsi, D.ty, kb7, kb8, kb9]
theorem ev_nnum {d : D} (h : d = .non ∨ ∃ c, d = .bl c) : sem_is_number [.sh d] = .ok (.sh (.bl false)) [.sh d] := by
  simp [gFr_e, gVd_e, gSh_e, gVsR_e, gN_e, gTk_e, gC_e, gOp_e, gNil_e, gCons_e, gTup_e, gLst_e, gP0_e, gP1_e, gSl_e, gB_e, gNot_e, gAnd_e, gOr_e, gNotV_e, gAndV_e, gOrV_e, gIf_e, gTru_e, gCall_e, hN_e, hNil_e, hCons_e, hT_e, gIt_e, gR1_e, gR2_e, gYes_e, gLc_e, gLc2_e, gSeq_e, gNx_e, gBk_e, gCt_e, gNo_e, gSet_e, gRet_e, gRetN_e, gIfS_e, gDrop_e, gAsg_e, gFor_e, fnS_e, gF_e, gFM_e, gFK_e, gApp_e, gExt_e, gISet_e, gAppP_e, gExtP_e, gIsi_e, gZip_e, gListRev_e, gSortK_e, gNeg_e, gPar_e, gRaise_e, gHeard_e, op2, vD, vDs, frD, frDs, stO, putO, bks, plainS, mutS, permL, appS, extS, isetS, isOl, noMu, noScr, oD, lst?, Rs.sl, Rs.d, D.items, sem_is_number, g_is_number, ev_nint h]
theorem ev_nbelow {d : D} {m : Int} (h : d = .non ∨ ∃ c, d = .bl c) : sem_is_below [.sh d, .sh (.int m)] = .ok (.sh (.bl false)) [.sh d, .sh (.int m)] := by
  simp [gFr_e, gVd_e, gSh_e, gVsR_e, gN_e, gTk_e, gC_e, gOp_e, gNil_e, gCons_e, gTup_e, gLst_e, gP0_e, gP1_e, gSl_e, gB_e, gNot_e, gAnd_e, gOr_e, gNotV_e, gAndV_e, gOrV_e, gIf_e, gTru_e, gCall_e, hN_e, hNil_e, hCons_e, hT_e, gIt_e, gR1_e, gR2_e, gYes_e, gLc_e, gLc2_e, gSeq_e, gNx_e, gBk_e, gCt_e, gNo_e, gSet_e, gRet_e, gRetN_e, gIfS_e, gDrop_e, gAsg_e, gFor_e, fnS_e, gF_e, gFM_e, gFK_e, gApp_e, gExt_e, gISet_e, gAppP_e, gExtP_e, gIsi_e, gZip_e, gListRev_e, gSortK_e, gNeg_e, gPar_e, gRaise_e, gHeard_e, op2, vD, vDs, frD, frDs, stO, putO, bks, plainS, mutS, permL, appS, extS, isetS, isOl, noMu, noScr, oD, lst?, Rs.sl, Rs.d, D.items, sem_is_below, g_is_below, ev_nnum h]
theorem ev_below {i m : Int} : sem_is_below [.sh (.int i), .sh (.int m)] = .ok (.sh (.bl (decide (0 ≤ i) && decide (i < m)))) [.sh (.int i), .sh (.int m)] := by
  by_cases h : 0 ≤ i <;> simp [gFr_e, gVd_e, gSh_e, gVsR_e, gN_e, gTk_e, gC_e, gOp_e, gNil_e, gCons_e, gTup_e, gLst_e, gP0_e, gP1_e, gSl_e, gB_e, gNot_e, gAnd_e, gOr_e, gNotV_e, gAndV_e, gOrV_e, gIf_e, gTru_e, gCall_e, hN_e, hNil_e, hCons_e, hT_e, gIt_e, gR1_e, gR2_e, gYes_e, gLc_e, gLc2_e, gSeq_e, gNx_e, gBk_e, gCt_e, gNo_e, gSet_e, gRet_e, gRetN_e, gIfS_e, gDrop_e, gAsg_e, gFor_e, fnS_e, gF_e, gFM_e, gFK_e, gApp_e, gExt_e, gISet_e, gAppP_e, gExtP_e, gIsi_e, gZip_e, gListRev_e, gSortK_e, gNeg_e, gPar_e, gRaise_e, gHeard_e, op2, vD, vDs, frD, frDs, stO, putO, bks, plainS, mutS, permL, appS, extS, isetS, isOl, noMu, noScr, oD, lst?, Rs.sl, Rs.d, D.items, sem_is_below, g_is_below, ev_is_number, fI, h]
theorem ev_tsq (ds : List D) : sem_is_sequence [.sh (.tup ds)] = .ok (.sh (.bl true)) [.sh (.tup ds)] := ev_sq (.inl rfl)
/-- what the law puts among hunks -/
def bads (n : Nat) : List D := [.non, .tup [.int 0, .int 0, .tup []], .tup [.int 0, .int ((n : Int) + 1), .tup []], .tup [.int 1, .int 0, .tup [.int 3]], .tup [.int (-1), .int 0, .tup [.int 3]], .tup [.int 0, .int 0], .tup [.int 0, .non, .tup [.int 3]], .tup [.int 0, .int 0, .non],
  .tup [.bl true, .int 1, .tup [.int 3]], .tup [.int 0, .int 0, .tup [.int 1], .int 0], .str "hunk"]
theorem ev_bad {b d : D} {xs : List Int} (hb : isB b xs) (hd : d ∈ bads xs.length) : bh b d false := by
  have n1 := ev_nsq (d := .non) (.inl rfl)
  have n2 := ev_nsq (d := .str (Str.ofString "hunk")) (.inr (.inr ⟨_, rfl⟩))
  have n3 := fun m => ev_nbelow (d := .non) (m := m) (.inl rfl)
  have n4 := fun m => ev_nbelow (d := .bl true) (m := m) (.inr ⟨_, rfl⟩)
  have z0 : (0 : Int) < (xs.length : Int) + 1 := by omega
  have z1 : ¬ ((xs.length : Int) + 1 < (xs.length : Int) + 1) := by omega
  simp only [bads, List.mem_cons, List.not_mem_nil, or_false] at hd
  rcases hd with rfl | rfl | rfl | rfl | rfl | rfl | rfl | rfl | rfl | rfl | rfl <;> rcases hb with rfl | rfl <;>
    first
      | (simp [gFr_e, gVd_e, gSh_e, gVsR_e, gN_e, gTk_e, gC_e, gOp_e, gNil_e, gCons_e, gTup_e, gLst_e, gP0_e, gP1_e, gSl_e, gB_e, gNot_e, gAnd_e, gOr_e, gNotV_e, gAndV_e, gOrV_e, gIf_e, gTru_e, gCall_e, hN_e, hNil_e, hCons_e, hT_e, gIt_e, gR1_e, gR2_e, gYes_e, gLc_e, gLc2_e, gSeq_e, gNx_e, gBk_e, gCt_e, gNo_e, gSet_e, gRet_e, gRetN_e, gIfS_e, gDrop_e, gAsg_e, gFor_e, fnS_e, gF_e, gFM_e, gFK_e, gApp_e, gExt_e, gISet_e, gAppP_e, gExtP_e, gIsi_e, gZip_e, gListRev_e, gSortK_e, gNeg_e, gPar_e, gRaise_e, gHeard_e, op2, vD, vDs, frD, frDs, stO, putO, bks, plainS, mutS, permL, appS, extS, isetS, isOl, noMu, noScr, oD, lst?, Rs.sl, Rs.d, D.items, bh, sem_is_base_hunk, g_is_base_hunk, fLen, fNe, fIx, fAdd, fI, ev_below, ev_tsq, n1, n2, n3, n4, a30, a31, a32, z0, z1]; done)
      | (by_cases w : (1 : Int) < (xs.length : Int) + 1 <;> (simp [gFr_e, gVd_e, gSh_e, gVsR_e, gN_e, gTk_e, gC_e, gOp_e, gNil_e, gCons_e, gTup_e, gLst_e, gP0_e, gP1_e, gSl_e, gB_e, gNot_e, gAnd_e, gOr_e, gNotV_e, gAndV_e, gOrV_e, gIf_e, gTru_e, gCall_e, hN_e, hNil_e, hCons_e, hT_e, gIt_e, gR1_e, gR2_e, gYes_e, gLc_e, gLc2_e, gSeq_e, gNx_e, gBk_e, gCt_e, gNo_e, gSet_e, gRet_e, gRetN_e, gIfS_e, gDrop_e, gAsg_e, gFor_e, fnS_e, gF_e, gFM_e, gFK_e, gApp_e, gExt_e, gISet_e, gAppP_e, gExtP_e, gIsi_e, gZip_e, gListRev_e, gSortK_e, gNeg_e, gPar_e, gRaise_e, gHeard_e, op2, vD, vDs, frD, frDs, stO, putO, bks, plainS, mutS, permL, appS, extS, isetS, isOl, noMu, noScr, oD, lst?, Rs.sl, Rs.d, D.items, bh, sem_is_base_hunk, g_is_base_hunk, fLen, fNe, fIx, fAdd, fI, ev_below, ev_tsq, n1, n2, n3, n4, a30, a31, a32, z0, z1, w]; done))
abbrev refE (v : D) : Ex := ⟨"Refused", [("at", v)]⟩
theorem ev_check_non {b v : D} (h : v = .non ∨ (∃ i, v = .int i) ∨ ∃ s, v = .str s) : sem_check_hunks [.sh b, .sh v] = .ex (refE v) [.sh b, .sh v] := by
  simp [gFr_e, gVd_e, gSh_e, gVsR_e, gN_e, gTk_e, gC_e, gOp_e, gNil_e, gCons_e, gTup_e, gLst_e, gP0_e, gP1_e, gSl_e, gB_e, gNot_e, gAnd_e, gOr_e, gNotV_e, gAndV_e, gOrV_e, gIf_e, gTru_e, gCall_e, hN_e, hNil_e, hCons_e, hT_e, gIt_e, gR1_e, gR2_e, gYes_e, gLc_e, gLc2_e, gSeq_e, gNx_e, gBk_e, gCt_e, gNo_e, gSet_e, gRet_e, gRetN_e, gIfS_e, gDrop_e, gAsg_e, gFor_e, fnS_e, gF_e, gFM_e, gFK_e, gApp_e, gExt_e, gISet_e, gAppP_e, gExtP_e, gIsi_e, gZip_e, gListRev_e, gSortK_e, gNeg_e, gPar_e, gRaise_e, gHeard_e, op2, vD, vDs, frD, frDs, stO, putO, bks, plainS, mutS, permL, appS, extS, isetS, isOl, noMu, noScr, oD, lst?, Rs.sl, Rs.d, D.items, sem_check_hunks, g_check_hunks, ev_nsq h]
theorem ev_check_bad {b v : D} {ps : List (D × Bool)} (hs : sq v (ps.map (·.1))) (h : ∀ p ∈ ps, bh b p.1 p.2) (hz : ps.length ≤ 1000) (hf : (ps.map (·.2)).all id = false) : sem_check_hunks [.sh b, .sh v] = .ex (refE v) [.sh b, .sh v] := by
  have c1 := ck_all (b := b) (v := v) h
  have b1 := bls_map (fun p : D × Bool => p.2) ps
  have z1 : ps.length ≤ 1000000 := by omega
  have s1 := ev_sq hs
  rcases hs with rfl | rfl <;> simp [gFr_e, gVd_e, gSh_e, gVsR_e, gN_e, gTk_e, gC_e, gOp_e, gNil_e, gCons_e, gTup_e, gLst_e, gP0_e, gP1_e, gSl_e, gB_e, gNot_e, gAnd_e, gOr_e, gNotV_e, gAndV_e, gOrV_e, gIf_e, gTru_e, gCall_e, hN_e, hNil_e, hCons_e, hT_e, gIt_e, gR1_e, gR2_e, gYes_e, gLc_e, gLc2_e, gSeq_e, gNx_e, gBk_e, gCt_e, gNo_e, gSet_e, gRet_e, gRetN_e, gIfS_e, gDrop_e, gAsg_e, gFor_e, fnS_e, gF_e, gFM_e, gFK_e, gApp_e, gExt_e, gISet_e, gAppP_e, gExtP_e, gIsi_e, gZip_e, gListRev_e, gSortK_e, gNeg_e, gPar_e, gRaise_e, gHeard_e, op2, vD, vDs, frD, frDs, stO, putO, bks, plainS, mutS, permL, appS, extS, isetS, isOl, noMu, noScr, oD, lst?, Rs.sl, Rs.d, D.items, sem_check_hunks, g_check_hunks, s1, wipeS, unw, c1, b1, z1, fAll, hf]
theorem ev_check_near {b : D} {xs : List Int} {m : Int} (hb : isB b xs) (h0 : 0 ≤ m) (h1 : m ≤ xs.length) : sem_check_hunks [.sh b, .sh (.lst [.tup [.int 0, .int 0, .tup [.int 1]], .tup [.int 0, .int m, .tup [.int 2]]])] = .ex (refE (.lst [.tup [.int 0, .int 0, .tup [.int 1]], .tup [.int 0, .int m, .tup [.int 2]]])) [.sh b, .sh (.lst [.tup [.int 0, .int 0, .tup [.int 1]], .tup [.int 0, .int m, .tup [.int 2]]])] := by
  have k1 : isHk (.tup [.int 0, .int 0, .tup [.int 1]]) (0, 0, [1]) := isHk_eH (0, 0, [1])
  have k2 : isHk (.tup [.int 0, .int m, .tup [.int 2]]) (0, m, [2]) := isHk_eH (0, m, [2])
  have q1 := ev_hk hb k1 (by simp) (by simp) (by simp) (by simp)
  have q2 := ev_hk hb k2 (by simp) h0 h1 (by simp)
  have c1 := ck_all (b := b) (v := .lst [.tup [.int 0, .int 0, .tup [.int 1]], .tup [.int 0, .int m, .tup [.int 2]]]) (ps := [(.tup [.int 0, .int 0, .tup [.int 1]], true), (.tup [.int 0, .int m, .tup [.int 2]], true)]) (by
    intro p hp
    rcases List.mem_cons.mp hp with rfl | hp
    · exact q1
    · rw [List.mem_singleton.mp hp]; exact q2)
  have c2 := ck_near (b := b) (v := .lst [.tup [.int 0, .int 0, .tup [.int 1]], .tup [.int 0, .int m, .tup [.int 2]]]) (ps := [((.tup [.int 0, .int 0, .tup [.int 1]], (0, 0, [1])), (.tup [.int 0, .int m, .tup [.int 2]], (0, m, [2])))]) (by
    intro p hp
    rw [List.mem_singleton.mp hp]
    exact ⟨k1, k2⟩)
  have s1 := ev_sq (d := .lst [.tup [.int 0, .int 0, .tup [.int 1]], .tup [.int 0, .int m, .tup [.int 2]]]) (.inr rfl)
  have c4 : cutA [D.tup [.int 0, .int 0, .tup [.int 1]], .tup [.int 0, .int m, .tup [.int 2]]] (some 1) none = [.tup [.int 0, .int m, .tup [.int 2]]] := by
    rw [cutA_from (by decide)]
    rfl
  simp only [List.map_cons, List.map_nil] at c1 c2
  simp [gFr_e, gVd_e, gSh_e, gVsR_e, gN_e, gTk_e, gC_e, gOp_e, gNil_e, gCons_e, gTup_e, gLst_e, gP0_e, gP1_e, gSl_e, gB_e, gNot_e, gAnd_e, gOr_e, gNotV_e, gAndV_e, gOrV_e, gIf_e, gTru_e, gCall_e, hN_e, hNil_e, hCons_e, hT_e, gIt_e, gR1_e, gR2_e, gYes_e, gLc_e, gLc2_e, gSeq_e, gNx_e, gBk_e, gCt_e, gNo_e, gSet_e, gRet_e, gRetN_e, gIfS_e, gDrop_e, gAsg_e, gFor_e, fnS_e, gF_e, gFM_e, gFK_e, gApp_e, gExt_e, gISet_e, gAppP_e, gExtP_e, gIsi_e, gZip_e, gListRev_e, gSortK_e, gNeg_e, gPar_e, gRaise_e, gHeard_e, op2, vD, vDs, frD, frDs, stO, putO, bks, plainS, mutS, permL, appS, extS, isetS, isOl, noMu, noScr, oD, lst?, Rs.sl, Rs.d, D.items, sem_check_hunks, g_check_hunks, s1, wipeS, unw, c1, c2, c4, fAll, D.bls, fSl, fZip, zipD]
end K62
end
section
set_option Elab.async false
set_option linter.all false
set_option maxRecDepth 100000
set_option maxHeartbeats 4000000
/-! K62m3: hunks applied, moved; sides that are clean. -/
namespace K62
open PySem DL
theorem cut_all (xs : List Int) : cut xs 0 xs.length = xs := by
  unfold cut
  simp
def apt (x y : Hk) : Bool := decide (x.2.1 < y.1) || decide (y.2.1 < x.1)
theorem ev_law_meet (x y : Hk) : sem__law_meet [.sh (eH x), .sh (eH y)] = .ok (.sh (.bl (!apt x y))) [.sh (eH x), .sh (eH y)] := by
  by_cases q : x.1 ≤ y.2.1 <;> by_cases r : y.1 ≤ x.2.1 <;> simp [gFr_e, gVd_e, gSh_e, gVsR_e, gN_e, gTk_e, gC_e, gOp_e, gNil_e, gCons_e, gTup_e, gLst_e, gP0_e, gP1_e, gSl_e, gB_e, gNot_e, gAnd_e, gOr_e, gNotV_e, gAndV_e, gOrV_e, gIf_e, gTru_e, gCall_e, hN_e, hNil_e, hCons_e, hT_e, gIt_e, gR1_e, gR2_e, gYes_e, gLc_e, gLc2_e, gSeq_e, gNx_e, gBk_e, gCt_e, gNo_e, gSet_e, gRet_e, gRetN_e, gIfS_e, gDrop_e, gAsg_e, gFor_e, fnS_e, gF_e, gFM_e, gFK_e, gApp_e, gExt_e, gISet_e, gAppP_e, gExtP_e, gIsi_e, gZip_e, gListRev_e, gSortK_e, gNeg_e, gPar_e, gRaise_e, gHeard_e, op2, vD, vDs, frD, frDs, stO, putO, bks, plainS, mutS, permL, appS, extS, isetS, isOl, noMu, noScr, oD, lst?, Rs.sl, Rs.d, D.items, sem__law_meet, g__law_meet, eH, fIx, at0, at1, fI, q, r, apt] <;> omega
theorem ints_of : ∀ (ns : List Int), D.ints (ns.map .int) = some ns
  | [] => rfl
  | n :: ns => by simp [D.ints, ints_of ns]
end K62
end
section
set_option Elab.async false
set_option linter.all false
set_option maxRecDepth 100000
set_option maxHeartbeats 4000000
/-! K62m4: data compared, shown and sorted. -/
namespace K62
open PySem DL
theorem pys_map {α : Type} (f : α → D) : ∀ xs : List α, D.pys (xs.map f) = xs.map fun x => (f x).py
  | [] => by simp [D.pys]
  | x :: xs => by simp [D.pys, pys_map f xs]
/-- whole numbers in lists and tuples -/
inductive Wh : Nat → D → Prop
  | int {k : Nat} {i : Int} : i.natAbs < 10 ^ 12 → Wh k (.int i)
  | bl {k : Nat} {b : Bool} : Wh k (.bl b)
  | non {k : Nat} : Wh k .non
  | tup {k : Nat} {ds : List D} : (∀ d ∈ ds, Wh k d) → Wh (k + 1) (.tup ds)
  | lst {k : Nat} {ds : List D} : (∀ d ∈ ds, Wh k d) → Wh (k + 1) (.lst ds)
theorem wh_all {k : Nat} : ∀ {ds : List D}, (∀ d ∈ ds, d.pure = true ∧ d.py.canLay0 = true ∧ d.py.depth ≤ k ∧ d.py.showable = true ∧ d.py.leavesShort 13 = true) → D.pures ds = true ∧ PyData.canLayAll0 (D.pys ds) = true ∧ PyData.depthAll (D.pys ds) ≤ k ∧ PyData.showableAll (D.pys ds) = true ∧ PyData.leavesShortAll 13 (D.pys ds) = true
  | [], _ => by simp [D.pures, D.pys, PyData.canLayAll0, PyData.depthAll, PyData.showableAll, PyData.leavesShortAll]
  | d :: ds, h => by
    obtain ⟨a1, a2, a3, a4, a5⟩ := h d List.mem_cons_self
    obtain ⟨b1, b2, b3, b4, b5⟩ := wh_all (ds := ds) fun e he => h e (List.mem_cons_of_mem _ he)
    simp [D.pures, D.pys, PyData.canLayAll0, PyData.depthAll, PyData.showableAll, PyData.leavesShortAll, a1, a2, a4, a5, b1, b2, b4, b5]
    omega
theorem Wh.is {k : Nat} {d : D} (h : Wh k d) : d.pure = true ∧ d.py.canLay0 = true ∧ d.py.depth ≤ k ∧ d.py.showable = true ∧ d.py.leavesShort 13 = true := by
  induction h with
  | int h =>
    refine ⟨by simp [D.pure], by simp [D.py, PyData.canLay0], by simp [D.py, PyData.depth], ?_, ?_⟩
    · simp only [D.py, PyData.showable, decide_eq_true_eq]
      rename_i i
      by_cases q : i.natAbs = 0
      · rw [q]; decide
      · rw [Nat.log2_lt q]
        exact Nat.lt_trans h (by decide)
    · simp only [D.py, PyData.leavesShort, decide_eq_true_eq]
      exact PyData.shown_int_le h
  | bl => simp [D.pure, D.py, PyData.canLay0, PyData.depth, PyData.showable, PyData.leavesShort]
  | non => simp [D.pure, D.py, PyData.canLay0, PyData.depth, PyData.showable, PyData.leavesShort]
  | tup _ ih =>
    obtain ⟨b1, b2, b3, b4, b5⟩ := wh_all ih
    simp [D.pure, D.py, PyData.canLay0, PyData.depth, PyData.showable, PyData.leavesShort, b1, b2, b3, b4, b5]
  | lst _ ih =>
    obtain ⟨b1, b2, b3, b4, b5⟩ := wh_all ih
    simp [D.pure, D.py, PyData.canLay0, PyData.depth, PyData.showable, PyData.leavesShort, b1, b2, b3, b4, b5]
theorem Wh.okp {k : Nat} {d : D} (h : Wh k d) (hk : k ≤ 64) : d.okp = true := by
  obtain ⟨a1, a2, a3, _⟩ := h.is
  have : d.py.depth ≤ 64 := by omega
  simp [D.okp, SeqAt.shaped, a1, a2, this]
theorem Wh.mono {k : Nat} {d : D} (h : Wh k d) : ∀ {m : Nat}, k ≤ m → Wh m d := by
  induction h with
  | int h => exact fun _ => .int h
  | bl => exact fun _ => .bl
  | non => exact fun _ => .non
  | tup _ ih =>
    intro m hm
    obtain ⟨j, rfl⟩ : ∃ j, m = j + 1 := ⟨m - 1, by omega⟩
    exact .tup fun d hd => ih d hd (by omega)
  | lst _ ih =>
    intro m hm
    obtain ⟨j, rfl⟩ : ∃ j, m = j + 1 := ⟨m - 1, by omega⟩
    exact .lst fun d hd => ih d hd (by omega)
/-- small whole numbers -/
def sml (xs : List Int) : Prop := ∀ i ∈ xs, i.natAbs < 10 ^ 12
theorem wh_R {xs : List Int} (h : sml xs) : Wh 1 (eR xs) := .tup fun d hd => by
  obtain ⟨i, hi, rfl⟩ := List.mem_map.mp hd
  exact .int (h i hi)
def smlH (x : Hk) : Prop := x.1.natAbs < 10 ^ 12 ∧ x.2.1.natAbs < 10 ^ 12 ∧ sml x.2.2
theorem wh_H {x : Hk} (h : smlH x) : Wh 2 (eH x) := .tup fun d hd => by
  rcases List.mem_cons.mp hd with rfl | hd
  · exact .int h.1
  · rcases List.mem_cons.mp hd with rfl | hd
    · exact .int h.2.1
    · rw [List.mem_singleton.mp hd]
      exact wh_R h.2.2
theorem wh_Hs {hs : List Hk} (h : ∀ x ∈ hs, smlH x) : Wh 3 (eHs hs) := .tup fun d hd => by
  obtain ⟨i, hi, rfl⟩ := List.mem_map.mp hd
  exact wh_H (h i hi)
theorem wh_L {hs : List Hk} (h : ∀ x ∈ hs, smlH x) : Wh 3 (.lst (hs.map eH)) := .lst fun d hd => by
  obtain ⟨i, hi, rfl⟩ := List.mem_map.mp hd
  exact wh_H (h i hi)
/-! ### alike -/
theorem eqvAll_map {α : Type} [DecidableEq α] {f : α → PyData} (hf : ∀ x y, PyData.eqv (f x) (f y) = decide (x = y)) : ∀ xs ys : List α, PyData.eqvAll (xs.map f) (ys.map f) = decide (xs = ys)
  | [], [] => by simp [PyData.eqvAll]
  | [], y :: ys => by simp [PyData.eqvAll]
  | x :: xs, [] => by simp [PyData.eqvAll]
  | x :: xs, y :: ys => by simp [PyData.eqvAll, hf, eqvAll_map hf xs ys]
theorem ib (x y : Int) : (x == y) = decide (x = y) := by by_cases h : x = y <;> simp [h]
theorem eqv_R (xs ys : List Int) : (eR xs).eqv (eR ys) = decide (xs = ys) := by
  unfold D.eqv eR
  simp only [D.py, PyData.eqv, pys_map]
  exact eqvAll_map (fun x y => by simp [PyData.eqv, ib]) xs ys
theorem eqv_H (x y : Hk) : (eH x).eqv (eH y) = decide (x = y) := by
  obtain ⟨a, b, c⟩ := x
  obtain ⟨a', b', c'⟩ := y
  unfold D.eqv eH
  simp only [D.py, D.pys, PyData.eqv, PyData.eqvAll, pys_map]
  rw [eqvAll_map (fun x y => by simp [PyData.eqv, ib]) c c']
  simp [Prod.ext_iff, ib]
theorem eqv_Hs (xs ys : List Hk) : (eHs xs).eqv (eHs ys) = decide (xs = ys) := by
  unfold D.eqv eHs
  simp only [D.py, PyData.eqv, pys_map]
  exact eqvAll_map (fun x y => eqv_H x y) xs ys
theorem eqv_L (xs ys : List Hk) : (D.lst (xs.map eH)).eqv (.lst (ys.map eH)) = decide (xs = ys) := by
  unfold D.eqv
  simp only [D.py, PyData.eqv, pys_map]
  exact eqvAll_map (fun x y => eqv_H x y) xs ys
theorem fEq_H {x y : Hk} (hx : smlH x) (hy : smlH y) : fEq (eH x) (eH y) = some (.sh (.bl (decide (x = y)))) := by
  rw [← eqv_H]
  show (if (eH x).okp && (eH y).okp then _ else _) = _
  rw [(wh_H hx).okp (by decide), (wh_H hy).okp (by decide)]
  rfl
theorem fNe_H {x y : Hk} (hx : smlH x) (hy : smlH y) : fNe (eH x) (eH y) = some (.sh (.bl (!decide (x = y)))) := by
  rw [← eqv_H]
  show (if (eH x).okp && (eH y).okp then _ else _) = _
  rw [(wh_H hx).okp (by decide), (wh_H hy).okp (by decide)]
  rfl
theorem fEq_L {x y : List Hk} (hx : ∀ z ∈ x, smlH z) (hy : ∀ z ∈ y, smlH z) : fEq (.lst (x.map eH)) (.lst (y.map eH)) = some (.sh (.bl (decide (x = y)))) := by
  rw [← eqv_L]
  show (if (D.lst (x.map eH)).okp && (D.lst (y.map eH)).okp then _ else _) = _
  rw [(wh_L hx).okp (by decide), (wh_L hy).okp (by decide)]
  rfl
theorem fNe_L {x y : List Hk} (hx : ∀ z ∈ x, smlH z) (hy : ∀ z ∈ y, smlH z) : fNe (.lst (x.map eH)) (.lst (y.map eH)) = some (.sh (.bl (!decide (x = y)))) := by
  rw [← eqv_L]
  show (if (D.lst (x.map eH)).okp && (D.lst (y.map eH)).okp then _ else _) = _
  rw [(wh_L hx).okp (by decide), (wh_L hy).okp (by decide)]
  rfl
theorem fNe_Hs {x y : List Hk} (hx : ∀ z ∈ x, smlH z) (hy : ∀ z ∈ y, smlH z) : fNe (eHs x) (eHs y) = some (.sh (.bl (!decide (x = y)))) := by
  rw [← eqv_Hs]
  show (if (eHs x).okp && (eHs y).okp then _ else _) = _
  rw [(wh_Hs hx).okp (by decide), (wh_Hs hy).okp (by decide)]
  rfl
theorem fNe_R {x y : List Int} (hx : sml x) (hy : sml y) : fNe (eR x) (eR y) = some (.sh (.bl (!decide (x = y)))) := by
  rw [← eqv_R]
  show (if (eR x).okp && (eR y).okp then _ else _) = _
  rw [(wh_R hx).okp (by decide), (wh_R hy).okp (by decide)]
  rfl
theorem inD_map (x : Hk) : ∀ hs : List Hk, inD (eH x) (hs.map eH) = decide (x ∈ hs)
  | [] => rfl
  | y :: hs => by
    have ih := inD_map x hs
    unfold inD at ih ⊢
    rw [List.map_cons, List.any_cons, ih, eqv_H]
    by_cases q : y = x
    · subst q; simp
    · simp [q, Ne.symm q, show ¬x = y from fun e => q e.symm]
theorem fIn_H {x : Hk} {hs : List Hk} (hx : smlH x) (hy : ∀ z ∈ hs, smlH z) : fIn true (eH x) (eHs hs) = some (.sh (.bl (!decide (x ∈ hs)))) := by
  have e : (eHs hs).items = some (hs.map eH) := rfl
  unfold fIn
  rw [e]
  show (if (eH x).okp && (eHs hs).okp then _ else _) = _
  rw [(wh_H hx).okp (by decide), (wh_Hs hy).okp (by decide), inD_map]
  rfl
/-! ### shown -/
theorem wInt {i : Int} (h : i.natAbs < 10 ^ 12) : (PyData.int i).weight ≤ 64 := by
  simp only [PyData.weight]
  split
  · omega
  · by_cases q : i.natAbs = 0
    · rw [q]; decide
    · have : i.natAbs.log2 < 63 := by
        rw [Nat.log2_lt q]
        exact Nat.lt_trans h (by decide)
      omega
theorem wInts : ∀ {xs : List Int}, sml xs → PyData.weightAll (xs.map .int) ≤ 65 * xs.length
  | [], _ => by simp [PyData.weightAll]
  | x :: xs, h => by
    have h1 := wInt (h x List.mem_cons_self)
    have h2 := wInts (xs := xs) fun i hi => h i (List.mem_cons_of_mem _ hi)
    simp only [List.map_cons, PyData.weightAll, List.length_cons]
    omega
/-- what law prints of two -/
def two (a b : D) : D := .lst [a, b]
theorem fRepr_two {k : Nat} {a b : D} (ha : Wh k a) (hb : Wh k b) (hk : k ≤ 60) (wa : a.py.weight ≤ 20000) (wb : b.py.weight ≤ 20000) : fRepr [.lst [a, b]] = some (.sh (.str (D.lst [a, b]).py.shown)) := by
  have w : Wh (k + 1) (.lst [a, b]) := .lst fun d hd => by
    rcases List.mem_cons.mp hd with rfl | hd
    · exact ha
    · rw [List.mem_singleton.mp hd]
      exact hb
  obtain ⟨a1, a2, a3, a4, a5⟩ := w.is
  have e1 := w.okp (by omega)
  have e2 : (D.lst [a, b]).py.weight ≤ 50000 := by
    simp only [D.py, D.pys, PyData.weight, PyData.weightAll]
    omega
  have e3 := PyData.shown_le 13 (by decide) _ a5
  have e4 : (D.lst [a, b]).py.shown.length ≤ 1000000 := by omega
  show (if (D.lst [a, b]).dsp && (D.lst [a, b]).okp && (D.lst [a, b]).py.showable && decide ((D.lst [a, b]).py.shown.length ≤ 1000000) then some (Rs.sh (D.str (D.lst [a, b]).py.shown)) else none) = _
  rw [e1, a4, decide_eq_true e4]
  rfl
theorem wR {xs : List Int} (h : sml xs) (hl : xs.length ≤ 300) : (eR xs).py.weight ≤ 20000 := by
  have := wInts h
  unfold eR
  simp only [D.py, PyData.weight, pys_map]
  have e : (xs.map fun x => PyData.int x) = xs.map .int := rfl
  rw [e]
  omega
/-! ### sorted -/
theorem lex1 {a b : Int} {r t : List (Int ⊕ List Nat)} (h : (!PyProof.Rows.lexLt PyProof.Rows.itemOrd (.inl 1 :: .inl b :: r) (.inl 1 :: .inl a :: t)) = true) : a ≤ b := by
  rw [PyProof.Rows.lex_cons, PyProof.Rows.lex_cons] at h
  have e1 : PyProof.Rows.itemOrd.blt (.inl 1) (.inl 1) = false := by decide
  have e2 : PyProof.Rows.itemOrd.blt (.inl b) (.inl a) = decide (b < a) := rfl
  rw [e1, e2] at h
  simp at h
  exact h.1
theorem le_H {x y : Hk} (h : D.le (eH x) (eH y) = true) : x.1 ≤ y.1 := by
  unfold D.le PySem.W.dataLe at h
  simp only [PySem.W.sortLe, eH, D.py, D.pys, PySem.W.keyToks, PySem.W.keyToksAll, List.cons_append, List.nil_append, cond_false] at h
  exact lex1 h
theorem kle_H {x y : Hk} (h : D.kle (eH x) (eH y) = true) : x.1 ≤ y.1 := by
  unfold D.kle PySem.W.dataLe at h
  simp only [PySem.W.sortLe, eH, keyPy, PySem.W.keyToks, PySem.W.keyToksAll, List.cons_append, List.nil_append, cond_false] at h
  exact lex1 h
def srt (hs : List Hk) : List Hk := hs.mergeSort fun x y => D.le (eH x) (eH y)
def srk (hs : List Hk) : List Hk := hs.mergeSort fun x y => D.kle (eH x) (eH y)
theorem srt_map (hs : List Hk) : (hs.map eH).mergeSort D.le = (srt hs).map eH := (List.map_mergeSort (r := fun x y => D.le (eH x) (eH y)) (s := D.le) (f := eH) fun _ _ _ _ => rfl).symm
theorem srk_map (hs : List Hk) : (hs.map eH).mergeSort D.kle = (srk hs).map eH := (List.map_mergeSort (r := fun x y => D.kle (eH x) (eH y)) (s := D.kle) (f := eH) fun _ _ _ _ => rfl).symm
theorem srt_perm (hs : List Hk) : (srt hs).Perm hs := List.mergeSort_perm _ _
theorem srk_perm (hs : List Hk) : (srk hs).Perm hs := List.mergeSort_perm _ _
theorem srt_up (hs : List Hk) : (srt hs).Pairwise fun x y => x.1 ≤ y.1 := by
  have T : PySem.W.TotalLe D.le := PySem.W.sortLe_total (PyProof.Rows.listOrd PyProof.Rows.itemOrd) false fun b : D => PySem.W.keyToks b.py
  refine List.Pairwise.imp (fun h => le_H h) (List.pairwise_mergeSort (le := fun x y => D.le (eH x) (eH y)) (fun a b c => T.trans _ _ _) (fun a b => ?_) hs)
  rcases T.total (eH a) (eH b) with h | h <;> simp [h]
theorem srk_up (hs : List Hk) : (srk hs).Pairwise fun x y => x.1 ≤ y.1 := by
  have T : PySem.W.TotalLe D.kle := PySem.W.sortLe_total (PyProof.Rows.listOrd PyProof.Rows.itemOrd) false fun b : D => PySem.W.keyToks (keyPy b)
  refine List.Pairwise.imp (fun h => kle_H h) (List.pairwise_mergeSort (le := fun x y => D.kle (eH x) (eH y)) (fun a b c => T.trans _ _ _) (fun a b => ?_) hs)
  rcases T.total (eH a) (eH b) with h | h <;> simp [h]
theorem alike_H (x y : Hk) : PySem.W.alike (eH x).py (eH y).py = true := by
  have a : ∀ xs ys : List Int, PySem.W.alikeAll (xs.map .int) (ys.map .int) = true := by
    intro xs
    induction xs with
    | nil => intro ys; simp [PySem.W.alikeAll]
    | cons x xs ih =>
      intro ys
      cases ys with
      | nil => simp [PySem.W.alikeAll]
      | cons y ys => simp [PySem.W.alikeAll, PySem.W.alike, ih]
  simp [eH, D.py, D.pys, PySem.W.alike, PySem.W.alikeAll, pys_map]
  exact a _ _
theorem fSorted_H {hs : List Hk} (h : ∀ x ∈ hs, smlH x) (hl : hs.length ≤ 1000) {d : D} (hd : d = .lst (hs.map eH) ∨ d = .tup (hs.map eH)) : fSorted [d] = some (.ow (.lst ((srt hs).map eH))) := by
  have e : okSort (hs.map eH) = true := by
    unfold okSort
    have e1 : (hs.map eH).all D.okp = true := by
      rw [List.all_eq_true]
      intro d hd
      obtain ⟨x, hx, rfl⟩ := List.mem_map.mp hd
      exact (wh_H (h x hx)).okp (by decide)
    have e2 : (hs.map eH).all (fun a => (hs.map eH).all fun b => PySem.W.alike a.py b.py) = true := by
      rw [List.all_eq_true]
      intro d hd
      rw [List.all_eq_true]
      intro e he
      obtain ⟨x, hx, rfl⟩ := List.mem_map.mp hd
      obtain ⟨y, hy, rfl⟩ := List.mem_map.mp he
      exact alike_H x y
    have e3 : (hs.map eH).all D.tupN = true := by
      rw [List.all_eq_true]
      intro d hd
      obtain ⟨x, hx, rfl⟩ := List.mem_map.mp hd
      rfl
    have e4 : (hs.map eH).length ≤ 1000000 := by rw [List.length_map]; omega
    rw [e1, e2, e3, decide_eq_true e4]
    rfl
  rcases hd with rfl | rfl
  · show (if okSort (hs.map eH) then _ else _) = _
    rw [e, if_pos rfl, srt_map]
  · show (if okSort (hs.map eH) then _ else _) = _
    rw [e, if_pos rfl, srt_map]
theorem fSortK_H {hs : List Hk} (hl : hs.length ≤ 1000) : fSortK (.lst (hs.map eH)) = some (.ow (.lst ((srk hs).map eH))) := by
  have e3 : (hs.map eH).all D.keyed = true := by
    rw [List.all_eq_true]
    intro d hd
    obtain ⟨x, hx, rfl⟩ := List.mem_map.mp hd
    rfl
  have e4 : (hs.map eH).length ≤ 1000000 := by rw [List.length_map]; omega
  show (if (hs.map eH).all D.keyed && decide ((hs.map eH).length ≤ 1000000) then _ else _) = _
  rw [e3, decide_eq_true e4]
  show some (Rs.ow (.lst ((hs.map eH).mergeSort D.kle))) = _
  rw [srk_map]
end K62
end
section
set_option Elab.async false
set_option linter.all false
set_option maxRecDepth 100000
set_option maxHeartbeats 4000000
/-! K62m6: stretches. -/
namespace K62
open PySem DL
abbrev St2 := Int × Int
def eS (s : St2) : D := .tup [.int s.1, .int s.2]
/-- the stretches from a first one on -/
def stq : St2 → List Hk → List St2
  | c, [] => [c]
  | c, x :: r => if x.1 ≤ c.2 then stq (c.1, if x.2.1 > c.2 then x.2.1 else c.2) r else c :: stq (x.1, x.2.1) r
def stretches : List Hk → List St2
  | [] => []
  | x :: r => stq (x.1, x.2.1) r
theorem atI_last {α : Type} (f : List α) (l : α) : L2.atI (f ++ [l]) (-1) = some l := by
  unfold L2.atI
  have e : L2.ixN (f ++ [l]).length (-1) = some f.length := by
    unfold L2.ixN
    rw [List.length_append]
    simp
    omega
  rw [e]
  simp
theorem ixN_last (n : Nat) : L2.ixN (n + 1) (-1) = some n := by
  unfold L2.ixN
  simp
  omega
theorem set_last {α : Type} (f : List α) (l d : α) : (f ++ [l]).set f.length d = f ++ [d] := by
  rw [List.set_append_right _ _ (Nat.le_refl _)]
  simp
abbrev stB : GS := (gIfS (gAnd (gB (gOp (fI fun i j => decide (j < i)) (gVd (gCall fLen (DL.gCons (gVsR 2) DL.gNil))) (gVd (gC (.int 0))))) (gB (gOp (fI fun i j => decide (i ≤ j)) (gVsR 3) (gVd (gOp fIx (gVd (gOp fIx (gVsR 2) (gVd (gNeg (gVd (gC (.int 1))))))) (gVd (gC (.int 1))))))))
    (gISet 2 (gFr (DL.gTup (DL.gCons (gVd (gOp fIx (gVd (gOp fIx (gVsR 2) (gVd (gNeg (gVd (gC (.int 1))))))) (gVd (gC (.int 0))))) (DL.gCons (gVd (gCall fMax (DL.gCons (gVd (gOp fIx (gVd (gOp fIx (gVsR 2) (gVd (gNeg (gVd (gC (.int 1))))))) (gVd (gC (.int 1))))) (DL.gCons (gVsR 4) DL.gNil)))) DL.gNil)))) (gVd (gNeg (gVd (gC (.int 1))))))
    (gApp' 2 (gFr (DL.gTup (DL.gCons (gVsR 3) (DL.gCons (gVsR 4) DL.gNil))))))
/-- what is to come of what is found and of what is left -/
def stz (found : List St2) (rest : List Hk) (all : List St2) : Prop := (found = [] ∧ stretches rest = all) ∨ ∃ f l, found = f ++ [l] ∧ f ++ stq l rest = all
def stR (a b : List Hk) (all : List St2) (rest : List Hk) (ρ : List Sl) : Prop := ∃ (found : List St2) (s3 s4 s5 : Sl), ρ = [.sh (eHs a), .sh (eHs b), .ow (.lst (found.map eS)), s3, s4, s5] ∧
  ((s3 = .no ∧ s4 = .no ∧ s5 = .no) ∨ ∃ a b c, s3 = .sh a ∧ s4 = .sh b ∧ s5 = .sh c) ∧ found.length + rest.length ≤ 1000 ∧ stz found rest all
theorem aS0 (x : St2) : L2.atI [D.int x.1, D.int x.2] 0 = some (.int x.1) := rfl
theorem aS1 (x : St2) : L2.atI [D.int x.1, D.int x.2] 1 = some (.int x.2) := rfl
theorem st_step {a b : List Hk} {all : List St2} (x : Hk) (rest : List Hk) (ρ : List Sl) (r : stR a b all (x :: rest) ρ) :
    ∃ ρa ρb, hT 3 (DL.hCons (hN 3) (DL.hCons (hN 4) (DL.hCons (hN 5) hNil))) (eH x) ρ = some ρa ∧ (stB ρa = .nx ρb ∨ stB ρa = .ct ρb) ∧ stR a b all rest ρb := by
  obtain ⟨found, s3, s4, s5, rfl, hs, q1, q2⟩ := r
  have q0 : found.length < 1000000 := by
    simp only [List.length_cons] at q1
    omega
  have tgt : hT 3 (DL.hCons (hN 3) (DL.hCons (hN 4) (DL.hCons (hN 5) hNil))) (eH x) [.sh (eHs a), .sh (eHs b), .ow (.lst (found.map eS)), s3, s4, s5] = some [.sh (eHs a), .sh (eHs b), .ow (.lst (found.map eS)), .sh (.int x.1), .sh (.int x.2.1), .sh (.tup (x.2.2.map .int))] := by
    rcases hs with ⟨rfl, rfl, rfl⟩ | ⟨_, _, _, rfl, rfl, rfl⟩ <;> rfl
  rcases q2 with ⟨rfl, q2⟩ | ⟨f, l, rfl, q2⟩
  · refine ⟨_, [.sh (eHs a), .sh (eHs b), .ow (.lst (([] ++ [(x.1, x.2.1)]).map eS)), .sh (.int x.1), .sh (.int x.2.1), .sh (.tup (x.2.2.map .int))], tgt, .inl ?_, _, _, _, _, rfl, .inr ⟨_, _, _, rfl, rfl, rfl⟩, ?_, .inr ⟨[], _, rfl, ?_⟩⟩
    · simp [gFr_e, gVd_e, gSh_e, gVsR_e, gN_e, gTk_e, gC_e, gOp_e, gNil_e, gCons_e, gTup_e, gLst_e, gP0_e, gP1_e, gSl_e, gB_e, gNot_e, gAnd_e, gOr_e, gNotV_e, gAndV_e, gOrV_e, gIf_e, gTru_e, gCall_e, hN_e, hNil_e, hCons_e, hT_e, gIt_e, gR1_e, gR2_e, gYes_e, gLc_e, gLc2_e, gSeq_e, gNx_e, gBk_e, gCt_e, gNo_e, gSet_e, gRet_e, gRetN_e, gIfS_e, gDrop_e, gAsg_e, gFor_e, fnS_e, gF_e, gFM_e, gFK_e, gApp_e, gExt_e, gISet_e, gAppP_e, gExtP_e, gIsi_e, gZip_e, gListRev_e, gSortK_e, gNeg_e, gPar_e, gRaise_e, gHeard_e, op2, vD, vDs, frD, frDs, stO, putO, bks, plainS, mutS, permL, appS, extS, isetS, isOl, noMu, noScr, oD, lst?, Rs.sl, Rs.d, D.items, fLen, fI, eS]
    · simp only [List.length_append, List.length_cons, List.length_nil] at q1 ⊢
      omega
    · exact q2
  · have e0 : decide ((0 : Int) < (f.length : Int) + 1) = true := by
      rw [decide_eq_true_eq]
      omega
    have e1 := atI_last (f.map eS) (eS l)
    have e2 := ixN_last f.length
    have e3 : ∀ d, (f.map eS ++ [eS l]).set f.length d = f.map eS ++ [d] := fun d => by
      have := set_last (f.map eS) (eS l) d
      rw [List.length_map] at this
      exact this
    have q1' : f.length + 1 < 1000000 := by simpa using q0
    simp only [eS] at e1 e3
    by_cases z : x.1 ≤ l.2
    · refine ⟨_, [.sh (eHs a), .sh (eHs b), .ow (.lst ((f ++ [(l.1, if x.2.1 > l.2 then x.2.1 else l.2)]).map eS)), .sh (.int x.1), .sh (.int x.2.1), .sh (.tup (x.2.2.map .int))], tgt, .inl ?_, _, _, _, _, rfl, .inr ⟨_, _, _, rfl, rfl, rfl⟩, ?_, .inr ⟨f, _, rfl, ?_⟩⟩
      · simp [gFr_e, gVd_e, gSh_e, gVsR_e, gN_e, gTk_e, gC_e, gOp_e, gNil_e, gCons_e, gTup_e, gLst_e, gP0_e, gP1_e, gSl_e, gB_e, gNot_e, gAnd_e, gOr_e, gNotV_e, gAndV_e, gOrV_e, gIf_e, gTru_e, gCall_e, hN_e, hNil_e, hCons_e, hT_e, gIt_e, gR1_e, gR2_e, gYes_e, gLc_e, gLc2_e, gSeq_e, gNx_e, gBk_e, gCt_e, gNo_e, gSet_e, gRet_e, gRetN_e, gIfS_e, gDrop_e, gAsg_e, gFor_e, fnS_e, gF_e, gFM_e, gFK_e, gApp_e, gExt_e, gISet_e, gAppP_e, gExtP_e, gIsi_e, gZip_e, gListRev_e, gSortK_e, gNeg_e, gPar_e, gRaise_e, gHeard_e, op2, vD, vDs, frD, frDs, stO, putO, bks, plainS, mutS, permL, appS, extS, isetS, isOl, noMu, noScr, oD, lst?, Rs.sl, Rs.d, D.items, fLen, fI, eS, e0, e1, e2, e3, fIx, aS0, aS1, z, fMax, q1']
      · simp only [List.length_append, List.length_cons, List.length_nil] at q1 ⊢
        omega
      · rw [← q2, stq, if_pos z]
    · refine ⟨_, [.sh (eHs a), .sh (eHs b), .ow (.lst (((f ++ [l]) ++ [(x.1, x.2.1)]).map eS)), .sh (.int x.1), .sh (.int x.2.1), .sh (.tup (x.2.2.map .int))], tgt, .inl ?_, _, _, _, _, rfl, .inr ⟨_, _, _, rfl, rfl, rfl⟩, ?_, .inr ⟨f ++ [l], _, rfl, ?_⟩⟩
      · simp [gFr_e, gVd_e, gSh_e, gVsR_e, gN_e, gTk_e, gC_e, gOp_e, gNil_e, gCons_e, gTup_e, gLst_e, gP0_e, gP1_e, gSl_e, gB_e, gNot_e, gAnd_e, gOr_e, gNotV_e, gAndV_e, gOrV_e, gIf_e, gTru_e, gCall_e, hN_e, hNil_e, hCons_e, hT_e, gIt_e, gR1_e, gR2_e, gYes_e, gLc_e, gLc2_e, gSeq_e, gNx_e, gBk_e, gCt_e, gNo_e, gSet_e, gRet_e, gRetN_e, gIfS_e, gDrop_e, gAsg_e, gFor_e, fnS_e, gF_e, gFM_e, gFK_e, gApp_e, gExt_e, gISet_e, gAppP_e, gExtP_e, gIsi_e, gZip_e, gListRev_e, gSortK_e, gNeg_e, gPar_e, gRaise_e, gHeard_e, op2, vD, vDs, frD, frDs, stO, putO, bks, plainS, mutS, permL, appS, extS, isetS, isOl, noMu, noScr, oD, lst?, Rs.sl, Rs.d, D.items, fLen, fI, eS, e0, e1, e2, e3, fIx, aS0, aS1, z, fMax, q1']
      · simp only [List.length_append, List.length_cons, List.length_nil] at q1 ⊢
        omega
      · rw [← q2, stq, if_neg z]
        simp
theorem ev_stretches_of {a b : List Hk} (la : a.length ≤ 100) (lb : b.length ≤ 100) : sem_stretches_of [.sh (eHs a), .sh (eHs b)] = .ok (.sh (.lst ((stretches (srk (a ++ b))).map eS))) [.sh (eHs a), .sh (eHs b)] := by
  have l0 := (srk_perm (a ++ b)).length_eq
  rw [List.length_append] at l0
  obtain ⟨ρ', e, found, s3, s4, s5, rfl, r2, r3, r4⟩ := forL_rest (enc := eH) (st_step (a := a) (b := b) (all := stretches (srk (a ++ b)))) (xs := srk (a ++ b)) (ρ := [.sh (eHs a), .sh (eHs b), .ow (.lst []), .no, .no, .no]) ⟨[], .no, .no, .no, rfl, .inl ⟨rfl, rfl, rfl⟩, by rw [l0]; simp; omega, .inl ⟨rfl, rfl⟩⟩
  have r5 : found = stretches (srk (a ++ b)) := by
    rcases r4 with ⟨rfl, r4⟩ | ⟨f, l, rfl, r4⟩
    · exact r4
    · exact r4
  rw [← r5]
  have z1 : a.length + b.length ≤ 1000000 := by omega
  have z2 := fSortK_H (hs := a ++ b) (by rw [List.length_append]; omega)
  rw [List.map_append] at z2
  simp only [eHs] at e
  simp [gFr_e, gVd_e, gSh_e, gVsR_e, gN_e, gTk_e, gC_e, gOp_e, gNil_e, gCons_e, gTup_e, gLst_e, gP0_e, gP1_e, gSl_e, gB_e, gNot_e, gAnd_e, gOr_e, gNotV_e, gAndV_e, gOrV_e, gIf_e, gTru_e, gCall_e, hN_e, hNil_e, hCons_e, hT_e, gIt_e, gR1_e, gR2_e, gYes_e, gLc_e, gLc2_e, gSeq_e, gNx_e, gBk_e, gCt_e, gNo_e, gSet_e, gRet_e, gRetN_e, gIfS_e, gDrop_e, gAsg_e, gFor_e, fnS_e, gF_e, gFM_e, gFK_e, gApp_e, gExt_e, gISet_e, gAppP_e, gExtP_e, gIsi_e, gZip_e, gListRev_e, gSortK_e, gNeg_e, gPar_e, gRaise_e, gHeard_e, op2, vD, vDs, frD, frDs, stO, putO, bks, plainS, mutS, permL, appS, extS, isetS, isOl, noMu, noScr, oD, lst?, Rs.sl, Rs.d, D.items, sem_stretches_of, g_stretches_of, eHs, e, fList, fAdd, z1, z2]
/-! ### parts -/
def inS (s : St2) (x : Hk) : Bool := decide (s.1 ≤ x.1) && decide (x.2.1 ≤ s.2)
abbrev Part := String × List (List Int)
def eP (p : Part) : D := .tup (.str p.1 :: p.2.map eR)
def part (base : List Int) (a b : List Hk) (s : St2) : Part :=
  let here := a.filter (inS s)
  let there := b.filter (inS s)
  let rows := cut base s.1 s.2
  if there = [] then ("ours", [rows, fwd s.1 rows here])
  else if here = [] then ("theirs", [rows, fwd s.1 rows there])
  else if here = there then ("alike", [rows, fwd s.1 rows here])
  else ("clash", [rows, fwd s.1 rows here, fwd s.1 rows there])
theorem Vd.filt {p : Hk → Bool} {m : Int} : ∀ {hs : List Hk} {t n : Int}, Vd t n hs → (∀ x ∈ hs, p x = true → x.2.1 ≤ m) → Vd t m (hs.filter p)
  | [], _, _, _, _ => trivial
  | x :: hs, t, n, ⟨h1, h2, h3, h4, h5⟩, H => by
    have ih := Vd.filt h5 fun y hy => H y (List.mem_cons_of_mem _ hy)
    cases q : p x with
    | false =>
      rw [List.filter_cons_of_neg (by rw [q]; decide)]
      exact ih.mono (by omega)
    | true =>
      rw [List.filter_cons_of_pos q]
      exact ⟨h1, h2, H x List.mem_cons_self q, h4, ih⟩
theorem Vd.start {s : Int} : ∀ {hs : List Hk} {t n : Int}, Vd t n hs → (∀ x ∈ hs, s ≤ x.1) → Vd s n hs
  | [], _, _, _, _ => trivial
  | x :: hs, _, _, ⟨_, h2⟩, H => ⟨H x List.mem_cons_self, h2⟩
theorem inS_is {s : St2} {x : Hk} (h : inS s x = true) : s.1 ≤ x.1 ∧ x.2.1 ≤ s.2 := by
  unfold inS at h
  simpa using h
theorem Vd.filter {s : St2} {hs : List Hk} {t n : Int} (h : Vd t n hs) : Vd s.1 s.2 (hs.filter (inS s)) :=
  (h.filt fun x _ q => (inS_is q).2).start fun x hx => (inS_is (List.mem_filter.mp hx).2).1
theorem Sm.filter {p : Hk → Bool} {n : Nat} {hs : List Hk} (h : Sm n hs) : Sm n (hs.filter p) := ⟨Nat.le_trans (List.length_filter_le _ _) h.1, fun x hx => h.2 x (List.mem_filter.mp hx).1⟩
theorem fEq_i (i j : Int) : fEq (.int i) (.int j) = some (.sh (.bl (decide (i = j)))) := by simp [fEq, ib]
theorem part_lc {bd : D} {a b : List Hk} {s : St2} (c : List Hk) (s5 s7 : Sl) : lcL [6] (hN 6) (gAnd (gB (gOp (fI fun i j => decide (i ≤ j)) (gVsR 3) (gVd (gOp fIx (gVsR 6) (gVd (gC (.int 0))))))) (gB (gOp (fI fun i j => decide (i ≤ j)) (gVd (gOp fIx (gVsR 6) (gVd (gC (.int 1))))) (gVsR 4)))) (gFr (gN 6)) (c.map eH)
    [.sh bd, .sh (eHs a), .sh (eHs b), .sh (.int s.1), .sh (.int s.2), s5, .no, s7, .no] = .ok ((c.filter (inS s)).map eH) [.sh bd, .sh (eHs a), .sh (eHs b), .sh (.int s.1), .sh (.int s.2), s5, .no, s7, .no] := by
  refine lcL_pure (fun x hx => ?_)
  refine ⟨[.sh bd, .sh (eHs a), .sh (eHs b), .sh (.int s.1), .sh (.int s.2), s5, .sh (eH x), s7, .no], [.sh bd, .sh (eHs a), .sh (eHs b), .sh (.int s.1), .sh (.int s.2), s5, .sh (eH x), s7, .no], rfl, ?_, fun _ => rfl, fun _ => ⟨_, rfl, rfl⟩⟩
  cases q : decide (s.1 ≤ x.1) <;> cases r : decide (x.2.1 ≤ s.2) <;> simp [gFr_e, gVd_e, gSh_e, gVsR_e, gN_e, gTk_e, gC_e, gOp_e, gNil_e, gCons_e, gTup_e, gLst_e, gP0_e, gP1_e, gSl_e, gB_e, gNot_e, gAnd_e, gOr_e, gNotV_e, gAndV_e, gOrV_e, gIf_e, gTru_e, gCall_e, hN_e, hNil_e, hCons_e, hT_e, gIt_e, gR1_e, gR2_e, gYes_e, gLc_e, gLc2_e, gSeq_e, gNx_e, gBk_e, gCt_e, gNo_e, gSet_e, gRet_e, gRetN_e, gIfS_e, gDrop_e, gAsg_e, gFor_e, fnS_e, gF_e, gFM_e, gFK_e, gApp_e, gExt_e, gISet_e, gAppP_e, gExtP_e, gIsi_e, gZip_e, gListRev_e, gSortK_e, gNeg_e, gPar_e, gRaise_e, gHeard_e, op2, vD, vDs, frD, frDs, stO, putO, bks, plainS, mutS, permL, appS, extS, isetS, isOl, noMu, noScr, oD, lst?, Rs.sl, Rs.d, D.items, eH, fIx, at0, at1, fI, q, r, inS]
theorem ev_part_of {bd : D} {base : List Int} (hbd : isB bd base) {a b : List Hk} {s : St2} (h0 : 0 ≤ s.1) (h1 : s.1 ≤ s.2) (h2 : s.2 ≤ base.length) (hx : base.length ≤ 1000) (va : Vd 0 base.length a) (vb : Vd 0 base.length b) (za : Sm 1000 a) (zb : Sm 1000 b) (ha : ∀ x ∈ a, smlH x) (hb : ∀ x ∈ b, smlH x) :
    sem_part_of [.sh bd, .sh (eHs a), .sh (eHs b), .sh (.int s.1), .sh (.int s.2)] = .ok (.sh (eP (part base a b s))) [.sh bd, .sh (eHs a), .sh (eHs b), .sh (.int s.1), .sh (.int s.2)] := by
  have p1 := ev_put_hunks (b := bd) (xs := base) (hd := .lst ((a.filter (inS s)).map eH)) (hs := a.filter (inS s)) hbd (.inr rfl) h0 h1 h2 va.filter hx za.filter
  have p2 := ev_put_hunks (b := bd) (xs := base) (hd := .lst ((b.filter (inS s)).map eH)) (hs := b.filter (inS s)) hbd (.inr rfl) h0 h1 h2 vb.filter hx zb.filter
  have c1 := part_lc (bd := bd) (a := a) (b := b) (s := s) a .no .no
  have c2 := part_lc (bd := bd) (a := a) (b := b) (s := s) b (.ow (.lst ((a.filter (inS s)).map eH))) .no
  have l1 : (a.filter (inS s)).length ≤ 1000000 := by have := (za.filter (p := inS s)).1; omega
  have l2 : (b.filter (inS s)).length ≤ 1000000 := by have := (zb.filter (p := inS s)).1; omega
  have l3 : a.length ≤ 1000000 := by have := za.1; omega
  have l4 : b.length ≤ 1000000 := by have := zb.1; omega
  have c3 : cutA base (some s.1) (some s.2) = cut base s.1 s.2 := cutA_is h0 h1
  have q1 := fEq_L (x := a.filter (inS s)) (y := b.filter (inS s)) (fun z hz => ha z (List.mem_filter.mp hz).1) (fun z hz => hb z (List.mem_filter.mp hz).1)
  unfold part
  generalize a.filter (inS s) = here at *
  generalize b.filter (inS s) = there at *
  simp only [eHs] at c1 c2 p1 p2
  by_cases z1 : there = []
  · subst z1
    rcases hbd with rfl | rfl <;> simp [gFr_e, gVd_e, gSh_e, gVsR_e, gN_e, gTk_e, gC_e, gOp_e, gNil_e, gCons_e, gTup_e, gLst_e, gP0_e, gP1_e, gSl_e, gB_e, gNot_e, gAnd_e, gOr_e, gNotV_e, gAndV_e, gOrV_e, gIf_e, gTru_e, gCall_e, hN_e, hNil_e, hCons_e, hT_e, gIt_e, gR1_e, gR2_e, gYes_e, gLc_e, gLc2_e, gSeq_e, gNx_e, gBk_e, gCt_e, gNo_e, gSet_e, gRet_e, gRetN_e, gIfS_e, gDrop_e, gAsg_e, gFor_e, fnS_e, gF_e, gFM_e, gFK_e, gApp_e, gExt_e, gISet_e, gAppP_e, gExtP_e, gIsi_e, gZip_e, gListRev_e, gSortK_e, gNeg_e, gPar_e, gRaise_e, gHeard_e, op2, vD, vDs, frD, frDs, stO, putO, bks, plainS, mutS, permL, appS, extS, isetS, isOl, noMu, noScr, oD, lst?, Rs.sl, Rs.d, D.items, sem_part_of, g_part_of, eHs, eR, eP, c1, c2, c3, p1, wipeS, unw, l3, l4, fTuple, fSl, fLen, fEq, cutA_map]
  · by_cases z2 : here = []
    · subst z2
      simp only [List.map_nil] at c2
      rcases hbd with rfl | rfl <;> simp [gFr_e, gVd_e, gSh_e, gVsR_e, gN_e, gTk_e, gC_e, gOp_e, gNil_e, gCons_e, gTup_e, gLst_e, gP0_e, gP1_e, gSl_e, gB_e, gNot_e, gAnd_e, gOr_e, gNotV_e, gAndV_e, gOrV_e, gIf_e, gTru_e, gCall_e, hN_e, hNil_e, hCons_e, hT_e, gIt_e, gR1_e, gR2_e, gYes_e, gLc_e, gLc2_e, gSeq_e, gNx_e, gBk_e, gCt_e, gNo_e, gSet_e, gRet_e, gRetN_e, gIfS_e, gDrop_e, gAsg_e, gFor_e, fnS_e, gF_e, gFM_e, gFK_e, gApp_e, gExt_e, gISet_e, gAppP_e, gExtP_e, gIsi_e, gZip_e, gListRev_e, gSortK_e, gNeg_e, gPar_e, gRaise_e, gHeard_e, op2, vD, vDs, frD, frDs, stO, putO, bks, plainS, mutS, permL, appS, extS, isetS, isOl, noMu, noScr, oD, lst?, Rs.sl, Rs.d, D.items, sem_part_of, g_part_of, eHs, eR, eP, c1, c2, c3, p2, wipeS, unw, l3, l4, fTuple, fSl, fLen, fEq, cutA_map, z1]
    · by_cases z3 : here = there
      · subst z3
        rw [decide_eq_true rfl] at q1
        rcases hbd with rfl | rfl <;> simp [gFr_e, gVd_e, gSh_e, gVsR_e, gN_e, gTk_e, gC_e, gOp_e, gNil_e, gCons_e, gTup_e, gLst_e, gP0_e, gP1_e, gSl_e, gB_e, gNot_e, gAnd_e, gOr_e, gNotV_e, gAndV_e, gOrV_e, gIf_e, gTru_e, gCall_e, hN_e, hNil_e, hCons_e, hT_e, gIt_e, gR1_e, gR2_e, gYes_e, gLc_e, gLc2_e, gSeq_e, gNx_e, gBk_e, gCt_e, gNo_e, gSet_e, gRet_e, gRetN_e, gIfS_e, gDrop_e, gAsg_e, gFor_e, fnS_e, gF_e, gFM_e, gFK_e, gApp_e, gExt_e, gISet_e, gAppP_e, gExtP_e, gIsi_e, gZip_e, gListRev_e, gSortK_e, gNeg_e, gPar_e, gRaise_e, gHeard_e, op2, vD, vDs, frD, frDs, stO, putO, bks, plainS, mutS, permL, appS, extS, isetS, isOl, noMu, noScr, oD, lst?, Rs.sl, Rs.d, D.items, sem_part_of, g_part_of, eHs, eR, eP, c1, c2, c3, p1, wipeS, unw, l3, l4, fTuple, fSl, fLen, fEq_i, q1, cutA_map, z1]
      · rw [decide_eq_false z3] at q1
        rcases hbd with rfl | rfl <;> simp [gFr_e, gVd_e, gSh_e, gVsR_e, gN_e, gTk_e, gC_e, gOp_e, gNil_e, gCons_e, gTup_e, gLst_e, gP0_e, gP1_e, gSl_e, gB_e, gNot_e, gAnd_e, gOr_e, gNotV_e, gAndV_e, gOrV_e, gIf_e, gTru_e, gCall_e, hN_e, hNil_e, hCons_e, hT_e, gIt_e, gR1_e, gR2_e, gYes_e, gLc_e, gLc2_e, gSeq_e, gNx_e, gBk_e, gCt_e, gNo_e, gSet_e, gRet_e, gRetN_e, gIfS_e, gDrop_e, gAsg_e, gFor_e, fnS_e, gF_e, gFM_e, gFK_e, gApp_e, gExt_e, gISet_e, gAppP_e, gExtP_e, gIsi_e, gZip_e, gListRev_e, gSortK_e, gNeg_e, gPar_e, gRaise_e, gHeard_e, op2, vD, vDs, frD, frDs, stO, putO, bks, plainS, mutS, permL, appS, extS, isetS, isOl, noMu, noScr, oD, lst?, Rs.sl, Rs.d, D.items, sem_part_of, g_part_of, eHs, eR, eP, c1, c2, c3, p1, p2, wipeS, unw, l3, l4, fTuple, fSl, fLen, fEq_i, q1, cutA_map, z1, z2, z3]
end K62
end
section
set_option Elab.async false
set_option linter.all false
set_option maxRecDepth 100000
set_option maxHeartbeats 4000000
/-! K62m7: parts merged, rows joined. -/
namespace K62
open PySem DL
def pts (base : List Int) (a b : List Hk) : Int → List St2 → List Part
  | at_, [] => if at_ < base.length then [("same", [base.drop at_.toNat])] else []
  | at_, s :: r => (if at_ < s.1 then [("same", [cut base at_ s.1])] else []) ++ part base a b s :: pts base a b s.2 r
def So (n : Int) : Int → List St2 → Prop
  | _, [] => True
  | at_, s :: r => at_ ≤ s.1 ∧ s.1 ≤ s.2 ∧ s.2 ≤ n ∧ So n s.2 r
def ptR (bd v1 v2 : D) (base : List Int) (a b : List Hk) (all : List St2) (rest : List St2) (ρ : List Sl) : Prop := ∃ (found : List Part) (at_ : Int) (s7 s8 : Sl), ρ = [.sh bd, .sh v1, .sh v2, .sh (eHs a), .sh (eHs b), .ow (.lst (found.map eP)), .sh (.int at_), s7, s8] ∧
  ((s7 = .no ∧ s8 = .no) ∨ ∃ a b, s7 = .sh a ∧ s8 = .sh b) ∧ 0 ≤ at_ ∧ at_ ≤ base.length ∧ found.length + 2 * rest.length ≤ 2 * all.length ∧ So base.length at_ rest ∧ found ++ pts base a b at_ rest = pts base a b 0 all
abbrev ptB : GS := (gSeq (gIfS (gB (gOp (fI fun i j => decide (j < i)) (gVsR 7) (gVsR 6)))
    (gApp' 5 (gFr (DL.gTup (DL.gCons (gVd (gC (.str "same"))) (DL.gCons (gVd (gCall fTuple (DL.gCons (gVd (gSl (gVsR 0) (gP1 (gVsR 6)) (gP1 (gVsR 7)))) DL.gNil))) DL.gNil)))))
    gNx)
    (gSeq (gApp' 5 (gFr (gF 5 sem_part_of (DL.gCons (gVsR 0) (DL.gCons (gVd (gTk 3)) (DL.gCons (gVd (gTk 4)) (DL.gCons (gVsR 7) (DL.gCons (gVsR 8) DL.gNil))))))))
    (gSet 6 (gN 8))))
theorem pt_step {bd v1 v2 : D} {base : List Int} (hbd : isB bd base) {a b : List Hk} {all : List St2} (hall : all.length ≤ 1000) (hx : base.length ≤ 1000) (va : Vd 0 base.length a) (vb : Vd 0 base.length b) (za : Sm 1000 a) (zb : Sm 1000 b) (ha : ∀ x ∈ a, smlH x) (hb : ∀ x ∈ b, smlH x) (x : St2) (rest : List St2) (ρ : List Sl) (r : ptR bd v1 v2 base a b all (x :: rest) ρ) :
    ∃ ρa ρb, hT 2 (DL.hCons (hN 7) (DL.hCons (hN 8) hNil)) (eS x) ρ = some ρa ∧ (ptB ρa = .nx ρb ∨ ptB ρa = .ct ρb) ∧ ptR bd v1 v2 base a b all rest ρb := by
  obtain ⟨found, at_, s7, s8, rfl, hs, q1, q2, q3, ⟨q4, q5, q6, q7⟩, q8⟩ := r
  have p := ev_part_of (s := x) hbd (by omega) q5 q6 hx va vb za zb ha hb
  have c1 : cutA base (some at_) (some x.1) = cut base at_ x.1 := cutA_is q1 q4
  have l1 : found.length < 1000000 := by
    simp only [List.length_cons] at q3
    omega
  have l2 : found.length + 1 < 1000000 := by
    simp only [List.length_cons] at q3
    omega
  refine ⟨[.sh bd, .sh v1, .sh v2, .sh (eHs a), .sh (eHs b), .ow (.lst (found.map eP)), .sh (.int at_), .sh (.int x.1), .sh (.int x.2)],
    [.sh bd, .sh v1, .sh v2, .sh (eHs a), .sh (eHs b), .ow (.lst ((found ++ ((if at_ < x.1 then [("same", [cut base at_ x.1])] else []) ++ [part base a b x])).map eP)), .sh (.int x.2), .sh (.int x.1), .sh (.int x.2)], ?_, .inl ?_, ?_⟩
  · rcases hs with ⟨rfl, rfl⟩ | ⟨_, _, rfl, rfl⟩ <;> rfl
  · simp only [eHs] at p
    by_cases z : at_ < x.1
    · rcases hbd with rfl | rfl <;> simp [gFr_e, gVd_e, gSh_e, gVsR_e, gN_e, gTk_e, gC_e, gOp_e, gNil_e, gCons_e, gTup_e, gLst_e, gP0_e, gP1_e, gSl_e, gB_e, gNot_e, gAnd_e, gOr_e, gNotV_e, gAndV_e, gOrV_e, gIf_e, gTru_e, gCall_e, hN_e, hNil_e, hCons_e, hT_e, gIt_e, gR1_e, gR2_e, gYes_e, gLc_e, gLc2_e, gSeq_e, gNx_e, gBk_e, gCt_e, gNo_e, gSet_e, gRet_e, gRetN_e, gIfS_e, gDrop_e, gAsg_e, gFor_e, fnS_e, gF_e, gFM_e, gFK_e, gApp_e, gExt_e, gISet_e, gAppP_e, gExtP_e, gIsi_e, gZip_e, gListRev_e, gSortK_e, gNeg_e, gPar_e, gRaise_e, gHeard_e, op2, vD, vDs, frD, frDs, stO, putO, bks, plainS, mutS, permL, appS, extS, isetS, isOl, noMu, noScr, oD, lst?, Rs.sl, Rs.d, D.items, eHs, eR, fI, z, fTuple, fSl, cutA_map, c1, l1, l2, p, eP]
    · rcases hbd with rfl | rfl <;> simp [gFr_e, gVd_e, gSh_e, gVsR_e, gN_e, gTk_e, gC_e, gOp_e, gNil_e, gCons_e, gTup_e, gLst_e, gP0_e, gP1_e, gSl_e, gB_e, gNot_e, gAnd_e, gOr_e, gNotV_e, gAndV_e, gOrV_e, gIf_e, gTru_e, gCall_e, hN_e, hNil_e, hCons_e, hT_e, gIt_e, gR1_e, gR2_e, gYes_e, gLc_e, gLc2_e, gSeq_e, gNx_e, gBk_e, gCt_e, gNo_e, gSet_e, gRet_e, gRetN_e, gIfS_e, gDrop_e, gAsg_e, gFor_e, fnS_e, gF_e, gFM_e, gFK_e, gApp_e, gExt_e, gISet_e, gAppP_e, gExtP_e, gIsi_e, gZip_e, gListRev_e, gSortK_e, gNeg_e, gPar_e, gRaise_e, gHeard_e, op2, vD, vDs, frD, frDs, stO, putO, bks, plainS, mutS, permL, appS, extS, isetS, isOl, noMu, noScr, oD, lst?, Rs.sl, Rs.d, D.items, eHs, eR, fI, z, fTuple, fSl, cutA_map, c1, l1, l2, p, eP]
  · refine ⟨_, _, _, _, rfl, .inr ⟨_, _, rfl, rfl⟩, by omega, q6, ?_, q7, ?_⟩
    · simp only [List.length_append, List.length_cons, List.length_nil] at q3 ⊢
      split <;> simp <;> omega
    · rw [← q8, pts]
      simp
theorem ev_merge_parts {bd v1 v2 : D} {base : List Int} {pa pb : List (D × Hk)} {a b : List Hk} (hbd : isB bd base) (h1 : isHL v1 pa) (h2 : isHL v2 pb) (ea : pa.map (·.2) = a) (eb : pb.map (·.2) = b) (hx : base.length ≤ 1000) (va : Vd 0 base.length a) (vb : Vd 0 base.length b) (za : Sm 1000 a) (zb : Sm 1000 b) (ha : ∀ x ∈ a, smlH x) (hb : ∀ x ∈ b, smlH x) (hst : (stretches (srk (a ++ b))).length ≤ 1000) (hso : So base.length 0 (stretches (srk (a ++ b)))) :
    sem_merge_parts [.sh bd, .sh v1, .sh v2] = .ok (.sh (.tup ((pts base a b 0 (stretches (srk (a ++ b)))).map eP))) [.sh bd, .sh v1, .sh v2] := by
  obtain ⟨ρ', e, found, at_, s7, s8, rfl, r2, r3, r4, r5, r6, r7⟩ := forL_rest (enc := eS) (pt_step (v1 := v1) (v2 := v2) hbd hst hx va vb za zb ha hb) (xs := stretches (srk (a ++ b))) (ρ := [.sh bd, .sh v1, .sh v2, .sh (eHs a), .sh (eHs b), .ow (.lst []), .sh (.int 0), .no, .no]) ⟨[], 0, .no, .no, rfl, .inl ⟨rfl, rfl⟩, by omega, by omega, by simp, hso, rfl⟩
  have k1 := ev_check_ok hbd h1 (by rw [ea]; exact va) (by have := za.1; rw [← ea, List.length_map] at this; omega)
  have k2 := ev_check_ok hbd h2 (by rw [eb]; exact vb) (by have := zb.1; rw [← eb, List.length_map] at this; omega)
  rw [ea] at k1
  rw [eb] at k2
  have k3 := ev_stretches_of za.1 zb.1
  have l1 : found.length < 1000000 := by
    simp only [List.length_nil] at r5
    omega
  have c1 : cutA base (some at_) none = base.drop at_.toNat := cutA_from r3
  rw [← r7, pts]
  simp only [eHs] at e k1 k2 k3
  by_cases z : at_ < base.length
  · rcases hbd with rfl | rfl <;> simp [gFr_e, gVd_e, gSh_e, gVsR_e, gN_e, gTk_e, gC_e, gOp_e, gNil_e, gCons_e, gTup_e, gLst_e, gP0_e, gP1_e, gSl_e, gB_e, gNot_e, gAnd_e, gOr_e, gNotV_e, gAndV_e, gOrV_e, gIf_e, gTru_e, gCall_e, hN_e, hNil_e, hCons_e, hT_e, gIt_e, gR1_e, gR2_e, gYes_e, gLc_e, gLc2_e, gSeq_e, gNx_e, gBk_e, gCt_e, gNo_e, gSet_e, gRet_e, gRetN_e, gIfS_e, gDrop_e, gAsg_e, gFor_e, fnS_e, gF_e, gFM_e, gFK_e, gApp_e, gExt_e, gISet_e, gAppP_e, gExtP_e, gIsi_e, gZip_e, gListRev_e, gSortK_e, gNeg_e, gPar_e, gRaise_e, gHeard_e, op2, vD, vDs, frD, frDs, stO, putO, bks, plainS, mutS, permL, appS, extS, isetS, isOl, noMu, noScr, oD, lst?, Rs.sl, Rs.d, D.items, sem_merge_parts, g_merge_parts, eR, eHs, k1, k2, k3, e, fLen, fI, z, fTuple, fSl, cutA_map, c1, l1, eP]
  · rcases hbd with rfl | rfl <;> simp [gFr_e, gVd_e, gSh_e, gVsR_e, gN_e, gTk_e, gC_e, gOp_e, gNil_e, gCons_e, gTup_e, gLst_e, gP0_e, gP1_e, gSl_e, gB_e, gNot_e, gAnd_e, gOr_e, gNotV_e, gAndV_e, gOrV_e, gIf_e, gTru_e, gCall_e, hN_e, hNil_e, hCons_e, hT_e, gIt_e, gR1_e, gR2_e, gYes_e, gLc_e, gLc2_e, gSeq_e, gNx_e, gBk_e, gCt_e, gNo_e, gSet_e, gRet_e, gRetN_e, gIfS_e, gDrop_e, gAsg_e, gFor_e, fnS_e, gF_e, gFM_e, gFK_e, gApp_e, gExt_e, gISet_e, gAppP_e, gExtP_e, gIsi_e, gZip_e, gListRev_e, gSortK_e, gNeg_e, gPar_e, gRaise_e, gHeard_e, op2, vD, vDs, frD, frDs, stO, putO, bks, plainS, mutS, permL, appS, extS, isetS, isOl, noMu, noScr, oD, lst?, Rs.sl, Rs.d, D.items, sem_merge_parts, g_merge_parts, eR, eHs, k1, k2, k3, e, fLen, fI, z, fTuple, fSl, cutA_map, c1, l1, eP]
/-! ### rows joined -/
def jnR (ps : List (List Int)) (rest : List (List Int)) (ρ : List Sl) : Prop := ∃ (found : List Int) (s2 : Sl), ρ = [.sh (.lst (ps.map eR)), .ow (.lst (found.map .int)), s2] ∧ (s2 = .no ∨ ∃ d, s2 = .sh d) ∧ found ++ rest.flatten = ps.flatten
theorem jn_step {ps : List (List Int)} (hl : ps.flatten.length ≤ 1000000) (x : List Int) (rest : List (List Int)) (ρ : List Sl) (r : jnR ps (x :: rest) ρ) :
    ∃ ρa ρb, hN 2 (eR x) ρ = some ρa ∧ (gExt' 1 (gVsR 2) ρa = .nx ρb ∨ gExt' 1 (gVsR 2) ρa = .ct ρb) ∧ jnR ps rest ρb := by
  obtain ⟨found, s2, rfl, hs, q⟩ := r
  have l1 : found.length + x.length ≤ 1000000 := by
    have := congrArg List.length q
    simp only [List.flatten_cons, List.length_append] at this
    omega
  refine ⟨[.sh (.lst (ps.map eR)), .ow (.lst (found.map .int)), .sh (eR x)], [.sh (.lst (ps.map eR)), .ow (.lst ((found ++ x).map .int)), .sh (eR x)], ?_, .inl ?_, _, _, rfl, .inr ⟨_, rfl⟩, ?_⟩
  · rcases hs with rfl | ⟨_, rfl⟩ <;> rfl
  · simp [gFr_e, gVd_e, gSh_e, gVsR_e, gN_e, gTk_e, gC_e, gOp_e, gNil_e, gCons_e, gTup_e, gLst_e, gP0_e, gP1_e, gSl_e, gB_e, gNot_e, gAnd_e, gOr_e, gNotV_e, gAndV_e, gOrV_e, gIf_e, gTru_e, gCall_e, hN_e, hNil_e, hCons_e, hT_e, gIt_e, gR1_e, gR2_e, gYes_e, gLc_e, gLc2_e, gSeq_e, gNx_e, gBk_e, gCt_e, gNo_e, gSet_e, gRet_e, gRetN_e, gIfS_e, gDrop_e, gAsg_e, gFor_e, fnS_e, gF_e, gFM_e, gFK_e, gApp_e, gExt_e, gISet_e, gAppP_e, gExtP_e, gIsi_e, gZip_e, gListRev_e, gSortK_e, gNeg_e, gPar_e, gRaise_e, gHeard_e, op2, vD, vDs, frD, frDs, stO, putO, bks, plainS, mutS, permL, appS, extS, isetS, isOl, noMu, noScr, oD, lst?, Rs.sl, Rs.d, D.items, eR, l1]
  · rw [← q]
    simp
theorem ev_joined_rows {ps : List (List Int)} (hl : ps.flatten.length ≤ 1000000) : sem_joined_rows [.sh (.lst (ps.map eR))] = .ok (.sh (eR ps.flatten)) [.sh (.lst (ps.map eR))] := by
  obtain ⟨ρ', e, found, s2, rfl, r2, r3⟩ := forL_rest (enc := eR) (jn_step (ps := ps) hl) (xs := ps) (ρ := [.sh (.lst (ps.map eR)), .ow (.lst []), .no]) ⟨[], .no, rfl, .inl rfl, rfl⟩
  have r3 : found = ps.flatten := by simpa using r3
  rw [← r3]
  simp [gFr_e, gVd_e, gSh_e, gVsR_e, gN_e, gTk_e, gC_e, gOp_e, gNil_e, gCons_e, gTup_e, gLst_e, gP0_e, gP1_e, gSl_e, gB_e, gNot_e, gAnd_e, gOr_e, gNotV_e, gAndV_e, gOrV_e, gIf_e, gTru_e, gCall_e, hN_e, hNil_e, hCons_e, hT_e, gIt_e, gR1_e, gR2_e, gYes_e, gLc_e, gLc2_e, gSeq_e, gNx_e, gBk_e, gCt_e, gNo_e, gSet_e, gRet_e, gRetN_e, gIfS_e, gDrop_e, gAsg_e, gFor_e, fnS_e, gF_e, gFM_e, gFK_e, gApp_e, gExt_e, gISet_e, gAppP_e, gExtP_e, gIsi_e, gZip_e, gListRev_e, gSortK_e, gNeg_e, gPar_e, gRaise_e, gHeard_e, op2, vD, vDs, frD, frDs, stO, putO, bks, plainS, mutS, permL, appS, extS, isetS, isOl, noMu, noScr, oD, lst?, Rs.sl, Rs.d, D.items, sem_joined_rows, g_joined_rows, eR, e, fTuple]
def lastP (p : Part) : List Int := p.2.getLastD []
end K62
end
section
set_option Elab.async false
set_option linter.all false
set_option maxRecDepth 100000
set_option maxHeartbeats 4000000
/-! K62m8: stretches, hunks put: plain laws. -/
namespace K62
open PySem DL
def seg (x : Hk) : St2 := (x.1, x.2.1)
def apS (s t : St2) : Prop := s.2 < t.1
/-- whole: within the base -/
def Wi (n : Int) (x : Hk) : Prop := 0 ≤ x.1 ∧ x.1 ≤ x.2.1 ∧ x.2.1 ≤ n
theorem stq_len : ∀ (r : List Hk) (c : St2), (stq c r).length ≤ r.length + 1
  | [], c => by simp [stq]
  | x :: r, c => by
    have h1 := stq_len r (c.1, if x.2.1 > c.2 then x.2.1 else c.2)
    have h2 := stq_len r (x.1, x.2.1)
    rw [stq]
    split
    · simp only [List.length_cons]; omega
    · simp only [List.length_cons]; omega
theorem stretches_len (r : List Hk) : (stretches r).length ≤ r.length := by
  cases r with
  | nil => simp [stretches]
  | cons x r => exact stq_len r _
theorem stq_all {n : Int} : ∀ (r : List Hk) (c : St2) (at_ : Int), at_ ≤ c.1 → c.1 ≤ c.2 → c.2 ≤ n → (∀ x ∈ r, c.1 ≤ x.1 ∧ Wi n x) → (r.Pairwise fun x y => x.1 ≤ y.1) →
    So n at_ (stq c r) ∧ (stq c r).Pairwise apS ∧ (∀ s ∈ stq c r, c.1 ≤ s.1) ∧ (∃ s ∈ stq c r, s.1 ≤ c.1 ∧ c.2 ≤ s.2) ∧ ∀ x ∈ r, ∃ s ∈ stq c r, inS s x = true
  | [], c, at_, h1, h2, h3, _, _ => by
    refine ⟨⟨h1, h2, h3, trivial⟩, by simp [stq], by simp [stq], ⟨c, by simp [stq], Int.le_refl _, Int.le_refl _⟩, fun x hx => absurd hx (by simp)⟩
  | x :: r, c, at_, h1, h2, h3, h4, h5 => by
    obtain ⟨a1, a2, a3, a4⟩ := h4 x List.mem_cons_self
    obtain ⟨b1, b2⟩ := List.pairwise_cons.mp h5
    by_cases z : x.1 ≤ c.2
    · have e : stq c (x :: r) = stq (c.1, if x.2.1 > c.2 then x.2.1 else c.2) r := by rw [stq, if_pos z]
      rw [e]
      have m1 : c.2 ≤ (if x.2.1 > c.2 then x.2.1 else c.2) := by split <;> omega
      have m2 : x.2.1 ≤ (if x.2.1 > c.2 then x.2.1 else c.2) := by split <;> omega
      have m3 : (if x.2.1 > c.2 then x.2.1 else c.2) ≤ n := by split <;> omega
      obtain ⟨i1, i2, i3, ⟨s, i4, i5, i6⟩, i7⟩ := stq_all r (c.1, if x.2.1 > c.2 then x.2.1 else c.2) at_ h1 (by simp only; omega) m3 (fun y hy => h4 y (List.mem_cons_of_mem _ hy)) b2
      simp only at i3 i5 i6
      refine ⟨i1, i2, i3, ⟨s, i4, i5, by omega⟩, fun y hy => ?_⟩
      rcases List.mem_cons.mp hy with rfl | hy
      · refine ⟨s, i4, ?_⟩
        unfold inS
        simp
        omega
      · exact i7 y hy
    · have e : stq c (x :: r) = c :: stq (x.1, x.2.1) r := by rw [stq, if_neg z]
      rw [e]
      obtain ⟨i1, i2, i3, ⟨s, i4, i5, i6⟩, i7⟩ := stq_all r (x.1, x.2.1) c.2 (by simp only; omega) a3 a4 (fun y hy => ⟨b1 y hy, (h4 y (List.mem_cons_of_mem _ hy)).2⟩) b2
      simp only at i3 i5 i6
      refine ⟨⟨h1, h2, h3, i1⟩, List.pairwise_cons.mpr ⟨fun t ht => ?_, i2⟩, fun t ht => ?_, ⟨c, List.mem_cons_self, Int.le_refl _, Int.le_refl _⟩, fun y hy => ?_⟩
      · have := i3 t ht
        show c.2 < t.1
        omega
      · rcases List.mem_cons.mp ht with rfl | ht
        · exact Int.le_refl _
        · have := i3 t ht
          omega
      · rcases List.mem_cons.mp hy with rfl | hy
        · refine ⟨s, List.mem_cons_of_mem _ i4, ?_⟩
          unfold inS
          simp
          omega
        · obtain ⟨t, t1, t2⟩ := i7 y hy
          exact ⟨t, List.mem_cons_of_mem _ t1, t2⟩
theorem stretches_all {n : Int} {S : List Hk} (h : ∀ x ∈ S, Wi n x) (hp : S.Pairwise fun x y => x.1 ≤ y.1) : So n 0 (stretches S) ∧ (stretches S).Pairwise apS ∧ ∀ x ∈ S, ∃ s ∈ stretches S, inS s x = true := by
  cases S with
  | nil => exact ⟨trivial, .nil, fun x hx => absurd hx (by simp)⟩
  | cons x r =>
    obtain ⟨a2, a3, a4⟩ := h x List.mem_cons_self
    obtain ⟨b1, b2⟩ := List.pairwise_cons.mp hp
    obtain ⟨i1, i2, i3, ⟨s, i4, i5, i6⟩, i7⟩ := stq_all r (x.1, x.2.1) 0 a2 a3 a4 (fun y hy => ⟨b1 y hy, h y (List.mem_cons_of_mem _ hy)⟩) b2
    refine ⟨i1, i2, fun y hy => ?_⟩
    rcases List.mem_cons.mp hy with rfl | hy
    · refine ⟨s, i4, ?_⟩
      simp only at i5 i6
      unfold inS
      simp
      omega
    · exact i7 y hy
theorem Vd.wi {n : Int} {hs : List Hk} (h : Vd 0 n hs) : ∀ x ∈ hs, Wi n x := fun x hx => by
  obtain ⟨a, b, c, _⟩ := h.mem x hx
  exact ⟨a, b, c⟩
theorem Vd.apart {n : Int} : ∀ {hs : List Hk} {s : Int}, Vd s n hs → ∀ x ∈ hs, ∀ y ∈ hs, x = y ∨ apt x y = true
  | [], _, _, x, hx, _, _ => absurd hx (by simp)
  | z :: hs, s, h, x, hx, y, hy => by
    have h5 := h.2.2.2.2
    rcases List.mem_cons.mp hx with rfl | kx <;> rcases List.mem_cons.mp hy with rfl | ky
    · exact .inl rfl
    · right
      have := (h5.mem y ky).1
      unfold apt
      simp
      omega
    · right
      have := (h5.mem x kx).1
      unfold apt
      simp
      omega
    · exact Vd.apart h5 x kx y ky
theorem pair_cases {α : Type} {R : α → α → Prop} : ∀ {l : List α}, l.Pairwise R → ∀ x ∈ l, ∀ y ∈ l, x = y ∨ R x y ∨ R y x
  | [], _, x, hx, _, _ => absurd hx (by simp)
  | z :: l, h, x, hx, y, hy => by
    obtain ⟨h1, h2⟩ := List.pairwise_cons.mp h
    rcases List.mem_cons.mp hx with rfl | kx <;> rcases List.mem_cons.mp hy with rfl | ky
    · exact .inl rfl
    · exact .inr (.inl (h1 y ky))
    · exact .inr (.inr (h1 x kx))
    · exact pair_cases h2 x kx y ky
theorem Vd.tail {s n : Int} {x : Hk} {hs : List Hk} (h : Vd s n (x :: hs)) : Vd (x.2.1 + 1) n hs := h.2.2.2.2
/-- tiny -/
def Ti (hs : List Hk) : Prop := hs.length ≤ 12 ∧ ∀ x ∈ hs, x.2.2.length ≤ 8 ∧ smlH x
theorem Ti.sm {hs : List Hk} (h : Ti hs) : Sm 1000 hs := ⟨Nat.le_trans h.1 (by decide), fun x hx => Nat.le_trans (h.2 x hx).1 (by decide)⟩
theorem Ti.sml {hs : List Hk} (h : Ti hs) : ∀ x ∈ hs, smlH x := fun x hx => (h.2 x hx).2
theorem Ti.nil : Ti [] := ⟨by simp, fun x hx => absurd hx (by simp)⟩
/-- .. apart -/
theorem fwd_len' {n : Int} : ∀ {hs : List Hk} {p : Int} {rows : List Int}, (∀ x ∈ hs, x.2.2.length ≤ 8) → Vd p n hs → (fwd p rows hs).length ≤ rows.length + 8 * hs.length
  | [], _, _, _, _ => by simp [fwd]
  | x :: hs, p, rows, h, ⟨v1, v2, v3, v4, v5⟩ => by
    have ih := fwd_len' (hs := hs) (p := x.2.1) (rows := rows.drop (x.2.1 - p).toNat) (fun y hy => h y (List.mem_cons_of_mem _ hy)) (v5.mono (by omega))
    have h1 := h x List.mem_cons_self
    rw [List.length_drop] at ih
    simp only [fwd, List.length_append, List.length_cons, List.length_take, Nat.mul_succ]
    omega
theorem sml_fwd : ∀ {hs : List Hk} {p : Int} {rows : List Int}, sml rows → (∀ x ∈ hs, smlH x) → sml (fwd p rows hs)
  | [], _, _, h, _ => h
  | x :: hs, p, rows, h, h2 => by
    intro i hi
    simp only [fwd, List.mem_append] at hi
    rcases hi with hi | hi | hi
    · exact h i (List.mem_of_mem_take hi)
    · exact (h2 x List.mem_cons_self).2.2 i hi
    · exact sml_fwd (fun j hj => h j (List.mem_of_mem_drop hj)) (fun y hy => h2 y (List.mem_cons_of_mem _ hy)) i hi
theorem pts_len {base : List Int} {a b : List Hk} : ∀ (ss : List St2) (at_ : Int), (pts base a b at_ ss).length ≤ 2 * ss.length + 1
  | [], at_ => by rw [pts]; split <;> simp
  | s :: ss, at_ => by
    have ih := pts_len (base := base) (a := a) (b := b) ss s.2
    rw [pts, List.length_append]
    simp only [List.length_cons]
    split <;> simp <;> omega
theorem pts_each {base : List Int} {a b : List Hk} {P : Part → Prop} (h1 : ∀ at_, P ("same", [base.drop at_])) (h2 : ∀ i j, P ("same", [cut base i j])) (h3 : ∀ s, P (part base a b s)) : ∀ (ss : List St2) (at_ : Int), ∀ p ∈ pts base a b at_ ss, P p
  | [], at_, p, hp => by
    rw [pts] at hp
    split at hp
    · rw [List.mem_singleton.mp hp]; exact h1 _
    · exact absurd hp (by simp)
  | s :: ss, at_, p, hp => by
    rw [pts] at hp
    rcases List.mem_append.mp hp with hp | hp
    · split at hp
      · rw [List.mem_singleton.mp hp]; exact h2 _ _
      · exact absurd hp (by simp)
    · rcases List.mem_cons.mp hp with rfl | hp
      · exact h3 s
      · exact pts_each h1 h2 h3 ss s.2 p hp
theorem flat_len {N : Nat} : ∀ {L : List (List Int)}, (∀ l ∈ L, l.length ≤ N) → L.flatten.length ≤ N * L.length
  | [], _ => by simp
  | l :: L, h => by
    have h1 := h l List.mem_cons_self
    have ih := flat_len (L := L) fun k hk => h k (List.mem_cons_of_mem _ hk)
    rw [List.flatten_cons, List.length_append, List.length_cons, Nat.mul_succ]
    omega
/-! ### from the back -/
def stp (rows : List Int) (x : Hk) : List Int := rows.take x.1.toNat ++ x.2.2 ++ rows.drop x.2.1.toNat
def lpR (hd : D) (base : List Int) (hs rest : List Hk) (ρ : List Sl) : Prop := ∃ (rows : List Int) (s3 s4 s5 : Sl), ρ = [.sh (eR base), .sh hd, .ow (.lst (rows.map .int)), s3, s4, s5] ∧ ((s3 = .no ∧ s4 = .no ∧ s5 = .no) ∨ ∃ a b c, s3 = .sh a ∧ s4 = .sh b ∧ s5 = .sh c) ∧
  rows.length + 8 * rest.length ≤ 2000 ∧ (∀ x ∈ rest, 0 ≤ x.1 ∧ x.1 ≤ x.2.1 ∧ x.2.2.length ≤ 8) ∧ rest.foldl stp rows = hs.reverse.foldl stp base
theorem lp_step {hd : D} {base : List Int} {hs : List Hk} (x : Hk) (rest : List Hk) (ρ : List Sl) (r : lpR hd base hs (x :: rest) ρ) :
    ∃ ρa ρb, hT 3 (DL.hCons (hN 3) (DL.hCons (hN 4) (DL.hCons (hN 5) hNil))) (eH x) ρ = some ρa ∧ ((gSet 2 (gOp fAdd (gVd (gOp fAdd (gVd (gSl (gVsR 2) gP0 (gP1 (gVsR 3)))) (gVd (gCall fList (DL.gCons (gVsR 5) DL.gNil))))) (gVd (gSl (gVsR 2) (gP1 (gVsR 4)) gP0)))) ρa = .nx ρb ∨ (gSet 2 (gOp fAdd (gVd (gOp fAdd (gVd (gSl (gVsR 2) gP0 (gP1 (gVsR 3)))) (gVd (gCall fList (DL.gCons (gVsR 5) DL.gNil))))) (gVd (gSl (gVsR 2) (gP1 (gVsR 4)) gP0)))) ρa = .ct ρb) ∧ lpR hd base hs rest ρb := by
  obtain ⟨rows, s3, s4, s5, rfl, hs', q1, q2, q3⟩ := r
  obtain ⟨w1, w2, w3⟩ := q2 x List.mem_cons_self
  have c1 : cutA rows none (some x.1) = rows.take x.1.toNat := cutA_to w1
  have c2 : cutA rows (some x.2.1) none = rows.drop x.2.1.toNat := cutA_from (by omega)
  simp only [List.length_cons] at q1
  have z1 : (rows.take x.1.toNat).length + x.2.2.length ≤ 1000000 := by rw [List.length_take]; omega
  have z2 : (rows.take x.1.toNat).length + x.2.2.length + (rows.drop x.2.1.toNat).length ≤ 1000000 := by rw [List.length_take, List.length_drop]; omega
  have z3 : (stp rows x).length ≤ rows.length + 8 := by
    unfold stp
    rw [List.length_append, List.length_append, List.length_take, List.length_drop]
    omega
  generalize e1 : rows.take x.1.toNat = X1 at *
  generalize e2 : rows.drop x.2.1.toNat = X2 at *
  refine ⟨[.sh (eR base), .sh hd, .ow (.lst (rows.map .int)), .sh (.int x.1), .sh (.int x.2.1), .sh (.tup (x.2.2.map .int))], [.sh (eR base), .sh hd, .ow (.lst ((X1 ++ x.2.2 ++ X2).map .int)), .sh (.int x.1), .sh (.int x.2.1), .sh (.tup (x.2.2.map .int))], ?_, .inl ?_, _, _, _, _, rfl, .inr ⟨_, _, _, rfl, rfl, rfl⟩, ?_, fun y hy => q2 y (List.mem_cons_of_mem _ hy), ?_⟩
  · rcases hs' with ⟨rfl, rfl, rfl⟩ | ⟨_, _, _, rfl, rfl, rfl⟩ <;> rfl
  · have z2' : X1.length + (x.2.2.length + X2.length) ≤ 1000000 := by omega
    simp [gFr_e, gVd_e, gSh_e, gVsR_e, gN_e, gTk_e, gC_e, gOp_e, gNil_e, gCons_e, gTup_e, gLst_e, gP0_e, gP1_e, gSl_e, gB_e, gNot_e, gAnd_e, gOr_e, gNotV_e, gAndV_e, gOrV_e, gIf_e, gTru_e, gCall_e, hN_e, hNil_e, hCons_e, hT_e, gIt_e, gR1_e, gR2_e, gYes_e, gLc_e, gLc2_e, gSeq_e, gNx_e, gBk_e, gCt_e, gNo_e, gSet_e, gRet_e, gRetN_e, gIfS_e, gDrop_e, gAsg_e, gFor_e, fnS_e, gF_e, gFM_e, gFK_e, gApp_e, gExt_e, gISet_e, gAppP_e, gExtP_e, gIsi_e, gZip_e, gListRev_e, gSortK_e, gNeg_e, gPar_e, gRaise_e, gHeard_e, op2, vD, vDs, frD, frDs, stO, putO, bks, plainS, mutS, permL, appS, extS, isetS, isOl, noMu, noScr, oD, lst?, Rs.sl, Rs.d, D.items, fSl, fList, fAdd, cutA_map, c1, c2, z1, z2, z2']
  · unfold stp at z3
    rw [e1, e2] at z3
    omega
  · rw [← q3, List.foldl_cons]
    unfold stp
    rw [e1, e2]
theorem bwd_fwd {base : List Int} : ∀ {hs : List Hk} {p : Int}, 0 ≤ p → Vd p base.length hs → hs.foldr (fun x rows => stp rows x) base = base.take p.toNat ++ fwd p (base.drop p.toNat) hs
  | [], p, _, _ => by simp [fwd]
  | x :: hs, p, h0, ⟨v1, v2, v3, v4, v5⟩ => by
    have ih := bwd_fwd (base := base) (hs := hs) (p := x.2.1) (by omega) (v5.mono (by omega))
    rw [List.foldr_cons, ih]
    unfold stp
    have l : (base.take x.2.1.toNat).length = x.2.1.toNat := by rw [List.length_take]; omega
    rw [List.take_append_of_le_length (by rw [l]; omega), List.take_take, Nat.min_eq_left (by omega), List.drop_append_of_le_length (by rw [l]; exact Nat.le_refl _), List.drop_of_length_le (by rw [l]; exact Nat.le_refl _), List.nil_append]
    simp only [fwd, List.drop_drop]
    have e1 : p.toNat + (x.2.1 - p).toNat = x.2.1.toNat := by omega
    rw [e1, List.append_assoc, ← List.append_assoc (base.take p.toNat)]
    congr 1
    rw [← List.take_add]
    congr 1
    omega
theorem ev_law_put {hd : D} {base : List Int} {hs : List Hk} (hh : isHs hd hs) (hx : base.length ≤ 1000) (v : Vd 0 base.length hs) (t : Ti hs) : sem__law_put [.sh (eR base), .sh hd] = .ok (.sh (eR (fwd 0 base hs))) [.sh (eR base), .sh hd] := by
  have l1 := t.1
  obtain ⟨ρ', e, rows, s3, s4, s5, rfl, r2, r3, r4, r5⟩ := forL_rest (enc := eH) (lp_step (hd := hd) (base := base) (hs := hs)) (xs := hs.reverse) (ρ := [.sh (eR base), .sh hd, .ow (.lst (base.map .int)), .no, .no, .no]) ⟨base, .no, .no, .no, rfl, .inl ⟨rfl, rfl, rfl⟩, by rw [List.length_reverse]; omega, fun x hx => by
    have hx := List.mem_reverse.mp hx
    obtain ⟨a, b, c⟩ := v.wi x hx
    exact ⟨a, b, (t.2 x hx).1⟩, rfl⟩
  have r5 : rows = hs.reverse.foldl stp base := r5
  rw [List.foldl_reverse, bwd_fwd (Int.le_refl 0) v] at r5
  have r6 : rows = fwd 0 base hs := by simpa using r5
  rw [← r6]
  simp only [eR, eHs] at e
  rw [List.map_reverse] at e
  have l2 : hs.length ≤ 1000000 := by omega
  rcases hh with rfl | rfl <;> simp [gFr_e, gVd_e, gSh_e, gVsR_e, gN_e, gTk_e, gC_e, gOp_e, gNil_e, gCons_e, gTup_e, gLst_e, gP0_e, gP1_e, gSl_e, gB_e, gNot_e, gAnd_e, gOr_e, gNotV_e, gAndV_e, gOrV_e, gIf_e, gTru_e, gCall_e, hN_e, hNil_e, hCons_e, hT_e, gIt_e, gR1_e, gR2_e, gYes_e, gLc_e, gLc2_e, gSeq_e, gNx_e, gBk_e, gCt_e, gNo_e, gSet_e, gRet_e, gRetN_e, gIfS_e, gDrop_e, gAsg_e, gFor_e, fnS_e, gF_e, gFM_e, gFK_e, gApp_e, gExt_e, gISet_e, gAppP_e, gExtP_e, gIsi_e, gZip_e, gListRev_e, gSortK_e, gNeg_e, gPar_e, gRaise_e, gHeard_e, op2, vD, vDs, frD, frDs, stO, putO, bks, plainS, mutS, permL, appS, extS, isetS, isOl, noMu, noScr, oD, lst?, Rs.sl, Rs.d, D.items, sem__law_put, g__law_put, eR, eHs, e, fList, fListRev, fTuple, l2]
theorem Vd.ext {n m : Int} : ∀ {X Y : List Hk} {s t : Int}, Vd s n X → Vd t m Y → (∀ x, x ∈ X ↔ x ∈ Y) → X = Y
  | [], [], _, _, _, _, _ => rfl
  | [], y :: Y, _, _, _, _, h => absurd ((h y).mpr List.mem_cons_self) (by simp)
  | x :: X, [], _, _, _, _, h => absurd ((h x).mp List.mem_cons_self) (by simp)
  | x :: X, y :: Y, s, t, v, w, h => by
    have vx : x.1 ≤ x.2.1 := v.2.1
    have wy : y.1 ≤ y.2.1 := w.2.1
    have e : x = y := by
      rcases List.mem_cons.mp ((h x).mp List.mem_cons_self) with e | k
      · exact e
      · exfalso
        have k1 := (w.tail.mem x k).1
        rcases List.mem_cons.mp ((h y).mpr List.mem_cons_self) with e | k2
        · rw [e] at k1 wy
          omega
        · have := (v.tail.mem y k2).1
          omega
    subst e
    congr 1
    refine Vd.ext v.tail w.tail fun z => ⟨fun k => ?_, fun k => ?_⟩
    · rcases List.mem_cons.mp ((h z).mp (List.mem_cons_of_mem _ k)) with e | k2
      · have := (v.tail.mem z k).1
        rw [e] at this
        omega
      · exact k2
    · rcases List.mem_cons.mp ((h z).mpr (List.mem_cons_of_mem _ k)) with e | k2
      · have := (w.tail.mem z k).1
        rw [e] at this
        omega
      · exact k2
end K62
end
section
set_option Elab.async false
set_option linter.all false
set_option maxRecDepth 100000
set_option maxHeartbeats 4000000
/-! K62m9: what is covered; meeting ones joined till none meet. -/
namespace K62
open PySem DL
/-- what is covered, in halves -/
def cov (l : List St2) (p : Int) : Prop := ∃ s ∈ l, 2 * s.1 ≤ p ∧ p ≤ 2 * s.2
def sepd (l : List St2) : Prop := ∀ s ∈ l, ∀ t ∈ l, s = t ∨ s.2 < t.1 ∨ t.2 < s.1
theorem cov_cons {s : St2} {l : List St2} {p : Int} : cov (s :: l) p ↔ (2 * s.1 ≤ p ∧ p ≤ 2 * s.2) ∨ cov l p := by
  unfold cov
  constructor
  · rintro ⟨t, ht, h⟩
    rcases List.mem_cons.mp ht with rfl | ht
    · exact .inl h
    · exact .inr ⟨t, ht, h⟩
  · rintro (h | ⟨t, ht, h⟩)
    · exact ⟨s, List.mem_cons_self, h⟩
    · exact ⟨t, List.mem_cons_of_mem _ ht, h⟩
theorem cov_sub {A B : List St2} (ha : ∀ s ∈ A, s.1 ≤ s.2) (sa : sepd A) (sb : sepd B) (h : ∀ p, cov A p ↔ cov B p) : ∀ s ∈ A, s ∈ B := by
  intro s hs
  have h0 := ha s hs
  obtain ⟨t, ht, t1, t2⟩ := (h (2 * s.1)).mp ⟨s, hs, by omega, by omega⟩
  have e1 : t.1 = s.1 := by
    by_cases q : t.1 < s.1
    · exfalso
      obtain ⟨u, hu, u1, u2⟩ := (h (2 * s.1 - 1)).mpr ⟨t, ht, by omega, by omega⟩
      rcases sa s hs u hu with e | e | e
      · rw [← e] at u1; omega
      · omega
      · omega
    · omega
  have e2 : t.2 = s.2 := by
    by_cases q : s.2 < t.2
    · exfalso
      obtain ⟨u, hu, u1, u2⟩ := (h (2 * s.2 + 1)).mpr ⟨t, ht, by omega, by omega⟩
      rcases sa s hs u hu with e | e | e
      · rw [← e] at u2; omega
      · omega
      · omega
    · by_cases q2 : t.2 < s.2
      · exfalso
        obtain ⟨u, hu, u1, u2⟩ := (h (2 * t.2 + 1)).mp ⟨s, hs, by omega, by omega⟩
        rcases sb t ht u hu with e | e | e
        · rw [← e] at u2; omega
        · omega
        · omega
      · omega
  have e : s = t := Prod.ext e1.symm e2.symm
  rw [e]; exact ht
theorem stq_cov {p : Int} : ∀ (r : List Hk) (c : St2), c.1 ≤ c.2 → (∀ x ∈ r, c.1 ≤ x.1 ∧ x.1 ≤ x.2.1) → (r.Pairwise fun x y => x.1 ≤ y.1) → (cov (stq c r) p ↔ cov (c :: r.map seg) p)
  | [], c, _, _, _ => Iff.rfl
  | x :: r, c, h1, h2, h3 => by
    obtain ⟨b1, b2⟩ := List.pairwise_cons.mp h3
    obtain ⟨a1, a2⟩ := h2 x List.mem_cons_self
    rw [List.map_cons, cov_cons, cov_cons]
    by_cases z : x.1 ≤ c.2
    · rw [stq, if_pos z]
      have ih := stq_cov (p := p) r (c.1, if x.2.1 > c.2 then x.2.1 else c.2) (by simp only; split <;> omega) (fun y hy => h2 y (List.mem_cons_of_mem _ hy)) b2
      rw [ih, cov_cons]
      show (2 * c.1 ≤ p ∧ p ≤ 2 * (if x.2.1 > c.2 then x.2.1 else c.2)) ∨ cov (r.map seg) p ↔ (2 * c.1 ≤ p ∧ p ≤ 2 * c.2) ∨ (2 * x.1 ≤ p ∧ p ≤ 2 * x.2.1) ∨ cov (r.map seg) p
      generalize cov (r.map seg) p = C
      by_cases hC : C
      · simp [hC]
      · simp only [hC, or_false]
        split <;> omega
    · rw [stq, if_neg z, cov_cons, stq_cov (p := p) r (x.1, x.2.1) a2 (fun y hy => ⟨b1 y hy, (h2 y (List.mem_cons_of_mem _ hy)).2⟩) b2, cov_cons]
      exact Iff.rfl
theorem stretches_cov {n p : Int} {S : List Hk} (h : ∀ x ∈ S, Wi n x) (hp : S.Pairwise fun x y => x.1 ≤ y.1) : cov (stretches S) p ↔ cov (S.map seg) p := by
  cases S with
  | nil => exact Iff.rfl
  | cons x r =>
    obtain ⟨b1, b2⟩ := List.pairwise_cons.mp hp
    exact stq_cov r (x.1, x.2.1) (h x List.mem_cons_self).2.1 (fun y hy => ⟨b1 y hy, (h y (List.mem_cons_of_mem _ hy)).2.1⟩) b2
theorem So.mem {n : Int} : ∀ {ss : List St2} {at_ : Int}, So n at_ ss → ∀ s ∈ ss, at_ ≤ s.1 ∧ s.1 ≤ s.2 ∧ s.2 ≤ n
  | [], _, _, s, hs => absurd hs (by simp)
  | t :: ss, at_, ⟨h1, h2, h3, h4⟩, s, hs => by
    rcases List.mem_cons.mp hs with rfl | hs
    · exact ⟨h1, h2, h3⟩
    · have := h4.mem s hs
      exact ⟨by omega, this.2⟩
theorem apS_sepd {ss : List St2} (h : ss.Pairwise apS) : sepd ss := fun s hs t ht => pair_cases h s hs t ht
theorem apS_lt {ss : List St2} (hi : ∀ s ∈ ss, s.1 ≤ s.2) (h : ss.Pairwise apS) : ss.Pairwise fun a b => ltP a b = true := by
  refine List.Pairwise.imp_of_mem (fun {a b} ha hb k => ?_) h
  rw [ltP_is]
  have := hi a ha
  unfold apS at k
  exact .inl (by omega)
/-! ### folds that lessen -/
theorem fold_dec {α β : Type} {f : α → β → α} {len : α → Nat} (h : ∀ a b, f a b = a ∨ len (f a b) < len a) : ∀ (L : List β) (a : α), (L.foldl f a = a ∧ ∀ b ∈ L, f a b = a) ∨ len (L.foldl f a) < len a
  | [], a => .inl ⟨rfl, fun b hb => absurd hb (by simp)⟩
  | b :: L, a => by
    rw [List.foldl_cons]
    rcases h a b with e | e
    · rw [e]
      rcases fold_dec h L a with ⟨e1, e2⟩ | e1
      · refine .inl ⟨e1, fun c hc => ?_⟩
        rcases List.mem_cons.mp hc with rfl | hc
        · exact e
        · exact e2 c hc
      · exact .inr e1
    · rcases fold_dec h L (f a b) with ⟨e1, _⟩ | e1
      · rw [e1]; exact .inr e
      · exact .inr (by omega)
def hits (G : List St2) (o t : St2) : Bool := !decide (o = t) && (decide (o ∈ G) && (decide (t ∈ G) && (decide (o.1 ≤ t.2) && decide (t.1 ≤ o.2))))
def hull (o t : St2) : St2 := (if t.1 < o.1 then t.1 else o.1, if t.2 > o.2 then t.2 else o.2)
def jn (o : St2) (G : List St2) (t : St2) : List St2 := if hits G o t = true then G.filter (fun s => !decide (s = o) && !decide (s = t)) ++ [hull o t] else G
def inn (G : List St2) (o : St2) : List St2 := G.foldl (jn o) G
def turn (G : List St2) : List St2 := G.foldl inn G
theorem hits_is {G : List St2} {o t : St2} (h : hits G o t = true) : o ≠ t ∧ o ∈ G ∧ t ∈ G ∧ o.1 ≤ t.2 ∧ t.1 ≤ o.2 := by
  unfold hits at h
  simpa using h
theorem filt_lt {α : Type} {p : α → Bool} {a : α} : ∀ {l : List α}, a ∈ l → p a = false → (l.filter p).length < l.length
  | b :: l, h, hp => by
    rcases List.mem_cons.mp h with rfl | h
    · rw [List.filter_cons_of_neg (by simp [hp])]
      exact Nat.lt_succ_of_le (List.length_filter_le _ _)
    · have ih := filt_lt h hp
      cases q : p b with
      | true => rw [List.filter_cons_of_pos q]; simp only [List.length_cons]; omega
      | false => rw [List.filter_cons_of_neg (by simp [q])]; simp only [List.length_cons]; omega
theorem jn_dec (o : St2) (G : List St2) (t : St2) : jn o G t = G ∨ (jn o G t).length < G.length := by
  unfold jn
  by_cases h : hits G o t = true
  · right
    rw [if_pos h]
    obtain ⟨h1, h2, h3, _⟩ := hits_is h
    have e : G.filter (fun s => !decide (s = o) && !decide (s = t)) = (G.filter fun s => !decide (s = t)).filter fun s => !decide (s = o) := by rw [List.filter_filter]
    rw [e, List.length_append, List.length_singleton]
    have k1 : (G.filter fun s => !decide (s = t)).length < G.length := filt_lt h3 (by simp)
    have k2 := filt_lt (p := fun s => !decide (s = o)) (a := o) (l := G.filter fun s => !decide (s = t)) (List.mem_filter.mpr ⟨h2, by simp [h1]⟩) (by simp)
    omega
  · left
    rw [if_neg h]
theorem inn_dec (G : List St2) (o : St2) : (inn G o = G ∧ ∀ t ∈ G, jn o G t = G) ∨ (inn G o).length < G.length := fold_dec (len := List.length) (jn_dec o) G G
theorem turn_dec (G : List St2) : (turn G = G ∧ ∀ o ∈ G, ∀ t ∈ G, jn o G t = G) ∨ (turn G).length < G.length := by
  rcases fold_dec (f := inn) (len := List.length) (fun a b => (inn_dec a b).imp (·.1) id) G G with ⟨e1, e2⟩ | e
  · refine .inl ⟨e1, fun o ho => ?_⟩
    rcases inn_dec G o with ⟨_, k⟩ | k
    · exact k
    · rw [e2 o ho] at k
      exact absurd k (Nat.lt_irrefl _)
  · exact .inr e
/-- none meet -/
def fixd (G : List St2) : Prop := ∀ o ∈ G, ∀ t ∈ G, jn o G t = G
theorem fold_fix {α β : Type} {f : α → β → α} {a : α} : ∀ {L : List β}, (∀ b ∈ L, f a b = a) → L.foldl f a = a
  | [], _ => rfl
  | b :: L, h => by
    rw [List.foldl_cons, h b List.mem_cons_self]
    exact fold_fix fun c hc => h c (List.mem_cons_of_mem _ hc)
theorem fixd.turn {G : List St2} (h : fixd G) : turn G = G := fold_fix fun o ho => fold_fix fun t ht => h o ho t ht
theorem fixd.sepd {G : List St2} (h : fixd G) : sepd G := fun s hs t ht => by
  by_cases e : s = t
  · exact .inl e
  · right
    by_cases q : s.1 ≤ t.2 ∧ t.1 ≤ s.2
    · exfalso
      have k : hits G s t = true := by
        unfold hits
        simp [e, hs, ht, q.1, q.2]
      have z := h s hs t ht
      have d : (jn s G t).length < G.length := by
        rcases jn_dec s G t with d | d
        · exfalso
          unfold jn at d
          rw [if_pos k] at d
          obtain ⟨h1, h2, h3, _⟩ := hits_is k
          have e' : G.filter (fun x => !decide (x = s) && !decide (x = t)) = (G.filter fun x => !decide (x = t)).filter fun x => !decide (x = s) := by rw [List.filter_filter]
          have k1 : (G.filter fun x => !decide (x = t)).length < G.length := filt_lt h3 (by simp)
          have k2 := filt_lt (p := fun x => !decide (x = s)) (a := s) (l := G.filter fun x => !decide (x = t)) (List.mem_filter.mpr ⟨h2, by simp [h1]⟩) (by simp)
          have := congrArg List.length d
          rw [e', List.length_append, List.length_singleton] at this
          omega
        · exact d
      rw [z] at d
      exact Nat.lt_irrefl _ d
    · omega
theorem turn_fix {G : List St2} {k : Nat} (h : fixd G ∨ G.length < k + 1) : fixd (turn G) ∨ (turn G).length < k := by
  rcases h with h | h
  · rw [h.turn]; exact .inl h
  · rcases turn_dec G with ⟨e1, e2⟩ | e
    · rw [e1]; exact .inl e2
    · exact .inr (by omega)
/-! ### what stays -/
/-- within n, and covering what C says -/
structure Kp (n : Int) (C : Int → Prop) (N : Nat) (G : List St2) : Prop where
  len : G.length ≤ N
  wi : ∀ s ∈ G, 0 ≤ s.1 ∧ s.1 ≤ s.2 ∧ s.2 ≤ n
  cv : ∀ p, cov G p ↔ C p
theorem Kp.jn {n : Int} {C : Int → Prop} {N : Nat} {G : List St2} (k : Kp n C N G) (o t : St2) : Kp n C N (jn o G t) := by
  unfold K62.jn
  by_cases h : hits G o t = true
  · rw [if_pos h]
    obtain ⟨h1, h2, h3, h4, h5⟩ := hits_is h
    have d := jn_dec o G t
    unfold K62.jn at d
    rw [if_pos h] at d
    have wo := k.wi o h2
    have wt := k.wi t h3
    refine ⟨?_, fun s hs => ?_, fun p => ?_⟩
    · rcases d with d | d
      · rw [d]; exact k.len
      · have := k.len; omega
    · rcases List.mem_append.mp hs with hs | hs
      · exact k.wi s (List.mem_filter.mp hs).1
      · rw [List.mem_singleton.mp hs]
        unfold hull
        refine ⟨?_, ?_, ?_⟩ <;> simp only <;> repeat' split
        all_goals omega
    · rw [← k.cv]
      constructor
      · rintro ⟨s, hs, s1, s2⟩
        rcases List.mem_append.mp hs with hs | hs
        · exact ⟨s, (List.mem_filter.mp hs).1, s1, s2⟩
        · rw [List.mem_singleton.mp hs] at s1 s2
          unfold hull at s1 s2
          simp only at s1 s2
          by_cases q : 2 * o.1 ≤ p ∧ p ≤ 2 * o.2
          · exact ⟨o, h2, q.1, q.2⟩
          · refine ⟨t, h3, ?_, ?_⟩
            · revert s1 s2; split <;> split <;> intros <;> omega
            · revert s1 s2; split <;> split <;> intros <;> omega
      · rintro ⟨s, hs, s1, s2⟩
        by_cases e1 : s = o
        · subst e1
          refine ⟨hull s t, List.mem_append_right _ (by simp), ?_, ?_⟩ <;> unfold hull <;> simp only <;> split <;> omega
        · by_cases e2 : s = t
          · subst e2
            refine ⟨hull o s, List.mem_append_right _ (by simp), ?_, ?_⟩ <;> unfold hull <;> simp only <;> split <;> omega
          · exact ⟨s, List.mem_append_left _ (List.mem_filter.mpr ⟨hs, by simp [e1, e2]⟩), s1, s2⟩
  · rw [if_neg h]; exact k
theorem fold_kp {α β : Type} {P : α → Prop} {f : α → β → α} (h : ∀ a b, P a → P (f a b)) : ∀ (L : List β) {a : α}, P a → P (L.foldl f a)
  | [], _, k => k
  | b :: L, _, k => fold_kp h L (h _ b k)
theorem Kp.inn {n : Int} {C : Int → Prop} {N : Nat} {G : List St2} (k : Kp n C N G) (o : St2) : Kp n C N (inn G o) := fold_kp (P := Kp n C N) (fun a b k => k.jn o b) G k
theorem Kp.turn {n : Int} {C : Int → Prop} {N : Nat} {G : List St2} (k : Kp n C N G) : Kp n C N (turn G) := fold_kp (P := Kp n C N) (fun a b k => k.inn b) G k
/-- the joined ones are the stretches -/
theorem joined_is {n : Int} {N : Nat} {S : List Hk} {G : List St2} (h : ∀ x ∈ S, Wi n x) (hp : S.Pairwise fun x y => x.1 ≤ y.1) (k : Kp n (cov (S.map seg)) N G) (f : fixd G) : sortU ltP G = stretches S := by
  obtain ⟨i1, i2, i3⟩ := stretches_all h hp
  have w1 : ∀ s ∈ stretches S, s.1 ≤ s.2 := fun s hs => (i1.mem s hs).2.1
  have c : ∀ p, cov (stretches S) p ↔ cov G p := fun p => (stretches_cov h hp).trans (k.cv p).symm
  refine sortU_is ltP_strict (apS_lt w1 i2) fun y => ⟨fun hy => cov_sub w1 (apS_sepd i2) f.sepd c y hy, fun hy => cov_sub (fun s hs => (k.wi s hs).2.1) f.sepd (apS_sepd i2) (fun p => (c p).symm) y hy⟩
/-- the same hunks in another order: the same stretches -/
theorem stretches_perm {n : Int} {S R : List Hk} (h : ∀ x ∈ S, Wi n x) (hS : S.Pairwise fun x y => x.1 ≤ y.1) (hR : R.Pairwise fun x y => x.1 ≤ y.1) (hm : ∀ x, x ∈ S ↔ x ∈ R) : stretches S = stretches R := by
  have h' : ∀ x ∈ R, Wi n x := fun x hx => h x ((hm x).mpr hx)
  obtain ⟨i1, i2, i3⟩ := stretches_all h hS
  obtain ⟨j1, j2, j3⟩ := stretches_all h' hR
  have w1 : ∀ s ∈ stretches S, s.1 ≤ s.2 := fun s hs => (i1.mem s hs).2.1
  have w2 : ∀ s ∈ stretches R, s.1 ≤ s.2 := fun s hs => (j1.mem s hs).2.1
  have c0 : ∀ p, cov (S.map seg) p ↔ cov (R.map seg) p := fun p => by
    unfold cov
    constructor
    · rintro ⟨s, hs, k⟩
      obtain ⟨x, hx, rfl⟩ := List.mem_map.mp hs
      exact ⟨_, List.mem_map_of_mem ((hm x).mp hx), k⟩
    · rintro ⟨s, hs, k⟩
      obtain ⟨x, hx, rfl⟩ := List.mem_map.mp hs
      exact ⟨_, List.mem_map_of_mem ((hm x).mpr hx), k⟩
  have c : ∀ p, cov (stretches S) p ↔ cov (stretches R) p := fun p => (stretches_cov h hS).trans ((c0 p).trans (stretches_cov h' hR).symm)
  exact up_ext ltP_strict (apS_lt w1 i2) (apS_lt w2 j2) fun y => ⟨fun hy => cov_sub w1 (apS_sepd i2) (apS_sepd j2) c y hy, fun hy => cov_sub w2 (apS_sepd j2) (apS_sepd i2) (fun p => (c p).symm) y hy⟩
end K62
end
section
set_option Elab.async false
set_option linter.all false
set_option maxRecDepth 100000
set_option maxHeartbeats 4000000
/-! K62m10: _law_stretches. -/
namespace K62
open PySem DL
def smS (s : St2) : Prop := s.1.natAbs < 10 ^ 12 ∧ s.2.natAbs < 10 ^ 12
theorem wh_S {s : St2} (h : smS s) : Wh 2 (eS s) := .tup fun d hd => by
  rcases List.mem_cons.mp hd with rfl | hd
  · exact .int h.1
  · rw [List.mem_singleton.mp hd]; exact .int h.2
theorem eqv_S (x y : St2) : (eS x).eqv (eS y) = decide (x = y) := by
  obtain ⟨a, b⟩ := x
  obtain ⟨a', b'⟩ := y
  unfold D.eqv eS
  simp [D.py, D.pys, PyData.eqv, PyData.eqvAll, Prod.ext_iff, ib]
theorem fNe_S {x y : St2} (hx : smS x) (hy : smS y) : fNe (eS x) (eS y) = some (.sh (.bl (!decide (x = y)))) := by
  rw [← eqv_S]
  show (if (D.tup [.int x.1, .int x.2]).okp && (D.tup [.int y.1, .int y.2]).okp then some (Rs.sh (.bl (!(eS x).eqv (eS y)))) else none) = _
  have e1 : (D.tup [.int x.1, .int x.2]).okp = true := (wh_S hx).okp (by decide)
  have e2 : (D.tup [.int y.1, .int y.2]).okp = true := (wh_S hy).okp (by decide)
  rw [e1, e2]
  rfl
theorem inD_S (x : St2) : ∀ hs : List St2, inD (eS x) (hs.map eS) = decide (x ∈ hs)
  | [] => rfl
  | y :: hs => by
    have ih := inD_S x hs
    unfold inD at ih ⊢
    rw [List.map_cons, List.any_cons, ih, eqv_S]
    by_cases q : y = x
    · subst q; simp
    · simp [q, Ne.symm q, show ¬x = y from fun e => q e.symm]
theorem fIn_S {x : St2} {hs : List St2} (hx : smS x) (hy : ∀ z ∈ hs, smS z) : fIn false (eS x) (.lst (hs.map eS)) = some (.sh (.bl (decide (x ∈ hs)))) := by
  have e : (D.lst (hs.map eS)).items = some (hs.map eS) := rfl
  have w : Wh 3 (.lst (hs.map eS)) := .lst fun d hd => by
    obtain ⟨i, hi, rfl⟩ := List.mem_map.mp hd
    exact wh_S (hy i hi)
  unfold fIn
  rw [e]
  show (if (eS x).okp && (D.lst (hs.map eS)).okp then _ else _) = _
  rw [(wh_S hx).okp (by decide), w.okp (by decide), inD_S]
  rfl
theorem ev_meetS (o t : St2) : sem__law_meet [.sh (eS o), .sh (eS t)] = .ok (.sh (.bl (decide (o.1 ≤ t.2) && decide (t.1 ≤ o.2)))) [.sh (eS o), .sh (eS t)] := by
  by_cases q : o.1 ≤ t.2 <;> by_cases r : t.1 ≤ o.2 <;> simp [gFr_e, gVd_e, gSh_e, gVsR_e, gN_e, gTk_e, gC_e, gOp_e, gNil_e, gCons_e, gTup_e, gLst_e, gP0_e, gP1_e, gSl_e, gB_e, gNot_e, gAnd_e, gOr_e, gNotV_e, gAndV_e, gOrV_e, gIf_e, gTru_e, gCall_e, hN_e, hNil_e, hCons_e, hT_e, gIt_e, gR1_e, gR2_e, gYes_e, gLc_e, gLc2_e, gSeq_e, gNx_e, gBk_e, gCt_e, gNo_e, gSet_e, gRet_e, gRetN_e, gIfS_e, gDrop_e, gAsg_e, gFor_e, fnS_e, gF_e, gFM_e, gFK_e, gApp_e, gExt_e, gISet_e, gAppP_e, gExtP_e, gIsi_e, gZip_e, gListRev_e, gSortK_e, gNeg_e, gPar_e, gRaise_e, gHeard_e, op2, vD, vDs, frD, frDs, stO, putO, bks, plainS, mutS, permL, appS, extS, isetS, isOl, noMu, noScr, oD, lst?, Rs.sl, Rs.d, D.items, sem__law_meet, g__law_meet, eS, fIx, aS0, aS1, fI, q, r]
abbrev stS (a b : List Hk) (G : List St2) (s4 s5 s6 : Sl) : List Sl := [.sh (eHs a), .sh (eHs b), .ow (.lst (G.map eS)), .no, s4, s5, s6, .no]
abbrev B3 : GS := (gIfS (gAnd (gB (gOp fNe (gVsR 5) (gVsR 6))) (gAnd (gB (gOp (fIn false) (gVsR 5) (gVsR 2))) (gAnd (gB (gOp (fIn false) (gVsR 6) (gVsR 2))) (gB (gF 2 sem__law_meet (DL.gCons (gVsR 5) (DL.gCons (gVsR 6) DL.gNil)))))))
    (gSet 2 (gOp fAdd (gVd (gLc [7] (gIt (gTk 2)) (hN 7) (gAnd (gB (gOp fNe (gVsR 7) (gVsR 5))) (gB (gOp fNe (gVsR 7) (gVsR 6)))) (gFr (gN 7)))) (gVd (gLst (DL.gCons (gVd (DL.gTup (DL.gCons (gVd (gCall fMin (DL.gCons (gVd (gOp fIx (gVsR 5) (gVd (gC (.int 0))))) (DL.gCons (gVd (gOp fIx (gVsR 6) (gVd (gC (.int 0))))) DL.gNil)))) (DL.gCons (gVd (gCall fMax (DL.gCons (gVd (gOp fIx (gVsR 5) (gVd (gC (.int 1))))) (DL.gCons (gVd (gOp fIx (gVsR 6) (gVd (gC (.int 1))))) DL.gNil)))) DL.gNil)))) DL.gNil)))))
    gNx)
abbrev stT (a b : List Hk) (s2 s4 s5 s6 : Sl) : List Sl := [.sh (eHs a), .sh (eHs b), s2, .no, s4, s5, s6, .no]
theorem c7 {a b : List Hk} {G : List St2} {o t : St2} {s2 s4 : Sl} (hG : ∀ s ∈ G, smS s) (ho : smS o) (ht : smS t) : lcL [7] (hN 7) (gAnd (gB (gOp fNe (gVsR 7) (gVsR 5))) (gB (gOp fNe (gVsR 7) (gVsR 6)))) (gFr (gN 7)) (G.map eS) (stT a b s2 s4 (.sh (eS o)) (.sh (eS t))) = .ok ((G.filter fun s => !decide (s = o) && !decide (s = t)).map eS) (stT a b s2 s4 (.sh (eS o)) (.sh (eS t))) := by
  refine lcL_pure (fun x hx => ?_)
  have q1 := fNe_S (hG x hx) ho
  have q2 := fNe_S (hG x hx) ht
  refine ⟨[.sh (eHs a), .sh (eHs b), s2, .no, s4, .sh (eS o), .sh (eS t), .sh (eS x)], [.sh (eHs a), .sh (eHs b), s2, .no, s4, .sh (eS o), .sh (eS t), .sh (eS x)], rfl, ?_, fun _ => rfl, fun _ => ⟨_, rfl, rfl⟩⟩
  generalize decide (x = o) = X1 at q1 ⊢
  generalize decide (x = t) = X2 at q2 ⊢
  cases X1 <;> cases X2 <;> simp [gFr_e, gVd_e, gSh_e, gVsR_e, gN_e, gTk_e, gC_e, gOp_e, gNil_e, gCons_e, gTup_e, gLst_e, gP0_e, gP1_e, gSl_e, gB_e, gNot_e, gAnd_e, gOr_e, gNotV_e, gAndV_e, gOrV_e, gIf_e, gTru_e, gCall_e, hN_e, hNil_e, hCons_e, hT_e, gIt_e, gR1_e, gR2_e, gYes_e, gLc_e, gLc2_e, gSeq_e, gNx_e, gBk_e, gCt_e, gNo_e, gSet_e, gRet_e, gRetN_e, gIfS_e, gDrop_e, gAsg_e, gFor_e, fnS_e, gF_e, gFM_e, gFK_e, gApp_e, gExt_e, gISet_e, gAppP_e, gExtP_e, gIsi_e, gZip_e, gListRev_e, gSortK_e, gNeg_e, gPar_e, gRaise_e, gHeard_e, op2, vD, vDs, frD, frDs, stO, putO, bks, plainS, mutS, permL, appS, extS, isetS, isOl, noMu, noScr, oD, lst?, Rs.sl, Rs.d, D.items, q1, q2]
theorem step3 {a b : List Hk} {G : List St2} {o t : St2} {s4 : Sl} (hG : ∀ s ∈ G, smS s) (hl : G.length ≤ 100) (ho : smS o) (ht : smS t) : B3 (stS a b G s4 (.sh (eS o)) (.sh (eS t))) = .nx (stS a b (jn o G t) s4 (.sh (eS o)) (.sh (eS t))) := by
  have q1 := fNe_S ho ht
  have q2 := fIn_S ho hG
  have q3 := fIn_S ht hG
  have q4 := ev_meetS o t
  have q5 := c7 (a := a) (b := b) (s2 := .sh (.lst (G.map eS))) (s4 := s4) hG ho ht
  have l1 : G.length ≤ 1000000 := by omega
  have l2 : (G.filter fun s => !decide (s = o) && !decide (s = t)).length + 1 ≤ 1000000 := by have := List.length_filter_le (fun s => !decide (s = o) && !decide (s = t)) G; omega
  unfold jn hits
  generalize (G.filter fun s => !decide (s = o) && !decide (s = t)) = G' at *
  have e5 : B3 (stS a b G s4 (.sh (eS o)) (.sh (eS t))) = .nx (stS a b (if (!decide (o = t) && (decide (o ∈ G) && (decide (t ∈ G) && (decide (o.1 ≤ t.2) && decide (t.1 ≤ o.2))))) = true then G' ++ [hull o t] else G) s4 (.sh (eS o)) (.sh (eS t))) := by
    generalize decide (o = t) = X1 at q1 ⊢
    generalize decide (o ∈ G) = X2 at q2 ⊢
    generalize decide (t ∈ G) = X3 at q3 ⊢
    generalize (decide (o.1 ≤ t.2) && decide (t.1 ≤ o.2)) = X4 at q4 ⊢
    have hh : eS (hull o t) = .tup [.int (if t.1 < o.1 then t.1 else o.1), .int (if t.2 > o.2 then t.2 else o.2)] := rfl
    have f0 : fIx (eS o) (.int 0) = some (.sh (.int o.1)) := rfl
    have f1 : fIx (eS o) (.int 1) = some (.sh (.int o.2)) := rfl
    have f2 : fIx (eS t) (.int 0) = some (.sh (.int t.1)) := rfl
    have f3 : fIx (eS t) (.int 1) = some (.sh (.int t.2)) := rfl
    simp only [stT] at q5
    generalize hull o t = hu at hh ⊢
    cases X1
    · cases X2
      · simp [gFr_e, gVd_e, gSh_e, gVsR_e, gN_e, gTk_e, gC_e, gOp_e, gNil_e, gCons_e, gTup_e, gLst_e, gP0_e, gP1_e, gSl_e, gB_e, gNot_e, gAnd_e, gOr_e, gNotV_e, gAndV_e, gOrV_e, gIf_e, gTru_e, gCall_e, hN_e, hNil_e, hCons_e, hT_e, gIt_e, gR1_e, gR2_e, gYes_e, gLc_e, gLc2_e, gSeq_e, gNx_e, gBk_e, gCt_e, gNo_e, gSet_e, gRet_e, gRetN_e, gIfS_e, gDrop_e, gAsg_e, gFor_e, fnS_e, gF_e, gFM_e, gFK_e, gApp_e, gExt_e, gISet_e, gAppP_e, gExtP_e, gIsi_e, gZip_e, gListRev_e, gSortK_e, gNeg_e, gPar_e, gRaise_e, gHeard_e, op2, vD, vDs, frD, frDs, stO, putO, bks, plainS, mutS, permL, appS, extS, isetS, isOl, noMu, noScr, oD, lst?, Rs.sl, Rs.d, D.items, stS, q1, q2]
      · cases X3
        · simp [gFr_e, gVd_e, gSh_e, gVsR_e, gN_e, gTk_e, gC_e, gOp_e, gNil_e, gCons_e, gTup_e, gLst_e, gP0_e, gP1_e, gSl_e, gB_e, gNot_e, gAnd_e, gOr_e, gNotV_e, gAndV_e, gOrV_e, gIf_e, gTru_e, gCall_e, hN_e, hNil_e, hCons_e, hT_e, gIt_e, gR1_e, gR2_e, gYes_e, gLc_e, gLc2_e, gSeq_e, gNx_e, gBk_e, gCt_e, gNo_e, gSet_e, gRet_e, gRetN_e, gIfS_e, gDrop_e, gAsg_e, gFor_e, fnS_e, gF_e, gFM_e, gFK_e, gApp_e, gExt_e, gISet_e, gAppP_e, gExtP_e, gIsi_e, gZip_e, gListRev_e, gSortK_e, gNeg_e, gPar_e, gRaise_e, gHeard_e, op2, vD, vDs, frD, frDs, stO, putO, bks, plainS, mutS, permL, appS, extS, isetS, isOl, noMu, noScr, oD, lst?, Rs.sl, Rs.d, D.items, stS, q1, q2, q3]
        · cases X4
          · simp [gFr_e, gVd_e, gSh_e, gVsR_e, gN_e, gTk_e, gC_e, gOp_e, gNil_e, gCons_e, gTup_e, gLst_e, gP0_e, gP1_e, gSl_e, gB_e, gNot_e, gAnd_e, gOr_e, gNotV_e, gAndV_e, gOrV_e, gIf_e, gTru_e, gCall_e, hN_e, hNil_e, hCons_e, hT_e, gIt_e, gR1_e, gR2_e, gYes_e, gLc_e, gLc2_e, gSeq_e, gNx_e, gBk_e, gCt_e, gNo_e, gSet_e, gRet_e, gRetN_e, gIfS_e, gDrop_e, gAsg_e, gFor_e, fnS_e, gF_e, gFM_e, gFK_e, gApp_e, gExt_e, gISet_e, gAppP_e, gExtP_e, gIsi_e, gZip_e, gListRev_e, gSortK_e, gNeg_e, gPar_e, gRaise_e, gHeard_e, op2, vD, vDs, frD, frDs, stO, putO, bks, plainS, mutS, permL, appS, extS, isetS, isOl, noMu, noScr, oD, lst?, Rs.sl, Rs.d, D.items, stS, q1, q2, q3, q4]
          · simp [gFr_e, gVd_e, gSh_e, gVsR_e, gN_e, gTk_e, gC_e, gOp_e, gNil_e, gCons_e, gTup_e, gLst_e, gP0_e, gP1_e, gSl_e, gB_e, gNot_e, gAnd_e, gOr_e, gNotV_e, gAndV_e, gOrV_e, gIf_e, gTru_e, gCall_e, hN_e, hNil_e, hCons_e, hT_e, gIt_e, gR1_e, gR2_e, gYes_e, gLc_e, gLc2_e, gSeq_e, gNx_e, gBk_e, gCt_e, gNo_e, gSet_e, gRet_e, gRetN_e, gIfS_e, gDrop_e, gAsg_e, gFor_e, fnS_e, gF_e, gFM_e, gFK_e, gApp_e, gExt_e, gISet_e, gAppP_e, gExtP_e, gIsi_e, gZip_e, gListRev_e, gSortK_e, gNeg_e, gPar_e, gRaise_e, gHeard_e, op2, vD, vDs, frD, frDs, stO, putO, bks, plainS, mutS, permL, appS, extS, isetS, isOl, noMu, noScr, oD, lst?, Rs.sl, Rs.d, D.items, stS, q1, q2, q3, q4, q5, wipeS, unw, l1, l2, fAdd, fMin, fMax, f0, f1, f2, f3, hh]
    · simp [gFr_e, gVd_e, gSh_e, gVsR_e, gN_e, gTk_e, gC_e, gOp_e, gNil_e, gCons_e, gTup_e, gLst_e, gP0_e, gP1_e, gSl_e, gB_e, gNot_e, gAnd_e, gOr_e, gNotV_e, gAndV_e, gOrV_e, gIf_e, gTru_e, gCall_e, hN_e, hNil_e, hCons_e, hT_e, gIt_e, gR1_e, gR2_e, gYes_e, gLc_e, gLc2_e, gSeq_e, gNx_e, gBk_e, gCt_e, gNo_e, gSet_e, gRet_e, gRetN_e, gIfS_e, gDrop_e, gAsg_e, gFor_e, fnS_e, gF_e, gFM_e, gFK_e, gApp_e, gExt_e, gISet_e, gAppP_e, gExtP_e, gIsi_e, gZip_e, gListRev_e, gSortK_e, gNeg_e, gPar_e, gRaise_e, gHeard_e, op2, vD, vDs, frD, frDs, stO, putO, bks, plainS, mutS, permL, appS, extS, isetS, isOl, noMu, noScr, oD, lst?, Rs.sl, Rs.d, D.items, stS, q1]
  exact e5
end K62
end
section
set_option Elab.async false
set_option linter.all false
set_option maxRecDepth 100000
set_option maxHeartbeats 4000000
/-! K62m11: _law_stretches, the loops. -/
namespace K62
open PySem DL
theorem Kp.sm {n : Int} {C : Int → Prop} {N : Nat} {G : List St2} (k : Kp n C N G) (hn : n ≤ 1000) : ∀ s ∈ G, smS s := fun s hs => by
  obtain ⟨a, b, c⟩ := k.wi s hs
  exact ⟨by omega, by omega⟩
def anS (s : Sl) : Prop := s = .no ∨ ∃ d, s = .sh d
abbrev B2 : GS := gFor (gIt (gCall fList (DL.gCons (gVsR 2) DL.gNil))) (hN 6) B3
abbrev B1 : GS := gFor (gIt (gCall fList (DL.gCons (gVsR 2) DL.gNil))) (hN 5) B2
theorem step2 {n : Int} {C : Int → Prop} {N : Nat} {a b : List Hk} {G : List St2} {o : St2} {s4 s6 : Sl} (hn : n ≤ 1000) (hN' : N ≤ 100) (k : Kp n C N G) (ho : smS o) (h6 : anS s6) : ∃ s6', B2 (stS a b G s4 (.sh (eS o)) s6) = .nx (stS a b (inn G o) s4 (.sh (eS o)) s6') ∧ anS s6' := by
  obtain ⟨ρ', e, G', s6', rfl, h6', r1, _⟩ := forL_rest (h := hN 6) (body := B3) (enc := eS) (R := fun rest ρ => ∃ G' s6', ρ = stS a b G' s4 (.sh (eS o)) s6' ∧ anS s6' ∧ rest.foldl (jn o) G' = inn G o ∧ Kp n C N G' ∧ ∀ t ∈ rest, smS t)
    (fun t rest ρ r => by
      obtain ⟨G', s6', rfl, h6', r1, k', r2⟩ := r
      refine ⟨stS a b G' s4 (.sh (eS o)) (.sh (eS t)), _, ?_, .inl (step3 (k'.sm hn) (Nat.le_trans k'.len hN') ho (r2 t List.mem_cons_self)), _, _, rfl, .inr ⟨_, rfl⟩, r1, k'.jn o t, fun u hu => r2 u (List.mem_cons_of_mem _ hu)⟩
      rcases h6' with rfl | ⟨_, rfl⟩ <;> rfl)
    (xs := G) (ρ := stS a b G s4 (.sh (eS o)) s6) ⟨G, s6, rfl, h6, rfl, k, k.sm hn⟩
  have r1 : G' = inn G o := r1
  rw [r1] at e
  refine ⟨s6', ?_, h6'⟩
  unfold B2
  generalize B3 = B at e ⊢
  simp only [stS] at e ⊢
  simp [gFr_e, gVd_e, gSh_e, gVsR_e, gN_e, gTk_e, gC_e, gOp_e, gNil_e, gCons_e, gTup_e, gLst_e, gP0_e, gP1_e, gSl_e, gB_e, gNot_e, gAnd_e, gOr_e, gNotV_e, gAndV_e, gOrV_e, gIf_e, gTru_e, gCall_e, hN_e, hNil_e, hCons_e, hT_e, gIt_e, gR1_e, gR2_e, gYes_e, gLc_e, gLc2_e, gSeq_e, gNx_e, gBk_e, gCt_e, gNo_e, gSet_e, gRet_e, gRetN_e, gIfS_e, gDrop_e, gAsg_e, gFor_e, fnS_e, gF_e, gFM_e, gFK_e, gApp_e, gExt_e, gISet_e, gAppP_e, gExtP_e, gIsi_e, gZip_e, gListRev_e, gSortK_e, gNeg_e, gPar_e, gRaise_e, gHeard_e, op2, vD, vDs, frD, frDs, stO, putO, bks, plainS, mutS, permL, appS, extS, isetS, isOl, noMu, noScr, oD, lst?, Rs.sl, Rs.d, D.items, fList, e]
theorem step1 {n : Int} {C : Int → Prop} {N : Nat} {a b : List Hk} {G : List St2} {s4 s5 s6 : Sl} (hn : n ≤ 1000) (hN' : N ≤ 100) (k : Kp n C N G) (h5 : anS s5) (h6 : anS s6) : ∃ s5' s6', B1 (stS a b G s4 s5 s6) = .nx (stS a b (turn G) s4 s5' s6') ∧ anS s5' ∧ anS s6' := by
  obtain ⟨ρ', e, G', s5', s6', rfl, h5', h6', r1, _⟩ := forL_rest (h := hN 5) (body := B2) (enc := eS) (R := fun rest ρ => ∃ G' s5' s6', ρ = stS a b G' s4 s5' s6' ∧ anS s5' ∧ anS s6' ∧ rest.foldl inn G' = turn G ∧ Kp n C N G' ∧ ∀ t ∈ rest, smS t)
    (fun t rest ρ r => by
      obtain ⟨G', s5', s6', rfl, h5', h6', r1, k', r2⟩ := r
      obtain ⟨s7, e, h7⟩ := step2 (a := a) (b := b) (s4 := s4) hn hN' k' (r2 t List.mem_cons_self) h6'
      refine ⟨stS a b G' s4 (.sh (eS t)) s6', _, ?_, .inl e, _, _, _, rfl, .inr ⟨_, rfl⟩, h7, r1, k'.inn t, fun u hu => r2 u (List.mem_cons_of_mem _ hu)⟩
      rcases h5' with rfl | ⟨_, rfl⟩ <;> rfl)
    (xs := G) (ρ := stS a b G s4 s5 s6) ⟨G, s5, s6, rfl, h5, h6, rfl, k, k.sm hn⟩
  have r1 : G' = turn G := r1
  rw [r1] at e
  refine ⟨s5', s6', ?_, h5', h6'⟩
  unfold B1
  generalize B2 = B at e ⊢
  simp only [stS] at e ⊢
  simp [gFr_e, gVd_e, gSh_e, gVsR_e, gN_e, gTk_e, gC_e, gOp_e, gNil_e, gCons_e, gTup_e, gLst_e, gP0_e, gP1_e, gSl_e, gB_e, gNot_e, gAnd_e, gOr_e, gNotV_e, gAndV_e, gOrV_e, gIf_e, gTru_e, gCall_e, hN_e, hNil_e, hCons_e, hT_e, gIt_e, gR1_e, gR2_e, gYes_e, gLc_e, gLc2_e, gSeq_e, gNx_e, gBk_e, gCt_e, gNo_e, gSet_e, gRet_e, gRetN_e, gIfS_e, gDrop_e, gAsg_e, gFor_e, fnS_e, gF_e, gFM_e, gFK_e, gApp_e, gExt_e, gISet_e, gAppP_e, gExtP_e, gIsi_e, gZip_e, gListRev_e, gSortK_e, gNeg_e, gPar_e, gRaise_e, gHeard_e, op2, vD, vDs, frD, frDs, stO, putO, bks, plainS, mutS, permL, appS, extS, isetS, isOl, noMu, noScr, oD, lst?, Rs.sl, Rs.d, D.items, fList, e]
theorem c3 {a b : List Hk} (c : List Hk) : lcL [3] (hN 3) gYes (gFr (DL.gTup (DL.gCons (gVd (gOp fIx (gVsR 3) (gVd (gC (.int 0))))) (DL.gCons (gVd (gOp fIx (gVsR 3) (gVd (gC (.int 1))))) DL.gNil)))) (c.map eH) [.sh (eHs a), .sh (eHs b), .no, .no, .no, .no, .no, .no] = .ok (c.map fun x => eS (seg x)) [.sh (eHs a), .sh (eHs b), .no, .no, .no, .no, .no, .no] :=
  lcL_map fun x hx => ⟨[.sh (eHs a), .sh (eHs b), .no, .sh (eH x), .no, .no, .no, .no], _, [.sh (eHs a), .sh (eHs b), .no, .sh (eH x), .no, .no, .no, .no], rfl, rfl, by simp [gFr_e, gVd_e, gSh_e, gVsR_e, gN_e, gTk_e, gC_e, gOp_e, gNil_e, gCons_e, gTup_e, gLst_e, gP0_e, gP1_e, gSl_e, gB_e, gNot_e, gAnd_e, gOr_e, gNotV_e, gAndV_e, gOrV_e, gIf_e, gTru_e, gCall_e, hN_e, hNil_e, hCons_e, hT_e, gIt_e, gR1_e, gR2_e, gYes_e, gLc_e, gLc2_e, gSeq_e, gNx_e, gBk_e, gCt_e, gNo_e, gSet_e, gRet_e, gRetN_e, gIfS_e, gDrop_e, gAsg_e, gFor_e, fnS_e, gF_e, gFM_e, gFK_e, gApp_e, gExt_e, gISet_e, gAppP_e, gExtP_e, gIsi_e, gZip_e, gListRev_e, gSortK_e, gNeg_e, gPar_e, gRaise_e, gHeard_e, op2, vD, vDs, frD, frDs, stO, putO, bks, plainS, mutS, permL, appS, extS, isetS, isOl, noMu, noScr, oD, lst?, Rs.sl, Rs.d, D.items, eH, fIx, at0, at1, eS, seg], rfl⟩
theorem so_is {n : Int} {C : Int → Prop} {G : List St2} (hn : n ≤ 60) (k : Kp n C 24 G) : fSortSet [.lst (G.map eS)] = some (.ow (.lst ((sortU ltP G).map eS))) := by
  have e1 : pairsD (G.map eS) = some G := pairsD_map G
  have e2 : (decide (G.length < 64) && G.all smP) = true := by
    have := k.len
    rw [Bool.and_eq_true, decide_eq_true_eq, List.all_eq_true]
    refine ⟨by omega, fun s hs => ?_⟩
    have := k.wi s hs
    unfold smP
    simp only [Bool.and_eq_true, decide_eq_true_eq]
    omega
  unfold fSortSet
  simp only [e1]
  rw [if_pos e2]
  rfl
theorem kp0 {n : Int} {a b : List Hk} (ha : ∀ x ∈ a, Wi n x) (hb : ∀ x ∈ b, Wi n x) (la : a.length ≤ 12) (lb : b.length ≤ 12) : Kp n (cov ((srk (a ++ b)).map seg)) 24 ((a ++ b).map seg) := by
  have hw : ∀ x ∈ a ++ b, Wi n x := fun x hx => (List.mem_append.mp hx).elim (ha x) (hb x)
  have l0 : ((a ++ b).map seg).length ≤ 24 := by rw [List.length_map, List.length_append]; omega
  refine ⟨l0, fun s hs => ?_, fun p => ?_⟩
  · obtain ⟨x, hx, rfl⟩ := List.mem_map.mp hs
    exact hw x hx
  · unfold cov
    constructor
    · rintro ⟨s, hs, k⟩
      obtain ⟨x, hx, rfl⟩ := List.mem_map.mp hs
      exact ⟨_, List.mem_map_of_mem ((srk_perm _).mem_iff.mpr hx), k⟩
    · rintro ⟨s, hs, k⟩
      obtain ⟨x, hx, rfl⟩ := List.mem_map.mp hs
      exact ⟨_, List.mem_map_of_mem ((srk_perm _).mem_iff.mp hx), k⟩
theorem rg_len (k : Nat) : (rgD 0 k).length = k := by unfold rgD; rw [List.length_map, List.length_range]
theorem lawst_loop {n : Int} {C : Int → Prop} {a b : List Hk} {G0 : List St2} (hn : n ≤ 60) (k0 : Kp n C 24 G0) : ∃ G s4 s5 s6, forL (hN 4) B1 (rgD 0 (G0.length + 1)) (stS a b G0 .no .no .no) = .nx (stS a b G s4 s5 s6) ∧ Kp n C 24 G ∧ fixd G := by
  obtain ⟨ρ', e, G, s4, s5, s6, rfl, _, _, _, k, f⟩ := forL_rest (h := hN 4) (body := B1) (enc := id) (R := fun rest ρ => ∃ G s4 s5 s6, ρ = stS a b G s4 s5 s6 ∧ anS s4 ∧ anS s5 ∧ anS s6 ∧ Kp n C 24 G ∧ (fixd G ∨ G.length < rest.length))
    (fun t rest ρ r => by
      obtain ⟨G, s4, s5, s6, rfl, h4, h5, h6, k, f⟩ := r
      obtain ⟨s5', s6', e, h5', h6'⟩ := step1 (a := a) (b := b) (s4 := .sh t) (by omega) (by decide) k h5 h6
      refine ⟨stS a b G (.sh t) s5 s6, _, ?_, .inl e, _, _, _, _, rfl, .inr ⟨_, rfl⟩, h5', h6', k.turn, turn_fix f⟩
      rcases h4 with rfl | ⟨_, rfl⟩ <;> rfl)
    (xs := rgD 0 (G0.length + 1)) (ρ := stS a b G0 .no .no .no) ⟨_, _, _, _, rfl, .inl rfl, .inl rfl, .inl rfl, k0, .inr (by rw [rg_len]; omega)⟩
  rw [List.map_id] at e
  exact ⟨G, s4, s5, s6, e, k, f.elim id fun z => absurd z (by simp)⟩
theorem in62 {i : Int} (h1 : 0 ≤ i) (h2 : i ≤ 1001) : -4611686018427387904 ≤ i ∧ i < 4611686018427387904 := by omega
theorem tt (n : Nat) : n + 1 = ((n : Int) + 1).toNat := by omega
theorem k1 {n : Nat} : 0 ≤ (n : Int) + 1 := by omega
theorem k2 {n : Nat} (h : n ≤ 1000) : (n : Int) + 1 ≤ 1001 := by omega
theorem r1j {f : GA} {ρ : List Sl} {j : Int} (h : f ρ = .ok [.vd (.int j)] ρ) (z : -4611686018427387904 ≤ j ∧ j < 4611686018427387904) : gR1 f ρ = .ok (rgD 0 j.toNat) ρ := by
  rw [gR1_e, h]
  exact if_pos z
theorem r1a {f : GA} {ρ : List Sl} {n : Nat} (h : f ρ = .ok [.vd (.int ((n : Int) + 1))] ρ) (hn : n ≤ 1000) : gR1 f ρ = .ok (rgD 0 (n + 1)) ρ := by
  have e := r1j h (in62 k1 (k2 hn))
  rw [← tt n] at e
  exact e
theorem ls1 {a b : List Hk} {G0 : List St2} (la : a.length ≤ 12) (lb : b.length ≤ 12) (c : lcL [3] (hN 3) gYes (gFr (DL.gTup (DL.gCons (gVd (gOp fIx (gVsR 3) (gVd (gC (.int 0))))) (DL.gCons (gVd (gOp fIx (gVsR 3) (gVd (gC (.int 1))))) DL.gNil)))) (a.map eH ++ b.map eH) [.sh (eHs a), .sh (eHs b), .no, .no, .no, .no, .no, .no] = .ok (G0.map eS) [.sh (eHs a), .sh (eHs b), .no, .no, .no, .no, .no, .no]) : (DL.gSet 2 (DL.gLc [3] (gIt (gOp fAdd (gVsR 0) (gVsR 1))) (hN 3) gYes (gFr (DL.gTup (DL.gCons (gVd (gOp fIx (gVsR 3) (gVd (gC (.int 0))))) (DL.gCons (gVd (gOp fIx (gVsR 3) (gVd (gC (.int 1))))) DL.gNil)))))) [.sh (eHs a), .sh (eHs b), .no, .no, .no, .no, .no, .no] = .nx (stS a b G0 .no .no .no) := by
  have z1 : a.length + b.length ≤ 1000000 := by omega
  simp only [eHs] at c
  simp [gFr_e, gVd_e, gSh_e, gVsR_e, gN_e, gTk_e, gC_e, gOp_e, gNil_e, gCons_e, gTup_e, gLst_e, gP0_e, gP1_e, gSl_e, gB_e, gNot_e, gAnd_e, gOr_e, gNotV_e, gAndV_e, gOrV_e, gIf_e, gTru_e, gCall_e, hN_e, hNil_e, hCons_e, hT_e, gIt_e, gR1_e, gR2_e, gYes_e, gLc_e, gLc2_e, gSeq_e, gNx_e, gBk_e, gCt_e, gNo_e, gSet_e, gRet_e, gRetN_e, gIfS_e, gDrop_e, gAsg_e, gFor_e, fnS_e, gF_e, gFM_e, gFK_e, gApp_e, gExt_e, gISet_e, gAppP_e, gExtP_e, gIsi_e, gZip_e, gListRev_e, gSortK_e, gNeg_e, gPar_e, gRaise_e, gHeard_e, op2, vD, vDs, frD, frDs, stO, putO, bks, plainS, mutS, permL, appS, extS, isetS, isOl, noMu, noScr, oD, lst?, Rs.sl, Rs.d, D.items, stS, eHs, fAdd, z1, wipeS, unw, c]
theorem ls2 {a b : List Hk} {B : GS} {G0 G : List St2} {s4 s5 s6 : Sl} (hl : G0.length ≤ 24) (e : forL (hN 4) B (rgD 0 (G0.length + 1)) (stS a b G0 .no .no .no) = .nx (stS a b G s4 s5 s6)) : (DL.gFor (gR1 (DL.gCons (gVd (gOp fAdd (gVd (gCall fLen (DL.gCons (gVsR 2) DL.gNil))) (gVd (gC (.int 1))))) DL.gNil)) (hN 4) B) (stS a b G0 .no .no .no) = .nx (stS a b G s4 s5 s6) := by
  rw [gFor_e, r1a (n := G0.length) (by simp [gFr_e, gVd_e, gSh_e, gVsR_e, gN_e, gTk_e, gC_e, gOp_e, gNil_e, gCons_e, gTup_e, gLst_e, gP0_e, gP1_e, gSl_e, gB_e, gNot_e, gAnd_e, gOr_e, gNotV_e, gAndV_e, gOrV_e, gIf_e, gTru_e, gCall_e, hN_e, hNil_e, hCons_e, hT_e, gIt_e, gR1_e, gR2_e, gYes_e, gLc_e, gLc2_e, gSeq_e, gNx_e, gBk_e, gCt_e, gNo_e, gSet_e, gRet_e, gRetN_e, gIfS_e, gDrop_e, gAsg_e, gFor_e, fnS_e, gF_e, gFM_e, gFK_e, gApp_e, gExt_e, gISet_e, gAppP_e, gExtP_e, gIsi_e, gZip_e, gListRev_e, gSortK_e, gNeg_e, gPar_e, gRaise_e, gHeard_e, op2, vD, vDs, frD, frDs, stO, putO, bks, plainS, mutS, permL, appS, extS, isetS, isOl, noMu, noScr, oD, lst?, Rs.sl, Rs.d, D.items, stS, fLen, fAdd]) (by omega)]
  exact e
theorem ls3 {a b : List Hk} {G R : List St2} {s4 s5 s6 : Sl} (so : fSortSet [.lst (G.map eS)] = some (.ow (.lst (R.map eS)))) : (DL.gRet (gCall fSortSet (DL.gCons (gVsR 2) DL.gNil))) (stS a b G s4 s5 s6) = .rt (.ow (.lst (R.map eS))) (stS a b G s4 s5 s6) := by
  simp [gFr_e, gVd_e, gSh_e, gVsR_e, gN_e, gTk_e, gC_e, gOp_e, gNil_e, gCons_e, gTup_e, gLst_e, gP0_e, gP1_e, gSl_e, gB_e, gNot_e, gAnd_e, gOr_e, gNotV_e, gAndV_e, gOrV_e, gIf_e, gTru_e, gCall_e, hN_e, hNil_e, hCons_e, hT_e, gIt_e, gR1_e, gR2_e, gYes_e, gLc_e, gLc2_e, gSeq_e, gNx_e, gBk_e, gCt_e, gNo_e, gSet_e, gRet_e, gRetN_e, gIfS_e, gDrop_e, gAsg_e, gFor_e, fnS_e, gF_e, gFM_e, gFK_e, gApp_e, gExt_e, gISet_e, gAppP_e, gExtP_e, gIsi_e, gZip_e, gListRev_e, gSortK_e, gNeg_e, gPar_e, gRaise_e, gHeard_e, op2, vD, vDs, frD, frDs, stO, putO, bks, plainS, mutS, permL, appS, extS, isetS, isOl, noMu, noScr, oD, lst?, Rs.sl, Rs.d, D.items, stS, so]
theorem lfin {F1 F2 F3 : GS} {R : D} {a b : List Hk} {G0 G : List St2} {s4 s5 s6 : Sl} (s1 : F1 [.sh (eHs a), .sh (eHs b), .no, .no, .no, .no, .no, .no] = .nx (stS a b G0 .no .no .no)) (s2 : F2 (stS a b G0 .no .no .no) = .nx (stS a b G s4 s5 s6)) (s3 : F3 (stS a b G s4 s5 s6) = .rt (.ow R) (stS a b G s4 s5 s6)) : fnS 6 (DL.gSeq F1 (DL.gSeq F2 F3)) [.sh (eHs a), .sh (eHs b)] = .ok (.ow R) [.sh (eHs a), .sh (eHs b)] := by
  have e0 : [Sl.sh (eHs a), Sl.sh (eHs b)] ++ List.replicate 6 Sl.no = [.sh (eHs a), .sh (eHs b), .no, .no, .no, .no, .no, .no] := rfl
  rw [fnS_e, e0]
  simp only [gSeq_e, s1, s2, s3]
  simp [gFr_e, gVd_e, gSh_e, gVsR_e, gN_e, gTk_e, gC_e, gOp_e, gNil_e, gCons_e, gTup_e, gLst_e, gP0_e, gP1_e, gSl_e, gB_e, gNot_e, gAnd_e, gOr_e, gNotV_e, gAndV_e, gOrV_e, gIf_e, gTru_e, gCall_e, hN_e, hNil_e, hCons_e, hT_e, gIt_e, gR1_e, gR2_e, gYes_e, gLc_e, gLc2_e, gSeq_e, gNx_e, gBk_e, gCt_e, gNo_e, gSet_e, gRet_e, gRetN_e, gIfS_e, gDrop_e, gAsg_e, gFor_e, fnS_e, gF_e, gFM_e, gFK_e, gApp_e, gExt_e, gISet_e, gAppP_e, gExtP_e, gIsi_e, gZip_e, gListRev_e, gSortK_e, gNeg_e, gPar_e, gRaise_e, gHeard_e, op2, vD, vDs, frD, frDs, stO, putO, bks, plainS, mutS, permL, appS, extS, isetS, isOl, noMu, noScr, oD, lst?, Rs.sl, Rs.d, D.items, stS]
theorem ev_law_stretches {n : Int} {a b : List Hk} (hn : n ≤ 60) (ha : ∀ x ∈ a, Wi n x) (hb : ∀ x ∈ b, Wi n x) (la : a.length ≤ 12) (lb : b.length ≤ 12) : sem__law_stretches [.sh (eHs a), .sh (eHs b)] = .ok (.ow (.lst ((stretches (srk (a ++ b))).map eS))) [.sh (eHs a), .sh (eHs b)] := by
  have k0 := kp0 ha hb la lb
  obtain ⟨G, s4, s5, s6, e, k, f⟩ := lawst_loop (a := a) (b := b) hn k0
  have hs : ∀ x ∈ srk (a ++ b), Wi n x := fun x hx => (List.mem_append.mp ((srk_perm _).mem_iff.mp hx)).elim (ha x) (hb x)
  have so := so_is hn k
  rw [joined_is hs (srk_up _) k f] at so
  have c := c3 (a := a) (b := b) (a ++ b)
  have m : ((a ++ b).map fun x => eS (seg x)) = ((a ++ b).map seg).map eS := by rw [List.map_map]; rfl
  rw [m, List.map_append] at c
  exact lfin (ls1 la lb c) (ls2 k0.len e) (ls3 so)
end K62
end
section
set_option Elab.async false
set_option linter.all false
set_option maxRecDepth 100000
set_option maxHeartbeats 4000000
/-! K62m12: what the parts tell: plain laws. -/
namespace K62
open PySem DL
theorem take_add' {α : Type} (l : List α) (i j : Nat) : l.take (i + j) = l.take i ++ (l.drop i).take j := List.take_add
theorem fwd_from {p m : Int} {rows : List Int} {B : List Hk} (h0 : p ≤ m) (h : ∀ x ∈ B, m ≤ x.1 ∧ x.1 ≤ x.2.1) : fwd p rows B = rows.take (m - p).toNat ++ fwd m (rows.drop (m - p).toNat) B := by
  cases B with
  | nil => simp [fwd]
  | cons x B =>
    obtain ⟨h1, h2⟩ := h x List.mem_cons_self
    simp only [fwd]
    have e1 : (x.1 - p).toNat = (m - p).toNat + (x.1 - m).toNat := by omega
    have e2 : (m - p).toNat + (x.2.1 - m).toNat = (x.2.1 - p).toNat := by omega
    rw [e1, take_add', List.drop_drop, e2, List.append_assoc]
theorem fwd_cat {n : Int} {B : List Hk} : ∀ {A : List Hk} {p m : Int} {rows : List Int}, p ≤ m → Vd p m A → (∀ x ∈ B, m ≤ x.1 ∧ x.1 ≤ x.2.1) → fwd p rows (A ++ B) = fwd p (rows.take (m - p).toNat) A ++ fwd m (rows.drop (m - p).toNat) B
  | [], p, m, rows, h0, _, h => fwd_from h0 h
  | x :: A, p, m, rows, h0, ⟨v1, v2, v3, v4, v5⟩, h => by
    have ih := fwd_cat (n := n) (B := B) (A := A) (p := x.2.1) (m := m) (rows := rows.drop (x.2.1 - p).toNat) v3 (v5.mono (by omega)) h
    rw [List.cons_append]
    simp only [fwd]
    rw [ih, List.take_take, List.drop_take, List.drop_drop]
    have e1 : min (x.1 - p).toNat (m - p).toNat = (x.1 - p).toNat := by omega
    have e2 : (m - p).toNat - (x.2.1 - p).toNat = (m - x.2.1).toNat := by omega
    have e3 : (x.2.1 - p).toNat + (m - x.2.1).toNat = (m - p).toNat := by omega
    rw [e1, e2, e3, List.append_assoc, List.append_assoc]
def pcs (base : List Int) (h : St2 → List Int) : Int → List St2 → List Int
  | at_, [] => base.drop at_.toNat
  | at_, s :: r => cut base at_ s.1 ++ (h s ++ pcs base h s.2 r)
theorem pcs_congr {base : List Int} {h k : St2 → List Int} : ∀ {ss : List St2} {at_ : Int}, (∀ s ∈ ss, h s = k s) → pcs base h at_ ss = pcs base k at_ ss
  | [], _, _ => rfl
  | s :: ss, at_, e => by
    simp only [pcs]
    rw [e s List.mem_cons_self, pcs_congr fun t ht => e t (List.mem_cons_of_mem _ ht)]
theorem cut_drop' {base : List Int} {i j : Int} (h0 : 0 ≤ i) (h1 : i ≤ j) : cut base i j ++ base.drop j.toNat = base.drop i.toNat := by
  unfold cut
  have e : j.toNat = i.toNat + (j - i).toNat := by omega
  rw [e, ← List.drop_drop, List.take_append_drop]
theorem pcs_base {base : List Int} {n : Int} : ∀ {ss : List St2} {at_ : Int}, 0 ≤ at_ → So n at_ ss → pcs base (fun s => cut base s.1 s.2) at_ ss = base.drop at_.toNat
  | [], _, _, _ => rfl
  | s :: ss, at_, h0, ⟨h1, h2, h3, h4⟩ => by
    simp only [pcs]
    rw [pcs_base (by omega) h4, cut_drop' (by omega) h2, cut_drop' h0 h1]
theorem split_in {n : Int} {s : St2} : ∀ {a : List Hk} {t : Int}, Vd t n a → (∀ x ∈ a, inS s x = true ∨ s.2 < x.1) → a = a.filter (inS s) ++ a.filter fun x => !inS s x
  | [], _, _, _ => rfl
  | x :: a, t, v, h => by
    have ih := split_in v.tail fun y hy => h y (List.mem_cons_of_mem _ hy)
    cases q : inS s x with
    | true =>
      rw [List.filter_cons_of_pos q, List.filter_cons_of_neg (by simp [q]), List.cons_append, ← ih]
    | false =>
      have hx : s.2 < x.1 := (h x List.mem_cons_self).elim (fun z => by rw [q] at z; cases z) id
      have vx := v.2.1
      have no : ∀ y ∈ a, inS s y = false := fun y hy => by
        have k := v.tail.mem y hy
        cases r : inS s y with
        | false => rfl
        | true =>
          have := inS_is r
          omega
      have f1 : a.filter (inS s) = [] := List.filter_eq_nil_iff.mpr fun y hy => by simp [no y hy]
      have f2 : a.filter (fun x => !inS s x) = a := List.filter_eq_self.mpr fun y hy => by simp [no y hy]
      rw [List.filter_cons_of_neg (by simp [q]), List.filter_cons_of_pos (by simp [q]), f1, f2]
      rfl
theorem pcs_fwd {base : List Int} {n : Int} : ∀ {ss : List St2} {at_ : Int} {a : List Hk}, 0 ≤ at_ → So n at_ ss → ss.Pairwise apS → Vd at_ n a → (∀ x ∈ a, ∃ s ∈ ss, inS s x = true) → pcs base (fun s => fwd s.1 (cut base s.1 s.2) (a.filter (inS s))) at_ ss = fwd at_ (base.drop at_.toNat) a
  | [], at_, a, _, _, _, _, h => by
    have : a = [] := by
      cases a with
      | nil => rfl
      | cons x a =>
        obtain ⟨s, hs, _⟩ := h x List.mem_cons_self
        exact absurd hs (by simp)
    subst this
    rfl
  | s :: ss, at_, a, h0, ⟨h1, h2, h3, h4⟩, hp, v, h => by
    obtain ⟨p1, p2⟩ := List.pairwise_cons.mp hp
    have w : ∀ x ∈ a, x.1 ≤ x.2.1 := fun x hx => (v.mem x hx).2.1
    have hx : ∀ x ∈ a, inS s x = true ∨ s.2 < x.1 := fun x hx => by
      obtain ⟨t, ht, q⟩ := h x hx
      rcases List.mem_cons.mp ht with rfl | ht
      · exact .inl q
      · right
        have k := p1 t ht
        have := inS_is q
        unfold apS at k
        omega
    have hlow : ∀ x ∈ a, s.1 ≤ x.1 ∧ x.1 ≤ x.2.1 := fun x k => ⟨by
      rcases hx x k with z | z
      · exact (inS_is z).1
      · omega, w x k⟩
    have sp := split_in v hx
    have vB : Vd s.2 n (a.filter fun x => !inS s x) := (v.filt fun x hx _ => (v.mem x hx).2.2.1).start fun x hx' => by
      obtain ⟨k1, k2⟩ := List.mem_filter.mp hx'
      rcases hx x k1 with z | z
      · rw [z] at k2; cases k2
      · omega
    have ih := pcs_fwd (base := base) (ss := ss) (at_ := s.2) (a := a.filter fun x => !inS s x) (by omega) h4 p2 vB fun x hx' => by
      obtain ⟨k1, k2⟩ := List.mem_filter.mp hx'
      obtain ⟨t, ht, q⟩ := h x k1
      rcases List.mem_cons.mp ht with rfl | ht
      · rw [q] at k2; cases k2
      · exact ⟨t, ht, q⟩
    have cg : pcs base (fun t => fwd t.1 (cut base t.1 t.2) (a.filter (inS t))) s.2 ss = pcs base (fun t => fwd t.1 (cut base t.1 t.2) ((a.filter fun x => !inS s x).filter (inS t))) s.2 ss := pcs_congr fun t ht => by
      rw [List.filter_filter]
      congr 1
      refine List.filter_congr fun x hx => ?_
      cases q : inS t x with
      | false => rfl
      | true =>
        have k := p1 t ht
        have k2 := inS_is q
        unfold apS at k
        have k3 := w x hx
        have : inS s x = false := by
          cases r : inS s x with
          | false => rfl
          | true =>
            have := inS_is r
            omega
        rw [this]
        rfl
    simp only [pcs]
    rw [cg, ih, fwd_from (m := s.1) h1 hlow]
    conv => rhs; rw [sp]
    rw [fwd_cat (n := n) (m := s.2) h2 v.filter (fun x hx => ⟨(vB.mem x hx).1, (vB.mem x hx).2.1⟩)]
    rw [List.drop_drop, List.drop_drop]
    have e1 : at_.toNat + (s.1 - at_).toNat = s.1.toNat := by omega
    have e2 : at_.toNat + ((s.1 - at_).toNat + (s.2 - s.1).toNat) = s.2.toNat := by omega
    have e3 : s.1.toNat + (s.2 - s.1).toNat = s.2.toNat := by omega
    first
      | rw [e1, e3]
      | rw [e1, e2]
    rfl
/-! ### parts -/
def p1 (p : Part) : List Int := p.2.getD 0 []
def p2 (p : Part) : List Int := p.2.getD 1 []
def ourP (p : Part) : List Int := if p.1 = "ours" ∨ p.1 = "alike" ∨ p.1 = "clash" then p2 p else p1 p
def theP (p : Part) : List Int := if p.1 = "theirs" ∨ p.1 = "alike" ∨ p.1 = "clash" then lastP p else p1 p
theorem pts_flat {base : List Int} {a b : List Hk} {n : Int} {f : Part → List Int} {h : St2 → List Int} (hs : ∀ r, f ("same", [r]) = r) (hn : n = base.length) : ∀ {ss : List St2} {at_ : Int}, 0 ≤ at_ → So n at_ ss → (∀ s ∈ ss, f (part base a b s) = h s) → ((pts base a b at_ ss).map f).flatten = pcs base h at_ ss
  | [], at_, h0, _, _ => by
    rw [pts, pcs]
    split
    · simp [hs]
    · rw [List.drop_of_length_le (by omega)]
      rfl
  | s :: ss, at_, h0, ⟨h1, h2, h3, h4⟩, hp => by
    have ih := pts_flat (f := f) (h := h) (a := a) (b := b) hs hn (ss := ss) (at_ := s.2) (by omega) h4 fun t ht => hp t (List.mem_cons_of_mem _ ht)
    rw [pts, pcs, List.map_append, List.flatten_append, List.map_cons, List.flatten_cons, ih, hp s List.mem_cons_self]
    split
    · simp [hs]
    · have e : at_ = s.1 := by omega
      subst e
      simp [cut]
theorem ourP_part {base : List Int} {a b : List Hk} {s : St2} : ourP (part base a b s) = fwd s.1 (cut base s.1 s.2) (a.filter (inS s)) := by
  unfold part
  simp only
  split
  · rfl
  · split
    · rename_i h1 h2
      rw [h2]
      rfl
    · split
      · rfl
      · rfl
theorem theP_part {base : List Int} {a b : List Hk} {s : St2} : theP (part base a b s) = fwd s.1 (cut base s.1 s.2) (b.filter (inS s)) := by
  unfold part
  simp only
  split
  · rename_i h1
    rw [h1]
    rfl
  · split
    · rfl
    · split
      · rename_i h1 h2 h3
        rw [← h3]
        rfl
      · rfl
theorem p1_part {base : List Int} {a b : List Hk} {s : St2} : p1 (part base a b s) = cut base s.1 s.2 := by
  unfold part
  simp only
  split
  · rfl
  · split
    · rfl
    · split <;> rfl
/-- what parts look like -/
def Gp (p : Part) : Prop := (p.1 = "same" ∧ ∃ r, p.2 = [r]) ∨ ((p.1 = "ours" ∨ p.1 = "theirs" ∨ p.1 = "alike") ∧ ∃ r x, p.2 = [r, x]) ∨ (p.1 = "clash" ∧ ∃ r x y, p.2 = [r, x, y])
theorem Gp_part {base : List Int} {a b : List Hk} {s : St2} : Gp (part base a b s) := by
  unfold part
  simp only
  split
  · exact .inr (.inl ⟨.inl rfl, _, _, rfl⟩)
  · split
    · exact .inr (.inl ⟨.inr (.inl rfl), _, _, rfl⟩)
    · split
      · exact .inr (.inl ⟨.inr (.inr rfl), _, _, rfl⟩)
      · exact .inr (.inr ⟨rfl, _, _, _, rfl⟩)
theorem Gp_pts {base : List Int} {a b : List Hk} (ss : List St2) (at_ : Int) : ∀ p ∈ pts base a b at_ ss, Gp p := pts_each (fun _ => .inl ⟨rfl, _, rfl⟩) (fun _ _ => .inl ⟨rfl, _, rfl⟩) (fun _ => Gp_part) ss at_
/-! ### the words exchanged -/
def swW (w : String) : String := if w = "ours" then "theirs" else if w = "theirs" then "ours" else w
def exP (p : Part) : Part := if p.1 = "clash" then (p.1, [p1 p, lastP p, p2 p]) else (swW p.1, p.2)
theorem exP_part {base : List Int} {a b : List Hk} {s : St2} (h : (a.filter (inS s) ≠ [] ∨ b.filter (inS s) ≠ [])) : exP (part base a b s) = part base b a s := by
  unfold part
  simp only
  by_cases h1 : b.filter (inS s) = []
  · have h2 : a.filter (inS s) ≠ [] := h.elim id fun z => absurd h1 z
    rw [if_pos h1, if_neg h2, if_pos h1]
    rfl
  · by_cases h2 : a.filter (inS s) = []
    · rw [if_neg h1, if_pos h2, if_pos h2]
      rfl
    · by_cases h3 : a.filter (inS s) = b.filter (inS s)
      · rw [if_neg h1, if_neg h2, if_pos h3, if_neg h2, if_neg h1, if_pos h3.symm, h3]
        rfl
      · rw [if_neg h1, if_neg h2, if_neg h3, if_neg h2, if_neg h1, if_neg (Ne.symm h3)]
        rfl
theorem stq_holds : ∀ (r : List Hk) (c : St2), ∀ s ∈ stq c r, (s.1 ≤ c.1 ∧ c.2 ≤ s.2) ∨ ∃ x ∈ r, inS s x = true
  | [], c, s, hs => by
    rw [stq, List.mem_singleton] at hs
    subst hs
    exact .inl ⟨Int.le_refl _, Int.le_refl _⟩
  | x :: r, c, s, hs => by
    rw [stq] at hs
    split at hs
    · rcases stq_holds r _ s hs with h | ⟨y, hy, h⟩
      · left
        simp only at h
        refine ⟨h.1, ?_⟩
        have := h.2
        split at this <;> omega
      · exact .inr ⟨y, List.mem_cons_of_mem _ hy, h⟩
    · rcases List.mem_cons.mp hs with rfl | hs
      · exact .inl ⟨Int.le_refl _, Int.le_refl _⟩
      · rcases stq_holds r _ s hs with h | ⟨y, hy, h⟩
        · refine .inr ⟨x, List.mem_cons_self, ?_⟩
          simp only at h
          unfold inS
          simp
          exact h
        · exact .inr ⟨y, List.mem_cons_of_mem _ hy, h⟩
theorem stretches_holds {S : List Hk} : ∀ s ∈ stretches S, ∃ x ∈ S, inS s x = true := fun s hs => by
  cases S with
  | nil => exact absurd hs (by simp [stretches])
  | cons x r =>
    rcases stq_holds r (x.1, x.2.1) s hs with h | ⟨y, hy, h⟩
    · refine ⟨x, List.mem_cons_self, ?_⟩
      simp only at h
      unfold inS
      simp
      exact h
    · exact ⟨y, List.mem_cons_of_mem _ hy, h⟩
theorem exP_same (r : List Int) : exP ("same", [r]) = ("same", [r]) := rfl
theorem exP_pts {base : List Int} {a b : List Hk} : ∀ {ss : List St2} {at_ : Int}, (∀ s ∈ ss, a.filter (inS s) ≠ [] ∨ b.filter (inS s) ≠ []) → (pts base a b at_ ss).map exP = pts base b a at_ ss
  | [], at_, _ => by
    rw [pts, pts]
    split <;> rfl
  | s :: ss, at_, h => by
    have ih := exP_pts (base := base) (ss := ss) (at_ := s.2) fun t ht => h t (List.mem_cons_of_mem _ ht)
    rw [pts, pts, List.map_append, List.map_cons, ih, exP_part (h s List.mem_cons_self)]
    congr 1
    split <;> rfl
end K62
end
section
set_option Elab.async false
set_option linter.all false
set_option maxRecDepth 100000
set_option maxHeartbeats 4000000
/-! K62m13: base_of, ours_of, theirs_of, _law_exchanged. -/
namespace K62
open PySem DL
theorem okp_str {s : Str} (h : PyData.strOk s = true) : (D.str s).okp = true := by simp [D.okp, D.pure, SeqAt.shaped, D.py, PyData.canLay0, PyData.depth, h]
theorem okp_3 {x y z : Str} (hx : PyData.strOk x = true) (hy : PyData.strOk y = true) (hz : PyData.strOk z = true) : (D.tup [.str x, .str y, .str z]).okp = true := by
  simp [D.okp, D.pure, D.pures, SeqAt.shaped, D.py, D.pys, PyData.canLay0, PyData.canLayAll0, PyData.depth, PyData.depthAll, hx, hy, hz]
theorem in3' {x y z w : Str} (hx : PyData.strOk x = true) (hy : PyData.strOk y = true) (hz : PyData.strOk z = true) (hw : PyData.strOk w = true) : fIn false (.str w) (.tup [.str x, .str y, .str z]) = some (.sh (.bl (x == w || (y == w || z == w)))) := by
  have e1 := okp_str hw
  have e2 := okp_3 hx hy hz
  unfold fIn
  show (if (D.str w).okp && (D.tup [.str x, .str y, .str z]).okp then some (Rs.sh (.bl (inD (.str w) [.str x, .str y, .str z]))) else none) = _
  rw [e1, e2, if_pos (by rfl)]
  simp [inD, D.eqv, D.py, PyData.eqv]
theorem k_same : PyData.strOk (Str.ofString "same") = true := by decide +kernel
theorem k_ours : PyData.strOk (Str.ofString "ours") = true := by decide +kernel
theorem k_theirs : PyData.strOk (Str.ofString "theirs") = true := by decide +kernel
theorem k_alike : PyData.strOk (Str.ofString "alike") = true := by decide +kernel
theorem k_clash : PyData.strOk (Str.ofString "clash") = true := by decide +kernel
theorem in3o {w : Str} (hw : PyData.strOk w = true) : fIn false (.str w) (.tup [.str (Str.ofString "ours"), .str (Str.ofString "alike"), .str (Str.ofString "clash")]) = some (.sh (.bl (Str.ofString "ours" == w || (Str.ofString "alike" == w || Str.ofString "clash" == w)))) := in3' k_ours k_alike k_clash hw
theorem in3t {w : Str} (hw : PyData.strOk w = true) : fIn false (.str w) (.tup [.str (Str.ofString "theirs"), .str (Str.ofString "alike"), .str (Str.ofString "clash")]) = some (.sh (.bl (Str.ofString "theirs" == w || (Str.ofString "alike" == w || Str.ofString "clash" == w)))) := in3' k_theirs k_alike k_clash hw
theorem a21' (x y : D) : L2.atI [x, y] 1 = some y := rfl
theorem a20' (x y : D) : L2.atI [x, y] 0 = some x := rfl
theorem a2m (x y : D) : L2.atI [x, y] (-1) = some y := rfl
theorem a3m (x y z : D) : L2.atI [x, y, z] (-1) = some z := rfl
theorem a4m (x y z w : D) : L2.atI [x, y, z, w] (-1) = some w := rfl
theorem a40 (x y z w : D) : L2.atI [x, y, z, w] 0 = some x := rfl
theorem a41 (x y z w : D) : L2.atI [x, y, z, w] 1 = some y := rfl
theorem a42 (x y z w : D) : L2.atI [x, y, z, w] 2 = some z := rfl
theorem a43 (x y z w : D) : L2.atI [x, y, z, w] 3 = some w := rfl
theorem w1 : (Str.ofString "ours" == Str.ofString "same") = false := by decide
theorem w2 : (Str.ofString "alike" == Str.ofString "same") = false := by decide
theorem w3 : (Str.ofString "clash" == Str.ofString "same") = false := by decide
theorem w4 : (Str.ofString "theirs" == Str.ofString "same") = false := by decide
theorem w5 : (Str.ofString "ours" == Str.ofString "theirs") = false := by decide
theorem w6 : (Str.ofString "alike" == Str.ofString "theirs") = false := by decide
theorem w7 : (Str.ofString "clash" == Str.ofString "theirs") = false := by decide
theorem w8 : (Str.ofString "theirs" == Str.ofString "ours") = false := by decide
theorem w9 : (Str.ofString "alike" == Str.ofString "ours") = false := by decide
theorem w10 : (Str.ofString "clash" == Str.ofString "ours") = false := by decide
theorem w11 : (Str.ofString "same" == Str.ofString "clash") = false := by decide
theorem w12 : (Str.ofString "ours" == Str.ofString "clash") = false := by decide
theorem w13 : (Str.ofString "theirs" == Str.ofString "clash") = false := by decide
theorem w14 : (Str.ofString "alike" == Str.ofString "clash") = false := by decide
theorem w15 : (Str.ofString "same" == Str.ofString "ours") = false := by decide
theorem w16 : (Str.ofString "same" == Str.ofString "theirs") = false := by decide
theorem w17 : (Str.ofString "alike" == Str.ofString "ours") = false := by decide
abbrev dP (w : String) (l : List (List Int)) : D := .tup (.str (Str.ofString w) :: l.map eR)
theorem el_base {p : Part} (h : Gp p) (s0 : Sl) : (gFr (gOp fIx (gVsR 1) (gVd (gC (.int 1))))) [s0, .sh (eP p)] = .ok (eR (p1 p)) [s0, .sh (eP p)] := by
  obtain ⟨w, l⟩ := p
  rcases h with ⟨rfl, r, h⟩ | ⟨hw, r, x, h⟩ | ⟨rfl, r, x, y, h⟩ <;> simp only at h <;> subst h <;> simp [gFr_e, gVd_e, gSh_e, gVsR_e, gN_e, gTk_e, gC_e, gOp_e, gNil_e, gCons_e, gTup_e, gLst_e, gP0_e, gP1_e, gSl_e, gB_e, gNot_e, gAnd_e, gOr_e, gNotV_e, gAndV_e, gOrV_e, gIf_e, gTru_e, gCall_e, hN_e, hNil_e, hCons_e, hT_e, gIt_e, gR1_e, gR2_e, gYes_e, gLc_e, gLc2_e, gSeq_e, gNx_e, gBk_e, gCt_e, gNo_e, gSet_e, gRet_e, gRetN_e, gIfS_e, gDrop_e, gAsg_e, gFor_e, fnS_e, gF_e, gFM_e, gFK_e, gApp_e, gExt_e, gISet_e, gAppP_e, gExtP_e, gIsi_e, gZip_e, gListRev_e, gSortK_e, gNeg_e, gPar_e, gRaise_e, gHeard_e, op2, vD, vDs, frD, frDs, stO, putO, bks, plainS, mutS, permL, appS, extS, isetS, isOl, noMu, noScr, oD, lst?, Rs.sl, Rs.d, D.items, fIx, eP, p1, a20', a21', a30, a31, a41]
abbrev elO : GE := gFr (gIf (gB (gOp (fIn false) (gVd (gOp fIx (gVsR 1) (gVd (gC (.int 0))))) (gVd (DL.gTup (DL.gCons (gVd (gC (.str "ours"))) (DL.gCons (gVd (gC (.str "alike"))) (DL.gCons (gVd (gC (.str "clash"))) DL.gNil))))))) (gOp fIx (gVsR 1) (gVd (gC (.int 2)))) (gOp fIx (gVsR 1) (gVd (gC (.int 1)))))
theorem el_ours {p : Part} (h : Gp p) (s0 : Sl) : elO [s0, .sh (eP p)] = .ok (eR (ourP p)) [s0, .sh (eP p)] := by
  obtain ⟨w, l⟩ := p
  rcases h with ⟨rfl, r, h⟩ | ⟨rfl | rfl | rfl, r, x, h⟩ | ⟨rfl, r, x, y, h⟩ <;> simp only at h <;> subst h <;> simp [gFr_e, gVd_e, gSh_e, gVsR_e, gN_e, gTk_e, gC_e, gOp_e, gNil_e, gCons_e, gTup_e, gLst_e, gP0_e, gP1_e, gSl_e, gB_e, gNot_e, gAnd_e, gOr_e, gNotV_e, gAndV_e, gOrV_e, gIf_e, gTru_e, gCall_e, hN_e, hNil_e, hCons_e, hT_e, gIt_e, gR1_e, gR2_e, gYes_e, gLc_e, gLc2_e, gSeq_e, gNx_e, gBk_e, gCt_e, gNo_e, gSet_e, gRet_e, gRetN_e, gIfS_e, gDrop_e, gAsg_e, gFor_e, fnS_e, gF_e, gFM_e, gFK_e, gApp_e, gExt_e, gISet_e, gAppP_e, gExtP_e, gIsi_e, gZip_e, gListRev_e, gSortK_e, gNeg_e, gPar_e, gRaise_e, gHeard_e, op2, vD, vDs, frD, frDs, stO, putO, bks, plainS, mutS, permL, appS, extS, isetS, isOl, noMu, noScr, oD, lst?, Rs.sl, Rs.d, D.items, fIx, eP, ourP, p1, p2, a20', a21', a30, a31, a32, a40, a41, a42, in3o, in3t, k_same, k_ours, k_theirs, k_alike, k_clash, w1, w2, w3, w5, w6, w7]
abbrev elT : GE := gFr (gIf (gB (gOp (fIn false) (gVd (gOp fIx (gVsR 1) (gVd (gC (.int 0))))) (gVd (DL.gTup (DL.gCons (gVd (gC (.str "theirs"))) (DL.gCons (gVd (gC (.str "alike"))) (DL.gCons (gVd (gC (.str "clash"))) DL.gNil))))))) (gOp fIx (gVsR 1) (gVd (gNeg (gVd (gC (.int 1)))))) (gOp fIx (gVsR 1) (gVd (gC (.int 1)))))
theorem el_theirs {p : Part} (h : Gp p) (s0 : Sl) : elT [s0, .sh (eP p)] = .ok (eR (theP p)) [s0, .sh (eP p)] := by
  obtain ⟨w, l⟩ := p
  rcases h with ⟨rfl, r, h⟩ | ⟨rfl | rfl | rfl, r, x, h⟩ | ⟨rfl, r, x, y, h⟩ <;> simp only at h <;> subst h <;> simp [gFr_e, gVd_e, gSh_e, gVsR_e, gN_e, gTk_e, gC_e, gOp_e, gNil_e, gCons_e, gTup_e, gLst_e, gP0_e, gP1_e, gSl_e, gB_e, gNot_e, gAnd_e, gOr_e, gNotV_e, gAndV_e, gOrV_e, gIf_e, gTru_e, gCall_e, hN_e, hNil_e, hCons_e, hT_e, gIt_e, gR1_e, gR2_e, gYes_e, gLc_e, gLc2_e, gSeq_e, gNx_e, gBk_e, gCt_e, gNo_e, gSet_e, gRet_e, gRetN_e, gIfS_e, gDrop_e, gAsg_e, gFor_e, fnS_e, gF_e, gFM_e, gFK_e, gApp_e, gExt_e, gISet_e, gAppP_e, gExtP_e, gIsi_e, gZip_e, gListRev_e, gSortK_e, gNeg_e, gPar_e, gRaise_e, gHeard_e, op2, vD, vDs, frD, frDs, stO, putO, bks, plainS, mutS, permL, appS, extS, isetS, isOl, noMu, noScr, oD, lst?, Rs.sl, Rs.d, D.items, fIx, eP, theP, lastP, p1, p2, a20', a21', a30, a31, a32, a40, a41, a42, a2m, a3m, a4m, in3o, in3t, k_same, k_ours, k_theirs, k_alike, k_clash, w2, w3, w4, w8, w9, w10]
theorem lc_parts {P : List Part} {f : Part → List Int} {fe : GE} {s0 : Sl} (hP : ∀ p ∈ P, fe [s0, .sh (eP p)] = .ok (eR (f p)) [s0, .sh (eP p)]) : lcL [1] (hN 1) gYes fe (P.map eP) [s0, .no] = .ok ((P.map f).map eR) [s0, .no] := by
  have := lcL_map (vs := [1]) (h := hN 1) (ft := gYes) (fe := fe) (enc := eP) (ρ0 := [s0, .no]) (f := fun p => eR (f p)) (xs := P) fun p hp => ⟨[s0, .sh (eP p)], _, [s0, .sh (eP p)], rfl, rfl, hP p hp, rfl⟩
  rw [this, List.map_map]
  rfl
section
variable {P : List Part} (hP : ∀ p ∈ P, Gp p) (hl : P.length ≤ 1000)
include hP hl
theorem ev_base_of (hz : (P.map p1).flatten.length ≤ 1000000) : sem_base_of [.sh (.tup (P.map eP))] = .ok (.sh (eR (P.map p1).flatten)) [.sh (.tup (P.map eP))] := by
  have c := lc_parts (f := p1) (s0 := .sh (.tup (P.map eP))) fun p hp => el_base (hP p hp) _
  have j := ev_joined_rows hz
  have l1 : P.length ≤ 1000000 := by omega
  generalize (P.map p1).map eR = L at *
  generalize (P.map p1).flatten = M at *
  simp [gFr_e, gVd_e, gSh_e, gVsR_e, gN_e, gTk_e, gC_e, gOp_e, gNil_e, gCons_e, gTup_e, gLst_e, gP0_e, gP1_e, gSl_e, gB_e, gNot_e, gAnd_e, gOr_e, gNotV_e, gAndV_e, gOrV_e, gIf_e, gTru_e, gCall_e, hN_e, hNil_e, hCons_e, hT_e, gIt_e, gR1_e, gR2_e, gYes_e, gLc_e, gLc2_e, gSeq_e, gNx_e, gBk_e, gCt_e, gNo_e, gSet_e, gRet_e, gRetN_e, gIfS_e, gDrop_e, gAsg_e, gFor_e, fnS_e, gF_e, gFM_e, gFK_e, gApp_e, gExt_e, gISet_e, gAppP_e, gExtP_e, gIsi_e, gZip_e, gListRev_e, gSortK_e, gNeg_e, gPar_e, gRaise_e, gHeard_e, op2, vD, vDs, frD, frDs, stO, putO, bks, plainS, mutS, permL, appS, extS, isetS, isOl, noMu, noScr, oD, lst?, Rs.sl, Rs.d, D.items, sem_base_of, g_base_of, wipeS, unw, c, j, l1]
theorem ev_ours_of (hz : (P.map ourP).flatten.length ≤ 1000000) : sem_ours_of [.sh (.tup (P.map eP))] = .ok (.sh (eR (P.map ourP).flatten)) [.sh (.tup (P.map eP))] := by
  have c := lc_parts (f := ourP) (s0 := .sh (.tup (P.map eP))) fun p hp => el_ours (hP p hp) _
  have j := ev_joined_rows hz
  have l1 : P.length ≤ 1000000 := by omega
  generalize (P.map ourP).map eR = L at *
  generalize (P.map ourP).flatten = M at *
  simp [gFr_e, gVd_e, gSh_e, gVsR_e, gN_e, gTk_e, gC_e, gOp_e, gNil_e, gCons_e, gTup_e, gLst_e, gP0_e, gP1_e, gSl_e, gB_e, gNot_e, gAnd_e, gOr_e, gNotV_e, gAndV_e, gOrV_e, gIf_e, gTru_e, gCall_e, hN_e, hNil_e, hCons_e, hT_e, gIt_e, gR1_e, gR2_e, gYes_e, gLc_e, gLc2_e, gSeq_e, gNx_e, gBk_e, gCt_e, gNo_e, gSet_e, gRet_e, gRetN_e, gIfS_e, gDrop_e, gAsg_e, gFor_e, fnS_e, gF_e, gFM_e, gFK_e, gApp_e, gExt_e, gISet_e, gAppP_e, gExtP_e, gIsi_e, gZip_e, gListRev_e, gSortK_e, gNeg_e, gPar_e, gRaise_e, gHeard_e, op2, vD, vDs, frD, frDs, stO, putO, bks, plainS, mutS, permL, appS, extS, isetS, isOl, noMu, noScr, oD, lst?, Rs.sl, Rs.d, D.items, sem_ours_of, g_ours_of, wipeS, unw, c, j, l1]
theorem ev_theirs_of (hz : (P.map theP).flatten.length ≤ 1000000) : sem_theirs_of [.sh (.tup (P.map eP))] = .ok (.sh (eR (P.map theP).flatten)) [.sh (.tup (P.map eP))] := by
  have c := lc_parts (f := theP) (s0 := .sh (.tup (P.map eP))) fun p hp => el_theirs (hP p hp) _
  have j := ev_joined_rows hz
  have l1 : P.length ≤ 1000000 := by omega
  generalize (P.map theP).map eR = L at *
  generalize (P.map theP).flatten = M at *
  simp [gFr_e, gVd_e, gSh_e, gVsR_e, gN_e, gTk_e, gC_e, gOp_e, gNil_e, gCons_e, gTup_e, gLst_e, gP0_e, gP1_e, gSl_e, gB_e, gNot_e, gAnd_e, gOr_e, gNotV_e, gAndV_e, gOrV_e, gIf_e, gTru_e, gCall_e, hN_e, hNil_e, hCons_e, hT_e, gIt_e, gR1_e, gR2_e, gYes_e, gLc_e, gLc2_e, gSeq_e, gNx_e, gBk_e, gCt_e, gNo_e, gSet_e, gRet_e, gRetN_e, gIfS_e, gDrop_e, gAsg_e, gFor_e, fnS_e, gF_e, gFM_e, gFK_e, gApp_e, gExt_e, gISet_e, gAppP_e, gExtP_e, gIsi_e, gZip_e, gListRev_e, gSortK_e, gNeg_e, gPar_e, gRaise_e, gHeard_e, op2, vD, vDs, frD, frDs, stO, putO, bks, plainS, mutS, permL, appS, extS, isetS, isOl, noMu, noScr, oD, lst?, Rs.sl, Rs.d, D.items, sem_theirs_of, g_theirs_of, wipeS, unw, c, j, l1]
end
/-! ### exchanged -/
abbrev exB : GS := (gIfS (gB (gOp fEq (gVd (gOp fIx (gVsR 2) (gVd (gC (.int 0))))) (gVd (gC (.str "clash")))))
    (gApp' 1 (gFr (DL.gTup (DL.gCons (gVd (gOp fIx (gVsR 2) (gVd (gC (.int 0))))) (DL.gCons (gVd (gOp fIx (gVsR 2) (gVd (gC (.int 1))))) (DL.gCons (gVd (gOp fIx (gVsR 2) (gVd (gC (.int 3))))) (DL.gCons (gVd (gOp fIx (gVsR 2) (gVd (gC (.int 2))))) DL.gNil)))))))
    (gApp' 1 (gFr (gOp fAdd (gVd (DL.gTup (DL.gCons (gVd (gIf (gB (gOp fEq (gVd (gOp fIx (gVsR 2) (gVd (gC (.int 0))))) (gVd (gC (.str "ours"))))) (gC (.str "theirs")) (gIf (gB (gOp fEq (gVd (gOp fIx (gVsR 2) (gVd (gC (.int 0))))) (gVd (gC (.str "theirs"))))) (gC (.str "ours")) (gOp fIx (gVsR 2) (gVd (gC (.int 0))))))) DL.gNil))) (gVd (gSl (gVsR 2) (gP1 (gVd (gC (.int 1)))) gP0))))))
theorem cut1 (x : D) (l : List D) : cutA (x :: l) (some 1) none = l := by
  rw [cutA_from (by decide)]
  rfl
theorem ex_step {s0 : Sl} {found : List Part} {p : Part} (h : Gp p) (hl : found.length < 1000000) : exB [s0, .ow (.lst (found.map eP)), .sh (eP p)] = .nx [s0, .ow (.lst ((found ++ [exP p]).map eP)), .sh (eP p)] := by
  have cc : (Str.ofString "clash" == Str.ofString "clash") = true := by decide
  have oo : (Str.ofString "ours" == Str.ofString "ours") = true := by decide
  have tt : (Str.ofString "theirs" == Str.ofString "theirs") = true := by decide
  obtain ⟨w, l⟩ := p
  rcases h with ⟨rfl, r, h⟩ | ⟨rfl | rfl | rfl, r, x, h⟩ | ⟨rfl, r, x, y, h⟩ <;> simp only at h <;> subst h <;> simp [gFr_e, gVd_e, gSh_e, gVsR_e, gN_e, gTk_e, gC_e, gOp_e, gNil_e, gCons_e, gTup_e, gLst_e, gP0_e, gP1_e, gSl_e, gB_e, gNot_e, gAnd_e, gOr_e, gNotV_e, gAndV_e, gOrV_e, gIf_e, gTru_e, gCall_e, hN_e, hNil_e, hCons_e, hT_e, gIt_e, gR1_e, gR2_e, gYes_e, gLc_e, gLc2_e, gSeq_e, gNx_e, gBk_e, gCt_e, gNo_e, gSet_e, gRet_e, gRetN_e, gIfS_e, gDrop_e, gAsg_e, gFor_e, fnS_e, gF_e, gFM_e, gFK_e, gApp_e, gExt_e, gISet_e, gAppP_e, gExtP_e, gIsi_e, gZip_e, gListRev_e, gSortK_e, gNeg_e, gPar_e, gRaise_e, gHeard_e, op2, vD, vDs, frD, frDs, stO, putO, bks, plainS, mutS, permL, appS, extS, isetS, isOl, noMu, noScr, oD, lst?, Rs.sl, Rs.d, D.items, fIx, eP, fEq, fSl, fAdd, cut1, exP, swW, lastP, p1, p2, a20', a21', a30, a31, a32, a40, a41, a42, a43, w11, w12, w13, w14, w15, w16, w17, w8, w6, hl]
theorem ev_law_exchanged {P : List Part} (hP : ∀ p ∈ P, Gp p) (hl : P.length ≤ 1000) : sem__law_exchanged [.sh (.tup (P.map eP))] = .ok (.sh (.tup ((P.map exP).map eP))) [.sh (.tup (P.map eP))] := by
  obtain ⟨ρ', e, found, s2, rfl, _, r1, _⟩ := forL_rest (h := hN 2) (body := exB) (enc := eP) (R := fun rest ρ => ∃ (found : List Part) (s2 : Sl), ρ = [.sh (.tup (P.map eP)), .ow (.lst (found.map eP)), s2] ∧ anS s2 ∧ found ++ rest.map exP = P.map exP ∧ ∀ p ∈ rest, Gp p)
    (fun p rest ρ r => by
      obtain ⟨found, s2, rfl, h2, r1, r2⟩ := r
      have lf : found.length < 1000000 := by
        have := congrArg List.length r1
        rw [List.length_append, List.length_map, List.length_map] at this
        omega
      refine ⟨[.sh (.tup (P.map eP)), .ow (.lst (found.map eP)), .sh (eP p)], _, ?_, .inl (ex_step (r2 p List.mem_cons_self) lf), _, _, rfl, .inr ⟨_, rfl⟩, by rw [← r1]; simp, fun q hq => r2 q (List.mem_cons_of_mem _ hq)⟩
      rcases h2 with rfl | ⟨_, rfl⟩ <;> rfl)
    (xs := P) (ρ := [.sh (.tup (P.map eP)), .ow (.lst []), .no]) ⟨[], .no, rfl, .inl rfl, rfl, hP⟩
  have r1 : found = P.map exP := by simpa using r1
  rw [← r1]
  have g : g__law_exchanged = DL.gSeq (DL.gSet 1 (gLst DL.gNil)) (DL.gSeq (DL.gFor (gIt (gN 0)) (hN 2) exB) (DL.gRet (gCall fTuple (DL.gCons (gVsR 1) DL.gNil)))) := rfl
  generalize exB = B at e g
  generalize P.map eP = L at *
  simp [gFr_e, gVd_e, gSh_e, gVsR_e, gN_e, gTk_e, gC_e, gOp_e, gNil_e, gCons_e, gTup_e, gLst_e, gP0_e, gP1_e, gSl_e, gB_e, gNot_e, gAnd_e, gOr_e, gNotV_e, gAndV_e, gOrV_e, gIf_e, gTru_e, gCall_e, hN_e, hNil_e, hCons_e, hT_e, gIt_e, gR1_e, gR2_e, gYes_e, gLc_e, gLc2_e, gSeq_e, gNx_e, gBk_e, gCt_e, gNo_e, gSet_e, gRet_e, gRetN_e, gIfS_e, gDrop_e, gAsg_e, gFor_e, fnS_e, gF_e, gFM_e, gFK_e, gApp_e, gExt_e, gISet_e, gAppP_e, gExtP_e, gIsi_e, gZip_e, gListRev_e, gSortK_e, gNeg_e, gPar_e, gRaise_e, gHeard_e, op2, vD, vDs, frD, frDs, stO, putO, bks, plainS, mutS, permL, appS, extS, isetS, isOl, noMu, noScr, oD, lst?, Rs.sl, Rs.d, D.items, sem__law_exchanged, g, e, fTuple]
end K62
end
section
set_option Elab.async false
set_option linter.all false
set_option maxRecDepth 100000
set_option maxHeartbeats 4000000
/-! K62m14: _law_parts. -/
namespace K62
open PySem DL
def nmB : Option Sl → Bool
  | some (.mu _) => false
  | some _ => true
  | none => false
theorem nm_no : nmB (some .no) = true := rfl
theorem nm_sh (d : D) : nmB (some (.sh d)) = true := rfl
theorem nm_ow (d : D) : nmB (some (.ow d)) = true := rfl
theorem stO_b (ρ : List Sl) (i : Nat) (r : Rs) : stO ρ i r = if nmB ρ[i]? = true then .nx (ρ.set i r.sl) else .no := by
  unfold stO
  cases h : ρ[i]? with
  | none => rfl
  | some s => cases s <;> rfl
theorem hN_b (i : Nat) (d : D) (ρ : List Sl) : hN i d ρ = if nmB ρ[i]? = true then some (ρ.set i (.sh d)) else none := by
  unfold hN
  cases h : ρ[i]? with
  | none => rfl
  | some s => cases s <;> rfl
/-- moved down -/
def shH (l : Int) (x : Hk) : Hk := (x.1 - l, x.2.1 - l, x.2.2)
theorem shH_inj {l : Int} {x y : Hk} (h : shH l x = shH l y) : x = y := by
  obtain ⟨a, b, c⟩ := x
  obtain ⟨a', b', c'⟩ := y
  simp only [shH, Prod.mk.injEq] at h
  obtain ⟨h1, h2, h3⟩ := h
  have : a = a' := by omega
  have : b = b' := by omega
  subst_vars
  rfl
theorem map_shH {l : Int} : ∀ {a b : List Hk}, a.map (shH l) = b.map (shH l) ↔ a = b
  | [], [] => by simp
  | [], y :: b => by simp
  | x :: a, [] => by simp
  | x :: a, y :: b => by
    rw [List.map_cons, List.map_cons, List.cons.injEq, List.cons.injEq, map_shH (a := a) (b := b)]
    exact ⟨fun h => ⟨shH_inj h.1, h.2⟩, fun h => ⟨by rw [h.1], h.2⟩⟩
theorem fwd_shH {l : Int} : ∀ {hs : List Hk} {p : Int} {rows : List Int}, fwd (p - l) rows (hs.map (shH l)) = fwd p rows hs
  | [], _, _ => rfl
  | x :: hs, p, rows => by
    have ih := fwd_shH (l := l) (hs := hs) (p := x.2.1) (rows := rows.drop (x.2.1 - p).toNat)
    rw [List.map_cons]
    simp only [fwd, shH]
    have e1 : x.1 - l - (p - l) = x.1 - p := by omega
    have e2 : x.2.1 - l - (p - l) = x.2.1 - p := by omega
    rw [e1, e2]
    rw [ih]
theorem Vd_shH {l : Int} : ∀ {hs : List Hk} {s n : Int}, Vd s n hs → Vd (s - l) (n - l) (hs.map (shH l))
  | [], _, _, _ => trivial
  | x :: hs, s, n, ⟨h1, h2, h3, h4, h5⟩ => by
    have ih := Vd_shH (l := l) h5
    refine ⟨by simp only [shH]; omega, by simp only [shH]; omega, by simp only [shH]; omega, ?_, ?_⟩
    · rcases h4 with h | h
      · exact .inl (by simp only [shH]; omega)
      · exact .inr h
    · have e : x.2.1 + 1 - l = (shH l x).2.1 + 1 := by simp only [shH]; omega
      rw [← e]
      exact ih
theorem cut_length {base : List Int} {i j : Int} (h0 : 0 ≤ i) (h1 : i ≤ j) (h2 : j ≤ base.length) : ((cut base i j).length : Int) = j - i := by
  unfold cut
  rw [List.length_take, List.length_drop]
  omega
abbrev stP (base : List Int) (a b : List Hk) (found : List Part) (at_ : Int) (s5 s6 s7 s9 s10 s11 s12 : Sl) : List Sl := [.sh (eR base), .sh (eHs a), .sh (eHs b), .ow (.lst (found.map eP)), .sh (.int at_), s5, s6, s7, .no, s9, s10, s11, s12]
abbrev fT : GB := gAnd (gB (gOp (fI fun i j => decide (i ≤ j)) (gVsR 5) (gVd (gOp fIx (gVsR 8) (gVd (gC (.int 0))))))) (gB (gOp (fI fun i j => decide (i ≤ j)) (gVd (gOp fIx (gVsR 8) (gVd (gC (.int 1))))) (gVsR 6)))
abbrev fS : GE := gFr (DL.gTup (DL.gCons (gVd (gOp fSub (gVd (gOp fIx (gVsR 8) (gVd (gC (.int 0))))) (gVsR 5))) (DL.gCons (gVd (gOp fSub (gVd (gOp fIx (gVsR 8) (gVd (gC (.int 1))))) (gVsR 5))) (DL.gCons (gVd (gOp fIx (gVsR 8) (gVd (gC (.int 2))))) DL.gNil))))
theorem c8 {r0 r1 r2 r3 r4 s7 s9 s10 s11 s12 : Sl} {s : St2} (c : List Hk) : lcL [8] (hN 8) fT fS (c.map eH) [r0, r1, r2, r3, r4, .sh (.int s.1), .sh (.int s.2), s7, .no, s9, s10, s11, s12] = .ok (((c.filter (inS s)).map (shH s.1)).map eH) [r0, r1, r2, r3, r4, .sh (.int s.1), .sh (.int s.2), s7, .no, s9, s10, s11, s12] := by
  have := lcL_pure (vs := [8]) (h := hN 8) (ft := fT) (fe := fS) (enc := eH) (ρ0 := [r0, r1, r2, r3, r4, .sh (.int s.1), .sh (.int s.2), s7, .no, s9, s10, s11, s12]) (p := inS s) (f := fun x => eH (shH s.1 x)) (xs := c) fun x hx => by
    refine ⟨[r0, r1, r2, r3, r4, .sh (.int s.1), .sh (.int s.2), s7, .sh (eH x), s9, s10, s11, s12], [r0, r1, r2, r3, r4, .sh (.int s.1), .sh (.int s.2), s7, .sh (eH x), s9, s10, s11, s12], rfl, ?_, fun _ => rfl, fun _ => ⟨[r0, r1, r2, r3, r4, .sh (.int s.1), .sh (.int s.2), s7, .sh (eH x), s9, s10, s11, s12], ?_, rfl⟩⟩
    · cases q : decide (s.1 ≤ x.1) <;> cases r : decide (x.2.1 ≤ s.2) <;> simp [gFr_e, gVd_e, gSh_e, gVsR_e, gN_e, gTk_e, gC_e, gOp_e, gNil_e, gCons_e, gTup_e, gLst_e, gP0_e, gP1_e, gSl_e, gB_e, gNot_e, gAnd_e, gOr_e, gNotV_e, gAndV_e, gOrV_e, gIf_e, gTru_e, gCall_e, hN_e, hNil_e, hCons_e, hT_e, gIt_e, gR1_e, gR2_e, gYes_e, gLc_e, gLc2_e, gSeq_e, gNx_e, gBk_e, gCt_e, gNo_e, gSet_e, gRet_e, gRetN_e, gIfS_e, gDrop_e, gAsg_e, gFor_e, fnS_e, gF_e, gFM_e, gFK_e, gApp_e, gExt_e, gISet_e, gAppP_e, gExtP_e, gIsi_e, gZip_e, gListRev_e, gSortK_e, gNeg_e, gPar_e, gRaise_e, gHeard_e, op2, vD, vDs, frD, frDs, stO, putO, bks, plainS, mutS, permL, appS, extS, isetS, isOl, noMu, noScr, oD, lst?, Rs.sl, Rs.d, D.items, eH, fIx, at0, at1, fI, q, r, inS]
    · have at2 : L2.atI [D.int x.1, D.int x.2.1, D.tup (x.2.2.map .int)] 2 = some (.tup (x.2.2.map .int)) := rfl
      simp [gFr_e, gVd_e, gSh_e, gVsR_e, gN_e, gTk_e, gC_e, gOp_e, gNil_e, gCons_e, gTup_e, gLst_e, gP0_e, gP1_e, gSl_e, gB_e, gNot_e, gAnd_e, gOr_e, gNotV_e, gAndV_e, gOrV_e, gIf_e, gTru_e, gCall_e, hN_e, hNil_e, hCons_e, hT_e, gIt_e, gR1_e, gR2_e, gYes_e, gLc_e, gLc2_e, gSeq_e, gNx_e, gBk_e, gCt_e, gNo_e, gSet_e, gRet_e, gRetN_e, gIfS_e, gDrop_e, gAsg_e, gFor_e, fnS_e, gF_e, gFM_e, gFK_e, gApp_e, gExt_e, gISet_e, gAppP_e, gExtP_e, gIsi_e, gZip_e, gListRev_e, gSortK_e, gNeg_e, gPar_e, gRaise_e, gHeard_e, op2, vD, vDs, frD, frDs, stO, putO, bks, plainS, mutS, permL, appS, extS, isetS, isOl, noMu, noScr, oD, lst?, Rs.sl, Rs.d, D.items, eH, fIx, at0, at1, at2, fSub, shH]
  rw [this, List.map_map]
  rfl
abbrev pB1 : GS := gIfS (gB (gOp (fI fun i j => decide (j < i)) (gVsR 5) (gVsR 4)))
    (gApp' 3 (gFr (DL.gTup (DL.gCons (gVd (gC (.str "same"))) (DL.gCons (gVd (gSl (gVsR 0) (gP1 (gVsR 4)) (gP1 (gVsR 5)))) DL.gNil)))))
    gNx
abbrev pB2 : GS := gSet 7 (gLc [8] (gIt (gN 1)) (hN 8) fT fS)
abbrev pB3 : GS := gSet 9 (gLc [8] (gIt (gN 2)) (hN 8) fT fS)
abbrev pB4 : GS := gSet 10 (gSl (gVsR 0) (gP1 (gVsR 5)) (gP1 (gVsR 6)))
abbrev pB5 : GS := gSet 11 (gIf (gB (gOp fEq (gVsR 9) (gVd (gLst DL.gNil)))) (gC (.str "ours")) (gIf (gB (gOp fEq (gVsR 7) (gVd (gLst DL.gNil)))) (gC (.str "theirs")) (gIf (gB (gOp fEq (gVsR 7) (gVsR 9))) (gC (.str "alike")) (gC (.str "clash")))))
abbrev pB6 : GS := gSet 12 (DL.gTup (DL.gCons (gVd (gTk 11)) (DL.gCons (gVd (gTk 10)) (DL.gCons (gVd (gF 2 sem__law_put (DL.gCons (gVd (gTk 10)) (DL.gCons (gVd (gIf (gB (gOp fEq (gVsR 11) (gVd (gC (.str "theirs"))))) (gTk 9) (gTk 7))) DL.gNil)))) DL.gNil))))
abbrev pB7 : GS := gApp' 3 (gFr (gIf (gB (gOp fEq (gVsR 11) (gVd (gC (.str "clash"))))) (gOp fAdd (gVsR 12) (gVd (DL.gTup (DL.gCons (gVd (gF 2 sem__law_put (DL.gCons (gVd (gTk 10)) (DL.gCons (gVd (gTk 9)) DL.gNil)))) DL.gNil)))) (gTk 12)))
abbrev pB8 : GS := gSet 4 (gN 6)
abbrev pBB : GS := DL.gSeq pB1 (DL.gSeq pB2 (DL.gSeq pB3 (DL.gSeq pB4 (DL.gSeq pB5 (DL.gSeq pB6 (DL.gSeq pB7 pB8))))))
theorem g_law_parts : g__law_parts = DL.gSeq (DL.gPar 3 4 (gLst DL.gNil) (gC (.int 0))) (DL.gSeq (DL.gFor (gIt (gF 2 sem__law_stretches (DL.gCons (gVsR 1) (DL.gCons (gVsR 2) DL.gNil)))) (hT 2 (DL.hCons (hN 5) (DL.hCons (hN 6) DL.hNil))) pBB)
    (DL.gRet (gCall fTuple (DL.gCons (gVd (gIf (gB (gOp (fI fun i j => decide (i < j)) (gVsR 4) (gVd (gCall fLen (DL.gCons (gVsR 0) DL.gNil))))) (gOp fAdd (gVsR 3) (gVd (gLst (DL.gCons (gVd (DL.gTup (DL.gCons (gVd (gC (.str "same"))) (DL.gCons (gVd (gSl (gVsR 0) (gP1 (gVsR 4)) gP0)) DL.gNil)))) DL.gNil)))) (gTk 3))) DL.gNil)))) := rfl
section
variable {base : List Int} {a b : List Hk} {found : List Part} {at_ : Int} {s : St2} {s7 s9 s10 s11 s12 : Sl}
theorem pd1 (h0 : 0 ≤ at_) (h1 : at_ ≤ s.1) (hl : found.length < 1000000) : pB1 (stP base a b found at_ (.sh (.int s.1)) (.sh (.int s.2)) s7 s9 s10 s11 s12) = .nx (stP base a b (found ++ if at_ < s.1 then [("same", [cut base at_ s.1])] else []) at_ (.sh (.int s.1)) (.sh (.int s.2)) s7 s9 s10 s11 s12) := by
  have c1 : cutA base (some at_) (some s.1) = cut base at_ s.1 := cutA_is h0 h1
  by_cases z : at_ < s.1
  · simp [gFr_e, gVd_e, gSh_e, gVsR_e, gN_e, gTk_e, gC_e, gOp_e, gNil_e, gCons_e, gTup_e, gLst_e, gP0_e, gP1_e, gSl_e, gB_e, gNot_e, gAnd_e, gOr_e, gNotV_e, gAndV_e, gOrV_e, gIf_e, gTru_e, gCall_e, hN_e, hNil_e, hCons_e, hT_e, gIt_e, gR1_e, gR2_e, gYes_e, gLc_e, gLc2_e, gSeq_e, gNx_e, gBk_e, gCt_e, gNo_e, gSet_e, gRet_e, gRetN_e, gIfS_e, gDrop_e, gAsg_e, gFor_e, fnS_e, gF_e, gFM_e, gFK_e, gApp_e, gExt_e, gISet_e, gAppP_e, gExtP_e, gIsi_e, gZip_e, gListRev_e, gSortK_e, gNeg_e, gPar_e, gRaise_e, gHeard_e, op2, vD, vDs, frD, frDs, stO, putO, bks, plainS, mutS, permL, appS, extS, isetS, isOl, noMu, noScr, oD, lst?, Rs.sl, Rs.d, D.items, stP, eR, fI, z, fSl, cutA_map, c1, hl, eP]
  · simp [gFr_e, gVd_e, gSh_e, gVsR_e, gN_e, gTk_e, gC_e, gOp_e, gNil_e, gCons_e, gTup_e, gLst_e, gP0_e, gP1_e, gSl_e, gB_e, gNot_e, gAnd_e, gOr_e, gNotV_e, gAndV_e, gOrV_e, gIf_e, gTru_e, gCall_e, hN_e, hNil_e, hCons_e, hT_e, gIt_e, gR1_e, gR2_e, gYes_e, gLc_e, gLc2_e, gSeq_e, gNx_e, gBk_e, gCt_e, gNo_e, gSet_e, gRet_e, gRetN_e, gIfS_e, gDrop_e, gAsg_e, gFor_e, fnS_e, gF_e, gFM_e, gFK_e, gApp_e, gExt_e, gISet_e, gAppP_e, gExtP_e, gIsi_e, gZip_e, gListRev_e, gSortK_e, gNeg_e, gPar_e, gRaise_e, gHeard_e, op2, vD, vDs, frD, frDs, stO, putO, bks, plainS, mutS, permL, appS, extS, isetS, isOl, noMu, noScr, oD, lst?, Rs.sl, Rs.d, D.items, stP, eR, fI, z]
theorem pd2 (la : a.length ≤ 100) (n7 : nmB (some s7) = true) : pB2 (stP base a b found at_ (.sh (.int s.1)) (.sh (.int s.2)) s7 s9 s10 s11 s12) = .nx (stP base a b found at_ (.sh (.int s.1)) (.sh (.int s.2)) (.ow (.lst (((a.filter (inS s)).map (shH s.1)).map eH))) s9 s10 s11 s12) := by
  have c := c8 (r0 := .sh (eR base)) (r1 := .sh (eHs a)) (r2 := .sh (eHs b)) (r3 := .ow (.lst (found.map eP))) (r4 := .sh (.int at_)) (s7 := s7) (s9 := s9) (s10 := s10) (s11 := s11) (s12 := s12) (s := s) a
  have l1 : a.length ≤ 1000000 := by omega
  unfold pB2
  generalize fT = T at c ⊢
  generalize fS = S at c ⊢
  simp only [eHs] at c
  simp [gFr_e, gVd_e, gSh_e, gVsR_e, gN_e, gTk_e, gC_e, gOp_e, gNil_e, gCons_e, gTup_e, gLst_e, gP0_e, gP1_e, gSl_e, gB_e, gNot_e, gAnd_e, gOr_e, gNotV_e, gAndV_e, gOrV_e, gIf_e, gTru_e, gCall_e, hN_b, hNil_e, hCons_e, hT_e, gIt_e, gR1_e, gR2_e, gYes_e, gLc_e, gLc2_e, gSeq_e, gNx_e, gBk_e, gCt_e, gNo_e, gSet_e, gRet_e, gRetN_e, gIfS_e, gDrop_e, gAsg_e, gFor_e, fnS_e, gF_e, gFM_e, gFK_e, gApp_e, gExt_e, gISet_e, gAppP_e, gExtP_e, gIsi_e, gZip_e, gListRev_e, gSortK_e, gNeg_e, gPar_e, gRaise_e, gHeard_e, op2, vD, vDs, frD, frDs, stO_b, nm_no, nm_sh, nm_ow, putO, bks, plainS, mutS, permL, appS, extS, isetS, isOl, noMu, noScr, oD, lst?, Rs.sl, Rs.d, D.items, stP, eHs, c, wipeS, unw, l1, n7]
theorem pd3 (lb : b.length ≤ 100) (n9 : nmB (some s9) = true) : pB3 (stP base a b found at_ (.sh (.int s.1)) (.sh (.int s.2)) s7 s9 s10 s11 s12) = .nx (stP base a b found at_ (.sh (.int s.1)) (.sh (.int s.2)) s7 (.ow (.lst (((b.filter (inS s)).map (shH s.1)).map eH))) s10 s11 s12) := by
  have c := c8 (r0 := .sh (eR base)) (r1 := .sh (eHs a)) (r2 := .sh (eHs b)) (r3 := .ow (.lst (found.map eP))) (r4 := .sh (.int at_)) (s7 := s7) (s9 := s9) (s10 := s10) (s11 := s11) (s12 := s12) (s := s) b
  have l1 : b.length ≤ 1000000 := by omega
  unfold pB3
  generalize fT = T at c ⊢
  generalize fS = S at c ⊢
  simp only [eHs] at c
  simp [gFr_e, gVd_e, gSh_e, gVsR_e, gN_e, gTk_e, gC_e, gOp_e, gNil_e, gCons_e, gTup_e, gLst_e, gP0_e, gP1_e, gSl_e, gB_e, gNot_e, gAnd_e, gOr_e, gNotV_e, gAndV_e, gOrV_e, gIf_e, gTru_e, gCall_e, hN_b, hNil_e, hCons_e, hT_e, gIt_e, gR1_e, gR2_e, gYes_e, gLc_e, gLc2_e, gSeq_e, gNx_e, gBk_e, gCt_e, gNo_e, gSet_e, gRet_e, gRetN_e, gIfS_e, gDrop_e, gAsg_e, gFor_e, fnS_e, gF_e, gFM_e, gFK_e, gApp_e, gExt_e, gISet_e, gAppP_e, gExtP_e, gIsi_e, gZip_e, gListRev_e, gSortK_e, gNeg_e, gPar_e, gRaise_e, gHeard_e, op2, vD, vDs, frD, frDs, stO_b, nm_no, nm_sh, nm_ow, putO, bks, plainS, mutS, permL, appS, extS, isetS, isOl, noMu, noScr, oD, lst?, Rs.sl, Rs.d, D.items, stP, eHs, c, wipeS, unw, l1, n9]
theorem pd4 (h0 : 0 ≤ s.1) (h1 : s.1 ≤ s.2) (n10 : nmB (some s10) = true) : pB4 (stP base a b found at_ (.sh (.int s.1)) (.sh (.int s.2)) s7 s9 s10 s11 s12) = .nx (stP base a b found at_ (.sh (.int s.1)) (.sh (.int s.2)) s7 s9 (.sh (eR (cut base s.1 s.2))) s11 s12) := by
  have c1 : cutA base (some s.1) (some s.2) = cut base s.1 s.2 := cutA_is h0 h1
  simp [gFr_e, gVd_e, gSh_e, gVsR_e, gN_e, gTk_e, gC_e, gOp_e, gNil_e, gCons_e, gTup_e, gLst_e, gP0_e, gP1_e, gSl_e, gB_e, gNot_e, gAnd_e, gOr_e, gNotV_e, gAndV_e, gOrV_e, gIf_e, gTru_e, gCall_e, hN_b, hNil_e, hCons_e, hT_e, gIt_e, gR1_e, gR2_e, gYes_e, gLc_e, gLc2_e, gSeq_e, gNx_e, gBk_e, gCt_e, gNo_e, gSet_e, gRet_e, gRetN_e, gIfS_e, gDrop_e, gAsg_e, gFor_e, fnS_e, gF_e, gFM_e, gFK_e, gApp_e, gExt_e, gISet_e, gAppP_e, gExtP_e, gIsi_e, gZip_e, gListRev_e, gSortK_e, gNeg_e, gPar_e, gRaise_e, gHeard_e, op2, vD, vDs, frD, frDs, stO_b, nm_no, nm_sh, nm_ow, putO, bks, plainS, mutS, permL, appS, extS, isetS, isOl, noMu, noScr, oD, lst?, Rs.sl, Rs.d, D.items, stP, eR, fSl, cutA_map, c1, n10]
def wrd (h t : List Hk) : String := if t = [] then "ours" else if h = [] then "theirs" else if h = t then "alike" else "clash"
theorem pd5 {h t : List Hk} (hh : ∀ x ∈ h, smlH x) (ht : ∀ x ∈ t, smlH x) (n11 : nmB (some s11) = true) : pB5 (stP base a b found at_ (.sh (.int s.1)) (.sh (.int s.2)) (.ow (.lst (h.map eH))) (.ow (.lst (t.map eH))) s10 s11 s12) = .nx (stP base a b found at_ (.sh (.int s.1)) (.sh (.int s.2)) (.ow (.lst (h.map eH))) (.ow (.lst (t.map eH))) s10 (.sh (.str (wrd h t))) s12) := by
  have q1 := fEq_L (x := t) (y := []) ht (fun z hz => absurd hz (by simp))
  have q2 := fEq_L (x := h) (y := []) hh (fun z hz => absurd hz (by simp))
  have q3 := fEq_L (x := h) (y := t) hh ht
  simp only [List.map_nil] at q1 q2
  unfold wrd
  by_cases z1 : t = []
  · rw [decide_eq_true z1] at q1
    rw [if_pos z1]
    generalize t.map eH = t' at *
    simp [gFr_e, gVd_e, gSh_e, gVsR_e, gN_e, gTk_e, gC_e, gOp_e, gNil_e, gCons_e, gTup_e, gLst_e, gP0_e, gP1_e, gSl_e, gB_e, gNot_e, gAnd_e, gOr_e, gNotV_e, gAndV_e, gOrV_e, gIf_e, gTru_e, gCall_e, hN_b, hNil_e, hCons_e, hT_e, gIt_e, gR1_e, gR2_e, gYes_e, gLc_e, gLc2_e, gSeq_e, gNx_e, gBk_e, gCt_e, gNo_e, gSet_e, gRet_e, gRetN_e, gIfS_e, gDrop_e, gAsg_e, gFor_e, fnS_e, gF_e, gFM_e, gFK_e, gApp_e, gExt_e, gISet_e, gAppP_e, gExtP_e, gIsi_e, gZip_e, gListRev_e, gSortK_e, gNeg_e, gPar_e, gRaise_e, gHeard_e, op2, vD, vDs, frD, frDs, stO_b, nm_no, nm_sh, nm_ow, putO, bks, plainS, mutS, permL, appS, extS, isetS, isOl, noMu, noScr, oD, lst?, Rs.sl, Rs.d, D.items, stP, q1, n11]
  · rw [decide_eq_false z1] at q1
    rw [if_neg z1]
    by_cases z2 : h = []
    · rw [decide_eq_true z2] at q2
      rw [if_pos z2]
      generalize h.map eH = h' at *
      generalize t.map eH = t' at *
      simp [gFr_e, gVd_e, gSh_e, gVsR_e, gN_e, gTk_e, gC_e, gOp_e, gNil_e, gCons_e, gTup_e, gLst_e, gP0_e, gP1_e, gSl_e, gB_e, gNot_e, gAnd_e, gOr_e, gNotV_e, gAndV_e, gOrV_e, gIf_e, gTru_e, gCall_e, hN_b, hNil_e, hCons_e, hT_e, gIt_e, gR1_e, gR2_e, gYes_e, gLc_e, gLc2_e, gSeq_e, gNx_e, gBk_e, gCt_e, gNo_e, gSet_e, gRet_e, gRetN_e, gIfS_e, gDrop_e, gAsg_e, gFor_e, fnS_e, gF_e, gFM_e, gFK_e, gApp_e, gExt_e, gISet_e, gAppP_e, gExtP_e, gIsi_e, gZip_e, gListRev_e, gSortK_e, gNeg_e, gPar_e, gRaise_e, gHeard_e, op2, vD, vDs, frD, frDs, stO_b, nm_no, nm_sh, nm_ow, putO, bks, plainS, mutS, permL, appS, extS, isetS, isOl, noMu, noScr, oD, lst?, Rs.sl, Rs.d, D.items, stP, q1, q2, n11]
    · rw [decide_eq_false z2] at q2
      rw [if_neg z2]
      by_cases z3 : h = t
      · rw [decide_eq_true z3] at q3
        rw [if_pos z3]
        generalize h.map eH = h' at *
        generalize t.map eH = t' at *
        simp [gFr_e, gVd_e, gSh_e, gVsR_e, gN_e, gTk_e, gC_e, gOp_e, gNil_e, gCons_e, gTup_e, gLst_e, gP0_e, gP1_e, gSl_e, gB_e, gNot_e, gAnd_e, gOr_e, gNotV_e, gAndV_e, gOrV_e, gIf_e, gTru_e, gCall_e, hN_b, hNil_e, hCons_e, hT_e, gIt_e, gR1_e, gR2_e, gYes_e, gLc_e, gLc2_e, gSeq_e, gNx_e, gBk_e, gCt_e, gNo_e, gSet_e, gRet_e, gRetN_e, gIfS_e, gDrop_e, gAsg_e, gFor_e, fnS_e, gF_e, gFM_e, gFK_e, gApp_e, gExt_e, gISet_e, gAppP_e, gExtP_e, gIsi_e, gZip_e, gListRev_e, gSortK_e, gNeg_e, gPar_e, gRaise_e, gHeard_e, op2, vD, vDs, frD, frDs, stO_b, nm_no, nm_sh, nm_ow, putO, bks, plainS, mutS, permL, appS, extS, isetS, isOl, noMu, noScr, oD, lst?, Rs.sl, Rs.d, D.items, stP, q1, q2, q3, n11]
      · rw [decide_eq_false z3] at q3
        rw [if_neg z3]
        generalize h.map eH = h' at *
        generalize t.map eH = t' at *
        simp [gFr_e, gVd_e, gSh_e, gVsR_e, gN_e, gTk_e, gC_e, gOp_e, gNil_e, gCons_e, gTup_e, gLst_e, gP0_e, gP1_e, gSl_e, gB_e, gNot_e, gAnd_e, gOr_e, gNotV_e, gAndV_e, gOrV_e, gIf_e, gTru_e, gCall_e, hN_b, hNil_e, hCons_e, hT_e, gIt_e, gR1_e, gR2_e, gYes_e, gLc_e, gLc2_e, gSeq_e, gNx_e, gBk_e, gCt_e, gNo_e, gSet_e, gRet_e, gRetN_e, gIfS_e, gDrop_e, gAsg_e, gFor_e, fnS_e, gF_e, gFM_e, gFK_e, gApp_e, gExt_e, gISet_e, gAppP_e, gExtP_e, gIsi_e, gZip_e, gListRev_e, gSortK_e, gNeg_e, gPar_e, gRaise_e, gHeard_e, op2, vD, vDs, frD, frDs, stO_b, nm_no, nm_sh, nm_ow, putO, bks, plainS, mutS, permL, appS, extS, isetS, isOl, noMu, noScr, oD, lst?, Rs.sl, Rs.d, D.items, stP, q1, q2, q3, n11]
end
end K62
end
section
set_option Elab.async false
set_option linter.all false
set_option maxRecDepth 100000
set_option maxHeartbeats 4000000
/-! K62m15: _law_parts, joined. -/
namespace K62
open PySem DL
section
variable {base : List Int} {a b : List Hk} {found : List Part} {at_ : Int} {s : St2}
/-- what stands in a part -/
def pW (rows : List Int) (h t : List Hk) : Part := if wrd h t = "theirs" then ("theirs", [rows, fwd 0 rows t]) else if wrd h t = "clash" then ("clash", [rows, fwd 0 rows h, fwd 0 rows t]) else (wrd h t, [rows, fwd 0 rows h])
def anD (s : Sl) (d : D) : Prop := s = .sh d ∨ s = .ow d
theorem pd67 {rows : List Int} {h t : List Hk} {s12 : Sl} (hr : rows.length ≤ 1000) (vh : Vd 0 rows.length h) (vt : Vd 0 rows.length t) (th : Ti h) (tt : Ti t) (hl : found.length < 1000000) (n12 : nmB (some s12) = true) :
    ∃ s7 s9, DL.gSeq pB6 pB7 (stP base a b found at_ (.sh (.int s.1)) (.sh (.int s.2)) (.ow (.lst (h.map eH))) (.ow (.lst (t.map eH))) (.sh (eR rows)) (.sh (.str (wrd h t))) s12) =
      .nx (stP base a b (found ++ [pW rows h t]) at_ (.sh (.int s.1)) (.sh (.int s.2)) s7 s9 (.sh (eR rows)) (.sh (.str (wrd h t))) (.sh (.tup [.str (wrd h t), eR rows, eR (if wrd h t = "theirs" then fwd 0 rows t else fwd 0 rows h)]))) ∧ nmB (some s7) = true ∧ nmB (some s9) = true := by
  have p1 := ev_law_put (hd := .lst (h.map eH)) (.inr rfl) hr vh th
  have p2 := ev_law_put (hd := .lst (t.map eH)) (.inr rfl) hr vt tt
  have cc : (Str.ofString "clash" == Str.ofString "clash") = true := by decide
  have w18 : (Str.ofString "clash" == Str.ofString "theirs") = false := by decide
  have w19 : (Str.ofString "theirs" == Str.ofString "theirs") = true := by decide
  have wc : wrd h t = "ours" ∨ wrd h t = "theirs" ∨ wrd h t = "alike" ∨ wrd h t = "clash" := by
    unfold wrd
    split
    · simp
    · split
      · simp
      · split <;> simp
  unfold pW
  generalize wrd h t = w at *
  simp only [eR] at p1 p2
  generalize h.map eH = h' at *
  generalize t.map eH = t' at *
  generalize fwd 0 rows h = X at *
  generalize fwd 0 rows t = Y at *
  rcases wc with rfl | rfl | rfl | rfl
  · exact ⟨.sh (.lst h'), .ow (.lst t'), by simp [gFr_e, gVd_e, gSh_e, gVsR_e, gN_e, gTk_e, gC_e, gOp_e, gNil_e, gCons_e, gTup_e, gLst_e, gP0_e, gP1_e, gSl_e, gB_e, gNot_e, gAnd_e, gOr_e, gNotV_e, gAndV_e, gOrV_e, gIf_e, gTru_e, gCall_e, hN_b, hNil_e, hCons_e, hT_e, gIt_e, gR1_e, gR2_e, gYes_e, gLc_e, gLc2_e, gSeq_e, gNx_e, gBk_e, gCt_e, gNo_e, gSet_e, gRet_e, gRetN_e, gIfS_e, gDrop_e, gAsg_e, gFor_e, fnS_e, gF_e, gFM_e, gFK_e, gApp_e, gExt_e, gISet_e, gAppP_e, gExtP_e, gIsi_e, gZip_e, gListRev_e, gSortK_e, gNeg_e, gPar_e, gRaise_e, gHeard_e, op2, vD, vDs, frD, frDs, stO_b, nm_no, nm_sh, nm_ow, putO, bks, plainS, mutS, permL, appS, extS, isetS, isOl, noMu, noScr, oD, lst?, Rs.sl, Rs.d, D.items, stP, eP, eR, fEq, p1, p2, w5, w12, hl, n12], rfl, rfl⟩
  · exact ⟨.ow (.lst h'), .sh (.lst t'), by simp [gFr_e, gVd_e, gSh_e, gVsR_e, gN_e, gTk_e, gC_e, gOp_e, gNil_e, gCons_e, gTup_e, gLst_e, gP0_e, gP1_e, gSl_e, gB_e, gNot_e, gAnd_e, gOr_e, gNotV_e, gAndV_e, gOrV_e, gIf_e, gTru_e, gCall_e, hN_b, hNil_e, hCons_e, hT_e, gIt_e, gR1_e, gR2_e, gYes_e, gLc_e, gLc2_e, gSeq_e, gNx_e, gBk_e, gCt_e, gNo_e, gSet_e, gRet_e, gRetN_e, gIfS_e, gDrop_e, gAsg_e, gFor_e, fnS_e, gF_e, gFM_e, gFK_e, gApp_e, gExt_e, gISet_e, gAppP_e, gExtP_e, gIsi_e, gZip_e, gListRev_e, gSortK_e, gNeg_e, gPar_e, gRaise_e, gHeard_e, op2, vD, vDs, frD, frDs, stO_b, nm_no, nm_sh, nm_ow, putO, bks, plainS, mutS, permL, appS, extS, isetS, isOl, noMu, noScr, oD, lst?, Rs.sl, Rs.d, D.items, stP, eP, eR, fEq, p1, p2, w19, w13, hl, n12], rfl, rfl⟩
  · exact ⟨.sh (.lst h'), .ow (.lst t'), by simp [gFr_e, gVd_e, gSh_e, gVsR_e, gN_e, gTk_e, gC_e, gOp_e, gNil_e, gCons_e, gTup_e, gLst_e, gP0_e, gP1_e, gSl_e, gB_e, gNot_e, gAnd_e, gOr_e, gNotV_e, gAndV_e, gOrV_e, gIf_e, gTru_e, gCall_e, hN_b, hNil_e, hCons_e, hT_e, gIt_e, gR1_e, gR2_e, gYes_e, gLc_e, gLc2_e, gSeq_e, gNx_e, gBk_e, gCt_e, gNo_e, gSet_e, gRet_e, gRetN_e, gIfS_e, gDrop_e, gAsg_e, gFor_e, fnS_e, gF_e, gFM_e, gFK_e, gApp_e, gExt_e, gISet_e, gAppP_e, gExtP_e, gIsi_e, gZip_e, gListRev_e, gSortK_e, gNeg_e, gPar_e, gRaise_e, gHeard_e, op2, vD, vDs, frD, frDs, stO_b, nm_no, nm_sh, nm_ow, putO, bks, plainS, mutS, permL, appS, extS, isetS, isOl, noMu, noScr, oD, lst?, Rs.sl, Rs.d, D.items, stP, eP, eR, fEq, p1, p2, w6, w14, hl, n12], rfl, rfl⟩
  · exact ⟨.sh (.lst h'), .sh (.lst t'), by simp [gFr_e, gVd_e, gSh_e, gVsR_e, gN_e, gTk_e, gC_e, gOp_e, gNil_e, gCons_e, gTup_e, gLst_e, gP0_e, gP1_e, gSl_e, gB_e, gNot_e, gAnd_e, gOr_e, gNotV_e, gAndV_e, gOrV_e, gIf_e, gTru_e, gCall_e, hN_b, hNil_e, hCons_e, hT_e, gIt_e, gR1_e, gR2_e, gYes_e, gLc_e, gLc2_e, gSeq_e, gNx_e, gBk_e, gCt_e, gNo_e, gSet_e, gRet_e, gRetN_e, gIfS_e, gDrop_e, gAsg_e, gFor_e, fnS_e, gF_e, gFM_e, gFK_e, gApp_e, gExt_e, gISet_e, gAppP_e, gExtP_e, gIsi_e, gZip_e, gListRev_e, gSortK_e, gNeg_e, gPar_e, gRaise_e, gHeard_e, op2, vD, vDs, frD, frDs, stO_b, nm_no, nm_sh, nm_ow, putO, bks, plainS, mutS, permL, appS, extS, isetS, isOl, noMu, noScr, oD, lst?, Rs.sl, Rs.d, D.items, stP, eP, eR, fEq, p1, p2, cc, w18, hl, n12, fAdd], rfl, rfl⟩
theorem pW_is {n : Int} (hn : n = base.length) (h0 : 0 ≤ s.1) (h1 : s.1 ≤ s.2) (h2 : s.2 ≤ n) : pW (cut base s.1 s.2) ((a.filter (inS s)).map (shH s.1)) ((b.filter (inS s)).map (shH s.1)) = part base a b s := by
  have f : ∀ c : List Hk, fwd 0 (cut base s.1 s.2) (c.map (shH s.1)) = fwd s.1 (cut base s.1 s.2) c := fun c => by
    have := fwd_shH (l := s.1) (hs := c) (p := s.1) (rows := cut base s.1 s.2)
    rwa [Int.sub_self] at this
  unfold pW part wrd
  simp only [f, List.map_eq_nil_iff, map_shH]
  by_cases z1 : b.filter (inS s) = []
  · simp [z1]
  · by_cases z2 : a.filter (inS s) = []
    · simp [z1, z2]
    · by_cases z3 : a.filter (inS s) = b.filter (inS s)
      · simp only [if_neg z1, if_neg z2, if_pos z3]
        rfl
      · simp only [if_neg z1, if_neg z2, if_neg z3]
        rfl
end
def lpR2 (base : List Int) (a b : List Hk) (all : List St2) (rest : List St2) (ρ : List Sl) : Prop := ∃ (found : List Part) (at_ : Int) (s5 s6 s7 s9 s10 s11 s12 : Sl), ρ = stP base a b found at_ s5 s6 s7 s9 s10 s11 s12 ∧ nmB (some s5) = true ∧ nmB (some s6) = true ∧ nmB (some s7) = true ∧ nmB (some s9) = true ∧ nmB (some s10) = true ∧ nmB (some s11) = true ∧ nmB (some s12) = true ∧
  0 ≤ at_ ∧ at_ ≤ base.length ∧ found.length + 2 * rest.length ≤ 2 * all.length ∧ So base.length at_ rest ∧ found ++ pts base a b at_ rest = pts base a b 0 all
theorem seq_nx {f h : GS} {ρ ρ1 : List Sl} (e : f ρ = .nx ρ1) : DL.gSeq f h ρ = h ρ1 := by rw [gSeq_e, e]
theorem seq_as {f g h : GS} {ρ : List Sl} {ρ1 : List Sl} (e : DL.gSeq f g ρ = .nx ρ1) : DL.gSeq f (DL.gSeq g h) ρ = h ρ1 := by
  rw [gSeq_e] at e ⊢
  cases q : f ρ with
  | nx ρ2 =>
    rw [q] at e
    simp only at e ⊢
    rw [gSeq_e, e]
  | _ => rw [q] at e; cases e
theorem lp_step2 {base : List Int} {a b : List Hk} {all : List St2} (hall : all.length ≤ 1000) (hx : base.length ≤ 1000) (va : Vd 0 base.length a) (vb : Vd 0 base.length b) (ta : Ti a) (tb : Ti b) (x : St2) (rest : List St2) (ρ : List Sl) (r : lpR2 base a b all (x :: rest) ρ) :
    ∃ ρa ρb, hT 2 (DL.hCons (hN 5) (DL.hCons (hN 6) hNil)) (eS x) ρ = some ρa ∧ (pBB ρa = .nx ρb ∨ pBB ρa = .ct ρb) ∧ lpR2 base a b all rest ρb := by
  obtain ⟨found, at_, s5, s6, s7, s9, s10, s11, s12, rfl, n5, n6, n7, n9, n10, n11, n12, q1, q2, q3, ⟨q4, q5, q6, q7⟩, q8⟩ := r
  have x0 : 0 ≤ x.1 := by omega
  simp only [List.length_cons] at q3
  have l1 : found.length < 1000000 := by omega
  have l2 : (found ++ if at_ < x.1 then [("same", [cut base at_ x.1])] else []).length < 1000000 := by rw [List.length_append]; split <;> simp <;> omega
  have cl := cut_length (base := base) x0 q5 q6
  have vf : ∀ {c : List Hk}, Vd 0 base.length c → Vd 0 (cut base x.1 x.2).length ((c.filter (inS x)).map (shH x.1)) := fun {c} v => by
    have := Vd_shH (l := x.1) (v.filter (s := x))
    rw [Int.sub_self, ← cl] at this
    exact this
  have tf : ∀ {c : List Hk}, Vd 0 base.length c → Ti c → Ti ((c.filter (inS x)).map (shH x.1)) := fun {c} v t => by
    refine ⟨by rw [List.length_map]; exact Nat.le_trans (List.length_filter_le _ _) t.1, fun y hy => ?_⟩
    obtain ⟨z, hz, rfl⟩ := List.mem_map.mp hy
    have k := List.mem_filter.mp hz
    have k1 := inS_is k.2
    have k2 := t.2 z k.1
    have k3 := v.mem z k.1
    refine ⟨k2.1, ?_, ?_, k2.2.2.2⟩
    · show (z.1 - x.1).natAbs < 10 ^ 12
      omega
    · show (z.2.1 - x.1).natAbs < 10 ^ 12
      omega
  have lr : (cut base x.1 x.2).length ≤ 1000 := Nat.le_trans cut_len hx
  obtain ⟨s7', s9', e67, n7', n9'⟩ := pd67 (base := base) (a := a) (b := b) (found := found ++ if at_ < x.1 then [("same", [cut base at_ x.1])] else []) (at_ := at_) (s := x) (s12 := s12) lr (vf va) (vf vb) (tf va ta) (tf vb tb) l2 n12
  have la : a.length ≤ 100 := by have := ta.1; omega
  have lb : b.length ≤ 100 := by have := tb.1; omega
  have eb : pBB (stP base a b found at_ (.sh (.int x.1)) (.sh (.int x.2)) s7 s9 s10 s11 s12) = .nx (stP base a b ((found ++ if at_ < x.1 then [("same", [cut base at_ x.1])] else []) ++ [pW (cut base x.1 x.2) ((a.filter (inS x)).map (shH x.1)) ((b.filter (inS x)).map (shH x.1))]) x.2 (.sh (.int x.1)) (.sh (.int x.2)) s7' s9' (.sh (eR (cut base x.1 x.2))) (.sh (.str (wrd ((a.filter (inS x)).map (shH x.1)) ((b.filter (inS x)).map (shH x.1))))) (.sh (.tup [.str (wrd ((a.filter (inS x)).map (shH x.1)) ((b.filter (inS x)).map (shH x.1))), eR (cut base x.1 x.2), eR (if wrd ((a.filter (inS x)).map (shH x.1)) ((b.filter (inS x)).map (shH x.1)) = "theirs" then fwd 0 (cut base x.1 x.2) ((b.filter (inS x)).map (shH x.1)) else fwd 0 (cut base x.1 x.2) ((a.filter (inS x)).map (shH x.1)))]))) := by
    unfold pBB
    rw [seq_nx (pd1 q1 q4 l1), seq_nx (pd2 la n7), seq_nx (pd3 lb n9), seq_nx (pd4 x0 q5 n10), seq_nx (pd5 (tf va ta).sml (tf vb tb).sml n11), seq_as e67]
    simp [gFr_e, gVd_e, gSh_e, gVsR_e, gN_e, gTk_e, gC_e, gOp_e, gNil_e, gCons_e, gTup_e, gLst_e, gP0_e, gP1_e, gSl_e, gB_e, gNot_e, gAnd_e, gOr_e, gNotV_e, gAndV_e, gOrV_e, gIf_e, gTru_e, gCall_e, hN_b, hNil_e, hCons_e, hT_e, gIt_e, gR1_e, gR2_e, gYes_e, gLc_e, gLc2_e, gSeq_e, gNx_e, gBk_e, gCt_e, gNo_e, gSet_e, gRet_e, gRetN_e, gIfS_e, gDrop_e, gAsg_e, gFor_e, fnS_e, gF_e, gFM_e, gFK_e, gApp_e, gExt_e, gISet_e, gAppP_e, gExtP_e, gIsi_e, gZip_e, gListRev_e, gSortK_e, gNeg_e, gPar_e, gRaise_e, gHeard_e, op2, vD, vDs, frD, frDs, stO_b, nm_no, nm_sh, nm_ow, putO, bks, plainS, mutS, permL, appS, extS, isetS, isOl, noMu, noScr, oD, lst?, Rs.sl, Rs.d, D.items, stP]
  refine ⟨stP base a b found at_ (.sh (.int x.1)) (.sh (.int x.2)) s7 s9 s10 s11 s12, _, ?_, .inl eb, _, _, _, _, _, _, _, _, _, rfl, rfl, rfl, n7', n9', rfl, rfl, rfl, by omega, q6, ?_, q7, ?_⟩
  · simp [gFr_e, gVd_e, gSh_e, gVsR_e, gN_e, gTk_e, gC_e, gOp_e, gNil_e, gCons_e, gTup_e, gLst_e, gP0_e, gP1_e, gSl_e, gB_e, gNot_e, gAnd_e, gOr_e, gNotV_e, gAndV_e, gOrV_e, gIf_e, gTru_e, gCall_e, hN_b, hNil_e, hCons_e, hT_e, gIt_e, gR1_e, gR2_e, gYes_e, gLc_e, gLc2_e, gSeq_e, gNx_e, gBk_e, gCt_e, gNo_e, gSet_e, gRet_e, gRetN_e, gIfS_e, gDrop_e, gAsg_e, gFor_e, fnS_e, gF_e, gFM_e, gFK_e, gApp_e, gExt_e, gISet_e, gAppP_e, gExtP_e, gIsi_e, gZip_e, gListRev_e, gSortK_e, gNeg_e, gPar_e, gRaise_e, gHeard_e, op2, vD, vDs, frD, frDs, stO_b, nm_no, nm_sh, nm_ow, putO, bks, plainS, mutS, permL, appS, extS, isetS, isOl, noMu, noScr, oD, lst?, Rs.sl, Rs.d, D.items, stP, eS, n5, n6]
  · simp only [List.length_append, List.length_cons, List.length_nil]
    split <;> simp <;> omega
  · rw [pW_is rfl x0 q5 q6, ← q8, pts]
    simp
theorem ev_law_parts {base : List Int} {a b : List Hk} (hx : base.length ≤ 60) (va : Vd 0 base.length a) (vb : Vd 0 base.length b) (ta : Ti a) (tb : Ti b) : sem__law_parts [.sh (eR base), .sh (eHs a), .sh (eHs b)] = .ok (.sh (.tup ((pts base a b 0 (stretches (srk (a ++ b)))).map eP))) [.sh (eR base), .sh (eHs a), .sh (eHs b)] := by
  have hw : ∀ x ∈ srk (a ++ b), Wi base.length x := fun x hx => by
    rcases List.mem_append.mp ((srk_perm _).mem_iff.mp hx) with h | h
    · exact va.wi x h
    · exact vb.wi x h
  obtain ⟨i1, i2, i3⟩ := stretches_all hw (srk_up _)
  have k1 := stretches_len (srk (a ++ b))
  have k2 := (srk_perm (a ++ b)).length_eq
  rw [List.length_append] at k2
  have k3 := ta.1
  have k4 := tb.1
  have hall : (stretches (srk (a ++ b))).length ≤ 1000 := by omega
  have st := ev_law_stretches (n := base.length) (by omega) va.wi vb.wi k3 k4
  obtain ⟨ρ', e, found, at_, s5, s6, s7, s9, s10, s11, s12, rfl, _, _, _, _, _, _, _, r3, r4, r5, _, r7⟩ := forL_rest (enc := eS) (lp_step2 (all := stretches (srk (a ++ b))) hall (by omega) va vb ta tb) (xs := stretches (srk (a ++ b))) (ρ := stP base a b [] 0 .no .no .no .no .no .no .no) ⟨[], 0, _, _, _, _, _, _, _, rfl, rfl, rfl, rfl, rfl, rfl, rfl, rfl, by omega, by omega, by simp, i1, rfl⟩
  have c1 : cutA base (some at_) none = base.drop at_.toNat := cutA_from r3
  have lf : found.length + 1 ≤ 1000000 := by
    simp only [List.length_nil] at r5
    omega
  rw [← r7, pts]
  generalize stretches (srk (a ++ b)) = ss at *
  have g := g_law_parts
  generalize pBB = B at e g
  simp only [stP, List.map_nil] at e
  by_cases z : at_ < base.length
  · simp only [eR, eHs] at st e ⊢
    simp [gFr_e, gVd_e, gSh_e, gVsR_e, gN_e, gTk_e, gC_e, gOp_e, gNil_e, gCons_e, gTup_e, gLst_e, gP0_e, gP1_e, gSl_e, gB_e, gNot_e, gAnd_e, gOr_e, gNotV_e, gAndV_e, gOrV_e, gIf_e, gTru_e, gCall_e, hN_e, hNil_e, hCons_e, hT_e, gIt_e, gR1_e, gR2_e, gYes_e, gLc_e, gLc2_e, gSeq_e, gNx_e, gBk_e, gCt_e, gNo_e, gSet_e, gRet_e, gRetN_e, gIfS_e, gDrop_e, gAsg_e, gFor_e, fnS_e, gF_e, gFM_e, gFK_e, gApp_e, gExt_e, gISet_e, gAppP_e, gExtP_e, gIsi_e, gZip_e, gListRev_e, gSortK_e, gNeg_e, gPar_e, gRaise_e, gHeard_e, op2, vD, vDs, frD, frDs, stO, putO, bks, plainS, mutS, permL, appS, extS, isetS, isOl, noMu, noScr, oD, lst?, Rs.sl, Rs.d, D.items, sem__law_parts, g, st, e, fLen, fI, z, fTuple, fSl, cutA_map, c1, lf, fAdd, eP, eR]
  · simp only [eR, eHs] at st e ⊢
    simp [gFr_e, gVd_e, gSh_e, gVsR_e, gN_e, gTk_e, gC_e, gOp_e, gNil_e, gCons_e, gTup_e, gLst_e, gP0_e, gP1_e, gSl_e, gB_e, gNot_e, gAnd_e, gOr_e, gNotV_e, gAndV_e, gOrV_e, gIf_e, gTru_e, gCall_e, hN_e, hNil_e, hCons_e, hT_e, gIt_e, gR1_e, gR2_e, gYes_e, gLc_e, gLc2_e, gSeq_e, gNx_e, gBk_e, gCt_e, gNo_e, gSet_e, gRet_e, gRetN_e, gIfS_e, gDrop_e, gAsg_e, gFor_e, fnS_e, gF_e, gFM_e, gFK_e, gApp_e, gExt_e, gISet_e, gAppP_e, gExtP_e, gIsi_e, gZip_e, gListRev_e, gSortK_e, gNeg_e, gPar_e, gRaise_e, gHeard_e, op2, vD, vDs, frD, frDs, stO, putO, bks, plainS, mutS, permL, appS, extS, isetS, isOl, noMu, noScr, oD, lst?, Rs.sl, Rs.d, D.items, sem__law_parts, g, st, e, fLen, fI, z, fTuple, fSl, cutA_map, c1, lf, fAdd, eP, eR]
end K62
end
section
set_option Elab.async false
set_option linter.all false
set_option maxRecDepth 100000
set_option maxHeartbeats 4000000
/-! K62m16: draws. -/
namespace K62
open PySem DL
theorem a20 (x y : D) : L2.atI [x, y] 0 = some x := rfl
theorem a21 (x y : D) : L2.atI [x, y] 1 = some y := rfl
theorem ix0 : L2.ixN 2 0 = some 0 := rfl
theorem ix1 : L2.ixN 2 1 = some 1 := rfl
theorem ev_take (g c m : Int) (h0 : 0 < m) (h1 : m < 1073741824) : ∃ d g' c' : Int, sem__law_take [.mu (.lst [.int g, .int c]), .sh (.int m)] = .ok (.sh (.int d)) [.mu (.lst [.int g', .int c']), .sh (.int m)] ∧ 0 ≤ d ∧ d < m := by
  by_cases z : 0 < g
  · refine ⟨g % m, g / m, c, ?_, Int.emod_nonneg _ (by omega), Int.emod_lt_of_pos _ h0⟩
    simp [gFr_e, gVd_e, gSh_e, gVsR_e, gN_e, gTk_e, gC_e, gOp_e, gNil_e, gCons_e, gTup_e, gLst_e, gP0_e, gP1_e, gSl_e, gB_e, gNot_e, gAnd_e, gOr_e, gNotV_e, gAndV_e, gOrV_e, gIf_e, gTru_e, gCall_e, hN_e, hNil_e, hCons_e, hT_e, gIt_e, gR1_e, gR2_e, gYes_e, gLc_e, gLc2_e, gSeq_e, gNx_e, gBk_e, gCt_e, gNo_e, gSet_e, gRet_e, gRetN_e, gIfS_e, gDrop_e, gAsg_e, gFor_e, fnS_e, gF_e, gFM_e, gFK_e, gApp_e, gExt_e, gISet_e, gAppP_e, gExtP_e, gIsi_e, gZip_e, gListRev_e, gSortK_e, gNeg_e, gPar_e, gRaise_e, gHeard_e, op2, vD, vDs, frD, frDs, stO, putO, bks, plainS, mutS, permL, appS, extS, isetS, isOl, noMu, noScr, oD, lst?, Rs.sl, Rs.d, D.items, sem__law_take, g__law_take, fIx, a20, fI, z, fInt, fMod, fFdiv, h0, h1, ix0]
  · refine ⟨((((c * 40692 + 211) % 2147483399) * 2147483629 + ((((c * 40692 + 211) % 2147483399) * 40014 + 31) % 2147483587 + 1)) / 8219) % m, g, ((((c * 40692 + 211) % 2147483399) * 40014 + 31) % 2147483587 + 1), ?_, Int.emod_nonneg _ (show m ≠ 0 by omega), Int.emod_lt_of_pos _ h0⟩
    simp [gFr_e, gVd_e, gSh_e, gVsR_e, gN_e, gTk_e, gC_e, gOp_e, gNil_e, gCons_e, gTup_e, gLst_e, gP0_e, gP1_e, gSl_e, gB_e, gNot_e, gAnd_e, gOr_e, gNotV_e, gAndV_e, gOrV_e, gIf_e, gTru_e, gCall_e, hN_e, hNil_e, hCons_e, hT_e, gIt_e, gR1_e, gR2_e, gYes_e, gLc_e, gLc2_e, gSeq_e, gNx_e, gBk_e, gCt_e, gNo_e, gSet_e, gRet_e, gRetN_e, gIfS_e, gDrop_e, gAsg_e, gFor_e, fnS_e, gF_e, gFM_e, gFK_e, gApp_e, gExt_e, gISet_e, gAppP_e, gExtP_e, gIsi_e, gZip_e, gListRev_e, gSortK_e, gNeg_e, gPar_e, gRaise_e, gHeard_e, op2, vD, vDs, frD, frDs, stO, putO, bks, plainS, mutS, permL, appS, extS, isetS, isOl, noMu, noScr, oD, lst?, Rs.sl, Rs.d, D.items, sem__law_take, g__law_take, fIx, a20, a21, fI, z, fInt, fMod, fFdiv, fMul, fAdd, small, h0, h1, ix0, ix1]
theorem atI_in {α : Type} {ns : List α} {k : Int} (h0 : 0 ≤ k) (h1 : k < ns.length) : ∃ v, L2.atI ns k = some v := by
  unfold L2.atI L2.ixN
  rw [if_pos h0, if_pos h1]
  have : k.toNat < ns.length := by omega
  exact ⟨ns[k.toNat], by simp [List.getElem?_eq_getElem this]⟩
theorem ev_pick (g c : Int) : ∃ d g' c' : Int, sem__law_pick [.mu (.lst [.int g, .int c]), .sh (.lst [.int 0, .int 0, .int 1, .int 1, .int 2])] = .ok (.sh (.int d)) [.mu (.lst [.int g', .int c']), .sh (.lst [.int 0, .int 0, .int 1, .int 1, .int 2])] ∧ 0 ≤ d := by
  obtain ⟨d, g', c', e, h1, h2⟩ := ev_take g c 5 (by decide) (by decide)
  obtain ⟨v, hv, hp⟩ : ∃ v : Int, L2.atI [D.int 0, .int 0, .int 1, .int 1, .int 2] d = some (.int v) ∧ 0 ≤ v := by
    have : d = 0 ∨ d = 1 ∨ d = 2 ∨ d = 3 ∨ d = 4 := by omega
    rcases this with rfl | rfl | rfl | rfl | rfl
    · exact ⟨0, rfl, by decide⟩
    · exact ⟨0, rfl, by decide⟩
    · exact ⟨1, rfl, by decide⟩
    · exact ⟨1, rfl, by decide⟩
    · exact ⟨2, rfl, by decide⟩
  refine ⟨v, g', c', ?_, hp⟩
  simp [gFr_e, gVd_e, gSh_e, gVsR_e, gN_e, gTk_e, gC_e, gOp_e, gNil_e, gCons_e, gTup_e, gLst_e, gP0_e, gP1_e, gSl_e, gB_e, gNot_e, gAnd_e, gOr_e, gNotV_e, gAndV_e, gOrV_e, gIf_e, gTru_e, gCall_e, hN_e, hNil_e, hCons_e, hT_e, gIt_e, gR1_e, gR2_e, gYes_e, gLc_e, gLc2_e, gSeq_e, gNx_e, gBk_e, gCt_e, gNo_e, gSet_e, gRet_e, gRetN_e, gIfS_e, gDrop_e, gAsg_e, gFor_e, fnS_e, gF_e, gFM_e, gFK_e, gApp_e, gExt_e, gISet_e, gAppP_e, gExtP_e, gIsi_e, gZip_e, gListRev_e, gSortK_e, gNeg_e, gPar_e, gRaise_e, gHeard_e, op2, vD, vDs, frD, frDs, stO, putO, bks, plainS, mutS, permL, appS, extS, isetS, isOl, noMu, noScr, oD, lst?, Rs.sl, Rs.d, D.items, sem__law_pick, g__law_pick, fLen, e, fIx, hv]
theorem ev_box {ns : List Int} (k : Int) (hk : 0 ≤ k) (hk2 : k < 100) : ∃ g c : Int, sem__law_box [.sh (.scr ns), .sh (.int k)] = .ok (.ow (.lst [.int g, .int c])) [.sh (.scr ns), .sh (.int k)] := by
  by_cases z : k < ns.length
  · obtain ⟨v, hv⟩ := atI_in hk z
    by_cases y : (1000000000000000000 : Int) ≤ (if v < 0 then -v else v)
    · simp [gFr_e, gVd_e, gSh_e, gVsR_e, gN_e, gTk_e, gC_e, gOp_e, gNil_e, gCons_e, gTup_e, gLst_e, gP0_e, gP1_e, gSl_e, gB_e, gNot_e, gAnd_e, gOr_e, gNotV_e, gAndV_e, gOrV_e, gIf_e, gTru_e, gCall_e, hN_e, hNil_e, hCons_e, hT_e, gIt_e, gR1_e, gR2_e, gYes_e, gLc_e, gLc2_e, gSeq_e, gNx_e, gBk_e, gCt_e, gNo_e, gSet_e, gRet_e, gRetN_e, gIfS_e, gDrop_e, gAsg_e, gFor_e, fnS_e, gF_e, gFM_e, gFK_e, gApp_e, gExt_e, gISet_e, gAppP_e, gExtP_e, gIsi_e, gZip_e, gListRev_e, gSortK_e, gNeg_e, gPar_e, gRaise_e, gHeard_e, op2, vD, vDs, frD, frDs, stO, putO, bks, plainS, mutS, permL, appS, extS, isetS, isOl, noMu, noScr, oD, lst?, Rs.sl, Rs.d, D.items, sem__law_box, g__law_box, fLen, fI, z, fIx, hv, fAbs, fInt, fPow, fMul, fAdd, fMod, small, y]
    · simp [gFr_e, gVd_e, gSh_e, gVsR_e, gN_e, gTk_e, gC_e, gOp_e, gNil_e, gCons_e, gTup_e, gLst_e, gP0_e, gP1_e, gSl_e, gB_e, gNot_e, gAnd_e, gOr_e, gNotV_e, gAndV_e, gOrV_e, gIf_e, gTru_e, gCall_e, hN_e, hNil_e, hCons_e, hT_e, gIt_e, gR1_e, gR2_e, gYes_e, gLc_e, gLc2_e, gSeq_e, gNx_e, gBk_e, gCt_e, gNo_e, gSet_e, gRet_e, gRetN_e, gIfS_e, gDrop_e, gAsg_e, gFor_e, fnS_e, gF_e, gFM_e, gFK_e, gApp_e, gExt_e, gISet_e, gAppP_e, gExtP_e, gIsi_e, gZip_e, gListRev_e, gSortK_e, gNeg_e, gPar_e, gRaise_e, gHeard_e, op2, vD, vDs, frD, frDs, stO, putO, bks, plainS, mutS, permL, appS, extS, isetS, isOl, noMu, noScr, oD, lst?, Rs.sl, Rs.d, D.items, sem__law_box, g__law_box, fLen, fI, z, fIx, hv, fAbs, fInt, fPow, fMul, fAdd, fMod, small, y]
  · by_cases w : 0 < (ns.length : Int)
    · obtain ⟨v, hv⟩ := atI_in (ns := ns) (k := k % ns.length) (Int.emod_nonneg _ (by omega)) (Int.emod_lt_of_pos _ w)
      have w2 : 0 < ns.length := by omega
      by_cases y : (1000000000000000000 : Int) ≤ 8081 * k + 607 + ((if v < 0 then -v else v) % 2147483587) * 50261
      · simp [gFr_e, gVd_e, gSh_e, gVsR_e, gN_e, gTk_e, gC_e, gOp_e, gNil_e, gCons_e, gTup_e, gLst_e, gP0_e, gP1_e, gSl_e, gB_e, gNot_e, gAnd_e, gOr_e, gNotV_e, gAndV_e, gOrV_e, gIf_e, gTru_e, gCall_e, hN_e, hNil_e, hCons_e, hT_e, gIt_e, gR1_e, gR2_e, gYes_e, gLc_e, gLc2_e, gSeq_e, gNx_e, gBk_e, gCt_e, gNo_e, gSet_e, gRet_e, gRetN_e, gIfS_e, gDrop_e, gAsg_e, gFor_e, fnS_e, gF_e, gFM_e, gFK_e, gApp_e, gExt_e, gISet_e, gAppP_e, gExtP_e, gIsi_e, gZip_e, gListRev_e, gSortK_e, gNeg_e, gPar_e, gRaise_e, gHeard_e, op2, vD, vDs, frD, frDs, stO, putO, bks, plainS, mutS, permL, appS, extS, isetS, isOl, noMu, noScr, oD, lst?, Rs.sl, Rs.d, D.items, sem__law_box, g__law_box, fLen, fI, z, w, w2, fIx, hv, fAbs, fInt, fPow, fMul, fAdd, fMod, small, y]
      · simp [gFr_e, gVd_e, gSh_e, gVsR_e, gN_e, gTk_e, gC_e, gOp_e, gNil_e, gCons_e, gTup_e, gLst_e, gP0_e, gP1_e, gSl_e, gB_e, gNot_e, gAnd_e, gOr_e, gNotV_e, gAndV_e, gOrV_e, gIf_e, gTru_e, gCall_e, hN_e, hNil_e, hCons_e, hT_e, gIt_e, gR1_e, gR2_e, gYes_e, gLc_e, gLc2_e, gSeq_e, gNx_e, gBk_e, gCt_e, gNo_e, gSet_e, gRet_e, gRetN_e, gIfS_e, gDrop_e, gAsg_e, gFor_e, fnS_e, gF_e, gFM_e, gFK_e, gApp_e, gExt_e, gISet_e, gAppP_e, gExtP_e, gIsi_e, gZip_e, gListRev_e, gSortK_e, gNeg_e, gPar_e, gRaise_e, gHeard_e, op2, vD, vDs, frD, frDs, stO, putO, bks, plainS, mutS, permL, appS, extS, isetS, isOl, noMu, noScr, oD, lst?, Rs.sl, Rs.d, D.items, sem__law_box, g__law_box, fLen, fI, z, w, w2, fIx, hv, fAbs, fInt, fPow, fMul, fAdd, fMod, small, y]
    · have w2 : ¬ 0 < ns.length := by omega
      have y : ¬ (1000000000000000000 : Int) ≤ 8081 * k + 607 := by omega
      simp [gFr_e, gVd_e, gSh_e, gVsR_e, gN_e, gTk_e, gC_e, gOp_e, gNil_e, gCons_e, gTup_e, gLst_e, gP0_e, gP1_e, gSl_e, gB_e, gNot_e, gAnd_e, gOr_e, gNotV_e, gAndV_e, gOrV_e, gIf_e, gTru_e, gCall_e, hN_e, hNil_e, hCons_e, hT_e, gIt_e, gR1_e, gR2_e, gYes_e, gLc_e, gLc2_e, gSeq_e, gNx_e, gBk_e, gCt_e, gNo_e, gSet_e, gRet_e, gRetN_e, gIfS_e, gDrop_e, gAsg_e, gFor_e, fnS_e, gF_e, gFM_e, gFK_e, gApp_e, gExt_e, gISet_e, gAppP_e, gExtP_e, gIsi_e, gZip_e, gListRev_e, gSortK_e, gNeg_e, gPar_e, gRaise_e, gHeard_e, op2, vD, vDs, frD, frDs, stO, putO, bks, plainS, mutS, permL, appS, extS, isetS, isOl, noMu, noScr, oD, lst?, Rs.sl, Rs.d, D.items, sem__law_box, g__law_box, fLen, fI, z, w, w2, fIx, fAbs, fInt, fPow, fMul, fAdd, fMod, small, y]
theorem ev_pickG (g c : Int) {ds : List D} (h0 : 0 < ds.length) (h1 : ds.length ≤ 1000) : ∃ (d : D) (g' c' : Int), sem__law_pick [.mu (.lst [.int g, .int c]), .sh (.lst ds)] = .ok (.sh d) [.mu (.lst [.int g', .int c']), .sh (.lst ds)] ∧ d ∈ ds := by
  obtain ⟨d, g', c', e, h2, h3⟩ := ev_take g c ds.length (by omega) (by omega)
  obtain ⟨v, hv⟩ := atI_in h2 h3
  refine ⟨v, g', c', ?_, ?_⟩
  · simp [gFr_e, gVd_e, gSh_e, gVsR_e, gN_e, gTk_e, gC_e, gOp_e, gNil_e, gCons_e, gTup_e, gLst_e, gP0_e, gP1_e, gSl_e, gB_e, gNot_e, gAnd_e, gOr_e, gNotV_e, gAndV_e, gOrV_e, gIf_e, gTru_e, gCall_e, hN_e, hNil_e, hCons_e, hT_e, gIt_e, gR1_e, gR2_e, gYes_e, gLc_e, gLc2_e, gSeq_e, gNx_e, gBk_e, gCt_e, gNo_e, gSet_e, gRet_e, gRetN_e, gIfS_e, gDrop_e, gAsg_e, gFor_e, fnS_e, gF_e, gFM_e, gFK_e, gApp_e, gExt_e, gISet_e, gAppP_e, gExtP_e, gIsi_e, gZip_e, gListRev_e, gSortK_e, gNeg_e, gPar_e, gRaise_e, gHeard_e, op2, vD, vDs, frD, frDs, stO, putO, bks, plainS, mutS, permL, appS, extS, isetS, isOl, noMu, noScr, oD, lst?, Rs.sl, Rs.d, D.items, sem__law_pick, g__law_pick, fLen, e, fIx, hv]
  · unfold L2.atI at hv
    cases q : L2.ixN ds.length d with
    | none => rw [q] at hv; cases hv
    | some i =>
      rw [q] at hv
      exact List.mem_of_getElem? hv
end K62
end
section
set_option Elab.async false
set_option linter.all false
set_option maxRecDepth 100000
set_option maxHeartbeats 4000000
/-! K62m17: a side drawn. -/
namespace K62
open PySem DL
def bx (g c : Int) : D := .lst [.int g, .int c]
/-- drawn: what a side is -/
def Dr (n : Int) (hs : List Hk) : Prop := Vd 0 n hs ∧ hs.length ≤ 4 ∧ ∀ x ∈ hs, x.2.2.length ≤ 2 ∧ sml x.2.2
abbrev siB : GS := (gSeq (gSet 6 (gOp fAdd (gVsR 4) (gVd (gFM 2 sem__law_take (DL.gCons (gVsR 0) (DL.gCons (gVd (gC (.int 3))) DL.gNil))))))
    (gSeq (gSet 7 (gOp fAdd (gVsR 6) (gVd (gFM 2 sem__law_pick (DL.gCons (gVsR 0) (DL.gCons (gVd (gLst (DL.gCons (gVd (gC (.int 0))) (DL.gCons (gVd (gC (.int 0))) (DL.gCons (gVd (gC (.int 1))) (DL.gCons (gVd (gC (.int 1))) (DL.gCons (gVd (gC (.int 2))) DL.gNil))))))) DL.gNil))))))
    (gSeq (gSet 8 (gCall fTuple (DL.gCons (gVd (gLc [9] (gR1 (DL.gCons (gVd (gFM 2 sem__law_take (DL.gCons (gVsR 0) (DL.gCons (gVd (gC (.int 3))) DL.gNil)))) DL.gNil)) (hN 9) gYes (gFr (gFM 2 sem__law_take (DL.gCons (gVsR 0) (DL.gCons (gVd (gC (.int 9))) DL.gNil)))))) DL.gNil)))
    (gIfS (gAnd (gB (gOp (fI fun i j => decide (i ≤ j)) (gVsR 7) (gVd (gCall fLen (DL.gCons (gVsR 1) DL.gNil))))) (gOr (gB (gOp (fI fun i j => decide (j < i)) (gVsR 7) (gVsR 6))) (gB (gOp fNe (gVsR 8) (gVd (DL.gTup DL.gNil))))))
    (gSeq (gApp' 3 (gFr (DL.gTup (DL.gCons (gVd (gTk 6)) (DL.gCons (gVd (gTk 7)) (DL.gCons (gVd (gTk 8)) DL.gNil))))))
    (gSet 4 (gOp fAdd (gVsR 7) (gVd (gC (.int 1))))))
    gNx))))
def siR (base : List Int) (m : Int) (rest : List D) (ρ : List Sl) : Prop := ∃ (g c : Int) (found : List Hk) (at_ : Int) (s5 s6 s7 s8 : Sl), ρ = [.mu (bx g c), .sh (eR base), .sh (.int m), .ow (.lst (found.map eH)), .sh (.int at_), s5, s6, s7, s8, .no] ∧
  ((s5 = .no ∧ s6 = .no ∧ s7 = .no ∧ s8 = .no) ∨ ∃ a b c d, s5 = .sh a ∧ s6 = .sh b ∧ s7 = .sh c ∧ s8 = .sh d) ∧ 0 ≤ at_ ∧ found.length + rest.length ≤ 4 ∧ (∀ R, Vd at_ base.length R → Vd 0 base.length (found ++ R)) ∧ ∀ x ∈ found, x.2.2.length ≤ 2 ∧ sml x.2.2
theorem ints_ex : ∀ {ds : List D}, (∀ d ∈ ds, ∃ i : Int, d = .int i ∧ 0 ≤ i ∧ i < 9) → ∃ ts : List Int, ds = ts.map .int ∧ ∀ t ∈ ts, 0 ≤ t ∧ t < 9
  | [], _ => ⟨[], rfl, fun t ht => absurd ht (by simp)⟩
  | d :: ds, h => by
    obtain ⟨i, rfl, h1, h2⟩ := h d List.mem_cons_self
    obtain ⟨ts, rfl, h3⟩ := ints_ex (ds := ds) fun e he => h e (List.mem_cons_of_mem _ he)
    refine ⟨i :: ts, rfl, fun t ht => ?_⟩
    rcases List.mem_cons.mp ht with rfl | ht
    · exact ⟨h1, h2⟩
    · exact h3 t ht
theorem si_step {base : List Int} {m : Int} (x : D) (rest : List D) (ρ : List Sl) (r : siR base m (x :: rest) ρ) :
    ∃ ρa ρb, hN 5 x ρ = some ρa ∧ (siB ρa = .nx ρb ∨ siB ρa = .ct ρb) ∧ siR base m rest ρb := by
  obtain ⟨g, c, found, at_, s5, s6, s7, s8, rfl, hs, q1, q2, q3, q4⟩ := r
  obtain ⟨d1, g1, c1, e1, k1, k1'⟩ := ev_take g c 3 (by decide) (by decide)
  obtain ⟨d2, g2, c2, e2, k2⟩ := ev_pick g1 c1
  obtain ⟨d3, g3, c3, e3, k3, k3'⟩ := ev_take g2 c2 3 (by decide) (by decide)
  have ld := lcL_draw (vs := [9]) (h := hN 9) (ft := gYes) (fe := gFr (gFM 2 sem__law_take (DL.gCons (gVsR 0) (DL.gCons (gVd (gC (.int 9))) DL.gNil))))
    (R := fun ρ => ∃ g c : Int, ρ = [.mu (bx g c), .sh (eR base), .sh (.int m), .ow (.lst (found.map eH)), .sh (.int at_), .sh x, .sh (.int (at_ + d1)), .sh (.int (at_ + d1 + d2)), s8, .no])
    (P := fun d => ∃ i : Int, d = .int i ∧ 0 ≤ i ∧ i < 9) (fun y ρ r => by
      obtain ⟨g, c, rfl⟩ := r
      obtain ⟨d4, g4, c4, e4, k4, k4'⟩ := ev_take g c 9 (by decide) (by decide)
      refine ⟨[.mu (bx g c), .sh (eR base), .sh (.int m), .ow (.lst (found.map eH)), .sh (.int at_), .sh x, .sh (.int (at_ + d1)), .sh (.int (at_ + d1 + d2)), s8, .sh y], _, [.mu (bx g4 c4), .sh (eR base), .sh (.int m), .ow (.lst (found.map eH)), .sh (.int at_), .sh x, .sh (.int (at_ + d1)), .sh (.int (at_ + d1 + d2)), s8, .sh y], .int d4, rfl, rfl, ?_, ⟨d4, rfl, k4, k4'⟩, ⟨g4, c4, rfl⟩⟩
      simp [gFr_e, gVd_e, gSh_e, gVsR_e, gN_e, gTk_e, gC_e, gOp_e, gNil_e, gCons_e, gTup_e, gLst_e, gP0_e, gP1_e, gSl_e, gB_e, gNot_e, gAnd_e, gOr_e, gNotV_e, gAndV_e, gOrV_e, gIf_e, gTru_e, gCall_e, hN_e, hNil_e, hCons_e, hT_e, gIt_e, gR1_e, gR2_e, gYes_e, gLc_e, gLc2_e, gSeq_e, gNx_e, gBk_e, gCt_e, gNo_e, gSet_e, gRet_e, gRetN_e, gIfS_e, gDrop_e, gAsg_e, gFor_e, fnS_e, gF_e, gFM_e, gFK_e, gApp_e, gExt_e, gISet_e, gAppP_e, gExtP_e, gIsi_e, gZip_e, gListRev_e, gSortK_e, gNeg_e, gPar_e, gRaise_e, gHeard_e, op2, vD, vDs, frD, frDs, stO, putO, bks, plainS, mutS, permL, appS, extS, isetS, isOl, noMu, noScr, oD, lst?, Rs.sl, Rs.d, D.items, bx, e4])
    (xs := rgD 0 d3.toNat) (ρ := [.mu (bx g3 c3), .sh (eR base), .sh (.int m), .ow (.lst (found.map eH)), .sh (.int at_), .sh x, .sh (.int (at_ + d1)), .sh (.int (at_ + d1 + d2)), s8, .no]) ⟨g3, c3, rfl⟩
  obtain ⟨ds, ρe, f1, ⟨g4, c4, rfl⟩, f3, f4⟩ := ld
  obtain ⟨ts, rfl, f5⟩ := ints_ex f4
  have l3 : (rgD 0 d3.toNat).length = d3.toNat := by unfold rgD; rw [List.length_map, List.length_range]
  rw [List.length_map, l3] at f3
  have st : sml ts := fun t ht => by
    have := f5 t ht
    omega
  have nR := fNe_R (x := ts) (y := []) st (fun i hi => absurd hi (by simp))
  simp only [eR, List.map_nil] at nR
  have r1 : (-4611686018427387904 ≤ d3 ∧ d3 < 4611686018427387904) := by omega
  have r2 : (rgD 0 d3.toNat).length ≤ 1000000 := by omega
  have q0 : found.length < 1000000 := by
    simp only [List.length_cons] at q2
    omega
  have hs' : hN 5 x [.mu (bx g c), .sh (eR base), .sh (.int m), .ow (.lst (found.map eH)), .sh (.int at_), s5, s6, s7, s8, .no] = some [.mu (bx g c), .sh (eR base), .sh (.int m), .ow (.lst (found.map eH)), .sh (.int at_), .sh x, s6, s7, s8, .no] := by
    rcases hs with ⟨rfl, rfl, rfl, rfl⟩ | ⟨_, _, _, _, rfl, rfl, rfl, rfl⟩ <;> rfl
  have hs2 : ∃ b c d : Sl, s6 = b ∧ s7 = c ∧ s8 = d := ⟨_, _, _, rfl, rfl, rfl⟩
  have low0 : 0 ≤ at_ + d1 := by omega
  have lowa : at_ ≤ at_ + d1 := by omega
  have high0 : at_ + d1 ≤ at_ + d1 + d2 := by omega
  generalize hl : at_ + d1 = low at *
  generalize hh : low + d2 = high at *
  simp only [bx, eR] at f1
  by_cases z1 : high ≤ base.length ∧ (low < high ∨ ts ≠ [])
  · refine ⟨_, [.mu (bx g4 c4), .sh (eR base), .sh (.int m), .ow (.lst ((found ++ [(low, high, ts)]).map eH)), .sh (.int (high + 1)), .sh x, .sh (.int low), .sh (.int high), .sh (.tup (ts.map .int)), .no], hs', .inl ?_, g4, c4, _, _, _, _, _, _, rfl, .inr ⟨_, _, _, _, rfl, rfl, rfl, rfl⟩, by omega, ?_, fun R hR => ?_, fun y hy => ?_⟩
    · have z1' := z1.1
      rcases z1.2 with y | y
      · rcases hs with ⟨rfl, rfl, rfl, rfl⟩ | ⟨_, _, _, _, rfl, rfl, rfl, rfl⟩ <;> simp [gFr_e, gVd_e, gSh_e, gVsR_e, gN_e, gTk_e, gC_e, gOp_e, gNil_e, gCons_e, gTup_e, gLst_e, gP0_e, gP1_e, gSl_e, gB_e, gNot_e, gAnd_e, gOr_e, gNotV_e, gAndV_e, gOrV_e, gIf_e, gTru_e, gCall_e, hN_e, hNil_e, hCons_e, hT_e, gIt_e, gR1_e, gR2_e, gYes_e, gLc_e, gLc2_e, gSeq_e, gNx_e, gBk_e, gCt_e, gNo_e, gSet_e, gRet_e, gRetN_e, gIfS_e, gDrop_e, gAsg_e, gFor_e, fnS_e, gF_e, gFM_e, gFK_e, gApp_e, gExt_e, gISet_e, gAppP_e, gExtP_e, gIsi_e, gZip_e, gListRev_e, gSortK_e, gNeg_e, gPar_e, gRaise_e, gHeard_e, op2, vD, vDs, frD, frDs, stO, putO, bks, plainS, mutS, permL, appS, extS, isetS, isOl, noMu, noScr, oD, lst?, Rs.sl, Rs.d, D.items, ints1, bx, eR, eH, fAdd, e1, e2, e3, r1, r2, f1, hl, hh, wipeS, unw, fTuple, fLen, fI, z1', y, q0]
      · by_cases y2 : low < high
        · rcases hs with ⟨rfl, rfl, rfl, rfl⟩ | ⟨_, _, _, _, rfl, rfl, rfl, rfl⟩ <;> simp [gFr_e, gVd_e, gSh_e, gVsR_e, gN_e, gTk_e, gC_e, gOp_e, gNil_e, gCons_e, gTup_e, gLst_e, gP0_e, gP1_e, gSl_e, gB_e, gNot_e, gAnd_e, gOr_e, gNotV_e, gAndV_e, gOrV_e, gIf_e, gTru_e, gCall_e, hN_e, hNil_e, hCons_e, hT_e, gIt_e, gR1_e, gR2_e, gYes_e, gLc_e, gLc2_e, gSeq_e, gNx_e, gBk_e, gCt_e, gNo_e, gSet_e, gRet_e, gRetN_e, gIfS_e, gDrop_e, gAsg_e, gFor_e, fnS_e, gF_e, gFM_e, gFK_e, gApp_e, gExt_e, gISet_e, gAppP_e, gExtP_e, gIsi_e, gZip_e, gListRev_e, gSortK_e, gNeg_e, gPar_e, gRaise_e, gHeard_e, op2, vD, vDs, frD, frDs, stO, putO, bks, plainS, mutS, permL, appS, extS, isetS, isOl, noMu, noScr, oD, lst?, Rs.sl, Rs.d, D.items, ints1, bx, eR, eH, fAdd, e1, e2, e3, r1, r2, f1, hl, hh, wipeS, unw, fTuple, fLen, fI, z1', y2, q0]
        · rw [decide_eq_false y] at nR
          rcases hs with ⟨rfl, rfl, rfl, rfl⟩ | ⟨_, _, _, _, rfl, rfl, rfl, rfl⟩ <;> simp [gFr_e, gVd_e, gSh_e, gVsR_e, gN_e, gTk_e, gC_e, gOp_e, gNil_e, gCons_e, gTup_e, gLst_e, gP0_e, gP1_e, gSl_e, gB_e, gNot_e, gAnd_e, gOr_e, gNotV_e, gAndV_e, gOrV_e, gIf_e, gTru_e, gCall_e, hN_e, hNil_e, hCons_e, hT_e, gIt_e, gR1_e, gR2_e, gYes_e, gLc_e, gLc2_e, gSeq_e, gNx_e, gBk_e, gCt_e, gNo_e, gSet_e, gRet_e, gRetN_e, gIfS_e, gDrop_e, gAsg_e, gFor_e, fnS_e, gF_e, gFM_e, gFK_e, gApp_e, gExt_e, gISet_e, gAppP_e, gExtP_e, gIsi_e, gZip_e, gListRev_e, gSortK_e, gNeg_e, gPar_e, gRaise_e, gHeard_e, op2, vD, vDs, frD, frDs, stO, putO, bks, plainS, mutS, permL, appS, extS, isetS, isOl, noMu, noScr, oD, lst?, Rs.sl, Rs.d, D.items, ints1, bx, eR, eH, fAdd, e1, e2, e3, r1, r2, f1, hl, hh, wipeS, unw, fTuple, fLen, fI, z1', y2, q0, nR]
    · simp only [List.length_append, List.length_cons, List.length_nil] at q2 ⊢
      omega
    · rw [List.append_assoc]
      exact q3 _ ⟨lowa, high0, z1.1, z1.2, hR⟩
    · rcases List.mem_append.mp hy with hy | hy
      · exact q4 y hy
      · rw [List.mem_singleton.mp hy]
        exact ⟨by show ts.length ≤ 2; omega, st⟩
  · refine ⟨_, [.mu (bx g4 c4), .sh (eR base), .sh (.int m), .ow (.lst (found.map eH)), .sh (.int at_), .sh x, .sh (.int low), .sh (.int high), .sh (.tup (ts.map .int)), .no], hs', .inl ?_, g4, c4, _, _, _, _, _, _, rfl, .inr ⟨_, _, _, _, rfl, rfl, rfl, rfl⟩, q1, ?_, q3, q4⟩
    · by_cases z1' : high ≤ base.length
      · have y2 : ¬ low < high := fun y => z1 ⟨z1', .inl y⟩
        have y : ts = [] := by
          by_cases y : ts = []
          · exact y
          · exact absurd ⟨z1', .inr y⟩ z1
        rw [decide_eq_true y] at nR
        rcases hs with ⟨rfl, rfl, rfl, rfl⟩ | ⟨_, _, _, _, rfl, rfl, rfl, rfl⟩ <;> simp [gFr_e, gVd_e, gSh_e, gVsR_e, gN_e, gTk_e, gC_e, gOp_e, gNil_e, gCons_e, gTup_e, gLst_e, gP0_e, gP1_e, gSl_e, gB_e, gNot_e, gAnd_e, gOr_e, gNotV_e, gAndV_e, gOrV_e, gIf_e, gTru_e, gCall_e, hN_e, hNil_e, hCons_e, hT_e, gIt_e, gR1_e, gR2_e, gYes_e, gLc_e, gLc2_e, gSeq_e, gNx_e, gBk_e, gCt_e, gNo_e, gSet_e, gRet_e, gRetN_e, gIfS_e, gDrop_e, gAsg_e, gFor_e, fnS_e, gF_e, gFM_e, gFK_e, gApp_e, gExt_e, gISet_e, gAppP_e, gExtP_e, gIsi_e, gZip_e, gListRev_e, gSortK_e, gNeg_e, gPar_e, gRaise_e, gHeard_e, op2, vD, vDs, frD, frDs, stO, putO, bks, plainS, mutS, permL, appS, extS, isetS, isOl, noMu, noScr, oD, lst?, Rs.sl, Rs.d, D.items, ints1, bx, eR, eH, fAdd, e1, e2, e3, r1, r2, f1, hl, hh, wipeS, unw, fTuple, fLen, fI, z1', y2, q0, nR]
      · rcases hs with ⟨rfl, rfl, rfl, rfl⟩ | ⟨_, _, _, _, rfl, rfl, rfl, rfl⟩ <;> simp [gFr_e, gVd_e, gSh_e, gVsR_e, gN_e, gTk_e, gC_e, gOp_e, gNil_e, gCons_e, gTup_e, gLst_e, gP0_e, gP1_e, gSl_e, gB_e, gNot_e, gAnd_e, gOr_e, gNotV_e, gAndV_e, gOrV_e, gIf_e, gTru_e, gCall_e, hN_e, hNil_e, hCons_e, hT_e, gIt_e, gR1_e, gR2_e, gYes_e, gLc_e, gLc2_e, gSeq_e, gNx_e, gBk_e, gCt_e, gNo_e, gSet_e, gRet_e, gRetN_e, gIfS_e, gDrop_e, gAsg_e, gFor_e, fnS_e, gF_e, gFM_e, gFK_e, gApp_e, gExt_e, gISet_e, gAppP_e, gExtP_e, gIsi_e, gZip_e, gListRev_e, gSortK_e, gNeg_e, gPar_e, gRaise_e, gHeard_e, op2, vD, vDs, frD, frDs, stO, putO, bks, plainS, mutS, permL, appS, extS, isetS, isOl, noMu, noScr, oD, lst?, Rs.sl, Rs.d, D.items, ints1, bx, eR, eH, fAdd, e1, e2, e3, r1, r2, f1, hl, hh, wipeS, unw, fTuple, fLen, fI, z1', q0]
    · simp only [List.length_cons] at q2
      omega
theorem ev_side {base : List Int} {g c m : Int} (h0 : 0 ≤ m) (h1 : m ≤ 4) : ∃ (g' c' : Int) (hs : List Hk), sem__law_side [.mu (.lst [.int g, .int c]), .sh (eR base), .sh (.int m)] = .ok (.sh (eHs hs)) [.mu (.lst [.int g', .int c']), .sh (eR base), .sh (.int m)] ∧ Dr base.length hs := by
  have l3 : (rgD 0 m.toNat).length = m.toNat := by unfold rgD; rw [List.length_map, List.length_range]
  obtain ⟨ρ', e, g', c', found, at_, s5, s6, s7, s8, rfl, r2, r3, r4, r5, r6⟩ := forL_rest (enc := id) (si_step (base := base) (m := m)) (xs := rgD 0 m.toNat) (ρ := [.mu (bx g c), .sh (eR base), .sh (.int m), .ow (.lst []), .sh (.int 0), .no, .no, .no, .no, .no]) ⟨g, c, [], 0, .no, .no, .no, .no, rfl, .inl ⟨rfl, rfl, rfl, rfl⟩, by omega, by rw [l3]; simp; omega, fun R h => h, fun x hx => absurd hx (by simp)⟩
  refine ⟨g', c', found, ?_, ?_, ?_, r6⟩
  · have r1 : (-4611686018427387904 ≤ m ∧ m < 4611686018427387904) := by omega
    rw [List.map_id] at e
    simp only [bx, eR] at e
    simp [gFr_e, gVd_e, gSh_e, gVsR_e, gN_e, gTk_e, gC_e, gOp_e, gNil_e, gCons_e, gTup_e, gLst_e, gP0_e, gP1_e, gSl_e, gB_e, gNot_e, gAnd_e, gOr_e, gNotV_e, gAndV_e, gOrV_e, gIf_e, gTru_e, gCall_e, hN_e, hNil_e, hCons_e, hT_e, gIt_e, gR1_e, gR2_e, gYes_e, gLc_e, gLc2_e, gSeq_e, gNx_e, gBk_e, gCt_e, gNo_e, gSet_e, gRet_e, gRetN_e, gIfS_e, gDrop_e, gAsg_e, gFor_e, fnS_e, gF_e, gFM_e, gFK_e, gApp_e, gExt_e, gISet_e, gAppP_e, gExtP_e, gIsi_e, gZip_e, gListRev_e, gSortK_e, gNeg_e, gPar_e, gRaise_e, gHeard_e, op2, vD, vDs, frD, frDs, stO, putO, bks, plainS, mutS, permL, appS, extS, isetS, isOl, noMu, noScr, oD, lst?, Rs.sl, Rs.d, D.items, ints1, sem__law_side, g__law_side, eR, eHs, r1, e, fTuple]
  · have := r5 [] trivial
    rwa [List.append_nil] at this
  · simpa using r4
end K62
end
section
set_option Elab.async false
set_option linter.all false
set_option maxRecDepth 100000
set_option maxHeartbeats 4000000
/-! K62m18: odd data shown. -/
namespace K62
open PySem DL
theorem ok_of (s : String) : PyData.strOk (Str.ofString s) = true := by
  rw [Str.ofString_eq_toList]
  unfold PyData.strOk
  rw [← Array.all_toList, List.all_eq_true]
  intro c hc
  obtain ⟨ch, _, rfl⟩ := List.mem_map.mp hc
  have h := ch.valid
  simp only [UInt32.isValidChar, Nat.isValidChar] at h
  rw [decide_eq_true_eq]
  show ch.val.toNat < _
  omega
theorem ok_app {a b : Str} (ha : PyData.strOk a = true) (hb : PyData.strOk b = true) : PyData.strOk (a ++ b) = true := by
  unfold PyData.strOk at *
  rw [PySem.Str.cps_append]
  simp only [Array.all_append, ha, hb, Bool.and_true]
theorem ok_from : ∀ (ts : List Str) (k : Nat) (acc : Str), PyData.strOk acc = true → (∀ t ∈ ts, PyData.strOk t = true) → PyData.strOk (textFrom k acc ts) = true
  | [], _, _, h, _ => h
  | t :: ts, k, acc, h, h2 => ok_from ts (k + 1) _ (ok_app (ok_app h (ok_of _)) (h2 t List.mem_cons_self)) fun u hu => h2 u (List.mem_cons_of_mem _ hu)
theorem ok_join : ∀ (ts : List Str), (∀ t ∈ ts, PyData.strOk t = true) → PyData.strOk (Str.join ", " ts) = true
  | [], _ => ok_of ""
  | [x], h => h x List.mem_cons_self
  | x :: y :: r, h => ok_app (ok_app (h x List.mem_cons_self) (ok_of _)) (ok_join (y :: r) fun u hu => h u (List.mem_cons_of_mem _ hu))
/-- odd data -/
inductive Wx : Nat → D → Prop
  | int {k : Nat} {i : Int} : i.natAbs < 10 ^ 12 → Wx k (.int i)
  | bl {k : Nat} {b : Bool} : Wx k (.bl b)
  | non {k : Nat} : Wx k .non
  | str {k : Nat} {s : Str} : PyData.strOk s = true → PyData.strOk (reprText s) = true → Wx k (.str s)
  | tup {k : Nat} {ds : List D} : (∀ d ∈ ds, Wx k d) → Wx (k + 1) (.tup ds)
  | lst {k : Nat} {ds : List D} : (∀ d ∈ ds, Wx k d) → Wx (k + 1) (.lst ds)
theorem Wh.wx {k : Nat} {d : D} (h : Wh k d) : Wx k d := by
  induction h with
  | int h => exact .int h
  | bl => exact .bl
  | non => exact .non
  | tup _ ih => exact .tup ih
  | lst _ ih => exact .lst ih
theorem Wx.is {k : Nat} {d : D} (h : Wx k d) : d.pure = true ∧ d.py.canLay0 = true ∧ d.py.depth ≤ k ∧ d.py.showable = true ∧ d.py.leavesShort 13 = true := by
  induction h with
  | @int k i h => exact (Wh.int (k := k) h).is
  | bl => simp [D.pure, D.py, PyData.canLay0, PyData.depth, PyData.showable, PyData.leavesShort]
  | non => simp [D.pure, D.py, PyData.canLay0, PyData.depth, PyData.showable, PyData.leavesShort]
  | @str k s h h2 =>
    refine ⟨by simp [D.pure], by simp [D.py, PyData.canLay0, h], by simp [D.py, PyData.depth], by simp [D.py, PyData.showable], ?_⟩
    simp only [D.py, PyData.leavesShort]
    unfold PyData.strOk at h
    rw [← Array.all_toList, List.all_eq_true] at h
    rw [List.all_eq_true]
    intro c hc
    have := h c hc
    rw [decide_eq_true_eq] at this ⊢
    omega
  | tup _ ih =>
    obtain ⟨b1, b2, b3, b4, b5⟩ := wh_all ih
    simp [D.pure, D.py, PyData.canLay0, PyData.depth, PyData.showable, PyData.leavesShort, b1, b2, b3, b4, b5]
  | lst _ ih =>
    obtain ⟨b1, b2, b3, b4, b5⟩ := wh_all ih
    simp [D.pure, D.py, PyData.canLay0, PyData.depth, PyData.showable, PyData.leavesShort, b1, b2, b3, b4, b5]
theorem Wx.okp {k : Nat} {d : D} (h : Wx k d) (hk : k ≤ 64) : d.okp = true := by
  obtain ⟨a1, a2, a3, _⟩ := h.is
  have : d.py.depth ≤ 64 := by omega
  simp [D.okp, SeqAt.shaped, a1, a2, this]
theorem shownAll_ok : ∀ {ds : List D}, (∀ d ∈ ds, PyData.strOk d.py.shown = true) → ∀ t ∈ PyData.shownAll (D.pys ds), PyData.strOk t = true
  | [], _, t, ht => by simp [D.pys, PyData.shownAll] at ht
  | d :: ds, h, t, ht => by
    rw [D.pys, PyData.shownAll] at ht
    rcases List.mem_cons.mp ht with rfl | ht
    · exact h d List.mem_cons_self
    · exact shownAll_ok (fun e he => h e (List.mem_cons_of_mem _ he)) t ht
theorem Wx.shown {k : Nat} {d : D} (h : Wx k d) : PyData.strOk d.py.shown = true := by
  induction h with
  | int h => rw [D.py, PyData.shown]; exact ok_of _
  | @bl k b => cases b <;> rw [D.py, PyData.shown] <;> exact ok_of _
  | non => rw [D.py, PyData.shown]; exact ok_of _
  | str h h2 => rw [D.py, PyData.shown]; exact h2
  | tup _ ih =>
    rw [D.py, PyData.shown]
    exact ok_app (ok_app (ok_of _) (ok_join _ (shownAll_ok ih))) (by split <;> exact ok_of _)
  | lst _ ih =>
    rw [D.py, PyData.shown]
    exact ok_app (ok_from _ _ _ (ok_of _) (shownAll_ok ih)) (ok_of _)
theorem Wx.dsp {k : Nat} {d : D} (h : Wx k d) : d.dsp = true := by cases h <;> rfl
theorem fRepr_X {k : Nat} {d : D} (h : Wx k d) (hk : k ≤ 60) (w : d.py.weight ≤ 60000) : fRepr [d] = some (.sh (.str d.py.shown)) := by
  obtain ⟨a1, a2, a3, a4, a5⟩ := h.is
  have e1 := h.okp (by omega)
  have e3 := PyData.shown_le 13 (by decide) _ a5
  have e4 : d.py.shown.length ≤ 1000000 := by omega
  show (if d.dsp && d.okp && d.py.showable && decide (d.py.shown.length ≤ 1000000) then some (Rs.sh (D.str d.py.shown)) else none) = _
  rw [e1, a4, decide_eq_true e4, h.dsp]
  rfl
/-! ### what is heard of a refusal -/
def told (v : D) : D := .tup [.str (Str.ofString "refused"), .str v.py.shown, .bl true]
theorem told_okp {v : D} (h : PyData.strOk v.py.shown = true) : (told v).okp = true := by
  have k := ok_of "refused"
  simp [told, D.okp, D.pure, D.pures, SeqAt.shaped, D.py, D.pys, PyData.canLay0, PyData.canLayAll0, PyData.depth, PyData.depthAll, k, h]
theorem told_eqv (v : D) : (told v).eqv (told v) = true := by
  simp [told, D.eqv, D.py, D.pys, PyData.eqv, PyData.eqvAll]
theorem fNe_told {v : D} (h : PyData.strOk v.py.shown = true) : fNe (told v) (told v) = some (.sh (.bl false)) := by
  show (if (told v).okp && (told v).okp then some (Rs.sh (.bl (!(told v).eqv (told v)))) else none) = _
  rw [told_okp h, told_eqv]
  rfl
theorem fEq_told {v : D} (h : PyData.strOk v.py.shown = true) : fEq (told v) (told v) = some (.sh (.bl true)) := by
  show (if (told v).okp && (told v).okp then some (Rs.sh (.bl ((told v).eqv (told v)))) else none) = _
  rw [told_okp h, told_eqv]
  rfl
theorem heard_ref {v : D} {ρ : List Sl} (h : fRepr [v] = some (.sh (.str v.py.shown))) : heardR (some (Str.ofString "told")) hs__law_heard (.ex (refE v) ρ) = .ok (.sh (told v)) ρ := by
  have e1 : (Str.ofString "Refused" == Str.ofString "Refused") = true := by decide
  have e2 : (Str.ofString "at" == Str.ofString "at") = true := by decide
  simp [heardR, hs__law_heard, evs, HEl.ev, refE, List.lookup, h, told, Rs.d]
end K62
end
section
set_option Elab.async false
set_option linter.all false
set_option maxRecDepth 100000
set_option maxHeartbeats 4000000
/-! K62m19: what is refused. -/
namespace K62
open PySem DL
section
variable {b v : D} (h : sem_check_hunks [.sh b, .sh v] = .ex (refE v) [.sh b, .sh v])
include h
theorem rf_apply {xs : List Int} (hb : isB b xs) : sem_apply_hunks [.sh b, .sh v] = .ex (refE v) [.sh b, .sh v] := by
  rcases hb with rfl | rfl <;> simp [gFr_e, gVd_e, gSh_e, gVsR_e, gN_e, gTk_e, gC_e, gOp_e, gNil_e, gCons_e, gTup_e, gLst_e, gP0_e, gP1_e, gSl_e, gB_e, gNot_e, gAnd_e, gOr_e, gNotV_e, gAndV_e, gOrV_e, gIf_e, gTru_e, gCall_e, hN_e, hNil_e, hCons_e, hT_e, gIt_e, gR1_e, gR2_e, gYes_e, gLc_e, gLc2_e, gSeq_e, gNx_e, gBk_e, gCt_e, gNo_e, gSet_e, gRet_e, gRetN_e, gIfS_e, gDrop_e, gAsg_e, gFor_e, fnS_e, gF_e, gFM_e, gFK_e, gApp_e, gExt_e, gISet_e, gAppP_e, gExtP_e, gIsi_e, gZip_e, gListRev_e, gSortK_e, gNeg_e, gPar_e, gRaise_e, gHeard_e, op2, vD, vDs, frD, frDs, stO, putO, bks, plainS, mutS, permL, appS, extS, isetS, isOl, noMu, noScr, oD, lst?, Rs.sl, Rs.d, D.items, sem_apply_hunks, g_apply_hunks, h, fLen]
theorem rf_merge1 (w : D) : sem_merge_parts [.sh b, .sh v, .sh w] = .ex (refE v) [.sh b, .sh v, .sh w] := by
  simp [gFr_e, gVd_e, gSh_e, gVsR_e, gN_e, gTk_e, gC_e, gOp_e, gNil_e, gCons_e, gTup_e, gLst_e, gP0_e, gP1_e, gSl_e, gB_e, gNot_e, gAnd_e, gOr_e, gNotV_e, gAndV_e, gOrV_e, gIf_e, gTru_e, gCall_e, hN_e, hNil_e, hCons_e, hT_e, gIt_e, gR1_e, gR2_e, gYes_e, gLc_e, gLc2_e, gSeq_e, gNx_e, gBk_e, gCt_e, gNo_e, gSet_e, gRet_e, gRetN_e, gIfS_e, gDrop_e, gAsg_e, gFor_e, fnS_e, gF_e, gFM_e, gFK_e, gApp_e, gExt_e, gISet_e, gAppP_e, gExtP_e, gIsi_e, gZip_e, gListRev_e, gSortK_e, gNeg_e, gPar_e, gRaise_e, gHeard_e, op2, vD, vDs, frD, frDs, stO, putO, bks, plainS, mutS, permL, appS, extS, isetS, isOl, noMu, noScr, oD, lst?, Rs.sl, Rs.d, D.items, sem_merge_parts, g_merge_parts, h]
theorem rf_merge2 {v1 x : D} (h1 : sem_check_hunks [.sh b, .sh v1] = .ok (.sh x) [.sh b, .sh v1]) : sem_merge_parts [.sh b, .sh v1, .sh v] = .ex (refE v) [.sh b, .sh v1, .sh v] := by
  simp [gFr_e, gVd_e, gSh_e, gVsR_e, gN_e, gTk_e, gC_e, gOp_e, gNil_e, gCons_e, gTup_e, gLst_e, gP0_e, gP1_e, gSl_e, gB_e, gNot_e, gAnd_e, gOr_e, gNotV_e, gAndV_e, gOrV_e, gIf_e, gTru_e, gCall_e, hN_e, hNil_e, hCons_e, hT_e, gIt_e, gR1_e, gR2_e, gYes_e, gLc_e, gLc2_e, gSeq_e, gNx_e, gBk_e, gCt_e, gNo_e, gSet_e, gRet_e, gRetN_e, gIfS_e, gDrop_e, gAsg_e, gFor_e, fnS_e, gF_e, gFM_e, gFK_e, gApp_e, gExt_e, gISet_e, gAppP_e, gExtP_e, gIsi_e, gZip_e, gListRev_e, gSortK_e, gNeg_e, gPar_e, gRaise_e, gHeard_e, op2, vD, vDs, frD, frDs, stO, putO, bks, plainS, mutS, permL, appS, extS, isetS, isOl, noMu, noScr, oD, lst?, Rs.sl, Rs.d, D.items, sem_merge_parts, g_merge_parts, h, h1]
end
theorem wAll {B : Nat} : ∀ {ds : List D}, (∀ d ∈ ds, d.py.weight ≤ B) → PyData.weightAll (D.pys ds) ≤ (B + 1) * ds.length
  | [], _ => by simp [D.pys, PyData.weightAll]
  | d :: ds, h => by
    have h1 := h d List.mem_cons_self
    have h2 := wAll (ds := ds) fun e he => h e (List.mem_cons_of_mem _ he)
    rw [D.pys, PyData.weightAll, List.length_cons, Nat.mul_succ]
    omega
theorem wI {i : Int} (h : i.natAbs < 10 ^ 12) : (D.int i).py.weight ≤ 64 := wInt h
theorem wRs {xs : List Int} (h : sml xs) : (eR xs).py.weight ≤ 65 * xs.length := by
  have := wInts h
  unfold eR
  simp only [D.py, PyData.weight, pys_map]
  exact this
theorem wH2 {x : Hk} (h : smlH x) (hl : x.2.2.length ≤ 8) : (eH x).py.weight ≤ 700 := by
  have h1 := wI h.1
  have h2 := wI h.2.1
  have h3 := wRs h.2.2
  unfold eR at h3
  unfold eH
  simp only [D.py, D.pys, PyData.weight, PyData.weightAll] at h1 h2 h3 ⊢
  omega
theorem bads_wx {n : Nat} (hn : n ≤ 60) : ∀ d ∈ bads n, Wx 4 d ∧ d.py.weight ≤ 700 := by
  have k1 : PyData.strOk (Str.ofString "hunk") = true := ok_of _
  have k2 : PyData.strOk (reprText (Str.ofString "hunk")) = true := by decide +kernel
  have w1 : (PyData.str (Str.ofString "hunk")).weight ≤ 700 := by decide +kernel
  have w2 : (PyData.int ((n : Int) + 1)).weight ≤ 64 := wInt (by omega)
  have i0 : ∀ {k : Nat} {i : Int}, i.natAbs < 10 ^ 12 → Wx k (.int i) := fun h => .int h
  have t3 : Wx 3 (.tup [.int 3]) := .tup fun d hd => by rw [List.mem_singleton.mp hd]; exact i0 (by decide)
  have t1 : Wx 3 (.tup [.int 1]) := .tup fun d hd => by rw [List.mem_singleton.mp hd]; exact i0 (by decide)
  have t0 : Wx 3 (.tup []) := .tup fun d hd => absurd hd (by simp)
  have q : ∀ i : Int, i.natAbs < 100 → (PyData.int i).weight ≤ 64 := fun i hi => wInt (by omega)
  have z0 := q 0 (by decide)
  have z1 := q 1 (by decide)
  have z3 := q 3 (by decide)
  have zm := q (-1) (by decide)
  intro d hd
  simp only [bads, List.mem_cons, List.not_mem_nil, or_false] at hd
  rcases hd with rfl | rfl | rfl | rfl | rfl | rfl | rfl | rfl | rfl | rfl | rfl
  · exact ⟨.non, by simp [D.py, PyData.weight]⟩
  · refine ⟨.tup fun d hd => ?_, by simp only [D.py, D.pys, PyData.weight, PyData.weightAll] at *; omega⟩
    simp only [List.mem_cons, List.not_mem_nil, or_false] at hd
    rcases hd with rfl | rfl | rfl <;> first | exact t0 | exact i0 (by decide)
  · refine ⟨.tup fun d hd => ?_, by simp only [D.py, D.pys, PyData.weight, PyData.weightAll] at *; omega⟩
    simp only [List.mem_cons, List.not_mem_nil, or_false] at hd
    rcases hd with rfl | rfl | rfl <;> first | exact t0 | exact i0 (by omega)
  · refine ⟨.tup fun d hd => ?_, by simp only [D.py, D.pys, PyData.weight, PyData.weightAll] at *; omega⟩
    simp only [List.mem_cons, List.not_mem_nil, or_false] at hd
    rcases hd with rfl | rfl | rfl <;> first | exact t3 | exact i0 (by decide)
  · refine ⟨.tup fun d hd => ?_, by simp only [D.py, D.pys, PyData.weight, PyData.weightAll] at *; omega⟩
    simp only [List.mem_cons, List.not_mem_nil, or_false] at hd
    rcases hd with rfl | rfl | rfl <;> first | exact t3 | exact i0 (by decide)
  · refine ⟨.tup fun d hd => ?_, by simp only [D.py, D.pys, PyData.weight, PyData.weightAll] at *; omega⟩
    simp only [List.mem_cons, List.not_mem_nil, or_false] at hd
    rcases hd with rfl | rfl <;> exact i0 (by decide)
  · refine ⟨.tup fun d hd => ?_, by simp only [D.py, D.pys, PyData.weight, PyData.weightAll] at *; omega⟩
    simp only [List.mem_cons, List.not_mem_nil, or_false] at hd
    rcases hd with rfl | rfl | rfl <;> first | exact t3 | exact .non | exact i0 (by decide)
  · refine ⟨.tup fun d hd => ?_, by simp only [D.py, D.pys, PyData.weight, PyData.weightAll] at *; omega⟩
    simp only [List.mem_cons, List.not_mem_nil, or_false] at hd
    rcases hd with rfl | rfl | rfl <;> first | exact .non | exact i0 (by decide)
  · refine ⟨.tup fun d hd => ?_, by simp only [D.py, D.pys, PyData.weight, PyData.weightAll] at *; omega⟩
    simp only [List.mem_cons, List.not_mem_nil, or_false] at hd
    rcases hd with rfl | rfl | rfl <;> first | exact t3 | exact .bl | exact i0 (by decide)
  · refine ⟨.tup fun d hd => ?_, by simp only [D.py, D.pys, PyData.weight, PyData.weightAll] at *; omega⟩
    simp only [List.mem_cons, List.not_mem_nil, or_false] at hd
    rcases hd with rfl | rfl | rfl | rfl <;> first | exact t1 | exact i0 (by decide)
  · exact ⟨.str k1 k2, w1⟩
/-- what is handed as hunks -/
def odds (n : Nat) (hs : List Hk) (k : Nat) (bad : D) : List D := [.lst ((hs.take k).map eH ++ [bad] ++ (hs.drop k).map eH), .non, .int 0, .str "hunks", .lst [.tup [.int 0, .int 0, .tup [.int 1]], .tup [.int 0, .int 0, .tup [.int 2]]], .lst [.tup [.int 0, .int 0, .tup [.int 1]], .tup [.int 0, .int (if (n : Int) < 1 then (n : Int) else 1), .tup [.int 2]]]]
theorem odd_refused {b : D} {xs : List Int} {hs : List Hk} {k : Nat} {bad odd : D} (hb : isB b xs) (v : Vd 0 xs.length hs) (hl : hs.length ≤ 100) (hbad : bad ∈ bads xs.length) (ho : odd ∈ odds xs.length hs k bad) : sem_check_hunks [.sh b, .sh odd] = .ex (refE odd) [.sh b, .sh odd] := by
  simp only [odds, List.mem_cons, List.not_mem_nil, or_false] at ho
  rcases ho with rfl | rfl | rfl | rfl | rfl | rfl
  · refine ev_check_bad (ps := ((hs.take k).map fun x => (eH x, true)) ++ [(bad, false)] ++ (hs.drop k).map fun x => (eH x, true)) (.inr ?_) (fun p hp => ?_) ?_ ?_
    · rw [List.map_append, List.map_append, List.map_map, List.map_map]
      rfl
    · have ok : ∀ x ∈ hs, bh b (eH x) true := fun x hx => by
        obtain ⟨a1, a2, a3, a4⟩ := v.mem x hx
        exact ev_hk hb (isHk_eH x) a1 a2 a3 a4
      rcases List.mem_append.mp hp with hp | hp
      · rcases List.mem_append.mp hp with hp | hp
        · obtain ⟨x, hx, rfl⟩ := List.mem_map.mp hp
          exact ok x (List.mem_of_mem_take hx)
        · rw [List.mem_singleton.mp hp]
          exact ev_bad hb hbad
      · obtain ⟨x, hx, rfl⟩ := List.mem_map.mp hp
        exact ok x (List.mem_of_mem_drop hx)
    · simp
      omega
    · simp
  · exact ev_check_non (.inl rfl)
  · exact ev_check_non (.inr (.inl ⟨_, rfl⟩))
  · exact ev_check_non (.inr (.inr ⟨_, rfl⟩))
  · exact ev_check_near hb (by omega) (by omega)
  · exact ev_check_near hb (by split <;> omega) (by split <;> omega)
theorem odd_wx {n : Nat} {hs : List Hk} {k : Nat} {bad odd : D} (hn : n ≤ 60) (hl : hs.length ≤ 12) (hs2 : ∀ x ∈ hs, smlH x ∧ x.2.2.length ≤ 8) (hbad : bad ∈ bads n) (ho : odd ∈ odds n hs k bad) : Wx 5 odd ∧ odd.py.weight ≤ 60000 := by
  have k1 : PyData.strOk (Str.ofString "hunks") = true := ok_of _
  have k2 : PyData.strOk (reprText (Str.ofString "hunks")) = true := by decide +kernel
  have w1 : (PyData.str (Str.ofString "hunks")).weight ≤ 60000 := by decide +kernel
  have q : ∀ i : Int, i.natAbs < 100 → (PyData.int i).weight ≤ 64 := fun i hi => wInt (by omega)
  have z0 := q 0 (by decide)
  have z1 := q 1 (by decide)
  have z2 := q 2 (by decide)
  have zm := q (if (n : Int) < 1 then (n : Int) else 1) (by split <;> omega)
  have tr : ∀ i j t : Int, i.natAbs < 100 → j.natAbs < 100 → t.natAbs < 100 → Wx 4 (.tup [.int i, .int j, .tup [.int t]]) := fun i j t h1 h2 h3 => .tup fun d hd => by
    simp only [List.mem_cons, List.not_mem_nil, or_false] at hd
    rcases hd with rfl | rfl | rfl
    · exact .int (by omega)
    · exact .int (by omega)
    · exact .tup fun d hd => by rw [List.mem_singleton.mp hd]; exact .int (by omega)
  simp only [odds, List.mem_cons, List.not_mem_nil, or_false] at ho
  rcases ho with rfl | rfl | rfl | rfl | rfl | rfl
  · have each : ∀ d ∈ (hs.take k).map eH ++ [bad] ++ (hs.drop k).map eH, Wx 4 d ∧ d.py.weight ≤ 700 := fun d hd => by
      have ok : ∀ x ∈ hs, Wx 4 (eH x) ∧ (eH x).py.weight ≤ 700 := fun x hx => ⟨((wh_H (hs2 x hx).1).mono (by decide)).wx, wH2 (hs2 x hx).1 (hs2 x hx).2⟩
      rcases List.mem_append.mp hd with hp | hp
      · rcases List.mem_append.mp hp with hp | hp
        · obtain ⟨x, hx, rfl⟩ := List.mem_map.mp hp
          exact ok x (List.mem_of_mem_take hx)
        · rw [List.mem_singleton.mp hp]
          exact bads_wx hn _ hbad
      · obtain ⟨x, hx, rfl⟩ := List.mem_map.mp hp
        exact ok x (List.mem_of_mem_drop hx)
    refine ⟨.lst fun d hd => (each d hd).1, ?_⟩
    have w := wAll fun d hd => (each d hd).2
    have l : ((hs.take k).map eH ++ [bad] ++ (hs.drop k).map eH).length ≤ 13 := by
      simp
      omega
    generalize (hs.take k).map eH ++ [bad] ++ (hs.drop k).map eH = L at *
    simp only [D.py, PyData.weight]
    omega
  · exact ⟨.non, by simp [D.py, PyData.weight]⟩
  · exact ⟨.int (by decide), by simp only [D.py]; omega⟩
  · exact ⟨.str k1 k2, w1⟩
  · refine ⟨.lst fun d hd => ?_, by simp only [D.py, D.pys, PyData.weight, PyData.weightAll] at *; omega⟩
    simp only [List.mem_cons, List.not_mem_nil, or_false] at hd
    rcases hd with rfl | rfl <;> exact tr _ _ _ (by decide) (by decide) (by decide)
  · refine ⟨.lst fun d hd => ?_, by simp only [D.py, D.pys, PyData.weight, PyData.weightAll] at *; omega⟩
    simp only [List.mem_cons, List.not_mem_nil, or_false] at hd
    rcases hd with rfl | rfl
    · exact tr _ _ _ (by decide) (by decide) (by decide)
    · exact tr _ _ _ (by decide) (by split <;> omega) (by decide)
end K62
end
section
set_option Elab.async false
set_option linter.all false
set_option maxRecDepth 100000
set_option maxHeartbeats 4000000
/-! K62m20: _law_none_right. -/
namespace K62
open PySem DL
abbrev nr1 : GS := (DL.gPar 3 4 (DL.gCall fLen (DL.gCons (DL.gVsR 1) DL.gNil)) (DL.gFM 2 sem__law_take (DL.gCons (DL.gVsR 0) (DL.gCons (DL.gVd (DL.gOp fAdd (DL.gVd (DL.gCall fLen (DL.gCons (DL.gVsR 2) DL.gNil))) (DL.gVd (DL.gC (.int 1))))) DL.gNil))))
abbrev nr2 : GS := (DL.gSet 5 (DL.gFM 2 sem__law_pick (DL.gCons (DL.gVsR 0) (DL.gCons (DL.gVd (DL.gLst (DL.gCons (DL.gVd (DL.gC .non)) (DL.gCons (DL.gVd (DL.gTup (DL.gCons (DL.gVd (DL.gC (.int 0))) (DL.gCons (DL.gVd (DL.gC (.int 0))) (DL.gCons (DL.gVd (DL.gTup DL.gNil)) DL.gNil))))) (DL.gCons (DL.gVd (DL.gTup (DL.gCons (DL.gVd (DL.gC (.int 0))) (DL.gCons (DL.gVd (DL.gOp fAdd (DL.gVsR 3) (DL.gVd (DL.gC (.int 1))))) (DL.gCons (DL.gVd (DL.gTup DL.gNil)) DL.gNil))))) (DL.gCons (DL.gVd (DL.gTup (DL.gCons (DL.gVd (DL.gC (.int 1))) (DL.gCons (DL.gVd (DL.gC (.int 0))) (DL.gCons (DL.gVd (DL.gTup (DL.gCons (DL.gVd (DL.gC (.int 3))) DL.gNil))) DL.gNil))))) (DL.gCons (DL.gVd (DL.gTup (DL.gCons (DL.gVd (DL.gOp fSub (DL.gVd (DL.gC (.int 0))) (DL.gVd (DL.gC (.int 1))))) (DL.gCons (DL.gVd (DL.gC (.int 0))) (DL.gCons (DL.gVd (DL.gTup (DL.gCons (DL.gVd (DL.gC (.int 3))) DL.gNil))) DL.gNil))))) (DL.gCons (DL.gVd (DL.gTup (DL.gCons (DL.gVd (DL.gC (.int 0))) (DL.gCons (DL.gVd (DL.gC (.int 0))) DL.gNil)))) (DL.gCons (DL.gVd (DL.gTup (DL.gCons (DL.gVd (DL.gC (.int 0))) (DL.gCons (DL.gVd (DL.gC .non)) (DL.gCons (DL.gVd (DL.gTup (DL.gCons (DL.gVd (DL.gC (.int 3))) DL.gNil))) DL.gNil))))) (DL.gCons (DL.gVd (DL.gTup (DL.gCons (DL.gVd (DL.gC (.int 0))) (DL.gCons (DL.gVd (DL.gC (.int 0))) (DL.gCons (DL.gVd (DL.gC .non)) DL.gNil))))) (DL.gCons (DL.gVd (DL.gTup (DL.gCons (DL.gVd (DL.gC (.bl true))) (DL.gCons (DL.gVd (DL.gC (.int 1))) (DL.gCons (DL.gVd (DL.gTup (DL.gCons (DL.gVd (DL.gC (.int 3))) DL.gNil))) DL.gNil))))) (DL.gCons (DL.gVd (DL.gTup (DL.gCons (DL.gVd (DL.gC (.int 0))) (DL.gCons (DL.gVd (DL.gC (.int 0))) (DL.gCons (DL.gVd (DL.gTup (DL.gCons (DL.gVd (DL.gC (.int 1))) DL.gNil))) (DL.gCons (DL.gVd (DL.gC (.int 0))) DL.gNil)))))) (DL.gCons (DL.gVd (DL.gC (.str "hunk"))) DL.gNil))))))))))))) DL.gNil))))
abbrev nr3 : GS := (DL.gSet 6 (DL.gFM 2 sem__law_pick (DL.gCons (DL.gVsR 0) (DL.gCons (DL.gVd (DL.gLst (DL.gCons (DL.gVd (DL.gOp fAdd (DL.gVd (DL.gOp fAdd (DL.gVd (DL.gCall fList (DL.gCons (DL.gVd (DL.gSl (DL.gVsR 2) DL.gP0 (DL.gP1 (DL.gVsR 4)))) DL.gNil))) (DL.gVd (DL.gLst (DL.gCons (DL.gVd (DL.gTk 5)) DL.gNil))))) (DL.gVd (DL.gCall fList (DL.gCons (DL.gVd (DL.gSl (DL.gVsR 2) (DL.gP1 (DL.gVsR 4)) DL.gP0)) DL.gNil))))) (DL.gCons (DL.gVd (DL.gC .non)) (DL.gCons (DL.gVd (DL.gC (.int 0))) (DL.gCons (DL.gVd (DL.gC (.str "hunks"))) (DL.gCons (DL.gVd (DL.gLst (DL.gCons (DL.gVd (DL.gTup (DL.gCons (DL.gVd (DL.gC (.int 0))) (DL.gCons (DL.gVd (DL.gC (.int 0))) (DL.gCons (DL.gVd (DL.gTup (DL.gCons (DL.gVd (DL.gC (.int 1))) DL.gNil))) DL.gNil))))) (DL.gCons (DL.gVd (DL.gTup (DL.gCons (DL.gVd (DL.gC (.int 0))) (DL.gCons (DL.gVd (DL.gC (.int 0))) (DL.gCons (DL.gVd (DL.gTup (DL.gCons (DL.gVd (DL.gC (.int 2))) DL.gNil))) DL.gNil))))) DL.gNil)))) (DL.gCons (DL.gVd (DL.gLst (DL.gCons (DL.gVd (DL.gTup (DL.gCons (DL.gVd (DL.gC (.int 0))) (DL.gCons (DL.gVd (DL.gC (.int 0))) (DL.gCons (DL.gVd (DL.gTup (DL.gCons (DL.gVd (DL.gC (.int 1))) DL.gNil))) DL.gNil))))) (DL.gCons (DL.gVd (DL.gTup (DL.gCons (DL.gVd (DL.gC (.int 0))) (DL.gCons (DL.gVd (DL.gCall fMin (DL.gCons (DL.gVd (DL.gC (.int 1))) (DL.gCons (DL.gVsR 3) DL.gNil)))) (DL.gCons (DL.gVd (DL.gTup (DL.gCons (DL.gVd (DL.gC (.int 2))) DL.gNil))) DL.gNil))))) DL.gNil)))) DL.gNil)))))))) DL.gNil))))
abbrev nr4 : GS := (DL.gIfS (DL.gB (DL.gOp fNe (DL.gVd (DL.gHeard (some "told") hs__law_heard (DL.gFr (DL.gF 2 sem_check_hunks (DL.gCons (DL.gVsR 1) (DL.gCons (DL.gVd (DL.gTk 6)) DL.gNil)))))) (DL.gVd (DL.gTup (DL.gCons (DL.gVd (DL.gC (.str "refused"))) (DL.gCons (DL.gVd (DL.gCall fRepr (DL.gCons (DL.gVsR 6) DL.gNil))) (DL.gCons (DL.gVd (DL.gC (.bl true))) DL.gNil))))))) (DL.gRet (DL.gC (.bl false))) DL.gNx)
abbrev nr5 : GS := (DL.gIfS (DL.gB (DL.gOp fNe (DL.gVd (DL.gHeard (some "told") hs__law_heard (DL.gFr (DL.gF 3 sem_merge_parts (DL.gCons (DL.gVsR 1) (DL.gCons (DL.gVd (DL.gTk 6)) (DL.gCons (DL.gVd (DL.gC .non)) DL.gNil))))))) (DL.gVd (DL.gTup (DL.gCons (DL.gVd (DL.gC (.str "refused"))) (DL.gCons (DL.gVd (DL.gCall fRepr (DL.gCons (DL.gVsR 6) DL.gNil))) (DL.gCons (DL.gVd (DL.gC (.bl true))) DL.gNil))))))) (DL.gRet (DL.gC (.bl false))) DL.gNx)
abbrev nr6 : GS := (DL.gIfS (DL.gB (DL.gOp fNe (DL.gVd (DL.gHeard (some "told") hs__law_heard (DL.gFr (DL.gF 2 sem_apply_hunks (DL.gCons (DL.gVsR 1) (DL.gCons (DL.gVd (DL.gTk 6)) DL.gNil)))))) (DL.gVd (DL.gTup (DL.gCons (DL.gVd (DL.gC (.str "refused"))) (DL.gCons (DL.gVd (DL.gCall fRepr (DL.gCons (DL.gVsR 6) DL.gNil))) (DL.gCons (DL.gVd (DL.gC (.bl true))) DL.gNil))))))) (DL.gRet (DL.gC (.bl false))) DL.gNx)
abbrev nr7 : GS := (DL.gRet (DL.gOp fEq (DL.gVd (DL.gHeard (some "told") hs__law_heard (DL.gFr (DL.gF 3 sem_merge_parts (DL.gCons (DL.gVsR 1) (DL.gCons (DL.gVd (DL.gCall fList (DL.gCons (DL.gVsR 2) DL.gNil))) (DL.gCons (DL.gVd (DL.gTk 6)) DL.gNil))))))) (DL.gVd (DL.gTup (DL.gCons (DL.gVd (DL.gC (.str "refused"))) (DL.gCons (DL.gVd (DL.gCall fRepr (DL.gCons (DL.gVsR 6) DL.gNil))) (DL.gCons (DL.gVd (DL.gC (.bl true))) DL.gNil)))))))
theorem nris : g__law_none_right = (DL.gSeq nr1 (DL.gSeq nr2 (DL.gSeq nr3 (DL.gSeq nr4 (DL.gSeq nr5 (DL.gSeq nr6 nr7)))))) := rfl

abbrev stN (g c : Int) (base : List Int) (hs : List Hk) (s3 s4 s5 s6 : Sl) : List Sl := [.mu (bx g c), .sh (eR base), .sh (eHs hs), s3, s4, s5, s6]
section
variable {g c : Int} {base : List Int} {hs : List Hk} {s3 s4 s5 s6 : Sl}
theorem nd1 (hl : hs.length ≤ 1000) : ∃ g' c' k, nr1 (stN g c base hs .no .no s5 s6) = .nx (stN g' c' base hs (.sh (.int base.length)) (.sh (.int k)) s5 s6) ∧ 0 ≤ k := by
  obtain ⟨d, g', c', e, h0, h1⟩ := ev_take g c ((hs.length : Int) + 1) (by omega) (by omega)
  exact ⟨g', c', d, by simp [gFr_e, gVd_e, gSh_e, gVsR_e, gN_e, gTk_e, gC_e, gOp_e, gNil_e, gCons_e, gTup_e, gLst_e, gP0_e, gP1_e, gSl_e, gB_e, gNot_e, gAnd_e, gOr_e, gNotV_e, gAndV_e, gOrV_e, gIf_e, gTru_e, gCall_e, hN_e, hNil_e, hCons_e, hT_e, gIt_e, gR1_e, gR2_e, gYes_e, gLc_e, gLc2_e, gSeq_e, gNx_e, gBk_e, gCt_e, gNo_e, gSet_e, gRet_e, gRetN_e, gIfS_e, gDrop_e, gAsg_e, gFor_e, fnS_e, gF_e, gFM_e, gFK_e, gApp_e, gExt_e, gISet_e, gAppP_e, gExtP_e, gIsi_e, gZip_e, gListRev_e, gSortK_e, gNeg_e, gPar_e, gRaise_e, gHeard_e, op2, vD, vDs, frD, frDs, stO, putO, bks, plainS, mutS, permL, appS, extS, isetS, isOl, noMu, noScr, oD, lst?, Rs.sl, Rs.d, D.items, stN, bx, eR, eHs, fLen, fAdd, e], h0⟩
theorem nd2 : ∃ g' c' bad, nr2 (stN g c base hs (.sh (.int base.length)) s4 .no s6) = .nx (stN g' c' base hs (.sh (.int base.length)) s4 (.sh bad) s6) ∧ bad ∈ bads base.length := by
  obtain ⟨d, g', c', e, h⟩ := ev_pickG g c (ds := bads base.length) (by simp [bads]) (by simp [bads])
  refine ⟨g', c', d, ?_, h⟩
  simp only [bads] at e
  simp [gFr_e, gVd_e, gSh_e, gVsR_e, gN_e, gTk_e, gC_e, gOp_e, gNil_e, gCons_e, gTup_e, gLst_e, gP0_e, gP1_e, gSl_e, gB_e, gNot_e, gAnd_e, gOr_e, gNotV_e, gAndV_e, gOrV_e, gIf_e, gTru_e, gCall_e, hN_e, hNil_e, hCons_e, hT_e, gIt_e, gR1_e, gR2_e, gYes_e, gLc_e, gLc2_e, gSeq_e, gNx_e, gBk_e, gCt_e, gNo_e, gSet_e, gRet_e, gRetN_e, gIfS_e, gDrop_e, gAsg_e, gFor_e, fnS_e, gF_e, gFM_e, gFK_e, gApp_e, gExt_e, gISet_e, gAppP_e, gExtP_e, gIsi_e, gZip_e, gListRev_e, gSortK_e, gNeg_e, gPar_e, gRaise_e, gHeard_e, op2, vD, vDs, frD, frDs, stO, putO, bks, plainS, mutS, permL, appS, extS, isetS, isOl, noMu, noScr, oD, lst?, Rs.sl, Rs.d, D.items, stN, bx, fAdd, fSub, e]
theorem nd3 {k : Int} {bad : D} (h0 : 0 ≤ k) (hl : hs.length ≤ 1000) : ∃ g' c' odd, nr3 (stN g c base hs (.sh (.int base.length)) (.sh (.int k)) (.sh bad) .no) = .nx (stN g' c' base hs (.sh (.int base.length)) (.sh (.int k)) (.sh bad) (.sh odd)) ∧ odd ∈ odds base.length hs k.toNat bad := by
  obtain ⟨d, g', c', e, h⟩ := ev_pickG g c (ds := odds base.length hs k.toNat bad) (by simp [odds]) (by simp [odds])
  refine ⟨g', c', d, ?_, h⟩
  have q1 : cutA hs none (some k) = hs.take k.toNat := cutA_to h0
  have q2 : cutA hs (some k) none = hs.drop k.toNat := cutA_from h0
  have l1 : (hs.take k.toNat).length + 1 ≤ 1000000 := by rw [List.length_take]; omega
  have l2 : (hs.take k.toNat).length + (1 + (hs.drop k.toNat).length) ≤ 1000000 := by rw [List.length_take, List.length_drop]; omega
  have l3 : (hs.take k.toNat).length + 1 + (hs.drop k.toNat).length ≤ 1000000 := by rw [List.length_take, List.length_drop]; omega
  simp only [odds] at e
  generalize hs.take k.toNat = A at *
  generalize hs.drop k.toNat = B at *
  simp only [List.append_assoc, List.cons_append, List.nil_append] at e
  simp [gFr_e, gVd_e, gSh_e, gVsR_e, gN_e, gTk_e, gC_e, gOp_e, gNil_e, gCons_e, gTup_e, gLst_e, gP0_e, gP1_e, gSl_e, gB_e, gNot_e, gAnd_e, gOr_e, gNotV_e, gAndV_e, gOrV_e, gIf_e, gTru_e, gCall_e, hN_e, hNil_e, hCons_e, hT_e, gIt_e, gR1_e, gR2_e, gYes_e, gLc_e, gLc2_e, gSeq_e, gNx_e, gBk_e, gCt_e, gNo_e, gSet_e, gRet_e, gRetN_e, gIfS_e, gDrop_e, gAsg_e, gFor_e, fnS_e, gF_e, gFM_e, gFK_e, gApp_e, gExt_e, gISet_e, gAppP_e, gExtP_e, gIsi_e, gZip_e, gListRev_e, gSortK_e, gNeg_e, gPar_e, gRaise_e, gHeard_e, op2, vD, vDs, frD, frDs, stO, putO, bks, plainS, mutS, permL, appS, extS, isetS, isOl, noMu, noScr, oD, lst?, Rs.sl, Rs.d, D.items, stN, bx, eHs, fAdd, fSl, fList, cutA_map, q1, q2, l1, l2, l3, fMin, e]
variable {odd : D} (hc : sem_check_hunks [.sh (eR base), .sh odd] = .ex (refE odd) [.sh (eR base), .sh odd]) (hr : fRepr [odd] = some (.sh (.str odd.py.shown))) (ho : PyData.strOk odd.py.shown = true)
include hc hr ho
theorem nd4 : nr4 (stN g c base hs s3 s4 s5 (.sh odd)) = .nx (stN g c base hs s3 s4 s5 (.sh odd)) := by
  have q : fNe (told odd) (.tup [.str (Str.ofString "refused"), .str odd.py.shown, .bl true]) = some (.sh (.bl false)) := fNe_told ho
  have h := fun ρ => heard_ref (ρ := ρ) hr
  generalize odd.py.shown = S at *
  generalize told odd = T at *
  simp [gFr_e, gVd_e, gSh_e, gVsR_e, gN_e, gTk_e, gC_e, gOp_e, gNil_e, gCons_e, gTup_e, gLst_e, gP0_e, gP1_e, gSl_e, gB_e, gNot_e, gAnd_e, gOr_e, gNotV_e, gAndV_e, gOrV_e, gIf_e, gTru_e, gCall_e, hN_e, hNil_e, hCons_e, hT_e, gIt_e, gR1_e, gR2_e, gYes_e, gLc_e, gLc2_e, gSeq_e, gNx_e, gBk_e, gCt_e, gNo_e, gSet_e, gRet_e, gRetN_e, gIfS_e, gDrop_e, gAsg_e, gFor_e, fnS_e, gF_e, gFM_e, gFK_e, gApp_e, gExt_e, gISet_e, gAppP_e, gExtP_e, gIsi_e, gZip_e, gListRev_e, gSortK_e, gNeg_e, gPar_e, gRaise_e, gHeard_e, op2, vD, vDs, frD, frDs, stO, putO, bks, plainS, mutS, permL, appS, extS, isetS, isOl, noMu, noScr, oD, lst?, Rs.sl, Rs.d, D.items, stN, hc, hr, q, h]
theorem nd5 : nr5 (stN g c base hs s3 s4 s5 (.sh odd)) = .nx (stN g c base hs s3 s4 s5 (.sh odd)) := by
  have q : fNe (told odd) (.tup [.str (Str.ofString "refused"), .str odd.py.shown, .bl true]) = some (.sh (.bl false)) := fNe_told ho
  have h := fun ρ => heard_ref (ρ := ρ) hr
  have m := rf_merge1 hc .non
  generalize odd.py.shown = S at *
  generalize told odd = T at *
  simp [gFr_e, gVd_e, gSh_e, gVsR_e, gN_e, gTk_e, gC_e, gOp_e, gNil_e, gCons_e, gTup_e, gLst_e, gP0_e, gP1_e, gSl_e, gB_e, gNot_e, gAnd_e, gOr_e, gNotV_e, gAndV_e, gOrV_e, gIf_e, gTru_e, gCall_e, hN_e, hNil_e, hCons_e, hT_e, gIt_e, gR1_e, gR2_e, gYes_e, gLc_e, gLc2_e, gSeq_e, gNx_e, gBk_e, gCt_e, gNo_e, gSet_e, gRet_e, gRetN_e, gIfS_e, gDrop_e, gAsg_e, gFor_e, fnS_e, gF_e, gFM_e, gFK_e, gApp_e, gExt_e, gISet_e, gAppP_e, gExtP_e, gIsi_e, gZip_e, gListRev_e, gSortK_e, gNeg_e, gPar_e, gRaise_e, gHeard_e, op2, vD, vDs, frD, frDs, stO, putO, bks, plainS, mutS, permL, appS, extS, isetS, isOl, noMu, noScr, oD, lst?, Rs.sl, Rs.d, D.items, stN, m, hr, q, h]
theorem nd6 : nr6 (stN g c base hs s3 s4 s5 (.sh odd)) = .nx (stN g c base hs s3 s4 s5 (.sh odd)) := by
  have q : fNe (told odd) (.tup [.str (Str.ofString "refused"), .str odd.py.shown, .bl true]) = some (.sh (.bl false)) := fNe_told ho
  have h := fun ρ => heard_ref (ρ := ρ) hr
  have m := rf_apply hc (xs := base) (.inl rfl)
  generalize odd.py.shown = S at *
  generalize told odd = T at *
  simp [gFr_e, gVd_e, gSh_e, gVsR_e, gN_e, gTk_e, gC_e, gOp_e, gNil_e, gCons_e, gTup_e, gLst_e, gP0_e, gP1_e, gSl_e, gB_e, gNot_e, gAnd_e, gOr_e, gNotV_e, gAndV_e, gOrV_e, gIf_e, gTru_e, gCall_e, hN_e, hNil_e, hCons_e, hT_e, gIt_e, gR1_e, gR2_e, gYes_e, gLc_e, gLc2_e, gSeq_e, gNx_e, gBk_e, gCt_e, gNo_e, gSet_e, gRet_e, gRetN_e, gIfS_e, gDrop_e, gAsg_e, gFor_e, fnS_e, gF_e, gFM_e, gFK_e, gApp_e, gExt_e, gISet_e, gAppP_e, gExtP_e, gIsi_e, gZip_e, gListRev_e, gSortK_e, gNeg_e, gPar_e, gRaise_e, gHeard_e, op2, vD, vDs, frD, frDs, stO, putO, bks, plainS, mutS, permL, appS, extS, isetS, isOl, noMu, noScr, oD, lst?, Rs.sl, Rs.d, D.items, stN, m, hr, q, h]
theorem nd7 (v : Vd 0 base.length hs) (hl : hs.length ≤ 1000) : nr7 (stN g c base hs s3 s4 s5 (.sh odd)) = .rt (.sh (.bl true)) (stN g c base hs s3 s4 s5 (.sh odd)) := by
  have q : fEq (told odd) (.tup [.str (Str.ofString "refused"), .str odd.py.shown, .bl true]) = some (.sh (.bl true)) := fEq_told ho
  have h := fun ρ => heard_ref (ρ := ρ) hr
  have hk := ev_check_ok (b := eR base) (v := .lst (hs.map eH)) (xs := base) (ps := hs.map fun x => (eH x, x)) (.inl rfl) ⟨.inr (by rw [List.map_map]; rfl), fun p hp => by
    obtain ⟨x, _, rfl⟩ := List.mem_map.mp hp
    exact isHk_eH x⟩ (by rw [List.map_map]; show Vd 0 base.length (hs.map id); rw [List.map_id]; exact v) (by rw [List.length_map]; exact hl)
  have m := rf_merge2 hc hk
  generalize odd.py.shown = S at *
  generalize told odd = T at *
  simp [gFr_e, gVd_e, gSh_e, gVsR_e, gN_e, gTk_e, gC_e, gOp_e, gNil_e, gCons_e, gTup_e, gLst_e, gP0_e, gP1_e, gSl_e, gB_e, gNot_e, gAnd_e, gOr_e, gNotV_e, gAndV_e, gOrV_e, gIf_e, gTru_e, gCall_e, hN_e, hNil_e, hCons_e, hT_e, gIt_e, gR1_e, gR2_e, gYes_e, gLc_e, gLc2_e, gSeq_e, gNx_e, gBk_e, gCt_e, gNo_e, gSet_e, gRet_e, gRetN_e, gIfS_e, gDrop_e, gAsg_e, gFor_e, fnS_e, gF_e, gFM_e, gFK_e, gApp_e, gExt_e, gISet_e, gAppP_e, gExtP_e, gIsi_e, gZip_e, gListRev_e, gSortK_e, gNeg_e, gPar_e, gRaise_e, gHeard_e, op2, vD, vDs, frD, frDs, stO, putO, bks, plainS, mutS, permL, appS, extS, isetS, isOl, noMu, noScr, oD, lst?, Rs.sl, Rs.d, D.items, stN, eHs, m, hr, q, h, fList]
end
theorem ev_none_right {g c : Int} {base : List Int} {hs : List Hk} (hx : base.length ≤ 60) (v : Vd 0 base.length hs) (t : Ti hs) : ∃ g' c', sem__law_none_right [.mu (bx g c), .sh (eR base), .sh (eHs hs)] = .ok (.sh (.bl true)) [.mu (bx g' c'), .sh (eR base), .sh (eHs hs)] := by
  have l := t.1
  obtain ⟨g1, c1, k, e1, k0⟩ := nd1 (g := g) (c := c) (base := base) (hs := hs) (s5 := .no) (s6 := .no) (by omega)
  obtain ⟨g2, c2, bad, e2, hb⟩ := nd2 (g := g1) (c := c1) (base := base) (hs := hs) (s4 := .sh (.int k)) (s6 := .no)
  obtain ⟨g3, c3, odd, e3, ho⟩ := nd3 (g := g2) (c := c2) (base := base) (hs := hs) (bad := bad) k0 (by omega)
  have hc := odd_refused (b := eR base) (.inl rfl) v (by omega) hb ho
  obtain ⟨w1, w2⟩ := odd_wx hx l (fun x hx => ⟨(t.2 x hx).2, (t.2 x hx).1⟩) hb ho
  have hr := fRepr_X w1 (by decide) w2
  have hs' := w1.shown
  refine ⟨g3, c3, ?_⟩
  show DL.fnS 4 g__law_none_right _ = _
  rw [fnS_e, nris]
  show (match (DL.gSeq nr1 (DL.gSeq nr2 (DL.gSeq nr3 (DL.gSeq nr4 (DL.gSeq nr5 (DL.gSeq nr6 nr7)))))) (stN g c base hs .no .no .no .no) with
    | .rt r ρ1 => Res.ok r (bks _ ρ1)
    | .nx ρ1 => .ok (.sh .non) (bks _ ρ1)
    | .ex x ρ1 => .ex x (bks _ ρ1)
    | _ => .no) = _
  rw [seq_nx e1, seq_nx e2, seq_nx e3, seq_nx (nd4 hc hr hs'), seq_nx (nd5 hc hr hs'), seq_nx (nd6 hc hr hs'), nd7 hc hr hs' v (by omega)]
  rfl
end K62
end
section
set_option Elab.async false
set_option linter.all false
set_option maxRecDepth 100000
set_option maxHeartbeats 4000000
/-! K62m21: the law's loop, statement by statement: what is drawn. -/
namespace K62
open PySem DL
abbrev lw1 : GS := (DL.gSet 2 (DL.gF 2 sem__law_box (DL.gCons (DL.gVsR 0) (DL.gCons (DL.gVsR 1) DL.gNil))))
abbrev lw2 : GS := (DL.gSet 3 (DL.gCall fTuple (DL.gCons (DL.gVd (DL.gLc [4] (DL.gR1 (DL.gCons (DL.gVd (DL.gFM 2 sem__law_take (DL.gCons (DL.gVsR 2) (DL.gCons (DL.gVd (DL.gC (.int 10))) DL.gNil)))) DL.gNil)) (DL.hN 4) DL.gYes (DL.gFr (DL.gOp fAdd (DL.gVd (DL.gC (.int 20))) (DL.gVd (DL.gFM 2 sem__law_take (DL.gCons (DL.gVsR 2) (DL.gCons (DL.gVd (DL.gC (.int 4))) DL.gNil)))))))) DL.gNil)))
abbrev lw3 : GS := (DL.gSet 5 (DL.gFM 3 sem__law_side (DL.gCons (DL.gVsR 2) (DL.gCons (DL.gVd (DL.gTk 3)) (DL.gCons (DL.gVd (DL.gFM 2 sem__law_take (DL.gCons (DL.gVsR 2) (DL.gCons (DL.gVd (DL.gC (.int 5))) DL.gNil)))) DL.gNil)))))
abbrev lw4 : GS := (DL.gSet 6 (DL.gIf (DL.gB (DL.gOp fEq (DL.gVd (DL.gFM 2 sem__law_take (DL.gCons (DL.gVsR 2) (DL.gCons (DL.gVd (DL.gC (.int 6))) DL.gNil)))) (DL.gVd (DL.gC (.int 0))))) (DL.gTk 5) (DL.gFM 3 sem__law_side (DL.gCons (DL.gVsR 2) (DL.gCons (DL.gVd (DL.gTk 3)) (DL.gCons (DL.gVd (DL.gFM 2 sem__law_take (DL.gCons (DL.gVsR 2) (DL.gCons (DL.gVd (DL.gC (.int 5))) DL.gNil)))) DL.gNil))))))
abbrev lw5 : GS := (DL.gSet 7 (DL.gLc [8] (DL.gIt (DL.gTk 5)) (DL.hN 8) (DL.gB (DL.gOp fEq (DL.gVd (DL.gFM 2 sem__law_take (DL.gCons (DL.gVsR 2) (DL.gCons (DL.gVd (DL.gC (.int 2))) DL.gNil)))) (DL.gVd (DL.gC (.int 0))))) (DL.gFr (DL.gN 8))))
abbrev lw6 : GS := (DL.gSet 6 (DL.gCall fTuple (DL.gCons (DL.gVd (DL.gCall fSorted (DL.gCons (DL.gVd (DL.gOp fAdd (DL.gVsR 7) (DL.gVd (DL.gLc [8] (DL.gIt (DL.gTk 6)) (DL.hN 8) (DL.gB (DL.gOp fEq (DL.gVd (DL.gLc [9] (DL.gIt (DL.gTk 7)) (DL.hN 9) (DL.gB (DL.gF 2 sem__law_meet (DL.gCons (DL.gVsR 9) (DL.gCons (DL.gVsR 8) DL.gNil)))) (DL.gFr (DL.gN 9)))) (DL.gVd (DL.gLst DL.gNil)))) (DL.gFr (DL.gN 8)))))) DL.gNil))) DL.gNil)))
abbrev lw7 : GS := (DL.gSet 10 (DL.gOp fIx (DL.gVd (DL.gLst (DL.gCons (DL.gVd (DL.gLst (DL.gCons (DL.gVd (DL.gCall fList (DL.gCons (DL.gVsR 3) DL.gNil))) (DL.gCons (DL.gVd (DL.gLc [8] (DL.gIt (DL.gTk 5)) (DL.hN 8) DL.gYes (DL.gFr (DL.gCall fList (DL.gCons (DL.gVsR 8) DL.gNil))))) (DL.gCons (DL.gVd (DL.gLc [11, 12, 13] (DL.gIt (DL.gTk 6)) (DL.hT 3 (DL.hCons (DL.hN 11) (DL.hCons (DL.hN 12) (DL.hCons (DL.hN 13) DL.hNil)))) DL.gYes (DL.gFr (DL.gLst (DL.gCons (DL.gVsR 11) (DL.gCons (DL.gVsR 12) (DL.gCons (DL.gVd (DL.gCall fList (DL.gCons (DL.gVsR 13) DL.gNil))) DL.gNil))))))) DL.gNil))))) DL.gNil))) (DL.gVd (DL.gC (.int 0)))))
abbrev lw8 : GS := (DL.gPar 14 15 (DL.gF 3 sem_merge_parts (DL.gCons (DL.gVd (DL.gOp fIx (DL.gVsR 10) (DL.gVd (DL.gC (.int 0))))) (DL.gCons (DL.gVd (DL.gOp fIx (DL.gVsR 10) (DL.gVd (DL.gC (.int 1))))) (DL.gCons (DL.gVd (DL.gOp fIx (DL.gVsR 10) (DL.gVd (DL.gC (.int 2))))) DL.gNil)))) (DL.gF 3 sem__law_parts (DL.gCons (DL.gVd (DL.gTk 3)) (DL.gCons (DL.gVd (DL.gTk 5)) (DL.gCons (DL.gVd (DL.gTk 6)) DL.gNil)))))
abbrev lw9 : GS := (DL.gIfS (DL.gOr (DL.gB (DL.gOp fNe (DL.gVd (DL.gCall fRepr (DL.gCons (DL.gVsR 14) DL.gNil))) (DL.gVd (DL.gCall fRepr (DL.gCons (DL.gVsR 15) DL.gNil))))) (DL.gB (DL.gOp fNe (DL.gVd (DL.gFK 3 [2, 1, 0] sem_merge_parts (DL.gCons (DL.gVd (DL.gTk 6)) (DL.gCons (DL.gVd (DL.gTk 5)) (DL.gCons (DL.gVd (DL.gTk 3)) DL.gNil))))) (DL.gVsR 15)))) (DL.gRet (DL.gC (.bl false))) DL.gNx)
abbrev lw10 : GS := (DL.gIfS (DL.gB (DL.gOp fNe (DL.gVd (DL.gCall fRepr (DL.gCons (DL.gVd (DL.gLst (DL.gCons (DL.gVd (DL.gF 1 sem_base_of (DL.gCons (DL.gVd (DL.gTk 14)) DL.gNil))) (DL.gCons (DL.gVd (DL.gF 1 sem_ours_of (DL.gCons (DL.gVd (DL.gTk 14)) DL.gNil))) (DL.gCons (DL.gVd (DL.gF 1 sem_theirs_of (DL.gCons (DL.gVd (DL.gTk 14)) DL.gNil))) DL.gNil))))) DL.gNil))) (DL.gVd (DL.gCall fRepr (DL.gCons (DL.gVd (DL.gLst (DL.gCons (DL.gVd (DL.gTk 3)) (DL.gCons (DL.gVd (DL.gF 2 sem__law_put (DL.gCons (DL.gVd (DL.gTk 3)) (DL.gCons (DL.gVd (DL.gTk 5)) DL.gNil)))) (DL.gCons (DL.gVd (DL.gF 2 sem__law_put (DL.gCons (DL.gVd (DL.gTk 3)) (DL.gCons (DL.gVd (DL.gTk 6)) DL.gNil)))) DL.gNil))))) DL.gNil))))) (DL.gRet (DL.gC (.bl false))) DL.gNx)
abbrev lw11 : GS := (DL.gIfS (DL.gOr (DL.gB (DL.gOp fNe (DL.gVd (DL.gFK 1 [0] sem_theirs_of (DL.gCons (DL.gVd (DL.gTk 15)) DL.gNil))) (DL.gVd (DL.gF 2 sem__law_put (DL.gCons (DL.gVd (DL.gTk 3)) (DL.gCons (DL.gVd (DL.gTk 6)) DL.gNil)))))) (DL.gOr (DL.gB (DL.gOp fNe (DL.gVd (DL.gFK 1 [0] sem_ours_of (DL.gCons (DL.gVd (DL.gTk 15)) DL.gNil))) (DL.gVd (DL.gF 2 sem__law_put (DL.gCons (DL.gVd (DL.gTk 3)) (DL.gCons (DL.gVd (DL.gTk 5)) DL.gNil)))))) (DL.gB (DL.gOp fNe (DL.gVd (DL.gFK 1 [0] sem_base_of (DL.gCons (DL.gVd (DL.gTk 15)) DL.gNil))) (DL.gVsR 3))))) (DL.gRet (DL.gC (.bl false))) DL.gNx)
abbrev lw12 : GS := (DL.gIfS (DL.gB (DL.gOp fNe (DL.gVd (DL.gF 3 sem_merge_parts (DL.gCons (DL.gVd (DL.gTk 3)) (DL.gCons (DL.gVd (DL.gTk 6)) (DL.gCons (DL.gVd (DL.gTk 5)) DL.gNil))))) (DL.gVd (DL.gF 1 sem__law_exchanged (DL.gCons (DL.gVd (DL.gTk 15)) DL.gNil))))) (DL.gRet (DL.gC (.bl false))) DL.gNx)
abbrev lw13 : GS := (DL.gIfS (DL.gB (DL.gOp fNe (DL.gVd (DL.gCall fRepr (DL.gCons (DL.gVd (DL.gLst (DL.gCons (DL.gVd (DL.gF 2 sem_check_hunks (DL.gCons (DL.gVd (DL.gOp fIx (DL.gVsR 10) (DL.gVd (DL.gC (.int 0))))) (DL.gCons (DL.gVd (DL.gOp fIx (DL.gVsR 10) (DL.gVd (DL.gC (.int 1))))) DL.gNil)))) (DL.gCons (DL.gVd (DL.gFK 2 [1, 0] sem_check_hunks (DL.gCons (DL.gVd (DL.gTk 6)) (DL.gCons (DL.gVd (DL.gTk 3)) DL.gNil)))) DL.gNil)))) DL.gNil))) (DL.gVd (DL.gCall fRepr (DL.gCons (DL.gVd (DL.gLst (DL.gCons (DL.gVd (DL.gTk 5)) (DL.gCons (DL.gVd (DL.gTk 6)) DL.gNil)))) DL.gNil))))) (DL.gRet (DL.gC (.bl false))) DL.gNx)
abbrev lw14 : GS := (DL.gIfS (DL.gNot (DL.gB (DL.gFM 3 sem__law_none_right (DL.gCons (DL.gVsR 2) (DL.gCons (DL.gVd (DL.gTk 3)) (DL.gCons (DL.gVd (DL.gTk 5)) DL.gNil)))))) (DL.gRet (DL.gC (.bl false))) DL.gNx)
abbrev lwB : GS := (DL.gSeq lw1 (DL.gSeq lw2 (DL.gSeq lw3 (DL.gSeq lw4 (DL.gSeq lw5 (DL.gSeq lw6 (DL.gSeq lw7 (DL.gSeq lw8 (DL.gSeq lw9 (DL.gSeq lw10 (DL.gSeq lw11 (DL.gSeq lw12 (DL.gSeq lw13 lw14)))))))))))))

abbrev stt (ns : List Int) (k g c : Int) (s3 s4 s5 s6 s7 s8 s9 s10 s11 s12 s13 s14 s15 : Sl) : List Sl := [.sh (.scr ns), .sh (.int k), .ow (.lst [.int g, .int c]), s3, s4, s5, s6, s7, s8, s9, s10, s11, s12, s13, s14, s15]
section
variable {ns : List Int} {k g c : Int} {s2 s3 s4 s5 s6 s7 s8 s9 s10 s11 s12 s13 s14 s15 : Sl}
theorem do1 (h0 : 0 ≤ k) (h1 : k < 100) (n2 : nmB (some s2) = true) : ∃ g c : Int, lw1 [.sh (.scr ns), .sh (.int k), s2, s3, s4, s5, s6, s7, s8, s9, s10, s11, s12, s13, s14, s15] = .nx (stt ns k g c s3 s4 s5 s6 s7 s8 s9 s10 s11 s12 s13 s14 s15) := by
  obtain ⟨g, c, e⟩ := ev_box (ns := ns) k h0 h1
  exact ⟨g, c, by simp [gFr_e, gVd_e, gSh_e, gVsR_e, gN_e, gTk_e, gC_e, gOp_e, gNil_e, gCons_e, gTup_e, gLst_e, gP0_e, gP1_e, gSl_e, gB_e, gNot_e, gAnd_e, gOr_e, gNotV_e, gAndV_e, gOrV_e, gIf_e, gTru_e, gCall_e, hN_b, hNil_e, hCons_e, hT_e, gIt_e, gR1_e, gR2_e, gYes_e, gLc_e, gLc2_e, gSeq_e, gNx_e, gBk_e, gCt_e, gNo_e, gSet_e, gRet_e, gRetN_e, gIfS_e, gDrop_e, gAsg_e, gFor_e, fnS_e, gF_e, gFM_e, gFK_e, gApp_e, gExt_e, gISet_e, gAppP_e, gExtP_e, gIsi_e, gZip_e, gListRev_e, gSortK_e, gNeg_e, gPar_e, gRaise_e, gHeard_e, op2, vD, vDs, frD, frDs, stO_b, nm_no, nm_sh, nm_ow, putO, bks, plainS, mutS, permL, appS, extS, isetS, isOl, noMu, noScr, oD, lst?, Rs.sl, Rs.d, D.items, stt, e, n2]⟩
theorem base_ex : ∀ {ds : List D}, (∀ d ∈ ds, ∃ i : Int, d = .int i ∧ i.natAbs < 10 ^ 12) → ∃ ts : List Int, ds = ts.map .int ∧ sml ts
  | [], _ => ⟨[], rfl, fun t ht => absurd ht (by simp)⟩
  | d :: ds, h => by
    obtain ⟨i, rfl, h1⟩ := h d List.mem_cons_self
    obtain ⟨ts, rfl, h3⟩ := base_ex (ds := ds) fun e he => h e (List.mem_cons_of_mem _ he)
    refine ⟨i :: ts, rfl, fun t ht => ?_⟩
    rcases List.mem_cons.mp ht with rfl | ht
    · exact h1
    · exact h3 t ht
theorem do2 (n3 : nmB (some s3) = true) : ∃ (g' c' : Int) (base : List Int), lw2 (stt ns k g c s3 s4 s5 s6 s7 s8 s9 s10 s11 s12 s13 s14 s15) = .nx (stt ns k g' c' (.sh (eR base)) s4 s5 s6 s7 s8 s9 s10 s11 s12 s13 s14 s15) ∧ base.length ≤ 12 ∧ sml base := by
  obtain ⟨d3, g3, c3, e3, k3, k3'⟩ := ev_take g c 10 (by decide) (by decide)
  have ld := lcL_draw (vs := [4]) (h := hN 4) (ft := gYes) (fe := gFr (gOp fAdd (gVd (gC (.int 20))) (gVd (gFM 2 sem__law_take (DL.gCons (gVsR 2) (DL.gCons (gVd (gC (.int 4))) DL.gNil))))))
    (R := fun ρ => ∃ g c : Int, ρ = stt ns k g c s3 .no s5 s6 s7 s8 s9 s10 s11 s12 s13 s14 s15)
    (P := fun d => ∃ i : Int, d = .int i ∧ i.natAbs < 10 ^ 12) (fun y ρ r => by
      obtain ⟨g, c, rfl⟩ := r
      obtain ⟨d4, g4, c4, e4, k4, k4'⟩ := ev_take g c 4 (by decide) (by decide)
      refine ⟨stt ns k g c s3 (.sh y) s5 s6 s7 s8 s9 s10 s11 s12 s13 s14 s15, _, stt ns k g4 c4 s3 (.sh y) s5 s6 s7 s8 s9 s10 s11 s12 s13 s14 s15, .int (20 + d4), rfl, rfl, ?_, ⟨20 + d4, rfl, by omega⟩, ⟨g4, c4, rfl⟩⟩
      simp [gFr_e, gVd_e, gSh_e, gVsR_e, gN_e, gTk_e, gC_e, gOp_e, gNil_e, gCons_e, gTup_e, gLst_e, gP0_e, gP1_e, gSl_e, gB_e, gNot_e, gAnd_e, gOr_e, gNotV_e, gAndV_e, gOrV_e, gIf_e, gTru_e, gCall_e, hN_b, hNil_e, hCons_e, hT_e, gIt_e, gR1_e, gR2_e, gYes_e, gLc_e, gLc2_e, gSeq_e, gNx_e, gBk_e, gCt_e, gNo_e, gSet_e, gRet_e, gRetN_e, gIfS_e, gDrop_e, gAsg_e, gFor_e, fnS_e, gF_e, gFM_e, gFK_e, gApp_e, gExt_e, gISet_e, gAppP_e, gExtP_e, gIsi_e, gZip_e, gListRev_e, gSortK_e, gNeg_e, gPar_e, gRaise_e, gHeard_e, op2, vD, vDs, frD, frDs, stO_b, nm_no, nm_sh, nm_ow, putO, bks, plainS, mutS, permL, appS, extS, isetS, isOl, noMu, noScr, oD, lst?, Rs.sl, Rs.d, D.items, stt, e4, fAdd])
    (xs := rgD 0 d3.toNat) (ρ := stt ns k g3 c3 s3 .no s5 s6 s7 s8 s9 s10 s11 s12 s13 s14 s15) ⟨g3, c3, rfl⟩
  obtain ⟨ds, ρe, f1, ⟨g4, c4, rfl⟩, f3, f4⟩ := ld
  obtain ⟨ts, rfl, f5⟩ := base_ex f4
  have l3 : (rgD 0 d3.toNat).length = d3.toNat := by unfold rgD; rw [List.length_map, List.length_range]
  rw [List.length_map, l3] at f3
  have r1 : (-4611686018427387904 ≤ d3 ∧ d3 < 4611686018427387904) := by omega
  have r2 : (rgD 0 d3.toNat).length ≤ 1000000 := by omega
  refine ⟨g4, c4, ts, ?_, by omega, f5⟩
  simp only [stt] at f1
  simp [gFr_e, gVd_e, gSh_e, gVsR_e, gN_e, gTk_e, gC_e, gOp_e, gNil_e, gCons_e, gTup_e, gLst_e, gP0_e, gP1_e, gSl_e, gB_e, gNot_e, gAnd_e, gOr_e, gNotV_e, gAndV_e, gOrV_e, gIf_e, gTru_e, gCall_e, hN_b, hNil_e, hCons_e, hT_e, gIt_e, gR1_e, gR2_e, gYes_e, gLc_e, gLc2_e, gSeq_e, gNx_e, gBk_e, gCt_e, gNo_e, gSet_e, gRet_e, gRetN_e, gIfS_e, gDrop_e, gAsg_e, gFor_e, fnS_e, gF_e, gFM_e, gFK_e, gApp_e, gExt_e, gISet_e, gAppP_e, gExtP_e, gIsi_e, gZip_e, gListRev_e, gSortK_e, gNeg_e, gPar_e, gRaise_e, gHeard_e, op2, vD, vDs, frD, frDs, stO_b, nm_no, nm_sh, nm_ow, putO, bks, plainS, mutS, permL, appS, extS, isetS, isOl, noMu, noScr, oD, lst?, Rs.sl, Rs.d, D.items, stt, ints1, e3, f1, r1, r2, wipeS, unw, fTuple, eR, n3]
theorem do3 {base : List Int} (n5 : nmB (some s5) = true) : ∃ (g' c' : Int) (a : List Hk), lw3 (stt ns k g c (.sh (eR base)) s4 s5 s6 s7 s8 s9 s10 s11 s12 s13 s14 s15) = .nx (stt ns k g' c' (.sh (eR base)) s4 (.sh (eHs a)) s6 s7 s8 s9 s10 s11 s12 s13 s14 s15) ∧ Dr base.length a := by
  obtain ⟨d1, g1, c1, e1, k1, k1'⟩ := ev_take g c 5 (by decide) (by decide)
  obtain ⟨g2, c2, a, e2, v2⟩ := ev_side (base := base) (g := g1) (c := c1) k1 (by omega)
  exact ⟨g2, c2, a, by simp [gFr_e, gVd_e, gSh_e, gVsR_e, gN_e, gTk_e, gC_e, gOp_e, gNil_e, gCons_e, gTup_e, gLst_e, gP0_e, gP1_e, gSl_e, gB_e, gNot_e, gAnd_e, gOr_e, gNotV_e, gAndV_e, gOrV_e, gIf_e, gTru_e, gCall_e, hN_b, hNil_e, hCons_e, hT_e, gIt_e, gR1_e, gR2_e, gYes_e, gLc_e, gLc2_e, gSeq_e, gNx_e, gBk_e, gCt_e, gNo_e, gSet_e, gRet_e, gRetN_e, gIfS_e, gDrop_e, gAsg_e, gFor_e, fnS_e, gF_e, gFM_e, gFK_e, gApp_e, gExt_e, gISet_e, gAppP_e, gExtP_e, gIsi_e, gZip_e, gListRev_e, gSortK_e, gNeg_e, gPar_e, gRaise_e, gHeard_e, op2, vD, vDs, frD, frDs, stO_b, nm_no, nm_sh, nm_ow, putO, bks, plainS, mutS, permL, appS, extS, isetS, isOl, noMu, noScr, oD, lst?, Rs.sl, Rs.d, D.items, stt, e1, e2, n5], v2⟩
theorem do4 {base : List Int} {a : List Hk} (da : Dr base.length a) (n6 : nmB (some s6) = true) : ∃ (g' c' : Int) (b : List Hk), lw4 (stt ns k g c (.sh (eR base)) s4 (.sh (eHs a)) s6 s7 s8 s9 s10 s11 s12 s13 s14 s15) = .nx (stt ns k g' c' (.sh (eR base)) s4 (.sh (eHs a)) (.sh (eHs b)) s7 s8 s9 s10 s11 s12 s13 s14 s15) ∧ Dr base.length b := by
  obtain ⟨d1, g1, c1, e1, k1, k1'⟩ := ev_take g c 6 (by decide) (by decide)
  by_cases z : d1 = 0
  · exact ⟨g1, c1, a, by simp [gFr_e, gVd_e, gSh_e, gVsR_e, gN_e, gTk_e, gC_e, gOp_e, gNil_e, gCons_e, gTup_e, gLst_e, gP0_e, gP1_e, gSl_e, gB_e, gNot_e, gAnd_e, gOr_e, gNotV_e, gAndV_e, gOrV_e, gIf_e, gTru_e, gCall_e, hN_b, hNil_e, hCons_e, hT_e, gIt_e, gR1_e, gR2_e, gYes_e, gLc_e, gLc2_e, gSeq_e, gNx_e, gBk_e, gCt_e, gNo_e, gSet_e, gRet_e, gRetN_e, gIfS_e, gDrop_e, gAsg_e, gFor_e, fnS_e, gF_e, gFM_e, gFK_e, gApp_e, gExt_e, gISet_e, gAppP_e, gExtP_e, gIsi_e, gZip_e, gListRev_e, gSortK_e, gNeg_e, gPar_e, gRaise_e, gHeard_e, op2, vD, vDs, frD, frDs, stO_b, nm_no, nm_sh, nm_ow, putO, bks, plainS, mutS, permL, appS, extS, isetS, isOl, noMu, noScr, oD, lst?, Rs.sl, Rs.d, D.items, stt, e1, fEq_i, z, n6], da⟩
  · obtain ⟨d2, g2, c2, e2, k2, k2'⟩ := ev_take g1 c1 5 (by decide) (by decide)
    obtain ⟨g3, c3, b, e3, v3⟩ := ev_side (base := base) (g := g2) (c := c2) k2 (by omega)
    exact ⟨g3, c3, b, by simp [gFr_e, gVd_e, gSh_e, gVsR_e, gN_e, gTk_e, gC_e, gOp_e, gNil_e, gCons_e, gTup_e, gLst_e, gP0_e, gP1_e, gSl_e, gB_e, gNot_e, gAnd_e, gOr_e, gNotV_e, gAndV_e, gOrV_e, gIf_e, gTru_e, gCall_e, hN_b, hNil_e, hCons_e, hT_e, gIt_e, gR1_e, gR2_e, gYes_e, gLc_e, gLc2_e, gSeq_e, gNx_e, gBk_e, gCt_e, gNo_e, gSet_e, gRet_e, gRetN_e, gIfS_e, gDrop_e, gAsg_e, gFor_e, fnS_e, gF_e, gFM_e, gFK_e, gApp_e, gExt_e, gISet_e, gAppP_e, gExtP_e, gIsi_e, gZip_e, gListRev_e, gSortK_e, gNeg_e, gPar_e, gRaise_e, gHeard_e, op2, vD, vDs, frD, frDs, stO_b, nm_no, nm_sh, nm_ow, putO, bks, plainS, mutS, permL, appS, extS, isetS, isOl, noMu, noScr, oD, lst?, Rs.sl, Rs.d, D.items, stt, e1, e2, e3, fEq_i, z, n6], v3⟩
/-- a hunk fit for a base of n rows -/
def El (n : Int) (x : Hk) : Prop := 0 ≤ x.1 ∧ x.1 ≤ x.2.1 ∧ x.2.1 ≤ n ∧ (x.1 < x.2.1 ∨ x.2.2 ≠ []) ∧ x.2.2.length ≤ 2 ∧ sml x.2.2
theorem Dr.el {n : Int} {hs : List Hk} (h : Dr n hs) : ∀ x ∈ hs, El n x := fun x hx => by
  obtain ⟨a, b, c, d⟩ := h.1.mem x hx
  exact ⟨a, b, c, d, h.2.2 x hx⟩
theorem El.smlH {n : Int} {x : Hk} (h : El n x) (hn : n ≤ 1000) : smlH x := by
  obtain ⟨a, b, c, d, e, f⟩ := h
  exact ⟨by omega, by omega, f⟩
def far (a : List Hk) (x : Hk) : Bool := decide (a.filter (fun o => !apt o x) = [])
theorem far_is {a : List Hk} {x : Hk} (h : far a x = true) : ∀ o ∈ a, apt o x = true := fun o ho => by
  unfold far at h
  rw [decide_eq_true_eq, List.filter_eq_nil_iff] at h
  have := h o ho
  simpa using this
theorem do5 {base : List Int} {a : List Hk} (la : a.length ≤ 4) (n7 : nmB (some s7) = true) : ∃ (g' c' : Int) (m : List Hk), lw5 (stt ns k g c (.sh (eR base)) s4 (.sh (eHs a)) s6 s7 s8 s9 s10 s11 s12 s13 s14 s15) = .nx (stt ns k g' c' (.sh (eR base)) s4 (.sh (eHs a)) s6 (.ow (.lst (m.map eH))) s8 s9 s10 s11 s12 s13 s14 s15) ∧ m.Sublist a := by
  obtain ⟨ys, ρe, y1, y2, g2, c2, rfl⟩ := lcL_sub (vs := [8]) (h := hN 8) (ft := gB (gOp fEq (gVd (gFM 2 sem__law_take (DL.gCons (gVsR 2) (DL.gCons (gVd (gC (.int 2))) DL.gNil)))) (gVd (gC (.int 0))))) (fe := gFr (gN 8)) (enc := eH) (xs := a)
    (R := fun ρ => ∃ g c : Int, ρ = stt ns k g c (.sh (eR base)) s4 (.sh (eHs a)) s6 s7 .no s9 s10 s11 s12 s13 s14 s15) (fun x hx ρ r => by
      obtain ⟨g, c, rfl⟩ := r
      obtain ⟨d4, g4, c4, e4, k4, k4'⟩ := ev_take g c 2 (by decide) (by decide)
      refine ⟨stt ns k g c (.sh (eR base)) s4 (.sh (eHs a)) s6 s7 (.sh (eH x)) s9 s10 s11 s12 s13 s14 s15, stt ns k g4 c4 (.sh (eR base)) s4 (.sh (eHs a)) s6 s7 (.sh (eH x)) s9 s10 s11 s12 s13 s14 s15, decide (d4 = 0), rfl, ?_, fun _ => ⟨g4, c4, rfl⟩, fun _ => ⟨_, rfl, ⟨g4, c4, rfl⟩⟩⟩
      simp [gFr_e, gVd_e, gSh_e, gVsR_e, gN_e, gTk_e, gC_e, gOp_e, gNil_e, gCons_e, gTup_e, gLst_e, gP0_e, gP1_e, gSl_e, gB_e, gNot_e, gAnd_e, gOr_e, gNotV_e, gAndV_e, gOrV_e, gIf_e, gTru_e, gCall_e, hN_b, hNil_e, hCons_e, hT_e, gIt_e, gR1_e, gR2_e, gYes_e, gLc_e, gLc2_e, gSeq_e, gNx_e, gBk_e, gCt_e, gNo_e, gSet_e, gRet_e, gRetN_e, gIfS_e, gDrop_e, gAsg_e, gFor_e, fnS_e, gF_e, gFM_e, gFK_e, gApp_e, gExt_e, gISet_e, gAppP_e, gExtP_e, gIsi_e, gZip_e, gListRev_e, gSortK_e, gNeg_e, gPar_e, gRaise_e, gHeard_e, op2, vD, vDs, frD, frDs, stO_b, nm_no, nm_sh, nm_ow, putO, bks, plainS, mutS, permL, appS, extS, isetS, isOl, noMu, noScr, oD, lst?, Rs.sl, Rs.d, D.items, stt, e4, fEq_i])
    (ρ := stt ns k g c (.sh (eR base)) s4 (.sh (eHs a)) s6 s7 .no s9 s10 s11 s12 s13 s14 s15) ⟨g, c, rfl⟩
  have la' : a.length ≤ 1000000 := by omega
  refine ⟨g2, c2, ys, ?_, y1⟩
  simp only [stt, eHs] at y2
  simp [gFr_e, gVd_e, gSh_e, gVsR_e, gN_e, gTk_e, gC_e, gOp_e, gNil_e, gCons_e, gTup_e, gLst_e, gP0_e, gP1_e, gSl_e, gB_e, gNot_e, gAnd_e, gOr_e, gNotV_e, gAndV_e, gOrV_e, gIf_e, gTru_e, gCall_e, hN_b, hNil_e, hCons_e, hT_e, gIt_e, gR1_e, gR2_e, gYes_e, gLc_e, gLc2_e, gSeq_e, gNx_e, gBk_e, gCt_e, gNo_e, gSet_e, gRet_e, gRetN_e, gIfS_e, gDrop_e, gAsg_e, gFor_e, fnS_e, gF_e, gFM_e, gFK_e, gApp_e, gExt_e, gISet_e, gAppP_e, gExtP_e, gIsi_e, gZip_e, gListRev_e, gSortK_e, gNeg_e, gPar_e, gRaise_e, gHeard_e, op2, vD, vDs, frD, frDs, stO_b, nm_no, nm_sh, nm_ow, putO, bks, plainS, mutS, permL, appS, extS, isetS, isOl, noMu, noScr, oD, lst?, Rs.sl, Rs.d, D.items, stt, eHs, wipeS, unw, y2, la', n7]
end
end K62
end
section
set_option Elab.async false
set_option linter.all false
set_option maxRecDepth 100000
set_option maxHeartbeats 4000000
/-! K62m22: the law's loop: theirs. -/
namespace K62
open PySem DL
section
variable {α : Type} {vs : List Nat} {h : HT1} {ft : GB} {fe : GE}
theorem lcL_filt {enc : α → D} {R : List Sl → Prop} {p : α → Bool} : ∀ {xs : List α}, (∀ x ∈ xs, ∀ ρ, R ρ → ∃ ρa ρb, h (enc x) ρ = some ρa ∧ ft ρa = .ok (p x) ρb ∧ (p x = false → R (wipeS ρb vs)) ∧ (p x = true → ∃ ρc, fe ρb = .ok (enc x) ρc ∧ R (wipeS ρc vs))) →
    ∀ {ρ : List Sl}, R ρ → ∃ ρe : List Sl, lcL vs h ft fe (xs.map enc) ρ = .ok ((xs.filter p).map enc) ρe ∧ R ρe
  | [], _, ρ, r => ⟨ρ, rfl, r⟩
  | x :: xs, H, ρ, r => by
    obtain ⟨ρa, ρb, h1, h2, h3, h4⟩ := H x List.mem_cons_self ρ r
    have ih := fun {ρ} r => lcL_filt (xs := xs) (fun y hy => H y (List.mem_cons_of_mem _ hy)) (ρ := ρ) r
    have e0 : lcL vs h ft fe ((x :: xs).map enc) ρ = (match h (enc x) ρ with
      | none => .no
      | some ρa => match ft ρa with
        | .ok true ρb => match fe ρb with
          | .ok d ρc => match lcL vs h ft fe (xs.map enc) (wipeS ρc vs) with
            | .ok ds ρe => .ok (d :: ds) ρe
            | _ => .no
          | _ => .no
        | .ok false ρb => lcL vs h ft fe (xs.map enc) (wipeS ρb vs)
        | _ => .no) := rfl
    rw [e0, h1]
    simp only [h2]
    cases q : p x with
    | false =>
      obtain ⟨ρe, a2, a3⟩ := ih (h3 q)
      rw [List.filter_cons_of_neg (by simp [q])]
      exact ⟨ρe, a2, a3⟩
    | true =>
      obtain ⟨ρc, h5, h6⟩ := h4 q
      obtain ⟨ρe, a2, a3⟩ := ih h6
      rw [List.filter_cons_of_pos q]
      refine ⟨ρe, ?_, a3⟩
      simp only [h5, a2, List.map_cons]
end
theorem apt_comm (x y : Hk) : apt x y = apt y x := by
  unfold apt
  rw [Bool.or_comm]
theorem Vd.pw {n : Int} : ∀ {hs : List Hk} {s : Int}, Vd s n hs → hs.Pairwise fun x y => apt x y = true
  | [], _, _ => .nil
  | x :: hs, s, v => List.pairwise_cons.mpr ⟨fun y hy => by
    have := (v.tail.mem y hy).1
    unfold apt
    simp
    omega, Vd.pw v.tail⟩
theorem Vd_of {n : Int} : ∀ {L : List Hk} {s : Int}, (∀ x ∈ L, El n x ∧ s ≤ x.1) → (L.Pairwise fun x y => x.1 ≤ y.1) → (L.Pairwise fun x y => apt x y = true) → Vd s n L
  | [], _, _, _, _ => trivial
  | x :: L, s, h, p, q => by
    obtain ⟨p1, p2⟩ := List.pairwise_cons.mp p
    obtain ⟨q1, q2⟩ := List.pairwise_cons.mp q
    obtain ⟨⟨a, b, c, d, _⟩, e⟩ := h x List.mem_cons_self
    refine ⟨e, b, c, d, Vd_of (fun y hy => ⟨(h y (List.mem_cons_of_mem _ hy)).1, ?_⟩) p2 q2⟩
    have k1 := p1 y hy
    have k2 := q1 y hy
    have k3 := (h y (List.mem_cons_of_mem _ hy)).1
    unfold El at k3
    unfold apt at k2
    simp at k2
    omega
theorem theirs_vd {n : Int} {a b m : List Hk} (da : Dr n a) (db : Dr n b) (hm : m.Sublist a) : Vd 0 n (srt (m ++ b.filter (far m))) := by
  have el : ∀ x ∈ m ++ b.filter (far m), El n x := fun x hx => by
    rcases List.mem_append.mp hx with h | h
    · exact da.el x (hm.subset h)
    · exact db.el x (List.mem_filter.mp h).1
  refine Vd_of (fun x hx => ?_) (srt_up _) ?_
  · have := el x ((srt_perm _).mem_iff.mp hx)
    exact ⟨this, this.1⟩
  · refine ((srt_perm _).pairwise_iff (fun {x y} h => by rw [apt_comm]; exact h)).mpr ?_
    refine List.pairwise_append.mpr ⟨(da.1.pw).sublist hm, (db.1.pw).sublist List.filter_sublist, fun x hx y hy => ?_⟩
    exact far_is (List.mem_filter.mp hy).2 x hx
section
variable {ns : List Int} {k g c : Int} {s2 s3 s4 s5 s6 s7 s8 s9 s10 s11 s12 s13 s14 s15 : Sl}
abbrev ft6 : GB := gB (gOp fEq (gVd (gLc [9] (gIt (gTk 7)) (hN 9) (gB (gF 2 sem__law_meet (DL.gCons (gVsR 9) (DL.gCons (gVsR 8) DL.gNil)))) (gFr (gN 9)))) (gVd (gLst DL.gNil)))
theorem do6i {base : List Int} {a b m : List Hk} (hn : base.length ≤ 12) (hm : ∀ x ∈ m, El base.length x) (lm : m.length ≤ 4) {t7 : Sl} (h7 : t7 = .ow (.lst (m.map eH)) ∨ t7 = .sh (.lst (m.map eH))) (x : Hk) :
    ft6 (stt ns k g c (.sh (eR base)) s4 (.sh (eHs a)) (.sh (eHs b)) t7 (.sh (eH x)) s9 s10 s11 s12 s13 s14 s15) = .ok (far m x) (stt ns k g c (.sh (eR base)) s4 (.sh (eHs a)) (.sh (eHs b)) (.sh (.lst (m.map eH))) (.sh (eH x)) s9 s10 s11 s12 s13 s14 s15) := by
  have inn : lcL [9] (hN 9) (gB (gF 2 sem__law_meet (DL.gCons (gVsR 9) (DL.gCons (gVsR 8) DL.gNil)))) (gFr (gN 9)) (m.map eH) (stt ns k g c (.sh (eR base)) s4 (.sh (eHs a)) (.sh (eHs b)) (.sh (.lst (m.map eH))) (.sh (eH x)) .no s10 s11 s12 s13 s14 s15)
      = .ok ((m.filter (fun o => !apt o x)).map eH) (stt ns k g c (.sh (eR base)) s4 (.sh (eHs a)) (.sh (eHs b)) (.sh (.lst (m.map eH))) (.sh (eH x)) .no s10 s11 s12 s13 s14 s15) := by
    refine lcL_pure (fun o ho => ?_)
    refine ⟨stt ns k g c (.sh (eR base)) s4 (.sh (eHs a)) (.sh (eHs b)) (.sh (.lst (m.map eH))) (.sh (eH x)) (.sh (eH o)) s10 s11 s12 s13 s14 s15, stt ns k g c (.sh (eR base)) s4 (.sh (eHs a)) (.sh (eHs b)) (.sh (.lst (m.map eH))) (.sh (eH x)) (.sh (eH o)) s10 s11 s12 s13 s14 s15, rfl, ?_, fun _ => rfl, fun _ => ⟨_, rfl, rfl⟩⟩
    simp [gFr_e, gVd_e, gSh_e, gVsR_e, gN_e, gTk_e, gC_e, gOp_e, gNil_e, gCons_e, gTup_e, gLst_e, gP0_e, gP1_e, gSl_e, gB_e, gNot_e, gAnd_e, gOr_e, gNotV_e, gAndV_e, gOrV_e, gIf_e, gTru_e, gCall_e, hN_b, hNil_e, hCons_e, hT_e, gIt_e, gR1_e, gR2_e, gYes_e, gLc_e, gLc2_e, gSeq_e, gNx_e, gBk_e, gCt_e, gNo_e, gSet_e, gRet_e, gRetN_e, gIfS_e, gDrop_e, gAsg_e, gFor_e, fnS_e, gF_e, gFM_e, gFK_e, gApp_e, gExt_e, gISet_e, gAppP_e, gExtP_e, gIsi_e, gZip_e, gListRev_e, gSortK_e, gNeg_e, gPar_e, gRaise_e, gHeard_e, op2, vD, vDs, frD, frDs, stO_b, nm_no, nm_sh, nm_ow, putO, bks, plainS, mutS, permL, appS, extS, isetS, isOl, noMu, noScr, oD, lst?, Rs.sl, Rs.d, D.items, stt, ev_law_meet]
  have lm' : m.length ≤ 1000000 := by omega
  have q := fEq_L (x := m.filter (fun o => !apt o x)) (y := []) (fun z hz => (hm z (List.mem_filter.mp hz).1).smlH (by omega)) (fun z hz => absurd hz (by simp))
  have q : fEq (.lst ((m.filter (fun o => !apt o x)).map eH)) (.lst []) = some (.sh (.bl (far m x))) := q
  generalize (m.filter (fun o => !apt o x)).map eH = L at *
  simp only [stt] at inn
  rcases h7 with rfl | rfl <;> simp [gFr_e, gVd_e, gSh_e, gVsR_e, gN_e, gTk_e, gC_e, gOp_e, gNil_e, gCons_e, gTup_e, gLst_e, gP0_e, gP1_e, gSl_e, gB_e, gNot_e, gAnd_e, gOr_e, gNotV_e, gAndV_e, gOrV_e, gIf_e, gTru_e, gCall_e, hN_b, hNil_e, hCons_e, hT_e, gIt_e, gR1_e, gR2_e, gYes_e, gLc_e, gLc2_e, gSeq_e, gNx_e, gBk_e, gCt_e, gNo_e, gSet_e, gRet_e, gRetN_e, gIfS_e, gDrop_e, gAsg_e, gFor_e, fnS_e, gF_e, gFM_e, gFK_e, gApp_e, gExt_e, gISet_e, gAppP_e, gExtP_e, gIsi_e, gZip_e, gListRev_e, gSortK_e, gNeg_e, gPar_e, gRaise_e, gHeard_e, op2, vD, vDs, frD, frDs, stO_b, nm_no, nm_sh, nm_ow, putO, bks, plainS, mutS, permL, appS, extS, isetS, isOl, noMu, noScr, oD, lst?, Rs.sl, Rs.d, D.items, stt, wipeS, unw, inn, lm', q]
theorem do6a {base : List Int} {a b m : List Hk} (hn : base.length ≤ 12) (hm : ∀ x ∈ m, El base.length x) (lm : m.length ≤ 4) : ∃ t7, lcL [8] (hN 8) ft6 (gFr (gN 8)) (b.map eH)
      (stt ns k g c (.sh (eR base)) s4 (.sh (eHs a)) (.sh (eHs b)) (.ow (.lst (m.map eH))) .no s9 s10 s11 s12 s13 s14 s15) = .ok ((b.filter (far m)).map eH) (stt ns k g c (.sh (eR base)) s4 (.sh (eHs a)) (.sh (eHs b)) t7 .no s9 s10 s11 s12 s13 s14 s15) ∧ (t7 = .ow (.lst (m.map eH)) ∨ t7 = .sh (.lst (m.map eH))) := by
  obtain ⟨ρe, e, t7, rfl, h7⟩ := lcL_filt (vs := [8]) (h := hN 8) (ft := ft6) (fe := gFr (gN 8)) (enc := eH) (p := far m) (xs := b)
    (R := fun ρ => ∃ t7, ρ = stt ns k g c (.sh (eR base)) s4 (.sh (eHs a)) (.sh (eHs b)) t7 .no s9 s10 s11 s12 s13 s14 s15 ∧ (t7 = .ow (.lst (m.map eH)) ∨ t7 = .sh (.lst (m.map eH)))) (fun x hx ρ r => by
      obtain ⟨t7, rfl, h7⟩ := r
      exact ⟨stt ns k g c (.sh (eR base)) s4 (.sh (eHs a)) (.sh (eHs b)) t7 (.sh (eH x)) s9 s10 s11 s12 s13 s14 s15, _, rfl, do6i hn hm lm h7 x, fun _ => ⟨_, rfl, .inr rfl⟩, fun _ => ⟨_, rfl, _, rfl, .inr rfl⟩⟩)
    (ρ := stt ns k g c (.sh (eR base)) s4 (.sh (eHs a)) (.sh (eHs b)) (.ow (.lst (m.map eH))) .no s9 s10 s11 s12 s13 s14 s15) ⟨_, rfl, .inl rfl⟩
  exact ⟨t7, e, h7⟩
theorem do6 {base : List Int} {a b m : List Hk} (hn : base.length ≤ 12) (da : Dr base.length a) (db : Dr base.length b) (hm : m.Sublist a) : ∃ (t7 : Sl) (b' : List Hk), lw6 (stt ns k g c (.sh (eR base)) s4 (.sh (eHs a)) (.sh (eHs b)) (.ow (.lst (m.map eH))) s8 s9 s10 s11 s12 s13 s14 s15) = .nx (stt ns k g c (.sh (eR base)) s4 (.sh (eHs a)) (.sh (eHs b')) t7 s8 s9 s10 s11 s12 s13 s14 s15) ∧ nmB (some t7) = true ∧ Vd 0 base.length b' ∧ b'.length ≤ 8 ∧ ∀ x ∈ b', El base.length x := by
  have em : ∀ x ∈ m, El base.length x := fun x hx => da.el x (hm.subset hx)
  have lm : m.length ≤ 4 := Nat.le_trans hm.length_le da.2.1
  obtain ⟨t7, e, h7⟩ := do6a (ns := ns) (k := k) (g := g) (c := c) (s4 := s4) (s9 := s9) (s10 := s10) (s11 := s11) (s12 := s12) (s13 := s13) (s14 := s14) (s15 := s15) (a := a) (b := b) hn em lm
  have lb : (b.filter (far m)).length ≤ 4 := Nat.le_trans (List.length_filter_le _ _) db.2.1
  have el : ∀ x ∈ m ++ b.filter (far m), El base.length x := fun x hx => by
    rcases List.mem_append.mp hx with h | h
    · exact em x h
    · exact db.el x (List.mem_filter.mp h).1
  have so := fSorted_H (hs := m ++ b.filter (far m)) (fun x hx => (el x hx).smlH (by omega)) (by rw [List.length_append]; omega) (d := .lst (m.map eH ++ (b.filter (far m)).map eH)) (.inl (by rw [List.map_append]))
  have vd := theirs_vd da db hm
  refine ⟨t7, srt (m ++ b.filter (far m)), ?_, ?_, vd, ?_, fun x hx => el x ((srt_perm _).mem_iff.mp hx)⟩
  · have lb' : b.length ≤ 1000000 := by have := db.2.1; omega
    have l3 : m.length + (b.filter (far m)).length ≤ 1000000 := by omega
    generalize b.filter (far m) = b1' at *
    unfold lw6
    generalize srt (m ++ b1') = W at *
    simp only [stt, eHs, eR] at e
    have e : lcL [8] (hN 8) (DL.gB (DL.gOp fEq (DL.gVd (DL.gLc [9] (DL.gIt (DL.gTk 7)) (DL.hN 9) (DL.gB (DL.gF 2 sem__law_meet (DL.gCons (DL.gVsR 9) (DL.gCons (DL.gVsR 8) DL.gNil)))) (DL.gFr (DL.gN 9)))) (DL.gVd (DL.gLst DL.gNil)))) (gFr (gN 8)) (b.map eH) _ = _ := e
    rcases h7 with rfl | rfl <;> simp [gFr_e, gVd_e, gSh_e, gVsR_e, gN_e, gTk_e, gC_e, gOp_e, gNil_e, gCons_e, gTup_e, gLst_e, gP0_e, gP1_e, gSl_e, gB_e, gNot_e, gAnd_e, gOr_e, gNotV_e, gAndV_e, gOrV_e, gIf_e, gTru_e, gCall_e, hN_b, hNil_e, hCons_e, hT_e, gIt_e, gR1_e, gR2_e, gYes_e, gLc_e, gLc2_e, gSeq_e, gNx_e, gBk_e, gCt_e, gNo_e, gSet_e, gRet_e, gRetN_e, gIfS_e, gDrop_e, gAsg_e, gFor_e, fnS_e, gF_e, gFM_e, gFK_e, gApp_e, gExt_e, gISet_e, gAppP_e, gExtP_e, gIsi_e, gZip_e, gListRev_e, gSortK_e, gNeg_e, gPar_e, gRaise_e, gHeard_e, op2, vD, vDs, frD, frDs, stO_b, nm_no, nm_sh, nm_ow, putO, bks, plainS, mutS, permL, appS, extS, isetS, isOl, noMu, noScr, oD, lst?, Rs.sl, Rs.d, D.items, stt, eHs, eR, wipeS, unw, e, lb', fTuple, fAdd, l3, so]
  · rcases h7 with rfl | rfl <;> rfl
  · rw [(srt_perm _).length_eq, List.length_append]
    omega
end
end K62
end
section
set_option Elab.async false
set_option linter.all false
set_option maxRecDepth 100000
set_option maxHeartbeats 4000000
/-! K62m23: one round: what it is about. -/
namespace K62
open PySem DL
theorem eqvAll_refl : ∀ {ds : List D}, (∀ d ∈ ds, PyData.eqv d.py d.py = true) → PyData.eqvAll (D.pys ds) (D.pys ds) = true
  | [], _ => by simp [D.pys, PyData.eqvAll]
  | d :: ds, h => by
    rw [D.pys, PyData.eqvAll, h d List.mem_cons_self, eqvAll_refl fun e he => h e (List.mem_cons_of_mem _ he)]
    rfl
theorem Wx.refl {k : Nat} {d : D} (h : Wx k d) : PyData.eqv d.py d.py = true := by
  induction h with
  | int h => simp [D.py, PyData.eqv]
  | bl => simp [D.py, PyData.eqv]
  | non => simp [D.py, PyData.eqv]
  | str h h2 => simp [D.py, PyData.eqv]
  | tup _ ih =>
    rw [D.py, PyData.eqv]
    exact eqvAll_refl ih
  | lst _ ih =>
    rw [D.py, PyData.eqv]
    exact eqvAll_refl ih
theorem fNe_tX {k : Nat} {ds : List D} (h : Wx k (.tup ds)) (hk : k ≤ 64) : fNe (.tup ds) (.tup ds) = some (.sh (.bl false)) := by
  have e : (D.tup ds).eqv (.tup ds) = true := h.refl
  show (if (D.tup ds).okp && (D.tup ds).okp then some (Rs.sh (.bl (!(D.tup ds).eqv (.tup ds)))) else none) = _
  rw [h.okp hk, e]
  rfl
theorem fNe_str (x : Str) : fNe (.str x) (.str x) = some (.sh (.bl false)) := by simp [fNe]
/-- what one round is about -/
structure Rd (base : List Int) (a b : List Hk) : Prop where
  hn : base.length ≤ 12
  hs : sml base
  la : a.length ≤ 4
  lb : b.length ≤ 8
  ha : ∀ x ∈ a, El base.length x
  hb : ∀ x ∈ b, El base.length x
  va : Vd 0 base.length a
  vb : Vd 0 base.length b
abbrev PP (base : List Int) (a b : List Hk) : List Part := pts base a b 0 (stretches (srk (a ++ b)))
theorem sml_drop {l : List Int} {n : Nat} (h : sml l) : sml (l.drop n) := fun i hi => h i (List.mem_of_mem_drop hi)
theorem sml_cut {l : List Int} {i j : Int} (h : sml l) : sml (cut l i j) := fun x hx => h x (List.mem_of_mem_drop (List.mem_of_mem_take hx))
section
variable {base : List Int} {a b : List Hk} (r : Rd base a b)
include r
theorem Rd.sa : ∀ x ∈ a, smlH x := fun x hx => (r.ha x hx).smlH (by have := r.hn; omega)
theorem Rd.sb : ∀ x ∈ b, smlH x := fun x hx => (r.hb x hx).smlH (by have := r.hn; omega)
theorem Rd.ta : Ti a := ⟨Nat.le_trans r.la (by decide), fun x hx => ⟨Nat.le_trans (r.ha x hx).2.2.2.2.1 (by decide), r.sa x hx⟩⟩
theorem Rd.tb : Ti b := ⟨Nat.le_trans r.lb (by decide), fun x hx => ⟨Nat.le_trans (r.hb x hx).2.2.2.2.1 (by decide), r.sb x hx⟩⟩
theorem Rd.wi : ∀ x ∈ srk (a ++ b), Wi base.length x := fun x hx => by
  rcases List.mem_append.mp ((srk_perm _).mem_iff.mp hx) with h | h
  · exact r.va.wi x h
  · exact r.vb.wi x h
theorem Rd.wi2 : ∀ x ∈ srk (b ++ a), Wi base.length x := fun x hx => by
  rcases List.mem_append.mp ((srk_perm _).mem_iff.mp hx) with h | h
  · exact r.vb.wi x h
  · exact r.va.wi x h
theorem Rd.so : So base.length 0 (stretches (srk (a ++ b))) := (stretches_all r.wi (srk_up _)).1
theorem Rd.sl : (stretches (srk (a ++ b))).length ≤ 12 := by
  have k1 := stretches_len (srk (a ++ b))
  have k2 := (srk_perm (a ++ b)).length_eq
  rw [List.length_append] at k2
  have := r.la
  have := r.lb
  omega
theorem Rd.st2 : stretches (srk (b ++ a)) = stretches (srk (a ++ b)) := stretches_perm r.wi2 (srk_up _) (srk_up _) fun x => by
  rw [(srk_perm _).mem_iff, (srk_perm _).mem_iff, List.mem_append, List.mem_append]
  exact Or.comm
theorem Rd.inb : ∀ x ∈ a, ∃ s ∈ stretches (srk (a ++ b)), inS s x = true := fun x hx => (stretches_all r.wi (srk_up _)).2.2 x ((srk_perm _).mem_iff.mpr (List.mem_append_left _ hx))
theorem Rd.inb2 : ∀ x ∈ b, ∃ s ∈ stretches (srk (a ++ b)), inS s x = true := fun x hx => (stretches_all r.wi (srk_up _)).2.2 x ((srk_perm _).mem_iff.mpr (List.mem_append_right _ hx))
theorem Rd.ap : (stretches (srk (a ++ b))).Pairwise apS := (stretches_all r.wi (srk_up _)).2.1
theorem Rd.f1 : ((PP base a b).map p1).flatten = base := by
  unfold PP
  rw [pts_flat (h := fun s => cut base s.1 s.2) (fun _ => rfl) rfl (Int.le_refl 0) r.so fun s _ => p1_part, pcs_base (Int.le_refl 0) r.so]
  rfl
theorem Rd.f2 : ((PP base a b).map ourP).flatten = fwd 0 base a := by
  unfold PP
  rw [pts_flat (h := fun s => fwd s.1 (cut base s.1 s.2) (a.filter (inS s))) (fun _ => rfl) rfl (Int.le_refl 0) r.so fun s _ => ourP_part, pcs_fwd (Int.le_refl 0) r.so r.ap r.va r.inb]
  rfl
theorem Rd.f3 : ((PP base a b).map theP).flatten = fwd 0 base b := by
  unfold PP
  rw [pts_flat (h := fun s => fwd s.1 (cut base s.1 s.2) (b.filter (inS s))) (fun _ => rfl) rfl (Int.le_refl 0) r.so fun s _ => theP_part, pcs_fwd (Int.le_refl 0) r.so r.ap r.vb r.inb2]
  rfl
theorem Rd.gp : ∀ p ∈ PP base a b, Gp p := Gp_pts _ _
theorem Rd.pl : (PP base a b).length ≤ 25 := by
  unfold PP
  have := pts_len (base := base) (a := a) (b := b) (stretches (srk (a ++ b))) 0
  have := r.sl
  omega
theorem Rd.ex : (PP base a b).map exP = PP base b a := by
  unfold PP
  rw [r.st2]
  exact exP_pts fun s hs => by
    obtain ⟨x, hx, q⟩ := stretches_holds s hs
    rcases List.mem_append.mp ((srk_perm _).mem_iff.mp hx) with h | h
    · exact .inl (List.ne_nil_of_mem (List.mem_filter.mpr ⟨h, q⟩))
    · exact .inr (List.ne_nil_of_mem (List.mem_filter.mpr ⟨h, q⟩))
theorem Rd.la' : (fwd 0 base a).length ≤ 44 := by
  have h := fwd_len' (rows := base) (fun x hx => (r.ta.2 x hx).1) r.va
  have := r.la
  have := r.hn
  omega
theorem Rd.lb' : (fwd 0 base b).length ≤ 76 := by
  have h := fwd_len' (rows := base) (fun x hx => (r.tb.2 x hx).1) r.vb
  have := r.lb
  have := r.hn
  omega
theorem Rd.ma : sml (fwd 0 base a) := sml_fwd r.hs r.sa
theorem Rd.mb : sml (fwd 0 base b) := sml_fwd r.hs r.sb
theorem Rd.rows : ∀ p ∈ PP base a b, ∀ l ∈ p.2, sml l := by
  have f : ∀ {c : List Hk} (s : St2), (∀ x ∈ c, smlH x) → sml (fwd s.1 (cut base s.1 s.2) (c.filter (inS s))) := fun s h => sml_fwd (sml_cut r.hs) fun x hx => h x (List.mem_filter.mp hx).1
  refine pts_each (P := fun p => ∀ l ∈ p.2, sml l) (fun at_ l hl => ?_) (fun i j l hl => ?_) (fun s l hl => ?_) _ _
  · rw [List.mem_singleton.mp hl]; exact sml_drop r.hs
  · rw [List.mem_singleton.mp hl]; exact sml_cut r.hs
  · have fa := f s r.sa
    have fb := f s r.sb
    have c0 := sml_cut (i := s.1) (j := s.2) r.hs
    unfold part at hl
    simp only at hl
    split at hl
    · simp only [List.mem_cons, List.not_mem_nil, or_false] at hl
      rcases hl with rfl | rfl <;> assumption
    · split at hl
      · simp only [List.mem_cons, List.not_mem_nil, or_false] at hl
        rcases hl with rfl | rfl <;> assumption
      · split at hl
        · simp only [List.mem_cons, List.not_mem_nil, or_false] at hl
          rcases hl with rfl | rfl <;> assumption
        · simp only [List.mem_cons, List.not_mem_nil, or_false] at hl
          rcases hl with rfl | rfl | rfl <;> assumption
end
theorem word_wx {k : Nat} {p : Part} (h : Gp p) : Wx k (.str p.1) := by
  have : p.1 = "same" ∨ p.1 = "ours" ∨ p.1 = "theirs" ∨ p.1 = "alike" ∨ p.1 = "clash" := by
    rcases h with ⟨h, _⟩ | ⟨h | h | h, _⟩ | ⟨h, _⟩ <;> simp [h]
  rcases this with e | e | e | e | e <;> rw [e] <;> exact .str (ok_of _) (by decide +kernel)
theorem part_wx {p : Part} (h : Gp p) (hr : ∀ l ∈ p.2, sml l) : Wx 3 (eP p) := .tup fun d hd => by
  rcases List.mem_cons.mp hd with rfl | hd
  · exact word_wx h
  · obtain ⟨l, hl, rfl⟩ := List.mem_map.mp hd
    exact ((wh_R (hr l hl)).mono (by decide)).wx
theorem parts_wx {P : List Part} (h : ∀ p ∈ P, Gp p) (hr : ∀ p ∈ P, ∀ l ∈ p.2, sml l) : Wx 4 (.tup (P.map eP)) := .tup fun d hd => by
  obtain ⟨p, hp, rfl⟩ := List.mem_map.mp hd
  exact part_wx (h p hp) (hr p hp)
theorem part_w {p : Part} (h : Gp p) (hr : ∀ l ∈ p.2, sml l) : (eP p).py.weight ≤ 65 * ((p1 p).length + (ourP p).length + (theP p).length) + 20 := by
  have k1 : (PyData.str (Str.ofString "same")).weight ≤ 6 := by decide +kernel
  have k2 : (PyData.str (Str.ofString "ours")).weight ≤ 6 := by decide +kernel
  have k3 : (PyData.str (Str.ofString "theirs")).weight ≤ 6 := by decide +kernel
  have k4 : (PyData.str (Str.ofString "alike")).weight ≤ 6 := by decide +kernel
  have k5 : (PyData.str (Str.ofString "clash")).weight ≤ 6 := by decide +kernel
  obtain ⟨w, l⟩ := p
  rcases h with ⟨rfl, x, h⟩ | ⟨rfl | rfl | rfl, x, y, h⟩ | ⟨rfl, x, y, z, h⟩ <;> simp only at h <;> subst h
  · have e1 := wRs (hr x (by simp))
    simp [eP, p1, p2, ourP, theP, lastP, D.py, D.pys, PyData.weight, PyData.weightAll] at *
    omega
  · have e1 := wRs (hr x (by simp))
    have e2 := wRs (hr y (by simp))
    simp [eP, p1, p2, ourP, theP, lastP, D.py, D.pys, PyData.weight, PyData.weightAll] at *
    omega
  · have e1 := wRs (hr x (by simp))
    have e2 := wRs (hr y (by simp))
    simp [eP, p1, p2, ourP, theP, lastP, D.py, D.pys, PyData.weight, PyData.weightAll] at *
    omega
  · have e1 := wRs (hr x (by simp))
    have e2 := wRs (hr y (by simp))
    simp [eP, p1, p2, ourP, theP, lastP, D.py, D.pys, PyData.weight, PyData.weightAll] at *
    omega
  · have e1 := wRs (hr x (by simp))
    have e2 := wRs (hr y (by simp))
    have e3 := wRs (hr z (by simp))
    simp [eP, p1, p2, ourP, theP, lastP, D.py, D.pys, PyData.weight, PyData.weightAll] at *
    omega
theorem parts_w : ∀ {P : List Part}, (∀ p ∈ P, Gp p) → (∀ p ∈ P, ∀ l ∈ p.2, sml l) → PyData.weightAll (D.pys (P.map eP)) ≤ 65 * ((P.map p1).flatten.length + (P.map ourP).flatten.length + (P.map theP).flatten.length) + 21 * P.length
  | [], _, _ => by simp [D.pys, PyData.weightAll]
  | p :: P, h, hr => by
    have h1 := part_w (h p List.mem_cons_self) (hr p List.mem_cons_self)
    have h2 := parts_w (P := P) (fun q hq => h q (List.mem_cons_of_mem _ hq)) fun q hq => hr q (List.mem_cons_of_mem _ hq)
    rw [List.map_cons, D.pys, PyData.weightAll]
    simp only [List.map_cons, List.flatten_cons, List.length_append, List.length_cons]
    omega
section
variable {base : List Int} {a b : List Hk} (r : Rd base a b)
include r
theorem Rd.wx : Wx 4 (.tup ((PP base a b).map eP)) := parts_wx r.gp r.rows
theorem Rd.wt : (D.tup ((PP base a b).map eP)).py.weight ≤ 60000 := by
  have h := parts_w r.gp r.rows
  rw [r.f1, r.f2, r.f3] at h
  have := r.hn
  have := r.la'
  have := r.lb'
  have := r.pl
  simp only [D.py, PyData.weight]
  omega
theorem Rd.three : Wx 2 (.lst [eR base, eR (fwd 0 base a), eR (fwd 0 base b)]) ∧ (D.lst [eR base, eR (fwd 0 base a), eR (fwd 0 base b)]).py.weight ≤ 60000 := by
  have h1 := wRs r.hs
  have h2 := wRs r.ma
  have h3 := wRs r.mb
  have := r.hn
  have := r.la'
  have := r.lb'
  refine ⟨.lst fun d hd => ?_, ?_⟩
  · simp only [List.mem_cons, List.not_mem_nil, or_false] at hd
    rcases hd with rfl | rfl | rfl
    · exact (wh_R r.hs).wx
    · exact (wh_R r.ma).wx
    · exact (wh_R r.mb).wx
  · simp only [D.py, D.pys, PyData.weight, PyData.weightAll]
    omega
theorem Rd.hunks : Wx 4 (.lst [eHs a, eHs b]) ∧ (D.lst [eHs a, eHs b]).py.weight ≤ 60000 := by
  have w : ∀ {c : List Hk}, (∀ x ∈ c, smlH x ∧ x.2.2.length ≤ 8) → c.length ≤ 8 → (eHs c).py.weight ≤ 6000 := fun {c} h hl => by
    have := wAll (B := 700) (ds := c.map eH) fun d hd => by
      obtain ⟨x, hx, rfl⟩ := List.mem_map.mp hd
      exact wH2 (h x hx).1 (h x hx).2
    rw [List.length_map] at this
    unfold eHs
    simp only [D.py, PyData.weight]
    omega
  have h1 := w (c := a) (fun x hx => ⟨(r.ta.2 x hx).2, (r.ta.2 x hx).1⟩) (by have := r.la; omega)
  have h2 := w (c := b) (fun x hx => ⟨(r.tb.2 x hx).2, (r.tb.2 x hx).1⟩) r.lb
  refine ⟨.lst fun d hd => ?_, ?_⟩
  · simp only [List.mem_cons, List.not_mem_nil, or_false] at hd
    rcases hd with rfl | rfl
    · exact (wh_Hs r.sa).wx
    · exact (wh_Hs r.sb).wx
  · simp only [D.py, D.pys, PyData.weight, PyData.weightAll]
    omega
end
end K62
end
section
set_option Elab.async false
set_option linter.all false
set_option maxRecDepth 100000
set_option maxHeartbeats 4000000
/-! K62m24: the law's loop: the questions. -/
namespace K62
open PySem DL
def hL (x : Hk) : D := .lst [.int x.1, .int x.2.1, .tup (x.2.2.map .int)]
def hLL (x : Hk) : D := .lst [.int x.1, .int x.2.1, .lst (x.2.2.map .int)]
def handD (base : List Int) (a b : List Hk) : D := .lst [.lst (base.map .int), .lst (a.map hL), .lst (b.map hLL)]
theorem a10 (x : D) : L2.atI [x] 0 = some x := rfl
section
variable {ns : List Int} {k g c : Int} {base : List Int} {a b : List Hk} {s4 s7 s8 s9 s10 s11 s12 s13 s14 s15 : Sl}
theorem h8 {s6 s7 s9 s10 s11 s12 s13 s14 s15 : Sl} (a : List Hk) {s3 s4 s5 : Sl} : lcL [8] (hN 8) gYes (gFr (gCall fList (DL.gCons (gVsR 8) DL.gNil))) (a.map eH) (stt ns k g c s3 s4 s5 s6 s7 .no s9 s10 s11 s12 s13 s14 s15) = .ok (a.map hL) (stt ns k g c s3 s4 s5 s6 s7 .no s9 s10 s11 s12 s13 s14 s15) :=
  lcL_map fun x hx => ⟨stt ns k g c s3 s4 s5 s6 s7 (.sh (eH x)) s9 s10 s11 s12 s13 s14 s15, _, stt ns k g c s3 s4 s5 s6 s7 (.sh (eH x)) s9 s10 s11 s12 s13 s14 s15, rfl, rfl, by simp [gFr_e, gVd_e, gSh_e, gVsR_e, gN_e, gTk_e, gC_e, gOp_e, gNil_e, gCons_e, gTup_e, gLst_e, gP0_e, gP1_e, gSl_e, gB_e, gNot_e, gAnd_e, gOr_e, gNotV_e, gAndV_e, gOrV_e, gIf_e, gTru_e, gCall_e, hN_b, hNil_e, hCons_e, hT_e, gIt_e, gR1_e, gR2_e, gYes_e, gLc_e, gLc2_e, gSeq_e, gNx_e, gBk_e, gCt_e, gNo_e, gSet_e, gRet_e, gRetN_e, gIfS_e, gDrop_e, gAsg_e, gFor_e, fnS_e, gF_e, gFM_e, gFK_e, gApp_e, gExt_e, gISet_e, gAppP_e, gExtP_e, gIsi_e, gZip_e, gListRev_e, gSortK_e, gNeg_e, gPar_e, gRaise_e, gHeard_e, op2, vD, vDs, frD, frDs, stO_b, nm_no, nm_sh, nm_ow, putO, bks, plainS, mutS, permL, appS, extS, isetS, isOl, noMu, noScr, oD, lst?, Rs.sl, Rs.d, D.items, stt, eH, fList, hL], rfl⟩
theorem h13 {s6 s7 s8 s9 s10 s14 s15 : Sl} (a : List Hk) {s3 s4 s5 : Sl} : lcL [11, 12, 13] (hT 3 (DL.hCons (hN 11) (DL.hCons (hN 12) (DL.hCons (hN 13) DL.hNil)))) gYes (gFr (gLst (DL.gCons (gVsR 11) (DL.gCons (gVsR 12) (DL.gCons (gVd (gCall fList (DL.gCons (gVsR 13) DL.gNil))) DL.gNil))))) (a.map eH) (stt ns k g c s3 s4 s5 s6 s7 s8 s9 s10 .no .no .no s14 s15) = .ok (a.map hLL) (stt ns k g c s3 s4 s5 s6 s7 s8 s9 s10 .no .no .no s14 s15) :=
  lcL_map fun x hx => ⟨stt ns k g c s3 s4 s5 s6 s7 s8 s9 s10 (.sh (.int x.1)) (.sh (.int x.2.1)) (.sh (.tup (x.2.2.map .int))) s14 s15, _, stt ns k g c s3 s4 s5 s6 s7 s8 s9 s10 (.sh (.int x.1)) (.sh (.int x.2.1)) (.sh (.tup (x.2.2.map .int))) s14 s15, rfl, rfl, by simp [gFr_e, gVd_e, gSh_e, gVsR_e, gN_e, gTk_e, gC_e, gOp_e, gNil_e, gCons_e, gTup_e, gLst_e, gP0_e, gP1_e, gSl_e, gB_e, gNot_e, gAnd_e, gOr_e, gNotV_e, gAndV_e, gOrV_e, gIf_e, gTru_e, gCall_e, hN_b, hNil_e, hCons_e, hT_e, gIt_e, gR1_e, gR2_e, gYes_e, gLc_e, gLc2_e, gSeq_e, gNx_e, gBk_e, gCt_e, gNo_e, gSet_e, gRet_e, gRetN_e, gIfS_e, gDrop_e, gAsg_e, gFor_e, fnS_e, gF_e, gFM_e, gFK_e, gApp_e, gExt_e, gISet_e, gAppP_e, gExtP_e, gIsi_e, gZip_e, gListRev_e, gSortK_e, gNeg_e, gPar_e, gRaise_e, gHeard_e, op2, vD, vDs, frD, frDs, stO_b, nm_no, nm_sh, nm_ow, putO, bks, plainS, mutS, permL, appS, extS, isetS, isOl, noMu, noScr, oD, lst?, Rs.sl, Rs.d, D.items, stt, fList, hLL], rfl⟩
theorem do7 (la : a.length ≤ 100) (lb : b.length ≤ 100) (n10 : nmB (some s10) = true) : lw7 (stt ns k g c (.sh (eR base)) s4 (.sh (eHs a)) (.sh (eHs b)) s7 s8 s9 s10 s11 s12 s13 s14 s15) = .nx (stt ns k g c (.sh (eR base)) s4 (.sh (eHs a)) (.sh (eHs b)) s7 s8 s9 (.sh (handD base a b)) s11 s12 s13 s14 s15) := by
  have e1 := h8 (ns := ns) (k := k) (g := g) (c := c) (s3 := .sh (eR base)) (s4 := s4) (s5 := .sh (eHs a)) (s6 := .sh (eHs b)) (s7 := s7) (s9 := s9) (s10 := s10) (s11 := s11) (s12 := s12) (s13 := s13) (s14 := s14) (s15 := s15) a
  have e2 := h13 (ns := ns) (k := k) (g := g) (c := c) (s3 := .sh (eR base)) (s4 := s4) (s5 := .sh (eHs a)) (s6 := .sh (eHs b)) (s7 := s7) (s8 := s8) (s9 := s9) (s10 := s10) (s14 := s14) (s15 := s15) b
  have la' : a.length ≤ 1000000 := by omega
  have lb' : b.length ≤ 1000000 := by omega
  simp only [stt, eHs, eR] at e1 e2
  simp [gFr_e, gVd_e, gSh_e, gVsR_e, gN_e, gTk_e, gC_e, gOp_e, gNil_e, gCons_e, gTup_e, gLst_e, gP0_e, gP1_e, gSl_e, gB_e, gNot_e, gAnd_e, gOr_e, gNotV_e, gAndV_e, gOrV_e, gIf_e, gTru_e, gCall_e, hN_b, hNil_e, hCons_e, hT_e, gIt_e, gR1_e, gR2_e, gYes_e, gLc_e, gLc2_e, gSeq_e, gNx_e, gBk_e, gCt_e, gNo_e, gSet_e, gRet_e, gRetN_e, gIfS_e, gDrop_e, gAsg_e, gFor_e, fnS_e, gF_e, gFM_e, gFK_e, gApp_e, gExt_e, gISet_e, gAppP_e, gExtP_e, gIsi_e, gZip_e, gListRev_e, gSortK_e, gNeg_e, gPar_e, gRaise_e, gHeard_e, op2, vD, vDs, frD, frDs, stO_b, nm_no, nm_sh, nm_ow, putO, bks, plainS, mutS, permL, appS, extS, isetS, isOl, noMu, noScr, oD, lst?, Rs.sl, Rs.d, D.items, stt, eHs, eR, wipeS, unw, fList, e1, e2, la', lb', fIx, a10, n10, handD]
end
theorem hand_a {a : List Hk} : isHL (.lst (a.map hL)) (a.map fun x => (hL x, x)) := by
  refine ⟨.inr (by rw [List.map_map]; rfl), fun p hp => ?_⟩
  obtain ⟨x, _, rfl⟩ := List.mem_map.mp hp
  exact ⟨_, .inl rfl, .inr rfl⟩
theorem hand_b {a : List Hk} : isHL (.lst (a.map hLL)) (a.map fun x => (hLL x, x)) := by
  refine ⟨.inr (by rw [List.map_map]; rfl), fun p hp => ?_⟩
  obtain ⟨x, _, rfl⟩ := List.mem_map.mp hp
  exact ⟨_, .inr rfl, .inr rfl⟩
theorem hand_e {a : List Hk} : isHL (eHs a) (a.map fun x => (eH x, x)) := isHL_eHs a
theorem snd_map {a : List Hk} {f : Hk → D} : (a.map fun x => (f x, x)).map (·.2) = a := by
  rw [List.map_map]
  exact List.map_id a
section
variable {base : List Int} {a b : List Hk} (r : Rd base a b)
include r
theorem Rd.mp1 : sem_merge_parts [.sh (.lst (base.map .int)), .sh (.lst (a.map hL)), .sh (.lst (b.map hLL))] = .ok (.sh (.tup ((PP base a b).map eP))) [.sh (.lst (base.map .int)), .sh (.lst (a.map hL)), .sh (.lst (b.map hLL))] :=
  ev_merge_parts (base := base) (.inr rfl) hand_a hand_b snd_map snd_map (by have := r.hn; omega) r.va r.vb r.ta.sm r.tb.sm r.sa r.sb (by have := r.sl; omega) r.so
theorem Rd.mp2 : sem_merge_parts [.sh (eR base), .sh (eHs a), .sh (eHs b)] = .ok (.sh (.tup ((PP base a b).map eP))) [.sh (eR base), .sh (eHs a), .sh (eHs b)] :=
  ev_merge_parts (base := base) (.inl rfl) hand_e hand_e snd_map snd_map (by have := r.hn; omega) r.va r.vb r.ta.sm r.tb.sm r.sa r.sb (by have := r.sl; omega) r.so
theorem Rd.mp3 : sem_merge_parts [.sh (eR base), .sh (eHs b), .sh (eHs a)] = .ok (.sh (.tup ((PP base b a).map eP))) [.sh (eR base), .sh (eHs b), .sh (eHs a)] :=
  ev_merge_parts (base := base) (.inl rfl) hand_e hand_e snd_map snd_map (by have := r.hn; omega) r.vb r.va r.tb.sm r.ta.sm r.sb r.sa (by rw [r.st2]; have := r.sl; omega) (by rw [r.st2]; exact r.so)
theorem Rd.lp : sem__law_parts [.sh (eR base), .sh (eHs a), .sh (eHs b)] = .ok (.sh (.tup ((PP base a b).map eP))) [.sh (eR base), .sh (eHs a), .sh (eHs b)] := ev_law_parts (by have := r.hn; omega) r.va r.vb r.ta r.tb
theorem Rd.ck1 : sem_check_hunks [.sh (.lst (base.map .int)), .sh (.lst (a.map hL))] = .ok (.sh (eHs a)) [.sh (.lst (base.map .int)), .sh (.lst (a.map hL))] := by
  have := ev_check_ok (b := .lst (base.map .int)) (xs := base) (.inr rfl) (hand_a (a := a)) (by rw [snd_map]; exact r.va) (by rw [List.length_map]; have := r.la; omega)
  rwa [snd_map] at this
theorem Rd.ck2 : sem_check_hunks [.sh (eR base), .sh (eHs b)] = .ok (.sh (eHs b)) [.sh (eR base), .sh (eHs b)] := by
  have := ev_check_ok (b := eR base) (xs := base) (.inl rfl) (hand_e (a := b)) (by rw [snd_map]; exact r.vb) (by rw [List.length_map]; have := r.lb; omega)
  rwa [snd_map] at this
variable {ns : List Int} {k g c : Int} {s4 s7 s8 s9 s11 s12 s13 s14 s15 : Sl}
omit r in
theorem nm_cases {s : Sl} (h : nmB (some s) = true) : s = .no ∨ (∃ d, s = .sh d) ∨ ∃ d, s = .ow d := by
  cases s with
  | no => exact .inl rfl
  | sh d => exact .inr (.inl ⟨d, rfl⟩)
  | ow d => exact .inr (.inr ⟨d, rfl⟩)
  | mu d => cases h
theorem do8 (n14 : nmB (some s14) = true) (n15 : nmB (some s15) = true) : lw8 (stt ns k g c (.sh (eR base)) s4 (.sh (eHs a)) (.sh (eHs b)) s7 s8 s9 (.sh (handD base a b)) s11 s12 s13 s14 s15) = .nx (stt ns k g c (.sh (eR base)) s4 (.sh (eHs a)) (.sh (eHs b)) s7 s8 s9 (.sh (handD base a b)) s11 s12 s13 (.sh (.tup ((PP base a b).map eP))) (.sh (.tup ((PP base a b).map eP)))) := by
  have e1 := r.mp1
  have e2 := r.lp
  generalize (PP base a b).map eP = L at *
  unfold stt
  rcases nm_cases n14 with rfl | ⟨_, rfl⟩ | ⟨_, rfl⟩ <;> rcases nm_cases n15 with rfl | ⟨_, rfl⟩ | ⟨_, rfl⟩ <;> simp [gFr_e, gVd_e, gSh_e, gVsR_e, gN_e, gTk_e, gC_e, gOp_e, gNil_e, gCons_e, gTup_e, gLst_e, gP0_e, gP1_e, gSl_e, gB_e, gNot_e, gAnd_e, gOr_e, gNotV_e, gAndV_e, gOrV_e, gIf_e, gTru_e, gCall_e, hN_b, hNil_e, hCons_e, hT_e, gIt_e, gR1_e, gR2_e, gYes_e, gLc_e, gLc2_e, gSeq_e, gNx_e, gBk_e, gCt_e, gNo_e, gSet_e, gRet_e, gRetN_e, gIfS_e, gDrop_e, gAsg_e, gFor_e, fnS_e, gF_e, gFM_e, gFK_e, gApp_e, gExt_e, gISet_e, gAppP_e, gExtP_e, gIsi_e, gZip_e, gListRev_e, gSortK_e, gNeg_e, gPar_e, gRaise_e, gHeard_e, op2, vD, vDs, frD, frDs, stO_b, nm_no, nm_sh, nm_ow, putO, bks, plainS, mutS, permL, appS, extS, isetS, isOl, noMu, noScr, oD, lst?, Rs.sl, Rs.d, D.items, handD, fIx, a30, a31, a32, e1, e2]
abbrev stq2 (ns : List Int) (k g c : Int) (base : List Int) (a b : List Hk) (s4 s7 s8 s9 s11 s12 s13 : Sl) : List Sl := stt ns k g c (.sh (eR base)) s4 (.sh (eHs a)) (.sh (eHs b)) s7 s8 s9 (.sh (handD base a b)) s11 s12 s13 (.sh (.tup ((PP base a b).map eP))) (.sh (.tup ((PP base a b).map eP)))
theorem do9 : lw9 (stq2 ns k g c base a b s4 s7 s8 s9 s11 s12 s13) = .nx (stq2 ns k g c base a b s4 s7 s8 s9 s11 s12 s13) := by
  have e1 := r.mp2
  have q1 := fRepr_X r.wx (by decide) r.wt
  have q2 := fNe_tX r.wx (by decide)
  unfold stq2 stt
  generalize (PP base a b).map eP = L at *
  generalize (D.tup L).py.shown = S at *
  simp [gFr_e, gVd_e, gSh_e, gVsR_e, gN_e, gTk_e, gC_e, gOp_e, gNil_e, gCons_e, gTup_e, gLst_e, gP0_e, gP1_e, gSl_e, gB_e, gNot_e, gAnd_e, gOr_e, gNotV_e, gAndV_e, gOrV_e, gIf_e, gTru_e, gCall_e, hN_b, hNil_e, hCons_e, hT_e, gIt_e, gR1_e, gR2_e, gYes_e, gLc_e, gLc2_e, gSeq_e, gNx_e, gBk_e, gCt_e, gNo_e, gSet_e, gRet_e, gRetN_e, gIfS_e, gDrop_e, gAsg_e, gFor_e, fnS_e, gF_e, gFM_e, gFK_e, gApp_e, gExt_e, gISet_e, gAppP_e, gExtP_e, gIsi_e, gZip_e, gListRev_e, gSortK_e, gNeg_e, gPar_e, gRaise_e, gHeard_e, op2, vD, vDs, frD, frDs, stO_b, nm_no, nm_sh, nm_ow, putO, bks, plainS, mutS, permL, appS, extS, isetS, isOl, noMu, noScr, oD, lst?, Rs.sl, Rs.d, D.items, e1, q1, q2, fNe_str]
theorem Rd.b1 : sem_base_of [.sh (.tup ((PP base a b).map eP))] = .ok (.sh (eR base)) [.sh (.tup ((PP base a b).map eP))] := by
  have := ev_base_of r.gp (by have := r.pl; omega) (by rw [r.f1]; have := r.hn; omega)
  rwa [r.f1] at this
theorem Rd.b2 : sem_ours_of [.sh (.tup ((PP base a b).map eP))] = .ok (.sh (eR (fwd 0 base a))) [.sh (.tup ((PP base a b).map eP))] := by
  have := ev_ours_of r.gp (by have := r.pl; omega) (by rw [r.f2]; have := r.la'; omega)
  rwa [r.f2] at this
theorem Rd.b3 : sem_theirs_of [.sh (.tup ((PP base a b).map eP))] = .ok (.sh (eR (fwd 0 base b))) [.sh (.tup ((PP base a b).map eP))] := by
  have := ev_theirs_of r.gp (by have := r.pl; omega) (by rw [r.f3]; have := r.lb'; omega)
  rwa [r.f3] at this
theorem Rd.pa : sem__law_put [.sh (eR base), .sh (eHs a)] = .ok (.sh (eR (fwd 0 base a))) [.sh (eR base), .sh (eHs a)] := ev_law_put (.inl rfl) (by have := r.hn; omega) r.va r.ta
theorem Rd.pb : sem__law_put [.sh (eR base), .sh (eHs b)] = .ok (.sh (eR (fwd 0 base b))) [.sh (eR base), .sh (eHs b)] := ev_law_put (.inl rfl) (by have := r.hn; omega) r.vb r.tb
theorem do10 : lw10 (stq2 ns k g c base a b s4 s7 s8 s9 s11 s12 s13) = .nx (stq2 ns k g c base a b s4 s7 s8 s9 s11 s12 s13) := by
  have e1 := r.b1
  have e2 := r.b2
  have e3 := r.b3
  have e4 := r.pa
  have e5 := r.pb
  have q := fRepr_X r.three.1 (by decide) r.three.2
  unfold stq2 stt
  generalize (D.lst [eR base, eR (fwd 0 base a), eR (fwd 0 base b)]).py.shown = S at *
  generalize (PP base a b).map eP = L at *
  generalize eR (fwd 0 base a) = A at *
  generalize eR (fwd 0 base b) = B at *
  generalize eR base = C at *
  simp [gFr_e, gVd_e, gSh_e, gVsR_e, gN_e, gTk_e, gC_e, gOp_e, gNil_e, gCons_e, gTup_e, gLst_e, gP0_e, gP1_e, gSl_e, gB_e, gNot_e, gAnd_e, gOr_e, gNotV_e, gAndV_e, gOrV_e, gIf_e, gTru_e, gCall_e, hN_b, hNil_e, hCons_e, hT_e, gIt_e, gR1_e, gR2_e, gYes_e, gLc_e, gLc2_e, gSeq_e, gNx_e, gBk_e, gCt_e, gNo_e, gSet_e, gRet_e, gRetN_e, gIfS_e, gDrop_e, gAsg_e, gFor_e, fnS_e, gF_e, gFM_e, gFK_e, gApp_e, gExt_e, gISet_e, gAppP_e, gExtP_e, gIsi_e, gZip_e, gListRev_e, gSortK_e, gNeg_e, gPar_e, gRaise_e, gHeard_e, op2, vD, vDs, frD, frDs, stO_b, nm_no, nm_sh, nm_ow, putO, bks, plainS, mutS, permL, appS, extS, isetS, isOl, noMu, noScr, oD, lst?, Rs.sl, Rs.d, D.items, e1, e2, e3, e4, e5, q, fNe_str]
theorem do11 : lw11 (stq2 ns k g c base a b s4 s7 s8 s9 s11 s12 s13) = .nx (stq2 ns k g c base a b s4 s7 s8 s9 s11 s12 s13) := by
  have e1 := r.b1
  have e2 := r.b2
  have e3 := r.b3
  have e4 := r.pa
  have e5 := r.pb
  have q1 := fNe_R r.hs r.hs
  have q2 := fNe_R r.ma r.ma
  have q3 := fNe_R r.mb r.mb
  rw [decide_eq_true rfl] at q1 q2 q3
  unfold stq2 stt
  generalize (PP base a b).map eP = L at *
  generalize eR (fwd 0 base a) = A at *
  generalize eR (fwd 0 base b) = B at *
  generalize eR base = C at *
  simp [gFr_e, gVd_e, gSh_e, gVsR_e, gN_e, gTk_e, gC_e, gOp_e, gNil_e, gCons_e, gTup_e, gLst_e, gP0_e, gP1_e, gSl_e, gB_e, gNot_e, gAnd_e, gOr_e, gNotV_e, gAndV_e, gOrV_e, gIf_e, gTru_e, gCall_e, hN_b, hNil_e, hCons_e, hT_e, gIt_e, gR1_e, gR2_e, gYes_e, gLc_e, gLc2_e, gSeq_e, gNx_e, gBk_e, gCt_e, gNo_e, gSet_e, gRet_e, gRetN_e, gIfS_e, gDrop_e, gAsg_e, gFor_e, fnS_e, gF_e, gFM_e, gFK_e, gApp_e, gExt_e, gISet_e, gAppP_e, gExtP_e, gIsi_e, gZip_e, gListRev_e, gSortK_e, gNeg_e, gPar_e, gRaise_e, gHeard_e, op2, vD, vDs, frD, frDs, stO_b, nm_no, nm_sh, nm_ow, putO, bks, plainS, mutS, permL, appS, extS, isetS, isOl, noMu, noScr, oD, lst?, Rs.sl, Rs.d, D.items, e1, e2, e3, e4, e5, q1, q2, q3]
theorem do12 : lw12 (stq2 ns k g c base a b s4 s7 s8 s9 s11 s12 s13) = .nx (stq2 ns k g c base a b s4 s7 s8 s9 s11 s12 s13) := by
  have e1 := r.mp3
  have e2 := ev_law_exchanged r.gp (by have := r.pl; omega)
  rw [r.ex] at e2
  have w : Wx 4 (.tup ((PP base b a).map eP)) := parts_wx (Gp_pts _ _) fun p hp l hl => by
    rw [← r.ex] at hp
    obtain ⟨q, hq, rfl⟩ := List.mem_map.mp hp
    have rw := r.rows q hq
    unfold exP at hl
    split at hl
    · simp only [List.mem_cons, List.not_mem_nil, or_false] at hl
      obtain ⟨w, ls⟩ := q
      rcases r.gp _ hq with ⟨_, x, h⟩ | ⟨_, x, y, h⟩ | ⟨_, x, y, z, h⟩ <;> simp only at h <;> subst h
      · rcases hl with rfl | rfl | rfl
        · exact rw _ (by simp [p1])
        · exact rw _ (by simp [lastP])
        · intro i hi; simp [p2] at hi
      · rcases hl with rfl | rfl | rfl
        · exact rw _ (by simp [p1])
        · exact rw _ (by simp [lastP])
        · exact rw _ (by simp [p2])
      · rcases hl with rfl | rfl | rfl
        · exact rw _ (by simp [p1])
        · exact rw _ (by simp [lastP])
        · exact rw _ (by simp [p2])
    · exact rw l hl
  have q := fNe_tX w (by decide)
  unfold stq2 stt
  generalize (PP base a b).map eP = L at *
  generalize (PP base b a).map eP = M at *
  simp [gFr_e, gVd_e, gSh_e, gVsR_e, gN_e, gTk_e, gC_e, gOp_e, gNil_e, gCons_e, gTup_e, gLst_e, gP0_e, gP1_e, gSl_e, gB_e, gNot_e, gAnd_e, gOr_e, gNotV_e, gAndV_e, gOrV_e, gIf_e, gTru_e, gCall_e, hN_b, hNil_e, hCons_e, hT_e, gIt_e, gR1_e, gR2_e, gYes_e, gLc_e, gLc2_e, gSeq_e, gNx_e, gBk_e, gCt_e, gNo_e, gSet_e, gRet_e, gRetN_e, gIfS_e, gDrop_e, gAsg_e, gFor_e, fnS_e, gF_e, gFM_e, gFK_e, gApp_e, gExt_e, gISet_e, gAppP_e, gExtP_e, gIsi_e, gZip_e, gListRev_e, gSortK_e, gNeg_e, gPar_e, gRaise_e, gHeard_e, op2, vD, vDs, frD, frDs, stO_b, nm_no, nm_sh, nm_ow, putO, bks, plainS, mutS, permL, appS, extS, isetS, isOl, noMu, noScr, oD, lst?, Rs.sl, Rs.d, D.items, e1, e2, q]
theorem do13 : lw13 (stq2 ns k g c base a b s4 s7 s8 s9 s11 s12 s13) = .nx (stq2 ns k g c base a b s4 s7 s8 s9 s11 s12 s13) := by
  have e1 := r.ck1
  have e2 := r.ck2
  have q := fRepr_X r.hunks.1 (by decide) r.hunks.2
  unfold stq2 stt
  generalize (D.lst [eHs a, eHs b]).py.shown = S at *
  generalize (PP base a b).map eP = L at *
  generalize eHs a = A at *
  generalize eHs b = B at *
  generalize eR base = C at *
  simp [gFr_e, gVd_e, gSh_e, gVsR_e, gN_e, gTk_e, gC_e, gOp_e, gNil_e, gCons_e, gTup_e, gLst_e, gP0_e, gP1_e, gSl_e, gB_e, gNot_e, gAnd_e, gOr_e, gNotV_e, gAndV_e, gOrV_e, gIf_e, gTru_e, gCall_e, hN_b, hNil_e, hCons_e, hT_e, gIt_e, gR1_e, gR2_e, gYes_e, gLc_e, gLc2_e, gSeq_e, gNx_e, gBk_e, gCt_e, gNo_e, gSet_e, gRet_e, gRetN_e, gIfS_e, gDrop_e, gAsg_e, gFor_e, fnS_e, gF_e, gFM_e, gFK_e, gApp_e, gExt_e, gISet_e, gAppP_e, gExtP_e, gIsi_e, gZip_e, gListRev_e, gSortK_e, gNeg_e, gPar_e, gRaise_e, gHeard_e, op2, vD, vDs, frD, frDs, stO_b, nm_no, nm_sh, nm_ow, putO, bks, plainS, mutS, permL, appS, extS, isetS, isOl, noMu, noScr, oD, lst?, Rs.sl, Rs.d, D.items, handD, fIx, a30, a31, a32, e1, e2, q, fNe_str]
theorem do14 : ∃ g' c', lw14 (stq2 ns k g c base a b s4 s7 s8 s9 s11 s12 s13) = .nx (stq2 ns k g' c' base a b s4 s7 s8 s9 s11 s12 s13) := by
  obtain ⟨g', c', e⟩ := ev_none_right (g := g) (c := c) (by have := r.hn; omega) r.va r.ta
  refine ⟨g', c', ?_⟩
  simp only [bx] at e
  unfold stq2 stt
  generalize (PP base a b).map eP = L at *
  generalize eHs a = A at *
  generalize eR base = C at *
  simp [gFr_e, gVd_e, gSh_e, gVsR_e, gN_e, gTk_e, gC_e, gOp_e, gNil_e, gCons_e, gTup_e, gLst_e, gP0_e, gP1_e, gSl_e, gB_e, gNot_e, gAnd_e, gOr_e, gNotV_e, gAndV_e, gOrV_e, gIf_e, gTru_e, gCall_e, hN_b, hNil_e, hCons_e, hT_e, gIt_e, gR1_e, gR2_e, gYes_e, gLc_e, gLc2_e, gSeq_e, gNx_e, gBk_e, gCt_e, gNo_e, gSet_e, gRet_e, gRetN_e, gIfS_e, gDrop_e, gAsg_e, gFor_e, fnS_e, gF_e, gFM_e, gFK_e, gApp_e, gExt_e, gISet_e, gAppP_e, gExtP_e, gIsi_e, gZip_e, gListRev_e, gSortK_e, gNeg_e, gPar_e, gRaise_e, gHeard_e, op2, vD, vDs, frD, frDs, stO_b, nm_no, nm_sh, nm_ow, putO, bks, plainS, mutS, permL, appS, extS, isetS, isOl, noMu, noScr, oD, lst?, Rs.sl, Rs.d, D.items, e]
end
end K62
end
section
set_option Elab.async false
set_option linter.all false
set_option maxRecDepth 100000
set_option maxHeartbeats 4000000
/-! K62m25: the law's loop joined; the law. -/
namespace K62
open PySem DL
theorem seq_go {f h : GS} {ρ ρ1 : List Sl} {R : List Sl → Prop} (e : f ρ = .nx ρ1) (q : ∃ ρb, (h ρ1 = .nx ρb ∨ h ρ1 = .ct ρb) ∧ R ρb) : ∃ ρb, (DL.gSeq f h ρ = .nx ρb ∨ DL.gSeq f h ρ = .ct ρb) ∧ R ρb := by
  obtain ⟨ρb, q1, q2⟩ := q
  refine ⟨ρb, ?_, q2⟩
  rw [gSeq_e, e]
  exact q1
def lwR (ns : List Int) (ρ : List Sl) : Prop := ∃ s1 s2 s3 s4 s5 s6 s7 s8 s9 s10 s11 s12 s13 s14 s15, ρ = [.sh (.scr ns), s1, s2, s3, s4, s5, s6, s7, s8, s9, s10, s11, s12, s13, s14, s15] ∧
  nmB (some s1) = true ∧ nmB (some s2) = true ∧ nmB (some s3) = true ∧ nmB (some s5) = true ∧ nmB (some s6) = true ∧ nmB (some s7) = true ∧ nmB (some s10) = true ∧ nmB (some s14) = true ∧ nmB (some s15) = true
theorem round {ns : List Int} {k : Int} (h0 : 0 ≤ k) (h1 : k < 100) (ρ : List Sl) (h : lwR ns ρ) : ∃ ρa, hN 1 (.int k) ρ = some ρa ∧ ∃ ρb, (lwB ρa = .nx ρb ∨ lwB ρa = .ct ρb) ∧ lwR ns ρb := by
  obtain ⟨s1, s2, s3, s4, s5, s6, s7, s8, s9, s10, s11, s12, s13, s14, s15, rfl, n1, n2, n3, n5, n6, n7, n10, n14, n15⟩ := h
  refine ⟨[.sh (.scr ns), .sh (.int k), s2, s3, s4, s5, s6, s7, s8, s9, s10, s11, s12, s13, s14, s15], by simp [hN_b, n1], ?_⟩
  obtain ⟨g1, c1, e1⟩ := do1 (ns := ns) (s3 := s3) (s4 := s4) (s5 := s5) (s6 := s6) (s7 := s7) (s8 := s8) (s9 := s9) (s10 := s10) (s11 := s11) (s12 := s12) (s13 := s13) (s14 := s14) (s15 := s15) h0 h1 n2
  refine seq_go e1 ?_
  obtain ⟨g2, c2, base, e2, hn, hs⟩ := do2 (ns := ns) (k := k) (g := g1) (c := c1) (s4 := s4) (s5 := s5) (s6 := s6) (s7 := s7) (s8 := s8) (s9 := s9) (s10 := s10) (s11 := s11) (s12 := s12) (s13 := s13) (s14 := s14) (s15 := s15) n3
  refine seq_go e2 ?_
  obtain ⟨g3, c3, a, e3, da⟩ := do3 (ns := ns) (k := k) (g := g2) (c := c2) (base := base) (s4 := s4) (s6 := s6) (s7 := s7) (s8 := s8) (s9 := s9) (s10 := s10) (s11 := s11) (s12 := s12) (s13 := s13) (s14 := s14) (s15 := s15) n5
  refine seq_go e3 ?_
  obtain ⟨g4, c4, b0, e4, db⟩ := do4 (ns := ns) (k := k) (g := g3) (c := c3) (s4 := s4) (s7 := s7) (s8 := s8) (s9 := s9) (s10 := s10) (s11 := s11) (s12 := s12) (s13 := s13) (s14 := s14) (s15 := s15) da n6
  refine seq_go e4 ?_
  obtain ⟨g5, c5, m, e5, hm⟩ := do5 (ns := ns) (k := k) (g := g4) (c := c4) (base := base) (s4 := s4) (s6 := .sh (eHs b0)) (s8 := s8) (s9 := s9) (s10 := s10) (s11 := s11) (s12 := s12) (s13 := s13) (s14 := s14) (s15 := s15) da.2.1 n7
  refine seq_go e5 ?_
  obtain ⟨t7, b, e6, n7', vb, lb, hb⟩ := do6 (ns := ns) (k := k) (g := g5) (c := c5) (s4 := s4) (s8 := s8) (s9 := s9) (s10 := s10) (s11 := s11) (s12 := s12) (s13 := s13) (s14 := s14) (s15 := s15) hn da db hm
  refine seq_go e6 ?_
  have r : Rd base a b := ⟨hn, hs, da.2.1, lb, da.el, hb, da.1, vb⟩
  refine seq_go (do7 (by have := r.la; omega) (by have := r.lb; omega) n10) ?_
  refine seq_go (do8 r n14 n15) ?_
  refine seq_go (do9 r) ?_
  refine seq_go (do10 r) ?_
  refine seq_go (do11 r) ?_
  refine seq_go (do12 r) ?_
  refine seq_go (do13 r) ?_
  obtain ⟨g6, c6, e14⟩ := do14 r (ns := ns) (k := k) (g := g5) (c := c5) (s4 := s4) (s7 := t7) (s8 := s8) (s9 := s9) (s11 := s11) (s12 := s12) (s13 := s13)
  exact ⟨_, .inl e14, _, _, _, _, _, _, _, _, _, _, _, _, _, _, _, rfl, rfl, rfl, rfl, rfl, rfl, n7', rfl, rfl, rfl⟩
theorem law_true : ∀ ns : List Int, ns.length ≤ 63 → (∀ z ∈ ns, Builtin.Int.intBits z ≤ 1048576) → ∃ ρ', sem_law [.sh (.scr ns)] = .ok (.sh (.bl true)) ρ' := by
  intro ns _ _
  obtain ⟨ρ', e, s1, s2, s3, s4, s5, s6, s7, s8, s9, s10, s11, s12, s13, s14, s15, rfl, _⟩ := forL_all (h := hN 1) (body := lwB) (R := lwR ns) (xs := rgD 0 3) (fun x ρ hx hr => by
    unfold rgD at hx
    obtain ⟨i, hi, rfl⟩ := List.mem_map.mp hx
    have := List.mem_range.mp hi
    obtain ⟨ρa, q1, ρb, q2, q3⟩ := round (ns := ns) (k := 0 + (i : Int)) (by omega) (by omega) ρ hr
    exact ⟨ρa, ρb, q1, q2, q3⟩) (ρ := [.sh (.scr ns), .no, .no, .no, .no, .no, .no, .no, .no, .no, .no, .no, .no, .no, .no, .no]) ⟨_, _, _, _, _, _, _, _, _, _, _, _, _, _, _, rfl, rfl, rfl, rfl, rfl, rfl, rfl, rfl, rfl, rfl⟩
  have g : g_law = DL.gSeq (DL.gFor (gR1 (DL.gCons (gVd (gC (.int 3))) DL.gNil)) (hN 1) lwB) (DL.gRet (gC (.bl true))) := rfl
  refine ⟨[.sh (.scr ns)], ?_⟩
  generalize lwB = B at *
  simp [gFr_e, gVd_e, gSh_e, gVsR_e, gN_e, gTk_e, gC_e, gOp_e, gNil_e, gCons_e, gTup_e, gLst_e, gP0_e, gP1_e, gSl_e, gB_e, gNot_e, gAnd_e, gOr_e, gNotV_e, gAndV_e, gOrV_e, gIf_e, gTru_e, gCall_e, hN_b, hNil_e, hCons_e, hT_e, gIt_e, gR1_e, gR2_e, gYes_e, gLc_e, gLc2_e, gSeq_e, gNx_e, gBk_e, gCt_e, gNo_e, gSet_e, gRet_e, gRetN_e, gIfS_e, gDrop_e, gAsg_e, gFor_e, fnS_e, gF_e, gFM_e, gFK_e, gApp_e, gExt_e, gISet_e, gAppP_e, gExtP_e, gIsi_e, gZip_e, gListRev_e, gSortK_e, gNeg_e, gPar_e, gRaise_e, gHeard_e, op2, vD, vDs, frD, frDs, stO_b, nm_no, nm_sh, nm_ow, putO, bks, plainS, mutS, permL, appS, extS, isetS, isOl, noMu, noScr, oD, lst?, Rs.sl, Rs.d, D.items, ints1, sem_law, g, e]
end K62
end
section
set_option Elab.async false
set_option linter.all false
set_option maxRecDepth 100000
set_option maxHeartbeats 4000000
namespace K62
open PySem PySem.Spec L2 DL
theorem all_mk {l : PySem.W.OpenLaw} {w : World} {K : PySem.W.Frag} {h : Heap} {mg : Str → Option Value} {fa : Addr} (X : K.In h) (G : h.Ns mainGlobals mg) (hfa : mg "law" = some (.ref fa))
    {f0 : Addr} {od0 an0 : Option Addr} {sl0 : Array (Option Value)} {oc0 kV0 dc0 pm0 cd0 ct0 : Value}
    (a0 : PySem.W.nsIn K mainGlobals "is_integer" = some (some (.ref f0)))
    (l0 : K.lookup f0 = some ⟨oc0, od0, .func (PySem.W.fnOf "is_integer" "is_integer" (defArgs s_is_integer) (defBody s_is_integer) (defScope s_is_integer) .none kV0 dc0 pm0 an0 cd0 ct0), sl0⟩)
    (c0_ : PySem.W.codeIn K cd0 "is_integer" = true)
    (k0 : PySem.W.keepIn K (.ref f0) = true)
    {f1 : Addr} {od1 an1 : Option Addr} {sl1 : Array (Option Value)} {oc1 kV1 dc1 pm1 cd1 ct1 : Value}
    (a1 : PySem.W.nsIn K mainGlobals "is_number" = some (some (.ref f1)))
    (l1 : K.lookup f1 = some ⟨oc1, od1, .func (PySem.W.fnOf "is_number" "is_number" (defArgs s_is_number) (defBody s_is_number) (defScope s_is_number) .none kV1 dc1 pm1 an1 cd1 ct1), sl1⟩)
    (c1_ : PySem.W.codeIn K cd1 "is_number" = true)
    (k1 : PySem.W.keepIn K (.ref f1) = true)
    {f2 : Addr} {od2 an2 : Option Addr} {sl2 : Array (Option Value)} {oc2 kV2 dc2 pm2 cd2 ct2 : Value}
    (a2 : PySem.W.nsIn K mainGlobals "is_below" = some (some (.ref f2)))
    (l2 : K.lookup f2 = some ⟨oc2, od2, .func (PySem.W.fnOf "is_below" "is_below" (defArgs s_is_below) (defBody s_is_below) (defScope s_is_below) .none kV2 dc2 pm2 an2 cd2 ct2), sl2⟩)
    (c2_ : PySem.W.codeIn K cd2 "is_below" = true)
    (k2 : PySem.W.keepIn K (.ref f2) = true)
    {f3 : Addr} {od3 an3 : Option Addr} {sl3 : Array (Option Value)} {oc3 kV3 dc3 pm3 cd3 ct3 : Value}
    (a3 : PySem.W.nsIn K mainGlobals "is_sequence" = some (some (.ref f3)))
    (l3 : K.lookup f3 = some ⟨oc3, od3, .func (PySem.W.fnOf "is_sequence" "is_sequence" (defArgs s_is_sequence) (defBody s_is_sequence) (defScope s_is_sequence) .none kV3 dc3 pm3 an3 cd3 ct3), sl3⟩)
    (c3_ : PySem.W.codeIn K cd3 "is_sequence" = true)
    (k3 : PySem.W.keepIn K (.ref f3) = true)
    {f4 : Addr} {od4 an4 : Option Addr} {sl4 : Array (Option Value)} {oc4 kV4 dc4 pm4 cd4 ct4 : Value}
    (a4 : PySem.W.nsIn K mainGlobals "is_base_hunk" = some (some (.ref f4)))
    (l4 : K.lookup f4 = some ⟨oc4, od4, .func (PySem.W.fnOf "is_base_hunk" "is_base_hunk" (defArgs s_is_base_hunk) (defBody s_is_base_hunk) (defScope s_is_base_hunk) .none kV4 dc4 pm4 an4 cd4 ct4), sl4⟩)
    (c4_ : PySem.W.codeIn K cd4 "is_base_hunk" = true)
    (k4 : PySem.W.keepIn K (.ref f4) = true)
    {f5 : Addr} {od5 an5 : Option Addr} {sl5 : Array (Option Value)} {oc5 kV5 dc5 pm5 cd5 ct5 : Value}
    (a5 : PySem.W.nsIn K mainGlobals "check_hunks" = some (some (.ref f5)))
    (l5 : K.lookup f5 = some ⟨oc5, od5, .func (PySem.W.fnOf "check_hunks" "check_hunks" (defArgs s_check_hunks) (defBody s_check_hunks) (defScope s_check_hunks) .none kV5 dc5 pm5 an5 cd5 ct5), sl5⟩)
    (c5_ : PySem.W.codeIn K cd5 "check_hunks" = true)
    (k5 : PySem.W.keepIn K (.ref f5) = true)
    {f6 : Addr} {od6 an6 : Option Addr} {sl6 : Array (Option Value)} {oc6 kV6 dc6 pm6 cd6 ct6 : Value}
    (a6 : PySem.W.nsIn K mainGlobals "put_hunks" = some (some (.ref f6)))
    (l6 : K.lookup f6 = some ⟨oc6, od6, .func (PySem.W.fnOf "put_hunks" "put_hunks" (defArgs s_put_hunks) (defBody s_put_hunks) (defScope s_put_hunks) .none kV6 dc6 pm6 an6 cd6 ct6), sl6⟩)
    (c6_ : PySem.W.codeIn K cd6 "put_hunks" = true)
    (k6 : PySem.W.keepIn K (.ref f6) = true)
    {f7 : Addr} {od7 an7 : Option Addr} {sl7 : Array (Option Value)} {oc7 kV7 dc7 pm7 cd7 ct7 : Value}
    (a7 : PySem.W.nsIn K mainGlobals "apply_hunks" = some (some (.ref f7)))
    (l7 : K.lookup f7 = some ⟨oc7, od7, .func (PySem.W.fnOf "apply_hunks" "apply_hunks" (defArgs s_apply_hunks) (defBody s_apply_hunks) (defScope s_apply_hunks) .none kV7 dc7 pm7 an7 cd7 ct7), sl7⟩)
    (c7_ : PySem.W.codeIn K cd7 "apply_hunks" = true)
    (k7 : PySem.W.keepIn K (.ref f7) = true)
    {f8 : Addr} {od8 an8 : Option Addr} {sl8 : Array (Option Value)} {oc8 kV8 dc8 pm8  ct8 : Value} {c8 p8 : Addr}
    (a8 : PySem.W.nsIn K mainGlobals "stretches_of" = some (some (.ref f8)))
    (l8 : K.lookup f8 = some ⟨oc8, od8, .func (PySem.W.fnOf "stretches_of" "stretches_of" (defArgs s_stretches_of) (defBody s_stretches_of) (defScope s_stretches_of) .none kV8 dc8 pm8 an8 (.ref c8) ct8), sl8⟩)
    (c8_ : PySem.W.codeIn K (.ref c8) "stretches_of" = true)
    (k8 : PySem.W.keepIn K (.ref f8) = true)
    {f9 : Addr} {od9 an9 : Option Addr} {sl9 : Array (Option Value)} {oc9 kV9 dc9 pm9 cd9 ct9 : Value}
    (a9 : PySem.W.nsIn K mainGlobals "part_of" = some (some (.ref f9)))
    (l9 : K.lookup f9 = some ⟨oc9, od9, .func (PySem.W.fnOf "part_of" "part_of" (defArgs s_part_of) (defBody s_part_of) (defScope s_part_of) .none kV9 dc9 pm9 an9 cd9 ct9), sl9⟩)
    (c9_ : PySem.W.codeIn K cd9 "part_of" = true)
    (k9 : PySem.W.keepIn K (.ref f9) = true)
    {f10 : Addr} {od10 an10 : Option Addr} {sl10 : Array (Option Value)} {oc10 kV10 dc10 pm10 cd10 ct10 : Value}
    (a10 : PySem.W.nsIn K mainGlobals "merge_parts" = some (some (.ref f10)))
    (l10 : K.lookup f10 = some ⟨oc10, od10, .func (PySem.W.fnOf "merge_parts" "merge_parts" (defArgs s_merge_parts) (defBody s_merge_parts) (defScope s_merge_parts) .none kV10 dc10 pm10 an10 cd10 ct10), sl10⟩)
    (c10_ : PySem.W.codeIn K cd10 "merge_parts" = true)
    (k10 : PySem.W.keepIn K (.ref f10) = true)
    {f11 : Addr} {od11 an11 : Option Addr} {sl11 : Array (Option Value)} {oc11 kV11 dc11 pm11 cd11 ct11 : Value}
    (a11 : PySem.W.nsIn K mainGlobals "joined_rows" = some (some (.ref f11)))
    (l11 : K.lookup f11 = some ⟨oc11, od11, .func (PySem.W.fnOf "joined_rows" "joined_rows" (defArgs s_joined_rows) (defBody s_joined_rows) (defScope s_joined_rows) .none kV11 dc11 pm11 an11 cd11 ct11), sl11⟩)
    (c11_ : PySem.W.codeIn K cd11 "joined_rows" = true)
    (k11 : PySem.W.keepIn K (.ref f11) = true)
    {f12 : Addr} {od12 an12 : Option Addr} {sl12 : Array (Option Value)} {oc12 kV12 dc12 pm12 cd12 ct12 : Value}
    (a12 : PySem.W.nsIn K mainGlobals "base_of" = some (some (.ref f12)))
    (l12 : K.lookup f12 = some ⟨oc12, od12, .func (PySem.W.fnOf "base_of" "base_of" (defArgs s_base_of) (defBody s_base_of) (defScope s_base_of) .none kV12 dc12 pm12 an12 cd12 ct12), sl12⟩)
    (c12_ : PySem.W.codeIn K cd12 "base_of" = true)
    (k12 : PySem.W.keepIn K (.ref f12) = true)
    {f13 : Addr} {od13 an13 : Option Addr} {sl13 : Array (Option Value)} {oc13 kV13 dc13 pm13 cd13 ct13 : Value}
    (a13 : PySem.W.nsIn K mainGlobals "ours_of" = some (some (.ref f13)))
    (l13 : K.lookup f13 = some ⟨oc13, od13, .func (PySem.W.fnOf "ours_of" "ours_of" (defArgs s_ours_of) (defBody s_ours_of) (defScope s_ours_of) .none kV13 dc13 pm13 an13 cd13 ct13), sl13⟩)
    (c13_ : PySem.W.codeIn K cd13 "ours_of" = true)
    (k13 : PySem.W.keepIn K (.ref f13) = true)
    {f14 : Addr} {od14 an14 : Option Addr} {sl14 : Array (Option Value)} {oc14 kV14 dc14 pm14 cd14 ct14 : Value}
    (a14 : PySem.W.nsIn K mainGlobals "theirs_of" = some (some (.ref f14)))
    (l14 : K.lookup f14 = some ⟨oc14, od14, .func (PySem.W.fnOf "theirs_of" "theirs_of" (defArgs s_theirs_of) (defBody s_theirs_of) (defScope s_theirs_of) .none kV14 dc14 pm14 an14 cd14 ct14), sl14⟩)
    (c14_ : PySem.W.codeIn K cd14 "theirs_of" = true)
    (k14 : PySem.W.keepIn K (.ref f14) = true)
    {f15 : Addr} {od15 an15 : Option Addr} {sl15 : Array (Option Value)} {oc15 kV15 dc15 pm15 cd15 ct15 : Value}
    (a15 : PySem.W.nsIn K mainGlobals "_law_box" = some (some (.ref f15)))
    (l15 : K.lookup f15 = some ⟨oc15, od15, .func (PySem.W.fnOf "_law_box" "_law_box" (defArgs s__law_box) (defBody s__law_box) (defScope s__law_box) .none kV15 dc15 pm15 an15 cd15 ct15), sl15⟩)
    (c15_ : PySem.W.codeIn K cd15 "_law_box" = true)
    (k15 : PySem.W.keepIn K (.ref f15) = true)
    {f16 : Addr} {od16 an16 : Option Addr} {sl16 : Array (Option Value)} {oc16 kV16 dc16 pm16 cd16 ct16 : Value}
    (a16 : PySem.W.nsIn K mainGlobals "_law_take" = some (some (.ref f16)))
    (l16 : K.lookup f16 = some ⟨oc16, od16, .func (PySem.W.fnOf "_law_take" "_law_take" (defArgs s__law_take) (defBody s__law_take) (defScope s__law_take) .none kV16 dc16 pm16 an16 cd16 ct16), sl16⟩)
    (c16_ : PySem.W.codeIn K cd16 "_law_take" = true)
    (k16 : PySem.W.keepIn K (.ref f16) = true)
    {f17 : Addr} {od17 an17 : Option Addr} {sl17 : Array (Option Value)} {oc17 kV17 dc17 pm17 cd17 ct17 : Value}
    (a17 : PySem.W.nsIn K mainGlobals "_law_pick" = some (some (.ref f17)))
    (l17 : K.lookup f17 = some ⟨oc17, od17, .func (PySem.W.fnOf "_law_pick" "_law_pick" (defArgs s__law_pick) (defBody s__law_pick) (defScope s__law_pick) .none kV17 dc17 pm17 an17 cd17 ct17), sl17⟩)
    (c17_ : PySem.W.codeIn K cd17 "_law_pick" = true)
    (k17 : PySem.W.keepIn K (.ref f17) = true)
    {f18 : Addr} {od18 an18 : Option Addr} {sl18 : Array (Option Value)} {oc18 kV18 dc18 pm18 cd18 ct18 : Value}
    (a18 : PySem.W.nsIn K mainGlobals "_law_side" = some (some (.ref f18)))
    (l18 : K.lookup f18 = some ⟨oc18, od18, .func (PySem.W.fnOf "_law_side" "_law_side" (defArgs s__law_side) (defBody s__law_side) (defScope s__law_side) .none kV18 dc18 pm18 an18 cd18 ct18), sl18⟩)
    (c18_ : PySem.W.codeIn K cd18 "_law_side" = true)
    (k18 : PySem.W.keepIn K (.ref f18) = true)
    {f19 : Addr} {od19 an19 : Option Addr} {sl19 : Array (Option Value)} {oc19 kV19 dc19 pm19 cd19 ct19 : Value}
    (a19 : PySem.W.nsIn K mainGlobals "_law_put" = some (some (.ref f19)))
    (l19 : K.lookup f19 = some ⟨oc19, od19, .func (PySem.W.fnOf "_law_put" "_law_put" (defArgs s__law_put) (defBody s__law_put) (defScope s__law_put) .none kV19 dc19 pm19 an19 cd19 ct19), sl19⟩)
    (c19_ : PySem.W.codeIn K cd19 "_law_put" = true)
    (k19 : PySem.W.keepIn K (.ref f19) = true)
    {f20 : Addr} {od20 an20 : Option Addr} {sl20 : Array (Option Value)} {oc20 kV20 dc20 pm20 cd20 ct20 : Value}
    (a20 : PySem.W.nsIn K mainGlobals "_law_meet" = some (some (.ref f20)))
    (l20 : K.lookup f20 = some ⟨oc20, od20, .func (PySem.W.fnOf "_law_meet" "_law_meet" (defArgs s__law_meet) (defBody s__law_meet) (defScope s__law_meet) .none kV20 dc20 pm20 an20 cd20 ct20), sl20⟩)
    (c20_ : PySem.W.codeIn K cd20 "_law_meet" = true)
    (k20 : PySem.W.keepIn K (.ref f20) = true)
    {f21 : Addr} {od21 an21 : Option Addr} {sl21 : Array (Option Value)} {oc21 kV21 dc21 pm21 cd21 ct21 : Value}
    (a21 : PySem.W.nsIn K mainGlobals "_law_stretches" = some (some (.ref f21)))
    (l21 : K.lookup f21 = some ⟨oc21, od21, .func (PySem.W.fnOf "_law_stretches" "_law_stretches" (defArgs s__law_stretches) (defBody s__law_stretches) (defScope s__law_stretches) .none kV21 dc21 pm21 an21 cd21 ct21), sl21⟩)
    (c21_ : PySem.W.codeIn K cd21 "_law_stretches" = true)
    (k21 : PySem.W.keepIn K (.ref f21) = true)
    {f22 : Addr} {od22 an22 : Option Addr} {sl22 : Array (Option Value)} {oc22 kV22 dc22 pm22 cd22 ct22 : Value}
    (a22 : PySem.W.nsIn K mainGlobals "_law_parts" = some (some (.ref f22)))
    (l22 : K.lookup f22 = some ⟨oc22, od22, .func (PySem.W.fnOf "_law_parts" "_law_parts" (defArgs s__law_parts) (defBody s__law_parts) (defScope s__law_parts) .none kV22 dc22 pm22 an22 cd22 ct22), sl22⟩)
    (c22_ : PySem.W.codeIn K cd22 "_law_parts" = true)
    (k22 : PySem.W.keepIn K (.ref f22) = true)
    {f23 : Addr} {od23 an23 : Option Addr} {sl23 : Array (Option Value)} {oc23 kV23 dc23 pm23 cd23 ct23 : Value}
    (a23 : PySem.W.nsIn K mainGlobals "_law_exchanged" = some (some (.ref f23)))
    (l23 : K.lookup f23 = some ⟨oc23, od23, .func (PySem.W.fnOf "_law_exchanged" "_law_exchanged" (defArgs s__law_exchanged) (defBody s__law_exchanged) (defScope s__law_exchanged) .none kV23 dc23 pm23 an23 cd23 ct23), sl23⟩)
    (c23_ : PySem.W.codeIn K cd23 "_law_exchanged" = true)
    (k23 : PySem.W.keepIn K (.ref f23) = true)
    {f24 : Addr} {od24 an24 : Option Addr} {sl24 : Array (Option Value)} {oc24 kV24 dc24 pm24 cd24 ct24 : Value}
    (a24 : PySem.W.nsIn K mainGlobals "_law_heard" = some (some (.ref f24)))
    (l24 : K.lookup f24 = some ⟨oc24, od24, .func (PySem.W.fnOf "_law_heard" "_law_heard" (defArgs s__law_heard) (defBody s__law_heard) (defScope s__law_heard) .none kV24 dc24 pm24 an24 cd24 ct24), sl24⟩)
    (c24_ : PySem.W.codeIn K cd24 "_law_heard" = true)
    (k24 : PySem.W.keepIn K (.ref f24) = true)
    {f25 : Addr} {od25 an25 : Option Addr} {sl25 : Array (Option Value)} {oc25 kV25 dc25 pm25  ct25 : Value} {c25 p25 : Addr}
    (a25 : PySem.W.nsIn K mainGlobals "_law_none_right" = some (some (.ref f25)))
    (l25 : K.lookup f25 = some ⟨oc25, od25, .func (PySem.W.fnOf "_law_none_right" "_law_none_right" (defArgs s__law_none_right) (defBody s__law_none_right) (defScope s__law_none_right) .none kV25 dc25 pm25 an25 (.ref c25) ct25), sl25⟩)
    (c25_ : PySem.W.codeIn K (.ref c25) "_law_none_right" = true)
    (k25 : PySem.W.keepIn K (.ref f25) = true)
    {f26 : Addr} {od26 an26 : Option Addr} {sl26 : Array (Option Value)} {oc26 kV26 dc26 pm26 cd26 ct26 : Value}
    (a26 : PySem.W.nsIn K mainGlobals "law" = some (some (.ref f26)))
    (l26 : K.lookup f26 = some ⟨oc26, od26, .func (PySem.W.fnOf "law" "law" (defArgs s_law) (defBody s_law) (defScope s_law) .none kV26 dc26 pm26 an26 cd26 ct26), sl26⟩)
    (c26_ : PySem.W.codeIn K cd26 "law" = true)
    (k26 : PySem.W.keepIn K (.ref f26) = true)
    (z_abs : PySem.W.nsIn K mainGlobals "abs" = some none)
    (z_all : PySem.W.nsIn K mainGlobals "all" = some none)
    (z_bool : PySem.W.nsIn K mainGlobals "bool" = some none)
    (z_int : PySem.W.nsIn K mainGlobals "int" = some none)
    (z_isinstance : PySem.W.nsIn K mainGlobals "isinstance" = some none)
    (z_len : PySem.W.nsIn K mainGlobals "len" = some none)
    (z_list : PySem.W.nsIn K mainGlobals "list" = some none)
    (z_max : PySem.W.nsIn K mainGlobals "max" = some none)
    (z_min : PySem.W.nsIn K mainGlobals "min" = some none)
    (z_range : PySem.W.nsIn K mainGlobals "range" = some none)
    (z_repr : PySem.W.nsIn K mainGlobals "repr" = some none)
    (z_reversed : PySem.W.nsIn K mainGlobals "reversed" = some none)
    (z_set : PySem.W.nsIn K mainGlobals "set" = some none)
    (z_sorted : PySem.W.nsIn K mainGlobals "sorted" = some none)
    (z_super : PySem.W.nsIn K mainGlobals "super" = some none)
    (z_tuple : PySem.W.nsIn K mainGlobals "tuple" = some none)
    (z_zip : PySem.W.nsIn K mainGlobals "zip" = some none)
    (hP8 : h.get? p8 = some { cls := .none, data := .fields #[] })
    (t8 : PySem.W.codeHdIn K c8 p8 = true)
    (n8 : K.lookup p8 = none)
    (hP25 : h.get? p25 = some { cls := .none, data := .fields #[] })
    (t25 : PySem.W.codeHdIn K c25 p25 = true)
    (n25 : K.lookup p25 = none)
    (d8_25 : p8 ≠ p25)
    {C_KeepError : Addr}
    (g_KeepError : PySem.W.nsIn K mainGlobals "KeepError" = some (some (.ref C_KeepError)))
    {C_Refused : Addr}
    (g_Refused : PySem.W.nsIn K mainGlobals "Refused" = some (some (.ref C_Refused)))
    (top : (l.prog.main.scope.names.lookup ("super" : Str)).isSome = false)
    (any : PySem.W.nsIn K PySem.cStatics "thirdparty.any" = some none)
    {F_Refused cc_Refused cda_Refused : Addr} {kV_Refused doc_Refused pm_Refused ct_Refused oc_Refused ccl_Refused cl_Refused : Value} {an_Refused od_Refused cdd_Refused cld_Refused : Option Addr} {osl_Refused ccs_Refused csl_Refused : Array (Option Value)} {fvs_Refused : Array Value} {fi_Refused : Str} {tf_Refused : Tok}
    (iC_Refused : PySem.W.findIn K (.ref C_Refused) "__init__" = some (some (.ref F_Refused)))
    (lI_Refused : K.lookup F_Refused = some ⟨oc_Refused, od_Refused, .func (PySem.W.ksFn "__init__" "Refused.__init__" (defArgs i_Refused) (defBody i_Refused) (defScope i_Refused) .none kV_Refused doc_Refused pm_Refused an_Refused (.ref cda_Refused) ct_Refused cc_Refused), osl_Refused⟩)
    (tI_Refused : PySem.W.typeIn K (.ref F_Refused) = some (.type "function"))
    (cI_Refused : PySem.W.codeIn K (.ref cda_Refused) "Refused.__init__" = true)
    (dI_Refused : K.lookup cda_Refused = some ⟨ccl_Refused, cdd_Refused, .fields fvs_Refused, ccs_Refused⟩)
    (vI_Refused : fvs_Refused[2]? = some (.str fi_Refused tf_Refused))
    (fl_Refused : ((l.prog.main.file : Str) == fi_Refused) = true)
    (oI_Refused : K.lookup cc_Refused = some ⟨cl_Refused, cld_Refused, .cell (some (.ref C_Refused)), csl_Refused⟩)
    (sC_Refused : (PySem.W.clsIn K C_Refused).isSome = true)
    (mC_Refused : PySem.W.mroIn K C_Refused (.ref C_Refused) = some true)
    (uC_Refused : PySem.W.ks_superIn K C_Refused C_Refused "__init__" = some (some (.builtin "ValueError.__init__")))
    (eC_Refused : PySem.W.excInitIn K C_Refused [.type "ValueError", .type "Exception", .type "BaseException", .type "object"] "ValueError.__new__" = true)
    (vC_Refused : PySem.W.excOver K C_Refused [.type "ValueError", .type "Exception", .type "BaseException", .type "object"] = true)
    (kC_Refused : PySem.W.takerIn K C_Refused "at" = some none)
    (hC_Refused : PySem.W.hasDictIn K C_Refused = true)
    (zC_Refused : PySem.W.findIn K (.ref C_Refused) "__setattr__" = some (some (.builtin "object.__setattr__")))
    (bC_Refused : PySem.W.subIn K (.ref C_Refused) (.type "ValueError") = some true)
    (xC_Refused : PySem.W.subIn K (.ref C_Refused) (.type "BaseException") = some true)
    (tC_Refused : PySem.W.typeIn K (.ref C_Refused) = some (.type "type"))
    (pC_Refused : PySem.W.keepIn K (.ref C_Refused) = true)
    (X__law_heard_Refused : xfB K C_Refused = true)
    (n__law_heard_Refused_at : PySem.W.findIn K (.ref C_Refused) "at" = some none)
    (o__law_heard_Refused_KeepError : PySem.W.kitOne K (.ref C_Refused) (.ref C_KeepError) = some true)
    (y__law_heard_Refused_Refused : PySem.W.exmOne K (.ref C_Refused) (.ref C_Refused) = some true)
    : LawG l w K 10 63 "_law_script" mg fa h := by
  have e := hfa.symm.trans (PySem.W.mg_of X G a26)
  cases e
  have FL := fun_mk (st := s_law) l26 c26_ k26
  have hC8 := PySem.W.codeHd_of_K X t8
  have hC25 := PySem.W.codeHd_of_K X t25
  refine ⟨PySem.W.fnOf "law" "law" (defArgs s_law) (defBody s_law) (defScope s_law) .none kV26 dc26 pm26 an26 cd26 ct26, [(c8, p8), (c25, p25)], [(p8, ("stretches_of" : Str) ++ ".<locals>." ++ "<lambda>"), (p25, ("_law_none_right" : Str) ++ ".<locals>." ++ "<lambda>")], sem_law, ?hA, ?hB, ?hC, ?hD, fun s v => .of_eq rfl, law_true, fun base hK hN hB => ?_⟩
  case hA => exact allOf2 hP8 hP25
  case hB => exact allOf2 n8 n25
  case hC => exact allOf2 hC8 hC25
  case hD =>
    intro p hp
    simp only [List.mem_cons, List.not_mem_nil, or_false] at hp
    rcases hp with rfl | rfl <;> simp
  · have O : Ok [(p8, ("stretches_of" : Str) ++ ".<locals>." ++ "<lambda>"), (p25, ("_law_none_right" : Str) ++ ".<locals>." ++ "<lambda>")] l.prog w base K mg := {
      z_abs := PySem.W.mg_none_of X G z_abs
      z_all := PySem.W.mg_none_of X G z_all
      z_bool := PySem.W.mg_none_of X G z_bool
      z_int := PySem.W.mg_none_of X G z_int
      z_isinstance := PySem.W.mg_none_of X G z_isinstance
      z_len := PySem.W.mg_none_of X G z_len
      z_list := PySem.W.mg_none_of X G z_list
      z_max := PySem.W.mg_none_of X G z_max
      z_min := PySem.W.mg_none_of X G z_min
      z_range := PySem.W.mg_none_of X G z_range
      z_repr := PySem.W.mg_none_of X G z_repr
      z_reversed := PySem.W.mg_none_of X G z_reversed
      z_set := PySem.W.mg_none_of X G z_set
      z_sorted := PySem.W.mg_none_of X G z_sorted
      z_super := PySem.W.mg_none_of X G z_super
      z_tuple := PySem.W.mg_none_of X G z_tuple
      z_zip := PySem.W.mg_none_of X G z_zip
      h_is_integer := ⟨_, _, PySem.W.mg_of X G a0, fun_mk (st := s_is_integer) l0 c0_ k0⟩
      h_is_number := ⟨_, _, PySem.W.mg_of X G a1, fun_mk (st := s_is_number) l1 c1_ k1⟩
      h_is_below := ⟨_, _, PySem.W.mg_of X G a2, fun_mk (st := s_is_below) l2 c2_ k2⟩
      h_is_sequence := ⟨_, _, PySem.W.mg_of X G a3, fun_mk (st := s_is_sequence) l3 c3_ k3⟩
      h_is_base_hunk := ⟨_, _, PySem.W.mg_of X G a4, fun_mk (st := s_is_base_hunk) l4 c4_ k4⟩
      h_check_hunks := ⟨_, _, PySem.W.mg_of X G a5, fun_mk (st := s_check_hunks) l5 c5_ k5⟩
      h_put_hunks := ⟨_, _, PySem.W.mg_of X G a6, fun_mk (st := s_put_hunks) l6 c6_ k6⟩
      h_apply_hunks := ⟨_, _, PySem.W.mg_of X G a7, fun_mk (st := s_apply_hunks) l7 c7_ k7⟩
      h_stretches_of := ⟨_, _, PySem.W.mg_of X G a8, fun_mk (st := s_stretches_of) l8 c8_ k8⟩
      h_part_of := ⟨_, _, PySem.W.mg_of X G a9, fun_mk (st := s_part_of) l9 c9_ k9⟩
      h_merge_parts := ⟨_, _, PySem.W.mg_of X G a10, fun_mk (st := s_merge_parts) l10 c10_ k10⟩
      h_joined_rows := ⟨_, _, PySem.W.mg_of X G a11, fun_mk (st := s_joined_rows) l11 c11_ k11⟩
      h_base_of := ⟨_, _, PySem.W.mg_of X G a12, fun_mk (st := s_base_of) l12 c12_ k12⟩
      h_ours_of := ⟨_, _, PySem.W.mg_of X G a13, fun_mk (st := s_ours_of) l13 c13_ k13⟩
      h_theirs_of := ⟨_, _, PySem.W.mg_of X G a14, fun_mk (st := s_theirs_of) l14 c14_ k14⟩
      h__law_box := ⟨_, _, PySem.W.mg_of X G a15, fun_mk (st := s__law_box) l15 c15_ k15⟩
      h__law_take := ⟨_, _, PySem.W.mg_of X G a16, fun_mk (st := s__law_take) l16 c16_ k16⟩
      h__law_pick := ⟨_, _, PySem.W.mg_of X G a17, fun_mk (st := s__law_pick) l17 c17_ k17⟩
      h__law_side := ⟨_, _, PySem.W.mg_of X G a18, fun_mk (st := s__law_side) l18 c18_ k18⟩
      h__law_put := ⟨_, _, PySem.W.mg_of X G a19, fun_mk (st := s__law_put) l19 c19_ k19⟩
      h__law_meet := ⟨_, _, PySem.W.mg_of X G a20, fun_mk (st := s__law_meet) l20 c20_ k20⟩
      h__law_stretches := ⟨_, _, PySem.W.mg_of X G a21, fun_mk (st := s__law_stretches) l21 c21_ k21⟩
      h__law_parts := ⟨_, _, PySem.W.mg_of X G a22, fun_mk (st := s__law_parts) l22 c22_ k22⟩
      h__law_exchanged := ⟨_, _, PySem.W.mg_of X G a23, fun_mk (st := s__law_exchanged) l23 c23_ k23⟩
      h__law_heard := ⟨_, _, PySem.W.mg_of X G a24, fun_mk (st := s__law_heard) l24 c24_ k24⟩
      h__law_none_right := ⟨_, _, PySem.W.mg_of X G a25, fun_mk (st := s__law_none_right) l25 c25_ k25⟩
      h_law := ⟨_, _, PySem.W.mg_of X G a26, fun_mk (st := s_law) l26 c26_ k26⟩
      t_stretches_of := ⟨c8, p8, fun f fd hm F => by
        have e := hm.symm.trans (PySem.W.mg_of X G a8)
        cases e
        obtain ⟨oc, od, kV, doc, pm, an, cdv, ct, osl, rfl, lk, hcd⟩ := F.ex
        rw [l8] at lk
        cases lk
        rfl, hB (c8, p8) (by simp), by simp, fun p hp he => by
        simp only [List.mem_cons, List.not_mem_nil, or_false] at hp
        rcases hp with rfl | rfl
        · rfl
        · exact absurd he.symm d8_25
        ⟩
      t__law_none_right := ⟨c25, p25, fun f fd hm F => by
        have e := hm.symm.trans (PySem.W.mg_of X G a25)
        cases e
        obtain ⟨oc, od, kV, doc, pm, an, cdv, ct, osl, rfl, lk, hcd⟩ := F.ex
        rw [l25] at lk
        cases lk
        rfl, hB (c25, p25) (by simp), by simp, fun p hp he => by
        simp only [List.mem_cons, List.not_mem_nil, or_false] at hp
        rcases hp with rfl | rfl
        · exact absurd he d8_25
        · rfl
        ⟩
      e_Refused := rais_mk (st := i_Refused) (p := ⟨_, _, _, _, _, _, _, _, _, _, _⟩) (PySem.W.mg_of X G g_Refused) (PySem.W.mg_none_of X G z_super) exB_ValueError iC_Refused lI_Refused tI_Refused cI_Refused dI_Refused vI_Refused fl_Refused oI_Refused sC_Refused mC_Refused uC_Refused any eC_Refused vC_Refused kC_Refused hC_Refused zC_Refused bC_Refused xC_Refused tC_Refused pC_Refused top rfl ⟨rfl, rfl, rfl, rfl, by decide +kernel, rfl, rfl, rfl, by decide⟩ (fun L => ⟨⟨_, rfl⟩, rfl, rfl, rfl, rfl, rfl⟩) rfl rfl ⟨by decide, by decide, by decide, by decide⟩ (fun _ _ _ _ _ _ _ us hl => match us, hl with | [_, _], _ => rfl)
      q__law_heard := ⟨C_Refused, C_KeepError, PySem.W.mg_of X G g_Refused, PySem.W.mg_of X G g_KeepError, xfB_ok X__law_heard_Refused, n__law_heard_Refused_at, o__law_heard_Refused_KeepError, y__law_heard_Refused_Refused⟩
    }
    obtain ⟨f, fd, hm, F, D⟩ := cal_law (P := l.prog) (w := w) (base := base) O
    have e := hm.symm.trans hfa
    cases e
    obtain ⟨oc, od, kV, doc, pm, an, cdv, ct, osl, rfl, lk, hcd⟩ := F.ex
    rw [l26] at lk
    cases lk
    exact D
end K62
open PySem PySem.W PyProof.Rows
set_option maxHeartbeats 0 in
theorem PySem.Challenge.cw_keptwhole_k62_whole_parts_tell_all_three_holds : PySem.Challenge.rw_keptwhole_k62_whole_parts_tell_all_three.Holds := by
  w_on; o_law; k_head; (case hw => w_witness2)
  k_fill
  refine DL.walk_G (l := PySem.Challenge.rw_keptwhole_k62_whole_parts_tell_all_three) (n := 63) (k := 10) (x := "_law_script") rfl (by decide) rfl ⟨rfl, by decide, by decide⟩ (fun w h Y => by first | exact PySem.W.km_in_of Y | exact PySem.W.kIn_of Y) ?F
  case F =>
    intro w mg fa h Y KX G hmg tabs
    refine' K62.all_mk KX G hmg ?a0 ?l0 ?c0_ ?k0 ?a1 ?l1 ?c1_ ?k1 ?a2 ?l2 ?c2_ ?k2 ?a3 ?l3 ?c3_ ?k3 ?a4 ?l4 ?c4_ ?k4 ?a5 ?l5 ?c5_ ?k5 ?a6 ?l6 ?c6_ ?k6 ?a7 ?l7 ?c7_ ?k7 ?a8 ?l8 ?c8_ ?k8 ?a9 ?l9 ?c9_ ?k9 ?a10 ?l10 ?c10_ ?k10 ?a11 ?l11 ?c11_ ?k11 ?a12 ?l12 ?c12_ ?k12 ?a13 ?l13 ?c13_ ?k13 ?a14 ?l14 ?c14_ ?k14 ?a15 ?l15 ?c15_ ?k15 ?a16 ?l16 ?c16_ ?k16 ?a17 ?l17 ?c17_ ?k17 ?a18 ?l18 ?c18_ ?k18 ?a19 ?l19 ?c19_ ?k19 ?a20 ?l20 ?c20_ ?k20 ?a21 ?l21 ?c21_ ?k21 ?a22 ?l22 ?c22_ ?k22 ?a23 ?l23 ?c23_ ?k23 ?a24 ?l24 ?c24_ ?k24 ?a25 ?l25 ?c25_ ?k25 ?a26 ?l26 ?c26_ ?k26 ?z_abs ?z_all ?z_bool ?z_int ?z_isinstance ?z_len ?z_list ?z_max ?z_min ?z_range ?z_repr ?z_reversed ?z_set ?z_sorted ?z_super ?z_tuple ?z_zip ?hP8 ?t8 ?n8 ?hP25 ?t25 ?n25 ?d8_25 ?g_KeepError ?g_Refused ?top ?any ?iC_Refused ?lI_Refused ?tI_Refused ?cI_Refused ?dI_Refused ?vI_Refused ?fl_Refused ?oI_Refused ?sC_Refused ?mC_Refused ?uC_Refused ?eC_Refused ?vC_Refused ?kC_Refused ?hC_Refused ?zC_Refused ?bC_Refused ?xC_Refused ?tC_Refused ?pC_Refused ?X__law_heard_Refused ?n__law_heard_Refused_at ?o__law_heard_Refused_KeepError ?y__law_heard_Refused_Refused
    (case a0 => k_is)
    (case l0 => k_is)
    (case c0_ => k_is)
    (case k0 => k_is)
    (case a1 => k_is)
    (case l1 => k_is)
    (case c1_ => k_is)
    (case k1 => k_is)
    (case a2 => k_is)
    (case l2 => k_is)
    (case c2_ => k_is)
    (case k2 => k_is)
    (case a3 => k_is)
    (case l3 => k_is)
    (case c3_ => k_is)
    (case k3 => k_is)
    (case a4 => k_is)
    (case l4 => k_is)
    (case c4_ => k_is)
    (case k4 => k_is)
    (case a5 => k_is)
    (case l5 => k_is)
    (case c5_ => k_is)
    (case k5 => k_is)
    (case a6 => k_is)
    (case l6 => k_is)
    (case c6_ => k_is)
    (case k6 => k_is)
    (case a7 => k_is)
    (case l7 => k_is)
    (case c7_ => k_is)
    (case k7 => k_is)
    (case a8 => k_is)
    (case l8 => k_is)
    (case c8_ => k_is)
    (case k8 => k_is)
    (case a9 => k_is)
    (case l9 => k_is)
    (case c9_ => k_is)
    (case k9 => k_is)
    (case a10 => k_is)
    (case l10 => k_is)
    (case c10_ => k_is)
    (case k10 => k_is)
    (case a11 => k_is)
    (case l11 => k_is)
    (case c11_ => k_is)
    (case k11 => k_is)
    (case a12 => k_is)
    (case l12 => k_is)
    (case c12_ => k_is)
    (case k12 => k_is)
    (case a13 => k_is)
    (case l13 => k_is)
    (case c13_ => k_is)
    (case k13 => k_is)
    (case a14 => k_is)
    (case l14 => k_is)
    (case c14_ => k_is)
    (case k14 => k_is)
    (case a15 => k_is)
    (case l15 => k_is)
    (case c15_ => k_is)
    (case k15 => k_is)
    (case a16 => k_is)
    (case l16 => k_is)
    (case c16_ => k_is)
    (case k16 => k_is)
    (case a17 => k_is)
    (case l17 => k_is)
    (case c17_ => k_is)
    (case k17 => k_is)
    (case a18 => k_is)
    (case l18 => k_is)
    (case c18_ => k_is)
    (case k18 => k_is)
    (case a19 => k_is)
    (case l19 => k_is)
    (case c19_ => k_is)
    (case k19 => k_is)
    (case a20 => k_is)
    (case l20 => k_is)
    (case c20_ => k_is)
    (case k20 => k_is)
    (case a21 => k_is)
    (case l21 => k_is)
    (case c21_ => k_is)
    (case k21 => k_is)
    (case a22 => k_is)
    (case l22 => k_is)
    (case c22_ => k_is)
    (case k22 => k_is)
    (case a23 => k_is)
    (case l23 => k_is)
    (case c23_ => k_is)
    (case k23 => k_is)
    (case a24 => k_is)
    (case l24 => k_is)
    (case c24_ => k_is)
    (case k24 => k_is)
    (case a25 => k_is)
    (case l25 => k_is)
    (case c25_ => k_is)
    (case k25 => k_is)
    (case a26 => k_is)
    (case l26 => k_is)
    (case c26_ => k_is)
    (case k26 => k_is)
    (case z_abs => k_is)
    (case z_all => k_is)
    (case z_bool => k_is)
    (case z_int => k_is)
    (case z_isinstance => k_is)
    (case z_len => k_is)
    (case z_list => k_is)
    (case z_max => k_is)
    (case z_min => k_is)
    (case z_range => k_is)
    (case z_repr => k_is)
    (case z_reversed => k_is)
    (case z_set => k_is)
    (case z_sorted => k_is)
    (case z_super => k_is)
    (case z_tuple => k_is)
    (case z_zip => k_is)
    (case hP8 => exact PySem.W.km_tabs_of Y _ (List.mem_cons_of_mem _ List.mem_cons_self))
    (case t8 => first | k_is | kernel_rfl | decide +kernel)
    (case n8 => first | k_is | kernel_rfl | decide +kernel)
    (case hP25 => exact PySem.W.km_tabs_of Y _ List.mem_cons_self)
    (case t25 => first | k_is | kernel_rfl | decide +kernel)
    (case n25 => first | k_is | kernel_rfl | decide +kernel)
    (case d8_25 => decide)
    (case g_KeepError => k_is)
    (case g_Refused => k_is)
    (case top => first | k_is | kernel_rfl | decide +kernel)
    (case any => k_is)
    (case iC_Refused => k_is)
    (case lI_Refused => k_is)
    (case tI_Refused => k_is)
    (case cI_Refused => k_is)
    (case dI_Refused => k_is)
    (case vI_Refused => first | rfl | kernel_rfl)
    (case fl_Refused => first | k_is | kernel_rfl | decide +kernel)
    (case oI_Refused => k_is)
    (case sC_Refused => first | k_is | kernel_rfl | decide +kernel)
    (case mC_Refused => first | k_is | kernel_rfl | decide +kernel)
    (case uC_Refused => first | k_is | kernel_rfl | decide +kernel)
    (case eC_Refused => first | k_is | kernel_rfl | decide +kernel)
    (case vC_Refused => first | k_is | kernel_rfl | decide +kernel)
    (case kC_Refused => first | k_is | kernel_rfl | decide +kernel)
    (case hC_Refused => first | k_is | kernel_rfl | decide +kernel)
    (case zC_Refused => k_is)
    (case bC_Refused => k_is)
    (case xC_Refused => k_is)
    (case tC_Refused => k_is)
    (case pC_Refused => k_is)
    (case X__law_heard_Refused => first | k_is | kernel_rfl | decide +kernel)
    (case n__law_heard_Refused_at => k_is)
    (case o__law_heard_Refused_KeepError => first | k_is | kernel_rfl | decide +kernel)
    (case y__law_heard_Refused_Refused => first | k_is | kernel_rfl | decide +kernel)
end
