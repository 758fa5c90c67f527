import PyProof.Rows.All
import Wide.All
import OpenK.AllK
import Wide.FinOn
import HandS.ForMost
import HandS.Walk
import HandS.IsInst
import HandS.Wide
import HandS.WideBits
import HandS.EndBits
import HandS.Evl
import HandS.Defaults
import HandS.Flow
import HandS.Style
import HandS.TupAny
import HandS.TupLe
import KE.GoesEnum
import KE.GoesMore
import HandS.HeadEnd
import PySem.Challenge.RW_holdgates_k01_names_and_rhythms
import HandS.Words
import HandS.WordsExc
import HandS.More
import HandS.Head0
import HandS.Head1
import HandS.Head2
import HandS.HeadHook1
import HandS.HeadHook2
set_option Elab.async false set_option linter.all false set_option maxRecDepth 100000 set_option maxHeartbeats 0 set_option autoImplicit false
/-! TL: a layer of trees over HandS. A value in flight is a tree D; the frame's slots are trees (dat) or objects that the frame owns and may change (own). The readings speak of trees alone, no heap. -/
namespace TL
open PySem L2 Evl

inductive D where
  | non | bl (b : Bool) | int (i : Int) | str (x : Str) | ty (n : String) | fn (a : Addr)
  | lst (xs : List D) | tup (xs : List D) | dct (kvs : List (Key × D)) | obj (C : Addr) (fs : List (Str × D)) | scr (ns : List Int)

mutual
inductive DV (K : PySem.W.Frag) (H : Hp) : V → D → Prop
  | non : DV K H .non .non
  | bl (b : Bool) : DV K H (.bl b) (.bl b)
  | int (i : Int) : DV K H (.int i) (.int i)
  | str (x : Str) : DV K H (.str x) (.str x)
  | ty (n : String) : DV K H (.ty n) (.ty n)
  | fn (a : Addr) : DV K H (.ref a) (.fn a)
  | lst {a : Addr} {xs : List V} {ds : List D} : Rd H a (.lst xs) → DVs K H xs ds → DV K H (.ref a) (.lst ds)
  | tup {a : Addr} {xs : List V} {ds : List D} : SqT K H a xs → DVs K H xs ds → DV K H (.ref a) (.tup ds)
  | dct {a : Addr} {kvs : List (Key × V)} {ds : List (Key × D)} : Rd H a (.dK kvs) → kvs.map (·.1) = ds.map (·.1) → DVs K H (kvs.map (·.2)) (ds.map (·.2)) → DV K H (.ref a) (.dct ds)
  | obj {a C dx : Addr} {fs : List (Str × V)} {ds : List (Str × D)} : H a = some (.ins C dx fs) → fs.map (·.1) = ds.map (·.1) → DVs K H (fs.map (·.2)) (ds.map (·.2)) → DV K H (.ref a) (.obj C ds)
  | scr {a : Addr} {ns : List Int} : SqL K H a (ns.map V.int) → DV K H (.ref a) (.scr ns)
inductive DVs (K : PySem.W.Frag) (H : Hp) : List V → List D → Prop
  | nil : DVs K H [] []
  | cons {v : V} {vs : List V} {d : D} {ds : List D} : DV K H v d → DVs K H vs ds → DVs K H (v :: vs) (d :: ds)
end

section
variable {K : PySem.W.Frag} {H H' : Hp}
theorem ex_rd1 {a : Addr} {u : HO} (e : Ex H H') (h : Rd H a u) : Rd H' a u := ex_rd e h
theorem DV.mono (e : Ex H H') {v : V} {d : D} (h : DV K H v d) : DV K H' v d := by
  refine DV.rec (motive_1 := fun v d _ => DV K H' v d) (motive_2 := fun vs ds _ => DVs K H' vs ds) .non (fun b => .bl b) (fun i => .int i) (fun x => .str x) (fun n => .ty n) (fun a => .fn a) ?_ ?_ ?_ ?_ ?_ .nil (fun _ _ h1 h2 => .cons h1 h2) h
  · intro a xs ds h1 _ h2; exact .lst (ex_rd e h1) h2
  · intro a xs ds h1 _ h2; exact .tup (ex_t e h1) h2
  · intro a kvs ds h1 h2 _ h3; exact .dct (ex_rd e h1) h2 h3
  · intro a C dx fs ds h1 h3 _ h4; exact .obj (e _ _ h1) h3 h4
  · intro a ns h1; exact .scr (ex_l e h1)
theorem DVs.mono (e : Ex H H') : ∀ {vs : List V} {ds : List D}, DVs K H vs ds → DVs K H' vs ds
  | _, _, .nil => .nil
  | _, _, .cons h t => .cons (h.mono e) (DVs.mono e t)
theorem DVs.len : ∀ {vs : List V} {ds : List D}, DVs K H vs ds → vs.length = ds.length
  | _, _, .nil => rfl
  | _, _, .cons _ t => congrArg (· + 1) (DVs.len t)
theorem DVs.get : ∀ {vs : List V} {ds : List D} {i : Nat} {d : D}, DVs K H vs ds → ds[i]? = some d → ∃ v, vs[i]? = some v ∧ DV K H v d
  | _, _, _, _, .nil, e => by simp at e
  | _, _, 0, _, .cons h _, e => by simp at e; subst e; exact ⟨_, rfl, h⟩
  | _, _, i + 1, d, .cons _ t, e => by
    obtain ⟨u, h1, h2⟩ := DVs.get (i := i) (d := d) t (by simpa using e)
    exact ⟨u, by simpa using h1, h2⟩
theorem DVs.get' : ∀ {vs : List V} {ds : List D} {i : Nat} {v : V}, DVs K H vs ds → vs[i]? = some v → ∃ d, ds[i]? = some d ∧ DV K H v d
  | _, _, _, _, .nil, e => by simp at e
  | _, _, 0, _, .cons h _, e => by simp at e; subst e; exact ⟨_, rfl, h⟩
  | _, _, i + 1, d, .cons _ t, e => by
    obtain ⟨u, h1, h2⟩ := DVs.get' (i := i) t (by simpa using e)
    exact ⟨u, by simpa using h1, h2⟩
theorem DVs.app : ∀ {vs ws : List V} {ds es : List D}, DVs K H vs ds → DVs K H ws es → DVs K H (vs ++ ws) (ds ++ es)
  | _, _, _, _, .nil, h => h
  | _, _, _, _, .cons a t, h => .cons a (DVs.app t h)
theorem DVs.take : ∀ {vs : List V} {ds : List D} (n : Nat), DVs K H vs ds → DVs K H (vs.take n) (ds.take n)
  | _, _, 0, _ => .nil
  | _, _, _ + 1, .nil => .nil
  | _, _, n + 1, .cons a t => .cons a (DVs.take n t)
theorem DVs.drop : ∀ {vs : List V} {ds : List D} (n : Nat), DVs K H vs ds → DVs K H (vs.drop n) (ds.drop n)
  | _, _, 0, h => h
  | _, _, _ + 1, .nil => .nil
  | _, _, n + 1, .cons _ t => DVs.drop n t
theorem DVs.setAt {v : V} {d : D} (h : DV K H v d) : ∀ {vs : List V} {ds : List D} (n : Nat), DVs K H vs ds → DVs K H (vs.set n v) (ds.set n d)
  | _, _, _, .nil => .nil
  | _, _, 0, .cons _ t => .cons h t
  | _, _, n + 1, .cons a t => .cons a (DVs.setAt h n t)
theorem DVs.snoc {vs : List V} {ds : List D} {v : V} {d : D} (h : DVs K H vs ds) (k : DV K H v d) : DVs K H (vs ++ [v]) (ds ++ [d]) := h.app (.cons k .nil)
theorem DVs.rev : ∀ {vs : List V} {ds : List D}, DVs K H vs ds → DVs K H vs.reverse ds.reverse
  | _, _, .nil => .nil
  | _, _, .cons a t => by simpa using (DVs.rev t).snoc a
end

/-- a frame's slot: nothing known, a tree that nobody changes, an object that the frame may change (fx: a parameter's, never bound anew) -/
inductive Sl where
  | no | dat (d : D) | own (fx : Bool) (d : D)
abbrev Ss := List Sl

def OwnAt (K : PySem.W.Frag) (Hd H : Hp) (a : Addr) : D → Prop
  | .lst ds => ∃ vs, H a = some (.lst vs) ∧ DVs K Hd vs ds
  | .dct ds => ∃ kvs, H a = some (.dK kvs) ∧ kvs.map (·.1) = ds.map (·.1) ∧ DVs K Hd (kvs.map (·.2)) (ds.map (·.2))
  | .obj C ds => ∃ dx fs, H a = some (.ins C dx fs) ∧ fs.map (·.1) = ds.map (·.1) ∧ DVs K Hd (fs.map (·.2)) (ds.map (·.2))
  | _ => False
def SlOk (K : PySem.W.Frag) (Hd H : Hp) (o : Option (Option V)) : Sl → Prop
  | .no => True
  | .dat d => ∃ v, o = some (some v) ∧ DV K Hd v d
  | .own _ d => ∃ a, o = some (some (.ref a)) ∧ Hd a = none ∧ OwnAt K Hd H a d
structure Rel (K : PySem.W.Frag) (Hd H : Hp) (σ : L2.St) (S : Ss) : Prop where
  len : σ.length = S.length
  ex : Ex Hd H
  sl : ∀ (i : Nat) (s : Sl), S[i]? = some s → SlOk K Hd H σ[i]? s
  inj : ∀ (i j : Nat) (a : Addr) (f : Bool) (d : D) (g : Bool) (e : D), S[i]? = some (Sl.own f d) → S[j]? = some (Sl.own g e) → σ[i]? = some (some (V.ref a)) → σ[j]? = some (some (V.ref a)) → i = j
def Ow (σ : L2.St) (S : Ss) (a : Addr) : Prop := ∃ (i : Nat) (f : Bool) (d : D), S[i]? = some (Sl.own f d) ∧ σ[i]? = some (some (V.ref a))
/-- from one state to a later one: what the trees lean on stays, what is not owned stays -/
structure Go (σ : L2.St) (S : Ss) (Hd H : Hp) (σ' : L2.St) (S' : Ss) (Hd' H' : Hp) : Prop where
  ex : Ex Hd Hd'
  kp : ∀ a o, H a = some o → ¬ Ow σ S a → H' a = some o
  nw : ∀ a o, Hd' a = some o → Hd a = some o ∨ H a = none ∨ Ow σ S a
  ow : ∀ a, Ow σ' S' a → Ow σ S a ∨ H a = none
  fx : ∀ (i : Nat) (d : D), S[i]? = some (Sl.own true d) → σ'[i]? = σ[i]? ∧ ∃ d' : D, S'[i]? = some (Sl.own true d')
/-- the heap grows, nothing that is tracked changes -/
structure Gr (Hd H Hd' H' : Hp) : Prop where
  ex : Ex Hd Hd'
  eh : Ex H H'
  nw : ∀ a o, Hd' a = some o → Hd a = some o ∨ H a = none
  inn : Ex Hd' H'

section
variable {K : PySem.W.Frag} {Hd H Hd' H' Hd2 H2 : Hp} {σ σ' σ2 : L2.St} {S S' S2 : Ss}
theorem Go.refl : Go σ S Hd H σ S Hd H := ⟨Ex.refl _, fun _ _ h _ => h, fun _ _ h => .inl h, fun _ h => .inl h, fun _ d h => ⟨rfl, d, h⟩⟩
theorem Go.trans (a : Go σ S Hd H σ' S' Hd' H') (b : Go σ' S' Hd' H' σ2 S2 Hd2 H2) : Go σ S Hd H σ2 S2 Hd2 H2 where
  ex := a.ex.trans b.ex
  kp := fun x o h n => b.kp x o (a.kp x o h n) fun z => by
    rcases a.ow x z with q | q
    · exact n q
    · rw [h] at q; cases q
  nw := fun x o h => by
    have key : H' x = none → Hd x = some o ∨ H x = none ∨ Ow σ S x := fun q => by
      by_cases z : Ow σ S x
      · exact .inr (.inr z)
      · cases e : H x with
        | none => exact .inr (.inl rfl)
        | some u => rw [a.kp x u e z] at q; cases q
    rcases b.nw x o h with q | q | q
    · exact a.nw x o q
    · exact key q
    · rcases a.ow x q with z | z
      · exact .inr (.inr z)
      · exact .inr (.inl z)
  ow := fun x h => by
    rcases b.ow x h with q | q
    · exact a.ow x q
    · by_cases z : Ow σ S x
      · exact .inl z
      · cases e : H x with
        | none => exact .inr rfl
        | some u => rw [a.kp x u e z] at q; cases q
  fx := fun i d h => by
    obtain ⟨h1, d1, h2⟩ := a.fx i d h
    obtain ⟨h3, d2, h4⟩ := b.fx i d1 h2
    exact ⟨h3.trans h1, d2, h4⟩
theorem Gr.refl (h : Ex Hd H) : Gr Hd H Hd H := ⟨Ex.refl _, Ex.refl _, fun _ _ h => .inl h, h⟩
theorem Gr.trans (a : Gr Hd H Hd' H') (b : Gr Hd' H' Hd2 H2) : Gr Hd H Hd2 H2 := by
  refine ⟨a.ex.trans b.ex, a.eh.trans b.eh, fun x o h => ?_, b.inn⟩
  rcases b.nw x o h with q | q
  · exact a.nw x o q
  · cases e : H x with
    | none => exact .inr rfl
    | some u => rw [a.eh x u e] at q; cases q
/-- a new object, a part of the trees at once -/
theorem Gr.new {p : Addr} {o : HO} (h : Ex Hd H) (hp : H p = none) : Gr Hd H (upd Hd p o) (upd H p o) := by
  have hd : Hd p = none := fresh_back h hp
  refine ⟨Ex.new hd, Ex.new hp, fun a u e => ?_, fun a u e => ?_⟩
  · by_cases z : a = p
    · subst z; exact .inr hp
    · rw [upd_ne z] at e; exact .inl e
  · by_cases z : a = p
    · subst z; rw [upd_same] at e ⊢; exact e
    · rw [upd_ne z] at e ⊢; exact h a u e
/-- a new object that the trees don't have (garbage, or one to be owned) -/
theorem Gr.pass {p : Addr} {o : HO} (h : Ex Hd H) (hp : H p = none) : Gr Hd H Hd (upd H p o) := ⟨Ex.refl _, Ex.new hp, fun _ _ e => .inl e, h.trans (Ex.new hp)⟩
theorem Gr.of {H' : Hp} (h : Ex Hd H) (e : Ex H H') : Gr Hd H Hd H' := ⟨Ex.refl _, e, fun _ _ e => .inl e, h.trans e⟩
theorem own_lst {a : Addr} {vs : List V} {ds : List D} (h : H a = some (.lst vs)) (k : DVs K Hd vs ds) : OwnAt K Hd H a (.lst ds) := by
  unfold OwnAt
  exact ⟨vs, h, k⟩
theorem own_dct {a : Addr} {vs : List (Key × V)} {ds : List (Key × D)} (h : H a = some (.dK vs)) (e : vs.map (·.1) = ds.map (·.1)) (k : DVs K Hd (vs.map (·.2)) (ds.map (·.2))) : OwnAt K Hd H a (.dct ds) := by
  unfold OwnAt
  exact ⟨vs, h, e, k⟩
theorem OwnAt.grow {a : Addr} {d : D} (h : OwnAt K Hd H a d) (g : Gr Hd H Hd' H') : OwnAt K Hd' H' a d := by
  cases d with
  | lst ds => obtain ⟨vs, h1, h2⟩ := h; exact ⟨vs, g.eh _ _ h1, h2.mono g.ex⟩
  | dct ds => obtain ⟨vs, h1, h2, h3⟩ := h; exact ⟨vs, g.eh _ _ h1, h2, h3.mono g.ex⟩
  | obj C ds =>
    obtain ⟨dx, fs, h1, h4, h5⟩ := h
    exact ⟨dx, fs, g.eh _ _ h1, h4, h5.mono g.ex⟩
  | non => exact h.elim
  | bl b => exact h.elim
  | int i => exact h.elim
  | str x => exact h.elim
  | ty n => exact h.elim
  | fn a => exact h.elim
  | tup xs => exact h.elim
  | scr ns => exact h.elim
theorem OwnAt.has {a : Addr} {d : D} (h : OwnAt K Hd H a d) : ∃ o, H a = some o := by
  cases d with
  | lst ds => obtain ⟨vs, h1, h2⟩ := h; exact ⟨_, h1⟩
  | dct ds => obtain ⟨vs, h1, h2, h3⟩ := h; exact ⟨_, h1⟩
  | obj C ds => obtain ⟨dx, fs, h1, _⟩ := h; exact ⟨_, h1⟩
  | non => exact h.elim
  | bl b => exact h.elim
  | int i => exact h.elim
  | str x => exact h.elim
  | ty n => exact h.elim
  | fn a => exact h.elim
  | tup xs => exact h.elim
  | scr ns => exact h.elim
theorem Gr.non (g : Gr Hd H Hd' H') {a : Addr} {o : HO} (h : Hd a = none) (k : H a = some o) : Hd' a = none := by
  cases e : Hd' a with
  | none => rfl
  | some u =>
    rcases g.nw a u e with q | q
    · rw [h] at q; cases q
    · rw [k] at q; cases q
theorem Rel.grow (R : Rel K Hd H σ S) (g : Gr Hd H Hd' H') : Rel K Hd' H' σ S where
  len := R.len
  ex := g.inn
  sl := fun i s h => by
    have q := R.sl i s h
    cases s with
    | no => trivial
    | dat d => obtain ⟨v, h1, h2⟩ := q; exact ⟨v, h1, h2.mono g.ex⟩
    | own f d =>
      obtain ⟨a, h1, h2, h3⟩ := q
      obtain ⟨o, ho⟩ := h3.has
      exact ⟨a, h1, g.non h2 ho, h3.grow g⟩
  inj := R.inj
theorem Gr.go (g : Gr Hd H Hd' H') : Go σ S Hd H σ S Hd' H' := ⟨g.ex, fun a o h _ => g.eh a o h, fun a o h => (g.nw a o h).elim .inl fun q => .inr (.inl q), fun _ h => .inl h, fun _ d h => ⟨rfl, d, h⟩⟩
end
end TL

namespace TL
open PySem L2 Evl

abbrev DE := Ss → (D → Ss → Prop) → Prop
abbrev DT := Ss → (Bool → Ss → Prop) → Prop
abbrev DA := Ss → (List D → Ss → Prop) → Prop
/-- the reading by trees of an expression; of a test; of arguments; of an expression that makes an object of its own -/
def tU (K : PySem.W.Frag) (u : DE) : TE := fun σ H Q => ∃ (Hd : Hp) (S : Ss) (P : D → Ss → Prop), Rel K Hd H σ S ∧ u S P ∧
  ∀ v H' Hd' d S', Go σ S Hd H σ S' Hd' H' → Rel K Hd' H' σ S' → DV K Hd' v d → P d S' → Q v H'
def tUT (K : PySem.W.Frag) (u : DT) : TT := fun σ H Q => ∃ (Hd : Hp) (S : Ss) (P : Bool → Ss → Prop), Rel K Hd H σ S ∧ u S P ∧
  ∀ b H' Hd' S', Go σ S Hd H σ S' Hd' H' → Rel K Hd' H' σ S' → P b S' → Q b H'
def tUA (K : PySem.W.Frag) (u : DA) : TA := fun σ H Q => ∃ (Hd : Hp) (S : Ss) (P : List D → Ss → Prop), Rel K Hd H σ S ∧ u S P ∧
  ∀ vs H' Hd' ds S', Go σ S Hd H σ S' Hd' H' → Rel K Hd' H' σ S' → DVs K Hd' vs ds → P ds S' → Q vs H'
def FV (K : PySem.W.Frag) (σ : L2.St) (S : Ss) (H : Hp) (S' : Ss) (Hd' H' : Hp) (v : V) (d : D) : Prop :=
  ∃ a, v = .ref a ∧ Hd' a = none ∧ ¬ Ow σ S' a ∧ (Ow σ S a ∨ H a = none) ∧ OwnAt K Hd' H' a d
def tF (K : PySem.W.Frag) (u : DE) : TE := fun σ H Q => ∃ (Hd : Hp) (S : Ss) (P : D → Ss → Prop), Rel K Hd H σ S ∧ u S P ∧
  ∀ v H' Hd' d S', Go σ S Hd H σ S' Hd' H' → Rel K Hd' H' σ S' → FV K σ S H S' Hd' H' v d → P d S' → Q v H'
abbrev QE (X : Cx) (e : Expr) (u : DE) : Prop := PE X e (tU X.K u)
abbrev QT (X : Cx) (e : Expr) (u : DT) : Prop := PT X e (tUT X.K u)
abbrev QA (X : Cx) (es : List Expr) (u : DA) : Prop := PA X es (tUA X.K u)
abbrev QF (X : Cx) (e : Expr) (u : DE) : Prop := PE X e (tF X.K u)

theorem pimp {X : Cx} {e : Expr} {t t' : TE} (h : PE X e t) (k : ∀ σ H Q, t' σ H Q → t σ H Q) : PE X e t' := ⟨fun pins s σ H Q I w => h.run pins s σ H Q I (k σ H Q w)⟩
theorem pimpT {X : Cx} {e : Expr} {t t' : TT} (h : PT X e t) (k : ∀ σ H Q, t' σ H Q → t σ H Q) : PT X e t' := ⟨fun pins s σ H Q I w => h.run pins s σ H Q I (k σ H Q w)⟩
theorem pimpW {X : Cx} {e : Expr} {t t' : TT} (h : PW X e t) (k : ∀ σ H Q, t' σ H Q → t σ H Q) : PW X e t' := ⟨fun wh pins s σ H Q I w => h.run wh pins s σ H Q I (k σ H Q w)⟩
theorem pimpA {X : Cx} {e : List Expr} {t t' : TA} (h : PA X e t) (k : ∀ σ H Q, t' σ H Q → t σ H Q) : PA X e t' := ⟨fun pos pins s σ H Q I w => h.run pos pins s σ H Q I (k σ H Q w)⟩
theorem pimpS {X : Cx} {e : Stmt} {t t' : TS} (h : PS X e t) (k : ∀ E σ H, t' E σ H → t E σ H) : PS X e t' := ⟨fun pins s σ H E I w => h.run pins s σ H E I (k E σ H w)⟩
theorem pimpSs {X : Cx} {e : List Stmt} {t t' : TS} (h : PSs X e t) (k : ∀ E σ H, t' E σ H → t E σ H) : PSs X e t' := ⟨fun pins s σ H E I w => h.run pins s σ H E I (k E σ H w)⟩

section
variable {X : Cx} {a b c : Expr} {pos : Pos}

/-! ### names, constants -/
def uC (d : D) : DE := fun S P => P d S
def uVar (i : Nat) : DE := fun S P => match S[i]? with
  | some (.dat d) => P d S
  | _ => False
/-- an owned object's name, read once and for all: no change of it behind -/
def uFrz (i : Nat) : DE := fun S P => match S[i]? with
  | some (.own false d) => P d (S.set i (.dat d))
  | _ => False
theorem q_c {e : Expr} {v : V} {d : D} (h : PE X e (tC v)) (k : ∀ H, DV X.K H v d) : QE X e (uC d) := pimp h fun σ H Q ⟨Hd, S, P, R, hu, q⟩ => q v H Hd d S Go.refl R (k Hd) hu
theorem q_int {i : Int} {j : Nat} : QE X (.Constant (.int i) j pos) (uC (.int i)) := q_c pe_int fun _ => .int i
theorem q_bl {b : Bool} {j : Nat} : QE X (.Constant (.bool b) j pos) (uC (.bl b)) := q_c pe_bl fun _ => .bl b
theorem q_str {x : Str} {j : Nat} : QE X (.Constant (.str x) j pos) (uC (.str x)) := q_c pe_str fun _ => .str x
theorem q_non {j : Nat} : QE X (.Constant .none j pos) (uC .non) := q_c pe_non fun _ => .non
theorem q_var {i : Nat} {e : Expr} (h : PE X e (tVar i)) : QE X e (uVar i) := pimp h fun σ H Q ⟨Hd, S, P, R, hu, q⟩ => by
  unfold uVar at hu
  split at hu
  · rename_i d e
    obtain ⟨v, h1, h2⟩ := R.sl i _ e
    exact ⟨v, h1, q v H Hd d S Go.refl R h2 hu⟩
  · exact hu.elim

/-! ### operators -/
abbrev G1 := D → (D → Prop) → Prop
abbrev G2 := D → D → (D → Prop) → Prop
abbrev GL := List D → (D → Prop) → Prop
def OpD (K : PySem.W.Frag) (r : R2) (g : G2) : Prop := ∀ (Hd H : Hp) (x y : V) (d e : D) (P : D → Prop) (Q : VK), Ex Hd H → DV K Hd x d → DV K Hd y e → g d e P →
  (∀ v H' Hd' z, Gr Hd H Hd' H' → DV K Hd' v z → P z → Q v H') → r x y H Q
def OpQ (X : Cx) (f : Value → Value → Sem Value) (g : G2) : Prop := ∃ r, OpR X f r ∧ OpD X.K r g
def UnD (K : PySem.W.Frag) (r : V → Hp → VK → Prop) (g : G1) : Prop := ∀ (Hd H : Hp) (x : V) (d : D) (P : D → Prop) (Q : VK), Ex Hd H → DV K Hd x d → g d P →
  (∀ v H' Hd' z, Gr Hd H Hd' H' → DV K Hd' v z → P z → Q v H') → r x H Q
def CallD (K : PySem.W.Frag) (r : List V → Hp → VK → Prop) (g : GL) : Prop := ∀ (Hd H : Hp) (xs : List V) (ds : List D) (P : D → Prop) (Q : VK), Ex Hd H → DVs K Hd xs ds → g ds P →
  (∀ v H' Hd' z, Gr Hd H Hd' H' → DV K Hd' v z → P z → Q v H') → r xs H Q
def uOp (g : G2) (ua ub : DE) : DE := fun S P => ua S fun x S1 => ub S1 fun y S2 => g x y fun z => P z S2
def uUn (g : G1) (ua : DE) : DE := fun S P => ua S fun x S1 => g x fun z => P z S1
theorem op2 {r : R2} {g : G2} {ua ub : DE} {σ : L2.St} {H : Hp} {Q : VK} (hd : OpD X.K r g) (h : tU X.K (uOp g ua ub) σ H Q) : tOp r (tU X.K ua) (tU X.K ub) σ H Q := by
  obtain ⟨Hd, S, P, R, hu, k⟩ := h
  refine ⟨Hd, S, _, R, hu, fun v H1 Hd1 d S1 g1 R1 dv h1 => ?_⟩
  refine ⟨Hd1, S1, _, R1, h1, fun w H2 Hd2 e S2 g2 R2 dw h2 => ?_⟩
  exact hd Hd2 H2 v w d e _ Q R2.ex (dv.mono g2.ex) dw h2 fun z H3 Hd3 c gr dz p => k z H3 Hd3 c S2 ((g1.trans g2).trans gr.go) (R2.grow gr) dz p
theorem q_op {op : Operator} {g : G2} {ua ub : DE} (ho : OpQ X (binaryOp op) g) (ha : QE X a ua) (hb : QE X b ub) : QE X (.BinOp a op b pos) (uOp g ua ub) := by
  obtain ⟨r, h1, h2⟩ := ho
  exact pimp (pe_op h1 ha hb) fun σ H Q h => op2 h2 h
theorem q_cmp {op : CmpOp} {g : G2} {ua ub : DE} (ho : OpQ X (compareOp op) g) (ha : QE X a ua) (hb : QE X b ub) (hm : behindInMarks op b = false := by first | exact nomark _ | rfl) : QE X (.Compare a [op] [b] pos) (uOp g ua ub) := by
  obtain ⟨r, h1, h2⟩ := ho
  exact pimp (pe_cmpR h1 ha hb hm) fun σ H Q h => op2 h2 h
def uChain (g g' : G2) (ua ub uc : DE) : DE := fun S P => ua S fun x S1 => ub S1 fun y S2 => g x y fun z => match z with
  | .bl true => uc S2 fun w S3 => g' y w fun z' => P z' S3
  | .bl false => P (.bl false) S2
  | _ => False
theorem chain_at {r r' : R2} {g g' : G2} {ua ub uc : DE} {σ : L2.St} {H : Hp} {Q : VK} (h2 : OpD X.K r g) (h2' : OpD X.K r' g') (h : tU X.K (uChain g g' ua ub uc) σ H Q) : tChain r r' (tU X.K ua) (tU X.K ub) (tU X.K uc) σ H Q := by
  obtain ⟨Hd, S, P, R, hu, k⟩ := h
  refine ⟨Hd, S, _, R, hu, fun v H1 Hd1 d S1 g1 R1 dv q1 => ?_⟩
  refine ⟨Hd1, S1, _, R1, q1, fun w H2 Hd2 e S2 g2 R2 dw q2 => ?_⟩
  refine h2 Hd2 H2 v w d e _ _ R2.ex (dv.mono g2.ex) dw q2 fun z H3 Hd3 c gr dz p => ?_
  cases dz with
  | bl bb =>
    refine ⟨bb, rfl, ?_⟩
    cases bb with
    | false => exact k _ H3 Hd3 _ S2 ((g1.trans g2).trans gr.go) (R2.grow gr) (.bl false) p
    | true =>
      refine ⟨Hd3, S2, _, R2.grow gr, p, fun w' H4 Hd4 e' S4 g4 R4 dw' q4 => ?_⟩
      exact h2' Hd4 H4 w w' e e' _ Q R4.ex ((dw.mono gr.ex).mono g4.ex) dw' q4 fun z H5 Hd5 c gr5 dz p5 => k z H5 Hd5 c S4 ((((g1.trans g2).trans gr.go).trans g4).trans gr5.go) (R4.grow gr5) dz p5
  | non => exact p.elim
  | int i => exact p.elim
  | str x => exact p.elim
  | ty n => exact p.elim
  | fn x => exact p.elim
  | lst _ _ => exact p.elim
  | tup _ _ => exact p.elim
  | dct _ _ _ => exact p.elim
  | obj _ _ _ => exact p.elim
  | scr _ => exact p.elim
theorem q_chain {op op' : CmpOp} {g g' : G2} {ua ub uc : DE} (ho : OpQ X (compareOp op) g) (ho' : OpQ X (compareOp op') g') (ha : QE X a ua) (hb : QE X b ub) (hc : QE X c uc)
    (hm : lastMarks [op, op'] [b, c] = false := by with_unfolding_all rfl) : QE X (.Compare a [op, op'] [b, c] pos) (uChain g g' ua ub uc) := by
  obtain ⟨r, h1, h2⟩ := ho
  obtain ⟨r', h1', h2'⟩ := ho'
  exact pimp (pe_chain h1 h1' ha hb hc hm) fun σ H Q h => chain_at h2 h2' h
theorem q_un {op : UnaryOp} {r : V → Hp → VK → Prop} {g : G1} {ua : DE} (ho : UnR X (unaryOp op) r) (hd : UnD X.K r g) (ha : QE X a ua) : QE X (.UnaryOp op a pos) (uUn g ua) :=
  pimp (pe_un ho ha) fun σ H Q ⟨Hd, S, P, R, hu, k⟩ => ⟨Hd, S, _, R, hu, fun v H1 Hd1 d S1 g1 R1 dv h1 => hd Hd1 H1 v d _ Q R1.ex dv h1 fun z H3 Hd3 c gr dz p => k z H3 Hd3 c S1 (g1.trans gr.go) (R1.grow gr) dz p⟩

/-! ### tests -/
def uB (u : DE) : DT := fun S P => u S fun z S1 => match z with
  | .bl b => P b S1
  | _ => False
theorem t_val {e : Expr} {u : DE} (h : QE X e u) (he : ∀ whole, isTrue e X.env whole = (do let v ← whole; standAt e.pos; holding [v] (truthy v)) := by intro _; rfl) : QT X e (uB u) :=
  pimpT (pt_val h he) fun σ H Q ⟨Hd, S, P, R, hu, k⟩ => ⟨Hd, S, _, R, hu, fun v H1 Hd1 d S1 g1 R1 dv h1 => by
    cases dv with
    | bl b => exact ⟨b, rfl, k b H1 Hd1 S1 g1 R1 h1⟩
    | non => exact h1.elim
    | int i => exact h1.elim
    | str x => exact h1.elim
    | ty n => exact h1.elim
    | fn x => exact h1.elim
    | lst _ _ => exact h1.elim
    | tup _ _ => exact h1.elim
    | dct _ _ _ => exact h1.elim
    | obj _ _ _ => exact h1.elim
    | scr _ => exact h1.elim⟩
theorem t_cmp {op : CmpOp} {g : G2} {ua ub : DE} (ho : OpQ X (compareOp op) g) (ha : QE X a ua) (hb : QE X b ub) (hm : behindInMarks op b = false := by first | exact nomark _ | rfl) : QT X (.Compare a [op] [b] pos) (uB (uOp g ua ub)) := by
  obtain ⟨r, h1, h2⟩ := ho
  refine pimpT (pt_cmpR h1 ha hb hm) fun σ H Q ⟨Hd, S, P, R, hu, k⟩ => ?_
  have q : tOp r (tU X.K ua) (tU X.K ub) σ H (fun x H1 => ∃ c, x = V.bl c ∧ Q c H1) := op2 h2 ⟨Hd, S, _, R, hu, fun v H1 Hd1 d S1 g1 R1 dv h1 => by
    cases dv with
    | bl b => exact ⟨b, rfl, k b H1 Hd1 S1 g1 R1 h1⟩
    | non => exact h1.elim
    | int i => exact h1.elim
    | str x => exact h1.elim
    | ty n => exact h1.elim
    | fn x => exact h1.elim
    | lst _ _ => exact h1.elim
    | tup _ _ => exact h1.elim
    | dct _ _ _ => exact h1.elim
    | obj _ _ _ => exact h1.elim
    | scr _ => exact h1.elim⟩
  exact q
theorem t_chain {op op' : CmpOp} {g g' : G2} {ua ub uc : DE} (ho : OpQ X (compareOp op) g) (ho' : OpQ X (compareOp op') g') (ha : QE X a ua) (hb : QE X b ub) (hc : QE X c uc)
    (hm : lastMarks [op, op'] [b, c] = false := by with_unfolding_all rfl) : QT X (.Compare a [op, op'] [b, c] pos) (uB (uChain g g' ua ub uc)) := by
  obtain ⟨r, h1, h2⟩ := ho
  obtain ⟨r', h1', h2'⟩ := ho'
  refine pimpT (pt_chain h1 h1' ha hb hc hm) fun σ H Q ⟨Hd, S, P, R, hu, k⟩ => ?_
  have q : tChain r r' (tU X.K ua) (tU X.K ub) (tU X.K uc) σ H (fun x H1 => ∃ c, x = V.bl c ∧ Q c H1) := chain_at h2 h2' ⟨Hd, S, _, R, hu, fun v H1 Hd1 d S1 g1 R1 dv h1 => by
    cases dv with
    | bl b => exact ⟨b, rfl, k b H1 Hd1 S1 g1 R1 h1⟩
    | non => exact h1.elim
    | int i => exact h1.elim
    | str x => exact h1.elim
    | ty n => exact h1.elim
    | fn x => exact h1.elim
    | lst _ _ => exact h1.elim
    | tup _ _ => exact h1.elim
    | dct _ _ _ => exact h1.elim
    | obj _ _ _ => exact h1.elim
    | scr _ => exact h1.elim⟩
  exact q
def uAnd (u w : DT) : DT := fun S P => u S fun b S1 => match b with
  | true => w S1 P
  | false => P false S1
def uOr (u w : DT) : DT := fun S P => u S fun b S1 => match b with
  | true => P true S1
  | false => w S1 P
def uNot (u : DT) : DT := fun S P => u S fun b S1 => P (!b) S1
abbrev QW (X : Cx) (e : Expr) (u : DT) : Prop := PW X e (tUT X.K u)
variable {ua' ub' : DT} {rest : List Expr}
theorem w_and1 (h : QT X a ua') : QW X (.BoolOp .And [a] pos) ua' := pw_and1 h
theorem w_or1 (h : QT X a ua') : QW X (.BoolOp .Or [a] pos) ua' := pw_or1 h
theorem w_and (h : QT X a ua') (k : QW X (.BoolOp .And (b :: rest) pos) ub') : QW X (.BoolOp .And (a :: b :: rest) pos) (uAnd ua' ub') :=
  pimpW (pw_and h k) fun σ H Q ⟨Hd, S, P, R, hu, q⟩ => ⟨Hd, S, _, R, hu, fun c H1 Hd1 S1 g1 R1 h1 => by
    cases c with
    | true => exact ⟨Hd1, S1, _, R1, h1, fun c H2 Hd2 S2 g2 R2 h2 => q c H2 Hd2 S2 (g1.trans g2) R2 h2⟩
    | false => exact q _ H1 Hd1 S1 g1 R1 h1⟩
theorem w_or (h : QT X a ua') (k : QW X (.BoolOp .Or (b :: rest) pos) ub') : QW X (.BoolOp .Or (a :: b :: rest) pos) (uOr ua' ub') :=
  pimpW (pw_or h k) fun σ H Q ⟨Hd, S, P, R, hu, q⟩ => ⟨Hd, S, _, R, hu, fun c H1 Hd1 S1 g1 R1 h1 => by
    cases c with
    | false => exact ⟨Hd1, S1, _, R1, h1, fun c H2 Hd2 S2 g2 R2 h2 => q c H2 Hd2 S2 (g1.trans g2) R2 h2⟩
    | true => exact q _ H1 Hd1 S1 g1 R1 h1⟩
theorem w_t {e : Expr} (h : QW X e ua') : QT X e ua' := PW.pt h
theorem t_not (h : QT X a ua') : QT X (.UnaryOp .Not a pos) (uNot ua') :=
  pimpT (pt_not h) fun σ H Q ⟨Hd, S, P, R, hu, q⟩ => ⟨Hd, S, _, R, hu, fun c H1 Hd1 S1 g1 R1 h1 => q _ H1 Hd1 S1 g1 R1 h1⟩
/-- and, or, not as values -/
def uAndV (u w : DE) : DE := fun S P => u S fun z S1 => match z with
  | .bl true => w S1 P
  | .bl false => P (.bl false) S1
  | _ => False
def uOrV (u w : DE) : DE := fun S P => u S fun z S1 => match z with
  | .bl true => P (.bl true) S1
  | .bl false => w S1 P
  | _ => False
def uNotV (u : DE) : DE := fun S P => u S fun z S1 => match z with
  | .bl b => P (.bl (!b)) S1
  | _ => False
variable {ua ub : DE}
theorem q_one {op : BoolOp} (h : QE X a ua) : QE X (.BoolOp op [a] pos) ua := pe_one h
theorem q_and (h : QE X a ua) (k : QE X (.BoolOp .And (b :: rest) pos) ub) : QE X (.BoolOp .And (a :: b :: rest) pos) (uAndV ua ub) :=
  pimp (pe_and h k) fun σ H Q ⟨Hd, S, P, R, hu, q⟩ => ⟨Hd, S, _, R, hu, fun v H1 Hd1 d S1 g1 R1 dv h1 => by
    cases dv with
    | bl c =>
      refine ⟨c, rfl, ?_⟩
      cases c with
      | true => exact ⟨Hd1, S1, _, R1, h1, fun v H2 Hd2 d S2 g2 R2 d2 h2 => q v H2 Hd2 d S2 (g1.trans g2) R2 d2 h2⟩
      | false => exact q _ H1 Hd1 _ S1 g1 R1 (.bl false) h1
    | non => exact h1.elim
    | int i => exact h1.elim
    | str x => exact h1.elim
    | ty n => exact h1.elim
    | fn x => exact h1.elim
    | lst _ _ => exact h1.elim
    | tup _ _ => exact h1.elim
    | dct _ _ _ => exact h1.elim
    | obj _ _ _ => exact h1.elim
    | scr _ => exact h1.elim⟩
theorem q_or (h : QE X a ua) (k : QE X (.BoolOp .Or (b :: rest) pos) ub) : QE X (.BoolOp .Or (a :: b :: rest) pos) (uOrV ua ub) :=
  pimp (pe_or h k) fun σ H Q ⟨Hd, S, P, R, hu, q⟩ => ⟨Hd, S, _, R, hu, fun v H1 Hd1 d S1 g1 R1 dv h1 => by
    cases dv with
    | bl c =>
      refine ⟨c, rfl, ?_⟩
      cases c with
      | false => exact ⟨Hd1, S1, _, R1, h1, fun v H2 Hd2 d S2 g2 R2 d2 h2 => q v H2 Hd2 d S2 (g1.trans g2) R2 d2 h2⟩
      | true => exact q _ H1 Hd1 _ S1 g1 R1 (.bl true) h1
    | non => exact h1.elim
    | int i => exact h1.elim
    | str x => exact h1.elim
    | ty n => exact h1.elim
    | fn x => exact h1.elim
    | lst _ _ => exact h1.elim
    | tup _ _ => exact h1.elim
    | dct _ _ _ => exact h1.elim
    | obj _ _ _ => exact h1.elim
    | scr _ => exact h1.elim⟩
theorem q_not (h : QE X a ua) : QE X (.UnaryOp .Not a pos) (uNotV ua) :=
  pimp (pe_not h) fun σ H Q ⟨Hd, S, P, R, hu, q⟩ => ⟨Hd, S, _, R, hu, fun v H1 Hd1 d S1 g1 R1 dv h1 => by
    cases dv with
    | bl c => exact ⟨c, rfl, q _ H1 Hd1 _ S1 g1 R1 (.bl _) h1⟩
    | non => exact h1.elim
    | int i => exact h1.elim
    | str x => exact h1.elim
    | ty n => exact h1.elim
    | fn x => exact h1.elim
    | lst _ _ => exact h1.elim
    | tup _ _ => exact h1.elim
    | dct _ _ _ => exact h1.elim
    | obj _ _ _ => exact h1.elim
    | scr _ => exact h1.elim⟩
def uIfE (ut : DT) (ua ub : DE) : DE := fun S P => ut S fun b S1 => match b with
  | true => ua S1 P
  | false => ub S1 P
theorem q_ifExp {ut : DT} (hc : QT X c ut) (ha : QE X a ua) (hb : QE X b ub) : QE X (.IfExp c a b pos) (uIfE ut ua ub) :=
  pimp (pe_ifExp hc ha hb) fun σ H Q ⟨Hd, S, P, R, hu, q⟩ => ⟨Hd, S, _, R, hu, fun c H1 Hd1 S1 g1 R1 h1 => by
    cases c with
    | true => exact ⟨Hd1, S1, _, R1, h1, fun v H2 Hd2 d S2 g2 R2 d2 h2 => q v H2 Hd2 d S2 (g1.trans g2) R2 d2 h2⟩
    | false => exact ⟨Hd1, S1, _, R1, h1, fun v H2 Hd2 d S2 g2 R2 d2 h2 => q v H2 Hd2 d S2 (g1.trans g2) R2 d2 h2⟩⟩

/-! ### argument lists, displays -/
def uNil : DA := fun S P => P [] S
def uCons (u : DE) (w : DA) : DA := fun S P => u S fun d S1 => w S1 fun ds S2 => P (d :: ds) S2
theorem a_nil : QA X [] uNil := pimpA pa_nil fun σ H Q ⟨Hd, S, P, R, hu, q⟩ => q [] H Hd [] S Go.refl R .nil hu
theorem a_cons {e : Expr} {es : List Expr} {u : DE} {w : DA} (h : QE X e u) (k : QA X es w) (hs : starEach (e :: es) X.env = (false, eval e X.env) :: starEach es X.env := by rfl) : QA X (e :: es) (uCons u w) :=
  pimpA (pa_cons h k hs) fun σ H Q ⟨Hd, S, P, R, hu, q⟩ => ⟨Hd, S, _, R, hu, fun v H1 Hd1 d S1 g1 R1 dv h1 => ⟨Hd1, S1, _, R1, h1, fun vs H2 Hd2 ds S2 g2 R2 d2 h2 => q _ H2 Hd2 _ S2 (g1.trans g2) R2 (.cons (dv.mono g2.ex) d2) h2⟩⟩
def uTup (w : DA) : DE := fun S P => w S fun ds S1 => ds.length ≤ sizeLine ∧ P (.tup ds) S1
def uLst (w : DA) : DE := fun S P => w S fun ds S1 => ds.length ≤ sizeLine ∧ P (.lst ds) S1
theorem q_tup {es : List Expr} {w : DA} {x1 : Nat} (h : QA X es w) : QE X (.Tuple es x1 pos) (uTup w) :=
  pimp (pe_tup h) fun σ H Q ⟨Hd, S, P, R, hu, q⟩ => ⟨Hd, S, _, R, hu, fun vs H1 Hd1 ds S1 g1 R1 dv h1 => ⟨by rw [dv.len]; exact h1.1, fun p hp => by
    have gr := Gr.new (o := .tup vs) R1.ex hp
    exact q _ _ _ _ S1 (g1.trans gr.go) (R1.grow gr) (.tup (st_of upd_same) (dv.mono gr.ex)) h1.2⟩⟩
theorem q_lst {es : List Expr} {w : DA} (h : QA X es w) : QE X (.List es pos) (uLst w) :=
  pimp (pe_lst h) fun σ H Q ⟨Hd, S, P, R, hu, q⟩ => ⟨Hd, S, _, R, hu, fun vs H1 Hd1 ds S1 g1 R1 dv h1 => ⟨by rw [dv.len]; exact h1.1, fun p hp => by
    have gr := Gr.new (o := .lst vs) R1.ex hp
    exact q _ _ _ _ S1 (g1.trans gr.go) (R1.grow gr) (.lst (.inl upd_same) (dv.mono gr.ex)) h1.2⟩⟩
/-- what is owned by none stands apart from a free address -/
theorem Rel.notOw {K : PySem.W.Frag} {Hd H : Hp} {σ : L2.St} {S : Ss} (R : Rel K Hd H σ S) {p : Addr} (hp : H p = none) : ¬ Ow σ S p := fun ⟨i, f, d, h1, h2⟩ => by
  obtain ⟨a, h3, _, h4⟩ := R.sl i _ h1
  rw [h2] at h3; cases h3
  obtain ⟨o, ho⟩ := h4.has
  rw [hp] at ho; cases ho
theorem Go.back {σ σ' : L2.St} {S S' : Ss} {Hd H Hd' H' : Hp} (g : Go σ S Hd H σ' S' Hd' H') {p : Addr} (hp : H' p = none) : Ow σ S p ∨ H p = none := by
  by_cases z : Ow σ S p
  · exact .inl z
  · cases e : H p with
    | none => exact .inr rfl
    | some o => rw [g.kp p o e z] at hp; cases hp
theorem f_lst {es : List Expr} {w : DA} (h : QA X es w) : QF X (.List es pos) (uLst w) :=
  pimp (pe_lst h) fun σ H Q ⟨Hd, S, P, R, hu, q⟩ => ⟨Hd, S, _, R, hu, fun vs H1 Hd1 ds S1 g1 R1 dv h1 => ⟨by rw [dv.len]; exact h1.1, fun p hp => by
    have gr := Gr.pass (o := .lst vs) R1.ex hp
    exact q _ _ _ (D.lst ds) S1 (g1.trans gr.go) (R1.grow gr) ⟨p, rfl, fresh_back R1.ex hp, R1.notOw hp, g1.back hp, own_lst upd_same dv⟩ h1.2⟩⟩
/-! ### an owned object becomes a tree -/
theorem OwnAt.frz {K : PySem.W.Frag} {Hd H : Hp} {a : Addr} {d : D} (h : OwnAt K Hd H a d) (n : Hd a = none) (e : Ex Hd H) : ∃ Hd', Ex Hd Hd' ∧ Ex Hd' H ∧ DV K Hd' (.ref a) d ∧ (∀ b o, Hd' b = some o → Hd b = some o ∨ b = a) := by
  have one : ∀ {Hd : Hp} {a : Addr} {o : HO}, Hd a = none → Ex Hd H → H a = some o → Ex Hd (upd Hd a o) ∧ Ex (upd Hd a o) H := fun {Hd a o} n e k => ⟨Ex.new n, fun b u q => by
    by_cases z : b = a
    · subst z; rw [upd_same] at q; cases q; exact k
    · rw [upd_ne z] at q; exact e b u q⟩
  have ad : ∀ {Hd : Hp} {a b : Addr} {o u : HO}, upd Hd a o b = some u → Hd b = some u ∨ b = a := fun {Hd a b o u} q => by
    by_cases z : b = a
    · exact .inr z
    · rw [upd_ne z] at q; exact .inl q
  cases d with
  | lst ds =>
    obtain ⟨vs, h1, h2⟩ := h
    obtain ⟨e1, e2⟩ := one n e h1
    exact ⟨_, e1, e2, .lst (.inl upd_same) (h2.mono e1), fun b o q => ad q⟩
  | dct ds =>
    obtain ⟨vs, h1, h2, h3⟩ := h
    obtain ⟨e1, e2⟩ := one n e h1
    exact ⟨_, e1, e2, .dct (.inl upd_same) h2 (h3.mono e1), fun b o q => ad q⟩
  | obj C ds =>
    obtain ⟨dx, fs, h1, h4, h5⟩ := h
    obtain ⟨e1, e2⟩ := one n e h1
    exact ⟨_, e1, e2, .obj upd_same h4 (h5.mono e1), fun b o q => ad q⟩
  | non => exact h.elim
  | bl b => exact h.elim
  | int i => exact h.elim
  | str x => exact h.elim
  | ty n => exact h.elim
  | fn a => exact h.elim
  | tup xs => exact h.elim
  | scr ns => exact h.elim
end
end TL

namespace TL
open PySem L2 Evl

section
variable {K : PySem.W.Frag} {Hd H Hd' H' Hd2 H2 : Hp} {σ σ' σ2 : L2.St} {S S' S2 : Ss} {i : Nat} {a : Addr} {d : D} {v : V}

theorem OwnAt.up (h : OwnAt K Hd H a d) (e : Ex Hd Hd') : OwnAt K Hd' H a d := by
  cases d with
  | lst ds => obtain ⟨vs, h1, h2⟩ := h; exact ⟨vs, h1, h2.mono e⟩
  | dct ds => obtain ⟨vs, h1, h2, h3⟩ := h; exact ⟨vs, h1, h2, h3.mono e⟩
  | obj C ds => obtain ⟨dx, fs, h1, h4, h5⟩ := h; exact ⟨dx, fs, h1, h4, h5.mono e⟩
  | non => exact h.elim
  | bl b => exact h.elim
  | int i => exact h.elim
  | str x => exact h.elim
  | ty n => exact h.elim
  | fn a => exact h.elim
  | tup xs => exact h.elim
  | scr ns => exact h.elim
/-- the object at a is as it was -/
theorem OwnAt.at (h : OwnAt K Hd H a d) (e : H' a = H a) : OwnAt K Hd H' a d := by
  cases d with
  | lst ds => obtain ⟨vs, h1, h2⟩ := h; exact ⟨vs, e.trans h1, h2⟩
  | dct ds => obtain ⟨vs, h1, h2, h3⟩ := h; exact ⟨vs, e.trans h1, h2, h3⟩
  | obj C ds => obtain ⟨dx, fs, h1, h4, h5⟩ := h; exact ⟨dx, fs, e.trans h1, h4, h5⟩
  | non => exact h.elim
  | bl b => exact h.elim
  | int i => exact h.elim
  | str x => exact h.elim
  | ty n => exact h.elim
  | fn a => exact h.elim
  | tup xs => exact h.elim
  | scr ns => exact h.elim
theorem getset {α : Type} {l : List α} {i j : Nat} {x y : α} (h : (l.set i x)[j]? = some y) : (j = i ∧ i < l.length ∧ y = x) ∨ (j ≠ i ∧ l[j]? = some y) := by
  by_cases z : i = j
  · subst z
    by_cases hl : i < l.length
    · rw [List.getElem?_set_self hl] at h; cases h; exact .inl ⟨rfl, hl, rfl⟩
    · rw [List.getElem?_eq_none (by simpa using hl)] at h; cases h
  · rw [List.getElem?_set_ne z] at h; exact .inr ⟨Ne.symm z, h⟩
theorem set_self {α : Type} {l : List α} {i : Nat} {x : α} (h : i < l.length) : (l.set i x)[i]? = some x := List.getElem?_set_self h
theorem lt_of {α : Type} {l : List α} {i : Nat} {x : α} (h : l[i]? = some x) : i < l.length := (List.getElem?_eq_some_iff.mp h).1
/-- a tree is put into a slot -/
theorem Rel.asg (R : Rel K Hd H σ S) (h : DV K Hd v d) (i : Nat) : Rel K Hd H (σ.set i (some v)) (S.set i (.dat d)) where
  len := by rw [List.length_set, List.length_set]; exact R.len
  ex := R.ex
  sl := fun j s q => by
    rcases getset q with ⟨rfl, hl, rfl⟩ | ⟨hj, q⟩
    · exact ⟨v, set_self (by rw [R.len]; exact hl), h⟩
    · rw [List.getElem?_set_ne (Ne.symm hj)]; exact R.sl j s q
  inj := fun j k x f e g e' h1 h2 h3 h4 => by
    rcases getset h1 with ⟨_, _, z⟩ | ⟨hj, h1⟩
    · cases z
    · rcases getset h2 with ⟨_, _, z⟩ | ⟨hk, h2⟩
      · cases z
      · rw [List.getElem?_set_ne (Ne.symm hj)] at h3
        rw [List.getElem?_set_ne (Ne.symm hk)] at h4
        exact R.inj j k x f e g e' h1 h2 h3 h4
/-- an object of its own is put into a slot -/
theorem Rel.asgO (R : Rel K Hd H σ S) (hn : Hd a = none) (h : OwnAt K Hd H a d) (no : ¬ Ow σ S a) (i : Nat) : Rel K Hd H (σ.set i (some (.ref a))) (S.set i (.own false d)) where
  len := by rw [List.length_set, List.length_set]; exact R.len
  ex := R.ex
  sl := fun j s q => by
    rcases getset q with ⟨rfl, hl, rfl⟩ | ⟨hj, q⟩
    · exact ⟨a, set_self (by rw [R.len]; exact hl), hn, h⟩
    · rw [List.getElem?_set_ne (Ne.symm hj)]; exact R.sl j s q
  inj := fun j k x f e g e' h1 h2 h3 h4 => by
    rcases getset h1 with ⟨rfl, l1, z1⟩ | ⟨hj, h1⟩
    · rcases getset h2 with ⟨rfl, _, _⟩ | ⟨hk, h2⟩
      · rfl
      · rw [set_self (by rw [R.len]; exact l1)] at h3
        rw [List.getElem?_set_ne (Ne.symm hk)] at h4
        cases h3
        exact (no ⟨k, g, e', h2, h4⟩).elim
    · rw [List.getElem?_set_ne (Ne.symm hj)] at h3
      rcases getset h2 with ⟨rfl, l2, z2⟩ | ⟨hk, h2⟩
      · rw [set_self (by rw [R.len]; exact l2)] at h4
        cases h4
        exact (no ⟨j, f, e, by assumption, h3⟩).elim
      · rw [List.getElem?_set_ne (Ne.symm hk)] at h4
        exact R.inj j k x f e g e' (by assumption) h2 h3 h4
/-- nothing is said of a slot any more -/
theorem Rel.drop (R : Rel K Hd H σ S) (i : Nat) (o : Option V) : Rel K Hd H (σ.set i o) (S.set i .no) where
  len := by rw [List.length_set, List.length_set]; exact R.len
  ex := R.ex
  sl := fun j s q => by
    rcases getset q with ⟨rfl, hl, rfl⟩ | ⟨hj, q⟩
    · trivial
    · rw [List.getElem?_set_ne (Ne.symm hj)]; exact R.sl j s q
  inj := fun j k x f e g e' h1 h2 h3 h4 => by
    rcases getset h1 with ⟨_, _, z⟩ | ⟨hj, h1⟩
    · cases z
    · rcases getset h2 with ⟨_, _, z⟩ | ⟨hk, h2⟩
      · cases z
      · rw [List.getElem?_set_ne (Ne.symm hj)] at h3
        rw [List.getElem?_set_ne (Ne.symm hk)] at h4
        exact R.inj j k x f e g e' h1 h2 h3 h4
theorem set_same {α : Type} {l : List α} {i : Nat} {x : α} (h : l[i]? = some x) : l.set i x = l := by
  apply List.ext_getElem?
  intro j
  by_cases z : i = j
  · subst z; rw [set_self (lt_of h)]; exact h.symm
  · rw [List.getElem?_set_ne z]
/-- Ow behind a store -/
theorem Ow.asg {s : Sl} {o : Option V} {b : Addr} (h : Ow (σ.set i o) (S.set i s) b) (len : σ.length = S.length) : Ow σ S b ∨ (∃ f d, s = .own f d ∧ o = some (.ref b)) := by
  obtain ⟨j, f, e, h1, h2⟩ := h
  rcases getset h1 with ⟨rfl, hl, rfl⟩ | ⟨hj, h1⟩
  · rw [set_self (by rw [len]; exact hl)] at h2
    cases h2
    exact .inr ⟨_, _, rfl, rfl⟩
  · rw [List.getElem?_set_ne (Ne.symm hj)] at h2
    exact .inl ⟨j, f, e, h1, h2⟩
def free (S : Ss) (i : Nat) : Prop := match S[i]? with
  | some (.own true _) => False
  | none => False
  | _ => True
theorem free.fx (h : free S i) {j : Nat} {e : D} (q : S[j]? = some (.own true e)) : j ≠ i := by
  rintro rfl
  unfold free at h
  rw [q] at h
  exact h
theorem free.lt (h : free S i) : i < S.length := by
  cases e : S[i]? with
  | none => unfold free at h; rw [e] at h; exact h.elim
  | some s => exact lt_of e
/-- a store into a slot that may be bound anew -/
theorem Go.asg {s : Sl} {o : Option V} (len : σ.length = S.length) (hf : free S i) (hs : ∀ f d b, s = .own f d → o = some (.ref b) → Ow σ S b ∨ H b = none) : Go σ S Hd H (σ.set i o) (S.set i s) Hd H where
  ex := Ex.refl _
  kp := fun _ _ h _ => h
  nw := fun _ _ h => .inl h
  ow := fun b h => by
    rcases Ow.asg h len with q | ⟨f, d, e1, e2⟩
    · exact .inl q
    · exact hs f d b e1 e2
  fx := fun j e q => by
    have ne := hf.fx q
    rw [List.getElem?_set_ne (Ne.symm ne), List.getElem?_set_ne (Ne.symm ne)]
    exact ⟨rfl, e, q⟩
/-- an object that no slot owns becomes a tree -/
theorem Rel.frz1 (R : Rel K Hd H σ S) (hn : Hd a = none) (h : OwnAt K Hd H a d) (no : ¬ Ow σ S a) : ∃ Hd', Ex Hd Hd' ∧ Rel K Hd' H σ S ∧ DV K Hd' (.ref a) d ∧ ∀ b o, Hd' b = some o → Hd b = some o ∨ b = a := by
  obtain ⟨Hd', e1, e2, dv, ad⟩ := h.frz hn R.ex
  refine ⟨Hd', e1, ⟨R.len, e2, fun j s q => ?_, R.inj⟩, dv, ad⟩
  have r := R.sl j s q
  cases s with
  | no => trivial
  | dat d => obtain ⟨v, h1, h2⟩ := r; exact ⟨v, h1, h2.mono e1⟩
  | own f e =>
    obtain ⟨b, h1, h2, h3⟩ := r
    refine ⟨b, h1, ?_, h3.up e1⟩
    cases k : Hd' b with
    | none => rfl
    | some o =>
      rcases ad b o k with z | z
      · rw [h2] at z; cases z
      · subst z; exact (no ⟨j, f, e, q, h1⟩).elim
/-- an owned slot becomes a tree -/
theorem Rel.frzAt (R : Rel K Hd H σ S) (q : S[i]? = some (.own false d)) : ∃ Hd' v, σ[i]? = some (some v) ∧ Go σ S Hd H σ (S.set i (.dat d)) Hd' H ∧ Rel K Hd' H σ (S.set i (.dat d)) ∧ DV K Hd' v d := by
  obtain ⟨a, h1, h2, h3⟩ := R.sl i _ q
  have R1 : Rel K Hd H (σ.set i (some (.ref a))) (S.set i .no) := R.drop i _
  rw [set_same h1] at R1
  have no : ¬ Ow σ (S.set i .no) a := fun ⟨j, f, e, k1, k2⟩ => by
    rcases getset k1 with ⟨_, _, z⟩ | ⟨hj, k1⟩
    · cases z
    · exact hj (R.inj j i a f e false d k1 q k2 h1)
  obtain ⟨Hd', e1, R2, dv, ad⟩ := R1.frz1 h2 h3 no
  have R3 := R2.asg dv i
  rw [set_same h1, List.set_set] at R3
  refine ⟨Hd', _, h1, ⟨e1, fun _ _ h _ => h, fun b o k => ?_, fun b k => ?_, fun j e k => ?_⟩, R3, dv⟩
  · rcases ad b o k with z | z
    · exact .inl z
    · subst z; exact .inr (.inr ⟨i, false, d, q, h1⟩)
  · obtain ⟨j, f, e, k1, k2⟩ := k
    rcases getset k1 with ⟨_, _, z⟩ | ⟨hj, k1⟩
    · cases z
    · exact .inl ⟨j, f, e, k1, k2⟩
  · have ne : j ≠ i := by rintro rfl; rw [q] at k; cases k
    rw [List.getElem?_set_ne (Ne.symm ne)]
    exact ⟨rfl, e, k⟩
end

section
variable {X : Cx} {a b c : Expr} {pos : Pos} {u ua ub : DE}
theorem q_frz {i : Nat} {e : Expr} (h : PE X e (tVar i)) : QE X e (uFrz i) := pimp h fun σ H Q ⟨Hd, S, P, R, hu, q⟩ => by
  unfold uFrz at hu
  split at hu
  · rename_i d e
    obtain ⟨Hd', v, h1, g, R', dv⟩ := R.frzAt e
    exact ⟨v, h1, q v H Hd' d _ g R' dv hu⟩
  · exact hu.elim
/-- what makes an object of its own gives a tree -/
theorem q_f {e : Expr} (h : QF X e u) : QE X e u := pimp h fun σ H Q ⟨Hd, S, P, R, hu, q⟩ => ⟨Hd, S, P, R, hu, fun v H' Hd' d S' g R' ⟨x, ev, hn, no, fr, ow⟩ p => by
  subst ev
  obtain ⟨Hd2, e1, R2, dv, ad⟩ := R'.frz1 hn ow no
  refine q _ H' Hd2 d S' ⟨g.ex.trans e1, g.kp, fun b o k => ?_, g.ow, g.fx⟩ R2 dv p
  rcases ad b o k with z | z
  · exact g.nw b o z
  · subst z
    rcases fr with z | z
    · exact .inr (.inr z)
    · exact .inr (.inl z)⟩

/-! ### statements -/
structure DEnds where
  nx : Ss → Prop
  rt : D → Ss → Prop
  rf : D → Ss → Prop := fun _ _ => False
  bk : Ss → Prop := fun _ => False
  ct : Ss → Prop := fun _ => False
abbrev DS := DEnds → Ss → Prop
/-- a new object at a return: no parameter's -/
def FR (K : PySem.W.Frag) (σ : L2.St) (S : Ss) (H : Hp) (σ' : L2.St) (S' : Ss) (Hd' H' : Hp) (v : V) (d : D) : Prop :=
  ∃ a, v = .ref a ∧ Hd' a = none ∧ (∀ (j : Nat) (e : D), S'[j]? = some (Sl.own true e) → σ'[j]? ≠ some (some (V.ref a))) ∧ (Ow σ S a ∨ H a = none) ∧ OwnAt K Hd' H' a d
structure Lands (K : PySem.W.Frag) (σ : L2.St) (S : Ss) (Hd H : Hp) (F : DEnds) (E : Ends) : Prop where
  nx : ∀ σ' H' Hd' S', Go σ S Hd H σ' S' Hd' H' → Rel K Hd' H' σ' S' → F.nx S' → E.nx σ' H'
  bk : ∀ σ' H' Hd' S', Go σ S Hd H σ' S' Hd' H' → Rel K Hd' H' σ' S' → F.bk S' → E.bk σ' H'
  ct : ∀ σ' H' Hd' S', Go σ S Hd H σ' S' Hd' H' → Rel K Hd' H' σ' S' → F.ct S' → E.ct σ' H'
  rt : ∀ σ' v H' Hd' d S', Go σ S Hd H σ' S' Hd' H' → Rel K Hd' H' σ' S' → DV K Hd' v d → F.rt d S' → E.rt v H'
  rf : ∀ σ' v H' Hd' d S', Go σ S Hd H σ' S' Hd' H' → Rel K Hd' H' σ' S' → FR K σ S H σ' S' Hd' H' v d → F.rf d S' → E.rt v H'
theorem FR.back {K : PySem.W.Frag} {σ σ' σ2 : L2.St} {S S' S2 : Ss} {Hd H Hd' H' Hd2 H2 : Hp} {v : V} {d : D} (g : Go σ S Hd H σ' S' Hd' H') (f : FR K σ' S' H' σ2 S2 Hd2 H2 v d) : FR K σ S H σ2 S2 Hd2 H2 v d := by
  obtain ⟨a, h1, h2, h3, h4, h5⟩ := f
  refine ⟨a, h1, h2, h3, ?_, h5⟩
  rcases h4 with z | z
  · exact g.ow a z
  · exact g.back z
/-- from a later state the ends are reached as well -/
theorem Lands.at {K : PySem.W.Frag} {σ σ' : L2.St} {S S' : Ss} {Hd H Hd' H' : Hp} {F : DEnds} {E : Ends} (L : Lands K σ S Hd H F E) (g : Go σ S Hd H σ' S' Hd' H') : Lands K σ' S' Hd' H' F E where
  nx := fun a b c d g2 R p => L.nx a b c d (g.trans g2) R p
  bk := fun a b c d g2 R p => L.bk a b c d (g.trans g2) R p
  ct := fun a b c d g2 R p => L.ct a b c d (g.trans g2) R p
  rt := fun a b c d e f g2 R dv p => L.rt a b c d e f (g.trans g2) R dv p
  rf := fun a b c d e f g2 R fr p => L.rf a b c d e f (g.trans g2) R (fr.back g) p
def tUS (K : PySem.W.Frag) (u : DS) : TS := fun E σ H => ∃ (Hd : Hp) (S : Ss) (F : DEnds), Rel K Hd H σ S ∧ u F S ∧ Lands K σ S Hd H F E
abbrev QS (X : Cx) (st : Stmt) (u : DS) : Prop := PS X st (tUS X.K u)
abbrev QSs (X : Cx) (st : List Stmt) (u : DS) : Prop := PSs X st (tUS X.K u)

def uNext : DS := fun F S => F.nx S
def uSeq (u w : DS) : DS := fun F S => u { F with nx := w F } S
variable {st : Stmt} {sts : List Stmt} {us ws : DS}
theorem ss_nil : QSs X [] uNext := pimpSs pss_nil fun E σ H ⟨Hd, S, F, R, hu, L⟩ => L.nx σ H Hd S Go.refl R hu
theorem ss_one (h : QS X st us) : QSs X [st] us := pss_one h
theorem ss_cons (h : QS X st us) (k : QSs X sts ws) : QSs X (st :: sts) (uSeq us ws) := pimpSs (pss_cons h k) fun E σ H ⟨Hd, S, F, R, hu, L⟩ =>
  ⟨Hd, S, _, R, hu, ⟨fun σ' H' Hd' S' g R' p => ⟨Hd', S', F, R', p, L.at g⟩, L.bk, L.ct, L.rt, L.rf⟩⟩
theorem s_pass : QS X (.Pass pos) uNext := pimpS ps_pass fun E σ H ⟨Hd, S, F, R, hu, L⟩ => L.nx σ H Hd S Go.refl R hu
def uBreak : DS := fun F S => F.bk S
def uCont : DS := fun F S => F.ct S
theorem s_break : QS X (.Break pos) uBreak := pimpS ps_break fun E σ H ⟨Hd, S, F, R, hu, L⟩ => L.bk σ H Hd S Go.refl R hu
theorem s_cont : QS X (.Continue pos) uCont := pimpS ps_continue fun E σ H ⟨Hd, S, F, R, hu, L⟩ => L.ct σ H Hd S Go.refl R hu
def uNever : DS := fun _ _ => False
theorem s_never : QS X st uNever := pimpS ps_never fun E σ H ⟨_, _, _, _, hu, _⟩ => hu
theorem ss_never : QSs X sts uNever := pimpSs pss_never fun E σ H ⟨_, _, _, _, hu, _⟩ => hu
def uDrop (u : DE) : DS := fun F S => u S fun _ S1 => F.nx S1
theorem s_expr {e : Expr} (h : QE X e u) (hs : swapsWith e none pos.line X.env = pure false := by rfl) : QS X (.Expr e pos) (uDrop u) := pimpS (ps_expr h hs) fun E σ H ⟨Hd, S, F, R, hu, L⟩ =>
  ⟨Hd, S, _, R, hu, fun v H' Hd' d S' g R' dv p => L.nx σ H' Hd' S' g R' p⟩
def uRet (u : DE) : DS := fun F S => u S F.rt
theorem s_ret {e : Expr} (h : QE X e u) : QS X (.Return (some e) pos) (uRet u) := pimpS (ps_ret h) fun E σ H ⟨Hd, S, F, R, hu, L⟩ =>
  ⟨Hd, S, _, R, hu, fun v H' Hd' d S' g R' dv p => L.rt σ v H' Hd' d S' g R' dv p⟩
def uRetF (u : DE) : DS := fun F S => u S F.rf
theorem s_retF {e : Expr} (h : QF X e u) : QS X (.Return (some e) pos) (uRetF u) := pimpS (ps_ret h) fun E σ H ⟨Hd, S, F, R, hu, L⟩ =>
  ⟨Hd, S, _, R, hu, fun v H' Hd' d S' g R' ⟨x, e1, e2, e3, e4, e5⟩ p => L.rf σ v H' Hd' d S' g R' ⟨x, e1, e2, fun j e z1 z2 => e3 ⟨j, true, e, z1, z2⟩, e4, e5⟩ p⟩
/-- return x, x an owned local: the object goes to the caller -/
def uRetO (i : Nat) : DS := fun F S => match S[i]? with
  | some (.own false d) => F.rf d S
  | _ => False
theorem s_retO {i : Nat} {e : Expr} (h : PE X e (tVar i)) : QS X (.Return (some e) pos) (uRetO i) := pimpS (ps_ret h) fun E σ H ⟨Hd, S, F, R, hu, L⟩ => by
  unfold uRetO at hu
  split at hu
  · rename_i d e
    obtain ⟨x, h1, h2, h3⟩ := R.sl i _ e
    refine ⟨_, h1, L.rf σ _ H Hd d S Go.refl R ⟨x, rfl, h2, fun j e' z1 z2 => ?_, .inl ⟨i, false, d, e, h1⟩, h3⟩ hu⟩
    have := R.inj j i x true e' false d z1 e z2 h1
    subst this
    rw [e] at z1; cases z1
  · exact hu.elim
def uRetN : DS := fun F S => F.rt .non S
theorem s_retN : QS X (.Return none pos) uRetN := pimpS ps_retN fun E σ H ⟨Hd, S, F, R, hu, L⟩ => L.rt σ .non H Hd .non S Go.refl R .non hu
def uIf (ut : DT) (u w : DS) : DS := fun F S => ut S fun b S1 => match b with
  | true => u F S1
  | false => w F S1
theorem s_if {c : Expr} {x y : List Stmt} {ut : DT} (hc : QT X c ut) (ha : QSs X x us) (hb : QSs X y ws) : QS X (.If c x y pos) (uIf ut us ws) := pimpS (ps_if hc ha hb) fun E σ H ⟨Hd, S, F, R, hu, L⟩ =>
  ⟨Hd, S, _, R, hu, fun b H1 Hd1 S1 g1 R1 h1 => by
    cases b with
    | true => exact ⟨Hd1, S1, F, R1, h1, L.at g1⟩
    | false => exact ⟨Hd1, S1, F, R1, h1, L.at g1⟩⟩
/-- x = e -/
def uSet (i : Nat) (u : DE) : DS := fun F S => u S fun d S1 => free S1 i ∧ F.nx (S1.set i (.dat d))
def uSetO (i : Nat) (u : DE) : DS := fun F S => u S fun d S1 => free S1 i ∧ F.nx (S1.set i (.own false d))
theorem asg_at {K : PySem.W.Frag} {u : DE} {i : Nat} {E : Ends} {σ : L2.St} {H : Hp} (h : tUS K (uSet i u) E σ H) : tAsg (tU K u) (gName i) E σ H := by
  obtain ⟨Hd, S, F, R, hu, L⟩ := h
  refine ⟨Hd, S, _, R, hu, fun v H1 Hd1 d S1 g1 R1 dv p => ?_⟩
  exact L.nx _ H1 Hd1 _ (g1.trans (Go.asg R1.len p.1 fun f e b z _ => by cases z)) (R1.asg dv i) p.2
theorem asgF_at {K : PySem.W.Frag} {u : DE} {i : Nat} {E : Ends} {σ : L2.St} {H : Hp} (h : tUS K (uSetO i u) E σ H) : tAsg (tF K u) (gName i) E σ H := by
  obtain ⟨Hd, S, F, R, hu, L⟩ := h
  refine ⟨Hd, S, _, R, hu, fun v H1 Hd1 d S1 g1 R1 ⟨x, e1, e2, e3, e4, e5⟩ p => ?_⟩
  subst e1
  refine L.nx _ H1 Hd1 _ ⟨g1.ex, g1.kp, g1.nw, fun b z => ?_, fun j e z => ?_⟩ (R1.asgO e2 e5 e3 i) p.2
  · rcases Ow.asg z R1.len with z | ⟨f, e, _, z⟩
    · exact g1.ow b z
    · cases z; exact e4
  · obtain ⟨k1, e', k2⟩ := g1.fx j e z
    have ne := p.1.fx k2
    rw [List.getElem?_set_ne (Ne.symm ne), List.getElem?_set_ne (Ne.symm ne)]
    exact ⟨k1, e', k2⟩
theorem s_set {i : Nat} {x : Str} {e : Expr} {pos' : Pos} (hN : X.N.Nodup) (hi : X.N[i]? = some x) (hx : Loc X.env.scope x) (h : QE X e u) (hs : swapsWith e (some (.Name x pos')) pos.line X.env = pure false := by rfl)
    (hf : X.fn x = true ∨ X.env.scope.names.lookup x = some .local := by first | exact .inl rfl | exact .inr rfl | assumption) : QS X (.Assign [.Name x pos'] e pos) (uSet i u) := pimpS (ps_set hN hi hx h hs hf) fun E σ H q => asg_at q
theorem s_setF {i : Nat} {x : Str} {e : Expr} {pos' : Pos} (hN : X.N.Nodup) (hi : X.N[i]? = some x) (hx : Loc X.env.scope x) (h : QF X e u) (hs : swapsWith e (some (.Name x pos')) pos.line X.env = pure false := by rfl)
    (hf : X.fn x = true ∨ X.env.scope.names.lookup x = some .local := by first | exact .inl rfl | exact .inr rfl | assumption) : QS X (.Assign [.Name x pos'] e pos) (uSetO i u) := pimpS (ps_set hN hi hx h hs hf) fun E σ H q => asgF_at q
end
end TL

namespace TL
open PySem L2 Evl

/-! ### targets: a name, or a tuple of targets -/
inductive Tg where
  | nm (i : Nat) | tp (ts : List Tg)
mutual
def Tg.t (K : PySem.W.Frag) : Tg → TG
  | .nm i => gName i
  | .tp ts => gTup K ts.length (Tg.tL K ts)
def Tg.tL (K : PySem.W.Frag) : List Tg → TGs
  | [] => gNil
  | t :: ts => gCons (Tg.t K t) (Tg.tL K ts)
end
mutual
def Tg.u : Tg → D → Ss → (Ss → Prop) → Prop
  | .nm i => fun d S P => free S i ∧ P (S.set i (.dat d))
  | .tp ts => fun d S P => match d with
    | .tup ds => ds.length = ts.length ∧ Tg.uL ts ds S P
    | _ => False
def Tg.uL : List Tg → List D → Ss → (Ss → Prop) → Prop
  | [] => fun ds S P => match ds with
    | [] => P S
    | _ :: _ => False
  | t :: ts => fun ds S P => match ds with
    | [] => False
    | d :: ds => Tg.u t d S fun S1 => Tg.uL ts ds S1 P
end
mutual
def Tg.ix : Tg → List Nat
  | .nm i => [i]
  | .tp ts => Tg.ixL ts
def Tg.ixL : List Tg → List Nat
  | [] => []
  | t :: ts => Tg.ix t ++ Tg.ixL ts
end
theorem wipe_get (σ : L2.St) (j : Nat) : ∀ vs : List Nat, (wipe σ vs)[j]? = if j ∈ vs then (σ[j]?).map (fun _ => none) else σ[j]?
  | [] => by simp [wipe]
  | v :: vs => by
    unfold wipe
    by_cases h : v = j
    · subst h
      by_cases hl : v < (wipe σ vs).length
      · rw [List.getElem?_set_self hl]
        have hl2 : v < σ.length := by rw [wipe_length] at hl; exact hl
        simp [hl2]
      · rw [List.getElem?_eq_none (by simpa using hl)]
        have hl2 : ¬ v < σ.length := by rw [wipe_length] at hl; exact hl
        simp [List.getElem?_eq_none (by omega : σ.length ≤ v)]
    · rw [List.getElem?_set_ne h, wipe_get σ j vs]
      have e : (j ∈ v :: vs) ↔ j ∈ vs := by simp [Ne.symm h]
      by_cases hj : j ∈ vs
      · simp [hj]
      · simp [hj, Ne.symm h]
theorem wipe_set (σ : L2.St) {i : Nat} {vs : List Nat} {o : Option V} (h : i ∈ vs) : wipe (σ.set i o) vs = wipe σ vs := by
  apply List.ext_getElem?
  intro j
  rw [wipe_get, wipe_get]
  by_cases hj : j ∈ vs
  · rw [if_pos hj, if_pos hj]
    by_cases z : i = j
    · subst z
      by_cases hl : i < σ.length
      · rw [List.getElem?_set_self hl]; simp [hl]
      · rw [List.getElem?_eq_none (by simpa using hl), List.getElem?_eq_none (by simpa using hl)]
    · rw [List.getElem?_set_ne z]
  · rw [if_neg hj, if_neg hj]
    have z : i ≠ j := by rintro rfl; exact hj h
    rw [List.getElem?_set_ne z]
section
variable {K : PySem.W.Frag} {Hd H : Hp}
mutual
theorem Tg.sim : ∀ (t : Tg) {σ : L2.St} {S : Ss} {v : V} {d : D} {P : Ss → Prop} {Q : L2.St → Hp → Prop}, Rel K Hd H σ S → DV K Hd v d → t.u d S P →
    (∀ σ' S', Go σ S Hd H σ' S' Hd H → Rel K Hd H σ' S' → P S' → (∀ vs : List Nat, (∀ i ∈ t.ix, i ∈ vs) → wipe σ' vs = wipe σ vs) → Q σ' H) → t.t K v σ H Q
  | .nm i, σ, S, v, d, P, Q, R, dv, hu, k => by
    simp only [Tg.u] at hu
    simp only [Tg.t]
    exact k _ _ (Go.asg R.len hu.1 fun f e b z _ => by cases z) (R.asg dv i) hu.2 fun vs h => wipe_set σ (h i (by simp [Tg.ix]))
  | .tp ts, σ, S, v, d, P, Q, R, dv, hu, k => by
    simp only [Tg.u] at hu
    simp only [Tg.t]
    cases dv with
    | tup h1 h2 => exact ⟨_, _, rfl, ex_t R.ex h1, h2.len.trans hu.1, Tg.simL ts R h2 hu.2 fun σ' S' g R' p w => k σ' S' g R' p fun vs h => w vs fun i hi => h i (by simpa [Tg.ix] using hi)⟩
    | non => exact hu.elim
    | bl b => exact hu.elim
    | int i => exact hu.elim
    | str x => exact hu.elim
    | ty n => exact hu.elim
    | fn x => exact hu.elim
    | lst _ _ => exact hu.elim
    | dct _ _ _ => exact hu.elim
    | obj _ _ _ => exact hu.elim
    | scr _ => exact hu.elim
theorem Tg.simL : ∀ (ts : List Tg) {σ : L2.St} {S : Ss} {vs : List V} {ds : List D} {P : Ss → Prop} {Q : L2.St → Hp → Prop}, Rel K Hd H σ S → DVs K Hd vs ds → Tg.uL ts ds S P →
    (∀ σ' S', Go σ S Hd H σ' S' Hd H → Rel K Hd H σ' S' → P S' → (∀ ws : List Nat, (∀ i ∈ Tg.ixL ts, i ∈ ws) → wipe σ' ws = wipe σ ws) → Q σ' H) → Tg.tL K ts vs σ H Q
  | [], σ, S, vs, ds, P, Q, R, dv, hu, k => by
    simp only [Tg.uL] at hu
    simp only [Tg.tL]
    cases dv with
    | nil => exact ⟨rfl, k σ S Go.refl R hu fun _ _ => rfl⟩
    | cons _ _ => exact hu.elim
  | t :: ts, σ, S, vs, ds, P, Q, R, dv, hu, k => by
    simp only [Tg.uL] at hu
    simp only [Tg.tL]
    cases dv with
    | nil => exact hu.elim
    | cons h1 h2 =>
      refine ⟨_, _, rfl, Tg.sim t R h1 hu fun σ1 S1 g1 R1 p1 w1 => ?_⟩
      exact Tg.simL ts R1 h2 p1 fun σ2 S2 g2 R2 p2 w2 => k σ2 S2 (g1.trans g2) R2 p2 fun ws h => (w2 ws fun i hi => h i (by simp [Tg.ixL, hi])).trans (w1 ws fun i hi => h i (by simp [Tg.ixL, hi]))
end
end
section
variable {X : Cx} {pos : Pos}
theorem g_nm {i : Nat} {x : Str} (hN : X.N.Nodup) (hi : X.N[i]? = some x) (hx : Loc X.env.scope x) (hf : X.fn x = true ∨ X.env.scope.names.lookup x = some .local := by first | exact .inl rfl | exact .inr rfl | assumption) : PG X (.Name x pos) ((Tg.nm i).t X.K) := by
  simp only [Tg.t]; exact pg_name hN hi hx hf
theorem gs_nil : PGs X [] (Tg.tL X.K []) := by simp only [Tg.tL]; exact pgs_nil
theorem gs_cons {e : Expr} {es : List Expr} {t : Tg} {ts : List Tg} (h1 : PG X e (t.t X.K)) (h2 : PGs X es (Tg.tL X.K ts)) (hs : (assignEach (e :: es) X.env).map (·.2) = assign e X.env :: (assignEach es X.env).map (·.2) := by rfl) : PGs X (e :: es) (Tg.tL X.K (t :: ts)) := by
  simp only [Tg.tL]; exact pgs_cons h1 h2 hs
theorem g_tp {es : List Expr} {k : Nat} {ts : List Tg} (hc : X.calm = true) (h : PGs X es (Tg.tL X.K ts)) (hn : (assignEach es X.env).length = ts.length := by rfl) (hst : (assignEach es X.env).findIdx? (·.1) = none := by rfl) : PG X (.Tuple es k pos) ((Tg.tp ts).t X.K) := by
  simp only [Tg.t]; exact pg_tup hc h hn hst
/-- targets = e -/
def uAsg (t : Tg) (u : DE) : DS := fun F S => u S fun d S1 => t.u d S1 F.nx
theorem s_asg {tg e : Expr} {t : Tg} {u : DE} (h : QE X e u) (hg : PG X tg (t.t X.K)) (hs : swapsWithSole [tg] e pos.line X.env = pure false := by rfl) (hw : swappedStores [tg] e X.env = pure none := by rfl)
    (h1 : (assignEach [tg] X.env).map (·.2) = [assign tg X.env] := by rfl) : QS X (.Assign [tg] e pos) (uAsg t u) := pimpS (ps_asg h hg hs hw h1) fun E σ H ⟨Hd, S, F, R, hu, L⟩ =>
  ⟨Hd, S, _, R, hu, fun v H1 Hd1 d S1 g1 R1 dv p => t.sim R1 dv p fun σ2 S2 g2 R2 p2 _ => L.nx σ2 H1 Hd1 S2 (g1.trans g2) R2 p2⟩
end

/-! ### what is walked -/
def YD (K : PySem.W.Frag) (Hd : Hp) (ds : List D) : Nat → Hp → V → Hp → Prop := fun i H x H' => ∀ Hd1, Ex Hd Hd1 → Ex Hd1 H → ∃ Hd2 d, ds[i]? = some d ∧ Gr Hd1 H Hd2 H' ∧ DV K Hd2 x d
abbrev WK (K : PySem.W.Frag) (Hd : Hp) (J : It) (ds : List D) : Prop := Walk J ds.length (fun H => Ex Hd H) (YD K Hd ds)
def tUI (K : PySem.W.Frag) (u : DA) : TI := fun σ H R => ∃ (Hd : Hp) (S : Ss) (P : List D → Ss → Prop), Rel K Hd H σ S ∧ u S P ∧
  ∀ J H' Hd' ds S', Go σ S Hd H σ S' Hd' H' → Rel K Hd' H' σ S' → WK K Hd' J ds → P ds S' → R J H'
abbrev QI (X : Cx) (tg iter : Expr) (u : DA) : Prop := PI X tg iter (tUI X.K u)
theorem pimpI {X : Cx} {tg e : Expr} {t t' : TI} (h : PI X tg e t) (k : ∀ σ H Q, t' σ H Q → t σ H Q) : PI X tg e t' := ⟨fun pins s σ H Q I w => h.run pins s σ H Q I (k σ H Q w)⟩
section
variable {X : Cx} {tg e : Expr} {u : DE} {pos p : Pos}
def uIL (u : DE) : DA := fun S P => u S fun d S1 => match d with
  | .lst ds => P ds S1
  | _ => False
def uIT (u : DE) : DA := fun S P => u S fun d S1 => match d with
  | .tup ds => P ds S1
  | _ => False
def signs (x : Str) : List D := x.cps.toList.map fun c => .str ⟨#[c]⟩
def uIS (u : DE) : DA := fun S P => u S fun d S1 => match d with
  | .str x => P (signs x) S1
  | _ => False
theorem i_list (h : QE X e u) : QI X tg e (uIL u) := pimpI (pi_list h) fun σ H Q ⟨Hd, S, P, R, hu, q⟩ => ⟨Hd, S, _, R, hu, fun v H1 Hd1 d S1 g1 R1 dv p => by
  cases dv with
  | @lst a xs ds h1 h2 =>
    refine ⟨a, rfl, ⟨xs, .inl (ex_rd R1.ex h1)⟩, q _ H1 Hd1 ds S1 g1 R1 ?_ p⟩
    have w := (walk_list (K := X.K) (a := a) (xs := xs)).mono (G' := fun H => Ex Hd1 H) (Y' := YD X.K Hd1 ds) (fun H e => .inl (ex_rd e h1)) fun i H x H' hi e y => by
      obtain ⟨rfl, y⟩ := y
      intro Hd2 e1 e2
      obtain ⟨d, hd, dx⟩ := h2.get' y
      exact ⟨Hd2, d, hd, Gr.refl e2, dx.mono e1⟩
    rw [h2.len] at w
    exact w
  | non => exact p.elim
  | bl b => exact p.elim
  | int i => exact p.elim
  | str x => exact p.elim
  | ty n => exact p.elim
  | fn x => exact p.elim
  | tup _ _ => exact p.elim
  | dct _ _ _ => exact p.elim
  | obj _ _ _ => exact p.elim
  | scr _ => exact p.elim⟩
theorem i_tup (h : QE X e u) : QI X tg e (uIT u) := pimpI (pi_tup h) fun σ H Q ⟨Hd, S, P, R, hu, q⟩ => ⟨Hd, S, _, R, hu, fun v H1 Hd1 d S1 g1 R1 dv p => by
  cases dv with
  | @tup a xs ds h1 h2 =>
    refine ⟨a, rfl, ⟨xs, ex_t R1.ex h1⟩, q _ H1 Hd1 ds S1 g1 R1 ?_ p⟩
    have w := (walk_tup (K := X.K) (a := a) (xs := xs)).mono (G' := fun H => Ex Hd1 H) (Y' := YD X.K Hd1 ds) (fun H e => ex_t e h1) fun i H x H' hi e y => by
      obtain ⟨rfl, y⟩ := y
      intro Hd2 e1 e2
      obtain ⟨d, hd, dx⟩ := h2.get' y
      exact ⟨Hd2, d, hd, Gr.refl e2, dx.mono e1⟩
    rw [h2.len] at w
    exact w
  | non => exact p.elim
  | bl b => exact p.elim
  | int i => exact p.elim
  | str x => exact p.elim
  | ty n => exact p.elim
  | fn x => exact p.elim
  | lst _ _ => exact p.elim
  | dct _ _ _ => exact p.elim
  | obj _ _ _ => exact p.elim
  | scr _ => exact p.elim⟩
theorem wk_str {K : PySem.W.Frag} {Hd : Hp} (x : Str) : WK K Hd (Its x) (signs x) := by
  have w := (walk_str (z := x)).mono (G' := fun H => Ex Hd H) (Y' := YD K Hd (signs x)) (fun H e => trivial) fun i H v H' hi e y => by
    obtain ⟨rfl, c, hc, rfl⟩ := y
    intro Hd2 e1 e2
    refine ⟨Hd2, .str ⟨#[c]⟩, ?_, Gr.refl e2, .str _⟩
    unfold signs
    rw [List.getElem?_map, Array.getElem?_toList, hc]; rfl
  have e : (signs x).length = x.cps.size := by unfold signs; simp
  rw [← e] at w
  exact w
theorem i_str (h : QE X e u) : QI X tg e (uIS u) := pimpI (pi_str h) fun σ H Q ⟨Hd, S, P, R, hu, q⟩ => ⟨Hd, S, _, R, hu, fun v H1 Hd1 d S1 g1 R1 dv p => by
  cases dv with
  | str x => exact ⟨x, rfl, q _ H1 Hd1 _ S1 g1 R1 (wk_str x) p⟩
  | non => exact p.elim
  | bl b => exact p.elim
  | int i => exact p.elim
  | tup _ _ => exact p.elim
  | ty n => exact p.elim
  | fn x => exact p.elim
  | lst _ _ => exact p.elim
  | dct _ _ _ => exact p.elim
  | obj _ _ _ => exact p.elim
  | scr _ => exact p.elim⟩
def irange (lo : Int) (n : Nat) : List D := (List.range n).map fun i => .int (lo + (i : Nat))
theorem irange_len (lo : Int) (n : Nat) : (irange lo n).length = n := by unfold irange; simp
theorem irange_get {lo : Int} {n i : Nat} {d : D} (h : (irange lo n)[i]? = some d) : i < n ∧ d = .int (lo + (i : Nat)) := by
  unfold irange at h
  rw [List.getElem?_map] at h
  by_cases hi : i < n
  · rw [List.getElem?_range hi] at h; cases h; exact ⟨hi, rfl⟩
  · rw [List.getElem?_eq_none (by simpa using hi)] at h; cases h
theorem wk_range {K : PySem.W.Frag} {Hd : Hp} (lo : Int) (n : Nat) : WK K Hd (Itr lo n) (irange lo n) := by
  have w := (walk_range (lo := lo) (n := n)).mono (G' := fun H => Ex Hd H) (Y' := YD K Hd (irange lo n)) (fun H e => trivial) fun i H v H' hi e y => by
    obtain ⟨rfl, rfl⟩ := y
    intro Hd2 e1 e2
    refine ⟨Hd2, .int (lo + (i : Nat)), ?_, Gr.refl e2, .int _⟩
    unfold irange
    rw [List.getElem?_map, List.getElem?_range hi]; rfl
  show Walk (Itr lo n) (irange lo n).length _ _
  rw [irange_len lo n]
  exact w
def uIR1 (w : DA) : DA := fun S P => w S fun ds S1 => match ds with
  | [.int j] => -(2 ^ 62) ≤ j ∧ j < 2 ^ 62 ∧ P (irange 0 j.toNat) S1
  | _ => False
def uIR2 (w : DA) : DA := fun S P => w S fun ds S1 => match ds with
  | [.int i, .int j] => (-(2 ^ 62) ≤ i ∧ i < 2 ^ 62 ∧ -(2 ^ 62) ≤ j ∧ j < 2 ^ 62) ∧ P (irange i (j - i).toNat) S1
  | _ => False
theorem i_range1 {a : Expr} {w : DA} (hg : Gl X "range") (hm : X.mg "range" = none) (ha : QA X [a] w) (hs : starEach [a] X.env = [(false, eval a X.env)] := by rfl) : QI X tg (.Call (.Name "range" p) [a] [] pos) (uIR1 w) :=
  pimpI (pi_range1 hg hm ha hs) fun σ H Q ⟨Hd, S, P, R, hu, q⟩ => ⟨Hd, S, _, R, hu, fun vs H1 Hd1 ds S1 g1 R1 dv p => by
    split at p
    · rename_i j
      cases dv with
      | cons h1 h2 =>
        cases h1
        cases h2
        exact ⟨j, rfl, p.1, p.2.1, q _ H1 Hd1 _ S1 g1 R1 (wk_range 0 _) p.2.2⟩
    · exact p.elim⟩
theorem i_range2 {a b : Expr} {w : DA} (hg : Gl X "range") (hm : X.mg "range" = none) (ha : QA X [a, b] w) (hs : starEach [a, b] X.env = [(false, eval a X.env), (false, eval b X.env)] := by rfl) (hs2 : starEach [b] X.env = [(false, eval b X.env)] := by rfl) :
    QI X tg (.Call (.Name "range" p) [a, b] [] pos) (uIR2 w) :=
  pimpI (pi_range2 hg hm ha hs hs2) fun σ H Q ⟨Hd, S, P, R, hu, q⟩ => ⟨Hd, S, _, R, hu, fun vs H1 Hd1 ds S1 g1 R1 dv p => by
    split at p
    · rename_i i j
      cases dv with
      | cons h1 h2 =>
        cases h1
        cases h2 with
        | cons h1 h2 =>
          cases h1
          cases h2
          exact ⟨i, j, rfl, p.1, q _ H1 Hd1 _ S1 g1 R1 (wk_range i _) p.2⟩
    · exact p.elim⟩

/-! ### for, while -/
def uFor (ui : DA) (t : Tg) (ub : DS) : DS := fun F S => ui S fun ds S1 => ∃ I : Nat → Ss → Prop, I 0 S1 ∧
  (∀ i d S, ds[i]? = some d → I i S → t.u d S fun S2 => ub { F with nx := I (i + 1), ct := I (i + 1), bk := F.nx } S2) ∧ ∀ S, I ds.length S → F.nx S
theorem s_for {iter : Expr} {body : List Stmt} {ui : DA} {t : Tg} {ub : DS} (hp : PassesOwn (model X.prog X.w) X.A X.env X.xe) (hc : X.calm = true) (hi : QI X tg iter ui) (hg : PG X tg (t.t X.K)) (hb : QSs X body ub)
    (hs : ∀ x, foldedSetIterable iter X.env x = pure x := by intro _; rfl) : QS X (.For tg iter body [] pos) (uFor ui t ub) := pimpS (ps_for hp hc hi hg hb hs) fun E σ H ⟨Hd, S, F, R, hu, L⟩ =>
  ⟨Hd, S, _, R, hu, fun J H1 Hd1 ds S1 g1 R1 w ⟨I, h0, hs, hd⟩ => by
    refine for_it w (fun i σ' H' => ∃ Hd' S', Go σ S Hd H σ' S' Hd' H' ∧ Ex Hd1 Hd' ∧ Rel X.K Hd' H' σ' S' ∧ I i S') ⟨Hd1, S1, g1, Ex.refl _, R1, h0⟩ (fun i σ' H' _ ⟨Hd', S', _, e, R', _⟩ => e.trans R'.ex) (fun i x σ' H' H2 hi ⟨Hd', S', g', e', R', hI⟩ y => ?_) fun σ' H' ⟨Hd', S', g', _, R', hI⟩ => L.nx σ' H' Hd' S' g' R' (hd S' hI)
    obtain ⟨Hd2, d, hd2, gr, dv⟩ := y Hd' e' R'.ex
    refine t.sim (R'.grow gr) dv (hs i d S' hd2 hI) fun σ3 S3 g3 R3 p3 _ => ?_
    have g4 := (g'.trans gr.go).trans g3
    have stp : ∀ σ5 H5 Hd5 S5, Go σ3 S3 Hd2 H2 σ5 S5 Hd5 H5 → Rel X.K Hd5 H5 σ5 S5 → I (i + 1) S5 → ∃ Hd' S', Go σ S Hd H σ5 S' Hd' H5 ∧ Ex Hd1 Hd' ∧ Rel X.K Hd' H5 σ5 S' ∧ I (i + 1) S' := fun σ5 H5 Hd5 S5 g5 R5 p5 => ⟨Hd5, S5, g4.trans g5, (e'.trans gr.ex).trans g5.ex, R5, p5⟩
    have L2 := L.at g4
    exact ⟨Hd2, S3, _, R3, p3, ⟨stp, L2.nx, stp, L2.rt, L2.rf⟩⟩⟩
def uWhile (ut : DT) (ub : DS) : DS := fun F S => ∃ I : Nat → Ss → Prop, (∃ m, I m S) ∧
  ∀ m S, I m S → ut S fun b S1 => match b with
    | true => ub { F with nx := fun S2 => ∃ m', m' < m ∧ I m' S2, ct := fun S2 => ∃ m', m' < m ∧ I m' S2, bk := F.nx } S1
    | false => F.nx S1
theorem s_while {c : Expr} {body : List Stmt} {ut : DT} {ub : DS} (hp : PassesOwn (model X.prog X.w) X.A X.env X.xe) (hc : QT X c ut) (hb : QSs X body ub) : QS X (.While c body [] pos) (uWhile ut ub) := pimpS (ps_while hp hc hb) fun E σ H ⟨Hd, S, F, R, ⟨I, ⟨m0, h0⟩, hs⟩, L⟩ => by
  refine ⟨fun m σ' H' => ∃ Hd' S', Go σ S Hd H σ' S' Hd' H' ∧ Rel X.K Hd' H' σ' S' ∧ I m S', ⟨m0, Hd, S, Go.refl, R, h0⟩, fun m σ' H' ⟨Hd', S', g', R', hI⟩ => ?_⟩
  refine ⟨Hd', S', _, R', hs m S' hI, fun b H2 Hd2 S2 g2 R2 p2 => ?_⟩
  have g3 := g'.trans g2
  cases b with
  | false => exact L.nx σ' H2 Hd2 S2 g3 R2 p2
  | true =>
    have L2 := L.at g3
    have stp : ∀ σ5 H5 Hd5 S5, Go σ' S2 Hd2 H2 σ5 S5 Hd5 H5 → Rel X.K Hd5 H5 σ5 S5 → (∃ m', m' < m ∧ I m' S5) → ∃ m', m' < m ∧ ∃ Hd' S', Go σ S Hd H σ5 S' Hd' H5 ∧ Rel X.K Hd' H5 σ5 S' ∧ I m' S' := fun σ5 H5 Hd5 S5 g5 R5 ⟨m', hm, p5⟩ => ⟨m', hm, Hd5, S5, g3.trans g5, R5, p5⟩
    exact ⟨_, fun σ5 H5 z => z, Hd2, S2, _, R2, p2, ⟨stp, L2.nx, stp, L2.rt, L2.rf⟩⟩
end
end TL

namespace TL
open PySem L2 Evl

/-! ### list comprehensions -/
def clr (S : Ss) : List Nat → Ss
  | [] => S
  | v :: vs => (clr S vs).set v .no
def res (A S : Ss) : List Nat → Ss
  | [] => S
  | v :: vs => (res A S vs).set v (A.getD v .no)
def noOwn (S : Ss) : List Nat → Prop
  | [] => True
  | v :: vs => (match S[v]? with
    | some (.own _ _) => False
    | _ => True) ∧ noOwn S vs
theorem noOwn.at {S : Ss} {f : Bool} {d : D} : ∀ {vs : List Nat} {v : Nat}, noOwn S vs → v ∈ vs → S[v]? ≠ some (.own f d)
  | [], _, _, h => by simp at h
  | w :: vs, v, hn, h => by
    rcases List.mem_cons.mp h with e | e
    · subst e
      intro z
      have q := hn.1
      rw [z] at q
      exact q
    · exact noOwn.at hn.2 e
theorem clr_len (S : Ss) : ∀ vs : List Nat, (clr S vs).length = S.length
  | [] => rfl
  | v :: vs => by unfold clr; rw [List.length_set, clr_len S vs]
theorem res_len (A S : Ss) : ∀ vs : List Nat, (res A S vs).length = S.length
  | [] => rfl
  | v :: vs => by unfold res; rw [List.length_set, res_len A S vs]
theorem clr_get {S : Ss} {j : Nat} {s : Sl} : ∀ {vs : List Nat}, (clr S vs)[j]? = some s → (j ∈ vs ∧ s = .no) ∨ (j ∉ vs ∧ S[j]? = some s)
  | [], h => .inr ⟨by simp, h⟩
  | v :: vs, h => by
    unfold clr at h
    rcases getset h with ⟨rfl, _, e⟩ | ⟨hj, h⟩
    · exact .inl ⟨by simp, e⟩
    · rcases clr_get h with ⟨h1, h2⟩ | ⟨h1, h2⟩
      · exact .inl ⟨by simp [h1], h2⟩
      · exact .inr ⟨by simp [h1, hj], h2⟩
theorem clr_out {S : Ss} {j : Nat} : ∀ {vs : List Nat}, j ∉ vs → (clr S vs)[j]? = S[j]?
  | [], _ => rfl
  | v :: vs, h => by
    unfold clr
    have h1 : v ≠ j := by rintro rfl; simp at h
    rw [List.getElem?_set_ne h1]
    exact clr_out fun z => h (by simp [z])
theorem res_get {A S : Ss} {j : Nat} {s : Sl} (hl : A.length = S.length) : ∀ {vs : List Nat}, (res A S vs)[j]? = some s → (j ∈ vs ∧ A[j]? = some s) ∨ (j ∉ vs ∧ S[j]? = some s)
  | [], h => .inr ⟨by simp, h⟩
  | v :: vs, h => by
    unfold res at h
    rcases getset h with ⟨rfl, l, e⟩ | ⟨hj, h⟩
    · rw [res_len, ← hl] at l
      refine .inl ⟨by simp, ?_⟩
      rw [e, List.getElem?_eq_getElem l]
      simp [List.getD, List.getElem?_eq_getElem l]
    · rcases res_get hl h with ⟨h1, h2⟩ | ⟨h1, h2⟩
      · exact .inl ⟨by simp [h1], h2⟩
      · exact .inr ⟨by simp [h1, hj], h2⟩
theorem res_out {A S : Ss} {j : Nat} : ∀ {vs : List Nat}, j ∉ vs → (res A S vs)[j]? = S[j]?
  | [], _ => rfl
  | v :: vs, h => by
    unfold res
    have h1 : v ≠ j := by rintro rfl; simp at h
    rw [List.getElem?_set_ne h1]
    exact res_out fun z => h (by simp [z])
section
variable {K : PySem.W.Frag} {Hd H Hd2 H2 Hd5 H5 : Hp} {σ σ3 : L2.St} {S S5 : Ss} {vs : List Nat}
theorem wipe_out {j : Nat} (h : j ∉ vs) : (wipe σ vs)[j]? = σ[j]? := by rw [wipe_get, if_neg h]
theorem Rel.wipe (R : Rel K Hd H σ S) (vs : List Nat) : Rel K Hd H (L2.wipe σ vs) (clr S vs) where
  len := by rw [wipe_length, clr_len]; exact R.len
  ex := R.ex
  sl := fun j s h => by
    rcases clr_get h with ⟨_, rfl⟩ | ⟨hj, h⟩
    · trivial
    · rw [wipe_out hj]; exact R.sl j s h
  inj := fun j k a f d g e h1 h2 h3 h4 => by
    rcases clr_get h1 with ⟨_, z⟩ | ⟨hj, h1⟩
    · cases z
    · rcases clr_get h2 with ⟨_, z⟩ | ⟨hk, h2⟩
      · cases z
      · rw [wipe_out hj] at h3
        rw [wipe_out hk] at h4
        exact R.inj j k a f d g e h1 h2 h3 h4
theorem Ow.wipe {a : Addr} (h : Ow (L2.wipe σ vs) (clr S vs) a) : Ow σ S a := by
  obtain ⟨j, f, d, h1, h2⟩ := h
  rcases clr_get h1 with ⟨_, z⟩ | ⟨hj, h1⟩
  · cases z
  · rw [wipe_out hj] at h2; exact ⟨j, f, d, h1, h2⟩
theorem same_out (e : L2.wipe σ3 vs = L2.wipe σ vs) {j : Nat} (h : j ∉ vs) : σ3[j]? = σ[j]? := by
  rw [← wipe_out (σ := σ3) h, ← wipe_out (σ := σ) h, e]
theorem Rel.unwipe (R : Rel K Hd H σ S) (no : noOwn S vs) (R5 : Rel K Hd5 H5 σ3 S5) (e : L2.wipe σ3 vs = L2.wipe σ vs) (x : Ex Hd Hd5) : Rel K Hd5 H5 σ (res S S5 vs) := by
  have l1 : σ3.length = σ.length := by rw [← wipe_length σ3 vs, e, wipe_length]
  have l2 : S.length = S5.length := by rw [← R.len, ← R5.len, l1]
  refine ⟨by rw [res_len, ← l2]; exact R.len, R5.ex, fun j s h => ?_, fun j k a f d g e' h1 h2 h3 h4 => ?_⟩
  · rcases res_get l2 h with ⟨hj, h⟩ | ⟨hj, h⟩
    · have q := R.sl j s h
      cases s with
      | no => trivial
      | dat d => obtain ⟨v, a, b⟩ := q; exact ⟨v, a, b.mono x⟩
      | own f d => exact (no.at hj h).elim
    · rw [← same_out e hj]; exact R5.sl j s h
  · rcases res_get l2 h1 with ⟨hj, z⟩ | ⟨hj, h1⟩
    · exact (no.at hj z).elim
    · rcases res_get l2 h2 with ⟨hk, z⟩ | ⟨hk, h2⟩
      · exact (no.at hk z).elim
      · rw [← same_out e hj] at h3
        rw [← same_out e hk] at h4
        exact R5.inj j k a f d g e' h1 h2 h3 h4
theorem Go.unwipe (gr : Gr Hd H Hd2 H2) (l : S.length = S5.length) (no : noOwn S vs) (g : Go (L2.wipe σ vs) (clr S vs) Hd2 H2 σ3 S5 Hd5 H5) (e : L2.wipe σ3 vs = L2.wipe σ vs) : Go σ S Hd H σ (res S S5 vs) Hd5 H5 where
  ex := gr.ex.trans g.ex
  kp := fun a o h n => g.kp a o (gr.eh a o h) fun z => n z.wipe
  nw := fun a o h => by
    rcases g.nw a o h with z | z | z
    · exact (gr.nw a o z).elim .inl fun q => .inr (.inl q)
    · cases q : H a with
      | none => exact .inr (.inl rfl)
      | some u => rw [gr.eh a u q] at z; cases z
    · exact .inr (.inr z.wipe)
  ow := fun a ⟨j, f, d, h1, h2⟩ => by
    rcases res_get l h1 with ⟨hj, z⟩ | ⟨hj, h1⟩
    · exact (no.at hj z).elim
    · rw [← same_out e hj] at h2
      rcases g.ow a ⟨j, f, d, h1, h2⟩ with z | z
      · exact .inl z.wipe
      · cases q : H a with
        | none => exact .inr rfl
        | some u => rw [gr.eh a u q] at z; cases z
  fx := fun i d h => by
    have hi : i ∉ vs := fun z => no.at z h
    obtain ⟨_, d', h2⟩ := g.fx i d (by rw [clr_out hi]; exact h)
    exact ⟨rfl, d', by rw [res_out hi]; exact h2⟩
theorem wipe_wipe (σ : L2.St) (vs : List Nat) : L2.wipe (L2.wipe σ vs) vs = L2.wipe σ vs := by
  apply List.ext_getElem?
  intro j
  rw [wipe_get]
  by_cases h : j ∈ vs
  · rw [if_pos h, wipe_get, if_pos h, Option.map_map]; rfl
  · rw [if_neg h]
end
section
variable {K : PySem.W.Frag} {Hd H Hd2 H2 : Hp} {σ σ2 : L2.St} {S S2 : Ss} {p : Addr} {o : HO}
theorem Go.chg (g : Go σ S Hd H σ2 S2 Hd2 H2) (h : Ow σ S p ∨ H p = none) : Go σ S Hd H σ2 S2 Hd2 (upd H2 p o) := ⟨g.ex, fun a u z n => by
  have ne : a ≠ p := by
    rintro rfl
    rcases h with h | h
    · exact n h
    · rw [h] at z; cases z
  rw [upd_ne ne]; exact g.kp a u z n, g.nw, g.ow, g.fx⟩
theorem Rel.chg (R : Rel K Hd H σ S) (h1 : Hd p = none) (h2 : ¬ Ow σ S p) : Rel K Hd (upd H p o) σ S where
  len := R.len
  ex := fun b u z => by
    have ne : b ≠ p := by rintro rfl; rw [h1] at z; cases z
    rw [upd_ne ne]; exact R.ex b u z
  sl := fun j s h => by
    have q := R.sl j s h
    cases s with
    | no => trivial
    | dat d => exact q
    | own f d =>
      obtain ⟨a, k1, k2, k3⟩ := q
      have ne : a ≠ p := by rintro rfl; exact h2 ⟨j, f, d, h, k1⟩
      exact ⟨a, k1, k2, k3.at (upd_ne ne)⟩
  inj := R.inj
end
def uLc (ui : DA) (t : Tg) (ut : DT) (ue : DE) (vs : List Nat) : DE := fun S P => ui S fun ds S1 => ∃ I : Nat → List D → Ss → Prop, I 0 [] S1 ∧
  (∀ i d acc S2, ds[i]? = some d → I i acc S2 → noOwn S2 vs ∧ t.u d (clr S2 vs) fun S3 => ut S3 fun b S4 => match b with
    | true => ue S4 fun y S5 => acc.length < sizeLine ∧ I (i + 1) (acc ++ [y]) (res S2 S5 vs)
    | false => I (i + 1) acc (res S2 S4 vs)) ∧ ∀ acc S2, I ds.length acc S2 → P (.lst acc) S2
def uYes : DT := fun S P => P true S
section
variable {X : Cx} {tg elt iter : Expr} {ifs : List Expr} {pos : Pos} {ui : DA} {t : Tg} {ut : DT} {ue : DE} {own : List (Str × Nat)} {scope : Scope}
abbrev QTs (X : Cx) (ifs : List Expr) (u : DT) : Prop := PTs X ifs (tUT X.K u)
theorem ts_nil : QTs X [] uYes := ⟨fun pins s σ H Q I h => pts_nil.run pins s σ H Q I (by obtain ⟨Hd, S, P, R, hu, q⟩ := h; exact q true H Hd S Go.refl R hu)⟩
theorem ts_one {c : Expr} (h : QT X c ut) : QTs X [c] ut := pts_one h
theorem lc_tree {K : PySem.W.Frag} {vs : List Nat} (hix : ∀ i ∈ t.ix, i ∈ vs) {σ : L2.St} {H : Hp} {Q : VK} (h : tF K (uLc ui t ut ue vs) σ H Q) : tLc (tUI K ui) (t.t K) (tUT K ut) (tU K ue) vs σ H Q := by
  obtain ⟨Hd, S, P, R, hu, q⟩ := h
  refine ⟨Hd, S, _, R, hu, fun J H1 Hd1 ds S1 g1 R1 w ⟨I, h0, hs, hd⟩ => fun p hp => ?_⟩
  have gr0 := Gr.pass (o := .lst []) R1.ex hp
  refine lc_it w (Qd := fun H' => Q (.ref p) H') (fun i H' => ∃ Hd' S' acc accV, Go σ S Hd H σ S' Hd' H' ∧ Ex Hd1 Hd' ∧ Rel K Hd' H' σ S' ∧ H' p = some (.lst accV) ∧ Hd' p = none ∧ ¬ Ow σ S' p ∧ DVs K Hd' accV acc ∧ I i acc S')
    ⟨Hd1, S1, [], [], g1.trans gr0.go, Ex.refl _, R1.grow gr0, upd_same, fresh_back R1.ex hp, R1.notOw hp, .nil, h0⟩ (fun i H' _ ⟨Hd', S', _, _, _, e, R', _⟩ => e.trans R'.ex)
    (fun i x H' H2 hi ⟨Hd', S', acc, accV, g', e', R', k1, k2, k3, k4, hI⟩ y => ?_) fun H' ⟨Hd', S', acc, accV, g', e', R', k1, k2, k3, k4, hI⟩ => ?_
  · obtain ⟨Hd2, d, hd2, gr, dv⟩ := y Hd' e' R'.ex
    obtain ⟨no, hu2⟩ := hs i d acc S' hd2 hI
    have R2 : Rel K Hd2 H2 (wipe σ vs) (clr S' vs) := (R'.grow gr).wipe vs
    refine t.sim R2 dv hu2 fun σ3 S3 g3 R3 p3 w3 => ⟨(w3 vs hix).trans (wipe_wipe σ vs), ?_⟩
    have w4 : wipe σ3 vs = wipe σ vs := (w3 vs hix).trans (wipe_wipe σ vs)
    have l3 : S'.length = S3.length := by
      have := congrArg List.length w4
      rw [wipe_length, wipe_length] at this
      rw [← R'.len, ← R3.len, this]
    have o3 : ¬ Ow σ3 S3 p := fun z => by
      rcases g3.ow p z with z | z
      · exact k3 z.wipe
      · rw [gr.eh p _ k1] at z; cases z
    have n2 : Hd2 p = none := gr.non k2 k1
    have fin : ∀ {H5 Hd5 : Hp} {S5 : Ss}, Go σ3 S3 Hd2 H2 σ3 S5 Hd5 H5 → Rel K Hd5 H5 σ3 S5 → H5 p = some (.lst accV) ∧ Hd5 p = none ∧ Go σ S' Hd' H' σ (res S' S5 vs) Hd5 H5 ∧ Rel K Hd5 H5 σ (res S' S5 vs) ∧ ¬ Ow σ (res S' S5 vs) p := fun {H5 Hd5 S5} g5 R5 => by
      have l5 : S'.length = S5.length := by rw [l3, ← R3.len, ← R5.len]
      have gA := Go.unwipe gr l5 no (g3.trans g5) w4
      refine ⟨g5.kp p _ (gr.eh p _ k1) o3, ?_, gA, R'.unwipe no R5 w4 (gr.ex.trans g5.ex), fun z => ?_⟩
      · cases z : Hd5 p with
        | none => rfl
        | some u =>
          rcases g5.nw p u z with z | z | z
          · rw [n2] at z; cases z
          · rw [gr.eh p _ k1] at z; cases z
          · exact (o3 z).elim
      · rcases gA.ow p z with z | z
        · exact k3 z
        · rw [k1] at z; cases z
    refine ⟨Hd2, S3, _, R3, p3, fun b H4 Hd4 S4 g4 R4 p4 => ?_⟩
    cases b with
    | false =>
      obtain ⟨f1, f2, f3, f4, f5⟩ := fin g4 R4
      exact ⟨Hd4, _, acc, accV, g'.trans f3, e'.trans f3.ex, f4, f1, f2, f5, k4.mono f3.ex, p4⟩
    | true =>
      refine ⟨Hd4, S4, _, R4, p4, fun yv H5 Hd5 yd S5 g5 R5 dy p5 => ?_⟩
      obtain ⟨f1, f2, f3, f4, f5⟩ := fin (g4.trans g5) R5
      refine ⟨accV, f1, by rw [k4.len]; exact p5.1, ?_⟩
      exact ⟨Hd5, _, acc ++ [yd], accV ++ [yv], (g'.trans f3).chg (g1.back hp), e'.trans f3.ex, f4.chg f2 f5, upd_same, f2, f5, (k4.mono f3.ex).snoc dy, p5.2⟩
  · exact q _ H' Hd' (.lst acc) S' g' R' ⟨p, rfl, k2, k3, g1.back hp, own_lst k1 k4⟩ (hd acc S' hI)
/-- [e for t in it if c] -/
theorem f_lc (hc : X.calm = true) (hN : X.N.Nodup) (hi : QI X tg iter ui) (ok : BlkOk X.N X.env.scope scope own)
    (hg : ∀ (s : Shared) (H : Hp) (C : Addr) (cl : List (Str × Addr)) (fp : List Addr), PG (X.blk s H scope (compEnvC scope cl C X.env) fp) tg (t.t X.K)) (ht : ∀ (s : Shared) (H : Hp) (C : Addr) (cl : List (Str × Addr)) (fp : List Addr), QTs (X.blk s H scope (compEnvC scope cl C X.env) fp) ifs ut)
    (he : ∀ (s : Shared) (H : Hp) (C : Addr) (cl : List (Str × Addr)) (fp : List Addr), QE (X.blk s H scope (compEnvC scope cl C X.env) fp) elt ue) (hix : ∀ i ∈ t.ix, i ∈ own.map (·.2) := by decide) (hs : ∀ x, foldedSetIterable iter X.env x = pure x := by intro _; rfl) :
    QF X (.ListComp elt [⟨tg, iter, ifs, 0⟩] scope pos) (uLc ui t ut ue (own.map (·.2))) :=
  pimp (pe_lc hc hN hi ok hg ht he hs) fun σ H Q h => lc_tree hix h
/-- y = [..] -/
theorem s_setLc {i : Nat} {y : Str} {py spos : Pos} (hc : X.calm = true) (hN : X.N.Nodup) (hy : X.N[i]? = some y) (hyl : X.env.scope.names.lookup y = some .local)
    (hsw : swapsWith (.ListComp elt [⟨tg, iter, ifs, 0⟩] scope pos) (some (.Name y py)) spos.line X.env = pure true) (hi : QI X tg iter ui) (ok : BlkOk X.N X.env.scope scope own)
    (hg : ∀ (s : Shared) (H : Hp) (C : Addr) (cl : List (Str × Addr)) (fp : List Addr), PG (X.blk s H scope (compEnvC scope cl C X.env) fp) tg (t.t X.K)) (ht : ∀ (s : Shared) (H : Hp) (C : Addr) (cl : List (Str × Addr)) (fp : List Addr), QTs (X.blk s H scope (compEnvC scope cl C X.env) fp) ifs ut)
    (he : ∀ (s : Shared) (H : Hp) (C : Addr) (cl : List (Str × Addr)) (fp : List Addr), QE (X.blk s H scope (compEnvC scope cl C X.env) fp) elt ue) (hix : ∀ i ∈ t.ix, i ∈ own.map (·.2) := by decide) (hs : ∀ x, foldedSetIterable iter X.env x = pure x := by intro _; rfl) :
    QS X (.Assign [.Name y py] (.ListComp elt [⟨tg, iter, ifs, 0⟩] scope pos) spos) (uSetO i (uLc ui t ut ue (own.map (·.2)))) :=
  pimpS (ps_setLc hc hN hy hyl hsw hi ok hg ht he hs) fun E σ H h => lc_tree hix (asgF_at h)
end
end TL

namespace TL
open PySem L2 Evl PySem.Spec PyProof.Rows

/-! ### a def's promise, where nothing is being shown (repr) around it -/
structure FnG (P : Program) (w : World) (K : PySem.W.Frag) (mg : Str → Option Value) (base : Heap) (CX : CXT) (k : Nat) (f : Addr) (fd : FuncData) (ps : List Str) (sp : Sp) : Prop where
  len : ∀ vs H Q E, sp vs H Q E → vs.length = ps.length
  run : ∀ (A : Around) (outer : List Env) (s : Shared) (H : Hp) (args : Args) (us : List Value) (vs : List V) (Q : VK) (E : XK), Room k A → A.guards = some [] → Env0 P w K mg base A outer s H →
    BindsTo s fd args (ps.zip us) → Vals vs us → sp vs H Q E → codeAny (model P w) A (.call (.ref f) args) (CR CX outer P w H s Q E) s
section
variable {P : Program} {w : World} {K : PySem.W.Frag} {mg : Str → Option Value} {base : Heap} {CX : CXT}
theorem FnG.up {j k : Nat} {f : Addr} {fd : FuncData} {ps : List Str} {sp : Sp} (F : FnG P w K mg base CX j f fd ps sp) (h : j ≤ k) : FnG P w K mg base CX k f fd ps sp :=
  ⟨F.len, fun A outer s H args us vs Q E hr hg => F.run A outer s H args us vs Q E (hr.mono h) hg⟩
/-- by its body -/
theorem fng_of {x qual : Str} {params : Arguments} {body : List Stmt} {scope : Scope} {dvs : List V} {kws : List (Str × V)} {f : Addr} {fd : FuncData} {N ps : List Str} {k : Nat} {sp : Sp}
    (F : FunD K x qual params body scope dvs kws f fd) (S : FnScope N ps scope) (len : ∀ vs H Q E, sp vs H Q E → vs.length = ps.length)
    (walk : ∀ (cdv : Value) (A : Around) (outer : List Env) (s : Shared) (H : Hp) (vs : List V) (Q : VK) (E : XK), Room k (A.deeper (envOfC qual scope s.heap.objs.size f cdv)) → A.guards = some [] → sp vs H Q E →
      ∃ t, PSs (cxOf CX P w K mg base N qual scope f cdv A outer s H E) body t ∧ t { nx := fun _ H' => Q .non H', rt := Q } (L2.start N vs) H) : FnG P w K mg base CX (k + 1) f fd ps sp := by
  obtain ⟨oc, od, dV, kV, doc, pm, an, cdv, ct, osl, rfl, lk, hcd, _, _⟩ := F.ex
  refine ⟨len, fun A outer s H args us vs Q E room gd env bnd rv want => ?_⟩
  have L := len _ _ _ _ want
  have inK : K.In s.heap := env.mod.kin.keeps fun b o q => (env.bs b o q).1
  have noL : s.heap.NoLimit := env.mod.nolimit.keeps fun b o q => (env.bs b o q).1
  have kinds : ∀ y ∈ ps.zip us, scope.names.lookup y.1 = some .local ∨ (scope.names.lookup y.1 = some .cell ∧ ((cellsFrom (s.heap.objs.size + 1) scope.names []).lookup y.1).isSome = true) := by
    rintro ⟨n, v⟩ hy
    rcases S.par n (List.of_mem_zip hy).1 with h | h
    · exact .inl h
    · exact .inr ⟨h, PySem.W.cellsFrom_some _ _ _ (.inl h)⟩
  refine codeAny_call_function room.depth (inK _ _ lk) rfl S.co S.gen rfl (PySem.W.codeRec_of inK hcd) (bnd _ _ _ _ ?_)
  refine wpAny_newFunctionEnv_cells S.kind kinds fun env' he' s1 new => ?_
  subst he'
  refine ⟨noL.keeps new.toInCall.keep, codeAny_func ?_⟩
  obtain ⟨t, der, red⟩ := walk cdv A outer s H vs Q E (room.deeper _) gd want
  have inv : Inv (cxOf CX P w K mg base N qual scope f cdv A outer s H E) [] (L2.start N vs) H s1 := inv_start S room.hd env L rv new
  have out : ∀ {σ' : L2.St} {H' : Hp} {v : V} {u : Value} {s' : Shared}, Inv (cxOf CX P w K mg base N qual scope f cdv A outer s H E) [] σ' H' s' → RelV v u → Q v H' → CE outer P w H s Q u s' :=
    fun {σ' H' v u s'} J r q => ⟨v, H', J.os, J.bare, J.base, J.hok, r, q⟩
  refine wpAny_mono (der.run [] s1 _ H _ inv red) (fun fl s' hs => ?_) fun _ _ hs => hs
  match fl, hs with
  | .ret u, ⟨v, σ', H', J, r, q⟩ => exact out J r q
  | .next, ⟨σ', H', J, q⟩ => exact out (v := V.non) (u := Value.none) J rfl q
  | .brk, ⟨_, _, _, q⟩ => exact q.elim
  | .cont, ⟨_, _, _, q⟩ => exact q.elim
end
section
variable {X : Cx} {CX : CXT} {k : Nat} {f : Addr} {fd : FuncData} {ps : List Str} {sp : Sp} {dvs : List V} {ds : List Value} {E : XK} {x : Str} {p pos : Pos} {e : Expr} {es : List Expr} {t : TA}
theorem run_g {pins : List (Addr × Obj)} {σ : L2.St} {H : Hp} {s : Shared} {Q : VK} {us : List Value} {vs : List V} (F : FnG X.prog X.w X.K X.mg X.base CX k f fd ps sp) (hr : Room k X.A) (hg : X.A.guards = some []) (hb : Binds X.K fd ps ds) (hd : Vals dvs ds) (hx : Passes CX X E)
    (I : Inv X pins σ H s) (r : Vals vs us) (h : sp (vs ++ dvs) H Q E) : wpAny (model X.prog X.w) X.A (call (.ref f) us) (EP X pins σ Q) X.xe s := by
  have both : Vals (vs ++ dvs) (us ++ ds) := r.append hd
  have L : (us ++ ds).length = ps.length := both.length.symm.trans (F.len _ _ _ _ h)
  refine wpAny_call (codeAny_mono (F.run X.A X.stack s H ⟨us, []⟩ _ _ Q E hr hg I.env0 (hb s us I.kIn L) both h) fun res s' hq => ?_)
  match res, hq with
  | .error ex, hq => exact hx pins σ H s ex s' I hq
  | .ok (.ret u), hq => exact I.after hq
  | .ok .next, hq => exact hq.elim
  | .ok .brk, hq => exact hq.elim
  | .ok .cont, hq => exact hq.elim
theorem pe_callG (F : FnG X.prog X.w X.K X.mg X.base CX k f fd ps sp) (hr : Room k X.A) (hgd : X.A.guards = some []) (hg : Gl X x) (hm : X.mg x = some (.ref f)) (hk : PySem.W.keepIn X.K (.ref f) = true) (hb : Binds X.K fd ps ds) (hd : Vals dvs ds) (hx : Passes CX X E)
    (ha : PA X (e :: es) t) (hdb : (x == ("__debug__" : Str)) = false := by decide) (he : starEach (e :: es) X.env = (false, eval e X.env) :: starEach es X.env := by rfl) (hpl : (backTo pos (starEach es X.env)).any (·.1) = false := by rfl) :
    PE X (.Call (.Name x p) (e :: es) [] pos) (tCall sp dvs E t) := ⟨fun pins s σ H Q I h => by
  refine wpAny_Call_Name_kw (ld_glob I hg hm (PySem.W.callWith_K (h₀ := X.base) I.ok.mod.kin hk ?_ he hpl) hdb)
  exact thn (ha.run pos pins s σ H _ I h) fun us s1 ⟨vs, H1, I1, rv, q⟩ => ⟨I1.kIn, run_g F hr hgd hb hd hx I1 rv q⟩⟩
theorem pe_callG0 (F : FnG X.prog X.w X.K X.mg X.base CX k f fd ps sp) (hr : Room k X.A) (hgd : X.A.guards = some []) (hg : Gl X x) (hm : X.mg x = some (.ref f)) (hk : PySem.W.keepIn X.K (.ref f) = true) (hb : Binds X.K fd ps ds) (hd : Vals dvs ds) (hx : Passes CX X E)
    (hdb : (x == ("__debug__" : Str)) = false := by decide) : PE X (.Call (.Name x p) [] [] pos) (tCall sp dvs E tNil) := ⟨fun pins s σ H Q I h =>
  wpAny_Call_Name_kw (ld_glob I hg hm (PySem.W.callWith_K0 I.kIn hk (run_g (us := []) F hr hgd hb hd hx I .nil h)) hdb)⟩
end

/-! ### contracts by trees -/
/-- of trees alone; what comes back is a tree (fr: an object of its own) -/
abbrev C0 := List D → (D → Prop) → Prop
/-- the first argument is an owned object, which may change -/
abbrev C1 := D → List D → (D → D → Prop) → Prop
def RT (fr : Bool) (K : PySem.W.Frag) (H Hd' H' : Hp) (v : V) (d : D) : Prop := match fr with
  | false => DV K Hd' v d
  | true => ∃ a, v = .ref a ∧ H a = none ∧ Hd' a = none ∧ OwnAt K Hd' H' a d
def sp0 (K : PySem.W.Frag) (fr : Bool) (c : C0) : Sp := fun vs H Q _ => ∃ (Hd : Hp) (ds : List D) (P : D → Prop), Ex Hd H ∧ DVs K Hd vs ds ∧ c ds P ∧
  ∀ v H' Hd' d, Gr Hd H Hd' H' → RT fr K H Hd' H' v d → P d → Q v H'
def sp1 (K : PySem.W.Frag) (fr : Bool) (c : C1) : Sp := fun vs H Q _ => ∃ (Hd : Hp) (a : Addr) (rest : List V) (d0 : D) (ds : List D) (P : D → D → Prop), vs = .ref a :: rest ∧ Ex Hd H ∧ Hd a = none ∧ OwnAt K Hd H a d0 ∧ DVs K Hd rest ds ∧ c d0 ds P ∧
  ∀ v H' Hd' d d0', Ex Hd Hd' → (∀ b o, H b = some o → b ≠ a → H' b = some o) → (∀ b o, Hd' b = some o → Hd b = some o ∨ H b = none) → Ex Hd' H' → Hd' a = none → OwnAt K Hd' H' a d0' → RT fr K H Hd' H' v d → P d d0' → Q v H'
def dats (ds : List D) : Ss := ds.map .dat
def pad (S : Ss) (n : Nat) : Ss := S ++ List.replicate (n - S.length) .no
theorem dats_get {ds : List D} {j : Nat} {s : Sl} (h : (dats ds)[j]? = some s) : ∃ d, ds[j]? = some d ∧ s = .dat d := by
  unfold dats at h
  rw [List.getElem?_map] at h
  cases e : ds[j]? with
  | none => rw [e] at h; cases h
  | some d => rw [e] at h; cases h; exact ⟨d, rfl, rfl⟩
theorem app_get {α : Type} {l m : List α} {j : Nat} {s : α} (h : (l ++ m)[j]? = some s) : l[j]? = some s ∨ s ∈ m := by
  by_cases hj : j < l.length
  · rw [List.getElem?_append_left hj] at h; exact .inl h
  · rw [List.getElem?_append_right (by omega)] at h; exact .inr (List.mem_of_getElem? h)
section
variable {K : PySem.W.Frag} {Hd H : Hp}
theorem pad_get {S : Ss} {n j : Nat} {s : Sl} (h : (pad S n)[j]? = some s) : S[j]? = some s ∨ s = .no := by
  rcases app_get h with h | h
  · exact .inl h
  · exact .inr (List.eq_of_mem_replicate h)
/-- the frame at a def's entry -/
theorem Rel.entry {N : List Str} {vs : List V} {S : Ss} (R : Rel K Hd H (vs.map some) S) : Rel K Hd H (L2.start N vs) (pad S N.length) := by
  have l : vs.length = S.length := by have := R.len; simpa using this
  have st : ∀ {j : Nat} {s : Sl}, S[j]? = some s → (L2.start N vs)[j]? = (vs.map some)[j]? := fun {j s} h => by
    have hj : j < (vs.map some).length := by rw [R.len]; exact lt_of h
    unfold L2.start
    rw [List.getElem?_append_left hj]
  refine ⟨?_, R.ex, fun j s h => ?_, fun i j a f d g e h1 h2 h3 h4 => ?_⟩
  · unfold L2.start pad
    simp only [List.length_append, List.length_map, List.length_replicate, l]
  · rcases pad_get h with h | rfl
    · rw [st h]; exact R.sl j s h
    · trivial
  · rcases pad_get h1 with h1 | z
    · rcases pad_get h2 with h2 | z
      · rw [st h1] at h3
        rw [st h2] at h4
        exact R.inj i j a f d g e h1 h2 h3 h4
      · cases z
    · cases z
theorem rel_dats {vs : List V} {ds : List D} (e : Ex Hd H) (h : DVs K Hd vs ds) : Rel K Hd H (vs.map some) (dats ds) := by
  refine ⟨by unfold dats; simp [h.len], e, fun j s q => ?_, fun i j a f d g e h1 _ _ _ => ?_⟩
  · obtain ⟨d, hd, rfl⟩ := dats_get q
    obtain ⟨v, hv, dv⟩ := h.get hd
    exact ⟨v, by rw [List.getElem?_map, hv]; rfl, dv⟩
  · obtain ⟨_, _, z⟩ := dats_get h1
    cases z
theorem ow_dats {vs : List V} {ds : List D} {n : Nat} {σ : L2.St} {a : Addr} (h : Ow σ (pad (dats ds) n) a) : False := by
  obtain ⟨j, f, d, h1, _⟩ := h
  rcases pad_get h1 with h1 | z
  · obtain ⟨_, _, z⟩ := dats_get h1; cases z
  · cases z
end
section
variable {P : Program} {w : World} {K : PySem.W.Frag} {mg : Str → Option Value} {base : Heap} {x qual : Str} {params : Arguments} {body : List Stmt} {scope : Scope} {dvs : List V} {kws : List (Str × V)} {f : Addr} {fd : FuncData} {N ps : List Str} {k : Nat} {u : DS}
theorem ends0 {c : C0} {vs : List V} {H : Hp} {Q : VK} {E : XK} (h : sp0 K false c vs H Q E) (hc : ∀ ds P, c ds P → u { nx := fun _ => P .non, rt := fun d _ => P d } (pad (dats ds) N.length)) : tUS K u { nx := fun _ H' => Q .non H', rt := Q } (L2.start N vs) H := by
  obtain ⟨Hd, ds, P, e, dv, hp, q⟩ := h
  have R := (rel_dats e dv).entry (N := N)
  refine ⟨Hd, _, _, R, hc ds P hp, ?_⟩
  have gr : ∀ {σ' : L2.St} {S' : Ss} {Hd' H' : Hp}, Go (L2.start N vs) (pad (dats ds) N.length) Hd H σ' S' Hd' H' → Rel K Hd' H' σ' S' → Gr Hd H Hd' H' := fun g R' => ⟨g.ex, fun a o z => g.kp a o z fun z => ow_dats (vs := vs) z, fun a o z => by
    rcases g.nw a o z with z | z | z
    · exact .inl z
    · exact .inr z
    · exact (ow_dats (vs := vs) z).elim, R'.ex⟩
  exact ⟨fun σ' H' Hd' S' g R' p => q _ H' Hd' _ (gr g R') .non p, fun _ _ _ _ _ _ z => z.elim, fun _ _ _ _ _ _ z => z.elim, fun σ' v H' Hd' d S' g R' dv p => q v H' Hd' d (gr g R') dv p, fun _ _ _ _ _ _ _ _ _ z => z.elim⟩
theorem ends0F {c : C0} {vs : List V} {H : Hp} {Q : VK} {E : XK} (h : sp0 K true c vs H Q E) (hc : ∀ ds P, c ds P → u { nx := fun _ => False, rt := fun _ _ => False, rf := fun d _ => P d } (pad (dats ds) N.length)) : tUS K u { nx := fun _ H' => Q .non H', rt := Q } (L2.start N vs) H := by
  obtain ⟨Hd, ds, P, e, dv, hp, q⟩ := h
  have R := (rel_dats e dv).entry (N := N)
  refine ⟨Hd, _, _, R, hc ds P hp, ?_⟩
  have gr : ∀ {σ' : L2.St} {S' : Ss} {Hd' H' : Hp}, Go (L2.start N vs) (pad (dats ds) N.length) Hd H σ' S' Hd' H' → Rel K Hd' H' σ' S' → Gr Hd H Hd' H' := fun g R' => ⟨g.ex, fun a o z => g.kp a o z fun z => ow_dats (vs := vs) z, fun a o z => by
    rcases g.nw a o z with z | z | z
    · exact .inl z
    · exact .inr z
    · exact (ow_dats (vs := vs) z).elim, R'.ex⟩
  exact ⟨fun _ _ _ _ _ _ z => z.elim, fun _ _ _ _ _ _ z => z.elim, fun _ _ _ _ _ _ z => z.elim, fun _ _ _ _ _ _ _ _ _ z => z.elim, fun σ' v H' Hd' d S' g R' ⟨a, e1, e2, _, e4, e5⟩ p => q v H' Hd' d (gr g R') ⟨a, e1, e4.elim (fun z => (ow_dats (vs := vs) z).elim) fun z => z, e2, e5⟩ p⟩
/-- the frame of a def whose first argument is owned -/
theorem rel_own {Hd H : Hp} {a : Addr} {rest : List V} {d0 : D} {ds : List D} (e : Ex Hd H) (n : Hd a = none) (o : OwnAt K Hd H a d0) (h : DVs K Hd rest ds) : Rel K Hd H ((V.ref a :: rest).map some) (.own true d0 :: dats ds) := by
  have R := rel_dats e h
  refine ⟨by simpa using R.len, e, fun j s q => ?_, fun i j b f d g e' h1 h2 _ _ => ?_⟩
  · cases j with
    | zero => cases q; exact ⟨a, rfl, n, o⟩
    | succ j => simpa using R.sl j s (by simpa using q)
  · cases i with
    | zero =>
      cases j with
      | zero => rfl
      | succ j =>
        obtain ⟨_, _, z⟩ := dats_get (ds := ds) (j := j) (by simpa using h2)
        cases z
    | succ i =>
      obtain ⟨_, _, z⟩ := dats_get (ds := ds) (j := i) (by simpa using h1)
      cases z
theorem ow_own {a b : Addr} {rest : List V} {d0 : D} {ds : List D} (h : Ow (L2.start N (V.ref a :: rest)) (pad (.own true d0 :: dats ds) N.length) b) : b = a := by
  obtain ⟨j, f, d, h1, h2⟩ := h
  cases j with
  | zero => simp [L2.start] at h2; exact h2.symm
  | succ j =>
    rcases pad_get h1 with h1 | z
    · obtain ⟨_, _, z⟩ := dats_get (ds := ds) (j := j) (by simpa using h1)
      cases z
    · cases z
def first1 (P : D → D → Prop) : D → Ss → Prop := fun d S => match S with
  | .own _ d0 :: _ => P d d0
  | _ => False
theorem out1 {Hd H Hd' H' : Hp} {a : Addr} {rest : List V} {d0 : D} {ds : List D} {σ' : L2.St} {S' : Ss} {P : D → D → Prop} {dd : D} (g : Go (L2.start N (V.ref a :: rest)) (pad (.own true d0 :: dats ds) N.length) Hd H σ' S' Hd' H') (R' : Rel K Hd' H' σ' S')
    (p : first1 P dd S') (ha : ∃ o, H a = some o) : Ex Hd Hd' ∧ (∀ b o, H b = some o → b ≠ a → H' b = some o) ∧ (Hd a = none → ∀ b o, Hd' b = some o → Hd b = some o ∨ H b = none) ∧ Ex Hd' H' ∧ Hd' a = none ∧ ∃ d1, OwnAt K Hd' H' a d1 ∧ P dd d1 ∧ σ'[0]? = some (some (.ref a)) ∧ ∃ S1, S' = .own true d1 :: S1 := by
  obtain ⟨f1, d1', f2⟩ := g.fx 0 d0 (by simp [pad])
  have s0 : (L2.start N (V.ref a :: rest))[0]? = some (some (V.ref a)) := by simp [L2.start]
  cases S' with
  | nil => simp at f2
  | cons s S1 =>
    simp at f2
    subst f2
    obtain ⟨b, b1, b2, b3⟩ := R'.sl 0 (.own true d1') rfl
    rw [f1, s0] at b1
    cases b1
    refine ⟨g.ex, fun b o z n => g.kp b o z fun z => n (ow_own z), fun hn b o z => ?_, R'.ex, b2, d1', b3, p, f1.trans s0, S1, rfl⟩
    rcases g.nw b o z with z' | z' | z'
    · exact .inl z'
    · exact .inr z'
    · have := ow_own z'
      subst this
      rw [b2] at z; cases z
theorem ends1 {c : C1} {vs : List V} {H : Hp} {Q : VK} {E : XK} (h : sp1 K false c vs H Q E) (hc : ∀ d0 ds P, c d0 ds P → u { nx := first1 P .non, rt := first1 P } (pad (.own true d0 :: dats ds) N.length)) : tUS K u { nx := fun _ H' => Q .non H', rt := Q } (L2.start N vs) H := by
  obtain ⟨Hd, a, rest, d0, ds, P, rfl, e, n, o, dv, hp, q⟩ := h
  have R := (rel_own e n o dv).entry (N := N)
  refine ⟨Hd, _, _, R, hc d0 ds P hp, fun σ' H' Hd' S' g R' p => ?_, fun _ _ _ _ _ _ z => z.elim, fun _ _ _ _ _ _ z => z.elim, fun σ' v H' Hd' d S' g R' dv p => ?_, fun _ _ _ _ _ _ _ _ _ z => z.elim⟩
  · obtain ⟨k1, k2, k3, k4, k5, d1, k6, k7, _⟩ := out1 (P := P) (dd := .non) g R' p o.has
    exact q _ H' Hd' _ d1 k1 k2 (k3 n) k4 k5 k6 .non k7
  · obtain ⟨k1, k2, k3, k4, k5, d1, k6, k7, _⟩ := out1 (P := P) (dd := d) g R' p o.has
    exact q v H' Hd' d d1 k1 k2 (k3 n) k4 k5 k6 dv k7
theorem ends1F {c : C1} {vs : List V} {H : Hp} {Q : VK} {E : XK} (h : sp1 K true c vs H Q E) (hc : ∀ d0 ds P, c d0 ds P → u { nx := fun _ => False, rt := fun _ _ => False, rf := first1 P } (pad (.own true d0 :: dats ds) N.length)) : tUS K u { nx := fun _ H' => Q .non H', rt := Q } (L2.start N vs) H := by
  obtain ⟨Hd, a, rest, d0, ds, P, rfl, e, n, o, dv, hp, q⟩ := h
  have R := (rel_own e n o dv).entry (N := N)
  refine ⟨Hd, _, _, R, hc d0 ds P hp, fun _ _ _ _ _ _ z => z.elim, fun _ _ _ _ _ _ z => z.elim, fun _ _ _ _ _ _ z => z.elim, fun _ _ _ _ _ _ _ _ _ z => z.elim, fun σ' v H' Hd' d S' g R' ⟨b, e1, e2, e3, e4, e5⟩ p => ?_⟩
  obtain ⟨k1, k2, k3, k4, k5, d1, k6, k7, k8, S1, rfl⟩ := out1 (P := P) (dd := d) g R' p o.has
  refine q v H' Hd' d d1 k1 k2 (k3 n) k4 k5 k6 ⟨b, e1, ?_, e2, e5⟩ k7
  rcases e4 with z | z
  · have := ow_own z
    subst this
    exact (e3 0 d1 rfl k8).elim
  · exact z
/-- a def by its body, nothing owned -/
theorem def0 {c : C0} (F : FunD K x qual params body scope dvs kws f fd) (S : FnScope N ps scope) (hl : ∀ ds P, c ds P → ds.length = ps.length)
    (der : ∀ (cdv : Value) (A : Around) (outer : List Env) (s : Shared) (H : Hp) (E : XK), Room k (A.deeper (envOfC qual scope s.heap.objs.size f cdv)) → A.guards = some [] → QSs (cxOf CX0 P w K mg base N qual scope f cdv A outer s H E).nox body u)
    (hc : ∀ ds P, c ds P → u { nx := fun _ => P .non, rt := fun d _ => P d } (pad (dats ds) N.length)) : FnG P w K mg base CX0 (k + 1) f fd ps (sp0 K false c) :=
  fng_of F S (fun vs H Q E ⟨_, ds, P, _, dv, hp, _⟩ => dv.len.trans (hl ds P hp)) fun cdv A outer s H vs Q E hr hg h => ⟨_, (der cdv A outer s H E hr hg).nox, ends0 h hc⟩
theorem def0F {c : C0} (F : FunD K x qual params body scope dvs kws f fd) (S : FnScope N ps scope) (hl : ∀ ds P, c ds P → ds.length = ps.length)
    (der : ∀ (cdv : Value) (A : Around) (outer : List Env) (s : Shared) (H : Hp) (E : XK), Room k (A.deeper (envOfC qual scope s.heap.objs.size f cdv)) → A.guards = some [] → QSs (cxOf CX0 P w K mg base N qual scope f cdv A outer s H E).nox body u)
    (hc : ∀ ds P, c ds P → u { nx := fun _ => False, rt := fun _ _ => False, rf := fun d _ => P d } (pad (dats ds) N.length)) : FnG P w K mg base CX0 (k + 1) f fd ps (sp0 K true c) :=
  fng_of F S (fun vs H Q E ⟨_, ds, P, _, dv, hp, _⟩ => dv.len.trans (hl ds P hp)) fun cdv A outer s H vs Q E hr hg h => ⟨_, (der cdv A outer s H E hr hg).nox, ends0F h hc⟩
theorem def1 {c : C1} (F : FunD K x qual params body scope dvs kws f fd) (S : FnScope N ps scope) (hl : ∀ d0 ds P, c d0 ds P → ds.length + 1 = ps.length)
    (der : ∀ (cdv : Value) (A : Around) (outer : List Env) (s : Shared) (H : Hp) (E : XK), Room k (A.deeper (envOfC qual scope s.heap.objs.size f cdv)) → A.guards = some [] → QSs (cxOf CX0 P w K mg base N qual scope f cdv A outer s H E).nox body u)
    (hc : ∀ d0 ds P, c d0 ds P → u { nx := first1 P .non, rt := first1 P } (pad (.own true d0 :: dats ds) N.length)) : FnG P w K mg base CX0 (k + 1) f fd ps (sp1 K false c) :=
  fng_of F S (fun vs H Q E ⟨_, a, rest, d0, ds, P, ev, _, _, _, dv, hp, _⟩ => by rw [ev, List.length_cons, dv.len]; exact hl d0 ds P hp) fun cdv A outer s H vs Q E hr hg h => ⟨_, (der cdv A outer s H E hr hg).nox, ends1 h hc⟩
theorem def1F {c : C1} (F : FunD K x qual params body scope dvs kws f fd) (S : FnScope N ps scope) (hl : ∀ d0 ds P, c d0 ds P → ds.length + 1 = ps.length)
    (der : ∀ (cdv : Value) (A : Around) (outer : List Env) (s : Shared) (H : Hp) (E : XK), Room k (A.deeper (envOfC qual scope s.heap.objs.size f cdv)) → A.guards = some [] → QSs (cxOf CX0 P w K mg base N qual scope f cdv A outer s H E).nox body u)
    (hc : ∀ d0 ds P, c d0 ds P → u { nx := fun _ => False, rt := fun _ _ => False, rf := first1 P } (pad (.own true d0 :: dats ds) N.length)) : FnG P w K mg base CX0 (k + 1) f fd ps (sp1 K true c) :=
  fng_of F S (fun vs H Q E ⟨_, a, rest, d0, ds, P, ev, _, _, _, dv, hp, _⟩ => by rw [ev, List.length_cons, dv.len]; exact hl d0 ds P hp) fun cdv A outer s H vs Q E hr hg h => ⟨_, (der cdv A outer s H E hr hg).nox, ends1F h hc⟩
end
end TL

namespace TL
open PySem L2 Evl

/-! ### calls of defs -/
def uCall0 (c : C0) (w : DA) : DE := fun S P => w S fun ds S1 => c ds fun d => P d S1
def owned (S : Ss) (i : Nat) : Prop := match S[i]? with
  | some (.own _ _) => True
  | _ => False
theorem owned.at {S : Ss} {i : Nat} (h : owned S i) : ∃ f d, S[i]? = some (.own f d) := by
  unfold owned at h
  split at h
  · rename_i f d e; exact ⟨f, d, e⟩
  · exact h.elim
def uCall1 (c : C1) (i : Nat) (w : DA) : DE := fun S P => owned S i ∧ w S fun ds S1 => match S1[i]? with
  | some (.own f d0) => c d0 ds fun d d1 => P d (S1.set i (.own f d1))
  | _ => False
section
variable {K : PySem.W.Frag} {Hd H Hd' H' : Hp} {σ : L2.St} {S : Ss} {i : Nat} {a : Addr} {d0 d1 : D} {f : Bool}
/-- the owned object of a slot has changed, all else stays -/
theorem Rel.upd1 (R : Rel K Hd H σ S) (q : S[i]? = some (.own f d0)) (ha : σ[i]? = some (some (.ref a))) (e : Ex Hd Hd') (kp : ∀ b o, H b = some o → b ≠ a → H' b = some o) (nw : ∀ b o, Hd' b = some o → Hd b = some o ∨ H b = none)
    (inn : Ex Hd' H') (hn : Hd' a = none) (o : OwnAt K Hd' H' a d1) : Rel K Hd' H' σ (S.set i (.own f d1)) where
  len := by rw [List.length_set]; exact R.len
  ex := inn
  sl := fun j s h => by
    rcases getset h with ⟨rfl, _, rfl⟩ | ⟨hj, h⟩
    · exact ⟨a, ha, hn, o⟩
    · have r := R.sl j s h
      cases s with
      | no => trivial
      | dat d => obtain ⟨v, h1, h2⟩ := r; exact ⟨v, h1, h2.mono e⟩
      | own g d =>
        obtain ⟨b, h1, h2, h3⟩ := r
        have ne : b ≠ a := by rintro rfl; exact hj (R.inj j i b g d f d0 h q h1 ha)
        obtain ⟨ob, hob⟩ := h3.has
        refine ⟨b, h1, ?_, (h3.at ((kp b ob hob ne).trans hob.symm)).up e⟩
        cases z : Hd' b with
        | none => rfl
        | some u =>
          rcases nw b u z with z' | z'
          · rw [h2] at z'; cases z'
          · rw [hob] at z'; cases z'
  inj := fun j k b g d g' e' h1 h2 h3 h4 => by
    have back : ∀ {j : Nat} {g : Bool} {d : D}, (S.set i (.own f d1))[j]? = some (.own g d) → ∃ d', S[j]? = some (.own g d') := fun {j g d} h => by
      rcases getset h with ⟨rfl, _, z⟩ | ⟨_, h⟩
      · cases z; exact ⟨d0, q⟩
      · exact ⟨d, h⟩
    obtain ⟨_, k1⟩ := back h1
    obtain ⟨_, k2⟩ := back h2
    exact R.inj j k b g _ g' _ k1 k2 h3 h4
theorem Go.upd1 (q : S[i]? = some (.own f d0)) (ha : σ[i]? = some (some (.ref a))) (e : Ex Hd Hd') (kp : ∀ b o, H b = some o → b ≠ a → H' b = some o) (nw : ∀ b o, Hd' b = some o → Hd b = some o ∨ H b = none) : Go σ S Hd H σ (S.set i (.own f d1)) Hd' H' where
  ex := e
  kp := fun b o h n => kp b o h fun z => n (by subst z; exact ⟨i, f, d0, q, ha⟩)
  nw := fun b o h => (nw b o h).elim .inl fun z => .inr (.inl z)
  ow := fun b ⟨j, g, d, h1, h2⟩ => by
    rcases getset h1 with ⟨rfl, _, z⟩ | ⟨_, h1⟩
    · cases z; exact .inl ⟨j, _, d0, q, h2⟩
    · exact .inl ⟨j, g, d, h1, h2⟩
  fx := fun j d h => by
    by_cases z : i = j
    · subst z
      rw [q] at h; cases h
      exact ⟨rfl, d1, set_self (lt_of q)⟩
    · exact ⟨rfl, d, by rw [List.getElem?_set_ne z]; exact h⟩
end
section
variable {X : Cx} {k : Nat} {f : Addr} {fd : FuncData} {ps : List Str} {x : Str} {p pos : Pos} {e : Expr} {es : List Expr} {w : DA} {i : Nat} {dvs : List V} {dd : List D} {ds : List Value} {c : C0} {c1 : C1}
/-- the trees of the defaults -/
abbrev Dfl (K : PySem.W.Frag) (dvs : List V) (dd : List D) : Prop := ∀ H, DVs K H dvs dd
theorem dfl0 {K : PySem.W.Frag} : Dfl K [] [] := fun _ => .nil
theorem call0_at {u : DA} {σ : L2.St} {H : Hp} {Q : VK} {E : XK} (hd : Dfl X.K dvs dd) (h : tU X.K (uCall0 (fun ds P => c (ds ++ dd) P) u) σ H Q) : tCall (sp0 X.K false c) dvs E (tUA X.K u) σ H Q := by
  obtain ⟨Hd, S, P, R, hu, q⟩ := h
  exact ⟨Hd, S, _, R, hu, fun vs H1 Hd1 ds S1 g1 R1 dv p => ⟨Hd1, ds ++ dd, _, R1.ex, dv.app (hd _), p, fun v H' Hd' d gr rt p2 => q v H' Hd' d S1 (g1.trans gr.go) (R1.grow gr) rt p2⟩⟩
theorem call0F_at {u : DA} {σ : L2.St} {H : Hp} {Q : VK} {E : XK} (hd : Dfl X.K dvs dd) (h : tF X.K (uCall0 (fun ds P => c (ds ++ dd) P) u) σ H Q) : tCall (sp0 X.K true c) dvs E (tUA X.K u) σ H Q := by
  obtain ⟨Hd, S, P, R, hu, q⟩ := h
  exact ⟨Hd, S, _, R, hu, fun vs H1 Hd1 ds S1 g1 R1 dv p => ⟨Hd1, ds ++ dd, _, R1.ex, dv.app (hd _), p, fun v H' Hd' d gr ⟨a, k1, k2, k3, k4⟩ p2 => q v H' Hd' d S1 (g1.trans gr.go) (R1.grow gr) ⟨a, k1, k3, R1.notOw k2, g1.back k2, k4⟩ p2⟩⟩
theorem q_call (F : FnG X.prog X.w X.K X.mg X.base CX0 k f fd ps (sp0 X.K false c)) (hr : Room k X.A) (hgd : X.A.guards = some []) (hg : Gl X x) (hm : X.mg x = some (.ref f)) (hk : PySem.W.keepIn X.K (.ref f) = true) (hb : Binds X.K fd ps ds) (hv : Vals dvs ds) (hd : Dfl X.K dvs dd)
    (ha : QA X (e :: es) w) (hdb : (x == ("__debug__" : Str)) = false := by decide) (he : starEach (e :: es) X.env = (false, eval e X.env) :: starEach es X.env := by rfl) (hpl : (backTo pos (starEach es X.env)).any (·.1) = false := by rfl) :
    QE X (.Call (.Name x p) (e :: es) [] pos) (uCall0 (fun ds P => c (ds ++ dd) P) w) := pimp (pe_callG F hr hgd hg hm hk hb hv pass0 ha hdb he hpl) fun σ H Q h => call0_at hd h
theorem f_call (F : FnG X.prog X.w X.K X.mg X.base CX0 k f fd ps (sp0 X.K true c)) (hr : Room k X.A) (hgd : X.A.guards = some []) (hg : Gl X x) (hm : X.mg x = some (.ref f)) (hk : PySem.W.keepIn X.K (.ref f) = true) (hb : Binds X.K fd ps ds) (hv : Vals dvs ds) (hd : Dfl X.K dvs dd)
    (ha : QA X (e :: es) w) (hdb : (x == ("__debug__" : Str)) = false := by decide) (he : starEach (e :: es) X.env = (false, eval e X.env) :: starEach es X.env := by rfl) (hpl : (backTo pos (starEach es X.env)).any (·.1) = false := by rfl) :
    QF X (.Call (.Name x p) (e :: es) [] pos) (uCall0 (fun ds P => c (ds ++ dd) P) w) := pimp (pe_callG F hr hgd hg hm hk hb hv pass0 ha hdb he hpl) fun σ H Q h => call0F_at hd h
theorem q_call_ (F : FnG X.prog X.w X.K X.mg X.base CX0 k f fd ps (sp0 X.K false c)) (hr : Room k X.A) (hgd : X.A.guards = some []) (hg : Gl X x) (hm : X.mg x = some (.ref f)) (hk : PySem.W.keepIn X.K (.ref f) = true) (hb : Binds X.K fd ps ds) (hv : Vals dvs ds) (hd : Dfl X.K dvs dd)
    (hdb : (x == ("__debug__" : Str)) = false := by decide) : QE X (.Call (.Name x p) [] [] pos) (uCall0 (fun ds P => c (ds ++ dd) P) uNil) := pimp (pe_callG0 F hr hgd hg hm hk hb hv pass0 hdb) fun σ H Q h => by
  have h' := call0_at (E := E0) hd h
  obtain ⟨Hd, S, P, R, hu, q⟩ := h
  exact ⟨Hd, [] ++ dd, _, R.ex, (DVs.nil).app (hd _), hu, fun v H' Hd' d gr rt p2 => q v H' Hd' d S gr.go (R.grow gr) rt p2⟩
/-- f(x, ..), x an owned name -/
theorem call1_at {σ : L2.St} {H : Hp} {Q : VK} {E : XK} (hd : Dfl X.K dvs dd) (h : tU X.K (uCall1 (fun d0 ds P => c1 d0 (ds ++ dd) P) i w) σ H Q) : tCall (sp1 X.K false c1) dvs E (tCons (tVar i) (tUA X.K w)) σ H Q := by
  obtain ⟨Hd, S, P, R, ⟨ho, hu⟩, q⟩ := h
  obtain ⟨f0, e0, hs0⟩ := ho.at
  obtain ⟨a, a1, _, _⟩ := R.sl i _ hs0
  refine ⟨_, a1, Hd, S, _, R, hu, fun vs H1 Hd1 ds S1 g1 R1 dv p => ?_⟩
  split at p
  · rename_i fl d0 hs
    obtain ⟨b, b1, a2, a3⟩ := R1.sl i _ hs
    rw [a1] at b1; cases b1
    refine ⟨Hd1, a, vs ++ dvs, d0, ds ++ dd, _, rfl, R1.ex, a2, a3, dv.app (hd _), p, fun v H' Hd' d d1 k1 k2 k3 k4 k5 k6 k7 p2 => ?_⟩
    exact q v H' Hd' d _ (g1.trans (Go.upd1 hs a1 k1 k2 k3)) (R1.upd1 hs a1 k1 k2 k3 k4 k5 k6) k7 p2
  · exact p.elim
theorem call1F_at {σ : L2.St} {H : Hp} {Q : VK} {E : XK} (hd : Dfl X.K dvs dd) (h : tF X.K (uCall1 (fun d0 ds P => c1 d0 (ds ++ dd) P) i w) σ H Q) : tCall (sp1 X.K true c1) dvs E (tCons (tVar i) (tUA X.K w)) σ H Q := by
  obtain ⟨Hd, S, P, R, ⟨ho, hu⟩, q⟩ := h
  obtain ⟨f0, e0, hs0⟩ := ho.at
  obtain ⟨a, a1, _, _⟩ := R.sl i _ hs0
  refine ⟨_, a1, Hd, S, _, R, hu, fun vs H1 Hd1 ds S1 g1 R1 dv p => ?_⟩
  split at p
  · rename_i fl d0 hs
    obtain ⟨b, b1, a2, a3⟩ := R1.sl i _ hs
    rw [a1] at b1; cases b1
    refine ⟨Hd1, a, vs ++ dvs, d0, ds ++ dd, _, rfl, R1.ex, a2, a3, dv.app (hd _), p, fun v H' Hd' d d1 k1 k2 k3 k4 k5 k6 ⟨z, z1, z2, z3, z4⟩ p2 => ?_⟩
    have g2 := Go.upd1 (d1 := d1) hs a1 k1 k2 k3
    refine q v H' Hd' d _ (g1.trans g2) (R1.upd1 hs a1 k1 k2 k3 k4 k5 k6) ⟨z, z1, z3, fun y => ?_, g1.back z2, z4⟩ p2
    rcases g2.ow z y with y | y
    · exact R1.notOw z2 y
    · obtain ⟨j, g, dz, y1, y2⟩ := (by assumption : Ow σ (S1.set i (.own fl d1)) z)
      rcases getset y1 with ⟨rfl, _, _⟩ | ⟨_, y1⟩
      · rw [a1] at y2; cases y2
        obtain ⟨ob, hob⟩ := a3.has
        rw [z2] at hob; cases hob
      · exact R1.notOw z2 ⟨j, g, dz, y1, y2⟩
  · exact p.elim
theorem q_call1 (F : FnG X.prog X.w X.K X.mg X.base CX0 k f fd ps (sp1 X.K false c1)) (hr : Room k X.A) (hgd : X.A.guards = some []) (hg : Gl X x) (hm : X.mg x = some (.ref f)) (hk : PySem.W.keepIn X.K (.ref f) = true) (hb : Binds X.K fd ps ds) (hv : Vals dvs ds) (hd : Dfl X.K dvs dd)
    (h1 : PE X e (tVar i)) (ha : QA X es w) (hdb : (x == ("__debug__" : Str)) = false := by decide) (he : starEach (e :: es) X.env = (false, eval e X.env) :: starEach es X.env := by rfl) (hpl : (backTo pos (starEach es X.env)).any (·.1) = false := by rfl) :
    QE X (.Call (.Name x p) (e :: es) [] pos) (uCall1 (fun d0 ds P => c1 d0 (ds ++ dd) P) i w) := pimp (pe_callG F hr hgd hg hm hk hb hv pass0 (pa_cons h1 ha he) hdb he hpl) fun σ H Q h => call1_at hd h
theorem f_call1 (F : FnG X.prog X.w X.K X.mg X.base CX0 k f fd ps (sp1 X.K true c1)) (hr : Room k X.A) (hgd : X.A.guards = some []) (hg : Gl X x) (hm : X.mg x = some (.ref f)) (hk : PySem.W.keepIn X.K (.ref f) = true) (hb : Binds X.K fd ps ds) (hv : Vals dvs ds) (hd : Dfl X.K dvs dd)
    (h1 : PE X e (tVar i)) (ha : QA X es w) (hdb : (x == ("__debug__" : Str)) = false := by decide) (he : starEach (e :: es) X.env = (false, eval e X.env) :: starEach es X.env := by rfl) (hpl : (backTo pos (starEach es X.env)).any (·.1) = false := by rfl) :
    QF X (.Call (.Name x p) (e :: es) [] pos) (uCall1 (fun d0 ds P => c1 d0 (ds ++ dd) P) i w) := pimp (pe_callG F hr hgd hg hm hk hb hv pass0 (pa_cons h1 ha he) hdb he hpl) fun σ H Q h => call1F_at hd h
end
end TL

namespace TL
open PySem L2 Evl

/-! ### dicts -/
def keyD : D → Option Key
  | .int i => some (.inl i)
  | .str x => some (.inr x)
  | _ => none
def valD (kvs : List (Key × D)) (k : Key) : Option D := (kvs.find? fun kv => decide (kv.1 = k)).map (·.2)
def putD (kvs : List (Key × D)) (k : Key) (d : D) : List (Key × D) :=
  if (kvs.any fun kv => decide (kv.1 = k)) = true then kvs.map (fun kv => if kv.1 = k then (kv.1, d) else kv) else kvs ++ [(k, d)]
theorem DV.key {K : PySem.W.Frag} {H : Hp} {v : V} {d : D} {k : Key} (h : DV K H v d) (e : keyD d = some k) : v = kV k := by
  cases h <;> first | (cases e; rfl) | (exact nomatch e)
section
variable {K : PySem.W.Frag} {H : Hp} {k : Key}
theorem val_rel : ∀ {kvs : List (Key × V)} {ds : List (Key × D)} {d : D}, kvs.map (·.1) = ds.map (·.1) → DVs K H (kvs.map (·.2)) (ds.map (·.2)) → valD ds k = some d → ∃ v, valV kvs k = some v ∧ DV K H v d
  | [], [], d, _, _, e => by simp [valD] at e
  | [], _ :: _, _, h, _, _ => by simp at h
  | _ :: _, [], _, h, _, _ => by simp at h
  | (a, v) :: kvs, (b, x) :: ds, d, h, hv, e => by
    simp only [List.map_cons, List.cons.injEq] at h
    obtain ⟨rfl, h⟩ := h
    cases hv with
    | cons h1 h2 =>
      by_cases z : a = k
      · simp [valD, z] at e
        subst e
        exact ⟨v, by simp [valV, z], h1⟩
      · have e2 : valD ds k = some d := by simpa [valD, z] using e
        obtain ⟨u, u1, u2⟩ := val_rel h h2 e2
        exact ⟨u, by simpa [valV, z] using u1, u2⟩
theorem any_rel : ∀ {kvs : List (Key × V)} {ds : List (Key × D)}, kvs.map (·.1) = ds.map (·.1) → (kvs.any fun kv => decide (kv.1 = k)) = ds.any fun kv => decide (kv.1 = k)
  | [], [], _ => rfl
  | [], _ :: _, h => by simp at h
  | _ :: _, [], h => by simp at h
  | (a, v) :: kvs, (b, x) :: ds, h => by
    simp only [List.map_cons, List.cons.injEq] at h
    obtain ⟨rfl, h⟩ := h
    simp only [List.any_cons, any_rel h]
theorem map_rel {v : V} {d : D} (dv : DV K H v d) : ∀ {kvs : List (Key × V)} {ds : List (Key × D)}, kvs.map (·.1) = ds.map (·.1) → DVs K H (kvs.map (·.2)) (ds.map (·.2)) →
    (kvs.map fun kv => if kv.1 = k then (kv.1, v) else kv).map (·.1) = (ds.map fun kv => if kv.1 = k then (kv.1, d) else kv).map (·.1) ∧ DVs K H ((kvs.map fun kv => if kv.1 = k then (kv.1, v) else kv).map (·.2)) ((ds.map fun kv => if kv.1 = k then (kv.1, d) else kv).map (·.2))
  | [], [], _, _ => ⟨rfl, .nil⟩
  | [], _ :: _, h, _ => by simp at h
  | _ :: _, [], h, _ => by simp at h
  | (a, x) :: kvs, (b, y) :: ds, h, hv => by
    simp only [List.map_cons, List.cons.injEq] at h
    obtain ⟨rfl, h⟩ := h
    cases hv with
    | cons h1 h2 =>
      obtain ⟨q1, q2⟩ := map_rel dv h h2
      by_cases z : a = k
      · simp only [List.map_cons, if_pos z]; exact ⟨by rw [q1], .cons dv q2⟩
      · simp only [List.map_cons, if_neg z]; exact ⟨by rw [q1], .cons h1 q2⟩
theorem put_rel {v : V} {d : D} (dv : DV K H v d) {kvs : List (Key × V)} {ds : List (Key × D)} (h : kvs.map (·.1) = ds.map (·.1)) (hv : DVs K H (kvs.map (·.2)) (ds.map (·.2))) :
    (putK kvs k v).map (·.1) = (putD ds k d).map (·.1) ∧ DVs K H ((putK kvs k v).map (·.2)) ((putD ds k d).map (·.2)) := by
  unfold putK putD
  rw [any_rel h]
  by_cases z : (ds.any fun kv => decide (kv.1 = k)) = true
  · rw [if_pos z, if_pos z]; exact map_rel dv h hv
  · rw [if_neg z, if_neg z]
    refine ⟨by simp [h], ?_⟩
    simpa using hv.snoc dv
end

section
variable {X : Cx} {o ix e value : Expr} {pos pos' apos cpos : Pos} {u uy ue : DE} {i : Nat}
/-- an owned name within an expression of a flat value that changes nothing -/
def flatD : D → Bool
  | .non => true
  | .bl _ => true
  | .int _ => true
  | .str _ => true
  | _ => false
theorem flat_any {K : PySem.W.Frag} {H H' : Hp} {v : V} {d : D} (h : flatD d = true) (dv : DV K H v d) : DV K H' v d := by
  cases dv with
  | non => exact .non
  | bl b => exact .bl b
  | int i => exact .int i
  | str x => exact .str x
  | ty n => cases h
  | fn a => cases h
  | lst _ _ => cases h
  | tup _ _ => cases h
  | dct _ _ _ => cases h
  | obj _ _ _ => cases h
  | scr _ => cases h
def frzS : Sl → Sl
  | .own _ d => .dat d
  | s => s
def uThaw (u : DE) : DE := fun S P => u (S.map frzS) fun d _ => flatD d = true ∧ P d S
open Classical in
noncomputable def plus (Hd H : Hp) (σ : L2.St) (S : Ss) : Hp := fun b => if (Hd b).isSome = true then Hd b else if Ow σ S b then H b else none
theorem plus_up {Hd H : Hp} {σ : L2.St} {S : Ss} : Ex Hd (plus Hd H σ S) := fun a o h => by
  unfold plus
  rw [if_pos (by rw [h]; rfl)]; exact h
theorem plus_in {Hd H : Hp} {σ : L2.St} {S : Ss} (e : Ex Hd H) : Ex (plus Hd H σ S) H := fun a o h => by
  unfold plus at h
  by_cases z : (Hd a).isSome = true
  · rw [if_pos z] at h; exact e a o h
  · rw [if_neg z] at h
    by_cases y : Ow σ S a
    · rw [if_pos y] at h; exact h
    · rw [if_neg y] at h; cases h
theorem plus_ow {Hd H : Hp} {σ : L2.St} {S : Ss} {a : Addr} (n : Hd a = none) (h : Ow σ S a) : plus Hd H σ S a = H a := by
  unfold plus
  rw [if_neg (by rw [n]; simp), if_pos h]
theorem thaw_get {S : Ss} {j : Nat} {s : Sl} (h : (S.map frzS)[j]? = some s) : ∃ s0, S[j]? = some s0 ∧ s = frzS s0 := by
  rw [List.getElem?_map] at h
  cases e : S[j]? with
  | none => rw [e] at h; cases h
  | some s0 => rw [e] at h; cases h; exact ⟨s0, rfl, rfl⟩
theorem thaw_no {S : Ss} {σ : L2.St} {a : Addr} (h : Ow σ (S.map frzS) a) : False := by
  obtain ⟨j, f, d, h1, _⟩ := h
  obtain ⟨s0, _, e⟩ := thaw_get h1
  cases s0 <;> cases e
theorem Rel.thaw {K : PySem.W.Frag} {Hd H : Hp} {σ : L2.St} {S : Ss} (R : Rel K Hd H σ S) : Rel K (plus Hd H σ S) H σ (S.map frzS) where
  len := by rw [List.length_map]; exact R.len
  ex := plus_in R.ex
  sl := fun j s h => by
    obtain ⟨s0, h1, rfl⟩ := thaw_get h
    have r := R.sl j s0 h1
    cases s0 with
    | no => trivial
    | dat d => obtain ⟨v, q1, q2⟩ := r; exact ⟨v, q1, q2.mono plus_up⟩
    | own f d =>
      obtain ⟨a, q1, q2, q3⟩ := r
      have e : plus Hd H σ S a = H a := plus_ow q2 ⟨j, f, d, h1, q1⟩
      refine ⟨_, q1, ?_⟩
      cases d with
      | lst ds => obtain ⟨vs, k1, k2⟩ := q3; exact .lst (.inl (e.trans k1)) (k2.mono plus_up)
      | dct ds => obtain ⟨vs, k1, k2, k3⟩ := q3; exact .dct (.inl (e.trans k1)) k2 (k3.mono plus_up)
      | obj C ds => obtain ⟨dx, fs, k1, k2, k3⟩ := q3; exact .obj (e.trans k1) k2 (k3.mono plus_up)
      | non => exact q3.elim
      | bl b => exact q3.elim
      | int i => exact q3.elim
      | str x => exact q3.elim
      | ty n => exact q3.elim
      | fn a => exact q3.elim
      | tup xs => exact q3.elim
      | scr ns => exact q3.elim
  inj := fun i j a f d g e h1 _ _ _ => by
    obtain ⟨s0, _, z⟩ := thaw_get h1
    cases s0 <;> cases z
theorem thaw_back {K : PySem.W.Frag} {Hd H Hd2 H2 : Hp} {σ σ2 : L2.St} {S S2 : Ss} (R : Rel K Hd H σ S) (g : Go σ (S.map frzS) (plus Hd H σ S) H σ2 S2 Hd2 H2) : Gr Hd H Hd H2 :=
  Gr.of R.ex fun a o h => g.kp a o h fun z => thaw_no z
theorem q_thaw {e : Expr} (h : QE X e u) : QE X e (uThaw u) := pimp h fun σ H Q ⟨Hd, S, P, R, hu, q⟩ =>
  ⟨_, _, _, R.thaw, hu, fun v H2 Hd2 d S2 g2 R2 dv ⟨s2, p⟩ => q v H2 Hd d S (thaw_back R g2).go (R.grow (thaw_back R g2)) (flat_any s2 dv) p⟩
def uThawT (u : DT) : DT := fun S P => u (S.map frzS) fun b _ => P b S
theorem t_thaw {e : Expr} {u : DT} (h : QT X e u) : QT X e (uThawT u) := pimpT h fun σ H Q ⟨Hd, S, P, R, hu, q⟩ =>
  ⟨_, _, _, R.thaw, hu, fun b H2 Hd2 S2 g2 R2 p => q b H2 Hd S (thaw_back R g2).go (R.grow (thaw_back R g2)) p⟩
/-! ### owned dicts and lists, by their names -/
def uDGetO (i : Nat) (uy : DE) : DE := fun S P => owned S i ∧ uy S fun y S1 => match S1[i]?, keyD y with
  | some (.own _ (.dct kvs)), some k => ∃ d, valD kvs k = some d ∧ P d S1
  | _, _ => False
theorem q_dgetO (hu : X.A.units + 1 < cLine) (ho : PE X o (tVar i)) (hi : QE X ix uy) (hs : NoSl ix) : QE X (.Subscript o ix pos) (uDGetO i uy) := pimp (pe_dget hu ho hi hs) fun σ H Q ⟨Hd, S, P, R, ⟨h0, h1⟩, q⟩ => by
  obtain ⟨f0, e0, hs0⟩ := h0.at
  obtain ⟨a, a1, _, _⟩ := R.sl i _ hs0
  refine ⟨_, a1, Hd, S, _, R, h1, fun v H1 Hd1 y S1 g1 R1 dv p => ?_⟩
  split at p
  · rename_i f kvs k hs1 hk
    obtain ⟨d, hd, p⟩ := p
    obtain ⟨b, b1, b2, b3⟩ := R1.sl i _ hs1
    rw [a1] at b1; cases b1
    obtain ⟨ks, k1, k2, k3⟩ := b3
    obtain ⟨w, w1, w2⟩ := val_rel k2 k3 hd
    exact ⟨a, w, rfl, .inl ⟨ks, k, .inl k1, dv.key hk, w1.symm⟩, q w H1 Hd1 d S1 g1 R1 w2 p⟩
  · exact p.elim
def uDGet (u uy : DE) : DE := fun S P => u S fun x S1 => uy S1 fun y S2 => match x, keyD y with
  | .dct kvs, some k => ∃ d, valD kvs k = some d ∧ P d S2
  | _, _ => False
theorem q_dget (hu : X.A.units + 1 < cLine) (ho : QE X o u) (hi : QE X ix uy) (hs : NoSl ix) : QE X (.Subscript o ix pos) (uDGet u uy) := pimp (pe_dget hu ho hi hs) fun σ H Q ⟨Hd, S, P, R, h1, q⟩ => by
  refine ⟨Hd, S, _, R, h1, fun v H1 Hd1 x S1 g1 R1 dv p1 => ⟨Hd1, S1, _, R1, p1, fun w H2 Hd2 y S2 g2 R2 dw p => ?_⟩⟩
  split at p
  · rename_i kvs k hk
    obtain ⟨d, hd, p⟩ := p
    cases dv with
    | @dct a ks _ k1 k2 k3 =>
      obtain ⟨z, z1, z2⟩ := val_rel k2 k3 hd
      exact ⟨a, z, rfl, .inl ⟨ks, k, ex_rd (g2.ex.trans R2.ex) k1, dw.key hk, z1.symm⟩, q z H2 Hd2 d S2 (g1.trans g2) R2 (z2.mono g2.ex) p⟩
  · exact p.elim
def uDPut (i : Nat) (uy uv : DE) : DS := fun F S => uv S fun d S1 => owned S1 i ∧ uy S1 fun y S2 => match S2[i]?, keyD y with
  | some (.own f (.dct kvs)), some k => kvs.length < sizeLine ∧ F.nx (S2.set i (.own f (.dct (putD kvs k d))))
  | _, _ => False
theorem upd_kp {H : Hp} {a : Addr} {o' : HO} : ∀ b o, H b = some o → b ≠ a → upd H a o' b = some o := fun b o h n => by rw [upd_ne n]; exact h
theorem upd_inn {Hd H : Hp} {a : Addr} {o' : HO} (e : Ex Hd H) (n : Hd a = none) : Ex Hd (upd H a o') := fun b o h => by
  have ne : b ≠ a := by rintro rfl; rw [n] at h; cases h
  rw [upd_ne ne]; exact e b o h
theorem s_dputO {uv : DE} (hu : X.A.units + 1 < cLine) (ho : PE X o (tVar i)) (hi : QE X ix uy) (hv : QE X value uv) (hs : swapsWith value (some (.Subscript o ix pos')) pos.line X.env = pure false := by rfl) :
    QS X (.Assign [.Subscript o ix pos'] value pos) (uDPut i uy uv) := pimpS (ps_dput hu ho hi hv hs) fun E σ H ⟨Hd, S, F, R, h1, L⟩ => by
  refine ⟨Hd, S, _, R, h1, fun v H1 Hd1 d S1 g1 R1 dv ⟨h0, p1⟩ => ?_⟩
  obtain ⟨f0, e0, hs0⟩ := h0.at
  obtain ⟨a, a1, _, _⟩ := R1.sl i _ hs0
  refine ⟨_, a1, Hd1, S1, _, R1, p1, fun w H2 Hd2 y S2 g2 R2 dw p => ?_⟩
  split at p
  · rename_i f kvs k hs2 hk
    obtain ⟨b, b1, b2, b3⟩ := R2.sl i _ hs2
    rw [a1] at b1; cases b1
    obtain ⟨ks, k1, k2, k3⟩ := b3
    obtain ⟨r1, r2⟩ := put_rel (k := k) (dv.mono g2.ex) k2 k3
    have hl : ks.length < sizeLine := by have := congrArg List.length k2; simp at this; rw [this]; exact p.1
    refine ⟨a, _, rfl, .inl ⟨ks, k, k1, dw.key hk, hl, rfl⟩, ?_⟩
    refine L.nx σ _ Hd2 _ ((g1.trans g2).trans (Go.upd1 hs2 a1 (Ex.refl _) upd_kp fun _ _ z => .inl z)) (R2.upd1 hs2 a1 (Ex.refl _) upd_kp (fun _ _ z => .inl z) (upd_inn R2.ex b2) b2 (own_dct upd_same r1 r2)) p.2
  · exact p.elim
def uIxO (i : Nat) (uy : DE) : DE := fun S P => owned S i ∧ uy S fun y S1 => match S1[i]?, y with
  | some (.own _ (.lst ds)), .int k => ∃ d, atI ds k = some d ∧ P d S1
  | _, _ => False
theorem DVs.atI {K : PySem.W.Frag} {H : Hp} {vs : List V} {ds : List D} {k : Int} {d : D} (h : DVs K H vs ds) (e : L2.atI ds k = some d) : ∃ v, L2.atI vs k = some v ∧ DV K H v d := by
  unfold L2.atI at e ⊢
  rw [h.len]
  cases z : ixN ds.length k with
  | none => rw [z] at e; cases e
  | some j =>
    rw [z] at e
    obtain ⟨v, h1, h2⟩ := h.get (i := j) (d := d) e
    exact ⟨v, h1, h2⟩
theorem q_ixO (ho : PE X o (tVar i)) (hi : QE X ix uy) (hs : PlainIx ix) : QE X (.Subscript o ix pos) (uIxO i uy) := pimp (pe_ix ix_list ho hi hs) fun σ H Q ⟨Hd, S, P, R, ⟨h0, h1⟩, q⟩ => by
  obtain ⟨f0, e0, hs0⟩ := h0.at
  obtain ⟨a, a1, _, _⟩ := R.sl i _ hs0
  refine ⟨_, a1, Hd, S, _, R, h1, fun v H1 Hd1 y S1 g1 R1 dv p => ?_⟩
  split at p
  · rename_i f ds k hs1
    obtain ⟨d, hd, p⟩ := p
    obtain ⟨b, b1, b2, b3⟩ := R1.sl i _ hs1
    rw [a1] at b1; cases b1
    obtain ⟨vs, k1, k2⟩ := b3
    obtain ⟨w, w1, w2⟩ := k2.atI hd
    cases dv
    exact ⟨a, vs, k, w, rfl, rfl, sq_of k1, w1, q w H1 Hd1 d S1 g1 R1 w2 p⟩
  · exact p.elim
def uSetIt (i : Nat) (uy uv : DE) : DS := fun F S => uv S fun d S1 => owned S1 i ∧ uy S1 fun y S2 => match S2[i]?, y with
  | some (.own f (.lst ds)), .int k => ∃ j, ixN ds.length k = some j ∧ F.nx (S2.set i (.own f (.lst (ds.set j d))))
  | _, _ => False
theorem s_setIt {uv : DE} (ho : PE X o (tVar i)) (hi : QE X ix uy) (hv : QE X value uv) (hs : swapsWithSole [.Subscript o ix pos'] value pos.line X.env = pure false := by rfl) (hw : swappedStores [.Subscript o ix pos'] value X.env = pure none := by rfl)
    (h1 : (assignEach [.Subscript o ix pos'] X.env).map (·.2) = [assign (.Subscript o ix pos') X.env] := by rfl)
    (ha : ∀ v, assign (.Subscript o ix pos') X.env v = (do
      let ov ← holding [v] (eval o X.env)
      let iv ← holding [v, ov] (eval ix X.env)
      standAt pos'
      holding [v, ov, iv] (setItem ov iv v)
      release [v, ov, iv] []) := by intro _; rfl) :
    QS X (.Assign [.Subscript o ix pos'] value pos) (uSetIt i uy uv) := pimpS (ps_asg hv (pg_sub ho hi set_list ha) hs hw h1) fun E σ H ⟨Hd, S, F, R, h1, L⟩ => by
  refine ⟨Hd, S, _, R, h1, fun v H1 Hd1 d S1 g1 R1 dv ⟨h0, p1⟩ => ?_⟩
  obtain ⟨f0, e0, hs0⟩ := h0.at
  obtain ⟨a, a1, _, _⟩ := R1.sl i _ hs0
  refine ⟨_, a1, Hd1, S1, _, R1, p1, fun w H2 Hd2 y S2 g2 R2 dw p => ?_⟩
  split at p
  · rename_i f ds k hs2
    obtain ⟨j, hj, p⟩ := p
    obtain ⟨b, b1, b2, b3⟩ := R2.sl i _ hs2
    rw [a1] at b1; cases b1
    obtain ⟨vs, k1, k2⟩ := b3
    cases dw
    refine ⟨a, vs, k, j, rfl, rfl, k1, by rw [k2.len]; exact hj, ?_⟩
    exact L.nx σ _ Hd2 _ ((g1.trans g2).trans (Go.upd1 hs2 a1 (Ex.refl _) upd_kp fun _ _ z => .inl z)) (R2.upd1 hs2 a1 (Ex.refl _) upd_kp (fun _ _ z => .inl z) (upd_inn R2.ex b2) b2 (own_lst upd_same (k2.setAt (dv.mono g2.ex) j))) p
  · exact p.elim
def uApp (i : Nat) (ue : DE) : DS := fun F S => (match S[i]? with
  | some (.own _ (.lst _)) => True
  | _ => False) ∧ ue S fun d S1 => match S1[i]? with
    | some (.own f (.lst ds)) => ds.length < sizeLine ∧ F.nx (S1.set i (.own f (.lst (ds ++ [d]))))
    | _ => False
theorem s_append (ho : PE X o (tVar i)) (he : QE X e ue) (hbase : attributeBase o "append" X.env (eval o X.env) = eval o X.env := by rfl)
    (hfew : ((backTo cpos (starEach [e] X.env)).all (fun x => !x.1) && (backToKw cpos (keywordEach [] X.env)).all (fun x => x.1.isSome) && decide ([e].length + ([] : List Keyword).length + (if ([] : List Keyword).isEmpty then 0 else 1) < 30)) = true := by rfl)
    (hline : (apos.endLine == cpos.line) = true := by rfl) (hs : starEach [e] X.env = (false, eval e X.env) :: starEach [] X.env := by rfl) (hplain : (backTo cpos (starEach [] X.env)).any (·.1) = false := by rfl)
    (hsw : swapsWith (.Call (.Attribute o "append" apos) [e] [] cpos) none pos.line X.env = pure false := by rfl) :
    QS X (.Expr (.Call (.Attribute o "append" apos) [e] [] cpos) pos) (uApp i ue) :=
  pimpS (ps_expr (pe_bm PySem.F.plainAttrs_list PySem.F.slot_list_append PySem.F.type_list_append mt_append ho (pa_cons he pa_nil hs) hbase hfew hline hs hplain) hsw) fun E σ H ⟨Hd, S, F, R, ⟨h0, h1⟩, L⟩ => by
  split at h0
  · rename_i f0 ds0 hs0
    obtain ⟨a, a1, a2, vs0, a3, a4⟩ := R.sl i _ hs0
    refine ⟨_, a1, .inl ⟨rfl, vs0, sq_of a3⟩, Hd, S, _, R, h1, fun v H1 Hd1 d S1 g1 R1 dv p => ?_⟩
    split at p
    · rename_i f ds hs2
      obtain ⟨b, b1, b2, b3⟩ := R1.sl i _ hs2
      rw [a1] at b1; cases b1
      obtain ⟨vs, k1, k2⟩ := b3
      refine ⟨a, vs, v, rfl, rfl, k1, by rw [k2.len]; exact p.1, ?_⟩
      exact L.nx σ _ Hd1 _ (g1.trans (Go.upd1 hs2 a1 (Ex.refl _) upd_kp fun _ _ z => .inl z)) (R1.upd1 hs2 a1 (Ex.refl _) upd_kp (fun _ _ z => .inl z) (upd_inn R1.ex b2) b2 (own_lst upd_same (k2.snoc dv))) p.2
    · exact p.elim
  · exact h0.elim
end
end TL

namespace TL
open PySem L2 Evl

/-! ### trees as the model's data -/
def keyP : Key → PyData
  | .inl i => .int i
  | .inr x => .str x
mutual
def toP : D → PyData
  | .non => .none
  | .bl b => .bool b
  | .int i => .int i
  | .str x => .str x
  | .lst xs => .list (toPs xs)
  | .tup xs => .tuple (toPs xs)
  | .dct kvs => .dict (toPk kvs)
  | .ty _ => .none
  | .fn _ => .none
  | .obj _ _ => .none
  | .scr ns => .list (ns.map .int)
def toPs : List D → List PyData
  | [] => []
  | d :: ds => toP d :: toPs ds
def toPk : List (Key × D) → List (PyData × PyData)
  | [] => []
  | (k, d) :: r => (keyP k, toP d) :: toPk r
end
mutual
/-- data: no class, def, object within -/
def isP : D → Bool
  | .lst xs => isPs xs
  | .tup xs => isPs xs
  | .dct kvs => isPk kvs
  | .ty _ => false
  | .fn _ => false
  | .obj _ _ => false
  | .scr _ => true
  | .non => true
  | .bl _ => true
  | .int _ => true
  | .str _ => true
def isPs : List D → Bool
  | [] => true
  | d :: ds => isP d && isPs ds
def isPk : List (Key × D) → Bool
  | [] => true
  | (_, d) :: r => isP d && isPk r
end
mutual
/-- no dict within either -/
def isQ : D → Bool
  | .lst xs => isQs xs
  | .tup xs => isQs xs
  | .dct _ => false
  | .ty _ => false
  | .fn _ => false
  | .obj _ _ => false
  | .scr _ => true
  | .non => true
  | .bl _ => true
  | .int _ => true
  | .str _ => true
def isQs : List D → Bool
  | [] => true
  | d :: ds => isQ d && isQs ds
end
mutual
/-- no list within -/
def noL : D → Bool
  | .lst _ => false
  | .tup xs => noLs xs
  | .dct kvs => noLk kvs
  | .ty _ => true
  | .fn _ => true
  | .obj _ _ => true
  | .scr _ => false
  | .non => true
  | .bl _ => true
  | .int _ => true
  | .str _ => true
def noLs : List D → Bool
  | [] => true
  | d :: ds => noL d && noLs ds
def noLk : List (Key × D) → Bool
  | [] => true
  | (_, d) :: r => noL d && noLk r
end
theorem isPk_map : ∀ kvs : List (Key × D), isPk kvs = isPs (kvs.map (·.2))
  | [] => rfl
  | (_, d) :: r => by simp only [isPk, isPs, List.map_cons, isPk_map r]
theorem noLk_map : ∀ kvs : List (Key × D), noLk kvs = noLs (kvs.map (·.2))
  | [] => rfl
  | (_, d) :: r => by simp only [noLk, noLs, List.map_cons, noLk_map r]
theorem toPk_keys : ∀ kvs : List (Key × D), (toPk kvs).map (·.1) = kvs.map fun p => keyP p.1
  | [] => rfl
  | (k, d) :: r => by simp only [toPk, List.map_cons, toPk_keys r]
theorem toPk_vals : ∀ kvs : List (Key × D), (toPk kvs).map (·.2) = toPs (kvs.map (·.2))
  | [] => rfl
  | (k, d) :: r => by simp only [toPk, toPs, List.map_cons, toPk_vals r]
theorem dpall_int {K : PySem.W.Frag} {H : Hp} : ∀ ns : List Int, DpAll K H (ns.map V.int) (ns.map PyData.int)
  | [] => .nil
  | n :: ns => .cons (.int n) (dpall_int ns)
theorem dp_of {K : PySem.W.Frag} {H : Hp} {v : V} {d : D} (h : DV K H v d) : isQ d = true → Dp K H v (toP d) := by
  refine DV.rec (motive_1 := fun v d _ => isQ d = true → Dp K H v (toP d)) (motive_2 := fun vs ds _ => isQs ds = true → DpAll K H vs (toPs ds)) ?_ ?_ ?_ ?_ ?_ ?_ ?_ ?_ ?_ ?_ ?_ ?_ ?_ h
  · intro _; exact .non
  · intro b _; exact .bl b
  · intro i _; exact .int i
  · intro x _; exact .str x
  · intro n z; simp [isQ] at z
  · intro a z; simp [isQ] at z
  · intro a xs ds h1 _ h2 z; simp only [isQ] at z; simp only [toP]; exact .lst (.inl h1) (h2 z)
  · intro a xs ds h1 _ h2 z; simp only [isQ] at z; simp only [toP]; exact .tup h1 (h2 z)
  · intro a kvs ds _ _ _ _ z; simp [isQ] at z
  · intro a C dx fs ds _ _ _ _ z; simp [isQ] at z
  · intro a ns h1 _; simp only [toP]; exact .lst h1 (dpall_int ns)
  · intro _; simp only [toPs]; exact .nil
  · intro v vs d ds _ _ h1 h2 z
    simp only [isQs, Bool.and_eq_true] at z
    simp only [toPs]
    exact .cons (h1 z.1) (h2 z.2)
section
variable {X : Cx} {pins : List (Addr × Obj)} {σ : L2.St} {H : Hp} {s : Shared}
theorem keys_read {h : Heap} {P : Program} {w : World} : ∀ {es : List DictEntry} {vs : List (Key × Value)} {ks : List Key}, Pairs (mixKind P w) es vs → vs.map (·.1) = ks → ReadsAll h (es.map (·.key)) (ks.map keyP) []
  | _, _, _, .nil, e => by subst e; exact .nil
  | _, _, ks, .cons (e := en) (kv := kv) h1 _ h3, e => by
    subst e
    have r := keys_read (h := h) h3 rfl
    have q : Reads h en.key (keyP kv.1) [] := by
      rcases keyIs_shape (show keyIs kv.1 en.key = true from h1) with ⟨i, t, e1, e2⟩ | ⟨x, t, e1, e2⟩
      · rw [e1, e2]; exact .int i t
      · rw [e1, e2]; exact .str x t
    have c := ReadsAll.cons q r
    simpa using c
theorem pairs_vals {P : Program} {w : World} : ∀ {es : List DictEntry} {vs : List (Key × Value)}, Pairs (mixKind P w) es vs → es.map (·.val) = vs.map (·.2)
  | _, _, .nil => rfl
  | _, _, .cons _ h2 h3 => by simp only [List.map_cons, h2, pairs_vals h3]
theorem kv_split : ∀ {kvs : List (Key × V)} {vs : List (Key × Value)}, KV kvs vs → vs.map (·.1) = kvs.map (·.1) ∧ Vals (kvs.map (·.2)) (vs.map (·.2))
  | _, _, .nil => ⟨rfl, .nil⟩
  | _, _, .cons h t => by
    obtain ⟨q1, q2⟩ := kv_split t
    simp only [List.map_cons]
    exact ⟨by rw [q1, h.1], .cons h.2 q2⟩
theorem Rd.obj {P : Program} {w : World} {h : Heap} {a : Addr} {u : HO} (r : Rd H a u) (x : HOk P w H h) : ObjOk P w H h a u := Rd.ok r x
theorem dv_reads (I : Inv X pins σ H s) {v : V} {d : D} (h : DV X.K H v d) : ∀ u, RelV v u → isP d = true → ∃ as, Reads s.heap u (toP d) as ∧ (noL d = true → sysModules ∉ as) := by
  refine DV.rec (motive_1 := fun v d _ => ∀ u, RelV v u → isP d = true → ∃ as, Reads s.heap u (toP d) as ∧ (noL d = true → sysModules ∉ as)) (motive_2 := fun vs ds _ => ∀ us, Vals vs us → isPs ds = true → ∃ as, ReadsAll s.heap us (toPs ds) as ∧ (noLs ds = true → sysModules ∉ as)) ?_ ?_ ?_ ?_ ?_ ?_ ?_ ?_ ?_ ?_ ?_ ?_ ?_ h
  · intro u r _; cases r; exact ⟨_, .none, fun _ => by simp⟩
  · intro b u r _; cases r; exact ⟨_, .bool b, fun _ => by simp⟩
  · intro i u r _; obtain ⟨t, rfl⟩ := r; exact ⟨_, .int i t, fun _ => by simp⟩
  · intro x u r _; obtain ⟨t, rfl⟩ := r; exact ⟨_, .str x t, fun _ => by simp⟩
  · intro n u r z; simp [isP] at z
  · intro a u r z; simp [isP] at z
  · intro a xs ds h1 _ ih u r z
    cases r
    simp only [isP] at z
    obtain ⟨_, its, n, rv, e⟩ := h1.ok I.hok
    obtain ⟨as, q, _⟩ := ih its rv z
    exact ⟨_, by simp only [toP]; exact .list e rfl rfl q, fun z => by simp [noL] at z⟩
  · intro a xs ds h1 _ ih u r z
    cases r
    simp only [isP] at z
    obtain ⟨its, rv, ⟨o, ho, hc, n, hd⟩, _⟩ := I.tuple h1
    obtain ⟨as, q, q2⟩ := ih its rv z
    exact ⟨_, by simp only [toP]; exact .tuple ho hc hd q, fun z => q2 (by simpa [noL] using z)⟩
  · intro a kvs ds h1 h2 _ ih u r z
    cases r
    simp only [isP, isPk_map] at z
    obtain ⟨_, ns, vs, kv, o, es, ep, ho, hex, hd, _, hp, _⟩ := h1.ok I.hok
    obtain ⟨k1, k2⟩ := kv_split kv
    obtain ⟨as, q, q2⟩ := ih _ k2 z
    have r1 : ReadsAll s.heap (es.toList.map (·.key)) ((toPk ds).map (·.1)) [] := by
      rw [toPk_keys]
      have := keys_read (h := s.heap) hp (k1.trans h2)
      rw [List.map_map] at this
      exact this
    have r2 : ReadsAll s.heap (es.toList.map (·.val)) ((toPk ds).map (·.2)) as := by
      rw [toPk_vals, pairs_vals hp]; exact q
    refine ⟨_, by simp only [toP]; exact .dict ho hex.1 hd r1 r2, fun z => ?_⟩
    have ne : a ≠ sysModules := by intro e; subst e; simp at ns
    have q3 := q2 (by simpa [noL, noLk_map] using z)
    simp only [List.append_nil, List.cons_append, List.mem_cons, not_or]
    simp only [List.nil_append]
    exact ⟨Ne.symm ne, q3⟩
  · intro a C dx fs ds _ _ _ _ u r z; simp [isP] at z
  · intro a ns h1 u r z
    cases r
    obtain ⟨as, q⟩ := Dp.reads I (.list (ns.map .int)) (.ref a) (.ref a) (.lst h1 (dpall_int ns)) rfl
    exact ⟨as, by simp only [toP]; exact q, fun z => by simp [noL] at z⟩
  · intro us r _; cases r; exact ⟨_, by simp only [toPs]; exact .nil, fun _ => by simp⟩
  · intro v vs d ds _ _ h1 h2 us r z
    cases r with
    | cons r1 r2 =>
      simp only [isPs, Bool.and_eq_true] at z
      obtain ⟨as, q1, q2⟩ := h1 _ r1 z.1
      obtain ⟨bs, q3, q4⟩ := h2 _ r2 z.2
      refine ⟨_, by simp only [toPs]; exact .cons q1 q3, fun z => ?_⟩
      simp only [noLs, Bool.and_eq_true] at z
      simp only [List.mem_append, not_or]
      exact ⟨q2 z.1, q4 z.2⟩
/-! ### repr -/
def shownD (d : D) : Str := (toP d).shown
structure ReprOk (d : D) : Prop where
  p : isP d = true
  sh : (toP d).showable = true
  sz : (shownD d).length ≤ sizeLine
  dp : (toP d).depth ≤ 60
  nd : (toP d).hasDict = false ∨ noL d = true
def rRepr (K : PySem.W.Frag) : List V → Hp → VK → Prop := fun xs H Q => ∃ x d, xs = [x] ∧ DV K H x d ∧ ReprOk d ∧ Q (.str (shownD d)) H
theorem call_repr (hg : X.A.guards = some []) (hu : X.A.units + 64 < cLine) : CallR X (.builtin "repr") (rRepr X.K) := by
  intro pins s σ H xs us Q I r h
  obtain ⟨x, d, rfl, dv, ok, q⟩ := h
  cases r with
  | cons r1 r2 =>
    cases r2
    rename_i u
    obtain ⟨as, rd, ns⟩ := dv_reads I dv u r1 ok.p
    have hsm : (toP d).hasDict = true → sysModules ∉ as := fun z => ok.nd.elim (fun y => by rw [y] at z; cases z) ns
    have hd := ok.dp
    cases dv with
    | non => cases r1; exact PySem.P.repr_of_none ⟨.str _, H, I.tok _, ⟨_, rfl⟩, by simpa [shownD, toP, PyData.shown] using q⟩
    | bl b => cases r1; exact PySem.P.repr_of_bool ⟨.str _, H, I.tok _, ⟨_, rfl⟩, by simpa [shownD, toP, PyData.shown] using q⟩
    | int i =>
      obtain ⟨t, rfl⟩ := r1
      have hs := ok.sh
      simp only [toP, PyData.showable, decide_eq_true_eq] at hs
      exact PySem.P.repr_of_int hs ⟨.str _, H, I.tok _, ⟨_, rfl⟩, by simpa [shownD, toP, PyData.shown] using q⟩
    | str y =>
      obtain ⟨t, rfl⟩ := r1
      have hs := ok.sz
      exact PySem.P.repr_of_str ⟨.str _, H, I.tok _, ⟨_, rfl⟩, by simpa [shownD, toP, PyData.shown] using q⟩ (by simpa [shownD, toP, PyData.shown] using hs)
    | ty n => have := ok.p; simp [isP] at this
    | fn a => have := ok.p; simp [isP] at this
    | obj _ _ _ => have := ok.p; simp [isP] at this
    | scr _ => cases r1; exact repr_of_reads' rd ok.sh hsm hg (by omega) (fun _ _ e => e) (fun h' u tk hk => ⟨.str _, H, I.kept (h' := h') (t' := tk) hk, ⟨_, rfl⟩, q⟩) ok.sz
    | lst _ _ => cases r1; exact repr_of_reads' rd ok.sh hsm hg (by omega) (fun _ _ e => e) (fun h' u tk hk => ⟨.str _, H, I.kept (h' := h') (t' := tk) hk, ⟨_, rfl⟩, q⟩) ok.sz
    | tup _ _ => cases r1; exact repr_of_reads' rd ok.sh hsm hg (by omega) (fun _ _ e => e) (fun h' u tk hk => ⟨.str _, H, I.kept (h' := h') (t' := tk) hk, ⟨_, rfl⟩, q⟩) ok.sz
    | dct _ _ _ => cases r1; exact repr_of_reads' rd ok.sh hsm hg (by omega) (fun _ _ e => e) (fun h' u tk hk => ⟨.str _, H, I.kept (h' := h') (t' := tk) hk, ⟨_, rfl⟩, q⟩) ok.sz
end
end TL

namespace TL
open PySem L2 Evl

/-! ### a, b = x, y -/
section
variable {X : Cx} {a b c : Expr} {pos px py pz pt pt2 : Pos} {kt k2 : Nat} {ua ub uc : DE} {i j l : Nat} {x y z : Str}
def uPar2 (i j : Nat) (ua ub : DE) : DS := fun F S => ua S fun x S1 => ub S1 fun y S2 => free S2 i ∧ free (S2.set i (.dat x)) j ∧ F.nx ((S2.set i (.dat x)).set j (.dat y))
def uPar2F (i j : Nat) (ua ub : DE) : DS := fun F S => ua S fun x S1 => ub S1 fun y S2 => free S2 i ∧ free (S2.set i (.dat x)) j ∧ F.nx ((S2.set i (.dat x)).set j (.own false y))
def uPar3 (i j l : Nat) (ua ub uc : DE) : DS := fun F S => ua S fun x S1 => ub S1 fun y S2 => uc S2 fun z S3 => free S3 i ∧ free (S3.set i (.dat x)) j ∧ free ((S3.set i (.dat x)).set j (.dat y)) l ∧ F.nx (((S3.set i (.dat x)).set j (.dat y)).set l (.dat z))
theorem go_dat {σ : L2.St} {S : Ss} {Hd H : Hp} {v : V} {d : D} {K : PySem.W.Frag} {i : Nat} (R : Rel K Hd H σ S) (f : free S i) : Go σ S Hd H (σ.set i (some v)) (S.set i (.dat d)) Hd H := Go.asg R.len f fun f e b z _ => by cases z
theorem s_par2 (hc : X.calm = true) (hN : X.N.Nodup) (hi : X.N[i]? = some x) (hj : X.N[j]? = some y) (hij : i ≠ j) (hx : X.env.scope.names.lookup x = some .local) (hy : X.env.scope.names.lookup y = some .local) (ha : QE X a ua) (hb : QE X b ub)
    (hw : swappedStores [.Tuple [.Name x px, .Name y py] kt pt] (.Tuple [a, b] k2 pt2) X.env = pure (some [x, y]) := by rfl)
    (hs : swapsWithSole [.Tuple [.Name x px, .Name y py] kt pt] (.Tuple [a, b] k2 pt2) pos.line X.env = pure false := by rfl) (e1 : starEach [a, b] X.env = (false, eval a X.env) :: starEach [b] X.env := by rfl) (e2 : starEach [b] X.env = (false, eval b X.env) :: starEach [] X.env := by rfl) :
    QS X (.Assign [.Tuple [.Name x px, .Name y py] kt pt] (.Tuple [a, b] k2 pt2) pos) (uPar2 i j ua ub) := pimpS (ps_par hc hN hi hj hij hx hy (pa_cons ha (pa_cons hb pa_nil e2) e1) hw hs) fun E σ H ⟨Hd, S, F, R, hu, L⟩ =>
  ⟨Hd, S, _, R, hu, fun v H1 Hd1 d S1 g1 R1 dv p1 => ⟨Hd1, S1, _, R1, p1, fun w H2 Hd2 e S2 g2 R2 dw ⟨f1, f2, p⟩ => ⟨v, w, rfl, by
    have R3 := R2.asg (dv.mono g2.ex) i
    exact L.nx _ H2 Hd2 _ (((g1.trans g2).trans (go_dat R2 f1)).trans (go_dat R3 f2)) (R3.asg dw j) p⟩⟩⟩
theorem s_par2F (hc : X.calm = true) (hN : X.N.Nodup) (hi : X.N[i]? = some x) (hj : X.N[j]? = some y) (hij : i ≠ j) (hx : X.env.scope.names.lookup x = some .local) (hy : X.env.scope.names.lookup y = some .local) (ha : QE X a ua) (hb : QF X b ub)
    (hw : swappedStores [.Tuple [.Name x px, .Name y py] kt pt] (.Tuple [a, b] k2 pt2) X.env = pure (some [x, y]) := by rfl)
    (hs : swapsWithSole [.Tuple [.Name x px, .Name y py] kt pt] (.Tuple [a, b] k2 pt2) pos.line X.env = pure false := by rfl) (e1 : starEach [a, b] X.env = (false, eval a X.env) :: starEach [b] X.env := by rfl) (e2 : starEach [b] X.env = (false, eval b X.env) :: starEach [] X.env := by rfl) :
    QS X (.Assign [.Tuple [.Name x px, .Name y py] kt pt] (.Tuple [a, b] k2 pt2) pos) (uPar2F i j ua ub) := pimpS (ps_par hc hN hi hj hij hx hy (pa_cons ha (pa_cons hb pa_nil e2) e1) hw hs) fun E σ H ⟨Hd, S, F, R, hu, L⟩ =>
  ⟨Hd, S, _, R, hu, fun v H1 Hd1 d S1 g1 R1 dv p1 => ⟨Hd1, S1, _, R1, p1, fun w H2 Hd2 e S2 g2 R2 ⟨q, q1, q2, q3, q4, q5⟩ ⟨f1, f2, p⟩ => ⟨v, w, rfl, by
    subst q1
    have R3 := R2.asg (dv.mono g2.ex) i
    have no : ¬ Ow (σ.set i (some v)) (S2.set i (.dat d)) q := fun z => by
      rcases Ow.asg z R2.len with z | ⟨_, _, z, _⟩
      · exact q3 z
      · cases z
    have g3 := (g1.trans g2).trans (go_dat (v := v) (d := d) R2 f1)
    refine L.nx _ H2 Hd2 _ ⟨g3.ex, g3.kp, g3.nw, fun b z => ?_, fun k e' z => ?_⟩ (R3.asgO q2 q5 no j) p
    · rcases Ow.asg z R3.len with z | ⟨_, _, _, z⟩
      · exact g3.ow b z
      · cases z
        rcases q4 with z | z
        · exact g1.ow _ z
        · exact g1.back z
    · obtain ⟨k1, e2, k2⟩ := g3.fx k e' z
      have ne := f2.fx k2
      rw [List.getElem?_set_ne (Ne.symm ne), List.getElem?_set_ne (Ne.symm ne)]
      exact ⟨k1, e2, k2⟩⟩⟩⟩
theorem s_par3 (hc : X.calm = true) (hN : X.N.Nodup) (hi : X.N[i]? = some x) (hj : X.N[j]? = some y) (hl : X.N[l]? = some z) (hij : i ≠ j) (hil : i ≠ l) (hjl : j ≠ l) (hx : X.env.scope.names.lookup x = some .local) (hy : X.env.scope.names.lookup y = some .local) (hz : X.env.scope.names.lookup z = some .local) (ha : QE X a ua) (hb : QE X b ub) (hcc : QE X c uc)
    (hw : swappedStores [.Tuple [.Name x px, .Name y py, .Name z pz] kt pt] (.Tuple [a, b, c] k2 pt2) X.env = pure (some [x, y, z]) := by rfl)
    (hs : swapsWithSole [.Tuple [.Name x px, .Name y py, .Name z pz] kt pt] (.Tuple [a, b, c] k2 pt2) pos.line X.env = pure false := by rfl) (e1 : starEach [a, b, c] X.env = (false, eval a X.env) :: starEach [b, c] X.env := by rfl) (e2 : starEach [b, c] X.env = (false, eval b X.env) :: starEach [c] X.env := by rfl) (e3 : starEach [c] X.env = (false, eval c X.env) :: starEach [] X.env := by rfl) :
    QS X (.Assign [.Tuple [.Name x px, .Name y py, .Name z pz] kt pt] (.Tuple [a, b, c] k2 pt2) pos) (uPar3 i j l ua ub uc) := pimpS (ps_par3 hc hN hi hj hl hij hil hjl hx hy hz (pa_cons ha (pa_cons hb (pa_cons hcc pa_nil e3) e2) e1) hw hs) fun E σ H ⟨Hd, S, F, R, hu, L⟩ =>
  ⟨Hd, S, _, R, hu, fun v H1 Hd1 d S1 g1 R1 dv p1 => ⟨Hd1, S1, _, R1, p1, fun w H2 Hd2 e S2 g2 R2 dw p2 => ⟨Hd2, S2, _, R2, p2, fun w3 H3 Hd3 e3 S3 g3 R3 dw3 ⟨f1, f2, f3, p⟩ => ⟨v, w, w3, rfl, by
    have R4 := R3.asg (dv.mono (g2.ex.trans g3.ex)) i
    have R5 := R4.asg (dw.mono g3.ex) j
    exact L.nx _ H3 Hd3 _ (((((g1.trans g2).trans g3).trans (go_dat R3 f1)).trans (go_dat R4 f2)).trans (go_dat R5 f3)) (R5.asg dw3 l) p⟩⟩⟩⟩
end

/-! ### operators by kinds -/
section
variable {X : Cx} {K : PySem.W.Frag}
def gI (C : Int → Int → Prop) (f : Int → Int → D) : G2 := fun x y P => match x, y with
  | .int i, .int j => C i j ∧ P (f i j)
  | _, _ => False
theorem od_I {C : Int → Int → Prop} {g : Int → Int → V} {f : Int → Int → D} (h : ∀ i j H, DV K H (g i j) (f i j)) : OpD K (rI C g) (gI C f) := fun Hd H x y d e P Q ex dx dy q k => by
  unfold gI at q
  split at q
  · cases dx; cases dy
    exact ⟨_, _, rfl, rfl, q.1, k _ H Hd _ (Gr.refl ex) (h _ _ _) q.2⟩
  · exact q.elim
def gI0 (f : Int → Int → D) : G2 := fun x y P => match x, y with
  | .int i, .int j => P (f i j)
  | _, _ => False
theorem od_I0 {g : Int → Int → V} {f : Int → Int → D} (h : ∀ i j H, DV K H (g i j) (f i j)) : OpD K (rI0 g) (gI0 f) := fun Hd H x y d e P Q ex dx dy q k => by
  unfold gI0 at q
  split at q
  · cases dx; cases dy
    exact ⟨_, _, rfl, rfl, k _ H Hd _ (Gr.refl ex) (h _ _ _) q⟩
  · exact q.elim
abbrev gSub : G2 := gI0 fun i j => .int (i - j)
abbrev gFdiv : G2 := gI CDivW fun i j => .int (i / j)
abbrev gMod : G2 := gI (fun _ j => 0 < j) fun i j => .int (i % j)
abbrev gPow : G2 := gI CPow fun i j => .int (i ^ j.toNat)
abbrev gLt : G2 := gI0 fun i j => .bl (decide (i < j))
abbrev gLe : G2 := gI0 fun i j => .bl (decide (i ≤ j))
abbrev gGt : G2 := gI0 fun i j => .bl (decide (j < i))
abbrev gGe : G2 := gI0 fun i j => .bl (decide (j ≤ i))
theorem o_sub : OpQ X (binaryOp .Sub) gSub := ⟨_, op_sub, od_I0 fun _ _ _ => .int _⟩
theorem o_fdiv : OpQ X (binaryOp .FloorDiv) gFdiv := ⟨_, op_fdivW, od_I fun _ _ _ => .int _⟩
theorem o_mod : OpQ X (binaryOp .Mod) gMod := ⟨_, op_mod, od_I fun _ _ _ => .int _⟩
theorem o_pow : OpQ X (binaryOp .Pow) gPow := ⟨_, op_pow, od_I fun _ _ _ => .int _⟩
theorem o_lt : OpQ X (compareOp .Lt) gLt := ⟨_, op_lt, od_I0 fun _ _ _ => .bl _⟩
theorem o_le : OpQ X (compareOp .LtE) gLe := ⟨_, op_le, od_I0 fun _ _ _ => .bl _⟩
theorem o_gt : OpQ X (compareOp .Gt) gGt := ⟨_, op_gt, od_I0 fun _ _ _ => .bl _⟩
theorem o_ge : OpQ X (compareOp .GtE) gGe := ⟨_, op_ge, od_I0 fun _ _ _ => .bl _⟩
def gNeg : G1 := fun x P => match x with
  | .int i => P (.int (-i))
  | _ => False
theorem q_neg {a : Expr} {ua : DE} {pos : Pos} (ha : QE X a ua) : QE X (.UnaryOp .USub a pos) (uUn gNeg ua) := q_un un_neg (fun Hd H x d P Q ex dx q k => by
  unfold gNeg at q
  split at q
  · cases dx; exact ⟨_, rfl, k _ H Hd _ (Gr.refl ex) (.int _) q⟩
  · exact q.elim) ha
/-- list + list, whatever holds them -/
def rCatR : R2 := fun x y H Q => ∃ l b xs zs, x = .ref l ∧ y = .ref b ∧ Rd H l (.lst xs) ∧ Rd H b (.lst zs) ∧ xs.length + zs.length ≤ sizeLine ∧ ∀ p, H p = none → Q (.ref p) (upd H p (.lst (xs ++ zs)))
theorem op_catR : OpR X (binaryOp .Add) rCatR := by
  intro pins s σ H x y v u Q I rx ry h
  obtain ⟨l, b, xs, zs, rfl, rfl, h1, h2, hz, q⟩ := h
  cases rx
  cases ry
  obtain ⟨_, its, n, r, e⟩ := h1.ok I.hok
  obtain ⟨_, its2, n2, r2, e2⟩ := h2.ok I.hok
  refine PySem.P.add_list e e2 ?_ (by rw [List.size_toArray, List.size_toArray, ← r.length, ← r2.length]; exact hz)
  rw [show its.toArray ++ its2.toArray = (its ++ its2).toArray by simp]
  exact ⟨.ref _, _, I.lnew (t' := s.toks) (r.append r2) (by rw [List.length_append]; exact hz), rfl, q _ I.fresh⟩
def gAdd : G2 := fun x y P => match x, y with
  | .int i, .int j => P (.int (i + j))
  | .str a, .str b => a.length + b.length ≤ sizeLine ∧ P (.str (a ++ b))
  | .lst a, .lst b => a.length + b.length ≤ sizeLine ∧ P (.lst (a ++ b))
  | .tup a, .tup b => a.length + b.length ≤ sizeLine ∧ P (.tup (a ++ b))
  | _, _ => False
theorem o_add : OpQ X (binaryOp .Add) gAdd := ⟨_, (op_add.or op_add_str).or (op_catR.or op_catA), fun Hd H x y d e P Q ex dx dy q k => by
  unfold gAdd at q
  split at q
  · cases dx; cases dy
    exact .inl (.inl ⟨_, _, rfl, rfl, k _ H Hd _ (Gr.refl ex) (.int _) q⟩)
  · cases dx; cases dy
    exact .inl (.inr ⟨_, _, rfl, rfl, q.1, k _ H Hd _ (Gr.refl ex) (.str _) q.2⟩)
  · cases dx with
    | lst h1 h2 =>
      cases dy with
      | lst h3 h4 =>
        refine .inr (.inl ⟨_, _, _, _, rfl, rfl, ex_rd ex h1, ex_rd ex h3, by rw [h2.len, h4.len]; exact q.1, fun p hp => ?_⟩)
        exact k _ _ _ _ (Gr.new ex hp) (.lst (.inl upd_same) ((h2.app h4).mono (Gr.new (o := .lst _) ex hp).ex)) q.2
  · cases dx with
    | @tup a1 xs _ h1 h2 =>
      cases dy with
      | @tup a2 ys _ h3 h4 =>
        refine .inr (.inr ⟨_, _, _, _, rfl, rfl, ex_t ex h1, ex_t ex h3, by rw [h2.len, h4.len]; exact q.1, fun z => ?_, fun _ z => ?_, fun _ _ p hp => ?_⟩)
        · subst z
          cases h2
          exact k _ H Hd _ (Gr.refl ex) (.tup h3 h4) (by simpa using q.2)
        · subst z
          cases h4
          exact k _ H Hd _ (Gr.refl ex) (.tup h1 h2) (by simpa using q.2)
        · exact k _ _ _ _ (Gr.new ex hp) (.tup (st_of upd_same) ((h2.app h4).mono (Gr.new (o := .tup _) ex hp).ex)) q.2
  · exact q.elim⟩
/-- a text so many times, two or more -/
def repS (z : Str) (n : Nat) : Str := ⟨(List.replicate n z.cps.toList).flatten.toArray⟩
theorem repS_len (z : Str) (n : Nat) : (repS z n).length = n * z.length := by
  unfold repS Str.length
  simp only [List.size_toArray]
  induction n with
  | zero => simp
  | succ n ih => rw [List.replicate_succ, List.flatten_cons, List.length_append, ih, Nat.succ_mul]; simp; omega
theorem fold_arr : ∀ (n : Nat) (a b : Array Nat), (List.replicate n a).foldl (fun x y => x ++ y) b = b ++ (List.replicate n a.toList).flatten.toArray
  | 0, a, b => by simp
  | n + 1, a, b => by
    rw [List.replicate_succ, List.foldl_cons, fold_arr n a (b ++ a), List.replicate_succ, List.flatten_cons, Array.append_assoc]
    congr 1
    apply Array.ext'
    simp
theorem op_repS : OpR X (binaryOp .Mult) (fun x y H Q => ∃ z k, x = .str z ∧ y = .int k ∧ 2 ≤ k ∧ 1 ≤ z.length ∧ z.length * k.toNat ≤ 100000 ∧ Q (.str (repS z k.toNat)) H) := by
  intro pins s σ H x y v u Q I rx ry h
  obtain ⟨z, k, rfl, rfl, hk, hz, hs, q⟩ := h
  obtain ⟨t, rfl⟩ := rx
  obtain ⟨t', rfl⟩ := ry
  have hkn : k.toNat ≤ 100000 := Nat.le_trans (Nat.le_mul_of_pos_left _ hz) hs
  have hzl : z.length ≤ 100000 := Nat.le_trans (Nat.le_mul_of_pos_right _ (by omega)) hs
  have h1 : ¬ k < 1 := by omega
  have h2 : (k == 1 || z.length == 0) = false := by
    have a : (k == 1) = false := by simp; omega
    have b : (z.length == 0) = false := by simp; omega
    rw [a, b]; rfl
  refine PySem.P.mul_str ?_ (fun _ _ => ?_) (fun _ _ => ?_) ?_
  · rw [decide_eq_false (by omega), decide_eq_false (by omega)]; rfl
  · intro c
    have h3 : (100000 : Int) ≤ (2 ^ 63 - 1) / k := by
      rw [Int.le_ediv_iff_mul_le (by omega)]
      have : (100000 : Int) * k ≤ 100000 * 100000 := by
        apply Int.mul_le_mul_of_nonneg_left <;> omega
      omega
    omega
  · unfold Builtin.Str.tooLong
    have : z.length * k.toNat ≤ sizeLine := Nat.le_trans hs (by decide)
    simpa using this
  · rw [if_neg h1, if_neg (by rw [h2]; exact Bool.false_ne_true)]
    have e : (⟨(List.replicate k.toNat z.cps).foldl (fun x y => x ++ y) #[]⟩ : Str) = repS z k.toNat := by
      rw [fold_arr]; simp [repS]
    rw [e]
    exact ⟨by rw [repS_len]; exact Nat.le_trans (by rw [Nat.mul_comm]; exact hs) (by decide), ⟨.str _, H, I.tok _, ⟨_, rfl⟩, q⟩⟩
end
end TL

namespace TL
open PySem L2 Evl

section
variable {X : Cx} {K : PySem.W.Frag}
def gMul : G2 := fun x y P => match x, y with
  | .int i, .int j => IntMulOk i j ∧ P (.int (i * j))
  | .str z, .int k => (2 ≤ k ∧ 1 ≤ z.length ∧ z.length * k.toNat ≤ 100000) ∧ P (.str (repS z k.toNat))
  | _, _ => False
theorem op_mulA : OpR X (binaryOp .Mult) (rI IntMulOk fun i j => .int (i * j)) := opI fun _ _ _ _ _ _ _ hc q => PyProof.Rows.mul_int q hc
theorem o_mul : OpQ X (binaryOp .Mult) gMul := ⟨_, op_mulA.or op_repS, fun Hd H x y d e P Q ex dx dy q k => by
  unfold gMul at q
  split at q
  · cases dx; cases dy
    exact .inl ⟨_, _, rfl, rfl, q.1, k _ H Hd _ (Gr.refl ex) (.int _) q.2⟩
  · cases dx; cases dy
    exact .inr ⟨_, _, rfl, rfl, q.1.1, q.1.2.1, q.1.2.2, k _ H Hd _ (Gr.refl ex) (.str _) q.2⟩
  · exact q.elim⟩
theorem mul_small {i j : Int} (h : -(2 ^ 64) < i ∧ i < 2 ^ 64) : IntMulOk i j := CMul.ok (.inl h)
theorem mul_small' {i j : Int} (h : -(2 ^ 64) < j ∧ j < 2 ^ 64) : IntMulOk i j := CMul.ok (.inr h)
/-! == -/
structure EqOk (d : D) : Prop where
  q : isQ d = true
  s : SeqAt.shaped (toP d) = true
def eqR (neg : Bool) (x y : D) (P : D → Prop) : Prop := match x, y with
  | .int i, .int j => P (.bl (neg != decide (i = j)))
  | .str i, .str j => P (.bl (neg != decide (i = j)))
  | .bl i, .bl j => P (.bl (neg != decide (i = j)))
  | x, y => EqOk x ∧ EqOk y ∧ P (.bl (neg != PyData.eqv (toP x) (toP y)))
theorem o_eq (hu : X.A.units + 64 < cLine) : OpQ X (compareOp .Eq) (eqR false) := ⟨_, op_eq.or (op_eqD hu), fun Hd H x y d e P Q ex dx dy q k => by
  unfold eqR at q
  split at q
  · cases dx; cases dy
    refine .inl ⟨rfl, k _ H Hd _ (Gr.refl ex) (.bl _) ?_⟩
    simpa using q
  · cases dx; cases dy
    refine .inl ⟨rfl, k _ H Hd _ (Gr.refl ex) (.bl _) ?_⟩
    simpa using q
  · cases dx; cases dy
    refine .inl ⟨rfl, k _ H Hd _ (Gr.refl ex) (.bl _) ?_⟩
    simpa using q
  · exact .inr ⟨_, _, dp_of (dx.mono ex) q.1.q, dp_of (dy.mono ex) q.2.1.q, q.1.s, q.2.1.s, k _ H Hd _ (Gr.refl ex) (.bl _) (by simpa using q.2.2)⟩⟩
theorem o_ne (hu : X.A.units + 64 < cLine) : OpQ X (compareOp .NotEq) (eqR true) := ⟨_, op_ne.or (op_neD hu), fun Hd H x y d e P Q ex dx dy q k => by
  unfold eqR at q
  split at q
  · cases dx; cases dy
    refine .inl ⟨rfl, k _ H Hd _ (Gr.refl ex) (.bl _) ?_⟩
    simpa using q
  · cases dx; cases dy
    refine .inl ⟨rfl, k _ H Hd _ (Gr.refl ex) (.bl _) ?_⟩
    simpa using q
  · cases dx; cases dy
    refine .inl ⟨rfl, k _ H Hd _ (Gr.refl ex) (.bl _) ?_⟩
    simpa using q
  · exact .inr ⟨_, _, dp_of (dx.mono ex) q.1.q, dp_of (dy.mono ex) q.2.1.q, q.1.s, q.2.1.s, k _ H Hd _ (Gr.refl ex) (.bl _) (by simpa using q.2.2)⟩⟩
/-! in -/
def inS (a b : Str) : Bool := !(Builtin.Str.occurrences b a 0 b.length 1).isEmpty
theorem inS_one (c : Nat) (z : Str) : inS ⟨#[c]⟩ z = decide (c ∈ z.cps.toList) := PySem.StrLaws.found_one z c
/-- what eqV says, of flat trees -/
def eqF : D → D → Bool
  | .non, .non => true
  | .bl a, .bl b => a == b
  | .bl a, .int b => (if a then 1 else 0) == b
  | .int a, .bl b => a == (if b then 1 else 0)
  | .int a, .int b => a == b
  | .str a, .str b => a == b
  | _, _ => false
theorem flat_V {H : Hp} {v : V} {d : D} (h : DV K H v d) (f : flatD d = true) : flatV v = true := by
  cases h <;> first | rfl | (cases f)
theorem eqF_V {H : Hp} {v w : V} {d e : D} (h : DV K H v d) (h' : DV K H w e) (f : flatD d = true) (f' : flatD e = true) : eqV v w = eqF d e := by
  cases h <;> first | (cases f; done) | (cases h' <;> first | rfl | (cases f'; done))
def inF (x : D) (xs : List D) : Bool := xs.any fun y => eqF y x
theorem inF_V {H : Hp} {v : V} {d : D} (h : DV K H v d) (f : flatD d = true) : ∀ {vs : List V} {ds : List D}, DVs K H vs ds → ds.all flatD = true → vs.all flatV = true ∧ inV v vs = inF d ds
  | _, _, .nil, _ => ⟨rfl, rfl⟩
  | _, _, .cons h1 h2, q => by
    simp only [List.all_cons, Bool.and_eq_true] at q
    obtain ⟨a, b⟩ := inF_V h f h2 q.2
    refine ⟨by simp [flat_V h1 q.1, a], ?_⟩
    have b' : (List.any _ fun y => eqV y v) = List.any _ fun y => eqF y d := b
    show (List.any (_ :: _) fun y => eqV y v) = List.any (_ :: _) fun y => eqF y d
    rw [List.any_cons, List.any_cons, eqF_V h1 h q.1 f, b']
def gIn (neg : Bool) : G2 := fun x y P => match x, y with
  | .str a, .str b => P (.bl (neg != inS a b))
  | x, .lst ds => (flatD x = true ∧ ds.all flatD = true) ∧ P (.bl (neg != inF x ds))
  | x, .tup ds => (flatD x = true ∧ ds.all flatD = true) ∧ P (.bl (neg != inF x ds))
  | _, _ => False
theorem o_in : OpQ X (compareOp .In) (gIn false) := ⟨_, op_in_str.or op_in_seq, fun Hd H x y d e P Q ex dx dy q k => by
  unfold gIn at q
  split at q
  · cases dx; cases dy
    exact .inl ⟨_, _, rfl, rfl, k _ H Hd _ (Gr.refl ex) (.bl _) (by simpa [inS] using q)⟩
  · cases dy with
    | lst h1 h2 =>
      obtain ⟨a, b⟩ := inF_V dx q.1.1 h2 q.1.2
      exact .inr ⟨_, _, rfl, .inl (.inl (ex_rd ex h1)), flat_V dx q.1.1, a, k _ H Hd _ (Gr.refl ex) (.bl _) (by simpa [b] using q.2)⟩
  · cases dy with
    | tup h1 h2 =>
      obtain ⟨a, b⟩ := inF_V dx q.1.1 h2 q.1.2
      exact .inr ⟨_, _, rfl, .inr (ex_t ex h1), flat_V dx q.1.1, a, k _ H Hd _ (Gr.refl ex) (.bl _) (by simpa [b] using q.2)⟩
  · exact q.elim⟩
theorem o_notin : OpQ X (compareOp .NotIn) (gIn true) := ⟨_, op_notin_str.or op_notIn_seq, fun Hd H x y d e P Q ex dx dy q k => by
  unfold gIn at q
  split at q
  · cases dx; cases dy
    exact .inl ⟨_, _, rfl, rfl, k _ H Hd _ (Gr.refl ex) (.bl _) (by simpa [inS] using q)⟩
  · cases dy with
    | lst h1 h2 =>
      obtain ⟨a, b⟩ := inF_V dx q.1.1 h2 q.1.2
      exact .inr ⟨_, _, rfl, .inl (.inl (ex_rd ex h1)), flat_V dx q.1.1, a, k _ H Hd _ (Gr.refl ex) (.bl _) (by simpa [b] using q.2)⟩
  · cases dy with
    | tup h1 h2 =>
      obtain ⟨a, b⟩ := inF_V dx q.1.1 h2 q.1.2
      exact .inr ⟨_, _, rfl, .inr (ex_t ex h1), flat_V dx q.1.1, a, k _ H Hd _ (Gr.refl ex) (.bl _) (by simpa [b] using q.2)⟩
  · exact q.elim⟩
/-- x is True -/
def gIsB (neg : Bool) : G2 := fun x y P => match x, y with
  | .bl a, .bl b => P (.bl (neg != decide (a = b)))
  | _, _ => False
theorem o_isB : OpQ X (compareOp .Is) (gIsB false) := ⟨_, op_is_bl, fun Hd H x y d e P Q ex dx dy q k => by
  unfold gIsB at q
  split at q
  · cases dx; cases dy
    exact ⟨_, _, rfl, rfl, k _ H Hd _ (Gr.refl ex) (.bl _) (by simpa using q)⟩
  · exact q.elim⟩
/-! ### xs[i], xs[a:b] -/
def gIx : G2 := fun x y P => match x, y with
  | .lst ds, .int k => ∃ d, atI ds k = some d ∧ P d
  | .tup ds, .int k => ∃ d, atI ds k = some d ∧ P d
  | .str z, .int k => z.length ≤ sizeLine ∧ ∃ c, atI z.cps.toList k = some c ∧ P (.str ⟨#[c]⟩)
  | _, _ => False
theorem od_ix : OpD K (rIx K) gIx := fun Hd H x y d e P Q ex dx dy q k => by
  unfold gIx at q
  split at q
  · cases dy
    obtain ⟨d, hd, q⟩ := q
    cases dx with
    | lst h1 h2 =>
      obtain ⟨v, v1, v2⟩ := h2.atI hd
      exact .inl ⟨_, _, _, v, rfl, rfl, .inl (ex_rd ex h1), v1, k _ H Hd _ (Gr.refl ex) v2 q⟩
  · cases dy
    obtain ⟨d, hd, q⟩ := q
    cases dx with
    | tup h1 h2 =>
      obtain ⟨v, v1, v2⟩ := h2.atI hd
      exact .inr (.inl ⟨_, _, _, v, rfl, rfl, ex_t ex h1, v1, k _ H Hd _ (Gr.refl ex) v2 q⟩)
  · cases dx; cases dy
    obtain ⟨hz, c, hc, q⟩ := q
    exact .inr (.inr ⟨_, _, c, rfl, rfl, hz, hc, k _ H Hd _ (Gr.refl ex) (.str _) q⟩)
  · exact q.elim
theorem q_ix {a b : Expr} {ua ub : DE} {pos : Pos} (ha : QE X a ua) (hb : QE X b ub) (hs : PlainIx b) : QE X (.Subscript a b pos) (uOp gIx ua ub) := pimp (pe_ix ix_seq ha hb hs) fun σ H Q h => op2 od_ix h
abbrev DO := Ss → (Option Int → Ss → Prop) → Prop
def tUO (K : PySem.W.Frag) (u : DO) : TO := fun σ H Q => ∃ (Hd : Hp) (S : Ss) (P : Option Int → Ss → Prop), Rel K Hd H σ S ∧ u S P ∧
  ∀ o H' Hd' S', Go σ S Hd H σ S' Hd' H' → Rel K Hd' H' σ S' → P o S' → Q o H'
abbrev QO (X : Cx) (e : Option Expr) (u : DO) : Prop := PO X e (tUO X.K u)
def uNone : DO := fun S P => P none S
def uSome (u : DE) : DO := fun S P => u S fun d S1 => match d with
  | .int i => P (some i) S1
  | _ => False
theorem pimpO {e : Option Expr} {t t' : TO} (h : PO X e t) (k : ∀ σ H Q, t' σ H Q → t σ H Q) : PO X e t' := ⟨fun pins s σ H Q I w => h.run pins s σ H Q I (k σ H Q w)⟩
theorem p_none : QO X none uNone := pimpO po_none fun σ H Q ⟨Hd, S, P, R, hu, q⟩ => q none H Hd S Go.refl R hu
theorem p_some {e : Expr} {u : DE} (h : QE X e u) : QO X (some e) (uSome u) := pimpO (po_some h) fun σ H Q ⟨Hd, S, P, R, hu, q⟩ => ⟨Hd, S, _, R, hu, fun v H1 Hd1 d S1 g1 R1 dv p => by
  split at p
  · cases dv; exact ⟨_, rfl, q _ H1 Hd1 S1 g1 R1 p⟩
  · exact p.elim⟩
def cutD (xs : List D) (lo hi : Option Int) : List D := (xs.drop (HT.sIx xs.length 0 lo)).take (HT.sIx xs.length xs.length hi - HT.sIx xs.length 0 lo)
def gSl (x : D) (lo hi : Option Int) (P : D → Prop) : Prop := match x with
  | .lst ds => P (.lst (cutD ds lo hi))
  | .str z => z.length ≤ sizeLine ∧ P (.str (cutS z lo hi))
  | .scr ns => P (.lst (cutD (ns.map .int) lo hi))
  | _ => False
def uSl (u : DE) (ul uh : DO) : DE := fun S P => u S fun x S1 => ul S1 fun lo S2 => uh S2 fun hi S3 => gSl x lo hi fun z => P z S3
theorem dvs_int {H : Hp} : ∀ ns : List Int, DVs K H (ns.map V.int) (ns.map D.int)
  | [] => .nil
  | n :: ns => .cons (.int n) (dvs_int ns)
theorem q_sl {e : Expr} {lo hi : Option Expr} {p2 pos : Pos} {u : DE} {ul uh : DO} (he : QE X e u) (hl : QO X lo ul) (hh : QO X hi uh) : QE X (.Subscript e (.Slice lo hi none p2) pos) (uSl u ul uh) := pimp (pe_slice (sl_list.or sl_str) he hl hh) fun σ H Q ⟨Hd, S, P, R, hu, q⟩ => by
  refine ⟨Hd, S, _, R, hu, fun v H1 Hd1 d S1 g1 R1 dv p1 => ⟨Hd1, S1, _, R1, p1, fun o1 H2 Hd2 S2 g2 R2 p2 => ⟨Hd2, S2, _, R2, p2, fun o2 H3 Hd3 S3 g3 R3 p3 => ?_⟩⟩⟩
  unfold gSl at p3
  have g := (g1.trans g2).trans g3
  replace dv := dv.mono (g2.ex.trans g3.ex)
  split at p3
  · rename_i ds
    cases dv with
    | @lst a xs _ h1 h2 =>
      refine .inl ⟨_, _, rfl, .inl (ex_rd R3.ex h1), fun p hp => ?_⟩
      have gr := Gr.new (o := .lst (cutV xs o1 o2)) R3.ex hp
      have cut : DVs X.K Hd3 (cutV xs o1 o2) (cutD ds o1 o2) := by
        unfold cutV cutD
        rw [h2.len]
        exact (h2.drop _).take _
      exact q _ _ _ _ S3 (g.trans gr.go) (R3.grow gr) (.lst (.inl upd_same) (cut.mono gr.ex)) p3
  · cases dv
    exact .inr ⟨_, rfl, p3.1, q _ H3 Hd3 _ S3 g R3 (.str _) p3.2⟩
  · rename_i ns
    cases dv with
    | scr h1 =>
      refine .inl ⟨_, _, rfl, ex_l R3.ex h1, fun p hp => ?_⟩
      have gr := Gr.new (o := .lst (cutV (ns.map V.int) o1 o2)) R3.ex hp
      have cut : DVs X.K Hd3 (cutV (ns.map V.int) o1 o2) (cutD (ns.map D.int) o1 o2) := by
        unfold cutV cutD
        rw [List.length_map, List.length_map]
        exact ((dvs_int ns).drop _).take _
      exact q _ _ _ _ S3 (g.trans gr.go) (R3.grow gr) (.lst (.inl upd_same) (cut.mono gr.ex)) p3
  · exact p3.elim
/-! ### built-ins -/
variable {x : Str} {p pos : Pos} {e : Expr} {es : List Expr} {id T : String} {r : List V → Hp → VK → Prop} {g : GL} {w : DA}
def uCB (g : GL) (w : DA) : DE := fun S P => w S fun ds S1 => g ds fun z => P z S1
theorem cb_at {σ : L2.St} {H : Hp} {Q : VK} (hd : CallD X.K r g) (h : tU X.K (uCB g w) σ H Q) : tCB r (tUA X.K w) σ H Q := by
  obtain ⟨Hd, S, P, R, hu, q⟩ := h
  exact ⟨Hd, S, _, R, hu, fun vs H1 Hd1 ds S1 g1 R1 dv p => hd Hd1 H1 vs ds _ Q R1.ex dv p fun v H' Hd' z gr dz p2 => q v H' Hd' z S1 (g1.trans gr.go) (R1.grow gr) dz p2⟩
theorem q_callB (hc : CallR X (.builtin id) r) (hd : CallD X.K r g) (hg : Gl X x) (hm : X.mg x = none) (hv : bootBuiltins x = some (.builtin id)) (ha : QA X (e :: es) w) (hn : x ≠ "__name__" := by decide) (hdb : (x == ("__debug__" : Str)) = false := by decide)
    (he : starEach (e :: es) X.env = (false, eval e X.env) :: starEach es X.env := by rfl) (hpl : (backTo pos (starEach es X.env)).any (·.1) = false := by rfl) : QE X (.Call (.Name x p) (e :: es) [] pos) (uCB g w) :=
  pimp (pe_callB hc hg hm hv ha hn hdb he hpl) fun σ H Q h => cb_at hd h
theorem q_callT (hc : CallR X (.type T) r) (hd : CallD X.K r g) (hg : Gl X x) (hm : X.mg x = none) (hv : bootBuiltins x = some (.type T)) (ha : QA X (e :: es) w) (hn : x ≠ "__name__" := by decide) (hdb : (x == ("__debug__" : Str)) = false := by decide)
    (he : starEach (e :: es) X.env = (false, eval e X.env) :: starEach es X.env := by rfl) (hpl : (backTo pos (starEach es X.env)).any (·.1) = false := by rfl) : QE X (.Call (.Name x p) (e :: es) [] pos) (uCB g w) :=
  pimp (pe_callTy hc hg hm hv ha hn hdb he hpl) fun σ H Q h => cb_at hd h
def gLen : GL := fun ds P => match ds with
  | [.lst xs] => P (.int xs.length)
  | [.tup xs] => P (.int xs.length)
  | [.str z] => z.length ≤ sizeLine ∧ P (.int z.length)
  | _ => False
theorem cd_len : CallD K (fun xs H Q => ∃ x n, xs = [x] ∧ LenV K x H n ∧ Q (.int n) H) gLen := fun Hd H xs ds P Q ex dv q k => by
  unfold gLen at q
  split at q
  · cases dv with
    | cons h t =>
      cases t
      cases h with
      | lst h1 h2 => exact ⟨_, _, rfl, .inl ⟨_, .inl (ex_rd ex h1), rfl⟩, by rw [h2.len]; exact k _ H Hd _ (Gr.refl ex) (.int _) q⟩
  · cases dv with
    | cons h t =>
      cases t
      cases h with
      | tup h1 h2 => exact ⟨_, _, rfl, .inr ⟨_, ex_t ex h1, rfl⟩, by rw [h2.len]; exact k _ H Hd _ (Gr.refl ex) (.int _) q⟩
  · cases dv with
    | cons h t =>
      cases t
      cases h
      exact ⟨_, _, rfl, ⟨q.1, rfl⟩, k _ H Hd _ (Gr.refl ex) (.int _) q.2⟩
  · exact q.elim
theorem q_len (hg : Gl X "len") (hm : X.mg "len" = none) (ha : QA X [e] w) (he : starEach [e] X.env = (false, eval e X.env) :: starEach [] X.env := by rfl) (hpl : (backTo pos (starEach [] X.env)).any (·.1) = false := by rfl) : QE X (.Call (.Name "len" p) [e] [] pos) (uCB gLen w) :=
  q_callB call_len cd_len hg hm boot_len ha (by decide) (by decide) he hpl
def gRepr : GL := fun ds P => match ds with
  | [d] => ReprOk d ∧ P (.str (shownD d))
  | _ => False
theorem cd_repr : CallD K (rRepr K) gRepr := fun Hd H xs ds P Q ex dv q k => by
  unfold gRepr at q
  split at q
  · cases dv with
    | cons h t =>
      cases t
      exact ⟨_, _, rfl, h.mono ex, q.1, k _ H Hd _ (Gr.refl ex) (.str _) q.2⟩
  · exact q.elim
theorem q_repr (hgd : X.A.guards = some []) (hu : X.A.units + 64 < cLine) (hg : Gl X "repr") (hm : X.mg "repr" = none) (ha : QA X [e] w) (he : starEach [e] X.env = (false, eval e X.env) :: starEach [] X.env := by rfl) (hpl : (backTo pos (starEach [] X.env)).any (·.1) = false := by rfl) : QE X (.Call (.Name "repr" p) [e] [] pos) (uCB gRepr w) :=
  q_callB (call_repr hgd hu) cd_repr hg hm (by decide +kernel) ha (by decide) (by decide) he hpl
def gAll : GL := fun ds P => match ds with
  | [.lst xs] => ∃ bs : List Bool, xs = bs.map D.bl ∧ P (.bl (bs.all (·)))
  | _ => False
theorem dvs_bl {H : Hp} : ∀ {bs : List Bool} {vs : List V}, DVs K H vs (bs.map D.bl) → vs = bs.map V.bl
  | [], _, .nil => rfl
  | b :: bs, _, .cons h t => by cases h; rw [dvs_bl t]; rfl
theorem cd_all : CallD K (rAll K) gAll := fun Hd H xs ds P Q ex dv q k => by
  unfold gAll at q
  split at q
  · obtain ⟨bs, rfl, q⟩ := q
    cases dv with
    | cons h t =>
      cases t
      cases h with
      | lst h1 h2 =>
        have e := dvs_bl h2
        subst e
        exact ⟨_, bs, rfl, .inl (ex_rd ex h1), k _ H Hd _ (Gr.refl ex) (.bl _) q⟩
  · exact q.elim
theorem q_all (hc : X.calm = true) (hg : Gl X "all") (hm : X.mg "all" = none) (ha : QA X [e] w) (he : starEach [e] X.env = (false, eval e X.env) :: starEach [] X.env := by rfl) (hpl : (backTo pos (starEach [] X.env)).any (·.1) = false := by rfl) : QE X (.Call (.Name "all" p) [e] [] pos) (uCB gAll w) :=
  q_callB (cr_all hc) cd_all hg hm (by decide +kernel) ha (by decide) (by decide) he hpl
def gAbs : GL := fun ds P => match ds with
  | [.int i] => P (.int (if i < 0 then -i else i))
  | _ => False
theorem q_abs (hg : Gl X "abs") (hm : X.mg "abs" = none) (ha : QA X [e] w) (he : starEach [e] X.env = (false, eval e X.env) :: starEach [] X.env := by rfl) (hpl : (backTo pos (starEach [] X.env)).any (·.1) = false := by rfl) : QE X (.Call (.Name "abs" p) [e] [] pos) (uCB gAbs w) :=
  q_callB call_abs (fun Hd H xs ds P Q ex dv q k => by
    unfold gAbs at q
    split at q
    · cases dv with
      | cons h t => cases t; cases h; exact ⟨_, rfl, k _ H Hd _ (Gr.refl ex) (.int _) q⟩
    · exact q.elim) hg hm (by decide +kernel) ha (by decide) (by decide) he hpl
def gDivmod : GL := fun ds P => match ds with
  | [.int i, .int j] => (0 < j ∧ j < 1000000000) ∧ P (.tup [.int (i / j), .int (i % j)])
  | _ => False
theorem divmod_p {i j : Int} (h : 0 < j ∧ j < 1000000000) : CDivP i j := by
  refine ⟨h.1, ?_⟩
  unfold Builtin.divisionGoesByPylong
  have hl : j.natAbs.log2 < 30 := by
    rw [Nat.log2_lt (by omega)]
    omega
  have h0 : (j == 0) = false := by simp; omega
  simp only [h0, Bool.false_eq_true, if_false]
  have : ¬ (j.natAbs.log2 / 30 + 1 > 300) := by omega
  simp [this]
theorem q_divmod {e2 : Expr} (hg : Gl X "divmod") (hm : X.mg "divmod" = none) (ha : QA X [e, e2] w) (he : starEach [e, e2] X.env = (false, eval e X.env) :: starEach [e2] X.env := by rfl) (hpl : (backTo pos (starEach [e2] X.env)).any (·.1) = false := by rfl) : QE X (.Call (.Name "divmod" p) [e, e2] [] pos) (uCB gDivmod w) :=
  q_callB call_divmodW (fun Hd H xs ds P Q ex dv q k => by
    unfold gDivmod at q
    split at q
    · cases dv with
      | cons h t =>
        cases h
        cases t with
        | cons h t =>
          cases h; cases t
          exact ⟨_, _, rfl, divmod_p q.1, fun p hp => k _ _ _ _ (Gr.new ex hp) (.tup (st_of upd_same) (.cons (.int _) (.cons (.int _) .nil))) q.2⟩
    · exact q.elim) hg hm (by decide +kernel) ha (by decide) (by decide) he hpl
def gList : GL := fun ds P => match ds with
  | [.lst xs] => P (.lst xs)
  | [.tup xs] => P (.lst xs)
  | _ => False
theorem cd_list : CallD K (fun xs H Q => ∃ p ys, xs = [.ref p] ∧ (SqL K H p ys ∨ SqT K H p ys) ∧ ∀ l, H l = none → Q (.ref l) (upd H l (.lst ys))) gList := fun Hd H xs ds P Q ex dv q k => by
  unfold gList at q
  split at q
  · cases dv with
    | cons h t =>
      cases t
      cases h with
      | lst h1 h2 => exact ⟨_, _, rfl, .inl (.inl (ex_rd ex h1)), fun p hp => k _ _ _ _ (Gr.new ex hp) (.lst (.inl upd_same) (h2.mono (Gr.new (o := .lst _) ex hp).ex)) q⟩
  · cases dv with
    | cons h t =>
      cases t
      cases h with
      | tup h1 h2 => exact ⟨_, _, rfl, .inr (ex_t ex h1), fun p hp => k _ _ _ _ (Gr.new ex hp) (.lst (.inl upd_same) (h2.mono (Gr.new (o := .lst _) ex hp).ex)) q⟩
  · exact q.elim
theorem q_list (hg : Gl X "list") (hm : X.mg "list" = none) (ha : QA X [e] w) (he : starEach [e] X.env = (false, eval e X.env) :: starEach [] X.env := by rfl) (hpl : (backTo pos (starEach [] X.env)).any (·.1) = false := by rfl) : QE X (.Call (.Name "list" p) [e] [] pos) (uCB gList w) :=
  q_callT call_list_of cd_list hg hm (by decide +kernel) ha (by decide) (by decide) he hpl
/-! isinstance -/
def tyN : D → Option String
  | .non => some "NoneType"
  | .bl _ => some "bool"
  | .int _ => some "int"
  | .str _ => some "str"
  | .lst _ => some "list"
  | .tup _ => some "tuple"
  | .dct _ => some "dict"
  | .scr _ => some "list"
  | _ => none
def tyB : List String := ["str", "int", "bool", "list", "tuple", "dict"]
def isiT (a b : String) : Bool := a == b || (a == "bool" && b == "int")
theorem kit_all : ∀ a ∈ ["NoneType", "bool", "int", "str", "list", "tuple", "dict"], ∀ b ∈ tyB, kitB a b = some (isiT a b) := by decide +kernel
theorem tyX_of {H : Hp} {v : V} {d : D} {t : String} (h : DV K H v d) (e : tyN d = some t) : TyX K H v (.type t) ∧ t ∈ ["NoneType", "bool", "int", "str", "list", "tuple", "dict"] := by
  cases h with
  | non => cases e; exact ⟨.base .non, by simp⟩
  | bl b => cases e; exact ⟨.base (.bl b), by simp⟩
  | int i => cases e; exact ⟨.base (.int i), by simp⟩
  | str x => cases e; exact ⟨.base (.str x), by simp⟩
  | ty n => cases e
  | fn a => cases e
  | lst h1 _ =>
    cases e
    rcases h1 with h1 | ⟨o, h1⟩
    · exact ⟨.base (.lst h1), by simp⟩
    · exact ⟨.base (.frz h1), by simp⟩
  | tup h1 _ =>
    cases e
    rcases h1 with (h1 | ⟨o, h1⟩) | ⟨o, its, n, hk, hc, _⟩
    · exact ⟨.base (.tup h1), by simp⟩
    · exact ⟨.fTuple h1, by simp⟩
    · exact ⟨.kTuple hk hc, by simp⟩
  | dct h1 _ _ =>
    cases e
    rcases h1 with h1 | ⟨o, h1⟩
    · exact ⟨.base (.dK h1), by simp⟩
    · exact ⟨.fDict h1, by simp⟩
  | obj _ _ _ => cases e
  | scr h1 =>
    cases e
    rcases h1 with (h1 | ⟨o, h1⟩) | ⟨o, its, n, hk, hc, _⟩
    · exact ⟨.base (.lst h1), by simp⟩
    · exact ⟨.base (.frz h1), by simp⟩
    · exact ⟨.kList hk hc, by simp⟩
def gIsi : GL := fun ds P => match ds with
  | [x, .ty n] => ∃ t, tyN x = some t ∧ tyB.contains n = true ∧ P (.bl (isiT t n))
  | _ => False
theorem cd_isi : CallD K (rIsi K) gIsi := fun Hd H xs ds P Q ex dv q k => by
  unfold gIsi at q
  split at q
  · obtain ⟨t, h1, h2, q⟩ := q
    cases dv with
    | cons hx tl =>
      cases tl with
      | cons hy tl =>
        cases tl
        cases hy
        obtain ⟨a, b⟩ := tyX_of (hx.mono ex) h1
        exact ⟨_, _, _, _, _, rfl, .ty _, a, kit_ty (kit_all _ b _ (by simpa using h2)), k _ H Hd _ (Gr.refl ex) (.bl _) q⟩
  · exact q.elim
theorem q_isi {e2 : Expr} (hg : Gl X "isinstance") (hm : X.mg "isinstance" = none) (ha : QA X [e, e2] w) (he : starEach [e, e2] X.env = (false, eval e X.env) :: starEach [e2] X.env := by rfl) (hpl : (backTo pos (starEach [e2] X.env)).any (·.1) = false := by rfl) : QE X (.Call (.Name "isinstance" p) [e, e2] [] pos) (uCB gIsi w) :=
  q_callB call_isi cd_isi hg hm (by decide +kernel) ha (by decide) (by decide) he hpl
/-- a built-in class, a module's constant by its name -/
theorem q_ty {n : String} (hg : Gl X x) (hm : X.mg x = none) (hv : bootBuiltins x = some (.type n)) (hn : x ≠ "__name__" := by decide) (hdb : (x == ("__debug__" : Str)) = false := by decide) : QE X (.Name x pos) (uC (.ty n)) := q_c (pe_bltn (v := .ty n) hg hm hv rfl hn hdb) fun _ => .ty n
theorem q_globS {z : Str} {t : Tok} (hg : Gl X x) (hm : X.mg x = some (.str z t)) (hdb : (x == ("__debug__" : Str)) = false := by decide) : QE X (.Name x pos) (uC (.str z)) := q_c (pe_glob (v := .str z) hg hm ⟨_, rfl⟩ hdb) fun _ => .str z
theorem q_globI {z : Int} {t : Tok} (hg : Gl X x) (hm : X.mg x = some (.int z t)) (hdb : (x == ("__debug__" : Str)) = false := by decide) : QE X (.Name x pos) (uC (.int z)) := q_c (pe_glob (v := .int z) hg hm ⟨_, rfl⟩ hdb) fun _ => .int z
/-! methods of texts -/
variable {o : Expr} {uo ue : DE} {apos : Pos}
def uM1 (g : D → D → (D → Prop) → Prop) (uo ue : DE) : DE := fun S P => uo S fun x S1 => (match x with
  | .str _ => True
  | _ => False) ∧ ue S1 fun y S2 => g x y fun z => P z S2
def gCount : G2 := fun x y P => match x, y with
  | .str a, .str b => P (.int (Txt.count a b))
  | _, _ => False
def gJoin : G2 := fun x y P => match x, y with
  | .str a, .lst ds => ∃ ys : List Str, ds = ys.map D.str ∧ (ys.map (·.length)).sum + ys.length * a.length ≤ 16777216 ∧ P (.str (Txt.join a ys))
  | _, _ => False
theorem m1_at {r : V → List V → Hp → VK → Prop} {g : G2} {σ : L2.St} {H : Hp} {Q : VK} (hd : OpD X.K (fun x y H Q => r x [y] H Q) g) (h : tU X.K (uM1 g uo ue) σ H Q) : tM1 r (tU X.K uo) (tU X.K ue) σ H Q := by
  obtain ⟨Hd, S, P, R, hu, q⟩ := h
  refine ⟨Hd, S, _, R, hu, fun v H1 Hd1 d S1 g1 R1 dv ⟨p0, p1⟩ => ⟨?_, Hd1, S1, _, R1, p1, fun w H2 Hd2 e S2 g2 R2 dw p2 => ?_⟩⟩
  · split at p0
    · cases dv; exact ⟨_, rfl⟩
    · exact p0.elim
  · exact hd Hd2 H2 v w d e _ Q R2.ex (dv.mono g2.ex) dw p2 fun z H3 Hd3 c gr dz p => q z H3 Hd3 c S2 ((g1.trans g2).trans gr.go) (R2.grow gr) dz p
theorem q_count (ho : QE X o uo) (he : QE X e ue) (hs : starEach [e] X.env = [(false, eval e X.env)] := by rfl) (hbase : attributeBase o "count" X.env (eval o X.env) = eval o X.env := by rfl) (hline : (apos.endLine == pos.line) = true := by rfl) : QE X (.Call (.Attribute o "count" apos) [e] [] pos) (uM1 gCount uo ue) :=
  pimp (pe_m1 F.slot_str_count F.type_str_count mt_count ho he hs hbase hline) fun σ H Q h => m1_at (fun Hd H x y d e P Q ex dx dy q k => by
    unfold gCount at q
    split at q
    · cases dx; cases dy; exact ⟨_, _, rfl, rfl, k _ H Hd _ (Gr.refl ex) (.int _) q⟩
    · exact q.elim) h
theorem dvs_str {H : Hp} : ∀ {bs : List Str} {vs : List V}, DVs K H vs (bs.map D.str) → vs = bs.map V.str
  | [], _, .nil => rfl
  | b :: bs, _, .cons h t => by cases h; rw [dvs_str t]; rfl
theorem q_join (ho : QE X o uo) (he : QE X e ue) (hs : starEach [e] X.env = [(false, eval e X.env)] := by rfl) (hbase : attributeBase o "join" X.env (eval o X.env) = eval o X.env := by rfl) (hline : (apos.endLine == pos.line) = true := by rfl) : QE X (.Call (.Attribute o "join" apos) [e] [] pos) (uM1 gJoin uo ue) :=
  pimp (pe_join ho he hs hbase hline) fun σ H Q h => m1_at (fun Hd H x y d e P Q ex dx dy q k => by
    unfold gJoin at q
    split at q
    · obtain ⟨ys, rfl, hz, q⟩ := q
      cases dx
      cases dy with
      | lst h1 h2 =>
        have e := dvs_str h2
        subst e
        exact ⟨_, _, ys, rfl, rfl, .inl (.inl (ex_rd ex h1)), hz, k _ H Hd _ (Gr.refl ex) (.str _) q⟩
    · exact q.elim) h
end
end TL

namespace TL
open PySem L2 Evl PySem.Spec PyProof.Rows

/-! ### enumerate(text, k) -/
def ItES (k0 : Int) (x : Str) : It := ⟨fun i _ => i < x.cps.size, fun i H v H' => ∃ T c, v = .ref T ∧ H T = none ∧ H' = upd H T (.tup [.int (k0 + (i : Nat)), .str ⟨#[c]⟩]) ∧ x.cps[i]? = some c, fun i _ => i = x.cps.size⟩
theorem turn_es {P : Program} {w : World} {K : PySem.W.Frag} {elts : List Expr} {kk : Nat} {tpos : Pos} (k0 : Int) (x : Str) (t : Tok) (e it : Addr) (hne : e ≠ it) :
    Turn P w K (.Tuple elts kk tpos) (ItES k0 x) [e, it] e (fun i h => (∃ old, IsEnum h e it (k0 + (i : Int)) old) ∧ h.IsStrIter it (strIterType x) x t i) where
  mem := by simp
  obj := fun i h st b hb => by
    obtain ⟨⟨old, he⟩, o, ho, c, d⟩ := st
    have hb' : b = e ∨ b = it := by simpa using hb
    rcases hb' with rfl | rfl
    · exact ⟨_, he, fun v z => by cases z⟩
    · exact ⟨o, ho, fun v z => by rw [d] at z; cases z⟩
  keep := fun i h h' st k => by
    obtain ⟨⟨old, he⟩, o, ho, r⟩ := st
    exact ⟨⟨old, k e (by simp) _ he⟩, o, k it (by simp) o ho, r⟩
  item := by
    intro X hP hw hK hc i pins s σ H E I hf st hg
    subst hP hw hK
    have W := WalksT.enumFrom k0 (Draws.text (prog := X.prog) (w := X.w) (A := X.A.in1) (I.ok.hd hc) it x t) e hne (by simpa using hne) (by simp)
    refine W.item i s _ E hg st fun T vals h1 tk ⟨tk2, xv, ⟨c, u, hcx, hxv⟩, hvals⟩ hT hIs hMid hk => ⟨_, rfl, ?_⟩
    refine W.go elts kk tpos i T _ _ E hMid fun h2 hst hk2 => ?_
    have nT : T ∉ [e, it] := W.apart i T h1 hMid
    have hIs2 : IsTup h2 T vals := by
      obtain ⟨o, q, r⟩ := hIs
      exact ⟨o, hk2 T o nT q, r⟩
    have new : ObjOk X.prog X.w (upd H T (.tup [.int (k0 + (i : Nat)), .str ⟨#[c]⟩])) h2 T (.tup [.int (k0 + (i : Nat)), .str ⟨#[c]⟩]) :=
      ⟨by show 2 ≤ sizeLine; decide, [.int (k0 + (i : Int)) tk2, xv], .cons ⟨_, rfl⟩ (.cons ⟨u, hxv⟩ .nil), by rw [hvals] at hIs2; exact hIs2⟩
    have I1 : Inv X pins σ (upd H T (.tup [.int (k0 + (i : Nat)), .str ⟨#[c]⟩])) { s with heap := h2, toks := tk } :=
      I.turnedNew (ch := [e, it]) (fun b ob hb q => hk2 b ob hb (hk b ob hb q)) hf hT new
    refine ⟨.ref T, _, I1, rfl, ⟨T, c, rfl, I.hok.fresh hT, rfl, hcx⟩, hst, fun b hb => ?_⟩
    have ne : b ≠ T := by rintro rfl; exact nT hb
    rw [upd_ne ne]
    exact (hf b hb).1
  done := by
    intro X hP hw hK hc i pins s σ H E I hf st hg
    subst hP hw hK
    have hg' : i = x.cps.size := hg
    subst hg'
    have W := WalksT.enumFrom k0 (Draws.text (prog := X.prog) (w := X.w) (A := X.A.in1) (I.ok.hd hc) it x t) e hne (by simpa using hne) (by simp)
    exact W.done s _ E st fun h' tk hk => ⟨rfl, I.turnedL (ch := [e, it]) hk hf⟩
  self := fun A i s Q E st h => by
    obtain ⟨⟨_, he⟩, _⟩ := st
    exact wpAny_pyIter_enum he h
def enumS (k0 : Int) (x : Str) : List D := x.cps.toList.zipIdx.map fun p => .tup [.int (k0 + (p.2 : Nat)), .str ⟨#[p.1]⟩]
theorem enumS_len (k0 : Int) (x : Str) : (enumS k0 x).length = x.cps.size := by unfold enumS; simp
theorem wk_es {K : PySem.W.Frag} {Hd : Hp} (k0 : Int) (x : Str) : WK K Hd (ItES k0 x) (enumS k0 x) := by
  refine ⟨fun i H hi _ => by rw [enumS_len] at hi; exact hi, fun H _ => enumS_len k0 x, fun i H v H' hi _ y => ?_⟩
  obtain ⟨T, c, rfl, hT, rfl, hc⟩ := y
  intro Hd1 e1 e2
  have gr := Gr.new (o := .tup [.int (k0 + (i : Nat)), .str ⟨#[c]⟩]) e2 hT
  refine ⟨_, .tup [.int (k0 + (i : Nat)), .str ⟨#[c]⟩], ?_, gr, .tup (st_of upd_same) (.cons (.int _) (.cons (.str _) .nil))⟩
  unfold enumS
  rw [List.getElem?_map, List.getElem?_zipIdx, Array.getElem?_toList, hc]
  simp
section
variable {X : Cx} {e e2 : Expr} {u : DE} {pos p tpos : Pos} {w : DA} {elts : List Expr} {kk : Nat}
def iES (ta : TA) : TI := fun σ H R => ta σ H fun vs H1 => ∃ x k, vs = [.str x, .int k] ∧ (-(2 ^ 63) ≤ k ∧ k < 2 ^ 63) ∧ R (ItES k x) H1
theorem pi_es {ta : TA} (hg : Gl X "enumerate") (hm : X.mg "enumerate" = none) (ha : PA X [e, e2] ta) (hs : starEach [e, e2] X.env = (false, eval e X.env) :: starEach [e2] X.env := by rfl) (hpl : (backTo pos (starEach [e2] X.env)).any (·.1) = false := by rfl) :
    PI X (.Tuple elts kk tpos) (.Call (.Name "enumerate" p) [e, e2] [] pos) (iES ta) := ⟨fun pins s σ H R I h => by
  refine Call_ (ld_blt I hg hm boot_enumerate (PyProof.Rows.callWith_type1 (thn (ha.run pos pins s σ H _ I h) fun us s1 ⟨vs, H1, I1, r1, q1⟩ => ?_) hs hpl))
  obtain ⟨x, k, rfl, hk, q⟩ := q1
  cases r1 with
  | cons ra rr =>
    obtain ⟨t, rfl⟩ := ra
    cases rr with
    | cons rb rr =>
      obtain ⟨t2, rfl⟩ := rb
      cases rr
      refine enum_begins (begins_text x t) trivial hk.1 hk.2 fun h' he hit hsz hkp => wpAny_pyIter_enum he ?_
      have I2 : L2.Inv X pins σ H1 { s1 with heap := h' } := I1.kept (t' := s1.toks) hkp
      refine ⟨s1.heap.objs.size + 1, [s1.heap.objs.size + 1, s1.heap.objs.size], _, _, H1, rfl, I2, turn_es k x t (s1.heap.objs.size + 1) s1.heap.objs.size (Nat.succ_ne_self _), ⟨⟨.none, by simpa using he⟩, _, hit, rfl, rfl⟩, fun b hb => ?_, q⟩
      have hb' : b = s1.heap.objs.size + 1 ∨ b = s1.heap.objs.size := by simpa using hb
      have hbs : s1.heap.objs.size ≤ b := by rcases hb' with rfl | rfl <;> omega
      exact I1.fpOk hbs (I1.hok.fresh hbs)⟩
def uIES (w : DA) : DA := fun S P => w S fun ds S1 => match ds with
  | [.str x, .int k] => (-(2 ^ 63) ≤ k ∧ k < 2 ^ 63) ∧ P (enumS k x) S1
  | _ => False
theorem i_enumS (hg : Gl X "enumerate") (hm : X.mg "enumerate" = none) (ha : QA X [e, e2] w) (hs : starEach [e, e2] X.env = (false, eval e X.env) :: starEach [e2] X.env := by rfl) (hpl : (backTo pos (starEach [e2] X.env)).any (·.1) = false := by rfl) :
    QI X (.Tuple elts kk tpos) (.Call (.Name "enumerate" p) [e, e2] [] pos) (uIES w) := pimpI (pi_es hg hm ha hs hpl) fun σ H Q ⟨Hd, S, P, R, hu, q⟩ => ⟨Hd, S, _, R, hu, fun vs H1 Hd1 ds S1 g1 R1 dv p => by
  split at p
  · cases dv with
    | cons h1 t =>
      cases h1
      cases t with
      | cons h2 t =>
        cases h2; cases t
        exact ⟨_, _, rfl, p.1, q _ H1 Hd1 _ S1 g1 R1 (wk_es _ _) p.2⟩
  · exact p.elim⟩
/-! ### a written dict, an object of its own -/
def uPs : List (DE × DE) → Ss → (List (D × D) → Ss → Prop) → Prop
  | [], S, P => P [] S
  | (uk, uv) :: r, S, P => uk S fun x S1 => uv S1 fun y S2 => uPs r S2 fun ps S3 => P ((x, y) :: ps) S3
def mergeD (more : List (Key × D)) : List (Key × D) := more.foldl (fun acc kv => putD acc kv.1 kv.2) []
def keysD : List (D × D) → Option (List (Key × D))
  | [] => some []
  | (k, d) :: r => match keyD k, keysD r with
    | some k, some r => some ((k, d) :: r)
    | _, _ => none
def uDict (ps : List (DE × DE)) : DE := fun S P => uPs ps S fun qs S1 => ∃ kvs, keysD qs = some kvs ∧ kvs.length ≤ 15 ∧ P (.dct (mergeD kvs)) S1
inductive DP2 (K : PySem.W.Frag) (H : Hp) : List (V × V) → List (D × D) → Prop
  | nil : DP2 K H [] []
  | cons {a b : V} {c d : D} {vs : List (V × V)} {ds : List (D × D)} : DV K H a c → DV K H b d → DP2 K H vs ds → DP2 K H ((a, b) :: vs) ((c, d) :: ds)
theorem DP2.mono {K : PySem.W.Frag} {H H' : Hp} (e : Ex H H') : ∀ {vs : List (V × V)} {ds : List (D × D)}, DP2 K H vs ds → DP2 K H' vs ds
  | _, _, .nil => .nil
  | _, _, .cons a b t => .cons (a.mono e) (b.mono e) (DP2.mono e t)
theorem pairs_at {K : PySem.W.Frag} : ∀ {ps : List (DE × DE)} {σ : L2.St} {H Hd : Hp} {S : Ss} {P : List (D × D) → Ss → Prop} {Q : List (V × V) → Hp → Prop}, Rel K Hd H σ S → uPs ps S P →
    (∀ vs H' Hd' ds S', Go σ S Hd H σ S' Hd' H' → Rel K Hd' H' σ S' → DP2 K Hd' vs ds → P ds S' → Q vs H') → tPairs (ps.map fun p => (tU K p.1, tU K p.2)) σ H Q
  | [], σ, H, Hd, S, P, Q, R, hu, k => k [] H Hd [] S Go.refl R .nil hu
  | (uk, uv) :: r, σ, H, Hd, S, P, Q, R, hu, k => by
    refine ⟨Hd, S, _, R, hu, fun v H1 Hd1 d S1 g1 R1 dv p1 => ⟨Hd1, S1, _, R1, p1, fun w H2 Hd2 e S2 g2 R2 dw p2 => ?_⟩⟩
    exact pairs_at R2 p2 fun vs H3 Hd3 ds S3 g3 R3 dp p3 => k _ H3 Hd3 _ S3 ((g1.trans g2).trans g3) R3 (.cons (dv.mono (g2.ex.trans g3.ex)) (dw.mono g3.ex) dp) p3
theorem keys_V {K : PySem.W.Frag} {H : Hp} : ∀ {vs : List (V × V)} {ds : List (D × D)} {kvs : List (Key × D)}, DP2 K H vs ds → keysD ds = some kvs → ∃ ks : List (Key × V), vs = ks.map (fun kv => (kV kv.1, kv.2)) ∧ ks.map (·.1) = kvs.map (·.1) ∧ DVs K H (ks.map (·.2)) (kvs.map (·.2))
  | _, _, kvs, .nil, e => by cases e; exact ⟨[], rfl, rfl, .nil⟩
  | _, _, kvs, .cons (c := c) (d := d) (ds := ds) a b t, e => by
    simp only [keysD] at e
    cases h1 : keyD c with
    | none => rw [h1] at e; cases e
    | some k =>
      cases h2 : keysD ds with
      | none => rw [h1, h2] at e; cases e
      | some r =>
        rw [h1, h2] at e
        cases e
        obtain ⟨ks, q1, q2, q3⟩ := keys_V t h2
        refine ⟨(k, _) :: ks, ?_, by simp [q2], .cons b q3⟩
        rw [q1, a.key h1]; rfl
theorem merge_rel {K : PySem.W.Frag} {H : Hp} : ∀ {ks : List (Key × V)} {kvs : List (Key × D)} {as : List (Key × V)} {bs : List (Key × D)}, ks.map (·.1) = kvs.map (·.1) → DVs K H (ks.map (·.2)) (kvs.map (·.2)) → as.map (·.1) = bs.map (·.1) → DVs K H (as.map (·.2)) (bs.map (·.2)) →
    (mergeK as ks).map (·.1) = (kvs.foldl (fun acc kv => putD acc kv.1 kv.2) bs).map (·.1) ∧ DVs K H ((mergeK as ks).map (·.2)) ((kvs.foldl (fun acc kv => putD acc kv.1 kv.2) bs).map (·.2))
  | [], [], as, bs, _, _, h3, h4 => ⟨h3, h4⟩
  | [], _ :: _, _, _, h, _, _, _ => by simp at h
  | _ :: _, [], _, _, h, _, _, _ => by simp at h
  | (a, v) :: ks, (b, d) :: kvs, as, bs, h1, h2, h3, h4 => by
    simp only [List.map_cons, List.cons.injEq] at h1
    obtain ⟨rfl, h1⟩ := h1
    cases h2 with
    | cons q1 q2 =>
      obtain ⟨r1, r2⟩ := put_rel (k := a) q1 h3 h4
      have m := merge_rel (ks := ks) (kvs := kvs) (as := putK as a v) (bs := putD bs a d) h1 q2 r1 r2
      exact m
abbrev QPs (X : Cx) (pos : Pos) (keys : List (Option Expr)) (values : List Expr) (ps : List (DE × DE)) : Prop := PPs X pos keys values (ps.map fun p => (tU X.K p.1, tU X.K p.2))
theorem ps_nil : QPs X pos [] [] [] := pps_nil
theorem ps_cons {k v : Expr} {ks : List (Option Expr)} {vs : List Expr} {uk uv : DE} {ps : List (DE × DE)} (hk : QE X k uk) (hv : QE X v uv) (hr : QPs X pos ks vs ps) : QPs X pos (some k :: ks) (v :: vs) ((uk, uv) :: ps) := pps_cons hk hv hr
theorem f_dict {keys : List (Option Expr)} {values : List Expr} {ps : List (DE × DE)} (h : QPs X pos keys values ps) (hall : keys.all (·.isSome) = true := by rfl) (hl : keys.length = values.length := by rfl) (h0 : keys ≠ [] := by (intro z; cases z)) (h15 : keys.length ≤ 15 := by decide) : QF X (.Dict keys values pos) (uDict ps) :=
  pimp (pe_disp h hall hl h0 h15) fun σ H Q ⟨Hd, S, P, R, hu, q⟩ => fun p hp => by
    have gr := Gr.pass (o := .dK []) R.ex hp
    refine pairs_at (R.grow gr) hu fun vs H2 Hd2 ds S2 g2 R2 dp ⟨kvs, hk, h15', p2⟩ => ?_
    have no : ¬ Ow σ S p := R.notOw hp
    have e2 : H2 p = some (.dK []) := g2.kp p _ upd_same no
    have n2 : Hd2 p = none := by
      cases z : Hd2 p with
      | none => rfl
      | some o =>
        rcases g2.nw p o z with z | z | z
        · rw [fresh_back R.ex hp] at z; cases z
        · rw [upd_same] at z; cases z
        · exact (no z).elim
    have no2 : ¬ Ow σ S2 p := fun z => by
      rcases g2.ow p z with z | z
      · exact no z
      · rw [upd_same] at z; cases z
    obtain ⟨ks, k1, k2, k3⟩ := keys_V dp hk
    obtain ⟨m1, m2⟩ := merge_rel (as := []) (bs := []) k2 k3 rfl .nil
    have hlen : ks.length ≤ 15 := by have := congrArg List.length k2; simp at this; rw [this]; exact h15'
    refine ⟨e2, ks, k1, hlen, ?_⟩
    exact q _ _ Hd2 _ S2 ((gr.go.trans g2).chg (.inr hp)) (R2.chg n2 no2) ⟨p, rfl, n2, no2, .inr hp, own_dct upd_same m1 m2⟩ p2
end
end TL

namespace TL
open PySem L2 Evl PySem.Spec PyProof.Rows

/-! ### the law's call -/
section
variable {P : Program} {w : World} {K : PySem.W.Frag} {mg mb : Str → Option Value} {k : Nat} {fa a : Addr} {fd : FuncData} {x : Str} {s1 : Shared} {vs : List Value} {ns : List Int} {c : C0}
/-- over an abstract heap that tracks the script alone, or nothing -/
theorem law_over (inK : K.In s1.heap) (gl : s1.heap.Ns mainGlobals mg) (bl : s1.heap.Ns builtinsNs mb) (bb : ∀ y : Str, y ≠ "__name__" → mb y = bootBuiltins y) (lim : s1.heap.NoLimit) (gens : s1.gens = #[]) (hr : Room k callerA)
    (F : ∀ base : Heap, K.In base → base.Ns mainGlobals mg → FnG P w K mg base CX0 k fa fd [x] (sp0 K false c)) (bind : ∀ (s : Shared) (u : Value), BindsTo s fd ⟨[u], []⟩ [(x, u)]) (want : c [.scr ns] fun d => d = .bl true)
    (H : Hp) (ok : HOk P w H s1.heap) (sq : SqL K H a (ns.map V.int)) (one : ∀ b o, H b = some o → b = a ∧ K.lookup a = none ∧ (∃ ob u, o = .frz ob u) ∧ ∀ es ep ob, s1.heap.get? a = some ob → ob.data ≠ .dict es ep) :
    codeAny (model P w) callerA (.call (.ref fa) ⟨[.ref a], []⟩) (fun r s' => r = .ok (.ret (.bool true)) ∧ OldK s1.heap s'.heap ∧ s'.os = s1.os ∧ AllBare s'.gens) s1 := by
  have stay : ∀ {b : Addr} {o : Obj}, s1.heap.get? b = some o → H b = none → (hidT s1.heap H).get? b = some o := fun e n => hidT_get e n
  have spaces : ∀ {b : Addr} {m : Str → Option Value}, s1.heap.Ns b m → (hidT s1.heap H).Ns b m := by
    rintro b m ⟨o, es, ep, e, dd, rest⟩
    refine ⟨o, es, ep, stay e ?_, dd, rest⟩
    cases hq : H b with
    | none => rfl
    | some u =>
      obtain ⟨rfl, _, _, no⟩ := one b u hq
      exact (no es ep o e dd).elim
  have parts : K.In (hidT s1.heap H) := fun b o e => stay (inK b o e) (by
    cases hq : H b with
    | none => rfl
    | some u =>
      obtain ⟨rfl, nk, _⟩ := one b u hq
      rw [nk] at e; cases e)
  have modl : Mod K mg (hidT s1.heap H) := by
    obtain ⟨mc, l1, l2⟩ := lim
    exact ⟨parts, spaces gl, ⟨mb, spaces bl, bb⟩, ⟨mc, spaces l1, l2⟩⟩
  have env : Env0 P w K mg (hidT s1.heap H) callerA [] s1 H := ⟨rfl, modl, fun b o e => of_hidT e, Nat.le_of_eq (hidT_size _ _), trivial, fun b hb => by simp [frs] at hb, ok, .of_eq gens⟩
  have asked : sp0 K false c [.ref a] H (fun v _ => v = .bl true) E0 := by
    refine ⟨H, [.scr ns], _, Ex.refl _, .cons (.scr sq) .nil, want, fun v H' Hd' d _ dv e => ?_⟩
    subst e
    cases dv
    rfl
  refine codeAny_mono ((F _ parts (spaces gl)).run callerA [] s1 H ⟨[.ref a], []⟩ [.ref a] [.ref a] _ _ hr rfl env (bind s1 (.ref a)) (.cons rfl .nil) asked) fun r s' end_ => ?_
  match r, end_ with
  | .error _, e => exact (show False from e).elim
  | .ok .next, e => exact (show False from e).elim
  | .ok .brk, e => exact (show False from e).elim
  | .ok .cont, e => exact (show False from e).elim
  | .ok (.ret u), ⟨v, H', os, bare, un, ok', rv, ev⟩ =>
    have ev : v = .bl true := ev
    subst ev
    cases (show u = Value.bool true from rv)
    refine ⟨rfl, OldK.of_keep fun b o e => ?_, os, bare⟩
    cases hq : H b with
    | none => exact un.keep b o e hq (by simp [frs]) (by simp)
    | some q =>
      obtain ⟨rfl, _, ⟨ob, z, rfl⟩, _⟩ := one b q hq
      have e1 := (ok b _ hq).1
      have e2 := (ok' b _ (un.frzs b ob z hq)).1
      rw [e] at e1; cases e1
      exact e2
theorem law_g (inK : K.In s1.heap) (gl : s1.heap.Ns mainGlobals mg) (bl : s1.heap.Ns builtinsNs mb) (bb : ∀ y : Str, y ≠ "__name__" → mb y = bootBuiltins y) (lim : s1.heap.NoLimit) (gens : s1.gens = #[]) (hr : Room k callerA)
    (obj : s1.heap.get? a = some { cls := .type "list", data := .seq vs.toArray }) (hi : IntsAre vs ns) (hl : ns.length ≤ sizeLine)
    (F : ∀ base : Heap, K.In base → base.Ns mainGlobals mg → FnG P w K mg base CX0 k fa fd [x] (sp0 K false c)) (bind : ∀ (s : Shared) (u : Value), BindsTo s fd ⟨[u], []⟩ [(x, u)]) (want : c [.scr ns] fun d => d = .bl true) :
    codeAny (model P w) callerA (.call (.ref fa) ⟨[.ref a], []⟩) (fun r s' => r = .ok (.ret (.bool true)) ∧ OldK s1.heap s'.heap ∧ s'.os = s1.os ∧ AllBare s'.gens) s1 := by
  have rv := vals_ints hi
  cases hk : K.lookup a with
  | some o =>
    have e := inK a o hk
    rw [obj] at e
    cases e
    exact law_over inK gl bl bb lim gens hr F bind want (fun _ => none) (fun b u z => by cases z) (.inr ⟨_, vs.toArray, _, hk, rfl, rfl, rfl, by rw [List.size_toArray, hi.length]; exact hl, by simpa using rv⟩) fun b o z => by cases z
  | none =>
    have at_ : ∀ {b : Addr} {o : HO}, (if b = a then some (HO.frz { cls := .type "list", data := .seq vs.toArray } (.lst (ns.map V.int))) else none) = some o → b = a ∧ o = .frz { cls := .type "list", data := .seq vs.toArray } (.lst (ns.map V.int)) := fun {b o} z => by
      by_cases hb : b = a
      · rw [if_pos hb] at z; cases z; exact ⟨hb, rfl⟩
      · rw [if_neg hb] at z; cases z
    refine law_over inK gl bl bb lim gens hr F bind want (fun b => if b = a then some (.frz { cls := .type "list", data := .seq vs.toArray } (.lst (ns.map V.int))) else none) (fun b u z => ?_) (.inl (.inr ⟨_, if_pos rfl⟩)) fun b o z => ?_
    · obtain ⟨rfl, rfl⟩ := at_ z
      exact ⟨obj, by rw [List.length_map]; exact hl, vs, _, rv, obj⟩
    · obtain ⟨rfl, rfl⟩ := at_ z
      exact ⟨rfl, hk, ⟨_, _, rfl⟩, fun es ep ob e => by rw [obj] at e; cases e; simp⟩
end
/-- a law's end: F gives the written part and the promise of the law's def -/
theorem law_end {l : PySem.W.OpenLaw} {n k : Nat} {q : Program} {loose : List Str} {XP : (Str → Option Value) → Heap → Prop} {YP : World → Heap → Prop} {d : DefRec} {x : Str}
    (hn : l.most = some n) (hn2 : n ≤ sizeLine) (hdf : d.params.defaults = []) (hr : Room k callerA)
    (F : ∀ (w : World) (mg : Str → Option Value) (fa : Addr) (h : Heap), YP w h → h.Ns mainGlobals mg → mg d.name = some (.ref fa) →
      ∃ (K : PySem.W.Frag) (fd : FuncData) (c : C0), K.In h ∧ (∀ (s : Shared) (u : Value), BindsTo s fd ⟨[u], []⟩ [(x, u)]) ∧
        (∀ ns : List Int, ns.length ≤ n → (∀ z ∈ ns, Builtin.Int.intBits z ≤ 1048576) → c [.scr ns] fun d => d = .bl true) ∧
        ∀ base : Heap, K.In base → base.Ns mainGlobals mg → FnG l.prog w K mg base CX0 k fa fd [x] (sp0 K false c)) :
    PySem.W.WalkO q loose XP YP l.row.toRowW d [] (fun f vs => PySem.call f vs) :=
  Att.attach_callB hn hdf fun w s0 s1 mg mb fa o pm cd doc a vs ns G Y ho hd hcd hmg hobj hints hlen hbits hg => by
    obtain ⟨K, fd, c, inK, hb, want, hF⟩ := F w mg fa _ Y G.T.g hmg
    exact law_g inK G.T.g G.T.b G.T.builtins G.T.nolimit hg hr hobj hints (Nat.le_trans hlen hn2) hF hb (want ns hlen hbits)
end TL

namespace TL
open PySem L2 Evl

/-- a tree is asked where an object of its own comes -/
theorem f_of_u {K : PySem.W.Frag} {u : DE} {σ : L2.St} {H : Hp} {Q : VK} (h : tU K u σ H Q) : tF K u σ H Q := by
  obtain ⟨Hd, S, P, R, hu, q⟩ := h
  refine ⟨Hd, S, P, R, hu, fun v H' Hd' d S' g R' ⟨x, ev, hn, no, fr, ow⟩ p => ?_⟩
  subst ev
  obtain ⟨Hd2, e1, R2, dv, ad⟩ := R'.frz1 hn ow no
  refine q _ H' Hd2 d S' ⟨g.ex.trans e1, g.kp, fun b o k => ?_, g.ow, g.fx⟩ R2 dv p
  rcases ad b o k with z | z
  · exact g.nw b o z
  · subst z
    rcases fr with z | z
    · exact .inr (.inr z)
    · exact .inr (.inl z)
section
variable {X : Cx} {tg elt iter : Expr} {ifs : List Expr} {pos : Pos} {ui : DA} {t : Tg} {ut : DT} {ue : DE} {own : List (Str × Nat)} {scope : Scope}
theorem s_setLcD {i : Nat} {y : Str} {py spos : Pos} (hc : X.calm = true) (hN : X.N.Nodup) (hy : X.N[i]? = some y) (hyl : X.env.scope.names.lookup y = some .local)
    (hsw : swapsWith (.ListComp elt [⟨tg, iter, ifs, 0⟩] scope pos) (some (.Name y py)) spos.line X.env = pure true) (hi : QI X tg iter ui) (ok : BlkOk X.N X.env.scope scope own)
    (hg : ∀ (s : Shared) (H : Hp) (C : Addr) (cl : List (Str × Addr)) (fp : List Addr), PG (X.blk s H scope (compEnvC scope cl C X.env) fp) tg (t.t X.K)) (ht : ∀ (s : Shared) (H : Hp) (C : Addr) (cl : List (Str × Addr)) (fp : List Addr), QTs (X.blk s H scope (compEnvC scope cl C X.env) fp) ifs ut)
    (he : ∀ (s : Shared) (H : Hp) (C : Addr) (cl : List (Str × Addr)) (fp : List Addr), QE (X.blk s H scope (compEnvC scope cl C X.env) fp) elt ue) (hix : ∀ i ∈ t.ix, i ∈ own.map (·.2) := by decide) (hs : ∀ x, foldedSetIterable iter X.env x = pure x := by intro _; rfl) :
    QS X (.Assign [.Name y py] (.ListComp elt [⟨tg, iter, ifs, 0⟩] scope pos) spos) (uSet i (uLc ui t ut ue (own.map (·.2)))) :=
  pimpS (ps_setLc hc hN hy hyl hsw hi ok hg ht he hs) fun E σ H h => lc_tree hix (f_of_u (asg_at h))
end
def uDict0 : DE := fun S P => P (.dct []) S
theorem f_dict0 {X : Cx} {pos : Pos} : QF X (.Dict [] [] pos) uDict0 := pimp pe_dnewK fun σ H Q ⟨Hd, S, P, R, hu, q⟩ => fun p hp => by
  have gr := Gr.pass (o := .dK []) R.ex hp
  exact q _ _ Hd (.dct []) S gr.go (R.grow gr) ⟨p, rfl, fresh_back R.ex hp, R.notOw hp, .inr hp, own_dct upd_same rfl .nil⟩ hu
/-! ### a def under its name -/
structure Fn0 (P : Program) (w : World) (K : PySem.W.Frag) (mg : Str → Option Value) (base : Heap) (k : Nat) (x : Str) (fr : Bool) (c : C0) : Prop where
  ex : ∃ f fd ps, FnG P w K mg base CX0 k f fd ps (sp0 K fr c) ∧ mg x = some (.ref f) ∧ PySem.W.keepIn K (.ref f) = true ∧ Binds K fd ps []
structure Fn1 (P : Program) (w : World) (K : PySem.W.Frag) (mg : Str → Option Value) (base : Heap) (k : Nat) (x : Str) (fr : Bool) (c : C1) : Prop where
  ex : ∃ f fd ps, FnG P w K mg base CX0 k f fd ps (sp1 K fr c) ∧ mg x = some (.ref f) ∧ PySem.W.keepIn K (.ref f) = true ∧ Binds K fd ps []
section
variable {X : Cx} {k : Nat} {x : Str} {p pos : Pos} {e : Expr} {es : List Expr} {w : DA} {i : Nat} {c : C0} {c1 : C1}
theorem nil0 : (fun ds P => c (ds ++ []) P) = c := by funext ds P; rw [List.append_nil]
theorem nil1 : (fun d0 ds P => c1 d0 (ds ++ []) P) = c1 := by funext d0 ds P; rw [List.append_nil]
theorem q_fn (F : Fn0 X.prog X.w X.K X.mg X.base k x false c) (hr : Room k X.A) (hgd : X.A.guards = some []) (hg : Gl X x) (ha : QA X (e :: es) w) (hdb : (x == ("__debug__" : Str)) = false := by decide)
    (he : starEach (e :: es) X.env = (false, eval e X.env) :: starEach es X.env := by rfl) (hpl : (backTo pos (starEach es X.env)).any (·.1) = false := by rfl) : QE X (.Call (.Name x p) (e :: es) [] pos) (uCall0 c w) := by
  obtain ⟨f, fd, ps, G, hm, hk, hb⟩ := F.ex
  have h := q_call (p := p) (dvs := []) (ds := []) (dd := []) G hr hgd hg hm hk hb .nil dfl0 ha hdb he hpl
  rwa [nil0] at h
theorem f_fn (F : Fn0 X.prog X.w X.K X.mg X.base k x true c) (hr : Room k X.A) (hgd : X.A.guards = some []) (hg : Gl X x) (ha : QA X (e :: es) w) (hdb : (x == ("__debug__" : Str)) = false := by decide)
    (he : starEach (e :: es) X.env = (false, eval e X.env) :: starEach es X.env := by rfl) (hpl : (backTo pos (starEach es X.env)).any (·.1) = false := by rfl) : QF X (.Call (.Name x p) (e :: es) [] pos) (uCall0 c w) := by
  obtain ⟨f, fd, ps, G, hm, hk, hb⟩ := F.ex
  have h := f_call (p := p) (dvs := []) (ds := []) (dd := []) G hr hgd hg hm hk hb .nil dfl0 ha hdb he hpl
  rwa [nil0] at h
theorem q_fn1 (F : Fn1 X.prog X.w X.K X.mg X.base k x false c1) (hr : Room k X.A) (hgd : X.A.guards = some []) (hg : Gl X x) (h1 : PE X e (tVar i)) (ha : QA X es w) (hdb : (x == ("__debug__" : Str)) = false := by decide)
    (he : starEach (e :: es) X.env = (false, eval e X.env) :: starEach es X.env := by rfl) (hpl : (backTo pos (starEach es X.env)).any (·.1) = false := by rfl) : QE X (.Call (.Name x p) (e :: es) [] pos) (uCall1 c1 i w) := by
  obtain ⟨f, fd, ps, G, hm, hk, hb⟩ := F.ex
  have h := q_call1 (p := p) (dvs := []) (ds := []) (dd := []) G hr hgd hg hm hk hb .nil dfl0 h1 ha hdb he hpl
  rwa [nil1] at h
theorem f_fn1 (F : Fn1 X.prog X.w X.K X.mg X.base k x true c1) (hr : Room k X.A) (hgd : X.A.guards = some []) (hg : Gl X x) (h1 : PE X e (tVar i)) (ha : QA X es w) (hdb : (x == ("__debug__" : Str)) = false := by decide)
    (he : starEach (e :: es) X.env = (false, eval e X.env) :: starEach es X.env := by rfl) (hpl : (backTo pos (starEach es X.env)).any (·.1) = false := by rfl) : QF X (.Call (.Name x p) (e :: es) [] pos) (uCall1 c1 i w) := by
  obtain ⟨f, fd, ps, G, hm, hk, hb⟩ := F.ex
  have h := f_call1 (p := p) (dvs := []) (ds := []) (dd := []) G hr hgd hg hm hk hb .nil dfl0 h1 ha hdb he hpl
  rwa [nil1] at h
end
section
variable {P : Program} {w : World} {K : PySem.W.Frag} {mg : Str → Option Value} {base : Heap} {k : Nat} {x : Str} {fr : Bool}
theorem Fn0.mk' {c : C0} {f : Addr} {fd : FuncData} {ps : List Str} (G : FnG P w K mg base CX0 k f fd ps (sp0 K fr c)) (hm : mg x = some (.ref f)) (hk : PySem.W.keepIn K (.ref f) = true) (hb : Binds K fd ps []) : Fn0 P w K mg base k x fr c := ⟨f, fd, ps, G, hm, hk, hb⟩
theorem Fn1.mk' {c : C1} {f : Addr} {fd : FuncData} {ps : List Str} (G : FnG P w K mg base CX0 k f fd ps (sp1 K fr c)) (hm : mg x = some (.ref f)) (hk : PySem.W.keepIn K (.ref f) = true) (hb : Binds K fd ps []) : Fn1 P w K mg base k x fr c := ⟨f, fd, ps, G, hm, hk, hb⟩
end
end TL

namespace TL
open PySem L2

/-! ### comprehensions and loops, over trees -/
/-- a comprehension that changes no slot: each item gives f of it, or nothing -/
theorem lc_pure {ds : List D} {S : Ss} {t : Tg} {ut : DT} {ue : DE} {vs : List Nat} {P : D → Ss → Prop} (f : D → Option D) (hl : ds.length ≤ sizeLine) (no : noOwn S vs)
    (turn : ∀ d, d ∈ ds → ∀ Q : Option D → Ss → Prop, Q (f d) S → t.u d (clr S vs) fun S3 => ut S3 fun b S4 => match b with
      | true => ue S4 fun y S5 => Q (some y) (res S S5 vs)
      | false => Q none (res S S4 vs))
    (k : P (.lst (ds.filterMap f)) S) : ∃ I : Nat → List D → Ss → Prop, I 0 [] S ∧
  (∀ i d acc S2, ds[i]? = some d → I i acc S2 → noOwn S2 vs ∧ t.u d (clr S2 vs) fun S3 => ut S3 fun b S4 => match b with
    | true => ue S4 fun y S5 => acc.length < sizeLine ∧ I (i + 1) (acc ++ [y]) (res S2 S5 vs)
    | false => I (i + 1) acc (res S2 S4 vs)) ∧ ∀ acc S2, I ds.length acc S2 → P (.lst acc) S2 := by
  refine ⟨fun i acc S' => S' = S ∧ acc = (ds.take i).filterMap f, ⟨rfl, rfl⟩, fun i d acc S2 hd ⟨e1, e2⟩ => ?_, fun acc S2 ⟨e1, e2⟩ => ?_⟩
  · subst e1
    have hi : i < ds.length := lt_of hd
    have ht : ds.take (i + 1) = ds.take i ++ [d] := by
      rw [List.take_add_one, hd]; rfl
    have hlen : acc.length < sizeLine := by
      subst e2
      have h1 := List.length_filterMap_le f (ds.take i)
      rw [List.length_take] at h1
      omega
    refine ⟨no, turn d (List.mem_of_getElem? hd) (fun o S' => match o with
      | some y => acc.length < sizeLine ∧ S' = S2 ∧ acc ++ [y] = (ds.take (i + 1)).filterMap f
      | none => S' = S2 ∧ acc = (ds.take (i + 1)).filterMap f) ?_⟩
    cases hf : f d with
    | some y => exact ⟨hlen, rfl, by rw [ht, List.filterMap_append, e2]; simp [hf]⟩
    | none => exact ⟨rfl, by rw [ht, List.filterMap_append, e2]; simp [hf]⟩
  · subst e1
    rw [List.take_length] at e2
    rw [e2]; exact k
theorem lcp {ui : DA} {S : Ss} {t : Tg} {ut : DT} {ue : DE} {vs : List Nat} {P : D → Ss → Prop} (f : D → Option D) (ds : List D) (hui : ∀ Q : List D → Ss → Prop, Q ds S → ui S Q) (hl : ds.length ≤ sizeLine) (no : noOwn S vs)
    (turn : ∀ d, d ∈ ds → ∀ Q : Option D → Ss → Prop, Q (f d) S → t.u d (clr S vs) fun S3 => ut S3 fun b S4 => match b with
      | true => ue S4 fun y S5 => Q (some y) (res S S5 vs)
      | false => Q none (res S S4 vs))
    (k : P (.lst (ds.filterMap f)) S) : uLc ui t ut ue vs S P := hui _ (lc_pure f hl no turn k)
/-- a comprehension by its invariant -/
theorem lci {ui : DA} {S : Ss} {t : Tg} {ut : DT} {ue : DE} {vs : List Nat} {P : D → Ss → Prop} (ds : List D) (S1 : Ss) (I : Nat → List D → Ss → Prop) (hui : ∀ Q : List D → Ss → Prop, Q ds S1 → ui S Q) (h0 : I 0 [] S1)
    (hs : ∀ i d acc S2, ds[i]? = some d → I i acc S2 → noOwn S2 vs ∧ t.u d (clr S2 vs) fun S3 => ut S3 fun b S4 => match b with
      | true => ue S4 fun y S5 => acc.length < sizeLine ∧ I (i + 1) (acc ++ [y]) (res S2 S5 vs)
      | false => I (i + 1) acc (res S2 S4 vs)) (hd : ∀ acc S2, I ds.length acc S2 → P (.lst acc) S2) : uLc ui t ut ue vs S P := hui _ ⟨I, h0, hs, hd⟩
theorem fori {ui : DA} {S : Ss} {t : Tg} {ub : DS} {F : DEnds} (ds : List D) (S1 : Ss) (I : Nat → Ss → Prop) (hui : ∀ Q : List D → Ss → Prop, Q ds S1 → ui S Q) (h0 : I 0 S1)
    (hs : ∀ i d S, ds[i]? = some d → I i S → t.u d S fun S2 => ub { F with nx := I (i + 1), ct := I (i + 1), bk := F.nx } S2) (hd : ∀ S, I ds.length S → F.nx S) : uFor ui t ub F S := hui _ ⟨I, h0, hs, hd⟩
/-- a walk over a list whose turns never end it -/
theorem for_inv {ds : List D} {S : Ss} {t : Tg} {ub : DS} {F : DEnds} (I : Nat → Ss → Prop) (h0 : I 0 S) (hs : ∀ i d S, ds[i]? = some d → I i S → t.u d S fun S2 => ub { F with nx := I (i + 1), ct := I (i + 1), bk := F.nx } S2) (hd : ∀ S, I ds.length S → F.nx S) :
    ∃ I : Nat → Ss → Prop, I 0 S ∧ (∀ i d S, ds[i]? = some d → I i S → t.u d S fun S2 => ub { F with nx := I (i + 1), ct := I (i + 1), bk := F.nx } S2) ∧ ∀ S, I ds.length S → F.nx S := ⟨I, h0, hs, hd⟩

/-- one statement by itself, what follows closed -/
theorem seq_by {A B : DS} {F : DEnds} {S : Ss} (R : Ss → Prop) (hA : ∀ nx : Ss → Prop, (∀ S', R S' → nx S') → A { F with nx := nx } S) (hB : ∀ S', R S' → B F S') : uSeq A B F S := hA (B F) hB
theorem seq_to {A B : DS} {F : DEnds} {S : Ss} (S' : Ss) (hA : ∀ nx : Ss → Prop, nx S' → A { F with nx := nx } S) (hB : B F S') : uSeq A B F S := hA (B F) hB
theorem if_t {ut : DT} {ua ub : DS} {F : DEnds} {S S1 : Ss} (h : ∀ Q : Bool → Ss → Prop, Q true S1 → ut S Q) (k : ua F S1) : uIf ut ua ub F S := h _ k
theorem if_f {ut : DT} {ua ub : DS} {F : DEnds} {S S1 : Ss} (h : ∀ Q : Bool → Ss → Prop, Q false S1 → ut S Q) (k : ub F S1) : uIf ut ua ub F S := h _ k
theorem if_b {ut : DT} {ua ub : DS} {F : DEnds} {S S1 : Ss} (b : Bool) (h : ∀ Q : Bool → Ss → Prop, Q b S1 → ut S Q) (kt : b = true → ua F S1) (kf : b = false → ub F S1) : uIf ut ua ub F S := h _ (by
  cases b with
  | true => exact kt rfl
  | false => exact kf rfl)
/-! ### places, slices, texts -/
theorem atI_of {α : Type} {xs : List α} {k : Int} (d : α) (h0 : 0 ≤ k) (h1 : k < (xs.length : Int)) : atI xs k = some (xs.getD k.toNat d) := by
  unfold atI ixN
  rw [if_pos h0, if_pos h1]
  show xs[k.toNat]? = _
  have : k.toNat < xs.length := by omega
  rw [List.getElem?_eq_getElem this, List.getD_eq_getElem?_getD, List.getElem?_eq_getElem this]; rfl
theorem len_cps (z : Str) : z.cps.toList.length = z.length := by
  unfold Str.length; simp
theorem str_ext {a b : Str} (h : a.cps.toList = b.cps.toList) : a = b := by
  cases a; cases b; simp at h; subst h; rfl
theorem cps_app (a b : Str) : (a ++ b).cps.toList = a.cps.toList ++ b.cps.toList := PyProof.Rows.cps_toList_append a b
theorem len_app (a b : Str) : (a ++ b).length = a.length + b.length := Str.length_append ..
theorem one_eq {c d : Nat} : ((⟨#[c]⟩ : Str) = ⟨#[d]⟩) ↔ c = d := by simp
theorem size_small {n : Nat} (h : n ≤ 100000) : n ≤ sizeLine := Nat.le_trans h (by decide)
theorem size_smallL {n : Nat} (h : n ≤ 100000) : n < sizeLine := Nat.lt_of_le_of_lt h (by decide)
/-- z[:k] -/
theorem cutS_to {z : Str} {k : Int} (h : 0 ≤ k) : (cutS z none (some k)).cps.toList = z.cps.toList.take k.toNat := by
  unfold cutS
  simp only [HT.sIx, if_neg (by omega : ¬ k < 0), List.drop_zero, Nat.sub_zero]
  apply List.ext_getElem?
  intro i
  rw [List.getElem?_take, List.getElem?_take]
  by_cases h1 : i < k.toNat
  · rw [if_pos h1]
    by_cases h2 : i < z.length
    · rw [if_pos (by omega)]
    · rw [if_neg (by omega), List.getElem?_eq_none (by rw [len_cps]; omega)]
  · rw [if_neg (by omega), if_neg h1]
/-- z[k:] -/
theorem cutS_from {z : Str} {k : Int} (h : 0 ≤ k) : (cutS z (some k) none).cps.toList = z.cps.toList.drop k.toNat := by
  unfold cutS
  simp only [HT.sIx, if_neg (by omega : ¬ k < 0)]
  apply List.ext_getElem?
  intro i
  rw [List.getElem?_take, List.getElem?_drop, List.getElem?_drop]
  by_cases h1 : k.toNat ≤ z.length
  · rw [Nat.min_eq_left h1]
    by_cases h2 : i < z.length - k.toNat
    · rw [if_pos h2]
    · rw [if_neg h2, List.getElem?_eq_none (by rw [len_cps]; omega)]
  · rw [if_neg (by omega), List.getElem?_eq_none (by rw [len_cps]; omega)]
theorem cutS_len {z : Str} {lo hi : Option Int} : (cutS z lo hi).length ≤ z.length := by
  rw [← len_cps, ← len_cps]
  unfold cutS
  simp only [List.length_take, List.length_drop]
  omega
theorem cutS_mem {z : Str} {lo hi : Option Int} {c : Nat} (h : c ∈ (cutS z lo hi).cps.toList) : c ∈ z.cps.toList := by
  unfold cutS at h
  exact List.mem_of_mem_drop (List.mem_of_mem_take h)
/-- xs[:k] -/
theorem cutD_to {ds : List D} {k : Int} (h : 0 ≤ k) : cutD ds none (some k) = ds.take k.toNat := by
  unfold cutD
  simp only [HT.sIx, if_neg (by omega : ¬ k < 0), List.drop_zero, Nat.sub_zero]
  rw [List.take_eq_take_iff]
  omega
theorem count_one (z : Str) (c : Nat) : Txt.count z ⟨#[c]⟩ = ((z.cps.toList.count c : Nat) : Int) := by
  rw [PyProof.Rows.count_cnt]
  induction z.cps.toList with
  | nil => rfl
  | cons n r ih =>
    rw [PyProof.Rows.cnt_cons, ih, List.count_cons]
    by_cases h : n = c
    · simp [h]; omega
    · simp [h]
theorem signs_len (x : Str) : (signs x).length = x.length := by unfold signs; rw [List.length_map, len_cps]
theorem signs_mem {x : Str} {d : D} (h : d ∈ signs x) : ∃ c, c ∈ x.cps.toList ∧ d = .str ⟨#[c]⟩ := by
  unfold signs at h
  obtain ⟨c, h1, h2⟩ := List.mem_map.mp h
  exact ⟨c, h1, h2.symm⟩
/-- the texts of a list joined by nothing -/
theorem join_nil (ys : List Str) : (Txt.join "" ys).cps.toList = (ys.map fun y => y.cps.toList).flatten := by
  rw [join_eq]
  have h := tl_join "" ys
  have e : ∀ l : List (List Nat), joinL (tl "") l = l.flatten := by
    intro l
    induction l with
    | nil => rfl
    | cons p r ih =>
      cases r with
      | nil => simp [joinL]
      | cons q r =>
        show p ++ (tl "" ++ joinL (tl "") (q :: r)) = _
        rw [ih]
        rfl
  rw [e] at h
  exact h
theorem ok_asc1 : ∀ c, c < 128 → PySem.PyData.canLay0 (.str ⟨#[c]⟩) = true := by decide +kernel
theorem isQs_str : ∀ l : List Str, isQs (l.map D.str) = true
  | [] => rfl
  | a :: l => by simp only [List.map_cons, isQs, isQ, isQs_str l, Bool.and_self]
theorem toPs_str : ∀ l : List Str, toPs (l.map D.str) = l.map PyData.str
  | [] => rfl
  | a :: l => by simp only [List.map_cons, toPs, toP, toPs_str l]
theorem lay_strs : ∀ l : List Str, (∀ s ∈ l, PyData.canLay0 (.str s) = true) → PyData.canLayAll0 (l.map PyData.str) = true
  | [], _ => rfl
  | a :: l, h => by
    simp only [List.map_cons, PyData.canLayAll0, Bool.and_eq_true]
    exact ⟨h a (by simp), lay_strs l fun s hs => h s (by simp [hs])⟩
theorem depth_strs : ∀ l : List Str, PyData.depthAll (l.map PyData.str) = 0
  | [] => rfl
  | a :: l => by simp only [List.map_cons, PyData.depthAll, PyData.depth, depth_strs l]; rfl
theorem eqok_strs {l : List Str} (h : ∀ s ∈ l, PyData.canLay0 (.str s) = true) : EqOk (.lst (l.map D.str)) := by
  refine ⟨by simp only [isQ]; exact isQs_str l, ?_⟩
  simp only [SeqAt.shaped, toP, toPs_str, PyData.canLay0, lay_strs l h, PyData.depth, depth_strs]
  decide
theorem eqok_nil : EqOk (.lst []) := ⟨rfl, by decide⟩
theorem eqv_nil (l : List D) : PyData.eqv (toP (.lst l)) (toP (.lst [])) = l.isEmpty := by
  cases l with
  | nil => rfl
  | cons a l => simp [toP, toPs, PyData.eqv, PyData.eqvAll]
theorem isQs_int : ∀ l : List Int, isQs (l.map D.int) = true
  | [] => rfl
  | a :: l => by simp only [List.map_cons, isQs, isQ, isQs_int l, Bool.and_self]
theorem toPs_int : ∀ l : List Int, toPs (l.map D.int) = l.map PyData.int
  | [] => rfl
  | a :: l => by simp only [List.map_cons, toPs, toP, toPs_int l]
theorem lay_ints : ∀ l : List Int, PyData.canLayAll0 (l.map PyData.int) = true
  | [] => rfl
  | a :: l => by simp only [List.map_cons, PyData.canLayAll0, PyData.canLay0, lay_ints l, Bool.and_self]
theorem depth_ints : ∀ l : List Int, PyData.depthAll (l.map PyData.int) = 0
  | [] => rfl
  | a :: l => by simp only [List.map_cons, PyData.depthAll, PyData.depth, depth_ints l]; rfl
theorem eqok_ints (l : List Int) : EqOk (.lst (l.map D.int)) := by
  refine ⟨by simp only [isQ]; exact isQs_int l, ?_⟩
  simp only [SeqAt.shaped, toP, toPs_int, PyData.canLay0, lay_ints l, PyData.depth, depth_ints]
  decide
theorem shown_asc {z : Str} (h : ∀ c ∈ z.cps.toList, c < 128) : (shownD (.str z)).length ≤ 10 * z.length + 2 := by
  unfold shownD
  simp only [toP, PyData.shown]
  exact PySem.StrLaws.reprText_len z fun c hc => Nat.lt_of_lt_of_le (h c hc) (by decide)
end TL

namespace K01
open PySem L2 TL

/-! ### the pen -/
def penL (cs : List Int) (at_ left : Int) : List (Key × D) := [(.inr "cells", .lst (cs.map D.int)), (.inr "at", .int at_), (.inr "left", .int left)]
def penD (cs : List Int) (at_ left : Int) : D := .dct (penL cs at_ left)
theorem pen_cells (cs : List Int) (a l : Int) : valD (penL cs a l) (.inr (Str.ofString "cells")) = some (.lst (cs.map D.int)) := rfl
theorem pen_at (cs : List Int) (a l : Int) : valD (penL cs a l) (.inr (Str.ofString "at")) = some (.int a) := rfl
theorem pen_left (cs : List Int) (a l : Int) : valD (penL cs a l) (.inr (Str.ofString "left")) = some (.int l) := rfl
theorem pen_sat (cs : List Int) (a l b : Int) : putD (penL cs a l) (.inr (Str.ofString "at")) (.int b) = penL cs b l := rfl
theorem pen_sleft (cs : List Int) (a l b : Int) : putD (penL cs a l) (.inr (Str.ofString "left")) (.int b) = penL cs a b := rfl
theorem pen_len (cs : List Int) (a l : Int) : (penL cs a l).length = 3 := rfl
def PenI (m : Nat) (d : D) : Prop := ∃ (cs : List Int) (at_ left : Int), d = penD cs at_ left ∧ cs.length ≤ 63 ∧ 0 ≤ at_ ∧ at_ ≤ m ∧ 0 ≤ left
def many : Nat := 1000000
def c_law_pen : C0 := fun ds P => match ds with
  | [.scr ns] => ns.length ≤ 63 ∧ ∀ d, PenI 0 d → P d
  | _ => False
def c_law_draw : C1 := fun d0 ds P => match ds with
  | [.int n] => ∃ m, PenI m d0 ∧ m ≤ many ∧ 0 < n ∧ n < 10 ^ 61 ∧ ∀ r d1, 0 ≤ r → r < n → PenI (m + 1) d1 → P (.int r) d1
  | _ => False
def c_law_pick : C1 := fun d0 ds P => match ds with
  | [.lst xs] => ∃ m, PenI m d0 ∧ m ≤ many ∧ 1 ≤ xs.length ∧ xs.length ≤ 100000 ∧ ∀ x d1, x ∈ xs → PenI (m + 1) d1 → P x d1
  | [.str z] => ∃ m, PenI m d0 ∧ m ≤ many ∧ 1 ≤ z.length ∧ z.length ≤ 100000 ∧ ∀ c d1, c ∈ z.cps.toList → PenI (m + 1) d1 → P (.str ⟨#[c]⟩) d1
  | _ => False
/-! ### names, rhythms, things -/
def lettersT : Str := "abcdefghijklmnopqrstuvwxyz"
def isText (x : D) (sg : Str) (m : Int) : Bool := match x with
  | .str z => decide (0 < (z.length : Int)) && decide ((z.length : Int) ≤ m) && z.cps.toList.all fun c => decide (c ∈ sg.cps.toList)
  | _ => false
def hasX (x : D) : Bool := match x with
  | .str z => decide (120 ∈ z.cps.toList)
  | _ => false
def isNm (x : D) : Bool := isText x "abcdefghijklmnopqrstuvwxyz" 8
def isRh (x : D) : Bool := isText x "x-" 6 && hasX x
/-- a thing that is asked of -/
def Asc (z : Str) : Prop := ∀ c ∈ z.cps.toList, c < 128
def Th (x : D) : Prop := (∃ t, tyN x = some t) ∧ ∀ z, x = .str z → z.length ≤ 100000 ∧ Asc z
def c_is_text_of : C0 := fun ds P => match ds with
  | [x, .str sg, .int m] => Th x ∧ P (.bl (isText x sg m))
  | _ => False
def c_is_name : C0 := fun ds P => match ds with
  | [x] => Th x ∧ P (.bl (isNm x))
  | _ => False
def c_is_rhythm : C0 := fun ds P => match ds with
  | [x] => Th x ∧ P (.bl (isRh x))
  | _ => False
def c_law_are_signs : C0 := c_is_text_of
def c_law_truths : C0 := fun ds P => match ds with
  | [x] => Th x ∧ P (.lst [.bl (isNm x), .bl (isRh x)])
  | _ => False
def c_law_is_number : C0 := fun ds P => match ds with
  | [.int i, .int j] => P (.bl (decide (i = j)))
  | _ => False
/-- a rhythm's codes -/
def Rhy (z : Str) : Prop := 1 ≤ z.length ∧ z.length ≤ 6 ∧ (∀ c ∈ z.cps.toList, c = 120 ∨ c = 45) ∧ 120 ∈ z.cps.toList
def Nam (z : Str) : Prop := 1 ≤ z.length ∧ z.length ≤ 8 ∧ Asc z
def takesF (z : Str) (b : Int) : Bool := decide (0 < b) && decide (z.cps.toList.getD ((b - 1) % z.length).toNat 0 = 120)
def timesF (z : Str) (b : Int) : Int := b / z.length * (z.cps.toList.count 120 : Nat) + ((z.cps.toList.take (b % z.length).toNat).count 120 : Nat)
/-- the places of a rhythm's x, from 1 -/
def spots (l : List Nat) : List Int := ((l.zipIdx).filter fun p => decide (p.1 = 120)).map fun p => 1 + (p.2 : Int)
def beatF (z : Str) (n : Int) : Int := n / (spots z.cps.toList).length * z.length + (spots z.cps.toList).getD (n % (spots z.cps.toList).length).toNat 0
def c_takes : C0 := fun ds P => match ds with
  | [.str z, .int b] => Rhy z ∧ 0 ≤ b ∧ P (.bl (takesF z b))
  | _ => False
def c_times_of : C0 := fun ds P => match ds with
  | [.str z, .int b] => Rhy z ∧ 0 ≤ b ∧ P (.int (timesF z b))
  | _ => False
def c_beat_of : C0 := fun ds P => match ds with
  | [.str z, .int n] => Rhy z ∧ 0 ≤ n ∧ P (.int (beatF z n))
  | _ => False
def c_law_counts : C0 := fun ds P => match ds with
  | [.str z, .int b] => Rhy z ∧ 0 ≤ b ∧ b ≤ 10 ^ 60 ∧ P (.bl true)
  | _ => False
def c_law_names : C1 := fun d0 ds P => match ds with
  | [.int n] => ∃ m, PenI m d0 ∧ m + 100 ≤ many ∧ 0 ≤ n ∧ n ≤ 26 ∧ ∀ (zs : List Str) d1, (zs.length : Int) = n → (∀ z ∈ zs, Nam z) → PenI (m + 13) d1 → P (.lst (zs.map D.str)) d1
  | _ => False
def c_law_rhythm : C1 := fun d0 ds P => match ds with
  | [] => ∃ m, PenI m d0 ∧ m + 100 ≤ many ∧ ∀ z d1, Rhy z → PenI (m + 8) d1 → P (.str z) d1
  | _ => False
def oddL : List D := [.non, .bl true, .bl false, .int 0, .int 1, .int (-1), .int 12, .int 13, .int (10 ^ 60), .int (10 ^ 60 + 1), .str "", .str "a", .str "A", .str "x", .str "-", .str "l", .str "abcdefghi",
  .str "a b", .tup [], .lst [], .dct [], .tup [.str "a"], .tup [.str "a", .str "x"], .lst [.str "a", .str "x"], .tup [.str "wait", .str "a", .str "b", .int 1], .dct [(.inr "a", .str "b")], .tup [.non], .tup [.tup []]]
def c_law_odd : C1 := fun d0 ds P => match ds with
  | [] => ∃ m, PenI m d0 ∧ m + 100 ≤ many ∧ ∀ x d1, x ∈ oddL → PenI (m + 1) d1 → P x d1
  | _ => False
def c_law_bent : C1 := fun d0 ds P => match ds with
  | [.str z] => ∃ m, PenI m d0 ∧ m + 100 ≤ many ∧ z.length ≤ 100 ∧ Asc z ∧ ∀ z' d1, z'.length ≤ z.length + 8 → Asc z' → PenI (m + 4) d1 → P (.str z') d1
  | _ => False
def c_law : C0 := fun ds P => match ds with
  | [.scr ns] => ns.length ≤ 63 ∧ P (.bl true)
  | _ => False
end K01

namespace K01
open PySem L2 TL
def u_is_text_of : DS :=
  (uRet (uAndV (uCB gIsi (uCons (uVar 0) (uCons (uC (.ty "str")) uNil))) (uAndV (uChain gLt gLe (uC (.int 0)) (uCB gLen (uCons (uVar 0) uNil)) (uVar 2)) (uCB gAll (uCons (uLc (uIS (uVar 0)) (.nm 3) uYes (uOp (gIn false) (uVar 3) (uVar 1)) [3]) uNil)))))

def u_is_name : DS :=
  (uRet (uCall0 c_is_text_of (uCons (uVar 0) (uCons (uC (.str "abcdefghijklmnopqrstuvwxyz")) (uCons (uC (.int 8)) uNil)))))

def u_is_rhythm : DS :=
  (uRet (uAndV (uCall0 c_is_text_of (uCons (uVar 0) (uCons (uC (.str "x-")) (uCons (uC (.int 6)) uNil)))) (uOp (gIn false) (uC (.str "x")) (uVar 0))))

def u_takes : DS :=
  (uRet (uAndV (uOp gGt (uVar 1) (uC (.int 0))) (uOp (eqR false) (uOp gIx (uVar 0) (uOp gMod (uOp TL.gSub (uVar 1) (uC (.int 1))) (uCB gLen (uCons (uVar 0) uNil)))) (uC (.str "x")))))

def u_times_of : DS :=
  (uSeq (uAsg (.tp [(.nm 2), (.nm 3)]) (uCB gDivmod (uCons (uVar 1) (uCons (uCB gLen (uCons (uVar 0) uNil)) uNil))))
    (uRet (uOp gAdd (uOp gMul (uVar 2) (uM1 gCount (uVar 0) (uC (.str "x")))) (uM1 gCount (uSl (uVar 0) uNone (uSome (uVar 3))) (uC (.str "x"))))))

def u_beat_of : DS :=
  (uSeq (uSet 2 (uLc (uIES (uCons (uVar 0) (uCons (uC (.int 1)) uNil))) (.tp [(.nm 5), (.nm 6)]) (uB (uOp (eqR false) (uVar 6) (uC (.str "x")))) (uVar 5) [5, 6]))
    (uSeq (uAsg (.tp [(.nm 3), (.nm 4)]) (uCB gDivmod (uCons (uVar 1) (uCons (uCB gLen (uCons (uVar 2) uNil)) uNil))))
    (uRet (uOp gAdd (uOp gMul (uVar 3) (uCB gLen (uCons (uVar 0) uNil))) (uOp gIx (uVar 2) (uVar 4))))))

def u_law_pen : DS :=
  (uRetF (uDict [((uC (.str "cells")), (uCB gList (uCons (uSl (uVar 0) uNone (uSome (uC (.int 63)))) uNil))), ((uC (.str "at")), (uC (.int 0))), ((uC (.str "left")), (uC (.int 0)))]))

def u_law_draw : DS :=
  (uSeq (uIf (uB (uOp gGt (uDGetO 0 (uC (.str "left"))) (uC (.int 0)))) (uSeq (uSet 5 (uOp gMod (uDGetO 0 (uC (.str "left"))) (uVar 1)))
    (uSeq (uDPut 0 (uC (.str "left")) (uOp gFdiv (uDGetO 0 (uC (.str "left"))) (uVar 1)))
    (uRet (uVar 5)))) uNext)
    (uSeq (uSet 2 (uDGetO 0 (uC (.str "at"))))
    (uSeq (uDPut 0 (uC (.str "at")) (uOp gAdd (uVar 2) (uC (.int 1))))
    (uSeq (uSet 3 (uOp gAdd (uOp gMul (uC (.int 29)) (uVar 2)) (uC (.int 4))))
    (uSeq (uIf (uB (uOp (eqR true) (uDGetO 0 (uC (.str "cells"))) (uLst uNil))) (uSet 3 (uOp gIx (uDGetO 0 (uC (.str "cells"))) (uOp gMod (uVar 2) (uCB gLen (uCons (uDGetO 0 (uC (.str "cells"))) uNil))))) uNext)
    (uSeq (uIf (uAnd (uB (uOp gLt (uVar 2) (uCB gLen (uCons (uDGetO 0 (uC (.str "cells"))) uNil)))) (uB (uOp gGe (uCB gAbs (uCons (uVar 3) uNil)) (uOp gPow (uC (.int 10)) (uC (.int 18)))))) (uSeq (uDPut 0 (uC (.str "left")) (uOp gFdiv (uOp TL.gSub (uCB gAbs (uCons (uVar 3) uNil)) (uOp gPow (uC (.int 10)) (uC (.int 18)))) (uVar 1)))
    (uRet (uOp gMod (uOp TL.gSub (uCB gAbs (uCons (uVar 3) uNil)) (uOp gPow (uC (.int 10)) (uC (.int 18)))) (uVar 1)))) uNext)
    (uSeq (uSet 4 (uOp gMod (uOp gAdd (uOp gAdd (uOp gAdd (uOp gMul (uOp gMod (uVar 3) (uC (.int 2147483659))) (uC (.int 69621))) (uOp gMul (uOp gMul (uC (.int 40692)) (uVar 2)) (uVar 2))) (uOp gMul (uC (.int 6007)) (uVar 2))) (uC (.int 13))) (uC (.int 2147483693))))
    (uSeq (uSet 4 (uOp gMod (uOp gAdd (uOp gAdd (uOp gAdd (uOp gMul (uVar 4) (uVar 4)) (uOp gMul (uC (.int 48271)) (uVar 4))) (uOp gMul (uC (.int 7)) (uVar 2))) (uC (.int 3))) (uC (.int 2147483713))))
    (uRet (uOp gMod (uOp gFdiv (uOp gMod (uOp gMul (uVar 4) (uOp gAdd (uVar 4) (uC (.int 16807)))) (uC (.int 2147483743))) (uC (.int 32))) (uVar 1)))))))))))

def u_law_pick : DS :=
  (uRet (uOp gIx (uVar 1) (uCall1 c_law_draw 0 (uCons (uCB gLen (uCons (uVar 1) uNil)) uNil))))

def u_law_names : DS :=
  (uSeq (uSet 2 (uC (.str "abcdefghijklmnopqrstuvwxyz")))
    (uSeq (uSet 3 (uM1 gJoin (uC (.str "")) (uLc (uIR1 (uCons (uOp gAdd (uC (.int 1)) (uCall1 c_law_draw 0 (uCons (uC (.int 8)) uNil))) uNil)) (.nm 4) uYes (uCall1 c_law_pick 0 (uCons (uVar 2) uNil)) [4])))
    (uSeq (uPar3 5 6 7 (uCall1 c_law_draw 0 (uCons (uCB gLen (uCons (uVar 3) uNil)) uNil)) (uCall1 c_law_draw 0 (uCons (uC (.int 26)) uNil)) (uCall1 c_law_draw 0 (uCons (uC (.int 2)) uNil)))
    (uSeq (uPar2F 8 9 (uCall1 c_law_pick 0 (uCons (uLst (uCons (uC (.int 1)) (uCons (uC (.int 3)) (uCons (uC (.int 5)) (uCons (uC (.int 7)) (uCons (uC (.int 9)) (uCons (uC (.int 11)) (uCons (uC (.int 15)) (uCons (uC (.int 17)) (uCons (uC (.int 19)) (uCons (uC (.int 21)) (uCons (uC (.int 23)) (uCons (uC (.int 25)) uNil))))))))))))) uNil)) (uLst uNil))
    (uSeq (uFor (uIR1 (uCons (uVar 1) uNil)) (.nm 4) (uSeq (uSet 10 (uSl (uSl (uVar 3) (uSome (uOp gAdd (uVar 5) (uC (.int 1)))) uNone) uNone (uSome (uOp gIx (uLst (uCons (uC (.int 8)) (uCons (uOp gMod (uVar 4) (uC (.int 3))) uNil))) (uVar 7)))))
    (uApp 9 (uOp gAdd (uOp gAdd (uSl (uVar 3) uNone (uSome (uVar 5))) (uOp gIx (uVar 2) (uOp gMod (uOp gAdd (uVar 6) (uOp gMul (uVar 8) (uVar 4))) (uC (.int 26))))) (uVar 10)))))
    (uRet (uFrz 9)))))))

def u_law_rhythm : DS :=
  (uSeq (uSetO 1 (uLc (uIR1 (uCons (uOp gAdd (uC (.int 1)) (uCall1 c_law_draw 0 (uCons (uC (.int 6)) uNil))) uNil)) (.nm 2) uYes (uCall1 c_law_pick 0 (uCons (uLst (uCons (uC (.str "x")) (uCons (uC (.str "x")) (uCons (uC (.str "-")) uNil)))) uNil)) [2]))
    (uSeq (uSetIt 1 (uCall1 c_law_draw 0 (uCons (uThaw (uCB gLen (uCons (uVar 1) uNil))) uNil)) (uC (.str "x")))
    (uRet (uThaw (uM1 gJoin (uC (.str "")) (uVar 1))))))

def u_law_odd : DS :=
  (uSeq (uSet 1 (uLst (uCons (uC .non) (uCons (uC (.bl true)) (uCons (uC (.bl false)) (uCons (uC (.int 0)) (uCons (uC (.int 1)) (uCons (uUn gNeg (uC (.int 1))) (uCons (uC (.int 12)) (uCons (uC (.int 13)) (uCons (uOp gPow (uC (.int 10)) (uC (.int 60))) (uCons (uOp gAdd (uOp gPow (uC (.int 10)) (uC (.int 60))) (uC (.int 1))) (uCons (uC (.str "")) (uCons (uC (.str "a")) (uCons (uC (.str "A")) (uCons (uC (.str "x")) (uCons (uC (.str "-")) (uCons (uC (.str "l")) (uCons (uC (.str "abcdefghi")) uNil)))))))))))))))))))
    (uSeq (uSet 1 (uOp gAdd (uVar 1) (uLst (uCons (uC (.str "a b")) (uCons (uTup uNil) (uCons (uLst uNil) (uCons uDict0 (uCons (uTup (uCons (uC (.str "a")) uNil)) (uCons (uTup (uCons (uC (.str "a")) (uCons (uC (.str "x")) uNil))) (uCons (uLst (uCons (uC (.str "a")) (uCons (uC (.str "x")) uNil))) (uCons (uTup (uCons (uC (.str "wait")) (uCons (uC (.str "a")) (uCons (uC (.str "b")) (uCons (uC (.int 1)) uNil))))) (uCons (uDict [((uC (.str "a")), (uC (.str "b")))]) (uCons (uTup (uCons (uC .non) uNil)) (uCons (uTup (uCons (uTup uNil) uNil)) uNil))))))))))))))
    (uRet (uCall1 c_law_pick 0 (uCons (uVar 1) uNil)))))

def u_law_bent : DS :=
  (uSeq (uSet 2 (uCall1 c_law_draw 0 (uCons (uC (.int 8)) uNil)))
    (uSeq (uIf (uB (uCB gIsi (uCons (uVar 1) (uCons (uC (.ty "str")) uNil)))) (uSeq (uSet 3 (uC (.str " !\"#$&'()*+,-./0123456789:;<=>?@ABCDEFGHIJKLMNOPQRSTUVWXYZ[\\]^_`{|}~\n")))
    (uSeq (uSet 3 (uOp gAdd (uVar 3) (uC (.str "abcdefghijklmnopqrstuvwxyz"))))
    (uSeq (uPar2 5 7 (uCall1 c_law_draw 0 (uCons (uOp gAdd (uCB gLen (uCons (uVar 1) uNil)) (uC (.int 1))) uNil)) (uCall1 c_law_pick 0 (uCons (uVar 3) uNil)))
    (uSeq (uSet 4 (uLst (uCons (uOp gAdd (uOp gAdd (uSl (uVar 1) uNone (uSome (uVar 5))) (uVar 7)) (uSl (uVar 1) (uSome (uVar 5)) uNone)) (uCons (uOp gAdd (uSl (uVar 1) uNone (uSome (uVar 5))) (uSl (uVar 1) (uSome (uOp gAdd (uVar 5) (uC (.int 1)))) uNone)) (uCons (uOp gAdd (uOp gAdd (uSl (uVar 1) uNone (uSome (uVar 5))) (uVar 7)) (uSl (uVar 1) (uSome (uOp gAdd (uVar 5) (uC (.int 1)))) uNone)) uNil)))))
    (uRet (uOp gIx (uOp gAdd (uVar 4) (uLst (uCons (uOp gAdd (uVar 1) (uSl (uC (.str "abcdefgh")) (uSome (uCall1 c_law_draw 0 (uCons (uC (.int 8)) uNil))) uNone)) uNil))) (uOp gMod (uVar 2) (uC (.int 4))))))))) uNext)
    uNever))

def u_law_are_signs : DS :=
  (uSeq (uIf (uOr (uNot (uB (uCB gIsi (uCons (uVar 0) (uCons (uC (.ty "str")) uNil))))) (uNot (uB (uChain gLt gLe (uC (.int 0)) (uCB gLen (uCons (uVar 0) uNil)) (uVar 2))))) (uRet (uC (.bl false))) uNext)
    (uRet (uOp (eqR false) (uLc (uIS (uVar 0)) (.nm 3) (uB (uOp (gIn true) (uVar 3) (uVar 1))) (uVar 3) [3]) (uLst uNil))))

def u_law_truths : DS :=
  (uSeq (uSet 1 (uC (.str "abcdefghijklmnopqrstuvwxyz")))
    (uRet (uLst (uCons (uCall0 c_law_are_signs (uCons (uVar 0) (uCons (uVar 1) (uCons (uC (.int 8)) uNil)))) (uCons (uAndV (uCall0 c_law_are_signs (uCons (uVar 0) (uCons (uC (.str "x-")) (uCons (uC (.int 6)) uNil)))) (uOp (gIn false) (uC (.str "x")) (uVar 0))) uNil)))))

def u_law_is_number : DS :=
  (uRet (uAndV (uCB gIsi (uCons (uVar 0) (uCons (uC (.ty "int")) uNil))) (uAndV (uNotV (uCB gIsi (uCons (uVar 0) (uCons (uC (.ty "bool")) uNil)))) (uOp (eqR false) (uVar 0) (uVar 1)))))

def u_law_counts : DS :=
  (uSeq (uSet 2 (uLc (uIR2 (uCons (uC (.int 1)) (uCons (uC (.int 41)) uNil))) (.nm 3) (uB (uOp (eqR false) (uOp gIx (uVar 0) (uOp gMod (uOp TL.gSub (uVar 3) (uC (.int 1))) (uCB gLen (uCons (uVar 0) uNil)))) (uC (.str "x")))) (uVar 3) [3]))
    (uSeq (uFor (uIR2 (uCons (uC (.int 1)) (uCons (uC (.int 41)) uNil))) (.nm 3) (uSeq (uIf (uB (uOp (eqR true) (uCB gRepr (uCons (uCall0 c_takes (uCons (uVar 0) (uCons (uVar 3) uNil))) uNil)) (uCB gRepr (uCons (uOp (gIn false) (uVar 3) (uVar 2)) uNil)))) (uRet (uC (.bl false))) uNext)
    (uIf (uNot (uB (uCall0 c_law_is_number (uCons (uCall0 c_times_of (uCons (uVar 0) (uCons (uVar 3) uNil))) (uCons (uCB gLen (uCons (uLc (uIL (uVar 2)) (.nm 8) (uB (uOp gLe (uVar 8) (uVar 3))) (uVar 8) [8]) uNil)) uNil))))) (uRet (uC (.bl false))) uNext)))
    (uSeq (uFor (uIR1 (uCons (uCB gLen (uCons (uVar 2) uNil)) uNil)) (.nm 4) (uIf (uNot (uB (uCall0 c_law_is_number (uCons (uCall0 c_beat_of (uCons (uVar 0) (uCons (uVar 4) uNil))) (uCons (uOp gIx (uVar 2) (uVar 4)) uNil))))) (uRet (uC (.bl false))) uNext))
    (uSeq (uPar2 6 7 (uM1 gCount (uVar 0) (uC (.str "x"))) (uCB gLen (uCons (uVar 0) uNil)))
    (uSeq (uSet 5 (uOp gAdd (uOp gMul (uOp gFdiv (uVar 1) (uVar 7)) (uVar 6)) (uM1 gCount (uSl (uVar 0) uNone (uSome (uOp gMod (uVar 1) (uVar 7)))) (uC (.str "x")))))
    (uSeq (uIf (uNot (uB (uCall0 c_law_is_number (uCons (uCall0 c_times_of (uCons (uVar 0) (uCons (uVar 1) uNil))) (uCons (uVar 5) uNil))))) (uRet (uC (.bl false))) uNext)
    (uSeq (uIf (uB (uOp (eqR true) (uCB gRepr (uCons (uCall0 c_takes (uCons (uVar 0) (uCons (uOp gAdd (uVar 1) (uC (.int 1))) uNil))) uNil)) (uCB gRepr (uCons (uOp (eqR false) (uOp gIx (uVar 0) (uOp gMod (uVar 1) (uVar 7))) (uC (.str "x"))) uNil)))) (uRet (uC (.bl false))) uNext)
    (uSeq (uSet 3 (uCall0 c_beat_of (uCons (uVar 0) (uCons (uVar 5) uNil))))
    (uRet (uAndV (uOp gGt (uVar 3) (uVar 1)) (uAndV (uOp (gIsB false) (uCall0 c_takes (uCons (uVar 0) (uCons (uVar 3) uNil))) (uC (.bl true))) (uOp (eqR false) (uCall0 c_times_of (uCons (uVar 0) (uCons (uVar 3) uNil))) (uOp gAdd (uVar 5) (uC (.int 1)))))))))))))))

def u_law : DS :=
  (uSeq (uSetO 1 (uCall0 c_law_pen (uCons (uVar 0) uNil)))
    (uSeq (uFor (uIR1 (uCons (uC (.int 6)) uNil)) (.nm 2) (uSeq (uPar2 7 8 (uOp gIx (uCall1 c_law_names 1 (uCons (uC (.int 1)) uNil)) (uC (.int 0))) (uCall1 c_law_rhythm 1 uNil))
    (uSeq (uSet 3 (uLst (uCons (uCall1 c_law_bent 1 (uCons (uVar 7) uNil)) (uCons (uCall1 c_law_bent 1 (uCons (uVar 8) uNil)) uNil))))
    (uSeq (uSet 4 (uLst (uCons (uVar 7) (uCons (uVar 8) (uCons (uOp gMul (uVar 8) (uC (.int 2))) (uCons (uOp gMul (uC (.str "x")) (uC (.int 6))) (uCons (uOp gMul (uC (.str "x")) (uC (.int 7))) (uCons (uOp gMul (uC (.str "-")) (uC (.int 6))) (uCons (uOp gMul (uVar 7) (uC (.int 400))) (uCons (uOp gMul (uC (.str "x-")) (uC (.int 2000))) (uCons (uCall1 c_law_odd 1 uNil) (uCons (uLst (uCons (uVar 7) uNil)) uNil))))))))))))
    (uSeq (uFor (uIL (uOp gAdd (uOp gAdd (uVar 4) (uVar 3)) (uLc (uIL (uVar 3)) (.nm 10) uYes (uCall1 c_law_bent 1 (uCons (uVar 10) uNil)) [10]))) (.nm 5) (uSeq (uSet 9 (uCB gRepr (uCons (uVar 5) uNil)))
    (uIf (uOr (uB (uOp (eqR true) (uCB gRepr (uCons (uLst (uCons (uCall0 c_is_name (uCons (uVar 5) uNil)) (uCons (uCall0 c_is_rhythm (uCons (uVar 5) uNil)) uNil))) uNil)) (uCB gRepr (uCons (uCall0 c_law_truths (uCons (uVar 5) uNil)) uNil)))) (uB (uOp (eqR true) (uCB gRepr (uCons (uVar 5) uNil)) (uVar 9)))) (uRet (uC (.bl false))) uNext)))
    (uSeq (uSet 6 (uCall1 c_law_pick 1 (uCons (uLst (uCons (uCall1 c_law_draw 1 (uCons (uOp TL.gSub (uOp gPow (uC (.int 10)) (uC (.int 60))) (uC (.int 7))) uNil)) (uCons (uC (.int 41)) (uCons (uOp TL.gSub (uOp gPow (uC (.int 10)) (uC (.int 60))) (uC (.int 8))) uNil)))) uNil)))
    (uIf (uOr (uB (uOp (eqR true) (uCall0 c_times_of (uCons (uVar 8) (uCons (uC (.int 0)) uNil))) (uC (.int 0)))) (uNot (uB (uCall0 c_law_counts (uCons (uVar 8) (uCons (uVar 6) uNil)))))) (uRet (uC (.bl false))) uNext)))))))
    (uRet (uC (.bl true)))))

end K01

namespace K01
open PySem L2 TL PySem.Spec PyProof.Rows
def top (i : Nat) : Stmt := PySem.Challenge.pw_holdgates_k01_names_and_rhythms.main.body.getD i (.Pass ⟨0, 0, 0, 0⟩)
abbrev s_is_text_of : Stmt := top 4
abbrev n_is_text_of : List Str := ["thing", "signs", "most", "sign"]
theorem sc_is_text_of : FnScope n_is_text_of ["thing", "signs", "most"] (defScope s_is_text_of) := ⟨rfl, rfl, rfl, by decide +kernel, rfl, by decide +kernel, by decide +kernel⟩

theorem d_is_text_of {P : Program} {w : World} {K : PySem.W.Frag} {mg : Str → Option Value} {base : Heap} {f : Addr} {cdv : Value} {A : Around} {outer : List Env} {s : Shared} {H : Hp} {E : XK}
    (m_str : mg "str" = none) (m_isinstance : mg "isinstance" = none) (m_len : mg "len" = none) (m_all : mg "all" = none)
    (hr : Room 0 (A.deeper (envOfC "is_text_of" (defScope s_is_text_of) s.heap.objs.size f cdv))) (hg : A.guards = some []) : QSs (cxOf CX0 P w K mg base n_is_text_of "is_text_of" (defScope s_is_text_of) f cdv A outer s H E).nox (defBody s_is_text_of) u_is_text_of :=
    (ss_one (s_ret (q_and (q_isi rfl m_isinstance (a_cons (q_var (pv 0)) (a_cons (q_ty (n := "str") rfl m_str (by decide +kernel)) a_nil))) (q_and (q_chain o_lt o_le q_int (q_len rfl m_len (a_cons (q_var (pv 0)) a_nil)) (q_var (pv 2))) (q_one (q_all rfl rfl m_all (a_cons (q_f (f_lc rfl sc_is_text_of.nd (t := (.nm 3)) (own := [("sign", 3)]) (i_str (q_var (pv 0))) (blkOk_by (own := [("sign", 3)]) (N := n_is_text_of) (sc := defScope s_is_text_of) (by decide +kernel)) (fun _ _ _ _ _ => (g_nm (i := 3) sc_is_text_of.nd rfl (by first | exact Or.inl rfl | exact Or.inr rfl))) (fun _ _ _ _ _ => ts_nil) (fun _ _ _ _ _ => (q_cmp o_in (q_var (pv 3)) (q_var (pv 1)))))) a_nil)))))))

abbrev s_is_name : Stmt := top 5
abbrev n_is_name : List Str := ["thing"]
theorem sc_is_name : FnScope n_is_name ["thing"] (defScope s_is_name) := ⟨rfl, rfl, rfl, by decide +kernel, rfl, by decide +kernel, by decide +kernel⟩

theorem d_is_name {P : Program} {w : World} {K : PySem.W.Frag} {mg : Str → Option Value} {base : Heap} {f : Addr} {cdv : Value} {A : Around} {outer : List Env} {s : Shared} {H : Hp} {E : XK}
    (F_is_text_of : Fn0 P w K mg base 1 "is_text_of" false c_is_text_of) (g_LETTERS : ∃ t, mg "LETTERS" = some (.str "abcdefghijklmnopqrstuvwxyz" t)) (g_MOST_LETTERS : ∃ t, mg "MOST_LETTERS" = some (.int 8 t))
    (hr : Room 1 (A.deeper (envOfC "is_name" (defScope s_is_name) s.heap.objs.size f cdv))) (hg : A.guards = some []) : QSs (cxOf CX0 P w K mg base n_is_name "is_name" (defScope s_is_name) f cdv A outer s H E).nox (defBody s_is_name) u_is_name :=
    (ss_one (s_ret (q_fn F_is_text_of (hr.mono (show 1 ≤ 1 by decide)) hg rfl (a_cons (q_var (pv 0)) (a_cons (q_globS (x := "LETTERS") rfl g_LETTERS.choose_spec) (a_cons (q_globI (x := "MOST_LETTERS") rfl g_MOST_LETTERS.choose_spec) a_nil))))))

abbrev s_is_rhythm : Stmt := top 6
abbrev n_is_rhythm : List Str := ["thing"]
theorem sc_is_rhythm : FnScope n_is_rhythm ["thing"] (defScope s_is_rhythm) := ⟨rfl, rfl, rfl, by decide +kernel, rfl, by decide +kernel, by decide +kernel⟩

theorem d_is_rhythm {P : Program} {w : World} {K : PySem.W.Frag} {mg : Str → Option Value} {base : Heap} {f : Addr} {cdv : Value} {A : Around} {outer : List Env} {s : Shared} {H : Hp} {E : XK}
    (F_is_text_of : Fn0 P w K mg base 1 "is_text_of" false c_is_text_of) (g_MOST_SIGNS : ∃ t, mg "MOST_SIGNS" = some (.int 6 t))
    (hr : Room 1 (A.deeper (envOfC "is_rhythm" (defScope s_is_rhythm) s.heap.objs.size f cdv))) (hg : A.guards = some []) : QSs (cxOf CX0 P w K mg base n_is_rhythm "is_rhythm" (defScope s_is_rhythm) f cdv A outer s H E).nox (defBody s_is_rhythm) u_is_rhythm :=
    (ss_one (s_ret (q_and (q_fn F_is_text_of (hr.mono (show 1 ≤ 1 by decide)) hg rfl (a_cons (q_var (pv 0)) (a_cons q_str (a_cons (q_globI (x := "MOST_SIGNS") rfl g_MOST_SIGNS.choose_spec) a_nil)))) (q_one (q_cmp o_in q_str (q_var (pv 0)))))))

abbrev s_takes : Stmt := top 7
abbrev n_takes : List Str := ["rhythm", "beat"]
theorem sc_takes : FnScope n_takes ["rhythm", "beat"] (defScope s_takes) := ⟨rfl, rfl, rfl, by decide +kernel, rfl, by decide +kernel, by decide +kernel⟩

theorem d_takes {P : Program} {w : World} {K : PySem.W.Frag} {mg : Str → Option Value} {base : Heap} {f : Addr} {cdv : Value} {A : Around} {outer : List Env} {s : Shared} {H : Hp} {E : XK}
    (m_len : mg "len" = none)
    (hr : Room 0 (A.deeper (envOfC "takes" (defScope s_takes) s.heap.objs.size f cdv))) (hg : A.guards = some []) : QSs (cxOf CX0 P w K mg base n_takes "takes" (defScope s_takes) f cdv A outer s H E).nox (defBody s_takes) u_takes :=
    (ss_one (s_ret (q_and (q_cmp o_gt (q_var (pv 1)) q_int) (q_one (q_cmp (o_eq hr.units) (q_ix (q_var (pv 0)) (q_op o_mod (q_op o_sub (q_var (pv 1)) q_int) (q_len rfl m_len (a_cons (q_var (pv 0)) a_nil))) (fun _ _ => rfl)) q_str)))))

abbrev s_times_of : Stmt := top 8
abbrev n_times_of : List Str := ["rhythm", "beat", "rounds", "rest"]
theorem sc_times_of : FnScope n_times_of ["rhythm", "beat"] (defScope s_times_of) := ⟨rfl, rfl, rfl, by decide +kernel, rfl, by decide +kernel, by decide +kernel⟩

theorem d_times_of {P : Program} {w : World} {K : PySem.W.Frag} {mg : Str → Option Value} {base : Heap} {f : Addr} {cdv : Value} {A : Around} {outer : List Env} {s : Shared} {H : Hp} {E : XK}
    (m_len : mg "len" = none) (m_divmod : mg "divmod" = none)
    (hr : Room 0 (A.deeper (envOfC "times_of" (defScope s_times_of) s.heap.objs.size f cdv))) (hg : A.guards = some []) : QSs (cxOf CX0 P w K mg base n_times_of "times_of" (defScope s_times_of) f cdv A outer s H E).nox (defBody s_times_of) u_times_of :=
    (ss_cons (s_asg (t := (.tp [(.nm 2), (.nm 3)])) (q_divmod rfl m_divmod (a_cons (q_var (pv 1)) (a_cons (q_len rfl m_len (a_cons (q_var (pv 0)) a_nil)) a_nil))) (g_tp rfl (gs_cons (g_nm (i := 2) sc_times_of.nd rfl (by first | exact Or.inl rfl | exact Or.inr rfl)) (gs_cons (g_nm (i := 3) sc_times_of.nd rfl (by first | exact Or.inl rfl | exact Or.inr rfl)) gs_nil))))
      (ss_one (s_ret (q_op o_add (q_op o_mul (q_var (pv 2)) (q_count (q_var (pv 0)) q_str)) (q_count (q_sl (q_var (pv 0)) p_none (p_some (q_var (pv 3)))) q_str)))))

abbrev s_beat_of : Stmt := top 9
abbrev n_beat_of : List Str := ["rhythm", "number", "spots", "rounds", "rest", "spot", "sign"]
theorem sc_beat_of : FnScope n_beat_of ["rhythm", "number"] (defScope s_beat_of) := ⟨rfl, rfl, rfl, by decide +kernel, rfl, by decide +kernel, by decide +kernel⟩

theorem d_beat_of {P : Program} {w : World} {K : PySem.W.Frag} {mg : Str → Option Value} {base : Heap} {f : Addr} {cdv : Value} {A : Around} {outer : List Env} {s : Shared} {H : Hp} {E : XK}
    (m_enumerate : mg "enumerate" = none) (m_len : mg "len" = none) (m_divmod : mg "divmod" = none)
    (hr : Room 0 (A.deeper (envOfC "beat_of" (defScope s_beat_of) s.heap.objs.size f cdv))) (hg : A.guards = some []) : QSs (cxOf CX0 P w K mg base n_beat_of "beat_of" (defScope s_beat_of) f cdv A outer s H E).nox (defBody s_beat_of) u_beat_of :=
    (ss_cons (s_setLcD (i := 2) rfl sc_beat_of.nd rfl rfl (sw_true rfl rfl rfl (by decide +kernel)) (t := (.tp [(.nm 5), (.nm 6)])) (own := [("spot", 5), ("sign", 6)]) (i_enumS rfl m_enumerate (a_cons (q_var (pv 0)) (a_cons q_int a_nil))) (blkOk_by (own := [("spot", 5), ("sign", 6)]) (N := n_beat_of) (sc := defScope s_beat_of) (by decide +kernel)) (fun _ _ _ _ _ => (g_tp rfl (gs_cons (g_nm (i := 5) sc_beat_of.nd rfl (by first | exact Or.inl rfl | exact Or.inr rfl)) (gs_cons (g_nm (i := 6) sc_beat_of.nd rfl (by first | exact Or.inl rfl | exact Or.inr rfl)) gs_nil)))) (fun _ _ _ _ _ => (ts_one (t_cmp (o_eq hr.units) (q_var (pv 6)) q_str))) (fun _ _ _ _ _ => (q_var (pv 5))))
      (ss_cons (s_asg (t := (.tp [(.nm 3), (.nm 4)])) (q_divmod rfl m_divmod (a_cons (q_var (pv 1)) (a_cons (q_len rfl m_len (a_cons (q_var (pv 2)) a_nil)) a_nil))) (g_tp rfl (gs_cons (g_nm (i := 3) sc_beat_of.nd rfl (by first | exact Or.inl rfl | exact Or.inr rfl)) (gs_cons (g_nm (i := 4) sc_beat_of.nd rfl (by first | exact Or.inl rfl | exact Or.inr rfl)) gs_nil))))
      (ss_one (s_ret (q_op o_add (q_op o_mul (q_var (pv 3)) (q_len rfl m_len (a_cons (q_var (pv 0)) a_nil))) (q_ix (q_var (pv 2)) (q_var (pv 4)) (fun _ _ => rfl)))))))

abbrev s_law_pen : Stmt := top 11
abbrev n_law_pen : List Str := ["_law_script"]
theorem sc_law_pen : FnScope n_law_pen ["_law_script"] (defScope s_law_pen) := ⟨rfl, rfl, rfl, by decide +kernel, rfl, by decide +kernel, by decide +kernel⟩

theorem d_law_pen {P : Program} {w : World} {K : PySem.W.Frag} {mg : Str → Option Value} {base : Heap} {f : Addr} {cdv : Value} {A : Around} {outer : List Env} {s : Shared} {H : Hp} {E : XK}
    (m_list : mg "list" = none)
    (hr : Room 0 (A.deeper (envOfC "_law_pen" (defScope s_law_pen) s.heap.objs.size f cdv))) (hg : A.guards = some []) : QSs (cxOf CX0 P w K mg base n_law_pen "_law_pen" (defScope s_law_pen) f cdv A outer s H E).nox (defBody s_law_pen) u_law_pen :=
    (ss_one (s_retF (f_dict (ps := [((uC (.str "cells")), (uCB gList (uCons (uSl (uVar 0) uNone (uSome (uC (.int 63)))) uNil))), ((uC (.str "at")), (uC (.int 0))), ((uC (.str "left")), (uC (.int 0)))]) (ps_cons q_str (q_list rfl m_list (a_cons (q_sl (q_var (pv 0)) p_none (p_some q_int)) a_nil)) (ps_cons q_str q_int (ps_cons q_str q_int ps_nil))))))

abbrev s_law_draw : Stmt := top 12
abbrev n_law_draw : List Str := ["_law_pen_here", "_law_many", "_law_at", "_law_cell", "_law_blend", "_law_digit"]
theorem sc_law_draw : FnScope n_law_draw ["_law_pen_here", "_law_many"] (defScope s_law_draw) := ⟨rfl, rfl, rfl, by decide +kernel, rfl, by decide +kernel, by decide +kernel⟩

theorem d_law_draw {P : Program} {w : World} {K : PySem.W.Frag} {mg : Str → Option Value} {base : Heap} {f : Addr} {cdv : Value} {A : Around} {outer : List Env} {s : Shared} {H : Hp} {E : XK}
    (m_len : mg "len" = none) (m_abs : mg "abs" = none)
    (hr : Room 0 (A.deeper (envOfC "_law_draw" (defScope s_law_draw) s.heap.objs.size f cdv))) (hg : A.guards = some []) : QSs (cxOf CX0 P w K mg base n_law_draw "_law_draw" (defScope s_law_draw) f cdv A outer s H E).nox (defBody s_law_draw) u_law_draw :=
    (ss_cons (s_if (t_cmp o_gt (q_dgetO (hu_of hr) (pv 0) q_str (fun _ _ => rfl)) q_int) (ss_cons (s_set (i := 5) sc_law_draw.nd rfl (by first | exact Or.inl rfl | exact Or.inr rfl) (q_op o_mod (q_dgetO (hu_of hr) (pv 0) q_str (fun _ _ => rfl)) (q_var (pv 1))))
      (ss_cons (s_dputO (hu_of hr) (pv 0) q_str (q_op o_fdiv (q_dgetO (hu_of hr) (pv 0) q_str (fun _ _ => rfl)) (q_var (pv 1))))
      (ss_one (s_ret (q_var (pv 5)))))) ss_nil)
      (ss_cons (s_set (i := 2) sc_law_draw.nd rfl (by first | exact Or.inl rfl | exact Or.inr rfl) (q_dgetO (hu_of hr) (pv 0) q_str (fun _ _ => rfl)))
      (ss_cons (s_dputO (hu_of hr) (pv 0) q_str (q_op o_add (q_var (pv 2)) q_int))
      (ss_cons (s_set (i := 3) sc_law_draw.nd rfl (by first | exact Or.inl rfl | exact Or.inr rfl) (q_op o_add (q_op o_mul q_int (q_var (pv 2))) q_int))
      (ss_cons (s_if (t_cmp (o_ne hr.units) (q_dgetO (hu_of hr) (pv 0) q_str (fun _ _ => rfl)) (q_lst a_nil)) (ss_one (s_set (i := 3) sc_law_draw.nd rfl (by first | exact Or.inl rfl | exact Or.inr rfl) (q_ix (q_dgetO (hu_of hr) (pv 0) q_str (fun _ _ => rfl)) (q_op o_mod (q_var (pv 2)) (q_len rfl m_len (a_cons (q_dgetO (hu_of hr) (pv 0) q_str (fun _ _ => rfl)) a_nil))) (fun _ _ => rfl)))) ss_nil)
      (ss_cons (s_if (w_t (w_and (t_cmp o_lt (q_var (pv 2)) (q_len rfl m_len (a_cons (q_dgetO (hu_of hr) (pv 0) q_str (fun _ _ => rfl)) a_nil))) (w_and1 (t_cmp o_ge (q_abs rfl m_abs (a_cons (q_var (pv 3)) a_nil)) (q_op o_pow q_int q_int))))) (ss_cons (s_dputO (hu_of hr) (pv 0) q_str (q_op o_fdiv (q_op o_sub (q_abs rfl m_abs (a_cons (q_var (pv 3)) a_nil)) (q_op o_pow q_int q_int)) (q_var (pv 1))))
      (ss_one (s_ret (q_op o_mod (q_op o_sub (q_abs rfl m_abs (a_cons (q_var (pv 3)) a_nil)) (q_op o_pow q_int q_int)) (q_var (pv 1)))))) ss_nil)
      (ss_cons (s_set (i := 4) sc_law_draw.nd rfl (by first | exact Or.inl rfl | exact Or.inr rfl) (q_op o_mod (q_op o_add (q_op o_add (q_op o_add (q_op o_mul (q_op o_mod (q_var (pv 3)) q_int) q_int) (q_op o_mul (q_op o_mul q_int (q_var (pv 2))) (q_var (pv 2)))) (q_op o_mul q_int (q_var (pv 2)))) q_int) q_int))
      (ss_cons (s_set (i := 4) sc_law_draw.nd rfl (by first | exact Or.inl rfl | exact Or.inr rfl) (q_op o_mod (q_op o_add (q_op o_add (q_op o_add (q_op o_mul (q_var (pv 4)) (q_var (pv 4))) (q_op o_mul q_int (q_var (pv 4)))) (q_op o_mul q_int (q_var (pv 2)))) q_int) q_int))
      (ss_one (s_ret (q_op o_mod (q_op o_fdiv (q_op o_mod (q_op o_mul (q_var (pv 4)) (q_op o_add (q_var (pv 4)) q_int)) q_int) q_int) (q_var (pv 1)))))))))))))

abbrev s_law_pick : Stmt := top 13
abbrev n_law_pick : List Str := ["_law_pen_here", "_law_some"]
theorem sc_law_pick : FnScope n_law_pick ["_law_pen_here", "_law_some"] (defScope s_law_pick) := ⟨rfl, rfl, rfl, by decide +kernel, rfl, by decide +kernel, by decide +kernel⟩

theorem d_law_pick {P : Program} {w : World} {K : PySem.W.Frag} {mg : Str → Option Value} {base : Heap} {f : Addr} {cdv : Value} {A : Around} {outer : List Env} {s : Shared} {H : Hp} {E : XK}
    (F_law_draw : Fn1 P w K mg base 1 "_law_draw" false c_law_draw) (m_len : mg "len" = none)
    (hr : Room 1 (A.deeper (envOfC "_law_pick" (defScope s_law_pick) s.heap.objs.size f cdv))) (hg : A.guards = some []) : QSs (cxOf CX0 P w K mg base n_law_pick "_law_pick" (defScope s_law_pick) f cdv A outer s H E).nox (defBody s_law_pick) u_law_pick :=
    (ss_one (s_ret (q_ix (q_var (pv 1)) (q_fn1 F_law_draw (hr.mono (show 1 ≤ 1 by decide)) hg rfl (pv 0) (a_cons (q_len rfl m_len (a_cons (q_var (pv 1)) a_nil)) a_nil)) (fun _ _ => rfl))))

abbrev s_law_names : Stmt := top 14
abbrev n_law_names : List Str := ["_law_pen_here", "_law_many", "_law_letters", "_law_word", "_law_k", "_law_at", "_law_first", "_law_short", "_law_by", "_law_found", "_law_tail"]
theorem sc_law_names : FnScope n_law_names ["_law_pen_here", "_law_many"] (defScope s_law_names) := ⟨rfl, rfl, rfl, by decide +kernel, rfl, by decide +kernel, by decide +kernel⟩

theorem d_law_names {P : Program} {w : World} {K : PySem.W.Frag} {mg : Str → Option Value} {base : Heap} {f : Addr} {cdv : Value} {A : Around} {outer : List Env} {s : Shared} {H : Hp} {E : XK}
    (F_law_draw : Fn1 P w K mg base 1 "_law_draw" false c_law_draw) (m_range : mg "range" = none) (F_law_pick : Fn1 P w K mg base 2 "_law_pick" false c_law_pick) (m_len : mg "len" = none)
    (hr : Room 2 (A.deeper (envOfC "_law_names" (defScope s_law_names) s.heap.objs.size f cdv))) (hg : A.guards = some []) : QSs (cxOf CX0 P w K mg base n_law_names "_law_names" (defScope s_law_names) f cdv A outer s H E).nox (defBody s_law_names) u_law_names :=
    (ss_cons (s_set (i := 2) sc_law_names.nd rfl (by first | exact Or.inl rfl | exact Or.inr rfl) q_str)
      (ss_cons (s_set (i := 3) sc_law_names.nd rfl (by first | exact Or.inl rfl | exact Or.inr rfl) (q_join q_str (q_f (f_lc rfl sc_law_names.nd (t := (.nm 4)) (own := [("_law_k", 4)]) (i_range1 rfl m_range (a_cons (q_op o_add q_int (q_fn1 F_law_draw (hr.mono (show 1 ≤ 2 by decide)) hg rfl (pv 0) (a_cons q_int a_nil))) a_nil)) (blkOk_by (own := [("_law_k", 4)]) (N := n_law_names) (sc := defScope s_law_names) (by decide +kernel)) (fun _ _ _ _ _ => (g_nm (i := 4) sc_law_names.nd rfl (by first | exact Or.inl rfl | exact Or.inr rfl))) (fun _ _ _ _ _ => ts_nil) (fun _ _ _ _ _ => (q_fn1 F_law_pick (hr.mono (show 2 ≤ 2 by decide)) hg rfl (pv 0) (a_cons (q_var (pv 2)) a_nil)))))))
      (ss_cons (s_par3 (i := 5) (j := 6) (l := 7) rfl sc_law_names.nd rfl rfl rfl (by decide) (by decide) (by decide) rfl rfl rfl (q_fn1 F_law_draw (hr.mono (show 1 ≤ 2 by decide)) hg rfl (pv 0) (a_cons (q_len rfl m_len (a_cons (q_var (pv 3)) a_nil)) a_nil)) (q_fn1 F_law_draw (hr.mono (show 1 ≤ 2 by decide)) hg rfl (pv 0) (a_cons q_int a_nil)) (q_fn1 F_law_draw (hr.mono (show 1 ≤ 2 by decide)) hg rfl (pv 0) (a_cons q_int a_nil)))
      (ss_cons (s_par2F (i := 8) (j := 9) rfl sc_law_names.nd rfl rfl (by decide) rfl rfl (q_fn1 F_law_pick (hr.mono (show 2 ≤ 2 by decide)) hg rfl (pv 0) (a_cons (q_lst (a_cons q_int (a_cons q_int (a_cons q_int (a_cons q_int (a_cons q_int (a_cons q_int (a_cons q_int (a_cons q_int (a_cons q_int (a_cons q_int (a_cons q_int (a_cons q_int a_nil))))))))))))) a_nil)) (f_lst a_nil))
      (ss_cons (s_for (t := (.nm 4)) PassesOwn.never rfl (i_range1 rfl m_range (a_cons (q_var (pv 1)) a_nil)) (g_nm (i := 4) sc_law_names.nd rfl (by first | exact Or.inl rfl | exact Or.inr rfl)) (ss_cons (s_set (i := 10) sc_law_names.nd rfl (by first | exact Or.inl rfl | exact Or.inr rfl) (q_sl (q_sl (q_var (pv 3)) (p_some (q_op o_add (q_var (pv 5)) q_int)) p_none) p_none (p_some (q_ix (q_lst (a_cons q_int (a_cons (q_op o_mod (q_var (pv 4)) q_int) a_nil))) (q_var (pv 7)) (fun _ _ => rfl)))))
      (ss_one (s_append (pv 9) (q_op o_add (q_op o_add (q_sl (q_var (pv 3)) p_none (p_some (q_var (pv 5)))) (q_ix (q_var (pv 2)) (q_op o_mod (q_op o_add (q_var (pv 6)) (q_op o_mul (q_var (pv 8)) (q_var (pv 4)))) q_int) (fun _ _ => rfl))) (q_var (pv 10)))))))
      (ss_one (s_ret (q_frz (pv 9)))))))))

abbrev s_law_rhythm : Stmt := top 15
abbrev n_law_rhythm : List Str := ["_law_pen_here", "_law_signs", "_law_k"]
theorem sc_law_rhythm : FnScope n_law_rhythm ["_law_pen_here"] (defScope s_law_rhythm) := ⟨rfl, rfl, rfl, by decide +kernel, rfl, by decide +kernel, by decide +kernel⟩

theorem d_law_rhythm {P : Program} {w : World} {K : PySem.W.Frag} {mg : Str → Option Value} {base : Heap} {f : Addr} {cdv : Value} {A : Around} {outer : List Env} {s : Shared} {H : Hp} {E : XK}
    (F_law_draw : Fn1 P w K mg base 1 "_law_draw" false c_law_draw) (m_range : mg "range" = none) (F_law_pick : Fn1 P w K mg base 2 "_law_pick" false c_law_pick) (m_len : mg "len" = none)
    (hr : Room 2 (A.deeper (envOfC "_law_rhythm" (defScope s_law_rhythm) s.heap.objs.size f cdv))) (hg : A.guards = some []) : QSs (cxOf CX0 P w K mg base n_law_rhythm "_law_rhythm" (defScope s_law_rhythm) f cdv A outer s H E).nox (defBody s_law_rhythm) u_law_rhythm :=
    (ss_cons (s_setLc (i := 1) rfl sc_law_rhythm.nd rfl rfl (sw_true rfl rfl rfl (by decide +kernel)) (t := (.nm 2)) (own := [("_law_k", 2)]) (i_range1 rfl m_range (a_cons (q_op o_add q_int (q_fn1 F_law_draw (hr.mono (show 1 ≤ 2 by decide)) hg rfl (pv 0) (a_cons q_int a_nil))) a_nil)) (blkOk_by (own := [("_law_k", 2)]) (N := n_law_rhythm) (sc := defScope s_law_rhythm) (by decide +kernel)) (fun _ _ _ _ _ => (g_nm (i := 2) sc_law_rhythm.nd rfl (by first | exact Or.inl rfl | exact Or.inr rfl))) (fun _ _ _ _ _ => ts_nil) (fun _ _ _ _ _ => (q_fn1 F_law_pick (hr.mono (show 2 ≤ 2 by decide)) hg rfl (pv 0) (a_cons (q_lst (a_cons q_str (a_cons q_str (a_cons q_str a_nil)))) a_nil))))
      (ss_cons (s_setIt (pv 1) (q_fn1 F_law_draw (hr.mono (show 1 ≤ 2 by decide)) hg rfl (pv 0) (a_cons (q_thaw (q_len rfl m_len (a_cons (q_var (pv 1)) a_nil))) a_nil)) q_str)
      (ss_one (s_ret (q_thaw (q_join q_str (q_var (pv 1))))))))

abbrev s_law_odd : Stmt := top 16
abbrev n_law_odd : List Str := ["_law_pen_here", "_law_some"]
theorem sc_law_odd : FnScope n_law_odd ["_law_pen_here"] (defScope s_law_odd) := ⟨rfl, rfl, rfl, by decide +kernel, rfl, by decide +kernel, by decide +kernel⟩

theorem d_law_odd {P : Program} {w : World} {K : PySem.W.Frag} {mg : Str → Option Value} {base : Heap} {f : Addr} {cdv : Value} {A : Around} {outer : List Env} {s : Shared} {H : Hp} {E : XK}
    (F_law_pick : Fn1 P w K mg base 2 "_law_pick" false c_law_pick)
    (hr : Room 2 (A.deeper (envOfC "_law_odd" (defScope s_law_odd) s.heap.objs.size f cdv))) (hg : A.guards = some []) : QSs (cxOf CX0 P w K mg base n_law_odd "_law_odd" (defScope s_law_odd) f cdv A outer s H E).nox (defBody s_law_odd) u_law_odd :=
    (ss_cons (s_set (i := 1) sc_law_odd.nd rfl (by first | exact Or.inl rfl | exact Or.inr rfl) (q_lst (a_cons q_non (a_cons q_bl (a_cons q_bl (a_cons q_int (a_cons q_int (a_cons (q_neg q_int) (a_cons q_int (a_cons q_int (a_cons (q_op o_pow q_int q_int) (a_cons (q_op o_add (q_op o_pow q_int q_int) q_int) (a_cons q_str (a_cons q_str (a_cons q_str (a_cons q_str (a_cons q_str (a_cons q_str (a_cons q_str a_nil)))))))))))))))))))
      (ss_cons (s_set (i := 1) sc_law_odd.nd rfl (by first | exact Or.inl rfl | exact Or.inr rfl) (q_op o_add (q_var (pv 1)) (q_lst (a_cons q_str (a_cons (q_tup a_nil) (a_cons (q_lst a_nil) (a_cons (q_f f_dict0) (a_cons (q_tup (a_cons q_str a_nil)) (a_cons (q_tup (a_cons q_str (a_cons q_str a_nil))) (a_cons (q_lst (a_cons q_str (a_cons q_str a_nil))) (a_cons (q_tup (a_cons q_str (a_cons q_str (a_cons q_str (a_cons q_int a_nil))))) (a_cons (q_f (f_dict (ps := [((uC (.str "a")), (uC (.str "b")))]) (ps_cons q_str q_str ps_nil))) (a_cons (q_tup (a_cons q_non a_nil)) (a_cons (q_tup (a_cons (q_tup a_nil) a_nil)) a_nil))))))))))))))
      (ss_one (s_ret (q_fn1 F_law_pick (hr.mono (show 2 ≤ 2 by decide)) hg rfl (pv 0) (a_cons (q_var (pv 1)) a_nil))))))

abbrev s_law_bent : Stmt := top 17
abbrev n_law_bent : List Str := ["_law_pen_here", "_law_thing", "_law_way", "_law_signs", "_law_some", "_law_at", "_law_row", "_law_sign"]
theorem sc_law_bent : FnScope n_law_bent ["_law_pen_here", "_law_thing"] (defScope s_law_bent) := ⟨rfl, rfl, rfl, by decide +kernel, rfl, by decide +kernel, by decide +kernel⟩

theorem d_law_bent {P : Program} {w : World} {K : PySem.W.Frag} {mg : Str → Option Value} {base : Heap} {f : Addr} {cdv : Value} {A : Around} {outer : List Env} {s : Shared} {H : Hp} {E : XK}
    (F_law_draw : Fn1 P w K mg base 1 "_law_draw" false c_law_draw) (m_str : mg "str" = none) (m_isinstance : mg "isinstance" = none) (m_len : mg "len" = none) (F_law_pick : Fn1 P w K mg base 2 "_law_pick" false c_law_pick)
    (hr : Room 2 (A.deeper (envOfC "_law_bent" (defScope s_law_bent) s.heap.objs.size f cdv))) (hg : A.guards = some []) : QSs (cxOf CX0 P w K mg base n_law_bent "_law_bent" (defScope s_law_bent) f cdv A outer s H E).nox (defBody s_law_bent) u_law_bent :=
    (ss_cons (s_set (i := 2) sc_law_bent.nd rfl (by first | exact Or.inl rfl | exact Or.inr rfl) (q_fn1 F_law_draw (hr.mono (show 1 ≤ 2 by decide)) hg rfl (pv 0) (a_cons q_int a_nil)))
      (ss_cons (s_if (t_val (q_isi rfl m_isinstance (a_cons (q_var (pv 1)) (a_cons (q_ty (n := "str") rfl m_str (by decide +kernel)) a_nil)))) (ss_cons (s_set (i := 3) sc_law_bent.nd rfl (by first | exact Or.inl rfl | exact Or.inr rfl) q_str)
      (ss_cons (s_set (i := 3) sc_law_bent.nd rfl (by first | exact Or.inl rfl | exact Or.inr rfl) (q_op o_add (q_var (pv 3)) q_str))
      (ss_cons (s_par2 (i := 5) (j := 7) rfl sc_law_bent.nd rfl rfl (by decide) rfl rfl (q_fn1 F_law_draw (hr.mono (show 1 ≤ 2 by decide)) hg rfl (pv 0) (a_cons (q_op o_add (q_len rfl m_len (a_cons (q_var (pv 1)) a_nil)) q_int) a_nil)) (q_fn1 F_law_pick (hr.mono (show 2 ≤ 2 by decide)) hg rfl (pv 0) (a_cons (q_var (pv 3)) a_nil)))
      (ss_cons (s_set (i := 4) sc_law_bent.nd rfl (by first | exact Or.inl rfl | exact Or.inr rfl) (q_lst (a_cons (q_op o_add (q_op o_add (q_sl (q_var (pv 1)) p_none (p_some (q_var (pv 5)))) (q_var (pv 7))) (q_sl (q_var (pv 1)) (p_some (q_var (pv 5))) p_none)) (a_cons (q_op o_add (q_sl (q_var (pv 1)) p_none (p_some (q_var (pv 5)))) (q_sl (q_var (pv 1)) (p_some (q_op o_add (q_var (pv 5)) q_int)) p_none)) (a_cons (q_op o_add (q_op o_add (q_sl (q_var (pv 1)) p_none (p_some (q_var (pv 5)))) (q_var (pv 7))) (q_sl (q_var (pv 1)) (p_some (q_op o_add (q_var (pv 5)) q_int)) p_none)) a_nil)))))
      (ss_one (s_ret (q_ix (q_op o_add (q_var (pv 4)) (q_lst (a_cons (q_op o_add (q_var (pv 1)) (q_sl q_str (p_some (q_fn1 F_law_draw (hr.mono (show 1 ≤ 2 by decide)) hg rfl (pv 0) (a_cons q_int a_nil))) p_none)) a_nil))) (q_op o_mod (q_var (pv 2)) q_int) (fun _ _ => rfl)))))))) ss_nil)
      ss_never))

abbrev s_law_are_signs : Stmt := top 18
abbrev n_law_are_signs : List Str := ["_law_thing", "_law_signs", "_law_most", "_law_sign"]
theorem sc_law_are_signs : FnScope n_law_are_signs ["_law_thing", "_law_signs", "_law_most"] (defScope s_law_are_signs) := ⟨rfl, rfl, rfl, by decide +kernel, rfl, by decide +kernel, by decide +kernel⟩

theorem d_law_are_signs {P : Program} {w : World} {K : PySem.W.Frag} {mg : Str → Option Value} {base : Heap} {f : Addr} {cdv : Value} {A : Around} {outer : List Env} {s : Shared} {H : Hp} {E : XK}
    (m_str : mg "str" = none) (m_isinstance : mg "isinstance" = none) (m_len : mg "len" = none)
    (hr : Room 0 (A.deeper (envOfC "_law_are_signs" (defScope s_law_are_signs) s.heap.objs.size f cdv))) (hg : A.guards = some []) : QSs (cxOf CX0 P w K mg base n_law_are_signs "_law_are_signs" (defScope s_law_are_signs) f cdv A outer s H E).nox (defBody s_law_are_signs) u_law_are_signs :=
    (ss_cons (s_if (w_t (w_or (t_not (t_val (q_isi rfl m_isinstance (a_cons (q_var (pv 0)) (a_cons (q_ty (n := "str") rfl m_str (by decide +kernel)) a_nil))))) (w_or1 (t_not (t_chain o_lt o_le q_int (q_len rfl m_len (a_cons (q_var (pv 0)) a_nil)) (q_var (pv 2))))))) (ss_one (s_ret q_bl)) ss_nil)
      (ss_one (s_ret (q_cmp (o_eq hr.units) (q_f (f_lc rfl sc_law_are_signs.nd (t := (.nm 3)) (own := [("_law_sign", 3)]) (i_str (q_var (pv 0))) (blkOk_by (own := [("_law_sign", 3)]) (N := n_law_are_signs) (sc := defScope s_law_are_signs) (by decide +kernel)) (fun _ _ _ _ _ => (g_nm (i := 3) sc_law_are_signs.nd rfl (by first | exact Or.inl rfl | exact Or.inr rfl))) (fun _ _ _ _ _ => (ts_one (t_cmp o_notin (q_var (pv 3)) (q_var (pv 1))))) (fun _ _ _ _ _ => (q_var (pv 3))))) (q_lst a_nil)))))

abbrev s_law_truths : Stmt := top 19
abbrev n_law_truths : List Str := ["_law_thing", "_law_letters"]
theorem sc_law_truths : FnScope n_law_truths ["_law_thing"] (defScope s_law_truths) := ⟨rfl, rfl, rfl, by decide +kernel, rfl, by decide +kernel, by decide +kernel⟩

theorem d_law_truths {P : Program} {w : World} {K : PySem.W.Frag} {mg : Str → Option Value} {base : Heap} {f : Addr} {cdv : Value} {A : Around} {outer : List Env} {s : Shared} {H : Hp} {E : XK}
    (F_law_are_signs : Fn0 P w K mg base 1 "_law_are_signs" false c_law_are_signs)
    (hr : Room 1 (A.deeper (envOfC "_law_truths" (defScope s_law_truths) s.heap.objs.size f cdv))) (hg : A.guards = some []) : QSs (cxOf CX0 P w K mg base n_law_truths "_law_truths" (defScope s_law_truths) f cdv A outer s H E).nox (defBody s_law_truths) u_law_truths :=
    (ss_cons (s_set (i := 1) sc_law_truths.nd rfl (by first | exact Or.inl rfl | exact Or.inr rfl) q_str)
      (ss_one (s_ret (q_lst (a_cons (q_fn F_law_are_signs (hr.mono (show 1 ≤ 1 by decide)) hg rfl (a_cons (q_var (pv 0)) (a_cons (q_var (pv 1)) (a_cons q_int a_nil)))) (a_cons (q_and (q_fn F_law_are_signs (hr.mono (show 1 ≤ 1 by decide)) hg rfl (a_cons (q_var (pv 0)) (a_cons q_str (a_cons q_int a_nil)))) (q_one (q_cmp o_in q_str (q_var (pv 0))))) a_nil))))))

abbrev s_law_is_number : Stmt := top 20
abbrev n_law_is_number : List Str := ["_law_told", "_law_due"]
theorem sc_law_is_number : FnScope n_law_is_number ["_law_told", "_law_due"] (defScope s_law_is_number) := ⟨rfl, rfl, rfl, by decide +kernel, rfl, by decide +kernel, by decide +kernel⟩

theorem d_law_is_number {P : Program} {w : World} {K : PySem.W.Frag} {mg : Str → Option Value} {base : Heap} {f : Addr} {cdv : Value} {A : Around} {outer : List Env} {s : Shared} {H : Hp} {E : XK}
    (m_int : mg "int" = none) (m_isinstance : mg "isinstance" = none) (m_bool : mg "bool" = none)
    (hr : Room 0 (A.deeper (envOfC "_law_is_number" (defScope s_law_is_number) s.heap.objs.size f cdv))) (hg : A.guards = some []) : QSs (cxOf CX0 P w K mg base n_law_is_number "_law_is_number" (defScope s_law_is_number) f cdv A outer s H E).nox (defBody s_law_is_number) u_law_is_number :=
    (ss_one (s_ret (q_and (q_isi rfl m_isinstance (a_cons (q_var (pv 0)) (a_cons (q_ty (n := "int") rfl m_int (by decide +kernel)) a_nil))) (q_and (q_not (q_isi rfl m_isinstance (a_cons (q_var (pv 0)) (a_cons (q_ty (n := "bool") rfl m_bool (by decide +kernel)) a_nil)))) (q_one (q_cmp (o_eq hr.units) (q_var (pv 0)) (q_var (pv 1))))))))

abbrev s_law_counts : Stmt := top 21
abbrev n_law_counts : List Str := ["_law_rhythm_here", "_law_far", "_law_taken", "_law_beat", "_law_k", "_law_due", "_law_many", "_law_size", "_law_one"]
theorem sc_law_counts : FnScope n_law_counts ["_law_rhythm_here", "_law_far"] (defScope s_law_counts) := ⟨rfl, rfl, rfl, by decide +kernel, rfl, by decide +kernel, by decide +kernel⟩

theorem d_law_counts {P : Program} {w : World} {K : PySem.W.Frag} {mg : Str → Option Value} {base : Heap} {f : Addr} {cdv : Value} {A : Around} {outer : List Env} {s : Shared} {H : Hp} {E : XK}
    (m_range : mg "range" = none) (m_len : mg "len" = none) (F_takes : Fn0 P w K mg base 1 "takes" false c_takes) (m_repr : mg "repr" = none) (F_law_is_number : Fn0 P w K mg base 1 "_law_is_number" false c_law_is_number) (F_times_of : Fn0 P w K mg base 1 "times_of" false c_times_of) (F_beat_of : Fn0 P w K mg base 1 "beat_of" false c_beat_of)
    (hr : Room 1 (A.deeper (envOfC "_law_counts" (defScope s_law_counts) s.heap.objs.size f cdv))) (hg : A.guards = some []) : QSs (cxOf CX0 P w K mg base n_law_counts "_law_counts" (defScope s_law_counts) f cdv A outer s H E).nox (defBody s_law_counts) u_law_counts :=
    (ss_cons (s_setLcD (i := 2) rfl sc_law_counts.nd rfl rfl (sw_true rfl rfl rfl (by decide +kernel)) (t := (.nm 3)) (own := [("_law_beat", 3)]) (i_range2 rfl m_range (a_cons q_int (a_cons q_int a_nil))) (blkOk_by (own := [("_law_beat", 3)]) (N := n_law_counts) (sc := defScope s_law_counts) (by decide +kernel)) (fun _ _ _ _ _ => (g_nm (i := 3) sc_law_counts.nd rfl (by first | exact Or.inl rfl | exact Or.inr rfl))) (fun _ _ _ _ _ => (ts_one (t_cmp (o_eq hr.units) (q_ix (q_var (pv 0)) (q_op o_mod (q_op o_sub (q_var (pv 3)) q_int) (q_len rfl m_len (a_cons (q_var (pv 0)) a_nil))) (fun _ _ => rfl)) q_str))) (fun _ _ _ _ _ => (q_var (pv 3))))
      (ss_cons (s_for (t := (.nm 3)) PassesOwn.never rfl (i_range2 rfl m_range (a_cons q_int (a_cons q_int a_nil))) (g_nm (i := 3) sc_law_counts.nd rfl (by first | exact Or.inl rfl | exact Or.inr rfl)) (ss_cons (s_if (t_cmp (o_ne hr.units) (q_repr hg hr.units rfl m_repr (a_cons (q_fn F_takes (hr.mono (show 1 ≤ 1 by decide)) hg rfl (a_cons (q_var (pv 0)) (a_cons (q_var (pv 3)) a_nil))) a_nil)) (q_repr hg hr.units rfl m_repr (a_cons (q_cmp o_in (q_var (pv 3)) (q_var (pv 2))) a_nil))) (ss_one (s_ret q_bl)) ss_nil)
      (ss_one (s_if (t_not (t_val (q_fn F_law_is_number (hr.mono (show 1 ≤ 1 by decide)) hg rfl (a_cons (q_fn F_times_of (hr.mono (show 1 ≤ 1 by decide)) hg rfl (a_cons (q_var (pv 0)) (a_cons (q_var (pv 3)) a_nil))) (a_cons (q_len rfl m_len (a_cons (q_f (f_lc rfl sc_law_counts.nd (t := (.nm 8)) (own := [("_law_one", 8)]) (i_list (q_var (pv 2))) (blkOk_by (own := [("_law_one", 8)]) (N := n_law_counts) (sc := defScope s_law_counts) (by decide +kernel)) (fun _ _ _ _ _ => (g_nm (i := 8) sc_law_counts.nd rfl (by first | exact Or.inl rfl | exact Or.inr rfl))) (fun _ _ _ _ _ => (ts_one (t_cmp o_le (q_var (pv 8)) (q_var (pv 3))))) (fun _ _ _ _ _ => (q_var (pv 8))))) a_nil)) a_nil))))) (ss_one (s_ret q_bl)) ss_nil))))
      (ss_cons (s_for (t := (.nm 4)) PassesOwn.never rfl (i_range1 rfl m_range (a_cons (q_len rfl m_len (a_cons (q_var (pv 2)) a_nil)) a_nil)) (g_nm (i := 4) sc_law_counts.nd rfl (by first | exact Or.inl rfl | exact Or.inr rfl)) (ss_one (s_if (t_not (t_val (q_fn F_law_is_number (hr.mono (show 1 ≤ 1 by decide)) hg rfl (a_cons (q_fn F_beat_of (hr.mono (show 1 ≤ 1 by decide)) hg rfl (a_cons (q_var (pv 0)) (a_cons (q_var (pv 4)) a_nil))) (a_cons (q_ix (q_var (pv 2)) (q_var (pv 4)) (fun _ _ => rfl)) a_nil))))) (ss_one (s_ret q_bl)) ss_nil)))
      (ss_cons (s_par2 (i := 6) (j := 7) rfl sc_law_counts.nd rfl rfl (by decide) rfl rfl (q_count (q_var (pv 0)) q_str) (q_len rfl m_len (a_cons (q_var (pv 0)) a_nil)))
      (ss_cons (s_set (i := 5) sc_law_counts.nd rfl (by first | exact Or.inl rfl | exact Or.inr rfl) (q_op o_add (q_op o_mul (q_op o_fdiv (q_var (pv 1)) (q_var (pv 7))) (q_var (pv 6))) (q_count (q_sl (q_var (pv 0)) p_none (p_some (q_op o_mod (q_var (pv 1)) (q_var (pv 7))))) q_str)))
      (ss_cons (s_if (t_not (t_val (q_fn F_law_is_number (hr.mono (show 1 ≤ 1 by decide)) hg rfl (a_cons (q_fn F_times_of (hr.mono (show 1 ≤ 1 by decide)) hg rfl (a_cons (q_var (pv 0)) (a_cons (q_var (pv 1)) a_nil))) (a_cons (q_var (pv 5)) a_nil))))) (ss_one (s_ret q_bl)) ss_nil)
      (ss_cons (s_if (t_cmp (o_ne hr.units) (q_repr hg hr.units rfl m_repr (a_cons (q_fn F_takes (hr.mono (show 1 ≤ 1 by decide)) hg rfl (a_cons (q_var (pv 0)) (a_cons (q_op o_add (q_var (pv 1)) q_int) a_nil))) a_nil)) (q_repr hg hr.units rfl m_repr (a_cons (q_cmp (o_eq hr.units) (q_ix (q_var (pv 0)) (q_op o_mod (q_var (pv 1)) (q_var (pv 7))) (fun _ _ => rfl)) q_str) a_nil))) (ss_one (s_ret q_bl)) ss_nil)
      (ss_cons (s_set (i := 3) sc_law_counts.nd rfl (by first | exact Or.inl rfl | exact Or.inr rfl) (q_fn F_beat_of (hr.mono (show 1 ≤ 1 by decide)) hg rfl (a_cons (q_var (pv 0)) (a_cons (q_var (pv 5)) a_nil))))
      (ss_one (s_ret (q_and (q_cmp o_gt (q_var (pv 3)) (q_var (pv 1))) (q_and (q_cmp o_isB (q_fn F_takes (hr.mono (show 1 ≤ 1 by decide)) hg rfl (a_cons (q_var (pv 0)) (a_cons (q_var (pv 3)) a_nil))) q_bl) (q_one (q_cmp (o_eq hr.units) (q_fn F_times_of (hr.mono (show 1 ≤ 1 by decide)) hg rfl (a_cons (q_var (pv 0)) (a_cons (q_var (pv 3)) a_nil))) (q_op o_add (q_var (pv 5)) q_int)))))))))))))))

abbrev s_law : Stmt := top 22
abbrev n_law : List Str := ["_law_script", "_law_pen_here", "_law_turn", "_law_bent_here", "_law_things", "_law_thing", "_law_far", "_law_name", "_law_rhythm_here", "_law_was_own", "_law_one"]
theorem sc_law : FnScope n_law ["_law_script"] (defScope s_law) := ⟨rfl, rfl, rfl, by decide +kernel, rfl, by decide +kernel, by decide +kernel⟩

theorem d_law {P : Program} {w : World} {K : PySem.W.Frag} {mg : Str → Option Value} {base : Heap} {f : Addr} {cdv : Value} {A : Around} {outer : List Env} {s : Shared} {H : Hp} {E : XK}
    (F_law_pen : Fn0 P w K mg base 1 "_law_pen" true c_law_pen) (m_range : mg "range" = none) (F_law_names : Fn1 P w K mg base 3 "_law_names" false c_law_names) (F_law_rhythm : Fn1 P w K mg base 3 "_law_rhythm" false c_law_rhythm) (F_law_bent : Fn1 P w K mg base 3 "_law_bent" false c_law_bent) (F_law_odd : Fn1 P w K mg base 3 "_law_odd" false c_law_odd) (m_repr : mg "repr" = none) (F_is_name : Fn0 P w K mg base 2 "is_name" false c_is_name) (F_is_rhythm : Fn0 P w K mg base 2 "is_rhythm" false c_is_rhythm) (F_law_truths : Fn0 P w K mg base 2 "_law_truths" false c_law_truths) (F_law_pick : Fn1 P w K mg base 2 "_law_pick" false c_law_pick) (F_law_draw : Fn1 P w K mg base 1 "_law_draw" false c_law_draw) (F_times_of : Fn0 P w K mg base 1 "times_of" false c_times_of) (F_law_counts : Fn0 P w K mg base 2 "_law_counts" false c_law_counts)
    (hr : Room 3 (A.deeper (envOfC "law" (defScope s_law) s.heap.objs.size f cdv))) (hg : A.guards = some []) : QSs (cxOf CX0 P w K mg base n_law "law" (defScope s_law) f cdv A outer s H E).nox (defBody s_law) u_law :=
    (ss_cons (s_setF (i := 1) sc_law.nd rfl (by first | exact Or.inl rfl | exact Or.inr rfl) (f_fn F_law_pen (hr.mono (show 1 ≤ 3 by decide)) hg rfl (a_cons (q_var (pv 0)) a_nil)))
      (ss_cons (s_for (t := (.nm 2)) PassesOwn.never rfl (i_range1 rfl m_range (a_cons q_int a_nil)) (g_nm (i := 2) sc_law.nd rfl (by first | exact Or.inl rfl | exact Or.inr rfl)) (ss_cons (s_par2 (i := 7) (j := 8) rfl sc_law.nd rfl rfl (by decide) rfl rfl (q_ix (q_fn1 F_law_names (hr.mono (show 3 ≤ 3 by decide)) hg rfl (pv 1) (a_cons q_int a_nil)) q_int (fun _ _ => rfl)) (q_fn1 F_law_rhythm (hr.mono (show 3 ≤ 3 by decide)) hg rfl (pv 1) a_nil))
      (ss_cons (s_set (i := 3) sc_law.nd rfl (by first | exact Or.inl rfl | exact Or.inr rfl) (q_lst (a_cons (q_fn1 F_law_bent (hr.mono (show 3 ≤ 3 by decide)) hg rfl (pv 1) (a_cons (q_var (pv 7)) a_nil)) (a_cons (q_fn1 F_law_bent (hr.mono (show 3 ≤ 3 by decide)) hg rfl (pv 1) (a_cons (q_var (pv 8)) a_nil)) a_nil))))
      (ss_cons (s_set (i := 4) sc_law.nd rfl (by first | exact Or.inl rfl | exact Or.inr rfl) (q_lst (a_cons (q_var (pv 7)) (a_cons (q_var (pv 8)) (a_cons (q_op o_mul (q_var (pv 8)) q_int) (a_cons (q_op o_mul q_str q_int) (a_cons (q_op o_mul q_str q_int) (a_cons (q_op o_mul q_str q_int) (a_cons (q_op o_mul (q_var (pv 7)) q_int) (a_cons (q_op o_mul q_str q_int) (a_cons (q_fn1 F_law_odd (hr.mono (show 3 ≤ 3 by decide)) hg rfl (pv 1) a_nil) (a_cons (q_lst (a_cons (q_var (pv 7)) a_nil)) a_nil))))))))))))
      (ss_cons (s_for (t := (.nm 5)) PassesOwn.never rfl (i_list (q_op o_add (q_op o_add (q_var (pv 4)) (q_var (pv 3))) (q_f (f_lc rfl sc_law.nd (t := (.nm 10)) (own := [("_law_one", 10)]) (i_list (q_var (pv 3))) (blkOk_by (own := [("_law_one", 10)]) (N := n_law) (sc := defScope s_law) (by decide +kernel)) (fun _ _ _ _ _ => (g_nm (i := 10) sc_law.nd rfl (by first | exact Or.inl rfl | exact Or.inr rfl))) (fun _ _ _ _ _ => ts_nil) (fun _ _ _ _ _ => (q_fn1 F_law_bent (hr.mono (show 3 ≤ 3 by decide)) hg rfl (pv 1) (a_cons (q_var (pv 10)) a_nil))))))) (g_nm (i := 5) sc_law.nd rfl (by first | exact Or.inl rfl | exact Or.inr rfl)) (ss_cons (s_set (i := 9) sc_law.nd rfl (by first | exact Or.inl rfl | exact Or.inr rfl) (q_repr hg hr.units rfl m_repr (a_cons (q_var (pv 5)) a_nil)))
      (ss_one (s_if (w_t (w_or (t_cmp (o_ne hr.units) (q_repr hg hr.units rfl m_repr (a_cons (q_lst (a_cons (q_fn F_is_name (hr.mono (show 2 ≤ 3 by decide)) hg rfl (a_cons (q_var (pv 5)) a_nil)) (a_cons (q_fn F_is_rhythm (hr.mono (show 2 ≤ 3 by decide)) hg rfl (a_cons (q_var (pv 5)) a_nil)) a_nil))) a_nil)) (q_repr hg hr.units rfl m_repr (a_cons (q_fn F_law_truths (hr.mono (show 2 ≤ 3 by decide)) hg rfl (a_cons (q_var (pv 5)) a_nil)) a_nil))) (w_or1 (t_cmp (o_ne hr.units) (q_repr hg hr.units rfl m_repr (a_cons (q_var (pv 5)) a_nil)) (q_var (pv 9)))))) (ss_one (s_ret q_bl)) ss_nil))))
      (ss_cons (s_set (i := 6) sc_law.nd rfl (by first | exact Or.inl rfl | exact Or.inr rfl) (q_fn1 F_law_pick (hr.mono (show 2 ≤ 3 by decide)) hg rfl (pv 1) (a_cons (q_lst (a_cons (q_fn1 F_law_draw (hr.mono (show 1 ≤ 3 by decide)) hg rfl (pv 1) (a_cons (q_op o_sub (q_op o_pow q_int q_int) q_int) a_nil)) (a_cons q_int (a_cons (q_op o_sub (q_op o_pow q_int q_int) q_int) a_nil)))) a_nil)))
      (ss_one (s_if (w_t (w_or (t_cmp (o_ne hr.units) (q_fn F_times_of (hr.mono (show 1 ≤ 3 by decide)) hg rfl (a_cons (q_var (pv 8)) (a_cons q_int a_nil))) q_int) (w_or1 (t_not (t_val (q_fn F_law_counts (hr.mono (show 2 ≤ 3 by decide)) hg rfl (a_cons (q_var (pv 8)) (a_cons (q_var (pv 6)) a_nil)))))))) (ss_one (s_ret q_bl)) ss_nil))))))))
      (ss_one (s_ret q_bl))))

end K01

namespace K01
open PySem L2 TL
local macro_rules | `(tactic| walk_at "tl") => `(tactic| simp only [uRet, uRetF, uRetO, uRetN, uSeq, uNext, uIf, uSet, uSetO, uAsg, uPar2, uPar2F, uPar3, uDrop, uOp, uUn, uVar, uFrz, uC, uB, uAnd, uOr, uNot, uAndV, uOrV, uNotV, uIfE, uChain, uCons, uNil, uTup, uLst, uCB, uCall0, uCall1, uM1, uThaw, uThawT, uDGetO, uDGet, uDPut, uIxO, uSetIt, uApp, uSl, uNone, uSome, uIL, uIT, uIS, uIR1, uIR2, uIES, uDict, uPs, uDict0, uYes,
  gI, gI0, gAdd, gMul, gNeg, eqR, gIn, gIsB, gIx, gSl, gLen, gRepr, gAll, gAbs, gDivmod, gList, gIsi, gCount, gJoin, first1, pad, dats, free, owned, Tg.u, Tg.uL, clr, res, noOwn, frzS, keyD, keysD,
  List.map_cons, List.map_nil, List.length_cons, List.length_nil, List.cons_append, List.nil_append, List.append_nil, List.getElem?_cons_zero, List.getElem?_cons_succ, List.set_cons_zero, List.set_cons_succ, List.replicate, Nat.sub_self, Nat.add_sub_cancel, Nat.reduceAdd, Nat.reduceSub, true_and, and_true, List.getD_cons_zero, List.getD_cons_succ, Bool.false_bne, Bool.true_bne])
theorem x_code : Str.ofString "x" = ⟨#[120]⟩ := by decide
theorem one_x (c : Nat) : decide ((⟨#[c]⟩ : Str) = Str.ofString "x") = decide (c = 120) := by
  rw [x_code]; simp
theorem isi_str {x : D} {t : String} (h : tyN x = some t) (hn : ∀ z, x ≠ .str z) : isiT t "str" = false := by
  cases x <;> simp [tyN] at h <;> first | (subst h; decide) | (exact absurd rfl (hn _))
theorem isText_no {x : D} {sg : Str} {m : Int} (hn : ∀ z, x ≠ .str z) : isText x sg m = false := by
  unfold isText
  split
  · exact absurd rfl (hn _)
  · rfl
theorem fm_signs (z sg : Str) : (signs z).filterMap (fun d => match d with
    | .str a => some (D.bl (inS a sg))
    | _ => none) = (z.cps.toList.map fun c => decide (c ∈ sg.cps.toList)).map D.bl := by
  unfold signs
  rw [List.filterMap_map]
  rw [List.map_map]
  rw [← List.filterMap_eq_map]
  congr 1
  funext c
  simp [inS_one]
theorem p_is_text_of : ∀ ds P, c_is_text_of ds P → u_is_text_of { nx := fun _ => P .non, rt := fun d _ => P d } (pad (dats ds) 4) := by
  intro ds P h
  unfold c_is_text_of at h
  split at h
  · rename_i x sg m
    obtain ⟨⟨⟨t, ht⟩, hz⟩, h⟩ := h
    unfold u_is_text_of
    walk_at "tl"
    refine ⟨t, ht, by decide, ?_⟩
    by_cases hs : ∃ z, x = .str z
    · obtain ⟨z, rfl⟩ := hs
      obtain ⟨hzl, hasc⟩ := hz z rfl
      cases ht
      rw [show isiT "str" "str" = true by decide]
      refine ⟨size_small hzl, ?_⟩
      simp only [isText] at h
      by_cases h1 : 0 < (z.length : Int)
      · rw [decide_eq_true h1] at h ⊢
        by_cases h2 : (z.length : Int) ≤ m
        · rw [decide_eq_true h2] at h ⊢
          refine lcp (fun d => match d with
            | .str a => some (D.bl (inS a sg))
            | _ => none) (signs z) (fun Q q => q) (by rw [signs_len]; exact size_small hzl) ⟨trivial, trivial⟩ (fun d hd Q q => ?_) ?_
          · obtain ⟨c, _, rfl⟩ := signs_mem hd
            walk_at "tl"
            exact q
          · rw [fm_signs]
            refine ⟨_, rfl, ?_⟩
            rw [List.all_map]
            exact h
        · rw [decide_eq_false h2] at h ⊢
          exact h
      · rw [decide_eq_false h1] at h ⊢
        exact h
    · have hn : ∀ z, x ≠ .str z := fun z e => hs ⟨z, e⟩
      rw [isi_str ht hn]
      rw [isText_no hn] at h
      exact h
  · exact h.elim
theorem p_is_name : ∀ ds P, c_is_name ds P → u_is_name { nx := fun _ => P .non, rt := fun d _ => P d } (pad (dats ds) 1) := by
  intro ds P h
  unfold c_is_name at h
  split at h
  · unfold u_is_name
    walk_at "tl"
    exact h
  · exact h.elim
theorem p_is_rhythm : ∀ ds P, c_is_rhythm ds P → u_is_rhythm { nx := fun _ => P .non, rt := fun d _ => P d } (pad (dats ds) 1) := by
  intro ds P h
  unfold c_is_rhythm at h
  split at h
  · rename_i x
    obtain ⟨hx, h⟩ := h
    unfold u_is_rhythm
    walk_at "tl"
    refine ⟨hx, ?_⟩
    unfold isRh at h
    cases hb : isText x (Str.ofString "x-") 6 with
    | false => rw [hb] at h; exact h
    | true =>
      rw [hb] at h
      by_cases hs : ∃ z, x = .str z
      · obtain ⟨z, rfl⟩ := hs
        have e : inS (Str.ofString "x") z = hasX (.str z) := by
          rw [x_code, inS_one]; rfl
        simp only [e]
        simpa using h
      · rw [isText_no fun z e => hs ⟨z, e⟩] at hb; cases hb
  · exact h.elim
theorem p_takes : ∀ ds P, c_takes ds P → u_takes { nx := fun _ => P .non, rt := fun d _ => P d } (pad (dats ds) 2) := by
  intro ds P h
  unfold c_takes at h
  split at h
  · rename_i z b
    obtain ⟨⟨h1, h2, h3, h4⟩, hb, h⟩ := h
    unfold u_takes
    walk_at "tl"
    unfold takesF at h
    by_cases h0 : 0 < b
    · rw [decide_eq_true h0] at h ⊢
      have hn : (0 : Int) < z.length := by omega
      have m0 := Int.emod_nonneg (b - 1) (show (z.length : Int) ≠ 0 by omega)
      have m1 := Int.emod_lt_of_pos (b - 1) hn
      refine ⟨size_small (by omega), hn, size_small (by omega), _, atI_of 0 m0 (by rw [len_cps]; exact m1), ?_⟩
      rw [one_x]
      simpa using h
    · rw [decide_eq_false h0] at h ⊢
      exact h
  · exact h.elim
theorem p_law_are_signs : ∀ ds P, c_law_are_signs ds P → u_law_are_signs { nx := fun _ => P .non, rt := fun d _ => P d } (pad (dats ds) 4) := by
  intro ds P h
  unfold c_law_are_signs c_is_text_of at h
  split at h
  · rename_i x sg m
    obtain ⟨⟨⟨t, ht⟩, hz⟩, h⟩ := h
    unfold u_law_are_signs
    walk_at "tl"
    refine ⟨t, ht, by decide, ?_⟩
    by_cases hs : ∃ z, x = .str z
    · obtain ⟨z, rfl⟩ := hs
      obtain ⟨hzl, hasc⟩ := hz z rfl
      cases ht
      rw [show isiT "str" "str" = true by decide]
      simp only [Bool.not_true]
      refine ⟨size_small hzl, ?_⟩
      simp only [isText] at h
      by_cases h1 : 0 < (z.length : Int)
      · rw [decide_eq_true h1] at h ⊢
        by_cases h2 : (z.length : Int) ≤ m
        · rw [decide_eq_true h2] at h ⊢
          simp only [Bool.not_true]
          refine lcp (fun d => match d with
            | .str a => if inS a sg = true then none else some (D.str a)
            | _ => none) (signs z) (fun Q q => q) (by rw [signs_len]; exact size_small hzl) ⟨trivial, trivial⟩ (fun d hd Q q => ?_) ?_
          · obtain ⟨c, _, rfl⟩ := signs_mem hd
            walk_at "tl"
            cases hi : inS ⟨#[c]⟩ sg with
            | true => simpa [hi] using q
            | false => simpa [hi] using q
          · have e : (signs z).filterMap (fun d => match d with
                | .str a => if inS a sg = true then none else some (D.str a)
                | _ => none) = ((z.cps.toList.filter fun c => !decide (c ∈ sg.cps.toList)).map fun c => (⟨#[c]⟩ : Str)).map D.str := by
              unfold signs
              rw [List.filterMap_map, List.map_map]
              induction z.cps.toList with
              | nil => rfl
              | cons c r ih =>
                rw [List.filterMap_cons, ih, List.filter_cons]
                by_cases hc : c ∈ sg.cps.toList
                · simp [inS_one, hc]
                · simp [inS_one, hc]
            rw [e]
            refine ⟨by decide, eqok_strs fun s hs => ?_, eqok_nil, ?_⟩
            · obtain ⟨c, hc, rfl⟩ := List.mem_map.mp hs
              exact ok_asc1 c (hasc c (List.mem_filter.mp hc).1)
            · rw [eqv_nil]
              have e2 : (z.cps.toList.all fun c => decide (c ∈ sg.cps.toList)) = (((z.cps.toList.filter fun c => !decide (c ∈ sg.cps.toList)).map fun c => (⟨#[c]⟩ : Str)).map D.str).isEmpty := by
                rw [List.isEmpty_map, List.isEmpty_map]
                induction z.cps.toList with
                | nil => rfl
                | cons c r ih =>
                  rw [List.all_cons, List.filter_cons, ih]
                  by_cases hc : c ∈ sg.cps.toList
                  · simp [hc]
                  · simp [hc]
              rw [← e2]
              simpa using h
        · rw [decide_eq_false h2] at h ⊢
          simpa using h
      · rw [decide_eq_false h1] at h ⊢
        simpa using h
    · have hn : ∀ z, x ≠ .str z := fun z e => hs ⟨z, e⟩
      rw [isi_str ht hn]
      rw [isText_no hn] at h
      simpa using h
  · exact h.elim
theorem p_law_truths : ∀ ds P, c_law_truths ds P → u_law_truths { nx := fun _ => P .non, rt := fun d _ => P d } (pad (dats ds) 2) := by
  intro ds P h
  unfold c_law_truths at h
  split at h
  · rename_i x
    obtain ⟨hx, h⟩ := h
    unfold u_law_truths
    walk_at "tl"
    refine ⟨hx, hx, ?_⟩
    unfold isRh at h
    cases hb : isText x (Str.ofString "x-") 6 with
    | false => rw [hb] at h; exact ⟨by decide, h⟩
    | true =>
      rw [hb] at h
      by_cases hs : ∃ z, x = .str z
      · obtain ⟨z, rfl⟩ := hs
        have e : inS (Str.ofString "x") z = hasX (.str z) := by
          rw [x_code, inS_one]; rfl
        simp only [e]
        exact ⟨by decide, by simpa [isNm] using h⟩
      · rw [isText_no fun z e => hs ⟨z, e⟩] at hb; cases hb
  · exact h.elim
theorem p_law_is_number : ∀ ds P, c_law_is_number ds P → u_law_is_number { nx := fun _ => P .non, rt := fun d _ => P d } (pad (dats ds) 2) := by
  intro ds P h
  unfold c_law_is_number at h
  split at h
  · unfold u_law_is_number
    walk_at "tl"
    refine ⟨"int", rfl, by decide, ?_⟩
    rw [show isiT "int" "int" = true by decide]
    refine ⟨"int", rfl, by decide, ?_⟩
    rw [show isiT "int" "bool" = false by decide]
    simpa using h
  · exact h.elim
end K01

namespace K01
open PySem L2 TL
local macro_rules | `(tactic| walk_at "tl") => `(tactic| simp only [uRet, uRetF, uRetO, uRetN, uSeq, uNext, uIf, uSet, uSetO, uAsg, uPar2, uPar2F, uPar3, uDrop, uOp, uUn, uVar, uFrz, uC, uB, uAnd, uOr, uNot, uAndV, uOrV, uNotV, uIfE, uChain, uCons, uNil, uTup, uLst, uCB, uCall0, uCall1, uM1, uThaw, uThawT, uDGetO, uDGet, uDPut, uIxO, uSetIt, uApp, uSl, uNone, uSome, uIL, uIT, uIS, uIR1, uIR2, uIES, uDict, uPs, uDict0, uYes,
  gI, gI0, gAdd, gMul, gNeg, eqR, gIn, gIsB, gIx, gSl, gLen, gRepr, gAll, gAbs, gDivmod, gList, gIsi, gCount, gJoin, first1, pad, dats, free, owned, Tg.u, Tg.uL, clr, res, noOwn, frzS, keyD, keysD,
  List.map_cons, List.map_nil, List.length_cons, List.length_nil, List.cons_append, List.nil_append, List.append_nil, List.getElem?_cons_zero, List.getElem?_cons_succ, List.set_cons_zero, List.set_cons_succ, List.replicate, Nat.sub_self, Nat.add_sub_cancel, Nat.reduceAdd, Nat.reduceSub, true_and, and_true, List.getD_cons_zero, List.getD_cons_succ, Bool.false_bne, Bool.true_bne, pen_cells, pen_at, pen_left, pen_sat, pen_sleft, pen_len, penD, Option.some.injEq, exists_eq_left', exists_eq_left])
theorem p_times_of : ∀ ds P, c_times_of ds P → u_times_of { nx := fun _ => P .non, rt := fun d _ => P d } (pad (dats ds) 4) := by
  intro ds P h
  unfold c_times_of at h
  split at h
  · rename_i z b
    obtain ⟨⟨h1, h2, h3, h4⟩, hb, h⟩ := h
    unfold u_times_of
    walk_at "tl"
    have hn : (0 : Int) < z.length := by omega
    have m0 := Int.emod_nonneg b (show (z.length : Int) ≠ 0 by omega)
    refine ⟨size_small (by omega), ⟨hn, by omega⟩, ?_⟩
    rw [x_code, count_one, count_one]
    have hc : (z.cps.toList.count 120 : Nat) ≤ 6 := by
      have := List.count_le_length (a := 120) (l := z.cps.toList)
      rw [len_cps] at this
      omega
    refine ⟨mul_small' ⟨by omega, by omega⟩, size_small (by omega), ?_⟩
    rw [cutS_to m0]
    exact h
  · exact h.elim
theorem f_spots (z : Str) : (enumS 1 z).filterMap (fun d => match d with
    | .tup [.int i, .str a] => if a = (⟨#[120]⟩ : Str) then some (D.int i) else none
    | _ => none) = (spots z.cps.toList).map D.int := by
  unfold enumS spots
  rw [List.filterMap_map, List.map_map]
  induction z.cps.toList.zipIdx with
  | nil => rfl
  | cons p r ih =>
    rw [List.filterMap_cons, ih, List.filter_cons]
    by_cases hp : p.1 = 120
    · simp [hp]
    · simp [hp]
theorem spots_pos {l : List Nat} (h : 120 ∈ l) : 0 < (spots l).length := by
  unfold spots
  rw [List.length_map]
  obtain ⟨i, hi⟩ := List.mem_iff_getElem?.mp h
  apply List.length_pos_of_mem (a := (120, i))
  rw [List.mem_filter]
  refine ⟨?_, by simp⟩
  rw [List.mem_iff_getElem?]
  exact ⟨i, by rw [List.getElem?_zipIdx, hi]; simp⟩
theorem spots_len (l : List Nat) : (spots l).length ≤ l.length := by
  unfold spots
  rw [List.length_map]
  exact Nat.le_trans (List.length_filter_le _ _) (by simp)
theorem getD_int (l : List Int) (k : Nat) : (l.map D.int).getD k (.int 0) = D.int (l.getD k 0) := by
  simp only [List.getD_eq_getElem?_getD, List.getElem?_map]
  cases l[k]? <;> rfl
theorem p_beat_of : ∀ ds P, c_beat_of ds P → u_beat_of { nx := fun _ => P .non, rt := fun d _ => P d } (pad (dats ds) 7) := by
  intro ds P h
  unfold c_beat_of at h
  split at h
  · rename_i z n
    obtain ⟨⟨h1, h2, h3, h4⟩, hb, h⟩ := h
    unfold u_beat_of
    walk_at "tl"
    refine lcp (fun d => match d with
      | .tup [.int i, .str a] => if a = (⟨#[120]⟩ : Str) then some (D.int i) else none
      | _ => none) (enumS 1 z) (fun Q q => ⟨by decide, q⟩) (by rw [enumS_len]; exact size_small (by have := len_cps z; simp at this; omega)) ⟨trivial, trivial, trivial⟩ (fun d hd Q q => ?_) ?_
    · unfold enumS at hd
      obtain ⟨p, _, rfl⟩ := List.mem_map.mp hd
      walk_at "tl"
      rw [x_code]
      by_cases hp : (⟨#[p.1]⟩ : Str) = ⟨#[120]⟩
      · rw [decide_eq_true hp]
        simpa [hp] using q
      · rw [decide_eq_false hp]
        simpa [hp] using q
    · rw [f_spots]
      have sp := spots_pos h4
      have sl := spots_len z.cps.toList
      rw [len_cps] at sl
      walk_at "tl"
      rw [List.length_map]
      have hn : (0 : Int) < (spots z.cps.toList).length := by omega
      have m0 := Int.emod_nonneg n (show ((spots z.cps.toList).length : Int) ≠ 0 by omega)
      have m1 := Int.emod_lt_of_pos n hn
      refine ⟨⟨hn, by omega⟩, size_small (by omega), mul_small' ⟨by omega, by omega⟩, _, atI_of (.int 0) m0 (by rw [List.length_map]; exact m1), ?_⟩
      rw [getD_int]
      exact h
  · exact h.elim
theorem p_law_pen : ∀ ds P, c_law_pen ds P → u_law_pen { nx := fun _ => False, rt := fun _ _ => False, rf := fun d _ => P d } (pad (dats ds) 1) := by
  intro ds P h
  unfold c_law_pen at h
  split at h
  · rename_i ns
    obtain ⟨hn, h⟩ := h
    unfold u_law_pen
    walk_at "tl"
    refine ⟨by decide, ?_⟩
    apply h
    refine ⟨ns, 0, 0, ?_, hn, by omega, by omega, by omega⟩
    rw [cutD_to (by omega), List.take_of_length_le (by rw [List.length_map]; exact hn)]
    rfl
  · exact h.elim
theorem int_pow18 : (10 : Int) ^ Int.toNat 18 = 1000000000000000000 := by decide
theorem mod_in (x : Int) {n : Int} (h : 0 < n) : 0 ≤ x % n ∧ x % n < n := ⟨Int.emod_nonneg _ (by omega), Int.emod_lt_of_pos _ h⟩
theorem p_law_draw : ∀ d0 ds P, c_law_draw d0 ds P → u_law_draw { nx := first1 P .non, rt := first1 P } (pad (.own true d0 :: dats ds) 6) := by
  intro d0 ds P h
  unfold c_law_draw at h
  split at h
  · rename_i n
    obtain ⟨m, ⟨cs, a, l, rfl, hc, ha, hm, hl⟩, hm2, hn, hn2, h⟩ := h
    have hdw : ∀ x : Int, CDivW x n := fun x => wide_div (b := 250) hn (by
      have : n.natAbs < 10 ^ 61 := by omega
      exact Nat.lt_trans this (by decide)) (by decide) (by decide)
    have sm : ∀ b c : Int, 0 ≤ b → b ≤ m + 1 → 0 ≤ c → PenI (m + 1) (penD cs b c) := fun b c h1 h2 h3 => ⟨cs, b, c, rfl, hc, h1, by omega, h3⟩
    have hmb : m ≤ 1000000 := hm2
    unfold u_law_draw
    refine seq_to [.own true (penD cs a l), .dat (.int n), .no, .no, .no, .no] (fun nx k => ?_) ?_
    · walk_at "tl"
      by_cases h0 : 0 < l
      · rw [decide_eq_true h0]
        refine ⟨hn, hdw _, by decide, ?_⟩
        exact h _ _ (mod_in _ hn).1 (mod_in _ hn).2 (sm a _ ha (by omega) (Int.ediv_nonneg hl (by omega)))
      · rw [decide_eq_false h0]
        exact k
    refine seq_to [.own true (penD cs a l), .dat (.int n), .dat (.int a), .no, .no, .no] (fun nx k => ?_) ?_
    · walk_at "tl"
      exact k
    refine seq_to [.own true (penD cs (a + 1) l), .dat (.int n), .dat (.int a), .no, .no, .no] (fun nx k => ?_) ?_
    · walk_at "tl"
      exact ⟨by decide, k⟩
    refine seq_to [.own true (penD cs (a + 1) l), .dat (.int n), .dat (.int a), .dat (.int (29 * a + 4)), .no, .no] (fun nx k => ?_) ?_
    · walk_at "tl"
      exact ⟨mul_small (by omega), k⟩
    refine seq_by (fun S' => ∃ c : Int, S' = [.own true (penD cs (a + 1) l), .dat (.int n), .dat (.int a), .dat (.int c), .no, .no]) (fun nx k => ?_) ?_
    · walk_at "tl"
      refine ⟨by decide, eqok_ints cs, eqok_nil, ?_⟩
      rw [eqv_nil]
      cases cs with
      | nil => exact k _ ⟨_, rfl⟩
      | cons c0 cr =>
        show _ ∧ _
        have hp : (0 : Int) < ((c0 :: cr).length : Int) := by simp
        refine ⟨by simpa using hp, _, atI_of (.int 0) ?_ ?_, ?_⟩
        · simpa using (mod_in a hp).1
        · simpa using (mod_in a hp).2
        · rw [getD_int]
          exact k _ ⟨_, rfl⟩
    rintro S' ⟨c, rfl⟩
    refine seq_to [.own true (penD cs (a + 1) l), .dat (.int n), .dat (.int a), .dat (.int c), .no, .no] (fun nx k => ?_) ?_
    · walk_at "tl"
      by_cases h1 : a < ((cs.map D.int).length : Int)
      · rw [decide_eq_true h1]
        refine ⟨⟨by decide, by decide, by decide⟩, ?_⟩
        by_cases h2 : (10 : Int) ^ Int.toNat 18 ≤ if c < 0 then -c else c
        · rw [decide_eq_true h2]
          refine ⟨⟨by decide, by decide, by decide⟩, hdw _, by decide, ⟨by decide, by decide, by decide⟩, hn, ?_⟩
          exact h _ _ (mod_in _ hn).1 (mod_in _ hn).2 (sm _ _ (by omega) (by omega) (Int.ediv_nonneg (by omega) (by omega)))
        · rw [decide_eq_false h2]
          exact k
      · rw [decide_eq_false h1]
        exact k
    refine seq_by (fun S' => ∃ b : Int, 0 ≤ b ∧ b < 2147483693 ∧ S' = [.own true (penD cs (a + 1) l), .dat (.int n), .dat (.int a), .dat (.int c), .dat (.int b), .no]) (fun nx k => ?_) ?_
    · walk_at "tl"
      have q := mod_in c (n := 2147483659) (by decide)
      refine ⟨by decide, mul_small ⟨by omega, by omega⟩, mul_small ⟨by decide, by decide⟩, mul_small ⟨by omega, by omega⟩, mul_small ⟨by decide, by decide⟩, by decide, k _ ⟨_, ?_, ?_, rfl⟩⟩
      · exact (mod_in _ (by decide)).1
      · exact (mod_in _ (by decide)).2
    rintro S' ⟨b, b1, b2, rfl⟩
    refine seq_by (fun S' => ∃ b : Int, 0 ≤ b ∧ b < 2147483713 ∧ S' = [.own true (penD cs (a + 1) l), .dat (.int n), .dat (.int a), .dat (.int c), .dat (.int b), .no]) (fun nx k => ?_) ?_
    · walk_at "tl"
      refine ⟨mul_small ⟨by omega, by omega⟩, mul_small ⟨by decide, by decide⟩, mul_small ⟨by decide, by decide⟩, by decide, k _ ⟨_, ?_, ?_, rfl⟩⟩
      · exact (mod_in _ (by decide)).1
      · exact (mod_in _ (by decide)).2
    rintro S' ⟨b, b1, b2, rfl⟩
    walk_at "tl"
    refine ⟨mul_small ⟨by omega, by omega⟩, by decide, ⟨by decide, by decide⟩, hn, ?_⟩
    exact h _ _ (mod_in _ hn).1 (mod_in _ hn).2 (sm _ _ (by omega) (by omega) hl)
  · exact h.elim
theorem p_law_pick : ∀ d0 ds P, c_law_pick d0 ds P → u_law_pick { nx := first1 P .non, rt := first1 P } (pad (.own true d0 :: dats ds) 2) := by
  intro d0 ds P h
  unfold c_law_pick at h
  split at h
  · rename_i xs
    obtain ⟨m, hp, hm, h1, h2, h⟩ := h
    unfold u_law_pick
    walk_at "tl"
    refine ⟨m, hp, hm, by omega, by omega, fun r d1 r0 r1 hp1 => ?_⟩
    refine ⟨_, atI_of .non r0 r1, h _ _ ?_ hp1⟩
    rw [List.getD_eq_getElem?_getD, List.getElem?_eq_getElem (by omega)]
    exact List.getElem_mem _
  · rename_i z
    obtain ⟨m, hp, hm, h1, h2, h⟩ := h
    unfold u_law_pick
    walk_at "tl"
    refine ⟨size_small h2, m, hp, hm, by omega, by omega, fun r d1 r0 r1 hp1 => ?_⟩
    refine ⟨size_small h2, _, atI_of 0 r0 (by rw [len_cps]; exact r1), h _ _ ?_ hp1⟩
    rw [List.getD_eq_getElem?_getD, List.getElem?_eq_getElem (by rw [len_cps]; omega)]
    exact List.getElem_mem _
  · exact h.elim
end K01

namespace K01
open PySem L2 TL
local macro_rules | `(tactic| walk_at "tl") => `(tactic| simp only [uRet, uRetF, uRetO, uRetN, uSeq, uNext, uIf, uSet, uSetO, uAsg, uPar2, uPar2F, uPar3, uDrop, uOp, uUn, uVar, uFrz, uC, uB, uAnd, uOr, uNot, uAndV, uOrV, uNotV, uIfE, uChain, uCons, uNil, uTup, uLst, uCB, uCall0, uCall1, uM1, uThaw, uThawT, uDGetO, uDGet, uDPut, uIxO, uSetIt, uApp, uSl, uNone, uSome, uIL, uIT, uIS, uIR1, uIR2, uIES, uDict, uPs, uDict0, uYes,
  gI, gI0, gAdd, gMul, gNeg, eqR, gIn, gIsB, gIx, gSl, gLen, gRepr, gAll, gAbs, gDivmod, gList, gIsi, gCount, gJoin, first1, pad, dats, free, owned, Tg.u, Tg.uL, clr, res, noOwn, frzS, keyD, keysD,
  List.map_cons, List.map_nil, List.length_cons, List.length_nil, List.cons_append, List.nil_append, List.append_nil, List.getElem?_cons_zero, List.getElem?_cons_succ, List.set_cons_zero, List.set_cons_succ, List.replicate, Nat.sub_self, Nat.add_sub_cancel, Nat.reduceAdd, Nat.reduceSub, true_and, and_true, List.getD_cons_zero, List.getD_cons_succ, Bool.false_bne, Bool.true_bne, pen_cells, pen_at, pen_left, pen_sat, pen_sleft, pen_len, penD, flatD, Option.some.injEq, exists_eq_left', exists_eq_left])
theorem letters_asc : ∀ c ∈ (Str.ofString "abcdefghijklmnopqrstuvwxyz").cps.toList, c < 128 := by decide
theorem letters_len : (Str.ofString "abcdefghijklmnopqrstuvwxyz").length = 26 := by decide
theorem PenI.up {m n : Nat} {d : D} (h : PenI m d) (e : m ≤ n) : PenI n d := by
  obtain ⟨cs, a, l, h1, h2, h3, h4, h5⟩ := h
  exact ⟨cs, a, l, h1, h2, h3, by omega, h5⟩
def ones (cs : List Nat) : List Str := cs.map fun c => ⟨#[c]⟩
theorem ones_app (cs : List Nat) (c : Nat) : (ones cs).map D.str ++ [D.str ⟨#[c]⟩] = (ones (cs ++ [c])).map D.str := by simp [ones]
theorem ones_join (cs : List Nat) : (Txt.join "" (ones cs)).cps.toList = cs := by
  rw [join_nil]
  unfold ones
  induction cs with
  | nil => rfl
  | cons c r ih => simp only [List.map_cons, List.flatten_cons, ih]; rfl
theorem ones_sum (cs : List Nat) : ((ones cs).map (·.length)).sum + (ones cs).length * (Str.ofString "").length = cs.length := by
  have : (Str.ofString "").length = 0 := by decide
  rw [this]
  unfold ones
  induction cs with
  | nil => rfl
  | cons c r ih => simp only [List.map_cons, List.sum_cons, List.length_cons] at ih ⊢; simp only [Str.length] at ih ⊢; simp at ih ⊢; omega
theorem ones_len (cs : List Nat) : (ones cs).length = cs.length := by simp [ones]
theorem atI_mem {α : Type} {xs : List α} {k : Int} (d : α) (h0 : 0 ≤ k) (h1 : k < (xs.length : Int)) : ∃ c, atI xs k = some c ∧ c ∈ xs := by
  refine ⟨_, atI_of d h0 h1, ?_⟩
  rw [List.getD_eq_getElem?_getD, List.getElem?_eq_getElem (by omega)]
  exact List.getElem_mem _
/-- a comprehension of single signs, the pen going on -/
theorem p_law_names : ∀ d0 ds P, c_law_names d0 ds P → u_law_names { nx := first1 P .non, rt := first1 P } (pad (.own true d0 :: dats ds) 11) := by
  intro d0 ds P h
  unfold c_law_names at h
  split at h
  · rename_i n
    obtain ⟨m, hp, hm, n0, n1, h⟩ := h
    have hmb : m + 100 ≤ 1000000 := hm
    unfold u_law_names
    refine seq_to [.own true d0, .dat (.int n), .dat (.str "abcdefghijklmnopqrstuvwxyz"), .no, .no, .no, .no, .no, .no, .no, .no] (fun nx k => ?_) ?_
    · walk_at "tl"
      exact k
    refine seq_by (fun S' => ∃ d2 w, PenI (m + 9) d2 ∧ Nam w ∧ S' = [.own true d2, .dat (.int n), .dat (.str "abcdefghijklmnopqrstuvwxyz"), .dat (.str w), .no, .no, .no, .no, .no, .no, .no]) (fun nx k => ?_) ?_
    · walk_at "tl"
      unfold uLc
      walk_at "tl"
      refine ⟨m, hp, by show m ≤ 1000000; omega, by decide, by decide, fun r d1 r0 r1 hp1 => ⟨by omega, by omega, ?_⟩⟩
      refine ⟨fun i acc S2 => ∃ d2 cs, PenI (m + 1 + i) d2 ∧ acc = (ones cs).map D.str ∧ cs.length = i ∧ (∀ c ∈ cs, c ∈ (Str.ofString "abcdefghijklmnopqrstuvwxyz").cps.toList) ∧ S2 = [.own true d2, .dat (.int n), .dat (.str "abcdefghijklmnopqrstuvwxyz"), .no, .no, .no, .no, .no, .no, .no, .no], ⟨d1, [], hp1, rfl, rfl, by simp, rfl⟩, ?_, ?_⟩
      · rintro i d acc S2 hd ⟨d2, cs, hp2, rfl, hl, hcs, rfl⟩
        obtain ⟨hi, rfl⟩ := irange_get hd
        walk_at "tl"
        refine ⟨m + 1 + i, hp2, by show m + 1 + i ≤ 1000000; omega, by decide, by decide, fun c d3 hc hp3 => ⟨?_, d3, cs ++ [c], hp3, ones_app cs c, by simp [hl], fun c' hc' => ?_, rfl⟩⟩
        · rw [List.length_map, ones_len]; exact size_smallL (by omega)
        · rcases List.mem_append.mp hc' with h | h
          · exact hcs c' h
          · simp at h; subst h; exact hc
      · rintro acc S2 ⟨d2, cs, hp2, rfl, hl, hcs, rfl⟩
        rw [irange_len] at hl hp2
        refine ⟨ones cs, rfl, by rw [ones_sum]; omega, ?_⟩
        walk_at "tl"
        refine k _ ⟨d2, _, hp2.up (by omega), ⟨?_, ?_, ?_⟩, rfl⟩
        · rw [← len_cps, ones_join]; omega
        · rw [← len_cps, ones_join]; omega
        · intro c hc; rw [ones_join] at hc; exact letters_asc c (hcs c hc)
    rintro S' ⟨d2, w, hp2, ⟨w1, w2, w3⟩, rfl⟩
    refine seq_by (fun S' => ∃ d3 a f s, PenI (m + 12) d3 ∧ 0 ≤ a ∧ a < (w.length : Int) ∧ 0 ≤ f ∧ f < 26 ∧ (s = 0 ∨ s = 1) ∧ S' = [.own true d3, .dat (.int n), .dat (.str "abcdefghijklmnopqrstuvwxyz"), .dat (.str w), .no, .dat (.int a), .dat (.int f), .dat (.int s), .no, .no, .no]) (fun nx k => ?_) ?_
    · walk_at "tl"
      refine ⟨size_small (by omega), m + 9, hp2, by show m + 9 ≤ 1000000; omega, by omega, by omega, fun a d3 a0 a1 hp3 => ?_⟩
      refine ⟨m + 10, hp3, by show m + 10 ≤ 1000000; omega, by decide, by decide, fun f d4 f0 f1 hp4 => ?_⟩
      refine ⟨m + 11, hp4, by show m + 11 ≤ 1000000; omega, by decide, by decide, fun s d5 s0 s1 hp5 => ?_⟩
      exact k _ ⟨d5, a, f, s, hp5, a0, a1, f0, f1, by omega, rfl⟩
    rintro S' ⟨d3, a, f, s, hp3, a0, a1, f0, f1, hs, rfl⟩
    refine seq_by (fun S' => ∃ d4 b, PenI (m + 13) d4 ∧ 0 ≤ b ∧ b ≤ 25 ∧ S' = [.own true d4, .dat (.int n), .dat (.str "abcdefghijklmnopqrstuvwxyz"), .dat (.str w), .no, .dat (.int a), .dat (.int f), .dat (.int s), .dat (.int b), .own false (.lst []), .no]) (fun nx k => ?_) ?_
    · walk_at "tl"
      refine ⟨by decide, m + 12, hp3, by show m + 12 ≤ 1000000; omega, by decide, by decide, fun x d4 hx hp4 => ?_⟩
      simp only [List.mem_cons, List.not_mem_nil, or_false] at hx
      have hb : ∃ b : Int, x = .int b ∧ 0 ≤ b ∧ b ≤ 25 := by
        rcases hx with rfl | rfl | rfl | rfl | rfl | rfl | rfl | rfl | rfl | rfl | rfl | rfl <;> exact ⟨_, rfl, by decide, by decide⟩
      obtain ⟨b, rfl, b0, b1⟩ := hb
      exact ⟨by decide, k _ ⟨d4, b, hp4, b0, b1, rfl⟩⟩
    rintro S' ⟨d4, b, hp4, b0, b1, rfl⟩
    refine seq_by (fun S' => ∃ (zs : List Str) (s4 s10 : Sl), (zs.length : Int) = n ∧ (∀ z ∈ zs, Nam z) ∧ S' = [.own true d4, .dat (.int n), .dat (.str "abcdefghijklmnopqrstuvwxyz"), .dat (.str w), s4, .dat (.int a), .dat (.int f), .dat (.int s), .dat (.int b), .own false (.lst (zs.map D.str)), s10]) (fun nx k => ?_) ?_
    · refine fori (irange 0 n.toNat) _ (fun i S' => ∃ (zs : List Str) (s4 s10 : Sl), zs.length = i ∧ (∀ z ∈ zs, Nam z) ∧ (s4 = .no ∨ ∃ d, s4 = .dat d) ∧ (s10 = .no ∨ ∃ d, s10 = .dat d) ∧ S' = [.own true d4, .dat (.int n), .dat (.str "abcdefghijklmnopqrstuvwxyz"), .dat (.str w), s4, .dat (.int a), .dat (.int f), .dat (.int s), .dat (.int b), .own false (.lst (zs.map D.str)), s10])
        (fun Q q => ?_) ⟨[], .no, .no, rfl, by simp, .inl rfl, .inl rfl, rfl⟩ ?_ ?_
      · walk_at "tl"
        exact ⟨by omega, by omega, q⟩
      · rintro i d S hd ⟨zs, s4, s10, hl, hz, e4, e10, rfl⟩
        obtain ⟨hi, rfl⟩ := irange_get hd
        have f4 : ∀ s : Sl, (s = .no ∨ ∃ d, s = .dat d) → (match some s with
          | some (Sl.own true d) => False
          | none => False
          | x => True) := fun s h => by rcases h with rfl | ⟨d, rfl⟩ <;> trivial
        walk_at "tl"
        refine ⟨f4 _ e4, ?_⟩
        have hq : ∃ q : Int, 0 ≤ q ∧ atI [D.int 8, D.int ((0 + (i : Int)) % 3)] s = some (.int q) := by
          rcases hs with rfl | rfl
          · exact ⟨8, by decide, rfl⟩
          · exact ⟨(0 + (i : Int)) % 3, (mod_in _ (by decide)).1, rfl⟩
        obtain ⟨q, q0, hq⟩ := hq
        have g := mod_in (f + b * (0 + (i : Int))) (n := 26) (by decide)
        obtain ⟨cc, hcc, hcm⟩ := atI_mem (xs := (Str.ofString "abcdefghijklmnopqrstuvwxyz").cps.toList) 0 g.1 (by rw [len_cps, letters_len]; exact g.2)
        have l1 : (cutS w none (some a)).length = a.toNat := by
          rw [← len_cps, cutS_to a0, List.length_take, len_cps]; omega
        have l2 : (cutS (cutS w (some (a + 1)) none) none (some q)).length ≤ w.length - (a.toNat + 1) := by
          refine Nat.le_trans cutS_len ?_
          rw [← len_cps, cutS_from (by omega), List.length_drop, len_cps]; omega
        refine ⟨size_small (by omega), by decide, by decide, _, hq, size_small (Nat.le_trans cutS_len (by omega)), f4 _ e10, size_small (by omega), mul_small ⟨by omega, by omega⟩, by decide, by decide, cc, hcc, ?_, ?_, ?_, ?_⟩
        · rw [l1]; exact size_small (by show _ + 1 ≤ _; omega)
        · rw [len_app, l1]; exact size_small (by show a.toNat + 1 + _ ≤ _; omega)
        · rw [List.length_map]; exact size_smallL (by omega)
        · refine ⟨zs ++ [_], _, _, by simp [hl], fun z hzz => ?_, .inr ⟨_, rfl⟩, .inr ⟨_, rfl⟩, by rw [List.map_append]; rfl⟩
          rcases List.mem_append.mp hzz with hzz | hzz
          · exact hz z hzz
          · simp at hzz
            subst hzz
            refine ⟨?_, ?_, ?_⟩
            · rw [len_app, len_app, l1]; show 1 ≤ a.toNat + 1 + _; omega
            · rw [len_app, len_app, l1]; show a.toNat + 1 + _ ≤ 8; omega
            · intro c hc
              rw [cps_app, cps_app] at hc
              rcases List.mem_append.mp hc with hc | hc
              · rcases List.mem_append.mp hc with hc | hc
                · exact w3 c (cutS_mem hc)
                · simp at hc
                  rw [hc]
                  exact letters_asc cc hcm
              · exact w3 c (cutS_mem (cutS_mem hc))
      · rintro S ⟨zs, s4, s10, hl, hz, _, _, rfl⟩
        rw [irange_len] at hl
        exact k _ ⟨zs, s4, s10, by omega, hz, rfl⟩
    rintro S' ⟨zs, s4, s10, hl, hz, rfl⟩
    walk_at "tl"
    exact h zs d4 hl hz hp4
  · exact h.elim
theorem p_law_rhythm : ∀ d0 ds P, c_law_rhythm d0 ds P → u_law_rhythm { nx := first1 P .non, rt := first1 P } (pad (.own true d0 :: dats ds) 3) := by
  intro d0 ds P h
  unfold c_law_rhythm at h
  split at h
  · obtain ⟨m, hp, hm, h⟩ := h
    have hmb : m + 100 ≤ 1000000 := hm
    unfold u_law_rhythm
    refine seq_by (fun S' => ∃ d2 cs, PenI (m + 7) d2 ∧ 1 ≤ cs.length ∧ cs.length ≤ 6 ∧ (∀ c ∈ cs, c = 120 ∨ c = 45) ∧ S' = [.own true d2, .own false (.lst ((ones cs).map D.str)), .no]) (fun nx k => ?_) ?_
    · walk_at "tl"
      unfold uLc
      walk_at "tl"
      refine ⟨m, hp, by show m ≤ 1000000; omega, by decide, by decide, fun r d1 r0 r1 hp1 => ⟨by omega, by omega, ?_⟩⟩
      refine ⟨fun i acc S2 => ∃ d2 cs, PenI (m + 1 + i) d2 ∧ acc = (ones cs).map D.str ∧ cs.length = i ∧ (∀ c ∈ cs, c = 120 ∨ c = 45) ∧ S2 = [.own true d2, .no, .no], ⟨d1, [], hp1, rfl, rfl, by simp, rfl⟩, ?_, ?_⟩
      · rintro i d acc S2 hd ⟨d2, cs, hp2, rfl, hl, hcs, rfl⟩
        obtain ⟨hi, rfl⟩ := irange_get hd
        walk_at "tl"
        refine ⟨by decide, m + 1 + i, hp2, by show m + 1 + i ≤ 1000000; omega, by decide, by decide, fun x d3 hx hp3 => ?_⟩
        have hc : ∃ c, x = .str ⟨#[c]⟩ ∧ (c = 120 ∨ c = 45) := by
          simp only [List.mem_cons, List.not_mem_nil, or_false] at hx
          rcases hx with rfl | rfl | rfl
          · exact ⟨120, by rw [x_code], .inl rfl⟩
          · exact ⟨120, by rw [x_code], .inl rfl⟩
          · exact ⟨45, congrArg D.str (by decide), .inr rfl⟩
        obtain ⟨c, rfl, hc⟩ := hc
        refine ⟨?_, d3, cs ++ [c], hp3, ones_app cs c, by simp [hl], fun c' hc' => ?_, rfl⟩
        · rw [List.length_map, ones_len]; exact size_smallL (by omega)
        · rcases List.mem_append.mp hc' with h | h
          · exact hcs c' h
          · simp at h; subst h; exact hc
      · rintro acc S2 ⟨d2, cs, hp2, rfl, hl, hcs, rfl⟩
        rw [irange_len] at hl hp2
        walk_at "tl"
        exact k _ ⟨d2, cs, hp2.up (by omega), by omega, by omega, hcs, rfl⟩
    rintro S' ⟨d2, cs, hp2, c1, c2, hcs, rfl⟩
    refine seq_by (fun S' => ∃ d2 cs, PenI (m + 8) d2 ∧ 1 ≤ cs.length ∧ cs.length ≤ 6 ∧ (∀ c ∈ cs, c = 120 ∨ c = 45) ∧ 120 ∈ cs ∧ S' = [.own true d2, .own false (.lst ((ones cs).map D.str)), .no]) (fun nx k => ?_) ?_
    · walk_at "tl"
      have hlen : ((ones cs).map D.str).length = cs.length := by rw [List.length_map, ones_len]
      refine ⟨m + 7, hp2, by show m + 7 ≤ 1000000; omega, by rw [hlen]; omega, by rw [hlen]; omega, fun r d3 r0 r1 hp3 => ?_⟩
      rw [hlen] at r1
      refine ⟨r.toNat, by unfold ixN; rw [if_pos r0, hlen, if_pos r1], ?_⟩
      have e : ((ones cs).map D.str).set r.toNat (.str (Str.ofString "x")) = (ones (cs.set r.toNat 120)).map D.str := by
        rw [x_code]; simp [ones, List.map_set]
      rw [e]
      refine k _ ⟨d3, cs.set r.toNat 120, hp3, by rw [List.length_set]; omega, by rw [List.length_set]; omega, fun c hc => ?_, ?_, rfl⟩
      · rcases List.mem_or_eq_of_mem_set hc with hc | hc
        · exact hcs c hc
        · exact .inl hc
      · exact List.mem_set (by omega) _
    rintro S' ⟨d3, cs, hp3, c1, c2, hcs, hx, rfl⟩
    walk_at "tl"
    refine ⟨ones cs, rfl, by rw [ones_sum]; omega, ?_⟩
    refine h _ _ ⟨?_, ?_, ?_, ?_⟩ hp3
    · rw [← len_cps, ones_join]; exact c1
    · rw [← len_cps, ones_join]; exact c2
    · intro c hc; rw [ones_join] at hc; exact hcs c hc
    · rw [ones_join]; exact hx
  · exact h.elim
theorem p_law_odd : ∀ d0 ds P, c_law_odd d0 ds P → u_law_odd { nx := first1 P .non, rt := first1 P } (pad (.own true d0 :: dats ds) 2) := by
  intro d0 ds P h
  unfold c_law_odd at h
  split at h
  · obtain ⟨m, hp, hm, h⟩ := h
    have hmb : m + 100 ≤ 1000000 := hm
    unfold u_law_odd
    refine seq_to [.own true d0, .dat (.lst [.non, .bl true, .bl false, .int 0, .int 1, .int (-1), .int 12, .int 13, .int (10 ^ Int.toNat 60), .int (10 ^ Int.toNat 60 + 1), .str "", .str "a", .str "A", .str "x", .str "-", .str "l", .str "abcdefghi"])] (fun nx k => ?_) ?_
    · walk_at "tl"
      exact ⟨⟨by decide, by decide, by decide⟩, ⟨by decide, by decide, by decide⟩, by decide, k⟩
    walk_at "tl"
    refine ⟨by decide, by decide, by decide, by decide, by decide, by decide, by decide, by decide, by decide, by decide, by decide, by decide, m, hp, by show m ≤ 1000000; omega, by decide, by decide, fun x d1 hx hp1 => h x d1 ?_ hp1⟩
    exact hx
  · exact h.elim
theorem bent_asc : ∀ c ∈ (Str.ofString " !\"#$&'()*+,-./0123456789:;<=>?@ABCDEFGHIJKLMNOPQRSTUVWXYZ[\\]^_`{|}~\n" ++ Str.ofString "abcdefghijklmnopqrstuvwxyz").cps.toList, c < 128 := by decide
theorem bent_len : (Str.ofString " !\"#$&'()*+,-./0123456789:;<=>?@ABCDEFGHIJKLMNOPQRSTUVWXYZ[\\]^_`{|}~\n" ++ Str.ofString "abcdefghijklmnopqrstuvwxyz").length ≤ 1000 ∧ 1 ≤ (Str.ofString " !\"#$&'()*+,-./0123456789:;<=>?@ABCDEFGHIJKLMNOPQRSTUVWXYZ[\\]^_`{|}~\n" ++ Str.ofString "abcdefghijklmnopqrstuvwxyz").length := by decide
theorem eight_asc : ∀ c ∈ (Str.ofString "abcdefgh").cps.toList, c < 128 := by decide
theorem Asc.app {a b : Str} (h : Asc a) (k : Asc b) : Asc (a ++ b) := fun c hc => by
  rw [cps_app] at hc
  rcases List.mem_append.mp hc with hc | hc
  · exact h c hc
  · exact k c hc
theorem Asc.cut {a : Str} {lo hi : Option Int} (h : Asc a) : Asc (cutS a lo hi) := fun c hc => h c (cutS_mem hc)
theorem Asc.one {c : Nat} (h : c < 128) : Asc ⟨#[c]⟩ := fun c' hc => by simp at hc; subst hc; exact h
theorem p_law_bent : ∀ d0 ds P, c_law_bent d0 ds P → u_law_bent { nx := first1 P .non, rt := first1 P } (pad (.own true d0 :: dats ds) 8) := by
  intro d0 ds P h
  unfold c_law_bent at h
  split at h
  · rename_i z
    obtain ⟨m, hp, hm, hz, ha, h⟩ := h
    have hmb : m + 100 ≤ 1000000 := hm
    unfold u_law_bent
    refine seq_by (fun S' => ∃ d2 w, PenI (m + 1) d2 ∧ 0 ≤ w ∧ S' = [.own true d2, .dat (.str z), .dat (.int w), .no, .no, .no, .no, .no]) (fun nx k => ?_) ?_
    · walk_at "tl"
      exact ⟨m, hp, by show m ≤ 1000000; omega, by decide, by decide, fun r d1 r0 r1 hp1 => k _ ⟨d1, r, hp1, r0, rfl⟩⟩
    rintro S' ⟨d2, wy, hp2, hwy, rfl⟩
    refine seq_by (fun _ => False) (fun nx _ => ?_) (fun _ f => f.elim)
    refine if_t (S1 := [.own true d2, .dat (.str z), .dat (.int wy), .no, .no, .no, .no, .no]) (fun Q q => ?_) ?_
    · walk_at "tl"
      exact ⟨"str", rfl, by decide, by rw [show isiT "str" "str" = true by decide]; exact q⟩
    refine seq_to [.own true d2, .dat (.str z), .dat (.int wy), .dat (.str " !\"#$&'()*+,-./0123456789:;<=>?@ABCDEFGHIJKLMNOPQRSTUVWXYZ[\\]^_`{|}~\n"), .no, .no, .no, .no] (fun nx k => ?_) ?_
    · walk_at "tl"
      exact k
    refine seq_to [.own true d2, .dat (.str z), .dat (.int wy), .dat (.str (Str.ofString " !\"#$&'()*+,-./0123456789:;<=>?@ABCDEFGHIJKLMNOPQRSTUVWXYZ[\\]^_`{|}~\n" ++ Str.ofString "abcdefghijklmnopqrstuvwxyz")), .no, .no, .no, .no] (fun nx k => ?_) ?_
    · walk_at "tl"
      exact ⟨by decide, k⟩
    have hb := bent_asc
    have hbl := bent_len
    revert hb hbl
    generalize (Str.ofString " !\"#$&'()*+,-./0123456789:;<=>?@ABCDEFGHIJKLMNOPQRSTUVWXYZ[\\]^_`{|}~\n" ++ Str.ofString "abcdefghijklmnopqrstuvwxyz") = sg
    intro hb hbl
    refine seq_by (fun S' => ∃ d3 a c, PenI (m + 3) d3 ∧ 0 ≤ a ∧ c < 128 ∧ S' = [.own true d3, .dat (.str z), .dat (.int wy), .dat (.str sg), .no, .dat (.int a), .no, .dat (.str ⟨#[c]⟩)]) (fun nx k => ?_) ?_
    · walk_at "tl"
      refine ⟨size_small (by omega), m + 1, hp2, by show m + 1 ≤ 1000000; omega, by omega, by omega, fun a d3 a0 a1 hp3 => ?_⟩
      refine ⟨m + 2, hp3, by show m + 2 ≤ 1000000; omega, hbl.2, by omega, fun c d4 hc hp4 => ?_⟩
      exact k _ ⟨d4, a, c, hp4, a0, hb c hc, rfl⟩
    rintro S' ⟨d3, a, c, hp3, a0, hc, rfl⟩
    have lc : ∀ {lo hi : Option Int}, (cutS z lo hi).length ≤ 100 := Nat.le_trans cutS_len hz
    have l1 : (⟨#[c]⟩ : Str).length = 1 := rfl
    have lz : ∀ b : Int, 0 ≤ b → (cutS z none (some a)).length + (cutS z (some b) none).length ≤ z.length + b.natAbs * 0 + z.length := fun b hb => by
      have h1 := @cutS_len z none (some a)
      have h2 := @cutS_len z (some b) none
      omega
    have lza : ∀ b : Int, a ≤ b → (cutS z none (some a)).length + (cutS z (some b) none).length ≤ z.length := fun b hb => by
      rw [← len_cps, ← len_cps, cutS_to a0, cutS_from (by omega), List.length_take, List.length_drop, len_cps]
      omega
    refine seq_by (fun S' => ∃ x1 x2 x3 : Str, (∀ x ∈ [x1, x2, x3], x.length ≤ z.length + 8 ∧ Asc x) ∧ S' = [.own true d3, .dat (.str z), .dat (.int wy), .dat (.str sg), .dat (.lst [.str x1, .str x2, .str x3]), .dat (.int a), .no, .dat (.str ⟨#[c]⟩)]) (fun nx k => ?_) ?_
    · walk_at "tl"
      have q1 := lza a (by omega)
      have q2 := lza (a + 1) (by omega)
      refine ⟨size_small (by omega), size_small (by rw [l1]; have := @lc none (some a); omega), size_small (by omega), size_small (by rw [len_app, l1]; have := @lc none (some a); have := @lc (some a) none; omega), size_small (by omega), size_small (by omega), size_small (by have := @lc none (some a); have := @lc (some (a + 1)) none; omega),
        size_small (by omega), size_small (by rw [l1]; have := @lc none (some a); omega), size_small (by omega), size_small (by rw [len_app, l1]; have := @lc none (some a); have := @lc (some (a + 1)) none; omega), by decide, k _ ⟨_, _, _, fun x hx => ?_, rfl⟩⟩
      simp only [List.mem_cons, List.not_mem_nil, or_false] at hx
      rcases hx with rfl | rfl | rfl
      · exact ⟨by rw [len_app, len_app, l1]; omega, ((ha.cut).app (Asc.one hc)).app ha.cut⟩
      · exact ⟨by rw [len_app]; omega, (ha.cut).app ha.cut⟩
      · exact ⟨by rw [len_app, len_app, l1]; omega, ((ha.cut).app (Asc.one hc)).app ha.cut⟩
    rintro S' ⟨x1, x2, x3, hx, rfl⟩
    walk_at "tl"
    refine ⟨m + 3, hp3, by show m + 3 ≤ 1000000; omega, by decide, by decide, fun r d4 r0 r1 hp4 => ?_⟩
    have l8 : (cutS (Str.ofString "abcdefgh") (some r) none).length ≤ 8 := Nat.le_trans cutS_len (by decide)
    refine ⟨by decide, size_small (by omega), by decide, by decide, by decide, ?_⟩
    obtain ⟨x, hx1, hx2⟩ := atI_mem (xs := [D.str x1, D.str x2, D.str x3, D.str (z ++ cutS (Str.ofString "abcdefgh") (some r) none)]) .non (mod_in wy (n := 4) (by decide)).1 (mod_in wy (n := 4) (by decide)).2
    refine ⟨x, hx1, ?_⟩
    simp only [List.mem_cons, List.not_mem_nil, or_false] at hx2
    rcases hx2 with rfl | rfl | rfl | rfl
    · exact h _ _ (hx x1 (by simp)).1 (hx x1 (by simp)).2 hp4
    · exact h _ _ (hx x2 (by simp)).1 (hx x2 (by simp)).2 hp4
    · exact h _ _ (hx x3 (by simp)).1 (hx x3 (by simp)).2 hp4
    · exact h _ _ (by rw [len_app]; omega) (ha.app (Asc.cut eight_asc)) hp4
  · exact h.elim
end K01

namespace K01
open PySem L2 TL
local macro_rules | `(tactic| walk_at "tl") => `(tactic| simp only [uRet, uRetF, uRetO, uRetN, uSeq, uNext, uIf, uSet, uSetO, uAsg, uPar2, uPar2F, uPar3, uDrop, uOp, uUn, uVar, uFrz, uC, uB, uAnd, uOr, uNot, uAndV, uOrV, uNotV, uIfE, uChain, uCons, uNil, uTup, uLst, uCB, uCall0, uCall1, uM1, uThaw, uThawT, uDGetO, uDGet, uDPut, uIxO, uSetIt, uApp, uSl, uNone, uSome, uIL, uIT, uIS, uIR1, uIR2, uIES, uDict, uPs, uDict0, uYes,
  gI, gI0, gAdd, gMul, gNeg, eqR, gIn, gIsB, gIx, gSl, gLen, gRepr, gAll, gAbs, gDivmod, gList, gIsi, gCount, gJoin, first1, pad, dats, free, owned, Tg.u, Tg.uL, clr, res, noOwn, frzS, keyD, keysD,
  List.map_cons, List.map_nil, List.length_cons, List.length_nil, List.cons_append, List.nil_append, List.append_nil, List.getElem?_cons_zero, List.getElem?_cons_succ, List.set_cons_zero, List.set_cons_succ, List.replicate, Nat.sub_self, Nat.add_sub_cancel, Nat.reduceAdd, Nat.reduceSub, true_and, and_true, List.getD_cons_zero, List.getD_cons_succ, Bool.false_bne, Bool.true_bne, pen_cells, pen_at, pen_left, pen_sat, pen_sleft, pen_len, penD, flatD, Option.some.injEq, exists_eq_left', exists_eq_left])
/-! ### plain counting -/
def takesL (l : List Nat) (b : Int) : Bool := decide (0 < b) && decide (l.getD ((b - 1) % l.length).toNat 0 = 120)
def timesL (l : List Nat) (b : Int) : Int := b / l.length * (l.count 120 : Nat) + ((l.take (b % l.length).toNat).count 120 : Nat)
def beatL (l : List Nat) (n : Int) : Int := n / (spots l).length * l.length + (spots l).getD (n % (spots l).length).toNat 0
def takenL (l : List Nat) : List Int := ((List.range 40).map fun i => (1 : Int) + (i : Nat)).filter fun b => takesL l b
theorem takes_L (z : Str) : takesF z = takesL z.cps.toList := by funext b; unfold takesF takesL; rw [len_cps]
theorem times_L (z : Str) : timesF z = timesL z.cps.toList := by funext b; unfold timesF timesL; rw [len_cps]
theorem beat_L (z : Str) : beatF z = beatL z.cps.toList := by funext b; unfold beatF beatL; rw [len_cps]
def allL : Nat → List (List Nat)
  | 0 => [[]]
  | n + 1 => (allL n).flatMap fun l => [120 :: l, 45 :: l]
theorem mem_allL : ∀ l : List Nat, (∀ c ∈ l, c = 120 ∨ c = 45) → l ∈ allL l.length
  | [], _ => by simp [allL]
  | c :: l, h => by
    have ih := mem_allL l fun c' hc => h c' (List.mem_cons_of_mem _ hc)
    simp only [List.length_cons, allL, List.mem_flatMap]
    refine ⟨l, ih, ?_⟩
    rcases h c (by simp) with rfl | rfl <;> simp
def factA (l : List Nat) : Bool := (List.range 40).all (fun i => decide (timesL l ((1 : Int) + (i : Nat)) = (((takenL l).filter fun b => decide (b ≤ (1 : Int) + (i : Nat))).length : Nat))) && (List.range (takenL l).length).all (fun k => decide (beatL l (k : Nat) = (takenL l).getD k 0)) && decide ((spots l).length = l.count 120)
def factB (l : List Nat) : Bool := (List.range l.length).all fun r => decide ((r : Int) < beatL l ((l.take r).count 120 : Nat)) && takesL l (beatL l ((l.take r).count 120 : Nat)) && decide (timesL l (beatL l ((l.take r).count 120 : Nat)) = ((l.take r).count 120 : Nat) + 1)
def factsOf (n : Nat) : Bool := (allL n).all fun l => !decide (120 ∈ l) || (factA l && factB l)
theorem facts1 : factsOf 1 = true := by decide +kernel
theorem facts2 : factsOf 2 = true := by decide +kernel
theorem facts3 : factsOf 3 = true := by decide +kernel
theorem facts4 : factsOf 4 = true := by decide +kernel
theorem facts5 : factsOf 5 = true := by decide +kernel
theorem facts6 : factsOf 6 = true := by decide +kernel
theorem facts_of {z : Str} (h : Rhy z) : factA z.cps.toList = true ∧ factB z.cps.toList = true := by
  obtain ⟨h1, h2, h3, h4⟩ := h
  have hm := mem_allL _ h3
  rw [len_cps] at hm
  have hf : factsOf z.length = true := by
    revert h1 h2
    generalize z.length = n
    intro h1 h2
    rcases (by omega : n = 1 ∨ n = 2 ∨ n = 3 ∨ n = 4 ∨ n = 5 ∨ n = 6) with rfl | rfl | rfl | rfl | rfl | rfl
    · exact facts1
    · exact facts2
    · exact facts3
    · exact facts4
    · exact facts5
    · exact facts6
  have q := List.all_eq_true.mp hf _ hm
  simp only [h4, decide_true, Bool.not_true, Bool.false_or, Bool.and_eq_true] at q
  exact q
/-! ### far away -/
theorem takes_far (l : List Nat) (q t : Int) (hl : 0 < l.length) (ht : 0 < t) (hq : 0 ≤ q) : takesL l (q * l.length + t) = takesL l t := by
  unfold takesL
  have e : (q * (l.length : Int) + t - 1) % l.length = (t - 1) % l.length := by
    rw [show q * (l.length : Int) + t - 1 = (t - 1) + q * l.length by omega, Int.add_mul_emod_self_right]
  have h0 : 0 ≤ q * (l.length : Int) := Int.mul_nonneg hq (by omega)
  rw [e, decide_eq_true (show 0 < q * (l.length : Int) + t by omega), decide_eq_true ht]
theorem times_far (l : List Nat) (q t : Int) (hl : 0 < l.length) : timesL l (q * l.length + t) = q * (l.count 120 : Nat) + timesL l t := by
  unfold timesL
  rw [show q * (l.length : Int) + t = t + q * l.length by omega, Int.add_mul_emod_self_right, Int.add_mul_ediv_right _ _ (by omega), Int.add_mul]
  omega
theorem beat_far (l : List Nat) (q j : Int) (hs : 0 < (spots l).length) : beatL l (q * (spots l).length + j) = q * l.length + beatL l j := by
  unfold beatL
  rw [show q * ((spots l).length : Int) + j = j + q * (spots l).length by omega, Int.add_mul_emod_self_right, Int.add_mul_ediv_right _ _ (by omega), Int.add_mul]
  omega
theorem far_all {z : Str} (h : Rhy z) {b : Int} (hb : 0 ≤ b) : b < beatF z (timesF z b) ∧ takesF z (beatF z (timesF z b)) = true ∧ timesF z (beatF z (timesF z b)) = timesF z b + 1 := by
  obtain ⟨fa, fb⟩ := facts_of h
  obtain ⟨h1, h2, h3, h4⟩ := h
  rw [takes_L, times_L, beat_L]
  rw [← len_cps] at h1
  revert fa fb h1 h4
  generalize z.cps.toList = l
  intro fa fb h1 h4
  have hs : (spots l).length = l.count 120 := by
    unfold factA at fa
    simp only [Bool.and_eq_true, decide_eq_true_eq] at fa
    exact fa.2
  have sp := spots_pos h4
  have hm := mod_in b (n := l.length) (by omega)
  have hq : 0 ≤ b / (l.length : Int) := Int.ediv_nonneg hb (by omega)
  have hd := Int.mul_ediv_add_emod b (l.length : Int)
  have q := List.all_eq_true.mp fb (b % l.length).toNat (List.mem_range.mpr (by omega))
  simp only [Bool.and_eq_true, decide_eq_true_eq] at q
  obtain ⟨⟨q1, q2⟩, q3⟩ := q
  have e : timesL l b = b / l.length * (spots l).length + ((l.take (b % l.length).toNat).count 120 : Nat) := by
    rw [hs]; rfl
  have eb : beatL l (timesL l b) = b / l.length * l.length + beatL l ((l.take (b % l.length).toNat).count 120 : Nat) := by
    rw [e, beat_far l _ _ sp]
  have hc : b / (l.length : Int) * l.length = l.length * (b / l.length) := Int.mul_comm _ _
  refine ⟨?_, ?_, ?_⟩
  · rw [eb]; omega
  · rw [eb, takes_far l _ _ (by omega) (by omega) hq]; exact q2
  · rw [eb, times_far l _ _ (by omega), q3, e, hs]; omega
end K01

namespace K01
open PySem L2 TL
local macro_rules | `(tactic| walk_at "tl") => `(tactic| simp only [uRet, uRetF, uRetO, uRetN, uSeq, uNext, uIf, uSet, uSetO, uAsg, uPar2, uPar2F, uPar3, uDrop, uOp, uUn, uVar, uFrz, uC, uB, uAnd, uOr, uNot, uAndV, uOrV, uNotV, uIfE, uChain, uCons, uNil, uTup, uLst, uCB, uCall0, uCall1, uM1, uThaw, uThawT, uDGetO, uDGet, uDPut, uIxO, uSetIt, uApp, uSl, uNone, uSome, uIL, uIT, uIS, uIR1, uIR2, uIES, uDict, uPs, uDict0, uYes,
  gI, gI0, gAdd, gMul, gNeg, eqR, gIn, gIsB, gIx, gSl, gLen, gRepr, gAll, gAbs, gDivmod, gList, gIsi, gCount, gJoin, first1, pad, dats, free, owned, Tg.u, Tg.uL, clr, res, noOwn, frzS, keyD, keysD,
  List.map_cons, List.map_nil, List.length_cons, List.length_nil, List.cons_append, List.nil_append, List.append_nil, List.getElem?_cons_zero, List.getElem?_cons_succ, List.set_cons_zero, List.set_cons_succ, List.replicate, Nat.sub_self, Nat.add_sub_cancel, Nat.reduceAdd, Nat.reduceSub, true_and, and_true, List.getD_cons_zero, List.getD_cons_succ, Bool.false_bne, Bool.true_bne, pen_cells, pen_at, pen_left, pen_sat, pen_sleft, pen_len, penD, flatD, Option.some.injEq, exists_eq_left', exists_eq_left])
theorem ok_bl (b : Bool) : ReprOk (.bl b) := by
  cases b <;> exact ⟨by decide, by decide, by decide, by decide, .inl (by decide)⟩
theorem flat_ints (l : List Int) : (l.map D.int).all flatD = true := by
  rw [List.all_map, List.all_eq_true]
  intro x _; rfl
theorem inF_ints (b : Int) (l : List Int) : inF (.int b) (l.map D.int) = decide (b ∈ l) := by
  unfold inF
  rw [List.any_map]
  induction l with
  | nil => simp
  | cons a l ih =>
    rw [List.any_cons, ih]
    by_cases h : a = b
    · subst h; simp [eqF]
    · have h' : ¬ b = a := fun e => h e.symm
      simp [eqF, h, h']
theorem f_taken (l : List Nat) : (irange 1 40).filterMap (fun d => match d with
    | .int b => if takesL l b = true then some (D.int b) else none
    | _ => none) = (takenL l).map D.int := by
  unfold irange takenL
  rw [List.filterMap_map]
  induction List.range 40 with
  | nil => rfl
  | cons i r ih =>
    rw [List.filterMap_cons, ih, List.map_cons, List.filter_cons]
    by_cases h : takesL l (1 + (i : Nat)) = true
    · simp [h]
    · simp [h]
theorem f_upto (l : List Int) (b : Int) : ((l.map D.int).filterMap (fun d => match d with
    | .int c => if c ≤ b then some (D.int c) else none
    | _ => none)) = (l.filter fun c => decide (c ≤ b)).map D.int := by
  rw [List.filterMap_map]
  induction l with
  | nil => rfl
  | cons c r ih =>
    rw [List.filterMap_cons, ih, List.filter_cons]
    by_cases h : c ≤ b
    · simp [h]
    · simp [h]
theorem taken_len (l : List Nat) : (takenL l).length ≤ 40 := by
  unfold takenL
  exact Nat.le_trans (List.length_filter_le _ _) (by simp)
theorem mem_taken (l : List Nat) {i : Nat} (hi : i < 40) : decide ((1 : Int) + (i : Nat) ∈ takenL l) = takesL l (1 + (i : Nat)) := by
  unfold takenL
  rw [Bool.eq_iff_iff, decide_eq_true_iff, List.mem_filter]
  constructor
  · exact fun h => h.2
  · exact fun h => ⟨List.mem_map.mpr ⟨i, List.mem_range.mpr hi, rfl⟩, h⟩
theorem p_law_counts : ∀ ds P, c_law_counts ds P → u_law_counts { nx := fun _ => P .non, rt := fun d _ => P d } (pad (dats ds) 9) := by
  intro ds P h
  unfold c_law_counts at h
  split at h
  · rename_i z far
    obtain ⟨hz, f0, f1, h⟩ := h
    have hz' := hz
    obtain ⟨h1, h2, h3, h4⟩ := hz'
    have hn : (0 : Int) < z.length := by omega
    obtain ⟨fa, fb⟩ := facts_of hz
    unfold factA at fa
    simp only [Bool.and_eq_true, List.all_eq_true, List.mem_range, decide_eq_true_eq] at fa
    obtain ⟨⟨fa1, fa2⟩, fa3⟩ := fa
    have tl40 := taken_len z.cps.toList
    unfold u_law_counts
    refine seq_to [.dat (.str z), .dat (.int far), .dat (.lst ((takenL z.cps.toList).map D.int)), .no, .no, .no, .no, .no, .no] (fun nx k => ?_) ?_
    · walk_at "tl"
      refine lcp (fun d => match d with
        | .int b => if takesL z.cps.toList b = true then some (D.int b) else none
        | _ => none) (irange 1 40) (fun Q q => ⟨by decide, q⟩) (by rw [irange_len]; decide) ⟨trivial, trivial⟩ (fun d hd Q q => ?_) ?_
      · obtain ⟨i, hi⟩ := List.mem_iff_getElem?.mp hd
        obtain ⟨hi, rfl⟩ := irange_get hi
        walk_at "tl"
        have mi := mod_in (1 + (i : Int) - 1) hn
        refine ⟨size_small (by omega), hn, size_small (by omega), _, atI_of 0 mi.1 (by rw [len_cps]; exact mi.2), ?_⟩
        rw [one_x]
        have e : takesL z.cps.toList (1 + (i : Nat)) = decide (z.cps.toList.getD ((1 + (i : Int) - 1) % z.length).toNat 0 = 120) := by
          unfold takesL
          rw [decide_eq_true (show (0 : Int) < 1 + (i : Nat) by omega), len_cps]; rfl
        rw [← e]
        cases ht : takesL z.cps.toList (1 + (i : Nat)) with
        | true => simpa [ht] using q
        | false => simpa [ht] using q
      · rw [f_taken]; exact ⟨trivial, k⟩
    refine seq_by (fun S' => ∃ s3 : Sl, (s3 = .no ∨ ∃ d, s3 = .dat d) ∧ S' = [.dat (.str z), .dat (.int far), .dat (.lst ((takenL z.cps.toList).map D.int)), s3, .no, .no, .no, .no, .no]) (fun nx k => ?_) ?_
    · refine fori (irange 1 40) _ (fun i S' => ∃ s3 : Sl, (s3 = .no ∨ ∃ d, s3 = .dat d) ∧ S' = [.dat (.str z), .dat (.int far), .dat (.lst ((takenL z.cps.toList).map D.int)), s3, .no, .no, .no, .no, .no]) (fun Q q => ?_) ⟨.no, .inl rfl, rfl⟩ ?_ ?_
      · walk_at "tl"
        exact ⟨by decide, q⟩
      · rintro i d S hd ⟨s3, e3, rfl⟩
        obtain ⟨hi, rfl⟩ := irange_get hd
        have f4 : ∀ s : Sl, (s = .no ∨ ∃ d, s = .dat d) → (match some s with
          | some (Sl.own true d) => False
          | none => False
          | x => True) := fun s h => by rcases h with rfl | ⟨d, rfl⟩ <;> trivial
        walk_at "tl"
        refine ⟨f4 _ e3, hz, by omega, ok_bl _, flat_ints _, ok_bl _, ?_⟩
        rw [inF_ints, mem_taken _ hi, takes_L, decide_eq_true rfl]
        refine ⟨hz, by omega, ?_⟩
        refine lcp (fun d => match d with
          | .int c => if c ≤ 1 + (i : Int) then some (D.int c) else none
          | _ => none) ((takenL z.cps.toList).map D.int) (fun Q q => q) (by rw [List.length_map]; exact size_small (by omega)) ⟨trivial, trivial⟩ (fun d hd Q q => ?_) ?_
        · obtain ⟨c, _, rfl⟩ := List.mem_map.mp hd
          walk_at "tl"
          by_cases hc : c ≤ 1 + (i : Int)
          · rw [decide_eq_true hc]; simpa [hc] using q
          · rw [decide_eq_false hc]; simpa [hc] using q
        · rw [f_upto]
          walk_at "tl"
          unfold c_law_is_number
          walk_at "tl"
          rw [times_L, fa1 i hi, List.length_map, decide_eq_true rfl]
          exact ⟨_, .inr ⟨_, rfl⟩, rfl⟩
      · rintro S ⟨s3, e3, rfl⟩
        exact k _ ⟨s3, e3, rfl⟩
    rintro S' ⟨s3, e3, rfl⟩
    have f4 : ∀ s : Sl, (s = .no ∨ ∃ d, s = .dat d) → (match some s with
      | some (Sl.own true d) => False
      | none => False
      | x => True) := fun s h => by rcases h with rfl | ⟨d, rfl⟩ <;> trivial
    refine seq_by (fun S' => ∃ s4 : Sl, (s4 = .no ∨ ∃ d, s4 = .dat d) ∧ S' = [.dat (.str z), .dat (.int far), .dat (.lst ((takenL z.cps.toList).map D.int)), s3, s4, .no, .no, .no, .no]) (fun nx k => ?_) ?_
    · refine fori (irange 0 (takenL z.cps.toList).length) _ (fun i S' => ∃ s4 : Sl, (s4 = .no ∨ ∃ d, s4 = .dat d) ∧ S' = [.dat (.str z), .dat (.int far), .dat (.lst ((takenL z.cps.toList).map D.int)), s3, s4, .no, .no, .no, .no]) (fun Q q => ?_) ⟨.no, .inl rfl, rfl⟩ ?_ ?_
      · walk_at "tl"
        rw [List.length_map]
        exact ⟨by omega, by omega, q⟩
      · rintro i d S hd ⟨s4, e4, rfl⟩
        obtain ⟨hi, rfl⟩ := irange_get hd
        walk_at "tl"
        refine ⟨f4 _ e4, hz, by omega, _, atI_of (.int 0) (by omega) (by rw [List.length_map]; omega), ?_⟩
        rw [getD_int]
        unfold c_law_is_number
        walk_at "tl"
        rw [beat_L, show (0 : Int) + (i : Nat) = (i : Nat) by omega, Int.toNat_natCast, fa2 i hi, decide_eq_true rfl]
        exact ⟨_, .inr ⟨_, rfl⟩, rfl⟩
      · rintro S ⟨s4, e4, rfl⟩
        exact k _ ⟨s4, e4, rfl⟩
    rintro S' ⟨s4, e4, rfl⟩
    have mi := mod_in far hn
    refine seq_to [.dat (.str z), .dat (.int far), .dat (.lst ((takenL z.cps.toList).map D.int)), s3, s4, .no, .dat (.int (z.cps.toList.count 120 : Nat)), .dat (.int z.length), .no] (fun nx k => ?_) ?_
    · walk_at "tl"
      rw [x_code, count_one]
      exact ⟨size_small (by omega), k⟩
    refine seq_to [.dat (.str z), .dat (.int far), .dat (.lst ((takenL z.cps.toList).map D.int)), s3, s4, .dat (.int (timesF z far)), .dat (.int (z.cps.toList.count 120 : Nat)), .dat (.int z.length), .no] (fun nx k => ?_) ?_
    · walk_at "tl"
      rw [x_code, count_one, cutS_to mi.1]
      have hc : (z.cps.toList.count 120 : Nat) ≤ 6 := by
        have := List.count_le_length (a := 120) (l := z.cps.toList)
        rw [len_cps] at this
        omega
      exact ⟨wide_div (b := 250) hn (Nat.lt_of_le_of_lt (show (z.length : Int).natAbs ≤ 6 by omega) (by decide)) (by decide) (by decide), mul_small' ⟨by omega, by omega⟩, hn, size_small (by omega), k⟩
    refine seq_to [.dat (.str z), .dat (.int far), .dat (.lst ((takenL z.cps.toList).map D.int)), s3, s4, .dat (.int (timesF z far)), .dat (.int (z.cps.toList.count 120 : Nat)), .dat (.int z.length), .no] (fun nx k => ?_) ?_
    · walk_at "tl"
      refine ⟨hz, f0, ?_⟩
      unfold c_law_is_number
      walk_at "tl"
      exact k
    refine seq_to [.dat (.str z), .dat (.int far), .dat (.lst ((takenL z.cps.toList).map D.int)), s3, s4, .dat (.int (timesF z far)), .dat (.int (z.cps.toList.count 120 : Nat)), .dat (.int z.length), .no] (fun nx k => ?_) ?_
    · walk_at "tl"
      refine ⟨hz, by omega, ok_bl _, hn, size_small (by omega), _, atI_of 0 mi.1 (by rw [len_cps]; exact mi.2), ok_bl _, ?_⟩
      rw [one_x]
      have e : takesF z (far + 1) = decide (z.cps.toList.getD (far % z.length).toNat 0 = 120) := by
        unfold takesF
        rw [decide_eq_true (show 0 < far + 1 by omega), show far + 1 - 1 = far by omega]; rfl
      rw [e, decide_eq_true rfl]
      exact k
    obtain ⟨g1, g2, g3⟩ := far_all hz f0
    have tn : 0 ≤ timesF z far := by
      unfold timesF
      have := Int.mul_nonneg (Int.ediv_nonneg f0 (Int.le_of_lt hn)) (Int.natCast_nonneg (z.cps.toList.count 120))
      omega
    refine seq_to [.dat (.str z), .dat (.int far), .dat (.lst ((takenL z.cps.toList).map D.int)), .dat (.int (beatF z (timesF z far))), s4, .dat (.int (timesF z far)), .dat (.int (z.cps.toList.count 120 : Nat)), .dat (.int z.length), .no] (fun nx k => ?_) ?_
    · walk_at "tl"
      exact ⟨hz, tn, f4 _ e3, k⟩
    walk_at "tl"
    rw [decide_eq_true g1]
    refine ⟨hz, by omega, ?_⟩
    rw [g2]
    refine ⟨hz, by omega, ?_⟩
    rw [g3]
    show P (.bl (decide (timesF z far + 1 = timesF z far + 1)))
    rw [decide_eq_true rfl]
    exact h
  · exact h.elim
end K01

namespace K01
open PySem L2 TL
local macro_rules | `(tactic| walk_at "tl") => `(tactic| simp only [uRet, uRetF, uRetO, uRetN, uSeq, uNext, uIf, uSet, uSetO, uAsg, uPar2, uPar2F, uPar3, uDrop, uOp, uUn, uVar, uFrz, uC, uB, uAnd, uOr, uNot, uAndV, uOrV, uNotV, uIfE, uChain, uCons, uNil, uTup, uLst, uCB, uCall0, uCall1, uM1, uThaw, uThawT, uDGetO, uDGet, uDPut, uIxO, uSetIt, uApp, uSl, uNone, uSome, uIL, uIT, uIS, uIR1, uIR2, uIES, uDict, uPs, uDict0, uYes,
  gI, gI0, gAdd, gMul, gNeg, eqR, gIn, gIsB, gIx, gSl, gLen, gRepr, gAll, gAbs, gDivmod, gList, gIsi, gCount, gJoin, first1, pad, dats, free, owned, Tg.u, Tg.uL, clr, res, noOwn, frzS, keyD, keysD,
  List.map_cons, List.map_nil, List.length_cons, List.length_nil, List.cons_append, List.nil_append, List.append_nil, List.getElem?_cons_zero, List.getElem?_cons_succ, List.set_cons_zero, List.set_cons_succ, List.replicate, Nat.sub_self, Nat.add_sub_cancel, Nat.reduceAdd, Nat.reduceSub, true_and, and_true, List.getD_cons_zero, List.getD_cons_succ, Bool.false_bne, Bool.true_bne, pen_cells, pen_at, pen_left, pen_sat, pen_sleft, pen_len, penD, flatD, Option.some.injEq, exists_eq_left', exists_eq_left])
/-! ### the things asked of -/
def Ok (x : D) : Prop := Th x ∧ ReprOk x
theorem ok_str {z : Str} (hl : z.length ≤ 5000) (ha : Asc z) : Ok (.str z) := by
  refine ⟨⟨⟨"str", rfl⟩, fun y e => ?_⟩, rfl, rfl, ?_, by simp [toP, PyData.depth], .inl rfl⟩
  · cases e; exact ⟨by omega, ha⟩
  · exact size_small (Nat.le_trans (shown_asc ha) (by omega))
theorem ok_lst1 {z : Str} (hl : z.length ≤ 5000) (ha : Asc z) : Ok (.lst [.str z]) := by
  refine ⟨⟨⟨"list", rfl⟩, fun y e => by cases e⟩, rfl, rfl, ?_, by simp [toP, toPs, PyData.depth, PyData.depthAll], .inl rfl⟩
  have h := shown_asc ha
  refine size_small ?_
  have e : shownD (.lst [.str z]) = "[" ++ (shownD (.str z)) ++ "]" := by
    unfold shownD
    simp only [toP, toPs, PyData.shown, PyData.shownAll]
    rfl
  rw [e, len_app, len_app]
  have e1 : (Str.ofString "[").length = 1 := by decide
  have e2 : (Str.ofString "]").length = 1 := by decide
  rw [e1, e2]
  omega
def okB (x : D) : Bool := isP x && (toP x).showable && decide ((shownD x).length ≤ 1000) && decide ((toP x).depth ≤ 60) && (!(toP x).hasDict || noL x) && (tyN x).isSome && (match x with
  | .str z => decide (z.length ≤ 1000) && z.cps.toList.all (fun c => decide (c < 128))
  | _ => true)
theorem ok_of {x : D} (h : okB x = true) : Ok x := by
  unfold okB at h
  simp only [Bool.and_eq_true, decide_eq_true_eq] at h
  obtain ⟨⟨⟨⟨⟨⟨h1, h2⟩, h3⟩, h4⟩, h5⟩, h6⟩, h7⟩ := h
  refine ⟨⟨Option.isSome_iff_exists.mp h6, fun z e => ?_⟩, h1, h2, size_small (by omega), h4, ?_⟩
  · subst e
    simp only [Bool.and_eq_true, decide_eq_true_eq, List.all_eq_true] at h7
    exact ⟨by omega, h7.2⟩
  · rw [Bool.or_eq_true] at h5
    rcases h5 with h5 | h5
    · exact .inl (by simpa using h5)
    · exact .inr h5
theorem odd_ok : ∀ x ∈ oddL, Ok x := by
  have : oddL.all okB = true := by decide +kernel
  exact fun x hx => ok_of (List.all_eq_true.mp this x hx)
theorem ok_two (a b : Bool) : ReprOk (.lst [.bl a, .bl b]) := by
  cases a <;> cases b <;> exact ⟨by decide, by decide, by decide, by decide, .inl (by decide)⟩
theorem repS_asc {z : Str} {n : Nat} (h : Asc z) : Asc (repS z n) := by
  intro c hc
  unfold repS at hc
  simp only [List.mem_flatten, List.mem_replicate] at hc
  obtain ⟨l, ⟨_, rfl⟩, hc⟩ := hc
  exact h c hc
theorem Rhy.asc {z : Str} (h : Rhy z) : Asc z := fun c hc => by
  rcases h.2.2.1 c hc with rfl | rfl <;> decide
def Fre (s : Sl) : Prop := s = .no ∨ ∃ d, s = .dat d
theorem Fre.ok {s : Sl} (h : Fre s) : (match some s with
    | some (Sl.own true d) => False
    | none => False
    | x => True) := by rcases h with rfl | ⟨d, rfl⟩ <;> trivial
theorem x_asc : Asc "x" := by unfold Asc; decide
theorem d_asc : Asc "-" := by unfold Asc; decide
theorem xd_asc : Asc "x-" := by unfold Asc; decide
theorem p_law : ∀ ds P, c_law ds P → u_law { nx := fun _ => P .non, rt := fun d _ => P d } (pad (dats ds) 11) := by
  intro ds P h
  unfold c_law at h
  split at h
  · rename_i ns
    obtain ⟨hns, h⟩ := h
    unfold u_law
    refine seq_by (fun S' => ∃ d1, PenI 0 d1 ∧ S' = [.dat (.scr ns), .own false d1, .no, .no, .no, .no, .no, .no, .no, .no, .no]) (fun nx k => ?_) ?_
    · walk_at "tl"
      exact ⟨hns, fun d hd => k _ ⟨d, hd, rfl⟩⟩
    rintro S' ⟨d1, hp1, rfl⟩
    refine seq_by (fun S' => True) (fun nx k => ?_) ?_
    · refine fori (irange 0 6) _ (fun i S' => ∃ d1 s2 s3 s4 s5 s6 s7 s8 s9, PenI (40 * i) d1 ∧ Fre s2 ∧ Fre s3 ∧ Fre s4 ∧ Fre s5 ∧ Fre s6 ∧ Fre s7 ∧ Fre s8 ∧ Fre s9 ∧ S' = [.dat (.scr ns), .own false d1, s2, s3, s4, s5, s6, s7, s8, s9, .no]) (fun Q q => ?_) ⟨d1, .no, .no, .no, .no, .no, .no, .no, .no, hp1, .inl rfl, .inl rfl, .inl rfl, .inl rfl, .inl rfl, .inl rfl, .inl rfl, .inl rfl, rfl⟩ ?_ (fun S _ => k S trivial)
      · walk_at "tl"
        exact ⟨by decide, by decide, q⟩
      rintro i d S hd ⟨d1, s2, s3, s4, s5, s6, s7, s8, s9, hp1, e2, e3, e4, e5, e6, e7, e8, e9, rfl⟩
      obtain ⟨hi, rfl⟩ := irange_get hd
      have hm : many = 1000000 := rfl
      simp only [Tg.u]
      refine ⟨e2.ok, ?_⟩
      refine seq_by (fun S' => ∃ d1 w z, PenI (40 * i + 21) d1 ∧ Nam w ∧ Rhy z ∧ S' = [.dat (.scr ns), .own false d1, .dat (.int (0 + (i : Nat))), s3, s4, s5, s6, .dat (.str w), .dat (.str z), s9, .no]) (fun nx k => ?_) ?_
      · walk_at "tl"
        refine ⟨40 * i, hp1, by omega, by decide, by decide, fun zs d2 hl hz hp2 => ?_⟩
        obtain ⟨w, rfl⟩ : ∃ w, zs = [w] := List.length_eq_one_iff.mp (by omega)
        refine ⟨_, rfl, 40 * i + 13, hp2, by omega, fun z d3 hz3 hp3 => ⟨e7.ok, e8.ok, k _ ⟨d3, w, z, hp3, hz w (by simp), hz3, rfl⟩⟩⟩
      rintro S' ⟨d2, w, z, hp2, ⟨w1, w2, w3⟩, hz, rfl⟩
      have za := hz.asc
      obtain ⟨z1, z2, _, _⟩ := id hz
      refine seq_by (fun S' => ∃ d1 x y, PenI (40 * i + 29) d1 ∧ x.length ≤ 16 ∧ Asc x ∧ y.length ≤ 16 ∧ Asc y ∧ S' = [.dat (.scr ns), .own false d1, .dat (.int (0 + (i : Nat))), .dat (.lst [.str x, .str y]), s4, s5, s6, .dat (.str w), .dat (.str z), s9, .no]) (fun nx k => ?_) ?_
      · walk_at "tl"
        refine ⟨40 * i + 21, hp2, by omega, by omega, w3, fun x d3 xl xa hp3 => ?_⟩
        refine ⟨40 * i + 25, hp3, by omega, by omega, za, fun y d4 yl ya hp4 => ?_⟩
        exact ⟨by decide, e3.ok, k _ ⟨d4, x, y, hp4, by omega, xa, by omega, ya, rfl⟩⟩
      rintro S' ⟨d3, x, y, hp3, xl, xa, yl, ya, rfl⟩
      refine seq_by (fun S' => ∃ d1 things, PenI (40 * i + 30) d1 ∧ things.length = 10 ∧ (∀ x ∈ things, Ok x) ∧ S' = [.dat (.scr ns), .own false d1, .dat (.int (0 + (i : Nat))), .dat (.lst [.str x, .str y]), .dat (.lst things), s5, s6, .dat (.str w), .dat (.str z), s9, .no]) (fun nx k => ?_) ?_
      · walk_at "tl"
        refine ⟨⟨by decide, z1, by show _ * 2 ≤ _; omega⟩, ⟨by decide, by decide, by decide⟩, ⟨by decide, by decide, by decide⟩, ⟨by decide, by decide, by decide⟩, ⟨by decide, w1, by show _ * 400 ≤ _; omega⟩, ⟨by decide, by decide, by decide⟩, ?_⟩
        refine ⟨40 * i + 29, hp3, by omega, fun od d4 hod hp4 => ⟨by decide, by decide, e4.ok, k _ ⟨d4, _, hp4, ?_, fun t ht => ?_, rfl⟩⟩⟩
        · rfl
        · simp only [List.mem_cons, List.not_mem_nil, or_false] at ht
          rcases ht with rfl | rfl | rfl | rfl | rfl | rfl | rfl | rfl | rfl | rfl
          · exact ok_str (by omega) w3
          · exact ok_str (by omega) za
          · exact ok_str (by rw [repS_len]; show 2 * _ ≤ _; omega) (repS_asc za)
          · exact ok_str (by rw [repS_len]; decide) (repS_asc x_asc)
          · exact ok_str (by rw [repS_len]; decide) (repS_asc x_asc)
          · exact ok_str (by rw [repS_len]; decide) (repS_asc d_asc)
          · exact ok_str (by rw [repS_len]; show 400 * _ ≤ _; omega) (repS_asc w3)
          · exact ok_str (by rw [repS_len]; decide) (repS_asc xd_asc)
          · exact odd_ok _ hod
          · exact ok_lst1 (by omega) w3
      rintro S' ⟨d4, things, hp4, htl, hth, rfl⟩
      refine seq_by (fun S' => ∃ d1 s5 s9, PenI (40 * i + 38) d1 ∧ Fre s5 ∧ Fre s9 ∧ S' = [.dat (.scr ns), .own false d1, .dat (.int (0 + (i : Nat))), .dat (.lst [.str x, .str y]), .dat (.lst things), s5, s6, .dat (.str w), .dat (.str z), s9, .no]) (fun nx k => ?_) ?_
      · have key : ∀ (xs : List D) (d5 : D), PenI (40 * i + 38) d5 → (∀ t ∈ xs, Ok t) → ∃ I : Nat → Ss → Prop, I 0 [.dat (.scr ns), .own false d5, .dat (.int (0 + (i : Nat))), .dat (.lst [.str x, .str y]), .dat (.lst things), s5, s6, .dat (.str w), .dat (.str z), s9, .no] ∧ (∀ (j : Nat) (d : D) (S : Ss), xs[j]? = some d → I j S → (Tg.nm 5).u d S fun S2 => (uSeq (uSet 9 (uCB gRepr (uCons (uVar 5) uNil)))
            (uIf (uOr (uB (uOp (eqR true) (uCB gRepr (uCons (uLst (uCons (uCall0 c_is_name (uCons (uVar 5) uNil)) (uCons (uCall0 c_is_rhythm (uCons (uVar 5) uNil)) uNil))) uNil)) (uCB gRepr (uCons (uCall0 c_law_truths (uCons (uVar 5) uNil)) uNil)))) (uB (uOp (eqR true) (uCB gRepr (uCons (uVar 5) uNil)) (uVar 9)))) (uRet (uC (.bl false))) uNext))
            { nx := I (j + 1), rt := fun d _ => P d, bk := nx, ct := I (j + 1) } S2) ∧ ∀ S, I xs.length S → nx S := by
          intro xs d5 hp5 hxs
          refine ⟨fun _ S' => ∃ s5 s9, Fre s5 ∧ Fre s9 ∧ S' = [.dat (.scr ns), .own false d5, .dat (.int (0 + (i : Nat))), .dat (.lst [.str x, .str y]), .dat (.lst things), s5, s6, .dat (.str w), .dat (.str z), s9, .no], ⟨s5, s9, e5, e9, rfl⟩, ?_, ?_⟩
          · rintro j t S ht ⟨s5, s9, e5, e9, rfl⟩
            obtain ⟨t1, t2⟩ := hxs t (List.mem_of_getElem? ht)
            walk_at "tl"
            refine ⟨e5.ok, t2, e9.ok, t1, t1, by decide, ok_two _ _, t1, ok_two _ _, ?_⟩
            rw [decide_eq_true rfl]
            exact ⟨t2, _, _, .inr ⟨_, rfl⟩, .inr ⟨_, rfl⟩, rfl⟩
          · rintro S ⟨s5, s9, e5, e9, rfl⟩
            exact k _ ⟨d5, s5, s9, hp5, e5, e9, rfl⟩
        have it : ∀ Q : List D → Ss → Prop, (∀ xs d5, PenI (40 * i + 38) d5 → (∀ t ∈ xs, Ok t) → Q xs [.dat (.scr ns), .own false d5, .dat (.int (0 + (i : Nat))), .dat (.lst [.str x, .str y]), .dat (.lst things), s5, s6, .dat (.str w), .dat (.str z), s9, .no]) → (uIL (uOp gAdd (uOp gAdd (uVar 4) (uVar 3)) (uLc (uIL (uVar 3)) (.nm 10) uYes (uCall1 c_law_bent 1 (uCons (uVar 10) uNil)) [10]))) [.dat (.scr ns), .own false d4, .dat (.int (0 + (i : Nat))), .dat (.lst [.str x, .str y]), .dat (.lst things), s5, s6, .dat (.str w), .dat (.str z), s9, .no] Q := by
          intro Q q
          walk_at "tl"
          refine ⟨by rw [htl]; decide, ?_⟩
          unfold uLc
          walk_at "tl"
          refine ⟨fun j acc S2 => ∃ d5 ys, PenI (40 * i + 30 + 4 * j) d5 ∧ acc = ys.map D.str ∧ ys.length = j ∧ (∀ y ∈ ys, y.length ≤ 100 ∧ Asc y) ∧ S2 = [.dat (.scr ns), .own false d5, .dat (.int (0 + (i : Nat))), .dat (.lst [.str x, .str y]), .dat (.lst things), s5, s6, .dat (.str w), .dat (.str z), s9, .no], ⟨d4, [], hp4, rfl, rfl, by simp, rfl⟩, ?_, ?_⟩
          · rintro j t acc S2 ht ⟨d5, ys, hp5, rfl, hl, hys, rfl⟩
            have hj : j < 2 := lt_of ht
            obtain ⟨u, rfl, ul, ua⟩ : ∃ u, t = .str u ∧ u.length ≤ 16 ∧ Asc u := by
              have := List.mem_of_getElem? ht
              simp only [List.mem_cons, List.not_mem_nil, or_false] at this
              rcases this with rfl | rfl
              · exact ⟨_, rfl, xl, xa⟩
              · exact ⟨_, rfl, yl, ya⟩
            walk_at "tl"
            refine ⟨40 * i + 30 + 4 * j, hp5, by omega, by omega, ua, fun v d6 vl va hp6 => ⟨?_, d6, ys ++ [v], hp6, by simp, by simp [hl], fun y' hy' => ?_, rfl⟩⟩
            · rw [List.length_map]; exact size_smallL (by omega)
            · rcases List.mem_append.mp hy' with h | h
              · exact hys y' h
              · simp at h; subst h; exact ⟨by omega, va⟩
          · rintro acc S2 ⟨d5, ys, hp5, rfl, hl, hys, rfl⟩
            have hl2 : ys.length = 2 := hl
            refine ⟨?_, ?_⟩
            · rw [List.length_append, List.length_map, htl, hl2]; show 10 + 2 + 2 ≤ sizeLine; decide
            refine q _ d5 hp5 fun t ht => ?_
            rcases List.mem_append.mp ht with ht | ht
            · rcases List.mem_append.mp ht with ht | ht
              · exact hth t ht
              · simp only [List.mem_cons, List.not_mem_nil, or_false] at ht
                rcases ht with rfl | rfl
                · exact ok_str (by omega) xa
                · exact ok_str (by omega) ya
            · obtain ⟨y', hy', rfl⟩ := List.mem_map.mp ht
              obtain ⟨q1, q2⟩ := hys y' hy'
              exact ok_str (by omega) q2
        exact it _ key
      rintro S' ⟨d5, s5, s9, hp5, e5, e9, rfl⟩
      refine seq_by (fun S' => ∃ d1 far, PenI (40 * i + 40) d1 ∧ 0 ≤ far ∧ far ≤ 10 ^ 60 ∧ S' = [.dat (.scr ns), .own false d1, .dat (.int (0 + (i : Nat))), .dat (.lst [.str x, .str y]), .dat (.lst things), s5, .dat (.int far), .dat (.str w), .dat (.str z), s9, .no]) (fun nx k => ?_) ?_
      · walk_at "tl"
        have e60 : (10 : Int) ^ Int.toNat 60 = 10 ^ 60 := rfl
        rw [e60]
        refine ⟨⟨by decide, by decide, by decide⟩, 40 * i + 38, hp5, by omega, by decide, by decide, fun r d6 r0 r1 hp6 => ?_⟩
        refine ⟨⟨by decide, by decide, by decide⟩, by decide, 40 * i + 39, hp6, by omega, by show 1 ≤ 3; decide, by show 3 ≤ 100000; decide, fun t d7 ht hp7 => ⟨e6.ok, ?_⟩⟩
        simp only [List.mem_cons, List.not_mem_nil, or_false] at ht
        rcases ht with rfl | rfl | rfl
        · exact k _ ⟨d7, _, hp7, r0, by omega, rfl⟩
        · exact k _ ⟨d7, _, hp7, by decide, by decide, rfl⟩
        · exact k _ ⟨d7, _, hp7, by decide, by decide, rfl⟩
      rintro S' ⟨d6, far, hp6, f0, f1, rfl⟩
      walk_at "tl"
      refine ⟨hz, by decide, ?_⟩
      rw [show timesF z 0 = 0 by unfold timesF; simp]
      exact ⟨hz, f0, f1, d6, _, _, _, _, _, _, _, _, hp6, .inr ⟨_, rfl⟩, .inr ⟨_, rfl⟩, .inr ⟨_, rfl⟩, e5, .inr ⟨_, rfl⟩, .inr ⟨_, rfl⟩, .inr ⟨_, rfl⟩, e9, rfl⟩
    intro S' _
    walk_at "tl"
    exact h
  · exact h.elim
end K01

namespace K01
open PySem PySem.Spec PyProof.Rows L2 TL
theorem law_want (ns : List Int) (h : ns.length ≤ 63) (_ : ∀ z ∈ ns, Builtin.Int.intBits z ≤ 1048576) : c_law [.scr ns] fun d => d = .bl true := ⟨h, rfl⟩
def dd_is_text_of : He.DefD := ⟨("is_text_of", none), "is_text_of", "is_text_of", defArgs s_is_text_of, defBody s_is_text_of, defScope s_is_text_of, [], []⟩
def dd_is_name : He.DefD := ⟨("is_name", none), "is_name", "is_name", defArgs s_is_name, defBody s_is_name, defScope s_is_name, [], []⟩
def dd_is_rhythm : He.DefD := ⟨("is_rhythm", none), "is_rhythm", "is_rhythm", defArgs s_is_rhythm, defBody s_is_rhythm, defScope s_is_rhythm, [], []⟩
def dd_takes : He.DefD := ⟨("takes", none), "takes", "takes", defArgs s_takes, defBody s_takes, defScope s_takes, [], []⟩
def dd_times_of : He.DefD := ⟨("times_of", none), "times_of", "times_of", defArgs s_times_of, defBody s_times_of, defScope s_times_of, [], []⟩
def dd_beat_of : He.DefD := ⟨("beat_of", none), "beat_of", "beat_of", defArgs s_beat_of, defBody s_beat_of, defScope s_beat_of, [], []⟩
def dd_law_pen : He.DefD := ⟨("_law_pen", none), "_law_pen", "_law_pen", defArgs s_law_pen, defBody s_law_pen, defScope s_law_pen, [], []⟩
def dd_law_draw : He.DefD := ⟨("_law_draw", none), "_law_draw", "_law_draw", defArgs s_law_draw, defBody s_law_draw, defScope s_law_draw, [], []⟩
def dd_law_pick : He.DefD := ⟨("_law_pick", none), "_law_pick", "_law_pick", defArgs s_law_pick, defBody s_law_pick, defScope s_law_pick, [], []⟩
def dd_law_names : He.DefD := ⟨("_law_names", none), "_law_names", "_law_names", defArgs s_law_names, defBody s_law_names, defScope s_law_names, [], []⟩
def dd_law_rhythm : He.DefD := ⟨("_law_rhythm", none), "_law_rhythm", "_law_rhythm", defArgs s_law_rhythm, defBody s_law_rhythm, defScope s_law_rhythm, [], []⟩
def dd_law_odd : He.DefD := ⟨("_law_odd", none), "_law_odd", "_law_odd", defArgs s_law_odd, defBody s_law_odd, defScope s_law_odd, [], []⟩
def dd_law_bent : He.DefD := ⟨("_law_bent", none), "_law_bent", "_law_bent", defArgs s_law_bent, defBody s_law_bent, defScope s_law_bent, [], []⟩
def dd_law_are_signs : He.DefD := ⟨("_law_are_signs", none), "_law_are_signs", "_law_are_signs", defArgs s_law_are_signs, defBody s_law_are_signs, defScope s_law_are_signs, [], []⟩
def dd_law_truths : He.DefD := ⟨("_law_truths", none), "_law_truths", "_law_truths", defArgs s_law_truths, defBody s_law_truths, defScope s_law_truths, [], []⟩
def dd_law_is_number : He.DefD := ⟨("_law_is_number", none), "_law_is_number", "_law_is_number", defArgs s_law_is_number, defBody s_law_is_number, defScope s_law_is_number, [], []⟩
def dd_law_counts : He.DefD := ⟨("_law_counts", none), "_law_counts", "_law_counts", defArgs s_law_counts, defBody s_law_counts, defScope s_law_counts, [], []⟩
def dd_law : He.DefD := ⟨("law", none), "law", "law", defArgs s_law, defBody s_law, defScope s_law, [], []⟩
def fnL : List He.DefD := [dd_is_text_of, dd_is_name, dd_is_rhythm, dd_takes, dd_times_of, dd_beat_of, dd_law_pen, dd_law_draw, dd_law_pick, dd_law_names, dd_law_rhythm, dd_law_odd, dd_law_bent, dd_law_are_signs, dd_law_truths, dd_law_is_number, dd_law_counts, dd_law]
def faL : List He.Fa := [.glo "is_text_of", .glo "is_name", .glo "is_rhythm", .glo "takes", .glo "times_of", .glo "beat_of", .glo "_law_pen", .glo "_law_draw", .glo "_law_pick", .glo "_law_names", .glo "_law_rhythm", .glo "_law_odd", .glo "_law_bent", .glo "_law_are_signs", .glo "_law_truths", .glo "_law_is_number", .glo "_law_counts", .glo "law", .free "str", .free "isinstance", .free "len", .free "all", .free "divmod", .free "enumerate", .free "list", .free "abs", .free "range", .free "int", .free "bool", .free "repr", .str "LETTERS" "abcdefghijklmnopqrstuvwxyz", .int "MOST_LETTERS" 8, .int "MOST_SIGNS" 6]
abbrev RwL : PySem.W.OpenRow := PySem.W.OpenLaw.row PySem.Challenge.rw_holdgates_k01_names_and_rhythms
abbrev hkL : PySem.W.Hook := He.hookD 4 faL fnL
def obL (s : PySem.W.SharedT) : He.AlD := He.obsDG 4 faL fnL (HandSHeadRun.getT s)
theorem obL_eq (s : PySem.W.SharedT) : obL s = hkL.obs s.abs := He.obsDG_eq (HandSHeadRun.getT_eq s)
theorem runL (w : World) : HandSHeadRun.RunEq RwL (PySem.W.view RwL.prog [22]) hkL obL 1500 ["LETTERS", "MOST_LETTERS", "MOST_SIGNS", "is_text_of", "is_name", "is_rhythm", "takes", "times_of", "beat_of", "_law_pen", "_law_draw", "_law_pick", "_law_names", "_law_rhythm", "_law_odd", "_law_bent", "_law_are_signs", "_law_truths", "_law_is_number", "_law_counts"] w := by
  intro os
  kernel_rfl
theorem factsL {P : Program} {w : World} {K : PySem.W.Frag} {h : Heap} {mg : Str → Option Value} {f : Addr} (X : K.In h) (G : h.Ns mainGlobals mg) (hfa : mg ("law" : Str) = some (.ref f)) (c : He.SaysD faL fnL K) :
    ∃ fd : FuncData, (∀ (s : Shared) (v : Value), BindsTo s fd ⟨[v], []⟩ [("_law_script", v)]) ∧ ∀ base : Heap, K.In base → base.Ns mainGlobals mg → FnG P w K mg base CX0 4 f fd ["_law_script"] (sp0 K false c_law) := by
  obtain ⟨fd_is_text_of, D_is_text_of⟩ := c.def_ 0 (d := dd_is_text_of) rfl
  have a_is_text_of := He.glo_ok X G (c.fact 0 (f := .glo "is_text_of") rfl)
  have b_is_text_of : Binds K fd_is_text_of ["thing", "signs", "most"] [] := D_is_text_of.bindsN fun _ _ _ _ _ _ us hl => match us, hl with | [_, _, _], _ => rfl
  obtain ⟨fd_is_name, D_is_name⟩ := c.def_ 1 (d := dd_is_name) rfl
  have a_is_name := He.glo_ok X G (c.fact 1 (f := .glo "is_name") rfl)
  have b_is_name : Binds K fd_is_name ["thing"] [] := D_is_name.bindsN fun _ _ _ _ _ _ us hl => match us, hl with | [_], _ => rfl
  obtain ⟨fd_is_rhythm, D_is_rhythm⟩ := c.def_ 2 (d := dd_is_rhythm) rfl
  have a_is_rhythm := He.glo_ok X G (c.fact 2 (f := .glo "is_rhythm") rfl)
  have b_is_rhythm : Binds K fd_is_rhythm ["thing"] [] := D_is_rhythm.bindsN fun _ _ _ _ _ _ us hl => match us, hl with | [_], _ => rfl
  obtain ⟨fd_takes, D_takes⟩ := c.def_ 3 (d := dd_takes) rfl
  have a_takes := He.glo_ok X G (c.fact 3 (f := .glo "takes") rfl)
  have b_takes : Binds K fd_takes ["rhythm", "beat"] [] := D_takes.bindsN fun _ _ _ _ _ _ us hl => match us, hl with | [_, _], _ => rfl
  obtain ⟨fd_times_of, D_times_of⟩ := c.def_ 4 (d := dd_times_of) rfl
  have a_times_of := He.glo_ok X G (c.fact 4 (f := .glo "times_of") rfl)
  have b_times_of : Binds K fd_times_of ["rhythm", "beat"] [] := D_times_of.bindsN fun _ _ _ _ _ _ us hl => match us, hl with | [_, _], _ => rfl
  obtain ⟨fd_beat_of, D_beat_of⟩ := c.def_ 5 (d := dd_beat_of) rfl
  have a_beat_of := He.glo_ok X G (c.fact 5 (f := .glo "beat_of") rfl)
  have b_beat_of : Binds K fd_beat_of ["rhythm", "number"] [] := D_beat_of.bindsN fun _ _ _ _ _ _ us hl => match us, hl with | [_, _], _ => rfl
  obtain ⟨fd_law_pen, D_law_pen⟩ := c.def_ 6 (d := dd_law_pen) rfl
  have a_law_pen := He.glo_ok X G (c.fact 6 (f := .glo "_law_pen") rfl)
  have b_law_pen : Binds K fd_law_pen ["_law_script"] [] := D_law_pen.bindsN fun _ _ _ _ _ _ us hl => match us, hl with | [_], _ => rfl
  obtain ⟨fd_law_draw, D_law_draw⟩ := c.def_ 7 (d := dd_law_draw) rfl
  have a_law_draw := He.glo_ok X G (c.fact 7 (f := .glo "_law_draw") rfl)
  have b_law_draw : Binds K fd_law_draw ["_law_pen_here", "_law_many"] [] := D_law_draw.bindsN fun _ _ _ _ _ _ us hl => match us, hl with | [_, _], _ => rfl
  obtain ⟨fd_law_pick, D_law_pick⟩ := c.def_ 8 (d := dd_law_pick) rfl
  have a_law_pick := He.glo_ok X G (c.fact 8 (f := .glo "_law_pick") rfl)
  have b_law_pick : Binds K fd_law_pick ["_law_pen_here", "_law_some"] [] := D_law_pick.bindsN fun _ _ _ _ _ _ us hl => match us, hl with | [_, _], _ => rfl
  obtain ⟨fd_law_names, D_law_names⟩ := c.def_ 9 (d := dd_law_names) rfl
  have a_law_names := He.glo_ok X G (c.fact 9 (f := .glo "_law_names") rfl)
  have b_law_names : Binds K fd_law_names ["_law_pen_here", "_law_many"] [] := D_law_names.bindsN fun _ _ _ _ _ _ us hl => match us, hl with | [_, _], _ => rfl
  obtain ⟨fd_law_rhythm, D_law_rhythm⟩ := c.def_ 10 (d := dd_law_rhythm) rfl
  have a_law_rhythm := He.glo_ok X G (c.fact 10 (f := .glo "_law_rhythm") rfl)
  have b_law_rhythm : Binds K fd_law_rhythm ["_law_pen_here"] [] := D_law_rhythm.bindsN fun _ _ _ _ _ _ us hl => match us, hl with | [_], _ => rfl
  obtain ⟨fd_law_odd, D_law_odd⟩ := c.def_ 11 (d := dd_law_odd) rfl
  have a_law_odd := He.glo_ok X G (c.fact 11 (f := .glo "_law_odd") rfl)
  have b_law_odd : Binds K fd_law_odd ["_law_pen_here"] [] := D_law_odd.bindsN fun _ _ _ _ _ _ us hl => match us, hl with | [_], _ => rfl
  obtain ⟨fd_law_bent, D_law_bent⟩ := c.def_ 12 (d := dd_law_bent) rfl
  have a_law_bent := He.glo_ok X G (c.fact 12 (f := .glo "_law_bent") rfl)
  have b_law_bent : Binds K fd_law_bent ["_law_pen_here", "_law_thing"] [] := D_law_bent.bindsN fun _ _ _ _ _ _ us hl => match us, hl with | [_, _], _ => rfl
  obtain ⟨fd_law_are_signs, D_law_are_signs⟩ := c.def_ 13 (d := dd_law_are_signs) rfl
  have a_law_are_signs := He.glo_ok X G (c.fact 13 (f := .glo "_law_are_signs") rfl)
  have b_law_are_signs : Binds K fd_law_are_signs ["_law_thing", "_law_signs", "_law_most"] [] := D_law_are_signs.bindsN fun _ _ _ _ _ _ us hl => match us, hl with | [_, _, _], _ => rfl
  obtain ⟨fd_law_truths, D_law_truths⟩ := c.def_ 14 (d := dd_law_truths) rfl
  have a_law_truths := He.glo_ok X G (c.fact 14 (f := .glo "_law_truths") rfl)
  have b_law_truths : Binds K fd_law_truths ["_law_thing"] [] := D_law_truths.bindsN fun _ _ _ _ _ _ us hl => match us, hl with | [_], _ => rfl
  obtain ⟨fd_law_is_number, D_law_is_number⟩ := c.def_ 15 (d := dd_law_is_number) rfl
  have a_law_is_number := He.glo_ok X G (c.fact 15 (f := .glo "_law_is_number") rfl)
  have b_law_is_number : Binds K fd_law_is_number ["_law_told", "_law_due"] [] := D_law_is_number.bindsN fun _ _ _ _ _ _ us hl => match us, hl with | [_, _], _ => rfl
  obtain ⟨fd_law_counts, D_law_counts⟩ := c.def_ 16 (d := dd_law_counts) rfl
  have a_law_counts := He.glo_ok X G (c.fact 16 (f := .glo "_law_counts") rfl)
  have b_law_counts : Binds K fd_law_counts ["_law_rhythm_here", "_law_far"] [] := D_law_counts.bindsN fun _ _ _ _ _ _ us hl => match us, hl with | [_, _], _ => rfl
  obtain ⟨fd_law, D_law⟩ := c.def_ 17 (d := dd_law) rfl
  have a_law := He.glo_ok X G (c.fact 17 (f := .glo "law") rfl)
  have m_str := He.free_ok X G (c.fact 18 (f := .free "str") rfl)
  have m_isinstance := He.free_ok X G (c.fact 19 (f := .free "isinstance") rfl)
  have m_len := He.free_ok X G (c.fact 20 (f := .free "len") rfl)
  have m_all := He.free_ok X G (c.fact 21 (f := .free "all") rfl)
  have m_divmod := He.free_ok X G (c.fact 22 (f := .free "divmod") rfl)
  have m_enumerate := He.free_ok X G (c.fact 23 (f := .free "enumerate") rfl)
  have m_list := He.free_ok X G (c.fact 24 (f := .free "list") rfl)
  have m_abs := He.free_ok X G (c.fact 25 (f := .free "abs") rfl)
  have m_range := He.free_ok X G (c.fact 26 (f := .free "range") rfl)
  have m_int := He.free_ok X G (c.fact 27 (f := .free "int") rfl)
  have m_bool := He.free_ok X G (c.fact 28 (f := .free "bool") rfl)
  have m_repr := He.free_ok X G (c.fact 29 (f := .free "repr") rfl)
  have g_LETTERS := He.str_ok X G (c.fact 30 (f := .str "LETTERS" "abcdefghijklmnopqrstuvwxyz") rfl)
  have g_MOST_LETTERS := He.int_ok X G (c.fact 31 (f := .int "MOST_LETTERS" 8) rfl)
  have g_MOST_SIGNS := He.int_ok X G (c.fact 32 (f := .int "MOST_SIGNS" 6) rfl)
  have e := hfa.symm.trans a_law
  cases e
  have b := FunD.bindsA (ps := ["_law_script"]) D_law fun _ _ _ _ _ _ us hl => match us, hl with | [_], _ => rfl
  refine ⟨fd_law, fun s v => b s [v] rfl, fun base _ _ => ?_⟩
  have F_is_text_of : Fn0 P w K mg base 1 "is_text_of" false c_is_text_of := .mk' (def0 D_is_text_of sc_is_text_of (by intro ds P h; unfold c_is_text_of at h; split at h <;> first | rfl | exact h.elim) (fun cdv A outer s H E hr hg => d_is_text_of m_str m_isinstance m_len m_all hr hg) p_is_text_of) a_is_text_of D_is_text_of.kp b_is_text_of
  have F_is_name : Fn0 P w K mg base 2 "is_name" false c_is_name := .mk' (def0 D_is_name sc_is_name (by intro ds P h; unfold c_is_name at h; split at h <;> first | rfl | exact h.elim) (fun cdv A outer s H E hr hg => d_is_name F_is_text_of g_LETTERS g_MOST_LETTERS hr hg) p_is_name) a_is_name D_is_name.kp b_is_name
  have F_is_rhythm : Fn0 P w K mg base 2 "is_rhythm" false c_is_rhythm := .mk' (def0 D_is_rhythm sc_is_rhythm (by intro ds P h; unfold c_is_rhythm at h; split at h <;> first | rfl | exact h.elim) (fun cdv A outer s H E hr hg => d_is_rhythm F_is_text_of g_MOST_SIGNS hr hg) p_is_rhythm) a_is_rhythm D_is_rhythm.kp b_is_rhythm
  have F_takes : Fn0 P w K mg base 1 "takes" false c_takes := .mk' (def0 D_takes sc_takes (by intro ds P h; unfold c_takes at h; split at h <;> first | rfl | exact h.elim) (fun cdv A outer s H E hr hg => d_takes m_len hr hg) p_takes) a_takes D_takes.kp b_takes
  have F_times_of : Fn0 P w K mg base 1 "times_of" false c_times_of := .mk' (def0 D_times_of sc_times_of (by intro ds P h; unfold c_times_of at h; split at h <;> first | rfl | exact h.elim) (fun cdv A outer s H E hr hg => d_times_of m_len m_divmod hr hg) p_times_of) a_times_of D_times_of.kp b_times_of
  have F_beat_of : Fn0 P w K mg base 1 "beat_of" false c_beat_of := .mk' (def0 D_beat_of sc_beat_of (by intro ds P h; unfold c_beat_of at h; split at h <;> first | rfl | exact h.elim) (fun cdv A outer s H E hr hg => d_beat_of m_enumerate m_len m_divmod hr hg) p_beat_of) a_beat_of D_beat_of.kp b_beat_of
  have F_law_pen : Fn0 P w K mg base 1 "_law_pen" true c_law_pen := .mk' (def0F D_law_pen sc_law_pen (by intro ds P h; unfold c_law_pen at h; split at h <;> first | rfl | exact h.elim) (fun cdv A outer s H E hr hg => d_law_pen m_list hr hg) p_law_pen) a_law_pen D_law_pen.kp b_law_pen
  have F_law_draw : Fn1 P w K mg base 1 "_law_draw" false c_law_draw := .mk' (def1 D_law_draw sc_law_draw (by intro d0 ds P h; unfold c_law_draw at h; split at h <;> first | rfl | exact h.elim) (fun cdv A outer s H E hr hg => d_law_draw m_len m_abs hr hg) p_law_draw) a_law_draw D_law_draw.kp b_law_draw
  have F_law_pick : Fn1 P w K mg base 2 "_law_pick" false c_law_pick := .mk' (def1 D_law_pick sc_law_pick (by intro d0 ds P h; unfold c_law_pick at h; split at h <;> first | rfl | exact h.elim) (fun cdv A outer s H E hr hg => d_law_pick F_law_draw m_len hr hg) p_law_pick) a_law_pick D_law_pick.kp b_law_pick
  have F_law_names : Fn1 P w K mg base 3 "_law_names" false c_law_names := .mk' (def1 D_law_names sc_law_names (by intro d0 ds P h; unfold c_law_names at h; split at h <;> first | rfl | exact h.elim) (fun cdv A outer s H E hr hg => d_law_names F_law_draw m_range F_law_pick m_len hr hg) p_law_names) a_law_names D_law_names.kp b_law_names
  have F_law_rhythm : Fn1 P w K mg base 3 "_law_rhythm" false c_law_rhythm := .mk' (def1 D_law_rhythm sc_law_rhythm (by intro d0 ds P h; unfold c_law_rhythm at h; split at h <;> first | rfl | exact h.elim) (fun cdv A outer s H E hr hg => d_law_rhythm F_law_draw m_range F_law_pick m_len hr hg) p_law_rhythm) a_law_rhythm D_law_rhythm.kp b_law_rhythm
  have F_law_odd : Fn1 P w K mg base 3 "_law_odd" false c_law_odd := .mk' (def1 D_law_odd sc_law_odd (by intro d0 ds P h; unfold c_law_odd at h; split at h <;> first | rfl | exact h.elim) (fun cdv A outer s H E hr hg => d_law_odd F_law_pick hr hg) p_law_odd) a_law_odd D_law_odd.kp b_law_odd
  have F_law_bent : Fn1 P w K mg base 3 "_law_bent" false c_law_bent := .mk' (def1 D_law_bent sc_law_bent (by intro d0 ds P h; unfold c_law_bent at h; split at h <;> first | rfl | exact h.elim) (fun cdv A outer s H E hr hg => d_law_bent F_law_draw m_str m_isinstance m_len F_law_pick hr hg) p_law_bent) a_law_bent D_law_bent.kp b_law_bent
  have F_law_are_signs : Fn0 P w K mg base 1 "_law_are_signs" false c_law_are_signs := .mk' (def0 D_law_are_signs sc_law_are_signs (by intro ds P h; unfold c_law_are_signs c_is_text_of at h; split at h <;> first | rfl | exact h.elim) (fun cdv A outer s H E hr hg => d_law_are_signs m_str m_isinstance m_len hr hg) p_law_are_signs) a_law_are_signs D_law_are_signs.kp b_law_are_signs
  have F_law_truths : Fn0 P w K mg base 2 "_law_truths" false c_law_truths := .mk' (def0 D_law_truths sc_law_truths (by intro ds P h; unfold c_law_truths at h; split at h <;> first | rfl | exact h.elim) (fun cdv A outer s H E hr hg => d_law_truths F_law_are_signs hr hg) p_law_truths) a_law_truths D_law_truths.kp b_law_truths
  have F_law_is_number : Fn0 P w K mg base 1 "_law_is_number" false c_law_is_number := .mk' (def0 D_law_is_number sc_law_is_number (by intro ds P h; unfold c_law_is_number at h; split at h <;> first | rfl | exact h.elim) (fun cdv A outer s H E hr hg => d_law_is_number m_int m_isinstance m_bool hr hg) p_law_is_number) a_law_is_number D_law_is_number.kp b_law_is_number
  have F_law_counts : Fn0 P w K mg base 2 "_law_counts" false c_law_counts := .mk' (def0 D_law_counts sc_law_counts (by intro ds P h; unfold c_law_counts at h; split at h <;> first | rfl | exact h.elim) (fun cdv A outer s H E hr hg => d_law_counts m_range m_len F_takes m_repr F_law_is_number F_times_of F_beat_of hr hg) p_law_counts) a_law_counts D_law_counts.kp b_law_counts
  exact def0 D_law sc_law (by intro ds P h; unfold c_law at h; split at h <;> first | rfl | exact h.elim) (fun cdv A outer s H E hr hg => d_law F_law_pen m_range F_law_names F_law_rhythm F_law_bent F_law_odd m_repr F_is_name F_is_rhythm F_law_truths F_law_pick F_law_draw F_times_of F_law_counts hr hg) p_law
end K01
open PySem PySem.W PySem.Calls PyProof.Rows
theorem PySem.Challenge.cw_holdgates_k01_names_and_rhythms_holds : PySem.Challenge.rw_holdgates_k01_names_and_rhythms.Holds := by
  w_on; o_law
  refine HandSHeadRun.head_any (r := OpenLaw.row PySem.Challenge.rw_holdgates_k01_names_and_rhythms) (q := view (OpenLaw.row PySem.Challenge.rw_holdgates_k01_names_and_rhythms).prog [22]) (H := K01.hkL) (ob := K01.obL) (M := 1500) (loose := ["LETTERS", "MOST_LETTERS", "MOST_SIGNS", "is_text_of", "is_name", "is_rhythm", "takes", "times_of", "beat_of", "_law_pen", "_law_draw", "_law_pick", "_law_names", "_law_rhythm", "_law_odd", "_law_bent", "_law_are_signs", "_law_truths", "_law_is_number", "_law_counts"]) (d := HandSHeadRun.topDef (OpenLaw.row PySem.Challenge.rw_holdgates_k01_names_and_rhythms).prog 22) (kwd := []) K01.obL_eq
    (by kernel_rfl) (fun s => by kernel_rfl) K01.runL (by kernel_rfl) (by kernel_rfl) (by kernel_rfl) (by rfl) (by first | assumption | decide +kernel) (by decide +kernel) ⟨rfl, rfl, rfl, rfl, rfl, by decide +kernel⟩ ?hw ?hc
  case hw => w_witness2
  case hc =>
    refine TL.law_end (l := PySem.Challenge.rw_holdgates_k01_names_and_rhythms) (n := 63) (k := 4) (x := "_law_script") rfl (by decide) (by kernel_rfl) ⟨rfl, by decide, by decide⟩ ?F
    intro w mg fa h Y G hmg0
    obtain ⟨K, KX, c⟩ := Y
    have hmg : mg ("law" : PySem.Str) = some (.ref fa) := by
      have e : (HandSHeadRun.topDef (OpenLaw.row PySem.Challenge.rw_holdgates_k01_names_and_rhythms).prog 22).name = ("law" : PySem.Str) := by kernel_rfl
      rw [← e]
      exact hmg0
    obtain ⟨fd, hb, hF⟩ := K01.factsL (P := (PySem.Challenge.rw_holdgates_k01_names_and_rhythms).prog) (w := w) KX G hmg c
    exact ⟨K, fd, K01.c_law, KX, hb, K01.law_want, hF⟩
