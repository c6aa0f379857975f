import PyProof.Rows.All
import Wide.All
import OpenK.AllK
import Wide.FinOn
import HandS.ForMost
import HandS.Exc
import HandS.ExcOwn
import HandS.WordsExc
import HandS.TryOnly
import HandS.Deep
import HandS.Flow
import HandS.Style
import HandS.Wide
import HandS.DictComp
import HandS.Zip
import HandS.HeadEnd
import HandS.HeadHook1
import HandS.HeadHook2
import KE.SortData
import KE.KDictKeyed
import HandS.TupAny
import HandS.TupMul
import HandS.TupLe
import HandS.IsInst
import HandS.Small
import HandS.TupSets
import KE.KeyNested
import PyProof.WalksMore
import HandS.RaiseMore
import KE.DataFind
import PySem.Challenge.RW_onlytheseen_k10_plain_ones_and_twos_told
set_option Elab.async false
set_option linter.all false
set_option maxRecDepth 100000
set_option autoImplicit false
set_option exponentiation.threshold 600000
namespace PL
open PySem PySem.Spec PyProof.Rows L2

abbrev St := L2.St
abbrev D := PyData
abbrev KF := PySem.W.Frag

/-! data and what stands in the heap -/
def keyD : Key → D
  | .inl i => .int i
  | .inr x => .str x
mutual
inductive Rp (K : KF) (F : Hp) : V → D → Prop
  | non : Rp K F .non .none
  | bl (b : Bool) : Rp K F (.bl b) (.bool b)
  | int (i : Int) : Rp K F (.int i) (.int i)
  | str (x : Str) : Rp K F (.str x) (.str x)
  | lst {a : Addr} {xs : List V} {ds : List D} : SqL K F a xs → Rps K F xs ds → Rp K F (.ref a) (.list ds)
  | tup {a : Addr} {xs : List V} {ds : List D} : SqT K F a xs → Rps K F xs ds → Rp K F (.ref a) (.tuple ds)
  | dct {a : Addr} {kv : List (Key × V)} {kvs : List (D × D)} : Rd F a (.dK kv) → Rks K F kv kvs → Rp K F (.ref a) (.dict kvs)
inductive Rps (K : KF) (F : Hp) : List V → List D → Prop
  | nil : Rps K F [] []
  | cons {v : V} {vs : List V} {d : D} {ds : List D} : Rp K F v d → Rps K F vs ds → Rps K F (v :: vs) (d :: ds)
inductive Rks (K : KF) (F : Hp) : List (Key × V) → List (D × D) → Prop
  | nil : Rks K F [] []
  | cons {k : Key} {v : V} {d : D} {kv : List (Key × V)} {kvs : List (D × D)} : Rp K F v d → Rks K F kv kvs → Rks K F ((k, v) :: kv) ((keyD k, d) :: kvs)
end

def plainO : HO → Prop
  | .frz _ _ => False
  | _ => True
/-- what could be read in F can be read in F' -/
def Ext (F F' : Hp) : Prop := ∀ a u, plainO u → Rd F a u → Rd F' a u
theorem Ext.refl {F : Hp} : Ext F F := fun _ _ _ h => h
theorem Ext.trans {F G H : Hp} (a : Ext F G) (b : Ext G H) : Ext F H := fun x u p h => b x u p (a x u p h)
theorem Ext.sqL {K : KF} {F F' : Hp} (e : Ext F F') {a : Addr} {xs : List V} (h : SqL K F a xs) : SqL K F' a xs := h.imp (e a _ trivial) id
theorem Ext.sqT {K : KF} {F F' : Hp} (e : Ext F F') {a : Addr} {xs : List V} (h : SqT K F a xs) : SqT K F' a xs := h.imp (e a _ trivial) id
mutual
theorem Rp.mono {K : KF} {F F' : Hp} (e : Ext F F') : ∀ {v : V} {d : D}, Rp K F v d → Rp K F' v d
  | _, _, .non => .non
  | _, _, .bl b => .bl b
  | _, _, .int i => .int i
  | _, _, .str x => .str x
  | _, _, .lst h t => .lst (e.sqL h) (Rps.mono e t)
  | _, _, .tup h t => .tup (e.sqT h) (Rps.mono e t)
  | _, _, .dct h t => .dct (e _ _ trivial h) (Rks.mono e t)
theorem Rps.mono {K : KF} {F F' : Hp} (e : Ext F F') : ∀ {v : List V} {d : List D}, Rps K F v d → Rps K F' v d
  | _, _, .nil => .nil
  | _, _, .cons h t => .cons (Rp.mono e h) (Rps.mono e t)
theorem Rks.mono {K : KF} {F F' : Hp} (e : Ext F F') : ∀ {v : List (Key × V)} {d : List (D × D)}, Rks K F v d → Rks K F' v d
  | _, _, .nil => .nil
  | _, _, .cons h t => .cons (Rp.mono e h) (Rks.mono e t)
end
/-- what a mutable object of one's own holds -/
def OwnAt (K : KF) (F H : Hp) (a : Addr) : D → Prop
  | .list ds => ∃ vs, H a = some (.lst vs) ∧ Rps K F vs ds
  | .dict kvs => ∃ kv, H a = some (.dK kv) ∧ Rks K F kv kvs
  | _ => False
theorem OwnAt.has {K : KF} {F H : Hp} {a : Addr} : ∀ {d : D}, OwnAt K F H a d → ∃ o, H a = some o ∧ plainO o
  | .list _, ⟨_, h, _⟩ => ⟨_, h, trivial⟩
  | .dict _, ⟨_, h, _⟩ => ⟨_, h, trivial⟩
theorem OwnAt.mono {K : KF} {F F' H H' : Hp} {a : Addr} (e : Ext F F') (eh : H' a = H a) : ∀ {d : D}, OwnAt K F H a d → OwnAt K F' H' a d
  | .list _, ⟨vs, h, r⟩ => ⟨vs, eh.trans h, r.mono e⟩
  | .dict _, ⟨vs, h, r⟩ => ⟨vs, eh.trans h, r.mono e⟩

inductive W where
  | d (x : D)
  | o (x : D)
def W.own : W → Bool
  | .d _ => false
  | .o _ => true
def W.dat : W → D
  | .d x => x
  | .o x => x
def RelW (K : KF) (F G H : Hp) (v : V) : W → Prop
  | .d x => Rp K F v x
  | .o x => ∃ a, v = .ref a ∧ F a = none ∧ G a = none ∧ OwnAt K F H a x

structure Slot where
  tg : Nat
  w : W
abbrev Env' := List (Option Slot)

structure Sta (K : KF) (ps : List V) (F G H : Hp) (σ : St) (env : Env') : Prop where
  fh : Ext F H
  fn : ∀ a, H a = none → F a = none
  gh : ∀ a o, G a = some o → H a = some o
  fg : ∀ a, G a ≠ none → F a = none
  len : env.length = σ.length
  slot : ∀ (i : Nat) (s : Slot), env[i]? = some (some s) → ∃ v, σ[i]? = some (some v) ∧ RelW K F G H v s.w ∧ ∀ (k : Nat), s.tg = k + 1 → ps[k]? = some v
  sep : ∀ (i j : Nat) (s t : Slot), i ≠ j → env[i]? = some (some s) → env[j]? = some (some t) → s.w.own = true → t.w.own = true → σ[i]? ≠ σ[j]?

/-- results of expressions: data, an own slot's object, a new object of one's own -/
inductive R where
  | d (x : D)
  | at (i : Nat)
  | new (x : D)
def RelR (K : KF) (F G H : Hp) (σ : St) (env : Env') (v : V) : R → Prop
  | .d x => Rp K F v x
  | .at i => σ[i]? = some (some v)
  | .new x => ∃ a, v = .ref a ∧ F a = none ∧ G a = none ∧ OwnAt K F H a x ∧ ∀ (i : Nat) (s : Slot), env[i]? = some (some s) → s.w.own = true → σ[i]? ≠ some (some v)

inductive Res (α : Type) where
  | ok (a : α) (e : Env')
  | ex (c : Str) (x : D) (e : Env')
  | no
def Res.bind {α β : Type} : Res α → (α → Env' → Res β) → Res β
  | .ok a e, k => k a e
  | .ex c x e, _ => .ex c x e
  | .no, _ => .no
abbrev M (α : Type) := Env' → Res α

/-- an exception's class by its name, its value -/
def ExR (X : Cx) (F H : Hp) (cls : Value) (dd : Option Addr) (c : Str) (x : D) : Prop :=
  ∃ C a v, X.mg c = some (.ref C) ∧ cls = .ref C ∧ dd = some a ∧ H a = some (.xd [("value", v)]) ∧ Rp X.K F v x

def Post {α : Type} (X : Cx) (ps : List V) (F G : Hp) (σ : St) (P : α → Env' → Hp → Hp → Prop) : Res α → Prop
  | .ok r e => ∀ F' H', Ext F F' → Sta X.K ps F' G H' σ e → P r e F' H'
  | .ex c x e => ∃ W, Takes X W ∧ ∀ cls dd F' H', Ext F F' → Sta X.K ps F' G H' σ e → ExR X F' H' cls dd c x → W cls dd σ H'
  | .no => False
theorem Post.mono {α : Type} {X : Cx} {ps : List V} {F F1 G : Hp} {σ : St} {P : α → Env' → Hp → Hp → Prop} (e : Ext F F1) : ∀ {m : Res α}, Post X ps F G σ P m → Post X ps F1 G σ P m
  | .ok r _, h => fun F' H' e' S => h F' H' (e.trans e') S
  | .ex _ _ _, ⟨W, t, h⟩ => ⟨W, t, fun cls dd F' H' e' S => h cls dd F' H' (e.trans e') S⟩
theorem Post.bind {α β : Type} {X : Cx} {ps : List V} {F G : Hp} {σ : St} {P : β → Env' → Hp → Hp → Prop} {m : Res α} {k : α → Env' → Res β} (h : Post X ps F G σ P (m.bind k))
    {P' : α → Env' → Hp → Hp → Prop} (hp : ∀ r e F' H', Ext F F' → Sta X.K ps F' G H' σ e → Post X ps F' G σ P (k r e) → P' r e F' H') : Post X ps F G σ P' m := by
  cases m with
  | ok r e => exact fun F' H' e' S => hp r e F' H' e' S (Post.mono e' h)
  | ex c x e => exact h
  | no => exact h

/-- any rule's reading -/
def tU (X : Cx) (e : Expr) : TE := fun σ H Q => ∃ t, PE X e t ∧ t σ H Q
theorem peU {X : Cx} {e : Expr} : PE X e (tU X e) := ⟨fun pins s σ H Q I ⟨_, h, q⟩ => h.run pins s σ H Q I q⟩
def ttU (X : Cx) (e : Expr) : TT := fun σ H Q => ∃ t, PT X e t ∧ t σ H Q
theorem ptU {X : Cx} {e : Expr} : PT X e (ttU X e) := ⟨fun pins s σ H Q I ⟨_, h, q⟩ => h.run pins s σ H Q I q⟩
def taU (X : Cx) (es : List Expr) : TA := fun σ H Q => ∃ t, PA X es t ∧ t σ H Q
theorem paU {X : Cx} {es : List Expr} : PA X es (taU X es) := ⟨fun pos pins s σ H Q I ⟨_, h, q⟩ => h.run pos pins s σ H Q I q⟩

def SE (X : Cx) (e : Expr) (m : M R) : Prop := ∀ ps F G H σ env Q, Sta X.K ps F G H σ env →
  Post X ps F G σ (fun r e' F' H' => ∀ v, RelR X.K F' G H' σ e' v r → Q v H') (m env) → tU X e σ H Q
def ST (X : Cx) (e : Expr) (m : M Bool) : Prop := ∀ ps F G H σ env Q, Sta X.K ps F G H σ env →
  Post X ps F G σ (fun b e' F' H' => Q b H') (m env) → ttU X e σ H Q

/-! getting at the data of a result -/
def get : R → Env' → Option D
  | .d x, _ => some x
  | .at i, env => match env[i]? with
    | some (some s) => some s.w.dat
    | _ => none
  | .new x, _ => some x
/-- readable data -/
def Rq (K : KF) (F H : Hp) (v : V) (x : D) : Prop := Rp K F v x ∨ ∃ a, v = .ref a ∧ OwnAt K F H a x
end PL

namespace PL
open PySem PySem.Spec PyProof.Rows L2
section
variable {K : KF} {ps : List V} {F F' G H : Hp} {σ : St} {env : Env'} {a p : Addr} {o : HO} {x : D} {v : V}

theorem plain_rd {u : HO} (h : F a = some o) (po : plainO o) (r : Rd F a u) : u = o := by
  rcases r with r | ⟨z, r⟩
  · rw [h] at r; exact (Option.some.inj r).symm
  · rw [h] at r; cases r; exact po.elim
theorem Ext.upd (h : F a = none) : Ext F (upd F a o) := fun b u pu r => by
  by_cases e : b = a
  · subst e
    rcases r with r | ⟨z, r⟩ <;> (rw [h] at r; cases r)
  · rcases r with r | ⟨z, r⟩
    · exact .inl (by rw [upd_ne e]; exact r)
    · exact .inr ⟨z, by rw [upd_ne e]; exact r⟩
theorem Ext.upd_ne (e : Ext F H) (h : F a = none) : Ext F (L2.upd H a o) := fun b u pu r => by
  have hb : b ≠ a := by
    rintro rfl
    rcases r with r | ⟨z, r⟩ <;> (rw [h] at r; cases r)
  rcases e b u pu r with r | ⟨z, r⟩
  · exact .inl (by rw [L2.upd_ne hb]; exact r)
  · exact .inr ⟨z, by rw [L2.upd_ne hb]; exact r⟩
theorem RelW.mono {H' : Hp} {w : W} (e : Ext F F') (hn : ∀ a, w.own = true → v = .ref a → F a = none → F' a = none ∧ H' a = H a) : RelW K F G H v w → RelW K F' G H' v w := by
  intro h
  cases w with
  | d y => exact Rp.mono e h
  | o y =>
    obtain ⟨b, rfl, hF, hG, ho⟩ := h
    obtain ⟨h1, h2⟩ := hn b rfl rfl hF
    exact ⟨b, rfl, h1, hG, ho.mono e h2⟩

theorem Sta.fnone (S : Sta K ps F G H σ env) (h : H p = none) : F p = none ∧ G p = none := ⟨S.fn p h, by
  cases q : G p with
  | none => rfl
  | some u => rw [S.gh p u q] at h; cases h⟩
/-- an own slot's object -/
theorem Sta.own (S : Sta K ps F G H σ env) {i : Nat} {s : Slot} (he : env[i]? = some (some s)) (hw : s.w = .o x) : ∃ a o, σ[i]? = some (some (.ref a)) ∧ F a = none ∧ G a = none ∧ H a = some o ∧ plainO o ∧ OwnAt K F H a x := by
  obtain ⟨v, h1, h2, _⟩ := S.slot i s he
  rw [hw] at h2
  obtain ⟨a, rfl, hF, hG, ho⟩ := h2
  obtain ⟨o, e, po⟩ := ho.has
  exact ⟨a, o, h1, hF, hG, e, po, ho⟩
/-- a new object -/
theorem Sta.alloc (S : Sta K ps F G H σ env) (hp : H p = none) : Sta K ps F G (upd H p o) σ env where
  fh := S.fh.upd_ne (S.fn p hp)
  fn := fun b h => by
    by_cases e : b = p
    · subst e; exact S.fn _ hp
    · rw [upd_ne e] at h; exact S.fn b h
  gh := fun b u q => by
    by_cases e : b = p
    · subst e; rw [S.gh _ u q] at hp; cases hp
    · rw [upd_ne e]; exact S.gh b u q
  fg := S.fg
  len := S.len
  slot := fun i s he => by
    obtain ⟨v, h1, h2, h3⟩ := S.slot i s he
    refine ⟨v, h1, RelW.mono Ext.refl (fun b hw e hF => ⟨hF, ?_⟩) h2, h3⟩
    obtain ⟨t, w⟩ := s
    cases w with
    | d y => cases hw
    | o y =>
      obtain ⟨c, e', _, _, ho⟩ := h2
      rw [e] at e'; cases e'
      obtain ⟨u, hu, _⟩ := ho.has
      exact upd_ne (ne_of_none hu hp)
  sep := S.sep
theorem OwnAt.frz {o : HO} (ho : OwnAt K F H a x) (h : H a = some o) (hF : F a = none) : Rp K (upd F a o) (.ref a) x := by
  cases x with
  | list ds =>
    obtain ⟨vs, e, r⟩ := ho
    rw [h] at e; cases e
    exact .lst (.inl (.inl upd_same)) (r.mono (Ext.upd hF))
  | dict ds =>
    obtain ⟨vs, e, r⟩ := ho
    rw [h] at e; cases e
    exact .dct (.inl upd_same) (r.mono (Ext.upd hF))
  | _ => exact False.elim ho
/-- F grows by an object that stands, and is no slot's -/
theorem Sta.grow (S : Sta K ps F G H σ env) (hF : F a = none) (hG : G a = none) (h : H a = some o) (po : plainO o) (hs : ∀ (i : Nat) (s : Slot), env[i]? = some (some s) → s.w.own = true → σ[i]? ≠ some (some (.ref a))) : Sta K ps (upd F a o) G H σ env where
  fh := fun b u pu r => by
    by_cases e : b = a
    · subst e
      rw [plain_rd upd_same po r]
      exact .inl h
    · refine S.fh b u pu ?_
      rcases r with r | ⟨z, r⟩
      · exact .inl (by rw [upd_ne e] at r; exact r)
      · exact .inr ⟨z, by rw [upd_ne e] at r; exact r⟩
  fn := fun b hb => by
    by_cases e : b = a
    · subst e; rw [h] at hb; cases hb
    · rw [upd_ne e]; exact S.fn b hb
  gh := S.gh
  fg := fun b hb => by
    by_cases e : b = a
    · subst e; exact absurd hG hb
    · rw [upd_ne e]; exact S.fg b hb
  len := S.len
  slot := fun i s he => by
    obtain ⟨v, h1, h2, h3⟩ := S.slot i s he
    refine ⟨v, h1, RelW.mono (Ext.upd hF) (fun b hw e hb => ⟨?_, rfl⟩) h2, h3⟩
    rw [upd_ne]
    · exact hb
    · rintro rfl
      exact hs i s he hw (by rw [h1, e])
  sep := S.sep
/-- a new own object is frozen -/
theorem Sta.frzNew (S : Sta K ps F G H σ env) (h : RelR K F G H σ env v (.new x)) : ∃ F', Ext F F' ∧ Sta K ps F' G H σ env ∧ Rp K F' v x := by
  obtain ⟨a, rfl, hF, hG, ho, hs⟩ := h
  obtain ⟨o, e, po⟩ := ho.has
  exact ⟨upd F a o, Ext.upd hF, S.grow hF hG e po hs, ho.frz e hF⟩
theorem set_get {α : Type} {l : List α} {i j : Nat} {y : α} : (l.set i y)[j]? = if i = j then (if j < l.length then some y else none) else l[j]? := by
  rw [List.getElem?_set]
  split
  · rename_i e; subst e; rfl
  · rfl
/-- an own slot is frozen -/
theorem Sta.frzSlot (S : Sta K ps F G H σ env) {i : Nat} {s : Slot} (he : env[i]? = some (some s)) (hw : s.w = .o x) : ∃ F' v, Ext F F' ∧ σ[i]? = some (some v) ∧ Sta K ps F' G H σ (env.set i (some ⟨s.tg, .d x⟩)) ∧ Rp K F' v x := by
  obtain ⟨a, o, h1, hF, hG, h, po, ho⟩ := S.own he hw
  have hsep : ∀ (j : Nat) (t : Slot), j ≠ i → env[j]? = some (some t) → t.w.own = true → σ[j]? ≠ some (some (.ref a)) := fun j t hj ht to => by
    have := S.sep j i t s hj ht he to (by rw [hw]; rfl)
    rw [h1] at this; exact this
  have hil : i < env.length := (List.getElem?_eq_some_iff.mp he).1
  refine ⟨upd F a o, .ref a, Ext.upd hF, h1, ?_, ho.frz h hF⟩
  refine ⟨?_, ?_, S.gh, ?_, by rw [List.length_set]; exact S.len, fun j t ht => ?_, fun j k t u hjk ht hu to uo => ?_⟩
  · intro b u pu r
    by_cases e : b = a
    · subst e
      rw [plain_rd upd_same po r]
      exact .inl h
    · refine S.fh b u pu ?_
      rcases r with r | ⟨z, r⟩
      · exact .inl (by rw [upd_ne e] at r; exact r)
      · exact .inr ⟨z, by rw [upd_ne e] at r; exact r⟩
  · intro b hb
    by_cases e : b = a
    · subst e; rw [h] at hb; cases hb
    · rw [upd_ne e]; exact S.fn b hb
  · intro b hb
    by_cases e : b = a
    · subst e; exact absurd hG hb
    · rw [upd_ne e]; exact S.fg b hb
  · rw [set_get] at ht
    by_cases e : i = j
    · subst e
      rw [if_pos rfl, if_pos hil] at ht
      cases ht
      obtain ⟨v, q1, q2, q3⟩ := S.slot i s he
      rw [h1] at q1; cases q1
      exact ⟨_, h1, ho.frz h hF, q3⟩
    · rw [if_neg e] at ht
      obtain ⟨v, q1, q2, q3⟩ := S.slot j t ht
      refine ⟨v, q1, RelW.mono (Ext.upd hF) (fun b hw' e' hb => ⟨?_, rfl⟩) q2, q3⟩
      rw [upd_ne]
      · exact hb
      · rintro rfl
        exact hsep j t (Ne.symm e) ht hw' (by rw [q1, e'])
  · rw [set_get] at ht hu
    by_cases e : i = j
    · subst e; rw [if_pos rfl, if_pos hil] at ht; cases ht; cases to
    · by_cases e2 : i = k
      · subst e2; rw [if_pos rfl, if_pos hil] at hu; cases hu; cases uo
      · rw [if_neg e] at ht; rw [if_neg e2] at hu
        exact S.sep j k t u hjk ht hu to uo
/-- an own slot's object is changed -/
theorem Sta.write (S : Sta K ps F G H σ env) {i : Nat} {s : Slot} {y : D} (he : env[i]? = some (some s)) (hw : s.w = .o x) (h1 : σ[i]? = some (some (.ref a))) (ho : OwnAt K F (upd H a o) a y) : Sta K ps F G (upd H a o) σ (env.set i (some ⟨s.tg, .o y⟩)) := by
  obtain ⟨a', o', h1', hF, hG, h, po, ho'⟩ := S.own he hw
  rw [h1] at h1'; cases h1'
  have hsep : ∀ (j : Nat) (t : Slot), j ≠ i → env[j]? = some (some t) → t.w.own = true → σ[j]? ≠ some (some (.ref a)) := fun j t hj ht to => by
    have := S.sep j i t s hj ht he to (by rw [hw]; rfl)
    rw [h1] at this; exact this
  have hil : i < env.length := (List.getElem?_eq_some_iff.mp he).1
  refine ⟨S.fh.upd_ne hF, fun b hb => ?_, fun b u q => ?_, S.fg, by rw [List.length_set]; exact S.len, fun j t ht => ?_, fun j k t u hjk ht hu to uo => ?_⟩
  · by_cases e : b = a
    · subst e; exact hF
    · rw [upd_ne e] at hb; exact S.fn b hb
  · by_cases e : b = a
    · subst e; rw [hG] at q; cases q
    · rw [upd_ne e]; exact S.gh b u q
  · rw [set_get] at ht
    by_cases e : i = j
    · subst e
      rw [if_pos rfl, if_pos hil] at ht
      cases ht
      obtain ⟨v, q1, q2, q3⟩ := S.slot i s he
      rw [h1] at q1; cases q1
      exact ⟨_, h1, ⟨a, rfl, hF, hG, ho⟩, q3⟩
    · rw [if_neg e] at ht
      obtain ⟨v, q1, q2, q3⟩ := S.slot j t ht
      refine ⟨v, q1, RelW.mono Ext.refl (fun b hw' e' hb => ⟨hb, ?_⟩) q2, q3⟩
      rw [upd_ne]
      rintro rfl
      exact hsep j t (Ne.symm e) ht hw' (by rw [q1, e'])
  · have key : ∀ (j : Nat) (t : Slot), (env.set i (some ⟨s.tg, .o y⟩))[j]? = some (some t) → t.w.own = true → ∃ t', env[j]? = some (some t') ∧ t'.w.own = true := fun j t ht to => by
      rw [set_get] at ht
      by_cases e : i = j
      · subst e; exact ⟨s, he, by rw [hw]; rfl⟩
      · rw [if_neg e] at ht; exact ⟨t, ht, to⟩
    obtain ⟨t', a1, a2⟩ := key j t ht to
    obtain ⟨u', b1, b2⟩ := key k u hu uo
    exact S.sep j k t' u' hjk a1 b1 a2 b2
/-- forget slots -/
theorem Sta.sub {env' : Env'} (S : Sta K ps F G H σ env) (hl : env'.length = env.length) (h : ∀ (i : Nat) (s : Slot), env'[i]? = some (some s) → env[i]? = some (some s)) : Sta K ps F G H σ env' :=
  ⟨S.fh, S.fn, S.gh, S.fg, hl.trans S.len, fun i s e => S.slot i s (h i s e), fun i j s t n a b => S.sep i j s t n (h i s a) (h j t b)⟩
/-- readable -/
theorem rq_of {r : R} (S : Sta K ps F G H σ env) (h : RelR K F G H σ env v r) (g : get r env = some x) : Rq K F H v x := by
  cases r with
  | d y => cases g; exact .inl h
  | «at» i =>
    have g' : (match env[i]? with | some (some s) => some s.w.dat | _ => none) = some x := g
    split at g'
    · rename_i s he
      cases g'
      obtain ⟨u, q1, q2, _⟩ := S.slot i s he
      have e : σ[i]? = some (some v) := h
      rw [e] at q1; cases q1
      obtain ⟨t, w⟩ := s
      cases w with
      | d y => exact .inl q2
      | o y => obtain ⟨b, rfl, _, _, ho⟩ := q2; exact .inr ⟨b, rfl, ho⟩
    · cases g'
  | new y => cases g; obtain ⟨b, rfl, _, _, ho, _⟩ := h; exact .inr ⟨b, rfl, ho⟩
/-- results stay through later steps -/
theorem RelR.later {H' : Hp} {env' : Env'} {r : R} (e : Ext F F') (h : RelR K F G H σ env v r) (hr : ∀ y, r ≠ .new y) : RelR K F' G H' σ env' v r := by
  cases r with
  | d y => exact Rp.mono e h
  | «at» i => exact h
  | new y => exact absurd rfl (hr y)
end
end PL

namespace PL
open PySem PySem.Spec PyProof.Rows L2
section
variable {K : KF} {ps : List V} {F F' G H : Hp} {σ : St} {env : Env'} {a b p : Addr} {o : HO} {x y : D} {v u : V}

/-! reading data -/
theorem SqL.ext {xs : List V} (e : Ext F H) (h : SqL K F a xs) : SqL K H a xs := e.sqL h
theorem Rq.list {ds : List D} (S : Sta K ps F G H σ env) (h : Rq K F H v (.list ds)) : ∃ a xs, v = .ref a ∧ SqL K H a xs ∧ Rps K F xs ds := by
  rcases h with h | ⟨a, rfl, xs, h1, h2⟩
  · cases h with
    | lst h1 h2 => exact ⟨_, _, rfl, S.fh.sqL h1, h2⟩
  · exact ⟨a, xs, rfl, .of h1, h2⟩
theorem Rq.tuple {ds : List D} (S : Sta K ps F G H σ env) (h : Rq K F H v (.tuple ds)) : ∃ a xs, v = .ref a ∧ SqT K H a xs ∧ Rps K F xs ds := by
  rcases h with h | ⟨a, rfl, h⟩
  · cases h with
    | tup h1 h2 => exact ⟨_, _, rfl, S.fh.sqT h1, h2⟩
  · exact h.elim
theorem Rq.dict {ds : List (D × D)} (S : Sta K ps F G H σ env) (h : Rq K F H v (.dict ds)) : ∃ a xs, v = .ref a ∧ Rd H a (.dK xs) ∧ Rks K F xs ds := by
  rcases h with h | ⟨a, rfl, xs, h1, h2⟩
  · cases h with
    | dct h1 h2 => exact ⟨_, _, rfl, S.fh _ _ trivial h1, h2⟩
  · exact ⟨a, xs, rfl, .inl h1, h2⟩
theorem Rq.int {i : Int} (h : Rq K F H v (.int i)) : v = .int i := by
  rcases h with h | ⟨a, rfl, h⟩
  · cases h; rfl
  · exact h.elim
theorem Rq.bool {i : Bool} (h : Rq K F H v (.bool i)) : v = .bl i := by
  rcases h with h | ⟨a, rfl, h⟩
  · cases h; rfl
  · exact h.elim
theorem Rq.str {i : Str} (h : Rq K F H v (.str i)) : v = .str i := by
  rcases h with h | ⟨a, rfl, h⟩
  · cases h; rfl
  · exact h.elim
theorem Rq.non (h : Rq K F H v .none) : v = .non := by
  rcases h with h | ⟨a, rfl, h⟩
  · cases h; rfl
  · exact h.elim
theorem Rps.length : ∀ {vs : List V} {ds : List D}, Rps K F vs ds → vs.length = ds.length
  | _, _, .nil => rfl
  | _, _, .cons _ t => congrArg Nat.succ (Rps.length t)
theorem Rps.append : ∀ {vs ws : List V} {ds es : List D}, Rps K F vs ds → Rps K F ws es → Rps K F (vs ++ ws) (ds ++ es)
  | _, _, _, _, .nil, s => s
  | _, _, _, _, .cons r t, s => .cons r (Rps.append t s)
theorem Rps.take : ∀ {vs : List V} {ds : List D} (n : Nat), Rps K F vs ds → Rps K F (vs.take n) (ds.take n)
  | _, _, 0, _ => .nil
  | _, _, _ + 1, .nil => .nil
  | _, _, n + 1, .cons r t => .cons r (Rps.take n t)
theorem Rps.drop : ∀ {vs : List V} {ds : List D} (n : Nat), Rps K F vs ds → Rps K F (vs.drop n) (ds.drop n)
  | _, _, 0, r => r
  | _, _, _ + 1, .nil => .nil
  | _, _, n + 1, .cons _ t => Rps.drop n t
theorem Rps.get : ∀ {vs : List V} {ds : List D} {i : Nat} {d : D}, Rps K F vs ds → ds[i]? = some d → ∃ v, vs[i]? = some v ∧ Rp K F v d
  | _, _, i, _, .nil, e => by simp at e
  | _, _, 0, _, .cons r _, e => by simp at e; subst e; exact ⟨_, rfl, r⟩
  | _, _, i + 1, _, .cons _ t, e => by
    obtain ⟨v, h1, h2⟩ := Rps.get (i := i) t (by simpa using e)
    exact ⟨v, by simpa using h1, h2⟩
theorem Rps.set {v : V} {d : D} (r : Rp K F v d) : ∀ {vs : List V} {ds : List D} (i : Nat), Rps K F vs ds → Rps K F (vs.set i v) (ds.set i d)
  | _, _, _, .nil => .nil
  | _, _, 0, .cons _ t => .cons r t
  | _, _, i + 1, .cons q t => .cons q (Rps.set r i t)
theorem Rps.eraseIdx : ∀ {vs : List V} {ds : List D} (i : Nat), Rps K F vs ds → Rps K F (vs.eraseIdx i) (ds.eraseIdx i)
  | _, _, _, .nil => .nil
  | _, _, 0, .cons _ t => t
  | _, _, i + 1, .cons q t => .cons q (Rps.eraseIdx i t)
theorem Rps.reverse : ∀ {vs : List V} {ds : List D}, Rps K F vs ds → Rps K F vs.reverse ds.reverse
  | _, _, .nil => .nil
  | _, _, .cons q t => by rw [List.reverse_cons, List.reverse_cons]; exact (Rps.reverse t).append (.cons q .nil)
theorem Rps.rep {vs : List V} {ds : List D} (r : Rps K F vs ds) : ∀ n : Nat, Rps K F (List.replicate n vs).flatten (List.replicate n ds).flatten
  | 0 => .nil
  | n + 1 => by rw [List.replicate_succ, List.replicate_succ, List.flatten_cons, List.flatten_cons]; exact r.append (Rps.rep r n)
theorem Rps.nil_iff {vs : List V} {ds : List D} (r : Rps K F vs ds) : vs = [] ↔ ds = [] := by cases r <;> simp

/-! new objects as results -/
theorem fresh_tup {vs : List V} {ds : List D} (S : Sta K ps F G H σ env) (hp : H p = none) (r : Rps K F vs ds) : ∃ F', Ext F F' ∧ Sta K ps F' G (upd H p (.tup vs)) σ env ∧ Rp K F' (.ref p) (.tuple ds) := by
  have hF := S.fnone hp
  refine ⟨upd F p (.tup vs), Ext.upd hF.1, (S.alloc hp).grow hF.1 hF.2 upd_same trivial fun i s he hw e => ?_, .tup (.inl (.inl upd_same)) (r.mono (Ext.upd hF.1))⟩
  obtain ⟨w, q1, q2, _⟩ := S.slot i s he
  rw [q1] at e; cases e
  cases hs : s.w with
  | d z => rw [hs] at hw; cases hw
  | o z =>
    rw [hs] at q2
    obtain ⟨c, e, _, _, ho⟩ := q2
    cases e
    obtain ⟨_, h, _⟩ := ho.has
    rw [hp] at h; cases h
theorem fresh_lst {vs : List V} {ds : List D} (S : Sta K ps F G H σ env) (hp : H p = none) (r : Rps K F vs ds) : Sta K ps F G (upd H p (.lst vs)) σ env ∧ RelR K F G (upd H p (.lst vs)) σ env (.ref p) (.new (.list ds)) := by
  have hF := S.fnone hp
  refine ⟨S.alloc hp, p, rfl, hF.1, hF.2, ⟨vs, upd_same, r⟩, fun i s he hw e => ?_⟩
  obtain ⟨w, q1, q2, _⟩ := S.slot i s he
  rw [q1] at e; cases e
  cases hs : s.w with
  | d z => rw [hs] at hw; cases hw
  | o z =>
    rw [hs] at q2
    obtain ⟨c, e, _, _, ho⟩ := q2
    cases e
    obtain ⟨_, h, _⟩ := ho.has
    rw [hp] at h; cases h
theorem fresh_dct {kv : List (Key × V)} {ds : List (D × D)} (S : Sta K ps F G H σ env) (hp : H p = none) (r : Rks K F kv ds) : Sta K ps F G (upd H p (.dK kv)) σ env ∧ RelR K F G (upd H p (.dK kv)) σ env (.ref p) (.new (.dict ds)) := by
  have hF := S.fnone hp
  refine ⟨S.alloc hp, p, rfl, hF.1, hF.2, ⟨kv, upd_same, r⟩, fun i s he hw e => ?_⟩
  obtain ⟨w, q1, q2, _⟩ := S.slot i s he
  rw [q1] at e; cases e
  cases hs : s.w with
  | d z => rw [hs] at hw; cases hw
  | o z =>
    rw [hs] at q2
    obtain ⟨c, e, _, _, ho⟩ := q2
    cases e
    obtain ⟨_, h, _⟩ := ho.has
    rw [hp] at h; cases h
end

/-! ### operations by values -/
/-- the end of an operation: it may go on with any value that bears z -/
abbrev Cont (K : KF) (ps : List V) (F G : Hp) (σ : St) (env : Env') (Q : VK) (z : R) : Prop := ∀ F' H' w, Ext F F' → Sta K ps F' G H' σ env → RelR K F' G H' σ env w z → Q w H'
def Op2 (X : Cx) (g : Value → Value → Sem Value) (f : D → D → Option R) : Prop :=
  ∀ (ps : List V) (F G H : Hp) (σ : St) (env : Env') (x y : D) (u v : V) (z : R) (Q : VK), Sta X.K ps F G H σ env → Rq X.K F H u x → Rq X.K F H v y → f x y = some z →
    Cont X.K ps F G σ env Q z → ∃ r, OpR X g r ∧ r u v H Q

theorem op_catL {X : Cx} : OpR X (binaryOp .Add) (fun x y H Q => ∃ l b xs zs, x = .ref l ∧ y = .ref b ∧ SqL X.K H l xs ∧ SqL X.K H b zs ∧ xs.length + zs.length ≤ sizeLine ∧ ∀ p, H p = none → Q (.ref p) (upd H p (.lst (xs ++ zs)))) := by
  intro pins s σ H x y v u Q I rx ry h
  obtain ⟨l, b, xs, zs, rfl, rfl, hl, hb, hz, q⟩ := h
  cases rx
  cases ry
  obtain ⟨its, r1, ⟨⟨c1, d1, t1, s1⟩, n1, e1, k1, k2, k3⟩, _⟩ := I.list hl
  obtain ⟨ots, r2, ⟨⟨c2, d2, t2, s2⟩, n2, e2, m1, m2, m3⟩, _⟩ := I.list hb
  simp only at k1 k2 k3 m1 m2 m3
  subst k1 k2 k3 m1 m2 m3
  have hsz : its.toArray.size + ots.toArray.size ≤ sizeLine := by simpa [← r1.length, ← r2.length] using hz
  refine concat_meets ⟨_, e1, rfl⟩ ⟨_, e2, rfl⟩ noFill_list_add seq_list_add PySem.F.slot_list_add PySem.F.entry_list_add (PySem.F.args_list_add_2 _ _) (list_addW l b its.toArray ots.toArray n1 n2 none none s1 s2 hsz) ⟨e1, e2, ?_⟩
  have ea : its.toArray ++ ots.toArray = (its ++ ots).toArray := by simp
  rw [ea]
  exact ⟨.ref _, _, I.lnew (t' := s.toks) (r1.append r2) (by rw [List.length_append]; omega), rfl, q _ I.fresh⟩

def lim (n : Nat) : Bool := decide (n ≤ sizeLine)
def mulOk (i j : Int) : Bool := decide (i.natAbs < 2 ^ 64) || decide (j.natAbs < 2 ^ 64) || decide (i.natAbs < 2 ^ 500000 ∧ j.natAbs < 2 ^ 500000)
def addD : D → D → Option R
  | .int i, .int j => some (.d (.int (i + j)))
  | .str i, .str j => if lim (i.length + j.length) then some (.d (.str (i ++ j))) else none
  | .list i, .list j => if lim (i.length + j.length) then some (.new (.list (i ++ j))) else none
  | .tuple i, .tuple j => if lim (i.length + j.length) then some (.d (.tuple (i ++ j))) else none
  | _, _ => none
def int2 (f : Int → Int → Option D) : D → D → Option R
  | .int i, .int j => (f i j).map R.d
  | _, _ => none
def mulD : D → D → Option R
  | .int i, .int j => if mulOk i j then some (.d (.int (i * j))) else none
  | .tuple i, .int j => if decide (i ≠ [] ∧ 2 ≤ j ∧ j ≤ 1000 ∧ i.length ≤ 1000) then some (.d (.tuple (List.replicate j.toNat i).flatten)) else none
  | _, _ => none
def binD : Operator → D → D → Option R
  | .Add => addD
  | .Sub => int2 fun i j => some (.int (i - j))
  | .Mult => mulD
  | .FloorDiv => int2 fun i j => if decide (j ≠ 0 ∧ j.natAbs < 1073741824) then some (.int (i.fdiv j)) else none
  | .Mod => int2 fun i j => if decide (j ≠ 0) then some (.int (i.fmod j)) else none
  | .Pow => int2 fun i j => if decide (0 ≤ j ∧ j ≤ 1000000 ∧ i.natAbs < 2 ^ 64) then some (.int (i ^ j.toNat)) else none
  | .LShift => int2 fun i j => if decide (0 ≤ j ∧ j ≤ 1000000 ∧ i.natAbs < 2 ^ 64) then some (.int (i * 2 ^ j.toNat)) else none
  | .RShift => int2 fun i j => if decide (0 ≤ j) then some (.int (i / 2 ^ j.toNat)) else none
  | .BitAnd => int2 fun i j => some (.int (Builtin.bitAnd i j))
  | .BitOr => int2 fun i j => some (.int (Builtin.bitOr i j))
  | .BitXor => int2 fun i j => some (.int (Builtin.bitXor i j))
  | _ => fun _ _ => none

theorem op2_int {X : Cx} {g : Value → Value → Sem Value} {f : Int → Int → Option D} (h : ∀ i j z, f i j = some z → ∃ (C : Int → Int → Prop) (k : Int → Int → Int), OpR X g (rI C fun i j => .int (k i j)) ∧ C i j ∧ z = .int (k i j)) : Op2 X g (int2 f) := by
  intro ps F G H σ env x y u v z Q S hx hy hf k
  cases x <;> cases y <;> first | (cases hf; done) | skip
  rename_i i j
  have hf' : (f i j).map R.d = some z := hf
  obtain ⟨w, hw, rfl⟩ := Option.map_eq_some_iff.mp hf'
  obtain ⟨C, k', ho, hc, rfl⟩ := h i j w hw
  refine ⟨_, ho, i, j, hx.int, hy.int, hc, ?_⟩
  exact k F H _ Ext.refl S (.int _)
theorem opR_I0 {X : Cx} {f : Value → Value → Sem Value} {g : Int → Int → V} (h : OpR X f (rI0 g)) : OpR X f (rI (fun _ _ => True) g) := fun pins s σ H x y v u Q I rx ry ⟨i, j, e1, e2, _, q⟩ => h pins s σ H x y v u Q I rx ry ⟨i, j, e1, e2, q⟩
theorem op_mulA {X : Cx} : OpR X (binaryOp .Mult) (rI (fun i j => mulOk i j = true) fun i j => .int (i * j)) := by
  intro pins s σ H x y v u Q I rx ry ⟨i, j, e1, e2, hc, q⟩
  unfold mulOk at hc
  simp only [Bool.or_eq_true, decide_eq_true_eq] at hc
  rcases hc with (hc | hc) | hc
  · exact op_mul pins s σ H x y v u Q I rx ry ⟨i, j, e1, e2, .inl (by omega), q⟩
  · exact op_mul pins s σ H x y v u Q I rx ry ⟨i, j, e1, e2, .inr (by omega), q⟩
  · exact op_mulW pins s σ H x y v u Q I rx ry ⟨i, j, e1, e2, wide_mul hc.1 hc.2 (by decide) (by decide) (by decide), q⟩
theorem lim_le {n : Nat} (h : lim n = true) : n ≤ sizeLine := of_decide_eq_true h

theorem op2_add {X : Cx} : Op2 X (binaryOp .Add) addD := by
  intro ps F G H σ env x y u v z Q S hx hy hf k
  cases x <;> cases y <;> first | (cases hf; done) | skip
  · rename_i i j
    cases hf
    exact ⟨_, op_add, i, j, hx.int, hy.int, k F H _ Ext.refl S (.int _)⟩
  · rename_i i j
    simp only [addD] at hf
    split at hf
    · rename_i hl
      cases hf
      exact ⟨_, op_add_str, i, j, hx.str, hy.str, lim_le hl, k F H _ Ext.refl S (.str _)⟩
    · cases hf
  · rename_i i j
    simp only [addD] at hf
    split at hf
    · rename_i hl
      cases hf
      obtain ⟨a, xs, rfl, h1, r1⟩ := hx.list S
      obtain ⟨b, ys, rfl, h2, r2⟩ := hy.list S
      refine ⟨_, op_catL, a, b, xs, ys, rfl, rfl, h1, h2, by rw [r1.length, r2.length]; exact lim_le hl, fun p hp => ?_⟩
      obtain ⟨S', r⟩ := fresh_lst S hp (r1.append r2)
      exact k F _ _ Ext.refl S' r
    · cases hf
  · rename_i i j
    simp only [addD] at hf
    split at hf
    · rename_i hl
      cases hf
      have hx' := hx
      have hy' := hy
      obtain ⟨a, xs, rfl, h1, r1⟩ := hx.tuple S
      obtain ⟨b, ys, rfl, h2, r2⟩ := hy.tuple S
      refine ⟨_, op_catA, a, b, xs, ys, rfl, rfl, h1, h2, by rw [r1.length, r2.length]; exact lim_le hl, fun e => ?_, fun e e' => ?_, fun _ _ p hp => ?_⟩
      · have := r1.nil_iff.mp e
        subst this
        rcases hy' with hy' | ⟨_, _, hy'⟩
        · exact k F H _ Ext.refl S hy'
        · exact hy'.elim
      · have := r2.nil_iff.mp e'
        subst this
        rcases hx' with hx' | ⟨_, _, hx'⟩
        · exact k F H _ Ext.refl S (by rw [List.append_nil]; exact hx')
        · exact hx'.elim
      · obtain ⟨F', e, S', r⟩ := fresh_tup S hp (r1.append r2)
        exact k F' _ _ e S' r
    · cases hf
theorem op2_mul {X : Cx} : Op2 X (binaryOp .Mult) mulD := by
  intro ps F G H σ env x y u v z Q S hx hy hf k
  cases x <;> cases y <;> first | (cases hf; done) | skip
  · rename_i i j
    simp only [mulD] at hf
    split at hf
    · rename_i hl
      cases hf
      exact ⟨_, op_mulA, i, j, hx.int, hy.int, hl, k F H _ Ext.refl S (.int _)⟩
    · cases hf
  · rename_i i j
    simp only [mulD] at hf
    split at hf
    · rename_i hl
      cases hf
      obtain ⟨h0, h1, h2, h3⟩ := of_decide_eq_true hl
      obtain ⟨a, xs, rfl, h4, r1⟩ := hx.tuple S
      refine ⟨_, op_repT, a, j, xs, rfl, hy.int, h4, fun e => h0 (r1.nil_iff.mp e), h1, h2, by rw [r1.length]; exact h3, fun p hp => ?_⟩
      obtain ⟨F', e, S', r⟩ := fresh_tup S hp (r1.rep j.toNat)
      exact k F' _ _ e S' r
    · cases hf
theorem op2_none {X : Cx} {g : Value → Value → Sem Value} : Op2 X g fun _ _ => none := fun _ _ _ _ _ _ _ _ _ _ _ _ _ _ _ h => nomatch h
theorem op2_bin {X : Cx} : ∀ op : Operator, Op2 X (binaryOp op) (binD op)
  | .Add => op2_add
  | .Sub => op2_int fun i j z h => ⟨_, _, opR_I0 op_sub, trivial, (Option.some.inj h).symm⟩
  | .Mult => op2_mul
  | .FloorDiv => op2_int fun i j z h => by
    split at h
    · rename_i hc; exact ⟨_, _, op_fdivN, (of_decide_eq_true hc : j ≠ 0 ∧ j.natAbs < 1073741824), (Option.some.inj h).symm⟩
    · cases h
  | .Mod => op2_int fun i j z h => by
    split at h
    · rename_i hc; exact ⟨_, _, op_modN, of_decide_eq_true hc, (Option.some.inj h).symm⟩
    · cases h
  | .Pow => op2_int fun i j z h => by
    split at h
    · rename_i hc; exact ⟨_, _, op_pow, (of_decide_eq_true hc : 0 ≤ j ∧ j ≤ 1000000 ∧ i.natAbs < 2 ^ 64), (Option.some.inj h).symm⟩
    · cases h
  | .LShift => op2_int fun i j z h => by
    split at h
    · rename_i hc; exact ⟨_, _, op_shl, (of_decide_eq_true hc : 0 ≤ j ∧ j ≤ 1000000 ∧ i.natAbs < 2 ^ 64), (Option.some.inj h).symm⟩
    · cases h
  | .RShift => op2_int fun i j z h => by
    split at h
    · rename_i hc; exact ⟨_, _, op_shr, of_decide_eq_true hc, (Option.some.inj h).symm⟩
    · cases h
  | .BitAnd => op2_int fun i j z h => ⟨_, _, opR_I0 op_and, trivial, (Option.some.inj h).symm⟩
  | .BitOr => op2_int fun i j z h => ⟨_, _, opR_I0 op_or, trivial, (Option.some.inj h).symm⟩
  | .BitXor => op2_int fun i j z h => ⟨_, _, opR_I0 op_xor, trivial, (Option.some.inj h).symm⟩
  | .Div => op2_none
  | .MatMult => op2_none
end PL

namespace PL
open PySem PySem.Spec PyProof.Rows L2
section
variable {K : KF} {ps : List V} {F F' G H : Hp} {σ : St} {env : Env'} {a b p : Addr} {o : HO} {x y : D} {v u : V}

mutual
theorem Rp.dp : ∀ (d : D) (v : V), d.canLay0 = true → Rp K F v d → Dp K F v d
  | .none, _, _, .non => .non
  | .bool b, _, _, .bl _ => .bl b
  | .int i, _, _, .int _ => .int i
  | .str x, _, _, .str _ => .str x
  | .list ds, _, h, .lst q t => .lst q (Rps.dp ds _ (by simpa [PyData.canLay0] using h) t)
  | .tuple ds, _, h, .tup q t => .tup q (Rps.dp ds _ (by simpa [PyData.canLay0] using h) t)
theorem Rps.dp : ∀ (ds : List D) (vs : List V), PyData.canLayAll0 ds = true → Rps K F vs ds → DpAll K F vs ds
  | [], _, _, .nil => .nil
  | d :: ds, _, h, .cons r t => by
    rw [PyData.canLayAll0, Bool.and_eq_true] at h
    exact .cons (Rp.dp d _ h.1 r) (Rps.dp ds _ h.2 t)
end
theorem Rq.dp (S : Sta K ps F G H σ env) (h : Rq K F H v x) (hs : x.canLay0 = true) : Dp K H v x := by
  rcases h with h | ⟨a, rfl, h⟩
  · exact Rp.dp x v hs (h.mono S.fh)
  · cases x with
    | list ds =>
      obtain ⟨vs, h1, h2⟩ := h
      exact .lst (.of h1) (Rps.dp ds vs (by simpa [PyData.canLay0] using hs) (h2.mono S.fh))
    | dict ds => simp [PyData.canLay0] at hs
    | _ => exact h.elim
theorem Rq.rp (h : Rq K F H v x) (hn : ∀ ds, x ≠ .list ds) (hm : ∀ ds, x ≠ .dict ds) : Rp K F v x := by
  rcases h with h | ⟨a, rfl, h⟩
  · exact h
  · cases x with
    | list ds => exact absurd rfl (hn ds)
    | dict ds => exact absurd rfl (hm ds)
    | _ => exact h.elim
end

/-! ### == and != -/
open SeqAt in
def eqD (x y : D) : Option Bool := if shaped x && shaped y then some (PyData.eqv x y) else none
theorem op2_eq {X : Cx} (hu : X.A.units + 65 < cLine) : Op2 X (compareOp .Eq) fun x y => (eqD x y).map fun b => .d (.bool b) := by
  intro ps F G H σ env x y u v z Q S hx hy hf k
  obtain ⟨bb, hb, rfl⟩ := Option.map_eq_some_iff.mp hf
  unfold eqD at hb
  split at hb
  · rename_i hs
    rw [Bool.and_eq_true] at hs
    cases hb
    exact ⟨_, op_eqD (by omega), x, y, hx.dp S (SeqAt.canLay_of_shaped hs.1), hy.dp S (SeqAt.canLay_of_shaped hs.2), hs.1, hs.2, k F H _ Ext.refl S (.bl _)⟩
  · cases hb
theorem op2_ne {X : Cx} (hu : X.A.units + 65 < cLine) : Op2 X (compareOp .NotEq) fun x y => (eqD x y).map fun b => .d (.bool !b) := by
  intro ps F G H σ env x y u v z Q S hx hy hf k
  obtain ⟨bb, hb, rfl⟩ := Option.map_eq_some_iff.mp hf
  unfold eqD at hb
  split at hb
  · rename_i hs
    rw [Bool.and_eq_true] at hs
    cases hb
    exact ⟨_, op_neD (by omega), x, y, hx.dp S (SeqAt.canLay_of_shaped hs.1), hy.dp S (SeqAt.canLay_of_shaped hs.2), hs.1, hs.2, k F H _ Ext.refl S (.bl _)⟩
  · cases hb

/-! ### < -/
def notNone : D → Bool
  | .none => false
  | _ => true
theorem notNone_ne {x : D} (h : notNone x = true) : x ≠ .none := by rintro rfl; cases h
def ltD (x y : D) : Option Bool := if SeqAt.shaped x && SeqAt.shaped y && PySem.W.alike x y && notNone x then some (PySem.W.dataLt x y) else none
theorem op_ltD {X : Cx} (hu : X.A.units + 65 < cLine) : OpR X (compareOp .Lt) (fun x y H Q => ∃ d e, Dp X.K H x d ∧ Dp X.K H y e ∧ SeqAt.shaped d = true ∧ PySem.W.alike d e = true ∧ d ≠ .none ∧ Q (.bl (PySem.W.dataLt d e)) H) := by
  intro pins s σ H x y v u Q I rx ry h
  obtain ⟨d, e, hd, he, sd, al, hn, q⟩ := h
  obtain ⟨as, r1⟩ := Dp.reads I d x v hd rx
  obtain ⟨bs, r2⟩ := Dp.reads I e y u he ry
  have hr : X.A.units + min d.depth e.depth < cLine := SeqAt.room_of_shaped sd (by omega)
  exact PySem.W.rcLt_alike d e X.A s v u as bs r1 r2 al hn hr X.prog X.w _ _ ⟨.bl _, H, I, rfl, q⟩
theorem op2_lt {X : Cx} (hu : X.A.units + 65 < cLine) : Op2 X (compareOp .Lt) fun x y => (ltD x y).map fun b => .d (.bool b) := by
  intro ps F G H σ env x y u v z Q S hx hy hf k
  obtain ⟨bb, hb, rfl⟩ := Option.map_eq_some_iff.mp hf
  unfold ltD at hb
  split at hb
  · rename_i hs
    simp only [Bool.and_eq_true] at hs
    obtain ⟨⟨⟨h1, h2⟩, h3⟩, h4⟩ := hs
    cases hb
    exact ⟨_, op_ltD hu, x, y, hx.dp S (SeqAt.canLay_of_shaped h1), hy.dp S (SeqAt.canLay_of_shaped h2), h1, h3, notNone_ne h4, k F H _ Ext.refl S (.bl _)⟩
  · cases hb
def cmpI (f : Int → Int → Bool) : D → D → Option Bool
  | .int i, .int j => some (f i j)
  | _, _ => none
theorem op2_cmpI {X : Cx} {g : Value → Value → Sem Value} {f : Int → Int → Bool} (h : OpR X g (rI0 fun i j => .bl (f i j))) : Op2 X g fun x y => (cmpI f x y).map fun b => .d (.bool b) := by
  intro ps F G H σ env x y u v z Q S hx hy hf k
  cases x <;> cases y <;> first | (cases hf; done) | skip
  cases hf
  exact ⟨_, h, _, _, hx.int, hy.int, k F H _ Ext.refl S (.bl _)⟩

/-! ### in -/
def inStr (x z : Str) : Bool := match x.cps.toList with
  | [c] => decide (c ∈ z.cps.toList)
  | _ => !(Builtin.Str.occurrences z x 0 z.length 1).isEmpty
def keyOfD : D → Option Key
  | .int i => some (.inl i)
  | .str x => some (.inr x)
  | _ => none
theorem keyOfD_eq {x : D} {k : Key} (h : keyOfD x = some k) : keyD k = x := by
  cases x <;> first | (cases h; done) | (cases h; rfl)
def lookD (kvs : List (D × D)) (k : Key) : Option D := (kvs.find? fun p => decide (keyOfD p.1 = some k)).map (·.2)
theorem keyOfD_keyD (k : Key) : keyOfD (keyD k) = some k := by cases k <;> rfl
theorem Rks.look {K : KF} {F : Hp} {k : Key} : ∀ {kv : List (Key × V)} {kvs : List (D × D)}, Rks K F kv kvs → (∀ d, lookD kvs k = some d → ∃ v, valV kv k = some v ∧ Rp K F v d) ∧ (lookD kvs k = none → valV kv k = none) := by
  intro kv kvs h
  induction kv generalizing kvs with
  | nil =>
    cases h
    refine ⟨fun d e => ?_, fun _ => rfl⟩
    cases e
  | cons p kv ih =>
    cases h with
    | @cons k' v d _ kvs' r t =>
      obtain ⟨i1, i2⟩ := ih t
      unfold lookD
      rw [List.find?_cons]
      simp only [keyOfD_keyD, Option.some.injEq]
      by_cases e : k' = k
      · simp only [e, decide_true]
        exact ⟨fun d' h => ⟨v, valV_pos rfl, by cases h; exact r⟩, fun h => by cases h⟩
      · simp only [e, decide_false]
        exact ⟨fun d' h => by rw [valV_neg e]; exact i1 d' h, fun h => by rw [valV_neg e]; exact i2 h⟩
open SeqAt in
def inD (x : D) : D → Option Bool
  | .list ds => if shaped x && shaped (.list ds) then some (ds.any fun z => PyData.eqv z x) else none
  | .tuple ds => if shaped x && shaped (.tuple ds) then some (ds.any fun z => PyData.eqv z x) else none
  | .str z => match x with
    | .str y => some (inStr y z)
    | _ => none
  | .dict kvs => (keyOfD x).map fun k => (lookD kvs k).isSome
  | _ => none
theorem op_inT {X : Cx} (hu : X.A.units + 65 < cLine) : OpR X (compareOp .In) (fun x y H Q => ∃ d ds, Dp X.K H x d ∧ Dp X.K H y (.tuple ds) ∧ SeqAt.shaped d = true ∧ SeqAt.shaped (.tuple ds) = true ∧ Q (.bl (ds.any fun z => PyData.eqv z d)) H) := by
  intro pins s σ H x y v u Q I rx ry ⟨d, ds, hd, he, sd, se, q⟩
  obtain ⟨as, r1⟩ := Dp.reads I d x v hd rx
  obtain ⟨bs, r2⟩ := Dp.reads I (.tuple ds) y u he ry
  exact SeqAt.in_tuple_reads r2 r1 (SeqAt.canLay_of_shaped se) (SeqAt.canLay_of_shaped sd) (room_in_shaped sd hu) ⟨.bl _, H, I, rfl, q⟩
theorem op_notInT {X : Cx} (hu : X.A.units + 65 < cLine) : OpR X (compareOp .NotIn) (fun x y H Q => ∃ d ds, Dp X.K H x d ∧ Dp X.K H y (.tuple ds) ∧ SeqAt.shaped d = true ∧ SeqAt.shaped (.tuple ds) = true ∧ Q (.bl (!ds.any fun z => PyData.eqv z d)) H) := by
  intro pins s σ H x y v u Q I rx ry ⟨d, ds, hd, he, sd, se, q⟩
  obtain ⟨as, r1⟩ := Dp.reads I d x v hd rx
  obtain ⟨bs, r2⟩ := Dp.reads I (.tuple ds) y u he ry
  exact SeqAt.notIn_tuple_reads r2 r1 (SeqAt.canLay_of_shaped se) (SeqAt.canLay_of_shaped sd) (room_in_shaped sd hu) ⟨.bl _, H, I, rfl, q⟩
def rInK (neg : Bool) : R2 := fun y x H Q => ∃ a o, x = .ref a ∧ DGet H a y o ∧ Q (.bl (if neg then !o.isSome else o.isSome)) H
theorem op_inK {X : Cx} (hu : X.A.units + 65 < cLine) : OpR X (compareOp .In) (rInK false) := by
  intro pins s σ H y x iv u Q I ry rx ⟨a, o, ex, g, q⟩
  subst ex
  obtain rfl : u = Value.ref a := rx
  exact d_in (by omega) I g ry fun s3 I3 => ⟨.bl _, H, I3, rfl, q⟩
theorem op_notInK {X : Cx} (hu : X.A.units + 65 < cLine) : OpR X (compareOp .NotIn) (rInK true) := by
  intro pins s σ H y x iv u Q I ry rx ⟨a, o, ex, g, q⟩
  subst ex
  obtain rfl : u = Value.ref a := rx
  exact d_notIn (by omega) I g ry fun s3 I3 => ⟨.bl _, H, I3, rfl, q⟩
theorem Rq.dget {K : KF} {ps : List V} {F G H : Hp} {σ : St} {env : Env'} {u v : V} {x : D} {kvs : List (D × D)} {k : Key} (S : Sta K ps F G H σ env) (h : Rq K F H v (.dict kvs)) (hk : keyOfD x = some k) (hx : Rq K F H u x) :
    ∃ a o, v = .ref a ∧ DGet H a u o ∧ (∀ d, lookD kvs k = some d → ∃ w, o = some w ∧ Rp K F w d) ∧ (lookD kvs k = none → o = none) := by
  obtain ⟨a, kv, rfl, h1, r⟩ := h.dict S
  have hu : u = kV k := by
    cases x <;> first | (cases hk; done) | skip
    · cases hk; exact hx.int
    · cases hk; exact hx.str
  refine ⟨a, valV kv k, rfl, .inl ⟨kv, k, h1, hu, rfl⟩, fun d hd => ?_, fun hd => ?_⟩
  · exact r.look.1 d hd
  · exact r.look.2 hd
theorem str_one {x : Str} {c : Nat} (h : x.cps.toList = [c]) : x = ⟨#[c]⟩ := by
  cases x with
  | mk cps =>
    congr
    exact Array.toList_inj.mp (by simpa using h)
theorem op2_in {X : Cx} (hu : X.A.units + 65 < cLine) : Op2 X (compareOp .In) fun x y => (inD x y).map fun b => .d (.bool b) := by
  intro ps F G H σ env x y u v z Q S hx hy hf k
  cases y <;> first | (cases hf; done) | skip
  · rename_i zz
    cases x <;> first | (cases hf; done) | skip
    rename_i yy
    cases hf
    have hk := k F H (.bl (inStr yy zz)) Ext.refl S (.bl _)
    unfold inStr at hk
    split at hk
    · rename_i c hc
      exact ⟨_, op_in_sign, c, zz, by rw [hx.str, str_one hc], hy.str, hk⟩
    · exact ⟨_, op_in_str, yy, zz, hx.str, hy.str, hk⟩
  · rename_i ds
    obtain ⟨bb, hb, rfl⟩ := Option.map_eq_some_iff.mp hf
    simp only [inD] at hb
    split at hb
    · rename_i hs
      rw [Bool.and_eq_true] at hs
      cases hb
      exact ⟨_, op_inD hu, x, ds, hx.dp S (SeqAt.canLay_of_shaped hs.1), hy.dp S (SeqAt.canLay_of_shaped hs.2), hs.1, hs.2, k F H _ Ext.refl S (.bl _)⟩
    · cases hb
  · rename_i ds
    obtain ⟨bb, hb, rfl⟩ := Option.map_eq_some_iff.mp hf
    simp only [inD] at hb
    split at hb
    · rename_i hs
      rw [Bool.and_eq_true] at hs
      cases hb
      exact ⟨_, op_inT hu, x, ds, hx.dp S (SeqAt.canLay_of_shaped hs.1), hy.dp S (SeqAt.canLay_of_shaped hs.2), hs.1, hs.2, k F H _ Ext.refl S (.bl _)⟩
    · cases hb
  · rename_i kvs
    simp only [inD] at hf
    cases hk : keyOfD x with
    | none => rw [hk] at hf; cases hf
    | some kk =>
      rw [hk] at hf
      cases hf
      obtain ⟨a, o, e, g, g1, g2⟩ := hy.dget S hk hx
      refine ⟨_, op_inK hu, a, o, e, g, ?_⟩
      have : o.isSome = (lookD kvs kk).isSome := by
        cases hl : lookD kvs kk with
        | none => rw [g2 hl] <;> rfl
        | some d => obtain ⟨w, ew, _⟩ := g1 d hl; rw [ew] <;> rfl
      rw [show (if false = true then !o.isSome else o.isSome) = (lookD kvs kk).isSome from this]
      exact k F H _ Ext.refl S (.bl _)
theorem op2_notIn {X : Cx} (hu : X.A.units + 65 < cLine) : Op2 X (compareOp .NotIn) fun x y => (inD x y).map fun b => .d (.bool !b) := by
  intro ps F G H σ env x y u v z Q S hx hy hf k
  cases y <;> first | (cases hf; done) | skip
  · rename_i zz
    cases x <;> first | (cases hf; done) | skip
    rename_i yy
    cases hf
    have hk := k F H (.bl (!inStr yy zz)) Ext.refl S (.bl _)
    unfold inStr at hk
    split at hk
    · rename_i c hc
      exact ⟨_, op_notIn_sign, c, zz, by rw [hx.str, str_one hc], hy.str, hk⟩
    · exact ⟨_, L2.op_notIn_str, yy, zz, hx.str, hy.str, hk⟩
  · rename_i ds
    obtain ⟨bb, hb, rfl⟩ := Option.map_eq_some_iff.mp hf
    simp only [inD] at hb
    split at hb
    · rename_i hs
      rw [Bool.and_eq_true] at hs
      cases hb
      exact ⟨_, op_notInD hu, x, ds, hx.dp S (SeqAt.canLay_of_shaped hs.1), hy.dp S (SeqAt.canLay_of_shaped hs.2), hs.1, hs.2, k F H _ Ext.refl S (.bl _)⟩
    · cases hb
  · rename_i ds
    obtain ⟨bb, hb, rfl⟩ := Option.map_eq_some_iff.mp hf
    simp only [inD] at hb
    split at hb
    · rename_i hs
      rw [Bool.and_eq_true] at hs
      cases hb
      exact ⟨_, op_notInT hu, x, ds, hx.dp S (SeqAt.canLay_of_shaped hs.1), hy.dp S (SeqAt.canLay_of_shaped hs.2), hs.1, hs.2, k F H _ Ext.refl S (.bl _)⟩
    · cases hb
  · rename_i kvs
    simp only [inD] at hf
    cases hk : keyOfD x with
    | none => rw [hk] at hf; cases hf
    | some kk =>
      rw [hk] at hf
      cases hf
      obtain ⟨a, o, e, g, g1, g2⟩ := hy.dget S hk hx
      refine ⟨_, op_notInK hu, a, o, e, g, ?_⟩
      have : o.isSome = (lookD kvs kk).isSome := by
        cases hl : lookD kvs kk with
        | none => rw [g2 hl] <;> rfl
        | some d => obtain ⟨w, ew, _⟩ := g1 d hl; rw [ew] <;> rfl
      rw [show (if true = true then !o.isSome else o.isSome) = !(lookD kvs kk).isSome by rw [if_pos rfl, this]]
      exact k F H _ Ext.refl S (.bl _)

/-! ### is -/
def isD : D → D → Option Bool
  | .none, .none => some true
  | .bool a, .bool b => some (decide (a = b))
  | .none, _ => none
  | _, .none => some false
  | _, _ => none
theorem Rq.ne_non {K : KF} {F H : Hp} {v : V} {x : D} (h : Rq K F H v x) (hx : x ≠ .none) : v ≠ .non := by
  rcases h with h | ⟨a, rfl, h⟩
  · cases h <;> first | (intro e; cases e; done) | exact absurd rfl hx
  · intro e; cases e
theorem op2_is {X : Cx} : Op2 X (compareOp .Is) fun x y => (isD x y).map fun b => .d (.bool b) := by
  intro ps F G H σ env x y u v z Q S hx hy hf k
  cases y <;> first | (cases x <;> (cases hf; done)) | skip
  · refine ⟨_, op_isN, hy.non, ?_⟩
    by_cases hn : x = .none
    · subst hn
      cases hf
      rw [hx.non]
      exact k F H _ Ext.refl S (.bl _)
    · have hv := hx.ne_non hn
      have : z = .d (.bool false) := by cases x <;> first | (cases hf; rfl) | exact absurd rfl hn
      subst this
      rw [decide_eq_false hv]
      exact k F H _ Ext.refl S (.bl _)
  · cases x <;> first | (cases hf; done) | skip
    cases hf
    exact ⟨_, op_isBl, _, _, hx.bool, hy.bool, k F H _ Ext.refl S (.bl _)⟩
theorem op2_isNot {X : Cx} : Op2 X (compareOp .IsNot) fun x y => (isD x y).map fun b => .d (.bool !b) := by
  intro ps F G H σ env x y u v z Q S hx hy hf k
  cases y <;> first | (cases x <;> (cases hf; done)) | skip
  · refine ⟨_, op_notN, hy.non, ?_⟩
    by_cases hn : x = .none
    · subst hn
      cases hf
      rw [hx.non]
      exact k F H _ Ext.refl S (.bl _)
    · have hv := hx.ne_non hn
      have : z = .d (.bool true) := by cases x <;> first | (cases hf; rfl) | exact absurd rfl hn
      subst this
      rw [decide_eq_false hv]
      exact k F H _ Ext.refl S (.bl _)
  · cases x <;> first | (cases hf; done) | skip
    cases hf
    exact ⟨_, op_notBl, _, _, hx.bool, hy.bool, k F H _ Ext.refl S (.bl _)⟩

def cmpD : CmpOp → D → D → Option Bool
  | .Eq, x, y => eqD x y
  | .NotEq, x, y => (eqD x y).map (! ·)
  | .Lt, x, y => ltD x y
  | .LtE, x, y => cmpI (fun i j => decide (i ≤ j)) x y
  | .Gt, x, y => cmpI (fun i j => decide (j < i)) x y
  | .GtE, x, y => cmpI (fun i j => decide (j ≤ i)) x y
  | .In, x, y => inD x y
  | .NotIn, x, y => (inD x y).map (! ·)
  | .Is, x, y => isD x y
  | .IsNot, x, y => (isD x y).map (! ·)
def cmpR (op : CmpOp) (x y : D) : Option R := (cmpD op x y).map fun b => .d (.bool b)
theorem op2_cmp {X : Cx} (hu : X.A.units + 65 < cLine) : ∀ op : CmpOp, Op2 X (compareOp op) (cmpR op)
  | .Eq => op2_eq hu
  | .NotEq => by
    have h := op2_ne (X := X) hu
    intro ps F G H σ env x y u v z Q S hx hy hf
    exact h ps F G H σ env x y u v z Q S hx hy (by simpa [cmpR, cmpD] using hf)
  | .Lt => op2_lt hu
  | .LtE => op2_cmpI op_le
  | .Gt => op2_cmpI op_gt
  | .GtE => op2_cmpI op_ge
  | .In => op2_in hu
  | .NotIn => by
    have h := op2_notIn (X := X) hu
    intro ps F G H σ env x y u v z Q S hx hy hf
    exact h ps F G H σ env x y u v z Q S hx hy (by simpa [cmpR, cmpD] using hf)
  | .Is => op2_is
  | .IsNot => by
    have h := op2_isNot (X := X)
    intro ps F G H σ env x y u v z Q S hx hy hf
    exact h ps F G H σ env x y u v z Q S hx hy (by simpa [cmpR, cmpD] using hf)
end PL

namespace PL
open PySem PySem.Spec PyProof.Rows L2

/-! ### how results are used -/
def RelP (K : KF) (F : Hp) (σ : St) (v : V) : R → Prop
  | .d x => Rp K F v x
  | .at i => σ[i]? = some (some v)
  | .new _ => False
theorem RelP.mono {K : KF} {F F' : Hp} {σ : St} {v : V} {r : R} (e : Ext F F') (h : RelP K F σ v r) : RelP K F' σ v r := by
  cases r with
  | d x => exact Rp.mono e h
  | «at» i => exact h
  | new x => exact h
theorem RelP.rq {K : KF} {ps : List V} {F G H : Hp} {σ : St} {env : Env'} {v : V} {x : D} {r : R} (h : RelP K F σ v r) (S : Sta K ps F G H σ env) (g : get r env = some x) : Rq K F H v x := by
  cases r with
  | d y => exact rq_of (r := .d y) S h g
  | «at» i => exact rq_of (r := .at i) S h g
  | new y => exact h.elim
def mP (m : M R) : M R := fun env => (m env).bind fun r e => match r with
  | .new x => .ok (.d x) e
  | .d x => .ok (.d x) e
  | .at i => .ok (.at i) e
def frz (r : R) (e : Env') : Res D := match r with
  | .new x => .ok x e
  | .d x => .ok x e
  | .at i => match e[i]? with
    | some (some s) => match s.w with
      | .d x => .ok x e
      | .o x => .ok x (e.set i (some ⟨s.tg, .d x⟩))
    | _ => .no
def mD (m : M R) : M D := fun env => (m env).bind frz
/-- frozen, unless it is new -/
def mW (m : M R) : M R := fun env => (m env).bind fun r e => match r with
  | .new x => .ok (.new x) e
  | .d x => .ok (.d x) e
  | .at i => (frz (.at i) e).bind fun x e => .ok (.d x) e
section
variable {X : Cx} {e : Expr} {m : M R} {ps : List V} {F G H : Hp} {σ : St} {env : Env'}
theorem SE.useP {α : Type} {P : α → Env' → Hp → Hp → Prop} {k : R → Env' → Res α} {Q : VK} (h : SE X e m) (S : Sta X.K ps F G H σ env) (hp : Post X ps F G σ P ((mP m env).bind k))
    (step : ∀ r e1 F1 H1 v, Ext F F1 → Sta X.K ps F1 G H1 σ e1 → RelP X.K F1 σ v r → Post X ps F1 G σ P (k r e1) → Q v H1) : tU X e σ H Q := by
  have hb : (mP m env).bind k = (m env).bind fun r e => (match r with | .new x => Res.ok (R.d x) e | .d x => Res.ok (R.d x) e | .at i => Res.ok (R.at i) e).bind k := by
    unfold mP; cases m env <;> rfl
  rw [hb] at hp
  refine h ps F G H σ env Q S (hp.bind fun r e1 F1 H1 E1 S1 hk v hv => ?_)
  cases r with
  | d x => exact step (.d x) _ _ _ _ E1 S1 hv hk
  | «at» i => exact step (.at i) _ _ _ _ E1 S1 hv hk
  | new x =>
    obtain ⟨F2, E2, S2, r2⟩ := S1.frzNew hv
    exact step (.d x) _ _ _ _ (E1.trans E2) S2 r2 (Post.mono E2 hk)
theorem frz_ok {α : Type} {P : α → Env' → Hp → Hp → Prop} {k : D → Env' → Res α} {r : R} {v : V} {C : Prop} (S : Sta X.K ps F G H σ env) (hv : RelR X.K F G H σ env v r) (hp : Post X ps F G σ P ((frz r env).bind k))
    (step : ∀ x e1 F1, Ext F F1 → Sta X.K ps F1 G H σ e1 → Rp X.K F1 v x → Post X ps F1 G σ P (k x e1) → C) : C := by
  cases r with
  | d x => exact step _ _ _ Ext.refl S hv hp
  | new x =>
    obtain ⟨F2, E2, S2, r2⟩ := S.frzNew hv
    exact step _ _ _ E2 S2 r2 (Post.mono E2 hp)
  | «at» i =>
    unfold frz at hp
    split at hp <;> first | (rename_i hh; cases hh; done) | skip
    rename_i j hj
    cases hj
    split at hp
    · rename_i s hs
      split at hp
      · rename_i x hw
        obtain ⟨u, q1, q2, _⟩ := S.slot i s hs
        have q0 : σ[i]? = some (some v) := hv
        rw [q0] at q1; cases q1
        rw [hw] at q2
        exact step _ _ _ Ext.refl S q2 hp
      · rename_i x hw
        obtain ⟨F2, u, E2, q1, S2, r2⟩ := S.frzSlot hs hw
        have q0 : σ[i]? = some (some v) := hv
        rw [q0] at q1; cases q1
        exact step _ _ _ E2 S2 r2 (Post.mono E2 hp)
    · exact hp.elim
theorem SE.useD {α : Type} {P : α → Env' → Hp → Hp → Prop} {k : D → Env' → Res α} {Q : VK} (h : SE X e m) (S : Sta X.K ps F G H σ env) (hp : Post X ps F G σ P ((mD m env).bind k))
    (step : ∀ x e1 F1 H1 v, Ext F F1 → Sta X.K ps F1 G H1 σ e1 → Rp X.K F1 v x → Post X ps F1 G σ P (k x e1) → Q v H1) : tU X e σ H Q := by
  have hb : (mD m env).bind k = (m env).bind fun r e => (frz r e).bind k := by unfold mD; cases m env <;> rfl
  rw [hb] at hp
  refine h ps F G H σ env Q S (hp.bind fun r e1 F1 H1 E1 S1 hk v hv => ?_)
  exact frz_ok S1 hv hk fun x e2 F2 E2 S2 r2 h2 => step x e2 F2 H1 v (E1.trans E2) S2 r2 h2
theorem SE.useW {α : Type} {P : α → Env' → Hp → Hp → Prop} {k : R → Env' → Res α} {Q : VK} (h : SE X e m) (S : Sta X.K ps F G H σ env) (hp : Post X ps F G σ P ((mW m env).bind k))
    (step : ∀ r e1 F1 H1 v, Ext F F1 → Sta X.K ps F1 G H1 σ e1 → RelR X.K F1 G H1 σ e1 v r → (∀ i, r ≠ .at i) → Post X ps F1 G σ P (k r e1) → Q v H1) : tU X e σ H Q := by
  have hb : (mW m env).bind k = (m env).bind fun r e => (match r with | .new x => Res.ok (R.new x) e | .d x => Res.ok (R.d x) e | .at i => (frz (.at i) e).bind fun x e => .ok (.d x) e).bind k := by
    unfold mW
    cases m env with
    | ok r e => cases r <;> rfl
    | ex => rfl
    | no => rfl
  rw [hb] at hp
  refine h ps F G H σ env Q S (hp.bind fun r e1 F1 H1 E1 S1 hk v hv => ?_)
  cases r with
  | d x => exact step _ _ _ _ _ E1 S1 hv (fun _ z => nomatch z) hk
  | new x => exact step _ _ _ _ _ E1 S1 hv (fun _ z => nomatch z) hk
  | «at» i =>
    have hk' : Post X ps F1 G σ P ((frz (.at i) e1).bind fun x e => k (.d x) e) := by
      have : ((frz (.at i) e1).bind fun x e => Res.ok (R.d x) e).bind k = (frz (.at i) e1).bind fun x e => k (.d x) e := by cases frz (.at i) e1 <;> rfl
      rw [← this]; exact hk
    exact frz_ok S1 hv hk' fun x e2 F2 E2 S2 r2 h2 => step (.d x) e2 F2 H1 v (E1.trans E2) S2 r2 (fun _ z => nomatch z) h2
/-- the end of a data result -/
theorem Post.dat {v : V} {x : D} {Q : VK} {H' : Hp} (S : Sta X.K ps F G H' σ env) (r : Rp X.K F v x) (h : Post X ps F G σ (fun r e' F' H' => ∀ v, RelR X.K F' G H' σ e' v r → Q v H') (.ok (.d x) env)) : Q v H' := h F H' Ext.refl S v r
end

/-! ### names, constants -/
def eC (x : D) : M R := fun env => .ok (.d x) env
def eV (i : Nat) : M R := fun env => match env[i]? with
  | some (some s) => match s.w with
    | .d x => .ok (.d x) env
    | .o _ => .ok (.at i) env
  | _ => .no
section
variable {X : Cx} {pos : Pos} {j : Nat}
theorem se_var {i : Nat} {x : Str} (h : PE X (.Name x pos) (tVar i)) : SE X (.Name x pos) (eV i) := by
  intro ps F G H σ env Q S hp
  unfold eV at hp
  split at hp
  · rename_i s hs
    obtain ⟨v, q1, q2, _⟩ := S.slot i s hs
    refine ⟨_, h, v, q1, ?_⟩
    split at hp
    · rename_i y hw
      rw [hw] at q2
      exact hp F H Ext.refl S v q2
    · exact hp F H Ext.refl S v q1
  · exact hp.elim
theorem se_cst {e : Expr} {v : V} {x : D} (h : PE X e (tC v)) (r : ∀ F, Rp X.K F v x) : SE X e (eC x) := fun ps F G H σ env Q S hp => ⟨_, h, hp F H Ext.refl S v (r F)⟩
theorem se_int {i : Int} {k : Nat} : SE X (.Constant (.int i) k pos) (eC (.int i)) := se_cst pe_int fun _ => .int i
theorem se_bl {i : Bool} {k : Nat} : SE X (.Constant (.bool i) k pos) (eC (.bool i)) := se_cst pe_bl fun _ => .bl i
theorem se_non {k : Nat} : SE X (.Constant .none k pos) (eC .none) := se_cst pe_non fun _ => .non
theorem se_str {i : Str} {k : Nat} : SE X (.Constant (.str i) k pos) (eC (.str i)) := se_cst pe_str fun _ => .str i
end

/-! ### two-place operations -/
def ofO (o : Option R) (e : Env') : Res R := match o with
  | some r => .ok r e
  | none => .no
def app1 (f : D → Option R) (r : R) (e : Env') : Res R := match get r e with
  | some x => ofO (f x) e
  | none => .no
def app2 (f : D → D → Option R) (r q : R) (e : Env') : Res R := match get r e, get q e with
  | some x, some y => ofO (f x y) e
  | _, _ => .no
def e2 (f : D → D → Option R) (a b : M R) : M R := fun env => (mP a env).bind fun r e1 => (mP b e1).bind fun q e2 => app2 f r q e2
abbrev eBin (op : Operator) (a b : M R) : M R := e2 (binD op) a b
abbrev eCmp (op : CmpOp) (a b : M R) : M R := e2 (cmpR op) a b
section
variable {X : Cx} {pos : Pos} {a b c : Expr} {ma mb mc : M R}
theorem app2_ok {f : D → D → Option R} {g : Value → Value → Sem Value} (ho : Op2 X g f) {ps : List V} {F G H : Hp} {σ : St} {env : Env'} {r q : R} {u v : V} {Q : VK} (S : Sta X.K ps F G H σ env)
    (hu : RelP X.K F σ u r) (hv : RelP X.K F σ v q) (hp : Post X ps F G σ (fun r e' F' H' => ∀ v, RelR X.K F' G H' σ e' v r → Q v H') (app2 f r q env)) : ∃ t, OpR X g t ∧ t u v H Q := by
  unfold app2 at hp
  split at hp
  · rename_i x y hx hy
    cases hf : f x y with
    | none => rw [hf] at hp; exact hp.elim
    | some z =>
      rw [hf] at hp
      exact ho ps F G H σ env x y u v z Q S (hu.rq S hx) (hv.rq S hy) hf fun F' H' w e S' r' => hp F' H' e S' w r'
  · exact hp.elim
def opU (X : Cx) (g : Value → Value → Sem Value) : R2 := fun x y H Q => ∃ t, OpR X g t ∧ t x y H Q
theorem opU_ok {g : Value → Value → Sem Value} : OpR X g (opU X g) := fun pins s σ H x y v u Q I rx ry ⟨_, h, q⟩ => h pins s σ H x y v u Q I rx ry q
theorem t2_ok {f : D → D → Option R} {g : Value → Value → Sem Value} (ho : Op2 X g f) (ha : SE X a ma) (hb : SE X b mb) {ps : List V} {F G H : Hp} {σ : St} {env : Env'} {Q : VK} (S : Sta X.K ps F G H σ env)
    (hp : Post X ps F G σ (fun r e' F' H' => ∀ v, RelR X.K F' G H' σ e' v r → Q v H') (e2 f ma mb env)) : tOp (opU X g) (tU X a) (tU X b) σ H Q := by
  refine ha.useP S hp fun r e1 F1 H1 u E1 S1 hu hp1 => ?_
  refine hb.useP S1 hp1 fun q e2 F2 H2 v E2 S2 hv hp2 => ?_
  exact app2_ok ho S2 (hu.mono E2) hv hp2
theorem se_bin {op : Operator} (ha : SE X a ma) (hb : SE X b mb) : SE X (.BinOp a op b pos) (eBin op ma mb) := fun ps F G H σ env Q S hp =>
  ⟨_, pe_op opU_ok peU peU, t2_ok (op2_bin op) ha hb S hp⟩
theorem se_cmp {op : CmpOp} (hu : X.A.units + 200 < cLine) (ha : SE X a ma) (hb : SE X b mb) (hm : behindInMarks op b = false) : SE X (.Compare a [op] [b] pos) (eCmp op ma mb) := fun ps F G H σ env Q S hp =>
  ⟨_, pe_cmpR opU_ok peU peU hm, t2_ok (op2_cmp (by omega) op) ha hb S hp⟩

/-! ### truth -/
def truD : D → Option Bool
  | .none => some false
  | .bool b => some b
  | .int i => some (i != 0)
  | .str x => if lim x.length then some ((x.length : Int) != 0) else none
  | .list ds => some (!ds.isEmpty)
  | .tuple ds => some (!ds.isEmpty)
  | .dict _ => none
theorem Rps.isEmpty {K : KF} {F : Hp} {vs : List V} {ds : List D} (r : Rps K F vs ds) : (!ds.isEmpty) = !vs.isEmpty := by cases r <;> rfl
theorem truV_of {ps : List V} {F G H : Hp} {σ : St} {env : Env'} {v : V} {x : D} {k : Bool} (S : Sta X.K ps F G H σ env) (h : Rq X.K F H v x) (ht : truD x = some k) : TruV X.K v H k := by
  cases x with
  | none => cases ht; rw [h.non]; exact rfl
  | bool b => cases ht; rw [h.bool]; exact rfl
  | int i => cases ht; rw [h.int]; exact rfl
  | str x =>
    simp only [truD] at ht
    split at ht
    · rename_i hl
      cases ht
      rw [h.str]; exact ⟨lim_le hl, rfl⟩
    · cases ht
  | list ds =>
    cases ht
    obtain ⟨a, xs, rfl, h1, r⟩ := h.list S
    exact .inl ⟨xs, h1, r.isEmpty⟩
  | tuple ds =>
    cases ht
    obtain ⟨a, xs, rfl, h1, r⟩ := h.tuple S
    exact .inr (.inl ⟨xs, h1, r.isEmpty⟩)
  | dict ds => cases ht
def truR (r : R) (e : Env') : Option Bool := (get r e).bind truD
def tVal (m : M R) : M Bool := fun env => (mP m env).bind fun r e => match truR r e with
  | some b => .ok b e
  | none => .no
theorem truR_of {ps : List V} {F G H : Hp} {σ : St} {env : Env'} {v : V} {r : R} {k : Bool} (S : Sta X.K ps F G H σ env) (h : RelP X.K F σ v r) (ht : truR r env = some k) : TruV X.K v H k := by
  unfold truR at ht
  cases hg : get r env with
  | none => rw [hg] at ht; cases ht
  | some x => rw [hg] at ht; exact truV_of S (h.rq S hg) ht
theorem st_tru (ha : SE X a ma) (he : ∀ whole, isTrue a X.env whole = (do let v ← whole; standAt a.pos; holding [v] (truthy v)) := by intro _; rfl) : ST X a (tVal ma) := fun ps F G H σ env Q S hp => by
  refine ⟨_, pt_truth peU he, ?_⟩
  refine ha.useP S hp fun r e1 F1 H1 u E1 S1 hu hp1 => ?_
  cases ht : truR r e1 with
  | none => rw [ht] at hp1; exact hp1.elim
  | some k => rw [ht] at hp1; exact ⟨k, truR_of S1 hu ht, hp1 F1 H1 Ext.refl S1⟩
/-- a result that is a truth -/
def bD : D → Option Bool
  | .bool b => some b
  | _ => none
def tB (m : M R) : M Bool := fun env => (m env).bind fun r e => match r with
  | .d (.bool b) => .ok b e
  | _ => .no
theorem tB_end {ps : List V} {F G : Hp} {σ : St} {Q : Bool → Hp → Prop} {m : Res R} (h : Post X ps F G σ (fun b e' F' H' => Q b H') (m.bind fun r e => match r with | .d (.bool b) => .ok b e | _ => .no)) :
    Post X ps F G σ (fun r e' F' H' => ∀ v, RelR X.K F' G H' σ e' v r → ∃ k, v = .bl k ∧ Q k H') m := by
  refine h.bind fun r e F' H' E S hk v hv => ?_
  split at hk
  · cases hv; exact ⟨_, rfl, hk F' H' Ext.refl S⟩
  · exact hk.elim
theorem st_cmp {op : CmpOp} (hu : X.A.units + 200 < cLine) (ha : SE X a ma) (hb : SE X b mb) (hm : behindInMarks op b = false) : ST X (.Compare a [op] [b] pos) (tB (eCmp op ma mb)) := fun ps F G H σ env Q S hp =>
  ⟨_, pt_cmpR opU_ok peU peU hm, t2_ok (op2_cmp (by omega) op) ha hb S (tB_end hp)⟩

/-- a < b < c -/
def eCh (op op' : CmpOp) (a b c : M R) : M R := fun env => (mP a env).bind fun r e1 => (mP b e1).bind fun q e2 => (app2 (cmpR op) r q e2).bind fun z e3 => match z with
  | .d (.bool true) => (mP c e3).bind fun s e4 => app2 (cmpR op') q s e4
  | .d (.bool false) => .ok (.d (.bool false)) e3
  | _ => .no
theorem tch_ok {op op' : CmpOp} (hu : X.A.units + 200 < cLine) (ha : SE X a ma) (hb : SE X b mb) (hc : SE X c mc) {ps : List V} {F G H : Hp} {σ : St} {env : Env'} {Q : VK} (S : Sta X.K ps F G H σ env)
    (hp : Post X ps F G σ (fun r e' F' H' => ∀ v, RelR X.K F' G H' σ e' v r → Q v H') (eCh op op' ma mb mc env)) : tChain (opU X (compareOp op)) (opU X (compareOp op')) (tU X a) (tU X b) (tU X c) σ H Q := by
  refine ha.useP S hp fun r e1 F1 H1 u E1 S1 hr hp1 => ?_
  refine hb.useP S1 hp1 fun q e2 F2 H2 v E2 S2 hq hp2 => ?_
  refine app2_ok (op2_cmp (by omega) op) S2 (hr.mono E2) hq (hp2.bind fun z e3 F3 H3 E3 S3 hp3 w hz => ?_)
  split at hp3
  · cases hz
    refine ⟨true, rfl, ?_⟩
    rw [if_pos rfl]
    refine hc.useP S3 hp3 fun s e4 F4 H4 x E4 S4 hs hp4 => ?_
    exact app2_ok (op2_cmp (by omega) op') S4 (hq.mono (E3.trans E4)) hs hp4
  · cases hz
    refine ⟨false, rfl, ?_⟩
    rw [if_neg Bool.false_ne_true]
    exact hp3 F3 H3 Ext.refl S3 _ (.bl false)
  · exact hp3.elim
theorem se_ch {op op' : CmpOp} (hu : X.A.units + 200 < cLine) (ha : SE X a ma) (hb : SE X b mb) (hc : SE X c mc) (hm : lastMarks [op, op'] [b, c] = false := by with_unfolding_all rfl) : SE X (.Compare a [op, op'] [b, c] pos) (eCh op op' ma mb mc) := fun ps F G H σ env Q S hp =>
  ⟨_, pe_chain opU_ok opU_ok peU peU peU hm, tch_ok hu ha hb hc S hp⟩
theorem st_ch {op op' : CmpOp} (hu : X.A.units + 200 < cLine) (ha : SE X a ma) (hb : SE X b mb) (hc : SE X c mc) (hm : lastMarks [op, op'] [b, c] = false := by with_unfolding_all rfl) : ST X (.Compare a [op, op'] [b, c] pos) (tB (eCh op op' ma mb mc)) := fun ps F G H σ env Q S hp =>
  ⟨_, pt_chain opU_ok opU_ok peU peU peU hm, tch_ok hu ha hb hc S (tB_end hp)⟩

/-! ### and, or, not, if -/
def tAnd (s t : M Bool) : M Bool := fun env => (s env).bind fun b e => if b then t e else .ok false e
def tOr (s t : M Bool) : M Bool := fun env => (s env).bind fun b e => if b then .ok true e else t e
def tNot (s : M Bool) : M Bool := fun env => (s env).bind fun b e => .ok (!b) e
def SW (X : Cx) (e : Expr) (m : M Bool) : Prop := ∀ ps F G H σ env Q, Sta X.K ps F G H σ env →
  Post X ps F G σ (fun b e' F' H' => Q b H') (m env) → ∃ t, PW X e t ∧ t σ H Q
def twU (X : Cx) (e : Expr) : TT := fun σ H Q => ∃ t, PW X e t ∧ t σ H Q
theorem pwU {e : Expr} : PW X e (twU X e) := ⟨fun wh pins s σ H Q I ⟨_, h, q⟩ => h.run wh pins s σ H Q I q⟩
theorem SW.st {e : Expr} {m : M Bool} (h : SW X e m) : ST X e m := fun ps F G H σ env Q S hp => let ⟨t, h1, h2⟩ := h ps F G H σ env Q S hp; ⟨t, h1.pt, h2⟩
variable {s t : M Bool} {rest : List Expr}
theorem sw_and1 (ha : ST X a s) : SW X (.BoolOp .And [a] pos) s := fun ps F G H σ env Q S hp => ⟨_, pw_and1 ptU, ha ps F G H σ env Q S hp⟩
theorem sw_or1 (ha : ST X a s) : SW X (.BoolOp .Or [a] pos) s := fun ps F G H σ env Q S hp => ⟨_, pw_or1 ptU, ha ps F G H σ env Q S hp⟩
theorem sw_and (ha : ST X a s) (hb : SW X (.BoolOp .And (b :: rest) pos) t) : SW X (.BoolOp .And (a :: b :: rest) pos) (tAnd s t) := fun ps F G H σ env Q S hp => by
  refine ⟨_, pw_and ptU pwU, ha ps F G H σ env _ S (hp.bind fun c e F' H' E S' hk => ?_)⟩
  cases c with
  | true => rw [if_pos rfl]; exact hb ps F' G H' σ e Q S' hk
  | false => rw [if_neg Bool.false_ne_true]; exact hk F' H' Ext.refl S'
theorem sw_or (ha : ST X a s) (hb : SW X (.BoolOp .Or (b :: rest) pos) t) : SW X (.BoolOp .Or (a :: b :: rest) pos) (tOr s t) := fun ps F G H σ env Q S hp => by
  refine ⟨_, pw_or ptU pwU, ha ps F G H σ env _ S (hp.bind fun c e F' H' E S' hk => ?_)⟩
  cases c with
  | true => rw [if_pos rfl]; exact hk F' H' Ext.refl S'
  | false => rw [if_neg Bool.false_ne_true]; exact hb ps F' G H' σ e Q S' hk
theorem st_not (ha : ST X a s) : ST X (.UnaryOp .Not a pos) (tNot s) := fun ps F G H σ env Q S hp =>
  ⟨_, pt_not ptU, ha ps F G H σ env _ S (hp.bind fun c e F' H' E S' hk => hk F' H' Ext.refl S')⟩
/-- as values -/
def eAnd (a b : M R) : M R := fun env => (mD a env).bind fun x e => match truD x with
  | some true => b e
  | some false => .ok (.d x) e
  | none => .no
def eOr (a b : M R) : M R := fun env => (mD a env).bind fun x e => match truD x with
  | some true => .ok (.d x) e
  | some false => b e
  | none => .no
def eNot (a : M R) : M R := fun env => (tVal a env).bind fun b e => .ok (.d (.bool !b)) e
theorem se_one {op : BoolOp} (h : SE X a ma) : SE X (.BoolOp op [a] pos) ma := fun ps F G H σ env Q S hp => ⟨_, pe_one peU, h ps F G H σ env Q S hp⟩
theorem se_and (ha : SE X a ma) (hb : SE X (.BoolOp .And (b :: rest) pos) mb) : SE X (.BoolOp .And (a :: b :: rest) pos) (eAnd ma mb) := fun ps F G H σ env Q S hp => by
  refine ⟨_, pe_andT peU peU, ha.useD S hp fun x e1 F1 H1 u E1 S1 hu hp1 => ?_⟩
  split at hp1
  · rename_i ht
    exact ⟨true, truV_of S1 (.inl hu) ht, by rw [if_pos rfl]; exact hb ps F1 G H1 σ e1 Q S1 hp1⟩
  · rename_i ht
    exact ⟨false, truV_of S1 (.inl hu) ht, by rw [if_neg Bool.false_ne_true]; exact hp1 F1 H1 Ext.refl S1 u hu⟩
  · exact hp1.elim
theorem se_or (ha : SE X a ma) (hb : SE X (.BoolOp .Or (b :: rest) pos) mb) : SE X (.BoolOp .Or (a :: b :: rest) pos) (eOr ma mb) := fun ps F G H σ env Q S hp => by
  refine ⟨_, pe_orT peU peU, ha.useD S hp fun x e1 F1 H1 u E1 S1 hu hp1 => ?_⟩
  split at hp1
  · rename_i ht
    exact ⟨true, truV_of S1 (.inl hu) ht, by rw [if_pos rfl]; exact hp1 F1 H1 Ext.refl S1 u hu⟩
  · rename_i ht
    exact ⟨false, truV_of S1 (.inl hu) ht, by rw [if_neg Bool.false_ne_true]; exact hb ps F1 G H1 σ e1 Q S1 hp1⟩
  · exact hp1.elim
theorem se_not (ha : SE X a ma) : SE X (.UnaryOp .Not a pos) (eNot ma) := fun ps F G H σ env Q S hp => by
  have hb : eNot ma env = (mP ma env).bind fun r e => match truR r e with | some b => .ok (.d (.bool !b)) e | none => .no := by
    unfold eNot tVal
    cases mP ma env with
    | ok r e => show Res.bind (match truR r e with | some b => .ok b e | none => .no) _ = _; cases h : truR r e <;> simp only [Res.bind, h]
    | ex => rfl
    | no => rfl
  rw [hb] at hp
  refine ⟨_, pe_notT peU, ha.useP S hp fun r e1 F1 H1 u E1 S1 hu hp1 => ?_⟩
  cases ht : truR r e1 with
  | none => rw [ht] at hp1; exact hp1.elim
  | some k => rw [ht] at hp1; exact ⟨k, truR_of S1 hu ht, hp1 F1 H1 Ext.refl S1 _ (.bl _)⟩
def eIf (t : M Bool) (a b : M R) : M R := fun env => (t env).bind fun c e => if c then a e else b e
theorem se_if (ht : ST X c s) (ha : SE X a ma) (hb : SE X b mb) : SE X (.IfExp c a b pos) (eIf s ma mb) := fun ps F G H σ env Q S hp => by
  refine ⟨_, pe_ifExp ptU peU peU, ht ps F G H σ env _ S (hp.bind fun c e F' H' E S' hk => ?_)⟩
  cases c with
  | true => rw [if_pos rfl]; exact ha ps F' G H' σ e Q S' hk
  | false => rw [if_neg Bool.false_ne_true]; exact hb ps F' G H' σ e Q S' hk
end
end PL

namespace PL
open PySem PySem.Spec PyProof.Rows L2

/-! ### arguments, displays -/
def mArgs : List (M R) → M (List R)
  | [] => fun e => .ok [] e
  | m :: ms => fun env => (mP m env).bind fun r e => (mArgs ms e).bind fun rs e' => .ok (r :: rs) e'
def mDs : List (M R) → M (List D)
  | [] => fun e => .ok [] e
  | m :: ms => fun env => (mD m env).bind fun r e => (mDs ms e).bind fun rs e' => .ok (r :: rs) e'
def SA (X : Cx) (es : List Expr) (m : M (List R)) : Prop := ∀ ps F G H σ env Q, Sta X.K ps F G H σ env →
  Post X ps F G σ (fun rs e' F' H' => ∀ vs, Paired (RelP X.K F' σ) vs rs → Q vs H') (m env) → taU X es σ H Q
def SDs (X : Cx) (es : List Expr) (m : M (List D)) : Prop := ∀ ps F G H σ env Q, Sta X.K ps F G H σ env →
  Post X ps F G σ (fun ds e' F' H' => ∀ vs, Rps X.K F' vs ds → vs.length = es.length → Q vs H') (m env) → taU X es σ H Q
theorem pairedP_mono {K : KF} {F F' : Hp} {σ : St} (e : Ext F F') {vs : List V} {rs : List R} (h : Paired (RelP K F σ) vs rs) : Paired (RelP K F' σ) vs rs := Paired.mapP h fun _ _ r => r.mono e
section
variable {X : Cx} {pos : Pos} {e : Expr} {es : List Expr} {m : M R} {ms : List (M R)}
theorem sa_nil : SA X [] (mArgs []) := fun ps F G H σ env Q S hp => ⟨_, pa_nil, hp F H Ext.refl S [] .nil⟩
theorem sa_cons (ha : SE X e m) (hr : SA X es (mArgs ms)) (hs : starEach (e :: es) X.env = (false, eval e X.env) :: starEach es X.env := by rfl) : SA X (e :: es) (mArgs (m :: ms)) := fun ps F G H σ env Q S hp => by
  refine ⟨_, pa_cons peU paU hs, ha.useP S hp fun r e1 F1 H1 v E1 S1 hv hp1 => ?_⟩
  refine hr ps F1 G H1 σ e1 _ S1 (hp1.bind fun rs e2 F2 H2 E2 S2 hp2 vs hvs => ?_)
  exact hp2 F2 H2 Ext.refl S2 _ (.cons (hv.mono E2) hvs)
theorem sd_nil : SDs X [] (mDs []) := fun ps F G H σ env Q S hp => ⟨_, pa_nil, hp F H Ext.refl S [] .nil rfl⟩
theorem sd_cons (ha : SE X e m) (hr : SDs X es (mDs ms)) (hs : starEach (e :: es) X.env = (false, eval e X.env) :: starEach es X.env := by rfl) : SDs X (e :: es) (mDs (m :: ms)) := fun ps F G H σ env Q S hp => by
  refine ⟨_, pa_cons peU paU hs, ha.useD S hp fun r e1 F1 H1 v E1 S1 hv hp1 => ?_⟩
  refine hr ps F1 G H1 σ e1 _ S1 (hp1.bind fun rs e2 F2 H2 E2 S2 hp2 vs hvs hl => ?_)
  exact hp2 F2 H2 Ext.refl S2 _ (.cons (hv.mono E2) hvs) (congrArg Nat.succ hl)
def eTup (ms : List (M R)) : M R := fun env => (mDs ms env).bind fun ds e => .ok (.d (.tuple ds)) e
def eLst (ms : List (M R)) : M R := fun env => (mDs ms env).bind fun ds e => .ok (.new (.list ds)) e
theorem se_tup {x1} (h : SDs X es (mDs ms)) (hl : es.length ≤ 10000 := by decide) : SE X (.Tuple es x1 pos) (eTup ms) := fun ps F G H σ env Q S hp => by
  refine ⟨_, pe_tup paU, h ps F G H σ env _ S (hp.bind fun ds e F1 H1 E1 S1 hk vs hv hvl => ⟨by rw [hvl]; exact Nat.le_trans hl (by rw [sizeLine_eq]; decide), fun p hp => ?_⟩)⟩
  obtain ⟨F2, E2, S2, r⟩ := fresh_tup S1 hp hv
  exact hk F2 _ E2 S2 _ r
theorem se_lst (h : SDs X es (mDs ms)) (hl : es.length ≤ 10000 := by decide) : SE X (.List es pos) (eLst ms) := fun ps F G H σ env Q S hp => by
  refine ⟨_, pe_lst paU, h ps F G H σ env _ S (hp.bind fun ds e F1 H1 E1 S1 hk vs hv hvl => ⟨by rw [hvl]; exact Nat.le_trans hl (by rw [sizeLine_eq]; decide), fun p hp => ?_⟩)⟩
  obtain ⟨S2, r⟩ := fresh_lst S1 hp hv
  exact hk F1 _ Ext.refl S2 _ r
def eDic0 : M R := fun env => .ok (.new (.dict [])) env
theorem se_dic0 : SE X (.Dict [] [] pos) eDic0 := fun ps F G H σ env Q S hp => by
  refine ⟨_, pe_dnewK, fun p hp' => ?_⟩
  obtain ⟨S2, r⟩ := fresh_dct S hp' .nil
  exact hp F _ Ext.refl S2 _ r
end

/-! ### places and slices -/
def ixD : D → D → Option D
  | .list ds, .int i => atI ds i
  | .tuple ds, .int i => atI ds i
  | .str z, .int i => if lim z.length then (atI z.cps.toList i).map fun c => .str ⟨#[c]⟩ else none
  | .dict kvs, k => (keyOfD k).bind fun kk => lookD kvs kk
  | _, _ => none
def ixU (X : Cx) : R2 := fun x y H Q => ∃ t, IxR X t ∧ t x y H Q
theorem ixU_ok {X : Cx} : IxR X (ixU X) := fun value slice pins s σ H x y v u Q I rx ry ⟨_, h, q⟩ => h value slice pins s σ H x y v u Q I rx ry q
theorem ix_dict {X : Cx} (hu : X.A.units + 1 < cLine) : IxR X (fun x y H Q => ∃ a v, x = .ref a ∧ DGet H a y (some v) ∧ Q v H) := by
  intro value slice pins s σ H x y v u Q I rx ry ⟨a, w, ex, g, q⟩ hs
  subst ex
  obtain rfl : v = Value.ref a := rx
  exact tail_any (dict_typeIs I g) PySem.F.slot_dict_getitem.lookup (d_getItem hu I g ry fun w' s' I' r' => ⟨w, H, I', r', q⟩) hs
theorem atI_rel {K : KF} {F : Hp} {vs : List V} {ds : List D} {i : Int} {d : D} (r : Rps K F vs ds) (h : atI ds i = some d) : ∃ v, atI vs i = some v ∧ Rp K F v d := by
  unfold atI at *
  rw [r.length]
  obtain ⟨j, h1, h2⟩ := Option.bind_eq_some_iff.mp h
  obtain ⟨v, h3, h4⟩ := r.get h2
  exact ⟨v, by rw [h1]; exact h3, h4⟩
theorem ixD_ok {X : Cx} (hu : X.A.units + 200 < cLine) {ps : List V} {F G H : Hp} {σ : St} {env : Env'} {x y z : D} {u v : V} {Q : VK} (S : Sta X.K ps F G H σ env) (hx : Rq X.K F H u x) (hy : Rq X.K F H v y) (h : ixD x y = some z)
    (k : ∀ w, Rp X.K F w z → Q w H) : ixU X u v H Q := by
  cases x <;> first | (cases h; done) | skip
  · rename_i s
    cases y <;> first | (cases h; done) | skip
    rename_i i
    simp only [ixD] at h
    split at h
    · rename_i hl
      obtain ⟨c, hc, rfl⟩ := Option.map_eq_some_iff.mp h
      exact ⟨_, ix_str, s, i, c, hx.str, hy.int, lim_le hl, hc, k _ (.str _)⟩
    · cases h
  · rename_i ds
    cases y <;> first | (cases h; done) | skip
    rename_i i
    obtain ⟨a, xs, rfl, h1, r⟩ := hx.list S
    obtain ⟨w, h2, h3⟩ := atI_rel r h
    exact ⟨_, ix_list, a, xs, i, w, rfl, hy.int, h1, h2, k _ h3⟩
  · rename_i ds
    cases y <;> first | (cases h; done) | skip
    rename_i i
    obtain ⟨a, xs, rfl, h1, r⟩ := hx.tuple S
    obtain ⟨w, h2, h3⟩ := atI_rel r h
    exact ⟨_, ix_tup, a, xs, i, w, rfl, hy.int, h1, h2, k _ h3⟩
  · rename_i kvs
    have h' : (keyOfD y).bind (fun kk => lookD kvs kk) = some z := by cases y <;> exact h
    obtain ⟨kk, h1, h2⟩ := Option.bind_eq_some_iff.mp h'
    obtain ⟨a, o, rfl, g, g1, _⟩ := hx.dget S h1 hy
    obtain ⟨w, rfl, hw⟩ := g1 z h2
    exact ⟨_, ix_dict (by omega), a, w, rfl, g, k _ hw⟩
def ixR (x y : D) : Option R := (ixD x y).map R.d
def eIx (a i : M R) : M R := e2 ixR a i
theorem se_ix {X : Cx} {pos : Pos} {a b : Expr} {ma mb : M R} (hu : X.A.units + 200 < cLine) (ha : SE X a ma) (hb : SE X b mb) (hs : PlainIx b := by intro _ _; rfl) : SE X (.Subscript a b pos) (eIx ma mb) := fun ps F G H σ env Q S hp => by
  refine ⟨_, pe_ix ixU_ok peU peU hs, ha.useP S hp fun r e1 F1 H1 u E1 S1 hr hp1 => hb.useP S1 hp1 fun q e2 F2 H2 v E2 S2 hq hp2 => ?_⟩
  unfold app2 at hp2
  split at hp2
  · rename_i x y hx hy
    unfold ixR at hp2
    cases hf : ixD x y with
    | none => rw [hf] at hp2; exact hp2.elim
    | some z =>
      rw [hf] at hp2
      exact ixD_ok hu S2 ((hr.mono E2).rq S2 hx) (hq.rq S2 hy) hf fun w hw => hp2 F2 H2 Ext.refl S2 w hw
  · exact hp2.elim

def cutL {α : Type} (xs : List α) (lo hi : Option Int) : List α := (xs.drop (HT.sIx xs.length 0 lo)).take (HT.sIx xs.length xs.length hi - HT.sIx xs.length 0 lo)
theorem cutL_rel {K : KF} {F : Hp} {vs : List V} {ds : List D} (r : Rps K F vs ds) (lo hi : Option Int) : Rps K F (cutV vs lo hi) (cutL ds lo hi) := by
  unfold cutV cutL
  rw [r.length]
  exact (r.drop _).take _
def slD : D → Option Int → Option Int → Option R
  | .list ds, lo, hi => some (.new (.list (cutL ds lo hi)))
  | .tuple ds, lo, hi => some (.d (.tuple (cutL ds lo hi)))
  | .str z, lo, hi => if lim z.length then some (.d (.str (cutS z lo hi))) else none
  | _, _, _ => none
def mO : Option (M R) → M (Option Int)
  | none => fun e => .ok none e
  | some m => fun env => (mP m env).bind fun r e => match get r e with
    | some (.int i) => .ok (some i) e
    | _ => .no
def eSl (a : M R) (lo hi : Option (M R)) : M R := fun env => (mP a env).bind fun r e => (mO lo e).bind fun l e1 => (mO hi e1).bind fun h e2 => match get r e2 with
  | some x => ofO (slD x l h) e2
  | none => .no
def toU (X : Cx) (e : Option Expr) : TO := fun σ H Q => ∃ t, PO X e t ∧ t σ H Q
theorem poU {X : Cx} {e : Option Expr} : PO X e (toU X e) := ⟨fun pins s σ H Q I ⟨_, h, q⟩ => h.run pins s σ H Q I q⟩
def SO (X : Cx) (e : Option Expr) (m : M (Option Int)) : Prop := ∀ ps F G H σ env Q, Sta X.K ps F G H σ env →
  Post X ps F G σ (fun o e' F' H' => Q o H') (m env) → toU X e σ H Q
theorem so_none {X : Cx} : SO X none (mO none) := fun ps F G H σ env Q S hp => ⟨_, po_none, hp F H Ext.refl S⟩
theorem so_some {X : Cx} {e : Expr} {m : M R} (h : SE X e m) : SO X (some e) (mO (some m)) := fun ps F G H σ env Q S hp => by
  refine ⟨_, po_some peU, h.useP S hp fun r e1 F1 H1 u E1 S1 hr hp1 => ?_⟩
  split at hp1
  · rename_i i hg
    exact ⟨i, (hr.rq S1 hg).int, hp1 F1 H1 Ext.refl S1⟩
  · exact hp1.elim
def slU (X : Cx) : V → Option Int → Option Int → Hp → VK → Prop := fun x l h H Q => ∃ t, SlR X t ∧ t x l h H Q
theorem slU_ok {X : Cx} : SlR X (slU X) := fun pins s σ H x v vl vu lo hi sl Q I rx hs pl pu ⟨_, h, q⟩ => h pins s σ H x v vl vu lo hi sl Q I rx hs pl pu q
theorem se_sl {X : Cx} {pos p2 : Pos} {a : Expr} {lo hi : Option Expr} {ma : M R} {ml mh : Option (M R)} (ha : SE X a ma) (hl : SO X lo (mO ml)) (hh : SO X hi (mO mh)) : SE X (.Subscript a (.Slice lo hi none p2) pos) (eSl ma ml mh) := fun ps F G H σ env Q S hp => by
  refine ⟨_, pe_slice slU_ok peU poU poU, ha.useP S hp fun r e1 F1 H1 u E1 S1 hr hp1 => ?_⟩
  refine hl ps F1 G H1 σ e1 _ S1 (hp1.bind fun l e2 F2 H2 E2 S2 hp2 => ?_)
  refine hh ps F2 G H2 σ e2 _ S2 (hp2.bind fun h e3 F3 H3 E3 S3 hp3 => ?_)
  split at hp3
  · rename_i x hx
    have hq := (hr.mono (E2.trans E3)).rq S3 hx
    cases hf : slD x l h with
    | none => rw [hf] at hp3; exact hp3.elim
    | some z =>
      rw [hf] at hp3
      cases x <;> first | (cases hf; done) | skip
      · rename_i s
        simp only [slD] at hf
        split at hf
        · rename_i hlm
          cases hf
          exact ⟨_, sl_str, s, hq.str, lim_le hlm, hp3 F3 H3 Ext.refl S3 _ (.str _)⟩
        · cases hf
      · rename_i ds
        cases hf
        obtain ⟨a, xs, rfl, h1, rr⟩ := hq.list S3
        refine ⟨_, sl_list, a, xs, rfl, h1, fun p hp => ?_⟩
        obtain ⟨S4, r4⟩ := fresh_lst S3 hp (cutL_rel rr l h)
        exact hp3 F3 _ Ext.refl S4 _ r4
      · rename_i ds
        cases hf
        obtain ⟨a, xs, rfl, h1, rr⟩ := hq.tuple S3
        refine ⟨_, sl_tupA, a, xs, rfl, h1, fun hw => ?_, fun _ p hp => ?_⟩
        · have e : cutL ds l h = ds := by
            unfold cutL
            rw [← rr.length, hw.1, hw.2]
            simp only [List.drop_zero, Nat.sub_zero]
            rw [List.take_of_length_le (by rw [rr.length]; exact Nat.le_refl _)]
          rw [e] at hp3
          exact hp3 F3 H3 Ext.refl S3 _ (hq.rp (fun _ z => nomatch z) (fun _ z => nomatch z))
        · obtain ⟨F4, E4, S4, r4⟩ := fresh_tup S3 hp (cutL_rel rr l h)
          exact hp3 F4 _ E4 S4 _ r4
  · exact hp3.elim

/-! ### calls of builtins -/
def getAll : List R → Env' → Option (List D)
  | [], _ => some []
  | r :: rs, e => match get r e, getAll rs e with
    | some x, some xs => some (x :: xs)
    | _, _ => none
theorem getAll_rq {K : KF} {ps : List V} {F G H : Hp} {σ : St} {env : Env'} (S : Sta K ps F G H σ env) : ∀ {rs : List R} {vs : List V} {xs : List D}, Paired (RelP K F σ) vs rs → getAll rs env = some xs → Paired (Rq K F H) vs xs
  | [], _, _, .nil, h => by cases h; exact .nil
  | r :: rs, _, _, .cons hr ht, h => by
    unfold getAll at h
    split at h
    · rename_i x xs hx hxs
      cases h
      exact .cons (hr.rq S hx) (getAll_rq S ht hxs)
    · cases h
def CallD (X : Cx) (f : Value) (g : List D → Option R) : Prop :=
  ∀ (ps : List V) (F G H : Hp) (σ : St) (env : Env') (xs : List D) (vs : List V) (z : R) (Q : VK), Sta X.K ps F G H σ env → Paired (Rq X.K F H) vs xs → g xs = some z →
    Cont X.K ps F G σ env Q z → ∃ r, CallR X f r ∧ r vs H Q
def crU (X : Cx) (f : Value) : List V → Hp → VK → Prop := fun vs H Q => ∃ r, CallR X f r ∧ r vs H Q
theorem crU_ok {X : Cx} {f : Value} : CallR X f (crU X f) := fun pins s σ H xs us Q I r ⟨_, h, q⟩ => h pins s σ H xs us Q I r q
def eB (g : List D → Option R) (ms : List (M R)) : M R := fun env => (mArgs ms env).bind fun rs e => match getAll rs e with
  | some xs => ofO (g xs) e
  | none => .no
section
variable {X : Cx} {pos p : Pos} {e : Expr} {es : List Expr} {m : M R} {ms : List (M R)} {g : List D → Option R} {x : Str}
theorem callD_ok {f : Value} (hc : CallD X f g) {ps : List V} {F G H : Hp} {σ : St} {env : Env'} {rs : List R} {vs : List V} {Q : VK} (S : Sta X.K ps F G H σ env) (hv : Paired (RelP X.K F σ) vs rs)
    (hp : Post X ps F G σ (fun r e' F' H' => ∀ v, RelR X.K F' G H' σ e' v r → Q v H') (match getAll rs env with | some xs => ofO (g xs) env | none => .no)) : crU X f vs H Q := by
  split at hp
  · rename_i xs hxs
    cases hg : g xs with
    | none => rw [hg] at hp; exact hp.elim
    | some z =>
      rw [hg] at hp
      exact hc ps F G H σ env xs vs z Q S (getAll_rq S hv hxs) hg fun F' H' w E S' r' => hp F' H' E S' w r'
  · exact hp.elim
theorem se_callB {id : String} (hc : CallD X (.builtin id) g) (hg : Gl X x) (hm : X.mg x = none) (hv : bootBuiltins x = some (.builtin id)) (ha : SA X (e :: es) (mArgs ms)) (hn : x ≠ "__name__" := by decide) (hdb : (x == ("__debug__" : Str)) = false := by decide)
    (he : starEach (e :: es) X.env = (false, eval e X.env) :: starEach es X.env := by rfl) (hpl : (backTo pos (starEach es X.env)).any (·.1) = false := by rfl) : SE X (.Call (.Name x p) (e :: es) [] pos) (eB g ms) := fun ps F G H σ env Q S hp =>
  ⟨_, pe_callB crU_ok hg hm hv paU hn hdb he hpl, ha ps F G H σ env _ S (hp.bind fun rs e F' H' E S' hk vs hvs => callD_ok hc S' hvs hk)⟩
theorem se_callTy {T : String} (hc : CallD X (.type T) g) (hg : Gl X x) (hm : X.mg x = none) (hv : bootBuiltins x = some (.type T)) (ha : SA X (e :: es) (mArgs ms)) (hn : x ≠ "__name__" := by decide) (hdb : (x == ("__debug__" : Str)) = false := by decide)
    (he : starEach (e :: es) X.env = (false, eval e X.env) :: starEach es X.env := by rfl) (hpl : (backTo pos (starEach es X.env)).any (·.1) = false := by rfl) : SE X (.Call (.Name x p) (e :: es) [] pos) (eB g ms) := fun ps F G H σ env Q S hp =>
  ⟨_, pe_callTy crU_ok hg hm hv paU hn hdb he hpl, ha ps F G H σ env _ S (hp.bind fun rs e F' H' E S' hk vs hvs => callD_ok hc S' hvs hk)⟩
end

section
variable {X : Cx}
def lenD : List D → Option R
  | [.list ds] => some (.d (.int ds.length))
  | [.tuple ds] => some (.d (.int ds.length))
  | [.str x] => if lim x.length then some (.d (.int x.length)) else none
  | _ => none
theorem paired1 {α β : Type} {P : α → β → Prop} {vs : List α} {x : β} (h : Paired P vs [x]) : ∃ v, vs = [v] ∧ P v x := by
  cases h with
  | cons r t => cases t; exact ⟨_, rfl, r⟩
theorem paired2 {α β : Type} {P : α → β → Prop} {vs : List α} {x y : β} (h : Paired P vs [x, y]) : ∃ v u, vs = [v, u] ∧ P v x ∧ P u y := by
  cases h with
  | cons r t =>
    obtain ⟨u, rfl, q⟩ := paired1 t
    exact ⟨_, _, rfl, r, q⟩
theorem cd_len : CallD X (.builtin "len") lenD := by
  intro ps F G H σ env xs vs z Q S hv hg k
  unfold lenD at hg
  split at hg
  · rename_i ds
    cases hg
    obtain ⟨v, rfl, hq⟩ := paired1 hv
    obtain ⟨a, xs, rfl, h1, r⟩ := hq.list S
    refine ⟨_, call_len_seq, a, xs, rfl, .inl h1, ?_⟩
    rw [r.length]; exact k F H _ Ext.refl S (.int _)
  · rename_i ds
    cases hg
    obtain ⟨v, rfl, hq⟩ := paired1 hv
    obtain ⟨a, xs, rfl, h1, r⟩ := hq.tuple S
    refine ⟨_, call_len_seq, a, xs, rfl, .inr h1, ?_⟩
    rw [r.length]; exact k F H _ Ext.refl S (.int _)
  · rename_i x
    obtain ⟨v, rfl, hq⟩ := paired1 hv
    split at hg
    · rename_i hl
      cases hg
      exact ⟨_, call_len_str, x, by rw [hq.str], lim_le hl, k F H _ Ext.refl S (.int _)⟩
    · cases hg
  · cases hg
/-- a built-in of ints -/
def absD : List D → Option R
  | [.int i] => some (.d (.int (if i < 0 then -i else i)))
  | _ => none
theorem cd_abs : CallD X (.builtin "abs") absD := by
  intro ps F G H σ env xs vs z Q S hv hg k
  unfold absD at hg
  split at hg
  · cases hg
    obtain ⟨v, rfl, hq⟩ := paired1 hv
    exact ⟨_, call_abs, _, by rw [hq.int], k F H _ Ext.refl S (.int _)⟩
  · cases hg
def intD : List D → Option R
  | [.int i] => some (.d (.int i))
  | [.bool b] => some (.d (.int (if b then 1 else 0)))
  | _ => none
theorem cd_int : CallD X (.type "int") intD := by
  intro ps F G H σ env xs vs z Q S hv hg k
  unfold intD at hg
  split at hg
  · cases hg
    obtain ⟨v, rfl, hq⟩ := paired1 hv
    exact ⟨_, call_int1, .inl ⟨_, by rw [hq.int], k F H _ Ext.refl S (.int _)⟩⟩
  · cases hg
    obtain ⟨v, rfl, hq⟩ := paired1 hv
    exact ⟨_, call_int1, .inr ⟨_, by rw [hq.bool], k F H _ Ext.refl S (.int _)⟩⟩
  · cases hg
def maxD : List D → Option R
  | [.int i, .int j] => some (.d (.int (if j > i then j else i)))
  | _ => none
def minD : List D → Option R
  | [.int i, .int j] => some (.d (.int (if j < i then j else i)))
  | _ => none
theorem cd_max (hc : X.calm = true) : CallD X (.builtin "max") maxD := by
  intro ps F G H σ env xs vs z Q S hv hg k
  unfold maxD at hg
  split at hg
  · cases hg
    obtain ⟨v, u, rfl, h1, h2⟩ := paired2 hv
    exact ⟨_, call_max2 hc, _, _, by rw [h1.int, h2.int], k F H _ Ext.refl S (.int _)⟩
  · cases hg
theorem cd_min (hc : X.calm = true) : CallD X (.builtin "min") minD := by
  intro ps F G H σ env xs vs z Q S hv hg k
  unfold minD at hg
  split at hg
  · cases hg
    obtain ⟨v, u, rfl, h1, h2⟩ := paired2 hv
    exact ⟨_, call_min2 hc, _, _, by rw [h1.int, h2.int], k F H _ Ext.refl S (.int _)⟩
  · cases hg
/-- list(x), tuple(x) -/
def listD : List D → Option R
  | [.list ds] => some (.new (.list ds))
  | [.tuple ds] => some (.new (.list ds))
  | _ => none
theorem cd_list : CallD X (.type "list") listD := by
  intro ps F G H σ env xs vs z Q S hv hg k
  unfold listD at hg
  split at hg
  · cases hg
    obtain ⟨v, rfl, hq⟩ := paired1 hv
    obtain ⟨a, xs, rfl, h1, r⟩ := hq.list S
    refine ⟨_, call_list_of, a, xs, rfl, .inl h1, fun l hl => ?_⟩
    obtain ⟨S2, r2⟩ := fresh_lst S hl r
    exact k F _ _ Ext.refl S2 r2
  · cases hg
    obtain ⟨v, rfl, hq⟩ := paired1 hv
    obtain ⟨a, xs, rfl, h1, r⟩ := hq.tuple S
    refine ⟨_, call_list_of, a, xs, rfl, .inr h1, fun l hl => ?_⟩
    obtain ⟨S2, r2⟩ := fresh_lst S hl r
    exact k F _ _ Ext.refl S2 r2
  · cases hg
def tupleD : List D → Option R
  | [.list ds] => some (.d (.tuple ds))
  | [.tuple ds] => some (.d (.tuple ds))
  | _ => none
theorem cd_tuple : CallD X (.type "tuple") tupleD := by
  intro ps F G H σ env xs vs z Q S hv hg k
  unfold tupleD at hg
  split at hg
  · cases hg
    obtain ⟨v, rfl, hq⟩ := paired1 hv
    obtain ⟨a, xs, rfl, h1, r⟩ := hq.list S
    refine ⟨_, call_tuple_of, a, xs, rfl, .inl ⟨h1, fun l hl => ?_⟩⟩
    obtain ⟨F2, E2, S2, r2⟩ := fresh_tup S hl r
    exact k F2 _ _ E2 S2 r2
  · cases hg
    obtain ⟨v, rfl, hq⟩ := paired1 hv
    have hq' := hq.rp (fun _ z => nomatch z) (fun _ z => nomatch z)
    obtain ⟨a, xs, rfl, h1, r⟩ := hq.tuple S
    exact ⟨_, call_tuple_of, a, xs, rfl, .inr ⟨h1, k F H _ Ext.refl S hq'⟩⟩
  · cases hg
def intsD : List D → Option (List Int)
  | [] => some []
  | .int i :: ds => (intsD ds).map (i :: ·)
  | _ => none
theorem intsD_eq : ∀ {ds : List D} {ns : List Int}, intsD ds = some ns → ds = ns.map PyData.int
  | [], _, h => by cases h; rfl
  | .int i :: ds, _, h => by
    obtain ⟨ms, h1, rfl⟩ := Option.map_eq_some_iff.mp h
    rw [intsD_eq h1]; rfl
theorem intsD_map : ∀ ns : List Int, intsD (ns.map PyData.int) = some ns
  | [] => rfl
  | n :: ns => by show (intsD (ns.map PyData.int)).map (n :: ·) = _; rw [intsD_map ns]; rfl
def boolsD : List D → Option (List Bool)
  | [] => some []
  | .bool i :: ds => (boolsD ds).map (i :: ·)
  | _ => none
theorem boolsD_eq : ∀ {ds : List D} {ns : List Bool}, boolsD ds = some ns → ds = ns.map PyData.bool
  | [], _, h => by cases h; rfl
  | .bool i :: ds, _, h => by
    obtain ⟨ms, h1, rfl⟩ := Option.map_eq_some_iff.mp h
    rw [boolsD_eq h1]; rfl
theorem boolsD_map : ∀ ns : List Bool, boolsD (ns.map PyData.bool) = some ns
  | [] => rfl
  | n :: ns => by show (boolsD (ns.map PyData.bool)).map (n :: ·) = _; rw [boolsD_map ns]; rfl
theorem Rps.ints {K : KF} {F : Hp} : ∀ {vs : List V} (ns : List Int), Rps K F vs (ns.map PyData.int) → vs = ns.map V.int
  | _, [], .nil => rfl
  | _, n :: ns, .cons (.int _) t => by rw [Rps.ints ns t]; rfl
theorem Rps.bools {K : KF} {F : Hp} : ∀ {vs : List V} (ns : List Bool), Rps K F vs (ns.map PyData.bool) → vs = ns.map V.bl
  | _, [], .nil => rfl
  | _, n :: ns, .cons (.bl _) t => by rw [Rps.bools ns t]; rfl
def sumD : List D → Option R
  | [.list ds] => (intsD ds).map fun ns => .d (.int ns.sum)
  | _ => none
theorem cd_sum (hc : X.calm = true) : CallD X (.builtin "sum") sumD := by
  intro ps F G H σ env xs vs z Q S hv hg k
  unfold sumD at hg
  split at hg
  · obtain ⟨ns, h1, rfl⟩ := Option.map_eq_some_iff.mp hg
    obtain ⟨v, rfl, hq⟩ := paired1 hv
    obtain ⟨a, xs, rfl, h2, r⟩ := hq.list S
    rw [intsD_eq h1] at r
    rw [r.ints] at h2
    exact ⟨_, cr_sum hc, a, ns, rfl, h2, k F H _ Ext.refl S (.int _)⟩
  · cases hg
def allD : List D → Option R
  | [.list ds] => (boolsD ds).map fun ns => .d (.bool (ns.all id))
  | _ => none
def anyD : List D → Option R
  | [.list ds] => (boolsD ds).map fun ns => .d (.bool (ns.any id))
  | _ => none
theorem cd_all (hc : X.calm = true) : CallD X (.builtin "all") allD := by
  intro ps F G H σ env xs vs z Q S hv hg k
  unfold allD at hg
  split at hg
  · obtain ⟨ns, h1, rfl⟩ := Option.map_eq_some_iff.mp hg
    obtain ⟨v, rfl, hq⟩ := paired1 hv
    obtain ⟨a, xs, rfl, h2, r⟩ := hq.list S
    rw [boolsD_eq h1] at r
    rw [r.bools] at h2
    exact ⟨_, cr_all hc, a, ns, rfl, h2, k F H _ Ext.refl S (.bl _)⟩
  · cases hg
theorem cd_any (hc : X.calm = true) : CallD X (.builtin "any") anyD := by
  intro ps F G H σ env xs vs z Q S hv hg k
  unfold anyD at hg
  split at hg
  · obtain ⟨ns, h1, rfl⟩ := Option.map_eq_some_iff.mp hg
    obtain ⟨v, rfl, hq⟩ := paired1 hv
    obtain ⟨a, xs, rfl, h2, r⟩ := hq.list S
    rw [boolsD_eq h1] at r
    rw [r.bools] at h2
    exact ⟨_, cr_any hc, a, ns, rfl, h2, k F H _ Ext.refl S (.bl _)⟩
  · cases hg
end

/-! ### isinstance against a built-in class -/
def tyN : D → String
  | .none => "NoneType"
  | .bool _ => "bool"
  | .int _ => "int"
  | .str _ => "str"
  | .list _ => "list"
  | .tuple _ => "tuple"
  | .dict _ => "dict"
theorem tyX_sq {K : KF} {H : Hp} {a : Addr} {xs : List V} (h : SqL K H a xs) : TyX K H (.ref a) (.type "list") := by
  rcases h with (h | ⟨o, h⟩) | ⟨o, its, n, h, hc, _⟩
  · exact .base (.lst h)
  · exact .base (.frz h)
  · exact .kList h hc
theorem tyX_st {K : KF} {H : Hp} {a : Addr} {xs : List V} (h : SqT K H a xs) : TyX K H (.ref a) (.type "tuple") := by
  rcases h with (h | ⟨o, h⟩) | ⟨o, its, n, h, hc, _⟩
  · exact .base (.tup h)
  · exact .fTuple h
  · exact .kTuple h hc
theorem tyX_of {K : KF} {ps : List V} {F G H : Hp} {σ : St} {env : Env'} {v : V} {x : D} (S : Sta K ps F G H σ env) (h : Rq K F H v x) : TyX K H v (.type (tyN x)) := by
  cases x with
  | none => rw [h.non]; exact .base .non
  | bool b => rw [h.bool]; exact .base (.bl b)
  | int b => rw [h.int]; exact .base (.int b)
  | str b => rw [h.str]; exact .base (.str b)
  | list ds => obtain ⟨a, xs, rfl, h1, _⟩ := h.list S; exact tyX_sq h1
  | tuple ds => obtain ⟨a, xs, rfl, h1, _⟩ := h.tuple S; exact tyX_st h1
  | dict ds =>
    obtain ⟨a, xs, rfl, h1, _⟩ := h.dict S
    rcases h1 with h1 | ⟨o, h1⟩
    · exact .base (.dK h1)
    · exact .fDict h1
def eIsi (T : String) (a : M R) : M R := fun env => (mP a env).bind fun r e => match get r e with
  | some x => match kitB (tyN x) T with
    | some b => .ok (.d (.bool b)) e
    | none => .no
  | none => .no
theorem se_isi {X : Cx} {pos p p2 : Pos} {a : Expr} {ma : M R} {T : Str} {T' : String} (ha : SE X a ma) (hg : Gl X "isinstance") (hm : X.mg "isinstance" = none) (hgT : Gl X T) (hmT : X.mg T = none) (hvT : bootBuiltins T = some (.type T'))
    (hn : T ≠ "__name__" := by decide) (hdb : (T == ("__debug__" : Str)) = false := by decide)
    (he : starEach [a, .Name T p2] X.env = (false, eval a X.env) :: starEach [.Name T p2] X.env := by rfl) (hpl : (backTo pos (starEach [.Name T p2] X.env)).any (·.1) = false := by rfl)
    (hs : starEach [.Name T p2] X.env = (false, eval (.Name T p2) X.env) :: starEach [] X.env := by rfl) : SE X (.Call (.Name "isinstance" p) [a, .Name T p2] [] pos) (eIsi T' ma) := fun ps F G H σ env Q S hp => by
  refine ⟨_, pe_callB call_isi hg hm (by decide +kernel) (pa_cons peU (pa_cons (pe_bltn (v := .ty T') hgT hmT hvT rfl hn hdb) pa_nil hs) he) (by decide) (by decide) he hpl, ha.useP S hp fun r e1 F1 H1 u E1 S1 hr hp1 => ?_⟩
  split at hp1
  · rename_i x hx
    split at hp1
    · rename_i b hb
      exact ⟨u, .ty T', _, _, b, rfl, .ty T', tyX_of S1 (hr.rq S1 hx), kit_ty hb, hp1 F1 H1 Ext.refl S1 _ (.bl _)⟩
    · exact hp1.elim
  · exact hp1.elim
end PL

namespace PL
open PySem PySem.Spec PyProof.Rows L2

/-! ### statements -/
inductive Fl where
  | nx | bk | ct
  | rt (r : R)
def PostG {α : Type} (X : Cx) (ps : List V) (F G : Hp) (P : α → Env' → Hp → Hp → St → Prop) : Res α → Prop
  | .ok r e => ∀ F' H' σ', Ext F F' → Sta X.K ps F' G H' σ' e → P r e F' H' σ'
  | .ex c x e => ∃ W, Takes X W ∧ ∀ cls dd F' H' σ', Ext F F' → Sta X.K ps F' G H' σ' e → ExR X F' H' cls dd c x → W cls dd σ' H'
  | .no => False
section
variable {α β : Type} {X : Cx} {ps : List V} {F F1 G : Hp} {P : α → Env' → Hp → Hp → St → Prop}
theorem PostG.mono (e : Ext F F1) : ∀ {m : Res α}, PostG X ps F G P m → PostG X ps F1 G P m
  | .ok r _, h => fun F' H' σ' e' S => h F' H' σ' (e.trans e') S
  | .ex _ _ _, ⟨W, t, h⟩ => ⟨W, t, fun cls dd F' H' σ' e' S => h cls dd F' H' σ' (e.trans e') S⟩
theorem PostG.bind {P : β → Env' → Hp → Hp → St → Prop} {m : Res α} {k : α → Env' → Res β} (h : PostG X ps F G P (m.bind k))
    {P' : α → Env' → Hp → Hp → St → Prop} (hp : ∀ r e F' H' σ', Ext F F' → Sta X.K ps F' G H' σ' e → PostG X ps F' G P (k r e) → P' r e F' H' σ') : PostG X ps F G P' m := by
  cases m with
  | ok r e => exact fun F' H' σ' e' S => hp r e F' H' σ' e' S (PostG.mono e' h)
  | ex c x e => exact h
  | no => exact h
/-- an expression first -/
theorem PostG.at {P : β → Env' → Hp → Hp → St → Prop} {m : Res α} {k : α → Env' → Res β} (h : PostG X ps F G P (m.bind k)) (σ : St) :
    Post X ps F G σ (fun r e F' _ => PostG X ps F' G P (k r e)) m := by
  cases m with
  | ok r e => exact fun F' H' e' S => PostG.mono e' h
  | ex c x e =>
    obtain ⟨W, t, h⟩ := h
    exact ⟨W, t, fun cls dd F' H' e' S q => h cls dd F' H' σ e' S q⟩
  | no => exact h
theorem Post.imp {P P' : α → Env' → Hp → Hp → Prop} {σ : St} {m : Res α} (h : Post X ps F G σ P m) (hp : ∀ r e F' H', Ext F F' → Sta X.K ps F' G H' σ e → P r e F' H' → P' r e F' H') : Post X ps F G σ P' m := by
  cases m with
  | ok r e => exact fun F' H' e' S => hp r e F' H' e' S (h F' H' e' S)
  | ex c x e => exact h
  | no => exact h
end
section
variable {X : Cx} {e : Expr} {m : M R} {ps : List V} {F G H : Hp} {σ : St} {env : Env'} {α : Type} {P : α → Env' → Hp → Hp → St → Prop} {Q : VK}
theorem Res.bind_ok {α : Type} (m : Res α) : (m.bind fun r e => Res.ok r e) = m := by cases m <;> rfl
theorem SE.useDG {k : D → Env' → Res α} (h : SE X e m) (S : Sta X.K ps F G H σ env) (hp : PostG X ps F G P ((mD m env).bind k))
    (step : ∀ x e1 F1 H1 v, Ext F F1 → Sta X.K ps F1 G H1 σ e1 → Rp X.K F1 v x → PostG X ps F1 G P (k x e1) → Q v H1) : tU X e σ H Q := by
  refine h.useD (k := fun x e => .ok x e) (P := fun x e F' _ => PostG X ps F' G P (k x e)) S ?_ fun x e1 F1 H1 v E1 S1 hv hk => step x e1 F1 H1 v E1 S1 hv (hk F1 H1 Ext.refl S1)
  rw [Res.bind_ok]; exact PostG.at hp σ
theorem SE.usePG {k : R → Env' → Res α} (h : SE X e m) (S : Sta X.K ps F G H σ env) (hp : PostG X ps F G P ((mP m env).bind k))
    (step : ∀ x e1 F1 H1 v, Ext F F1 → Sta X.K ps F1 G H1 σ e1 → RelP X.K F1 σ v x → PostG X ps F1 G P (k x e1) → Q v H1) : tU X e σ H Q := by
  refine h.useP (k := fun x e => .ok x e) (P := fun x e F' _ => PostG X ps F' G P (k x e)) S ?_ fun x e1 F1 H1 v E1 S1 hv hk => step x e1 F1 H1 v E1 S1 hv (hk F1 H1 Ext.refl S1)
  rw [Res.bind_ok]; exact PostG.at hp σ
theorem SE.useWG {k : R → Env' → Res α} (h : SE X e m) (S : Sta X.K ps F G H σ env) (hp : PostG X ps F G P ((mW m env).bind k))
    (step : ∀ x e1 F1 H1 v, Ext F F1 → Sta X.K ps F1 G H1 σ e1 → RelR X.K F1 G H1 σ e1 v x → (∀ i, x ≠ .at i) → PostG X ps F1 G P (k x e1) → Q v H1) : tU X e σ H Q := by
  refine h.useW (k := fun x e => .ok x e) (P := fun x e F' _ => PostG X ps F' G P (k x e)) S ?_ fun x e1 F1 H1 v E1 S1 hv hn hk => step x e1 F1 H1 v E1 S1 hv hn (hk F1 H1 Ext.refl S1)
  rw [Res.bind_ok]; exact PostG.at hp σ
end
def endS (K : KF) (G : Hp) (Dn : Ends) : Fl → Env' → Hp → Hp → St → Prop := fun fl e F' H' σ' => match fl with
  | .nx => Dn.nx σ' H'
  | .bk => Dn.bk σ' H'
  | .ct => Dn.ct σ' H'
  | .rt r => ∀ v, RelR K F' G H' σ' e v r → Dn.rt v H'
def tsU (X : Cx) (st : Stmt) : TS := fun D σ H => ∃ t, PS X st t ∧ t D σ H
theorem psU {X : Cx} {st : Stmt} : PS X st (tsU X st) := ⟨fun pins s σ H D I ⟨_, h, q⟩ => h.run pins s σ H D I q⟩
def tssU (X : Cx) (st : List Stmt) : TS := fun D σ H => ∃ t, PSs X st t ∧ t D σ H
theorem pssU {X : Cx} {st : List Stmt} : PSs X st (tssU X st) := ⟨fun pins s σ H D I ⟨_, h, q⟩ => h.run pins s σ H D I q⟩
def SS (X : Cx) (st : Stmt) (m : M Fl) : Prop := ∀ ps F G H σ env Dn, Sta X.K ps F G H σ env → PostG X ps F G (endS X.K G Dn) (m env) → tsU X st Dn σ H
def SSs (X : Cx) (st : List Stmt) (m : M Fl) : Prop := ∀ ps F G H σ env Dn, Sta X.K ps F G H σ env → PostG X ps F G (endS X.K G Dn) (m env) → tssU X st Dn σ H

def sNil : M Fl := fun e => .ok .nx e
def sSeq (a b : M Fl) : M Fl := fun env => (a env).bind fun fl e => match fl with
  | .nx => b e
  | .bk => .ok .bk e
  | .ct => .ok .ct e
  | .rt r => .ok (.rt r) e
def sEx (m : M R) : M Fl := fun env => (m env).bind fun _ e => .ok .nx e
def sIf (t : M Bool) (a b : M Fl) : M Fl := fun env => (t env).bind fun c e => if c then a e else b e
def sSet (i : Nat) (m : M R) : M Fl := fun env => (mW m env).bind fun r e => match r with
  | .d x => .ok .nx (e.set i (some ⟨0, .d x⟩))
  | .new x => .ok .nx (e.set i (some ⟨0, .o x⟩))
  | .at _ => .no
def sBk : M Fl := fun e => .ok .bk e
def sCt : M Fl := fun e => .ok .ct e
def sRetN : M Fl := fun e => .ok (.rt (.d .none)) e
/-- a name of one's own list gives the list away -/
def mRet (m : M R) : M R := fun env => (m env).bind fun r e => match r with
  | .d x => .ok (.d x) e
  | .new x => .ok (.new x) e
  | .at i => match e[i]? with
    | some (some s) => match s.w, s.tg with
      | .o x, 0 => .ok (.new x) (e.set i none)
      | _, _ => (frz (.at i) e).bind fun x e => .ok (.d x) e
    | _ => .no
def sRet (m : M R) : M Fl := fun env => (mRet m env).bind fun r e => .ok (.rt r) e

section
variable {K : KF} {ps : List V} {F F' G H : Hp} {σ : St} {env : Env'} {x : D} {v : V}
/-- a slot is stored: data -/
theorem Sta.storeD (S : Sta K ps F G H σ env) (r : Rp K F v x) (i : Nat) : Sta K ps F G H (σ.set i (some v)) (env.set i (some ⟨0, .d x⟩)) where
  fh := S.fh
  fn := S.fn
  gh := S.gh
  fg := S.fg
  len := by rw [List.length_set, List.length_set]; exact S.len
  slot := fun j s he => by
    rw [set_get] at he ⊢
    by_cases e : i = j
    · subst e
      rw [if_pos rfl] at he ⊢
      split at he
      · rename_i hl
        cases he
        rw [if_pos (by rw [← S.len]; exact hl)]
        exact ⟨v, rfl, r, fun k hk => by cases hk⟩
      · cases he
    · rw [if_neg e] at he ⊢
      exact S.slot j s he
  sep := fun j k s t hjk hs ht so to => by
    rw [set_get] at hs ht ⊢
    rw [set_get]
    by_cases e : i = j
    · subst e; rw [if_pos rfl] at hs; split at hs <;> cases hs; cases so
    · by_cases e2 : i = k
      · subst e2; rw [if_pos rfl] at ht; split at ht <;> cases ht; cases to
      · rw [if_neg e] at hs ⊢; rw [if_neg e2] at ht ⊢
        exact S.sep j k s t hjk hs ht so to
/-- a slot is stored: a new own object -/
theorem Sta.storeO (S : Sta K ps F G H σ env) (r : RelR K F G H σ env v (.new x)) (i : Nat) : Sta K ps F G H (σ.set i (some v)) (env.set i (some ⟨0, .o x⟩)) := by
  obtain ⟨a, rfl, hF, hG, ho, hs'⟩ := r
  refine ⟨S.fh, S.fn, S.gh, S.fg, by rw [List.length_set, List.length_set]; exact S.len, fun j s he => ?_, fun j k s t hjk hs ht so to => ?_⟩
  · rw [set_get] at he ⊢
    by_cases e : i = j
    · subst e
      rw [if_pos rfl] at he ⊢
      split at he
      · rename_i hl
        cases he
        rw [if_pos (by rw [← S.len]; exact hl)]
        exact ⟨_, rfl, ⟨a, rfl, hF, hG, ho⟩, fun k hk => by cases hk⟩
      · cases he
    · rw [if_neg e] at he ⊢
      exact S.slot j s he
  · rw [set_get] at hs ht
    rw [set_get, set_get]
    by_cases e : i = j
    · subst e
      have e2 : i ≠ k := hjk
      rw [if_neg e2] at ht ⊢
      rw [if_pos rfl] at hs ⊢
      split at hs
      · rename_i hl
        rw [if_pos (by rw [← S.len]; exact hl)]
        exact fun z => hs' k t ht to z.symm
      · cases hs
    · rw [if_neg e] at hs ⊢
      by_cases e2 : i = k
      · subst e2
        rw [if_pos rfl] at ht ⊢
        split at ht
        · rename_i hl
          rw [if_pos (by rw [← S.len]; exact hl)]
          exact hs' j s hs so
        · cases ht
      · rw [if_neg e2] at ht ⊢
        exact S.sep j k s t hjk hs ht so to
theorem Sta.unset (S : Sta K ps F G H σ env) (i : Nat) : Sta K ps F G H σ (env.set i none) := S.sub (by rw [List.length_set]) fun j s he => by
  rw [set_get] at he
  split at he
  · split at he <;> cases he
  · exact he
end

section
variable {X : Cx} {pos : Pos} {e : Expr} {m : M R} {st : Stmt} {sts : List Stmt} {ma mb : M Fl}
theorem ss_nil : SSs X [] sNil := fun ps F G H σ env Dn S hp => ⟨_, pss_nil, hp F H σ Ext.refl S⟩
theorem ss_cons (ha : SS X st ma) (hb : SSs X sts mb) : SSs X (st :: sts) (sSeq ma mb) := fun ps F G H σ env Dn S hp => by
  refine ⟨_, pss_cons psU pssU, ha ps F G H σ env _ S (hp.bind fun fl e F' H' σ' E S' hk => ?_)⟩
  cases fl with
  | nx => exact hb ps F' G H' σ' e Dn S' hk
  | bk => exact hk F' H' σ' Ext.refl S'
  | ct => exact hk F' H' σ' Ext.refl S'
  | rt r => exact hk F' H' σ' Ext.refl S'
theorem ss_one (ha : SS X st ma) : SSs X [st] (sSeq ma sNil) := ss_cons ha ss_nil
theorem ss_expr (ha : SE X e m) (hs : swapsWith e none pos.line X.env = pure false := by rfl) : SS X (.Expr e pos) (sEx m) := fun ps F G H σ env Dn S hp => by
  refine ⟨_, ps_expr peU hs, ha ps F G H σ env _ S ((PostG.at hp σ).imp fun r e F' H' E S' hk v hv => ?_)⟩
  exact hk F' H' σ Ext.refl S'
theorem ss_if {c : Expr} {t : M Bool} {pa pb : List Stmt} (ht : ST X c t) (ha : SSs X pa ma) (hb : SSs X pb mb) : SS X (.If c pa pb pos) (sIf t ma mb) := fun ps F G H σ env Dn S hp => by
  refine ⟨_, ps_if ptU pssU pssU, ht ps F G H σ env _ S ((PostG.at hp σ).imp fun r e F' H' E S' hk => ?_)⟩
  cases r with
  | true => rw [if_pos rfl]; exact ha ps F' G H' σ e Dn S' hk
  | false => rw [if_neg Bool.false_ne_true]; exact hb ps F' G H' σ e Dn S' hk
theorem ss_pass : SS X (.Pass pos) sNil := fun ps F G H σ env Dn S hp => ⟨_, ps_pass, hp F H σ Ext.refl S⟩
theorem ss_bk : SS X (.Break pos) sBk := fun ps F G H σ env Dn S hp => ⟨_, ps_break, hp F H σ Ext.refl S⟩
theorem ss_ct : SS X (.Continue pos) sCt := fun ps F G H σ env Dn S hp => ⟨_, ps_continue, hp F H σ Ext.refl S⟩
theorem ss_retN : SS X (.Return none pos) sRetN := fun ps F G H σ env Dn S hp => ⟨_, ps_retN, hp F H σ Ext.refl S _ .non⟩
/-- the reading of a store to a name -/
theorem set_end {i : Nat} {ps : List V} {F G H : Hp} {σ : St} {env : Env'} {Dn : Ends} (ha : SE X e m) (S : Sta X.K ps F G H σ env) (hp : PostG X ps F G (endS X.K G Dn) (sSet i m env)) : tAsg (tU X e) (gName i) Dn σ H := by
  refine ha.useWG S hp fun r e1 F1 H1 v E1 S1 hv hr hk => ?_
  cases r with
  | d x => exact hk F1 H1 _ Ext.refl (S1.storeD hv i)
  | new x => exact hk F1 H1 _ Ext.refl (S1.storeO hv i)
  | «at» j => exact (hr j rfl).elim
theorem ss_set {i : Nat} {x : Str} {pos' : Pos} (hN : X.N.Nodup) (hi : X.N[i]? = some x) (hx : Loc X.env.scope x) (ha : SE X e m) (hs : swapsWith e (some (.Name x pos')) pos.line X.env = pure false := by rfl)
    (hf : X.fn x = true ∨ X.env.scope.names.lookup x = some .local := by first | exact .inl rfl | exact .inr rfl) : SS X (.Assign [.Name x pos'] e pos) (sSet i m) := fun ps F G H σ env Dn S hp =>
  ⟨_, ps_set hN hi hx peU hs hf, set_end ha S hp⟩
theorem ss_ret (ha : SE X e m) : SS X (.Return (some e) pos) (sRet m) := fun ps F G H σ env Dn S hp => by
  refine ⟨_, ps_ret peU, ?_⟩
  have hb : sRet m env = (m env).bind fun r e => (match r with
      | .d x => Res.ok (R.d x) e
      | .new x => .ok (.new x) e
      | .at i => match e[i]? with
        | some (some s) => match s.w, s.tg with
          | .o x, 0 => .ok (.new x) (e.set i none)
          | _, _ => (frz (.at i) e).bind fun x e => .ok (.d x) e
        | _ => .no).bind fun r e => .ok (.rt r) e := by
    unfold sRet mRet; cases m env <;> rfl
  rw [hb] at hp
  refine ha ps F G H σ env _ S ((PostG.at hp σ).imp fun r e F1 H1 E S1 hk v hv => ?_)
  have frzc : ∀ i, r = .at i → PostG X ps F1 G (endS X.K G Dn) (((frz (.at i) e).bind fun x e => Res.ok (R.d x) e).bind fun r e => .ok (.rt r) e) → Dn.rt v H1 := fun i er hz => by
    subst er
    have hk' : Post X ps F1 G σ (fun r e' F' H' => endS X.K G Dn r e' F' H' σ) ((frz (.at i) e).bind fun x e => .ok (.rt (.d x)) e) := by
      cases h2 : frz (.at i) e with
      | ok x e => rw [h2] at hz; exact fun F' H' e' S => hz F' H' σ e' S
      | ex c x e => rw [h2] at hz; obtain ⟨W, t, h⟩ := hz; exact ⟨W, t, fun cls dd F' H' e' S q => h cls dd F' H' σ e' S q⟩
      | no => rw [h2] at hz; exact hz
    exact frz_ok S1 hv hk' fun x e2 F2 E2 S2 r2 h2 => h2 F2 H1 Ext.refl S2 v r2
  cases r with
  | d x => exact hk F1 H1 σ Ext.refl S1 v hv
  | new x => exact hk F1 H1 σ Ext.refl S1 v hv
  | «at» i =>
    dsimp only at hk
    split at hk
    · rename_i s hs
      split at hk
      · rename_i x hw ht
        obtain ⟨u, q1, q2, _⟩ := S1.slot i s hs
        have q0 : σ[i]? = some (some v) := hv
        rw [q0] at q1; cases q1
        rw [hw] at q2
        obtain ⟨a, rfl, hF, hG, ho⟩ := q2
        refine hk F1 H1 σ Ext.refl (S1.unset i) _ ⟨a, rfl, hF, hG, ho, fun j t ht to => ?_⟩
        rw [set_get] at ht
        split at ht
        · split at ht <;> cases ht
        · rename_i hne
          intro z
          exact S1.sep j i t s (Ne.symm hne) ht hs to (by rw [hw]; rfl) (by rw [z, q0])
      · exact frzc i rfl hk
    · exact hk.elim
end

/-! ### targets -/
inductive Pat where
  | nm (i : Nat)
  | tp (ps : List Pat)
mutual
def asgP : Pat → D → Env' → Option Env'
  | .nm i, x, e => some (e.set i (some ⟨0, .d x⟩))
  | .tp ps, .tuple ds, e => asgPs ps ds e
  | .tp _, _, _ => none
def asgPs : List Pat → List D → Env' → Option Env'
  | [], [], e => some e
  | p :: ps, d :: ds, e => (asgP p d e).bind (asgPs ps ds)
  | _, _, _ => none
end
mutual
def Pat.ix : Pat → List Nat
  | .nm i => [i]
  | .tp ps => Pat.ixs ps
def Pat.ixs : List Pat → List Nat
  | [] => []
  | p :: ps => p.ix ++ Pat.ixs ps
end
def tgU (X : Cx) (tg : Expr) : TG := fun v σ H Q => ∃ t, PG X tg t ∧ t v σ H Q
theorem pgU {X : Cx} {tg : Expr} : PG X tg (tgU X tg) := ⟨fun pins s σ H x v Q I r ⟨_, h, q⟩ => h.run pins s σ H x v Q I r q⟩
def tgsU (X : Cx) (tgs : List Expr) : TGs := fun vs σ H Q => ∃ t, PGs X tgs t ∧ t vs σ H Q
def Same' (σ σ' : St) (ix : List Nat) : Prop := σ'.length = σ.length ∧ ∀ j, j ∉ ix → σ'[j]? = σ[j]?
theorem Same'.trans {a b c : St} {p q : List Nat} (h : Same' a b p) (k : Same' b c q) : Same' a c (p ++ q) := ⟨k.1.trans h.1, fun j hj => by
  rw [List.mem_append, not_or] at hj
  exact (k.2 j hj.2).trans (h.2 j hj.1)⟩
def SG (X : Cx) (tg : Expr) (p : Pat) : Prop := ∀ ps F G H σ env v x env' Q, Sta X.K ps F G H σ env → Rp X.K F v x → asgP p x env = some env' →
  (∀ σ', Sta X.K ps F G H σ' env' → Same' σ σ' p.ix → Q σ' H) → tgU X tg v σ H Q
def SGs (X : Cx) (tgs : List Expr) (p : List Pat) : Prop := ∀ ps F G H σ env vs xs env' Q, Sta X.K ps F G H σ env → Rps X.K F vs xs → asgPs p xs env = some env' →
  (∀ σ', Sta X.K ps F G H σ' env' → Same' σ σ' (Pat.ixs p) → Q σ' H) → ∃ t, PGs X tgs t ∧ t vs σ H Q
section
variable {X : Cx} {pos : Pos} {e : Expr} {es : List Expr} {p : Pat} {pl : List Pat}
theorem sg_nm {i : Nat} {x : Str} (hN : X.N.Nodup) (hi : X.N[i]? = some x) (hx : Loc X.env.scope x) (hf : X.fn x = true ∨ X.env.scope.names.lookup x = some .local := by first | exact .inl rfl | exact .inr rfl) : SG X (.Name x pos) (.nm i) := fun ps F G H σ env v y env' Q S r ha k => by
  cases ha
  refine ⟨_, pg_name hN hi hx hf, k _ (S.storeD r i) ⟨List.length_set, fun j hj => ?_⟩⟩
  rw [set_get, if_neg]
  rintro rfl
  exact hj (by simp [Pat.ix])
theorem sgs_nil : SGs X [] [] := fun ps F G H σ env vs xs env' Q S r ha k => by
  cases r with
  | nil => cases ha; exact ⟨_, pgs_nil, rfl, k σ S ⟨rfl, fun _ _ => rfl⟩⟩
  | cons _ _ => cases ha
theorem pgU' {es : List Expr} : PGs X es (tgsU X es) := ⟨fun pins s σ H vs us Q I r ⟨_, h, q⟩ => h.run pins s σ H vs us Q I r q⟩
theorem sgs_cons (h1 : SG X e p) (h2 : SGs X es pl) (hs : (assignEach (e :: es) X.env).map (·.2) = assign e X.env :: (assignEach es X.env).map (·.2) := by rfl) : SGs X (e :: es) (p :: pl) := fun ps F G H σ env vs xs env' Q S r ha k => by
  cases r with
  | nil => cases ha
  | cons r rr =>
    obtain ⟨e1, ha1, ha2⟩ := Option.bind_eq_some_iff.mp ha
    refine ⟨_, pgs_cons pgU pgU' hs, _, _, rfl, h1 ps F G H σ env _ _ e1 _ S r ha1 fun σ1 S1 c1 => ?_⟩
    exact h2 ps F G H σ1 e1 _ _ env' _ S1 rr ha2 fun σ2 S2 c2 => k σ2 S2 (c1.trans c2)
theorem asgPs_len : ∀ {pl : List Pat} {ds : List D} {env env' : Env'}, asgPs pl ds env = some env' → pl.length = ds.length
  | [], [], _, _, _ => rfl
  | p :: ps, d :: ds, env, env', h => by
    obtain ⟨e1, _, h2⟩ := Option.bind_eq_some_iff.mp (show (asgP p d env).bind (asgPs ps ds) = some env' from h)
    exact congrArg Nat.succ (asgPs_len h2)
  | [], _ :: _, _, _, h => by cases h
  | _ :: _, [], _, _, h => by cases h
theorem sg_tp {k : Nat} (hc : X.calm = true) (h : SGs X es pl) (hl : pl.length = es.length := by rfl) (hn : (assignEach es X.env).length = es.length := by rfl) (hst : (assignEach es X.env).findIdx? (·.1) = none := by rfl) : SG X (.Tuple es k pos) (.tp pl) := fun ps F G H σ env v x env' Q S r ha kk => by
  cases x <;> first | (cases ha; done) | skip
  rename_i ds
  cases r with
  | tup h1 h2 =>
    have ha' : asgPs pl ds env = some env' := ha
    refine ⟨_, pg_tup hc pgU' hn hst, _, _, rfl, S.fh.sqT h1, by rw [h2.length, ← asgPs_len ha', hl], ?_⟩
    exact h ps F G H σ env _ ds env' _ S h2 ha' kk
/-- a, b = e -/
def sUnp (p : Pat) (m : M R) : M Fl := fun env => (mD m env).bind fun x e => match asgP p x e with
  | some e' => .ok .nx e'
  | none => .no
theorem ss_unp {tg : Expr} {m : M R} (ha : SE X e m) (hg : SG X tg p) (hs : swapsWithSole [tg] e pos.line X.env = pure false := by rfl) (hw : swappedStores [tg] e X.env = pure none := by rfl)
    (h1 : (assignEach [tg] X.env).map (·.2) = [assign tg X.env] := by rfl) : SS X (.Assign [tg] e pos) (sUnp p m) := fun ps F G H σ env Dn S hp => by
  refine ⟨_, ps_asg peU pgU hs hw h1, ?_⟩
  refine ha.useDG S hp fun x e1 F1 H1 v E1 S1 hv hk => ?_
  cases ha2 : asgP p x e1 with
  | none => rw [ha2] at hk; exact hk.elim
  | some e' =>
    rw [ha2] at hk
    exact hg ps F1 G H1 σ e1 v x e' _ S1 hv ha2 fun σ' S' _ => hk F1 H1 σ' Ext.refl S'
end
end PL

namespace PL
open PySem PySem.Spec PyProof.Rows L2

/-! ### what is walked -/
/-- the iterator J gives out the data ds -/
def Feeds (K : KF) (F0 : Hp) (J : It) (ds : List D) : Prop := ∀ (ps : List V) (F G H : Hp) (σ : St) (env : Env') (i : Nat), Ext F0 F → Sta K ps F G H σ env →
  (∀ d, ds[i]? = some d → J.go i H ∧ ∀ x H', J.yld i H x H' → ∃ F', Ext F F' ∧ Sta K ps F' G H' σ env ∧ Rp K F' x d) ∧ (ds[i]? = none → J.stop i H)
theorem Feeds.mono {K : KF} {F0 F1 : Hp} {J : It} {ds : List D} (h : Feeds K F0 J ds) (e : Ext F0 F1) : Feeds K F1 J ds := fun ps F G H σ env i e' S => h ps F G H σ env i (e.trans e') S
def tiU (X : Cx) (tg iter : Expr) : TI := fun σ H R => ∃ t, PI X tg iter t ∧ t σ H R
theorem piU {X : Cx} {tg iter : Expr} : PI X tg iter (tiU X tg iter) := ⟨fun pins s σ H R I ⟨_, h, q⟩ => h.run pins s σ H R I q⟩
def SI (X : Cx) (tg iter : Expr) (m : M (List D)) : Prop := ∀ ps F G H σ env R, Sta X.K ps F G H σ env →
  Post X ps F G σ (fun ds e' F' H' => ∀ J, Feeds X.K F' J ds → R J H') (m env) → tiU X tg iter σ H R
theorem feeds_list {K : KF} {F : Hp} {a : Addr} {xs : List V} {ds : List D} (h : SqL K F a xs) (r : Rps K F xs ds) : Feeds K F (Itl K a) ds := fun ps F1 G H σ env i E S => by
  have hl : SqL K H a xs := S.fh.sqL (E.sqL h)
  refine ⟨fun d hd => ?_, fun hd => ⟨xs, hl, ?_⟩⟩
  · obtain ⟨v, hv, rv⟩ := r.get hd
    refine ⟨⟨xs, v, hl, hv⟩, fun x H' ⟨e, y⟩ => ?_⟩
    subst e
    have := y xs hl
    rw [hv] at this; cases this
    exact ⟨F1, Ext.refl, S, rv.mono E⟩
  · rw [r.length]; exact List.getElem?_eq_none_iff.mp hd
theorem feeds_tup {K : KF} {F : Hp} {a : Addr} {xs : List V} {ds : List D} (h : SqT K F a xs) (r : Rps K F xs ds) : Feeds K F (Itt K a) ds := fun ps F1 G H σ env i E S => by
  have hl : SqT K H a xs := S.fh.sqT (E.sqT h)
  refine ⟨fun d hd => ?_, fun hd => ⟨xs, hl, ?_⟩⟩
  · obtain ⟨v, hv, rv⟩ := r.get hd
    refine ⟨⟨xs, v, hl, hv⟩, fun x H' ⟨e, y⟩ => ?_⟩
    subst e
    have := y xs hl
    rw [hv] at this; cases this
    exact ⟨F1, Ext.refl, S, rv.mono E⟩
  · rw [r.length]; exact List.getElem?_eq_none_iff.mp hd
def rngD (lo : Int) : Nat → List D
  | 0 => []
  | n + 1 => .int lo :: rngD (lo + 1) n
theorem rngD_get : ∀ (n : Nat) (lo : Int) (i : Nat), (rngD lo n)[i]? = if i < n then some (.int (lo + i)) else none
  | 0, lo, i => by simp [rngD]
  | n + 1, lo, 0 => by simp [rngD]
  | n + 1, lo, i + 1 => by
    rw [rngD, List.getElem?_cons_succ, rngD_get n]
    have : lo + 1 + (i : Int) = lo + ((i + 1 : Nat) : Int) := by omega
    rw [this]
    by_cases h : i < n <;> simp [h]
theorem rngD_length : ∀ (n : Nat) (lo : Int), (rngD lo n).length = n
  | 0, _ => rfl
  | n + 1, lo => congrArg Nat.succ (rngD_length n _)
theorem feeds_rng {K : KF} {F : Hp} (lo : Int) (n : Nat) : Feeds K F (Itr lo n) (rngD lo n) := fun ps F1 G H σ env i E S => by
  rw [rngD_get]
  refine ⟨fun d hd => ?_, fun hd => ?_⟩
  · split at hd
    · rename_i h
      cases hd
      exact ⟨h, fun x H' ⟨e, y⟩ => by subst e y; exact ⟨F1, Ext.refl, S, .int _⟩⟩
    · cases hd
  · split at hd
    · cases hd
    · rename_i h; exact Nat.not_lt.mp h
def strD (x : Str) : List D := x.cps.toList.map fun c => .str ⟨#[c]⟩
theorem feeds_str {K : KF} {F : Hp} (x : Str) : Feeds K F (Its x) (strD x) := fun ps F1 G H σ env i E S => by
  unfold strD
  rw [List.getElem?_map, Array.getElem?_toList]
  refine ⟨fun d hd => ?_, fun hd => ?_⟩
  · obtain ⟨c, hc, rfl⟩ := Option.map_eq_some_iff.mp hd
    obtain ⟨hl, _⟩ := Array.getElem?_eq_some_iff.mp hc
    exact ⟨hl, fun v H' ⟨e, c', h1, h2⟩ => by
      subst e h2
      rw [hc] at h1; cases h1
      exact ⟨F1, Ext.refl, S, .str _⟩⟩
  · have := Option.map_eq_none_iff.mp hd
    exact Array.getElem?_eq_none_iff.mp this
/-- a list, a tuple, a text -/
def itD : D → Option (List D)
  | .list ds => some ds
  | .tuple ds => some ds
  | .str x => some (strD x)
  | _ => none
def iSeq (m : M R) : M (List D) := fun env => (mD m env).bind fun x e => match itD x with
  | some ds => .ok ds e
  | none => .no
def rng1 (m : M R) : M (List D) := fun env => (mP m env).bind fun r e => match get r e with
  | some (.int j) => if decide (-(2 ^ 62) ≤ j ∧ j < 2 ^ 62) then .ok (rngD 0 j.toNat) e else .no
  | _ => .no
def rng2 (a b : M R) : M (List D) := fun env => (mP a env).bind fun r e => (mP b e).bind fun q e => match get r e, get q e with
  | some (.int i), some (.int j) => if decide (-(2 ^ 62) ≤ i ∧ i < 2 ^ 62 ∧ -(2 ^ 62) ≤ j ∧ j < 2 ^ 62) then .ok (rngD i (j - i).toNat) e else .no
  | _, _ => .no
def enumFrom' : Nat → List D → List D
  | _, [] => []
  | n, d :: ds => .tuple [.int (n : Nat), d] :: enumFrom' (n + 1) ds
theorem enumFrom_get : ∀ (ds : List D) (n i : Nat), (enumFrom' n ds)[i]? = (ds[i]?).map fun d => .tuple [.int ((n + i : Nat) : Int), d]
  | [], n, i => by simp [enumFrom']
  | d :: ds, n, 0 => by simp [enumFrom']
  | d :: ds, n, i + 1 => by
    rw [enumFrom', List.getElem?_cons_succ, enumFrom_get ds, List.getElem?_cons_succ]
    have : n + 1 + i = n + (i + 1) := by omega
    rw [this]
def zipD : List D → List D → List D
  | x :: xs, y :: ys => .tuple [x, y] :: zipD xs ys
  | _, _ => []
theorem zipD_get : ∀ (xs ys : List D) (i : Nat), (zipD xs ys)[i]? = match xs[i]?, ys[i]? with | some x, some y => some (.tuple [x, y]) | _, _ => none
  | [], ys, i => by simp [zipD]
  | x :: xs, [], i => by
    show ([] : List D)[i]? = _
    rw [List.getElem?_nil]
    cases (x :: xs)[i]? <;> rfl
  | x :: xs, y :: ys, 0 => by simp [zipD]
  | x :: xs, y :: ys, i + 1 => by rw [zipD, List.getElem?_cons_succ, zipD_get xs ys, List.getElem?_cons_succ, List.getElem?_cons_succ]
theorem feeds_enum {K : KF} {F : Hp} {a : Addr} {xs : List V} {ds : List D} (h : SqL K F a xs) (r : Rps K F xs ds) : Feeds K F (Ite K a) (enumFrom' 0 ds) := fun ps F1 G H σ env i E S => by
  have hl : SqL K H a xs := S.fh.sqL (E.sqL h)
  rw [enumFrom_get]
  refine ⟨fun d hd => ?_, fun hd => ⟨xs, hl, ?_⟩⟩
  · obtain ⟨d', hd', rfl⟩ := Option.map_eq_some_iff.mp hd
    obtain ⟨v, hv, rv⟩ := r.get hd'
    refine ⟨⟨xs, v, hl, hv⟩, fun x H' ⟨T, y, e1, hT, e2, hy⟩ => ?_⟩
    have := hy xs hl
    rw [hv] at this; cases this
    subst e1 e2
    rw [Nat.zero_add]
    exact fresh_tup S hT (.cons (.int _) (.cons (rv.mono E) .nil))
  · rw [r.length]; exact List.getElem?_eq_none_iff.mp (Option.map_eq_none_iff.mp hd)
theorem feeds_zip {K : KF} {F : Hp} {a b : Addr} {xs ys : List V} {ds es : List D} (h : SqL K F a xs) (r : Rps K F xs ds) (h2 : SqL K F b ys) (r2 : Rps K F ys es) : Feeds K F (Itz K a b) (zipD ds es) := fun ps F1 G H σ env i E S => by
  have hl : SqL K H a xs := S.fh.sqL (E.sqL h)
  have hl2 : SqL K H b ys := S.fh.sqL (E.sqL h2)
  rw [zipD_get]
  refine ⟨fun d hd => ?_, fun hd => ⟨xs, ys, hl, hl2, ?_⟩⟩
  · split at hd
    · rename_i x y hx hy
      cases hd
      obtain ⟨v, hv, rv⟩ := r.get hx
      obtain ⟨u, hu, ru⟩ := r2.get hy
      refine ⟨⟨xs, ys, v, u, hl, hl2, hv, hu⟩, fun x H' ⟨T, y1, y2, e1, hT, e2, hy1, hy2⟩ => ?_⟩
      have q1 := hy1 xs hl
      have q2 := hy2 ys hl2
      rw [hv] at q1; cases q1
      rw [hu] at q2; cases q2
      subst e1 e2
      exact fresh_tup S hT (.cons (rv.mono E) (.cons (ru.mono E) .nil))
    · cases hd
  · rw [r.length, r2.length]
    cases hx : ds[i]? with
    | none => exact .inl (List.getElem?_eq_none_iff.mp hx)
    | some x =>
      cases hy : es[i]? with
      | none => exact .inr (List.getElem?_eq_none_iff.mp hy)
      | some y => rw [hx, hy] at hd; cases hd
theorem feeds_zipT {K : KF} {F : Hp} {a b : Addr} {xs ys : List V} {ds es : List D} (h : SqT K F a xs) (r : Rps K F xs ds) (h2 : SqT K F b ys) (r2 : Rps K F ys es) : Feeds K F (RZ.ItzT K a b) (zipD ds es) := fun ps F1 G H σ env i E S => by
  have hl : SqT K H a xs := S.fh.sqT (E.sqT h)
  have hl2 : SqT K H b ys := S.fh.sqT (E.sqT h2)
  rw [zipD_get]
  refine ⟨fun d hd => ?_, fun hd => ⟨xs, ys, hl, hl2, ?_⟩⟩
  · split at hd
    · rename_i x y hx hy
      cases hd
      obtain ⟨v, hv, rv⟩ := r.get hx
      obtain ⟨u, hu, ru⟩ := r2.get hy
      refine ⟨⟨xs, ys, v, u, hl, hl2, hv, hu⟩, fun x H' ⟨T, y1, y2, e1, hT, e2, hy1, hy2⟩ => ?_⟩
      have q1 := hy1 xs hl
      have q2 := hy2 ys hl2
      rw [hv] at q1; cases q1
      rw [hu] at q2; cases q2
      subst e1 e2
      exact fresh_tup S hT (.cons (rv.mono E) (.cons (ru.mono E) .nil))
    · cases hd
  · rw [r.length, r2.length]
    cases hx : ds[i]? with
    | none => exact .inl (List.getElem?_eq_none_iff.mp hx)
    | some x =>
      cases hy : es[i]? with
      | none => exact .inr (List.getElem?_eq_none_iff.mp hy)
      | some y => rw [hx, hy] at hd; cases hd
section
variable {X : Cx} {tg e a b : Expr} {m ma mb : M R} {pos p : Pos}
theorem iU {wi : TI} {σ : St} {H : Hp} {R : It → Hp → Prop} (h : PI X tg e wi) (q : wi σ H R) : tiU X tg e σ H R := ⟨wi, h, q⟩
theorem bad {α : Type} {ps : List V} {F G : Hp} {σ : St} {P : α → Env' → Hp → Hp → Prop} {C : Prop} (h : Post X ps F G σ P .no) : C := h.elim
def isL : D → Bool
  | .list _ => true
  | _ => false
theorem si_seq (ha : SE X e m) : SI X tg e (iSeq m) := fun ps F G H σ env R S hp => by
  have key : ∀ x e0, mD m env = .ok x e0 → Post X ps F G σ (fun ds e' F' H' => ∀ J, Feeds X.K F' J ds → R J H') ((mD m env).bind fun y e => match itD y with | some ds => .ok ds e | none => .no) := fun _ _ _ => hp
  cases hm : mD m env with
  | ok x e0 =>
    cases x with
    | list ds =>
      have hp' : Post X ps F G σ (fun ds e' F' H' => ∀ J, Feeds X.K F' J ds → R J H') ((mD m env).bind fun y e => match y with | .list ds => .ok ds e | _ => .no) := by
        have := key _ _ hm
        rw [hm] at this ⊢
        exact this
      refine iU (pi_list peU) (ha.useD S hp' fun x e1 F1 H1 v E1 S1 hv hk => ?_)
      cases x <;> first | exact bad hk | skip
      cases hv with
      | lst h1 h2 => exact ⟨_, rfl, ⟨_, S1.fh.sqL h1⟩, hk F1 H1 Ext.refl S1 _ (feeds_list h1 h2)⟩
    | tuple ds =>
      have hp' : Post X ps F G σ (fun ds e' F' H' => ∀ J, Feeds X.K F' J ds → R J H') ((mD m env).bind fun y e => match y with | .tuple ds => .ok ds e | _ => .no) := by
        have := key _ _ hm
        rw [hm] at this ⊢
        exact this
      refine iU (pi_tup peU) (ha.useD S hp' fun x e1 F1 H1 v E1 S1 hv hk => ?_)
      cases x <;> first | exact bad hk | skip
      cases hv with
      | tup h1 h2 => exact ⟨_, rfl, ⟨_, S1.fh.sqT h1⟩, hk F1 H1 Ext.refl S1 _ (feeds_tup h1 h2)⟩
    | str x =>
      have hp' : Post X ps F G σ (fun ds e' F' H' => ∀ J, Feeds X.K F' J ds → R J H') ((mD m env).bind fun y e => match y with | .str x => .ok (strD x) e | _ => .no) := by
        have := key _ _ hm
        rw [hm] at this ⊢
        exact this
      refine iU (pi_str peU) (ha.useD S hp' fun x e1 F1 H1 v E1 S1 hv hk => ?_)
      cases x <;> first | exact bad hk | skip
      cases hv
      exact ⟨_, rfl, hk F1 H1 Ext.refl S1 _ (feeds_str _)⟩
    | _ => have := key _ _ hm; rw [hm] at this; exact bad this
  | ex c x e0 =>
    have hp' : Post X ps F G σ (fun ds e' F' H' => ∀ J, Feeds X.K F' J ds → R J H') ((mD m env).bind fun _ _ => .no) := by
      have h2 : Post X ps F G σ (fun ds e' F' H' => ∀ J, Feeds X.K F' J ds → R J H') (iSeq m env) := hp
      unfold iSeq at h2
      rw [hm] at h2 ⊢
      exact h2
    exact iU (pi_list peU) (ha.useD S hp' fun x e1 F1 H1 v E1 S1 hv hk => bad hk)
  | no => have h2 : Post X ps F G σ (fun ds e' F' H' => ∀ J, Feeds X.K F' J ds → R J H') (iSeq m env) := hp; unfold iSeq at h2; rw [hm] at h2; exact bad h2
theorem si_rng1 (hg : Gl X "range") (hm : X.mg "range" = none) (ha : SE X e m) (h1 : starEach [e] X.env = [(false, eval e X.env)] := by rfl) : SI X tg (.Call (.Name "range" p) [e] [] pos) (rng1 m) := fun ps F G H σ env R S hp => by
  refine iU (pi_range1 hg hm (pa_cons peU pa_nil h1) h1) (ha.useP S hp fun r e1 F1 H1 v E1 S1 hv hk => ?_)
  split at hk
  · rename_i j hj
    split at hk
    · rename_i hb
      obtain ⟨b1, b2⟩ := of_decide_eq_true hb
      exact ⟨j, by rw [(hv.rq S1 hj).int], b1, b2, hk F1 H1 Ext.refl S1 _ (feeds_rng 0 _)⟩
    · exact bad hk
  · exact bad hk
theorem si_rng2 (hg : Gl X "range") (hm : X.mg "range" = none) (ha : SE X a ma) (hb : SE X b mb) (h1 : starEach [a, b] X.env = [(false, eval a X.env), (false, eval b X.env)] := by rfl) (h2 : starEach [b] X.env = [(false, eval b X.env)] := by rfl)
    (h3 : (backTo pos (starEach [b] X.env)).any (·.1) = false := by rfl) : SI X tg (.Call (.Name "range" p) [a, b] [] pos) (rng2 ma mb) := fun ps F G H σ env R S hp => by
  refine iU (pi_range2 hg hm (pa_cons peU (pa_cons peU pa_nil h2) (by rw [h1, h2])) h1 h2) (ha.useP S hp fun r e1 F1 H1 v E1 S1 hv hk => hb.useP S1 hk fun q e2 F2 H2 u E2 S2 hu hk2 => ?_)
  split at hk2
  · rename_i i j hi hj
    split at hk2
    · rename_i hbd
      have b := of_decide_eq_true hbd
      exact ⟨i, j, by rw [((hv.mono E2).rq S2 hi).int, (hu.rq S2 hj).int], b, hk2 F2 H2 Ext.refl S2 _ (feeds_rng i _)⟩
    · exact bad hk2
  · exact bad hk2
/-- enumerate of a list, zip of two lists or two tuples -/
def iEnu (m : M R) : M (List D) := fun env => (mD m env).bind fun x e => match x with
  | .list ds => .ok (enumFrom' 0 ds) e
  | _ => .no
def iZp (a b : M R) : M (List D) := fun env => (mD a env).bind fun x e => (mD b e).bind fun y e => match x, y with
  | .list ds, .list es => .ok (zipD ds es) e
  | .tuple ds, .tuple es => .ok (zipD ds es) e
  | _, _ => .no
theorem si_enu {elts : List Expr} {kk : Nat} {tpos : Pos} (hg : Gl X "enumerate") (hm : X.mg "enumerate" = none) (ha : SE X e m) (h1 : starEach [e] X.env = [(false, eval e X.env)] := by rfl) : SI X (.Tuple elts kk tpos) (.Call (.Name "enumerate" p) [e] [] pos) (iEnu m) := fun ps F G H σ env R S hp => by
  refine iU (pi_enum hg hm (pa_cons peU pa_nil h1) h1) (ha.useD S hp fun x e1 F1 H1 v E1 S1 hv hk => ?_)
  cases x <;> first | exact bad hk | skip
  cases hv with
  | lst h2 h3 => exact ⟨_, _, rfl, S1.fh.sqL h2, hk F1 H1 Ext.refl S1 _ (feeds_enum h2 h3)⟩
theorem si_zip {elts : List Expr} {kk : Nat} {tpos : Pos} (hg : Gl X "zip") (hm : X.mg "zip" = none) (ha : SE X a ma) (hb : SE X b mb) (h1 : starEach [a, b] X.env = (false, eval a X.env) :: starEach [b] X.env := by rfl) (h2 : starEach [b] X.env = (false, eval b X.env) :: starEach [] X.env := by rfl)
    (h3 : (backTo pos (starEach [b] X.env)).any (·.1) = false := by rfl) : SI X (.Tuple elts kk tpos) (.Call (.Name "zip" p) [a, b] [] pos) (iZp ma mb) := fun ps F G H σ env R S hp => by
  refine iU (RZ.pi_zipA hg hm (pa_cons peU (pa_cons peU pa_nil h2) h1) h1 h3) (ha.useD S hp fun x e1 F1 H1 v E1 S1 hv hk => hb.useD S1 hk fun y e2 F2 H2 u E2 S2 hu hk2 => ?_)
  have hv2 := hv.mono E2
  cases x <;> cases y <;> first | exact bad hk2 | skip
  · cases hv2 with
    | lst q1 q2 =>
      cases hu with
      | lst q3 q4 => exact ⟨_, _, _, _, rfl, .inl ⟨S2.fh.sqL q1, S2.fh.sqL q3, hk2 F2 H2 Ext.refl S2 _ (feeds_zip q1 q2 q3 q4)⟩⟩
  · cases hv2 with
    | tup q1 q2 =>
      cases hu with
      | tup q3 q4 => exact ⟨_, _, _, _, rfl, .inr ⟨S2.fh.sqT q1, S2.fh.sqT q3, hk2 F2 H2 Ext.refl S2 _ (feeds_zipT q1 q2 q3 q4)⟩⟩
end

/-! ### for, while -/
def forM' (step : D → M Fl) : List D → M Fl
  | [], e => .ok .nx e
  | d :: ds, env => (step d env).bind fun fl e => match fl with
    | .nx => forM' step ds e
    | .ct => forM' step ds e
    | .bk => .ok .nx e
    | .rt r => .ok (.rt r) e
def stepP (p : Pat) (body : M Fl) (d : D) : M Fl := fun env => match asgP p d env with
  | some e => body e
  | none => .no
def sFor (it : M (List D)) (p : Pat) (body : M Fl) : M Fl := fun env => (it env).bind fun ds e => forM' (stepP p body) ds e
def whileM (t : M Bool) (body : M Fl) : Nat → M Fl
  | 0, _ => .no
  | n + 1, env => (t env).bind fun c e => if c then (body e).bind fun fl e' => match fl with
      | .nx => whileM t body n e'
      | .ct => whileM t body n e'
      | .bk => .ok .nx e'
      | .rt r => .ok (.rt r) e'
    else .ok .nx e
def fuel : Nat := 1000000000
def sWhile (t : M Bool) (body : M Fl) : M Fl := whileM t body fuel
section
variable {X : Cx} {tg iter : Expr} {pos : Pos} {it : M (List D)} {p : Pat} {body : List Stmt} {mb : M Fl}
theorem ss_for (hp : PassesOwn (model X.prog X.w) X.A X.env X.xe) (hc : X.calm = true) (hi : SI X tg iter it) (hg : SG X tg p) (hb : SSs X body mb) (hs : ∀ x, foldedSetIterable iter X.env x = pure x := by intro _; rfl) :
    SS X (.For tg iter body [] pos) (sFor it p mb) := fun ps F G H σ env Dn S hpo => by
  refine ⟨_, ps_for hp hc piU pgU pssU hs, hi ps F G H σ env _ S ((PostG.at hpo σ).imp fun ds e F1 H1 E1 S1 hk J hJ => ?_)⟩
  refine ⟨fun i m σ H => ∃ F' env', Ext F1 F' ∧ Sta X.K ps F' G H σ env' ∧ m + i = ds.length + 1 ∧ PostG X ps F' G (endS X.K G Dn) (forM' (stepP p mb) (ds.drop i) env'), ⟨ds.length + 1, F1, e, Ext.refl, S1, rfl, hk⟩, ?_⟩
  rintro i m σ H ⟨F2, e2, E2, S2, hm, hk2⟩
  obtain ⟨f1, f2⟩ := hJ ps F2 G H σ e2 i E2 S2
  cases hd : ds[i]? with
  | none =>
    have hl := List.getElem?_eq_none_iff.mp hd
    rw [List.drop_eq_nil_of_le hl] at hk2
    exact .inl ⟨f2 hd, hk2 F2 H σ Ext.refl S2⟩
  | some d =>
    obtain ⟨hl, hde⟩ := List.getElem?_eq_some_iff.mp hd
    have hdr : ds.drop i = d :: ds.drop (i + 1) := by rw [List.drop_eq_getElem_cons hl, hde]
    rw [hdr] at hk2
    obtain ⟨go, yld⟩ := f1 d hd
    refine .inr ⟨go, fun σ' H' => ∃ F' env', Ext F1 F' ∧ Sta X.K ps F' G H' σ' env' ∧ PostG X ps F' G (endS X.K G Dn) (forM' (stepP p mb) (ds.drop (i + 1)) env'), fun σ' H' ⟨F3, e3, E3, S3, hk3⟩ => ⟨m - 1, by omega, F3, e3, E3, S3, by omega, hk3⟩, fun x H' hy => ?_⟩
    obtain ⟨F3, E3, S3, r3⟩ := yld x H' hy
    have hk3 := PostG.mono E3 hk2
    unfold forM' stepP at hk3
    cases ha : asgP p d e2 with
    | none => rw [ha] at hk3; exact hk3.elim
    | some e4 =>
      rw [ha] at hk3
      refine hg ps F3 G H' σ e2 x d e4 _ S3 r3 ha fun σ4 S4 _ => ?_
      refine hb ps F3 G H' σ4 e4 _ S4 (hk3.bind fun fl e5 F5 H5 σ5 E5 S5 hk5 => ?_)
      cases fl with
      | nx => exact ⟨F5, e5, (E2.trans E3).trans E5, S5, hk5⟩
      | ct => exact ⟨F5, e5, (E2.trans E3).trans E5, S5, hk5⟩
      | bk => exact hk5 F5 H5 σ5 Ext.refl S5
      | rt r => exact hk5 F5 H5 σ5 Ext.refl S5
theorem ss_while {c : Expr} {t : M Bool} (hp : PassesOwn (model X.prog X.w) X.A X.env X.xe) (ht : ST X c t) (hb : SSs X body mb) : SS X (.While c body [] pos) (sWhile t mb) := fun ps F G H σ env Dn S hpo => by
  refine ⟨_, ps_while hp ptU pssU, fun m σ H => ∃ F' env', Ext F F' ∧ Sta X.K ps F' G H σ env' ∧ PostG X ps F' G (endS X.K G Dn) (whileM t mb m env'), ⟨fuel, F, env, Ext.refl, S, hpo⟩, ?_⟩
  rintro m σ H ⟨F1, e1, E1, S1, hk1⟩
  cases m with
  | zero => exact hk1.elim
  | succ m =>
    refine ht ps F1 G H σ e1 _ S1 ((PostG.at hk1 σ).imp fun c e2 F2 H2 E2 S2 hk2 => ?_)
    cases c with
    | false => rw [if_neg Bool.false_ne_true]; exact hk2 F2 H2 σ Ext.refl S2
    | true =>
      rw [if_pos rfl]
      refine ⟨fun σ' H' => ∃ F' env', Ext F F' ∧ Sta X.K ps F' G H' σ' env' ∧ PostG X ps F' G (endS X.K G Dn) (whileM t mb m env'), fun σ' H' h => ⟨m, Nat.lt_succ_self m, h⟩, ?_⟩
      have hk2' : PostG X ps F2 G (endS X.K G Dn) ((mb e2).bind fun fl e' => match fl with
        | .nx => whileM t mb m e'
        | .ct => whileM t mb m e'
        | .bk => .ok .nx e'
        | .rt r => .ok (.rt r) e') := hk2
      refine hb ps F2 G H2 σ e2 _ S2 (hk2'.bind fun fl e5 F5 H5 σ5 E5 S5 hk5 => ?_)
      cases fl with
      | nx => exact ⟨F5, e5, (E1.trans E2).trans E5, S5, hk5⟩
      | ct => exact ⟨F5, e5, (E1.trans E2).trans E5, S5, hk5⟩
      | bk => exact hk5 F5 H5 σ5 Ext.refl S5
      | rt r => exact hk5 F5 H5 σ5 Ext.refl S5
end
end PL

namespace PL
open PySem PySem.Spec PyProof.Rows L2

/-! ### comprehensions -/
abbrev BX (X : Cx) (scope : Scope) (s : Shared) (H : Hp) (C : Addr) (cl : List (Str × Addr)) (fp : List Addr) : Cx := X.blk s H scope (compEnvC scope cl C X.env) fp
def tBl (X : Cx) (scope : Scope) (e : Expr) : TE := fun σ H Q => ∀ s H0 C cl fp, tU (BX X scope s H0 C cl fp) e σ H Q
def ttBl (X : Cx) (scope : Scope) (e : Expr) : TT := fun σ H Q => ∀ s H0 C cl fp, ttU (BX X scope s H0 C cl fp) e σ H Q
def tgBl (X : Cx) (scope : Scope) (e : Expr) : TG := fun v σ H Q => ∀ s H0 C cl fp, tgU (BX X scope s H0 C cl fp) e v σ H Q
def tiBl (X : Cx) (scope : Scope) (tg e : Expr) : TI := fun σ H R => ∀ s H0 C cl fp, tiU (BX X scope s H0 C cl fp) tg e σ H R
def ttsU (X : Cx) (ifs : List Expr) : TT := fun σ H Q => ∃ t, PTs X ifs t ∧ t σ H Q
def ttsBl (X : Cx) (scope : Scope) (ifs : List Expr) : TT := fun σ H Q => ∀ s H0 C cl fp, ttsU (BX X scope s H0 C cl fp) ifs σ H Q
def STs (X : Cx) (ifs : List Expr) (m : M Bool) : Prop := ∀ ps F G H σ env Q, Sta X.K ps F G H σ env → Post X ps F G σ (fun b e' F' H' => Q b H') (m env) → ttsU X ifs σ H Q
def tYes' : M Bool := fun e => .ok true e
theorem sts_nil {X : Cx} : STs X [] tYes' := fun ps F G H σ env Q S hp => ⟨_, pts_nil, hp F H Ext.refl S⟩
theorem sts_one {X : Cx} {c : Expr} {t : M Bool} (h : ST X c t) : STs X [c] t := fun ps F G H σ env Q S hp => ⟨_, pts_one ptU, h ps F G H σ env Q S hp⟩

def wipeE (e : Env') : List Nat → Env'
  | [] => e
  | v :: vs => (wipeE e vs).set v none
theorem wipeE_len (e : Env') : ∀ vs, (wipeE e vs).length = e.length
  | [] => rfl
  | v :: vs => by rw [wipeE, List.length_set, wipeE_len e vs]
theorem wipeE_get (e : Env') (j : Nat) : ∀ vs : List Nat, (wipeE e vs)[j]? = if j ∈ vs then (if j < e.length then some none else none) else e[j]?
  | [] => by simp [wipeE]
  | v :: vs => by
    rw [wipeE, set_get, wipeE_get e j vs, wipeE_len]
    by_cases h : v = j
    · subst h; simp
    · have : (j ∈ v :: vs) = (j ∈ vs) := by simp [Ne.symm h]
      simp only [if_neg h, this]
theorem wipe_get (σ : St) (j : Nat) : ∀ vs : List Nat, (wipe σ vs)[j]? = if j ∈ vs then (if j < σ.length then some none else none) else σ[j]?
  | [] => by simp [wipe]
  | v :: vs => by
    rw [wipe, set_get, wipe_get σ j vs, wipe_length]
    by_cases h : v = j
    · subst h; simp
    · have : (j ∈ v :: vs) = (j ∈ vs) := by simp [Ne.symm h]
      simp only [if_neg h, this]
theorem Sta.wipe {K : KF} {ps : List V} {F G H : Hp} {σ : St} {env : Env'} (S : Sta K ps F G H σ env) (vs : List Nat) : Sta K ps F G H (L2.wipe σ vs) (wipeE env vs) where
  fh := S.fh
  fn := S.fn
  gh := S.gh
  fg := S.fg
  len := by rw [wipeE_len, wipe_length]; exact S.len
  slot := fun i s he => by
    rw [wipeE_get] at he
    rw [wipe_get]
    by_cases hm : i ∈ vs
    · rw [if_pos hm] at he; split at he <;> cases he
    · rw [if_neg hm] at he ⊢; exact S.slot i s he
  sep := fun i j s t hij hs ht so to => by
    rw [wipeE_get] at hs ht
    rw [wipe_get, wipe_get]
    by_cases hm : i ∈ vs
    · rw [if_pos hm] at hs; split at hs <;> cases hs
    · by_cases hm2 : j ∈ vs
      · rw [if_pos hm2] at ht; split at ht <;> cases ht
      · rw [if_neg hm] at hs ⊢; rw [if_neg hm2] at ht ⊢
        exact S.sep i j s t hij hs ht so to
theorem Same'.wipe {σ σ2 : St} {vs ix : List Nat} (h : Same' (L2.wipe σ vs) σ2 ix) (hs : ∀ j ∈ ix, j ∈ vs) : L2.wipe σ2 vs = L2.wipe σ vs := by
  apply List.ext_getElem?
  intro j
  rw [wipe_get, wipe_get, h.1, wipe_length]
  by_cases hm : j ∈ vs
  · rw [if_pos hm, if_pos hm]
  · rw [if_neg hm, if_neg hm, h.2 j fun z => hm (hs j z), wipe_get, if_neg hm]
/-- behind a comprehension: its own names are as they were (data), the others as it left them -/
def keepS (o : Option (Option Slot)) : Option Slot := match o with
  | some (some ⟨t, .d x⟩) => some ⟨t, .d x⟩
  | _ => none
def restE (e0 e : Env') : List Nat → Env'
  | [] => e
  | v :: vs => (restE e0 e vs).set v (keepS (e0[v]?))
theorem restE_len (e0 e : Env') : ∀ vs, (restE e0 e vs).length = e.length
  | [] => rfl
  | v :: vs => by rw [restE, List.length_set, restE_len e0 e vs]
theorem restE_get (e0 e : Env') (j : Nat) : ∀ vs : List Nat, (restE e0 e vs)[j]? = if j ∈ vs then (if j < e.length then some (keepS (e0[j]?)) else none) else e[j]?
  | [] => by simp [restE]
  | v :: vs => by
    rw [restE, set_get, restE_get e0 e j vs, restE_len]
    by_cases h : v = j
    · subst h; simp
    · have : (j ∈ v :: vs) = (j ∈ vs) := by simp [Ne.symm h]
      simp only [if_neg h, this]
theorem keepS_some {o : Option (Option Slot)} {s : Slot} (h : keepS o = some s) : o = some (some s) ∧ s.w.own = false := by
  unfold keepS at h
  split at h
  · cases h; exact ⟨rfl, rfl⟩
  · cases h
theorem Sta.rest {K : KF} {ps : List V} {F F' G H H' : Hp} {σ : St} {env e : Env'} {vs : List Nat} (S : Sta K ps F G H σ env) (E : Ext F F') (S' : Sta K ps F' G H' (L2.wipe σ vs) e) : Sta K ps F' G H' σ (restE env e vs) where
  fh := S'.fh
  fn := S'.fn
  gh := S'.gh
  fg := S'.fg
  len := by rw [restE_len, S'.len, wipe_length]
  slot := fun i s he => by
    rw [restE_get] at he
    by_cases hm : i ∈ vs
    · rw [if_pos hm] at he
      split at he
      · have he' := Option.some.inj he
        obtain ⟨h1, h2⟩ := keepS_some he'
        obtain ⟨v, q1, q2, q3⟩ := S.slot i s h1
        refine ⟨v, q1, ?_, q3⟩
        cases hw : s.w with
        | d x => rw [hw] at q2; exact Rp.mono E q2
        | o x => rw [hw] at h2; cases h2
      · cases he
    · rw [if_neg hm] at he
      obtain ⟨v, q1, q2⟩ := S'.slot i s he
      rw [wipe_get, if_neg hm] at q1
      exact ⟨v, q1, q2⟩
  sep := fun i j s t hij hs ht so to => by
    have key : ∀ (i : Nat) (s : Slot), (restE env e vs)[i]? = some (some s) → s.w.own = true → i ∉ vs ∧ e[i]? = some (some s) := fun i s hs so => by
      rw [restE_get] at hs
      by_cases hm : i ∈ vs
      · rw [if_pos hm] at hs
        split at hs
        · have h2 := (keepS_some (Option.some.inj hs)).2
          rw [so] at h2; cases h2
        · cases hs
      · rw [if_neg hm] at hs; exact ⟨hm, hs⟩
    obtain ⟨a1, a2⟩ := key i s hs so
    obtain ⟨b1, b2⟩ := key j t ht to
    have := S'.sep i j s t hij a2 b2 so to
    rw [wipe_get, wipe_get, if_neg a1, if_neg b1] at this
    exact this
/-- a private object -/
theorem Sta.hide {K : KF} {ps : List V} {F G H : Hp} {σ : St} {env : Env'} {D : Addr} {o : HO} (S : Sta K ps F G H σ env) (hF : F D = none) (hD : H D = some o) (hs : ∀ (i : Nat) (s : Slot), env[i]? = some (some s) → s.w.own = true → σ[i]? ≠ some (some (.ref D))) : Sta K ps F (upd G D o) H σ env where
  fh := S.fh
  fn := S.fn
  gh := fun a u h => by
    by_cases e : a = D
    · subst e; rw [upd_same] at h; cases h; exact hD
    · rw [upd_ne e] at h; exact S.gh a u h
  fg := fun a h => by
    by_cases e : a = D
    · subst e; exact hF
    · rw [upd_ne e] at h; exact S.fg a h
  len := S.len
  slot := fun i s he => by
    obtain ⟨v, q1, q2, q3⟩ := S.slot i s he
    refine ⟨v, q1, ?_, q3⟩
    cases hw : s.w with
    | d x => rw [hw] at q2; exact q2
    | o x =>
      rw [hw] at q2
      obtain ⟨a, rfl, h1, h2, h3⟩ := q2
      refine ⟨a, rfl, h1, ?_, h3⟩
      rw [upd_ne]
      · exact h2
      · rintro rfl
        exact hs i s he (by rw [hw]; rfl) q1
  sep := S.sep
theorem Sta.unhide {K : KF} {ps : List V} {F G H : Hp} {σ : St} {env : Env'} {D : Addr} {o : HO} (hG : G D = none) (S : Sta K ps F (upd G D o) H σ env) : Sta K ps F G H σ env where
  fh := S.fh
  fn := S.fn
  gh := fun a u h => S.gh a u (by rw [upd_ne]; exact h; rintro rfl; rw [hG] at h; cases h)
  fg := fun a h => S.fg a (by rw [upd_ne]; exact h; rintro rfl; exact h hG)
  len := S.len
  slot := fun i s he => by
    obtain ⟨v, q1, q2, q3⟩ := S.slot i s he
    refine ⟨v, q1, ?_, q3⟩
    cases hw : s.w with
    | d x => rw [hw] at q2; exact q2
    | o x =>
      rw [hw] at q2
      obtain ⟨a, rfl, h1, h2, h3⟩ := q2
      refine ⟨a, rfl, h1, ?_, h3⟩
      by_cases e : a = D
      · subst e; exact hG
      · rw [upd_ne e] at h2; exact h2
  sep := S.sep
theorem Sta.hidden {K : KF} {ps : List V} {F G H : Hp} {σ : St} {env : Env'} {D : Addr} {o : HO} (S : Sta K ps F (upd G D o) H σ env) : H D = some o ∧ F D = none ∧ ∀ (i : Nat) (s : Slot), env[i]? = some (some s) → s.w.own = true → σ[i]? ≠ some (some (.ref D)) := by
  refine ⟨S.gh D o upd_same, S.fg D (by rw [upd_same]; simp), fun i s he so z => ?_⟩
  obtain ⟨v, q1, q2, _⟩ := S.slot i s he
  cases hw : s.w with
  | d x => rw [hw] at so; cases so
  | o x =>
    rw [hw] at q2
    obtain ⟨a, rfl, _, h2, _⟩ := q2
    rw [q1] at z; cases z
    rw [upd_same] at h2; cases h2
/-- the private object is changed -/
theorem Sta.change {K : KF} {ps : List V} {F G H : Hp} {σ : St} {env : Env'} {D : Addr} {o o' : HO} (po : plainO o) (S : Sta K ps F (upd G D o) H σ env) : Sta K ps F (upd G D o') (upd H D o') σ env := by
  obtain ⟨h1, h2, h3⟩ := S.hidden
  refine ⟨S.fh.upd_ne h2, fun a h => ?_, fun a u h => ?_, fun a h => ?_, S.len, fun i s he => ?_, S.sep⟩
  · by_cases e : a = D
    · subst e; exact h2
    · rw [upd_ne e] at h; exact S.fn a h
  · by_cases e : a = D
    · subst e; rw [upd_same] at h ⊢; exact h
    · rw [upd_ne e] at h ⊢; exact S.gh a u (by rw [upd_ne e]; exact h)
  · by_cases e : a = D
    · subst e; exact h2
    · exact S.fg a (by rw [upd_ne e] at h ⊢; exact h)
  · obtain ⟨v, q1, q2, q3⟩ := S.slot i s he
    refine ⟨v, q1, ?_, q3⟩
    cases hw : s.w with
    | d x => rw [hw] at q2; exact q2
    | o x =>
      rw [hw] at q2
      obtain ⟨a, rfl, g1, g2, g3⟩ := q2
      have hne : a ≠ D := by rintro rfl; exact h3 i s he (by rw [hw]; rfl) q1
      exact ⟨a, rfl, g1, by rw [upd_ne hne] at g2 ⊢; exact g2, g3.mono Ext.refl (upd_ne hne)⟩

/-- the turns: step d gives Some datum (or none, where a test says no) -/
def lcM (step : D → M (Option D)) (vs : List Nat) : List D → List D → M (List D)
  | [], out, e => .ok out e
  | d :: ds, out, env => (step d env).bind fun o e => match o with
    | some y => lcM step vs ds (out ++ [y]) (wipeE e vs)
    | none => lcM step vs ds out (wipeE e vs)
def lcStep (p : Pat) (t : M Bool) (el : M R) (d : D) : M (Option D) := fun env => match asgP p d env with
  | some e => (t e).bind fun b e1 => if b then (mD el e1).bind fun y e2 => .ok (some y) e2 else .ok none e1
  | none => .no
def inside {α : Type} (r : Res α) : Res α := match r with
  | .ok a e => .ok a e
  | _ => .no
def eLC (it : M (List D)) (p : Pat) (t : M Bool) (el : M R) (vs : List Nat) : M R := fun env => (it env).bind fun ds e0 =>
  if lim ds.length then (inside (lcM (lcStep p t el) vs ds [] (wipeE e0 vs))).bind fun out e => .ok (.new (.list out)) (restE e0 e vs) else .no
section
variable {X : Cx} {tg iter elt : Expr} {ifs : List Expr} {scope : Scope} {own : List (Str × Nat)} {pos : Pos} {it : M (List D)} {p : Pat} {t : M Bool} {el : M R}
theorem lc_end (hi : SI X tg iter it) (hg : ∀ s H C cl fp, SG (BX X scope s H C cl fp) tg p) (ht : ∀ s H C cl fp, STs (BX X scope s H C cl fp) ifs t) (he : ∀ s H C cl fp, SE (BX X scope s H C cl fp) elt el)
    (hv : ∀ j ∈ p.ix, j ∈ own.map (·.2)) {ps : List V} {F G H : Hp} {σ : St} {env : Env'} {Q : VK} (S : Sta X.K ps F G H σ env)
    (hp : Post X ps F G σ (fun r e' F' H' => ∀ v, RelR X.K F' G H' σ e' v r → Q v H') (eLC it p t el (own.map (·.2)) env)) :
    tLc (tiU X tg iter) (tgBl X scope tg) (ttsBl X scope ifs) (tBl X scope elt) (own.map (·.2)) σ H Q := by
  generalize hvs : own.map (·.2) = vs at *
  refine hi ps F G H σ env _ S (hp.bind fun ds e0 F1 H1 E1 S1 hk J hJ => fun D hD => ?_)
  have hF1 := S1.fnone hD
  split at hk
  case isFalse => exact bad hk
  rename_i hlim
  cases hr : lcM (lcStep p t el) vs ds [] (wipeE e0 vs) with
  | ex c x e => rw [hr] at hk; exact bad hk
  | no => rw [hr] at hk; exact bad hk
  | ok outN eN =>
  rw [hr] at hk
  have fin : ∀ F' H' acc, Ext F1 F' → Sta X.K ps F' (upd G D (.lst acc)) H' (L2.wipe σ vs) eN → Rps X.K F' acc outN → Q (.ref D) H' := fun F' H' acc E S' r => by
    obtain ⟨q1, q2, q3⟩ := S'.hidden
    have S2 := S1.rest E (S'.unhide hF1.2)
    refine hk F' H' E S2 _ ⟨D, rfl, q2, hF1.2, ⟨acc, q1, r⟩, fun i s hs so z => ?_⟩
    rw [restE_get] at hs
    by_cases hm : i ∈ vs
    · rw [if_pos hm] at hs
      split at hs
      · have h2 := (keepS_some (Option.some.inj hs)).2
        rw [so] at h2; cases h2
      · cases hs
    · rw [if_neg hm] at hs
      exact q3 i s hs so (by rw [wipe_get, if_neg hm]; exact z)
  refine ⟨fun i m H => ∃ F' e acc out, Ext F1 F' ∧ Sta X.K ps F' (upd G D (.lst acc)) H (L2.wipe σ vs) e ∧ Rps X.K F' acc out ∧ m + i = ds.length + 1 ∧ out.length ≤ i ∧ lcM (lcStep p t el) vs (ds.drop i) out e = .ok outN eN,
    ⟨ds.length + 1, F1, wipeE e0 vs, [], [], Ext.refl, ?_, .nil, rfl, Nat.le_refl _, hr⟩, ?_⟩
  · refine ((S1.wipe vs).alloc hD).hide hF1.1 upd_same fun i s hs so z => ?_
    obtain ⟨v, q1, q2, _⟩ := (S1.wipe vs).slot i s hs
    cases hw : s.w with
    | d x => rw [hw] at so; cases so
    | o x =>
      rw [hw] at q2
      obtain ⟨a, rfl, _, _, ho⟩ := q2
      rw [q1] at z; cases z
      obtain ⟨u, hu, _⟩ := ho.has
      rw [hD] at hu; cases hu
  rintro i m H2 ⟨F2, e2, acc, out, E2, S2, r2, hm, hlen, hl2⟩
  obtain ⟨f1, f2⟩ := hJ ps F2 _ H2 _ e2 i E2 S2
  cases hd : ds[i]? with
  | none =>
    have hl := List.getElem?_eq_none_iff.mp hd
    rw [List.drop_eq_nil_of_le hl] at hl2
    cases hl2
    exact .inl ⟨f2 hd, fin F2 H2 acc E2 S2 r2⟩
  | some d =>
    obtain ⟨hl, hde⟩ := List.getElem?_eq_some_iff.mp hd
    have hdr : ds.drop i = d :: ds.drop (i + 1) := by rw [List.drop_eq_getElem_cons hl, hde]
    rw [hdr] at hl2
    obtain ⟨go, yld⟩ := f1 d hd
    refine .inr ⟨go, fun H' => ∃ F' e acc out, Ext F1 F' ∧ Sta X.K ps F' (upd G D (.lst acc)) H' (L2.wipe σ vs) e ∧ Rps X.K F' acc out ∧ out.length ≤ i + 1 ∧ lcM (lcStep p t el) vs (ds.drop (i + 1)) out e = .ok outN eN,
      fun H' ⟨F', e, acc, out, h1, h2, h3, h4, h5⟩ => ⟨m - 1, by omega, F', e, acc, out, h1, h2, h3, by omega, h4, h5⟩, fun x H' hy => ?_⟩
    obtain ⟨F3, E3, S3, r3⟩ := yld x H' hy
    unfold lcM lcStep at hl2
    cases ha : asgP p d e2 with
    | none => rw [ha] at hl2; cases hl2
    | some e3 =>
    rw [ha] at hl2
    dsimp only at hl2
    intro s0 H0 C0 cl0 fp0
    refine hg s0 H0 C0 cl0 fp0 ps F3 _ H' _ e2 x d e3 _ S3 r3 ha fun σ4 S4 c4 => ⟨c4.wipe hv, fun s1 H01 C1 cl1 fp1 => ?_⟩
    have back : ∀ {F' H' e'}, Sta X.K ps F' (upd G D (.lst acc)) H' σ4 e' → Sta X.K ps F' (upd G D (.lst acc)) H' (L2.wipe σ vs) (wipeE e' vs) := fun {F' H' e'} S => by
      have := S.wipe vs
      rw [c4.wipe hv] at this
      exact this
    refine ht s1 H01 C1 cl1 fp1 ps F3 _ H' σ4 e3 _ S4 ?_
    cases htr : t e3 with
    | ex c x e => rw [htr] at hl2; cases hl2
    | no => rw [htr] at hl2; cases hl2
    | ok b e4 =>
    rw [htr] at hl2
    intro F5 H5 E5 S5
    cases b with
    | false =>
      rw [if_neg Bool.false_ne_true]
      exact ⟨F5, wipeE e4 vs, acc, out, (E2.trans E3).trans E5, back S5, (r2.mono E3).mono E5, by omega, hl2⟩
    | true =>
      rw [if_pos rfl]
      intro s2 H02 C2 cl2 fp2
      have hl3 : (((mD el e4).bind fun y e2 => Res.ok (some y) e2).bind fun o e => match o with
        | some y => lcM (lcStep p t el) vs (ds.drop (i + 1)) (out ++ [y]) (wipeE e vs)
        | none => lcM (lcStep p t el) vs (ds.drop (i + 1)) out (wipeE e vs)) = .ok outN eN := hl2
      cases hel : mD el e4 with
      | ex c x e => rw [hel] at hl3; cases hl3
      | no => rw [hel] at hl3; cases hl3
      | ok y e5 =>
      rw [hel] at hl3
      have hpe : Post (BX X scope s2 H02 C2 cl2 fp2) ps F5 (upd G D (.lst acc)) σ4 (fun (z : PyData) (e' : Env') _ _ => z = y ∧ e' = e5) ((mD el e4).bind fun z e => .ok z e) := by
        rw [hel]; exact fun _ _ _ _ => ⟨rfl, rfl⟩
      refine (he s2 H02 C2 cl2 fp2).useD (k := fun z e => .ok z e) S5 hpe fun z e6 F6 H6 v6 E6 S6 hv6 hk6 => ?_
      obtain ⟨rfl, rfl⟩ := hk6 F6 H6 Ext.refl S6
      obtain ⟨g1, g2, g3⟩ := S6.hidden
      have r6 : Rps X.K F6 acc out := ((r2.mono E3).mono E5).mono E6
      refine ⟨acc, g1, ?_, F6, wipeE e6 vs, acc ++ [v6], out ++ [z], ((E2.trans E3).trans E5).trans E6, (back S6).change (o := .lst acc) trivial, r6.append (.cons hv6 .nil), by simp; omega, hl3⟩
      have := lim_le hlim
      rw [r6.length]; omega
theorem se_lc (hc : X.calm = true) (hN : X.N.Nodup) (hi : SI X tg iter it) (ok : BlkOk X.N X.env.scope scope own) (hv : (p.ix.all fun j => (own.map (·.2)).contains j) = true)
    (hg : ∀ s H C cl fp, SG (BX X scope s H C cl fp) tg p) (ht : ∀ s H C cl fp, STs (BX X scope s H C cl fp) ifs t) (he : ∀ s H C cl fp, SE (BX X scope s H C cl fp) elt el) (hs : ∀ x, foldedSetIterable iter X.env x = pure x := by intro _; rfl) :
    SE X (.ListComp elt [⟨tg, iter, ifs, 0⟩] scope pos) (eLC it p t el (own.map (·.2))) := fun ps F G H σ env Q S hp =>
  ⟨_, pe_lc hc hN piU ok (fun s H C cl fp => ⟨fun pins s' σ H v u Q I r h => pgU.run pins s' σ H v u Q I r (h s _ C cl fp)⟩) (fun s H C cl fp => ⟨fun pins s' σ H Q I h => let ⟨_, h1, h2⟩ := h s _ C cl fp; h1.run pins s' σ H Q I h2⟩)
    (fun s H C cl fp => ⟨fun pins s' σ H Q I h => peU.run pins s' σ H Q I (h s _ C cl fp)⟩) hs, lc_end hi hg ht he (fun j hj => by simpa using List.all_eq_true.mp hv j hj) S hp⟩
/-- name = [..] -/
theorem ss_setLc {i : Nat} {y : Str} {py spos : Pos} (hc : X.calm = true) (hN : X.N.Nodup) (hy : X.N[i]? = some y) (hyl : X.env.scope.names.lookup y = some .local)
    (hsw : swapsWith (.ListComp elt [⟨tg, iter, ifs, 0⟩] scope pos) (some (.Name y py)) spos.line X.env = pure true) (hi : SI X tg iter it) (ok : BlkOk X.N X.env.scope scope own) (hv : (p.ix.all fun j => (own.map (·.2)).contains j) = true)
    (hg : ∀ s H C cl fp, SG (BX X scope s H C cl fp) tg p) (ht : ∀ s H C cl fp, STs (BX X scope s H C cl fp) ifs t) (he : ∀ s H C cl fp, SE (BX X scope s H C cl fp) elt el) (hs : ∀ x, foldedSetIterable iter X.env x = pure x := by intro _; rfl) :
    SS X (.Assign [.Name y py] (.ListComp elt [⟨tg, iter, ifs, 0⟩] scope pos) spos) (sSet i (eLC it p t el (own.map (·.2)))) := fun ps F G H σ env Dn S hp => by
  refine ⟨_, ps_setLc (g := tgBl X scope tg) (tt := ttsBl X scope ifs) (te := tBl X scope elt) hc hN hy hyl hsw piU ok (fun s H C cl fp => ⟨fun pins s' σ H v u Q I r h => pgU.run pins s' σ H v u Q I r (h s _ C cl fp)⟩) (fun s H C cl fp => ⟨fun pins s' σ H Q I h => let ⟨_, h1, h2⟩ := h s _ C cl fp; h1.run pins s' σ H Q I h2⟩)
    (fun s H C cl fp => ⟨fun pins s' σ H Q I h => peU.run pins s' σ H Q I (h s _ C cl fp)⟩) hs, ?_⟩
  refine lc_end hi hg ht he (fun j hj => by simpa using List.all_eq_true.mp hv j hj) S ?_
  have hb : sSet i (eLC it p t el (own.map (·.2))) env = (eLC it p t el (own.map (·.2)) env).bind fun r e => (match r with | .new x => Res.ok (R.new x) e | .d x => Res.ok (R.d x) e | .at i => (frz (.at i) e).bind fun x e => .ok (.d x) e).bind fun r e => match r with
    | .d x => .ok .nx (e.set i (some ⟨0, .d x⟩))
    | .new x => .ok .nx (e.set i (some ⟨0, .o x⟩))
    | .at _ => .no := by
    unfold sSet mW
    cases eLC it p t el (own.map (·.2)) env with
    | ok r e => cases r <;> rfl
    | ex => rfl
    | no => rfl
  rw [hb] at hp
  refine (PostG.at hp σ).imp fun r e F1 H1 E1 S1 hk v hv => ?_
  cases r with
  | d x => exact hk F1 H1 _ Ext.refl (S1.storeD hv i)
  | new x => exact hk F1 H1 _ Ext.refl (S1.storeO hv i)
  | «at» j =>
    have hk' : Post X ps F1 G σ (fun (r : D) e' F' H' => ∀ σ', Sta X.K ps F' G H' σ' (e'.set i (some ⟨0, .d r⟩)) → Dn.nx σ' H') ((frz (.at j) e).bind fun x e => .ok x e) := by
      rw [Res.bind_ok]
      have hk2 : PostG X ps F1 G (endS X.K G Dn) (((frz (.at j) e).bind fun x e => Res.ok (R.d x) e).bind fun r e => match r with
        | .d x => .ok .nx (e.set i (some ⟨0, .d x⟩))
        | .new x => .ok .nx (e.set i (some ⟨0, .o x⟩))
        | .at _ => .no) := hk
      cases h2 : frz (.at j) e with
      | ok x e' => rw [h2] at hk2; exact fun F' H' E' S' σ' S2 => hk2 F' H' σ' E' S2
      | ex c x e' => rw [h2] at hk2; obtain ⟨W, tk, h⟩ := hk2; exact ⟨W, tk, fun cls dd F' H' e' S q => h cls dd F' H' σ e' S q⟩
      | no => rw [h2] at hk2; exact hk2
    exact frz_ok S1 hv hk' fun x e2 F2 E2 S2 r2 h2 => h2 F2 H1 Ext.refl S2 _ (S2.storeD r2 i)
end
end PL

namespace PL
open PySem PySem.Spec PyProof.Rows L2

/-! ### defs and their calls -/
inductive FRes where
  | ok (r : W) (outs : List (Option W))
  | ex (c : Str) (x : D) (outs : List (Option W))
  | no
abbrev FM := List W → FRes
def W.r : W → R
  | .d x => .d x
  | .o x => .new x
def argE : Nat → List W → Env'
  | _, [] => []
  | k, w :: ws => some ⟨k + 1, w⟩ :: argE (k + 1) ws
theorem argE_get : ∀ (ws : List W) (k i : Nat), (argE k ws)[i]? = (ws[i]?).map fun w => some ⟨k + i + 1, w⟩
  | [], k, i => by simp [argE]
  | w :: ws, k, 0 => by simp [argE]
  | w :: ws, k, i + 1 => by
    rw [argE, List.getElem?_cons_succ, argE_get ws, List.getElem?_cons_succ]
    have : k + 1 + i + 1 = k + (i + 1) + 1 := by omega
    rw [this]
theorem argE_length : ∀ (ws : List W) (k : Nat), (argE k ws).length = ws.length
  | [], _ => rfl
  | _ :: ws, k => congrArg Nat.succ (argE_length ws _)
def outE (outs : List (Option W)) : Env' := outs.map fun o => o.map fun w => ⟨0, w⟩
def outAt (e : Env') (k : Nat) : Option W := match e[k]? with
  | some (some s) => if s.tg = k + 1 then some s.w else none
  | _ => none
def outsOf (n : Nat) (e : Env') : List (Option W) := (List.range n).map (outAt e)
theorem outE_get (n : Nat) (e : Env') (k : Nat) (s : Slot) (h : (outE (outsOf n e))[k]? = some (some s)) : k < n ∧ s.tg = 0 ∧ ∃ t, e[k]? = some (some t) ∧ t.tg = k + 1 ∧ t.w = s.w := by
  unfold outE outsOf at h
  rw [List.map_map, List.getElem?_map] at h
  obtain ⟨j, hj, h2⟩ := Option.map_eq_some_iff.mp h
  obtain ⟨hl, hj'⟩ := List.getElem?_eq_some_iff.mp hj
  rw [List.getElem_range] at hj'
  subst hj'
  rw [List.length_range] at hl
  simp only [Function.comp_apply] at h2
  obtain ⟨w, hw, rfl⟩ := Option.map_eq_some_iff.mp h2
  unfold outAt at hw
  split at hw
  · rename_i t ht
    split at hw
    · rename_i htg
      cases hw
      exact ⟨hl, rfl, t, ht, htg, rfl⟩
    · cases hw
  · cases hw
/-- a def: its parameters, its names, its body -/
def fnM (np n : Nat) (body : M Fl) : FM := fun ws => match body (argE 0 ws ++ List.replicate (n - np) none) with
  | .ok (.rt (.d x)) e => .ok (.d x) (outsOf np e)
  | .ok (.rt (.new x)) e => .ok (.o x) (outsOf np e)
  | .ok .nx e => .ok (.d .none) (outsOf np e)
  | .ex c x e => .ex c x (outsOf np e)
  | _ => .no
def ExRk (mg : Str → Option Value) (K : KF) (F H : Hp) (cls : Value) (dd : Option Addr) (c : Str) (x : D) : Prop :=
  ∃ C a v, mg c = some (.ref C) ∧ cls = .ref C ∧ dd = some a ∧ H a = some (.xd [("value", v)]) ∧ Rp K F v x
def PostF (mg : Str → Option Value) (K : KF) (F G : Hp) (vs : List V) (Q : VK) (E : XK) : FRes → Prop
  | .ok r outs => ∀ F' H' v, Ext F F' → Sta K vs F' G H' (vs.map some) (outE outs) → RelR K F' G H' (vs.map some) (outE outs) v r.r → Q v H'
  | .ex c x outs => ∀ F' H' cls dd, Ext F F' → Sta K vs F' G H' (vs.map some) (outE outs) → ExRk mg K F' H' cls dd c x → E cls dd H'
  | .no => False
def spF (n : Nat) (mg : Str → Option Value) (K : KF) (f : FM) : Sp := fun vs H Q E => vs.length = n ∧ ∃ F G ws, ws.length = n ∧ Sta K vs F G H (vs.map some) (argE 0 ws) ∧ PostF mg K F G vs Q E (f ws)
/-- a def's promise where the stack below holds no guard of a display -/
structure FnG (P : Program) (w : World) (K : KF) (mg : Str → Option Value) (base : Heap) (k : Nat) (fa : Addr) (fd : FuncData) (ps : List Str) (sp : Sp) : Prop where
  ln : ∀ {vs : List V} {H : Hp} {Q : VK} {E : XK}, sp vs H Q E → vs.length = ps.length
  go : ∀ {A : Around} {below : List Env} {s : Shared} {H : Hp} {args : Args} {us : List Value} {vs : List V} {Q : VK} {E : XK}, A.guards = some [] → Room k A →
    Env0 P w K mg base A below s H → BindsTo s fd args (ps.zip us) → Vals vs us → sp vs H Q E →
    codeAny (model P w) A (.call (.ref fa) args) (CR (L2.CX P w) below P w H s Q E) s
theorem FnG.mono {P : Program} {w : World} {K : KF} {mg : Str → Option Value} {base : Heap} {j k : Nat} {fa : Addr} {fd : FuncData} {ps : List Str} {sp : Sp} (F : FnG P w K mg base j fa fd ps sp) (h : j ≤ k) : FnG P w K mg base k fa fd ps sp :=
  ⟨F.ln, fun g r => F.go g (r.mono h)⟩
theorem guards_deeper {A : Around} {e : Env} (h : A.guards = some []) : (A.deeper e).guards = some [] := h
/-- a def of the text at its name, by what it computes -/
structure FP (P : Program) (w : World) (K : KF) (mg : Str → Option Value) (base : Heap) (k : Nat) (x : Str) (ps : List Str) (st : Stmt) (f : FM) : Prop where
  ex : ∃ (fa : Addr) (fd : FuncData) (qual : Str), FnG P w K mg base k fa fd ps (spF ps.length mg K f) ∧ mg x = some (.ref fa) ∧ PySem.W.keepIn K (.ref fa) = true ∧ Fun K x qual st fa fd ∧ Binds K fd ps []
theorem FP.mono {P : Program} {w : World} {K : KF} {mg : Str → Option Value} {base : Heap} {j k : Nat} {x : Str} {ps : List Str} {st : Stmt} {f : FM} (F : FP P w K mg base j x ps st f) (h : j ≤ k) : FP P w K mg base k x ps st f := by
  obtain ⟨fa, fd, q, h1, h2⟩ := F.ex
  exact ⟨fa, fd, q, h1.mono h, h2⟩

/-- the entry into a def, its body's reading given there -/
theorem fnG_of {P : Program} {w : World} {K : KF} {mg : Str → Option Value} {base : Heap} {x qual : Str} {st : Stmt} {f : Addr} {fd : FuncData} {N ps : List Str} {k : Nat} {sp : Sp} (D : Fun K x qual st f fd) (S : FnScope N ps (defScope st))
    (ln : ∀ {vs : List V} {H : Hp} {Q : VK} {E : XK}, sp vs H Q E → vs.length = ps.length)
    (body : ∀ (cdv : Value) (A : Around) (below : List Env) (s : Shared) (H : Hp) (vs : List V) (Q : VK) (E : XK),
      (A.deeper (envOfC qual (defScope st) s.heap.objs.size f cdv)).guards = some [] → Room k (A.deeper (envOfC qual (defScope st) s.heap.objs.size f cdv)) → sp vs H Q E →
      tssU (cxOf (L2.CX P w) P w K mg base N qual (defScope st) f cdv A below s H E) (defBody st) { nx := fun _ H' => Q .non H', rt := Q } (start N vs) H) :
    FnG P w K mg base (k + 1) f fd ps sp := by
  obtain ⟨oc, od, kV, doc, pm, an, cdv, ct, osl, rfl, found, code⟩ := D.ex
  refine ⟨ln, @fun A below s H args us vs Q E gd room e0 bnd rel wish => ?_⟩
  have keep : K.In s.heap := e0.mod.kin.keeps fun b o e => (e0.bs b o e).1
  have nolim : s.heap.NoLimit := e0.mod.nolimit.keeps fun b o e => (e0.bs b o e).1
  have kinds : ∀ y ∈ ps.zip us, (defScope st).names.lookup y.1 = some .local ∨ ((defScope st).names.lookup y.1 = some .cell ∧ ((cellsFrom (s.heap.objs.size + 1) (defScope st).names []).lookup y.1).isSome = true) := by
    rintro ⟨n, v⟩ hy
    exact (S.par n (List.of_mem_zip hy).1).imp id fun q => ⟨q, PySem.W.cellsFrom_some _ _ _ (.inl q)⟩
  apply codeAny_call_function room.depth (keep _ _ found) rfl S.co S.gen rfl (PySem.W.codeRec_of keep code)
  apply bnd
  apply wpAny_newFunctionEnv_cells S.kind kinds
  intro env henv s1 entered
  cases henv
  constructor
  · exact nolim.keeps entered.toInCall.keep
  · apply codeAny_func
    obtain ⟨t, reads, tq⟩ := body cdv A below s H vs Q E (guards_deeper gd) (room.deeper _) wish
    have I := inv_start (CX := L2.CX P w) (E := E) S room.hd e0 (ln wish) rel entered
    apply wpAny_mono (reads.run [] s1 (start N vs) H _ I tq)
    · rintro (_ | _ | _ | u) s' out
      · obtain ⟨σ', H', J, q⟩ := out
        exact ⟨V.non, H', J.os, J.bare, J.base, J.hok, rfl, q⟩
      · obtain ⟨_, _, _, q⟩ := out
        exact q.elim
      · obtain ⟨_, _, _, q⟩ := out
        exact q.elim
      · obtain ⟨v, σ', H', J, rv, q⟩ := out
        exact ⟨v, H', J.os, J.bare, J.base, J.hok, rv, q⟩
    · exact fun _ _ q => q

section
variable {K : KF} {ps vs : List V} {F G H : Hp} {σ : St} {env : Env'}
theorem sta_outs {np : Nat} (hn : vs.length = np) {e : Env'} {F' H' : Hp} {σ' : St} (S : Sta K vs F' G H' σ' e) : Sta K vs F' G H' (vs.map some) (outE (outsOf np e)) where
  fh := S.fh
  fn := S.fn
  gh := S.gh
  fg := S.fg
  len := by unfold outE outsOf; simp [hn]
  slot := fun k s h => by
    obtain ⟨hk, htg, t, ht, htt, hw⟩ := outE_get np e k s h
    obtain ⟨v, q1, q2, q3⟩ := S.slot k t ht
    have hv := q3 k htt
    refine ⟨v, by rw [List.getElem?_map, hv]; rfl, by rw [← hw]; exact q2, fun j hj => ?_⟩
    rw [htg] at hj; cases hj
  sep := fun i j s t hij hs ht so to z => by
    obtain ⟨_, _, s', hs', hst, hsw⟩ := outE_get np e i s hs
    obtain ⟨_, _, t', ht', htt, htw⟩ := outE_get np e j t ht
    obtain ⟨v, q1, _, q3⟩ := S.slot i s' hs'
    obtain ⟨u, p1, _, p3⟩ := S.slot j t' ht'
    have hv := q3 i hst
    have hu := p3 j htt
    rw [List.getElem?_map, List.getElem?_map, hv, hu] at z
    cases z
    exact S.sep i j s' t' hij hs' ht' (by rw [hsw]; exact so) (by rw [htw]; exact to) (by rw [q1, p1])
theorem sta_in {N : List Str} {ws : List W} (hn : ws.length = vs.length) (hN : vs.length ≤ N.length) (S : Sta K vs F G H (vs.map some) (argE 0 ws)) : Sta K vs F G H (L2.start N vs) (argE 0 ws ++ List.replicate (N.length - vs.length) none) := by
  have key : ∀ (i : Nat) (s : Slot), (argE 0 ws ++ List.replicate (N.length - vs.length) none)[i]? = some (some s) → (argE 0 ws)[i]? = some (some s) ∧ (L2.start N vs)[i]? = (vs.map some)[i]? := fun i s h => by
    by_cases hi : i < (argE 0 ws).length
    · rw [List.getElem?_append_left hi] at h
      refine ⟨h, ?_⟩
      unfold L2.start
      rw [List.getElem?_append_left]
      rw [argE_length] at hi
      simp; omega
    · rw [List.getElem?_append_right (by omega), List.getElem?_replicate] at h
      split at h <;> cases h
  refine ⟨S.fh, S.fn, S.gh, S.fg, ?_, fun i s h => ?_, fun i j s t hij hs ht so to => ?_⟩
  · unfold L2.start
    simp [argE_length, hn]
  · obtain ⟨h1, h2⟩ := key i s h
    rw [h2]; exact S.slot i s h1
  · obtain ⟨h1, h2⟩ := key i s hs
    obtain ⟨h3, h4⟩ := key j t ht
    rw [h2, h4]; exact S.sep i j s t hij h1 h3 so to
end

/-- THE RULE for a def -/
theorem fun_ok {P : Program} {w : World} {K : KF} {mg : Str → Option Value} {base : Heap} {x qual : Str} {st : Stmt} {f : Addr} {fd : FuncData} {N ps : List Str} {k : Nat} {body : M Fl} (hF : Fun K x qual st f fd) (S : FnScope N ps (defScope st)) (hx : mg x = some (.ref f)) (hb : Binds K fd ps [])
    (hbody : ∀ X : Cx, X.prog = P → X.w = w → X.K = K → X.mg = mg → X.base = base → X.N = N → X.env.scope = defScope st → X.calm = true → (∀ y, X.fn y = true) → Room k X.A → X.A.guards = some [] → X.ex = [] → PassesOwn (model X.prog X.w) X.A X.env X.xe → SSs X (defBody st) body) :
    FP P w K mg base (k + 1) x ps st (fnM ps.length N.length body) := by
  refine ⟨f, fd, qual, ?_, hx, hF.kp, hF, hb⟩
  refine fnG_of hF S (fun h => h.1) fun cdv A outer s H vs Q E hgd hr ⟨hl, F, G, ws, hw, Sa, hp⟩ => ?_
  have hN : vs.length ≤ N.length := by
    have := congrArg List.length S.pre
    rw [List.length_take] at this
    omega
  have hS := sta_in (N := N) (by omega) hN Sa
  have tk : Takes (cxOf (L2.CX P w) P w K mg base N qual (defScope st) f cdv A outer s H E) (fun cls d _ H => E cls d H) := takes_of rfl rfl rfl rfl
  have hB := hbody (cxOf (L2.CX P w) P w K mg base N qual (defScope st) f cdv A outer s H E) rfl rfl rfl rfl rfl rfl rfl rfl (fun _ => rfl) hr hgd rfl (passes_of rfl)
  refine hB vs F G H _ _ _ hS ?_
  unfold fnM at hp
  rw [show N.length - ps.length = N.length - vs.length by omega] at hp
  generalize body (argE 0 ws ++ List.replicate (N.length - vs.length) none) = r at hp
  cases r with
  | no => exact hp
  | ex c y e => exact ⟨_, tk, fun cls dd F' H' σ' E' S' hx => hp F' H' cls dd E' (sta_outs hl S') hx⟩
  | ok fl e =>
    cases fl with
    | nx => exact fun F' H' σ' E' S' => hp F' H' _ E' (sta_outs hl S') .non
    | bk => exact hp.elim
    | ct => exact hp.elim
    | rt r =>
      cases r with
      | d y => exact fun F' H' σ' E' S' v hv => hp F' H' v E' (sta_outs hl S') hv
      | «at» i => exact hp.elim
      | new y =>
        intro F' H' σ' E' S' v hv
        obtain ⟨a, rfl, h1, h2, h3, h4⟩ := hv
        refine hp F' H' _ E' (sta_outs hl S') ⟨a, rfl, h1, h2, h3, fun i s hs so z => ?_⟩
        obtain ⟨_, _, t, ht, htt, hw⟩ := outE_get ps.length e i s hs
        obtain ⟨u, q1, _, q3⟩ := S'.slot i t ht
        have hu := q3 i htt
        rw [List.getElem?_map, hu] at z
        cases z
        exact h4 i t ht (by rw [hw]; exact so) q1

/-! a call -/
def argW (r : R) (e : Env') : Option W := match r with
  | .d x => some (.d x)
  | .at i => match e[i]? with
    | some (some s) => some s.w
    | _ => none
  | .new _ => none
def argWs : List R → Env' → Option (List W)
  | [], _ => some []
  | r :: rs, e => match argW r e, argWs rs e with
    | some w, some ws => some (w :: ws)
    | _, _ => none
def ownIx : List R → Env' → List Nat
  | [], _ => []
  | .at i :: rs, e => match e[i]? with
    | some (some s) => if s.w.own then i :: ownIx rs e else ownIx rs e
    | _ => ownIx rs e
  | _ :: rs, e => ownIx rs e
def setOut (e0 : Env') (i : Nat) (o : Option W) (e : Env') : Env' := match e0[i]? with
  | some (some s) => if s.w.own then e.set i (o.map fun w => ⟨s.tg, w⟩) else e
  | _ => e
def setOuts (e0 : Env') : List R → List (Option W) → Env'
  | .at i :: rs, o :: os => setOut e0 i o (setOuts e0 rs os)
  | .at i :: rs, [] => setOut e0 i none (setOuts e0 rs [])
  | .d _ :: rs, _ :: os => setOuts e0 rs os
  | .new _ :: rs, _ :: os => setOuts e0 rs os
  | .d _ :: rs, [] => setOuts e0 rs []
  | .new _ :: rs, [] => setOuts e0 rs []
  | [], _ => e0
def callF (f : FM) (rs : List R) (e : Env') : Res R := if (ownIx rs e).Nodup then match argWs rs e with
    | some ws => match f ws with
      | .ok r outs => .ok r.r (setOuts e rs outs)
      | .ex c x outs => .ex c x (setOuts e rs outs)
      | .no => .no
    | none => .no
  else .no
def eCall (f : FM) (ms : List (M R)) : M R := fun env => (mArgs ms env).bind fun rs e => callF f rs e
theorem setOut_len {e0 : Env'} {i : Nat} {o : Option W} {e : Env'} : (setOut e0 i o e).length = e.length := by
  unfold setOut
  split
  · split
    · rw [List.length_set]
    · rfl
  · rfl
theorem setOuts_len {e0 : Env'} : ∀ (rs : List R) (os : List (Option W)), (setOuts e0 rs os).length = e0.length
  | [], _ => by simp [setOuts]
  | .at i :: rs, o :: os => by rw [setOuts, setOut_len, setOuts_len rs os]
  | .at i :: rs, [] => by rw [setOuts, setOut_len, setOuts_len rs []]
  | .d _ :: rs, _ :: os => by rw [setOuts, setOuts_len rs os]
  | .new _ :: rs, _ :: os => by rw [setOuts, setOuts_len rs os]
  | .d _ :: rs, [] => by rw [setOuts, setOuts_len rs []]
  | .new _ :: rs, [] => by rw [setOuts, setOuts_len rs []]
/-- slot i is passed, an own one, as the k-th argument -/
def Passed (e0 : Env') (rs : List R) (i k : Nat) (s : Slot) : Prop := rs[k]? = some (.at i) ∧ e0[i]? = some (some s) ∧ s.w.own = true
theorem setOut_some {e0 : Env'} {i j : Nat} {o : Option W} {e : Env'} {s' : Slot} (h : (setOut e0 j o e)[i]? = some (some s')) :
    (∃ s w, j = i ∧ e0[i]? = some (some s) ∧ s.w.own = true ∧ o = some w ∧ s' = ⟨s.tg, w⟩) ∨ ((j = i → ∀ s, e0[i]? = some (some s) → s.w.own = false) ∧ e[i]? = some (some s')) := by
  unfold setOut at h
  split at h
  · rename_i s hs
    split at h
    · rename_i ho
      rw [set_get] at h
      by_cases e' : j = i
      · subst e'
        rw [if_pos rfl] at h
        split at h
        · cases ho' : o with
          | none => rw [ho'] at h; cases h
          | some w => rw [ho'] at h; cases h; exact .inl ⟨s, w, rfl, hs, ho, rfl, rfl⟩
        · cases h
      · rw [if_neg e'] at h
        exact .inr ⟨fun z => absurd z e', h⟩
    · rename_i ho
      refine .inr ⟨fun z t ht => ?_, h⟩
      subst z
      rw [hs] at ht; cases ht
      simpa using ho
  · rename_i hn
    exact .inr ⟨fun z t ht => by subst z; exact absurd ht (hn t), h⟩
theorem setOuts_some {e0 : Env'} {i : Nat} {s' : Slot} : ∀ (rs : List R) (os : List (Option W)), (setOuts e0 rs os)[i]? = some (some s') →
    ((∀ k s, ¬ Passed e0 rs i k s) ∧ e0[i]? = some (some s')) ∨ ∃ k s w, Passed e0 rs i k s ∧ os[k]? = some (some w) ∧ s' = ⟨s.tg, w⟩ := by
  have lift : ∀ (r : R) (rs : List R) (os os' : List (Option W)), (∀ k, os'[k + 1]? = os[k]? ∨ os[k]? = none) → (∀ s, ¬ Passed e0 (r :: rs) i 0 s) →
      (((∀ k s, ¬ Passed e0 rs i k s) ∧ e0[i]? = some (some s')) ∨ ∃ k s w, Passed e0 rs i k s ∧ os[k]? = some (some w) ∧ s' = ⟨s.tg, w⟩) →
      (((∀ k s, ¬ Passed e0 (r :: rs) i k s) ∧ e0[i]? = some (some s')) ∨ ∃ k s w, Passed e0 (r :: rs) i k s ∧ os'[k]? = some (some w) ∧ s' = ⟨s.tg, w⟩) := by
    intro r rs os os' ho h0 h
    rcases h with ⟨h1, h2⟩ | ⟨k, s, w, ⟨p1, p2, p3⟩, h2, h3⟩
    · refine .inl ⟨fun k s => ?_, h2⟩
      cases k with
      | zero => exact h0 s
      | succ k => exact fun ⟨q1, q2⟩ => h1 k s ⟨by simpa using q1, q2⟩
    · refine .inr ⟨k + 1, s, w, ⟨by simpa using p1, p2, p3⟩, ?_, h3⟩
      rcases ho k with z | z
      · rw [z]; exact h2
      · rw [z] at h2; cases h2
  intro rs
  induction rs with
  | nil =>
    intro os h
    refine .inl ⟨fun k s ⟨q, _⟩ => by simp at q, ?_⟩
    simpa [setOuts] using h
  | cons r rs ih =>
    intro os h
    cases r with
    | d x =>
      have h0 : ∀ s, ¬ Passed e0 (.d x :: rs) i 0 s := fun s ⟨q, _⟩ => by simp at q
      cases os with
      | nil => exact lift _ rs [] [] (fun k => .inr (by simp)) h0 (ih [] (by rw [setOuts] at h; exact h))
      | cons o os => exact lift _ rs os _ (fun k => .inl (by simp)) h0 (ih os (by rw [setOuts] at h; exact h))
    | new x =>
      have h0 : ∀ s, ¬ Passed e0 (.new x :: rs) i 0 s := fun s ⟨q, _⟩ => by simp at q
      cases os with
      | nil => exact lift _ rs [] [] (fun k => .inr (by simp)) h0 (ih [] (by rw [setOuts] at h; exact h))
      | cons o os => exact lift _ rs os _ (fun k => .inl (by simp)) h0 (ih os (by rw [setOuts] at h; exact h))
    | «at» j =>
      cases os with
      | nil =>
        rw [setOuts] at h
        rcases setOut_some h with ⟨s, w, rfl, h1, h2, h3, _⟩ | ⟨h1, h2⟩
        · cases h3
        · exact lift _ rs [] [] (fun k => .inr (by simp)) (fun s ⟨q1, q2, q3⟩ => by simp at q1; rw [h1 q1 s q2] at q3; cases q3) (ih [] h2)
      | cons o os =>
        rw [setOuts] at h
        rcases setOut_some h with ⟨s, w, rfl, h1, h2, rfl, h4⟩ | ⟨h1, h2⟩
        · exact .inr ⟨0, s, w, ⟨rfl, h1, h2⟩, rfl, h4⟩
        · exact lift _ rs os _ (fun k => .inl (by simp)) (fun s ⟨q1, q2, q3⟩ => by simp at q1; rw [h1 q1 s q2] at q3; cases q3) (ih os h2)
theorem ownIx_mem {e0 : Env'} {i : Nat} : ∀ (rs : List R), i ∈ ownIx rs e0 ↔ ∃ k s, Passed e0 rs i k s
  | [] => by simp [ownIx, Passed]
  | .d x :: rs => by
    rw [ownIx, ownIx_mem rs]
    · constructor
      · rintro ⟨k, s, h1, h2⟩; exact ⟨k + 1, s, by simpa using h1, h2⟩
      · rintro ⟨k, s, h1, h2⟩
        cases k with
        | zero => simp at h1
        | succ k => exact ⟨k, s, by simpa using h1, h2⟩
    · intro i h; cases h
  | .new x :: rs => by
    rw [ownIx, ownIx_mem rs]
    · constructor
      · rintro ⟨k, s, h1, h2⟩; exact ⟨k + 1, s, by simpa using h1, h2⟩
      · rintro ⟨k, s, h1, h2⟩
        cases k with
        | zero => simp at h1
        | succ k => exact ⟨k, s, by simpa using h1, h2⟩
    · intro i h; cases h
  | .at j :: rs => by
    have tl : (∃ k s, Passed e0 (.at j :: rs) i k s) ↔ (j = i ∧ ∃ s, e0[i]? = some (some s) ∧ s.w.own = true) ∨ ∃ k s, Passed e0 rs i k s := by
      constructor
      · rintro ⟨k, s, h1, h2⟩
        cases k with
        | zero => simp at h1; exact .inl ⟨h1, s, h2⟩
        | succ k => exact .inr ⟨k, s, by simpa using h1, h2⟩
      · rintro (⟨rfl, s, h⟩ | ⟨k, s, h1, h2⟩)
        · exact ⟨0, s, rfl, h⟩
        · exact ⟨k + 1, s, by simpa using h1, h2⟩
    rw [tl, ← ownIx_mem rs, ownIx]
    split
    · rename_i s hs
      split
      · rename_i ho
        rw [List.mem_cons]
        constructor
        · rintro (rfl | h)
          · exact .inl ⟨rfl, s, hs, ho⟩
          · exact .inr h
        · rintro (⟨rfl, _⟩ | h)
          · exact .inl rfl
          · exact .inr h
      · rename_i ho
        constructor
        · exact fun h => .inr h
        · rintro (⟨rfl, t, ht, hto⟩ | h)
          · rw [hs] at ht; cases ht; exact absurd hto ho
          · exact h
    · rename_i hn
      constructor
      · exact fun h => .inr h
      · rintro (⟨rfl, t, ht, hto⟩ | h)
        · exact absurd ht (hn t)
        · exact h
theorem argWs_get {e0 : Env'} : ∀ {rs : List R} {ws : List W}, argWs rs e0 = some ws → ws.length = rs.length ∧ ∀ (k : Nat) (r : R), rs[k]? = some r → ∃ w, ws[k]? = some w ∧ argW r e0 = some w
  | [], _, h => by cases h; exact ⟨rfl, fun k r h => by simp at h⟩
  | r :: rs, _, h => by
    unfold argWs at h
    split at h
    · rename_i w ws hw hws
      cases h
      obtain ⟨i1, i2⟩ := argWs_get hws
      refine ⟨congrArg Nat.succ i1, fun k q hq => ?_⟩
      cases k with
      | zero => simp at hq; subst hq; exact ⟨w, rfl, hw⟩
      | succ k => obtain ⟨w', h1, h2⟩ := i2 k q (by simpa using hq); exact ⟨w', by simpa using h1, h2⟩
    · cases h
/-- two own arguments are different ones -/
theorem passed_one {e0 : Env'} : ∀ {rs : List R} {i k l : Nat} {s t : Slot}, (ownIx rs e0).Nodup → Passed e0 rs i k s → Passed e0 rs i l t → k = l
  | [], _, _, _, _, _, _, h, _ => by simp [Passed] at h
  | r :: rs, i, k, l, s, t, nd, h1, h2 => by
    have ndT : (ownIx rs e0).Nodup := by
      cases r with
      | d x => rw [ownIx] at nd; exact nd; intro i h; cases h
      | new x => rw [ownIx] at nd; exact nd; intro i h; cases h
      | «at» j =>
        rw [ownIx] at nd
        split at nd
        · split at nd
          · exact (List.nodup_cons.mp nd).2
          · exact nd
        · exact nd
    have no0 : ∀ {k s t}, Passed e0 (r :: rs) i 0 s → Passed e0 (r :: rs) i (k + 1) t → False := fun {k s t} p q => by
      obtain ⟨p1, p2, p3⟩ := p
      have p1' : r = .at i := by simpa using p1
      subst p1'
      rw [ownIx, p2] at nd
      simp only [p3, if_true] at nd
      exact (List.nodup_cons.mp nd).1 ((ownIx_mem rs).mpr ⟨k, t, by simpa using q.1, q.2⟩)
    cases k with
    | zero =>
      cases l with
      | zero => rfl
      | succ l => exact (no0 h1 h2).elim
    | succ k =>
      cases l with
      | zero => exact (no0 h2 h1).elim
      | succ l => exact congrArg Nat.succ (passed_one ndT ⟨by simpa using h1.1, h1.2⟩ ⟨by simpa using h2.1, h2.2⟩)
end PL

namespace PL
open PySem PySem.Spec PyProof.Rows L2
section
variable {X : Cx} {ps vs : List V} {F G H : Hp} {σ : St} {e0 : Env'} {rs : List R} {ws : List W}

/-- the own objects that are not passed are private to the caller -/
noncomputable def priv (G H : Hp) (σ : St) (e0 : Env') (rs : List R) : Hp := open Classical in fun a =>
  if ∃ (i : Nat) (s : Slot), e0[i]? = some (some s) ∧ s.w.own = true ∧ (∀ k t, ¬ Passed e0 rs i k t) ∧ σ[i]? = some (some (.ref a)) then H a else G a
theorem priv_in {a : Addr} {i : Nat} {s : Slot} (h1 : e0[i]? = some (some s)) (h2 : s.w.own = true) (h3 : ∀ k t, ¬ Passed e0 rs i k t) (h4 : σ[i]? = some (some (.ref a))) : priv G H σ e0 rs a = H a := by
  unfold priv
  rw [if_pos ⟨i, s, h1, h2, h3, h4⟩]
theorem priv_out {a : Addr} (h : ¬ ∃ (i : Nat) (s : Slot), e0[i]? = some (some s) ∧ s.w.own = true ∧ (∀ k t, ¬ Passed e0 rs i k t) ∧ σ[i]? = some (some (.ref a))) : priv G H σ e0 rs a = G a := by
  unfold priv
  rw [if_neg h]
theorem paired_len {α β : Type} {P : α → β → Prop} {xs : List α} {ys : List β} (h : Paired P xs ys) : xs.length = ys.length := Paired.length h
theorem paired_get {α β : Type} {P : α → β → Prop} : ∀ {xs : List α} {ys : List β} {i : Nat} {y : β}, Paired P xs ys → ys[i]? = some y → ∃ x, xs[i]? = some x ∧ P x y
  | _, _, _, _, .nil, e => by simp at e
  | _, _, 0, _, .cons r _, e => by simp at e; subst e; exact ⟨_, rfl, r⟩
  | _, _, i + 1, y, .cons _ t, e => by
    obtain ⟨u, h1, h2⟩ := paired_get (i := i) (y := y) t (by simpa using e)
    exact ⟨u, by simpa using h1, h2⟩
theorem own_ref {K : KF} {v : V} {w : W} (h : RelW K F G H v w) (ho : w.own = true) : ∃ a o, v = .ref a ∧ F a = none ∧ G a = none ∧ H a = some o := by
  cases w with
  | d x => cases ho
  | o x =>
    obtain ⟨a, rfl, h1, h2, h3⟩ := h
    obtain ⟨o, h4, _⟩ := h3.has
    exact ⟨a, o, rfl, h1, h2, h4⟩
theorem call_ok {f : FM} (S : Sta X.K ps F G H σ e0) (hv : Paired (RelP X.K F σ) vs rs) {Q : VK} {E : XK}
    (hp : ∀ F' H' e r v, Ext F F' → Sta X.K ps F' G H' σ e → RelR X.K F' G H' σ e v r → Q v H' ∨ callF f rs e0 ≠ .ok r e)
    (hx : ∀ F' H' e c x cls dd, Ext F F' → Sta X.K ps F' G H' σ e → ExRk X.mg X.K F' H' cls dd c x → E cls dd H' ∨ callF f rs e0 ≠ .ex c x e)
    (hno : callF f rs e0 ≠ .no) : spF rs.length X.mg X.K f vs H Q E := by
  have hlen := paired_len hv
  refine ⟨hlen, F, priv G H σ e0 rs, ?_⟩
  unfold callF at hp hx hno
  split at hno
  case isFalse => exact absurd rfl hno
  rename_i nd
  simp only [if_pos nd] at hp hx
  cases hws : argWs rs e0 with
  | none => rw [hws] at hno; exact absurd rfl hno
  | some ws =>
  rw [hws] at hno hp hx
  dsimp only at hno hp hx
  obtain ⟨wl, wg⟩ := argWs_get hws
  -- the arguments
  have arg : ∀ (k : Nat) (w : W), ws[k]? = some w → ∃ v r, vs[k]? = some v ∧ rs[k]? = some r ∧ RelW X.K F G H v w ∧ (w.own = true → ∃ i s, Passed e0 rs i k s ∧ σ[i]? = some (some v) ∧ s.w = w) := fun k w hw => by
    obtain ⟨hl, _⟩ := List.getElem?_eq_some_iff.mp hw
    have hr : ∃ r, rs[k]? = some r := ⟨rs[k]'(by omega), List.getElem?_eq_getElem (by omega)⟩
    obtain ⟨r, hr⟩ := hr
    obtain ⟨v, hvk, hrel⟩ := paired_get hv hr
    obtain ⟨w', hw', ha⟩ := wg k r hr
    rw [hw] at hw'; cases hw'
    refine ⟨v, r, hvk, hr, ?_⟩
    cases r with
    | d x => cases ha; exact ⟨hrel, fun z => by cases z⟩
    | new x => cases ha
    | «at» i =>
      unfold argW at ha
      split at ha
      · rename_i j hj
        cases hj
      · rename_i j hj
        cases hj
        split at ha
        · rename_i s hs
          cases ha
          obtain ⟨u, q1, q2, _⟩ := S.slot i s hs
          have q0 : σ[i]? = some (some v) := hrel
          rw [q0] at q1; cases q1
          exact ⟨q2, fun ho => ⟨i, s, ⟨hr, hs, ho⟩, q0, rfl⟩⟩
        · cases ha
      · cases ha
  -- an own slot's address
  have slotA : ∀ (i : Nat) (s : Slot), e0[i]? = some (some s) → s.w.own = true → ∃ a o, σ[i]? = some (some (.ref a)) ∧ F a = none ∧ G a = none ∧ H a = some o := fun i s hs ho => by
    obtain ⟨v, q1, q2, _⟩ := S.slot i s hs
    obtain ⟨a, o, rfl, h1, h2, h3⟩ := own_ref q2 ho
    exact ⟨a, o, q1, h1, h2, h3⟩
  have privN : ∀ (i : Nat) (s : Slot) (k : Nat) (a : Addr), Passed e0 rs i k s → σ[i]? = some (some (.ref a)) → priv G H σ e0 rs a = none := fun i s k a ⟨p1, p2, p3⟩ q => by
    rw [priv_out]
    · obtain ⟨a', o, q', _, h2, _⟩ := slotA i s p2 p3
      rw [q] at q'; cases q'; exact h2
    · rintro ⟨j, t, h1, h2, h3, h4⟩
      by_cases e : i = j
      · subst e; exact h3 k s ⟨p1, p2, p3⟩
      · exact S.sep i j s t e p2 h1 p3 h2 (by rw [q, h4])
  have S0 : Sta X.K vs F (priv G H σ e0 rs) H (vs.map some) (argE 0 ws) := by
    refine ⟨S.fh, S.fn, fun a o h => ?_, fun a h => ?_, by rw [argE_length, List.length_map]; omega, fun k s hs => ?_, fun k l s t hkl hs ht so to z => ?_⟩
    · by_cases c : ∃ (i : Nat) (s : Slot), e0[i]? = some (some s) ∧ s.w.own = true ∧ (∀ k t, ¬ Passed e0 rs i k t) ∧ σ[i]? = some (some (.ref a))
      · obtain ⟨i, s, h1, h2, h3, h4⟩ := c
        rw [priv_in h1 h2 h3 h4] at h; exact h
      · rw [priv_out c] at h; exact S.gh a o h
    · by_cases c : ∃ (i : Nat) (s : Slot), e0[i]? = some (some s) ∧ s.w.own = true ∧ (∀ k t, ¬ Passed e0 rs i k t) ∧ σ[i]? = some (some (.ref a))
      · obtain ⟨i, s, h1, h2, h3, h4⟩ := c
        obtain ⟨a', o, q, hF, _⟩ := slotA i s h1 h2
        rw [h4] at q; cases q; exact hF
      · rw [priv_out c] at h; exact S.fg a h
    · rw [argE_get] at hs
      obtain ⟨w, hw, e⟩ := Option.map_eq_some_iff.mp hs
      cases e
      obtain ⟨v, r, h1, h2, h3, h4⟩ := arg k w hw
      refine ⟨v, by rw [List.getElem?_map, h1]; rfl, ?_, fun j hj => by
        have : j = k := by simp only [Nat.zero_add, Nat.add_right_cancel_iff] at hj; omega
        rw [this]; exact h1⟩
      cases w with
      | d x => exact h3
      | o x =>
        obtain ⟨i, s, p, q, _⟩ := h4 rfl
        obtain ⟨a, rfl, g1, g2, g3⟩ := h3
        exact ⟨a, rfl, g1, privN i s k a p q, g3⟩
    · rw [argE_get] at hs ht
      obtain ⟨w, hw, e⟩ := Option.map_eq_some_iff.mp hs
      cases e
      obtain ⟨w', hw', e⟩ := Option.map_eq_some_iff.mp ht
      cases e
      obtain ⟨v, r, h1, h2, h3, h4⟩ := arg k w hw
      obtain ⟨v', r', h1', h2', h3', h4'⟩ := arg l w' hw'
      obtain ⟨i, s, p, q, _⟩ := h4 so
      obtain ⟨j, t, p', q', _⟩ := h4' to
      rw [List.getElem?_map, List.getElem?_map, h1, h1'] at z
      cases z
      by_cases e : i = j
      · subst e; exact hkl (passed_one nd p p')
      · exact S.sep i j s t e p.2.1 p'.2.1 p.2.2 p'.2.2 (by rw [q, q'])
  -- the heap behind
  have back : ∀ (outs : List (Option W)) F' H', Ext F F' → Sta X.K vs F' (priv G H σ e0 rs) H' (vs.map some) (outE outs) → Sta X.K ps F' G H' σ (setOuts e0 rs outs) ∧
      (∀ (i : Nat) (s' : Slot) (a : Addr), (setOuts e0 rs outs)[i]? = some (some s') → s'.w.own = true → σ[i]? = some (some (.ref a)) → priv G H σ e0 rs a ≠ none ∨ ∃ (k : Nat) (t : Slot), (outE outs)[k]? = some (some t) ∧ t.w.own = true ∧ (vs.map some)[k]? = some (some (.ref a))) := by
    intro outs F' H' E' S'
    -- a passed slot's object
    have outK : ∀ (i k : Nat) (s : Slot) (w : W), Passed e0 rs i k s → outs[k]? = some (some w) → ∃ v, σ[i]? = some (some v) ∧ vs[k]? = some v ∧ RelW X.K F' (priv G H σ e0 rs) H' v w ∧ (outE outs)[k]? = some (some ⟨0, w⟩) := by
      rintro i k s w ⟨p1, p2, p3⟩ ho
      obtain ⟨v, hvk, hrel⟩ := paired_get hv p1
      have he : (outE outs)[k]? = some (some ⟨0, w⟩) := by unfold outE; rw [List.getElem?_map, ho]; rfl
      obtain ⟨u, q1, q2, _⟩ := S'.slot k _ he
      rw [List.getElem?_map, hvk] at q1
      cases q1
      exact ⟨v, hrel, hvk, q2, he⟩
    have unpriv : ∀ {v : V} {w : W}, RelW X.K F' (priv G H σ e0 rs) H' v w → RelW X.K F' G H' v w := fun {v w} h => by
      cases w with
      | d x => exact h
      | o x =>
        obtain ⟨a, rfl, g1, g2, g3⟩ := h
        refine ⟨a, rfl, g1, ?_, g3⟩
        by_cases c : ∃ (i : Nat) (s : Slot), e0[i]? = some (some s) ∧ s.w.own = true ∧ (∀ k t, ¬ Passed e0 rs i k t) ∧ σ[i]? = some (some (.ref a))
        · obtain ⟨i, s, h1, h2, h3, h4⟩ := c
          obtain ⟨a', o, q, _, _, hH⟩ := slotA i s h1 h2
          rw [h4] at q; cases q
          rw [priv_in h1 h2 h3 h4, hH] at g2; cases g2
        · rw [priv_out c] at g2; exact g2
    refine ⟨⟨S'.fh, S'.fn, fun a o h => ?_, fun a h => ?_, by rw [setOuts_len]; exact S.len, fun i s' hs' => ?_, fun i j s' t' hij hs ht so to z => ?_⟩, fun i s' a hs so hq => ?_⟩
    · refine S'.gh a o ?_
      rw [priv_out]
      · exact h
      · rintro ⟨i, s, h1, h2, h3, h4⟩
        obtain ⟨a', o', q, _, hG, _⟩ := slotA i s h1 h2
        rw [h4] at q; cases q
        rw [hG] at h; cases h
    · refine S'.fg a ?_
      rw [priv_out]
      · exact h
      · rintro ⟨i, s, h1, h2, h3, h4⟩
        obtain ⟨a', o', q, _, hG, _⟩ := slotA i s h1 h2
        rw [h4] at q; cases q
        exact h hG
    · rcases setOuts_some rs outs hs' with ⟨hn, h0⟩ | ⟨k, s, w, p, ho, rfl⟩
      · obtain ⟨v, q1, q2, q3⟩ := S.slot i s' h0
        refine ⟨v, q1, ?_, q3⟩
        cases hw : s'.w with
        | d x => rw [hw] at q2; exact Rp.mono E' q2
        | o x =>
          rw [hw] at q2
          obtain ⟨a, rfl, g1, g2, g3⟩ := q2
          have hpv : priv G H σ e0 rs a = H a := priv_in h0 (by rw [hw]; rfl) hn q1
          obtain ⟨o, hH, _⟩ := g3.has
          rw [hH] at hpv
          have hH' := S'.gh a o hpv
          exact ⟨a, rfl, S'.fg a (by rw [hpv]; simp), g2, g3.mono E' (by rw [hH', hH])⟩
      · obtain ⟨v, q1, q2, q3, _⟩ := outK i k s w p ho
        obtain ⟨u, p1, _, p3⟩ := S.slot i s p.2.1
        rw [q1] at p1; cases p1
        exact ⟨v, q1, unpriv q3, p3⟩
    · rcases setOuts_some rs outs hs with ⟨hn, h0⟩ | ⟨k, s, w, p, ho, rfl⟩
      · rcases setOuts_some rs outs ht with ⟨hn', h0'⟩ | ⟨l, t, w', p', ho', rfl⟩
        · exact S.sep i j s' t' hij h0 h0' so to z
        · obtain ⟨v, q1, q2, q3, _⟩ := outK j l t w' p' ho'
          obtain ⟨a, o, rfl, _, g2, _⟩ := own_ref q3 to
          rw [q1] at z
          have hpv : priv G H σ e0 rs a = H a := priv_in h0 so hn z
          obtain ⟨a', o', q, _, _, hH⟩ := slotA i s' h0 so
          rw [z] at q; cases q
          rw [hpv, hH] at g2; cases g2
      · rcases setOuts_some rs outs ht with ⟨hn', h0'⟩ | ⟨l, t, w', p', ho', rfl⟩
        · obtain ⟨v, q1, q2, q3, _⟩ := outK i k s w p ho
          obtain ⟨a, o, rfl, _, g2, _⟩ := own_ref q3 so
          rw [q1] at z
          have hpv : priv G H σ e0 rs a = H a := priv_in h0' to hn' z.symm
          obtain ⟨a', o', q, _, _, hH⟩ := slotA j t' h0' to
          rw [← z] at q; cases q
          rw [hpv, hH] at g2; cases g2
        · obtain ⟨v, q1, q2, q3, q4⟩ := outK i k s w p ho
          obtain ⟨v', q1', q2', q3', q4'⟩ := outK j l t w' p' ho'
          have hkl : k ≠ l := by
            rintro rfl
            have := p.1
            rw [p'.1] at this
            cases this
            exact hij rfl
          refine S'.sep k l _ _ hkl q4 q4' so to ?_
          rw [List.getElem?_map, List.getElem?_map, q2, q2']
          rw [q1, q1'] at z
          cases z; rfl
    · rcases setOuts_some rs outs hs with ⟨hn, h0⟩ | ⟨k, s, w, p, ho, rfl⟩
      · left
        obtain ⟨a', o, q, _, _, hH⟩ := slotA i s' h0 so
        rw [hq] at q; cases q
        rw [priv_in h0 so hn hq, hH]; simp
      · obtain ⟨v, q1, q2, q3, q4⟩ := outK i k s w p ho
        rw [hq] at q1; cases q1
        exact .inr ⟨k, _, q4, so, by rw [List.getElem?_map, q2]; rfl⟩
  refine ⟨ws, by omega, S0, ?_⟩
  cases hf : f ws with
  | no => rw [hf] at hno; exact absurd rfl hno
  | ex c x outs =>
    rw [hf] at hx
    intro F' H' cls dd E' S' hxr
    rcases hx F' H' (setOuts e0 rs outs) c x cls dd E' (back outs F' H' E' S').1 hxr with h | h
    · exact h
    · exact absurd rfl h
  | ok r outs =>
    rw [hf] at hp
    intro F' H' v E' S' hr
    obtain ⟨S2, sepR⟩ := back outs F' H' E' S'
    have hr' : RelR X.K F' G H' σ (setOuts e0 rs outs) v r.r := by
      cases r with
      | d x => exact hr
      | o x =>
        obtain ⟨a, rfl, g1, g2, g3, g4⟩ := hr
        refine ⟨a, rfl, g1, ?_, g3, fun i s' hs so z => ?_⟩
        · by_cases c : ∃ (i : Nat) (s : Slot), e0[i]? = some (some s) ∧ s.w.own = true ∧ (∀ k t, ¬ Passed e0 rs i k t) ∧ σ[i]? = some (some (.ref a))
          · obtain ⟨i, s, h1, h2, h3, h4⟩ := c
            obtain ⟨a', o, q, _, _, hH⟩ := slotA i s h1 h2
            rw [h4] at q; cases q
            rw [priv_in h1 h2 h3 h4, hH] at g2; cases g2
          · rw [priv_out c] at g2; exact g2
        · rcases sepR i s' a hs so z with h | ⟨k, t, h1, h2, h3⟩
          · exact h g2
          · exact g4 k t h1 h2 h3
    rcases hp F' H' (setOuts e0 rs outs) r.r v E' S2 hr' with h | h
    · exact h
    · exact absurd rfl h

/-- the callee runs, its arguments bound -/
theorem run_G {k : Nat} {fa : Addr} {fd : FuncData} {pms : List Str} {sp : Sp} {E : St → XK} {pins : List (Addr × Obj)} {s : Shared} {Q : VK} {us full : List Value} {kw : List (Str × Value)} (D : FnG X.prog X.w X.K X.mg X.base k fa fd pms sp) (hgd : X.A.guards = some []) (hr : Room k X.A)
    (hx : PassesAt (L2.CX X.prog X.w) X σ (E σ)) (I : Inv X pins σ H s) (bnd : BindsTo s fd ⟨us, kw⟩ (pms.zip full)) (r : Vals vs full) (h : sp vs H Q (E σ)) : wpAny (model X.prog X.w) X.A (call (.ref fa) us kw) (EP X pins σ Q) X.xe s := by
  apply wpAny_call
  apply codeAny_mono (D.go hgd hr I.env0 bnd r h)
  rintro (e | fl) s' out
  · exact hx pins H s e s' I out
  · cases fl with
    | ret u => exact I.after out
    | next => exact out.elim
    | brk => exact out.elim
    | cont => exact out.elim
def tCallG (sp : Sp) (E : St → XK) (t : TA) : TE := fun σ H Q => t σ H fun vs H1 => sp vs H1 Q (E σ)
theorem pe_callG {k : Nat} {fa : Addr} {fd : FuncData} {pms : List Str} {sp : Sp} {E : St → XK} {x : Str} {p pos : Pos} {e : Expr} {es : List Expr} {t : TA} (D : FnG X.prog X.w X.K X.mg X.base k fa fd pms sp) (hgd : X.A.guards = some []) (hr : Room k X.A) (hg : Gl X x)
    (hm : X.mg x = some (.ref fa)) (hk : PySem.W.keepIn X.K (.ref fa) = true) (hb : Binds X.K fd pms []) (hx : ∀ σ, PassesAt (L2.CX X.prog X.w) X σ (E σ)) (ha : PA X (e :: es) t)
    (hdb : (x == ("__debug__" : Str)) = false) (he : starEach (e :: es) X.env = (false, eval e X.env) :: starEach es X.env) (hpl : (backTo pos (starEach es X.env)).any (·.1) = false) : PE X (.Call (.Name x p) (e :: es) [] pos) (tCallG sp E t) := by
  refine ⟨fun pins s σ H Q I h => wpAny_Call_Name_kw (ld_glob I hg hm (PySem.W.callWith_K (h₀ := X.base) I.ok.mod.kin hk (thn (ha.run pos pins s σ H _ I h) ?_) he hpl) hdb)⟩
  rintro us s1 ⟨vs, H1, I1, r, q⟩
  have b := hb s1 us I1.kIn (by rw [List.append_nil, ← r.length]; exact D.ln q)
  rw [List.append_nil] at b
  exact ⟨I1.kIn, run_G D hgd hr (hx σ) I1 b r q⟩

theorem mArgs_len : ∀ {ms : List (M R)} {env : Env'} {rs : List R} {e0 : Env'}, mArgs ms env = .ok rs e0 → rs.length = ms.length := by
  intro ms
  induction ms with
  | nil => intro env rs e0 h; cases h; rfl
  | cons m ms ih =>
    intro env rs e0 h
    unfold mArgs at h
    cases h1 : mP m env with
    | ex c x e => rw [h1] at h; cases h
    | no => rw [h1] at h; cases h
    | ok r e1 =>
      rw [h1] at h
      have h2 : ((mArgs ms e1).bind fun rs e' => Res.ok (r :: rs) e') = .ok rs e0 := h
      cases h3 : mArgs ms e1 with
      | ex c x e => rw [h3] at h2; cases h2
      | no => rw [h3] at h2; cases h2
      | ok rs' e2 => rw [h3] at h2; cases h2; exact congrArg Nat.succ (ih h3)
/-- the end of every call: what is wished for of exceptions, chosen by what the callee computes -/
theorem call_pick {f : FM} {Q : VK} (hp : Post X ps F G σ (fun r e' F' H' => ∀ v, RelR X.K F' G H' σ e' v r → Q v H') (callF f rs e0)) :
    ∃ W, Takes X W ∧ ∀ F1 H1 vs, Ext F F1 → Sta X.K ps F1 G H1 σ e0 → Paired (RelP X.K F1 σ) vs rs → spF rs.length X.mg X.K f vs H1 Q (WE W σ) := by
  have main : ∀ W : WX, Takes X W → (∀ c x e, callF f rs e0 = .ex c x e → ∀ cls dd F' H', Ext F F' → Sta X.K ps F' G H' σ e → ExR X F' H' cls dd c x → W cls dd σ H') →
      ∃ W, Takes X W ∧ ∀ F1 H1 vs, Ext F F1 → Sta X.K ps F1 G H1 σ e0 → Paired (RelP X.K F1 σ) vs rs → spF rs.length X.mg X.K f vs H1 Q (WE W σ) := fun W tk hW => by
    refine ⟨W, tk, fun F1 H1 vs E1 S hv => call_ok (X := X) S hv (fun F' H' e r v E' S' hr' => ?_) (fun F' H' e c y cls dd E' S' hx => ?_) (fun hno => ?_)⟩
    · by_cases hc : callF f rs e0 = .ok r e
      · rw [hc] at hp; exact .inl (hp F' H' (E1.trans E') S' v hr')
      · exact .inr hc
    · by_cases hc : callF f rs e0 = .ex c y e
      · exact .inl (hW c y e hc cls dd F' H' (E1.trans E') S' hx)
      · exact .inr hc
    · rw [hno] at hp; exact hp
  cases hc : callF f rs e0 with
  | no => rw [hc] at hp; exact hp.elim
  | ok r e => exact main _ takes0 fun c x e h => by rw [hc] at h; cases h
  | ex c y e =>
    rw [hc] at hp
    obtain ⟨W, tk, h⟩ := hp
    exact main W tk fun c' x' e' hh cls dd F' H' E' S' hx => by rw [hc] at hh; cases hh; exact h cls dd F' H' E' S' hx

theorem se_call {k : Nat} {x : Str} {f : FM} {st : Stmt} {pms : List Str} {p pos : Pos} {e : Expr} {es : List Expr} {m : M R} {ms : List (M R)} (D : FP X.prog X.w X.K X.mg X.base k x pms st f) (hl : pms.length = (m :: ms).length := by rfl) (hgd : X.A.guards = some []) (hr : Room k X.A) (hg : Gl X x) (ha : SA X (e :: es) (mArgs (m :: ms)))
    (hdb : (x == ("__debug__" : Str)) = false := by decide) (he : starEach (e :: es) X.env = (false, eval e X.env) :: starEach es X.env := by rfl) (hpl : (backTo pos (starEach es X.env)).any (·.1) = false := by rfl) :
    SE X (.Call (.Name x p) (e :: es) [] pos) (eCall f (m :: ms)) := fun ps F G H σ env Q S hp => by
  obtain ⟨fa, fd, qual, D1, hm, hk, _, hb⟩ := D.ex
  have go : ∀ W : WX, Takes X W → _ → tU X (.Call (.Name x p) (e :: es) [] pos) σ H Q := fun W tk h => ⟨_, pe_callG (E := WE W) D1 hgd hr hg hm hk hb (fun σ => passAt tk σ) paU hdb he hpl, h⟩
  unfold eCall at hp
  cases hma : mArgs (m :: ms) env with
  | no => rw [hma] at hp; exact hp.elim
  | ex c y e0 =>
    rw [hma] at hp
    refine go _ takes0 (ha ps F G H σ env _ S ?_)
    rw [hma]; exact hp
  | ok rs e0 =>
    rw [hma] at hp
    obtain ⟨W, tk, h⟩ := call_pick (X := X) hp
    refine go W tk (ha ps F G H σ env _ S ?_)
    rw [hma]
    intro F1 H1 E1 S1 vs hvs
    have := h F1 H1 vs E1 S1 hvs
    rw [mArgs_len hma, ← hl] at this
    exact this

/-! keywords -/
def taK (X : Cx) (kws : List Keyword) : TA := fun σ H Q => ∃ t, PK X kws t ∧ t σ H Q
theorem pkU {X : Cx} {kws : List Keyword} : PK X kws (taK X kws) := ⟨fun pos pins s σ H Q I ⟨_, h, q⟩ => h.run pos pins s σ H Q I q⟩
def SK (X : Cx) (kws : List Keyword) (m : M (List R)) : Prop := ∀ ps F G H σ env Q, Sta X.K ps F G H σ env →
  Post X ps F G σ (fun rs e' F' H' => ∀ vs, Paired (RelP X.K F' σ) vs rs → Q vs H') (m env) → taK X kws σ H Q
theorem sk_nil : SK X [] (mArgs []) := fun ps F G H σ env Q S hp => ⟨_, pk_nil, hp F H Ext.refl S [] .nil⟩
theorem sk_cons {e : Expr} {nm : Option Str} {kpos : Pos} {kws : List Keyword} {m : M R} {ms : List (M R)} (ha : SE X e m) (hr : SK X kws (mArgs ms)) : SK X (⟨nm, e, kpos⟩ :: kws) (mArgs (m :: ms)) := fun ps F G H σ env Q S hp => by
  refine ⟨_, pk_cons peU pkU, ha.useP S hp fun r e1 F1 H1 v E1 S1 hv hp1 => ?_⟩
  refine hr ps F1 G H1 σ e1 _ S1 (hp1.bind fun rs e2 F2 H2 E2 S2 hp2 vs hvs => ?_)
  exact hp2 F2 H2 Ext.refl S2 _ (.cons (hv.mono E2) hvs)
/-- the items at the places -/
def atL {α : Type} (ix : List Nat) (xs : List α) : List α := ix.filterMap (xs[·]?)
theorem atL_paired {α β : Type} {P : α → β → Prop} {xs : List α} {ys : List β} (h : Paired P xs ys) : ∀ ix : List Nat, Paired P (atL ix xs) (atL ix ys)
  | [] => .nil
  | i :: ix => by
    have ih := atL_paired h ix
    unfold atL at ih ⊢
    cases hy : ys[i]? with
    | some y =>
      obtain ⟨x, hx, r⟩ := paired_get h hy
      rw [List.filterMap_cons_some hx, List.filterMap_cons_some hy]
      exact .cons r ih
    | none =>
      have hx : xs[i]? = none := by
        rw [List.getElem?_eq_none_iff] at hy ⊢
        rw [paired_len h]; exact hy
      rw [List.filterMap_cons_none hx, List.filterMap_cons_none hy]
      exact ih
theorem atL_vals {xs : List V} {us : List Value} (h : Vals xs us) : ∀ ix : List Nat, Vals (atL ix xs) (atL ix us)
  | [] => .nil
  | i :: ix => by
    have ih := atL_vals h ix
    unfold atL at ih ⊢
    cases hx : xs[i]? with
    | some x =>
      obtain ⟨u, hu, r⟩ := h.get hx
      rw [List.filterMap_cons_some hx, List.filterMap_cons_some hu]
      exact .cons r ih
    | none =>
      have hu : us[i]? = none := by
        rw [List.getElem?_eq_none_iff] at hx ⊢
        rw [← h.length]; exact hx
      rw [List.filterMap_cons_none hx, List.filterMap_cons_none hu]
      exact ih
theorem paired_app {α β : Type} {P : α → β → Prop} {xs : List α} {ys : List β} (h : Paired P xs ys) {xs' : List α} {ys' : List β} (h' : Paired P xs' ys') : Paired P (xs ++ xs') (ys ++ ys') := by
  induction h with
  | nil => exact h'
  | cons r _ ih => exact .cons r ih
/-- the defs' arguments by name -/
def KwB (x : Str) (st : Stmt) (pms : List Str) (n : Nat) (ks : List Str) (ix : List Nat) : Prop := ∀ (qual : Str) (kV doc pm : Value) (an : Option Addr) (cdv ct : Value) (us ws : List Value), us.length = n → ws.length = ks.length →
  bindArgs (PySem.W.fnOf x qual (defArgs st) (defBody st) (defScope st) .none kV doc pm an cdv ct) ⟨us, ks.zip ws⟩ = pure (pms.zip (atL ix (us ++ ws)))
def tCallGK (n m : Nat) (ix : List Nat) (sp : Sp) (E : St → XK) (t tk : TA) : TE := fun σ H Q => t σ H fun vs H1 => tk σ H1 fun zs H2 => vs.length = n ∧ zs.length = m ∧ sp (atL ix (vs ++ zs)) H2 Q (E σ)
section
variable {k n : Nat} {fa : Addr} {qual : Str} {fd : FuncData} {pms ks : List Str} {ix : List Nat} {sp : Sp} {E : St → XK} {x : Str} {st : Stmt} {p pos : Pos} {e : Expr} {es : List Expr} {kws : List Keyword} {t tk : TA}
theorem kw_end (D : FnG X.prog X.w X.K X.mg X.base k fa fd pms sp) (hF : Fun X.K x qual st fa fd) (hgd : X.A.guards = some []) (hr : Room k X.A) (hb : KwB x st pms n ks ix) (hx : ∀ σ, PassesAt (L2.CX X.prog X.w) X σ (E σ)) (hkw : PK X kws tk)
    (hks : (backToKw pos (keywordEach kws X.env)).filterMap (·.1) = ks) {pins : List (Addr × Obj)} {s1 : Shared} {σ : St} {H1 : Hp} {Q : VK} {vs : List V} {us : List Value} (I1 : Inv X pins σ H1 s1) (r : Vals vs us) (q : tk σ H1 fun zs H2 => vs.length = n ∧ zs.length = ks.length ∧ sp (atL ix (vs ++ zs)) H2 Q (E σ)) :
      wpAny (model X.prog X.w) X.A (evalAll ((backToKw pos (keywordEach kws X.env)).map (·.2))) (fun ws s2 => X.K.In s2.heap ∧ wpAny (model X.prog X.w) X.A (call (.ref fa) us (((backToKw pos (keywordEach kws X.env)).filterMap (·.1)).zip ws)) (EP X pins σ Q) X.xe s2) X.xe s1 := by
  refine thn (hkw.run pos pins s1 σ H1 _ I1 q) ?_
  rintro ws s2 ⟨zs, H2, I2, rz, l1, l2, q2⟩
  rw [hks]
  obtain ⟨oc, od, kV, doc, pm, an, cdv, ct, osl, rfl, _, _⟩ := hF.ex
  have rr := atL_vals (r.append rz) ix
  exact ⟨I2.kIn, run_G D hgd hr (hx σ) I2 (.of_eq (hb qual kV doc pm an cdv ct us ws (r.length.symm.trans l1) (rz.length.symm.trans l2))) rr q2⟩
theorem pe_callGK (D : FnG X.prog X.w X.K X.mg X.base k fa fd pms sp) (hF : Fun X.K x qual st fa fd) (hgd : X.A.guards = some []) (hr : Room k X.A) (hg : Gl X x)
    (hm : X.mg x = some (.ref fa)) (hk : PySem.W.keepIn X.K (.ref fa) = true) (hb : KwB x st pms n ks ix) (hx : ∀ σ, PassesAt (L2.CX X.prog X.w) X σ (E σ)) (ha : PA X (e :: es) t) (hkw : PK X kws tk) (hall : (backToKw pos (keywordEach kws X.env)).all (·.1.isSome) = true)
    (hks : (backToKw pos (keywordEach kws X.env)).filterMap (·.1) = ks) (hdb : (x == ("__debug__" : Str)) = false) (he : starEach (e :: es) X.env = (false, eval e X.env) :: starEach es X.env)
    (hpl : ((backTo pos (starEach (e :: es) X.env)).any (·.1) || (backToKw pos (keywordEach kws X.env)).any (·.1.isNone)) = false) : PE X (.Call (.Name x p) (e :: es) kws pos) (tCallGK n ks.length ix sp E t tk) := by
  refine ⟨fun pins s σ H Q I h => wpAny_Call_Name_kw (ld_glob I hg hm ?_ hdb)⟩
  refine PySem.W.callWith_KW (h₀ := X.base) I.ok.mod.kin hk hall (thn (ha.run pos pins s σ H _ I h) ?_) hpl he
  rintro us s1 ⟨vs, H1, I1, r, q⟩
  exact kw_end D hF hgd hr hb hx hkw hks I1 r q
theorem pe_callGK0 (D : FnG X.prog X.w X.K X.mg X.base k fa fd pms sp) (hF : Fun X.K x qual st fa fd) (hgd : X.A.guards = some []) (hr : Room k X.A) (hg : Gl X x)
    (hm : X.mg x = some (.ref fa)) (hk : PySem.W.keepIn X.K (.ref fa) = true) (hb : KwB x st pms 0 ks ix) (hx : ∀ σ, PassesAt (L2.CX X.prog X.w) X σ (E σ)) (hkw : PK X kws tk) (hall : (backToKw pos (keywordEach kws X.env)).all (·.1.isSome) = true)
    (hks : (backToKw pos (keywordEach kws X.env)).filterMap (·.1) = ks) (hdb : (x == ("__debug__" : Str)) = false)
    (hpl : ((backTo pos (starEach [] X.env)).any (·.1) || (backToKw pos (keywordEach kws X.env)).any (·.1.isNone)) = false) : PE X (.Call (.Name x p) [] kws pos) (tCallGK 0 ks.length ix sp E tNil tk) := by
  refine ⟨fun pins s σ H Q I h => wpAny_Call_Name_kw (ld_glob I hg hm ?_ hdb)⟩
  refine PySem.W.callWith_KW0 (h₀ := X.base) I.ok.mod.kin hk hall ?_ hpl
  exact kw_end D hF hgd hr hb hx hkw hks I .nil h
end
def eCallK (f : FM) (ms mks : List (M R)) (ix : List Nat) : M R := fun env => (mArgs ms env).bind fun rs e => (mArgs mks e).bind fun qs e2 => callF f (atL ix (rs ++ qs)) e2
section
variable {k : Nat} {x : Str} {f : FM} {st : Stmt} {pms ks : List Str} {ix : List Nat} {p pos : Pos} {e : Expr} {es : List Expr} {kws : List Keyword} {m : M R} {ms mks : List (M R)}
theorem se_callK_aux {ex : Expr} {n : Nat} {t0 : TA} (D : FP X.prog X.w X.K X.mg X.base k x pms st f) (hl : ∀ rs : List R, rs.length = n + mks.length → (atL ix rs).length = pms.length) (hmn : ms.length = n) (hkn : mks.length = ks.length)
    (pe : ∀ fa fd qual, FnG X.prog X.w X.K X.mg X.base k fa fd pms (spF pms.length X.mg X.K f) → Fun X.K x qual st fa fd → X.mg x = some (.ref fa) → PySem.W.keepIn X.K (.ref fa) = true → ∀ W, Takes X W → PE X ex (tCallGK n ks.length ix (spF pms.length X.mg X.K f) (WE W) t0 (taK X kws)))
    (ha : ∀ ps F G H σ env Q, Sta X.K ps F G H σ env → Post X ps F G σ (fun rs e' F' H' => ∀ vs, Paired (RelP X.K F' σ) vs rs → Q vs H') (mArgs ms env) → t0 σ H Q) (hkw : SK X kws (mArgs mks)) : SE X ex (eCallK f ms mks ix) := fun ps F G H σ env Q S hp => by
  obtain ⟨fa, fd, qual, D1, hm, hk, hF, _⟩ := D.ex
  have go : ∀ W : WX, Takes X W → _ → tU X ex σ H Q := fun W tk h => ⟨_, pe fa fd qual D1 hF hm hk W tk, h⟩
  unfold eCallK at hp
  cases hma : mArgs ms env with
  | no => rw [hma] at hp; exact hp.elim
  | ex c y e0 =>
    rw [hma] at hp
    refine go _ takes0 (ha ps F G H σ env _ S ?_)
    rw [hma]; exact hp
  | ok rs e1 =>
    rw [hma] at hp
    have hp1 : Post X ps F G σ _ ((mArgs mks e1).bind fun qs e2 => callF f (atL ix (rs ++ qs)) e2) := hp
    cases hmk : mArgs mks e1 with
    | no => rw [hmk] at hp1; exact hp1.elim
    | ex c y e0 =>
      rw [hmk] at hp1
      refine go _ takes0 (ha ps F G H σ env _ S ?_)
      rw [hma]
      intro F1 H1 E1 S1 vs hvs
      refine hkw ps F1 G H1 σ e1 _ S1 ?_
      rw [hmk]
      exact Post.mono E1 hp1
    | ok qs e2 =>
      rw [hmk] at hp1
      obtain ⟨W, tk, h⟩ := call_pick (X := X) hp1
      refine go W tk (ha ps F G H σ env _ S ?_)
      rw [hma]
      intro F1 H1 E1 S1 vs hvs
      refine hkw ps F1 G H1 σ e1 _ S1 ?_
      rw [hmk]
      intro F2 H2 E2 S2 zs hzs
      have hh := h F2 H2 _ (E1.trans E2) S2 (atL_paired (paired_app (pairedP_mono E2 hvs) hzs) ix)
      have l1 := mArgs_len hma
      have l2 := mArgs_len hmk
      rw [hl (rs ++ qs) (by rw [List.length_append, l1, l2, hmn])] at hh
      exact ⟨by rw [paired_len hvs, l1, hmn], by rw [paired_len hzs, l2, hkn], hh⟩
theorem se_callK (D : FP X.prog X.w X.K X.mg X.base k x pms st f) (hb : KwB x st pms (m :: ms).length ks ix) (hl : ∀ rs : List R, rs.length = (m :: ms).length + mks.length → (atL ix rs).length = pms.length) (hkn : mks.length = ks.length) (hgd : X.A.guards = some []) (hr : Room k X.A) (hg : Gl X x)
    (ha : SA X (e :: es) (mArgs (m :: ms))) (hkw : SK X kws (mArgs mks)) (hall : (backToKw pos (keywordEach kws X.env)).all (·.1.isSome) = true := by rfl) (hks : (backToKw pos (keywordEach kws X.env)).filterMap (·.1) = ks := by rfl)
    (hdb : (x == ("__debug__" : Str)) = false := by decide) (he : starEach (e :: es) X.env = (false, eval e X.env) :: starEach es X.env := by rfl)
    (hpl : ((backTo pos (starEach (e :: es) X.env)).any (·.1) || (backToKw pos (keywordEach kws X.env)).any (·.1.isNone)) = false := by rfl) : SE X (.Call (.Name x p) (e :: es) kws pos) (eCallK f (m :: ms) mks ix) :=
  se_callK_aux D hl rfl hkn (fun fa fd qual D1 hF hm hk W tk => pe_callGK D1 hF hgd hr hg hm hk hb (fun σ => passAt tk σ) paU pkU hall hks hdb he hpl) ha hkw
theorem se_callK0 (D : FP X.prog X.w X.K X.mg X.base k x pms st f) (hb : KwB x st pms 0 ks ix) (hl : ∀ rs : List R, rs.length = 0 + mks.length → (atL ix rs).length = pms.length) (hkn : mks.length = ks.length) (hgd : X.A.guards = some []) (hr : Room k X.A) (hg : Gl X x)
    (hkw : SK X kws (mArgs mks)) (hall : (backToKw pos (keywordEach kws X.env)).all (·.1.isSome) = true := by rfl) (hks : (backToKw pos (keywordEach kws X.env)).filterMap (·.1) = ks := by rfl)
    (hdb : (x == ("__debug__" : Str)) = false := by decide)
    (hpl : ((backTo pos (starEach [] X.env)).any (·.1) || (backToKw pos (keywordEach kws X.env)).any (·.1.isNone)) = false := by rfl) : SE X (.Call (.Name x p) [] kws pos) (eCallK f [] mks ix) :=
  se_callK_aux (t0 := tNil) D hl rfl hkn (fun fa fd qual D1 hF hm hk W tk => pe_callGK0 D1 hF hgd hr hg hm hk hb (fun σ => passAt tk σ) pkU hall hks hdb hpl) (fun ps F G H σ env Q S hp => hp F H Ext.refl S [] .nil) hkw
end
end
end PL

namespace PL
open PySem PySem.Spec PyProof.Rows L2

/-! ### methods and stores that change a list of one's own -/
def ownL (i : Nat) (env : Env') : Option (Nat × List D) := match env[i]? with
  | some (some ⟨t, .o (.list ds)⟩) => some (t, ds)
  | _ => none
theorem ownL_some {i t : Nat} {env : Env'} {ds : List D} (h : ownL i env = some (t, ds)) : env[i]? = some (some ⟨t, .o (.list ds)⟩) := by
  unfold ownL at h
  split at h
  · rename_i hh; cases h; exact hh
  · cases h
/-- what a method does: contents, arguments to result, contents -/
abbrev Mt := List D → List D → Option (D × List D)
def eMut (f : Mt) (i : Nat) (ms : List (M R)) : M R := fun env => match ownL i env with
  | none => .no
  | some _ => (mDs ms env).bind fun as e => match ownL i e with
    | none => .no
    | some (t, ds) => match f ds as with
      | none => .no
      | some (r, ds') => .ok (.d r) (e.set i (some ⟨t, .o (.list ds')⟩))
/-- a rule for it -/
def MutR (X : Cx) (id : String) (f : Mt) : Prop := ∀ (F H : Hp) (a : Addr) (xs vs : List V) (ds as : List D) (r : D) (ds' : List D) (Q : VK), F a = none → Ext F H → H a = some (.lst xs) → Rps X.K F xs ds → Rps X.K F vs as → f ds as = some (r, ds') →
  (∀ w ys, Rp X.K F w r → Rps X.K F ys ds' → Q w (upd H a (.lst ys))) → ∃ t, MtR X id t ∧ t (.ref a) vs H Q
def mtU (X : Cx) (id : String) : V → List V → Hp → VK → Prop := fun x xs H Q => ∃ t, MtR X id t ∧ t x xs H Q
theorem mtU_ok {X : Cx} {id : String} : MtR X id (mtU X id) := fun pins s σ H x xs v us Q I rx rxs ⟨_, h, q⟩ => h pins s σ H x xs v us Q I rx rxs q
section
variable {X : Cx} {x : Str} {name : Str} {p apos cpos pos tpos : Pos} {e : Expr} {es : List Expr} {id : String} {f : Mt} {i : Nat} {m : M R} {ms : List (M R)}
theorem mut_end {ps : List V} {F G H : Hp} {σ : St} {env e1 : Env'} {Q : VK} (hm : MutR X id f) {t : Nat} {ds : List D} (S : Sta X.K ps F G H σ e1) (h1 : ownL i e1 = some (t, ds)) {as : List D} {vs : List V} (hv : Rps X.K F vs as) {a : Addr} (ha : σ[i]? = some (some (.ref a)))
    (hp : Post X ps F G σ (fun r e' F' H' => ∀ v, RelR X.K F' G H' σ e' v r → Q v H') (match f ds as with | none => .no | some (r, ds') => .ok (.d r) (e1.set i (some ⟨t, .o (.list ds')⟩)))) : mtU X id (.ref a) vs H Q := by
  have he := ownL_some h1
  obtain ⟨a', o, q1, hF, hG, hH, _, xs, hx, hr⟩ := S.own he rfl
  rw [ha] at q1; cases q1
  cases hf : f ds as with
  | none => rw [hf] at hp; exact hp.elim
  | some y =>
    obtain ⟨r, ds'⟩ := y
    rw [hf] at hp
    refine hm F H a xs vs ds as r ds' Q hF S.fh hx hr hv hf fun w ys hw hys => ?_
    exact hp F _ Ext.refl (S.write he rfl ha ⟨ys, upd_same, hys⟩) w hw
theorem tyV_own {ps : List V} {F G H : Hp} {σ : St} {env : Env'} {t : Nat} {ds : List D} (S : Sta X.K ps F G H σ env) (h : ownL i env = some (t, ds)) : ∃ a, σ[i]? = some (some (.ref a)) ∧ tyV X.K "list" (.ref a) H := by
  obtain ⟨a, o, q1, hF, hG, hH, _, xs, hx, hr⟩ := S.own (ownL_some h) rfl
  exact ⟨a, q1, .inl ⟨rfl, xs, .of hx⟩⟩
theorem se_mut (hm : MutR X id f) (slot : PySem.Slot "list" name id) (hty : typeOf (.builtin id) = pure (.type "method_descriptor")) (hx : PE X (.Name x p) (tVar i)) (ha : SDs X (e :: es) (mDs (m :: ms)))
    (hfew : ((backTo cpos (starEach (e :: es) X.env)).all (fun x => !x.1) && (backToKw cpos (keywordEach [] X.env)).all (fun x => x.1.isSome)
      && decide ((e :: es).length + ([] : List Keyword).length + (if ([] : List Keyword).isEmpty then 0 else 1) < 30)) = true := by rfl)
    (hbase : attributeBase (.Name x p) name X.env (eval (.Name x p) X.env) = eval (.Name x p) X.env := by rfl)
    (hline : (apos.endLine == cpos.line) = true := by rfl) (hs : starEach (e :: es) X.env = (false, eval e X.env) :: starEach es X.env := by rfl) (hplain : (backTo cpos (starEach es X.env)).any (·.1) = false := by rfl) :
    SE X (.Call (.Attribute (.Name x p) name apos) (e :: es) [] cpos) (eMut f i (m :: ms)) := fun ps F G H σ env Q S hp => by
  unfold eMut at hp
  cases h0 : ownL i env with
  | none => rw [h0] at hp; exact hp.elim
  | some z =>
    obtain ⟨t, ds⟩ := z
    rw [h0] at hp
    obtain ⟨a, ha0, ty⟩ := tyV_own S h0
    refine ⟨_, pe_bm PySem.F.plainAttrs_list slot hty mtU_ok hx paU hbase hfew hline hs hplain, .ref a, ha0, ty, ?_⟩
    refine ha ps F G H σ env _ S (Post.bind hp fun as e1 F1 H1 E1 S1 hk vs hvs hl => ?_)
    cases h1 : ownL i e1 with
    | none => rw [h1] at hk; exact hk.elim
    | some z =>
      obtain ⟨t', ds'⟩ := z
      rw [h1] at hk
      exact mut_end (env := env) hm S1 h1 hvs ha0 hk
theorem se_mut0 (hm : MutR X id f) (slot : PySem.Slot "list" name id) (hty : typeOf (.builtin id) = pure (.type "method_descriptor")) (hx : PE X (.Name x p) (tVar i))
    (hbase : attributeBase (.Name x p) name X.env (eval (.Name x p) X.env) = eval (.Name x p) X.env := by rfl)
    (hline : (apos.endLine == cpos.line) = true := by rfl) : SE X (.Call (.Attribute (.Name x p) name apos) [] [] cpos) (eMut f i []) := fun ps F G H σ env Q S hp => by
  unfold eMut at hp
  cases h0 : ownL i env with
  | none => rw [h0] at hp; exact hp.elim
  | some z =>
    obtain ⟨t, ds⟩ := z
    rw [h0] at hp
    obtain ⟨a, ha0, ty⟩ := tyV_own S h0
    refine ⟨_, pe_bm0 PySem.F.plainAttrs_list slot hty mtU_ok hx hbase hline, .ref a, ha0, ty, ?_⟩
    have e0 : mDs [] env = .ok [] env := rfl
    rw [e0] at hp
    simp only [Res.bind, h0] at hp
    exact mut_end (env := env) hm S h0 .nil ha0 hp
end
section
variable {X : Cx}
def appendF : Mt
  | ds, [d] => if lim (ds.length + 1) then some (.none, ds ++ [d]) else none
  | _, _ => none
theorem mut_append : MutR X "list.append" appendF := fun F H a xs vs ds as r ds' Q hF hE hx hr hv hf k => by
  match as, hv with
  | [d], .cons hd .nil =>
    simp only [appendF] at hf
    split at hf
    · rename_i hl
      cases hf
      refine ⟨_, mt_append, a, xs, _, rfl, rfl, hx, ?_, k _ _ .non (hr.append (.cons hd .nil))⟩
      have := lim_le hl
      rw [hr.length]; omega
    · cases hf
  | [], _ => cases hf
  | _ :: _ :: _, _ => cases hf
def popF : Mt
  | ds, [] => ds.getLast?.map fun d => (d, ds.dropLast)
  | ds, [.int i] => if lim ds.length then (ixN ds.length i).bind fun k => (ds[k]?).map fun d => (d, ds.eraseIdx k) else none
  | _, _ => none
theorem Rps.dropLast {K : KF} {F : Hp} : ∀ {vs : List V} {ds : List D}, Rps K F vs ds → Rps K F vs.dropLast ds.dropLast
  | _, _, .nil => .nil
  | _, _, .cons _ .nil => .nil
  | _, _, .cons r (.cons q t) => .cons r (Rps.dropLast (.cons q t))
theorem mut_pop : MutR X "list.pop" popF := fun F H a xs vs ds as r ds' Q hF hE hx hr hv hf k => by
  match as, hv with
  | [], .nil =>
    simp only [popF] at hf
    obtain ⟨d, hd, e⟩ := Option.map_eq_some_iff.mp hf
    cases e
    rw [List.getLast?_eq_getElem?] at hd
    obtain ⟨v, h1, h2⟩ := hr.get hd
    exact ⟨_, mt_pop, a, xs, v, rfl, rfl, hx, by rw [hr.length]; exact h1, k _ _ h2 hr.dropLast⟩
  | [.int i], .cons (.int _) .nil =>
    simp only [popF] at hf
    split at hf
    · rename_i hl
      obtain ⟨j, hj, h⟩ := Option.bind_eq_some_iff.mp hf
      obtain ⟨d, hd, e⟩ := Option.map_eq_some_iff.mp h
      cases e
      obtain ⟨v, h1, h2⟩ := hr.get hd
      have hl := lim_le hl
      have h63 := line63
      obtain ⟨g1, g2, g3, g4⟩ := ixN_seq hj
      exact ⟨_, mt_popAt, a, xs, i, j, v, rfl, rfl, hx, by omega, by omega, by rw [hr.length]; exact g1, h1, k _ _ h2 (hr.eraseIdx j)⟩
    · cases hf
end
end PL

namespace PL
open PySem PySem.Spec PyProof.Rows L2

/-! ### x[i] = e -/
def putD (kvs : List (D × D)) (k : Key) (y : D) : List (D × D) :=
  if kvs.any (fun p => decide (keyOfD p.1 = some k)) then kvs.map (fun p => if keyOfD p.1 = some k then (p.1, y) else p) else kvs ++ [(keyD k, y)]
theorem Rks.any {K : KF} {F : Hp} {k : Key} : ∀ {kv : List (Key × V)} {kvs : List (D × D)}, Rks K F kv kvs → (kvs.any fun p => decide (keyOfD p.1 = some k)) = kv.any fun p => decide (p.1 = k)
  | _, _, .nil => rfl
  | _, _, .cons r t => by
    rw [List.any_cons, List.any_cons, Rks.any t]
    simp only [keyOfD_keyD, Option.some.injEq]
theorem Rks.app {K : KF} {F : Hp} : ∀ {kv kw : List (Key × V)} {kvs kws : List (D × D)}, Rks K F kv kvs → Rks K F kw kws → Rks K F (kv ++ kw) (kvs ++ kws)
  | _, _, _, _, .nil, s => s
  | _, _, _, _, .cons r t, s => .cons r (Rks.app t s)
theorem Rks.repl {K : KF} {F : Hp} {k : Key} {v : V} {y : D} (r : Rp K F v y) : ∀ {kv : List (Key × V)} {kvs : List (D × D)}, Rks K F kv kvs →
    Rks K F (kv.map fun p => if p.1 = k then (p.1, v) else p) (kvs.map fun p => if keyOfD p.1 = some k then (p.1, y) else p)
  | _, _, .nil => .nil
  | _, _, .cons (k := k') q t => by
    rw [List.map_cons, List.map_cons]
    simp only [keyOfD_keyD, Option.some.injEq]
    by_cases e : k' = k
    · rw [if_pos e, if_pos e]; exact .cons r (Rks.repl r t)
    · rw [if_neg e, if_neg e]; exact .cons q (Rks.repl r t)
theorem Rks.put {K : KF} {F : Hp} {k : Key} {v : V} {y : D} (r : Rp K F v y) {kv : List (Key × V)} {kvs : List (D × D)} (h : Rks K F kv kvs) : Rks K F (putK kv k v) (putD kvs k y) := by
  unfold putK putD
  rw [h.any]
  split
  · exact h.repl r
  · exact h.app (.cons r .nil)
theorem Rks.length {K : KF} {F : Hp} : ∀ {kv : List (Key × V)} {kvs : List (D × D)}, Rks K F kv kvs → kv.length = kvs.length
  | _, _, .nil => rfl
  | _, _, .cons _ t => congrArg Nat.succ (Rks.length t)
def stD : D → D → D → Option D
  | .list ds, .int j, y => (ixN ds.length j).map fun n => .list (ds.set n y)
  | .dict kvs, k, y => if lim (kvs.length + 1) then (keyOfD k).map fun q => .dict (putD kvs q y) else none
  | _, _, _ => none
def stAt (i : Nat) (y k : D) (e2 : Env') : Res Fl := match e2[i]? with
  | some (some ⟨t, .o x⟩) => match stD x k y with
    | some x' => .ok .nx (e2.set i (some ⟨t, .o x'⟩))
    | none => .no
  | _ => .no
def eSubSt (i : Nat) (mi me : M R) : M Fl := fun env => (mD me env).bind fun y e => match e[i]? with
  | some (some _) => (mD mi e).bind fun k e2 => stAt i y k e2
  | _ => .no
def setU (X : Cx) : TSet := fun o i v H Q => ∃ t, PSet X t ∧ t o i v H Q
theorem setU_ok {X : Cx} : PSet X (setU X) := fun pins s σ H o i v ov iv u Q I ro ri rv ⟨_, h, q⟩ => h pins s σ H o i v ov iv u Q I ro ri rv q
theorem ownG {X : Cx} {ps : List V} {F G H : Hp} {σ : St} {env : Env'} (S : Sta X.K ps F G H σ env) {i t : Nat} {x : D} (h : env[i]? = some (some ⟨t, .o x⟩)) : ∃ a, σ[i]? = some (some (.ref a)) ∧ F a = none ∧ G a = none ∧ OwnAt X.K F H a x := by
  obtain ⟨a, o, q1, hF, hG, hH, _, ho⟩ := S.own h rfl
  exact ⟨a, q1, hF, hG, ho⟩
theorem stD_ok {X : Cx} (hu : X.A.units + 1 < cLine) {ps : List V} {F G H : Hp} {σ : St} {env : Env'} (S : Sta X.K ps F G H σ env) {a : Addr} {x k y x' : D} {vk vy : V} {Q : Hp → Prop} (ho : OwnAt X.K F H a x) (hk : Rp X.K F vk k) (hy : Rp X.K F vy y)
    (h : stD x k y = some x') (kk : ∀ o, OwnAt X.K F (upd H a o) a x' → Q (upd H a o)) : setU X (.ref a) vk vy H Q := by
  cases x <;> first | (cases h; done) | skip
  · rename_i ds
    cases k <;> first | (cases h; done) | skip
    rename_i j
    obtain ⟨n, hn, e⟩ := Option.map_eq_some_iff.mp h
    cases e
    cases hk
    obtain ⟨xs, hx, r⟩ := ho
    exact ⟨_, set_list, a, xs, j, n, rfl, rfl, hx, by rw [r.length]; exact hn, kk _ ⟨_, upd_same, r.set hy n⟩⟩
  · rename_i kvs
    have h' : (if lim (kvs.length + 1) then (keyOfD k).map fun q => PyData.dict (putD kvs q y) else none) = some x' := by cases k <;> exact h
    split at h'
    · rename_i hl
      obtain ⟨q, hq, e⟩ := Option.map_eq_some_iff.mp h'
      cases e
      obtain ⟨kv, hx, r⟩ := ho
      have ek : vk = kV q := by
        cases k <;> first | (cases hq; done) | skip
        · cases hq; cases hk; rfl
        · cases hq; cases hk; rfl
      subst ek
      have := lim_le hl
      refine ⟨_, set_dict hu, a, _, rfl, .k hx (by rw [r.length]; omega), kk _ ⟨_, upd_same, r.put hy⟩⟩
    · cases h'
section
variable {X : Cx} {pos pos' tpos p : Pos} {e ie : Expr} {me mi : M R} {i : Nat} {x : Str}
theorem ss_sub (hu : X.A.units + 1 < cLine) (hx : PE X (.Name x p) (tVar i)) (hi : SE X ie mi) (he : SE X e me)
    (ha : ∀ v, assign (.Subscript (.Name x p) ie tpos) X.env v = (do
      let ov ← holding [v] (eval (.Name x p) X.env)
      let iv ← holding [v, ov] (eval ie X.env)
      standAt tpos
      holding [v, ov, iv] (setItem ov iv v)
      release [v, ov, iv] []) := by intro _; rfl)
    (hs : swapsWithSole [.Subscript (.Name x p) ie tpos] e pos.line X.env = pure false := by rfl) (hw : swappedStores [.Subscript (.Name x p) ie tpos] e X.env = pure none := by rfl)
    (h1 : (assignEach [.Subscript (.Name x p) ie tpos] X.env).map (·.2) = [assign (.Subscript (.Name x p) ie tpos) X.env] := by rfl) : SS X (.Assign [.Subscript (.Name x p) ie tpos] e pos) (eSubSt i mi me) := fun ps F G H σ env Dn S hp => by
  refine ⟨_, ps_asg peU (pg_sub hx peU setU_ok ha) hs hw h1, ?_⟩
  refine he.useDG S hp fun y e1 F1 H1 vy E1 S1 hy hk1 => ?_
  split at hk1
  case h_2 => exact hk1.elim
  rename_i z hz
  obtain ⟨v, hv, _⟩ := S1.slot i z hz
  refine ⟨v, hv, ?_⟩
  refine hi.useDG S1 hk1 fun k e2 F2 H2 vk E2 S2 hk hk2 => ?_
  unfold stAt at hk2
  split at hk2
  · rename_i t z hz
    split at hk2
    · rename_i x' hx'
      obtain ⟨a, q1, hF, hG, ho⟩ := ownG S2 hz
      have hv' := hv
      rw [q1] at hv'; cases hv'
      exact stD_ok hu S2 ho hk (hy.mono E2) hx' fun o ho' => hk2 F2 _ σ Ext.refl (S2.write hz rfl q1 ho')
    · exact hk2.elim
  · exact hk2.elim
end

/-! ### x op= e, ints -/
def augI : Operator → Int → Int → Option Int
  | .Add, i, j => some (i + j)
  | .Sub, i, j => some (i - j)
  | .Mult, i, j => if (-(2 ^ 64) < i ∧ i < 2 ^ 64) ∨ (-(2 ^ 64) < j ∧ j < 2 ^ 64) then some (i * j) else none
  | .BitAnd, i, j => some (Builtin.bitAnd i j)
  | .BitOr, i, j => some (Builtin.bitOr i j)
  | .BitXor, i, j => some (Builtin.bitXor i j)
  | _, _, _ => none
theorem augI_ok {X : Cx} : ∀ {op : Operator} {i j k : Int} {H : Hp} {Q : VK}, augI op i j = some k → Q (.int k) H → ∃ t, PIp X op t ∧ t (.int i) (.int j) H Q := by
  intro op i j k H Q h q
  cases op <;> simp only [augI] at h <;> first | (cases h; done) | skip
  · cases h; exact ⟨_, iop_add, i, j, rfl, rfl, q⟩
  · cases h; exact ⟨_, iop_sub, i, j, rfl, rfl, q⟩
  · split at h
    · rename_i hc; cases h; exact ⟨_, iop_mul, i, j, rfl, rfl, hc, q⟩
    · cases h
  · cases h; exact ⟨_, iop_or, i, j, rfl, rfl, q⟩
  · cases h; exact ⟨_, iop_xor, i, j, rfl, rfl, q⟩
  · cases h; exact ⟨_, iop_and, i, j, rfl, rfl, q⟩
def pipU (X : Cx) (op : Operator) : TIp := fun x y H Q => ∃ t, PIp X op t ∧ t x y H Q
theorem pipU_ok {X : Cx} {op : Operator} : PIp X op (pipU X op) := fun pins s σ H x y v u Q I rx ry ⟨_, h, q⟩ => h pins s σ H x y v u Q I rx ry q
def sAug (op : Operator) (i : Nat) (m : M R) : M Fl := fun env => match env[i]? with
  | some (some ⟨_, .d (.int a)⟩) => (mP m env).bind fun r e => match get r e with
    | some (.int b) => match augI op a b with
      | some c => .ok .nx (e.set i (some ⟨0, .d (.int c)⟩))
      | none => .no
    | _ => .no
  | _ => .no
section
variable {X : Cx} {pos pos' : Pos} {e : Expr} {m : M R} {i : Nat} {x : Str} {op : Operator}
theorem ss_aug (hN : X.N.Nodup) (hi : X.N[i]? = some x) (hx : Loc X.env.scope x) (he : SE X e m) (hf : X.fn x = true ∨ X.env.scope.names.lookup x = some .local := by first | exact .inl rfl | exact .inr rfl) :
    SS X (.AugAssign (.Name x pos') op e pos) (sAug op i m) := fun ps F G H σ env Dn S hp => by
  unfold sAug at hp
  split at hp
  · rename_i t a hs
    obtain ⟨v, hv, rv, _⟩ := S.slot i _ hs
    cases rv
    refine ⟨_, ps_aug hN hi hx peU pipU_ok hf, _, hv, ?_⟩
    refine he.usePG S hp fun r e1 F1 H1 v E1 S1 hr hk => ?_
    split at hk
    · rename_i b hb
      split at hk
      · rename_i c hc
        obtain rfl := (hr.rq S1 hb).int
        exact augI_ok hc (hk F1 H1 _ Ext.refl (S1.storeD (.int c) i))
      · exact hk.elim
    · exact hk.elim
  · exact hp.elim
end

/-! ### a, b, .. = e, f, .. : items that are new stay one's own -/
def toW : R → Option W
  | .d x => some (.d x)
  | .new x => some (.o x)
  | .at _ => none
def mWs : List (M R) → M (List W)
  | [] => fun e => .ok [] e
  | m :: ms => fun env => (mW m env).bind fun r e => match toW r with
    | some w => (mWs ms e).bind fun ws e' => .ok (w :: ws) e'
    | none => .no
def NotIn (v : V) (vs : List V) (ws : List W) : Prop := ∀ (k : Nat) (x : D), ws[k]? = some (.o x) → vs[k]? ≠ some v
inductive Pend (K : KF) (F G H : Hp) (σ : St) (env : Env') : List V → List W → Prop
  | nil : Pend K F G H σ env [] []
  | d {v : V} {x : D} {vs : List V} {ws : List W} : Rp K F v x → Pend K F G H σ env vs ws → Pend K F G H σ env (v :: vs) (.d x :: ws)
  | o {v : V} {x : D} {vs : List V} {ws : List W} : RelR K F G H σ env v (.new x) → NotIn v vs ws → Pend K F G H σ env vs ws → Pend K F G H σ env (v :: vs) (.o x :: ws)
section
variable {K : KF} {ps : List V} {F F' G H : Hp} {σ : St} {env : Env'}
theorem Pend.length {vs : List V} {ws : List W} (h : Pend K F G H σ env vs ws) : vs.length = ws.length := by
  induction h with
  | nil => rfl
  | d _ _ ih => exact congrArg Nat.succ ih
  | o _ _ _ ih => exact congrArg Nat.succ ih
theorem Pend.own {vs : List V} {ws : List W} (h : Pend K F G H σ env vs ws) : ∀ {k : Nat} {x : D}, ws[k]? = some (.o x) → ∃ v, vs[k]? = some v ∧ RelR K F G H σ env v (.new x) := by
  induction h with
  | nil => intro k x e; simp at e
  | d _ _ ih =>
    intro k x e
    cases k with
    | zero => simp at e
    | succ k => exact ih (k := k) (by simpa using e)
  | o r _ _ ih =>
    intro k x e
    cases k with
    | zero => simp at e; subst e; exact ⟨_, rfl, r⟩
    | succ k => exact ih (k := k) (by simpa using e)
theorem Sta.ungrow {a : Addr} {o : HO} (hG : G a = none) (S : Sta K ps F (upd G a o) H σ env) : Sta K ps F G H σ env where
  fh := S.fh
  fn := S.fn
  gh := fun b u h => S.gh b u (by rw [upd_ne (by rintro rfl; rw [hG] at h; cases h)]; exact h)
  fg := fun b h => S.fg b (by rw [upd_ne (by rintro rfl; exact h hG)]; exact h)
  len := S.len
  slot := fun i s h => by
    obtain ⟨v, q1, q2, q3⟩ := S.slot i s h
    refine ⟨v, q1, ?_, q3⟩
    cases hw : s.w with
    | d x => rw [hw] at q2; exact q2
    | o x =>
      rw [hw] at q2
      obtain ⟨b, rfl, g1, g2, g3⟩ := q2
      have hb : b ≠ a := by rintro rfl; rw [upd_same] at g2; cases g2
      exact ⟨b, rfl, g1, by rw [upd_ne hb] at g2; exact g2, g3⟩
  sep := S.sep
/-- a new object is put among the private ones -/
theorem Sta.hold {a : Addr} {o : HO} {x : D} (S : Sta K ps F G H σ env) (r : RelR K F G H σ env (.ref a) (.new x)) (h : H a = some o) : Sta K ps F (upd G a o) H σ env where
  fh := S.fh
  fn := S.fn
  gh := fun b u h' => by
    by_cases e : b = a
    · subst e; rw [upd_same] at h'; cases h'; exact h
    · rw [upd_ne e] at h'; exact S.gh b u h'
  fg := fun b h' => by
    by_cases e : b = a
    · subst e; obtain ⟨_, e, hF, _⟩ := r; cases e; exact hF
    · rw [upd_ne e] at h'; exact S.fg b h'
  len := S.len
  slot := fun i s h' => by
    obtain ⟨v, q1, q2, q3⟩ := S.slot i s h'
    refine ⟨v, q1, ?_, q3⟩
    cases hw : s.w with
    | d x => rw [hw] at q2; exact q2
    | o x =>
      rw [hw] at q2
      obtain ⟨b, rfl, g1, g2, g3⟩ := q2
      obtain ⟨_, e, _, _, _, ns⟩ := r
      cases e
      have hb : b ≠ a := by rintro rfl; exact ns i s h' (by rw [hw]; rfl) q1
      exact ⟨b, rfl, g1, by rw [upd_ne hb]; exact g2, g3⟩
  sep := S.sep
end
def SWs (X : Cx) (es : List Expr) (m : M (List W)) : Prop := ∀ ps F G H σ env Q, Sta X.K ps F G H σ env →
  Post X ps F G σ (fun ws e' F' H' => ∀ vs, Pend X.K F' G H' σ e' vs ws → vs.length = es.length → Q vs H') (m env) → taU X es σ H Q
section
variable {X : Cx} {pos : Pos} {e : Expr} {es : List Expr} {m : M R} {ms : List (M R)}
theorem sws_nil : SWs X [] (mWs []) := fun ps F G H σ env Q S hp => ⟨_, pa_nil, hp F H Ext.refl S [] .nil rfl⟩
theorem sws_cons (ha : SE X e m) (hr : SWs X es (mWs ms)) (hs : starEach (e :: es) X.env = (false, eval e X.env) :: starEach es X.env := by rfl) : SWs X (e :: es) (mWs (m :: ms)) := fun ps F G H σ env Q S hp => by
  refine ⟨_, pa_cons peU paU hs, ha.useW S hp fun r e1 F1 H1 v E1 S1 hv hn hp1 => ?_⟩
  cases r with
  | «at» i => exact (hn i rfl).elim
  | d x =>
    refine hr ps F1 G H1 σ e1 _ S1 (Post.bind hp1 fun ws e2 F2 H2 E2 S2 hp2 vs hvs hl => ?_)
    exact hp2 F2 H2 Ext.refl S2 _ (.d (Rp.mono E2 hv) hvs) (congrArg Nat.succ hl)
  | new x =>
    obtain ⟨a, rfl, hF, hG, ho, ns⟩ := hv
    obtain ⟨o, hH, _⟩ := ho.has
    have S1' := S1.hold ⟨a, rfl, hF, hG, ho, ns⟩ hH
    refine hr ps F1 (upd G a o) H1 σ e1 _ S1' ?_
    have hp1' : Post X ps F1 G σ (fun ws e' F' H' => ∀ vs, Pend X.K F' G H' σ e' vs ws → vs.length = (e :: es).length → Q vs H') ((mWs ms e1).bind fun ws e' => .ok (.o x :: ws) e') := hp1
    cases hm : mWs ms e1 with
    | no => rw [hm] at hp1'; exact hp1'.elim
    | ex c y e2 =>
      rw [hm] at hp1'
      obtain ⟨W, tk, h⟩ := hp1'
      exact ⟨W, tk, fun cls dd F' H' E' S' q => h cls dd F' H' E' (S'.ungrow hG) q⟩
    | ok ws e2 =>
      rw [hm] at hp1'
      intro F2 H2 E2 S2 vs hvs hl
      have hH2 : H2 a = some o := S2.gh a o upd_same
      have hF2 : F2 a = none := S2.fg a (by rw [upd_same]; simp)
      -- nothing behind is at a
      have ne : ∀ b, (upd G a o) b = none → b ≠ a ∧ G b = none := fun b h => by
        have hb : b ≠ a := by rintro rfl; rw [upd_same] at h; cases h
        exact ⟨hb, by rw [upd_ne hb] at h; exact h⟩
      refine hp1' F2 H2 E2 (S2.ungrow hG) _ (.o ⟨a, rfl, hF2, hG, ho.mono E2 (by rw [hH2, hH]), fun i s hs so z => ?_⟩ (fun k y hk z => ?_) ?_) (congrArg Nat.succ hl)
      · obtain ⟨v, q1, q2, _⟩ := S2.slot i s hs
        obtain ⟨b, u, rfl, g1, g2, g3⟩ := own_ref q2 so
        rw [q1] at z; cases z
        exact (ne _ g2).1 rfl
      · obtain ⟨v, h1, b, rfl, _, g2, _⟩ := hvs.own hk
        rw [h1] at z; cases z
        exact (ne _ g2).1 rfl
      · clear hl hm hp1'
        induction hvs with
        | nil => exact .nil
        | d r _ ih => exact .d r ih
        | o r n _ ih =>
          obtain ⟨b, rfl, g1, g2, g3, g4⟩ := r
          exact .o ⟨b, rfl, g1, (ne _ g2).2, g3, g4⟩ n ih
end
/-! the stores -/
def slotOf : W → Slot
  | .d x => ⟨0, .d x⟩
  | .o x => ⟨0, .o x⟩
def asgWs : List Nat → List W → Env' → Option Env'
  | [], [], e => some e
  | i :: is, w :: ws, e => asgWs is ws (e.set i (some (slotOf w)))
  | _, _, _ => none
def SGW (X : Cx) (tgs : List Expr) (is : List Nat) : Prop := ∀ ps F G H σ env vs ws env' Q, Sta X.K ps F G H σ env → Pend X.K F G H σ env vs ws → asgWs is ws env = some env' →
  (∀ σ', Sta X.K ps F G H σ' env' → Q σ' H) → tgsU X tgs vs σ H Q
section
variable {X : Cx} {pos : Pos} {e : Expr} {es : List Expr} {i : Nat} {is : List Nat} {x : Str}
theorem sgw_nil : SGW X [] [] := fun ps F G H σ env vs ws env' Q S r ha k => by
  cases r with
  | nil => cases ha; exact ⟨_, pgs_nil, rfl, k σ S⟩
  | d _ _ => cases ha
  | o _ _ _ => cases ha
theorem Pend.setD {ps : List V} {F G H : Hp} {σ : St} {env : Env'} {v : V} {vs : List V} {ws : List W} (S : Sta X.K ps F G H σ env) (h : Pend X.K F G H σ env vs ws) (w : W) (hw : w.own = true → NotIn v vs ws) : Pend X.K F G H (σ.set i (some v)) (env.set i (some (slotOf w))) vs ws := by
  induction h with
  | nil => exact .nil
  | d r _ ih => exact .d r (ih fun o k y hk => by simpa using hw o (k + 1) y (by simpa using hk))
  | o r n _ ih =>
    refine .o ?_ n (ih fun o k y hk => by simpa using hw o (k + 1) y (by simpa using hk))
    obtain ⟨b, rfl, g1, g2, g3, g4⟩ := r
    refine ⟨b, rfl, g1, g2, g3, fun j s hs so z => ?_⟩
    rw [set_get] at hs z
    by_cases e : i = j
    · subst e
      rw [if_pos rfl] at hs z
      split at hs
      · cases hs
        have ho : w.own = true := by cases w <;> exact so
        split at z
        · have := hw ho 0 _ rfl
          simp at this
          cases z
          exact this rfl
        · cases z
      · cases hs
    · rw [if_neg e] at hs z
      exact g4 j s hs so z
theorem sgw_cons (hN : X.N.Nodup) (hi : X.N[i]? = some x) (hx : Loc X.env.scope x) (h2 : SGW X es is) (hs : (assignEach (.Name x pos :: es) X.env).map (·.2) = assign (.Name x pos) X.env :: (assignEach es X.env).map (·.2) := by rfl)
    (hf : X.fn x = true ∨ X.env.scope.names.lookup x = some .local := by first | exact .inl rfl | exact .inr rfl) : SGW X (.Name x pos :: es) (i :: is) := fun ps F G H σ env vs ws env' Q S r ha k => by
  cases r with
  | nil => cases ha
  | d r rr =>
    exact ⟨_, pgs_cons (pg_name hN hi hx hf) pgU' hs, _, _, rfl, h2 ps F G H _ _ _ _ env' _ (S.storeD r i) (rr.setD (i := i) S (.d _) fun o => nomatch o) ha k⟩
  | o r n rr =>
    exact ⟨_, pgs_cons (pg_name hN hi hx hf) pgU' hs, _, _, rfl, h2 ps F G H _ _ _ _ env' _ (S.storeO r i) (rr.setD (i := i) S (.o _) fun _ => n) ha k⟩
def sPar (is : List Nat) (ms : List (M R)) : M Fl := fun env => (mWs ms env).bind fun ws e => match asgWs is ws e with
  | some e' => .ok .nx e'
  | none => .no
theorem Pend.alloc {ps : List V} {F G H : Hp} {σ : St} {env : Env'} {vs : List V} {ws : List W} {p : Addr} {o : HO} (S : Sta X.K ps F G H σ env) (hp : H p = none) (h : Pend X.K F G H σ env vs ws) : Pend X.K F G (upd H p o) σ env vs ws := by
  induction h with
  | nil => exact .nil
  | d r _ ih => exact .d r ih
  | o r n _ ih =>
    obtain ⟨b, rfl, g1, g2, g3, g4⟩ := r
    have hb : b ≠ p := by rintro rfl; obtain ⟨_, h, _⟩ := g3.has; rw [hp] at h; cases h
    exact .o ⟨b, rfl, g1, g2, g3.mono Ext.refl (upd_ne hb), g4⟩ n ih
theorem asgWs_len : ∀ {is : List Nat} {ws : List W} {e e' : Env'}, asgWs is ws e = some e' → is.length = ws.length
  | [], [], _, _, _ => rfl
  | _ :: is, _ :: ws, _, _, h => congrArg Nat.succ (asgWs_len (is := is) (ws := ws) h)
  | [], _ :: _, _, _, h => by cases h
  | _ :: _, [], _, _, h => by cases h
theorem ss_par {ms : List (M R)} {tgs : List Expr} {j j' : Nat} {tpos vpos : Pos} (hc : X.calm = true) (ha : SWs X es (mWs ms)) (hg : SGW X tgs is) (hl : es.length ≤ 10000 := by decide) (hl2 : tgs.length = es.length := by rfl)
    (hn : (assignEach tgs X.env).length = es.length := by rfl) (hst : (assignEach tgs X.env).findIdx? (·.1) = none := by rfl)
    (hs : swapsWithSole [.Tuple tgs j tpos] (.Tuple es j' vpos) pos.line X.env = pure false := by rfl) (hw : swappedStores [.Tuple tgs j tpos] (.Tuple es j' vpos) X.env = pure none := by rfl)
    (h1 : (assignEach [.Tuple tgs j tpos] X.env).map (·.2) = [assign (.Tuple tgs j tpos) X.env] := by rfl) : SS X (.Assign [.Tuple tgs j tpos] (.Tuple es j' vpos) pos) (sPar is ms) := fun ps F G H σ env Dn S hp => by
  refine ⟨_, ps_asg (pe_tup paU) (pg_tup hc pgU' hn hst) hs hw h1, ?_⟩
  refine ha ps F G H σ env _ S ((PostG.at hp σ).imp fun ws e1 F1 H1 E1 S1 hk vs hvs hvl => ⟨by rw [hvl]; exact Nat.le_trans hl (by rw [sizeLine_eq]; decide), fun p hpn => ?_⟩)
  refine ⟨p, vs, rfl, .inl (.inl upd_same), hvl, ?_⟩
  cases ha2 : asgWs is ws e1 with
  | none => rw [ha2] at hk; exact hk.elim
  | some e' =>
    rw [ha2] at hk
    have S2 := S1.alloc (o := .tup vs) hpn
    exact hg ps F1 G _ σ e1 vs ws e' _ S2 (hvs.alloc S1 hpn) ha2 fun σ' S' => hk F1 _ σ' Ext.refl S'
end
end PL

namespace PL
open PySem PySem.Spec PyProof.Rows L2

/-! ### sets of nested keys: what is asked of a key -/
section
variable {P : Program} {w : World}
mutual
theorem classless_key : ∀ (k : NestedKey) (v : Value) (n : Nat) (s : Shared) (A : Around) (E : Value → Shared → Prop) (Q : Bool → Shared → Prop), NestedIs s.heap k v → k.depth ≤ n → Q false s → wpAny (model P w) A (ofAClassStatement n v) Q E s
  | .none, _, n, s, A, E, Q, x, _, q => by cases x; cases n <;> exact wpAny_pure q
  | .num _, _, n, s, A, E, Q, x, _, q => by cases x <;> cases n <;> exact wpAny_pure q
  | .text _, _, n, s, A, E, Q, x, _, q => by cases x; cases n <;> exact wpAny_pure q
  | .tup ks, _, n, s, A, E, Q, x, hn, q => by
    cases x with
    | @tup a o vs m _ hg hc hd hk =>
      simp only [NestedKey.depth] at hn
      cases n with
      | zero => omega
      | succ n =>
        unfold ofAClassStatement
        refine wpAny_bind (wpAny_typeOf ⟨o, hg, hc⟩ ?_)
        dsimp only
        have e : (("tuple" : String) == "tuple") = true := by decide
        simp only [e, if_true]
        refine wpAny_bind (wpAny_pure ?_)
        simp only [Bool.not_true, Bool.false_eq_true, if_false]
        show wpAny _ _ (seqItems? (.ref a) >>= _) _ _ s
        refine wpAny_bind (wpAny_seqItems hg hd ?_)
        dsimp only
        refine wpAny_bind ?_
        show wpAny _ _ (forIn vs _ _) _ _ s
        rw [← Array.forIn_toList]
        refine wpAny_forIn_list _ (fun rest r s' => r.1 = none ∧ s' = s ∧ ∀ v ∈ rest, v ∈ vs.toList) _ ?_ ?_ _ _ ⟨rfl, rfl, fun _ h => h⟩
        · rintro v rest r s' ⟨hr, rfl, hall⟩
          refine wpAny_bind (classless_keys ks vs.toList n s' _ _ hk (by omega) v (hall v (List.mem_cons_self ..)) _ ?_)
          simp only [Bool.false_eq_true, if_false]
          exact wpAny_pure ⟨rfl, rfl, fun u hu => hall u (List.mem_cons_of_mem _ hu)⟩
        · rintro ⟨r1, r2⟩ s' ⟨hr, rfl, _⟩
          simp only at hr
          subst hr
          exact wpAny_pure q
theorem classless_keys : ∀ (ks : List NestedKey) (vs : List Value) (n : Nat) (s : Shared) (A : Around) (E : Value → Shared → Prop), NestedAll s.heap ks vs → NestedKey.depthAll ks ≤ n → ∀ v, v ∈ vs → ∀ (Q : Bool → Shared → Prop), Q false s → wpAny (model P w) A (ofAClassStatement n v) Q E s
  | [], _, n, s, A, E, x, _, v, hv, Q, q => by cases x; cases hv
  | k :: ks, _, n, s, A, E, x, hn, v, hv, Q, q => by
    cases x with
    | cons x1 x2 =>
      simp only [NestedKey.depthAll] at hn
      rcases List.mem_cons.mp hv with e | hv
      · rw [e]; exact classless_key k _ n s A E Q x1 (by omega) q
      · exact classless_keys ks _ n s A E x2 (by omega) v hv Q q
end
mutual
/-- its hash is told by values alone, or not: nothing else happens -/
theorem valued_key : ∀ (k : NestedKey) (v : Value) (n : Nat) (s : Shared), NestedIs s.heap k v → k.depth ≤ n → ∀ (A : Around) (E : Value → Shared → Prop) (Q : Bool → Shared → Prop), (∀ b, Q b s) → wpAny (model P w) A (hashByValue n v) Q E s
  | .none, _, n, s, x, _ => by cases x; intro A E Q q; cases n <;> exact wpAny_pure (q _)
  | .num _, _, n, s, x, _ => by cases x <;> intro A E Q q <;> cases n <;> exact wpAny_pure (q _)
  | .text _, _, n, s, x, _ => by cases x; intro A E Q q; cases n <;> exact wpAny_pure (q _)
  | .tup ks, _, n, s, x, hn => by
    intro A E Q q
    cases x with
    | @tup a o vs m _ hg hc hd hk =>
      simp only [NestedKey.depth] at hn
      cases n with
      | zero => omega
      | succ n =>
        unfold hashByValue
        refine wpAny_bind (wpAny_specialOf ⟨o, hg, hc⟩ F.slot_tuple_hash.lookup ?_)
        show wpAny _ _ (seqItems? (.ref a) >>= _) _ _ s
        refine wpAny_bind (wpAny_seqItems hg hd ?_)
        refine wpAny_bind ?_
        show wpAny _ _ (forIn vs _ _) _ _ s
        rw [← Array.forIn_toList]
        have all := valued_keys ks vs.toList n s hk (by omega)
        refine wpAny_forIn_list _ (fun rest r s' => s' = s ∧ (r.1 = none ∨ ∃ b, r.1 = some b) ∧ ∀ v ∈ rest, v ∈ vs.toList) _ ?_ ?_ _ _ ⟨rfl, .inl rfl, fun _ h => h⟩
        · rintro v rest r s' ⟨rfl, hr, hall⟩
          refine wpAny_bind (all v (hall v (List.mem_cons_self ..)) _ _ _ fun b => ?_)
          cases b with
          | true =>
            simp only [Bool.not_true, Bool.false_eq_true, if_false]
            exact wpAny_pure ⟨rfl, .inl rfl, fun u hu => hall u (List.mem_cons_of_mem _ hu)⟩
          | false =>
            simp only [Bool.not_false, if_true]
            exact wpAny_pure (show wpAny (model P w) A (pure false) Q E _ from wpAny_pure (q _))
        · rintro ⟨r1, r2⟩ s' ⟨rfl, hr, _⟩
          rcases hr with hr | ⟨b, hr⟩
          · simp only at hr
            subst hr
            exact wpAny_pure (q _)
          · simp only at hr
            subst hr
            exact wpAny_pure (q _)
theorem valued_keys : ∀ (ks : List NestedKey) (vs : List Value) (n : Nat) (s : Shared), NestedAll s.heap ks vs → NestedKey.depthAll ks ≤ n → ∀ v, v ∈ vs → ∀ (A : Around) (E : Value → Shared → Prop) (Q : Bool → Shared → Prop), (∀ b, Q b s) → wpAny (model P w) A (hashByValue n v) Q E s
  | [], _, n, s, x, _, v, hv => by cases x; cases hv
  | k :: ks, _, n, s, x, hn, v, hv => by
    cases x with
    | cons x1 x2 =>
      simp only [NestedKey.depthAll] at hn
      rcases List.mem_cons.mp hv with e | hv
      · rw [e]; exact valued_key k _ n s x1 (by omega)
      · exact valued_keys ks _ n s x2 (by omega) v hv
end
end
end PL

namespace PL
open PySem PySem.Spec PyProof.Rows L2

/-! ### a set's table, over whatever stands in it -/
structure TabR (w : World) (h : Heap) (a : Addr) (es : Array (Int × Value)) (ep : Nat) (t : SetTable) : Prop where
  at_ : ∃ o, h.get? a = some o ∧ o.ExactSet ∧ o.data = .set es ep t
  tab : TabOk t (es.toList.map (·.1))
  led : w.params.followText "set-order" = true ∨ t.led = true
  room : es.size * 5 < t.mask * 3
  few : es.size < 64
section
variable {P : Program} {w : World} {A : Around} {E : Value → Shared → Prop} {s : Shared} {a : Addr} {es : Array (Int × Value)} {ep : Nat} {t : SetTable}
theorem TabR.fits (R : TabR w s.heap a es ep t) : t.fits es.size = true := by
  have h1 := R.tab.sz
  have h3 := R.room
  simp only [List.length_map, Array.length_toList] at h1
  unfold SetTable.fits SetTable.fill
  rw [R.tab.dm, h1]
  simp
  omega
theorem TabR.gw (R : TabR w s.heap a es ep t) : ¬ t.gaveWay = true := by
  unfold SetTable.gaveWay
  rw [mask_odd R.tab.mok]
  decide
/-- what a search for x of hash h may rely on: y == x tells b, and it shows nothing -/
structure Asks (P : Program) (w : World) (A : Around) (E : Value → Shared → Prop) (s : Shared) (es : Array (Int × Value)) (x : Value) (h : Int) (b : Value → Bool) : Prop where
  eq : ∀ e, e ∈ es.toList → e.1 = h → ∀ Q : Bool → Shared → Prop, Q (b e.2) s → wpAny (model P w) A (eqBool e.2 x) Q E s
  ref : ∀ e, e ∈ es.toList → ∃ c, e.2 = .ref c
  mute : ∀ ys : List Value, (∀ y, y ∈ ys → ∃ e, e ∈ es.toList ∧ y = e.2) → ∀ Q : Bool → Shared → Prop, Q false s → wpAny (model P w) A (searchCouldBeSeen x ys) Q E s
abbrev Pth (t : SetTable) (h : Int) (c : Nat) : SetTable.Probe := nth t.mask (runAt t.mask (SetTable.bits h % (t.mask + 1)) (SetTable.bits h)) c
theorem pth_dummy (t : SetTable) (h : Int) (c : Nat) : (Pth t h c).dummy = none := by
  have go : ∀ (n : Nat) (p : SetTable.Probe), p.dummy = none → (nth t.mask p n).dummy = none := by
    intro n
    induction n with
    | zero => exact fun p h => h
    | succ n ih =>
      intro p h
      apply ih (adv t.mask p)
      unfold adv
      split <;> exact h
  exact go c _ rfl
theorem pth_add (t : SetTable) (h : Int) (c q : Nat) : nth t.mask (Pth t h c) q = Pth t h (c + q) := (nth_add t.mask c _ q).symm
/-- the search, from the c-th step of its path on: no equal one was passed -/
theorem probe_on (R : TabR w s.heap a es ep t) {x : Value} {h : Int} {b : Value → Bool} (K : Asks P w A E s es x h b) {m : Nat} (hm : m < 10 * SetTable.turns t.mask) (free : way t.mask h m ∉ t.place.toList) (full : ∀ c, c < m → way t.mask h c ∈ t.place.toList) {Q : SetFound → Shared → Prop}
    (yes : (∃ e, e ∈ es.toList ∧ e.1 = h ∧ b e.2 = true) → Q (.there none) s) (no : (∀ e, e ∈ es.toList → e.1 = h → b e.2 = false) → Q (.free (way t.mask h m) false) s) :
    ∀ (n c : Nat) (st : Option SetTable.Probe), st.getD (t.probeStart h) = Pth t h c → c ≤ m → m - c < n →
      (∀ (i : Nat) e, es.toList[i]? = some e → e.1 = h → b e.2 = true → ∃ c', c ≤ c' ∧ c' < m ∧ t.place.toList[i]? = some (way t.mask h c')) →
      wpAny (model P w) A (setSearchFrom a x h true n st) Q E s := by
  intro n
  induction n with
  | zero => intro c st _ _ z; omega
  | succ n ih =>
    intro c st hst hc hn ahead
    obtain ⟨o, ho, hex, hd⟩ := R.at_
    rw [setSearchFrom_succ]
    apply wpAny_bind
    apply wpAny_setState_of ho hd R.fits
    dsimp only
    apply wp_if_neg R.gw
    try apply wpAny_bind
    try apply wpAny_pure
    have jAt : ∀ q, (nth t.mask (Pth t h c) q).j = way t.mask h (c + q) := fun q => congrArg SetTable.Probe.j (pth_add t h c q)
    have hm' : c + (m - c) = m := by omega
    have spec := go_spec t R.tab.ris R.tab.dm (fun i => (es[i]?.map (·.1)).getD 0) h (10 * SetTable.turns t.mask) (m - c) _ (pth_dummy t h c) (by omega) (fun q hq => by rw [jAt]; exact full _ (by omega)) (by rw [jAt, hm']; exact free)
    have hAt : ∀ (i : Nat) e, es.toList[i]? = some e → (fun i => (es[i]?.map (·.1)).getD 0) i = e.1 := fun i e he => by
      rw [Array.getElem?_toList] at he
      show (es[i]?.map (·.1)).getD 0 = _
      rw [he]; rfl
    rcases spec with ⟨q, i, hq, hi, hh, before, eq⟩ | ⟨never, eq⟩
    · rw [jAt] at hi
      have eq' : t.probe (fun i => (es[i]?.map (·.1)).getD 0) h (st.getD (t.probeStart h)) = some (.candidate (way t.mask h (c + q)) i (Pth t h (c + (q + 1)))) := by
        rw [hst, ← jAt, ← pth_add]; exact eq
      rw [eq']
      dsimp only
      -- the entry that has the hash
      have hlen := R.tab.sz
      simp only [List.length_map, Array.length_toList] at hlen
      have hil : i < es.toList.length := by
        have := (List.getElem?_eq_some_iff.mp hi).1
        simp only [Array.length_toList] at this ⊢
        omega
      obtain ⟨e, he⟩ : ∃ e, es.toList[i]? = some e := ⟨_, List.getElem?_eq_getElem hil⟩
      have heA : es[i]? = some e := by rw [← Array.getElem?_toList]; exact he
      have hmem := List.mem_of_getElem? he
      have he1 : e.1 = h := (hAt i e he).symm.trans hh
      obtain ⟨y, hy⟩ := K.ref e hmem
      have after : wpAny (model P w) A (searchRest a x h true n es t (way t.mask h (c + q)) i (Pth t h (c + (q + 1)))) Q E s := by
        unfold searchRest
        rw [heA]
        dsimp only
        apply wpAny_bind
        apply wpAny_holding
        apply K.eq e hmem he1
        apply wpAny_bind
        apply wpAny_setState_of ho hd R.fits
        dsimp only
        cases hb : b e.2 with
        | true =>
          apply wp_if_pos (by simp)
          exact wpAny_pure (yes ⟨e, hmem, he1, hb⟩)
        | false =>
          apply wp_if_neg (by simp)
          try apply wpAny_bind
          try apply wpAny_pure
          rw [sameMem]
          dsimp only
          have hsl : t.slot (way t.mask h (c + q)) = .live i := slot_live R.tab.ris hi
          simp only [if_true, hsl, heA]
          rw [hy]
          apply wpAny_bind
          apply wpAny_isSame_ref_self
          apply wpAny_bind
          apply wpAny_pure
          simp only [if_true]
          apply wp_if_neg (by simp)
          refine ih (c + (q + 1)) _ rfl (by omega) (by omega) fun j f hj f1 fb => ?_
          obtain ⟨c', a1, a2, a3⟩ := ahead j f hj f1 fb
          refine ⟨c', ?_, a2, a3⟩
          rcases Nat.lt_trichotomy c' (c + q) with z | z | z
          · exact absurd ((hAt j f hj).trans f1) (before (c' - c) j (by omega) (by rw [jAt, show c + (c' - c) = c' by omega]; exact a3))
          · rw [z] at a3
            have s0 := slot_live R.tab.ris a3
            rw [hsl] at s0
            injection s0 with s0
            rw [← s0, he] at hj
            cases hj
            rw [hb] at fb; cases fb
          · omega
      by_cases hl : t.led = true
      · apply wp_if_neg (by simp [hl])
        try apply wpAny_bind
        try apply wpAny_pure
        exact after
      · apply wp_if_pos (by simp [hl])
        apply wpAny_bind
        apply K.mute
        · intro y' hy'
          obtain ⟨f, hf, ee⟩ := List.mem_map.mp hy'
          exact ⟨f, by simpa using (show f ∈ es ∧ f.1 = h by simpa using hf).1, ee.symm⟩
        · apply wp_if_neg (by decide)
          try apply wpAny_bind
          try apply wpAny_pure
          exact after
    · have eq' : t.probe (fun i => (es[i]?.map (·.1)).getD 0) h (st.getD (t.probeStart h)) = some (.empty (way t.mask h m) none) := by
        rw [hst, show way t.mask h m = (nth t.mask (Pth t h c) (m - c)).j by rw [jAt, hm']]; exact eq
      rw [eq']
      dsimp only
      refine wpAny_pure (no fun e hmem e1 => ?_)
      cases hb : b e.2 with
      | false => rfl
      | true =>
        obtain ⟨i, hi, ei⟩ := List.getElem_of_mem hmem
        have hg : es.toList[i]? = some e := by rw [List.getElem?_eq_getElem hi, ei]
        obtain ⟨c', a1, a2, a3⟩ := ahead i e hg e1 hb
        exact absurd ((hAt i e hg).trans e1) (never (c' - c) i (by omega) (by rw [jAt, show c + (c' - c) = c' by omega]; exact a3))
theorem probe_all (R : TabR w s.heap a es ep t) {x : Value} {h : Int} {b : Value → Bool} (K : Asks P w A E s es x h b) {Q : SetFound → Shared → Prop}
    (yes : (∃ e, e ∈ es.toList ∧ e.1 = h ∧ b e.2 = true) → Q (.there none) s)
    (no : ∀ m, (∀ e, e ∈ es.toList → e.1 = h → b e.2 = false) → way t.mask h m ∉ t.place.toList → (∀ c, c < m → way t.mask h c ∈ t.place.toList) → Q (.free (way t.mask h m) false) s) :
    wpAny (model P w) A (setSearch a x h true) Q E s := by
  have hroom := R.room
  obtain ⟨m, hm, free, full⟩ := R.tab.first (by simp only [List.length_map, Array.length_toList]; omega) h
  have small : m < 100000 := by
    have : 10 * SetTable.turns t.mask ≤ 1420 := by
      unfold SetTable.turns
      rcases R.tab.mok with e | e | e <;> omega
    omega
  unfold setSearch
  refine probe_on R K hm free full yes (fun n => no m n free full) 100000 0 none rfl (Nat.zero_le _) (by omega) fun i e he e1 _ => ?_
  have hlen := R.tab.sz
  simp only [List.length_map, Array.length_toList] at hlen
  have hil : i < t.place.toList.length := by
    have := (List.getElem?_eq_some_iff.mp he).1
    simp only [Array.length_toList] at this ⊢
    omega
  have hj := List.getElem?_eq_getElem hil
  obtain ⟨c, hc, ee⟩ := R.tab.before free (by rw [List.getElem?_map, he, ← e1]; rfl) hj
  exact ⟨c, Nat.zero_le _, hc, by rw [hj, ee]⟩
end
end PL

namespace PL
open PySem PySem.Spec PyProof.Rows L2

theorem fm_get {α β : Type} (g : α → β) (d : β) (xs : List α) : ∀ (l : List Nat), (∀ i, i ∈ l → i < xs.length) → (l.filterMap (xs[·]?)).map g = l.map fun i => ((xs.map g)[i]?).getD d
  | [], _ => rfl
  | i :: l, h => by
    have hi := h i (List.mem_cons_self ..)
    have e : xs[i]? = some xs[i] := List.getElem?_eq_getElem hi
    rw [List.filterMap_cons_some (b := xs[i]) e, List.map_cons, List.map_cons, fm_get g d xs l fun j hj => h j (List.mem_cons_of_mem _ hj)]
    simp [e]
theorem fm_range {α : Type} (xs : List α) : (List.range xs.length).filterMap (xs[·]?) = xs := by
  have key : ∀ n, n ≤ xs.length → (List.range n).filterMap (xs[·]?) = xs.take n := by
    intro n
    induction n with
    | zero => intro _; rfl
    | succ n ih =>
      intro h
      have e : xs[n]? = some xs[n] := List.getElem?_eq_getElem h
      rw [List.range_succ, List.filterMap_append, ih (Nat.le_of_lt h), List.take_succ, e]
      simp [e]
  rw [key _ (Nat.le_refl _), List.take_length]
theorem arr_getD {α : Type} (xs : Array α) (i : Nat) (d : α) : xs.getD i d = (xs.toList[i]?).getD d := by
  rw [Array.getD_eq_getD_getElem?, Array.getElem?_toList]
section
variable {P : Program} {w : World} {A : Around} {E : Value → Shared → Prop} {s : Shared} {a : Addr} {es : Array (Int × Value)} {ep : Nat} {t : SetTable}
/-- laid anew, larger -/
theorem tab_relay {o : Obj} (ho : s.heap.get? a = some o) (hex : o.ExactSet) (hd : o.data = .set es ep t) (hsz : t.place.size = es.size) (hdm : t.dummies = #[]) (hfl : es.size ≤ t.mask) (ld : w.params.followText "set-order" = true ∨ t.led = true) (few : es.size < 64)
    {wanted M : Nat} (hw : SetTable.sizeAbove wanted - 1 = M) (hM : MaskOk M) (hw2 : SetTable.sizeAbove wanted ≤ 128) (hn : es.size * 5 < M * 3) {Q : Unit → Shared → Prop}
    (hQ : ∀ h' es' ep' t', Heap.SameBut a s.heap h' → TabR w h' a es' ep' t' → es'.toList.Perm es.toList → Q () { s with heap := h' }) : wpAny (model P w) A (setRelay a wanted) Q E s := by
  have hfits : t.fits es.size = true := by
    unfold SetTable.fits SetTable.fill
    rw [hdm, hsz]
    simp
    omega
  obtain ⟨t', order, e, hp, T, em, el, ep', ed⟩ := relaid_ok t (hs := es.map (·.1)) (wanted := wanted) hw hM (by rw [Array.size_map]; omega)
  rw [Array.size_map] at hp
  have inB : ∀ i, i ∈ order.toList → i < es.toList.length := fun i hi => by simpa using List.mem_range.mp (hp.mem_iff.mp hi)
  have lst : (order.filterMap (es[·]?)).toList = order.toList.filterMap (es.toList[·]?) := by
    rw [Array.toList_filterMap]
    congr 1
    funext i
    rw [Array.getElem?_toList]
  have prm : (order.filterMap (es[·]?)).toList.Perm es.toList := by
    rw [lst]
    have h1 := hp.filterMap (es.toList[·]?)
    have h2 := fm_range es.toList
    rw [Array.length_toList] at h2
    rw [h2] at h1
    exact h1
  have hs2 : (order.filterMap (es[·]?)).size = es.size := by
    have := prm.length_eq
    rwa [Array.length_toList, Array.length_toList] at this
  have T' : TabOk t' ((order.filterMap (es[·]?)).toList.map (·.1)) := by
    rw [lst, fm_get (·.1) 0 es.toList order.toList inB]
    have ee : (order.toList.map fun i => (es.map (·.1)).getD i 0) = order.toList.map fun i => ((es.toList.map (·.1))[i]?).getD 0 := by
      apply List.map_congr_left
      intro i _
      rw [arr_getD, Array.toList_map]
    rw [← ee]; exact T
  rw [setRelay_eq]
  apply wpAny_bind
  apply wpAny_setState_of ho hd hfits
  dsimp only
  apply wp_if_neg (by rw [sizeLine_eq]; omega)
  try (refine wpAny_bind (wpAny_pure ?_))
  rw [e]
  dsimp only
  apply wpAny_bind
  apply wp_if_neg (by rw [hs2]; simp)
  try (refine wpAny_bind (wpAny_pure ?_))
  apply wpAny_pure
  dsimp only
  refine wpAny_storeSet_of ho hd ?_ (by rw [hs2, sizeLine_eq]; omega)
  refine hQ _ _ (ep + 1) t' (Heap.SameBut.update ..) ⟨⟨_, store_at ho hd, ⟨hex.1, hex.2.1, hex.2.2⟩, rfl⟩, T', by rw [el]; exact ld, by rw [hs2, em]; exact hn, by rw [hs2]; exact few⟩ prm

theorem tab_add (R : TabR w s.heap a es ep t) {x : Addr} {h : Int} {b : Value → Bool} (K : Asks P w A E s es (.ref x) h b) (val : ∀ (A : Around) (E : Value → Shared → Prop) (Q : Bool → Shared → Prop), (∀ b, Q b s) → wpAny (model P w) A (hashByValue 8 (.ref x)) Q E s) (few : es.size + 1 < 64) {Q : Bool → Shared → Prop}
    (hQ : ∀ c h' es' ep' t', Heap.SameBut a s.heap h' → TabR w h' a es' ep' t' → ((∃ e, e ∈ es.toList ∧ e.1 = h ∧ b e.2 = true) → es' = es) →
      ((∀ e, e ∈ es.toList → e.1 = h → b e.2 = false) → es'.toList.Perm ((h, .ref x) :: es.toList)) → Q c { s with heap := h' }) :
    wpAny (model P w) A (setAddHashed a (.ref x) h) Q E s := by
  obtain ⟨o, ho, hex, hd⟩ := R.at_
  have hroom := R.room
  unfold setAddHashed
  apply wpAny_holding
  rw [show (100000 : Nat) = 99999 + 1 from rfl, setAddHashedIn_succ]
  apply wpAny_bind
  apply wpAny_setState_of ho hd R.fits
  dsimp only
  apply wp_if_neg (by simp [byScan, Value.scannable])
  try (refine wpAny_bind (wpAny_pure ?_))
  apply wpAny_bind
  refine probe_all R K (fun hm => ?_) fun m hm free full => ?_
  · dsimp only
    refine wpAny_pure (hQ false s.heap es ep t (Heap.SameBut.refl a s.heap) R (fun _ => rfl) fun z => ?_)
    obtain ⟨e, h1, h2, h3⟩ := hm
    rw [z e h1 h2] at h3; cases h3
  · dsimp only
    apply wpAny_bind
    apply wpAny_setState_of ho hd R.fits
    dsimp only
    obtain ⟨q1, q2, q3, q4, q5, q6, q7, q8, q9⟩ := R.tab.put free full
    generalize hpt : t.put (way t.mask h m) = pt at q1 q3 q4 q5 q6 q7 q8 q9 ⊢
    obtain ⟨t1, p⟩ := pt
    dsimp only at q1 q3 q4 q5 q6 q7 q8 q9 ⊢
    subst q1
    -- whatever the table is told of texts, the rest is the same
    have go : ∀ t2 : SetTable, TabOk t2 (es.toList.map (·.1) |>.take (SetTable.below t.place (way t.mask h m)) |>.append (h :: (es.toList.map (·.1)).drop (SetTable.below t.place (way t.mask h m)))) → t2.mask = t.mask → t2.led = t.led → t2.fill = es.size + 1 →
        wpAny (model P w) A (do
          storeSet a (SetTable.insertAt es (SetTable.below t.place (way t.mask h m)) (h, .ref x)) t2
          if (!false && t2.tooFull) = true then do
            setRelay a (SetTable.grown (es.size + 1))
            pure true
          else pure true) Q E s := by
      intro t2 k3 k4 k5 k9
      have lst : (SetTable.insertAt es (SetTable.below t.place (way t.mask h m)) (h, Value.ref x)).toList = es.toList.take (SetTable.below t.place (way t.mask h m)) ++ (h, Value.ref x) :: es.toList.drop (SetTable.below t.place (way t.mask h m)) := SetTable.toList_insertAt _ _ _
      have prm := put_perm es.toList (SetTable.below t.place (way t.mask h m)) (h, Value.ref x)
      rw [← lst] at prm
      have hsz : (SetTable.insertAt es (SetTable.below t.place (way t.mask h m)) (h, Value.ref x)).size = es.size + 1 := by
        have := prm.length_eq
        rwa [List.length_cons, Array.length_toList, Array.length_toList] at this
      have T2 : TabOk t2 ((SetTable.insertAt es (SetTable.below t.place (way t.mask h m)) (h, Value.ref x)).toList.map (·.1)) := by
        rw [lst, List.map_append, List.map_cons, List.map_take, List.map_drop]; exact k3
      generalize SetTable.insertAt es (SetTable.below t.place (way t.mask h m)) (h, Value.ref x) = es1 at prm hsz T2 ⊢
      apply wpAny_bind
      refine wpAny_storeSet_of ho hd ?_ (by rw [hsz, sizeLine_eq]; omega)
      have sb : Heap.SameBut a s.heap (s.heap.update a (Obj.putSet es1 t2)) := Heap.SameBut.update ..
      have ho1 := store_at (es' := es1) (t' := t2) ho hd
      generalize s.heap.update a (Obj.putSet es1 t2) = h1 at sb ho1 ⊢
      have ld1 : w.params.followText "set-order" = true ∨ t2.led = true := by rw [k5]; exact R.led
      have pl1 : t2.place.size = es1.size := by simpa using T2.sz
      have absurd1 : ∀ {es' : Array (Int × Value)}, (∃ e, e ∈ es.toList ∧ e.1 = h ∧ b e.2 = true) → es' = es := fun {es'} ⟨e, z1, z2, z3⟩ => by rw [hm e z1 z2] at z3; cases z3
      by_cases hf : t2.tooFull = true
      · apply wp_if_pos (by simp [hf])
        apply wpAny_bind
        have hfull : (es.size + 1) * 5 ≥ t2.mask * 3 := by
          have h := hf
          unfold SetTable.tooFull at h
          rw [decide_eq_true_eq, k9] at h
          exact h
        have two : (t.mask = 7 ∧ es.size = 4) ∨ (t.mask = 31 ∧ es.size = 18) := by
          rcases R.tab.mok with e | e | e
          · rw [k4, e] at hfull; rw [e] at hroom; exact .inl ⟨e, by omega⟩
          · rw [k4, e] at hfull; rw [e] at hroom; exact .inr ⟨e, by omega⟩
          · rw [k4, e] at hfull; omega
        have fin : ∀ M, SetTable.sizeAbove (SetTable.grown (es.size + 1)) - 1 = M → MaskOk M → SetTable.sizeAbove (SetTable.grown (es.size + 1)) ≤ 128 → (es.size + 1) * 5 < M * 3 →
            wpAny (model P w) A (setRelay a (SetTable.grown (es.size + 1))) (fun _ s' => wpAny (model P w) A (pure true) Q E s') E { s with heap := h1 } := fun M z1 z2 z3 z4 => by
          refine tab_relay (s := { s with heap := h1 }) ho1 ⟨hex.1, hex.2.1, hex.2.2⟩ rfl pl1 T2.dm (by rw [hsz, k4]; rcases two with ⟨e, e2⟩ | ⟨e, e2⟩ <;> omega) ld1 (by omega) z1 z2 z3 (by rw [hsz]; exact z4) ?_
          intro h2 es2 ep2 t3 sb2 R2 pm2
          exact wpAny_pure (hQ true h2 es2 ep2 t3 (sb.trans sb2) R2 absurd1 fun _ => pm2.trans prm)
        rcases two with ⟨_, e2⟩ | ⟨_, e2⟩
        · exact fin 31 (by rw [e2, size_20]) (.inr (.inl rfl)) (by rw [e2, size_20]; decide) (by omega)
        · exact fin 127 (by rw [e2, size_76]) (.inr (.inr rfl)) (by rw [e2, size_76]; decide) (by omega)
      · first
          | apply wp_if_neg (by simp [hf])
          | (apply wpAny_bind; apply wp_if_neg (by simp [hf]); apply wpAny_pure)
        refine wpAny_pure (hQ true h1 es1 (ep + 1) t2 sb ⟨⟨_, ho1, ⟨hex.1, hex.2.1, hex.2.2⟩, rfl⟩, T2, ld1, ?_, by omega⟩ absurd1 fun _ => prm)
        have h := hf
        unfold SetTable.tooFull at h
        rw [decide_eq_true_eq, k9] at h
        omega
    have sz9 : t1.fill = es.size + 1 := by rw [q9]; simp
    have ok1 := go t1 q3 q4 q5 sz9
    have ok2 := go { t1 with plain := false } ⟨q3.ris, q3.dm, q3.sz, q3.mok, q3.bd, q3.reach⟩ q4 q5 sz9
    cases hp : t1.plain with
    | true =>
      apply wp_if_pos rfl
      apply wpAny_bind
      apply val
      rintro (_ | _)
      · simp only [Bool.false_eq_true, if_false]
        exact ok2
      · simp only [if_true]
        exact ok1
    | false =>
      apply wp_if_neg (by decide)
      apply wpAny_bind
      apply wpAny_pure
      simp only [if_true]
      exact ok1
end
end PL

namespace PL
open PySem PySem.Spec PyProof.Rows L2

/-! ### a set of nested keys that is being filled -/
def KeyV (h : Heap) (v : Value) : Prop := ∃ x k, v = .ref x ∧ NestedIs h k v ∧ k.depth ≤ 8
theorem nk_up {h h' : Heap} {k : NestedKey} {v : Value} (x : NestedIs h k v) (hk : ∀ b o, h.get? b = some o → h'.get? b = some o) : NestedIs h' k v := NestedIs.at (fun b o _ _ e _ => hk b o e) k v x
structure Filled (w : World) (h0 h : Heap) (a : Addr) (items : List Value) (i : Nat) (es : Array (Int × Value)) (ep : Nat) (t : SetTable) : Prop where
  tab : TabR w h a es ep t
  key : ∀ e, e ∈ es.toList → ∃ x k, e.2 = .ref x ∧ NestedIs h0 k e.2 ∧ k.depth ≤ 8 ∧ e.1 = k.hash w
  apart : es.toList.Pairwise fun e f => ∀ k, NestedIs h0 k e.2 → ¬ NestedIs h0 k f.2
  sub : ∀ e, e ∈ es.toList → e.2 ∈ items.take i
  all : ∀ v, v ∈ items.take i → ∃ e, e ∈ es.toList ∧ ∃ k, NestedIs h0 k v ∧ NestedIs h0 k e.2
  len : es.size ≤ i
theorem TabR.keep {w : World} {h h' : Heap} {a : Addr} {es : Array (Int × Value)} {ep : Nat} {t : SetTable} (R : TabR w h a es ep t) (ha : ∀ o, h.get? a = some o → h'.get? a = some o) : TabR w h' a es ep t := by
  obtain ⟨o, ho, r⟩ := R.at_
  exact ⟨⟨o, ha o ho, r⟩, R.tab, R.led, R.room, R.few⟩
section
variable {P : Program} {w : World} {A : Around} {E : Value → Shared → Prop} {s : Shared}
theorem mute_keys {h : Heap} {x : Addr} {k : NestedKey} (hx : NestedIs s.heap k (.ref x)) (hd : k.depth ≤ 8) {ys : List Value} (hy : ∀ y, y ∈ ys → ∃ c j, y = Value.ref c ∧ NestedIs s.heap j y ∧ j.depth ≤ 8) {Q : Bool → Shared → Prop} (q : Q false s) :
    wpAny (model P w) A (searchCouldBeSeen (.ref x) ys) Q E s := by
  unfold searchCouldBeSeen
  apply wpAny_bind
  refine wpAny_forIn_list _ (fun rest r s' => r.1 = none ∧ s' = s ∧ ∀ y, y ∈ rest → y ∈ ys) _ ?_ ?_ _ _ ⟨rfl, rfl, fun _ h => h⟩
  · rintro v rest r s' ⟨hr, rfl, sub⟩
    obtain ⟨c, j, rfl, hj, dj⟩ := hy v (sub v (List.mem_cons_self ..))
    have more : ∀ y, y ∈ rest → y ∈ ys := fun y h => sub y (List.mem_cons_of_mem _ h)
    dsimp only
    by_cases very : (x == c || (carriedByValue (.ref x) && carriedByValue (.ref c))) = true
    · exact wp_if_pos very (wpAny_pure ⟨rfl, rfl, more⟩)
    · apply wp_if_neg very
      apply wpAny_bind
      apply quiet_key k _ 8 s' hx hd
      simp only [Bool.not_true, Bool.false_eq_true, if_false]
      apply wpAny_bind
      apply quiet_key j _ 8 s' hj dj
      simp only [Bool.not_true, Bool.false_eq_true, if_false]
      apply wpAny_bind
      apply classless_key k _ 8 s' _ _ _ hx hd
      simp only [Bool.false_eq_true, if_false]
      apply wpAny_bind
      apply classless_key j _ 8 s' _ _ _ hj dj
      simp only [Bool.false_eq_true, if_false]
      exact wpAny_pure ⟨rfl, rfl, more⟩
  · rintro ⟨r1, r2⟩ s' ⟨hr, rfl, _⟩
    simp only at hr
    subst hr
    exact wpAny_pure q
open Classical in
theorem asks_keys {h0 : Heap} {a : Addr} {items : List Value} {i : Nat} {es : Array (Int × Value)} {ep : Nat} {t : SetTable} (Fl : Filled w h0 s.heap a items i es ep t) (up : ∀ b o, h0.get? b = some o → s.heap.get? b = some o) {x : Addr} {k : NestedKey} (hx : NestedIs h0 k (.ref x)) (hd : k.depth ≤ 8)
    (hu : A.units + 8 < cLine) : Asks P w A E s es (.ref x) (k.hash w) fun v => decide (NestedIs h0 k v) where
  eq := fun e he _ Q q => by
    obtain ⟨y, j, e2, hj, dj, _⟩ := Fl.key e he
    rw [e2] at hj q ⊢
    refine eqAt_key j k A s _ _ (nk_up hj up) (nk_up hx up) (by omega) _ _ _ _ ?_
    have : NestedKey.beq j k = decide (NestedIs h0 k (.ref y)) := by
      rw [← NestedKey.decide_eq]
      by_cases e : j = k
      · subst e; rw [decide_eq_true rfl, decide_eq_true hj]
      · rw [decide_eq_false e, decide_eq_false fun z => e (NestedIs.inj _ _ _ hj z)]
    rw [this]; exact q
  ref := fun e he => let ⟨y, _, e2, _⟩ := Fl.key e he; ⟨y, e2⟩
  mute := fun ys hy Q q => mute_keys (h := h0) (nk_up hx up) hd (fun y h => by
    obtain ⟨e, he, rfl⟩ := hy y h
    obtain ⟨c, j, e2, hj, dj, _⟩ := Fl.key e he
    exact ⟨c, j, e2, nk_up hj up, dj⟩) q
theorem take_snoc {α : Type} {l : List α} {i : Nat} {x : α} (h : l[i]? = some x) : l.take (i + 1) = l.take i ++ [x] := by
  rw [List.take_succ, h]; rfl
/-- one more item -/
theorem fill_one {h0 : Heap} {a : Addr} {items : List Value} {i : Nat} {es : Array (Int × Value)} {ep : Nat} {t : SetTable} (Fl : Filled w h0 s.heap a items i es ep t) (up : ∀ b o, h0.get? b = some o → s.heap.get? b = some o) {v : Value} (hv : items[i]? = some v) (kv : KeyV h0 v)
    (hu : A.units + 8 < cLine) (few : items.length < 64) {Q : Unit → Shared → Prop} (hQ : ∀ h' tk es' ep' t', Heap.SameBut a s.heap h' → Filled w h0 h' a items (i + 1) es' ep' t' → s.toks ≤ tk → Q () { s with heap := h', toks := tk }) :
    wpAny (model P w) A (setAdd a v) (fun _ s' => Q () s') E s := by
  obtain ⟨x, k, rfl, hx, hd⟩ := kv
  unfold setAdd
  apply wpAny_holding
  apply wpAny_bind
  refine pyHash_key k _ A s _ (nk_up hx up) (by omega) ?_
  have hil : i < items.length := (List.getElem?_eq_some_iff.mp hv).1
  have Fl' : Filled w h0 ({ s with toks := s.toks + k.draws } : Shared).heap a items i es ep t := Fl
  refine tab_add (s := { s with toks := s.toks + k.draws }) Fl'.tab (asks_keys (s := { s with toks := s.toks + k.draws }) Fl' up hx hd hu) (fun A E Q q => valued_key k _ 8 { s with toks := s.toks + k.draws } (nk_up hx up) hd A E Q q) (by have := Fl.len; omega) fun c h' es' ep' t' sb R c1 c2 => ?_
  refine hQ h' _ es' ep' t' sb ?_ (Nat.le_add_right _ _)
  by_cases hm : ∃ e, e ∈ es.toList ∧ NestedIs h0 k e.2
  · obtain ⟨e, he, ke⟩ := hm
    obtain ⟨y, j, e2, hj, dj, ej⟩ := Fl.key e he
    have jk : j = k := NestedIs.inj _ _ _ hj ke
    have same := c1 ⟨e, he, by rw [ej, jk], by simpa using ke⟩
    subst same
    refine ⟨R, Fl.key, Fl.apart, fun f hf => ?_, fun u hu => ?_, Nat.le_succ_of_le Fl.len⟩
    · rw [take_snoc hv]; exact List.mem_append_left _ (Fl.sub f hf)
    · rw [take_snoc hv] at hu
      rcases List.mem_append.mp hu with z | z
      · exact Fl.all u z
      · rw [List.mem_singleton.mp z]; exact ⟨e, he, k, hx, ke⟩
  · have pm := c2 fun e he _ => by simpa using fun z => hm ⟨e, he, z⟩
    refine ⟨R, fun e he => ?_, ?_, fun f hf => ?_, fun u hu => ?_, ?_⟩
    · rcases List.mem_cons.mp (pm.mem_iff.mp he) with z | z
      · subst z; exact ⟨x, k, rfl, hx, hd, rfl⟩
      · exact Fl.key e z
    · refine (pm.pairwise_iff fun {e f} z k' hf he => z k' he hf).mpr ?_
      refine List.pairwise_cons.mpr ⟨fun e he k' hk' z => ?_, Fl.apart⟩
      have : k' = k := NestedIs.inj _ _ _ hk' hx
      subst this
      exact hm ⟨e, he, z⟩
    · rw [take_snoc hv]
      rcases List.mem_cons.mp (pm.mem_iff.mp hf) with z | z
      · subst z; exact List.mem_append_right _ (List.mem_singleton.mpr rfl)
      · exact List.mem_append_left _ (Fl.sub f z)
    · rw [take_snoc hv] at hu
      rcases List.mem_append.mp hu with z | z
      · obtain ⟨e, he, q⟩ := Fl.all u z
        exact ⟨e, pm.mem_iff.mpr (List.mem_cons_of_mem _ he), q⟩
      · rw [List.mem_singleton.mp z]; exact ⟨(k.hash w, .ref x), pm.mem_iff.mpr (List.mem_cons_self ..), k, hx, hx⟩
    · have := pm.length_eq
      rw [List.length_cons, Array.length_toList, Array.length_toList] at this
      have := Fl.len
      omega
end
end PL

namespace PL
open PySem PySem.Spec PyProof.Rows L2
section
variable {P : Program} {w : World} {A : Around} {E : Value → Shared → Prop} {s : Shared}
abbrev freshT (w : World) : SetTable := .fresh 0 0 (!w.params.followText "set-order")
abbrev freshO (w : World) : Obj := { cls := .type "set", dict := none, data := .set #[] 0 (freshT w) }
theorem filled0 {h0 h : Heap} {a : Addr} {items : List Value} (ho : h.get? a = some (freshO w)) : Filled w h0 h a items 0 #[] 0 (freshT w) where
  tab := by
    refine ⟨⟨_, ho, ⟨rfl, rfl, rfl⟩, rfl⟩, ⟨List.Pairwise.nil, rfl, rfl, .inl rfl, (fun x hx => by cases hx), fun i h j hi => by simp at hi⟩, ?_, by show 0 * 5 < 7 * 3; decide, by show 0 < 64; decide⟩
    show _ ∨ (!w.params.followText "set-order") = true
    cases w.params.followText "set-order" <;> simp
  key := fun e he => nomatch he
  apart := List.Pairwise.nil
  sub := fun e he => nomatch he
  all := fun v hv => by simp at hv
  len := Nat.le_refl 0
theorem Filled.keep {h0 h h' : Heap} {a : Addr} {items : List Value} {i : Nat} {es : Array (Int × Value)} {ep : Nat} {t : SetTable} (Fl : Filled w h0 h a items i es ep t) (ha : ∀ o, h.get? a = some o → h'.get? a = some o) : Filled w h0 h' a items i es ep t :=
  ⟨Fl.tab.keep ha, Fl.key, Fl.apart, Fl.sub, Fl.all, Fl.len⟩
abbrev SetDone (w : World) (h0 h : Heap) (a : Addr) (items : List Value) : Prop := ∃ es ep t, Filled w h0 h a items items.length es ep t
theorem fill_all {I S : Addr} {fp wr : List Addr} {G : Array GenState → Array GenState → Prop} {n : Nat} {Pv : Nat → Value → Prop} {St : Nat → Shared → Prop} {R : Result → Shared → Prop} (W : WalksS P w A.in1 I fp wr G n Pv St) (out : S ∉ fp) (items : List Value) (hn : n = items.length)
    (few : items.length < 64) (val : ∀ i v, Pv i v → items[i]? = some v) (h0 : Heap) (ky : ∀ v, v ∈ items → KeyV h0 v) (new : ∀ b, b ∈ S :: wr → h0.get? b = none) (hu : A.units + 9 < cLine) :
    ∀ (k i : Nat) (s : Shared), n - i = k → i ≤ n → St i s → (∀ b o, h0.get? b = some o → s.heap.get? b = some o) → (∃ es ep t, Filled w h0 s.heap S items i es ep t) →
      (∀ s', Moved (S :: wr) G s s' → SetDone w h0 s'.heap S items → (∀ b o, h0.get? b = some o → s'.heap.get? b = some o) → R (.ok (.ret .none)) s') →
      codeAny (model P w) A (.builtin "set.update.loop" ⟨[.ref S, .ref I], []⟩) R s := by
  have outw : S ∉ wr := fun h => out (W.sub _ h)
  have old : ∀ {s s' : Shared}, Moved wr G s s' → (∀ b o, h0.get? b = some o → s.heap.get? b = some o) → ∀ b o, h0.get? b = some o → s'.heap.get? b = some o := fun hm up b o e =>
    hm.heap b o (fun hb => by rw [new b (List.mem_cons_of_mem _ hb)] at e; cases e) (up b o e)
  have wider : ∀ {s s' : Shared}, Moved wr G s s' → Moved (S :: wr) G s s' := fun hm => hm.mono fun b hb => List.mem_cons_of_mem _ hb
  intro k
  induction k with
  | zero =>
    intro i s hk hi st up ⟨es, ep, t, Fl⟩ fin
    obtain rfl : i = n := by omega
    apply codeAny_builtin F.entry_set_update_loop
    rw [Around.under_plainId F.plain_set_update_loop _]
    show wpAny _ A.in1 (pyNext (.ref I) >>= _) _ _ s
    apply wpAny_bind
    apply W.done s _ _ st
    intro s' hm
    show wpAny _ A.in1 (ret Value.none) _ _ s'
    subst hn
    exact wpAny_pure (fin s' (wider hm) ⟨es, ep, t, Fl.keep fun o e => hm.heap S o outw e⟩ (old hm up))
  | succ k ih =>
    intro i s hk hi st up ⟨es, ep, t, Fl⟩ fin
    have more : i < n := by omega
    apply codeAny_builtin F.entry_set_update_loop
    rw [Around.under_plainId F.plain_set_update_loop _]
    show wpAny _ A.in1 (pyNext (.ref I) >>= _) _ _ s
    apply wpAny_bind
    apply W.item i s _ _ more st
    intro v s' hP st' hm
    have hv := val i v hP
    have up' := old hm up
    obtain ⟨x, kx, ev, _⟩ := ky v (List.mem_of_getElem? hv)
    subst ev
    show wpAny _ A.in1 (holding [Value.ref x] (setAdd S (.ref x)) >>= _) _ _ s'
    apply wpAny_bind
    apply wpAny_holding
    refine fill_one (Q := fun _ s₂ => wpAny _ A.in1 _ _ _ s₂) (Fl.keep fun o e => hm.heap S o outw e) up' hv (ky _ (List.mem_of_getElem? hv)) (by show A.units + 1 + 8 < _; omega) few fun h' tk es' ep' t' sb Fl' htk => ?_
    have up2 : ∀ b o, h0.get? b = some o → h'.get? b = some o := fun b o e => (sb.2 b (by rintro rfl; rw [new _ (List.mem_cons_self ..)] at e; cases e)).trans (up' b o e)
    refine wpAny_pure ⟨plainId_quiet F.plain_set_update_loop _, ih (i + 1) _ (by omega) more (W.frame _ s' _ _ st' htk fun b hb o e => ?_) up2 ⟨es', ep', t', Fl'⟩ fun s'' hm2 d2 up3 => ?_⟩
    · exact (sb.2 b (by rintro rfl; exact out hb)).trans e
    · refine fin s'' (Moved.trans W.gtrans ((wider hm).then_heap htk fun b o hb e => ?_) hm2) d2 up3
      exact (sb.2 b (by rintro rfl; exact hb (List.mem_cons_self ..))).trans e

set_option maxHeartbeats 4000000 in
/-- set(xs) of a list -/
theorem set_of_list {l : Addr} {items : Array Value} {Q : Value → Shared → Prop} (hh : A.handled = none) (hl : s.heap.IsList l items) (ky : ∀ v, v ∈ items.toList → KeyV s.heap v) (few : items.size < 64) (hu : A.units + 16 < cLine)
    (fin : ∀ (h' : Heap) (tk : Nat), SetDone w s.heap h' s.heap.objs.size items.toList → (∀ b o, s.heap.get? b = some o → h'.get? b = some o) → Q (.ref s.heap.objs.size) { s with heap := h', toks := tk }) :
    wpAny (model P w) A (call (.type "set") [.ref l]) Q E s := by
  obtain ⟨c, tl, hmro⟩ := F.called_set.mro
  have made := F.called_set.made
  have subs := F.called_set.sub
  apply wpAny_call
  apply codeAny_of_tree
  show wpAny _ _ (callAny (.type "set") _) _ _ _
  refine wpAny_pure ⟨Code.quiet_builtin _ (by decide +kernel), codeAny_builtin F.entry_type_call ?_⟩
  rw [Around.under_plain (weight_type_call_type "set" [.ref l] []) rfl]
  have n1 := F.called_set.notType
  have n2 := F.called_set.canCreate
  have n3 := F.typeCall_set_1 (.ref l)
  repeat (any_goals (first | assumption | wp_step))
  -- the new, empty set
  generalize hg : s.heap.push (freshO w) = h1
  have hS : h1.get? s.heap.objs.size = some (freshO w) := by rw [← hg]; exact Heap.get?_push_size _ rfl
  have up1 : ∀ b o, s.heap.get? b = some o → h1.get? b = some o := fun b o e => by rw [← hg]; exact Heap.get?_push_of_some _ e
  have sz1 : h1.objs.size = s.heap.objs.size + 1 := by rw [← hg]; exact Heap.size_push ..
  refine codeAny_mono (code_set_led1 (E := E) (.ref l) (Q₁ := fun v s₁ => v = .ref s.heap.objs.size ∧ s₁ = { s with heap := h1 }) ⟨rfl, by rw [← hg]⟩) ?_
  rintro (e | fl) s₁ out
  · exact out
  cases fl with
  | next => exact out.elim
  | brk => exact out.elim
  | cont => exact out.elim
  | ret v =>
  obtain ⟨rfl, rfl⟩ := out
  have hT : Shared.TypeIs { s with heap := h1 } (.ref s.heap.objs.size) "set" := ⟨_, hS, rfl⟩
  have i1 := F.called_set.init.lookup
  have i2 := F.called_set.init.bind (.ref s.heap.objs.size)
  repeat (any_goals (first | assumption | wp_step))
  let After : Value → Shared → Prop := fun r s₂ => r = .none ∧ ∃ h' tk, s₂ = { s with heap := h', toks := tk } ∧ SetDone w s.heap h' s.heap.objs.size items.toList ∧ ∀ b o, s.heap.get? b = some o → h'.get? b = some o
  refine codeAny_mono (codeAny_call_builtin (R := wants After E) F.called_set.init.plain F.entry_set_init (check_set_init_1 hT ?_)) ?_
  · obtain ⟨⟨cls, dd, data, sl⟩, hol, hcl, nl, hdl⟩ := hl
    simp only at hcl hdl
    subst hcl; subst hdl
    have hol1 := up1 _ _ hol
    have g1 := F.sub_list_set
    have g2 := F.sub_list_frozenset
    have g3 : (Value.type "list" == Value.type "dict") = false := by decide
    have hl1 : h1.IsList l items := ⟨_, hol1, rfl, nl, rfl⟩
    have lS : l < s.heap.objs.size := Heap.lt_size hol
    unfold Builtin.«set.__init__» noKeywords Builtin.Frozenset.updateFrom
    generalize hPI : pyIter = PI
    wp_walk
    subst hPI
    refine wpAny_pyIter_list hl1 ?_
    apply wpAny_bind
    apply wpAny_runValue
    have none_of : ∀ b, s.heap.objs.size ≤ b → s.heap.get? b = none := fun b hb => by
      cases q : s.heap.get? b with
      | none => rfl
      | some o => exact absurd (Nat.lt_of_lt_of_le (Heap.lt_size q) hb) (Nat.lt_irrefl _)
    refine fill_all ((Walks.list (by simp [hh]) _ l (by show l ≠ h1.objs.size; rw [sz1]; exact Nat.ne_of_lt (Nat.lt_succ_of_lt lS)) items).toS) (S := s.heap.objs.size) (by show _ ∉ [h1.objs.size, l]; rw [sz1]; simp only [List.mem_cons, List.not_mem_nil, or_false, not_or]; exact ⟨Nat.ne_of_lt (Nat.lt_succ_self _), Nat.ne_of_gt lS⟩) items.toList rfl (by rw [Array.length_toList]; exact few)
      (fun i v hv => by rw [Array.getElem?_toList]; exact hv) s.heap ky (fun b hb => none_of b (by
        rcases List.mem_cons.mp hb with z | z
        · rw [z]; exact Nat.le_refl _
        · rw [List.mem_singleton.mp z]; show _ ≤ h1.objs.size; rw [sz1]; exact Nat.le_succ _)) (by show A.units + 1 + 1 + 9 < cLine; omega) (items.size - 0) 0 _ (by omega) (Nat.zero_le _)
      ⟨⟨_, Heap.get?_push_size _ rfl, rfl, rfl⟩, hl1.push _⟩ (fun b o e => Heap.get?_push_of_some _ (up1 b o e)) ⟨_, _, _, filled0 (Heap.get?_push_of_some _ hS)⟩ ?_
    intro s' hm dn up'
    obtain ⟨h', g', d', tk', os'⟩ := s'
    obtain rfl : g' = s.gens := hm.gens
    obtain rfl : d' = s.drawn := hm.drawn
    obtain rfl : os' = s.os := hm.os
    show wpAny _ _ _ _ _ _
    apply wpAny_pure
    show wpAny _ _ (ret Value.none) _ _ _
    exact wpAny_pure ⟨rfl, h', tk', rfl, dn, up'⟩
  · rintro (e | fl) s₂ out
    · exact out
    · cases fl with
      | next => exact out.elim
      | brk => exact out.elim
      | cont => exact out.elim
      | ret r =>
        obtain ⟨rfl, h', tk, rfl, dn, up'⟩ := out
        repeat (any_goals (first | assumption | wp_step))
        exact fin _ _ dn up'
end
end PL

namespace PL
open PySem PySem.Spec PyProof.Rows L2 PySem.W PySem.SeqAt

/-! ### sorting alike data, empty tuples among them -/
section
variable {prog : Program} {w : World} {A : Around} {E : Value → Shared → Prop} {s : Shared}
theorem tup_lt_call {l b : Addr} {us vs : Array Value} {e r : Nat → Bool} {Q : Value → Shared → Prop} (hl : s.heap.IsTuple l us) (hb : s.heap.IsTuple b vs) (he : ∀ j (h1 : j < us.size) (h2 : j < vs.size), EqAt A.in1 s us[j] vs[j] (e j))
    (hr : ∀ j (h1 : j < us.size) (h2 : j < vs.size), e j = false → RcLt A.in1 s us[j] vs[j] (r j)) (q : Q (.bool (firstLt e r (decide (us.size < vs.size)) (List.range (min us.size vs.size)))) s) :
    wpAny (model prog w) A (call (.builtin "tuple.__lt__") [.ref l, .ref b]) Q E s := by
  obtain ⟨⟨c1, d1, x1, s1⟩, g1, rfl, n1, rfl⟩ := id hl
  obtain ⟨⟨c2, d2, x2, s2⟩, g2, rfl, n2, rfl⟩ := id hb
  exact call_meets F.slot_tuple_lt ⟨_, g1, rfl⟩ F.entry_tuple_lt (F.args_tuple_lt_2 _ _) (tuple_ltAt l b us vs n1 n2 d1 d2 s1 s2 e r) ⟨g1, g2, he, hr, q⟩
theorem same_type_lt {xs ys : List PyData} {a b : Value} {as bs : List Addr} {Q : Bool → Shared → Prop} (ra : Reads s.heap a (.tuple xs) as) (rb : Reads s.heap b (.tuple ys) bs) (hal : alikeAll xs ys = true)
    (hu : A.units + min (PyData.tuple xs).depth (PyData.tuple ys).depth < cLine) (q : Q (dataLt (.tuple xs) (.tuple ys)) s) : wpAny (model prog w) A (oneLt' true a b) Q E s := by
  cases ra with
  | @tuple l o us n _ _ h1 h2 h3 h4 =>
    cases rb with
    | @tuple l' o' vs n' _ _ k1 k2 k3 k4 =>
      have m1 : us.size = xs.length := by simpa using ReadsAll.length _ _ _ h4
      have m2 : vs.size = ys.length := by simpa using ReadsAll.length _ _ _ k4
      rw [dataLt_tuple, ← firstLt_toks xs ys hal, ← m1, ← m2] at q
      rw [oneLt'_eq]
      simp only [if_true]
      apply wpAny_bind
      refine wpAny_cRoomFor (room_here hu) ?_
      apply wpAny_bind
      refine wpAny_callSpecialIfBound?_slot (T := "tuple") ⟨_, h1, h2⟩ F.slot_tuple_lt (tup_lt_call (e := pairEq xs ys) (r := fun j => dataLt (xs.getD j .none) (ys.getD j .none)) ⟨_, h1, h2, _, h3⟩ ⟨_, k1, k2, _, k3⟩ (fun j j1 j2 => ?_) (fun j j1 j2 hj => ?_) (wpAny_truthy_bool q))
      · have := eqAt_alikeAll xs ys A.in1 s us.toList vs.toList _ _ h4 k4 hal (room_in hu) j (by simpa using j1) (by simpa using j2)
        simpa using this
      · have := rcLt_alikeAll xs ys A.in1 s us.toList vs.toList _ _ h4 k4 hal (room_in hu) j (by simpa using j1) (by simpa using j2) hj
        simpa using this
theorem mapM_still {α β : Type} {M : Model} {f : α → Sem β} (g : α → β) : ∀ (l : List α) {Q : List β → Shared → Prop}, (∀ v, v ∈ l → ∀ (Q' : β → Shared → Prop), Q' (g v) s → wpAny M A (f v) Q' E s) → Q (l.map g) s → wpAny M A (l.mapM f) Q E s
  | [], _, _, h => by rw [List.mapM_nil]; exact wpAny_pure h
  | x :: l, Q, hf, h => by
    rw [List.mapM_cons]
    apply wpAny_bind
    apply hf x (List.mem_cons_self ..)
    apply wpAny_bind
    exact mapM_still g l (Q := fun bs s' => wpAny M A (pure (g x :: bs)) Q E s') (fun v hv => hf v (List.mem_cons_of_mem _ hv)) (wpAny_pure h)
/-- what the sort learns of tuples one of which is empty -/
theorem kind_mixed {vs : List Value} (items : Value → Array Value) (tup : ∀ v, v ∈ vs → ∃ a o n, v = .ref a ∧ s.heap.get? a = some o ∧ o.cls = .type "tuple" ∧ o.data = .seq (items v) n) (gap : ∃ v, v ∈ vs ∧ items v = #[]) (two : 2 ≤ vs.length) {Q : SortKind → Shared → Prop}
    (q : Q (if ((vs.map fun v => (items v)[0]?).toArray[0]?.bind id).isSome = true then general' else oneType') s) : wpAny (model prog w) A (keyKind' vs.toArray) Q E s := by
  have ty : ∀ v, v ∈ vs → ∀ (Q' : Value → Shared → Prop), Q' (.type "tuple") s → wpAny (model prog w) A (typeOf v) Q' E s := fun v hv Q' q => by
    obtain ⟨a, o, n, rfl, ho, hc, _⟩ := tup v hv
    exact wpAny_typeOf (T := "tuple") ⟨o, ho, hc⟩ q
  rw [keyKind'_eq, List.mapM_toArray, map_eq_pure_bind]
  apply wpAny_bind
  apply wpAny_bind
  refine mapM_still (fun v => (items v)[0]?) vs (fun v hv Q' q => ?_) (wpAny_pure ?_)
  · rw [kas_first_eq]
    apply wpAny_bind
    apply ty v hv
    rw [if_neg (by decide)]
    obtain ⟨a, o, n, rfl, ho, hc, hd⟩ := tup v hv
    apply wpAny_bind
    exact listItems_at ho hd (wpAny_pure q)
  · have none1 : ¬ ((vs.map fun v => (items v)[0]?).toArray.all (·.isSome)) = true := by
      obtain ⟨v, hv, e⟩ := gap
      simp only [List.all_toArray, List.all_map, List.all_eq_true, Function.comp_apply]
      intro z
      have := z v hv
      rw [e] at this
      simp at this
    rw [if_neg none1]
    by_cases hf : ((vs.map fun v => (items v)[0]?).toArray[0]?.bind id).isSome = true
    · rw [if_pos hf] at q ⊢
      exact wpAny_pure q
    · rw [if_neg hf] at q ⊢
      rw [oneTypeOnly'_eq, List.mapM_toArray, map_eq_pure_bind]
      apply wpAny_bind
      apply wpAny_bind
      apply wpAny_bind
      refine mapM_still (fun _ => Value.type "tuple") vs (fun v hv Q' q => ty v hv Q' q) (wpAny_pure ?_)
      have hall : ((vs.map fun _ => Value.type "tuple").toArray.all fun x => x == Value.type "tuple") = true := by
        simp only [List.all_toArray, List.all_map, List.all_eq_true]
        intro _ _
        exact beq_self_eq_true _
      have h0 : (vs.map fun _ => Value.type "tuple").toArray[0]? = some (Value.type "tuple") := by
        cases vs with
        | nil => simp at two
        | cons v r => simp
      rw [h0]
      simp only [hall, if_true]
      exact wpAny_pure (wpAny_pure q)
theorem keyLt'_general (x y : Value) : keyLt' general' x y = oneLt' false x y := rfl
theorem each_mem2 {α β : Type} {R : α → β → Prop} : ∀ {xs : List α} {ys : List β}, EachIs R xs ys → ∀ y, y ∈ ys → ∃ x, x ∈ xs ∧ R x y
  | _, _, .nil, y, h => nomatch h
  | _, _, .cons r t, y, h => by
    rcases List.mem_cons.mp h with e | h
    · subst e; exact ⟨_, List.mem_cons_self .., r⟩
    · obtain ⟨x, h1, h2⟩ := each_mem2 t y h
      exact ⟨x, List.mem_cons_of_mem _ h1, h2⟩
theorem sorts_all {vs : List Value} {ds : List PyData} (e : EachIs (fun v d => ∃ as, Reads s.heap v d as) vs ds) (hal : AllAlike ds) (hn : ∀ d, d ∈ ds → d ≠ .none) (hu : ∀ d, d ∈ ds → A.units + d.depth < cLine) : SortsAt prog w A s (dataKind s.heap ds) vs := by
  by_cases hT : ∃ xs, PyData.tuple xs ∈ ds
  · obtain ⟨x0, h0⟩ := hT
    have allT : ∀ d, d ∈ ds → ∃ xs, d = .tuple xs := fun d hd => by
      have := hal d hd _ h0
      cases d <;> first | exact ⟨_, rfl⟩ | (simp [alike] at this; done)
    by_cases hE : PyData.tuple [] ∈ ds
    · have room : ∀ {d d' : PyData}, d ∈ ds → A.units + min d.depth d'.depth < cLine := fun {d d'} hd => Nat.lt_of_le_of_lt (Nat.add_le_add_left (Nat.min_le_left _ _) _) (hu d hd)
      have items : ∀ v, v ∈ vs → ∃ (xs : List PyData) (as : List Addr), PyData.tuple xs ∈ ds ∧ Reads s.heap v (.tuple xs) as := fun v hv => by
        obtain ⟨d, hd, as, r⟩ := e.left v hv
        obtain ⟨xs, rfl⟩ := allT d hd
        exact ⟨xs, as, hd, r⟩
      have two : ∀ kd, kd = general' ∨ kd = oneType' → H.LtAt prog w A s (dataKind s.heap ds) kd := by
        intro kd hk E x y a b Q ha hb hq
        obtain ⟨d, as, hd, ra, rfl⟩ := dataKind_inv ha
        obtain ⟨d', as', hd', rb, rfl⟩ := dataKind_inv hb
        have hdd := hal d hd d' hd'
        rcases hk with rfl | rfl
        · rw [keyLt'_general]
          exact oneLt_alike (fun z => nomatch z) ra rb hdd (hn d hd) (room hd) hq
        · rw [keyLt'_oneType]
          obtain ⟨xs, rfl⟩ := allT d hd
          obtain ⟨ys, rfl⟩ := allT d' hd'
          exact same_type_lt ra rb (by simpa [alike] using hdd) (room hd) hq
      refine ⟨fun v hv => ?_, ?_⟩
      · obtain ⟨d, hd, as, r⟩ := e.left v hv
        exact ⟨_, dataKind_some hal hd r⟩
      · -- which of the two is not said here: the walk of keyKind' says it
        have its : ∃ f : Value → Array Value, ∀ v, v ∈ vs → ∃ a o n, v = .ref a ∧ s.heap.get? a = some o ∧ o.cls = .type "tuple" ∧ o.data = .seq (f v) n := by
          have : ∀ v, ∃ its : Array Value, v ∈ vs → ∃ a o n, v = .ref a ∧ s.heap.get? a = some o ∧ o.cls = .type "tuple" ∧ o.data = .seq its n := fun v => by
            by_cases hv : v ∈ vs
            · obtain ⟨xs, as, _, r⟩ := items v hv
              cases r with
              | tuple h1 h2 h3 h4 => exact ⟨_, fun _ => ⟨_, _, _, rfl, h1, h2, h3⟩⟩
            · exact ⟨#[], fun z => absurd z hv⟩
          exact ⟨fun v => (this v).choose, fun v => (this v).choose_spec⟩
        obtain ⟨f, hf⟩ := its
        have gap : ∃ v, v ∈ vs ∧ f v = #[] := by
          obtain ⟨v, hv, as, r⟩ := each_mem2 e _ hE
          refine ⟨v, hv, ?_⟩
          obtain ⟨a, o, n, e1, g1, g2, g3⟩ := hf v hv
          cases r with
          | @tuple l o' us m _ _ h1 h2 h3 h4 =>
            cases e1
            rw [h1] at g1; cases g1
            rw [h3] at g3; cases g3
            have := ReadsAll.length _ _ _ h4
            simpa using this
        -- the first item decides
        refine ⟨_, two _ ?_, fun h2 E Q q => kind_mixed f hf gap h2 q⟩
        split
        · exact .inl rfl
        · exact .inr rfl
    · refine SortsAt.data e hal (.inl fun d hd => ?_) hu
      obtain ⟨xs, rfl⟩ := allT d hd
      cases xs with
      | nil => exact absurd hd hE
      | cons x r => exact ⟨x, r, rfl⟩
  · exact SortsAt.data e hal (.inr fun d hd => ⟨hn d hd, fun xs z => hT ⟨xs, z ▸ hd⟩⟩) hu
end
end PL

namespace PL
open PySem PySem.Spec PyProof.Rows L2 PySem.W PySem.SeqAt

/-! ### the key of a datum -/
mutual
def kN : PyData → Option NestedKey
  | .none => some .none
  | .bool b => some (.num (if b = true then 1 else 0))
  | .int i => some (.num i)
  | .str x => some (.text x)
  | .tuple xs => (kNs xs).map .tup
  | .list _ => none
  | .dict _ => none
def kNs : List PyData → Option (List NestedKey)
  | [] => some []
  | x :: xs => match kN x, kNs xs with
    | some k, some ks => some (k :: ks)
    | _, _ => none
end
theorem kN_tup {xs : List PyData} {k : NestedKey} (h : kN (.tuple xs) = some k) : ∃ ks, kNs xs = some ks ∧ NestedKey.tup ks = k := by
  rw [kN] at h
  exact Option.map_eq_some_iff.mp h
theorem kNs_cons {x : PyData} {xs : List PyData} {l : List NestedKey} (h : kNs (x :: xs) = some l) : ∃ k ks, kN x = some k ∧ kNs xs = some ks ∧ l = k :: ks := by
  simp only [kNs] at h
  split at h
  · rename_i k ks h1 h2
    cases h
    exact ⟨k, ks, h1, h2, rfl⟩
  · cases h
mutual
theorem kN_is {h : Heap} : ∀ (d : PyData) (v : Value) (as : List Addr) (k : NestedKey), Reads h v d as → kN d = some k → NestedIs h k v
  | .none, _, _, _, r, e => by cases r; cases e; exact .none
  | .bool b, _, _, _, r, e => by cases r; cases e; exact .bool rfl
  | .int i, _, _, _, r, e => by cases r; cases e; exact .int _ _
  | .str x, _, _, _, r, e => by cases r; cases e; exact .text _ _
  | .tuple xs, _, _, _, r, e => by
    obtain ⟨ks, h1, rfl⟩ := kN_tup e
    cases r with
    | tuple g1 g2 g3 g4 => exact .tup g1 g2 g3 (kNs_is xs _ _ ks g4 h1)
  | .list _, _, _, _, _, e => by cases e
  | .dict _, _, _, _, _, e => by cases e
theorem kNs_is {h : Heap} : ∀ (ds : List PyData) (vs : List Value) (as : List Addr) (ks : List NestedKey), ReadsAll h vs ds as → kNs ds = some ks → NestedAll h ks vs
  | [], _, _, _, r, e => by cases r; cases e; exact .nil
  | d :: ds, _, _, _, r, e => by
    obtain ⟨k, ks, h1, h2, rfl⟩ := kNs_cons e
    cases r with
    | cons r1 r2 => exact .cons (kN_is d _ _ k r1 h1) (kNs_is ds _ _ ks r2 h2)
end
mutual
theorem kN_depth : ∀ (d : PyData) (k : NestedKey), kN d = some k → k.depth = d.depth
  | .none, _, e => by cases e; rfl
  | .bool b, _, e => by cases e; rfl
  | .int i, _, e => by cases e; rfl
  | .str x, _, e => by cases e; rfl
  | .tuple xs, _, e => by
    obtain ⟨ks, h1, rfl⟩ := kN_tup e
    simp only [NestedKey.depth, PyData.depth]
    rw [kNs_depth xs ks h1]
  | .list _, _, e => by cases e
  | .dict _, _, e => by cases e
theorem kNs_depth : ∀ (ds : List PyData) (ks : List NestedKey), kNs ds = some ks → NestedKey.depthAll ks = PyData.depthAll ds
  | [], _, e => by cases e; rfl
  | d :: ds, _, e => by
    obtain ⟨k, ks, h1, h2, rfl⟩ := kNs_cons e
    simp only [NestedKey.depthAll, PyData.depthAll]
    rw [kN_depth d k h1, kNs_depth ds ks h2]
end
mutual
/-- alike data of one key are one -/
theorem kN_inj : ∀ (d e : PyData) (k : NestedKey), alike d e = true → kN d = some k → kN e = some k → d = e
  | .none, e, k, h, h1, h2 => by cases e <;> first | rfl | (simp [alike] at h; done)
  | .bool b, e, k, h, h1, h2 => by
    cases e <;> first | (simp [alike] at h; done) | skip
    rename_i c
    cases h1
    simp only [kN, Option.some.injEq, NestedKey.num.injEq] at h2
    cases b <;> cases c <;> first | rfl | (simp at h2; done)
  | .int i, e, k, h, h1, h2 => by
    cases e <;> first | (simp [alike] at h; done) | skip
    cases h1
    simp only [kN, Option.some.injEq, NestedKey.num.injEq] at h2
    rw [h2]
  | .str x, e, k, h, h1, h2 => by
    cases e <;> first | (simp [alike] at h; done) | skip
    cases h1
    simp only [kN, Option.some.injEq, NestedKey.text.injEq] at h2
    rw [h2]
  | .tuple xs, e, k, h, h1, h2 => by
    cases e <;> first | (simp [alike] at h; done) | skip
    rename_i ys
    obtain ⟨ks, g1, rfl⟩ := kN_tup h1
    obtain ⟨js, g2, e⟩ := kN_tup h2
    cases e
    rw [kNs_inj xs ys ks (by simpa [alike] using h) g1 g2]
  | .list _, _, _, _, e, _ => by cases e
  | .dict _, _, _, _, e, _ => by cases e
theorem kNs_inj : ∀ (ds es : List PyData) (ks : List NestedKey), alikeAll ds es = true → kNs ds = some ks → kNs es = some ks → ds = es
  | [], es, ks, _, h1, h2 => by
    cases h1
    cases es with
    | nil => rfl
    | cons e es => obtain ⟨_, _, _, _, z⟩ := kNs_cons h2; cases z
  | d :: ds, es, ks, h, h1, h2 => by
    obtain ⟨k, ks', g1, g2, rfl⟩ := kNs_cons h1
    cases es with
    | nil => cases h2
    | cons e es =>
      obtain ⟨k2, ks2, f1, f2, z⟩ := kNs_cons h2
      cases z
      simp only [alikeAll, Bool.and_eq_true] at h
      rw [kN_inj d e k h.1 g1 f1, kNs_inj ds es ks' h.2 g2 f2]
end
/-- each once, the first of them stays -/
def uniq : List PyData → List PyData
  | [] => []
  | d :: ds => d :: (uniq ds).filter fun e => !decide (kN e = kN d)
theorem uniq_sub : ∀ {ds : List PyData} {d : PyData}, d ∈ uniq ds → d ∈ ds
  | [], _, h => h
  | e :: ds, d, h => by
    rcases List.mem_cons.mp h with z | z
    · rw [z]; exact List.mem_cons_self ..
    · exact List.mem_cons_of_mem _ (uniq_sub (List.mem_filter.mp z).1)
theorem uniq_apart : ∀ ds : List PyData, (uniq ds).Pairwise fun d e => kN d ≠ kN e
  | [] => .nil
  | d :: ds => List.pairwise_cons.mpr ⟨fun e he z => by
      have := (List.mem_filter.mp he).2
      simp only [Bool.not_eq_true', decide_eq_false_iff_not] at this
      exact this z.symm, (uniq_apart ds).filter _⟩
theorem uniq_all : ∀ {ds : List PyData} {d : PyData}, d ∈ ds → ∃ e, e ∈ uniq ds ∧ kN e = kN d
  | e :: ds, d, h => by
    by_cases c : kN d = kN e
    · exact ⟨e, List.mem_cons_self .., c.symm⟩
    · rcases List.mem_cons.mp h with z | z
      · exact absurd (by rw [z]) c
      · obtain ⟨f, h1, h2⟩ := uniq_all z
        refine ⟨f, List.mem_cons_of_mem _ (List.mem_filter.mpr ⟨h1, ?_⟩), h2⟩
        simp only [Bool.not_eq_true', decide_eq_false_iff_not]
        rw [h2]; exact c
/-- data that may be keys of a set -/
def setKey (d : PyData) : Bool := match d with
  | .tuple xs => (kN (.tuple xs)).isSome && decide ((PyData.tuple xs).depth ≤ 8)
  | _ => false
theorem uniq_mem {ds : List PyData} (hal : AllAlike ds) (hk : ∀ d, d ∈ ds → setKey d = true) {d : PyData} : d ∈ uniq ds ↔ d ∈ ds := by
  refine ⟨uniq_sub, fun h => ?_⟩
  obtain ⟨e, h1, h2⟩ := uniq_all h
  have hs := hk d h
  cases hd : kN d with
  | none => cases d <;> simp [setKey, hd] at hs
  | some k =>
    rw [hd] at h2
    rw [← kN_inj e d k (hal e (uniq_sub h1) d h) h2 hd]
    exact h1
/-- the data of a list, sorted -/
def sortL (ds : List PyData) : List PyData := ds.mergeSort (dataLe false fun d => d)
theorem dataLe_id (d e : PyData) : dataLe false (fun d => d) d e = !dataLt e d := rfl
mutual
theorem toks_pre : ∀ (x y : PyData) (l m : List (Int ⊕ List Nat)), alike x y = true → keyToks x ++ l = keyToks y ++ m → x = y ∧ l = m
  | .none, y, l, m, h, e => by
    cases y <;> first | (simp [alike] at h; done) | exact ⟨rfl, by simpa [keyToks] using e⟩
  | .bool b, y, l, m, h, e => by
    cases y <;> first | (simp [alike] at h; done) | skip
    rename_i c
    simp only [keyToks, List.cons_append, List.nil_append, List.cons.injEq, Sum.inl.injEq] at e
    refine ⟨?_, e.2⟩
    cases b <;> cases c <;> first | rfl | (simp at e; done)
  | .int i, y, l, m, h, e => by
    cases y <;> first | (simp [alike] at h; done) | skip
    simp only [keyToks, List.cons_append, List.nil_append, List.cons.injEq, Sum.inl.injEq] at e
    exact ⟨by rw [e.1], e.2⟩
  | .str x, y, l, m, h, e => by
    cases y <;> first | (simp [alike] at h; done) | skip
    simp only [keyToks, List.cons_append, List.nil_append, List.cons.injEq, Sum.inr.injEq] at e
    exact ⟨by rw [str_of_cps e.1], e.2⟩
  | .list xs, y, l, m, h, e => by
    cases y <;> first | (simp [alike] at h; done) | skip
    obtain ⟨e1, e2⟩ := toks_pres xs _ l m (by simpa [alike] using h) (by simpa [keyToks] using e)
    exact ⟨by rw [e1], e2⟩
  | .tuple xs, y, l, m, h, e => by
    cases y <;> first | (simp [alike] at h; done) | skip
    obtain ⟨e1, e2⟩ := toks_pres xs _ l m (by simpa [alike] using h) (by simpa [keyToks] using e)
    exact ⟨by rw [e1], e2⟩
  | .dict _, y, l, m, h, e => by cases y <;> simp [alike] at h
theorem toks_pres : ∀ (xs ys : List PyData) (l m : List (Int ⊕ List Nat)), alikeAll xs ys = true → keyToksAll xs ++ l = keyToksAll ys ++ m → xs = ys ∧ l = m
  | [], [], l, m, h, e => by simp only [keyToksAll, List.cons_append, List.nil_append, List.cons.injEq, true_and] at e; exact ⟨rfl, e⟩
  | [], y :: ys, l, m, h, e => by simp [keyToksAll] at e
  | x :: xs, [], l, m, h, e => by simp [keyToksAll] at e
  | x :: xs, y :: ys, l, m, h, e => by
    simp only [keyToksAll, List.cons_append, List.append_assoc, List.cons.injEq, true_and] at e
    simp only [alikeAll, Bool.and_eq_true] at h
    obtain ⟨e1, e2⟩ := toks_pre x y _ _ h.1 e
    obtain ⟨e3, e4⟩ := toks_pres xs ys _ _ h.2 e2
    exact ⟨by rw [e1, e3], e4⟩
end
theorem dataLt_total {x y : PyData} (h : alike x y = true) (h1 : dataLt x y = false) (h2 : dataLt y x = false) : x = y :=
  (toks_pre x y [] [] h (by rw [List.append_nil, List.append_nil]; exact (listOrd itemOrd).total _ _ h1 h2)).1
theorem le_trans' (a b c : PyData) (h1 : dataLe false (fun d => d) a b = true) (h2 : dataLe false (fun d => d) b c = true) : dataLe false (fun d => d) a c = true := by
  rw [dataLe_id, Bool.not_eq_true'] at *
  exact KeyOrd.kle_trans (O := listOrd itemOrd) h1 h2
theorem le_total' (a b : PyData) : (dataLe false (fun d => d) a b || dataLe false (fun d => d) b a) = true := by
  rw [dataLe_id, dataLe_id]
  cases h : dataLt b a with
  | false => rfl
  | true =>
    cases h2 : dataLt a b with
    | false => rfl
    | true =>
      have := (listOrd itemOrd).trans _ _ _ h h2
      rw [(listOrd itemOrd).irrefl] at this; cases this
theorem sortL_perm (ds : List PyData) : (sortL ds).Perm ds := List.mergeSort_perm ds _
theorem sortL_pw (ds : List PyData) : (sortL ds).Pairwise fun a b => dataLt b a = false := by
  have := List.pairwise_mergeSort le_trans' le_total' ds
  exact List.Pairwise.imp (fun {a b} h => by rw [dataLe_id, Bool.not_eq_true'] at h; exact h) this
/-- two sorted lists of the same alike data are one -/
theorem sorted_one : ∀ {l m : List PyData}, l.Perm m → AllAlike l → l.Pairwise (fun a b => dataLt b a = false) → m.Pairwise (fun a b => dataLt b a = false) → l = m
  | [], m, p, _, _, _ => (List.Perm.nil_eq p)
  | a :: l, [], p, _, _, _ => by have := p.length_eq; simp at this
  | a :: l, b :: m, p, hal, h1, h2 => by
    have hab : a = b := by
      by_cases e : a = b
      · exact e
      · have hb : b ∈ a :: l := p.mem_iff.mpr (List.mem_cons_self ..)
        have ha : a ∈ b :: m := p.mem_iff.mp (List.mem_cons_self ..)
        rcases List.mem_cons.mp hb with z | z
        · exact z.symm
        · rcases List.mem_cons.mp ha with y | y
          · exact y
          · exact dataLt_total (hal _ (List.mem_cons_self ..) _ hb) ((List.pairwise_cons.mp h2).1 a y) ((List.pairwise_cons.mp h1).1 b z)
    subst hab
    rw [sorted_one (List.Perm.cons_inv p) (fun x hx y hy => hal x (List.mem_cons_of_mem _ hx) y (List.mem_cons_of_mem _ hy)) (List.pairwise_cons.mp h1).2 (List.pairwise_cons.mp h2).2]
theorem allAlike_perm {l m : List PyData} (p : l.Perm m) (h : AllAlike m) : AllAlike l := fun x hx y hy => h x (p.mem_iff.mp hx) y (p.mem_iff.mp hy)
theorem sortL_eq {l m : List PyData} (p : l.Perm m) (h : AllAlike m) : sortL l = sortL m :=
  sorted_one ((sortL_perm l).trans (p.trans (sortL_perm m).symm)) (allAlike_perm (sortL_perm l) (allAlike_perm p h)) (sortL_pw l) (sortL_pw m)
end PL

namespace PL
open PySem PySem.Spec PyProof.Rows L2 PySem.W PySem.SeqAt
section
variable {P : Program} {w : World} {A : Around} {E : Value → Shared → Prop} {s : Shared} {R : Value → PyData → Prop}
abbrev RdD (h : Heap) (v : Value) (d : PyData) : Prop := ∃ as, Reads h v d as
theorem rdD_up {h h' : Heap} {v : Value} {d : PyData} (k : ∀ b o, h.get? b = some o → h'.get? b = some o) : RdD h v d → RdD h' v d := fun ⟨as, r⟩ => ⟨as, PyProof.Rows.Reads.keeps (fun b o => k b o) r⟩
theorem sortVals_id {h' : Heap} {vs : List Value} {ds : List PyData} (e : EachIs R vs ds) (er : EachIs (RdD h') vs ds) (hal : AllAlike ds) : EachIs R (sortVals (dataKind h' ds) false vs vs) (sortL ds) := by
  have := sortVals_data (enc := fun d => d) (R := R) false e er (by rw [List.map_id']; exact hal)
  rw [List.map_id'] at this
  exact this
theorem sorted_list_any {l : Addr} {vs : List Value} {ds : List PyData} {Q : Value → Shared → Prop} (hl : s.heap.IsList l vs.toArray) (e : EachIs R vs ds) (er : EachIs (RdD s.heap) vs ds) (hal : AllAlike ds) (hn : ∀ d, d ∈ ds → d ≠ .none) (hL : ds.length ≤ sizeLine) (hu : ∀ d, d ∈ ds → A.units + 2 + d.depth < cLine)
    (q : ∀ out, out.length = ds.length → EachIs R out (sortL ds) → Q (.ref (s.heap.objs.size + 1)) { s with heap := sortedAll s.heap vs (List.toArray out) }) : wpAny (model P w) A (call (.builtin "sorted") [.ref l]) Q E s := by
  have er' : EachIs (RdD (sortingHeap (copyHeap s.heap vs) (s.heap.objs.size + 1) vs)) vs ds := er.mono fun _ _ => rdD_up fun _ _ => sorting_copy_old
  refine sorted_vals hl (κ := dataKind (sortingHeap (copyHeap s.heap vs) (s.heap.objs.size + 1) vs) ds) (sorts_all (s := { s with heap := sortingHeap (copyHeap s.heap vs) (s.heap.objs.size + 1) vs }) er' hal hn fun d hd => ?_) (by rw [e.length]; exact hL) (q _ ?_ (sortVals_id e er' hal))
  · have := hu d hd
    show A.units + 1 + 1 + d.depth < cLine
    omega
  · rw [sortVals_length false rfl]; exact e.length
theorem each_pick {vs : List Value} {ds : List PyData} {S : Value → PyData → Prop} (h : ∀ v, v ∈ vs → ∃ d, d ∈ ds ∧ S v d) : ∃ es, EachIs S vs es ∧ ∀ d, d ∈ es → d ∈ ds := by
  induction vs with
  | nil => exact ⟨[], .nil, fun d h => nomatch h⟩
  | cons v vs ih =>
    obtain ⟨d, h1, h2⟩ := h v (List.mem_cons_self ..)
    obtain ⟨es, h3, h4⟩ := ih fun u hu => h u (List.mem_cons_of_mem _ hu)
    exact ⟨d :: es, .cons h2 h3, fun e he => by
      rcases List.mem_cons.mp he with z | z
      · rw [z]; exact h1
      · exact h4 e z⟩
theorem pw_zip {α β : Type} {S : α → β → Prop} {T : α → α → Prop} {U : β → β → Prop} : ∀ {xs : List α} {ys : List β}, EachIs S xs ys → xs.Pairwise T → (∀ x x' y y', S x y → S x' y' → T x x' → U y y') → ys.Pairwise U
  | _, _, .nil, _, _ => .nil
  | _, _, .cons (as := xs) (bs := ys) r t, p, h => by
    obtain ⟨p1, p2⟩ := List.pairwise_cons.mp p
    refine List.pairwise_cons.mpr ⟨fun y hy => ?_, pw_zip t p2 h⟩
    obtain ⟨x, hx, sx⟩ := each_mem2 t y hy
    exact h _ _ _ _ r sx (p1 x hx)
theorem setKey_kN {d : PyData} (h : setKey d = true) : ∃ k xs, d = .tuple xs ∧ kN d = some k ∧ k.depth ≤ 8 := by
  cases d <;> first | (simp [setKey] at h; done) | skip
  rename_i xs
  simp only [setKey, Bool.and_eq_true, decide_eq_true_eq] at h
  obtain ⟨k, hk⟩ := Option.isSome_iff_exists.mp h.1
  exact ⟨k, xs, rfl, hk, by rw [kN_depth _ _ hk]; exact h.2⟩
theorem keyV_of {h : Heap} {v : Value} {d : PyData} (hk : setKey d = true) (r : RdD h v d) : KeyV h v := by
  obtain ⟨k, xs, rfl, h1, h2⟩ := setKey_kN hk
  obtain ⟨as, r⟩ := r
  cases r with
  | tuple g1 g2 g3 g4 => exact ⟨_, k, rfl, kN_is _ _ _ k (.tuple g1 g2 g3 g4) h1, h2⟩
/-- sorted(a set that was made of the items) -/
theorem sorted_set_any {a : Addr} {h0 : Heap} {items : List Value} {ds : List PyData} {Q : Value → Shared → Prop} (hh : A.handled = none) (dn : SetDone w h0 s.heap a items) (up : ∀ b o, h0.get? b = some o → s.heap.get? b = some o) (e : EachIs R items ds) (er : EachIs (RdD h0) items ds) (hal : AllAlike ds)
    (hk : ∀ d, d ∈ ds → setKey d = true) (hu : A.units + 16 < cLine)
    (q : ∀ s' p out c, (∀ b o, s.heap.get? b = some o → s'.heap.get? b = some o) → s'.gens = s.gens → s'.os = s.os → s.heap.objs.size ≤ p → s'.heap.get? p = some (seqObj "list" (List.toArray out) c) → EachIs R out (sortL (uniq ds)) → Q (.ref p) s') :
    wpAny (model P w) A (call (.builtin "sorted") [.ref a]) Q E s := by
  obtain ⟨es, ep, t, Fl⟩ := dn
  obtain ⟨o, ho, hex, hd⟩ := Fl.tab.at_
  have few := Fl.tab.few
  apply Calls.call_function_entry kind_sorted plain_sorted entry_sorted (args_sorted1 _)
  unfold Builtin.«sorted»
  refine wpAny_bind (m := checkCount "sorted" 1 1 _) (wpAny_pure ?_)
  apply wpAny_bind
  refine collect_set (A := A.in1) hh ⟨o, ho, hex.1, hd⟩ Fl.tab.fits (by unfold scanBound; omega) Fl.tab.tab.ris Fl.tab.led fun s1 vs up1 hz g1 o1 pm => ?_
  -- each value that is in the set, with its datum
  have both : EachIs (fun v d => (R v d ∧ RdD h0 v d) ∧ d ∈ ds) items ds := by
    have : ∀ {xs : List Value} {ys : List PyData}, EachIs R xs ys → EachIs (RdD h0) xs ys → EachIs (fun v d => R v d ∧ RdD h0 v d) xs ys := by
      intro xs ys h1
      induction h1 with
      | nil => intro _; exact .nil
      | cons r _ ih => intro h2; cases h2 with | cons r2 t2 => exact .cons ⟨r, r2⟩ (ih t2)
    exact each_mem (this e er)
  have inIt : ∀ v, v ∈ vs → v ∈ items := fun v hv => by
    obtain ⟨f, hf, rfl⟩ := List.mem_map.mp (pm.mem_iff.mp hv)
    have := Fl.sub f hf
    rwa [List.take_length] at this
  obtain ⟨dv, ev, dvs⟩ := each_pick (vs := vs) (ds := ds) (S := fun v d => R v d ∧ RdD h0 v d) fun v hv => by
    obtain ⟨d, hd, h1, h2⟩ := both.left v (inIt v hv)
    exact ⟨d, hd, h1⟩
  have evR : EachIs R vs dv := ev.mono fun _ _ h => h.1
  have evD : EachIs (RdD h0) vs dv := ev.mono fun _ _ h => h.2
  have key : ∀ {v : Value} {d : PyData}, d ∈ ds → RdD h0 v d → ∃ k, kN d = some k ∧ NestedIs h0 k v := fun {v d} hd ⟨as, r⟩ => by
    obtain ⟨k, xs, _, h1, _⟩ := setKey_kN (hk d hd)
    exact ⟨k, h1, kN_is d v as k r h1⟩
  -- no two of one key
  have apV : vs.Pairwise fun u v => ∀ k, NestedIs h0 k u → ¬ NestedIs h0 k v := by
    have h1 : (es.toList.map (·.2)).Pairwise fun u v => ∀ k, NestedIs h0 k u → ¬ NestedIs h0 k v := List.pairwise_map.mpr Fl.apart
    exact (pm.pairwise_iff fun {u v} z k hv hu => z k hu hv).mpr h1
  have apD : dv.Pairwise fun d e => d ≠ e := pw_zip (xs := vs) (S := fun v d => RdD h0 v d ∧ d ∈ dv) (each_mem evD) apV fun u v d e hu hv z hde => by
    subst hde
    obtain ⟨k, k1, k2⟩ := key (dvs _ hu.2) hu.1
    obtain ⟨j, j1, j2⟩ := key (dvs _ hv.2) hv.1
    rw [k1] at j1; cases j1
    exact z k k2 j2
  have memD : ∀ d, d ∈ dv ↔ d ∈ ds := fun d => ⟨dvs d, fun hd => by
    obtain ⟨v, hv, rv, _⟩ := each_mem2 both d hd
    obtain ⟨f, hf, k, kv, kf⟩ := Fl.all v (by rw [List.take_length]; exact hv)
    have hfv : f.2 ∈ vs := pm.mem_iff.mpr (List.mem_map.mpr ⟨f, hf, rfl⟩)
    obtain ⟨d', hd', rd'⟩ := evD.left f.2 hfv
    obtain ⟨j, j1, j2⟩ := key hd rv.2
    obtain ⟨i, i1, i2⟩ := key (dvs _ hd') rd'
    have e1 : j = k := NestedIs.inj _ _ _ j2 kv
    have e2 : i = k := NestedIs.inj _ _ _ i2 kf
    rw [e1] at j1; rw [e2] at i1
    rw [← kN_inj d' d k (hal _ (dvs _ hd') _ hd) i1 j1]
    exact hd'⟩
  have nodU : (uniq ds).Nodup := (uniq_apart ds).imp fun {a b} h z => h (by rw [z])
  have permD : dv.Perm (uniq ds) := (List.perm_ext_iff_of_nodup apD nodU).mpr fun d => by rw [memD d, uniq_mem hal hk]
  have halU : AllAlike (uniq ds) := fun x hx y hy => hal x (uniq_sub hx) y (uniq_sub hy)
  have halV : AllAlike dv := allAlike_perm permD halU
  -- the new list, sorted
  have hvl : vs.length = dv.length := ev.length
  have hvs : vs.length < 64 := by rw [pm.length_eq, List.length_map, Array.length_toList]; exact few
  apply wpAny_bind
  refine wpAny_newList ?_ (by rw [sizeLine_eq]; omega)
  have hoL : (s1.heap.push (seqObj "list" vs.toArray 0)).get? s1.heap.objs.size = some (seqObj "list" vs.toArray 0) := Heap.get?_push_size _ rfl
  have up2 : ∀ b o, h0.get? b = some o → (s1.heap.push (seqObj "list" vs.toArray 0)).get? b = some o := fun b o z => Heap.get?_push_of_some _ (up1 b o (up b o z))
  have ltL : ∀ b o, h0.get? b = some o → b ≠ s1.heap.objs.size := fun b o z => Nat.ne_of_lt (Heap.lt_size (up1 b o (up b o z)))
  have er' : EachIs (RdD (sortingHeap (s1.heap.push (seqObj "list" vs.toArray 0)) s1.heap.objs.size vs)) vs dv := evD.mono fun _ _ => rdD_up fun b o z => sortingHeap_old (ltL b o z) (up2 b o z)
  apply wpAny_bind
  apply wpAny_holding
  refine wpAny_call_entry slot_list_sort ⟨_, hoL, rfl⟩ entry_list_sort (list_sort_vals (s := { s1 with heap := s1.heap.push (seqObj "list" vs.toArray 0) }) hoL (κ := dataKind (sortingHeap (s1.heap.push (seqObj "list" vs.toArray 0)) s1.heap.objs.size vs) dv)
    (sorts_all (s := { s1 with heap := sortingHeap (s1.heap.push (seqObj "list" vs.toArray 0)) s1.heap.objs.size vs }) er' halV (fun d hd z => ?_) fun d hd => ?_) (by rw [sizeLine_eq]; omega) ⟨_, rfl, ?_⟩) (args_list_sort _)
  · obtain ⟨k, xs, h1, _⟩ := setKey_kN (hk d (dvs d hd))
    rw [z] at h1; cases h1
  · obtain ⟨k, xs, h1, h2, h3⟩ := setKey_kN (hk d (dvs d hd))
    rw [← kN_depth d k h2]
    show A.units + 1 + 1 + k.depth < cLine
    omega
  · obtain ⟨c, hc⟩ := sortedHeap_at (vs := vs) (out := (sortVals (dataKind (sortingHeap (s1.heap.push (seqObj "list" vs.toArray 0)) s1.heap.objs.size vs) dv) false vs vs).toArray) hoL
    refine wpAny_pure ⟨_, rfl, q _ s1.heap.objs.size _ c (fun b o z => ?_) g1 o1 hz hc ?_⟩
    · have y := up1 b o z
      have hlt := Heap.lt_size y
      rw [sortedHeap_old (Nat.ne_of_lt hlt) (by rw [size_push']; exact Nat.lt_succ_of_lt hlt)]
      exact Heap.get?_push_of_some _ y
    · rw [← sortL_eq permD halU]
      exact sortVals_id evR er' halV
end
end PL

namespace PL
open PySem PySem.Spec PyProof.Rows L2 PySem.W PySem.SeqAt

theorem Dp_ext {K : KF} {F H : Hp} (e : Ext F H) : ∀ (d : D) (v : V), d.canLay0 = true → Rp K F v d → Dp K H v d := fun d v hc h => Rp.dp d v hc (Rp.mono e h)
section
variable {X : Cx} {pins : List (Addr × Obj)} {σ : L2.St} {H : Hp} {s : Shared} {F : Hp}
/-- values that stand for data -/
abbrev Bears (K : KF) (F : Hp) (u : Value) (d : D) : Prop := ∃ y, RelV y u ∧ Rp K F y d
theorem bears_of {vs : List V} {us : List Value} {ds : List D} (r : Vals vs us) (h : Rps X.K F vs ds) : EachIs (Bears X.K F) us ds := by
  induction r generalizing ds with
  | nil => cases h; exact .nil
  | cons r1 _ ih => cases h with | cons h1 h2 => exact .cons ⟨_, r1, h1⟩ (ih h2)
theorem of_bears {us : List Value} {ds : List D} (h : EachIs (Bears X.K F) us ds) : ∃ vs, Vals vs us ∧ Rps X.K F vs ds := by
  induction h with
  | nil => exact ⟨[], .nil, .nil⟩
  | cons r _ ih =>
    obtain ⟨y, h1, h2⟩ := r
    obtain ⟨vs, h3, h4⟩ := ih
    exact ⟨y :: vs, .cons h1 h3, .cons h2 h4⟩
theorem reads_of (I : Inv X pins σ H s) (e : Ext F H) {us : List Value} {ds : List D} (hc : PyData.canLayAll0 ds = true) (h : EachIs (Bears X.K F) us ds) : EachIs (RdD s.heap) us ds := by
  induction h with
  | nil => exact .nil
  | cons r _ ih =>
    rename_i u d us' ds' _
    have hc' : d.canLay0 = true ∧ PyData.canLayAll0 ds' = true := by
      have : (d.canLay0 && PyData.canLayAll0 ds') = true := hc
      simpa using this
    obtain ⟨y, h1, h2⟩ := r
    exact .cons (Dp.reads I d y u (Dp_ext e d y hc'.1 h2) h1) (ih hc'.2)
/-- a list of data that can be sorted -/
def sortable (ds : List D) : Bool := (ds.all fun d => ds.all fun e => alike d e) && (ds.all fun d => match d with | .none => false | _ => true) && (ds.all fun d => decide (d.depth ≤ 64)) && PyData.canLayAll0 ds && lim ds.length
theorem sortable_iff {ds : List D} (h : sortable ds = true) : AllAlike ds ∧ (∀ d, d ∈ ds → d ≠ .none) ∧ (∀ d, d ∈ ds → d.depth ≤ 64) ∧ PyData.canLayAll0 ds = true ∧ ds.length ≤ sizeLine := by
  simp only [sortable, Bool.and_eq_true, List.all_eq_true, decide_eq_true_eq] at h
  obtain ⟨⟨⟨⟨h1, h2⟩, h3⟩, h4⟩, h5⟩ := h
  exact ⟨fun d hd e he => h1 d hd e he, fun d hd z => (by have := h2 d hd; rw [z] at this; cases this), h3, h4, lim_le h5⟩
/-- sorted(a list) -/
def rSortD (X : Cx) : List V → Hp → VK → Prop := fun vs H Q => ∃ (F : Hp) (a : Addr) (xs : List V) (ds : List D), vs = [.ref a] ∧ SqL X.K H a xs ∧ Rps X.K F xs ds ∧ Ext F H ∧ sortable ds = true ∧ ∀ p ys, H p = none → Rps X.K F ys (sortL ds) → Q (.ref p) (upd H p (.lst ys))
theorem call_sortD (hu : X.A.units + 100 < cLine) : CallR X (.builtin "sorted") (rSortD X) := by
  intro pins s σ H vs us Q I r ⟨F, a, xs, ds, e1, hq, hr, hE, hs, q⟩
  subst e1
  obtain rfl := Vals.ref1 r
  obtain ⟨its, rv, pl, hz⟩ := I.list hq
  obtain ⟨s1, s2, s3, s4, s5⟩ := sortable_iff hs
  have eb := bears_of (X := X) rv hr
  refine sorted_list_any (R := Bears X.K F) (vs := its) pl.isList eb (reads_of I hE s4 eb) s1 s2 s5 (fun d hd => by have := s3 d hd; omega) fun out hl ho => ?_
  obtain ⟨ys, rv', hr'⟩ := of_bears ho
  obtain ⟨c, hc⟩ := sortedAll_at s.heap its out.toArray
  have hn : H (s.heap.objs.size + 1) = none := I.hok.fresh (Nat.le_succ _)
  refine ⟨.ref (s.heap.objs.size + 1), _, I.laid (t' := s.toks) (o := .lst ys) (fun b o e => sortedAll_old e) (Nat.le_succ _) ?_, rfl, q _ ys hn hr'⟩
  exact ⟨by rw [rv'.length, hl]; exact s5, out, c, rv', hc⟩
def sortedD : List D → Option R
  | [.list ds] => if sortable ds then some (.new (.list (sortL ds))) else none
  | _ => none
theorem cd_sorted (hu : X.A.units + 100 < cLine) : CallD X (.builtin "sorted") sortedD := by
  intro ps F G H σ env xs vs z Q S hv hg k
  unfold sortedD at hg
  split at hg
  · rename_i ds
    split at hg
    · rename_i hs
      cases hg
      obtain ⟨v, rfl, hq⟩ := paired1 hv
      obtain ⟨a, xs, rfl, h1, r⟩ := hq.list S
      refine ⟨_, call_sortD hu, F, a, xs, ds, rfl, h1, r, S.fh, hs, fun p ys hp hr => ?_⟩
      obtain ⟨S2, r2⟩ := fresh_lst S hp hr
      exact k F _ _ Ext.refl S2 r2
    · cases hg
  · cases hg
/-- a list of data that can make a set -/
def settable (ds : List D) : Bool := sortable ds && (ds.all setKey) && decide (ds.length < 64)
/-- sorted(set(a list)) -/
def SortSetB (X : Cx) (Q : VK) : V → Hp → Prop := fun x H1 => ∃ (F : Hp) (a : Addr) (xs : List V) (ds : List D), x = .ref a ∧ SqL X.K H1 a xs ∧ Rps X.K F xs ds ∧ Ext F H1 ∧ settable ds = true ∧
  ∀ p ys, H1 p = none → Rps X.K F ys (sortL (uniq ds)) → Q (.ref p) (upd H1 p (.lst ys))
def tSortSet (X : Cx) (te : TE) : TE := fun σ H Q => te σ H (SortSetB X Q)
/-- the set that a list makes -/
theorem set_call (hc : X.calm = true) (hu : X.A.units + 100 < cLine) (I : Inv X pins σ H s) {a : Addr} {xs : List V} {ds : List D} (hq : SqL X.K H a xs) (hr : Rps X.K F xs ds) (hE : Ext F H) (hs : settable ds = true) {Q : Value → Shared → Prop}
    (q : ∀ (items : List Value) (h' : Heap) (tk : Nat), SetDone X.w s.heap h' s.heap.objs.size items → (∀ b o, s.heap.get? b = some o → h'.get? b = some o) → EachIs (Bears X.K F) items ds → EachIs (RdD s.heap) items ds → Q (.ref s.heap.objs.size) { s with heap := h', toks := tk }) :
    wpAny (model X.prog X.w) X.A (call (.type "set") [.ref a]) Q X.xe s := by
  simp only [settable, Bool.and_eq_true, List.all_eq_true, decide_eq_true_eq] at hs
  obtain ⟨⟨h1, h2⟩, h3⟩ := hs
  obtain ⟨s1, s2, s3, s4, s5⟩ := sortable_iff h1
  obtain ⟨its, rv, pl, hz⟩ := I.list hq
  have eb := bears_of (X := X) rv hr
  have er := reads_of I hE s4 eb
  have hl : its.length = ds.length := eb.length
  refine set_of_list (I.ok.hd hc) (items := its.toArray) pl.isList (fun v hv => ?_) (by rw [List.size_toArray]; omega) (by omega) fun h' tk dn up => q its h' tk (by simpa using dn) up eb er
  obtain ⟨d, hd, rd⟩ := er.left v (by simpa using hv)
  exact keyV_of (h2 d hd) rd
theorem uniq_len : ∀ ds : List D, (uniq ds).length ≤ ds.length
  | [] => Nat.le_refl _
  | d :: ds => by
    have h1 := List.length_filter_le (fun e => !decide (kN e = kN d)) (uniq ds)
    have h2 := uniq_len ds
    show ((uniq ds).filter _).length + 1 ≤ ds.length + 1
    omega
theorem pe_sortSet {e : Expr} {te : TE} {p p2 pos pos2 : Pos} (hc : X.calm = true) (hu : X.A.units + 100 < cLine) (hg : Gl X "sorted") (hm : X.mg "sorted" = none) (hg2 : Gl X "set") (hm2 : X.mg "set" = none) (he : PE X e te)
    (hs : starEach [e] X.env = (false, eval e X.env) :: starEach [] X.env := by rfl) : PE X (.Call (.Name "sorted" p) [.Call (.Name "set" p2) [e] [] pos2] [] pos) (tSortSet X te) := by
  refine ⟨fun pins s σ H Q I h => ?_⟩
  refine wpAny_Call_Name_kw (ld_blt I hg hm (by rfl) ?_ (by decide) (by decide))
  refine PyProof.Rows.callWith_builtin1 ?_ (by rfl) (by rfl)
  show wpAny _ _ (spliced ((false, eval (.Call (.Name "set" p2) [e] [] pos2) X.env) :: backTo pos (starEach [] X.env))) _ _ s
  apply Calls.spliced_cons
  refine wpAny_Call_Name_kw (ld_blt I hg2 hm2 (by rfl) ?_ (by decide) (by decide))
  refine PyProof.Rows.callWith_type1 (thn ((pa_cons he pa_nil hs).run pos2 pins s σ H (fun vs H1 => match vs with | [x] => SortSetB X Q x H1 | _ => False) I h) ?_) hs (by rfl)
  rintro us s1 ⟨vs, H1, I1, r1, wish⟩
  match vs, r1, wish with
  | [x], r1, ⟨F, a, xs, ds, ex, hq, hr, hE, hst, q⟩ =>
    subst ex
    obtain rfl := Vals.ref1 r1
    refine set_call hc hu I1 hq hr hE hst fun items h' tk dn up eb er => ?_
    apply Calls.spliced_nil
    simp only [settable, Bool.and_eq_true, List.all_eq_true, decide_eq_true_eq] at hst
    obtain ⟨⟨h1, h2⟩, h3⟩ := hst
    obtain ⟨s1', s2', s3', s4', s5'⟩ := sortable_iff h1
    refine sorted_set_any (s := { s1 with heap := h', toks := tk }) (h0 := s1.heap) (I1.ok.hd hc) dn up eb er s1' h2 (by omega) fun s' p out c up2 g o hp hg ho => ?_
    have up3 : ∀ b o, s1.heap.get? b = some o → s'.heap.get? b = some o := fun b o z => up2 b o (up b o z)
    have hsz : s1.heap.objs.size ≤ h'.objs.size := by
      obtain ⟨es, ep, t, Fl⟩ := dn
      obtain ⟨o, ho, _⟩ := Fl.tab.at_
      exact Nat.le_of_lt (Heap.lt_size ho)
    have hp' : s1.heap.objs.size ≤ p := Nat.le_trans hsz hp
    obtain ⟨ys, rv', hr'⟩ := of_bears ho
    have hn : H1 p = none := I1.hok.fresh hp'
    have few : ys.length ≤ sizeLine := by
      have l1 : ys.length = (sortL (uniq ds)).length := hr'.length
      have l2 := (sortL_perm (uniq ds)).length_eq
      have l3 : (uniq ds).length ≤ ds.length := uniq_len ds
      rw [sizeLine_eq]; omega
    have J : Inv X pins σ (upd H1 p (.lst ys)) { s1 with heap := s'.heap, gens := s'.gens, drawn := s'.drawn, toks := s'.toks } :=
      I1.call (ch := []) (Un.laid up3 hp' hn) (I1.hok.laid up3 hp' ⟨few, out, c, rv', hg⟩) (by rw [g]; exact I1.bare) fun _ z => nomatch z
    have e : s' = { s1 with heap := s'.heap, gens := s'.gens, drawn := s'.drawn, toks := s'.toks } := by
      cases s'; cases s1; cases o; rfl
    rw [e]
    exact ⟨.ref p, _, J, rfl, q p ys hn hr'⟩
  | [], _, w => exact w.elim
  | _ :: _ :: _, _, w => exact w.elim
def eSortSet (m : M R) : M R := fun env => (mP m env).bind fun r e => match get r e with
  | some (.list ds) => if settable ds then .ok (.new (.list (sortL (uniq ds)))) e else .no
  | _ => .no
theorem se_sortSet {e : Expr} {m : M R} {p p2 pos pos2 : Pos} (hc : X.calm = true) (hu : X.A.units + 100 < cLine) (hg : Gl X "sorted") (hm : X.mg "sorted" = none) (hg2 : Gl X "set") (hm2 : X.mg "set" = none) (he : SE X e m)
    (hs : starEach [e] X.env = (false, eval e X.env) :: starEach [] X.env := by rfl) : SE X (.Call (.Name "sorted" p) [.Call (.Name "set" p2) [e] [] pos2] [] pos) (eSortSet m) := fun ps F G H σ env Q S hp => by
  refine ⟨_, pe_sortSet hc hu hg hm hg2 hm2 peU hs, he.useP S hp fun r e1 F1 H1 v E1 S1 hr hk => ?_⟩
  split at hk
  · rename_i ds hd
    split at hk
    · rename_i hs
      obtain ⟨a, xs, rfl, h1, r⟩ := (hr.rq S1 hd).list S1
      refine ⟨F1, a, xs, ds, rfl, h1, r, S1.fh, hs, fun p ys hp hr => ?_⟩
      obtain ⟨S2, r2⟩ := fresh_lst S1 hp hr
      exact hk F1 _ Ext.refl S2 _ r2
    · exact hk.elim
  · exact hk.elim
end
end PL

namespace PL
open PySem PySem.Spec PyProof.Rows L2 PySem.W PySem.SeqAt

/-! ### repr -/
def showOk (x : D) : Bool := x.canLay0 && decide (x.depth ≤ 64) && !x.hasDict && x.showable && lim x.shown.length
def reprD : List D → Option R
  | [.list ds] => if showOk (.list ds) then some (.d (.str (PyData.list ds).shown)) else none
  | [.tuple ds] => if showOk (.tuple ds) then some (.d (.str (PyData.tuple ds).shown)) else none
  | _ => none
section
variable {X : Cx}
theorem call_reprD (hgd : X.A.guards = some []) (hu : X.A.units + 100 < cLine) : CallR X (.builtin "repr") (fun vs H Q => ∃ (a : Addr) (d : D), vs = [.ref a] ∧ Dp X.K H (.ref a) d ∧ showOk d = true ∧ Q (.str d.shown) H) := by
  intro pins s σ H vs us Q I r ⟨a, d, ev, hd, hs, q⟩
  subst ev
  obtain rfl := Vals.ref1 r
  simp only [showOk, Bool.and_eq_true, decide_eq_true_eq, Bool.not_eq_true'] at hs
  obtain ⟨⟨⟨⟨h1, h2⟩, h3⟩, h4⟩, h5⟩ := hs
  obtain ⟨as, rd⟩ := Dp.reads I d (.ref a) (.ref a) hd rfl
  refine repr_of_reads' (h₀ := s.heap) rd h4 (fun z => by rw [h3] at z; cases z) hgd (by omega) (fun _ _ e => e) (fun h' u tk k => ?_) (lim_le h5)
  exact ⟨.str d.shown, H, I.kept (t' := tk) k, ⟨u, rfl⟩, q⟩
theorem cd_repr (hgd : X.A.guards = some []) (hu : X.A.units + 100 < cLine) : CallD X (.builtin "repr") reprD := by
  intro ps F G H σ env xs vs z Q S hv hg k
  unfold reprD at hg
  split at hg
  · rename_i ds
    split at hg
    · rename_i hs
      cases hg
      obtain ⟨v, rfl, hq⟩ := paired1 hv
      have hs' := hs
      simp only [showOk, Bool.and_eq_true] at hs'
      obtain ⟨a, xs, rfl, _⟩ := hq.list S
      exact ⟨_, call_reprD hgd hu, a, _, rfl, hq.dp S hs'.1.1.1.1, hs, k F H _ Ext.refl S (.str _)⟩
    · cases hg
  · rename_i ds
    split at hg
    · rename_i hs
      cases hg
      obtain ⟨v, rfl, hq⟩ := paired1 hv
      have hs' := hs
      simp only [showOk, Bool.and_eq_true] at hs'
      obtain ⟨a, xs, rfl, _⟩ := hq.tuple S
      exact ⟨_, call_reprD hgd hu, a, _, rfl, hq.dp S hs'.1.1.1.1, hs, k F H _ Ext.refl S (.str _)⟩
    · cases hg
  · cases hg
end
end PL

namespace PL
open PySem PySem.Spec PyProof.Rows L2 PySem.SeqAt

/-! ### methods that only read: texts, lists -/
abbrev Rd1 := D → List D → Option R
def tyOk (T : String) : D → Bool
  | .str _ => decide (T = "str")
  | .list _ => decide (T = "list")
  | .int _ => decide (T = "int")
  | _ => false
def eMth (T : String) (f : Rd1) (mo : M R) (ms : List (M R)) : M R := fun env => (mP mo env).bind fun r e => match get r e with
  | some x0 => if tyOk T x0 then (mArgs ms e).bind fun rs e2 => match get r e2, getAll rs e2 with
      | some x, some as => ofO (f x as) e2
      | _, _ => .no
    else .no
  | none => .no
def MthR (X : Cx) (id : String) (f : Rd1) : Prop := ∀ (ps : List V) (F G H : Hp) (σ : St) (env : Env') (x : D) (as : List D) (u : V) (vs : List V) (z : R) (Q : VK), Sta X.K ps F G H σ env → Rq X.K F H u x → Paired (Rq X.K F H) vs as → f x as = some z →
  Cont X.K ps F G σ env Q z → ∃ t, MtR X id t ∧ t u vs H Q
section
variable {X : Cx} {T id : String} {name : Str} {f : Rd1} {o e : Expr} {es : List Expr} {mo m : M R} {ms : List (M R)} {apos cpos : Pos}
theorem tyV_of {ps : List V} {F G H : Hp} {σ : St} {env : Env'} {x : D} {u : V} (S : Sta X.K ps F G H σ env) (h : Rq X.K F H u x) (ht : tyOk T x = true) : tyV X.K T u H := by
  cases x <;> first | (cases ht; done) | skip
  · rename_i i
    rw [h.int]
    have h2 : T = "int" := of_decide_eq_true ht
    exact h2
  · rename_i z
    rw [h.str]
    have h2 : T = "str" := of_decide_eq_true ht
    exact h2
  · obtain ⟨a, xs, rfl, h1, _⟩ := h.list S
    exact .inl ⟨of_decide_eq_true ht, xs, h1⟩
theorem se_mth (hm : MthR X id f) (pa : PlainAttrs T) (slot : PySem.Slot T name id) (hty : typeOf (.builtin id) = pure (.type "method_descriptor")) (ho : SE X o mo) (ha : SA X (e :: es) (mArgs (m :: ms)))
    (hbase : attributeBase o name X.env (eval o X.env) = eval o X.env := by rfl)
    (hfew : ((backTo cpos (starEach (e :: es) X.env)).all (fun x => !x.1) && (backToKw cpos (keywordEach [] X.env)).all (fun x => x.1.isSome)
      && decide ((e :: es).length + ([] : List Keyword).length + (if ([] : List Keyword).isEmpty then 0 else 1) < 30)) = true := by rfl)
    (hline : (apos.endLine == cpos.line) = true := by rfl) (hs : starEach (e :: es) X.env = (false, eval e X.env) :: starEach es X.env := by rfl) (hplain : (backTo cpos (starEach es X.env)).any (·.1) = false := by rfl) :
    SE X (.Call (.Attribute o name apos) (e :: es) [] cpos) (eMth T f mo (m :: ms)) := fun ps F G H σ env Q S hp => by
  refine ⟨_, pe_bm pa slot hty mtU_ok peU paU hbase hfew hline hs hplain, ?_⟩
  refine ho.useP S hp fun r e1 F1 H1 u E1 S1 hr hk => ?_
  split at hk
  · rename_i x0 hx0
    split at hk
    · rename_i ht
      refine ⟨tyV_of S1 (hr.rq S1 hx0) ht, ?_⟩
      refine ha ps F1 G H1 σ e1 _ S1 (hk.bind fun rs e2 F2 H2 E2 S2 hk2 vs hvs => ?_)
      split at hk2
      · rename_i x as hx has
        cases hf : f x as with
        | none => rw [hf] at hk2; exact hk2.elim
        | some z =>
          rw [hf] at hk2
          exact hm ps F2 G H2 σ e2 x as u vs z Q S2 ((hr.mono E2).rq S2 hx) (getAll_rq S2 hvs has) hf fun F' H' w E' S' r' => hk2 F' H' E' S' w r'
      · exact hk2.elim
    · exact hk.elim
  · exact hk.elim
theorem se_mth0 (hm : MthR X id f) (pa : PlainAttrs T) (slot : PySem.Slot T name id) (hty : typeOf (.builtin id) = pure (.type "method_descriptor")) (ho : SE X o mo)
    (hbase : attributeBase o name X.env (eval o X.env) = eval o X.env := by rfl) (hline : (apos.endLine == cpos.line) = true := by rfl) : SE X (.Call (.Attribute o name apos) [] [] cpos) (eMth T f mo []) := fun ps F G H σ env Q S hp => by
  refine ⟨_, pe_bm0 pa slot hty mtU_ok peU hbase hline, ?_⟩
  refine ho.useP S hp fun r e1 F1 H1 u E1 S1 hr hk => ?_
  split at hk
  · rename_i x0 hx0
    split at hk
    · rename_i ht
      refine ⟨tyV_of S1 (hr.rq S1 hx0) ht, ?_⟩
      have e0 : mArgs [] e1 = .ok [] e1 := rfl
      rw [e0] at hk
      simp only [Res.bind, getAll, hx0] at hk
      cases hf : f x0 [] with
      | none => rw [hf] at hk; exact hk.elim
      | some z =>
        rw [hf] at hk
        exact hm ps F1 G H1 σ e1 x0 [] u [] z Q S1 (hr.rq S1 hx0) .nil hf fun F' H' w E' S' r' => hk F' H' E' S' w r'
    · exact hk.elim
  · exact hk.elim
end
def strsD : List D → Option (List Str)
  | [] => some []
  | .str x :: ds => (strsD ds).map (x :: ·)
  | _ :: _ => none
theorem strsD_eq : ∀ {ds : List D} {xs : List Str}, strsD ds = some xs → ds = xs.map PyData.str
  | [], _, h => by cases h; rfl
  | .str x :: ds, _, h => by
    obtain ⟨ys, h1, rfl⟩ := Option.map_eq_some_iff.mp h
    rw [strsD_eq h1]; rfl
  | .none :: _, _, h => by cases h
  | .bool _ :: _, _, h => by cases h
  | .int _ :: _, _, h => by cases h
  | .list _ :: _, _, h => by cases h
  | .tuple _ :: _, _, h => by cases h
  | .dict _ :: _, _, h => by cases h
theorem strsD_map : ∀ xs : List Str, strsD (xs.map PyData.str) = some xs
  | [] => rfl
  | x :: xs => by show (strsD (xs.map PyData.str)).map (x :: ·) = _; rw [strsD_map xs]; rfl
theorem Rps.strs {K : KF} {F : Hp} : ∀ {vs : List V} (xs : List Str), Rps K F vs (xs.map PyData.str) → vs = xs.map V.str
  | [], [], _ => rfl
  | [], _ :: _, h => by cases h
  | _ :: _, [], h => by cases h
  | _ :: _, _ :: xs, h => by
    cases h with
    | cons h1 h2 => cases h1; rw [Rps.strs xs h2]; rfl
def joinF : Rd1
  | .str a, [.list ds] => (strsD ds).bind fun ys => if (ys.map (·.length)).sum + ys.length * a.length ≤ 16777216 then some (.d (.str (Txt.join a ys))) else none
  | .str a, [.tuple ds] => (strsD ds).bind fun ys => if (ys.map (·.length)).sum + ys.length * a.length ≤ 16777216 then some (.d (.str (Txt.join a ys))) else none
  | _, _ => none
def countF : Rd1
  | .list ds, [d] => if PyData.canLayAll0 ds && d.canLay0 && decide (d.depth ≤ 64) then some (.d (.int ((ds.countP fun y => PyData.eqv y d : Nat) : Int))) else none
  | _, _ => none
def indexF : Rd1
  | .list ds, [d] => if shaped (.list ds) && shaped d then (ds.findIdx? fun y => PyData.eqv y d).map fun j => .d (.int (j : Nat)) else none
  | _, _ => none
section
variable {X : Cx}
theorem mth_join : MthR X "str.join" joinF := by
  intro ps F G H σ env x as u vs z Q S hx hv hf k
  unfold joinF at hf
  split at hf
  · rename_i a ds
    obtain ⟨ys, h1, h2⟩ := Option.bind_eq_some_iff.mp hf
    split at h2
    · rename_i hl
      cases h2
      obtain ⟨v, rfl, hq⟩ := paired1 hv
      obtain ⟨p, xs, rfl, h3, r⟩ := hq.list S
      rw [strsD_eq h1] at r
      refine ⟨_, mt_join, a, p, ys, hx.str, rfl, .inl ?_, hl, k F H _ Ext.refl S (.str _)⟩
      rw [← Rps.strs ys r]; exact h3
    · cases h2
  · rename_i a ds
    obtain ⟨ys, h1, h2⟩ := Option.bind_eq_some_iff.mp hf
    split at h2
    · rename_i hl
      cases h2
      obtain ⟨v, rfl, hq⟩ := paired1 hv
      obtain ⟨p, xs, rfl, h3, r⟩ := hq.tuple S
      rw [strsD_eq h1] at r
      refine ⟨_, mt_join, a, p, ys, hx.str, rfl, .inr ?_, hl, k F H _ Ext.refl S (.str _)⟩
      rw [← Rps.strs ys r]; exact h3
    · cases h2
  · cases hf
theorem mt_countD (hu : X.A.units + 100 < cLine) : MtR X "list.count" (fun x xs H Q => ∃ (a : Addr) (y : V) (ds : List D) (d : D), x = .ref a ∧ xs = [y] ∧ Dp X.K H (.ref a) (.list ds) ∧ Dp X.K H y d ∧ PyData.canLayAll0 ds = true ∧ d.canLay0 = true ∧ d.depth ≤ 64 ∧ Q (.int ((ds.countP fun y => PyData.eqv y d : Nat) : Int)) H) := by
  intro pins s σ H x xs v us Q I rx rxs ⟨a, y, ds, d, e1, e2, hl, hd, c1, c2, c3, q⟩
  subst e1 e2
  cases rx
  obtain ⟨u, rfl, ru⟩ := rxs.one
  obtain ⟨bs, rd⟩ := Dp.reads I d y u hd ru
  obtain ⟨as, rl⟩ := Dp.reads I (.list ds) (.ref a) (.ref a) hl rfl
  cases rl with
  | @list l o vs n _ as₁ h1 h2 h3 h4 =>
    have := Nat.min_le_right (PyData.depthAll ds) d.depth
    exact count_list_data ⟨_, h1, h2, _, h3⟩ h4 rd (PyData.plainAll_of_canLay0 ds c1) (PyData.plain_of_canLay0 d c2) (by omega) ⟨.int _, H, I.tok _, ⟨_, rfl⟩, q⟩
theorem mth_count (hu : X.A.units + 100 < cLine) : MthR X "list.count" countF := by
  intro ps F G H σ env x as u vs z Q S hx hv hf k
  unfold countF at hf
  split at hf
  · rename_i ds d
    split at hf
    · rename_i hc
      cases hf
      simp only [Bool.and_eq_true, decide_eq_true_eq] at hc
      obtain ⟨v, rfl, hq⟩ := paired1 hv
      obtain ⟨a, xs, rfl, h3, r⟩ := hx.list S
      exact ⟨_, mt_countD hu, a, v, ds, d, rfl, rfl, hx.dp S hc.1.1, hq.dp S hc.1.2, hc.1.1, hc.1.2, hc.2, k F H _ Ext.refl S (.int _)⟩
    · cases hf
  · cases hf
theorem mth_index (hu : X.A.units + 100 < cLine) : MthR X "list.index" indexF := by
  intro ps F G H σ env x as u vs z Q S hx hv hf k
  unfold indexF at hf
  split at hf
  · rename_i ds d
    split at hf
    · rename_i hc
      simp only [Bool.and_eq_true] at hc
      obtain ⟨j, hj, e⟩ := Option.map_eq_some_iff.mp hf
      cases e
      obtain ⟨hj1, hj2, hj3⟩ := List.findIdx?_eq_some_iff_getElem.mp hj
      obtain ⟨v, rfl, hq⟩ := paired1 hv
      obtain ⟨a, xs, rfl, h3, r⟩ := hx.list S
      refine ⟨_, mt_indexD (by omega), a, v, d, ds, j, ds[j], rfl, rfl, hx.dp S (canLay_of_shaped hc.1), hq.dp S (canLay_of_shaped hc.2), hc.1, hc.2, List.getElem?_eq_getElem hj1, hj2, fun m z' hm hz => ?_, k F H _ Ext.refl S (.int _)⟩
      obtain ⟨hm1, hm2⟩ := List.getElem?_eq_some_iff.mp hz
      have := hj3 m hm
      subst hm2
      simpa using this
    · cases hf
  · cases hf
end
end PL

namespace PL
open PySem PySem.Spec PyProof.Rows L2

/-! ### dict comprehensions, keys ints or texts -/
def dcM (step : D → M (Option (D × D))) (vs : List Nat) : List D → List (D × D) → M (List (D × D))
  | [], out, e => .ok out e
  | d :: ds, out, env => (step d env).bind fun o e => match o with
    | some y => (match keyOfD y.1 with
      | some k => dcM step vs ds (putD out k y.2) (wipeE e vs)
      | none => .no)
    | none => dcM step vs ds out (wipeE e vs)
def dcStep (p : Pat) (t : M Bool) (mk el : M R) (d : D) : M (Option (D × D)) := fun env => match asgP p d env with
  | some e => (t e).bind fun b e1 => if b then (mD mk e1).bind fun k e2 => (mD el e2).bind fun y e3 => .ok (some (k, y)) e3 else .ok none e1
  | none => .no
def eDC (it : M (List D)) (p : Pat) (t : M Bool) (mk el : M R) (vs : List Nat) : M R := fun env => (it env).bind fun ds e0 =>
  if lim ds.length then (inside (dcM (dcStep p t mk el) vs ds [] (wipeE e0 vs))).bind fun out e => .ok (.new (.dict out)) (restE e0 e vs) else .no
section
variable {X : Cx} {tg iter elt kx : Expr} {ifs : List Expr} {scope : Scope} {own : List (Str × Nat)} {pos : Pos} {it : M (List D)} {p : Pat} {t : M Bool} {el mk : M R}
theorem dc_end (hi : SI X tg iter it) (hg : ∀ s H C cl fp, SG (BX X scope s H C cl fp) tg p) (ht : ∀ s H C cl fp, STs (BX X scope s H C cl fp) ifs t) (hk : ∀ s H C cl fp, SE (BX X scope s H C cl fp) kx mk) (he : ∀ s H C cl fp, SE (BX X scope s H C cl fp) elt el)
    (hv : ∀ j ∈ p.ix, j ∈ own.map (·.2)) {ps : List V} {F G H : Hp} {σ : St} {env : Env'} {Q : VK} (S : Sta X.K ps F G H σ env)
    (hp : Post X ps F G σ (fun r e' F' H' => ∀ v, RelR X.K F' G H' σ e' v r → Q v H') (eDC it p t mk el (own.map (·.2)) env)) :
    tDc (tiU X tg iter) (tgBl X scope tg) (ttsBl X scope ifs) (tBl X scope kx) (tBl X scope elt) (own.map (·.2)) σ H Q := by
  generalize hvs : own.map (·.2) = vs at *
  refine hi ps F G H σ env _ S (hp.bind fun ds e0 F1 H1 E1 S1 hkk J hJ => fun D hD => ?_)
  have hF1 := S1.fnone hD
  split at hkk
  case isFalse => exact bad hkk
  rename_i hlim
  cases hr : dcM (dcStep p t mk el) vs ds [] (wipeE e0 vs) with
  | ex c x e => rw [hr] at hkk; exact bad hkk
  | no => rw [hr] at hkk; exact bad hkk
  | ok outN eN =>
  rw [hr] at hkk
  have fin : ∀ F' H' acc, Ext F1 F' → Sta X.K ps F' (upd G D (.dK acc)) H' (L2.wipe σ vs) eN → Rks X.K F' acc outN → Q (.ref D) H' := fun F' H' acc E S' r => by
    obtain ⟨q1, q2, q3⟩ := S'.hidden
    have S2 := S1.rest E (S'.unhide hF1.2)
    refine hkk F' H' E S2 _ ⟨D, rfl, q2, hF1.2, ⟨acc, q1, r⟩, fun i s hs so z => ?_⟩
    rw [restE_get] at hs
    by_cases hm : i ∈ vs
    · rw [if_pos hm] at hs
      split at hs
      · have h2 := (keepS_some (Option.some.inj hs)).2
        rw [so] at h2; cases h2
      · cases hs
    · rw [if_neg hm] at hs
      exact q3 i s hs so (by rw [wipe_get, if_neg hm]; exact z)
  refine ⟨fun i m H => ∃ F' e acc out, Ext F1 F' ∧ Sta X.K ps F' (upd G D (.dK acc)) H (L2.wipe σ vs) e ∧ Rks X.K F' acc out ∧ m + i = ds.length + 1 ∧ out.length ≤ i ∧ dcM (dcStep p t mk el) vs (ds.drop i) out e = .ok outN eN,
    ⟨ds.length + 1, F1, wipeE e0 vs, [], [], Ext.refl, ?_, .nil, rfl, Nat.le_refl _, hr⟩, ?_⟩
  · refine ((S1.wipe vs).alloc hD).hide hF1.1 upd_same fun i s hs so z => ?_
    obtain ⟨v, q1, q2, _⟩ := (S1.wipe vs).slot i s hs
    cases hw : s.w with
    | d x => rw [hw] at so; cases so
    | o x =>
      rw [hw] at q2
      obtain ⟨a, rfl, _, _, ho⟩ := q2
      rw [q1] at z; cases z
      obtain ⟨u, hu, _⟩ := ho.has
      rw [hD] at hu; cases hu
  rintro i m H2 ⟨F2, e2, acc, out, E2, S2, r2, hm, hlen, hl2⟩
  obtain ⟨f1, f2⟩ := hJ ps F2 _ H2 _ e2 i E2 S2
  cases hd : ds[i]? with
  | none =>
    have hl := List.getElem?_eq_none_iff.mp hd
    rw [List.drop_eq_nil_of_le hl] at hl2
    cases hl2
    exact .inl ⟨f2 hd, fin F2 H2 acc E2 S2 r2⟩
  | some d =>
    obtain ⟨hl, hde⟩ := List.getElem?_eq_some_iff.mp hd
    have hdr : ds.drop i = d :: ds.drop (i + 1) := by rw [List.drop_eq_getElem_cons hl, hde]
    rw [hdr] at hl2
    obtain ⟨go, yld⟩ := f1 d hd
    refine .inr ⟨go, fun H' => ∃ F' e acc out, Ext F1 F' ∧ Sta X.K ps F' (upd G D (.dK acc)) H' (L2.wipe σ vs) e ∧ Rks X.K F' acc out ∧ out.length ≤ i + 1 ∧ dcM (dcStep p t mk el) vs (ds.drop (i + 1)) out e = .ok outN eN,
      fun H' ⟨F', e, acc, out, h1, h2, h3, h4, h5⟩ => ⟨m - 1, by omega, F', e, acc, out, h1, h2, h3, by omega, h4, h5⟩, fun x H' hy => ?_⟩
    obtain ⟨F3, E3, S3, r3⟩ := yld x H' hy
    unfold dcM dcStep at hl2
    cases ha : asgP p d e2 with
    | none => rw [ha] at hl2; cases hl2
    | some e3 =>
    rw [ha] at hl2
    dsimp only at hl2
    intro s0 H0 C0 cl0 fp0
    refine hg s0 H0 C0 cl0 fp0 ps F3 _ H' _ e2 x d e3 _ S3 r3 ha fun σ4 S4 c4 => ⟨c4.wipe hv, fun s1 H01 C1 cl1 fp1 => ?_⟩
    have back : ∀ {F' H' e'}, Sta X.K ps F' (upd G D (.dK acc)) H' σ4 e' → Sta X.K ps F' (upd G D (.dK acc)) H' (L2.wipe σ vs) (wipeE e' vs) := fun {F' H' e'} S => by
      have := S.wipe vs
      rw [c4.wipe hv] at this
      exact this
    refine ht s1 H01 C1 cl1 fp1 ps F3 _ H' σ4 e3 _ S4 ?_
    cases htr : t e3 with
    | ex c x e => rw [htr] at hl2; cases hl2
    | no => rw [htr] at hl2; cases hl2
    | ok b e4 =>
    rw [htr] at hl2
    intro F5 H5 E5 S5
    cases b with
    | false =>
      rw [if_neg Bool.false_ne_true]
      exact ⟨F5, wipeE e4 vs, acc, out, (E2.trans E3).trans E5, back S5, (r2.mono E3).mono E5, by omega, hl2⟩
    | true =>
      rw [if_pos rfl]
      intro s2 H02 C2 cl2 fp2
      have hl3 : (((mD mk e4).bind fun k e2 => (mD el e2).bind fun y e3 => Res.ok (some (k, y)) e3).bind fun o e => match o with
        | some y => (match keyOfD y.1 with
          | some k => dcM (dcStep p t mk el) vs (ds.drop (i + 1)) (putD out k y.2) (wipeE e vs)
          | none => .no)
        | none => dcM (dcStep p t mk el) vs (ds.drop (i + 1)) out (wipeE e vs)) = .ok outN eN := hl2
      cases hmk : mD mk e4 with
      | ex c x e => rw [hmk] at hl3; cases hl3
      | no => rw [hmk] at hl3; cases hl3
      | ok kd e5 =>
      rw [hmk] at hl3
      have hl4 : (((mD el e5).bind fun y e3 => Res.ok (some (kd, y)) e3).bind fun o e => match o with
        | some y => (match keyOfD y.1 with
          | some k => dcM (dcStep p t mk el) vs (ds.drop (i + 1)) (putD out k y.2) (wipeE e vs)
          | none => .no)
        | none => dcM (dcStep p t mk el) vs (ds.drop (i + 1)) out (wipeE e vs)) = .ok outN eN := hl3
      cases hel : mD el e5 with
      | ex c x e => rw [hel] at hl4; cases hl4
      | no => rw [hel] at hl4; cases hl4
      | ok y e6 =>
      rw [hel] at hl4
      have hl5 : (match keyOfD kd with
          | some k => dcM (dcStep p t mk el) vs (ds.drop (i + 1)) (putD out k y) (wipeE e6 vs)
          | none => .no) = .ok outN eN := hl4
      cases hkd : keyOfD kd with
      | none => rw [hkd] at hl5; cases hl5
      | some k =>
      rw [hkd] at hl5
      have hpk : Post (BX X scope s2 H02 C2 cl2 fp2) ps F5 (upd G D (.dK acc)) σ4 (fun (z : PyData) (e' : Env') _ _ => z = kd ∧ e' = e5) ((mD mk e4).bind fun z e => .ok z e) := by
        rw [hmk]; exact fun _ _ _ _ => ⟨rfl, rfl⟩
      refine (hk s2 H02 C2 cl2 fp2).useD (k := fun z e => .ok z e) S5 hpk fun z e6' F6 H6 v6 E6 S6 hv6 hk6 => ?_
      obtain ⟨rfl, rfl⟩ := hk6 F6 H6 Ext.refl S6
      intro s3 H03 C3 cl3 fp3
      have hpe : Post (BX X scope s3 H03 C3 cl3 fp3) ps F6 (upd G D (.dK acc)) σ4 (fun (z : PyData) (e' : Env') _ _ => z = y ∧ e' = e6) ((mD el e6').bind fun z e => .ok z e) := by
        rw [hel]; exact fun _ _ _ _ => ⟨rfl, rfl⟩
      refine (he s3 H03 C3 cl3 fp3).useD (k := fun z e => .ok z e) S6 hpe fun z7 e7 F7 H7 v7 E7 S7 hv7 hk7 => ?_
      obtain ⟨rfl, rfl⟩ := hk7 F7 H7 Ext.refl S7
      obtain ⟨g1, g2, g3⟩ := S7.hidden
      have r7 : Rks X.K F7 acc out := (((r2.mono E3).mono E5).mono E6).mono E7
      have ek : v6 = kV k := by
        cases z <;> first | (cases hkd; done) | skip
        · cases hkd; cases hv6; rfl
        · cases hkd; cases hv6; rfl
      have pl : (putD out k z7).length ≤ out.length + 1 := by
        unfold putD
        split
        · rw [List.length_map]; exact Nat.le_succ _
        · rw [List.length_append]; exact Nat.le_refl _
      refine ⟨acc, k, ek, g1, ?_, F7, wipeE e7 vs, putK acc k v7, putD out k z7, (((E2.trans E3).trans E5).trans E6).trans E7, (back S7).change (o := .dK acc) trivial, r7.put hv7, by omega, hl5⟩
      have := lim_le hlim
      rw [r7.length]; omega
theorem se_dc (hc : X.calm = true) (hN : X.N.Nodup) (hi : SI X tg iter it) (ok : BlkOk X.N X.env.scope scope own) (hv : (p.ix.all fun j => (own.map (·.2)).contains j) = true)
    (hg : ∀ s H C cl fp, SG (BX X scope s H C cl fp) tg p) (ht : ∀ s H C cl fp, STs (BX X scope s H C cl fp) ifs t) (hk : ∀ s H C cl fp, SE (BX X scope s H C cl fp) kx mk) (he : ∀ s H C cl fp, SE (BX X scope s H C cl fp) elt el) (hs : ∀ x, foldedSetIterable iter X.env x = pure x := by intro _; rfl) :
    SE X (.DictComp kx elt [⟨tg, iter, ifs, 0⟩] scope pos) (eDC it p t mk el (own.map (·.2))) := fun ps F G H σ env Q S hp =>
  ⟨_, pe_dc hc hN piU ok (fun s H C cl fp => ⟨fun pins s' σ H v u Q I r h => pgU.run pins s' σ H v u Q I r (h s _ C cl fp)⟩) (fun s H C cl fp => ⟨fun pins s' σ H Q I h => let ⟨_, h1, h2⟩ := h s _ C cl fp; h1.run pins s' σ H Q I h2⟩)
    (fun s H C cl fp => ⟨fun pins s' σ H Q I h => peU.run pins s' σ H Q I (h s _ C cl fp)⟩) (fun s H C cl fp => ⟨fun pins s' σ H Q I h => peU.run pins s' σ H Q I (h s _ C cl fp)⟩) hs, dc_end hi hg ht hk he (fun j hj => by simpa using List.all_eq_true.mp hv j hj) S hp⟩
end
/-! ### dict(a list of pairs) -/
def pairsD : List D → Option (List (Key × D))
  | [] => some []
  | .tuple [k, v] :: ds => match keyOfD k, pairsD ds with
    | some q, some r => some ((q, v) :: r)
    | _, _ => none
  | _ :: _ => none
def mergeD (acc : List (D × D)) (ps : List (Key × D)) : List (D × D) := ps.foldl (fun a p => putD a p.1 p.2) acc
def dictD : List D → Option R
  | [.list ds] => (pairsD ds).map fun ps => .new (.dict (mergeD [] ps))
  | _ => none
theorem pairsD_cons {d : D} {ds : List D} {ps : List (Key × D)} (h : pairsD (d :: ds) = some ps) : ∃ k v q r, d = .tuple [k, v] ∧ keyOfD k = some q ∧ pairsD ds = some r ∧ ps = (q, v) :: r := by
  unfold pairsD at h
  split at h
  · rename_i z; cases z
  · rename_i k v ds' z
    injection z with z1 z2
    subst z1 z2
    split at h
    · rename_i q r hq hr
      exact ⟨k, v, q, r, rfl, hq, hr, (Option.some.inj h).symm⟩
    · cases h
  · cases h
theorem rps_two {K : KF} {F : Hp} {xs : List V} {k v : D} (h : Rps K F xs [k, v]) : ∃ v1 v2, xs = [v1, v2] ∧ Rp K F v1 k ∧ Rp K F v2 v := by
  cases h with
  | cons h1 h2 =>
    cases h2 with
    | cons h3 h4 => cases h4; exact ⟨_, _, rfl, h1, h3⟩
theorem key_rel {K : KF} {F : Hp} {v : V} {k : D} {q : Key} (h : Rp K F v k) (hq : keyOfD k = some q) : v = kV q := by
  cases k <;> first | (cases hq; done) | skip
  · cases hq; cases h; rfl
  · cases hq; cases h; rfl
theorem pairsD_rel {K : KF} {F : Hp} : ∀ {ds : List D} {vs : List V} {ps : List (Key × D)}, Rps K F vs ds → pairsD ds = some ps → ∃ (as : List Addr) (kv : List (Key × V)), vs = as.map V.ref ∧ Paired (fun p q => SqT K F p [kV q.1, q.2]) as kv ∧ Paired (fun (q : Key × V) (p : Key × D) => q.1 = p.1 ∧ Rp K F q.2 p.2) kv ps := by
  intro ds
  induction ds with
  | nil => intro vs ps h e; cases h; cases e; exact ⟨[], [], rfl, .nil, .nil⟩
  | cons d ds ih =>
    intro vs ps h e
    obtain ⟨k, v, q, r, rfl, hq, hr, rfl⟩ := pairsD_cons e
    cases h with
    | cons h1 h2 =>
      obtain ⟨as, kv, rfl, p1, p2⟩ := ih h2 hr
      cases h1 with
      | tup g1 g2 =>
        obtain ⟨v1, v2, rfl, r1, r3⟩ := rps_two g2
        have ek := key_rel r1 hq
        subst ek
        exact ⟨_ :: as, (q, v2) :: kv, rfl, .cons g1 p1, .cons ⟨rfl, r3⟩ p2⟩
theorem merge_rel {K : KF} {F : Hp} : ∀ {kv : List (Key × V)} {ps : List (Key × D)} {acc : List (Key × V)} {accD : List (D × D)}, Paired (fun (q : Key × V) (p : Key × D) => q.1 = p.1 ∧ Rp K F q.2 p.2) kv ps → Rks K F acc accD → Rks K F (mergeK acc kv) (mergeD accD ps) := by
  intro kv ps acc accD h
  induction h generalizing acc accD with
  | nil => exact id
  | cons r _ ih => exact fun ha => ih (by show Rks K F (putK _ _ _) (putD _ _ _); rw [r.1]; exact ha.put r.2)
theorem cd_dict {X : Cx} (hc : X.calm = true) : CallD X (.type "dict") dictD := by
  intro ps F G H σ env xs vs z Q S hv hg k
  unfold dictD at hg
  split at hg
  · rename_i ds
    obtain ⟨ps, h1, rfl⟩ := Option.map_eq_some_iff.mp hg
    obtain ⟨v, rfl, hq⟩ := paired1 hv
    obtain ⟨a, xs, rfl, h3, r⟩ := hq.list S
    obtain ⟨as, kv, rfl, p1, p2⟩ := pairsD_rel r h1
    refine ⟨_, call_dictP hc, a, as, kv, rfl, h3, Paired.mapP p1 fun _ _ z => S.fh.sqT z, fun p hp => ?_⟩
    obtain ⟨S2, r2⟩ := fresh_dct S hp (merge_rel p2 .nil)
    exact k F _ _ Ext.refl S2 r2
  · cases hg
end PL

namespace PL
open PySem PySem.Spec PyProof.Rows L2
section
variable {X : Cx}
theorem call_listS (hc : X.calm = true) : CallR X (.type "list") (fun xs H Q => ∃ x : Str, xs = [.str x] ∧ x.cps.size ≤ sizeLine ∧ ∀ l, H l = none → Q (.ref l) (upd H l (.lst (x.cps.toList.map fun c => V.str ⟨#[c]⟩)))) := by
  intro pins s σ H xs us Q I r ⟨x, ex, hz, q⟩
  subst ex
  obtain ⟨u, rfl, t, rfl⟩ := vals1 r
  refine call_list_str (I.ok.hd hc) x t (fun h' tk acc' c' k e it => ?_) hz
  have hv : Vals (x.cps.toList.map fun c => V.str ⟨#[c]⟩) acc'.toList := by
    obtain ⟨hl, hi⟩ := it
    have key : ∀ (l : List Nat) (us : List Value), l.length = us.length → (∀ (i : Nat) (v : Value), us[i]? = some v → ∃ (c : Nat) (t : Tok), l[i]? = some c ∧ v = Value.str ⟨#[c]⟩ t) → Vals (l.map fun c => V.str ⟨#[c]⟩) us := by
      intro l
      induction l with
      | nil => intro us h _; cases us with | nil => exact .nil | cons _ _ => simp at h
      | cons c l ih =>
        intro us h hh
        cases us with
        | nil => simp at h
        | cons u us =>
          obtain ⟨c', t', e1, e2⟩ := hh 0 u rfl
          simp at e1
          subst e1 e2
          exact .cons ⟨t', rfl⟩ (ih us (by simpa using h) fun i v hv => by simpa using hh (i + 1) v (by simpa using hv))
    refine key _ _ (by rw [Array.length_toList, Array.length_toList, hl]) fun i v hv => ?_
    rw [Array.getElem?_toList] at hv
    obtain ⟨c, u, e1, e2⟩ := hi i v hv
    exact ⟨c, u, by rw [Array.getElem?_toList]; exact e1, e2⟩
  refine ⟨.ref s.heap.objs.size, upd H s.heap.objs.size (.lst (x.cps.toList.map fun c => V.str ⟨#[c]⟩)), I.laid (t' := tk) k (Nat.le_refl _) (show ObjOk X.prog X.w _ h' _ (.lst _) from ⟨by rw [List.length_map, Array.length_toList]; exact hz, acc'.toList, c', hv, e⟩), rfl, q _ (I.hok.fresh (Nat.le_refl _))⟩
theorem rps_strD {K : KF} {F : Hp} (l : List Nat) : Rps K F (l.map fun c => V.str ⟨#[c]⟩) (l.map fun c => PyData.str ⟨#[c]⟩) := by
  induction l with
  | nil => exact .nil
  | cons c l ih => exact .cons (.str _) ih
/-- list(x) of a list, a tuple, a text -/
def list2D : List D → Option R
  | [.str x] => if lim x.cps.size then some (.new (.list (strD x))) else none
  | xs => listD xs
theorem cd_list2 (hc : X.calm = true) : CallD X (.type "list") list2D := by
  intro ps F G H σ env xs vs z Q S hv hg k
  unfold list2D at hg
  split at hg
  · rename_i x
    split at hg
    · rename_i hl
      cases hg
      obtain ⟨v, rfl, hq⟩ := paired1 hv
      refine ⟨_, call_listS hc, x, by rw [hq.str], lim_le hl, fun l hl => ?_⟩
      obtain ⟨S2, r2⟩ := fresh_lst S hl (rps_strD x.cps.toList)
      exact k F _ _ Ext.refl S2 r2
    · cases hg
  · exact cd_list ps F G H σ env _ vs z Q S hv hg k
/-- what is not reached -/
def sNo : M Fl := fun _ => .no
theorem ss_no {st : Stmt} : SS X st sNo := fun ps F G H σ env Dn S hp => hp.elim
end
end PL

namespace PL
open PySem PySem.Spec PyProof.Rows L2

/-! ### a, b = x, y with plain local names -/
def setAll (σ : St) : List Nat → List V → St
  | i :: is, v :: vs => setAll (σ.set i (some v)) is vs
  | _, _ => σ
section
variable {X : Cx} {ps : List V} {F G H : Hp}
theorem pend_store : ∀ {is : List Nat} {σ : St} {env env' : Env'} {vs : List V} {ws : List W}, Sta X.K ps F G H σ env → Pend X.K F G H σ env vs ws → asgWs is ws env = some env' → Sta X.K ps F G H (setAll σ is vs) env' := by
  intro is
  induction is with
  | nil =>
    intro σ env env' vs ws S r ha
    cases r with
    | nil => cases ha; exact S
    | d _ _ => cases ha
    | o _ _ _ => cases ha
  | cons i is ih =>
    intro σ env env' vs ws S r ha
    cases r with
    | nil => cases ha
    | d r rr => exact ih (S.storeD r i) (rr.setD (i := i) S (.d _) fun o => nomatch o) ha
    | o r n rr => exact ih (S.storeO r i) (rr.setD (i := i) S (.o _) fun _ => n) ha
end
section
variable {X : Cx} {pos pt pt2 px py pz : Pos} {kt k2 : Nat} {a b c : Expr} {i j l : Nat} {x y z : Str} {ms : List (M R)}
theorem ss_par2 {pt2 : Pos} (hc : X.calm = true) (hN : X.N.Nodup) (hi : X.N[i]? = some x) (hj : X.N[j]? = some y) (hij : i ≠ j)
    (hx : X.env.scope.names.lookup x = some .local) (hy : X.env.scope.names.lookup y = some .local) (ha : SWs X [a, b] (mWs ms))
    (hw : swappedStores [.Tuple [.Name x px, .Name y py] kt pt] (.Tuple [a, b] k2 pt2) X.env = pure (some [x, y]))
    (hs : swapsWithSole [.Tuple [.Name x px, .Name y py] kt pt] (.Tuple [a, b] k2 pt2) pos.line X.env = pure false := by rfl) :
    SS X (.Assign [.Tuple [.Name x px, .Name y py] kt pt] (.Tuple [a, b] k2 pt2) pos) (sPar [i, j] ms) := fun ps F G H σ env Dn S hp => by
  refine ⟨_, ps_par hc hN hi hj hij hx hy paU hw hs, ha ps F G H σ env _ S ((PostG.at hp σ).imp fun ws e1 F1 H1 E1 S1 hk vs hvs hvl => ?_)⟩
  match vs, hvl with
  | [v, w], _ =>
    refine ⟨v, w, rfl, ?_⟩
    cases ha2 : asgWs [i, j] ws e1 with
    | none => rw [ha2] at hk; exact hk.elim
    | some e' =>
      rw [ha2] at hk
      exact hk F1 H1 _ Ext.refl (pend_store S1 hvs ha2)
theorem ss_par3 {pt2 : Pos} (hc : X.calm = true) (hN : X.N.Nodup) (hi : X.N[i]? = some x) (hj : X.N[j]? = some y) (hl : X.N[l]? = some z) (hij : i ≠ j) (hil : i ≠ l) (hjl : j ≠ l)
    (hx : X.env.scope.names.lookup x = some .local) (hy : X.env.scope.names.lookup y = some .local) (hz : X.env.scope.names.lookup z = some .local) (ha : SWs X [a, b, c] (mWs ms))
    (hw : swappedStores [.Tuple [.Name x px, .Name y py, .Name z pz] kt pt] (.Tuple [a, b, c] k2 pt2) X.env = pure (some [x, y, z]))
    (hs : swapsWithSole [.Tuple [.Name x px, .Name y py, .Name z pz] kt pt] (.Tuple [a, b, c] k2 pt2) pos.line X.env = pure false := by rfl) :
    SS X (.Assign [.Tuple [.Name x px, .Name y py, .Name z pz] kt pt] (.Tuple [a, b, c] k2 pt2) pos) (sPar [i, j, l] ms) := fun ps F G H σ env Dn S hp => by
  refine ⟨_, ps_par3 hc hN hi hj hl hij hil hjl hx hy hz paU hw hs, ha ps F G H σ env _ S ((PostG.at hp σ).imp fun ws e1 F1 H1 E1 S1 hk vs hvs hvl => ?_)⟩
  match vs, hvl with
  | [v, w, u], _ =>
    refine ⟨v, w, u, rfl, ?_⟩
    cases ha2 : asgWs [i, j, l] ws e1 with
    | none => rw [ha2] at hk; exact hk.elim
    | some e' =>
      rw [ha2] at hk
      exact hk F1 H1 _ Ext.refl (pend_store S1 hvs ha2)
end

/-! ### what a def's body may count on -/
structure Cy (X : Cx) (N : List Str) (sc : Scope) (k : Nat) : Prop where
  nn : X.N = N
  nd : N.Nodup
  sc : X.env.scope = sc
  cm : X.calm = true
  gd : X.A.guards = some []
  rm : Room k X.A
section
variable {X : Cx} {N : List Str} {sc : Scope} {k : Nat}
theorem Cy.blk (h : Cy X N sc k) {scope : Scope} {s : Shared} {H : Hp} {C : Addr} {cl : List (Str × Addr)} {fp : List Addr} : Cy (BX X scope s H C cl fp) N (relS scope sc) k :=
  ⟨h.nn, h.nd, by show relS scope X.env.scope = _; rw [h.sc], h.cm, h.gd, h.rm⟩
theorem Cy.un (h : Cy X N sc k) : X.A.units + 200 < cLine := by have := h.rm.un; omega
theorem Cy.vis (h : Cy X N sc k) {x : Str} (hv : Vis sc x) : Vis X.env.scope x := by rw [h.sc]; exact hv
theorem Cy.gl (h : Cy X N sc k) {x : Str} (hv : sc.names.lookup x = some .globalImplicit) : Gl X x := by show X.env.scope.names.lookup x = _; rw [h.sc]; exact hv
theorem Cy.loc (h : Cy X N sc k) {x : Str} (hv : Loc sc x) : Loc X.env.scope x := by rw [h.sc]; exact hv
theorem Cy.lcl (h : Cy X N sc k) {x : Str} (hv : sc.names.lookup x = some .local) : X.env.scope.names.lookup x = some .local := by rw [h.sc]; exact hv
theorem Cy.ix (h : Cy X N sc k) {x : Str} {i : Nat} (hi : N[i]? = some x) : X.N[i]? = some x := by rw [h.nn]; exact hi
theorem Cy.ndX (h : Cy X N sc k) : X.N.Nodup := by rw [h.nn]; exact h.nd
theorem Cy.bok (h : Cy X N sc k) {scope : Scope} {own : List (Str × Nat)} (hb : BlkOk N sc scope own) : BlkOk X.N X.env.scope scope own := by rw [h.nn, h.sc]; exact hb
theorem Cy.eqE (h : Cy X N sc k) : X.env = { X.env with scope := sc } := by rw [← h.sc]
theorem Cy.sw (h : Cy X N sc k) {ts : List Expr} {v : Expr} {r : Sem (Option (List Str))} (hh : swappedStores ts v { X.env with scope := sc } = r) : swappedStores ts v X.env = r := (congrArg (swappedStores ts v) h.eqE).trans hh
/-- a name that is read -/
theorem g_var (h : Cy X N sc k) (i : Nat) {x : Str} {pos : Pos} (hi : N[i]? = some x := by rfl) (hv : Vis sc x := by first | exact Or.inl rfl | exact Or.inr (Or.inl rfl) | exact Or.inr (Or.inr rfl)) (hd : (x == ("__debug__" : Str)) = false := by decide)
    (hcd : (x == ("__classdict__" : Str)) = false := by decide) : PE X (.Name x pos) (tVar i) := pe_var (h.ix hi) (h.vis hv) hd hcd
/-- a constant of the module -/
theorem g_gi (h : Cy X N sc k) {x : Str} {pos : Pos} {n : Int} (hm : ∃ t, X.mg x = some (.int n t)) (hg : sc.names.lookup x = some .globalImplicit := by rfl) (hd : (x == ("__debug__" : Str)) = false := by decide) : SE X (.Name x pos) (eC (.int n)) := by
  obtain ⟨t, hm⟩ := hm
  exact se_cst (pe_glob (h.gl hg) hm (v := .int n) ⟨t, rfl⟩ hd) fun _ => .int n
theorem g_gs (h : Cy X N sc k) {x : Str} {pos : Pos} {z : Str} (hm : ∃ t, X.mg x = some (.str z t)) (hg : sc.names.lookup x = some .globalImplicit := by rfl) (hd : (x == ("__debug__" : Str)) = false := by decide) : SE X (.Name x pos) (eC (.str z)) := by
  obtain ⟨t, hm⟩ := hm
  exact se_cst (pe_glob (h.gl hg) hm (v := .str z) ⟨t, rfl⟩ hd) fun _ => .str z
theorem sw_yes (h : Cy X N sc k) {elt : Expr} {gens : List Comprehension} {scope : Scope} {pos py : Pos} {y : Str} {l : Nat} (hk : sc.kind = .function) (hl : sc.names.lookup y = some .local) (hp : (py.line == pos.line) = true)
    (hn : (scope.names.any fun p => p.1 == y && (p.2 == .local || p.2 == .cell)) = false) : swapsWith (.ListComp elt gens scope pos) (some (.Name y py)) l X.env = pure true := by
  have hb : X.env.blockKind = .function := by
    unfold Env.blockKind
    rw [h.sc, hk]
    rfl
  have hkd : X.env.kindOf y = some .local := by
    show X.env.scope.names.lookup y = _
    rw [h.sc, hl]
  show (pure (X.env.blockKind == .function && X.env.kindOf y == some .local && py.line == pos.line && !(scope.names.any fun p => p.1 == y && (p.2 == .local || p.2 == .cell))) : Sem Bool) = pure true
  rw [hb, hkd, hp, hn]
  rfl
theorem sw_no (h : Cy X N sc k) {elt : Expr} {gens : List Comprehension} {scope : Scope} {pos py : Pos} {y : Str} {l : Nat} (hl : sc.names.lookup y = some .cell) : swapsWith (.ListComp elt gens scope pos) (some (.Name y py)) l X.env = pure false := by
  have hkd : X.env.kindOf y = some .cell := by
    show X.env.scope.names.lookup y = _
    rw [h.sc, hl]
  show (pure (X.env.blockKind == .function && X.env.kindOf y == some .local && py.line == pos.line && !(scope.names.any fun p => p.1 == y && (p.2 == .local || p.2 == .cell))) : Sem Bool) = pure false
  rw [hkd]
  have : (some NameKind.cell == some NameKind.local) = false := by decide
  rw [this, Bool.and_false, Bool.false_and, Bool.false_and]
theorem sw_noD (h : Cy X N sc k) {kx elt : Expr} {gens : List Comprehension} {scope : Scope} {pos py : Pos} {y : Str} {l : Nat} (hl : sc.names.lookup y = some .cell) : swapsWith (.DictComp kx elt gens scope pos) (some (.Name y py)) l X.env = pure false := by
  have hkd : X.env.kindOf y = some .cell := by
    show X.env.scope.names.lookup y = _
    rw [h.sc, hl]
  show (pure (X.env.blockKind == .function && X.env.kindOf y == some .local && py.line == pos.line && !(scope.names.any fun p => p.1 == y && (p.2 == .local || p.2 == .cell))) : Sem Bool) = pure false
  rw [hkd]
  have : (some NameKind.cell == some NameKind.local) = false := by decide
  rw [this, Bool.and_false, Bool.false_and, Bool.false_and]
variable {tg iter elt kx : Expr} {ifs : List Expr} {scope : Scope} {own : List (Str × Nat)} {pos : Pos} {it : M (List D)} {p : Pat} {t : M Bool} {el mk : M R}
theorem g_lc (h : Cy X N sc k) (hi : SI X tg iter it) (ok : BlkOk N sc scope own) (hv : (p.ix.all fun j => (own.map (·.2)).contains j) = true)
    (hg : ∀ s H C cl fp, Cy (BX X scope s H C cl fp) N (relS scope sc) k → SG (BX X scope s H C cl fp) tg p) (ht : ∀ s H C cl fp, Cy (BX X scope s H C cl fp) N (relS scope sc) k → STs (BX X scope s H C cl fp) ifs t)
    (he : ∀ s H C cl fp, Cy (BX X scope s H C cl fp) N (relS scope sc) k → SE (BX X scope s H C cl fp) elt el) (hs : ∀ x, foldedSetIterable iter X.env x = pure x := by intro _; rfl) : SE X (.ListComp elt [⟨tg, iter, ifs, 0⟩] scope pos) (eLC it p t el (own.map (·.2))) :=
  se_lc h.cm h.ndX hi (h.bok ok) hv (fun _ _ _ _ _ => hg _ _ _ _ _ h.blk) (fun _ _ _ _ _ => ht _ _ _ _ _ h.blk) (fun _ _ _ _ _ => he _ _ _ _ _ h.blk) hs
theorem g_setLc (h : Cy X N sc k) {i : Nat} {y : Str} {py spos : Pos} (hy : N[i]? = some y) (hyl : sc.names.lookup y = some .local) (hk : sc.kind = .function) (hp : (py.line == pos.line) = true) (hn : (scope.names.any fun p => p.1 == y && (p.2 == .local || p.2 == .cell)) = false)
    (hi : SI X tg iter it) (ok : BlkOk N sc scope own) (hv : (p.ix.all fun j => (own.map (·.2)).contains j) = true)
    (hg : ∀ s H C cl fp, Cy (BX X scope s H C cl fp) N (relS scope sc) k → SG (BX X scope s H C cl fp) tg p) (ht : ∀ s H C cl fp, Cy (BX X scope s H C cl fp) N (relS scope sc) k → STs (BX X scope s H C cl fp) ifs t)
    (he : ∀ s H C cl fp, Cy (BX X scope s H C cl fp) N (relS scope sc) k → SE (BX X scope s H C cl fp) elt el) (hs : ∀ x, foldedSetIterable iter X.env x = pure x := by intro _; rfl) :
    SS X (.Assign [.Name y py] (.ListComp elt [⟨tg, iter, ifs, 0⟩] scope pos) spos) (sSet i (eLC it p t el (own.map (·.2)))) :=
  ss_setLc h.cm h.ndX (h.ix hy) (h.lcl hyl) (sw_yes h hk hyl hp hn) hi (h.bok ok) hv (fun _ _ _ _ _ => hg _ _ _ _ _ h.blk) (fun _ _ _ _ _ => ht _ _ _ _ _ h.blk) (fun _ _ _ _ _ => he _ _ _ _ _ h.blk) hs
theorem g_dc (h : Cy X N sc k) (hi : SI X tg iter it) (ok : BlkOk N sc scope own) (hv : (p.ix.all fun j => (own.map (·.2)).contains j) = true)
    (hg : ∀ s H C cl fp, Cy (BX X scope s H C cl fp) N (relS scope sc) k → SG (BX X scope s H C cl fp) tg p) (ht : ∀ s H C cl fp, Cy (BX X scope s H C cl fp) N (relS scope sc) k → STs (BX X scope s H C cl fp) ifs t)
    (hk : ∀ s H C cl fp, Cy (BX X scope s H C cl fp) N (relS scope sc) k → SE (BX X scope s H C cl fp) kx mk) (he : ∀ s H C cl fp, Cy (BX X scope s H C cl fp) N (relS scope sc) k → SE (BX X scope s H C cl fp) elt el) (hs : ∀ x, foldedSetIterable iter X.env x = pure x := by intro _; rfl) :
    SE X (.DictComp kx elt [⟨tg, iter, ifs, 0⟩] scope pos) (eDC it p t mk el (own.map (·.2))) :=
  se_dc h.cm h.ndX hi (h.bok ok) hv (fun _ _ _ _ _ => hg _ _ _ _ _ h.blk) (fun _ _ _ _ _ => ht _ _ _ _ _ h.blk) (fun _ _ _ _ _ => hk _ _ _ _ _ h.blk) (fun _ _ _ _ _ => he _ _ _ _ _ h.blk) hs
/-- a value that is frozen at once -/
def eFz (m : M R) : M R := fun env => (mD m env).bind fun x e => .ok (.d x) e
theorem se_fz {e : Expr} {m : M R} (h : SE X e m) : SE X e (eFz m) := fun ps F G H σ env Q S hp =>
  h.useD S hp fun x e1 F1 H1 v E1 S1 hv hk => hk F1 H1 Ext.refl S1 v hv
theorem sSet_fz (i : Nat) (m : M R) (env : Env') : sSet i (eFz m) env = (m env).bind fun r e => (frz r e).bind fun x e => .ok .nx (e.set i (some ⟨0, .d x⟩)) := by
  unfold sSet eFz mW mD
  cases hm : m env with
  | ok r e => cases h : frz r e <;> simp [Res.bind, h, hm]
  | ex => simp [Res.bind, hm]
  | no => simp [Res.bind, hm]
theorem g_setLcD (h : Cy X N sc k) {i : Nat} {y : Str} {py spos : Pos} (hy : N[i]? = some y) (hyl : sc.names.lookup y = some .local) (hk : sc.kind = .function) (hp : (py.line == pos.line) = true) (hn : (scope.names.any fun p => p.1 == y && (p.2 == .local || p.2 == .cell)) = false)
    (hi : SI X tg iter it) (ok : BlkOk N sc scope own) (hv : (p.ix.all fun j => (own.map (·.2)).contains j) = true)
    (hg : ∀ s H C cl fp, Cy (BX X scope s H C cl fp) N (relS scope sc) k → SG (BX X scope s H C cl fp) tg p) (ht : ∀ s H C cl fp, Cy (BX X scope s H C cl fp) N (relS scope sc) k → STs (BX X scope s H C cl fp) ifs t)
    (he : ∀ s H C cl fp, Cy (BX X scope s H C cl fp) N (relS scope sc) k → SE (BX X scope s H C cl fp) elt el) (hs : ∀ x, foldedSetIterable iter X.env x = pure x := by intro _; rfl) :
    SS X (.Assign [.Name y py] (.ListComp elt [⟨tg, iter, ifs, 0⟩] scope pos) spos) (sSet i (eFz (eLC it p t el (own.map (·.2))))) := fun ps F G H σ env Dn S hpp => by
  refine ⟨_, ps_setLc (g := tgBl X scope tg) (tt := ttsBl X scope ifs) (te := tBl X scope elt) h.cm h.ndX (h.ix hy) (h.lcl hyl) (sw_yes h hk hyl hp hn) piU (h.bok ok) (fun s H C cl fp => ⟨fun pins s' σ H v u Q I r z => pgU.run pins s' σ H v u Q I r (z s _ C cl fp)⟩) (fun s H C cl fp => ⟨fun pins s' σ H Q I z => let ⟨_, h1, h2⟩ := z s _ C cl fp; h1.run pins s' σ H Q I h2⟩)
    (fun s H C cl fp => ⟨fun pins s' σ H Q I z => peU.run pins s' σ H Q I (z s _ C cl fp)⟩) hs, ?_⟩
  refine lc_end hi (fun _ _ _ _ _ => hg _ _ _ _ _ h.blk) (fun _ _ _ _ _ => ht _ _ _ _ _ h.blk) (fun _ _ _ _ _ => he _ _ _ _ _ h.blk) (fun j hj => by simpa using List.all_eq_true.mp hv j hj) S ?_
  rw [sSet_fz] at hpp
  refine (PostG.at hpp σ).imp fun r e F1 H1 E1 S1 hk v hv => ?_
  have hk' : Post X ps F1 G σ (fun (x : D) e' F' H' => ∀ σ', Sta X.K ps F' G H' σ' (e'.set i (some ⟨0, .d x⟩)) → Dn.nx σ' H') ((frz r e).bind fun x e => .ok x e) := by
    rw [Res.bind_ok]
    cases h2 : frz r e with
    | ok x e' => rw [h2] at hk; exact fun F' H' E' S' σ' S2 => hk F' H' σ' E' S2
    | ex c x e' => rw [h2] at hk; obtain ⟨W, tk, z⟩ := hk; exact ⟨W, tk, fun cls dd F' H' e' S q => z cls dd F' H' σ e' S q⟩
    | no => rw [h2] at hk; exact hk
  exact frz_ok S1 hv hk' fun x e2 F2 E2 S2 r2 h2 => h2 F2 H1 Ext.refl S2 _ (S2.storeD r2 i)
end
end PL

namespace PL
open PySem PySem.Spec PyProof.Rows L2

/-! ### the law's own call -/
theorem rps_ints {K : KF} {F : Hp} : ∀ ns : List Int, Rps K F (ns.map V.int) (ns.map PyData.int)
  | [] => .nil
  | n :: ns => .cons (.int n) (rps_ints ns)
/-- what the script's list is at the start: nothing else is told of the heap -/
theorem law_sp {K : KF} {mg : Str → Option Value} {f : FM} {ns : List Int} {H : Hp} {a : Addr} (hf : ∃ outs, f [.d (.list (ns.map .int))] = .ok (.d (.bool true)) outs) (hs : SqL K H a (ns.map V.int)) :
    spF 1 mg K f [.ref a] H (fun v _ => v = .bl true) fun _ _ _ => False := by
  obtain ⟨outs, hf⟩ := hf
  refine ⟨rfl, H, fun _ => none, [.d (.list (ns.map .int))], rfl, ⟨Ext.refl, fun _ h => h, (fun a o h => by cases h), fun a h => absurd rfl h, rfl, fun i s h => ?_, fun i j s t hij h1 h2 so to => ?_⟩, ?_⟩
  · match i, h with
    | 0, h =>
      cases h
      exact ⟨_, rfl, .lst hs (rps_ints ns), fun k hk => by cases hk; rfl⟩
    | i + 1, h => simp [argE] at h
  · match i, h1 with
    | 0, h1 => cases h1; cases so
    | i + 1, h1 => simp [argE] at h1
  · rw [hf]
    intro F' H' v E S r
    cases r
    rfl
section
variable {P : Program} {w : World} {K : KF} {mg mb : Str → Option Value} {fa a : Addr} {s₁ : Shared} {vs : List Value} {ns : List Int} {k : Nat} {st : Stmt} {f : FM}
theorem old_ns {H : Hp} {h : Heap} (free : ∀ {b : Addr} {o : Obj} {es : Array DictEntry} {ep : Nat}, h.get? b = some o → o.data = .dict es ep → H b = none) {b : Addr} {m : Str → Option Value} (x : h.Ns b m) : (hidT h H).Ns b m := by
  obtain ⟨o, es, ep, e, d, r⟩ := x
  exact ⟨o, es, ep, hidT_get e (free e d), d, r⟩
theorem callG (KX : K.In s₁.heap) (hns : s₁.heap.Ns mainGlobals mg) (hmb : s₁.heap.Ns builtinsNs mb) (hbb : ∀ x : Str, x ≠ "__name__" → mb x = bootBuiltins x) (lim : s₁.heap.NoLimit) (hg : s₁.gens = #[]) (ha : s₁.heap.get? a = some { cls := .type "list", data := .seq vs.toArray }) (hi : IntsAre vs ns)
    (few : ns.length ≤ 63) (room : Room k callerA) (hmg : mg "law" = some (.ref fa)) (F : ∀ base : Heap, K.In base → base.Ns mainGlobals mg → FP P w K mg base k "law" ["script"] st f) (hf : ∃ outs, f [.d (.list (ns.map .int))] = .ok (.d (.bool true)) outs) :
    codeAny (model P w) callerA (.call (.ref fa) ⟨[.ref a], []⟩) (fun r s' => r = .ok (.ret (.bool true)) ∧ OldK s₁.heap s'.heap ∧ s'.os = s₁.os ∧ AllBare s'.gens) s₁ := by
  have big : ns.length ≤ sizeLine := by rw [sizeLine_eq]; omega
  have rel := vals_ints hi
  -- a heap of which at most the script is told
  have any : ∀ H : Hp, SqL K H a (ns.map V.int) → HOk P w H s₁.heap → (∀ b u, H b = some u → b = a ∧ K.lookup a = none ∧ ∃ o xs, u = .frz o (.lst xs)) →
      codeAny (model P w) callerA (.call (.ref fa) ⟨[.ref a], []⟩) (fun r s' => r = .ok (.ret (.bool true)) ∧ OldK s₁.heap s'.heap ∧ s'.os = s₁.os ∧ AllBare s'.gens) s₁ := by
    intro H hs hok only
    have freeD : ∀ {b : Addr} {o : Obj} {es : Array DictEntry} {ep : Nat}, s₁.heap.get? b = some o → o.data = .dict es ep → H b = none := fun {b o es ep} e d => by
      cases q : H b with
      | none => rfl
      | some u =>
        obtain ⟨rfl, _⟩ := only b u q
        rw [ha] at e; cases e; cases d
    have KB : K.In (hidT s₁.heap H) := fun b o e => hidT_get (KX b o e) (by
      cases q : H b with
      | none => rfl
      | some u =>
        obtain ⟨rfl, z, _⟩ := only b u q
        rw [z] at e; cases e)
    have modK : Mod K mg (hidT s₁.heap H) := ⟨KB, old_ns freeD hns, ⟨mb, old_ns freeD hmb, hbb⟩, by obtain ⟨mc, h1, h2⟩ := lim; exact ⟨mc, old_ns freeD h1, h2⟩⟩
    have e0 : Env0 P w K mg (hidT s₁.heap H) callerA [] s₁ H := ⟨rfl, modK, fun b o e => of_hidT e, Nat.le_of_eq (hidT_size _ _), trivial, fun b hb => (by cases hb), hok, .of_eq hg⟩
    obtain ⟨fa', fd, q, D, hx, hk, _, hb⟩ := (F _ KB (old_ns freeD hns)).ex
    rw [hmg] at hx; cases hx
    have bnd := hb s₁ [.ref a] KX rfl
    rw [List.append_nil] at bnd
    refine codeAny_mono (D.go (us := [.ref a]) (vs := [.ref a]) rfl room e0 bnd (.cons rfl .nil) (law_sp hf hs)) ?_
    rintro (e | fl) s' out
    · obtain ⟨_, _, _, _, _, _, _, _, _, _, _, _, z⟩ := out
      exact z.elim
    · cases fl with
      | next => exact out.elim
      | brk => exact out.elim
      | cont => exact out.elim
      | ret u =>
        obtain ⟨v, H', os, bare, un, hok', rv, rfl⟩ := out
        obtain rfl : u = Value.bool true := rv
        refine ⟨rfl, OldK.of_keep fun b o e => ?_, os, bare⟩
        cases q : H b with
        | none => exact un.keep b o e q (fun z => by cases z) (by simp)
        | some u =>
          obtain ⟨_, _, ob, xs, rfl⟩ := only b u q
          have e1 := (hok b _ q).1
          have e2 := (hok' b _ (un.frzs b ob _ q)).1
          rw [e] at e1; cases e1
          exact e2
  cases hk : K.lookup a with
  | some o =>
    have e := KX a o hk
    rw [ha] at e; cases e
    exact any (fun _ => none) (.inr ⟨_, vs.toArray, _, hk, rfl, rfl, rfl, by rw [List.size_toArray, hi.length]; exact big, by simpa using rel⟩) (fun b u z => nomatch z) fun b u z => nomatch z
  | none =>
    have one : ∀ b u, (upd (fun _ => none) a (.frz { cls := .type "list", data := .seq vs.toArray } (.lst (ns.map V.int)))) b = some u → b = a ∧ u = .frz { cls := .type "list", data := .seq vs.toArray } (.lst (ns.map V.int)) := fun b u z => by
      by_cases e : b = a
      · subst e; rw [upd_same] at z; cases z; exact ⟨rfl, rfl⟩
      · rw [upd_ne e] at z; cases z
    refine any (upd (fun _ => none) a (.frz { cls := .type "list", data := .seq vs.toArray } (.lst (ns.map V.int)))) (.inl (.inr ⟨_, upd_same⟩)) (fun b u z => ?_) fun b u z => ?_
    · obtain ⟨rfl, rfl⟩ := one b u z
      exact ⟨ha, by rw [List.length_map]; exact big, vs, _, rel, ha⟩
    · obtain ⟨e1, e2⟩ := one b u z
      exact ⟨e1, hk, _, _, e2⟩
end
theorem walkG {l : PySem.W.OpenLaw} {k : Nat} {q : Program} {loose : List Str} {XP : (Str → Option Value) → Heap → Prop} {YP : World → Heap → Prop} {d : DefRec} {K : Params → KF} {st : Stmt} {f : FM} (hn : l.most = some 63) (hdf : d.params.defaults = []) (hname : d.name = "law") (room : Room k callerA)
    (hY : ∀ (w : World) (h : Heap), YP w h → (K w.params).In h)
    (F : ∀ (w : World) (mg : Str → Option Value) (h : Heap), (K w.params).In h → h.Ns mainGlobals mg → ∀ base : Heap, (K w.params).In base → base.Ns mainGlobals mg → FP l.prog w (K w.params) mg base k "law" ["script"] st f)
    (hf : ∀ ns : List Int, ns.length ≤ 63 → ∃ outs, f [.d (.list (ns.map .int))] = .ok (.d (.bool true)) outs) :
    PySem.W.WalkO q loose XP YP l.row.toRowW d [] (fun f vs => PySem.call f vs) := by
  refine Att.attach_call hn hdf fun w s₀ s₁ mg mb fa o pm cd doc a vs ns G Y ho hd hcd hmg hobj hints hlen hg => ?_
  have KX := hY w _ Y
  rw [hname] at hmg
  exact callG KX G.T.g G.T.b G.T.builtins G.T.nolimit hg hobj hints hlen room hmg (F w mg _ KX G.T.g) (hf ns hlen)
end PL

namespace PL
open PySem PySem.Spec PyProof.Rows L2

/-! ### reckoning with what is computed: what follows has a name, so that simp goes step by step -/
theorem tr {α : Sort _} {a b : α} (h : a = b) : a = b := h
/-- a number that a range can have -/
def okR (j : Int) : Bool := decide (-(2 ^ 62) ≤ j ∧ j < 2 ^ 62)
theorem okR_nat {k : Nat} (h : k ≤ 1000000) : okR (k : Int) = true := decide_eq_true (by omega)
theorem okR_int {k : Int} (h : 0 ≤ k ∧ k ≤ 1000000) : okR k = true := decide_eq_true (by omega)
/-- two ways -/
def two (o : Option Bool) (a b : Res R) : Res R := match o with
  | some true => a
  | some false => b
  | none => .no
section
variable {p : Prop} [Decidable p] {e : Env'} {α β : Type}
@[simp] theorem two_s (b : Bool) (x y : Res R) : two (some b) x y = if b = true then x else y := by cases b <;> rfl
@[simp] theorem two_n (x y : Res R) : two none x y = .no := tr rfl
@[simp] theorem bind_ite (a b : Res α) (f : α → Env' → Res β) : (if p then a else b).bind f = if p then a.bind f else b.bind f := by split <;> rfl
@[simp] theorem ite_okd (x y : D) : (if p then Res.ok (R.d x) e else Res.ok (R.d y) e) = Res.ok (R.d (if p then x else y)) e := by split <;> rfl
@[simp] theorem ite_okn (x y : D) : (if p then Res.ok (R.new x) e else Res.ok (R.new y) e) = Res.ok (R.new (if p then x else y)) e := by split <;> rfl
@[simp] theorem ite_okb (x y : Bool) : (if p then Res.ok x e else Res.ok y e) = Res.ok (if p then x else y) e := by split <;> rfl
@[simp] theorem ite_okD (x y : D) : (if p then Res.ok x e else Res.ok y e) = Res.ok (if p then x else y) e := by split <;> rfl
@[simp] theorem ite_okO (x y : Option D) : (if p then Res.ok x e else Res.ok y e) = Res.ok (if p then x else y) e := by split <;> rfl
@[simp] theorem ite_dbool (x y : Bool) : (if p then PyData.bool x else PyData.bool y) = .bool (if p then x else y) := by split <;> rfl
@[simp] theorem ite_dint (x y : Int) : (if p then PyData.int x else PyData.int y) = .int (if p then x else y) := by split <;> rfl
@[simp] theorem ite_dstr (x y : Str) : (if p then PyData.str x else PyData.str y) = .str (if p then x else y) := by split <;> rfl
@[simp] theorem ite_dtup (x y : List D) : (if p then PyData.tuple x else PyData.tuple y) = .tuple (if p then x else y) := by split <;> rfl
@[simp] theorem ite_dlst (x y : List D) : (if p then PyData.list x else PyData.list y) = .list (if p then x else y) := by split <;> rfl
@[simp] theorem ite_bf (b : Bool) : (if p then b else false) = (decide p && b) := by by_cases h : p <;> simp [h]
@[simp] theorem ite_bt (b : Bool) : (if p then true else b) = (decide p || b) := by by_cases h : p <;> simp [h]
@[simp] theorem ite_fb (b : Bool) : (if p then false else b) = (!decide p && b) := by by_cases h : p <;> simp [h]
@[simp] theorem ite_tb (b : Bool) : (if p then b else true) = (!decide p || b) := by by_cases h : p <;> simp [h]
end
/-! what follows -/
def compK {α β γ : Type} (f : α → Env' → Res β) (g : β → Env' → Res γ) : α → Env' → Res γ := fun a e => (f a e).bind g
def okB (o : Option Bool) (e : Env') : Res Bool := match o with
  | some b => .ok b e
  | none => .no
def okN (o : Option Env') : Res Fl := match o with
  | some e => .ok .nx e
  | none => .no
def okL (o : Option (List D)) (e : Env') : Res (List D) := match o with
  | some ds => .ok ds e
  | none => .no
def bR : R → Option Bool
  | .d x => bD x
  | _ => none
def kP (r : R) (e : Env') : Res R := match r with
  | .new x => .ok (.d x) e
  | .d x => .ok (.d x) e
  | .at i => .ok (.at i) e
def kWd (x : D) (e : Env') : Res R := .ok (.d x) e
def kW (r : R) (e : Env') : Res R := match r with
  | .new x => .ok (.new x) e
  | .d x => .ok (.d x) e
  | .at i => (frz (.at i) e).bind kWd
def kE2' (f : D → D → Option R) (r : R) : R → Env' → Res R := fun q e => app2 f r q e
def kE2 (f : D → D → Option R) (b : M R) : R → Env' → Res R := fun r e => (mP b e).bind (kE2' f r)
def kTru (r : R) (e : Env') : Res Bool := okB (truR r e) e
def kB (r : R) (e : Env') : Res Bool := okB (bR r) e
def kAnd (t : M Bool) (b : Bool) (e : Env') : Res Bool := if b then t e else .ok false e
def kOr (t : M Bool) (b : Bool) (e : Env') : Res Bool := if b then .ok true e else t e
def kNot (b : Bool) (e : Env') : Res Bool := .ok (!b) e
def kNotE (b : Bool) (e : Env') : Res R := .ok (.d (.bool !b)) e
def kIf (a b : M R) (c : Bool) (e : Env') : Res R := if c then a e else b e
def kArg' (r : R) (rs : List R) (e : Env') : Res (List R) := .ok (r :: rs) e
def kArg (ms : List (M R)) (r : R) (e : Env') : Res (List R) := (mArgs ms e).bind (kArg' r)
def kDs' (r : D) (rs : List D) (e : Env') : Res (List D) := .ok (r :: rs) e
def kDs (ms : List (M R)) (r : D) (e : Env') : Res (List D) := (mDs ms e).bind (kDs' r)
def kTup (ds : List D) (e : Env') : Res R := .ok (.d (.tuple ds)) e
def kLst (ds : List D) (e : Env') : Res R := .ok (.new (.list ds)) e
def eBO (g : List D → Option R) (o : Option (List D)) (e : Env') : Res R := match o with
  | some xs => ofO (g xs) e
  | none => .no
def kEB (g : List D → Option R) (rs : List R) (e : Env') : Res R := eBO g (getAll rs e) e
def isiO (T : String) (o : Option D) (e : Env') : Res R := match o with
  | some x => match kitB (tyN x) T with
    | some b => .ok (.d (.bool b)) e
    | none => .no
  | none => .no
def kIsi (T : String) (r : R) (e : Env') : Res R := isiO T (get r e) e
def kSeq (mb : M Fl) (fl : Fl) (e : Env') : Res Fl := match fl with
  | .nx => mb e
  | .bk => .ok .bk e
  | .ct => .ok .ct e
  | .rt r => .ok (.rt r) e
def kEx (_ : R) (e : Env') : Res Fl := .ok .nx e
def kSIf (ma mb : M Fl) (c : Bool) (e : Env') : Res Fl := if c then ma e else mb e
def kSet (i : Nat) (r : R) (e : Env') : Res Fl := match r with
  | .d x => .ok .nx (e.set i (some ⟨0, .d x⟩))
  | .new x => .ok .nx (e.set i (some ⟨0, .o x⟩))
  | .at _ => .no
def kRet (r : R) (e : Env') : Res R := match r with
  | .d x => .ok (.d x) e
  | .new x => .ok (.new x) e
  | .at i => match e[i]? with
    | some (some s) => match s.w, s.tg with
      | .o x, 0 => .ok (.new x) (e.set i none)
      | _, _ => (frz (.at i) e).bind kWd
    | _ => .no
def kRt (r : R) (e : Env') : Res Fl := .ok (.rt r) e
def kUnp (p : Pat) (x : D) (e : Env') : Res Fl := okN (asgP p x e)
def kSq (x : D) (e : Env') : Res (List D) := okL (itD x) e
def r1O (o : Option D) (e : Env') : Res (List D) := match o with
  | some (.int j) => if okR j then .ok (rngD 0 j.toNat) e else .no
  | _ => .no
def kR1 (r : R) (e : Env') : Res (List D) := r1O (get r e) e
def r2O (o u : Option D) (e : Env') : Res (List D) := match o, u with
  | some (.int i), some (.int j) => if okR i && okR j then .ok (rngD i (j - i).toNat) e else .no
  | _, _ => .no
def kR2' (r : R) (q : R) (e : Env') : Res (List D) := r2O (get r e) (get q e) e
def kR2 (b : M R) (r : R) (e : Env') : Res (List D) := (mP b e).bind (kR2' r)
def kFor (p : Pat) (ma : M Fl) (ds : List D) (e : Env') : Res Fl := forM' (stepP p ma) ds e
def stO (ma : M Fl) (o : Option Env') : Res Fl := match o with
  | some e => ma e
  | none => .no
def kLc' (y : D) (e : Env') : Res (Option D) := .ok (some y) e
def kLc (m : M R) (b : Bool) (e : Env') : Res (Option D) := if b then (mD m e).bind kLc' else .ok none e
def lcO (t : M Bool) (m : M R) (o : Option Env') : Res (Option D) := match o with
  | some e => (t e).bind (kLc m)
  | none => .no
def kCall (f : FM) (rs : List R) (e : Env') : Res R := callF f rs e
def kSub' (i : Nat) (y : D) (k : D) (e : Env') : Res Fl := stAt i y k e
def subO (i : Nat) (mi : M R) (y : D) (o : Option (Option Slot)) (e : Env') : Res Fl := match o with
  | some (some _) => (mD mi e).bind (kSub' i y)
  | _ => .no
def kSub (i : Nat) (mi : M R) (y : D) (e : Env') : Res Fl := subO i mi y (e[i]?) e
section
variable {α β γ : Type} (env e : Env') (x y : D) (i j k : Nat) (a b c m : M R) (s t : M Bool) (ma mb : M Fl)
@[simp] theorem bind_ok (r : α) (f : α → Env' → Res β) : (Res.ok r e).bind f = f r e := tr rfl
@[simp] theorem bind_no (f : α → Env' → Res β) : (Res.no : Res α).bind f = .no := tr rfl
@[simp] theorem bind_ex (n : Str) (f : α → Env' → Res β) : (Res.ex n x e : Res α).bind f = .ex n x e := tr rfl
@[simp] theorem compK_s (f : α → Env' → Res β) (g : β → Env' → Res γ) (z : α) : compK f g z e = (f z e).bind g := tr rfl
@[simp] theorem okB_s (b : Bool) : okB (some b) e = .ok b e := tr rfl
@[simp] theorem okN_s : okN (some e) = .ok .nx e := tr rfl
@[simp] theorem okL_s (ds : List D) : okL (some ds) e = .ok ds e := tr rfl
@[simp] theorem bR_d : bR (.d x) = bD x := tr rfl
@[simp] theorem eC_s : eC x env = .ok (.d x) env := tr rfl
theorem eV_s : eV i env = match env[i]? with
  | some (some s) => match s.w with
    | .d x => .ok (.d x) env
    | .o _ => .ok (.at i) env
  | _ => .no := tr rfl
@[simp] theorem mP_s : mP m env = (m env).bind kP := tr rfl
@[simp] theorem kP_d : kP (.d x) e = .ok (.d x) e := tr rfl
@[simp] theorem kP_n : kP (.new x) e = .ok (.d x) e := tr rfl
@[simp] theorem kP_a : kP (.at i) e = .ok (.at i) e := tr rfl
@[simp] theorem mD_s : mD m env = (m env).bind frz := tr rfl
@[simp] theorem frz_d : frz (.d x) e = .ok x e := tr rfl
@[simp] theorem frz_new : frz (.new x) e = .ok x e := tr rfl
theorem frz_at : frz (.at i) e = match e[i]? with
    | some (some s) => match s.w with
      | .d x => .ok x e
      | .o x => .ok x (e.set i (some ⟨s.tg, .d x⟩))
    | _ => .no := tr rfl
@[simp] theorem mW_s : mW m env = (m env).bind kW := tr rfl
@[simp] theorem kW_d : kW (.d x) e = .ok (.d x) e := tr rfl
@[simp] theorem kW_n : kW (.new x) e = .ok (.new x) e := tr rfl
@[simp] theorem kW_a : kW (.at i) e = (frz (.at i) e).bind kWd := tr rfl
@[simp] theorem kWd_s : kWd x e = .ok (.d x) e := tr rfl
@[simp] theorem get_d : get (.d x) e = some x := tr rfl
@[simp] theorem get_new : get (.new x) e = some x := tr rfl
theorem get_at : get (.at i) e = match e[i]? with
    | some (some s) => some s.w.dat
    | _ => none := tr rfl
@[simp] theorem dat_d : (W.d x).dat = x := tr rfl
@[simp] theorem dat_o : (W.o x).dat = x := tr rfl
@[simp] theorem own_d : (W.d x).own = false := tr rfl
@[simp] theorem own_o : (W.o x).own = true := tr rfl
@[simp] theorem ofO_some (r : R) : ofO (some r) e = .ok r e := tr rfl
@[simp] theorem app2_s (f : D → D → Option R) (r q : R) : app2 f r q e = match get r e, get q e with
  | some x, some y => ofO (f x y) e
  | _, _ => .no := tr rfl
@[simp] theorem eBin_s (op : Operator) : eBin op a b env = (mP a env).bind (kE2 (binD op) b) := tr rfl
@[simp] theorem eCmp_s (op : CmpOp) : eCmp op a b env = (mP a env).bind (kE2 (cmpR op) b) := tr rfl
@[simp] theorem eIx_s : eIx a b env = (mP a env).bind (kE2 ixR b) := tr rfl
@[simp] theorem kE2_s (f : D → D → Option R) (r : R) : kE2 f b r e = (mP b e).bind (kE2' f r) := tr rfl
@[simp] theorem kE2'_s (f : D → D → Option R) (r q : R) : kE2' f r q e = app2 f r q e := tr rfl
@[simp] theorem tVal_s : tVal m env = (mP m env).bind kTru := tr rfl
@[simp] theorem kTru_s (r : R) : kTru r e = okB (truR r e) e := tr rfl
@[simp] theorem tB_s : tB m env = (m env).bind kB := by unfold tB; cases m env with
  | ok r e => cases r with
    | d x => cases x <;> rfl
    | _ => rfl
  | _ => rfl
@[simp] theorem kB_s (r : R) : kB r e = okB (bR r) e := tr rfl
@[simp] theorem tAnd_s : tAnd s t env = (s env).bind (kAnd t) := tr rfl
@[simp] theorem kAnd_s (b : Bool) : kAnd t b e = if b then t e else .ok false e := tr rfl
@[simp] theorem tOr_s : tOr s t env = (s env).bind (kOr t) := tr rfl
@[simp] theorem kOr_s (b : Bool) : kOr t b e = if b then .ok true e else t e := tr rfl
@[simp] theorem tNot_s : tNot s env = (s env).bind kNot := tr rfl
@[simp] theorem kNot_s (b : Bool) : kNot b e = .ok (!b) e := tr rfl
@[simp] theorem eNot_s : eNot a env = (tVal a env).bind kNotE := tr rfl
@[simp] theorem kNotE_s (b : Bool) : kNotE b e = .ok (.d (.bool !b)) e := tr rfl
@[simp] theorem eIf_s : eIf t a b env = (t env).bind (kIf a b) := tr rfl
@[simp] theorem kIf_s (c : Bool) : kIf a b c e = if c then a e else b e := tr rfl
@[simp] theorem mArgs_nil : mArgs [] env = .ok [] env := tr rfl
@[simp] theorem mArgs_cons (ms : List (M R)) : mArgs (m :: ms) env = (mP m env).bind (kArg ms) := tr rfl
@[simp] theorem kArg_s (ms : List (M R)) (r : R) : kArg ms r e = (mArgs ms e).bind (kArg' r) := tr rfl
@[simp] theorem kArg'_s (r : R) (rs : List R) : kArg' r rs e = .ok (r :: rs) e := tr rfl
@[simp] theorem mDs_nil : mDs [] env = .ok [] env := tr rfl
@[simp] theorem mDs_cons (ms : List (M R)) : mDs (m :: ms) env = (mD m env).bind (kDs ms) := tr rfl
@[simp] theorem kDs_s (ms : List (M R)) (r : D) : kDs ms r e = (mDs ms e).bind (kDs' r) := tr rfl
@[simp] theorem kDs'_s (r : D) (rs : List D) : kDs' r rs e = .ok (r :: rs) e := tr rfl
@[simp] theorem eTup_s (ms : List (M R)) : eTup ms env = (mDs ms env).bind kTup := tr rfl
@[simp] theorem kTup_s (ds : List D) : kTup ds e = .ok (.d (.tuple ds)) e := tr rfl
@[simp] theorem eLst_s (ms : List (M R)) : eLst ms env = (mDs ms env).bind kLst := tr rfl
@[simp] theorem kLst_s (ds : List D) : kLst ds e = .ok (.new (.list ds)) e := tr rfl
@[simp] theorem eDic0_s : eDic0 env = .ok (.new (.dict [])) env := tr rfl
@[simp] theorem eB_s (g : List D → Option R) (ms : List (M R)) : eB g ms env = (mArgs ms env).bind (kEB g) := tr rfl
@[simp] theorem kEB_s (g : List D → Option R) (rs : List R) : kEB g rs e = eBO g (getAll rs e) e := tr rfl
@[simp] theorem eBO_s (g : List D → Option R) (xs : List D) : eBO g (some xs) e = ofO (g xs) e := tr rfl
@[simp] theorem getAll_nil : getAll [] e = some [] := tr rfl
@[simp] theorem getAll_cons (r : R) (rs : List R) : getAll (r :: rs) e = match get r e, getAll rs e with
    | some x, some xs => some (x :: xs)
    | _, _ => none := tr rfl
@[simp] theorem eIsi_s (T : String) : eIsi T a env = (mP a env).bind (kIsi T) := tr rfl
@[simp] theorem kIsi_s (T : String) (r : R) : kIsi T r e = isiO T (get r e) e := tr rfl
@[simp] theorem isiO_s (T : String) : isiO T (some x) e = match kitB (tyN x) T with
    | some b => .ok (.d (.bool b)) e
    | none => .no := tr rfl
@[simp] theorem sNil_s : sNil e = .ok .nx e := tr rfl
@[simp] theorem sSeq_s : sSeq ma mb env = (ma env).bind (kSeq mb) := tr rfl
@[simp] theorem kSeq_n : kSeq mb .nx e = mb e := tr rfl
@[simp] theorem kSeq_b : kSeq mb .bk e = .ok .bk e := tr rfl
@[simp] theorem kSeq_c : kSeq mb .ct e = .ok .ct e := tr rfl
@[simp] theorem kSeq_r (r : R) : kSeq mb (.rt r) e = .ok (.rt r) e := tr rfl
@[simp] theorem sEx_s : sEx m env = (m env).bind kEx := tr rfl
@[simp] theorem kEx_s (r : R) : kEx r e = .ok .nx e := tr rfl
@[simp] theorem sIf_s : sIf t ma mb env = (t env).bind (kSIf ma mb) := tr rfl
@[simp] theorem kSIf_s (c : Bool) : kSIf ma mb c e = if c then ma e else mb e := tr rfl
@[simp] theorem sSet_s : sSet i m env = (mW m env).bind (kSet i) := tr rfl
@[simp] theorem kSet_d : kSet i (.d x) e = .ok .nx (e.set i (some ⟨0, .d x⟩)) := tr rfl
@[simp] theorem kSet_n : kSet i (.new x) e = .ok .nx (e.set i (some ⟨0, .o x⟩)) := tr rfl
@[simp] theorem sRetN_s : sRetN e = .ok (.rt (.d .none)) e := tr rfl
@[simp] theorem mRet_s : mRet m env = (m env).bind kRet := tr rfl
@[simp] theorem kRet_d : kRet (.d x) e = .ok (.d x) e := tr rfl
@[simp] theorem kRet_n : kRet (.new x) e = .ok (.new x) e := tr rfl
@[simp] theorem kRet_a : kRet (.at i) e = match e[i]? with
    | some (some s) => match s.w, s.tg with
      | .o x, 0 => .ok (.new x) (e.set i none)
      | _, _ => (frz (.at i) e).bind kWd
    | _ => .no := tr rfl
@[simp] theorem sRet_s : sRet m env = (mRet m env).bind kRt := tr rfl
@[simp] theorem kRt_s (r : R) : kRt r e = .ok (.rt r) e := tr rfl
@[simp] theorem sUnp_s (p : Pat) : sUnp p m env = (mD m env).bind (kUnp p) := tr rfl
@[simp] theorem kUnp_s (p : Pat) : kUnp p x e = okN (asgP p x e) := tr rfl
@[simp] theorem asgP_nm : asgP (.nm i) x e = some (e.set i (some ⟨0, .d x⟩)) := by rw [asgP]
@[simp] theorem asgP_tp (ps : List Pat) (ds : List D) : asgP (.tp ps) (.tuple ds) e = asgPs ps ds e := by rw [asgP]
@[simp] theorem asgPs_nil : asgPs [] [] e = some e := by rw [asgPs]
@[simp] theorem asgPs_cons (p : Pat) (ps : List Pat) (d : D) (ds : List D) : asgPs (p :: ps) (d :: ds) e = (asgP p d e).bind (asgPs ps ds) := by rw [asgPs]
@[simp] theorem iSeq_s : iSeq m env = (mD m env).bind kSq := tr rfl
@[simp] theorem kSq_s : kSq x e = okL (itD x) e := tr rfl
@[simp] theorem itD_l (ds : List D) : itD (.list ds) = some ds := tr rfl
@[simp] theorem itD_t (ds : List D) : itD (.tuple ds) = some ds := tr rfl
@[simp] theorem itD_s (z : Str) : itD (.str z) = some (strD z) := tr rfl
@[simp] theorem rng1_s : rng1 m env = (mP m env).bind kR1 := tr rfl
@[simp] theorem kR1_s (r : R) : kR1 r e = r1O (get r e) e := tr rfl
@[simp] theorem r1O_s (j : Int) : r1O (some (.int j)) e = if okR j then .ok (rngD 0 j.toNat) e else .no := tr rfl
theorem okR2 (i j : Int) : decide (-(2 ^ 62) ≤ i ∧ i < 2 ^ 62 ∧ -(2 ^ 62) ≤ j ∧ j < 2 ^ 62) = (okR i && okR j) := by
  unfold okR
  rw [Bool.eq_iff_iff]
  simp only [decide_eq_true_eq, Bool.and_eq_true]
  omega
@[simp] theorem rng2_s : rng2 a b env = (mP a env).bind (kR2 b) := by
  unfold rng2
  congr
  funext r e
  show _ = (mP b e).bind (kR2' r)
  congr
  funext q e'
  unfold kR2'
  generalize get r e' = o
  generalize get q e' = u
  cases o with
  | none => rfl
  | some x => cases x <;> (cases u with
    | none => rfl
    | some y => cases y <;> first | rfl | (unfold r2O; dsimp only; rw [okR2]))
@[simp] theorem kR2_s (r : R) : kR2 b r e = (mP b e).bind (kR2' r) := tr rfl
@[simp] theorem kR2'_s (r q : R) : kR2' r q e = r2O (get r e) (get q e) e := tr rfl
@[simp] theorem r2O_s (i j : Int) : r2O (some (.int i)) (some (.int j)) e = if okR i && okR j then .ok (rngD i (j - i).toNat) e else .no := tr rfl
@[simp] theorem sFor_s (it : M (List D)) (p : Pat) : sFor it p ma env = (it env).bind (kFor p ma) := tr rfl
@[simp] theorem kFor_s (p : Pat) (ds : List D) : kFor p ma ds e = forM' (stepP p ma) ds e := tr rfl
@[simp] theorem stepP_s (p : Pat) (d : D) : stepP p ma d env = stO ma (asgP p d env) := tr rfl
@[simp] theorem stO_s : stO ma (some e) = ma e := tr rfl
@[simp] theorem lcStep_s (p : Pat) (d : D) : lcStep p t m d env = lcO t m (asgP p d env) := tr rfl
@[simp] theorem lcO_s : lcO t m (some e) = (t e).bind (kLc m) := tr rfl
@[simp] theorem kLc_s (b : Bool) : kLc m b e = if b then (mD m e).bind kLc' else .ok none e := tr rfl
@[simp] theorem kLc'_s : kLc' y e = .ok (some y) e := tr rfl
@[simp] theorem tYes_s : tYes' e = .ok true e := tr rfl
@[simp] theorem eCall_s (f : FM) (ms : List (M R)) : eCall f ms env = (mArgs ms env).bind (kCall f) := tr rfl
@[simp] theorem kCall_s (f : FM) (rs : List R) : kCall f rs e = callF f rs e := tr rfl
@[simp] theorem eSubSt_s (mi me : M R) : eSubSt i mi me env = (mD me env).bind (kSub i mi) := tr rfl
@[simp] theorem kSub_s (mi : M R) : kSub i mi y e = subO i mi y (e[i]?) e := tr rfl
@[simp] theorem subO_s (mi : M R) (s : Slot) : subO i mi y (some (some s)) e = (mD mi e).bind (kSub' i y) := tr rfl
@[simp] theorem kSub'_s (k : D) : kSub' i y k e = stAt i y k e := tr rfl
end
/-- how a function ends, reckoned -/
def endF (np : Nat) : Res Fl → FRes
  | .ok (.rt (.d x)) e => .ok (.d x) (outsOf np e)
  | .ok (.rt (.new x)) e => .ok (.o x) (outsOf np e)
  | .ok .nx e => .ok (.d .none) (outsOf np e)
  | .ex c x e => .ex c x (outsOf np e)
  | _ => .no
theorem fnM_e (np n : Nat) (body : M Fl) (ws : List W) : fnM np n body ws = endF np (body (argE 0 ws ++ List.replicate (n - np) none)) := by
  unfold fnM endF
  split <;> simp_all
section
variable {p : Prop} [Decidable p] (np : Nat) (e : Env') (x : D)
@[simp] theorem endF_d : endF np (.ok (.rt (.d x)) e) = .ok (.d x) (outsOf np e) := tr rfl
@[simp] theorem endF_n : endF np (.ok (.rt (.new x)) e) = .ok (.o x) (outsOf np e) := tr rfl
@[simp] theorem endF_x : endF np (.ok .nx e) = .ok (.d .none) (outsOf np e) := tr rfl
@[simp] theorem endF_e (c : Str) : endF np (.ex c x e) = .ex c x (outsOf np e) := tr rfl
@[simp] theorem endF_ite (a b : Res Fl) : endF np (if p then a else b) = if p then endF np a else endF np b := by split <;> rfl
end
theorem fnM_s (np n : Nat) (body : M Fl) (ws : List W) : fnM np n body ws = match body (argE 0 ws ++ List.replicate (n - np) none) with
  | .ok (.rt (.d x)) e => .ok (.d x) (outsOf np e)
  | .ok (.rt (.new x)) e => .ok (.o x) (outsOf np e)
  | .ok .nx e => .ok (.d .none) (outsOf np e)
  | .ex c x e => .ex c x (outsOf np e)
  | _ => .no := tr rfl
end PL

namespace PL
open PySem PySem.Spec PyProof.Rows L2 PySem.SeqAt

/-! ### operations on data, reckoned -/
section
variable (e : Env') (x y : D) (i j : Int) (ds es : List D) (b : Bool) (z u : Str)
@[simp] theorem bD_b : bD (.bool b) = some b := tr rfl
@[simp] theorem truR_d : truR (.d x) e = truD x := tr rfl
@[simp] theorem truR_new : truR (.new x) e = truD x := tr rfl
theorem truR_at (k : Nat) : truR (.at k) e = (get (.at k) e).bind truD := tr rfl
@[simp] theorem truD_n : truD .none = some false := tr rfl
@[simp] theorem truD_b : truD (.bool b) = some b := tr rfl
@[simp] theorem truD_i : truD (.int i) = some (i != 0) := tr rfl
@[simp] theorem truD_l : truD (.list ds) = some (!ds.isEmpty) := tr rfl
@[simp] theorem truD_t : truD (.tuple ds) = some (!ds.isEmpty) := tr rfl
@[simp] theorem ixR_l : ixR (.list ds) (.int i) = (atI ds i).map R.d := tr rfl
@[simp] theorem ixR_t : ixR (.tuple ds) (.int i) = (atI ds i).map R.d := tr rfl
theorem ixR_s : ixR (.str z) (.int i) = (if lim z.length then (atI z.cps.toList i).map fun c => PyData.str ⟨#[c]⟩ else none).map R.d := tr rfl
@[simp] theorem atI_0 {α : Type} (a : α) (l : List α) : atI (a :: l) 0 = some a := by
  unfold atI ixN
  simp
@[simp] theorem atI_1 {α : Type} (a b : α) (l : List α) : atI (a :: b :: l) 1 = some b := by
  unfold atI ixN
  have h1 : (1 : Int) < ((a :: b :: l).length : Int) := by simp only [List.length_cons]; omega
  rw [if_pos (by decide), if_pos h1]
  rfl
@[simp] theorem atI_2 {α : Type} (a b c : α) (l : List α) : atI (a :: b :: c :: l) 2 = some c := by
  unfold atI ixN
  have h1 : (2 : Int) < ((a :: b :: c :: l).length : Int) := by simp only [List.length_cons]; omega
  rw [if_pos (by decide), if_pos h1]
  rfl
theorem atI_of {α : Type} {l : List α} {n : Nat} {a : α} (h : l[n]? = some a) : atI l (n : Int) = some a := by
  obtain ⟨hl, ha⟩ := List.getElem?_eq_some_iff.mp h
  unfold atI ixN
  have h1 : (0 : Int) ≤ (n : Int) := Int.natCast_nonneg n
  have h2 : (n : Int) < (l.length : Int) := by omega
  rw [if_pos h1, if_pos h2]
  simp [h]
@[simp] theorem cmp_lt : cmpR .Lt (.int i) (.int j) = some (.d (.bool (decide (i < j)))) := by
  show ((ltD (.int i) (.int j)).map _) = _
  unfold ltD
  rw [if_pos (by rfl), PySem.W.dataLt_int]
  rfl
@[simp] theorem cmp_le : cmpR .LtE (.int i) (.int j) = some (.d (.bool (decide (i ≤ j)))) := tr rfl
@[simp] theorem cmp_gt : cmpR .Gt (.int i) (.int j) = some (.d (.bool (decide (j < i)))) := tr rfl
@[simp] theorem cmp_ge : cmpR .GtE (.int i) (.int j) = some (.d (.bool (decide (j ≤ i)))) := tr rfl
@[simp] theorem cmp_eqi : cmpR .Eq (.int i) (.int j) = some (.d (.bool (decide (i = j)))) := by
  show some (R.d (.bool (PyData.eqv (.int i) (.int j)))) = _
  rw [PyData.eqv]
  rfl
@[simp] theorem cmp_nei : cmpR .NotEq (.int i) (.int j) = some (.d (.bool (!decide (i = j)))) := by
  show some (R.d (.bool (!PyData.eqv (.int i) (.int j)))) = _
  rw [PyData.eqv]
  rfl
theorem cmp_eqE (h1 : shaped x = true) (h2 : shaped y = true) : cmpR .Eq x y = some (.d (.bool (PyData.eqv x y))) := by
  show ((eqD x y).map _) = _
  unfold eqD
  rw [if_pos (by rw [h1, h2]; rfl)]
  rfl
theorem cmp_neE (h1 : shaped x = true) (h2 : shaped y = true) : cmpR .NotEq x y = some (.d (.bool (!PyData.eqv x y))) := by
  show (((eqD x y).map (! ·)).map _) = _
  unfold eqD
  rw [if_pos (by rw [h1, h2]; rfl)]
  rfl
theorem cmp_ltE (h1 : shaped x = true) (h2 : shaped y = true) (h3 : PySem.W.alike x y = true) (h4 : notNone x = true) : cmpR .Lt x y = some (.d (.bool (PySem.W.dataLt x y))) := by
  show ((ltD x y).map _) = _
  unfold ltD
  rw [if_pos (by rw [h1, h2, h3, h4]; rfl)]
  rfl
theorem cmp_inT (h1 : shaped x = true) (h2 : shaped (.tuple ds) = true) : cmpR .In x (.tuple ds) = some (.d (.bool (ds.any fun z => PyData.eqv z x))) := by
  show ((inD x (.tuple ds)).map _) = _
  unfold inD
  dsimp only
  rw [if_pos (by rw [h1, h2]; rfl)]
  rfl
theorem cmp_inL (h1 : shaped x = true) (h2 : shaped (.list ds) = true) : cmpR .In x (.list ds) = some (.d (.bool (ds.any fun z => PyData.eqv z x))) := by
  show ((inD x (.list ds)).map _) = _
  unfold inD
  dsimp only
  rw [if_pos (by rw [h1, h2]; rfl)]
  rfl
theorem cmp_inS : cmpR .In (.str z) (.str u) = some (.d (.bool (inStr z u))) := rfl
theorem cmp_inD (kvs : List (D × D)) (k : Key) (h : keyOfD x = some k) : cmpR .In x (.dict kvs) = some (.d (.bool (lookD kvs k).isSome)) := by
  show ((inD x (.dict kvs)).map _) = _
  unfold inD
  rw [h]
  rfl
@[simp] theorem bin_add : binD .Add (.int i) (.int j) = some (.d (.int (i + j))) := tr rfl
@[simp] theorem bin_sub : binD .Sub (.int i) (.int j) = some (.d (.int (i - j))) := tr rfl
@[simp] theorem bin_mul : binD .Mult (.int i) (.int j) = if mulOk i j then some (.d (.int (i * j))) else none := tr rfl
@[simp] theorem bin_div : binD .FloorDiv (.int i) (.int j) = if j ≠ 0 ∧ j.natAbs < 1073741824 then some (.d (.int (i.fdiv j))) else none := by
  show (if decide (j ≠ 0 ∧ j.natAbs < 1073741824) = true then some (PyData.int (i.fdiv j)) else none).map R.d = _
  by_cases h : j ≠ 0 ∧ j.natAbs < 1073741824
  · rw [if_pos (decide_eq_true h), if_pos h]; rfl
  · rw [if_neg (by simpa using h), if_neg h]; rfl
@[simp] theorem bin_mod : binD .Mod (.int i) (.int j) = if j ≠ 0 then some (.d (.int (i.fmod j))) else none := by
  show (if decide (j ≠ 0) = true then some (PyData.int (i.fmod j)) else none).map R.d = _
  by_cases h : j ≠ 0
  · rw [if_pos (decide_eq_true h), if_pos h]; rfl
  · rw [if_neg (by simpa using h), if_neg h]; rfl
theorem bin_pow (h : 0 ≤ j ∧ j ≤ 1000000 ∧ i.natAbs < 2 ^ 64) : binD .Pow (.int i) (.int j) = some (.d (.int (i ^ j.toNat))) := by
  show (if decide (0 ≤ j ∧ j ≤ 1000000 ∧ i.natAbs < 2 ^ 64) = true then some (PyData.int (i ^ j.toNat)) else none).map R.d = _
  rw [if_pos (decide_eq_true h)]; rfl
theorem bin_shl (h : 0 ≤ j ∧ j ≤ 1000000 ∧ i.natAbs < 2 ^ 64) : binD .LShift (.int i) (.int j) = some (.d (.int (i * 2 ^ j.toNat))) := by
  show (if decide (0 ≤ j ∧ j ≤ 1000000 ∧ i.natAbs < 2 ^ 64) = true then some (PyData.int (i * 2 ^ j.toNat)) else none).map R.d = _
  rw [if_pos (decide_eq_true h)]; rfl
theorem bin_addL (h : ds.length + es.length ≤ sizeLine) : binD .Add (.list ds) (.list es) = some (.new (.list (ds ++ es))) := by
  show (if lim (ds.length + es.length) = true then _ else none) = _
  rw [if_pos (show lim _ = true from decide_eq_true h)]
theorem bin_addT (h : ds.length + es.length ≤ sizeLine) : binD .Add (.tuple ds) (.tuple es) = some (.d (.tuple (ds ++ es))) := by
  show (if lim (ds.length + es.length) = true then _ else none) = _
  rw [if_pos (show lim _ = true from decide_eq_true h)]
theorem bin_addS (h : z.length + u.length ≤ sizeLine) : binD .Add (.str z) (.str u) = some (.d (.str (z ++ u))) := by
  show (if lim (z.length + u.length) = true then _ else none) = _
  rw [if_pos (show lim _ = true from decide_eq_true h)]
@[simp] theorem len_l : lenD [.list ds] = some (.d (.int ds.length)) := tr rfl
@[simp] theorem len_t : lenD [.tuple ds] = some (.d (.int ds.length)) := tr rfl
theorem len_s (h : z.length ≤ sizeLine) : lenD [.str z] = some (.d (.int z.length)) := by
  show (if lim z.length = true then _ else none) = _
  rw [if_pos (show lim _ = true from decide_eq_true h)]
@[simp] theorem abs_s : absD [.int i] = some (.d (.int (if i < 0 then -i else i))) := tr rfl
@[simp] theorem int_i : intD [.int i] = some (.d (.int i)) := tr rfl
@[simp] theorem int_b : intD [.bool b] = some (.d (.int (if b then 1 else 0))) := tr rfl
@[simp] theorem max_s : maxD [.int i, .int j] = some (.d (.int (if j > i then j else i))) := tr rfl
@[simp] theorem min_s : minD [.int i, .int j] = some (.d (.int (if j < i then j else i))) := tr rfl
@[simp] theorem list_l : list2D [.list ds] = some (.new (.list ds)) := tr rfl
@[simp] theorem list_t : list2D [.tuple ds] = some (.new (.list ds)) := tr rfl
@[simp] theorem tuple_l : tupleD [.list ds] = some (.d (.tuple ds)) := tr rfl
@[simp] theorem tuple_t : tupleD [.tuple ds] = some (.d (.tuple ds)) := tr rfl
@[simp] theorem all_s : allD [.list ds] = (boolsD ds).map fun ns => .d (.bool (ns.all id)) := tr rfl
@[simp] theorem any_s : anyD [.list ds] = (boolsD ds).map fun ns => .d (.bool (ns.any id)) := tr rfl
@[simp] theorem sum_s : sumD [.list ds] = (intsD ds).map fun ns => .d (.int ns.sum) := tr rfl
theorem sorted_s : sortedD [.list ds] = if sortable ds then some (.new (.list (sortL ds))) else none := tr rfl
@[simp] theorem stAt_l (k : Nat) (n : Nat) (t : Nat) (h : e[k]? = some (some ⟨t, .o (.list ds)⟩)) : stAt k y (.int i) e = match (ixN ds.length i).map fun n => PyData.list (ds.set n y) with
    | some x' => .ok .nx (e.set k (some ⟨t, .o x'⟩))
    | none => .no := by
  unfold stAt
  rw [h]
  rfl
end

/-! ### calls -/
theorem callF_ok {f : FM} {rs : List R} {e : Env'} {ws : List W} {r : W} {outs : List (Option W)} (h1 : (ownIx rs e).Nodup) (h2 : argWs rs e = some ws) (h3 : f ws = .ok r outs) : callF f rs e = .ok r.r (setOuts e rs outs) := by
  unfold callF
  rw [if_pos h1, h2]
  dsimp only
  rw [h3]
@[simp] theorem r_d (x : D) : (W.d x).r = .d x := tr rfl
@[simp] theorem r_o (x : D) : (W.o x).r = .new x := tr rfl

/-! ### turns -/
/-- each turn gives one datum and leaves the names as they were -/
theorem lcM_map {step : D → M (Option D)} {vs : List Nat} {env : Env'} {g : D → D} : ∀ {ds : List D} {out : List D}, (∀ d, d ∈ ds → ∃ e', step d env = .ok (some (g d)) e' ∧ wipeE e' vs = env) → lcM step vs ds out env = .ok (out ++ ds.map g) env
  | [], out, _ => by simp [lcM]
  | d :: ds, out, h => by
    obtain ⟨e', h1, h2⟩ := h d (List.mem_cons_self ..)
    rw [lcM, h1]
    simp only [bind_ok]
    rw [h2, lcM_map fun d hd => h d (List.mem_cons_of_mem _ hd)]
    simp
/-- the same where a test may say no -/
theorem lcM_fmap {step : D → M (Option D)} {vs : List Nat} {env : Env'} {g : D → Option D} : ∀ {ds : List D} {out : List D}, (∀ d, d ∈ ds → ∃ e', step d env = .ok (g d) e' ∧ wipeE e' vs = env) → lcM step vs ds out env = .ok (out ++ ds.filterMap g) env
  | [], out, _ => by simp [lcM]
  | d :: ds, out, h => by
    obtain ⟨e', h1, h2⟩ := h d (List.mem_cons_self ..)
    rw [lcM, h1]
    simp only [bind_ok]
    rw [h2]
    cases hg : g d with
    | none => simp only [hg]; rw [lcM_fmap fun d hd => h d (List.mem_cons_of_mem _ hd)]; simp [hg]
    | some y => simp only [hg]; rw [lcM_fmap fun d hd => h d (List.mem_cons_of_mem _ hd)]; simp [hg]
/-- an invariant of the turns -/
theorem lcM_inv {step : D → M (Option D)} {vs : List Nat} (I : Nat → List D → Env' → Prop) : ∀ {ds : List D} {out : List D} {env : Env'} {n : Nat}, I n out env →
    (∀ k d out e, ds[k]? = some d → I (n + k) out e → ∃ o e', step d e = .ok o e' ∧ I (n + k + 1) (out ++ o.toList) (wipeE e' vs)) → ∃ out' e', lcM step vs ds out env = .ok out' e' ∧ I (n + ds.length) out' e'
  | [], out, env, n, h, _ => ⟨out, env, rfl, h⟩
  | d :: ds, out, env, n, h, hs => by
    obtain ⟨o, e', h1, h2⟩ := hs 0 d out env rfl h
    have rest : ∃ out' e'', lcM step vs ds (out ++ o.toList) (wipeE e' vs) = .ok out' e'' ∧ I (n + 1 + ds.length) out' e'' := lcM_inv I (n := n + 1) h2 fun k d' out e hd hi => by
      have := hs (k + 1) d' out e (by simpa using hd) (by rw [show n + (k + 1) = n + 1 + k by omega]; exact hi)
      obtain ⟨o, e', a1, a2⟩ := this
      exact ⟨o, e', a1, by rw [show n + 1 + k + 1 = n + (k + 1) + 1 by omega]; exact a2⟩
    obtain ⟨out', e'', r1, r2⟩ := rest
    refine ⟨out', e'', ?_, by rw [List.length_cons, show n + (ds.length + 1) = n + 1 + ds.length by omega]; exact r2⟩
    rw [lcM, h1]
    simp only [bind_ok]
    cases o with
    | none => simpa using r1
    | some y => simpa using r1
theorem forM_inv {step : D → M Fl} (I : Nat → Env' → Prop) : ∀ {ds : List D} {env : Env'} {n : Nat}, I n env → (∀ k d e, ds[k]? = some d → I (n + k) e → ∃ fl e', step d e = .ok fl e' ∧ (fl = .nx ∨ fl = .ct) ∧ I (n + k + 1) e') →
    ∃ e', forM' step ds env = .ok .nx e' ∧ I (n + ds.length) e'
  | [], env, n, h, _ => ⟨env, rfl, h⟩
  | d :: ds, env, n, h, hs => by
    obtain ⟨fl, e', h1, hf, h2⟩ := hs 0 d env rfl h
    have rest : ∃ e'', forM' step ds e' = .ok .nx e'' ∧ I (n + 1 + ds.length) e'' := forM_inv I (n := n + 1) h2 fun k d' e hd hi => by
      obtain ⟨fl, e', a1, af, a2⟩ := hs (k + 1) d' e (by simpa using hd) (by rw [show n + (k + 1) = n + 1 + k by omega]; exact hi)
      exact ⟨fl, e', a1, af, by rw [show n + 1 + k + 1 = n + (k + 1) + 1 by omega]; exact a2⟩
    obtain ⟨e'', r1, r2⟩ := rest
    refine ⟨e'', ?_, by rw [List.length_cons, show n + (ds.length + 1) = n + 1 + ds.length by omega]; exact r2⟩
    rw [forM', h1]
    rcases hf with rfl | rfl <;> exact r1
end PL

namespace PL
open PySem PySem.Spec PyProof.Rows L2 PySem.SeqAt

/-! ### what holds when it is done -/
def Yes {α : Type} (r : Res α) (Q : α → Env' → Prop) : Prop := ∃ a e, r = .ok a e ∧ Q a e
def FYes (f : FM) (ws : List W) (Q : W → List (Option W) → Prop) : Prop := ∃ r outs, f ws = .ok r outs ∧ Q r outs
/-- how a function ends -/
def fin (np : Nat) (Q : W → List (Option W) → Prop) : Fl → Env' → Prop
  | .rt (.d x), e => Q (.d x) (outsOf np e)
  | .rt (.new x), e => Q (.o x) (outsOf np e)
  | .nx, e => Q (.d .none) (outsOf np e)
  | _, _ => False
section
variable {α β : Type} {r : Res α} {f : α → Env' → Res β} {P : α → Env' → Prop} {Q : β → Env' → Prop} {e : Env'}
@[simp] theorem Yes_ok {a : α} {P : α → Env' → Prop} : Yes (.ok a e) P ↔ P a e := ⟨fun ⟨_, _, h, p⟩ => by cases h; exact p, fun h => ⟨_, _, rfl, h⟩⟩
@[simp] theorem Yes_no {P : α → Env' → Prop} : Yes (Res.no) P ↔ False := ⟨fun ⟨_, _, h, _⟩ => (nomatch h), fun h => h.elim⟩
@[simp] theorem bind_assoc' {γ : Type} {g : β → Env' → Res γ} : (r.bind f).bind g = r.bind (compK f g) := by cases r <;> rfl
theorem Yes.bind (h : Yes r P) (k : ∀ a e, P a e → Yes (f a e) Q) : Yes (r.bind f) Q := by
  obtain ⟨a, e, rfl, p⟩ := h
  exact k a e p
theorem Yes.mono {P Q : α → Env' → Prop} (h : Yes r P) (k : ∀ a e, P a e → Q a e) : Yes r Q := by
  obtain ⟨a, e, rfl, p⟩ := h
  exact ⟨a, e, rfl, k a e p⟩
theorem FYes.mono {f : FM} {ws : List W} {P Q : W → List (Option W) → Prop} (h : FYes f ws P) (k : ∀ r o, P r o → Q r o) : FYes f ws Q := by
  obtain ⟨a, e, h, p⟩ := h
  exact ⟨a, e, h, k a e p⟩
theorem FYes.fnM {np n : Nat} {body : M Fl} {ws : List W} {Q : W → List (Option W) → Prop} (h : Yes (body (argE 0 ws ++ List.replicate (n - np) none)) (fin np Q)) : FYes (fnM np n body) ws Q := by
  obtain ⟨fl, e, h1, q⟩ := h
  unfold FYes
  rw [fnM_s, h1]
  cases fl with
  | rt r => cases r with
    | d x => exact ⟨_, _, rfl, q⟩
    | new x => exact ⟨_, _, rfl, q⟩
    | «at» i => exact q.elim
  | nx => exact ⟨_, _, rfl, q⟩
  | _ => exact q.elim
theorem Yes.call0 {g : FM} {rs : List R} {ws : List W} {P : W → List (Option W) → Prop} {f : R → Env' → Res β} (h1 : (ownIx rs e).Nodup) (h2 : argWs rs e = some ws) (h : FYes g ws P) (k : ∀ r outs, P r outs → Yes (f r.r (setOuts e rs outs)) Q) : Yes ((callF g rs e).bind f) Q := by
  obtain ⟨r, outs, h3, p⟩ := h
  rw [callF_ok h1 h2 h3]
  exact k _ _ p
theorem Yes.call {g : FM} {rs : List R} {ws : List W} {f : R → Env' → Res β} (h1 : decide (ownIx rs e).Nodup = true) (h2 : argWs rs e = some ws) (h : FYes g ws fun r outs => Yes (f r.r (setOuts e rs outs)) Q) : Yes ((callF g rs e).bind f) Q :=
  Yes.call0 (of_decide_eq_true h1) h2 h fun _ _ z => z
theorem Yes.call1 {g : FM} {rs : List R} {ws : List W} {Q : R → Env' → Prop} (h1 : decide (ownIx rs e).Nodup = true) (h2 : argWs rs e = some ws) (h : FYes g ws fun r outs => Q r.r (setOuts e rs outs)) : Yes (callF g rs e) Q := by
  obtain ⟨r, outs, h3, p⟩ := h
  rw [callF_ok (of_decide_eq_true h1) h2 h3]
  exact Yes_ok.mpr p
/-- the turns of a comprehension -/
theorem Yes.lcM {step : D → M (Option D)} {vs : List Nat} {ds : List D} {f : List D → Env' → Res β} (I : Nat → List D → Env' → Prop) (h0 : I 0 [] e)
    (hs : ∀ k d out e (R : Option D → Env' → Prop), ds[k]? = some d → I k out e → (∀ o e', I (k + 1) (out ++ o.toList) (wipeE e' vs) → R o e') → Yes (step d e) R)
    (q : ∀ out e', I ds.length out e' → Yes (f out e') Q) : Yes ((inside (lcM step vs ds [] e)).bind f) Q := by
  obtain ⟨out, e', h1, h2⟩ := lcM_inv (n := 0) I h0 fun k d out e hd hi => by
    rw [Nat.zero_add] at hi ⊢
    exact hs k d out e _ hd hi fun _ _ z => z
  rw [h1]
  rw [Nat.zero_add] at h2
  exact q out e' h2
/-- the turns of a loop -/
theorem Yes.forM {step : D → M Fl} {ds : List D} {f : Fl → Env' → Res β} (I : Nat → Env' → Prop) (h0 : I 0 e)
    (hs : ∀ k d e (R : Fl → Env' → Prop), ds[k]? = some d → I k e → (∀ fl e', (fl = .nx ∨ fl = .ct) → I (k + 1) e' → R fl e') → Yes (step d e) R)
    (q : ∀ e', I ds.length e' → Yes (f .nx e') Q) : Yes ((forM' step ds e).bind f) Q := by
  obtain ⟨e', h1, h2⟩ := forM_inv (n := 0) I h0 fun k d e hd hi => by
    rw [Nat.zero_add] at hi ⊢
    obtain ⟨fl, e', a, b⟩ := hs k d e (fun fl e' => (fl = .nx ∨ fl = .ct) ∧ I (k + 1) e') hd hi fun _ _ z y => ⟨z, y⟩
    exact ⟨fl, e', a, b⟩
  rw [h1]
  rw [Nat.zero_add] at h2
  exact q e' h2
/-- a loop that ends -/
theorem while_inv {t : M Bool} {body : M Fl} (I : Nat → Env' → Prop)
    (hs : ∀ k e, I k e → Yes (t e) fun c e1 => if c then Yes (body e1) fun fl e' => (fl = .nx ∨ fl = .ct) ∧ ∃ j, j < k ∧ I j e' else I k e1) : ∀ (n k : Nat) (e : Env'), k < n → I k e → Yes (whileM t body n e) fun fl e' => fl = .nx ∧ ∃ j, I j e' ∧ Yes (t e') fun _ _ => True
  | 0, _, _, h, _ => absurd h (by omega)
  | n + 1, k, e, h, hi => by
    obtain ⟨c, e1, h1, h2⟩ := hs k e hi
    rw [whileM, h1, bind_ok]
    cases c with
    | true =>
      obtain ⟨fl, e', h3, h4, j, hj, h5⟩ := h2
      rw [if_pos rfl, h3, bind_ok]
      have := while_inv I hs n j e' (by omega) h5
      rcases h4 with rfl | rfl <;> exact this
    | false =>
      obtain ⟨c2, e2, g1, g2⟩ := hs k e1 h2
      exact ⟨_, _, rfl, rfl, k, h2, c2, e2, g1, trivial⟩
end
/-! ### more rules -/
def andK (x : D) (b : Res R) (e : Env') : Res R := two (truD x) b (.ok (.d x) e)
def orK (x : D) (b : Res R) (e : Env') : Res R := two (truD x) (.ok (.d x) e) b
section
variable (b : Res R) (e : Env') (c : Bool) (i : Int) (ds : List D)
@[simp] theorem andK_b : andK (.bool c) b e = if c = true then b else .ok (.d (.bool false)) e := by cases c <;> rfl
@[simp] theorem orK_b : orK (.bool c) b e = if c = true then .ok (.d (.bool true)) e else b := by cases c <;> rfl
@[simp] theorem andK_n : andK .none b e = .ok (.d .none) e := rfl
@[simp] theorem orK_n : orK .none b e = b := rfl
@[simp] theorem andK_l : andK (.list ds) b e = if ds.isEmpty = true then .ok (.d (.list ds)) e else b := by cases ds <;> rfl
@[simp] theorem orK_l : orK (.list ds) b e = if ds.isEmpty = true then b else .ok (.d (.list ds)) e := by cases ds <;> rfl
@[simp] theorem andK_t : andK (.tuple ds) b e = if ds.isEmpty = true then .ok (.d (.tuple ds)) e else b := by cases ds <;> rfl
@[simp] theorem orK_t : orK (.tuple ds) b e = if ds.isEmpty = true then b else .ok (.d (.tuple ds)) e := by cases ds <;> rfl
end
def kFz (x : D) (e : Env') : Res R := .ok (.d x) e
def kLC' (e0 : Env') (vs : List Nat) (out : List D) (e : Env') : Res R := .ok (.new (.list out)) (restE e0 e vs)
def kLC (p : Pat) (t : M Bool) (m : M R) (vs : List Nat) (ds : List D) (e0 : Env') : Res R := if lim ds.length then (inside (lcM (lcStep p t m) vs ds [] (wipeE e0 vs))).bind (kLC' e0 vs) else .no
def kDC' (e0 : Env') (vs : List Nat) (out : List (D × D)) (e : Env') : Res R := .ok (.new (.dict out)) (restE e0 e vs)
def kDC (p : Pat) (t : M Bool) (mk m : M R) (vs : List Nat) (ds : List D) (e0 : Env') : Res R := if lim ds.length then (inside (dcM (dcStep p t mk m) vs ds [] (wipeE e0 vs))).bind (kDC' e0 vs) else .no
def kPar (is : List Nat) (ws : List W) (e : Env') : Res Fl := okN (asgWs is ws e)
def kWs' (w : W) (ws : List W) (e : Env') : Res (List W) := .ok (w :: ws) e
def wsO (o : Option W) (ms : List (M R)) (e : Env') : Res (List W) := match o with
  | some w => (mWs ms e).bind (kWs' w)
  | none => .no
def kWs (ms : List (M R)) (r : R) (e : Env') : Res (List W) := wsO (toW r) ms e
def moO (o : Option D) (e : Env') : Res (Option Int) := match o with
  | some (.int i) => .ok (some i) e
  | _ => .no
def kMO (r : R) (e : Env') : Res (Option Int) := moO (get r e) e
def slO (o : Option D) (l h : Option Int) (e : Env') : Res R := match o with
  | some x => ofO (slD x l h) e
  | none => .no
def kSl2 (r : R) (l h : Option Int) (e : Env') : Res R := slO (get r e) l h e
def kSl1 (hi : Option (M R)) (r : R) (l : Option Int) (e : Env') : Res R := (mO hi e).bind (kSl2 r l)
def kSl (lo hi : Option (M R)) (r : R) (e : Env') : Res R := (mO lo e).bind (kSl1 hi r)
def kAndE (b : M R) (x : D) (e : Env') : Res R := andK x (b e) e
def kOrE (b : M R) (x : D) (e : Env') : Res R := orK x (b e) e
def kCh2 (op' : CmpOp) (q s : R) (e : Env') : Res R := app2 (cmpR op') q s e
def kCh1 (op' : CmpOp) (c : M R) (q z : R) (e : Env') : Res R := two (bR z) ((mP c e).bind (kCh2 op' q)) (.ok (.d (.bool false)) e)
def kCh0 (op op' : CmpOp) (c : M R) (r q : R) (e : Env') : Res R := (app2 (cmpR op) r q e).bind (kCh1 op' c q)
def kCh (op op' : CmpOp) (b c : M R) (r : R) (e : Env') : Res R := (mP b e).bind (kCh0 op op' c r)
def muO2 (i : Nat) (t : Nat) (e : Env') (o : Option (D × List D)) : Res R := match o with
  | some (r, ds') => .ok (.d r) (e.set i (some ⟨t, .o (.list ds')⟩))
  | none => .no
def muO (f : Mt) (i : Nat) (as : List D) (e : Env') (o : Option (Nat × List D)) : Res R := match o with
  | some (t, ds) => muO2 i t e (f ds as)
  | none => .no
def kMut (f : Mt) (i : Nat) (as : List D) (e : Env') : Res R := muO f i as e (ownL i e)
def muA (f : Mt) (i : Nat) (ms : List (M R)) (env : Env') (o : Option (Nat × List D)) : Res R := match o with
  | some _ => (mDs ms env).bind (kMut f i)
  | none => .no
def mtO2 (f : Rd1) (o : Option D) (as : Option (List D)) (e : Env') : Res R := match o, as with
  | some x, some as => ofO (f x as) e
  | _, _ => .no
def kMth2 (f : Rd1) (r : R) (rs : List R) (e : Env') : Res R := mtO2 f (get r e) (getAll rs e) e
def mtO (T : String) (f : Rd1) (ms : List (M R)) (r : R) (e : Env') (o : Option D) : Res R := match o with
  | some x0 => if tyOk T x0 then (mArgs ms e).bind (kMth2 f r) else .no
  | none => .no
def kMth (T : String) (f : Rd1) (ms : List (M R)) (r : R) (e : Env') : Res R := mtO T f ms r e (get r e)
def kCK2 (f : FM) (ix : List Nat) (rs qs : List R) (e : Env') : Res R := callF f (atL ix (rs ++ qs)) e
def kCK (f : FM) (mks : List (M R)) (ix : List Nat) (rs : List R) (e : Env') : Res R := (mArgs mks e).bind (kCK2 f ix rs)
def ssO (o : Option D) (e : Env') : Res R := match o with
  | some (.list ds) => if settable ds then .ok (.new (.list (sortL (uniq ds)))) e else .no
  | _ => .no
def kSS (r : R) (e : Env') : Res R := ssO (get r e) e
def kEnu (x : D) (e : Env') : Res (List D) := match x with
  | .list ds => .ok (enumFrom' 0 ds) e
  | _ => .no
def zpO (x y : D) (e : Env') : Res (List D) := match x, y with
  | .list ds, .list es => .ok (zipD ds es) e
  | .tuple ds, .tuple es => .ok (zipD ds es) e
  | _, _ => .no
def kZp2 (x y : D) (e : Env') : Res (List D) := zpO x y e
def kZp (b : M R) (x : D) (e : Env') : Res (List D) := (mD b e).bind (kZp2 x)
section
variable {α β : Type} (env e : Env') (x y : D) (i j k : Nat) (a b c m : M R) (s t : M Bool) (ma mb : M Fl)
@[simp] theorem inside_ok {α : Type} (a : α) : inside (.ok a e) = .ok a e := tr rfl
@[simp] theorem eFz_s : eFz m env = (mD m env).bind kFz := tr rfl
@[simp] theorem kFz_s : kFz x e = .ok (.d x) e := tr rfl
@[simp] theorem eLC_s (it : M (List D)) (p : Pat) (vs : List Nat) : eLC it p t m vs env = (it env).bind (kLC p t m vs) := tr rfl
@[simp] theorem kLC_s (p : Pat) (vs : List Nat) (ds : List D) : kLC p t m vs ds e = if lim ds.length then (inside (lcM (lcStep p t m) vs ds [] (wipeE e vs))).bind (kLC' e vs) else .no := tr rfl
@[simp] theorem kLC'_s (e0 : Env') (vs : List Nat) (out : List D) : kLC' e0 vs out e = .ok (.new (.list out)) (restE e0 e vs) := tr rfl
@[simp] theorem eDC_s (it : M (List D)) (p : Pat) (mk : M R) (vs : List Nat) : eDC it p t mk m vs env = (it env).bind (kDC p t mk m vs) := tr rfl
@[simp] theorem kDC_s (p : Pat) (mk : M R) (vs : List Nat) (ds : List D) : kDC p t mk m vs ds e = if lim ds.length then (inside (dcM (dcStep p t mk m) vs ds [] (wipeE e vs))).bind (kDC' e vs) else .no := tr rfl
@[simp] theorem kDC'_s (e0 : Env') (vs : List Nat) (out : List (D × D)) : kDC' e0 vs out e = .ok (.new (.dict out)) (restE e0 e vs) := tr rfl
@[simp] theorem sPar_s (is : List Nat) (ms : List (M R)) : sPar is ms env = (mWs ms env).bind (kPar is) := tr rfl
@[simp] theorem kPar_s (is : List Nat) (ws : List W) : kPar is ws e = okN (asgWs is ws e) := tr rfl
@[simp] theorem mWs_nil : mWs [] env = .ok [] env := tr rfl
@[simp] theorem mWs_cons (ms : List (M R)) : mWs (m :: ms) env = (mW m env).bind (kWs ms) := tr rfl
@[simp] theorem kWs_s (ms : List (M R)) (r : R) : kWs ms r e = wsO (toW r) ms e := tr rfl
@[simp] theorem wsO_s (w : W) (ms : List (M R)) : wsO (some w) ms e = (mWs ms e).bind (kWs' w) := tr rfl
@[simp] theorem kWs'_s (w : W) (ws : List W) : kWs' w ws e = .ok (w :: ws) e := tr rfl
@[simp] theorem toW_d : toW (.d x) = some (.d x) := tr rfl
@[simp] theorem toW_n : toW (.new x) = some (.o x) := tr rfl
@[simp] theorem asgWs_nil : asgWs [] [] e = some e := tr rfl
@[simp] theorem asgWs_cons (is : List Nat) (w : W) (ws : List W) : asgWs (i :: is) (w :: ws) e = asgWs is ws (e.set i (some (slotOf w))) := tr rfl
@[simp] theorem slotOf_s (w : W) : slotOf w = ⟨0, w⟩ := by cases w <;> rfl
@[simp] theorem eSl_s (lo hi : Option (M R)) : eSl a lo hi env = (mP a env).bind (kSl lo hi) := tr rfl
@[simp] theorem kSl_s (lo hi : Option (M R)) (r : R) : kSl lo hi r e = (mO lo e).bind (kSl1 hi r) := tr rfl
@[simp] theorem kSl1_s (hi : Option (M R)) (r : R) (l : Option Int) : kSl1 hi r l e = (mO hi e).bind (kSl2 r l) := tr rfl
@[simp] theorem kSl2_s (r : R) (l h : Option Int) : kSl2 r l h e = slO (get r e) l h e := tr rfl
@[simp] theorem slO_s (l h : Option Int) : slO (some x) l h e = ofO (slD x l h) e := tr rfl
@[simp] theorem eAnd_s : eAnd a b env = (mD a env).bind (kAndE b) := by
  unfold eAnd; rfl
@[simp] theorem kAndE_s : kAndE b x e = andK x (b e) e := tr rfl
@[simp] theorem eOr_s : eOr a b env = (mD a env).bind (kOrE b) := by
  unfold eOr; rfl
@[simp] theorem kOrE_s : kOrE b x e = orK x (b e) e := tr rfl
@[simp] theorem eCh_s (op op' : CmpOp) : eCh op op' a b c env = (mP a env).bind (kCh op op' b c) := by
  unfold eCh
  congr
  funext r e1
  show _ = (mP b e1).bind (kCh0 op op' c r)
  congr
  funext q e2
  show _ = (app2 (cmpR op) r q e2).bind (kCh1 op' c q)
  congr
  funext z e3
  cases z with
  | d x => cases x <;> first | rfl | (rename_i b; cases b <;> rfl)
  | _ => rfl
@[simp] theorem kCh_s (op op' : CmpOp) (r : R) : kCh op op' b c r e = (mP b e).bind (kCh0 op op' c r) := tr rfl
@[simp] theorem kCh0_s (op op' : CmpOp) (r q : R) : kCh0 op op' c r q e = (app2 (cmpR op) r q e).bind (kCh1 op' c q) := tr rfl
@[simp] theorem kCh1_s (op' : CmpOp) (q z : R) : kCh1 op' c q z e = two (bR z) ((mP c e).bind (kCh2 op' q)) (.ok (.d (.bool false)) e) := tr rfl
@[simp] theorem kCh2_s (op' : CmpOp) (q s : R) : kCh2 op' q s e = app2 (cmpR op') q s e := tr rfl
@[simp] theorem eMut_s (f : Mt) (ms : List (M R)) : eMut f i ms env = muA f i ms env (ownL i env) := by
  unfold eMut muA
  split <;> rename_i h <;> rw [h]
  dsimp only
  congr
  funext as e
  unfold kMut muO muO2
  split <;> rename_i h2 <;> rw [h2]
  dsimp only
  split <;> rename_i h3 <;> rw [h3]
@[simp] theorem muA_s (f : Mt) (ms : List (M R)) (p : Nat × List D) : muA f i ms env (some p) = (mDs ms env).bind (kMut f i) := tr rfl
@[simp] theorem kMut_s (f : Mt) (as : List D) : kMut f i as e = muO f i as e (ownL i e) := tr rfl
@[simp] theorem muO_s (f : Mt) (as : List D) (t : Nat) (ds : List D) : muO f i as e (some (t, ds)) = muO2 i t e (f ds as) := tr rfl
@[simp] theorem muO2_s (t : Nat) (r : D) (ds : List D) : muO2 i t e (some (r, ds)) = .ok (.d r) (e.set i (some ⟨t, .o (.list ds)⟩)) := tr rfl
@[simp] theorem eMth_s (T : String) (f : Rd1) (mo : M R) (ms : List (M R)) : eMth T f mo ms env = (mP mo env).bind (kMth T f ms) := tr rfl
@[simp] theorem kMth_s (T : String) (f : Rd1) (ms : List (M R)) (r : R) : kMth T f ms r e = mtO T f ms r e (get r e) := tr rfl
@[simp] theorem mtO_s (T : String) (f : Rd1) (ms : List (M R)) (r : R) : mtO T f ms r e (some x) = if tyOk T x then (mArgs ms e).bind (kMth2 f r) else .no := tr rfl
@[simp] theorem kMth2_s (f : Rd1) (r : R) (rs : List R) : kMth2 f r rs e = mtO2 f (get r e) (getAll rs e) e := tr rfl
@[simp] theorem mtO2_s (f : Rd1) (as : List D) : mtO2 f (some x) (some as) e = ofO (f x as) e := tr rfl
@[simp] theorem eCallK_s (f : FM) (ms mks : List (M R)) (ix : List Nat) : eCallK f ms mks ix env = (mArgs ms env).bind (kCK f mks ix) := tr rfl
@[simp] theorem kCK_s (f : FM) (mks : List (M R)) (ix : List Nat) (rs : List R) : kCK f mks ix rs e = (mArgs mks e).bind (kCK2 f ix rs) := tr rfl
@[simp] theorem kCK2_s (f : FM) (ix : List Nat) (rs qs : List R) : kCK2 f ix rs qs e = callF f (atL ix (rs ++ qs)) e := tr rfl
@[simp] theorem eSortSet_s : eSortSet m env = (mP m env).bind kSS := tr rfl
@[simp] theorem kSS_s (r : R) : kSS r e = ssO (get r e) e := tr rfl
@[simp] theorem ssO_s (ds : List D) : ssO (some (.list ds)) e = if settable ds then .ok (.new (.list (sortL (uniq ds)))) e else .no := tr rfl
@[simp] theorem iEnu_s : iEnu m env = (mD m env).bind kEnu := tr rfl
@[simp] theorem kEnu_s (ds : List D) : kEnu (.list ds) e = .ok (enumFrom' 0 ds) e := tr rfl
@[simp] theorem iZp_s : iZp a b env = (mD a env).bind (kZp b) := tr rfl
@[simp] theorem kZp_s : kZp b x e = (mD b e).bind (kZp2 x) := tr rfl
@[simp] theorem kZp2_s : kZp2 x y e = zpO x y e := tr rfl
@[simp] theorem zpO_l (ds es : List D) : zpO (.list ds) (.list es) e = .ok (zipD ds es) e := tr rfl
@[simp] theorem zpO_t (ds es : List D) : zpO (.tuple ds) (.tuple es) e = .ok (zipD ds es) e := tr rfl
@[simp] theorem appendF_s (ds : List D) (d : D) : appendF ds [d] = if lim (ds.length + 1) then some (.none, ds ++ [d]) else none := tr rfl
@[simp] theorem popF_s (ds : List D) (i : Int) : popF ds [.int i] = if lim ds.length then (ixN ds.length i).bind fun k => (ds[k]?).map fun d => (d, ds.eraseIdx k) else none := tr rfl
theorem lim_ok {n : Nat} (h : n ≤ sizeLine) : lim n = true := decide_eq_true h
theorem ixN_ok {n k : Nat} (h : k < n) : ixN n (k : Int) = some k := by
  unfold ixN
  have h1 : (0 : Int) ≤ (k : Int) := Int.natCast_nonneg k
  rw [if_pos h1, if_pos (by omega)]
  simp
theorem popF_ok {ds : List D} {k : Nat} (h : k < ds.length) (hl : ds.length ≤ sizeLine) : popF ds [.int k] = some (ds[k], ds.eraseIdx k) := by
  rw [popF_s, lim_ok hl, if_pos rfl, ixN_ok h]
  simp [h]
theorem appendF_ok {ds : List D} {d : D} (hl : ds.length + 1 ≤ sizeLine) : appendF ds [d] = some (.none, ds ++ [d]) := by
  rw [appendF_s, lim_ok hl, if_pos rfl]
end

/-! ### names and data -/
section
variable (env e e0 : Env') (x y : D) (i j k n : Nat)
@[simp] theorem eV_r : eV i env = match env[i]? with
  | some (some s) => match s.w with
    | .d x => .ok (.d x) env
    | .o _ => .ok (.at i) env
  | _ => .no := tr rfl
@[simp] theorem frz_r : frz (.at i) e = match e[i]? with
    | some (some s) => match s.w with
      | .d x => .ok x e
      | .o x => .ok x (e.set i (some ⟨s.tg, .d x⟩))
    | _ => .no := tr rfl
@[simp] theorem get_r : get (.at i) e = match e[i]? with
    | some (some s) => some s.w.dat
    | _ => none := tr rfl
@[simp] theorem argE_nil : argE n [] = [] := tr rfl
@[simp] theorem argE_cons (w : W) (ws : List W) : argE n (w :: ws) = some ⟨n + 1, w⟩ :: argE (n + 1) ws := tr rfl
@[simp] theorem setOuts_nil (os : List (Option W)) : setOuts e [] os = e := by unfold setOuts; cases os <;> rfl
@[simp] theorem setOuts_at (rs : List R) (o : Option W) (os : List (Option W)) : setOuts e (.at i :: rs) (o :: os) = setOut e i o (setOuts e rs os) := tr rfl
@[simp] theorem setOuts_d (rs : List R) (o : Option W) (os : List (Option W)) : setOuts e (.d x :: rs) (o :: os) = setOuts e rs os := tr rfl
@[simp] theorem setOuts_d0 (rs : List R) : setOuts e (.d x :: rs) [] = setOuts e rs [] := tr rfl
@[simp] theorem setOuts_at0 (rs : List R) : setOuts e (.at i :: rs) [] = setOut e i none (setOuts e rs []) := tr rfl
@[simp] theorem setOut_s (o : Option W) : setOut e0 i o e = match e0[i]? with
  | some (some s) => if s.w.own then e.set i (o.map fun w => ⟨s.tg, w⟩) else e
  | _ => e := tr rfl
@[simp] theorem wipeE_nil : wipeE e [] = e := tr rfl
@[simp] theorem wipeE_cons (v : Nat) (vs : List Nat) : wipeE e (v :: vs) = (wipeE e vs).set v none := tr rfl
@[simp] theorem restE_nil : restE e0 e [] = e := tr rfl
@[simp] theorem restE_cons (v : Nat) (vs : List Nat) : restE e0 e (v :: vs) = (restE e0 e vs).set v (keepS (e0[v]?)) := tr rfl
@[simp] theorem ownL_s : ownL i env = match env[i]? with
  | some (some ⟨t, .o (.list ds)⟩) => some (t, ds)
  | _ => none := tr rfl
@[simp] theorem mO_n : mO none e = .ok none e := tr rfl
@[simp] theorem mO_s (m : M R) : mO (some m) env = (mP m env).bind kMO := tr rfl
@[simp] theorem kMO_s (r : R) : kMO r e = moO (get r e) e := tr rfl
@[simp] theorem moO_s (i : Int) : moO (some (.int i)) e = .ok (some i) e := tr rfl
@[simp] theorem slD_l (ds : List D) (lo hi : Option Int) : slD (.list ds) lo hi = some (.new (.list (cutL ds lo hi))) := tr rfl
@[simp] theorem slD_t (ds : List D) (lo hi : Option Int) : slD (.tuple ds) lo hi = some (.d (.tuple (cutL ds lo hi))) := tr rfl
@[simp] theorem keepS_1 : keepS none = none := tr rfl
@[simp] theorem keepS_2 : keepS (some none) = none := tr rfl
@[simp] theorem tyOk_s (T : String) (z : Str) : tyOk T (.str z) = decide (T = "str") := tr rfl
@[simp] theorem tyOk_l (T : String) (ds : List D) : tyOk T (.list ds) = decide (T = "list") := tr rfl
@[simp] theorem outsOf_1 : outsOf 1 e = [outAt e 0] := tr rfl
@[simp] theorem outsOf_2 : outsOf 2 e = [outAt e 0, outAt e 1] := tr rfl
@[simp] theorem outsOf_3 : outsOf 3 e = [outAt e 0, outAt e 1, outAt e 2] := tr rfl
@[simp] theorem outsOf_4 : outsOf 4 e = [outAt e 0, outAt e 1, outAt e 2, outAt e 3] := tr rfl
@[simp] theorem outsOf_5 : outsOf 5 e = [outAt e 0, outAt e 1, outAt e 2, outAt e 3, outAt e 4] := tr rfl
@[simp] theorem outAt_s : outAt e k = match e[k]? with
  | some (some s) => if s.tg = k + 1 then some s.w else none
  | _ => none := tr rfl
@[simp] theorem fin_d (np : Nat) (Q : W → List (Option W) → Prop) : fin np Q (.rt (.d x)) e = Q (.d x) (outsOf np e) := tr rfl
@[simp] theorem fin_n (np : Nat) (Q : W → List (Option W) → Prop) : fin np Q (.rt (.new x)) e = Q (.o x) (outsOf np e) := tr rfl
@[simp] theorem fin_x (np : Nat) (Q : W → List (Option W) → Prop) : fin np Q .nx e = Q (.d .none) (outsOf np e) := tr rfl
end
end PL

namespace LW
open PySem PySem.Spec PyProof.Rows L2 PL
def m__law_tank : FM := fnM 2 5 (sSeq (sSet 2 (eFz (eIf (tB (eCmp .Lt (eV 1) (eB lenD [(eV 0)]))) (eIx (eV 0) (eV 1)) (eBin .Add (eBin .Mult (eC (.int 9337)) (eV 1)) (eC (.int 71)))))) (sSeq (sSet 3 (eFz (eB sumD [(eLC (iSeq (eV 0)) (.nm 4) tYes' (eBin .Mod (eB intD [(eV 4)]) (eBin .Add (eBin .Pow (eC (.int 10)) (eC (.int 24))) (eC (.int 7)))) [4])]))) (sSeq (sRet (eLst [(eB maxD [(eC (.int 0)), (eBin .Sub (eV 2) (eBin .Pow (eC (.int 10)) (eC (.int 18))))]), (eBin .Mod (eB intD [(eBin .Add (eBin .Add (eBin .Mult (eB absD [(eV 2)]) (eC (.int 60013))) (eBin .Mult (eV 3) (eC (.int 89)))) (eBin .Mult (eC (.int 7457)) (eV 1)))]) (eBin .Add (eBin .Pow (eC (.int 10)) (eC (.int 30))) (eC (.int 57)))), (eC (.int 0))])) sNil)))
def m__law_drop : FM := fnM 2 4 (sSeq (sIf (tB (eCmp .Gt (eIx (eV 0) (eC (.int 0))) (eC (.int 0)))) (sSeq (sSet 2 (eFz (eBin .Mod (eB intD [(eIx (eV 0) (eC (.int 0)))]) (eV 1)))) (sSeq (eSubSt 0 (eC (.int 0)) (eBin .FloorDiv (eIx (eV 0) (eC (.int 0))) (eV 1))) (sSeq (sRet (eV 2)) sNil))) sNil) (sSeq (eSubSt 0 (eC (.int 2)) (eBin .Add (eIx (eV 0) (eC (.int 2))) (eC (.int 1)))) (sSeq (sSet 3 (eFz (eBin .Mod (eB intD [(eBin .Mult (eBin .Add (eIx (eV 0) (eC (.int 1))) (eBin .Mult (eC (.int 2654435761)) (eIx (eV 0) (eC (.int 2))))) (eBin .Add (eBin .Add (eIx (eV 0) (eC (.int 1))) (eBin .Mult (eBin .Mult (eC (.int 40503)) (eIx (eV 0) (eC (.int 2)))) (eIx (eV 0) (eC (.int 2))))) (eC (.int 11))))]) (eBin .Add (eBin .Pow (eC (.int 10)) (eC (.int 33))) (eC (.int 61)))))) (sSeq (sSet 3 (eFz (eBin .Mod (eB intD [(eBin .Add (eBin .Mult (eV 3) (eV 3)) (eBin .Mult (eC (.int 97)) (eV 3)))]) (eBin .Add (eBin .Pow (eC (.int 10)) (eC (.int 32))) (eC (.int 49)))))) (sSeq (sRet (eBin .Mod (eB intD [(eBin .FloorDiv (eV 3) (eC (.int 7919)))]) (eV 1))) sNil)))))
def m__law_names : FM := fnM 2 8 (sSeq (sSet 2 (eLst [(eC (.str "a")), (eC (.str "b")), (eC (.str "ab")), (eC (.str "ba")), (eC (.str "x")), (eC (.str "xy")), (eC (.str "xyz")), (eC (.str "q")), (eC (.str "qq")), (eC (.str "abcdefgh")), (eC (.str "abcdefgi")), (eC (.str "m")), (eC (.str "z")), (eC (.str "k")), (eC (.str "aa")), (eC (.str "yes"))])) (sSeq (sIf (tB (eCmp .Eq (eCall m__law_drop [(eV 0), (eC (.int 3))]) (eC (.int 0)))) (sSeq (sSet 3 (eFz (eB list2D [(eC (.str "abcdefghijklmnopqrstuvwxyz"))]))) (sSeq (sSet 4 (eFz (eMth "str" joinF (eC (.str "")) [(eLC (rng1 (eCall m__law_drop [(eV 0), (eC (.int 7))])) (.nm 7) tYes' (eIx (eV 3) (eCall m__law_drop [(eV 0), (eC (.int 26))])) [7])]))) (sSeq (sSet 2 (eLC (iSeq (eV 3)) (.nm 5) tYes' (eBin .Add (eV 4) (eV 5)) [5])) (sSeq (sIf (tB (eCmp .Eq (eCall m__law_drop [(eV 0), (eC (.int 2))]) (eC (.int 0)))) (sSeq (sSet 2 (eLC (iSeq (eV 3)) (.nm 5) tYes' (eBin .Add (eV 5) (eV 4)) [5])) sNil) sNil) (sSeq (sSet 2 (eBin .Add (eV 2) (eLC (iSeq (eSl (eV 2) none (some (eC (.int 9))))) (.nm 6) tYes' (eBin .Add (eV 6) (eIx (eC (.str "tf")) (eCall m__law_drop [(eV 0), (eC (.int 2))]))) [6]))) sNil))))) sNil) (sSeq (sRet (eLC (rng1 (eV 1)) (.nm 7) tYes' (eMut popF 2 [(eCall m__law_drop [(eV 0), (eB lenD [(eV 2)])])]) [7])) sNil)))
def m__law_lot : FM := fnM 2 4 (sSeq (sSet 2 (eFz (eCall m__law_drop [(eV 0), (eC (.int 6))]))) (sSeq (sIf (tB (eCmp .Lt (eV 2) (eC (.int 2)))) (sSeq (sRet (eIf (tB (eCmp .Eq (eV 2) (eC (.int 0)))) (eB list2D [(eV 1)]) (eLst []))) sNil) sNil) (sSeq (sRet (eLC (iSeq (eV 1)) (.nm 3) (tB (eCmp .Eq (eCall m__law_drop [(eV 0), (eC (.int 2))]) (eC (.int 0)))) (eV 3) [3])) sNil)))
def m__law_frame : FM := fnM 4 13 (sSeq (sSet 4 (eFz (eCall m__law_drop [(eV 0), (eBin .Add (eV 1) (eC (.int 1)))]))) (sSeq (sSet 5 (eFz (eCall m__law_names [(eV 0), (eBin .Add (eV 4) (eCall m__law_drop [(eV 0), (eBin .Add (eV 2) (eC (.int 1)))]))]))) (sSeq (sPar [6, 7, 8, 9] [(eFz (eB sortedD [(eSl (eV 5) none (some (eV 4)))])), (eFz (eB sortedD [(eSl (eV 5) (some (eV 4)) none)])), (eFz (eV 3)), (eLst [])]) (sSeq (sFor (iEnu (eV 7)) (.tp [(.nm 10), (.nm 11)]) (sSeq (sSet 12 (eCall m__law_lot [(eV 0), (eV 6)])) (sSeq (sWhile (tB (eCmp .Gt (eBin .LShift (eC (.int 1)) (eB lenD [(eV 12)])) (eBin .Sub (eV 8) (eBin .Sub (eBin .Sub (eB lenD [(eV 7)]) (eV 10)) (eC (.int 1)))))) (sSeq (sEx (eMut popF 12 [(eCall m__law_drop [(eV 0), (eB lenD [(eV 12)])])])) sNil)) (sSeq (sSet 8 (eFz (eBin .Sub (eV 8) (eBin .LShift (eC (.int 1)) (eB lenD [(eV 12)]))))) (sSeq (sEx (eMut appendF 9 [(eTup [(eV 11), (eB tupleD [(eV 12)])])])) sNil))))) (sSeq (sRet (eTup [(eB tupleD [(eV 6)]), (eB tupleD [(eV 9)])])) sNil)))))
def m__law_pick : FM := fnM 2 2 (sSeq (sRet (eIx (eV 1) (eCall m__law_drop [(eV 0), (eB lenD [(eV 1)])]))) sNil)
def m__law_letters : FM := fnM 2 3 (sSeq (sRet (eLC (iSeq (eV 1)) (.nm 2) tYes' (eTup [(eV 2), (eCmp .Eq (eCall m__law_drop [(eV 0), (eC (.int 2))]) (eC (.int 0)))]) [2])) sNil)
def m__law_some : FM := fnM 3 6 (sSeq (sPar [3, 4] [(eB list2D [(eV 1)]), (eLst [])]) (sSeq (sFor (rng1 (eB minD [(eB lenD [(eV 3)]), (eCall m__law_drop [(eV 0), (eBin .Add (eV 2) (eC (.int 1)))])])) (.nm 5) (sSeq (sEx (eMut appendF 4 [(eMut popF 3 [(eCall m__law_drop [(eV 0), (eB lenD [(eV 3)])])])])) sNil)) (sSeq (sRet (eV 4)) sNil)))
def m__law_any_clause : FM := fnM 3 6 (sSeq (sSet 3 (eFz (eBin .Add (eB list2D [(eV 1)]) (eLC (iSeq (eV 2)) (.tp [(.nm 4), (.nm 5)]) tYes' (eV 4) [4, 5])))) (sSeq (sRet (eB tupleD [(eB sortedD [(eCall m__law_letters [(eV 0), (eCall m__law_some [(eV 0), (eV 3), (eC (.int 14))])])])])) sNil))
def m__law_plain_clause : FM := fnM 3 7 (sSeq (sSet 3 (eFz (eCall m__law_some [(eV 0), (eLC (iSeq (eV 2)) (.tp [(.nm 5), (.nm 6)]) tYes' (eV 5) [5, 6]), (eBin .Add (eC (.int 4)) (eBin .Mult (eC (.int 4)) (eB intD [(eCmp .Eq (eCall m__law_drop [(eV 0), (eC (.int 3))]) (eC (.int 0)))])))]))) (sSeq (sSet 4 (eFz (eCall m__law_letters [(eV 0), (eCall m__law_some [(eV 0), (eV 1), (eBin .Add (eC (.int 3)) (eBin .Mult (eC (.int 3)) (eCall m__law_drop [(eV 0), (eC (.int 2))])))])]))) (sSeq (sSet 4 (eFz (eBin .Add (eV 4) (eLC (iSeq (eSl (eV 3) (some (eC (.int 1))) none)) (.nm 5) tYes' (eTup [(eV 5), (eC (.bool false))]) [5])))) (sSeq (sRet (eB tupleD [(eB sortedD [(eBin .Add (eV 4) (eLC (iSeq (eSl (eV 3) none (some (eC (.int 1))))) (.nm 5) tYes' (eTup [(eV 5), (eCmp .Gt (eCall m__law_drop [(eV 0), (eC (.int 3))]) (eC (.int 0)))]) [5]))])])) sNil))))
def m__law_twos_clause : FM := fnM 3 9 (sSeq (sSet 3 (eLC (iSeq (eV 2)) (.tp [(.nm 6), (.nm 7)]) tYes' (eV 6) [6, 7])) (sSeq (sSet 4 (eFz (eLC (rng1 (eB minD [(eB lenD [(eV 3)]), (eBin .Add (eC (.int 1)) (eB minD [(eC (.int 1)), (eCall m__law_drop [(eV 0), (eC (.int 5))])]))])) (.nm 8) tYes' (eMut popF 3 [(eCall m__law_drop [(eV 0), (eB lenD [(eV 3)])])]) [8]))) (sSeq (sSet 5 (eFz (eCall m__law_some [(eV 0), (eV 1), (eBin .Add (eC (.int 3)) (eBin .Mult (eC (.int 3)) (eCall m__law_drop [(eV 0), (eC (.int 2))])))]))) (sSeq (sRet (eB tupleD [(eB sortedD [(eBin .Add (eCall m__law_letters [(eV 0), (eV 5)]) (eCall m__law_letters [(eV 0), (eV 4)]))])])) sNil))))
def m__law_clauses : FM := fnM 3 6 (sSeq (sPar [3, 4] [(eFz (eCall m__law_drop [(eV 0), (eC (.int 4))])), (eLst [])]) (sSeq (sFor (rng1 (eCall m__law_pick [(eV 0), (eLst [(eC (.int 0)), (eC (.int 1)), (eC (.int 3)), (eC (.int 12)), (eC (.int 40))])])) (.nm 5) (sSeq (sIf (tB (eCmp .Eq (eV 3) (eC (.int 0)))) (sSeq (sEx (eMut appendF 4 [(eCall m__law_any_clause [(eV 0), (eV 1), (eV 2)])])) sNil) (sSeq (sIf (tOr (tB (eCmp .Eq (eV 3) (eC (.int 1)))) (tB (eCmp .Eq (eB lenD [(eV 2)]) (eC (.int 0))))) (sSeq (sEx (eMut appendF 4 [(eCall m__law_plain_clause [(eV 0), (eV 1), (eV 2)])])) sNil) (sSeq (sEx (eMut appendF 4 [(eCall m__law_twos_clause [(eV 0), (eV 1), (eV 2)])])) sNil)) sNil)) sNil)) (sSeq (sFor (rng1 (eCall m__law_pick [(eV 0), (eLst [(eC (.int 0)), (eC (.int 0)), (eC (.int 1)), (eC (.int 2))])])) (.nm 5) (sSeq (sIf (tB (eCmp .NotEq (eV 4) (eLst []))) (sSeq (eSubSt 4 (eCall m__law_drop [(eV 0), (eB lenD [(eV 4)])]) (eCall m__law_any_clause [(eV 0), (eV 1), (eV 2)])) sNil) sNil) sNil)) (sSeq (sRet (eB tupleD [(eSortSet (eV 4))])) sNil))))
def m__law_counted : FM := fnM 1 8 (sSeq (sSet 1 (eFz (eB dictD [(eLC (iSeq (eIx (eV 0) (eC (.int 1)))) (.tp [(.nm 5), (.nm 6)]) tYes' (eTup [(eV 5), (eC (.bool true))]) [5, 6])]))) (sSeq (sSet 2 (eLst [])) (sSeq (sFor (iSeq (eIx (eV 0) (eC (.int 2)))) (.nm 3) (sSeq (sSet 4 (eFz (eLC (iSeq (eV 3)) (.tp [(.nm 5), (.nm 7)]) (tB (eCmp .In (eV 5) (eV 1))) (eV 7) [5, 7]))) (sSeq (sEx (eMut appendF 2 [(eTup [(eB lenD [(eV 4)]), (eMth "list" countF (eV 4) [(eC (.bool true))])])])) sNil))) (sSeq (sRet (eV 2)) sNil))))
def m_is_name : FM := fnM 1 2 (sSeq (sRet (eAnd (eIsi "str" (eV 0)) (eAnd (eCh .LtE .LtE (eC (.int 1)) (eB lenD [(eV 0)]) (eC (.int 8))) (eB allD [(eLC (iSeq (eV 0)) (.nm 1) tYes' (eCmp .In (eV 1) (eC (.str "abcdefghijklmnopqrstuvwxyz"))) [1])])))) sNil)
def m_are_ascending : FM := fnM 1 2 (sSeq (sRet (eB allD [(eLC (rng1 (eBin .Sub (eB lenD [(eV 0)]) (eC (.int 1)))) (.nm 1) tYes' (eCmp .Lt (eIx (eV 0) (eV 1)) (eIx (eV 0) (eBin .Add (eV 1) (eC (.int 1))))) [1])])) sNil)
def m_are_names : FM := fnM 1 2 (sSeq (sRet (eAnd (eIsi "tuple" (eV 0)) (eAnd (eB allD [(eLC (iSeq (eV 0)) (.nm 1) tYes' (eCall m_is_name [(eV 1)]) [1])]) (eCall m_are_ascending [(eV 0)])))) sNil)
def m_is_own : FM := fnM 2 3 (sSeq (sIf (tOr (tNot (tVal (eIsi "tuple" (eV 0)))) (tOr (tB (eCmp .NotEq (eB lenD [(eV 0)]) (eC (.int 2)))) (tOr (tNot (tVal (eCall m_is_name [(eIx (eV 0) (eC (.int 0)))]))) (tB (eCmp .In (eIx (eV 0) (eC (.int 0))) (eV 1)))))) (sSeq (sRet (eC (.bool false))) sNil) sNil) (sSeq (sRet (eAnd (eCall m_are_names [(eIx (eV 0) (eC (.int 1)))]) (eB allD [(eLC (iSeq (eIx (eV 0) (eC (.int 1)))) (.nm 2) tYes' (eCmp .In (eV 2) (eV 1)) [2])]))) sNil))
def m_are_owns : FM := fnM 2 5 (sSeq (sIf (tOr (tNot (tVal (eIsi "tuple" (eV 0)))) (tOr (tB (eCmp .Gt (eB lenD [(eV 0)]) (eC (.int 8)))) (tNot (tVal (eB allD [(eLC (iSeq (eV 0)) (.nm 3) tYes' (eCall m_is_own [(eV 3), (eV 1)]) [3])]))))) (sSeq (sRet (eC (.bool false))) sNil) sNil) (sSeq (sIf (tNot (tVal (eCall m_are_ascending [(eB tupleD [(eLC (iSeq (eV 0)) (.tp [(.nm 2), (.nm 4)]) tYes' (eV 2) [2, 4])])]))) (sSeq (sRet (eC (.bool false))) sNil) sNil) (sSeq (sRet (eCmp .LtE (eB sumD [(eLC (iSeq (eV 0)) (.tp [(.nm 2), (.nm 4)]) tYes' (eBin .LShift (eC (.int 1)) (eB lenD [(eV 4)])) [2, 4])]) (eC (.int 120)))) sNil)))
def m_is_truth : FM := fnM 1 1 (sSeq (sRet (eIsi "bool" (eV 0))) sNil)
def m_is_letter : FM := fnM 1 1 (sSeq (sRet (eAnd (eIsi "tuple" (eV 0)) (eAnd (eCmp .Eq (eB lenD [(eV 0)]) (eC (.int 2))) (eAnd (eCall m_is_name [(eIx (eV 0) (eC (.int 0)))]) (eCall m_is_truth [(eIx (eV 0) (eC (.int 1)))]))))) sNil)
def m_is_any_clause : FM := fnM 1 4 (sSeq (sIf (tOr (tNot (tVal (eIsi "tuple" (eV 0)))) (tNot (tVal (eB allD [(eLC (iSeq (eV 0)) (.nm 1) tYes' (eCall m_is_letter [(eV 1)]) [1])])))) (sSeq (sRet (eC (.bool false))) sNil) sNil) (sSeq (sRet (eCall m_are_ascending [(eB tupleD [(eLC (iSeq (eV 0)) (.tp [(.nm 2), (.nm 3)]) tYes' (eV 2) [2, 3])])])) sNil))
def m_names_of : FM := fnM 2 4 (sSeq (sRet (eBin .Add (eB list2D [(eV 0)]) (eLC (iSeq (eV 1)) (.tp [(.nm 2), (.nm 3)]) tYes' (eV 2) [2, 3]))) sNil)
def m_has_names : FM := fnM 2 4 (sSeq (sRet (eB allD [(eLC (iSeq (eV 0)) (.tp [(.nm 2), (.nm 3)]) tYes' (eCmp .In (eV 2) (eV 1)) [2, 3])])) sNil)
def m_is_a_saying : FM := fnM 1 6 (sSeq (sIf (tOr (tNot (tVal (eIsi "tuple" (eV 0)))) (tB (eCmp .NotEq (eB lenD [(eV 0)]) (eC (.int 3))))) (sSeq (sRet (eC (.bool false))) sNil) sNil) (sSeq (sUnp (.tp [(.nm 1), (.nm 2), (.nm 3)]) (eV 0)) (sSeq (sIf (tOr (tNot (tVal (eCall m_are_names [(eV 1)]))) (tOr (tB (eCmp .Gt (eB lenD [(eV 1)]) (eC (.int 6)))) (tNot (tVal (eCall m_are_owns [(eV 2), (eV 1)]))))) (sSeq (sRet (eC (.bool false))) sNil) sNil) (sSeq (sIf (tOr (tNot (tVal (eIsi "tuple" (eV 3)))) (tB (eCmp .Gt (eB lenD [(eV 3)]) (eC (.int 40))))) (sSeq (sRet (eC (.bool false))) sNil) sNil) (sSeq (sIf (tOr (tNot (tVal (eB allD [(eLC (iSeq (eV 3)) (.nm 5) tYes' (eCall m_is_any_clause [(eV 5)]) [5])]))) (tNot (tVal (eCall m_are_ascending [(eV 3)])))) (sSeq (sRet (eC (.bool false))) sNil) sNil) (sSeq (sSet 4 (eFz (eCall m_names_of [(eV 1), (eV 2)]))) (sSeq (sRet (eB allD [(eLC (iSeq (eV 3)) (.nm 5) tYes' (eCall m_has_names [(eV 5), (eV 4)]) [5])])) sNil)))))))
def m_need_saying : FM := fnM 1 1 (sSeq (sIf (tNot (tVal (eCall m_is_a_saying [(eV 0)]))) (sSeq sNo sNil) sNil) sNil)
def m_is_plain_one : FM := fnM 1 6 (sSeq (sSet 1 (eFz (eDC (iSeq (eIx (eV 0) (eC (.int 1)))) (.tp [(.nm 3), (.nm 4)]) tYes' (eV 3) (eC (.bool true)) [3, 4]))) (sSeq (sRet (eB allD [(eLC (iSeq (eIx (eV 0) (eC (.int 2)))) (.nm 2) tYes' (eCmp .LtE (eB lenD [(eLC (iSeq (eV 2)) (.tp [(.nm 3), (.nm 5)]) (tAnd (tB (eCmp .In (eV 3) (eV 1))) (tVal (eV 5))) (eV 3) [3, 5])]) (eC (.int 1))) [2])])) sNil))
def m_is_plain : FM := fnM 1 1 (sSeq (sEx (eCall m_need_saying [(eV 0)])) (sSeq (sRet (eCall m_is_plain_one [(eV 0)])) sNil))
def m_is_of_twos : FM := fnM 1 6 (sSeq (sSet 1 (eFz (eDC (iSeq (eIx (eV 0) (eC (.int 1)))) (.tp [(.nm 3), (.nm 4)]) tYes' (eV 3) (eC (.bool true)) [3, 4]))) (sSeq (sRet (eB allD [(eLC (iSeq (eIx (eV 0) (eC (.int 2)))) (.nm 2) tYes' (eCh .LtE .LtE (eC (.int 1)) (eB lenD [(eLC (iSeq (eV 2)) (.tp [(.nm 3), (.nm 5)]) (tB (eCmp .In (eV 3) (eV 1))) (eV 3) [3, 5])]) (eC (.int 2))) [2])])) sNil))
def m_is_twos : FM := fnM 1 1 (sSeq (sEx (eCall m_need_saying [(eV 0)])) (sSeq (sRet (eCall m_is_of_twos [(eV 0)])) sNil))
def m__law_right : FM := fnM 2 9 (sSeq (sPar [2, 3] [(eFz (eCall m__law_counted [(eV 0)])), (eFz (eB reprD [(eV 0)]))]) (sSeq (sSet 4 (eFz (eLst [(eB allD [(eLC (iSeq (eV 2)) (.tp [(.nm 7), (.nm 8)]) tYes' (eCmp .Lt (eV 8) (eC (.int 2))) [7, 8])]), (eB allD [(eLC (iSeq (eV 2)) (.tp [(.nm 7), (.nm 8)]) tYes' (eCmp .In (eV 7) (eTup [(eC (.int 1)), (eC (.int 2))])) [7, 8])])]))) (sSeq (sFor (rng1 (eC (.int 2))) (.nm 5) (sSeq (sSet 6 (eFz (eLst [(eCall m_is_plain [(eV 0)]), (eCall m_is_twos [(eV 0)])]))) (sSeq (sIf (tVal (eV 1)) (sSeq (sSet 6 (eFz (eLst [(eCallK m_is_plain [] [(eV 0)] [0]), (eCallK m_is_twos [] [(eV 0)] [0])]))) sNil) sNil) (sSeq (sIf (tB (eCmp .NotEq (eB reprD [(eV 6)]) (eB reprD [(eV 4)]))) (sSeq (sRet (eC (.bool false))) sNil) sNil) sNil)))) (sSeq (sRet (eCmp .Eq (eB reprD [(eV 0)]) (eV 3))) sNil))))
def m_law : FM := fnM 1 7 (sSeq (sFor (rng1 (eB maxD [(eC (.int 1)), (eB minD [(eC (.int 4)), (eB lenD [(eV 0)])])])) (.nm 1) (sSeq (sSet 2 (eCall m__law_tank [(eV 0), (eV 1)])) (sSeq (sFor (rng1 (eC (.int 4))) (.nm 3) (sSeq (sUnp (.tp [(.nm 4), (.nm 5)]) (eCall m__law_frame [(eV 2), (eC (.int 6)), (eC (.int 8)), (eC (.int 120))])) (sSeq (sSet 6 (eTup [(eV 4), (eV 5), (eCall m__law_clauses [(eV 2), (eV 4), (eV 5)])])) (sSeq (sIf (tNot (tVal (eCall m__law_right [(eV 6), (eCmp .Eq (eCall m__law_drop [(eV 2), (eC (.int 2))]) (eC (.int 0)))]))) (sSeq (sRet (eC (.bool false))) sNil) sNil) sNil)))) sNil))) (sSeq (sRet (eC (.bool true))) sNil))
end LW

namespace LW
open PySem PySem.Spec PyProof.Rows L2 PL
def top (i : Nat) : Stmt := PySem.Challenge.pw_onlytheseen_k10_plain_ones_and_twos_told.main.body.getD i (.Pass ⟨0, 0, 0, 0⟩)
/-- what the walk asks of the names of the module -/
structure Txt (mg : Str → Option Value) : Prop where
  b_abs : mg "abs" = none
  b_all : mg "all" = none
  b_bool : mg "bool" = none
  b_dict : mg "dict" = none
  b_enumerate : mg "enumerate" = none
  b_int : mg "int" = none
  b_isinstance : mg "isinstance" = none
  b_len : mg "len" = none
  b_list : mg "list" = none
  b_max : mg "max" = none
  b_min : mg "min" = none
  b_range : mg "range" = none
  b_repr : mg "repr" = none
  b_set : mg "set" = none
  b_sorted : mg "sorted" = none
  b_str : mg "str" = none
  b_sum : mg "sum" = none
  b_tuple : mg "tuple" = none
  c_LETTERS : ∃ t, mg "LETTERS" = some (.str "abcdefghijklmnopqrstuvwxyz" t)
  c_MOST_CLAUSES : ∃ t, mg "MOST_CLAUSES" = some (.int 40 t)
  c_MOST_COPIES : ∃ t, mg "MOST_COPIES" = some (.int 120 t)
  c_MOST_LETTERS : ∃ t, mg "MOST_LETTERS" = some (.int 8 t)
  c_MOST_OWNS : ∃ t, mg "MOST_OWNS" = some (.int 8 t)
  c_MOST_PICKS : ∃ t, mg "MOST_PICKS" = some (.int 6 t)
section
variable {P : Program} {w : World} {K : KF} {mg : Str → Option Value} {base : Heap}
theorem sc__law_tank : FnScope ["script", "k", "cell", "blend", "other"] ["script", "k"] (defScope (top 29)) := ⟨rfl, rfl, rfl, by decide +kernel, rfl, by decide +kernel, by decide +kernel⟩
theorem ok__law_tank {f : Addr} {fd : FuncData} (hF : Fun K "_law_tank" "_law_tank" (top 29) f fd) (hx : mg "_law_tank" = some (.ref f)) (hb : Binds K fd ["script", "k"] []) (T : Txt mg)  : FP P w K mg base 1 "_law_tank" ["script", "k"] (top 29) m__law_tank :=
  fun_ok (k := 0) hF sc__law_tank hx hb fun X e1 e2 e3 e4 e5 hN hsc hcm hfn hr hgd _ hps => by
    subst e1 e2 e3 e4 e5
    have h : Cy X ["script", "k", "cell", "blend", "other"] (defScope (top 29)) 0 := ⟨hN, sc__law_tank.nd, hsc, hcm, hgd, hr⟩
    exact (ss_cons (ss_set (i := 2) h.ndX (h.ix (by rfl)) (h.loc (by first | exact Or.inl rfl | exact Or.inr rfl)) (se_fz (se_if (st_cmp h.un (se_var (g_var h 1)) (se_callB (cd_len) (h.gl (by rfl)) T.b_len (by rfl) (sa_cons (se_var (g_var h 0)) sa_nil)) (by rfl)) (se_ix h.un (se_var (g_var h 0)) (se_var (g_var h 1))) (se_bin (se_bin se_int (se_var (g_var h 1))) se_int))) (by rfl) (.inl (hfn _))) (ss_cons (ss_set (i := 3) h.ndX (h.ix (by rfl)) (h.loc (by first | exact Or.inl rfl | exact Or.inr rfl)) (se_fz (se_callB (cd_sum h.cm) (h.gl (by rfl)) T.b_sum (by rfl) (sa_cons (g_lc h (si_seq (se_var (g_var h 0))) (own := [("other", 4)]) (blkOk_by (by decide +kernel)) (by decide) (fun _ _ _ _ _ h => (sg_nm (i := 4) h.ndX (h.ix (by rfl)) (h.loc (by first | exact Or.inl rfl | exact Or.inr rfl)) (by first | exact .inl rfl | exact .inr (h.lcl (by rfl))))) (fun _ _ _ _ _ h => sts_nil) (fun _ _ _ _ _ h => (se_bin (se_callTy (cd_int) (h.gl (by rfl)) T.b_int (by rfl) (sa_cons (se_var (g_var h 4)) sa_nil)) (se_bin (se_bin se_int se_int) se_int)))) sa_nil))) (by rfl) (.inl (hfn _))) (ss_cons (ss_ret (se_lst (sd_cons (se_callB (cd_max h.cm) (h.gl (by rfl)) T.b_max (by rfl) (sa_cons se_int (sa_cons (se_bin (se_var (g_var h 2)) (se_bin se_int se_int)) sa_nil))) (sd_cons (se_bin (se_callTy (cd_int) (h.gl (by rfl)) T.b_int (by rfl) (sa_cons (se_bin (se_bin (se_bin (se_callB (cd_abs) (h.gl (by rfl)) T.b_abs (by rfl) (sa_cons (se_var (g_var h 2)) sa_nil)) se_int) (se_bin (se_var (g_var h 3)) se_int)) (se_bin se_int (se_var (g_var h 1)))) sa_nil)) (se_bin (se_bin se_int se_int) se_int)) (sd_cons se_int sd_nil))))) ss_nil)))
theorem sc__law_drop : FnScope ["tank", "many", "found", "mixed"] ["tank", "many"] (defScope (top 30)) := ⟨rfl, rfl, rfl, by decide +kernel, rfl, by decide +kernel, by decide +kernel⟩
theorem ok__law_drop {f : Addr} {fd : FuncData} (hF : Fun K "_law_drop" "_law_drop" (top 30) f fd) (hx : mg "_law_drop" = some (.ref f)) (hb : Binds K fd ["tank", "many"] []) (T : Txt mg)  : FP P w K mg base 1 "_law_drop" ["tank", "many"] (top 30) m__law_drop :=
  fun_ok (k := 0) hF sc__law_drop hx hb fun X e1 e2 e3 e4 e5 hN hsc hcm hfn hr hgd _ hps => by
    subst e1 e2 e3 e4 e5
    have h : Cy X ["tank", "many", "found", "mixed"] (defScope (top 30)) 0 := ⟨hN, sc__law_drop.nd, hsc, hcm, hgd, hr⟩
    exact (ss_cons (ss_if (st_cmp h.un (se_ix h.un (se_var (g_var h 0)) se_int) se_int (by rfl)) (ss_cons (ss_set (i := 2) h.ndX (h.ix (by rfl)) (h.loc (by first | exact Or.inl rfl | exact Or.inr rfl)) (se_fz (se_bin (se_callTy (cd_int) (h.gl (by rfl)) T.b_int (by rfl) (sa_cons (se_ix h.un (se_var (g_var h 0)) se_int) sa_nil)) (se_var (g_var h 1)))) (by rfl) (.inl (hfn _))) (ss_cons (ss_sub (by have := h.un; omega) (g_var h 0) se_int (se_bin (se_ix h.un (se_var (g_var h 0)) se_int) (se_var (g_var h 1)))) (ss_cons (ss_ret (se_var (g_var h 2))) ss_nil))) ss_nil) (ss_cons (ss_sub (by have := h.un; omega) (g_var h 0) se_int (se_bin (se_ix h.un (se_var (g_var h 0)) se_int) se_int)) (ss_cons (ss_set (i := 3) h.ndX (h.ix (by rfl)) (h.loc (by first | exact Or.inl rfl | exact Or.inr rfl)) (se_fz (se_bin (se_callTy (cd_int) (h.gl (by rfl)) T.b_int (by rfl) (sa_cons (se_bin (se_bin (se_ix h.un (se_var (g_var h 0)) se_int) (se_bin se_int (se_ix h.un (se_var (g_var h 0)) se_int))) (se_bin (se_bin (se_ix h.un (se_var (g_var h 0)) se_int) (se_bin (se_bin se_int (se_ix h.un (se_var (g_var h 0)) se_int)) (se_ix h.un (se_var (g_var h 0)) se_int))) se_int)) sa_nil)) (se_bin (se_bin se_int se_int) se_int))) (by rfl) (.inl (hfn _))) (ss_cons (ss_set (i := 3) h.ndX (h.ix (by rfl)) (h.loc (by first | exact Or.inl rfl | exact Or.inr rfl)) (se_fz (se_bin (se_callTy (cd_int) (h.gl (by rfl)) T.b_int (by rfl) (sa_cons (se_bin (se_bin (se_var (g_var h 3)) (se_var (g_var h 3))) (se_bin se_int (se_var (g_var h 3)))) sa_nil)) (se_bin (se_bin se_int se_int) se_int))) (by rfl) (.inl (hfn _))) (ss_cons (ss_ret (se_bin (se_callTy (cd_int) (h.gl (by rfl)) T.b_int (by rfl) (sa_cons (se_bin (se_var (g_var h 3)) se_int) sa_nil)) (se_var (g_var h 1)))) ss_nil)))))
theorem sc__law_names : FnScope ["tank", "many", "left", "letters", "word", "letter", "name", "turn"] ["tank", "many"] (defScope (top 33)) := ⟨rfl, rfl, rfl, by decide +kernel, rfl, by decide +kernel, by decide +kernel⟩
theorem ok__law_names {f : Addr} {fd : FuncData} (hF : Fun K "_law_names" "_law_names" (top 33) f fd) (hx : mg "_law_names" = some (.ref f)) (hb : Binds K fd ["tank", "many"] []) (T : Txt mg) (D__law_drop : FP P w K mg base 1 "_law_drop" ["tank", "many"] (top 30) m__law_drop) : FP P w K mg base 2 "_law_names" ["tank", "many"] (top 33) m__law_names :=
  fun_ok (k := 1) hF sc__law_names hx hb fun X e1 e2 e3 e4 e5 hN hsc hcm hfn hr hgd _ hps => by
    subst e1 e2 e3 e4 e5
    have h : Cy X ["tank", "many", "left", "letters", "word", "letter", "name", "turn"] (defScope (top 33)) 1 := ⟨hN, sc__law_names.nd, hsc, hcm, hgd, hr⟩
    exact (ss_cons (ss_set (i := 2) h.ndX (h.ix (by rfl)) (h.loc (by first | exact Or.inl rfl | exact Or.inr rfl)) (se_lst (sd_cons se_str (sd_cons se_str (sd_cons se_str (sd_cons se_str (sd_cons se_str (sd_cons se_str (sd_cons se_str (sd_cons se_str (sd_cons se_str (sd_cons se_str (sd_cons se_str (sd_cons se_str (sd_cons se_str (sd_cons se_str (sd_cons se_str (sd_cons se_str sd_nil))))))))))))))))) (by rfl) (.inl (hfn _))) (ss_cons (ss_if (st_cmp h.un (se_call D__law_drop rfl h.gd (h.rm.mono (by decide)) (h.gl (by rfl)) (sa_cons (se_var (g_var h 0)) (sa_cons se_int sa_nil))) se_int (by rfl)) (ss_cons (ss_set (i := 3) h.ndX (h.ix (by rfl)) (h.loc (by first | exact Or.inl rfl | exact Or.inr rfl)) (se_fz (se_callTy (cd_list2 h.cm) (h.gl (by rfl)) T.b_list (by rfl) (sa_cons se_str sa_nil))) (by rfl) (.inl (hfn _))) (ss_cons (ss_set (i := 4) h.ndX (h.ix (by rfl)) (h.loc (by first | exact Or.inl rfl | exact Or.inr rfl)) (se_fz (se_mth (mth_join) PySem.F.plainAttrs_str PySem.F.slot_str_join PySem.F.type_str_join se_str (sa_cons (g_lc h (si_rng1 (h.gl (by rfl)) T.b_range (se_call D__law_drop rfl h.gd (h.rm.mono (by decide)) (h.gl (by rfl)) (sa_cons (se_var (g_var h 0)) (sa_cons se_int sa_nil)))) (own := [("turn", 7)]) (blkOk_by (by decide +kernel)) (by decide) (fun _ _ _ _ _ h => (sg_nm (i := 7) h.ndX (h.ix (by rfl)) (h.loc (by first | exact Or.inl rfl | exact Or.inr rfl)) (by first | exact .inl rfl | exact .inr (h.lcl (by rfl))))) (fun _ _ _ _ _ h => sts_nil) (fun _ _ _ _ _ h => (se_ix h.un (se_var (g_var h 3)) (se_call D__law_drop rfl h.gd (h.rm.mono (by decide)) (h.gl (by rfl)) (sa_cons (se_var (g_var h 0)) (sa_cons se_int sa_nil)))))) sa_nil))) (by rfl) (.inl (hfn _))) (ss_cons (ss_set (i := 2) h.ndX (h.ix (by rfl)) (h.loc (by first | exact Or.inl rfl | exact Or.inr rfl)) (g_lc h (si_seq (se_var (g_var h 3))) (own := [("letter", 5)]) (blkOk_by (by decide +kernel)) (by decide) (fun _ _ _ _ _ h => (sg_nm (i := 5) h.ndX (h.ix (by rfl)) (h.loc (by first | exact Or.inl rfl | exact Or.inr rfl)) (by first | exact .inl rfl | exact .inr (h.lcl (by rfl))))) (fun _ _ _ _ _ h => sts_nil) (fun _ _ _ _ _ h => (se_bin (se_var (g_var h 4)) (se_var (g_var h 5))))) (sw_no h (by rfl)) (.inl (hfn _))) (ss_cons (ss_if (st_cmp h.un (se_call D__law_drop rfl h.gd (h.rm.mono (by decide)) (h.gl (by rfl)) (sa_cons (se_var (g_var h 0)) (sa_cons se_int sa_nil))) se_int (by rfl)) (ss_cons (ss_set (i := 2) h.ndX (h.ix (by rfl)) (h.loc (by first | exact Or.inl rfl | exact Or.inr rfl)) (g_lc h (si_seq (se_var (g_var h 3))) (own := [("letter", 5)]) (blkOk_by (by decide +kernel)) (by decide) (fun _ _ _ _ _ h => (sg_nm (i := 5) h.ndX (h.ix (by rfl)) (h.loc (by first | exact Or.inl rfl | exact Or.inr rfl)) (by first | exact .inl rfl | exact .inr (h.lcl (by rfl))))) (fun _ _ _ _ _ h => sts_nil) (fun _ _ _ _ _ h => (se_bin (se_var (g_var h 5)) (se_var (g_var h 4))))) (sw_no h (by rfl)) (.inl (hfn _))) ss_nil) ss_nil) (ss_cons (ss_set (i := 2) h.ndX (h.ix (by rfl)) (h.loc (by first | exact Or.inl rfl | exact Or.inr rfl)) (se_bin (se_var (g_var h 2)) (g_lc h (si_seq (se_sl (se_var (g_var h 2)) so_none (so_some se_int))) (own := [("name", 6)]) (blkOk_by (by decide +kernel)) (by decide) (fun _ _ _ _ _ h => (sg_nm (i := 6) h.ndX (h.ix (by rfl)) (h.loc (by first | exact Or.inl rfl | exact Or.inr rfl)) (by first | exact .inl rfl | exact .inr (h.lcl (by rfl))))) (fun _ _ _ _ _ h => sts_nil) (fun _ _ _ _ _ h => (se_bin (se_var (g_var h 6)) (se_ix h.un se_str (se_call D__law_drop rfl h.gd (h.rm.mono (by decide)) (h.gl (by rfl)) (sa_cons (se_var (g_var h 0)) (sa_cons se_int sa_nil)))))))) (by rfl) (.inl (hfn _))) ss_nil))))) ss_nil) (ss_cons (ss_ret (g_lc h (si_rng1 (h.gl (by rfl)) T.b_range (se_var (g_var h 1))) (own := [("turn", 7)]) (blkOk_by (by decide +kernel)) (by decide) (fun _ _ _ _ _ h => (sg_nm (i := 7) h.ndX (h.ix (by rfl)) (h.loc (by first | exact Or.inl rfl | exact Or.inr rfl)) (by first | exact .inl rfl | exact .inr (h.lcl (by rfl))))) (fun _ _ _ _ _ h => sts_nil) (fun _ _ _ _ _ h => (se_mut mut_pop PySem.F.slot_list_pop PySem.F.type_list_pop (g_var h 2) (sd_cons (se_call D__law_drop rfl h.gd (h.rm.mono (by decide)) (h.gl (by rfl)) (sa_cons (se_var (g_var h 0)) (sa_cons (se_callB (cd_len) (h.gl (by rfl)) T.b_len (by rfl) (sa_cons (se_var (g_var h 2)) sa_nil)) sa_nil))) sd_nil))))) ss_nil)))
theorem sc__law_lot : FnScope ["tank", "things", "way", "thing"] ["tank", "things"] (defScope (top 32)) := ⟨rfl, rfl, rfl, by decide +kernel, rfl, by decide +kernel, by decide +kernel⟩
theorem ok__law_lot {f : Addr} {fd : FuncData} (hF : Fun K "_law_lot" "_law_lot" (top 32) f fd) (hx : mg "_law_lot" = some (.ref f)) (hb : Binds K fd ["tank", "things"] []) (T : Txt mg) (D__law_drop : FP P w K mg base 1 "_law_drop" ["tank", "many"] (top 30) m__law_drop) : FP P w K mg base 2 "_law_lot" ["tank", "things"] (top 32) m__law_lot :=
  fun_ok (k := 1) hF sc__law_lot hx hb fun X e1 e2 e3 e4 e5 hN hsc hcm hfn hr hgd _ hps => by
    subst e1 e2 e3 e4 e5
    have h : Cy X ["tank", "things", "way", "thing"] (defScope (top 32)) 1 := ⟨hN, sc__law_lot.nd, hsc, hcm, hgd, hr⟩
    exact (ss_cons (ss_set (i := 2) h.ndX (h.ix (by rfl)) (h.loc (by first | exact Or.inl rfl | exact Or.inr rfl)) (se_fz (se_call D__law_drop rfl h.gd (h.rm.mono (by decide)) (h.gl (by rfl)) (sa_cons (se_var (g_var h 0)) (sa_cons se_int sa_nil)))) (by rfl) (.inl (hfn _))) (ss_cons (ss_if (st_cmp h.un (se_var (g_var h 2)) se_int (by rfl)) (ss_cons (ss_ret (se_if (st_cmp h.un (se_var (g_var h 2)) se_int (by rfl)) (se_callTy (cd_list2 h.cm) (h.gl (by rfl)) T.b_list (by rfl) (sa_cons (se_var (g_var h 1)) sa_nil)) (se_lst sd_nil))) ss_nil) ss_nil) (ss_cons (ss_ret (g_lc h (si_seq (se_var (g_var h 1))) (own := [("thing", 3)]) (blkOk_by (by decide +kernel)) (by decide) (fun _ _ _ _ _ h => (sg_nm (i := 3) h.ndX (h.ix (by rfl)) (h.loc (by first | exact Or.inl rfl | exact Or.inr rfl)) (by first | exact .inl rfl | exact .inr (h.lcl (by rfl))))) (fun _ _ _ _ _ h => (sts_one (st_cmp h.un (se_call D__law_drop rfl h.gd (h.rm.mono (by decide)) (h.gl (by rfl)) (sa_cons (se_var (g_var h 0)) (sa_cons se_int sa_nil))) se_int (by rfl)))) (fun _ _ _ _ _ h => (se_var (g_var h 3))))) ss_nil)))
theorem sc__law_frame : FnScope ["tank", "most_picks", "most_owns", "most_copies", "many", "names", "picks", "own", "room", "owns", "at", "name", "sight"] ["tank", "most_picks", "most_owns", "most_copies"] (defScope (top 34)) := ⟨rfl, rfl, rfl, by decide +kernel, rfl, by decide +kernel, by decide +kernel⟩
theorem ok__law_frame {f : Addr} {fd : FuncData} (hF : Fun K "_law_frame" "_law_frame" (top 34) f fd) (hx : mg "_law_frame" = some (.ref f)) (hb : Binds K fd ["tank", "most_picks", "most_owns", "most_copies"] []) (T : Txt mg) (D__law_drop : FP P w K mg base 1 "_law_drop" ["tank", "many"] (top 30) m__law_drop) (D__law_names : FP P w K mg base 2 "_law_names" ["tank", "many"] (top 33) m__law_names) (D__law_lot : FP P w K mg base 2 "_law_lot" ["tank", "things"] (top 32) m__law_lot) : FP P w K mg base 3 "_law_frame" ["tank", "most_picks", "most_owns", "most_copies"] (top 34) m__law_frame :=
  fun_ok (k := 2) hF sc__law_frame hx hb fun X e1 e2 e3 e4 e5 hN hsc hcm hfn hr hgd _ hps => by
    subst e1 e2 e3 e4 e5
    have h : Cy X ["tank", "most_picks", "most_owns", "most_copies", "many", "names", "picks", "own", "room", "owns", "at", "name", "sight"] (defScope (top 34)) 2 := ⟨hN, sc__law_frame.nd, hsc, hcm, hgd, hr⟩
    exact (ss_cons (ss_set (i := 4) h.ndX (h.ix (by rfl)) (h.loc (by first | exact Or.inl rfl | exact Or.inr rfl)) (se_fz (se_call D__law_drop rfl h.gd (h.rm.mono (by decide)) (h.gl (by rfl)) (sa_cons (se_var (g_var h 0)) (sa_cons (se_bin (se_var (g_var h 1)) se_int) sa_nil)))) (by rfl) (.inl (hfn _))) (ss_cons (ss_set (i := 5) h.ndX (h.ix (by rfl)) (h.loc (by first | exact Or.inl rfl | exact Or.inr rfl)) (se_fz (se_call D__law_names rfl h.gd (h.rm.mono (by decide)) (h.gl (by rfl)) (sa_cons (se_var (g_var h 0)) (sa_cons (se_bin (se_var (g_var h 4)) (se_call D__law_drop rfl h.gd (h.rm.mono (by decide)) (h.gl (by rfl)) (sa_cons (se_var (g_var h 0)) (sa_cons (se_bin (se_var (g_var h 2)) se_int) sa_nil)))) sa_nil)))) (by rfl) (.inl (hfn _))) (ss_cons (ss_par h.cm (sws_cons (se_fz (se_callB (cd_sorted (by have := h.un; omega)) (h.gl (by rfl)) T.b_sorted (by rfl) (sa_cons (se_sl (se_var (g_var h 5)) so_none (so_some (se_var (g_var h 4)))) sa_nil))) (sws_cons (se_fz (se_callB (cd_sorted (by have := h.un; omega)) (h.gl (by rfl)) T.b_sorted (by rfl) (sa_cons (se_sl (se_var (g_var h 5)) (so_some (se_var (g_var h 4))) so_none) sa_nil))) (sws_cons (se_fz (se_var (g_var h 3))) (sws_cons (se_lst sd_nil) sws_nil)))) (sgw_cons (i := 6) h.ndX (h.ix (by rfl)) (h.loc (by first | exact Or.inl rfl | exact Or.inr rfl)) (sgw_cons (i := 7) h.ndX (h.ix (by rfl)) (h.loc (by first | exact Or.inl rfl | exact Or.inr rfl)) (sgw_cons (i := 8) h.ndX (h.ix (by rfl)) (h.loc (by first | exact Or.inl rfl | exact Or.inr rfl)) (sgw_cons (i := 9) h.ndX (h.ix (by rfl)) (h.loc (by first | exact Or.inl rfl | exact Or.inr rfl)) sgw_nil (by rfl) (.inl (hfn _))) (by rfl) (.inl (hfn _))) (by rfl) (.inl (hfn _))) (by rfl) (.inl (hfn _))) (hw := h.sw (by rfl))) (ss_cons (ss_for hps h.cm (si_enu (h.gl (by rfl)) T.b_enumerate (se_var (g_var h 7))) (sg_tp h.cm (sgs_cons (sg_nm (i := 10) h.ndX (h.ix (by rfl)) (h.loc (by first | exact Or.inl rfl | exact Or.inr rfl)) (.inl (hfn _))) (sgs_cons (sg_nm (i := 11) h.ndX (h.ix (by rfl)) (h.loc (by first | exact Or.inl rfl | exact Or.inr rfl)) (.inl (hfn _))) sgs_nil))) (ss_cons (ss_set (i := 12) h.ndX (h.ix (by rfl)) (h.loc (by first | exact Or.inl rfl | exact Or.inr rfl)) (se_call D__law_lot rfl h.gd (h.rm.mono (by decide)) (h.gl (by rfl)) (sa_cons (se_var (g_var h 0)) (sa_cons (se_var (g_var h 6)) sa_nil))) (by rfl) (.inl (hfn _))) (ss_cons (ss_while hps (st_cmp h.un (se_bin se_int (se_callB (cd_len) (h.gl (by rfl)) T.b_len (by rfl) (sa_cons (se_var (g_var h 12)) sa_nil))) (se_bin (se_var (g_var h 8)) (se_bin (se_bin (se_callB (cd_len) (h.gl (by rfl)) T.b_len (by rfl) (sa_cons (se_var (g_var h 7)) sa_nil)) (se_var (g_var h 10))) se_int)) (by rfl)) (ss_cons (ss_expr (se_mut mut_pop PySem.F.slot_list_pop PySem.F.type_list_pop (g_var h 12) (sd_cons (se_call D__law_drop rfl h.gd (h.rm.mono (by decide)) (h.gl (by rfl)) (sa_cons (se_var (g_var h 0)) (sa_cons (se_callB (cd_len) (h.gl (by rfl)) T.b_len (by rfl) (sa_cons (se_var (g_var h 12)) sa_nil)) sa_nil))) sd_nil))) ss_nil)) (ss_cons (ss_set (i := 8) h.ndX (h.ix (by rfl)) (h.loc (by first | exact Or.inl rfl | exact Or.inr rfl)) (se_fz (se_bin (se_var (g_var h 8)) (se_bin se_int (se_callB (cd_len) (h.gl (by rfl)) T.b_len (by rfl) (sa_cons (se_var (g_var h 12)) sa_nil))))) (by rfl) (.inl (hfn _))) (ss_cons (ss_expr (se_mut mut_append PySem.F.slot_list_append PySem.F.type_list_append (g_var h 9) (sd_cons (se_tup (sd_cons (se_var (g_var h 11)) (sd_cons (se_callTy (cd_tuple) (h.gl (by rfl)) T.b_tuple (by rfl) (sa_cons (se_var (g_var h 12)) sa_nil)) sd_nil))) sd_nil))) ss_nil))))) (ss_cons (ss_ret (se_tup (sd_cons (se_callTy (cd_tuple) (h.gl (by rfl)) T.b_tuple (by rfl) (sa_cons (se_var (g_var h 6)) sa_nil)) (sd_cons (se_callTy (cd_tuple) (h.gl (by rfl)) T.b_tuple (by rfl) (sa_cons (se_var (g_var h 9)) sa_nil)) sd_nil)))) ss_nil)))))
theorem sc__law_pick : FnScope ["tank", "things"] ["tank", "things"] (defScope (top 31)) := ⟨rfl, rfl, rfl, by decide +kernel, rfl, by decide +kernel, by decide +kernel⟩
theorem ok__law_pick {f : Addr} {fd : FuncData} (hF : Fun K "_law_pick" "_law_pick" (top 31) f fd) (hx : mg "_law_pick" = some (.ref f)) (hb : Binds K fd ["tank", "things"] []) (T : Txt mg) (D__law_drop : FP P w K mg base 1 "_law_drop" ["tank", "many"] (top 30) m__law_drop) : FP P w K mg base 2 "_law_pick" ["tank", "things"] (top 31) m__law_pick :=
  fun_ok (k := 1) hF sc__law_pick hx hb fun X e1 e2 e3 e4 e5 hN hsc hcm hfn hr hgd _ hps => by
    subst e1 e2 e3 e4 e5
    have h : Cy X ["tank", "things"] (defScope (top 31)) 1 := ⟨hN, sc__law_pick.nd, hsc, hcm, hgd, hr⟩
    exact (ss_cons (ss_ret (se_ix h.un (se_var (g_var h 1)) (se_call D__law_drop rfl h.gd (h.rm.mono (by decide)) (h.gl (by rfl)) (sa_cons (se_var (g_var h 0)) (sa_cons (se_callB (cd_len) (h.gl (by rfl)) T.b_len (by rfl) (sa_cons (se_var (g_var h 1)) sa_nil)) sa_nil))))) ss_nil)
theorem sc__law_letters : FnScope ["tank", "names", "name"] ["tank", "names"] (defScope (top 35)) := ⟨rfl, rfl, rfl, by decide +kernel, rfl, by decide +kernel, by decide +kernel⟩
theorem ok__law_letters {f : Addr} {fd : FuncData} (hF : Fun K "_law_letters" "_law_letters" (top 35) f fd) (hx : mg "_law_letters" = some (.ref f)) (hb : Binds K fd ["tank", "names"] []) (T : Txt mg) (D__law_drop : FP P w K mg base 1 "_law_drop" ["tank", "many"] (top 30) m__law_drop) : FP P w K mg base 2 "_law_letters" ["tank", "names"] (top 35) m__law_letters :=
  fun_ok (k := 1) hF sc__law_letters hx hb fun X e1 e2 e3 e4 e5 hN hsc hcm hfn hr hgd _ hps => by
    subst e1 e2 e3 e4 e5
    have h : Cy X ["tank", "names", "name"] (defScope (top 35)) 1 := ⟨hN, sc__law_letters.nd, hsc, hcm, hgd, hr⟩
    exact (ss_cons (ss_ret (g_lc h (si_seq (se_var (g_var h 1))) (own := [("name", 2)]) (blkOk_by (by decide +kernel)) (by decide) (fun _ _ _ _ _ h => (sg_nm (i := 2) h.ndX (h.ix (by rfl)) (h.loc (by first | exact Or.inl rfl | exact Or.inr rfl)) (by first | exact .inl rfl | exact .inr (h.lcl (by rfl))))) (fun _ _ _ _ _ h => sts_nil) (fun _ _ _ _ _ h => (se_tup (sd_cons (se_var (g_var h 2)) (sd_cons (se_cmp h.un (se_call D__law_drop rfl h.gd (h.rm.mono (by decide)) (h.gl (by rfl)) (sa_cons (se_var (g_var h 0)) (sa_cons se_int sa_nil))) se_int (by rfl)) sd_nil)))))) ss_nil)
theorem sc__law_some : FnScope ["tank", "names", "most", "left", "found", "turn"] ["tank", "names", "most"] (defScope (top 36)) := ⟨rfl, rfl, rfl, by decide +kernel, rfl, by decide +kernel, by decide +kernel⟩
theorem ok__law_some {f : Addr} {fd : FuncData} (hF : Fun K "_law_some" "_law_some" (top 36) f fd) (hx : mg "_law_some" = some (.ref f)) (hb : Binds K fd ["tank", "names", "most"] []) (T : Txt mg) (D__law_drop : FP P w K mg base 1 "_law_drop" ["tank", "many"] (top 30) m__law_drop) : FP P w K mg base 2 "_law_some" ["tank", "names", "most"] (top 36) m__law_some :=
  fun_ok (k := 1) hF sc__law_some hx hb fun X e1 e2 e3 e4 e5 hN hsc hcm hfn hr hgd _ hps => by
    subst e1 e2 e3 e4 e5
    have h : Cy X ["tank", "names", "most", "left", "found", "turn"] (defScope (top 36)) 1 := ⟨hN, sc__law_some.nd, hsc, hcm, hgd, hr⟩
    exact (ss_cons (ss_par2 (i := 3) (j := 4) h.cm h.ndX (h.ix (by rfl)) (h.ix (by rfl)) (by decide) (h.lcl (by rfl)) (h.lcl (by rfl)) (sws_cons (se_callTy (cd_list2 h.cm) (h.gl (by rfl)) T.b_list (by rfl) (sa_cons (se_var (g_var h 1)) sa_nil)) (sws_cons (se_lst sd_nil) sws_nil)) (h.sw (by rfl))) (ss_cons (ss_for hps h.cm (si_rng1 (h.gl (by rfl)) T.b_range (se_callB (cd_min h.cm) (h.gl (by rfl)) T.b_min (by rfl) (sa_cons (se_callB (cd_len) (h.gl (by rfl)) T.b_len (by rfl) (sa_cons (se_var (g_var h 3)) sa_nil)) (sa_cons (se_call D__law_drop rfl h.gd (h.rm.mono (by decide)) (h.gl (by rfl)) (sa_cons (se_var (g_var h 0)) (sa_cons (se_bin (se_var (g_var h 2)) se_int) sa_nil))) sa_nil)))) (sg_nm (i := 5) h.ndX (h.ix (by rfl)) (h.loc (by first | exact Or.inl rfl | exact Or.inr rfl)) (.inl (hfn _))) (ss_cons (ss_expr (se_mut mut_append PySem.F.slot_list_append PySem.F.type_list_append (g_var h 4) (sd_cons (se_mut mut_pop PySem.F.slot_list_pop PySem.F.type_list_pop (g_var h 3) (sd_cons (se_call D__law_drop rfl h.gd (h.rm.mono (by decide)) (h.gl (by rfl)) (sa_cons (se_var (g_var h 0)) (sa_cons (se_callB (cd_len) (h.gl (by rfl)) T.b_len (by rfl) (sa_cons (se_var (g_var h 3)) sa_nil)) sa_nil))) sd_nil)) sd_nil))) ss_nil)) (ss_cons (ss_ret (se_var (g_var h 4))) ss_nil)))
theorem sc__law_any_clause : FnScope ["tank", "picks", "owns", "names", "name", "sight"] ["tank", "picks", "owns"] (defScope (top 39)) := ⟨rfl, rfl, rfl, by decide +kernel, rfl, by decide +kernel, by decide +kernel⟩
theorem ok__law_any_clause {f : Addr} {fd : FuncData} (hF : Fun K "_law_any_clause" "_law_any_clause" (top 39) f fd) (hx : mg "_law_any_clause" = some (.ref f)) (hb : Binds K fd ["tank", "picks", "owns"] []) (T : Txt mg) (D__law_letters : FP P w K mg base 2 "_law_letters" ["tank", "names"] (top 35) m__law_letters) (D__law_some : FP P w K mg base 2 "_law_some" ["tank", "names", "most"] (top 36) m__law_some) : FP P w K mg base 3 "_law_any_clause" ["tank", "picks", "owns"] (top 39) m__law_any_clause :=
  fun_ok (k := 2) hF sc__law_any_clause hx hb fun X e1 e2 e3 e4 e5 hN hsc hcm hfn hr hgd _ hps => by
    subst e1 e2 e3 e4 e5
    have h : Cy X ["tank", "picks", "owns", "names", "name", "sight"] (defScope (top 39)) 2 := ⟨hN, sc__law_any_clause.nd, hsc, hcm, hgd, hr⟩
    exact (ss_cons (ss_set (i := 3) h.ndX (h.ix (by rfl)) (h.loc (by first | exact Or.inl rfl | exact Or.inr rfl)) (se_fz (se_bin (se_callTy (cd_list2 h.cm) (h.gl (by rfl)) T.b_list (by rfl) (sa_cons (se_var (g_var h 1)) sa_nil)) (g_lc h (si_seq (se_var (g_var h 2))) (own := [("name", 4), ("sight", 5)]) (blkOk_by (by decide +kernel)) (by decide) (fun _ _ _ _ _ h => (sg_tp h.cm (sgs_cons (sg_nm (i := 4) h.ndX (h.ix (by rfl)) (h.loc (by first | exact Or.inl rfl | exact Or.inr rfl)) (by first | exact .inl rfl | exact .inr (h.lcl (by rfl)))) (sgs_cons (sg_nm (i := 5) h.ndX (h.ix (by rfl)) (h.loc (by first | exact Or.inl rfl | exact Or.inr rfl)) (by first | exact .inl rfl | exact .inr (h.lcl (by rfl)))) sgs_nil)))) (fun _ _ _ _ _ h => sts_nil) (fun _ _ _ _ _ h => (se_var (g_var h 4)))))) (by rfl) (.inl (hfn _))) (ss_cons (ss_ret (se_callTy (cd_tuple) (h.gl (by rfl)) T.b_tuple (by rfl) (sa_cons (se_callB (cd_sorted (by have := h.un; omega)) (h.gl (by rfl)) T.b_sorted (by rfl) (sa_cons (se_call D__law_letters rfl h.gd (h.rm.mono (by decide)) (h.gl (by rfl)) (sa_cons (se_var (g_var h 0)) (sa_cons (se_call D__law_some rfl h.gd (h.rm.mono (by decide)) (h.gl (by rfl)) (sa_cons (se_var (g_var h 0)) (sa_cons (se_var (g_var h 3)) (sa_cons se_int sa_nil)))) sa_nil))) sa_nil)) sa_nil))) ss_nil))
theorem sc__law_plain_clause : FnScope ["tank", "picks", "owns", "own", "letters", "name", "sight"] ["tank", "picks", "owns"] (defScope (top 37)) := ⟨rfl, rfl, rfl, by decide +kernel, rfl, by decide +kernel, by decide +kernel⟩
theorem ok__law_plain_clause {f : Addr} {fd : FuncData} (hF : Fun K "_law_plain_clause" "_law_plain_clause" (top 37) f fd) (hx : mg "_law_plain_clause" = some (.ref f)) (hb : Binds K fd ["tank", "picks", "owns"] []) (T : Txt mg) (D__law_some : FP P w K mg base 2 "_law_some" ["tank", "names", "most"] (top 36) m__law_some) (D__law_drop : FP P w K mg base 1 "_law_drop" ["tank", "many"] (top 30) m__law_drop) (D__law_letters : FP P w K mg base 2 "_law_letters" ["tank", "names"] (top 35) m__law_letters) : FP P w K mg base 3 "_law_plain_clause" ["tank", "picks", "owns"] (top 37) m__law_plain_clause :=
  fun_ok (k := 2) hF sc__law_plain_clause hx hb fun X e1 e2 e3 e4 e5 hN hsc hcm hfn hr hgd _ hps => by
    subst e1 e2 e3 e4 e5
    have h : Cy X ["tank", "picks", "owns", "own", "letters", "name", "sight"] (defScope (top 37)) 2 := ⟨hN, sc__law_plain_clause.nd, hsc, hcm, hgd, hr⟩
    exact (ss_cons (ss_set (i := 3) h.ndX (h.ix (by rfl)) (h.loc (by first | exact Or.inl rfl | exact Or.inr rfl)) (se_fz (se_call D__law_some rfl h.gd (h.rm.mono (by decide)) (h.gl (by rfl)) (sa_cons (se_var (g_var h 0)) (sa_cons (g_lc h (si_seq (se_var (g_var h 2))) (own := [("name", 5), ("sight", 6)]) (blkOk_by (by decide +kernel)) (by decide) (fun _ _ _ _ _ h => (sg_tp h.cm (sgs_cons (sg_nm (i := 5) h.ndX (h.ix (by rfl)) (h.loc (by first | exact Or.inl rfl | exact Or.inr rfl)) (by first | exact .inl rfl | exact .inr (h.lcl (by rfl)))) (sgs_cons (sg_nm (i := 6) h.ndX (h.ix (by rfl)) (h.loc (by first | exact Or.inl rfl | exact Or.inr rfl)) (by first | exact .inl rfl | exact .inr (h.lcl (by rfl)))) sgs_nil)))) (fun _ _ _ _ _ h => sts_nil) (fun _ _ _ _ _ h => (se_var (g_var h 5)))) (sa_cons (se_bin se_int (se_bin se_int (se_callTy (cd_int) (h.gl (by rfl)) T.b_int (by rfl) (sa_cons (se_cmp h.un (se_call D__law_drop rfl h.gd (h.rm.mono (by decide)) (h.gl (by rfl)) (sa_cons (se_var (g_var h 0)) (sa_cons se_int sa_nil))) se_int (by rfl)) sa_nil)))) sa_nil))))) (by rfl) (.inl (hfn _))) (ss_cons (ss_set (i := 4) h.ndX (h.ix (by rfl)) (h.loc (by first | exact Or.inl rfl | exact Or.inr rfl)) (se_fz (se_call D__law_letters rfl h.gd (h.rm.mono (by decide)) (h.gl (by rfl)) (sa_cons (se_var (g_var h 0)) (sa_cons (se_call D__law_some rfl h.gd (h.rm.mono (by decide)) (h.gl (by rfl)) (sa_cons (se_var (g_var h 0)) (sa_cons (se_var (g_var h 1)) (sa_cons (se_bin se_int (se_bin se_int (se_call D__law_drop rfl h.gd (h.rm.mono (by decide)) (h.gl (by rfl)) (sa_cons (se_var (g_var h 0)) (sa_cons se_int sa_nil))))) sa_nil)))) sa_nil)))) (by rfl) (.inl (hfn _))) (ss_cons (ss_set (i := 4) h.ndX (h.ix (by rfl)) (h.loc (by first | exact Or.inl rfl | exact Or.inr rfl)) (se_fz (se_bin (se_var (g_var h 4)) (g_lc h (si_seq (se_sl (se_var (g_var h 3)) (so_some se_int) so_none)) (own := [("name", 5)]) (blkOk_by (by decide +kernel)) (by decide) (fun _ _ _ _ _ h => (sg_nm (i := 5) h.ndX (h.ix (by rfl)) (h.loc (by first | exact Or.inl rfl | exact Or.inr rfl)) (by first | exact .inl rfl | exact .inr (h.lcl (by rfl))))) (fun _ _ _ _ _ h => sts_nil) (fun _ _ _ _ _ h => (se_tup (sd_cons (se_var (g_var h 5)) (sd_cons se_bl sd_nil))))))) (by rfl) (.inl (hfn _))) (ss_cons (ss_ret (se_callTy (cd_tuple) (h.gl (by rfl)) T.b_tuple (by rfl) (sa_cons (se_callB (cd_sorted (by have := h.un; omega)) (h.gl (by rfl)) T.b_sorted (by rfl) (sa_cons (se_bin (se_var (g_var h 4)) (g_lc h (si_seq (se_sl (se_var (g_var h 3)) so_none (so_some se_int))) (own := [("name", 5)]) (blkOk_by (by decide +kernel)) (by decide) (fun _ _ _ _ _ h => (sg_nm (i := 5) h.ndX (h.ix (by rfl)) (h.loc (by first | exact Or.inl rfl | exact Or.inr rfl)) (by first | exact .inl rfl | exact .inr (h.lcl (by rfl))))) (fun _ _ _ _ _ h => sts_nil) (fun _ _ _ _ _ h => (se_tup (sd_cons (se_var (g_var h 5)) (sd_cons (se_cmp h.un (se_call D__law_drop rfl h.gd (h.rm.mono (by decide)) (h.gl (by rfl)) (sa_cons (se_var (g_var h 0)) (sa_cons se_int sa_nil))) se_int (by rfl)) sd_nil)))))) sa_nil)) sa_nil))) ss_nil))))
theorem sc__law_twos_clause : FnScope ["tank", "picks", "owns", "left", "own", "some", "name", "sight", "turn"] ["tank", "picks", "owns"] (defScope (top 38)) := ⟨rfl, rfl, rfl, by decide +kernel, rfl, by decide +kernel, by decide +kernel⟩
theorem ok__law_twos_clause {f : Addr} {fd : FuncData} (hF : Fun K "_law_twos_clause" "_law_twos_clause" (top 38) f fd) (hx : mg "_law_twos_clause" = some (.ref f)) (hb : Binds K fd ["tank", "picks", "owns"] []) (T : Txt mg) (D__law_drop : FP P w K mg base 1 "_law_drop" ["tank", "many"] (top 30) m__law_drop) (D__law_some : FP P w K mg base 2 "_law_some" ["tank", "names", "most"] (top 36) m__law_some) (D__law_letters : FP P w K mg base 2 "_law_letters" ["tank", "names"] (top 35) m__law_letters) : FP P w K mg base 3 "_law_twos_clause" ["tank", "picks", "owns"] (top 38) m__law_twos_clause :=
  fun_ok (k := 2) hF sc__law_twos_clause hx hb fun X e1 e2 e3 e4 e5 hN hsc hcm hfn hr hgd _ hps => by
    subst e1 e2 e3 e4 e5
    have h : Cy X ["tank", "picks", "owns", "left", "own", "some", "name", "sight", "turn"] (defScope (top 38)) 2 := ⟨hN, sc__law_twos_clause.nd, hsc, hcm, hgd, hr⟩
    exact (ss_cons (ss_set (i := 3) h.ndX (h.ix (by rfl)) (h.loc (by first | exact Or.inl rfl | exact Or.inr rfl)) (g_lc h (si_seq (se_var (g_var h 2))) (own := [("name", 6), ("sight", 7)]) (blkOk_by (by decide +kernel)) (by decide) (fun _ _ _ _ _ h => (sg_tp h.cm (sgs_cons (sg_nm (i := 6) h.ndX (h.ix (by rfl)) (h.loc (by first | exact Or.inl rfl | exact Or.inr rfl)) (by first | exact .inl rfl | exact .inr (h.lcl (by rfl)))) (sgs_cons (sg_nm (i := 7) h.ndX (h.ix (by rfl)) (h.loc (by first | exact Or.inl rfl | exact Or.inr rfl)) (by first | exact .inl rfl | exact .inr (h.lcl (by rfl)))) sgs_nil)))) (fun _ _ _ _ _ h => sts_nil) (fun _ _ _ _ _ h => (se_var (g_var h 6)))) (sw_no h (by rfl)) (.inl (hfn _))) (ss_cons (g_setLcD h (i := 4) (by rfl) (by rfl) rfl (by rfl) (by rfl) (si_rng1 (h.gl (by rfl)) T.b_range (se_callB (cd_min h.cm) (h.gl (by rfl)) T.b_min (by rfl) (sa_cons (se_callB (cd_len) (h.gl (by rfl)) T.b_len (by rfl) (sa_cons (se_var (g_var h 3)) sa_nil)) (sa_cons (se_bin se_int (se_callB (cd_min h.cm) (h.gl (by rfl)) T.b_min (by rfl) (sa_cons se_int (sa_cons (se_call D__law_drop rfl h.gd (h.rm.mono (by decide)) (h.gl (by rfl)) (sa_cons (se_var (g_var h 0)) (sa_cons se_int sa_nil))) sa_nil)))) sa_nil)))) (own := [("turn", 8)]) (blkOk_by (by decide +kernel)) (by decide) (fun _ _ _ _ _ h => (sg_nm (i := 8) h.ndX (h.ix (by rfl)) (h.loc (by first | exact Or.inl rfl | exact Or.inr rfl)) (by first | exact .inl rfl | exact .inr (h.lcl (by rfl))))) (fun _ _ _ _ _ h => sts_nil) (fun _ _ _ _ _ h => (se_mut mut_pop PySem.F.slot_list_pop PySem.F.type_list_pop (g_var h 3) (sd_cons (se_call D__law_drop rfl h.gd (h.rm.mono (by decide)) (h.gl (by rfl)) (sa_cons (se_var (g_var h 0)) (sa_cons (se_callB (cd_len) (h.gl (by rfl)) T.b_len (by rfl) (sa_cons (se_var (g_var h 3)) sa_nil)) sa_nil))) sd_nil)))) (ss_cons (ss_set (i := 5) h.ndX (h.ix (by rfl)) (h.loc (by first | exact Or.inl rfl | exact Or.inr rfl)) (se_fz (se_call D__law_some rfl h.gd (h.rm.mono (by decide)) (h.gl (by rfl)) (sa_cons (se_var (g_var h 0)) (sa_cons (se_var (g_var h 1)) (sa_cons (se_bin se_int (se_bin se_int (se_call D__law_drop rfl h.gd (h.rm.mono (by decide)) (h.gl (by rfl)) (sa_cons (se_var (g_var h 0)) (sa_cons se_int sa_nil))))) sa_nil))))) (by rfl) (.inl (hfn _))) (ss_cons (ss_ret (se_callTy (cd_tuple) (h.gl (by rfl)) T.b_tuple (by rfl) (sa_cons (se_callB (cd_sorted (by have := h.un; omega)) (h.gl (by rfl)) T.b_sorted (by rfl) (sa_cons (se_bin (se_call D__law_letters rfl h.gd (h.rm.mono (by decide)) (h.gl (by rfl)) (sa_cons (se_var (g_var h 0)) (sa_cons (se_var (g_var h 5)) sa_nil))) (se_call D__law_letters rfl h.gd (h.rm.mono (by decide)) (h.gl (by rfl)) (sa_cons (se_var (g_var h 0)) (sa_cons (se_var (g_var h 4)) sa_nil)))) sa_nil)) sa_nil))) ss_nil))))
theorem sc__law_clauses : FnScope ["tank", "picks", "owns", "kind", "found", "turn"] ["tank", "picks", "owns"] (defScope (top 40)) := ⟨rfl, rfl, rfl, by decide +kernel, rfl, by decide +kernel, by decide +kernel⟩
theorem ok__law_clauses {f : Addr} {fd : FuncData} (hF : Fun K "_law_clauses" "_law_clauses" (top 40) f fd) (hx : mg "_law_clauses" = some (.ref f)) (hb : Binds K fd ["tank", "picks", "owns"] []) (T : Txt mg) (D__law_drop : FP P w K mg base 1 "_law_drop" ["tank", "many"] (top 30) m__law_drop) (D__law_pick : FP P w K mg base 2 "_law_pick" ["tank", "things"] (top 31) m__law_pick) (D__law_any_clause : FP P w K mg base 3 "_law_any_clause" ["tank", "picks", "owns"] (top 39) m__law_any_clause) (D__law_plain_clause : FP P w K mg base 3 "_law_plain_clause" ["tank", "picks", "owns"] (top 37) m__law_plain_clause) (D__law_twos_clause : FP P w K mg base 3 "_law_twos_clause" ["tank", "picks", "owns"] (top 38) m__law_twos_clause) : FP P w K mg base 4 "_law_clauses" ["tank", "picks", "owns"] (top 40) m__law_clauses :=
  fun_ok (k := 3) hF sc__law_clauses hx hb fun X e1 e2 e3 e4 e5 hN hsc hcm hfn hr hgd _ hps => by
    subst e1 e2 e3 e4 e5
    have h : Cy X ["tank", "picks", "owns", "kind", "found", "turn"] (defScope (top 40)) 3 := ⟨hN, sc__law_clauses.nd, hsc, hcm, hgd, hr⟩
    exact (ss_cons (ss_par2 (i := 3) (j := 4) h.cm h.ndX (h.ix (by rfl)) (h.ix (by rfl)) (by decide) (h.lcl (by rfl)) (h.lcl (by rfl)) (sws_cons (se_fz (se_call D__law_drop rfl h.gd (h.rm.mono (by decide)) (h.gl (by rfl)) (sa_cons (se_var (g_var h 0)) (sa_cons se_int sa_nil)))) (sws_cons (se_lst sd_nil) sws_nil)) (h.sw (by rfl))) (ss_cons (ss_for hps h.cm (si_rng1 (h.gl (by rfl)) T.b_range (se_call D__law_pick rfl h.gd (h.rm.mono (by decide)) (h.gl (by rfl)) (sa_cons (se_var (g_var h 0)) (sa_cons (se_lst (sd_cons se_int (sd_cons se_int (sd_cons se_int (sd_cons se_int (sd_cons se_int sd_nil)))))) sa_nil)))) (sg_nm (i := 5) h.ndX (h.ix (by rfl)) (h.loc (by first | exact Or.inl rfl | exact Or.inr rfl)) (.inl (hfn _))) (ss_cons (ss_if (st_cmp h.un (se_var (g_var h 3)) se_int (by rfl)) (ss_cons (ss_expr (se_mut mut_append PySem.F.slot_list_append PySem.F.type_list_append (g_var h 4) (sd_cons (se_call D__law_any_clause rfl h.gd (h.rm.mono (by decide)) (h.gl (by rfl)) (sa_cons (se_var (g_var h 0)) (sa_cons (se_var (g_var h 1)) (sa_cons (se_var (g_var h 2)) sa_nil)))) sd_nil))) ss_nil) (ss_cons (ss_if (SW.st (sw_or (st_cmp h.un (se_var (g_var h 3)) se_int (by rfl)) (sw_or1 (st_cmp h.un (se_callB (cd_len) (h.gl (by rfl)) T.b_len (by rfl) (sa_cons (se_var (g_var h 2)) sa_nil)) se_int (by rfl))))) (ss_cons (ss_expr (se_mut mut_append PySem.F.slot_list_append PySem.F.type_list_append (g_var h 4) (sd_cons (se_call D__law_plain_clause rfl h.gd (h.rm.mono (by decide)) (h.gl (by rfl)) (sa_cons (se_var (g_var h 0)) (sa_cons (se_var (g_var h 1)) (sa_cons (se_var (g_var h 2)) sa_nil)))) sd_nil))) ss_nil) (ss_cons (ss_expr (se_mut mut_append PySem.F.slot_list_append PySem.F.type_list_append (g_var h 4) (sd_cons (se_call D__law_twos_clause rfl h.gd (h.rm.mono (by decide)) (h.gl (by rfl)) (sa_cons (se_var (g_var h 0)) (sa_cons (se_var (g_var h 1)) (sa_cons (se_var (g_var h 2)) sa_nil)))) sd_nil))) ss_nil)) ss_nil)) ss_nil)) (ss_cons (ss_for hps h.cm (si_rng1 (h.gl (by rfl)) T.b_range (se_call D__law_pick rfl h.gd (h.rm.mono (by decide)) (h.gl (by rfl)) (sa_cons (se_var (g_var h 0)) (sa_cons (se_lst (sd_cons se_int (sd_cons se_int (sd_cons se_int (sd_cons se_int sd_nil))))) sa_nil)))) (sg_nm (i := 5) h.ndX (h.ix (by rfl)) (h.loc (by first | exact Or.inl rfl | exact Or.inr rfl)) (.inl (hfn _))) (ss_cons (ss_if (st_cmp h.un (se_var (g_var h 4)) (se_lst sd_nil) (by rfl)) (ss_cons (ss_sub (by have := h.un; omega) (g_var h 4) (se_call D__law_drop rfl h.gd (h.rm.mono (by decide)) (h.gl (by rfl)) (sa_cons (se_var (g_var h 0)) (sa_cons (se_callB (cd_len) (h.gl (by rfl)) T.b_len (by rfl) (sa_cons (se_var (g_var h 4)) sa_nil)) sa_nil))) (se_call D__law_any_clause rfl h.gd (h.rm.mono (by decide)) (h.gl (by rfl)) (sa_cons (se_var (g_var h 0)) (sa_cons (se_var (g_var h 1)) (sa_cons (se_var (g_var h 2)) sa_nil))))) ss_nil) ss_nil) ss_nil)) (ss_cons (ss_ret (se_callTy (cd_tuple) (h.gl (by rfl)) T.b_tuple (by rfl) (sa_cons (se_sortSet h.cm (by have := h.un; omega) (h.gl (by rfl)) T.b_sorted (h.gl (by rfl)) T.b_set (se_var (g_var h 4))) sa_nil))) ss_nil))))
theorem sc__law_counted : FnScope ["saying", "own", "found", "clause", "truths", "name", "sight", "truth"] ["saying"] (defScope (top 41)) := ⟨rfl, rfl, rfl, by decide +kernel, rfl, by decide +kernel, by decide +kernel⟩
theorem ok__law_counted {f : Addr} {fd : FuncData} (hF : Fun K "_law_counted" "_law_counted" (top 41) f fd) (hx : mg "_law_counted" = some (.ref f)) (hb : Binds K fd ["saying"] []) (T : Txt mg)  : FP P w K mg base 1 "_law_counted" ["saying"] (top 41) m__law_counted :=
  fun_ok (k := 0) hF sc__law_counted hx hb fun X e1 e2 e3 e4 e5 hN hsc hcm hfn hr hgd _ hps => by
    subst e1 e2 e3 e4 e5
    have h : Cy X ["saying", "own", "found", "clause", "truths", "name", "sight", "truth"] (defScope (top 41)) 0 := ⟨hN, sc__law_counted.nd, hsc, hcm, hgd, hr⟩
    exact (ss_cons (ss_set (i := 1) h.ndX (h.ix (by rfl)) (h.loc (by first | exact Or.inl rfl | exact Or.inr rfl)) (se_fz (se_callTy (cd_dict h.cm) (h.gl (by rfl)) T.b_dict (by rfl) (sa_cons (g_lc h (si_seq (se_ix h.un (se_var (g_var h 0)) se_int)) (own := [("name", 5), ("sight", 6)]) (blkOk_by (by decide +kernel)) (by decide) (fun _ _ _ _ _ h => (sg_tp h.cm (sgs_cons (sg_nm (i := 5) h.ndX (h.ix (by rfl)) (h.loc (by first | exact Or.inl rfl | exact Or.inr rfl)) (by first | exact .inl rfl | exact .inr (h.lcl (by rfl)))) (sgs_cons (sg_nm (i := 6) h.ndX (h.ix (by rfl)) (h.loc (by first | exact Or.inl rfl | exact Or.inr rfl)) (by first | exact .inl rfl | exact .inr (h.lcl (by rfl)))) sgs_nil)))) (fun _ _ _ _ _ h => sts_nil) (fun _ _ _ _ _ h => (se_tup (sd_cons (se_var (g_var h 5)) (sd_cons se_bl sd_nil))))) sa_nil))) (by rfl) (.inl (hfn _))) (ss_cons (ss_set (i := 2) h.ndX (h.ix (by rfl)) (h.loc (by first | exact Or.inl rfl | exact Or.inr rfl)) (se_lst sd_nil) (by rfl) (.inl (hfn _))) (ss_cons (ss_for hps h.cm (si_seq (se_ix h.un (se_var (g_var h 0)) se_int)) (sg_nm (i := 3) h.ndX (h.ix (by rfl)) (h.loc (by first | exact Or.inl rfl | exact Or.inr rfl)) (.inl (hfn _))) (ss_cons (g_setLcD h (i := 4) (by rfl) (by rfl) rfl (by rfl) (by rfl) (si_seq (se_var (g_var h 3))) (own := [("name", 5), ("truth", 7)]) (blkOk_by (by decide +kernel)) (by decide) (fun _ _ _ _ _ h => (sg_tp h.cm (sgs_cons (sg_nm (i := 5) h.ndX (h.ix (by rfl)) (h.loc (by first | exact Or.inl rfl | exact Or.inr rfl)) (by first | exact .inl rfl | exact .inr (h.lcl (by rfl)))) (sgs_cons (sg_nm (i := 7) h.ndX (h.ix (by rfl)) (h.loc (by first | exact Or.inl rfl | exact Or.inr rfl)) (by first | exact .inl rfl | exact .inr (h.lcl (by rfl)))) sgs_nil)))) (fun _ _ _ _ _ h => (sts_one (st_cmp h.un (se_var (g_var h 5)) (se_var (g_var h 1)) (by rfl)))) (fun _ _ _ _ _ h => (se_var (g_var h 7)))) (ss_cons (ss_expr (se_mut mut_append PySem.F.slot_list_append PySem.F.type_list_append (g_var h 2) (sd_cons (se_tup (sd_cons (se_callB (cd_len) (h.gl (by rfl)) T.b_len (by rfl) (sa_cons (se_var (g_var h 4)) sa_nil)) (sd_cons (se_mth (mth_count (by have := h.un; omega)) PySem.F.plainAttrs_list PySem.F.slot_list_count PySem.F.type_list_count (se_var (g_var h 4)) (sa_cons se_bl sa_nil)) sd_nil))) sd_nil))) ss_nil))) (ss_cons (ss_ret (se_var (g_var h 2))) ss_nil))))
theorem sc_is_name : FnScope ["value", "sign"] ["value"] (defScope (top 13)) := ⟨rfl, rfl, rfl, by decide +kernel, rfl, by decide +kernel, by decide +kernel⟩
theorem ok_is_name {f : Addr} {fd : FuncData} (hF : Fun K "is_name" "is_name" (top 13) f fd) (hx : mg "is_name" = some (.ref f)) (hb : Binds K fd ["value"] []) (T : Txt mg)  : FP P w K mg base 1 "is_name" ["value"] (top 13) m_is_name :=
  fun_ok (k := 0) hF sc_is_name hx hb fun X e1 e2 e3 e4 e5 hN hsc hcm hfn hr hgd _ hps => by
    subst e1 e2 e3 e4 e5
    have h : Cy X ["value", "sign"] (defScope (top 13)) 0 := ⟨hN, sc_is_name.nd, hsc, hcm, hgd, hr⟩
    exact (ss_cons (ss_ret (se_and (se_isi (se_var (g_var h 0)) (h.gl (by rfl)) T.b_isinstance (h.gl (by rfl)) T.b_str (by rfl)) (se_and (se_ch h.un se_int (se_callB (cd_len) (h.gl (by rfl)) T.b_len (by rfl) (sa_cons (se_var (g_var h 0)) sa_nil)) (g_gi h T.c_MOST_LETTERS)) (se_one (se_callB (cd_all h.cm) (h.gl (by rfl)) T.b_all (by rfl) (sa_cons (g_lc h (si_seq (se_var (g_var h 0))) (own := [("sign", 1)]) (blkOk_by (by decide +kernel)) (by decide) (fun _ _ _ _ _ h => (sg_nm (i := 1) h.ndX (h.ix (by rfl)) (h.loc (by first | exact Or.inl rfl | exact Or.inr rfl)) (by first | exact .inl rfl | exact .inr (h.lcl (by rfl))))) (fun _ _ _ _ _ h => sts_nil) (fun _ _ _ _ _ h => (se_cmp h.un (se_var (g_var h 1)) (g_gs h T.c_LETTERS) (by rfl)))) sa_nil)))))) ss_nil)
theorem sc_are_ascending : FnScope ["values", "at"] ["values"] (defScope (top 12)) := ⟨rfl, rfl, rfl, by decide +kernel, rfl, by decide +kernel, by decide +kernel⟩
theorem ok_are_ascending {f : Addr} {fd : FuncData} (hF : Fun K "are_ascending" "are_ascending" (top 12) f fd) (hx : mg "are_ascending" = some (.ref f)) (hb : Binds K fd ["values"] []) (T : Txt mg)  : FP P w K mg base 1 "are_ascending" ["values"] (top 12) m_are_ascending :=
  fun_ok (k := 0) hF sc_are_ascending hx hb fun X e1 e2 e3 e4 e5 hN hsc hcm hfn hr hgd _ hps => by
    subst e1 e2 e3 e4 e5
    have h : Cy X ["values", "at"] (defScope (top 12)) 0 := ⟨hN, sc_are_ascending.nd, hsc, hcm, hgd, hr⟩
    exact (ss_cons (ss_ret (se_callB (cd_all h.cm) (h.gl (by rfl)) T.b_all (by rfl) (sa_cons (g_lc h (si_rng1 (h.gl (by rfl)) T.b_range (se_bin (se_callB (cd_len) (h.gl (by rfl)) T.b_len (by rfl) (sa_cons (se_var (g_var h 0)) sa_nil)) se_int)) (own := [("at", 1)]) (blkOk_by (by decide +kernel)) (by decide) (fun _ _ _ _ _ h => (sg_nm (i := 1) h.ndX (h.ix (by rfl)) (h.loc (by first | exact Or.inl rfl | exact Or.inr rfl)) (by first | exact .inl rfl | exact .inr (h.lcl (by rfl))))) (fun _ _ _ _ _ h => sts_nil) (fun _ _ _ _ _ h => (se_cmp h.un (se_ix h.un (se_var (g_var h 0)) (se_var (g_var h 1))) (se_ix h.un (se_var (g_var h 0)) (se_bin (se_var (g_var h 1)) se_int)) (by rfl)))) sa_nil))) ss_nil)
theorem sc_are_names : FnScope ["value", "name"] ["value"] (defScope (top 14)) := ⟨rfl, rfl, rfl, by decide +kernel, rfl, by decide +kernel, by decide +kernel⟩
theorem ok_are_names {f : Addr} {fd : FuncData} (hF : Fun K "are_names" "are_names" (top 14) f fd) (hx : mg "are_names" = some (.ref f)) (hb : Binds K fd ["value"] []) (T : Txt mg) (D_are_ascending : FP P w K mg base 1 "are_ascending" ["values"] (top 12) m_are_ascending) (D_is_name : FP P w K mg base 1 "is_name" ["value"] (top 13) m_is_name) : FP P w K mg base 2 "are_names" ["value"] (top 14) m_are_names :=
  fun_ok (k := 1) hF sc_are_names hx hb fun X e1 e2 e3 e4 e5 hN hsc hcm hfn hr hgd _ hps => by
    subst e1 e2 e3 e4 e5
    have h : Cy X ["value", "name"] (defScope (top 14)) 1 := ⟨hN, sc_are_names.nd, hsc, hcm, hgd, hr⟩
    exact (ss_cons (ss_ret (se_and (se_isi (se_var (g_var h 0)) (h.gl (by rfl)) T.b_isinstance (h.gl (by rfl)) T.b_tuple (by rfl)) (se_and (se_callB (cd_all h.cm) (h.gl (by rfl)) T.b_all (by rfl) (sa_cons (g_lc h (si_seq (se_var (g_var h 0))) (own := [("name", 1)]) (blkOk_by (by decide +kernel)) (by decide) (fun _ _ _ _ _ h => (sg_nm (i := 1) h.ndX (h.ix (by rfl)) (h.loc (by first | exact Or.inl rfl | exact Or.inr rfl)) (by first | exact .inl rfl | exact .inr (h.lcl (by rfl))))) (fun _ _ _ _ _ h => sts_nil) (fun _ _ _ _ _ h => (se_call D_is_name rfl h.gd (h.rm.mono (by decide)) (h.gl (by rfl)) (sa_cons (se_var (g_var h 1)) sa_nil)))) sa_nil)) (se_one (se_call D_are_ascending rfl h.gd (h.rm.mono (by decide)) (h.gl (by rfl)) (sa_cons (se_var (g_var h 0)) sa_nil)))))) ss_nil)
theorem sc_is_own : FnScope ["value", "picks", "pick"] ["value", "picks"] (defScope (top 17)) := ⟨rfl, rfl, rfl, by decide +kernel, rfl, by decide +kernel, by decide +kernel⟩
theorem ok_is_own {f : Addr} {fd : FuncData} (hF : Fun K "is_own" "is_own" (top 17) f fd) (hx : mg "is_own" = some (.ref f)) (hb : Binds K fd ["value", "picks"] []) (T : Txt mg) (D_is_name : FP P w K mg base 1 "is_name" ["value"] (top 13) m_is_name) (D_are_names : FP P w K mg base 2 "are_names" ["value"] (top 14) m_are_names) : FP P w K mg base 3 "is_own" ["value", "picks"] (top 17) m_is_own :=
  fun_ok (k := 2) hF sc_is_own hx hb fun X e1 e2 e3 e4 e5 hN hsc hcm hfn hr hgd _ hps => by
    subst e1 e2 e3 e4 e5
    have h : Cy X ["value", "picks", "pick"] (defScope (top 17)) 2 := ⟨hN, sc_is_own.nd, hsc, hcm, hgd, hr⟩
    exact (ss_cons (ss_if (SW.st (sw_or (st_not (st_tru (se_isi (se_var (g_var h 0)) (h.gl (by rfl)) T.b_isinstance (h.gl (by rfl)) T.b_tuple (by rfl)))) (sw_or (st_cmp h.un (se_callB (cd_len) (h.gl (by rfl)) T.b_len (by rfl) (sa_cons (se_var (g_var h 0)) sa_nil)) se_int (by rfl)) (sw_or (st_not (st_tru (se_call D_is_name rfl h.gd (h.rm.mono (by decide)) (h.gl (by rfl)) (sa_cons (se_ix h.un (se_var (g_var h 0)) se_int) sa_nil)))) (sw_or1 (st_cmp h.un (se_ix h.un (se_var (g_var h 0)) se_int) (se_var (g_var h 1)) (by rfl))))))) (ss_cons (ss_ret se_bl) ss_nil) ss_nil) (ss_cons (ss_ret (se_and (se_call D_are_names rfl h.gd (h.rm.mono (by decide)) (h.gl (by rfl)) (sa_cons (se_ix h.un (se_var (g_var h 0)) se_int) sa_nil)) (se_one (se_callB (cd_all h.cm) (h.gl (by rfl)) T.b_all (by rfl) (sa_cons (g_lc h (si_seq (se_ix h.un (se_var (g_var h 0)) se_int)) (own := [("pick", 2)]) (blkOk_by (by decide +kernel)) (by decide) (fun _ _ _ _ _ h => (sg_nm (i := 2) h.ndX (h.ix (by rfl)) (h.loc (by first | exact Or.inl rfl | exact Or.inr rfl)) (by first | exact .inl rfl | exact .inr (h.lcl (by rfl))))) (fun _ _ _ _ _ h => sts_nil) (fun _ _ _ _ _ h => (se_cmp h.un (se_var (g_var h 2)) (se_var (g_var h 1)) (by rfl)))) sa_nil))))) ss_nil))
theorem sc_are_owns : FnScope ["value", "picks", "name", "own", "sight"] ["value", "picks"] (defScope (top 18)) := ⟨rfl, rfl, rfl, by decide +kernel, rfl, by decide +kernel, by decide +kernel⟩
theorem ok_are_owns {f : Addr} {fd : FuncData} (hF : Fun K "are_owns" "are_owns" (top 18) f fd) (hx : mg "are_owns" = some (.ref f)) (hb : Binds K fd ["value", "picks"] []) (T : Txt mg) (D_is_own : FP P w K mg base 3 "is_own" ["value", "picks"] (top 17) m_is_own) (D_are_ascending : FP P w K mg base 1 "are_ascending" ["values"] (top 12) m_are_ascending) : FP P w K mg base 4 "are_owns" ["value", "picks"] (top 18) m_are_owns :=
  fun_ok (k := 3) hF sc_are_owns hx hb fun X e1 e2 e3 e4 e5 hN hsc hcm hfn hr hgd _ hps => by
    subst e1 e2 e3 e4 e5
    have h : Cy X ["value", "picks", "name", "own", "sight"] (defScope (top 18)) 3 := ⟨hN, sc_are_owns.nd, hsc, hcm, hgd, hr⟩
    exact (ss_cons (ss_if (SW.st (sw_or (st_not (st_tru (se_isi (se_var (g_var h 0)) (h.gl (by rfl)) T.b_isinstance (h.gl (by rfl)) T.b_tuple (by rfl)))) (sw_or (st_cmp h.un (se_callB (cd_len) (h.gl (by rfl)) T.b_len (by rfl) (sa_cons (se_var (g_var h 0)) sa_nil)) (g_gi h T.c_MOST_OWNS) (by rfl)) (sw_or1 (st_not (st_tru (se_callB (cd_all h.cm) (h.gl (by rfl)) T.b_all (by rfl) (sa_cons (g_lc h (si_seq (se_var (g_var h 0))) (own := [("own", 3)]) (blkOk_by (by decide +kernel)) (by decide) (fun _ _ _ _ _ h => (sg_nm (i := 3) h.ndX (h.ix (by rfl)) (h.loc (by first | exact Or.inl rfl | exact Or.inr rfl)) (by first | exact .inl rfl | exact .inr (h.lcl (by rfl))))) (fun _ _ _ _ _ h => sts_nil) (fun _ _ _ _ _ h => (se_call D_is_own rfl h.gd (h.rm.mono (by decide)) (h.gl (by rfl)) (sa_cons (se_var (g_var h 3)) (sa_cons (se_var (g_var h 1)) sa_nil))))) sa_nil)))))))) (ss_cons (ss_ret se_bl) ss_nil) ss_nil) (ss_cons (ss_if (st_not (st_tru (se_call D_are_ascending rfl h.gd (h.rm.mono (by decide)) (h.gl (by rfl)) (sa_cons (se_callTy (cd_tuple) (h.gl (by rfl)) T.b_tuple (by rfl) (sa_cons (g_lc h (si_seq (se_var (g_var h 0))) (own := [("name", 2), ("sight", 4)]) (blkOk_by (by decide +kernel)) (by decide) (fun _ _ _ _ _ h => (sg_tp h.cm (sgs_cons (sg_nm (i := 2) h.ndX (h.ix (by rfl)) (h.loc (by first | exact Or.inl rfl | exact Or.inr rfl)) (by first | exact .inl rfl | exact .inr (h.lcl (by rfl)))) (sgs_cons (sg_nm (i := 4) h.ndX (h.ix (by rfl)) (h.loc (by first | exact Or.inl rfl | exact Or.inr rfl)) (by first | exact .inl rfl | exact .inr (h.lcl (by rfl)))) sgs_nil)))) (fun _ _ _ _ _ h => sts_nil) (fun _ _ _ _ _ h => (se_var (g_var h 2)))) sa_nil)) sa_nil)))) (ss_cons (ss_ret se_bl) ss_nil) ss_nil) (ss_cons (ss_ret (se_cmp h.un (se_callB (cd_sum h.cm) (h.gl (by rfl)) T.b_sum (by rfl) (sa_cons (g_lc h (si_seq (se_var (g_var h 0))) (own := [("name", 2), ("sight", 4)]) (blkOk_by (by decide +kernel)) (by decide) (fun _ _ _ _ _ h => (sg_tp h.cm (sgs_cons (sg_nm (i := 2) h.ndX (h.ix (by rfl)) (h.loc (by first | exact Or.inl rfl | exact Or.inr rfl)) (by first | exact .inl rfl | exact .inr (h.lcl (by rfl)))) (sgs_cons (sg_nm (i := 4) h.ndX (h.ix (by rfl)) (h.loc (by first | exact Or.inl rfl | exact Or.inr rfl)) (by first | exact .inl rfl | exact .inr (h.lcl (by rfl)))) sgs_nil)))) (fun _ _ _ _ _ h => sts_nil) (fun _ _ _ _ _ h => (se_bin se_int (se_callB (cd_len) (h.gl (by rfl)) T.b_len (by rfl) (sa_cons (se_var (g_var h 4)) sa_nil))))) sa_nil)) (g_gi h T.c_MOST_COPIES) (by rfl))) ss_nil)))
theorem sc_is_truth : FnScope ["value"] ["value"] (defScope (top 10)) := ⟨rfl, rfl, rfl, by decide +kernel, rfl, by decide +kernel, by decide +kernel⟩
theorem ok_is_truth {f : Addr} {fd : FuncData} (hF : Fun K "is_truth" "is_truth" (top 10) f fd) (hx : mg "is_truth" = some (.ref f)) (hb : Binds K fd ["value"] []) (T : Txt mg)  : FP P w K mg base 1 "is_truth" ["value"] (top 10) m_is_truth :=
  fun_ok (k := 0) hF sc_is_truth hx hb fun X e1 e2 e3 e4 e5 hN hsc hcm hfn hr hgd _ hps => by
    subst e1 e2 e3 e4 e5
    have h : Cy X ["value"] (defScope (top 10)) 0 := ⟨hN, sc_is_truth.nd, hsc, hcm, hgd, hr⟩
    exact (ss_cons (ss_ret (se_isi (se_var (g_var h 0)) (h.gl (by rfl)) T.b_isinstance (h.gl (by rfl)) T.b_bool (by rfl))) ss_nil)
theorem sc_is_letter : FnScope ["value"] ["value"] (defScope (top 15)) := ⟨rfl, rfl, rfl, by decide +kernel, rfl, by decide +kernel, by decide +kernel⟩
theorem ok_is_letter {f : Addr} {fd : FuncData} (hF : Fun K "is_letter" "is_letter" (top 15) f fd) (hx : mg "is_letter" = some (.ref f)) (hb : Binds K fd ["value"] []) (T : Txt mg) (D_is_truth : FP P w K mg base 1 "is_truth" ["value"] (top 10) m_is_truth) (D_is_name : FP P w K mg base 1 "is_name" ["value"] (top 13) m_is_name) : FP P w K mg base 2 "is_letter" ["value"] (top 15) m_is_letter :=
  fun_ok (k := 1) hF sc_is_letter hx hb fun X e1 e2 e3 e4 e5 hN hsc hcm hfn hr hgd _ hps => by
    subst e1 e2 e3 e4 e5
    have h : Cy X ["value"] (defScope (top 15)) 1 := ⟨hN, sc_is_letter.nd, hsc, hcm, hgd, hr⟩
    exact (ss_cons (ss_ret (se_and (se_isi (se_var (g_var h 0)) (h.gl (by rfl)) T.b_isinstance (h.gl (by rfl)) T.b_tuple (by rfl)) (se_and (se_cmp h.un (se_callB (cd_len) (h.gl (by rfl)) T.b_len (by rfl) (sa_cons (se_var (g_var h 0)) sa_nil)) se_int (by rfl)) (se_and (se_call D_is_name rfl h.gd (h.rm.mono (by decide)) (h.gl (by rfl)) (sa_cons (se_ix h.un (se_var (g_var h 0)) se_int) sa_nil)) (se_one (se_call D_is_truth rfl h.gd (h.rm.mono (by decide)) (h.gl (by rfl)) (sa_cons (se_ix h.un (se_var (g_var h 0)) se_int) sa_nil))))))) ss_nil)
theorem sc_is_any_clause : FnScope ["value", "letter", "name", "truth"] ["value"] (defScope (top 16)) := ⟨rfl, rfl, rfl, by decide +kernel, rfl, by decide +kernel, by decide +kernel⟩
theorem ok_is_any_clause {f : Addr} {fd : FuncData} (hF : Fun K "is_any_clause" "is_any_clause" (top 16) f fd) (hx : mg "is_any_clause" = some (.ref f)) (hb : Binds K fd ["value"] []) (T : Txt mg) (D_is_letter : FP P w K mg base 2 "is_letter" ["value"] (top 15) m_is_letter) (D_are_ascending : FP P w K mg base 1 "are_ascending" ["values"] (top 12) m_are_ascending) : FP P w K mg base 3 "is_any_clause" ["value"] (top 16) m_is_any_clause :=
  fun_ok (k := 2) hF sc_is_any_clause hx hb fun X e1 e2 e3 e4 e5 hN hsc hcm hfn hr hgd _ hps => by
    subst e1 e2 e3 e4 e5
    have h : Cy X ["value", "letter", "name", "truth"] (defScope (top 16)) 2 := ⟨hN, sc_is_any_clause.nd, hsc, hcm, hgd, hr⟩
    exact (ss_cons (ss_if (SW.st (sw_or (st_not (st_tru (se_isi (se_var (g_var h 0)) (h.gl (by rfl)) T.b_isinstance (h.gl (by rfl)) T.b_tuple (by rfl)))) (sw_or1 (st_not (st_tru (se_callB (cd_all h.cm) (h.gl (by rfl)) T.b_all (by rfl) (sa_cons (g_lc h (si_seq (se_var (g_var h 0))) (own := [("letter", 1)]) (blkOk_by (by decide +kernel)) (by decide) (fun _ _ _ _ _ h => (sg_nm (i := 1) h.ndX (h.ix (by rfl)) (h.loc (by first | exact Or.inl rfl | exact Or.inr rfl)) (by first | exact .inl rfl | exact .inr (h.lcl (by rfl))))) (fun _ _ _ _ _ h => sts_nil) (fun _ _ _ _ _ h => (se_call D_is_letter rfl h.gd (h.rm.mono (by decide)) (h.gl (by rfl)) (sa_cons (se_var (g_var h 1)) sa_nil)))) sa_nil))))))) (ss_cons (ss_ret se_bl) ss_nil) ss_nil) (ss_cons (ss_ret (se_call D_are_ascending rfl h.gd (h.rm.mono (by decide)) (h.gl (by rfl)) (sa_cons (se_callTy (cd_tuple) (h.gl (by rfl)) T.b_tuple (by rfl) (sa_cons (g_lc h (si_seq (se_var (g_var h 0))) (own := [("name", 2), ("truth", 3)]) (blkOk_by (by decide +kernel)) (by decide) (fun _ _ _ _ _ h => (sg_tp h.cm (sgs_cons (sg_nm (i := 2) h.ndX (h.ix (by rfl)) (h.loc (by first | exact Or.inl rfl | exact Or.inr rfl)) (by first | exact .inl rfl | exact .inr (h.lcl (by rfl)))) (sgs_cons (sg_nm (i := 3) h.ndX (h.ix (by rfl)) (h.loc (by first | exact Or.inl rfl | exact Or.inr rfl)) (by first | exact .inl rfl | exact .inr (h.lcl (by rfl)))) sgs_nil)))) (fun _ _ _ _ _ h => sts_nil) (fun _ _ _ _ _ h => (se_var (g_var h 2)))) sa_nil)) sa_nil))) ss_nil))
theorem sc_names_of : FnScope ["picks", "owns", "name", "sight"] ["picks", "owns"] (defScope (top 19)) := ⟨rfl, rfl, rfl, by decide +kernel, rfl, by decide +kernel, by decide +kernel⟩
theorem ok_names_of {f : Addr} {fd : FuncData} (hF : Fun K "names_of" "names_of" (top 19) f fd) (hx : mg "names_of" = some (.ref f)) (hb : Binds K fd ["picks", "owns"] []) (T : Txt mg)  : FP P w K mg base 1 "names_of" ["picks", "owns"] (top 19) m_names_of :=
  fun_ok (k := 0) hF sc_names_of hx hb fun X e1 e2 e3 e4 e5 hN hsc hcm hfn hr hgd _ hps => by
    subst e1 e2 e3 e4 e5
    have h : Cy X ["picks", "owns", "name", "sight"] (defScope (top 19)) 0 := ⟨hN, sc_names_of.nd, hsc, hcm, hgd, hr⟩
    exact (ss_cons (ss_ret (se_bin (se_callTy (cd_list2 h.cm) (h.gl (by rfl)) T.b_list (by rfl) (sa_cons (se_var (g_var h 0)) sa_nil)) (g_lc h (si_seq (se_var (g_var h 1))) (own := [("name", 2), ("sight", 3)]) (blkOk_by (by decide +kernel)) (by decide) (fun _ _ _ _ _ h => (sg_tp h.cm (sgs_cons (sg_nm (i := 2) h.ndX (h.ix (by rfl)) (h.loc (by first | exact Or.inl rfl | exact Or.inr rfl)) (by first | exact .inl rfl | exact .inr (h.lcl (by rfl)))) (sgs_cons (sg_nm (i := 3) h.ndX (h.ix (by rfl)) (h.loc (by first | exact Or.inl rfl | exact Or.inr rfl)) (by first | exact .inl rfl | exact .inr (h.lcl (by rfl)))) sgs_nil)))) (fun _ _ _ _ _ h => sts_nil) (fun _ _ _ _ _ h => (se_var (g_var h 2)))))) ss_nil)
theorem sc_has_names : FnScope ["clause", "names", "name", "truth"] ["clause", "names"] (defScope (top 20)) := ⟨rfl, rfl, rfl, by decide +kernel, rfl, by decide +kernel, by decide +kernel⟩
theorem ok_has_names {f : Addr} {fd : FuncData} (hF : Fun K "has_names" "has_names" (top 20) f fd) (hx : mg "has_names" = some (.ref f)) (hb : Binds K fd ["clause", "names"] []) (T : Txt mg)  : FP P w K mg base 1 "has_names" ["clause", "names"] (top 20) m_has_names :=
  fun_ok (k := 0) hF sc_has_names hx hb fun X e1 e2 e3 e4 e5 hN hsc hcm hfn hr hgd _ hps => by
    subst e1 e2 e3 e4 e5
    have h : Cy X ["clause", "names", "name", "truth"] (defScope (top 20)) 0 := ⟨hN, sc_has_names.nd, hsc, hcm, hgd, hr⟩
    exact (ss_cons (ss_ret (se_callB (cd_all h.cm) (h.gl (by rfl)) T.b_all (by rfl) (sa_cons (g_lc h (si_seq (se_var (g_var h 0))) (own := [("name", 2), ("truth", 3)]) (blkOk_by (by decide +kernel)) (by decide) (fun _ _ _ _ _ h => (sg_tp h.cm (sgs_cons (sg_nm (i := 2) h.ndX (h.ix (by rfl)) (h.loc (by first | exact Or.inl rfl | exact Or.inr rfl)) (by first | exact .inl rfl | exact .inr (h.lcl (by rfl)))) (sgs_cons (sg_nm (i := 3) h.ndX (h.ix (by rfl)) (h.loc (by first | exact Or.inl rfl | exact Or.inr rfl)) (by first | exact .inl rfl | exact .inr (h.lcl (by rfl)))) sgs_nil)))) (fun _ _ _ _ _ h => sts_nil) (fun _ _ _ _ _ h => (se_cmp h.un (se_var (g_var h 2)) (se_var (g_var h 1)) (by rfl)))) sa_nil))) ss_nil)
theorem sc_is_a_saying : FnScope ["value", "picks", "owns", "clauses", "names", "clause"] ["value"] (defScope (top 21)) := ⟨rfl, rfl, rfl, by decide +kernel, rfl, by decide +kernel, by decide +kernel⟩
theorem ok_is_a_saying {f : Addr} {fd : FuncData} (hF : Fun K "is_a_saying" "is_a_saying" (top 21) f fd) (hx : mg "is_a_saying" = some (.ref f)) (hb : Binds K fd ["value"] []) (T : Txt mg) (D_are_owns : FP P w K mg base 4 "are_owns" ["value", "picks"] (top 18) m_are_owns) (D_are_names : FP P w K mg base 2 "are_names" ["value"] (top 14) m_are_names) (D_are_ascending : FP P w K mg base 1 "are_ascending" ["values"] (top 12) m_are_ascending) (D_is_any_clause : FP P w K mg base 3 "is_any_clause" ["value"] (top 16) m_is_any_clause) (D_names_of : FP P w K mg base 1 "names_of" ["picks", "owns"] (top 19) m_names_of) (D_has_names : FP P w K mg base 1 "has_names" ["clause", "names"] (top 20) m_has_names) : FP P w K mg base 5 "is_a_saying" ["value"] (top 21) m_is_a_saying :=
  fun_ok (k := 4) hF sc_is_a_saying hx hb fun X e1 e2 e3 e4 e5 hN hsc hcm hfn hr hgd _ hps => by
    subst e1 e2 e3 e4 e5
    have h : Cy X ["value", "picks", "owns", "clauses", "names", "clause"] (defScope (top 21)) 4 := ⟨hN, sc_is_a_saying.nd, hsc, hcm, hgd, hr⟩
    exact (ss_cons (ss_if (SW.st (sw_or (st_not (st_tru (se_isi (se_var (g_var h 0)) (h.gl (by rfl)) T.b_isinstance (h.gl (by rfl)) T.b_tuple (by rfl)))) (sw_or1 (st_cmp h.un (se_callB (cd_len) (h.gl (by rfl)) T.b_len (by rfl) (sa_cons (se_var (g_var h 0)) sa_nil)) se_int (by rfl))))) (ss_cons (ss_ret se_bl) ss_nil) ss_nil) (ss_cons (ss_unp (se_var (g_var h 0)) (sg_tp h.cm (sgs_cons (sg_nm (i := 1) h.ndX (h.ix (by rfl)) (h.loc (by first | exact Or.inl rfl | exact Or.inr rfl)) (.inl (hfn _))) (sgs_cons (sg_nm (i := 2) h.ndX (h.ix (by rfl)) (h.loc (by first | exact Or.inl rfl | exact Or.inr rfl)) (.inl (hfn _))) (sgs_cons (sg_nm (i := 3) h.ndX (h.ix (by rfl)) (h.loc (by first | exact Or.inl rfl | exact Or.inr rfl)) (.inl (hfn _))) sgs_nil))))) (ss_cons (ss_if (SW.st (sw_or (st_not (st_tru (se_call D_are_names rfl h.gd (h.rm.mono (by decide)) (h.gl (by rfl)) (sa_cons (se_var (g_var h 1)) sa_nil)))) (sw_or (st_cmp h.un (se_callB (cd_len) (h.gl (by rfl)) T.b_len (by rfl) (sa_cons (se_var (g_var h 1)) sa_nil)) (g_gi h T.c_MOST_PICKS) (by rfl)) (sw_or1 (st_not (st_tru (se_call D_are_owns rfl h.gd (h.rm.mono (by decide)) (h.gl (by rfl)) (sa_cons (se_var (g_var h 2)) (sa_cons (se_var (g_var h 1)) sa_nil))))))))) (ss_cons (ss_ret se_bl) ss_nil) ss_nil) (ss_cons (ss_if (SW.st (sw_or (st_not (st_tru (se_isi (se_var (g_var h 3)) (h.gl (by rfl)) T.b_isinstance (h.gl (by rfl)) T.b_tuple (by rfl)))) (sw_or1 (st_cmp h.un (se_callB (cd_len) (h.gl (by rfl)) T.b_len (by rfl) (sa_cons (se_var (g_var h 3)) sa_nil)) (g_gi h T.c_MOST_CLAUSES) (by rfl))))) (ss_cons (ss_ret se_bl) ss_nil) ss_nil) (ss_cons (ss_if (SW.st (sw_or (st_not (st_tru (se_callB (cd_all h.cm) (h.gl (by rfl)) T.b_all (by rfl) (sa_cons (g_lc h (si_seq (se_var (g_var h 3))) (own := [("clause", 5)]) (blkOk_by (by decide +kernel)) (by decide) (fun _ _ _ _ _ h => (sg_nm (i := 5) h.ndX (h.ix (by rfl)) (h.loc (by first | exact Or.inl rfl | exact Or.inr rfl)) (by first | exact .inl rfl | exact .inr (h.lcl (by rfl))))) (fun _ _ _ _ _ h => sts_nil) (fun _ _ _ _ _ h => (se_call D_is_any_clause rfl h.gd (h.rm.mono (by decide)) (h.gl (by rfl)) (sa_cons (se_var (g_var h 5)) sa_nil)))) sa_nil)))) (sw_or1 (st_not (st_tru (se_call D_are_ascending rfl h.gd (h.rm.mono (by decide)) (h.gl (by rfl)) (sa_cons (se_var (g_var h 3)) sa_nil))))))) (ss_cons (ss_ret se_bl) ss_nil) ss_nil) (ss_cons (ss_set (i := 4) h.ndX (h.ix (by rfl)) (h.loc (by first | exact Or.inl rfl | exact Or.inr rfl)) (se_fz (se_call D_names_of rfl h.gd (h.rm.mono (by decide)) (h.gl (by rfl)) (sa_cons (se_var (g_var h 1)) (sa_cons (se_var (g_var h 2)) sa_nil)))) (by rfl) (.inl (hfn _))) (ss_cons (ss_ret (se_callB (cd_all h.cm) (h.gl (by rfl)) T.b_all (by rfl) (sa_cons (g_lc h (si_seq (se_var (g_var h 3))) (own := [("clause", 5)]) (blkOk_by (by decide +kernel)) (by decide) (fun _ _ _ _ _ h => (sg_nm (i := 5) h.ndX (h.ix (by rfl)) (h.loc (by first | exact Or.inl rfl | exact Or.inr rfl)) (by first | exact .inl rfl | exact .inr (h.lcl (by rfl))))) (fun _ _ _ _ _ h => sts_nil) (fun _ _ _ _ _ h => (se_call D_has_names rfl h.gd (h.rm.mono (by decide)) (h.gl (by rfl)) (sa_cons (se_var (g_var h 5)) (sa_cons (se_var (g_var h 4)) sa_nil))))) sa_nil))) ss_nil)))))))
theorem sc_need_saying : FnScope ["saying"] ["saying"] (defScope (top 22)) := ⟨rfl, rfl, rfl, by decide +kernel, rfl, by decide +kernel, by decide +kernel⟩
theorem ok_need_saying {f : Addr} {fd : FuncData} (hF : Fun K "need_saying" "need_saying" (top 22) f fd) (hx : mg "need_saying" = some (.ref f)) (hb : Binds K fd ["saying"] []) (T : Txt mg) (D_is_a_saying : FP P w K mg base 5 "is_a_saying" ["value"] (top 21) m_is_a_saying) : FP P w K mg base 6 "need_saying" ["saying"] (top 22) m_need_saying :=
  fun_ok (k := 5) hF sc_need_saying hx hb fun X e1 e2 e3 e4 e5 hN hsc hcm hfn hr hgd _ hps => by
    subst e1 e2 e3 e4 e5
    have h : Cy X ["saying"] (defScope (top 22)) 5 := ⟨hN, sc_need_saying.nd, hsc, hcm, hgd, hr⟩
    exact (ss_cons (ss_if (st_not (st_tru (se_call D_is_a_saying rfl h.gd (h.rm.mono (by decide)) (h.gl (by rfl)) (sa_cons (se_var (g_var h 0)) sa_nil)))) (ss_cons ss_no ss_nil) ss_nil) ss_nil)
theorem sc_is_plain_one : FnScope ["saying", "own", "clause", "name", "sight", "truth"] ["saying"] (defScope (top 24)) := ⟨rfl, rfl, rfl, by decide +kernel, rfl, by decide +kernel, by decide +kernel⟩
theorem ok_is_plain_one {f : Addr} {fd : FuncData} (hF : Fun K "is_plain_one" "is_plain_one" (top 24) f fd) (hx : mg "is_plain_one" = some (.ref f)) (hb : Binds K fd ["saying"] []) (T : Txt mg)  : FP P w K mg base 1 "is_plain_one" ["saying"] (top 24) m_is_plain_one :=
  fun_ok (k := 0) hF sc_is_plain_one hx hb fun X e1 e2 e3 e4 e5 hN hsc hcm hfn hr hgd _ hps => by
    subst e1 e2 e3 e4 e5
    have h : Cy X ["saying", "own", "clause", "name", "sight", "truth"] (defScope (top 24)) 0 := ⟨hN, sc_is_plain_one.nd, hsc, hcm, hgd, hr⟩
    exact (ss_cons (ss_set (i := 1) h.ndX (h.ix (by rfl)) (h.loc (by first | exact Or.inl rfl | exact Or.inr rfl)) (se_fz (g_dc h (si_seq (se_ix h.un (se_var (g_var h 0)) se_int)) (own := [("name", 3), ("sight", 4)]) (blkOk_by (by decide +kernel)) (by decide) (fun _ _ _ _ _ h => (sg_tp h.cm (sgs_cons (sg_nm (i := 3) h.ndX (h.ix (by rfl)) (h.loc (by first | exact Or.inl rfl | exact Or.inr rfl)) (by first | exact .inl rfl | exact .inr (h.lcl (by rfl)))) (sgs_cons (sg_nm (i := 4) h.ndX (h.ix (by rfl)) (h.loc (by first | exact Or.inl rfl | exact Or.inr rfl)) (by first | exact .inl rfl | exact .inr (h.lcl (by rfl)))) sgs_nil)))) (fun _ _ _ _ _ h => sts_nil) (fun _ _ _ _ _ h => (se_var (g_var h 3))) (fun _ _ _ _ _ h => se_bl))) (sw_noD h (by rfl)) (.inl (hfn _))) (ss_cons (ss_ret (se_callB (cd_all h.cm) (h.gl (by rfl)) T.b_all (by rfl) (sa_cons (g_lc h (si_seq (se_ix h.un (se_var (g_var h 0)) se_int)) (own := [("clause", 2)]) (blkOk_by (by decide +kernel)) (by decide) (fun _ _ _ _ _ h => (sg_nm (i := 2) h.ndX (h.ix (by rfl)) (h.loc (by first | exact Or.inl rfl | exact Or.inr rfl)) (by first | exact .inl rfl | exact .inr (h.lcl (by rfl))))) (fun _ _ _ _ _ h => sts_nil) (fun _ _ _ _ _ h => (se_cmp h.un (se_callB (cd_len) (h.gl (by rfl)) T.b_len (by rfl) (sa_cons (g_lc h (si_seq (se_var (g_var h 2))) (own := [("name", 3), ("truth", 5)]) (blkOk_by (by decide +kernel)) (by decide) (fun _ _ _ _ _ h => (sg_tp h.cm (sgs_cons (sg_nm (i := 3) h.ndX (h.ix (by rfl)) (h.loc (by first | exact Or.inl rfl | exact Or.inr rfl)) (by first | exact .inl rfl | exact .inr (h.lcl (by rfl)))) (sgs_cons (sg_nm (i := 5) h.ndX (h.ix (by rfl)) (h.loc (by first | exact Or.inl rfl | exact Or.inr rfl)) (by first | exact .inl rfl | exact .inr (h.lcl (by rfl)))) sgs_nil)))) (fun _ _ _ _ _ h => (sts_one (SW.st (sw_and (st_cmp h.un (se_var (g_var h 3)) (se_var (g_var h 1)) (by rfl)) (sw_and1 (st_tru (se_var (g_var h 5)))))))) (fun _ _ _ _ _ h => (se_var (g_var h 3)))) sa_nil)) se_int (by rfl)))) sa_nil))) ss_nil))
theorem sc_is_plain : FnScope ["saying"] ["saying"] (defScope (top 26)) := ⟨rfl, rfl, rfl, by decide +kernel, rfl, by decide +kernel, by decide +kernel⟩
theorem ok_is_plain {f : Addr} {fd : FuncData} (hF : Fun K "is_plain" "is_plain" (top 26) f fd) (hx : mg "is_plain" = some (.ref f)) (hb : Binds K fd ["saying"] []) (T : Txt mg) (D_need_saying : FP P w K mg base 6 "need_saying" ["saying"] (top 22) m_need_saying) (D_is_plain_one : FP P w K mg base 1 "is_plain_one" ["saying"] (top 24) m_is_plain_one) : FP P w K mg base 7 "is_plain" ["saying"] (top 26) m_is_plain :=
  fun_ok (k := 6) hF sc_is_plain hx hb fun X e1 e2 e3 e4 e5 hN hsc hcm hfn hr hgd _ hps => by
    subst e1 e2 e3 e4 e5
    have h : Cy X ["saying"] (defScope (top 26)) 6 := ⟨hN, sc_is_plain.nd, hsc, hcm, hgd, hr⟩
    exact (ss_cons (ss_expr (se_call D_need_saying rfl h.gd (h.rm.mono (by decide)) (h.gl (by rfl)) (sa_cons (se_var (g_var h 0)) sa_nil))) (ss_cons (ss_ret (se_call D_is_plain_one rfl h.gd (h.rm.mono (by decide)) (h.gl (by rfl)) (sa_cons (se_var (g_var h 0)) sa_nil))) ss_nil))
theorem sc_is_of_twos : FnScope ["saying", "own", "clause", "name", "sight", "truth"] ["saying"] (defScope (top 25)) := ⟨rfl, rfl, rfl, by decide +kernel, rfl, by decide +kernel, by decide +kernel⟩
theorem ok_is_of_twos {f : Addr} {fd : FuncData} (hF : Fun K "is_of_twos" "is_of_twos" (top 25) f fd) (hx : mg "is_of_twos" = some (.ref f)) (hb : Binds K fd ["saying"] []) (T : Txt mg)  : FP P w K mg base 1 "is_of_twos" ["saying"] (top 25) m_is_of_twos :=
  fun_ok (k := 0) hF sc_is_of_twos hx hb fun X e1 e2 e3 e4 e5 hN hsc hcm hfn hr hgd _ hps => by
    subst e1 e2 e3 e4 e5
    have h : Cy X ["saying", "own", "clause", "name", "sight", "truth"] (defScope (top 25)) 0 := ⟨hN, sc_is_of_twos.nd, hsc, hcm, hgd, hr⟩
    exact (ss_cons (ss_set (i := 1) h.ndX (h.ix (by rfl)) (h.loc (by first | exact Or.inl rfl | exact Or.inr rfl)) (se_fz (g_dc h (si_seq (se_ix h.un (se_var (g_var h 0)) se_int)) (own := [("name", 3), ("sight", 4)]) (blkOk_by (by decide +kernel)) (by decide) (fun _ _ _ _ _ h => (sg_tp h.cm (sgs_cons (sg_nm (i := 3) h.ndX (h.ix (by rfl)) (h.loc (by first | exact Or.inl rfl | exact Or.inr rfl)) (by first | exact .inl rfl | exact .inr (h.lcl (by rfl)))) (sgs_cons (sg_nm (i := 4) h.ndX (h.ix (by rfl)) (h.loc (by first | exact Or.inl rfl | exact Or.inr rfl)) (by first | exact .inl rfl | exact .inr (h.lcl (by rfl)))) sgs_nil)))) (fun _ _ _ _ _ h => sts_nil) (fun _ _ _ _ _ h => (se_var (g_var h 3))) (fun _ _ _ _ _ h => se_bl))) (sw_noD h (by rfl)) (.inl (hfn _))) (ss_cons (ss_ret (se_callB (cd_all h.cm) (h.gl (by rfl)) T.b_all (by rfl) (sa_cons (g_lc h (si_seq (se_ix h.un (se_var (g_var h 0)) se_int)) (own := [("clause", 2)]) (blkOk_by (by decide +kernel)) (by decide) (fun _ _ _ _ _ h => (sg_nm (i := 2) h.ndX (h.ix (by rfl)) (h.loc (by first | exact Or.inl rfl | exact Or.inr rfl)) (by first | exact .inl rfl | exact .inr (h.lcl (by rfl))))) (fun _ _ _ _ _ h => sts_nil) (fun _ _ _ _ _ h => (se_ch h.un se_int (se_callB (cd_len) (h.gl (by rfl)) T.b_len (by rfl) (sa_cons (g_lc h (si_seq (se_var (g_var h 2))) (own := [("name", 3), ("truth", 5)]) (blkOk_by (by decide +kernel)) (by decide) (fun _ _ _ _ _ h => (sg_tp h.cm (sgs_cons (sg_nm (i := 3) h.ndX (h.ix (by rfl)) (h.loc (by first | exact Or.inl rfl | exact Or.inr rfl)) (by first | exact .inl rfl | exact .inr (h.lcl (by rfl)))) (sgs_cons (sg_nm (i := 5) h.ndX (h.ix (by rfl)) (h.loc (by first | exact Or.inl rfl | exact Or.inr rfl)) (by first | exact .inl rfl | exact .inr (h.lcl (by rfl)))) sgs_nil)))) (fun _ _ _ _ _ h => (sts_one (st_cmp h.un (se_var (g_var h 3)) (se_var (g_var h 1)) (by rfl)))) (fun _ _ _ _ _ h => (se_var (g_var h 3)))) sa_nil)) se_int))) sa_nil))) ss_nil))
theorem sc_is_twos : FnScope ["saying"] ["saying"] (defScope (top 27)) := ⟨rfl, rfl, rfl, by decide +kernel, rfl, by decide +kernel, by decide +kernel⟩
theorem ok_is_twos {f : Addr} {fd : FuncData} (hF : Fun K "is_twos" "is_twos" (top 27) f fd) (hx : mg "is_twos" = some (.ref f)) (hb : Binds K fd ["saying"] []) (T : Txt mg) (D_need_saying : FP P w K mg base 6 "need_saying" ["saying"] (top 22) m_need_saying) (D_is_of_twos : FP P w K mg base 1 "is_of_twos" ["saying"] (top 25) m_is_of_twos) : FP P w K mg base 7 "is_twos" ["saying"] (top 27) m_is_twos :=
  fun_ok (k := 6) hF sc_is_twos hx hb fun X e1 e2 e3 e4 e5 hN hsc hcm hfn hr hgd _ hps => by
    subst e1 e2 e3 e4 e5
    have h : Cy X ["saying"] (defScope (top 27)) 6 := ⟨hN, sc_is_twos.nd, hsc, hcm, hgd, hr⟩
    exact (ss_cons (ss_expr (se_call D_need_saying rfl h.gd (h.rm.mono (by decide)) (h.gl (by rfl)) (sa_cons (se_var (g_var h 0)) sa_nil))) (ss_cons (ss_ret (se_call D_is_of_twos rfl h.gd (h.rm.mono (by decide)) (h.gl (by rfl)) (sa_cons (se_var (g_var h 0)) sa_nil))) ss_nil))
theorem sc__law_right : FnScope ["saying", "named", "counted", "before", "dues", "turn", "told", "many", "more"] ["saying", "named"] (defScope (top 42)) := ⟨rfl, rfl, rfl, by decide +kernel, rfl, by decide +kernel, by decide +kernel⟩
theorem ok__law_right {f : Addr} {fd : FuncData} (hF : Fun K "_law_right" "_law_right" (top 42) f fd) (hx : mg "_law_right" = some (.ref f)) (hb : Binds K fd ["saying", "named"] []) (T : Txt mg) (D__law_counted : FP P w K mg base 1 "_law_counted" ["saying"] (top 41) m__law_counted) (D_is_plain : FP P w K mg base 7 "is_plain" ["saying"] (top 26) m_is_plain) (D_is_twos : FP P w K mg base 7 "is_twos" ["saying"] (top 27) m_is_twos) : FP P w K mg base 8 "_law_right" ["saying", "named"] (top 42) m__law_right :=
  fun_ok (k := 7) hF sc__law_right hx hb fun X e1 e2 e3 e4 e5 hN hsc hcm hfn hr hgd _ hps => by
    subst e1 e2 e3 e4 e5
    have h : Cy X ["saying", "named", "counted", "before", "dues", "turn", "told", "many", "more"] (defScope (top 42)) 7 := ⟨hN, sc__law_right.nd, hsc, hcm, hgd, hr⟩
    exact (ss_cons (ss_par2 (i := 2) (j := 3) h.cm h.ndX (h.ix (by rfl)) (h.ix (by rfl)) (by decide) (h.lcl (by rfl)) (h.lcl (by rfl)) (sws_cons (se_fz (se_call D__law_counted rfl h.gd (h.rm.mono (by decide)) (h.gl (by rfl)) (sa_cons (se_var (g_var h 0)) sa_nil))) (sws_cons (se_fz (se_callB (cd_repr h.gd (by have := h.un; omega)) (h.gl (by rfl)) T.b_repr (by rfl) (sa_cons (se_var (g_var h 0)) sa_nil))) sws_nil)) (h.sw (by rfl))) (ss_cons (ss_set (i := 4) h.ndX (h.ix (by rfl)) (h.loc (by first | exact Or.inl rfl | exact Or.inr rfl)) (se_fz (se_lst (sd_cons (se_callB (cd_all h.cm) (h.gl (by rfl)) T.b_all (by rfl) (sa_cons (g_lc h (si_seq (se_var (g_var h 2))) (own := [("many", 7), ("more", 8)]) (blkOk_by (by decide +kernel)) (by decide) (fun _ _ _ _ _ h => (sg_tp h.cm (sgs_cons (sg_nm (i := 7) h.ndX (h.ix (by rfl)) (h.loc (by first | exact Or.inl rfl | exact Or.inr rfl)) (by first | exact .inl rfl | exact .inr (h.lcl (by rfl)))) (sgs_cons (sg_nm (i := 8) h.ndX (h.ix (by rfl)) (h.loc (by first | exact Or.inl rfl | exact Or.inr rfl)) (by first | exact .inl rfl | exact .inr (h.lcl (by rfl)))) sgs_nil)))) (fun _ _ _ _ _ h => sts_nil) (fun _ _ _ _ _ h => (se_cmp h.un (se_var (g_var h 8)) se_int (by rfl)))) sa_nil)) (sd_cons (se_callB (cd_all h.cm) (h.gl (by rfl)) T.b_all (by rfl) (sa_cons (g_lc h (si_seq (se_var (g_var h 2))) (own := [("many", 7), ("more", 8)]) (blkOk_by (by decide +kernel)) (by decide) (fun _ _ _ _ _ h => (sg_tp h.cm (sgs_cons (sg_nm (i := 7) h.ndX (h.ix (by rfl)) (h.loc (by first | exact Or.inl rfl | exact Or.inr rfl)) (by first | exact .inl rfl | exact .inr (h.lcl (by rfl)))) (sgs_cons (sg_nm (i := 8) h.ndX (h.ix (by rfl)) (h.loc (by first | exact Or.inl rfl | exact Or.inr rfl)) (by first | exact .inl rfl | exact .inr (h.lcl (by rfl)))) sgs_nil)))) (fun _ _ _ _ _ h => sts_nil) (fun _ _ _ _ _ h => (se_cmp h.un (se_var (g_var h 7)) (se_tup (sd_cons se_int (sd_cons se_int sd_nil))) (by rfl)))) sa_nil)) sd_nil)))) (by rfl) (.inl (hfn _))) (ss_cons (ss_for hps h.cm (si_rng1 (h.gl (by rfl)) T.b_range se_int) (sg_nm (i := 5) h.ndX (h.ix (by rfl)) (h.loc (by first | exact Or.inl rfl | exact Or.inr rfl)) (.inl (hfn _))) (ss_cons (ss_set (i := 6) h.ndX (h.ix (by rfl)) (h.loc (by first | exact Or.inl rfl | exact Or.inr rfl)) (se_fz (se_lst (sd_cons (se_call D_is_plain rfl h.gd (h.rm.mono (by decide)) (h.gl (by rfl)) (sa_cons (se_var (g_var h 0)) sa_nil)) (sd_cons (se_call D_is_twos rfl h.gd (h.rm.mono (by decide)) (h.gl (by rfl)) (sa_cons (se_var (g_var h 0)) sa_nil)) sd_nil)))) (by rfl) (.inl (hfn _))) (ss_cons (ss_if (st_tru (se_var (g_var h 1))) (ss_cons (ss_set (i := 6) h.ndX (h.ix (by rfl)) (h.loc (by first | exact Or.inl rfl | exact Or.inr rfl)) (se_fz (se_lst (sd_cons (se_callK0 (ks := ["saying"]) (ix := [0]) D_is_plain (fun _ _ _ _ _ _ _ us ws hu hw => match us, ws, hu, hw with | [], [_], _, _ => by rfl) (fun rs hr => match rs, hr with | [_], _ => rfl) rfl h.gd (h.rm.mono (by decide)) (h.gl (by rfl)) (sk_cons (se_var (g_var h 0)) sk_nil)) (sd_cons (se_callK0 (ks := ["saying"]) (ix := [0]) D_is_twos (fun _ _ _ _ _ _ _ us ws hu hw => match us, ws, hu, hw with | [], [_], _, _ => by rfl) (fun rs hr => match rs, hr with | [_], _ => rfl) rfl h.gd (h.rm.mono (by decide)) (h.gl (by rfl)) (sk_cons (se_var (g_var h 0)) sk_nil)) sd_nil)))) (by rfl) (.inl (hfn _))) ss_nil) ss_nil) (ss_cons (ss_if (st_cmp h.un (se_callB (cd_repr h.gd (by have := h.un; omega)) (h.gl (by rfl)) T.b_repr (by rfl) (sa_cons (se_var (g_var h 6)) sa_nil)) (se_callB (cd_repr h.gd (by have := h.un; omega)) (h.gl (by rfl)) T.b_repr (by rfl) (sa_cons (se_var (g_var h 4)) sa_nil)) (by rfl)) (ss_cons (ss_ret se_bl) ss_nil) ss_nil) ss_nil)))) (ss_cons (ss_ret (se_cmp h.un (se_callB (cd_repr h.gd (by have := h.un; omega)) (h.gl (by rfl)) T.b_repr (by rfl) (sa_cons (se_var (g_var h 0)) sa_nil)) (se_var (g_var h 3)) (by rfl))) ss_nil))))
theorem sc_law : FnScope ["script", "k", "tank", "turn", "picks", "owns", "saying"] ["script"] (defScope (top 43)) := ⟨rfl, rfl, rfl, by decide +kernel, rfl, by decide +kernel, by decide +kernel⟩
theorem ok_law {f : Addr} {fd : FuncData} (hF : Fun K "law" "law" (top 43) f fd) (hx : mg "law" = some (.ref f)) (hb : Binds K fd ["script"] []) (T : Txt mg) (D__law_tank : FP P w K mg base 1 "_law_tank" ["script", "k"] (top 29) m__law_tank) (D__law_frame : FP P w K mg base 3 "_law_frame" ["tank", "most_picks", "most_owns", "most_copies"] (top 34) m__law_frame) (D__law_clauses : FP P w K mg base 4 "_law_clauses" ["tank", "picks", "owns"] (top 40) m__law_clauses) (D__law_right : FP P w K mg base 8 "_law_right" ["saying", "named"] (top 42) m__law_right) (D__law_drop : FP P w K mg base 1 "_law_drop" ["tank", "many"] (top 30) m__law_drop) : FP P w K mg base 9 "law" ["script"] (top 43) m_law :=
  fun_ok (k := 8) hF sc_law hx hb fun X e1 e2 e3 e4 e5 hN hsc hcm hfn hr hgd _ hps => by
    subst e1 e2 e3 e4 e5
    have h : Cy X ["script", "k", "tank", "turn", "picks", "owns", "saying"] (defScope (top 43)) 8 := ⟨hN, sc_law.nd, hsc, hcm, hgd, hr⟩
    exact (ss_cons (ss_for hps h.cm (si_rng1 (h.gl (by rfl)) T.b_range (se_callB (cd_max h.cm) (h.gl (by rfl)) T.b_max (by rfl) (sa_cons se_int (sa_cons (se_callB (cd_min h.cm) (h.gl (by rfl)) T.b_min (by rfl) (sa_cons se_int (sa_cons (se_callB (cd_len) (h.gl (by rfl)) T.b_len (by rfl) (sa_cons (se_var (g_var h 0)) sa_nil)) sa_nil))) sa_nil)))) (sg_nm (i := 1) h.ndX (h.ix (by rfl)) (h.loc (by first | exact Or.inl rfl | exact Or.inr rfl)) (.inl (hfn _))) (ss_cons (ss_set (i := 2) h.ndX (h.ix (by rfl)) (h.loc (by first | exact Or.inl rfl | exact Or.inr rfl)) (se_call D__law_tank rfl h.gd (h.rm.mono (by decide)) (h.gl (by rfl)) (sa_cons (se_var (g_var h 0)) (sa_cons (se_var (g_var h 1)) sa_nil))) (by rfl) (.inl (hfn _))) (ss_cons (ss_for hps h.cm (si_rng1 (h.gl (by rfl)) T.b_range se_int) (sg_nm (i := 3) h.ndX (h.ix (by rfl)) (h.loc (by first | exact Or.inl rfl | exact Or.inr rfl)) (.inl (hfn _))) (ss_cons (ss_unp (se_call D__law_frame rfl h.gd (h.rm.mono (by decide)) (h.gl (by rfl)) (sa_cons (se_var (g_var h 2)) (sa_cons se_int (sa_cons se_int (sa_cons se_int sa_nil))))) (sg_tp h.cm (sgs_cons (sg_nm (i := 4) h.ndX (h.ix (by rfl)) (h.loc (by first | exact Or.inl rfl | exact Or.inr rfl)) (.inl (hfn _))) (sgs_cons (sg_nm (i := 5) h.ndX (h.ix (by rfl)) (h.loc (by first | exact Or.inl rfl | exact Or.inr rfl)) (.inl (hfn _))) sgs_nil)))) (ss_cons (ss_set (i := 6) h.ndX (h.ix (by rfl)) (h.loc (by first | exact Or.inl rfl | exact Or.inr rfl)) (se_tup (sd_cons (se_var (g_var h 4)) (sd_cons (se_var (g_var h 5)) (sd_cons (se_call D__law_clauses rfl h.gd (h.rm.mono (by decide)) (h.gl (by rfl)) (sa_cons (se_var (g_var h 2)) (sa_cons (se_var (g_var h 4)) (sa_cons (se_var (g_var h 5)) sa_nil)))) sd_nil)))) (by rfl) (.inl (hfn _))) (ss_cons (ss_if (st_not (st_tru (se_call D__law_right rfl h.gd (h.rm.mono (by decide)) (h.gl (by rfl)) (sa_cons (se_var (g_var h 6)) (sa_cons (se_cmp h.un (se_call D__law_drop rfl h.gd (h.rm.mono (by decide)) (h.gl (by rfl)) (sa_cons (se_var (g_var h 2)) (sa_cons se_int sa_nil))) se_int (by rfl)) sa_nil))))) (ss_cons (ss_ret se_bl) ss_nil) ss_nil) ss_nil)))) ss_nil))) (ss_cons (ss_ret se_bl) ss_nil))
theorem all_mk {h : Heap} (X : K.In h) (G : h.Ns mainGlobals mg)
    {f0 : Addr} {od0 an0 : Option Addr} {sl0 : Array (Option Value)} {oc0 kV0 dc0 pm0 cd0 ct0 : Value} (a0 : PySem.W.nsIn K mainGlobals "_law_tank" = some (some (.ref f0))) (l0 : K.lookup f0 = some ⟨oc0, od0, .func (PySem.W.fnOf "_law_tank" "_law_tank" (defArgs (top 29)) (defBody (top 29)) (defScope (top 29)) .none kV0 dc0 pm0 an0 cd0 ct0), sl0⟩) (c0 : PySem.W.codeIn K cd0 "_law_tank" = true) (k0 : PySem.W.keepIn K (.ref f0) = true)
    {f1 : Addr} {od1 an1 : Option Addr} {sl1 : Array (Option Value)} {oc1 kV1 dc1 pm1 cd1 ct1 : Value} (a1 : PySem.W.nsIn K mainGlobals "_law_drop" = some (some (.ref f1))) (l1 : K.lookup f1 = some ⟨oc1, od1, .func (PySem.W.fnOf "_law_drop" "_law_drop" (defArgs (top 30)) (defBody (top 30)) (defScope (top 30)) .none kV1 dc1 pm1 an1 cd1 ct1), sl1⟩) (c1 : PySem.W.codeIn K cd1 "_law_drop" = true) (k1 : PySem.W.keepIn K (.ref f1) = true)
    {f2 : Addr} {od2 an2 : Option Addr} {sl2 : Array (Option Value)} {oc2 kV2 dc2 pm2 cd2 ct2 : Value} (a2 : PySem.W.nsIn K mainGlobals "_law_names" = some (some (.ref f2))) (l2 : K.lookup f2 = some ⟨oc2, od2, .func (PySem.W.fnOf "_law_names" "_law_names" (defArgs (top 33)) (defBody (top 33)) (defScope (top 33)) .none kV2 dc2 pm2 an2 cd2 ct2), sl2⟩) (c2 : PySem.W.codeIn K cd2 "_law_names" = true) (k2 : PySem.W.keepIn K (.ref f2) = true)
    {f3 : Addr} {od3 an3 : Option Addr} {sl3 : Array (Option Value)} {oc3 kV3 dc3 pm3 cd3 ct3 : Value} (a3 : PySem.W.nsIn K mainGlobals "_law_lot" = some (some (.ref f3))) (l3 : K.lookup f3 = some ⟨oc3, od3, .func (PySem.W.fnOf "_law_lot" "_law_lot" (defArgs (top 32)) (defBody (top 32)) (defScope (top 32)) .none kV3 dc3 pm3 an3 cd3 ct3), sl3⟩) (c3 : PySem.W.codeIn K cd3 "_law_lot" = true) (k3 : PySem.W.keepIn K (.ref f3) = true)
    {f4 : Addr} {od4 an4 : Option Addr} {sl4 : Array (Option Value)} {oc4 kV4 dc4 pm4 cd4 ct4 : Value} (a4 : PySem.W.nsIn K mainGlobals "_law_frame" = some (some (.ref f4))) (l4 : K.lookup f4 = some ⟨oc4, od4, .func (PySem.W.fnOf "_law_frame" "_law_frame" (defArgs (top 34)) (defBody (top 34)) (defScope (top 34)) .none kV4 dc4 pm4 an4 cd4 ct4), sl4⟩) (c4 : PySem.W.codeIn K cd4 "_law_frame" = true) (k4 : PySem.W.keepIn K (.ref f4) = true)
    {f5 : Addr} {od5 an5 : Option Addr} {sl5 : Array (Option Value)} {oc5 kV5 dc5 pm5 cd5 ct5 : Value} (a5 : PySem.W.nsIn K mainGlobals "_law_pick" = some (some (.ref f5))) (l5 : K.lookup f5 = some ⟨oc5, od5, .func (PySem.W.fnOf "_law_pick" "_law_pick" (defArgs (top 31)) (defBody (top 31)) (defScope (top 31)) .none kV5 dc5 pm5 an5 cd5 ct5), sl5⟩) (c5 : PySem.W.codeIn K cd5 "_law_pick" = true) (k5 : PySem.W.keepIn K (.ref f5) = true)
    {f6 : Addr} {od6 an6 : Option Addr} {sl6 : Array (Option Value)} {oc6 kV6 dc6 pm6 cd6 ct6 : Value} (a6 : PySem.W.nsIn K mainGlobals "_law_letters" = some (some (.ref f6))) (l6 : K.lookup f6 = some ⟨oc6, od6, .func (PySem.W.fnOf "_law_letters" "_law_letters" (defArgs (top 35)) (defBody (top 35)) (defScope (top 35)) .none kV6 dc6 pm6 an6 cd6 ct6), sl6⟩) (c6 : PySem.W.codeIn K cd6 "_law_letters" = true) (k6 : PySem.W.keepIn K (.ref f6) = true)
    {f7 : Addr} {od7 an7 : Option Addr} {sl7 : Array (Option Value)} {oc7 kV7 dc7 pm7 cd7 ct7 : Value} (a7 : PySem.W.nsIn K mainGlobals "_law_some" = some (some (.ref f7))) (l7 : K.lookup f7 = some ⟨oc7, od7, .func (PySem.W.fnOf "_law_some" "_law_some" (defArgs (top 36)) (defBody (top 36)) (defScope (top 36)) .none kV7 dc7 pm7 an7 cd7 ct7), sl7⟩) (c7 : PySem.W.codeIn K cd7 "_law_some" = true) (k7 : PySem.W.keepIn K (.ref f7) = true)
    {f8 : Addr} {od8 an8 : Option Addr} {sl8 : Array (Option Value)} {oc8 kV8 dc8 pm8 cd8 ct8 : Value} (a8 : PySem.W.nsIn K mainGlobals "_law_any_clause" = some (some (.ref f8))) (l8 : K.lookup f8 = some ⟨oc8, od8, .func (PySem.W.fnOf "_law_any_clause" "_law_any_clause" (defArgs (top 39)) (defBody (top 39)) (defScope (top 39)) .none kV8 dc8 pm8 an8 cd8 ct8), sl8⟩) (c8 : PySem.W.codeIn K cd8 "_law_any_clause" = true) (k8 : PySem.W.keepIn K (.ref f8) = true)
    {f9 : Addr} {od9 an9 : Option Addr} {sl9 : Array (Option Value)} {oc9 kV9 dc9 pm9 cd9 ct9 : Value} (a9 : PySem.W.nsIn K mainGlobals "_law_plain_clause" = some (some (.ref f9))) (l9 : K.lookup f9 = some ⟨oc9, od9, .func (PySem.W.fnOf "_law_plain_clause" "_law_plain_clause" (defArgs (top 37)) (defBody (top 37)) (defScope (top 37)) .none kV9 dc9 pm9 an9 cd9 ct9), sl9⟩) (c9 : PySem.W.codeIn K cd9 "_law_plain_clause" = true) (k9 : PySem.W.keepIn K (.ref f9) = true)
    {f10 : Addr} {od10 an10 : Option Addr} {sl10 : Array (Option Value)} {oc10 kV10 dc10 pm10 cd10 ct10 : Value} (a10 : PySem.W.nsIn K mainGlobals "_law_twos_clause" = some (some (.ref f10))) (l10 : K.lookup f10 = some ⟨oc10, od10, .func (PySem.W.fnOf "_law_twos_clause" "_law_twos_clause" (defArgs (top 38)) (defBody (top 38)) (defScope (top 38)) .none kV10 dc10 pm10 an10 cd10 ct10), sl10⟩) (c10 : PySem.W.codeIn K cd10 "_law_twos_clause" = true) (k10 : PySem.W.keepIn K (.ref f10) = true)
    {f11 : Addr} {od11 an11 : Option Addr} {sl11 : Array (Option Value)} {oc11 kV11 dc11 pm11 cd11 ct11 : Value} (a11 : PySem.W.nsIn K mainGlobals "_law_clauses" = some (some (.ref f11))) (l11 : K.lookup f11 = some ⟨oc11, od11, .func (PySem.W.fnOf "_law_clauses" "_law_clauses" (defArgs (top 40)) (defBody (top 40)) (defScope (top 40)) .none kV11 dc11 pm11 an11 cd11 ct11), sl11⟩) (c11 : PySem.W.codeIn K cd11 "_law_clauses" = true) (k11 : PySem.W.keepIn K (.ref f11) = true)
    {f12 : Addr} {od12 an12 : Option Addr} {sl12 : Array (Option Value)} {oc12 kV12 dc12 pm12 cd12 ct12 : Value} (a12 : PySem.W.nsIn K mainGlobals "_law_counted" = some (some (.ref f12))) (l12 : K.lookup f12 = some ⟨oc12, od12, .func (PySem.W.fnOf "_law_counted" "_law_counted" (defArgs (top 41)) (defBody (top 41)) (defScope (top 41)) .none kV12 dc12 pm12 an12 cd12 ct12), sl12⟩) (c12 : PySem.W.codeIn K cd12 "_law_counted" = true) (k12 : PySem.W.keepIn K (.ref f12) = true)
    {f13 : Addr} {od13 an13 : Option Addr} {sl13 : Array (Option Value)} {oc13 kV13 dc13 pm13 cd13 ct13 : Value} (a13 : PySem.W.nsIn K mainGlobals "is_name" = some (some (.ref f13))) (l13 : K.lookup f13 = some ⟨oc13, od13, .func (PySem.W.fnOf "is_name" "is_name" (defArgs (top 13)) (defBody (top 13)) (defScope (top 13)) .none kV13 dc13 pm13 an13 cd13 ct13), sl13⟩) (c13 : PySem.W.codeIn K cd13 "is_name" = true) (k13 : PySem.W.keepIn K (.ref f13) = true)
    {f14 : Addr} {od14 an14 : Option Addr} {sl14 : Array (Option Value)} {oc14 kV14 dc14 pm14 cd14 ct14 : Value} (a14 : PySem.W.nsIn K mainGlobals "are_ascending" = some (some (.ref f14))) (l14 : K.lookup f14 = some ⟨oc14, od14, .func (PySem.W.fnOf "are_ascending" "are_ascending" (defArgs (top 12)) (defBody (top 12)) (defScope (top 12)) .none kV14 dc14 pm14 an14 cd14 ct14), sl14⟩) (c14 : PySem.W.codeIn K cd14 "are_ascending" = true) (k14 : PySem.W.keepIn K (.ref f14) = true)
    {f15 : Addr} {od15 an15 : Option Addr} {sl15 : Array (Option Value)} {oc15 kV15 dc15 pm15 cd15 ct15 : Value} (a15 : PySem.W.nsIn K mainGlobals "are_names" = some (some (.ref f15))) (l15 : K.lookup f15 = some ⟨oc15, od15, .func (PySem.W.fnOf "are_names" "are_names" (defArgs (top 14)) (defBody (top 14)) (defScope (top 14)) .none kV15 dc15 pm15 an15 cd15 ct15), sl15⟩) (c15 : PySem.W.codeIn K cd15 "are_names" = true) (k15 : PySem.W.keepIn K (.ref f15) = true)
    {f16 : Addr} {od16 an16 : Option Addr} {sl16 : Array (Option Value)} {oc16 kV16 dc16 pm16 cd16 ct16 : Value} (a16 : PySem.W.nsIn K mainGlobals "is_own" = some (some (.ref f16))) (l16 : K.lookup f16 = some ⟨oc16, od16, .func (PySem.W.fnOf "is_own" "is_own" (defArgs (top 17)) (defBody (top 17)) (defScope (top 17)) .none kV16 dc16 pm16 an16 cd16 ct16), sl16⟩) (c16 : PySem.W.codeIn K cd16 "is_own" = true) (k16 : PySem.W.keepIn K (.ref f16) = true)
    {f17 : Addr} {od17 an17 : Option Addr} {sl17 : Array (Option Value)} {oc17 kV17 dc17 pm17 cd17 ct17 : Value} (a17 : PySem.W.nsIn K mainGlobals "are_owns" = some (some (.ref f17))) (l17 : K.lookup f17 = some ⟨oc17, od17, .func (PySem.W.fnOf "are_owns" "are_owns" (defArgs (top 18)) (defBody (top 18)) (defScope (top 18)) .none kV17 dc17 pm17 an17 cd17 ct17), sl17⟩) (c17 : PySem.W.codeIn K cd17 "are_owns" = true) (k17 : PySem.W.keepIn K (.ref f17) = true)
    {f18 : Addr} {od18 an18 : Option Addr} {sl18 : Array (Option Value)} {oc18 kV18 dc18 pm18 cd18 ct18 : Value} (a18 : PySem.W.nsIn K mainGlobals "is_truth" = some (some (.ref f18))) (l18 : K.lookup f18 = some ⟨oc18, od18, .func (PySem.W.fnOf "is_truth" "is_truth" (defArgs (top 10)) (defBody (top 10)) (defScope (top 10)) .none kV18 dc18 pm18 an18 cd18 ct18), sl18⟩) (c18 : PySem.W.codeIn K cd18 "is_truth" = true) (k18 : PySem.W.keepIn K (.ref f18) = true)
    {f19 : Addr} {od19 an19 : Option Addr} {sl19 : Array (Option Value)} {oc19 kV19 dc19 pm19 cd19 ct19 : Value} (a19 : PySem.W.nsIn K mainGlobals "is_letter" = some (some (.ref f19))) (l19 : K.lookup f19 = some ⟨oc19, od19, .func (PySem.W.fnOf "is_letter" "is_letter" (defArgs (top 15)) (defBody (top 15)) (defScope (top 15)) .none kV19 dc19 pm19 an19 cd19 ct19), sl19⟩) (c19 : PySem.W.codeIn K cd19 "is_letter" = true) (k19 : PySem.W.keepIn K (.ref f19) = true)
    {f20 : Addr} {od20 an20 : Option Addr} {sl20 : Array (Option Value)} {oc20 kV20 dc20 pm20 cd20 ct20 : Value} (a20 : PySem.W.nsIn K mainGlobals "is_any_clause" = some (some (.ref f20))) (l20 : K.lookup f20 = some ⟨oc20, od20, .func (PySem.W.fnOf "is_any_clause" "is_any_clause" (defArgs (top 16)) (defBody (top 16)) (defScope (top 16)) .none kV20 dc20 pm20 an20 cd20 ct20), sl20⟩) (c20 : PySem.W.codeIn K cd20 "is_any_clause" = true) (k20 : PySem.W.keepIn K (.ref f20) = true)
    {f21 : Addr} {od21 an21 : Option Addr} {sl21 : Array (Option Value)} {oc21 kV21 dc21 pm21 cd21 ct21 : Value} (a21 : PySem.W.nsIn K mainGlobals "names_of" = some (some (.ref f21))) (l21 : K.lookup f21 = some ⟨oc21, od21, .func (PySem.W.fnOf "names_of" "names_of" (defArgs (top 19)) (defBody (top 19)) (defScope (top 19)) .none kV21 dc21 pm21 an21 cd21 ct21), sl21⟩) (c21 : PySem.W.codeIn K cd21 "names_of" = true) (k21 : PySem.W.keepIn K (.ref f21) = true)
    {f22 : Addr} {od22 an22 : Option Addr} {sl22 : Array (Option Value)} {oc22 kV22 dc22 pm22 cd22 ct22 : Value} (a22 : PySem.W.nsIn K mainGlobals "has_names" = some (some (.ref f22))) (l22 : K.lookup f22 = some ⟨oc22, od22, .func (PySem.W.fnOf "has_names" "has_names" (defArgs (top 20)) (defBody (top 20)) (defScope (top 20)) .none kV22 dc22 pm22 an22 cd22 ct22), sl22⟩) (c22 : PySem.W.codeIn K cd22 "has_names" = true) (k22 : PySem.W.keepIn K (.ref f22) = true)
    {f23 : Addr} {od23 an23 : Option Addr} {sl23 : Array (Option Value)} {oc23 kV23 dc23 pm23 cd23 ct23 : Value} (a23 : PySem.W.nsIn K mainGlobals "is_a_saying" = some (some (.ref f23))) (l23 : K.lookup f23 = some ⟨oc23, od23, .func (PySem.W.fnOf "is_a_saying" "is_a_saying" (defArgs (top 21)) (defBody (top 21)) (defScope (top 21)) .none kV23 dc23 pm23 an23 cd23 ct23), sl23⟩) (c23 : PySem.W.codeIn K cd23 "is_a_saying" = true) (k23 : PySem.W.keepIn K (.ref f23) = true)
    {f24 : Addr} {od24 an24 : Option Addr} {sl24 : Array (Option Value)} {oc24 kV24 dc24 pm24 cd24 ct24 : Value} (a24 : PySem.W.nsIn K mainGlobals "need_saying" = some (some (.ref f24))) (l24 : K.lookup f24 = some ⟨oc24, od24, .func (PySem.W.fnOf "need_saying" "need_saying" (defArgs (top 22)) (defBody (top 22)) (defScope (top 22)) .none kV24 dc24 pm24 an24 cd24 ct24), sl24⟩) (c24 : PySem.W.codeIn K cd24 "need_saying" = true) (k24 : PySem.W.keepIn K (.ref f24) = true)
    {f25 : Addr} {od25 an25 : Option Addr} {sl25 : Array (Option Value)} {oc25 kV25 dc25 pm25 cd25 ct25 : Value} (a25 : PySem.W.nsIn K mainGlobals "is_plain_one" = some (some (.ref f25))) (l25 : K.lookup f25 = some ⟨oc25, od25, .func (PySem.W.fnOf "is_plain_one" "is_plain_one" (defArgs (top 24)) (defBody (top 24)) (defScope (top 24)) .none kV25 dc25 pm25 an25 cd25 ct25), sl25⟩) (c25 : PySem.W.codeIn K cd25 "is_plain_one" = true) (k25 : PySem.W.keepIn K (.ref f25) = true)
    {f26 : Addr} {od26 an26 : Option Addr} {sl26 : Array (Option Value)} {oc26 kV26 dc26 pm26 cd26 ct26 : Value} (a26 : PySem.W.nsIn K mainGlobals "is_plain" = some (some (.ref f26))) (l26 : K.lookup f26 = some ⟨oc26, od26, .func (PySem.W.fnOf "is_plain" "is_plain" (defArgs (top 26)) (defBody (top 26)) (defScope (top 26)) .none kV26 dc26 pm26 an26 cd26 ct26), sl26⟩) (c26 : PySem.W.codeIn K cd26 "is_plain" = true) (k26 : PySem.W.keepIn K (.ref f26) = true)
    {f27 : Addr} {od27 an27 : Option Addr} {sl27 : Array (Option Value)} {oc27 kV27 dc27 pm27 cd27 ct27 : Value} (a27 : PySem.W.nsIn K mainGlobals "is_of_twos" = some (some (.ref f27))) (l27 : K.lookup f27 = some ⟨oc27, od27, .func (PySem.W.fnOf "is_of_twos" "is_of_twos" (defArgs (top 25)) (defBody (top 25)) (defScope (top 25)) .none kV27 dc27 pm27 an27 cd27 ct27), sl27⟩) (c27 : PySem.W.codeIn K cd27 "is_of_twos" = true) (k27 : PySem.W.keepIn K (.ref f27) = true)
    {f28 : Addr} {od28 an28 : Option Addr} {sl28 : Array (Option Value)} {oc28 kV28 dc28 pm28 cd28 ct28 : Value} (a28 : PySem.W.nsIn K mainGlobals "is_twos" = some (some (.ref f28))) (l28 : K.lookup f28 = some ⟨oc28, od28, .func (PySem.W.fnOf "is_twos" "is_twos" (defArgs (top 27)) (defBody (top 27)) (defScope (top 27)) .none kV28 dc28 pm28 an28 cd28 ct28), sl28⟩) (c28 : PySem.W.codeIn K cd28 "is_twos" = true) (k28 : PySem.W.keepIn K (.ref f28) = true)
    {f29 : Addr} {od29 an29 : Option Addr} {sl29 : Array (Option Value)} {oc29 kV29 dc29 pm29 cd29 ct29 : Value} (a29 : PySem.W.nsIn K mainGlobals "_law_right" = some (some (.ref f29))) (l29 : K.lookup f29 = some ⟨oc29, od29, .func (PySem.W.fnOf "_law_right" "_law_right" (defArgs (top 42)) (defBody (top 42)) (defScope (top 42)) .none kV29 dc29 pm29 an29 cd29 ct29), sl29⟩) (c29 : PySem.W.codeIn K cd29 "_law_right" = true) (k29 : PySem.W.keepIn K (.ref f29) = true)
    {f30 : Addr} {od30 an30 : Option Addr} {sl30 : Array (Option Value)} {oc30 kV30 dc30 pm30 cd30 ct30 : Value} (a30 : PySem.W.nsIn K mainGlobals "law" = some (some (.ref f30))) (l30 : K.lookup f30 = some ⟨oc30, od30, .func (PySem.W.fnOf "law" "law" (defArgs (top 43)) (defBody (top 43)) (defScope (top 43)) .none kV30 dc30 pm30 an30 cd30 ct30), sl30⟩) (c30 : PySem.W.codeIn K cd30 "law" = true) (k30 : PySem.W.keepIn K (.ref f30) = true)
    (z_abs : PySem.W.nsIn K mainGlobals "abs" = some none) (z_all : PySem.W.nsIn K mainGlobals "all" = some none) (z_bool : PySem.W.nsIn K mainGlobals "bool" = some none) (z_dict : PySem.W.nsIn K mainGlobals "dict" = some none) (z_enumerate : PySem.W.nsIn K mainGlobals "enumerate" = some none) (z_int : PySem.W.nsIn K mainGlobals "int" = some none) (z_isinstance : PySem.W.nsIn K mainGlobals "isinstance" = some none) (z_len : PySem.W.nsIn K mainGlobals "len" = some none) (z_list : PySem.W.nsIn K mainGlobals "list" = some none) (z_max : PySem.W.nsIn K mainGlobals "max" = some none) (z_min : PySem.W.nsIn K mainGlobals "min" = some none) (z_range : PySem.W.nsIn K mainGlobals "range" = some none) (z_repr : PySem.W.nsIn K mainGlobals "repr" = some none) (z_set : PySem.W.nsIn K mainGlobals "set" = some none) (z_sorted : PySem.W.nsIn K mainGlobals "sorted" = some none) (z_str : PySem.W.nsIn K mainGlobals "str" = some none) (z_sum : PySem.W.nsIn K mainGlobals "sum" = some none) (z_tuple : PySem.W.nsIn K mainGlobals "tuple" = some none)
    {t_LETTERS : Tok} (y_LETTERS : PySem.W.nsIn K mainGlobals "LETTERS" = some (some (.str "abcdefghijklmnopqrstuvwxyz" t_LETTERS))) {t_MOST_CLAUSES : Tok} (y_MOST_CLAUSES : PySem.W.nsIn K mainGlobals "MOST_CLAUSES" = some (some (.int 40 t_MOST_CLAUSES))) {t_MOST_COPIES : Tok} (y_MOST_COPIES : PySem.W.nsIn K mainGlobals "MOST_COPIES" = some (some (.int 120 t_MOST_COPIES))) {t_MOST_LETTERS : Tok} (y_MOST_LETTERS : PySem.W.nsIn K mainGlobals "MOST_LETTERS" = some (some (.int 8 t_MOST_LETTERS))) {t_MOST_OWNS : Tok} (y_MOST_OWNS : PySem.W.nsIn K mainGlobals "MOST_OWNS" = some (some (.int 8 t_MOST_OWNS))) {t_MOST_PICKS : Tok} (y_MOST_PICKS : PySem.W.nsIn K mainGlobals "MOST_PICKS" = some (some (.int 6 t_MOST_PICKS))) : ∀ base : Heap, FP P w K mg base 9 "law" ["script"] (top 43) m_law := by
  have T : Txt mg := ⟨PySem.W.mg_none_of X G z_abs, PySem.W.mg_none_of X G z_all, PySem.W.mg_none_of X G z_bool, PySem.W.mg_none_of X G z_dict, PySem.W.mg_none_of X G z_enumerate, PySem.W.mg_none_of X G z_int, PySem.W.mg_none_of X G z_isinstance, PySem.W.mg_none_of X G z_len, PySem.W.mg_none_of X G z_list, PySem.W.mg_none_of X G z_max, PySem.W.mg_none_of X G z_min, PySem.W.mg_none_of X G z_range, PySem.W.mg_none_of X G z_repr, PySem.W.mg_none_of X G z_set, PySem.W.mg_none_of X G z_sorted, PySem.W.mg_none_of X G z_str, PySem.W.mg_none_of X G z_sum, PySem.W.mg_none_of X G z_tuple, ⟨_, PySem.W.mg_of X G y_LETTERS⟩, ⟨_, PySem.W.mg_of X G y_MOST_CLAUSES⟩, ⟨_, PySem.W.mg_of X G y_MOST_COPIES⟩, ⟨_, PySem.W.mg_of X G y_MOST_LETTERS⟩, ⟨_, PySem.W.mg_of X G y_MOST_OWNS⟩, ⟨_, PySem.W.mg_of X G y_MOST_PICKS⟩⟩
  have F0 := fun_mk (st := top 29) l0 c0 k0
  have D0 : ∀ base : Heap, FP P w K mg base 1 "_law_tank" ["script", "k"] (top 29) m__law_tank := fun base => ok__law_tank F0 (PySem.W.mg_of X G a0) (F0.binds fun _ _ _ _ _ _ us hl => match us, hl with | [_, _], _ => rfl) T 
  have F1 := fun_mk (st := top 30) l1 c1 k1
  have D1 : ∀ base : Heap, FP P w K mg base 1 "_law_drop" ["tank", "many"] (top 30) m__law_drop := fun base => ok__law_drop F1 (PySem.W.mg_of X G a1) (F1.binds fun _ _ _ _ _ _ us hl => match us, hl with | [_, _], _ => rfl) T 
  have F2 := fun_mk (st := top 33) l2 c2 k2
  have D2 : ∀ base : Heap, FP P w K mg base 2 "_law_names" ["tank", "many"] (top 33) m__law_names := fun base => ok__law_names F2 (PySem.W.mg_of X G a2) (F2.binds fun _ _ _ _ _ _ us hl => match us, hl with | [_, _], _ => rfl) T (D1 base)
  have F3 := fun_mk (st := top 32) l3 c3 k3
  have D3 : ∀ base : Heap, FP P w K mg base 2 "_law_lot" ["tank", "things"] (top 32) m__law_lot := fun base => ok__law_lot F3 (PySem.W.mg_of X G a3) (F3.binds fun _ _ _ _ _ _ us hl => match us, hl with | [_, _], _ => rfl) T (D1 base)
  have F4 := fun_mk (st := top 34) l4 c4 k4
  have D4 : ∀ base : Heap, FP P w K mg base 3 "_law_frame" ["tank", "most_picks", "most_owns", "most_copies"] (top 34) m__law_frame := fun base => ok__law_frame F4 (PySem.W.mg_of X G a4) (F4.binds fun _ _ _ _ _ _ us hl => match us, hl with | [_, _, _, _], _ => rfl) T (D1 base) (D2 base) (D3 base)
  have F5 := fun_mk (st := top 31) l5 c5 k5
  have D5 : ∀ base : Heap, FP P w K mg base 2 "_law_pick" ["tank", "things"] (top 31) m__law_pick := fun base => ok__law_pick F5 (PySem.W.mg_of X G a5) (F5.binds fun _ _ _ _ _ _ us hl => match us, hl with | [_, _], _ => rfl) T (D1 base)
  have F6 := fun_mk (st := top 35) l6 c6 k6
  have D6 : ∀ base : Heap, FP P w K mg base 2 "_law_letters" ["tank", "names"] (top 35) m__law_letters := fun base => ok__law_letters F6 (PySem.W.mg_of X G a6) (F6.binds fun _ _ _ _ _ _ us hl => match us, hl with | [_, _], _ => rfl) T (D1 base)
  have F7 := fun_mk (st := top 36) l7 c7 k7
  have D7 : ∀ base : Heap, FP P w K mg base 2 "_law_some" ["tank", "names", "most"] (top 36) m__law_some := fun base => ok__law_some F7 (PySem.W.mg_of X G a7) (F7.binds fun _ _ _ _ _ _ us hl => match us, hl with | [_, _, _], _ => rfl) T (D1 base)
  have F8 := fun_mk (st := top 39) l8 c8 k8
  have D8 : ∀ base : Heap, FP P w K mg base 3 "_law_any_clause" ["tank", "picks", "owns"] (top 39) m__law_any_clause := fun base => ok__law_any_clause F8 (PySem.W.mg_of X G a8) (F8.binds fun _ _ _ _ _ _ us hl => match us, hl with | [_, _, _], _ => rfl) T (D6 base) (D7 base)
  have F9 := fun_mk (st := top 37) l9 c9 k9
  have D9 : ∀ base : Heap, FP P w K mg base 3 "_law_plain_clause" ["tank", "picks", "owns"] (top 37) m__law_plain_clause := fun base => ok__law_plain_clause F9 (PySem.W.mg_of X G a9) (F9.binds fun _ _ _ _ _ _ us hl => match us, hl with | [_, _, _], _ => rfl) T (D7 base) (D1 base) (D6 base)
  have F10 := fun_mk (st := top 38) l10 c10 k10
  have D10 : ∀ base : Heap, FP P w K mg base 3 "_law_twos_clause" ["tank", "picks", "owns"] (top 38) m__law_twos_clause := fun base => ok__law_twos_clause F10 (PySem.W.mg_of X G a10) (F10.binds fun _ _ _ _ _ _ us hl => match us, hl with | [_, _, _], _ => rfl) T (D1 base) (D7 base) (D6 base)
  have F11 := fun_mk (st := top 40) l11 c11 k11
  have D11 : ∀ base : Heap, FP P w K mg base 4 "_law_clauses" ["tank", "picks", "owns"] (top 40) m__law_clauses := fun base => ok__law_clauses F11 (PySem.W.mg_of X G a11) (F11.binds fun _ _ _ _ _ _ us hl => match us, hl with | [_, _, _], _ => rfl) T (D1 base) (D5 base) (D8 base) (D9 base) (D10 base)
  have F12 := fun_mk (st := top 41) l12 c12 k12
  have D12 : ∀ base : Heap, FP P w K mg base 1 "_law_counted" ["saying"] (top 41) m__law_counted := fun base => ok__law_counted F12 (PySem.W.mg_of X G a12) (F12.binds fun _ _ _ _ _ _ us hl => match us, hl with | [_], _ => rfl) T 
  have F13 := fun_mk (st := top 13) l13 c13 k13
  have D13 : ∀ base : Heap, FP P w K mg base 1 "is_name" ["value"] (top 13) m_is_name := fun base => ok_is_name F13 (PySem.W.mg_of X G a13) (F13.binds fun _ _ _ _ _ _ us hl => match us, hl with | [_], _ => rfl) T 
  have F14 := fun_mk (st := top 12) l14 c14 k14
  have D14 : ∀ base : Heap, FP P w K mg base 1 "are_ascending" ["values"] (top 12) m_are_ascending := fun base => ok_are_ascending F14 (PySem.W.mg_of X G a14) (F14.binds fun _ _ _ _ _ _ us hl => match us, hl with | [_], _ => rfl) T 
  have F15 := fun_mk (st := top 14) l15 c15 k15
  have D15 : ∀ base : Heap, FP P w K mg base 2 "are_names" ["value"] (top 14) m_are_names := fun base => ok_are_names F15 (PySem.W.mg_of X G a15) (F15.binds fun _ _ _ _ _ _ us hl => match us, hl with | [_], _ => rfl) T (D14 base) (D13 base)
  have F16 := fun_mk (st := top 17) l16 c16 k16
  have D16 : ∀ base : Heap, FP P w K mg base 3 "is_own" ["value", "picks"] (top 17) m_is_own := fun base => ok_is_own F16 (PySem.W.mg_of X G a16) (F16.binds fun _ _ _ _ _ _ us hl => match us, hl with | [_, _], _ => rfl) T (D13 base) (D15 base)
  have F17 := fun_mk (st := top 18) l17 c17 k17
  have D17 : ∀ base : Heap, FP P w K mg base 4 "are_owns" ["value", "picks"] (top 18) m_are_owns := fun base => ok_are_owns F17 (PySem.W.mg_of X G a17) (F17.binds fun _ _ _ _ _ _ us hl => match us, hl with | [_, _], _ => rfl) T (D16 base) (D14 base)
  have F18 := fun_mk (st := top 10) l18 c18 k18
  have D18 : ∀ base : Heap, FP P w K mg base 1 "is_truth" ["value"] (top 10) m_is_truth := fun base => ok_is_truth F18 (PySem.W.mg_of X G a18) (F18.binds fun _ _ _ _ _ _ us hl => match us, hl with | [_], _ => rfl) T 
  have F19 := fun_mk (st := top 15) l19 c19 k19
  have D19 : ∀ base : Heap, FP P w K mg base 2 "is_letter" ["value"] (top 15) m_is_letter := fun base => ok_is_letter F19 (PySem.W.mg_of X G a19) (F19.binds fun _ _ _ _ _ _ us hl => match us, hl with | [_], _ => rfl) T (D18 base) (D13 base)
  have F20 := fun_mk (st := top 16) l20 c20 k20
  have D20 : ∀ base : Heap, FP P w K mg base 3 "is_any_clause" ["value"] (top 16) m_is_any_clause := fun base => ok_is_any_clause F20 (PySem.W.mg_of X G a20) (F20.binds fun _ _ _ _ _ _ us hl => match us, hl with | [_], _ => rfl) T (D19 base) (D14 base)
  have F21 := fun_mk (st := top 19) l21 c21 k21
  have D21 : ∀ base : Heap, FP P w K mg base 1 "names_of" ["picks", "owns"] (top 19) m_names_of := fun base => ok_names_of F21 (PySem.W.mg_of X G a21) (F21.binds fun _ _ _ _ _ _ us hl => match us, hl with | [_, _], _ => rfl) T 
  have F22 := fun_mk (st := top 20) l22 c22 k22
  have D22 : ∀ base : Heap, FP P w K mg base 1 "has_names" ["clause", "names"] (top 20) m_has_names := fun base => ok_has_names F22 (PySem.W.mg_of X G a22) (F22.binds fun _ _ _ _ _ _ us hl => match us, hl with | [_, _], _ => rfl) T 
  have F23 := fun_mk (st := top 21) l23 c23 k23
  have D23 : ∀ base : Heap, FP P w K mg base 5 "is_a_saying" ["value"] (top 21) m_is_a_saying := fun base => ok_is_a_saying F23 (PySem.W.mg_of X G a23) (F23.binds fun _ _ _ _ _ _ us hl => match us, hl with | [_], _ => rfl) T (D17 base) (D15 base) (D14 base) (D20 base) (D21 base) (D22 base)
  have F24 := fun_mk (st := top 22) l24 c24 k24
  have D24 : ∀ base : Heap, FP P w K mg base 6 "need_saying" ["saying"] (top 22) m_need_saying := fun base => ok_need_saying F24 (PySem.W.mg_of X G a24) (F24.binds fun _ _ _ _ _ _ us hl => match us, hl with | [_], _ => rfl) T (D23 base)
  have F25 := fun_mk (st := top 24) l25 c25 k25
  have D25 : ∀ base : Heap, FP P w K mg base 1 "is_plain_one" ["saying"] (top 24) m_is_plain_one := fun base => ok_is_plain_one F25 (PySem.W.mg_of X G a25) (F25.binds fun _ _ _ _ _ _ us hl => match us, hl with | [_], _ => rfl) T 
  have F26 := fun_mk (st := top 26) l26 c26 k26
  have D26 : ∀ base : Heap, FP P w K mg base 7 "is_plain" ["saying"] (top 26) m_is_plain := fun base => ok_is_plain F26 (PySem.W.mg_of X G a26) (F26.binds fun _ _ _ _ _ _ us hl => match us, hl with | [_], _ => rfl) T (D24 base) (D25 base)
  have F27 := fun_mk (st := top 25) l27 c27 k27
  have D27 : ∀ base : Heap, FP P w K mg base 1 "is_of_twos" ["saying"] (top 25) m_is_of_twos := fun base => ok_is_of_twos F27 (PySem.W.mg_of X G a27) (F27.binds fun _ _ _ _ _ _ us hl => match us, hl with | [_], _ => rfl) T 
  have F28 := fun_mk (st := top 27) l28 c28 k28
  have D28 : ∀ base : Heap, FP P w K mg base 7 "is_twos" ["saying"] (top 27) m_is_twos := fun base => ok_is_twos F28 (PySem.W.mg_of X G a28) (F28.binds fun _ _ _ _ _ _ us hl => match us, hl with | [_], _ => rfl) T (D24 base) (D27 base)
  have F29 := fun_mk (st := top 42) l29 c29 k29
  have D29 : ∀ base : Heap, FP P w K mg base 8 "_law_right" ["saying", "named"] (top 42) m__law_right := fun base => ok__law_right F29 (PySem.W.mg_of X G a29) (F29.binds fun _ _ _ _ _ _ us hl => match us, hl with | [_, _], _ => rfl) T (D12 base) (D26 base) (D28 base)
  have F30 := fun_mk (st := top 43) l30 c30 k30
  have D30 : ∀ base : Heap, FP P w K mg base 9 "law" ["script"] (top 43) m_law := fun base => ok_law F30 (PySem.W.mg_of X G a30) (F30.binds fun _ _ _ _ _ _ us hl => match us, hl with | [_], _ => rfl) T (D0 base) (D4 base) (D11 base) (D29 base) (D1 base)
  exact D30
end
end LW

namespace PL
open PySem PySem.Spec PyProof.Rows L2 PySem.W PySem.SeqAt

/-! ### words and rows of words -/
def S (l : List Nat) : D := .str ⟨l.toArray⟩
def NmL (l : List Nat) : Prop := 1 ≤ l.length ∧ l.length ≤ 8 ∧ ∀ c ∈ l, 97 ≤ c ∧ c ≤ 122
def Nm (d : D) : Prop := ∃ l, d = S l ∧ NmL l
theorem S_inj {l m : List Nat} (h : S l = S m) : l = m := by
  unfold S at h
  injection h with h
  injection h with h
  simpa using h
theorem S_add {l m : List Nat} (h : l.length + m.length ≤ 1000) : binD .Add (S l) (S m) = some (.d (S (l ++ m))) := by
  unfold S
  rw [bin_addS _ _ (by show l.toArray.size + m.toArray.size ≤ _; rw [List.size_toArray, List.size_toArray, sizeLine_eq]; omega)]
  show some (R.d (.str ⟨l.toArray ++ m.toArray⟩)) = _
  rw [List.append_toArray]
theorem itD_S (l : List Nat) : itD (S l) = some (l.map fun c => S [c]) := by
  show some (strD ⟨l.toArray⟩) = _
  unfold strD S
  simp
theorem strsD_S : ∀ ls : List (List Nat), strsD (ls.map S) = some (ls.map fun l => ⟨l.toArray⟩)
  | [] => rfl
  | l :: ls => by
    show (strsD (ls.map S)).map _ = _
    rw [strsD_S ls]
    rfl
theorem join_S : ∀ cs : List Nat, Str.join ⟨#[]⟩ (cs.map fun c => (⟨[c].toArray⟩ : Str)) = ⟨cs.toArray⟩
  | [] => rfl
  | [c] => rfl
  | c :: d :: cs => by
    show (⟨[c].toArray⟩ : Str) ++ ⟨#[]⟩ ++ Str.join ⟨#[]⟩ ((d :: cs).map fun c => (⟨[c].toArray⟩ : Str)) = _
    rw [join_S (d :: cs)]
    show (⟨[c].toArray ++ #[] ++ (d :: cs).toArray⟩ : Str) = _
    simp
theorem Nm.ok {d : D} (h : Nm d) : d.canLay0 = true := by
  obtain ⟨l, rfl, h1, h2, h3⟩ := h
  show PyData.strOk ⟨l.toArray⟩ = true
  unfold PyData.strOk
  simp
  intro c hc
  have := h3 c hc
  omega
theorem canLayAll {ds : List D} (h : ∀ d, d ∈ ds → d.canLay0 = true) : PyData.canLayAll0 ds = true := by
  induction ds with
  | nil => rfl
  | cons d ds ih =>
    show (d.canLay0 && PyData.canLayAll0 ds) = true
    rw [h d (List.mem_cons_self ..), ih fun x hx => h x (List.mem_cons_of_mem _ hx)]
    rfl
theorem Nm.depth {d : D} (h : Nm d) : d.depth = 0 := by
  obtain ⟨l, rfl, _⟩ := h
  rfl
theorem Nm.shaped {d : D} (h : Nm d) : SeqAt.shaped d = true := by
  unfold SeqAt.shaped
  rw [h.ok, h.depth]
  rfl
theorem Nm.alike {d e : D} (h : Nm d) (h2 : Nm e) : PySem.W.alike d e = true := by
  obtain ⟨l, rfl, _⟩ := h
  obtain ⟨m, rfl, _⟩ := h2
  rfl
def Asc (ds : List D) : Prop := ds.Pairwise fun a b => dataLt a b = true
theorem asc_sort {ds : List D} (hal : AllAlike ds) (hn : ds.Nodup) : Asc (sortL ds) := by
  have h1 := sortL_pw ds
  have h2 : (sortL ds).Nodup := (sortL_perm ds).nodup_iff.mpr hn
  have hm : ∀ d, d ∈ sortL ds → d ∈ ds := fun d hd => (sortL_perm ds).mem_iff.mp hd
  have h3 : (sortL ds).Pairwise fun a b => dataLt b a = false ∧ a ≠ b := List.pairwise_and_iff.mpr ⟨h1, h2⟩
  refine List.Pairwise.imp_of_mem ?_ h3
  intro a b ha hb ⟨x, y⟩
  cases z : dataLt a b with
  | true => rfl
  | false => exact absurd (dataLt_total (hal a (hm a ha) b (hm b hb)) z x) y
theorem nm_sortable {ds : List D} (h : ∀ d, d ∈ ds → Nm d) (hl : ds.length ≤ 1000) : sortable ds = true := by
  unfold sortable
  simp only [Bool.and_eq_true, List.all_eq_true]
  refine ⟨⟨⟨⟨fun d hd e he => (h d hd).alike (h e he), fun d hd => ?_⟩, fun d hd => ?_⟩, canLayAll fun d hd => (h d hd).ok⟩, lim_ok (by rw [sizeLine_eq]; omega)⟩
  · obtain ⟨l, rfl, _⟩ := h d hd
    rfl
  · rw [(h d hd).depth]
    rfl
theorem nm_all {ds : List D} (h : ∀ d, d ∈ ds → Nm d) : AllAlike ds := fun d hd e he => (h d hd).alike (h e he)
end PL

namespace PL
open PySem PySem.Spec PyProof.Rows L2 PySem.W PySem.SeqAt
section
variable {α β : Type} {f : List D → Env' → Res β} {Q : β → Env' → Prop} {e : Env'}
theorem Yes.seq {ma mb : M Fl} {Q : Fl → Env' → Prop} (P : Env' → Prop) (h : ∀ R : Fl → Env' → Prop, (∀ e, P e → R .nx e) → Yes (ma e) R) (k : ∀ e, P e → Yes (mb e) Q) : Yes (sSeq ma mb e) Q := by
  obtain ⟨fl, e', h1, rfl, h2⟩ := h (fun fl e => fl = .nx ∧ P e) fun e p => ⟨rfl, p⟩
  rw [sSeq_s, h1]
  exact k e' h2
theorem Yes.lcOn {ι : Type} {step : D → M (Option D)} {vs : List Nat} {xs : List ι} {h : ι → D} (h' : ι → D) (hs : ∀ x, x ∈ xs → ∃ e', step (h x) e = .ok (some (h' x)) e' ∧ wipeE e' vs = e) (q : Yes (f (xs.map h') e) Q) : Yes ((inside (PL.lcM step vs (xs.map h) [] e)).bind f) Q := by
  have : ∀ (xs : List ι) (out : List D), (∀ x, x ∈ xs → ∃ e', step (h x) e = .ok (some (h' x)) e' ∧ wipeE e' vs = e) → PL.lcM step vs (xs.map h) out e = .ok (out ++ xs.map h') e := by
    intro xs
    induction xs with
    | nil => intro out _; simp [PL.lcM]
    | cons x xs ih =>
      intro out hs
      obtain ⟨e', h1, h2⟩ := hs x (List.mem_cons_self ..)
      rw [List.map_cons, PL.lcM, h1]
      simp only [bind_ok]
      rw [h2, ih _ fun y hy => hs y (List.mem_cons_of_mem _ hy)]
      simp
  rw [this xs [] hs]
  exact q
end
theorem joinF_S {cs : List Nat} {z : Str} (hz : z = ⟨#[]⟩) (h : cs.length ≤ 1000) : joinF (.str z) [.list (cs.map fun c => S [c])] = some (.d (S cs)) := by
  subst hz
  have h1 := strsD_S (cs.map fun c => [c])
  rw [List.map_map, List.map_map] at h1
  show ((strsD (cs.map fun c => S [c])).bind _) = _
  rw [show (cs.map fun c => S [c]) = cs.map (S ∘ fun c => [c]) from rfl, h1, Option.bind_some]
  have h2 : ∀ cs : List Nat, ((cs.map ((fun l => (⟨l.toArray⟩ : Str)) ∘ fun c => [c])).map (·.length)).sum = cs.length := by
    intro cs
    induction cs with
    | nil => rfl
    | cons c cs ih =>
      rw [List.map_cons, List.map_cons, List.sum_cons, ih]
      show 1 + cs.length = cs.length + 1
      omega
  rw [h2, if_pos (by rw [show (⟨#[]⟩ : Str).length = 0 from rfl]; omega)]
  show some (R.d (.str (Builtin.Str.glued ⟨#[]⟩ (cs.map fun c => (⟨[c].toArray⟩ : Str))))) = _
  rw [PySem.StrLaws.glued_eq_join]
  rw [join_S]
  rfl
theorem atI_k {α : Type} {l : List α} {k : Nat} (h : k < l.length) : atI l (k : Int) = some l[k] := atI_of (List.getElem?_eq_getElem h)
theorem cut_to {α : Type} (xs : List α) (k : Nat) : cutL xs none (some (k : Int)) = xs.take k := by
  unfold cutL
  rw [HT.sIx_none, HT.sIx_nat, List.drop_zero, Nat.sub_zero]
  by_cases h : k ≤ xs.length
  · rw [Nat.min_eq_left h]
  · rw [Nat.min_eq_right (by omega), List.take_of_length_le (Nat.le_refl _), List.take_of_length_le (by omega)]
theorem cut_from {α : Type} (xs : List α) (k : Nat) : cutL xs (some (k : Int)) none = xs.drop k := by
  unfold cutL
  rw [HT.sIx_none, HT.sIx_nat]
  by_cases h : k ≤ xs.length
  · rw [Nat.min_eq_left h, List.take_of_length_le (by rw [List.length_drop]; exact Nat.le_refl _)]
  · rw [Nat.min_eq_right (by omega), List.drop_of_length_le (Nat.le_refl _), List.drop_of_length_le (by omega), List.take_nil]
end PL

namespace PL
open PySem PySem.Spec PyProof.Rows L2 PySem.W PySem.SeqAt

/-! ### calls with data alone -/
def resF : FRes → Env' → Res R
  | .ok r _, e => .ok r.r e
  | .ex c x _, e => .ex c x e
  | .no, _ => .no
@[simp] theorem resF_ok (r : W) (o : List (Option W)) (e : Env') : resF (.ok r o) e = .ok r.r e := rfl
@[simp] theorem resF_ex (c : Str) (x : D) (o : List (Option W)) (e : Env') : resF (.ex c x o) e = .ex c x e := rfl
@[simp] theorem resF_ite {p : Prop} [Decidable p] (a b : FRes) (e : Env') : resF (if p then a else b) e = if p then resF a e else resF b e := by split <;> rfl
theorem setOuts_ds (e : Env') : ∀ (xs : List D) (os : List (Option W)), setOuts e (xs.map R.d) os = e
  | [], os => by simp
  | x :: xs, [] => by rw [List.map_cons, setOuts_d0, setOuts_ds e xs []]
  | x :: xs, o :: os => by rw [List.map_cons, setOuts_d, setOuts_ds e xs os]
theorem ownIx_ds (e : Env') : ∀ xs : List D, ownIx (xs.map R.d) e = []
  | [] => rfl
  | x :: xs => by rw [List.map_cons]; exact ownIx_ds e xs
theorem argWs_ds (e : Env') : ∀ xs : List D, argWs (xs.map R.d) e = some (xs.map W.d)
  | [] => rfl
  | x :: xs => by
    rw [List.map_cons, List.map_cons]
    show (match argW (.d x) e, argWs (xs.map R.d) e with | some w, some ws => some (w :: ws) | _, _ => none) = _
    rw [argWs_ds e xs]
    rfl
theorem callF_ds (f : FM) (xs : List D) (e : Env') : callF f (xs.map R.d) e = resF (f (xs.map W.d)) e := by
  unfold callF
  rw [ownIx_ds, if_pos List.nodup_nil, argWs_ds]
  dsimp only
  cases f (xs.map W.d) with
  | ok r o => simp only [setOuts_ds]; rfl
  | ex c x o => simp only [setOuts_ds]; rfl
  | no => rfl
theorem callF_d0 (f : FM) (e : Env') : callF f [] e = resF (f []) e := callF_ds f [] e
theorem callF_d1 (f : FM) (x : D) (e : Env') : callF f [.d x] e = resF (f [.d x]) e := callF_ds f [x] e
theorem callF_d2 (f : FM) (x y : D) (e : Env') : callF f [.d x, .d y] e = resF (f [.d x, .d y]) e := callF_ds f [x, y] e
theorem callF_d3 (f : FM) (x y z : D) (e : Env') : callF f [.d x, .d y, .d z] e = resF (f [.d x, .d y, .d z]) e := callF_ds f [x, y, z] e
theorem callF_d4 (f : FM) (x y z u : D) (e : Env') : callF f [.d x, .d y, .d z, .d u] e = resF (f [.d x, .d y, .d z, .d u]) e := callF_ds f [x, y, z, u] e
theorem callF_d5 (f : FM) (x y z u v : D) (e : Env') : callF f [.d x, .d y, .d z, .d u, .d v] e = resF (f [.d x, .d y, .d z, .d u, .d v]) e := callF_ds f [x, y, z, u, v] e
/-- what a function of data hands back -/
def Ev (f : FM) (xs : List D) (r : D) : Prop := ∃ o, f (xs.map W.d) = .ok (.d r) o
theorem Ev.call {f : FM} {xs : List D} {r : D} (h : Ev f xs r) (e : Env') : callF f (xs.map R.d) e = .ok (.d r) e := by
  obtain ⟨o, h⟩ := h
  rw [callF_ds, h]
  rfl
theorem Ev.yes {f : FM} {xs : List D} {r : D} (h : FYes f (xs.map W.d) fun w _ => w = .d r) : Ev f xs r := by
  obtain ⟨w, o, h, rfl⟩ := h
  exact ⟨o, h⟩
theorem callF_of {f : FM} {xs : List D} {r : D} (h : FYes f (xs.map W.d) fun w _ => w = .d r) (e : Env') : callF f (xs.map R.d) e = .ok (.d r) e := (Ev.yes h).call e
theorem callF_new {f : FM} {xs : List D} {r : D} (h : FYes f (xs.map W.d) fun w _ => w = .o r) (e : Env') : callF f (xs.map R.d) e = .ok (.new r) e := by
  obtain ⟨w, o, h, rfl⟩ := h
  rw [callF_ds, h]
  rfl

/-! ### comprehensions whose turns leave the names as they are -/
def stepOk (step : D → M (Option D)) (vs : List Nat) (env : Env') (d : D) : Prop := match step d env with
  | .ok _ e' => wipeE e' vs = env
  | _ => False
def stepVal (step : D → M (Option D)) (env : Env') (d : D) : Option D := match step d env with
  | .ok o _ => o
  | _ => none
theorem stepOk_s (step : D → M (Option D)) (vs : List Nat) (env : Env') (d : D) : stepOk step vs env d = match step d env with
  | .ok _ e' => wipeE e' vs = env
  | _ => False := rfl
theorem stepVal_s (step : D → M (Option D)) (env : Env') (d : D) : stepVal step env d = match step d env with
  | .ok o _ => o
  | _ => none := rfl
theorem lcM_pure {step : D → M (Option D)} {vs : List Nat} {env : Env'} {ds out : List D} (h : ∀ d, d ∈ ds → stepOk step vs env d) : lcM step vs ds out env = .ok (out ++ ds.filterMap (stepVal step env)) env := by
  refine lcM_fmap (g := stepVal step env) fun d hd => ?_
  have := h d hd
  unfold stepOk at this
  unfold stepVal
  cases hs : step d env with
  | ok o e' => rw [hs] at this; exact ⟨e', rfl, this⟩
  | ex c x e' => rw [hs] at this; exact this.elim
  | no => rw [hs] at this; exact this.elim
/-- the same, for simp -/
def lcBad (step : D → M (Option D)) (vs : List Nat) (ds out : List D) : M (List D) := lcM step vs ds out
open Classical in
theorem lcP (step : D → M (Option D)) (vs : List Nat) (env : Env') (ds out : List D) : lcM step vs ds out env = if ∀ d, d ∈ ds → stepOk step vs env d then .ok (out ++ ds.filterMap (stepVal step env)) env else lcBad step vs ds out env := by
  split
  · rename_i h; exact lcM_pure h
  · rfl
/-- over data that stand for items -/
theorem lcM_map' {ι : Type} {step : D → M (Option D)} {vs : List Nat} {env : Env'} {xs : List ι} {h : ι → D} (g : ι → Option D) {out : List D} (hs : ∀ x, x ∈ xs → ∃ e', step (h x) env = .ok (g x) e' ∧ wipeE e' vs = env) : lcM step vs (xs.map h) out env = .ok (out ++ xs.filterMap g) env := by
  induction xs generalizing out with
  | nil => simp [lcM]
  | cons x xs ih =>
    obtain ⟨e', h1, h2⟩ := hs x (List.mem_cons_self ..)
    rw [List.map_cons, lcM, h1, bind_ok, h2]
    cases hg : g x with
    | none =>
      show lcM step vs (xs.map h) out env = _
      rw [ih fun y hy => hs y (List.mem_cons_of_mem _ hy), List.filterMap_cons_none hg]
    | some y =>
      show lcM step vs (xs.map h) (out ++ [y]) env = _
      rw [ih fun y hy => hs y (List.mem_cons_of_mem _ hy), List.filterMap_cons_some hg, List.append_assoc]
      rfl
@[simp] theorem fm_some {α β : Type} (f : α → β) (l : List α) : l.filterMap (fun x => some (f x)) = l.map f := by
  induction l with
  | nil => rfl
  | cons x l ih => simp [ih]
theorem fm_if {α β : Type} (p : α → Bool) (f : α → β) (l : List α) : l.filterMap (fun x => if p x = true then some (f x) else none) = (l.filter p).map f := by
  induction l with
  | nil => rfl
  | cons x l ih =>
    by_cases h : p x = true
    · simp [h, ih]
    · simp [h, ih]
theorem fm_ifP {α β : Type} (p : α → Prop) [DecidablePred p] (f : α → β) (l : List α) : l.filterMap (fun x => if p x then some (f x) else none) = (l.filter fun x => decide (p x)).map f := by
  induction l with
  | nil => rfl
  | cons x l ih =>
    by_cases h : p x
    · simp [h, ih]
    · simp [h, ih]
@[simp] theorem bools_map {α : Type} (f : α → Bool) (l : List α) : boolsD (l.map fun x => .bool (f x)) = some (l.map f) := by
  have := boolsD_map (l.map f)
  rw [List.map_map] at this
  exact this
@[simp] theorem ints_map {α : Type} (f : α → Int) (l : List α) : intsD (l.map fun x => .int (f x)) = some (l.map f) := by
  have := intsD_map (l.map f)
  rw [List.map_map] at this
  exact this
@[simp] theorem map_all {α : Type} (f : α → Bool) (l : List α) : (l.map f).all id = l.all f := by
  induction l with
  | nil => rfl
  | cons x l ih => simp [ih]
@[simp] theorem map_any {α : Type} (f : α → Bool) (l : List α) : (l.map f).any id = l.any f := by
  induction l with
  | nil => rfl
  | cons x l ih => simp [ih]

/-! ### dictionaries by distinct keys -/
theorem keyOfD_inj {x y : D} {k : Key} (hx : keyOfD x = some k) (hy : keyOfD y = some k) : x = y := (keyOfD_eq hx).symm.trans (keyOfD_eq hy)
theorem putD_new {kvs : List (D × D)} {k : Key} {y : D} (h : ∀ p, p ∈ kvs → keyOfD p.1 ≠ some k) : putD kvs k y = kvs ++ [(keyD k, y)] := by
  unfold putD
  rw [if_neg]
  intro hh
  obtain ⟨p, hp, he⟩ := List.any_eq_true.mp hh
  exact h p hp (of_decide_eq_true he)
theorem dcM_map' {ι : Type} {step : D → M (Option (D × D))} {vs : List Nat} {env : Env'} {h : ι → D} (k v : ι → D) : ∀ {xs : List ι} {out : List (D × D)}, (∀ x, x ∈ xs → ∃ e', step (h x) env = .ok (some (k x, v x)) e' ∧ wipeE e' vs = env) → (∀ x, x ∈ xs → (keyOfD (k x)).isSome = true) →
    (xs.map k).Nodup → (∀ x, x ∈ xs → ∀ p, p ∈ out → p.1 ≠ k x) → dcM step vs (xs.map h) out env = .ok (out ++ xs.map fun x => (k x, v x)) env := by
  intro xs
  induction xs with
  | nil => intro out _ _ _ _; simp [dcM]
  | cons x xs ih =>
    intro out hs hk hn ho
    obtain ⟨e', h1, h2⟩ := hs x (List.mem_cons_self ..)
    obtain ⟨q, hq⟩ := Option.isSome_iff_exists.mp (hk x (List.mem_cons_self ..))
    rw [List.map_cons, dcM, h1, bind_ok]
    simp only [hq, h2]
    rw [putD_new fun p hp e => ho x (List.mem_cons_self ..) p hp (keyOfD_inj e hq), keyOfD_eq hq]
    rw [List.map_cons, List.nodup_cons] at hn
    rw [ih (fun y hy => hs y (List.mem_cons_of_mem _ hy)) (fun y hy => hk y (List.mem_cons_of_mem _ hy)) hn.2 fun y hy p hp => ?_]
    · simp
    · rcases List.mem_append.mp hp with hp | hp
      · exact ho y (List.mem_cons_of_mem _ hy) p hp
      · simp only [List.mem_singleton] at hp
        subst hp
        intro e
        exact hn.1 (List.mem_map.mpr ⟨y, hy, e.symm⟩)
theorem look_map {ι : Type} (k : ι → Key) (v : ι → D) (xs : List ι) (q : Key) : lookD (xs.map fun x => (keyD (k x), v x)) q = (xs.find? fun x => decide (k x = q)).map v := by
  induction xs with
  | nil => rfl
  | cons x xs ih =>
    unfold lookD at ih ⊢
    rw [List.map_cons, List.find?_cons, List.find?_cons]
    simp only [keyOfD_keyD, Option.some.injEq]
    by_cases h : k x = q
    · simp [h]
    · simp [h]; simpa using ih

/-! ### loops with an end of their own -/
section
variable {β : Type} {Q : β → Env' → Prop} {e : Env'}
/-- how a turn may end -/
def aft (I : Nat → Env' → Prop) (f : Fl → Env' → Res β) (Q : β → Env' → Prop) (k : Nat) : Fl → Env' → Prop
  | .nx, e => I (k + 1) e
  | .ct, e => I (k + 1) e
  | .bk, e => Yes (f .nx e) Q
  | .rt r, e => Yes (f (.rt r) e) Q
theorem Yes.forX {step : D → M Fl} {f : Fl → Env' → Res β} (I : Nat → Env' → Prop) (h0 : I 0 e) : ∀ {ds : List D},
    (∀ k d e (R : Fl → Env' → Prop), ds[k]? = some d → I k e → (∀ fl e', aft I f Q k fl e' → R fl e') → Yes (step d e) R) →
    (∀ e', I ds.length e' → Yes (f .nx e') Q) → Yes ((forM' step ds e).bind f) Q := by
  have main : ∀ (ds : List D) (n : Nat) (e : Env'), I n e → (∀ k d e, ds[k]? = some d → I (n + k) e → Yes (step d e) (aft I f Q (n + k))) → (∀ e', I (n + ds.length) e' → Yes (f .nx e') Q) → Yes ((forM' step ds e).bind f) Q := by
    intro ds
    induction ds with
    | nil => intro n e hi _ q; exact q e hi
    | cons d ds ih =>
      intro n e hi hs q
      obtain ⟨fl, e', h1, h2⟩ := hs 0 d e rfl hi
      have rest : I (n + 1) e' → Yes ((forM' step ds e').bind f) Q := fun hi' => ih (n + 1) e' hi' (fun k d e hd hi => by
        rw [show n + 1 + k = n + (k + 1) by omega] at hi ⊢
        exact hs (k + 1) d e (by simpa using hd) hi) fun e' hi => q e' (by rw [List.length_cons, show n + (ds.length + 1) = n + 1 + ds.length by omega]; exact hi)
      rw [forM', h1, bind_ok]
      cases fl with
      | nx => exact rest h2
      | ct => exact rest h2
      | bk => exact h2
      | rt r => exact h2
  intro ds hs q
  refine main ds 0 e h0 (fun k d e hd hi => ?_) fun e' hi => q e' (by rw [Nat.zero_add] at hi; exact hi)
  rw [Nat.zero_add] at hi ⊢
  exact hs k d e _ hd hi fun _ _ z => z
/-- the same over data that stand for items -/
theorem Yes.forO {ι : Type} {h : ι → D} {step : D → M Fl} {f : Fl → Env' → Res β} {xs : List ι} (I : Nat → Env' → Prop) (h0 : I 0 e)
    (hs : ∀ k (hk : k < xs.length) e (R : Fl → Env' → Prop), I k e → (∀ fl e', aft I f Q k fl e' → R fl e') → Yes (step (h xs[k]) e) R)
    (q : ∀ e', I xs.length e' → Yes (f .nx e') Q) : Yes ((forM' step (xs.map h) e).bind f) Q := by
  refine Yes.forX I h0 (fun k d e R hd hi hR => ?_) fun e' hi => q e' (by rw [List.length_map] at hi; exact hi)
  rw [List.getElem?_map] at hd
  obtain ⟨x, hx, rfl⟩ := Option.map_eq_some_iff.mp hd
  obtain ⟨hk, rfl⟩ := List.getElem?_eq_some_iff.mp hx
  exact hs k hk e R hi hR
/-- while: what falls is a number below the fuel -/
theorem Yes.while {t : M Bool} {body : M Fl} {f : Fl → Env' → Res β} (I : Nat → Env' → Prop) {n : Nat} (hn : n < 1000000000) (h0 : I n e)
    (hs : ∀ k e (R : Bool → Env' → Prop), I k e → (∀ e1, Yes (body e1) (fun fl e' => match fl with
        | .nx => ∃ j, j < k ∧ I j e'
        | .ct => ∃ j, j < k ∧ I j e'
        | .bk => Yes (f .nx e') Q
        | .rt r => Yes (f (.rt r) e') Q) → R true e1) → (∀ e1, Yes (f .nx e1) Q → R false e1) → Yes (t e) R) : Yes ((sWhile t body e).bind f) Q := by
  have main : ∀ (m k : Nat) (e : Env'), k < m → I k e → Yes ((whileM t body m e).bind f) Q := by
    intro m
    induction m with
    | zero => intro k e h _; omega
    | succ m ih =>
      intro k e hk hi
      obtain ⟨c, e1, h1, h2⟩ := hs k e (fun c e1 => match c with
        | true => Yes (body e1) (fun fl e' => match fl with
          | .nx => ∃ j, j < k ∧ I j e'
          | .ct => ∃ j, j < k ∧ I j e'
          | .bk => Yes (f .nx e') Q
          | .rt r => Yes (f (.rt r) e') Q)
        | false => Yes (f .nx e1) Q) hi (fun _ z => z) fun _ z => z
      rw [whileM, h1, bind_ok]
      cases c with
      | false => rw [if_neg Bool.false_ne_true]; exact h2
      | true =>
        rw [if_pos rfl]
        obtain ⟨fl, e', h3, h4⟩ := h2
        rw [h3, bind_ok]
        cases fl with
        | nx => obtain ⟨j, hj, h5⟩ := h4; exact ih j e' (by omega) h5
        | ct => obtain ⟨j, hj, h5⟩ := h4; exact ih j e' (by omega) h5
        | bk => exact h4
        | rt r => exact h4
  exact main fuel n e hn h0
end
/-- the end, as a step of its own -/
theorem Yes.end {α : Type} {r : Res α} {Q : α → Env' → Prop} (h : Yes (r.bind fun a e => .ok a e) Q) : Yes r Q := by
  cases r with
  | ok a e => exact h
  | ex c x e => exact h
  | no => exact h
end PL

namespace PL
open PySem PySem.Spec PyProof.Rows L2 PySem.W PySem.SeqAt
/-! ### of what kind a datum is -/
@[simp] def isB : D → Bool
  | .bool _ => true
  | _ => false
@[simp] def isI : D → Bool
  | .bool _ => true
  | .int _ => true
  | _ => false
@[simp] def isS : D → Bool
  | .str _ => true
  | _ => false
@[simp] def isLs : D → Bool
  | .list _ => true
  | _ => false
@[simp] def isTp : D → Bool
  | .tuple _ => true
  | _ => false
@[simp] def isDc : D → Bool
  | .dict _ => true
  | _ => false
@[simp] theorem kit_bool (x : D) : kitB (tyN x) "bool" = some (isB x) := match x with
  | .none => (by decide +kernel : kitB "NoneType" "bool" = some false)
  | .bool _ => (by decide +kernel : kitB "bool" "bool" = some true)
  | .int _ => (by decide +kernel : kitB "int" "bool" = some false)
  | .str _ => (by decide +kernel : kitB "str" "bool" = some false)
  | .list _ => (by decide +kernel : kitB "list" "bool" = some false)
  | .tuple _ => (by decide +kernel : kitB "tuple" "bool" = some false)
  | .dict _ => (by decide +kernel : kitB "dict" "bool" = some false)
@[simp] theorem kit_int (x : D) : kitB (tyN x) "int" = some (isI x) := match x with
  | .none => (by decide +kernel : kitB "NoneType" "int" = some false)
  | .bool _ => (by decide +kernel : kitB "bool" "int" = some true)
  | .int _ => (by decide +kernel : kitB "int" "int" = some true)
  | .str _ => (by decide +kernel : kitB "str" "int" = some false)
  | .list _ => (by decide +kernel : kitB "list" "int" = some false)
  | .tuple _ => (by decide +kernel : kitB "tuple" "int" = some false)
  | .dict _ => (by decide +kernel : kitB "dict" "int" = some false)
@[simp] theorem kit_str (x : D) : kitB (tyN x) "str" = some (isS x) := match x with
  | .none => (by decide +kernel : kitB "NoneType" "str" = some false)
  | .bool _ => (by decide +kernel : kitB "bool" "str" = some false)
  | .int _ => (by decide +kernel : kitB "int" "str" = some false)
  | .str _ => (by decide +kernel : kitB "str" "str" = some true)
  | .list _ => (by decide +kernel : kitB "list" "str" = some false)
  | .tuple _ => (by decide +kernel : kitB "tuple" "str" = some false)
  | .dict _ => (by decide +kernel : kitB "dict" "str" = some false)
@[simp] theorem kit_list (x : D) : kitB (tyN x) "list" = some (isLs x) := match x with
  | .none => (by decide +kernel : kitB "NoneType" "list" = some false)
  | .bool _ => (by decide +kernel : kitB "bool" "list" = some false)
  | .int _ => (by decide +kernel : kitB "int" "list" = some false)
  | .str _ => (by decide +kernel : kitB "str" "list" = some false)
  | .list _ => (by decide +kernel : kitB "list" "list" = some true)
  | .tuple _ => (by decide +kernel : kitB "tuple" "list" = some false)
  | .dict _ => (by decide +kernel : kitB "dict" "list" = some false)
@[simp] theorem kit_tuple (x : D) : kitB (tyN x) "tuple" = some (isTp x) := match x with
  | .none => (by decide +kernel : kitB "NoneType" "tuple" = some false)
  | .bool _ => (by decide +kernel : kitB "bool" "tuple" = some false)
  | .int _ => (by decide +kernel : kitB "int" "tuple" = some false)
  | .str _ => (by decide +kernel : kitB "str" "tuple" = some false)
  | .list _ => (by decide +kernel : kitB "list" "tuple" = some false)
  | .tuple _ => (by decide +kernel : kitB "tuple" "tuple" = some true)
  | .dict _ => (by decide +kernel : kitB "dict" "tuple" = some false)
@[simp] theorem kit_dict (x : D) : kitB (tyN x) "dict" = some (isDc x) := match x with
  | .none => (by decide +kernel : kitB "NoneType" "dict" = some false)
  | .bool _ => (by decide +kernel : kitB "bool" "dict" = some false)
  | .int _ => (by decide +kernel : kitB "int" "dict" = some false)
  | .str _ => (by decide +kernel : kitB "str" "dict" = some false)
  | .list _ => (by decide +kernel : kitB "list" "dict" = some false)
  | .tuple _ => (by decide +kernel : kitB "tuple" "dict" = some false)
  | .dict _ => (by decide +kernel : kitB "dict" "dict" = some true)
end PL

namespace PL
open PySem PySem.Spec PyProof.Rows L2 PySem.W PySem.SeqAt PySem.PyData

/-! ### forms of data: what can be compared, sorted, put in sets, shown -/
inductive Sch where
  | nn | bb
  | ii (k : Nat)
  | ss (k : Nat)
  | tp (l : List Sch)
  | tm (k : Nat) (s : Sch)
  | ls (k : Nat) (s : Sch)
def chOk (x : Str) : Prop := ∀ c, c ∈ x.cps.toList → c < 1114112
mutual
def Fits : Sch → D → Prop
  | .nn, .none => True
  | .bb, .bool _ => True
  | .ii k, .int j => j.natAbs < 10 ^ k
  | .ss k, .str x => x.length ≤ k ∧ chOk x
  | .tp l, .tuple ds => FitsAll l ds
  | .tm k s, .tuple ds => ds.length ≤ k ∧ ∀ d, d ∈ ds → Fits s d
  | .ls k s, .list ds => ds.length ≤ k ∧ ∀ d, d ∈ ds → Fits s d
  | _, _ => False
def FitsAll : List Sch → List D → Prop
  | [], [] => True
  | s :: l, d :: ds => Fits s d ∧ FitsAll l ds
  | _, _ => False
end
mutual
def Sch.dep : Sch → Nat
  | .tp l => Sch.deps l + 1
  | .tm _ s => s.dep + 1
  | .ls _ s => s.dep + 1
  | _ => 0
def Sch.deps : List Sch → Nat
  | [] => 0
  | s :: l => max s.dep (Sch.deps l)
end
mutual
def Sch.key : Sch → Bool
  | .ls _ _ => false
  | .tp l => Sch.keys l
  | .tm _ s => s.key
  | _ => true
def Sch.keys : List Sch → Bool
  | [] => true
  | s :: l => s.key && Sch.keys l
end
/-! how long a text of it may be -/
mutual
def Sch.big : Sch → Nat
  | .nn => 4
  | .bb => 5
  | .ii k => k + 2
  | .ss k => 10 * k + 2
  | .tp l => Sch.bigs l + 3
  | .tm k s => k * (s.big + 2) + 3
  | .ls k s => k * (s.big + 2) + 3
def Sch.bigs : List Sch → Nat
  | [] => 0
  | s :: l => s.big + 2 + Sch.bigs l
end
mutual
def Sch.ints : Sch → Bool
  | .ii k => decide (k ≤ 500)
  | .tp l => Sch.intss l
  | .tm _ s => s.ints
  | .ls _ s => s.ints
  | _ => true
def Sch.intss : List Sch → Bool
  | [] => true
  | s :: l => s.ints && Sch.intss l
end
theorem canLayAll_of {ds : List D} (h : ∀ d, d ∈ ds → d.canLay0 = true) : PyData.canLayAll0 ds = true := canLayAll h
theorem strOk_of {x : Str} (h : chOk x) : PyData.strOk x = true := by
  unfold PyData.strOk
  rw [← Array.all_toList, List.all_eq_true]
  intro c hc
  exact decide_eq_true (h c hc)
mutual
theorem fits_lay : ∀ (s : Sch) (d : D), Fits s d → d.canLay0 = true
  | .nn, d, h => by cases d <;> simp only [Fits] at h <;> rfl
  | .bb, d, h => by cases d <;> simp only [Fits] at h <;> rfl
  | .ii k, d, h => by cases d <;> simp only [Fits] at h <;> rfl
  | .ss k, d, h => by
    cases d <;> simp only [Fits] at h
    rw [PyData.canLay0]
    exact strOk_of h.2
  | .tp l, d, h => by
    cases d <;> simp only [Fits] at h
    rw [PyData.canLay0]
    exact fits_lays l _ h
  | .tm k s, d, h => by
    cases d <;> simp only [Fits] at h
    rw [PyData.canLay0]
    exact canLayAll fun d hd => fits_lay s d (h.2 d hd)
  | .ls k s, d, h => by
    cases d <;> simp only [Fits] at h
    rw [PyData.canLay0]
    exact canLayAll fun d hd => fits_lay s d (h.2 d hd)
theorem fits_lays : ∀ (l : List Sch) (ds : List D), FitsAll l ds → PyData.canLayAll0 ds = true
  | [], [], _ => by rw [PyData.canLayAll0]
  | s :: l, d :: ds, h => by
    simp only [FitsAll] at h
    rw [PyData.canLayAll0, fits_lay s d h.1, fits_lays l ds h.2]
    rfl
  | [], _ :: _, h => by simp only [FitsAll] at h
  | _ :: _, [], h => by simp only [FitsAll] at h
end
theorem depthAll_le {ds : List D} {n : Nat} (h : ∀ d, d ∈ ds → d.depth ≤ n) : PyData.depthAll ds ≤ n := by
  induction ds with
  | nil => rw [PyData.depthAll]; omega
  | cons d ds ih =>
    rw [PyData.depthAll]
    have := h d (List.mem_cons_self ..)
    have := ih fun x hx => h x (List.mem_cons_of_mem _ hx)
    omega
mutual
theorem fits_dep : ∀ (s : Sch) (d : D), Fits s d → d.depth ≤ s.dep
  | .nn, d, h => by cases d <;> simp only [Fits] at h <;> simp [PyData.depth, Sch.dep]
  | .bb, d, h => by cases d <;> simp only [Fits] at h <;> simp [PyData.depth, Sch.dep]
  | .ii k, d, h => by cases d <;> simp only [Fits] at h <;> simp [PyData.depth, Sch.dep]
  | .ss k, d, h => by cases d <;> simp only [Fits] at h <;> simp [PyData.depth, Sch.dep]
  | .tp l, d, h => by
    cases d <;> simp only [Fits] at h
    rw [PyData.depth, Sch.dep]
    have := fits_deps l _ h
    omega
  | .tm k s, d, h => by
    cases d <;> simp only [Fits] at h
    rw [PyData.depth, Sch.dep]
    have := depthAll_le fun d hd => fits_dep s d (h.2 d hd)
    omega
  | .ls k s, d, h => by
    cases d <;> simp only [Fits] at h
    rw [PyData.depth, Sch.dep]
    have := depthAll_le fun d hd => fits_dep s d (h.2 d hd)
    omega
theorem fits_deps : ∀ (l : List Sch) (ds : List D), FitsAll l ds → PyData.depthAll ds ≤ Sch.deps l
  | [], [], _ => by rw [PyData.depthAll, Sch.deps]; omega
  | s :: l, d :: ds, h => by
    simp only [FitsAll] at h
    rw [PyData.depthAll, Sch.deps]
    have := fits_dep s d h.1
    have := fits_deps l ds h.2
    omega
  | [], _ :: _, h => by simp only [FitsAll] at h
  | _ :: _, [], h => by simp only [FitsAll] at h
end
theorem alikeAll_of {ds es : List D} (h : ∀ d, d ∈ ds → ∀ e, e ∈ es → alike d e = true) : alikeAll ds es = true := by
  induction ds generalizing es with
  | nil => cases es <;> simp [alikeAll]
  | cons d ds ih =>
    cases es with
    | nil => simp [alikeAll]
    | cons e es =>
      rw [alikeAll, h d (List.mem_cons_self ..) e (List.mem_cons_self ..), ih fun x hx y hy => h x (List.mem_cons_of_mem _ hx) y (List.mem_cons_of_mem _ hy)]
      rfl
mutual
theorem fits_alike : ∀ (s : Sch) (d e : D), Fits s d → Fits s e → alike d e = true
  | .nn, d, e, h, g => by cases d <;> simp only [Fits] at h <;> cases e <;> simp only [Fits] at g <;> rfl
  | .bb, d, e, h, g => by cases d <;> simp only [Fits] at h <;> cases e <;> simp only [Fits] at g <;> rfl
  | .ii k, d, e, h, g => by cases d <;> simp only [Fits] at h <;> cases e <;> simp only [Fits] at g <;> rfl
  | .ss k, d, e, h, g => by cases d <;> simp only [Fits] at h <;> cases e <;> simp only [Fits] at g <;> rfl
  | .tp l, d, e, h, g => by
    cases d <;> simp only [Fits] at h
    cases e <;> simp only [Fits] at g
    rw [alike]
    exact fits_alikes l _ _ h g
  | .tm k s, d, e, h, g => by
    cases d <;> simp only [Fits] at h
    cases e <;> simp only [Fits] at g
    rw [alike]
    exact alikeAll_of fun d hd e he => fits_alike s d e (h.2 d hd) (g.2 e he)
  | .ls k s, d, e, h, g => by
    cases d <;> simp only [Fits] at h
    cases e <;> simp only [Fits] at g
    rw [alike]
    exact alikeAll_of fun d hd e he => fits_alike s d e (h.2 d hd) (g.2 e he)
theorem fits_alikes : ∀ (l : List Sch) (ds es : List D), FitsAll l ds → FitsAll l es → alikeAll ds es = true
  | [], [], [], _, _ => by simp [alikeAll]
  | s :: l, d :: ds, e :: es, h, g => by
    simp only [FitsAll] at h g
    rw [alikeAll, fits_alike s d e h.1 g.1, fits_alikes l ds es h.2 g.2]
    rfl
  | [], _ :: _, _, h, _ => by simp only [FitsAll] at h
  | _ :: _, [], _, h, _ => by simp only [FitsAll] at h
  | [], [], _ :: _, _, h => by simp only [FitsAll] at h
  | _ :: _, _ :: _, [], _, h => by simp only [FitsAll] at h
end
theorem kNs_some {ds : List D} (h : ∀ d, d ∈ ds → (kN d).isSome = true) : (kNs ds).isSome = true := by
  induction ds with
  | nil => simp [kNs]
  | cons d ds ih =>
    rw [kNs]
    obtain ⟨k, hk⟩ := Option.isSome_iff_exists.mp (h d (List.mem_cons_self ..))
    obtain ⟨ks, hks⟩ := Option.isSome_iff_exists.mp (ih fun x hx => h x (List.mem_cons_of_mem _ hx))
    rw [hk, hks]
    rfl
mutual
theorem fits_kN : ∀ (s : Sch) (d : D), s.key = true → Fits s d → (kN d).isSome = true
  | .nn, d, _, h => by cases d <;> simp only [Fits] at h <;> simp [kN]
  | .bb, d, _, h => by cases d <;> simp only [Fits] at h <;> simp [kN]
  | .ii k, d, _, h => by cases d <;> simp only [Fits] at h <;> simp [kN]
  | .ss k, d, _, h => by cases d <;> simp only [Fits] at h <;> simp [kN]
  | .tp l, d, q, h => by
    cases d <;> simp only [Fits] at h
    rw [Sch.key] at q
    rw [kN, Option.isSome_map]
    exact fits_kNs l _ q h
  | .tm k s, d, q, h => by
    cases d <;> simp only [Fits] at h
    rw [Sch.key] at q
    rw [kN, Option.isSome_map]
    exact kNs_some fun d hd => fits_kN s d q (h.2 d hd)
  | .ls k s, d, q, h => by rw [Sch.key] at q; exact absurd q Bool.false_ne_true
theorem fits_kNs : ∀ (l : List Sch) (ds : List D), Sch.keys l = true → FitsAll l ds → (kNs ds).isSome = true
  | [], [], _, _ => by simp [kNs]
  | s :: l, d :: ds, q, h => by
    simp only [FitsAll] at h
    rw [Sch.keys, Bool.and_eq_true] at q
    rw [kNs]
    obtain ⟨k, hk⟩ := Option.isSome_iff_exists.mp (fits_kN s d q.1 h.1)
    obtain ⟨ks, hks⟩ := Option.isSome_iff_exists.mp (fits_kNs l ds q.2 h.2)
    rw [hk, hks]
    rfl
  | [], _ :: _, _, h => by simp only [FitsAll] at h
  | _ :: _, [], _, h => by simp only [FitsAll] at h
end
theorem fits_shaped {s : Sch} {d : D} (h : Fits s d) (hs : s.dep ≤ 64) : shaped d = true := by
  unfold shaped
  rw [fits_lay s d h, Bool.true_and]
  exact decide_eq_true (Nat.le_trans (fits_dep s d h) hs)
theorem fits_not {s : Sch} {d : D} (h : Fits s d) (hs : s ≠ .nn) : d ≠ .none := by
  rintro rfl
  cases s <;> first | exact hs rfl | (simp only [Fits] at h)
theorem fits_notNone {s : Sch} {d : D} (h : Fits s d) (hs : s ≠ .nn) : notNone d = true := by
  have := fits_not h hs
  cases d <;> first | rfl | exact absurd rfl this
theorem fits_sortable {s : Sch} {ds : List D} (h : ∀ d, d ∈ ds → Fits s d) (hs : s.dep ≤ 64) (hn : s ≠ .nn) (hl : ds.length ≤ 16777216) : sortable ds = true := by
  unfold sortable
  simp only [Bool.and_eq_true, List.all_eq_true]
  refine ⟨⟨⟨⟨fun d hd e he => fits_alike s d e (h d hd) (h e he), fun d hd => ?_⟩, fun d hd => decide_eq_true (Nat.le_trans (fits_dep s d (h d hd)) hs)⟩, canLayAll fun d hd => fits_lay s d (h d hd)⟩, lim_ok (by rw [sizeLine_eq]; omega)⟩
  have := fits_not (h d hd) hn
  cases d <;> first | rfl | exact absurd rfl this
theorem fits_settable {s : Sch} {ds : List D} (h : ∀ d, d ∈ ds → Fits s d) (hs : s.dep ≤ 8) (hk : s.key = true) (ht : (∃ l, s = .tp l) ∨ ∃ k t, s = .tm k t) (hl : ds.length < 64) : settable ds = true := by
  unfold settable
  have hn : s ≠ .nn := by rcases ht with ⟨l, rfl⟩ | ⟨k, t, rfl⟩ <;> (intro e; cases e)
  rw [fits_sortable h (by omega) hn (by omega), decide_eq_true hl, Bool.true_and, Bool.and_true, List.all_eq_true]
  intro d hd
  have hd' := h d hd
  have key := fits_kN s d hk hd'
  have dep := Nat.le_trans (fits_dep s d hd') hs
  rcases ht with ⟨l, rfl⟩ | ⟨k, t, rfl⟩
  · cases d <;> simp only [Fits] at hd'
    show ((kN _).isSome && decide _) = true
    rw [key, decide_eq_true dep]
    rfl
  · cases d <;> simp only [Fits] at hd'
    show ((kN _).isSome && decide _) = true
    rw [key, decide_eq_true dep]
    rfl
theorem fits_all {s : Sch} {ds : List D} (h : ∀ d, d ∈ ds → Fits s d) : AllAlike ds := fun d hd e he => fits_alike s d e (h d hd) (h e he)
theorem fits_key {s : Sch} {d : D} (h : Fits s d) (hs : s.dep ≤ 8) (hk : s.key = true) (ht : (∃ l, s = .tp l) ∨ ∃ k t, s = .tm k t) : setKey d = true := by
  have := fits_settable (s := s) (ds := [d]) (fun e he => by rw [List.mem_singleton] at he; rw [he]; exact h) hs hk ht (by simp)
  unfold settable at this
  simp only [Bool.and_eq_true, List.all_eq_true] at this
  exact this.1.2 d (by simp)

/-! shown -/
theorem showableAll_of {ds : List D} (h : ∀ d, d ∈ ds → d.showable = true) : PyData.showableAll ds = true := by
  induction ds with
  | nil => rw [PyData.showableAll]
  | cons d ds ih => rw [PyData.showableAll, h d (List.mem_cons_self ..), ih fun x hx => h x (List.mem_cons_of_mem _ hx)]; rfl
theorem ten_500 : (10 : Nat) ^ 500 < 2 ^ 1920 := by decide +kernel
theorem log_lt {j k : Nat} (h : j < 10 ^ k) (hk : k ≤ 500) : j.log2 < 1920 := by
  by_cases h0 : j = 0
  · subst h0; decide
  · rw [Nat.log2_lt h0]
    exact Nat.lt_trans (Nat.lt_of_lt_of_le h (Nat.pow_le_pow_right (by decide) hk)) ten_500
mutual
theorem fits_showable : ∀ (s : Sch) (d : D), s.ints = true → Fits s d → d.showable = true
  | .nn, d, _, h => by cases d <;> simp only [Fits] at h <;> simp [PyData.showable]
  | .bb, d, _, h => by cases d <;> simp only [Fits] at h <;> simp [PyData.showable]
  | .ii k, d, q, h => by
    cases d <;> simp only [Fits] at h
    rw [Sch.ints] at q
    rw [PyData.showable]
    exact decide_eq_true (log_lt h (of_decide_eq_true q))
  | .ss k, d, _, h => by cases d <;> simp only [Fits] at h <;> simp [PyData.showable]
  | .tp l, d, q, h => by
    cases d <;> simp only [Fits] at h
    rw [Sch.ints] at q
    rw [PyData.showable]
    exact fits_showables l _ q h
  | .tm k s, d, q, h => by
    cases d <;> simp only [Fits] at h
    rw [Sch.ints] at q
    rw [PyData.showable]
    exact showableAll_of fun d hd => fits_showable s d q (h.2 d hd)
  | .ls k s, d, q, h => by
    cases d <;> simp only [Fits] at h
    rw [Sch.ints] at q
    rw [PyData.showable]
    exact showableAll_of fun d hd => fits_showable s d q (h.2 d hd)
theorem fits_showables : ∀ (l : List Sch) (ds : List D), Sch.intss l = true → FitsAll l ds → PyData.showableAll ds = true
  | [], [], _, _ => by rw [PyData.showableAll]
  | s :: l, d :: ds, q, h => by
    simp only [FitsAll] at h
    rw [Sch.intss, Bool.and_eq_true] at q
    rw [PyData.showableAll, fits_showable s d q.1 h.1, fits_showables l ds q.2 h.2]
    rfl
  | [], _ :: _, _, h => by simp only [FitsAll] at h
  | _ :: _, [], _, h => by simp only [FitsAll] at h
end
theorem len_app (x y : Str) : (x ++ y).length = x.length + y.length := PySem.strLen_append x y
theorem ofString_len (x : String) : (Str.ofString x).length = x.length := by
  rw [Str.ofString_eq_toList]
  show (List.toArray _).size = _
  rw [List.size_toArray, List.length_map, String.length_toList]
theorem int_len {j : Int} {k : Nat} (h : j.natAbs < 10 ^ k) : (Str.ofString (toString j)).length ≤ k + 2 := by
  have h1 : j.natAbs < 10 ^ (k + 1) := Nat.lt_of_lt_of_le h (Nat.pow_le_pow_right (by decide) (by omega))
  by_cases h0 : 0 ≤ j
  · refine Nat.le_trans (toString_length_le h0 (k := k + 1) (by omega) ?_) (by omega)
    have : ((10 ^ (k + 1) : Nat) : Int) = 10 ^ (k + 1) := by rw [Int.natCast_pow]; rfl
    omega
  · cases j with
    | ofNat n => exact absurd (Int.natCast_nonneg n) h0
    | negSucc n =>
      rw [ofString_len]
      show ("-" ++ toString (n + 1)).length ≤ _
      rw [String.length_append]
      have e : ("-" : String).length = 1 := by decide
      have := toString_length_le (v := ((n + 1 : Nat) : Int)) (by omega) (k := k + 1) (by omega) (by
        have : ((10 ^ (k + 1) : Nat) : Int) = 10 ^ (k + 1) := by rw [Int.natCast_pow]; rfl
        have h2 : n + 1 < 10 ^ (k + 1) := h1
        omega)
      rw [ofString_len] at this
      have h3 : (toString ((n + 1 : Nat) : Int)).length = (toString (n + 1)).length := rfl
      omega
theorem piled_le {ts : List Str} {k n : Nat} (hl : ts.length ≤ k) (h : ∀ t, t ∈ ts → t.length ≤ n) : piled ts ≤ k * (n + 2) := by
  induction ts generalizing k with
  | nil => rw [piled_nil]; omega
  | cons t ts ih =>
    rw [piled_cons]
    cases k with
    | zero => simp at hl
    | succ k =>
      have := ih (k := k) (by simpa using hl) fun u hu => h u (List.mem_cons_of_mem _ hu)
      have := h t (List.mem_cons_self ..)
      rw [Nat.succ_mul]
      omega
theorem tupleText_le (ts : List Str) : (tupleText ts).length ≤ piled ts + 3 := by
  unfold tupleText
  rw [strLen_append, strLen_append]
  have e1 : (("(" : String) : Str).length = 1 := by decide
  have e2 : ((if ts.length == 1 then ",)" else ")" : String) : Str).length ≤ 2 := by split <;> decide
  cases ts with
  | nil =>
    have : (Str.join ", " []).length = 0 := rfl
    omega
  | cons t ts =>
    have := join_length_add (t :: ts) (by simp)
    omega
theorem listText_le (ts : List Str) : (listText ts).length ≤ piled ts + 3 := by
  cases ts with
  | nil => decide
  | cons t r =>
    have h := textFrom_length_pos r 1 (("[" : Str) ++ (if (0 : Nat) > 0 then ", " else "" : String) ++ t) (Nat.succ_pos 0)
    have e : ((("[" : Str) ++ (if (0 : Nat) > 0 then ", " else "" : String) ++ t)).length = 1 + t.length := by
      rw [strLen_append, strLen_append]; rfl
    have hX : (listText (t :: r)).length = (textFrom 0 "[" (t :: r)).length + 1 := by
      show (textFrom 0 "[" (t :: r) ++ "]").length = _
      rw [strLen_append]; rfl
    have hY : (textFrom 0 "[" (t :: r)).length = (textFrom 1 (("[" : Str) ++ (if (0 : Nat) > 0 then ", " else "" : String) ++ t) r).length := rfl
    rw [hX, hY, h, e, piled_cons]; omega
theorem shownAll_map : ∀ ds : List D, PyData.shownAll ds = ds.map PyData.shown
  | [] => by rw [PyData.shownAll]; rfl
  | d :: ds => by rw [PyData.shownAll, shownAll_map ds]; rfl
mutual
theorem fits_big : ∀ (s : Sch) (d : D), Fits s d → d.shown.length ≤ s.big
  | .nn, d, h => by cases d <;> simp only [Fits] at h <;> (simp only [PyData.shown, Sch.big]; decide)
  | .bb, d, h => by cases d <;> simp only [Fits] at h <;> (rename_i b; cases b <;> (simp only [PyData.shown, Sch.big]; decide))
  | .ii k, d, h => by
    cases d <;> simp only [Fits] at h
    simp only [PyData.shown, Sch.big]
    exact int_len h
  | .ss k, d, h => by
    cases d <;> simp only [Fits] at h
    simp only [PyData.shown, Sch.big]
    have := PySem.StrLaws.reprText_len _ fun c hc => Nat.lt_trans (h.2 c hc) (by decide)
    omega
  | .tp l, d, h => by
    cases d <;> simp only [Fits] at h
    simp only [PyData.shown, Sch.big]
    have := tupleText_le (PyData.shownAll ‹_›)
    have := fits_bigs l _ h
    omega
  | .tm k s, d, h => by
    cases d <;> simp only [Fits] at h
    simp only [PyData.shown, Sch.big]
    rename_i ds
    have h1 := tupleText_le (PyData.shownAll ds)
    have h2 : piled (PyData.shownAll ds) ≤ k * (s.big + 2) := piled_le (by rw [shownAll_map, List.length_map]; exact h.1) fun t ht => by
      rw [shownAll_map] at ht
      obtain ⟨d, hd, rfl⟩ := List.mem_map.mp ht
      exact fits_big s d (h.2 d hd)
    omega
  | .ls k s, d, h => by
    cases d <;> simp only [Fits] at h
    simp only [PyData.shown, Sch.big]
    rename_i ds
    have h1 := listText_le (PyData.shownAll ds)
    have h2 : piled (PyData.shownAll ds) ≤ k * (s.big + 2) := piled_le (by rw [shownAll_map, List.length_map]; exact h.1) fun t ht => by
      rw [shownAll_map] at ht
      obtain ⟨d, hd, rfl⟩ := List.mem_map.mp ht
      exact fits_big s d (h.2 d hd)
    omega
theorem fits_bigs : ∀ (l : List Sch) (ds : List D), FitsAll l ds → piled (PyData.shownAll ds) ≤ Sch.bigs l
  | [], [], _ => by rw [PyData.shownAll, piled_nil]; omega
  | s :: l, d :: ds, h => by
    simp only [FitsAll] at h
    rw [PyData.shownAll, piled_cons, Sch.bigs]
    have := fits_big s d h.1
    have := fits_bigs l ds h.2
    omega
  | [], _ :: _, h => by simp only [FitsAll] at h
  | _ :: _, [], h => by simp only [FitsAll] at h
end
theorem fits_show {s : Sch} {d : D} (h : Fits s d) (hs : s.dep ≤ 64) (hi : s.ints = true) (hb : s.big ≤ 16777216) : showOk d = true := by
  unfold showOk
  have hl := fits_lay s d h
  rw [hl, decide_eq_true (Nat.le_trans (fits_dep s d h) hs), hasDict_of_canLay d hl, fits_showable s d hi h, lim_ok (by rw [sizeLine_eq]; exact Nat.le_trans (fits_big s d h) hb)]
  rfl
end PL

namespace PL
open PySem PySem.Spec PyProof.Rows L2 PySem.W PySem.SeqAt PySem.PyData

/-! ### the signs of what is shown -/
theorem char_lt (c : Char) : c.toNat < 1114112 := by
  have := c.valid
  show c.val.toNat < _
  unfold UInt32.isValidChar Nat.isValidChar at this
  omega
theorem ch_of (x : String) : chOk (Str.ofString x) := by
  intro c hc
  rw [Str.ofString_eq_toList] at hc
  simp only [List.mem_map] at hc
  obtain ⟨d, _, rfl⟩ := hc
  exact char_lt d
theorem ch_app {x y : Str} (h : chOk x) (g : chOk y) : chOk (x ++ y) := by
  intro c hc
  have hc' : c ∈ (x.cps ++ y.cps).toList := hc
  rw [Array.toList_append, List.mem_append] at hc'
  exact hc'.elim (h c) (g c)
theorem ch_join {sep : Str} (hs : chOk sep) : ∀ {ts : List Str}, (∀ t, t ∈ ts → chOk t) → chOk (Str.join sep ts)
  | [], _ => fun c hc => by cases hc
  | [x], h => h x (List.mem_singleton.mpr rfl)
  | x :: y :: r, h => ch_app (ch_app (h x (List.mem_cons_self ..)) hs) (ch_join hs fun t ht => h t (List.mem_cons_of_mem _ ht))
theorem ch_reprChar {q c : Nat} (hc : c < 1114112) : ∀ d, d ∈ Builtin.Str.reprChar q c → d < 1114112 := by
  intro d hd
  unfold Builtin.Str.reprChar at hd
  have hx : ∀ w : Nat, d ∈ List.replicate (w - ((Nat.toDigits 16 c).map Char.toNat).length) 48 ++ (Nat.toDigits 16 c).map Char.toNat → d < 1114112 := fun w h => by
    rcases List.mem_append.mp h with h | h
    · rw [List.eq_of_mem_replicate h]; decide
    · obtain ⟨z, _, rfl⟩ := List.mem_map.mp h
      exact char_lt z
  dsimp only at hd
  split at hd
  · simp at hd; omega
  split at hd
  · simp at hd; omega
  split at hd
  · simp at hd; omega
  split at hd
  · simp at hd; omega
  split at hd
  · simp at hd; omega
  split at hd
  · rcases List.mem_append.mp hd with h | h
    · simp at h; omega
    · exact hx 2 h
  split at hd
  · rcases List.mem_append.mp hd with h | h
    · simp at h; omega
    · exact hx 4 h
  · rcases List.mem_append.mp hd with h | h
    · simp at h; omega
    · exact hx 8 h
theorem ch_fold {q : Nat} : ∀ (l : List Nat) (acc : Array Nat), (∀ c, c ∈ l → c < 1114112) → (∀ c, c ∈ acc.toList → c < 1114112) → ∀ c, c ∈ (l.foldl (fun out c => out ++ (Builtin.Str.reprChar q c).toArray) acc).toList → c < 1114112
  | [], _, _, h => h
  | x :: l, acc, hl, ha => ch_fold l _ (fun c hc => hl c (List.mem_cons_of_mem _ hc)) fun c hc => by
    rw [Array.toList_append, List.mem_append] at hc
    rcases hc with h | h
    · exact ha c h
    · exact ch_reprChar (hl x (List.mem_cons_self ..)) c h
theorem ch_repr {x : Str} (h : chOk x) : chOk (reprText x) := by
  intro c hc
  unfold reprText at hc
  have hq : reprQuote x < 1114112 := by unfold reprQuote; split <;> decide
  simp only [Array.toList_push, List.mem_append, List.mem_singleton] at hc
  rcases hc with hc | rfl
  · rw [← Array.foldl_toList] at hc
    exact ch_fold _ _ h (fun c hc => by simp at hc; omega) c hc
  · exact hq
theorem ch_tuple {ts : List Str} (h : ∀ t, t ∈ ts → chOk t) : chOk (tupleText ts) := by
  unfold tupleText
  exact ch_app (ch_app (ch_of _) (ch_join (ch_of _) h)) (ch_of _)
theorem ch_textFrom : ∀ (ts : List Str) (k : Nat) (acc : Str), chOk acc → (∀ t, t ∈ ts → chOk t) → chOk (textFrom k acc ts)
  | [], _, _, h, _ => h
  | t :: ts, k, acc, h, g => ch_textFrom ts (k + 1) _ (ch_app (ch_app h (ch_of _)) (g t (List.mem_cons_self ..))) fun u hu => g u (List.mem_cons_of_mem _ hu)
theorem ch_list {ts : List Str} (h : ∀ t, t ∈ ts → chOk t) : chOk (listText ts) := ch_app (ch_textFrom ts 0 _ (ch_of _) h) (ch_of _)
theorem ch_all {ds : List D} (h : ∀ d, d ∈ ds → chOk d.shown) : ∀ t, t ∈ PyData.shownAll ds → chOk t := fun t ht => by
  rw [shownAll_map] at ht
  obtain ⟨d, hd, rfl⟩ := List.mem_map.mp ht
  exact h d hd
mutual
theorem fits_ch : ∀ (s : Sch) (d : D), Fits s d → chOk d.shown
  | .nn, d, h => by cases d <;> simp only [Fits] at h <;> (rw [PyData.shown]; exact ch_of _)
  | .bb, d, h => by cases d <;> simp only [Fits] at h <;> (rw [PyData.shown]; split <;> exact ch_of _)
  | .ii k, d, h => by cases d <;> simp only [Fits] at h <;> (rw [PyData.shown]; exact ch_of _)
  | .ss k, d, h => by
    cases d <;> simp only [Fits] at h
    rw [PyData.shown]; exact ch_repr h.2
  | .tp l, d, h => by
    cases d <;> simp only [Fits] at h
    rw [PyData.shown]; exact ch_tuple (ch_all (fits_chs l _ h))
  | .tm k s, d, h => by
    cases d <;> simp only [Fits] at h
    rw [PyData.shown]; exact ch_tuple (ch_all fun d hd => fits_ch s d (h.2 d hd))
  | .ls k s, d, h => by
    cases d <;> simp only [Fits] at h
    rw [PyData.shown]; exact ch_list (ch_all fun d hd => fits_ch s d (h.2 d hd))
theorem fits_chs : ∀ (l : List Sch) (ds : List D), FitsAll l ds → ∀ d, d ∈ ds → chOk d.shown
  | [], [], _ => fun d hd => by cases hd
  | s :: l, d :: ds, h => by
    simp only [FitsAll] at h
    intro e he
    rcases List.mem_cons.mp he with rfl | he
    · exact fits_ch s _ h.1
    · exact fits_chs l ds h.2 e he
  | [], _ :: _, h => by simp only [FitsAll] at h
  | _ :: _, [], h => by simp only [FitsAll] at h
end
/-! what is shown, and its text compared with itself -/
def shT (d : D) : Str := d.shown
theorem repr_e {s : Sch} {d : D} (h : Fits s d) (hs : s.dep ≤ 64) (hi : s.ints = true) (hb : s.big ≤ 16777216) (ht : isTp d = true ∨ isLs d = true) : reprD [d] = some (.d (.str (shT d))) := by
  have := fits_show h hs hi hb
  cases d <;> simp at ht
  · unfold reprD; dsimp only; rw [this, if_pos rfl]; rfl
  · unfold reprD; dsimp only; rw [this, if_pos rfl]; rfl
theorem shaped_any (x : Str) (h : chOk x) : shaped (.str x) = true := by
  unfold shaped
  rw [PyData.canLay0, strOk_of h]
  simp [PyData.depth]
theorem eqv_same (x : Str) : PyData.eqv (.str x) (.str x) = true := by
  rw [PyData.eqv]
  exact beq_self_eq_true x
theorem ne_same {s : Sch} {d : D} (h : Fits s d) : cmpR .NotEq (.str (shT d)) (.str (shT d)) = some (.d (.bool false)) := by
  have := shaped_any _ (fits_ch s d h)
  rw [shT, cmp_neE _ _ this this, eqv_same]
  rfl
theorem eq_same {s : Sch} {d : D} (h : Fits s d) : cmpR .Eq (.str (shT d)) (.str (shT d)) = some (.d (.bool true)) := by
  have := shaped_any _ (fits_ch s d h)
  rw [shT, cmp_eqE _ _ this this, eqv_same]
end PL

namespace LW
open PySem PySem.Spec PyProof.Rows L2 PL
theorem mul_wide {i j : Int} (h1 : i.natAbs < 2 ^ 200) (h2 : j.natAbs < 2 ^ 200) : mulOk i j = true := by
  unfold mulOk
  have h3 : (2 : Nat) ^ 200 < 2 ^ 500000 := Nat.pow_lt_pow_right (by decide) (by decide)
  rw [decide_eq_true (p := i.natAbs < 2 ^ 500000 ∧ j.natAbs < 2 ^ 500000) ⟨Nat.lt_trans h1 h3, Nat.lt_trans h2 h3⟩, Bool.or_true]
theorem fmod_bd (a : Int) {n : Int} (h : 0 < n) : 0 ≤ a.fmod n ∧ a.fmod n < n := by
  rw [Int.fmod_eq_emod_of_nonneg a (by omega)]
  exact ⟨Int.emod_nonneg _ (by omega), Int.emod_lt_of_pos _ h⟩
/-- a tank: what is left of a great number, a seed, how often it was asked -/
def Tk (N : Nat) (t : D) : Prop := ∃ a b c : Int, t = .list [.int a, .int b, .int c] ∧ 0 ≤ a ∧ b.natAbs < 10 ^ 31 ∧ 0 ≤ c ∧ c ≤ N
theorem Tk.mono {N M : Nat} {t : D} (h : Tk N t) (hm : N ≤ M) : Tk M t := by
  obtain ⟨a, b, c, h1, h2, h3, h4, h5⟩ := h
  exact ⟨a, b, c, h1, h2, h3, h4, by omega⟩
set_option maxHeartbeats 4000000 in
theorem drop_sp {N : Nat} {t : D} {n : Int} {Q : W → List (Option W) → Prop} (ht : Tk N t) (hN : N < 1000000) (hn : 0 < n) (h2 : n < 100000)
    (q : ∀ (k : Nat) (t' : D) (o : Option W), (k : Int) < n → Tk (N + 1) t' → Q (.d (.int k)) [some (.o t'), o]) : FYes m__law_drop [.o t, .d (.int n)] Q := by
  have n0 : n ≠ 0 := by omega
  have nb : n.natAbs < 1073741824 := by omega
  have nat : ∀ x : Int, 0 ≤ x → ((x.toNat : Nat) : Int) = x := fun x h => by omega
  obtain ⟨a, b, c, rfl, ha, hb, hc, hcN⟩ := ht
  by_cases h : 0 < a
  · have bd := fmod_bd a hn
    have := fun t' o => q (a.fmod n).toNat t' o
    rw [nat _ bd.1] at this
    unfold m__law_drop
    apply FYes.fnM
    simp [h, n0, nb, stAt, stD, ixN]
    refine this _ _ bd.2 ⟨a.fdiv n, b, c, rfl, ?_, hb, hc, by omega⟩
    rw [Int.fdiv_eq_ediv_of_nonneg _ (by omega)]
    exact Int.ediv_nonneg ha (by omega)
  · generalize hd : c + 1 = d
    have hd1 : 0 ≤ d ∧ d ≤ 1000000 := by omega
    have hdd : (40503 * d * d).natAbs ≤ 40503000000000000 := by
      rw [Int.natAbs_mul, Int.natAbs_mul]
      have : d.natAbs ≤ 1000000 := by omega
      have h3 := Nat.mul_le_mul (Nat.mul_le_mul (Nat.le_refl 40503) this) this
      simpa using h3
    have m1 : mulOk 2654435761 d = true := mul_wide (by omega) (by omega)
    have m2 : mulOk 40503 d = true := mul_wide (by omega) (by omega)
    have m3 : mulOk (40503 * d) d = true := mul_wide (by omega) (by omega)
    have m4 : mulOk (b + 2654435761 * d) (b + 40503 * d * d + 11) = true := mul_wide (by omega) (by omega)
    obtain ⟨x, hx⟩ : ∃ x, ((b + 2654435761 * d) * (b + 40503 * d * d + 11)).fmod 1000000000000000000000000000000061 = x := ⟨_, rfl⟩
    have bx := fmod_bd ((b + 2654435761 * d) * (b + 40503 * d * d + 11)) (n := 1000000000000000000000000000000061) (by decide)
    rw [hx] at bx
    have m5 : mulOk x x = true := mul_wide (by omega) (by omega)
    have m6 : mulOk 97 x = true := mul_wide (by omega) (by omega)
    have bd := fmod_bd (((x * x + 97 * x).fmod 100000000000000000000000000000049).fdiv 7919) hn
    have := fun t' o => q ((((x * x + 97 * x).fmod 100000000000000000000000000000049).fdiv 7919).fmod n).toNat t' o
    rw [nat _ bd.1] at this
    unfold m__law_drop
    apply FYes.fnM
    simp [h, stAt, stD, ixN, hd, m1, m2, m3, m4, bin_pow, hx]
    simp [n0, nb, m5, m6, bin_pow]
    exact this _ _ bd.2 ⟨a, b, d, rfl, ha, hb, by omega, by omega⟩
theorem rng_get {n k : Nat} {d : D} (h : (rngD 0 n)[k]? = some d) : d = .int k ∧ k < n := by
  rw [rngD_get] at h
  split at h
  · cases h; exact ⟨by simp, by assumption⟩
  · cases h
theorem lenS {n : Nat} (h : n ≤ 1000) : n ≤ sizeLine := by rw [sizeLine_eq]; omega
/-- a part of the things that is drawn -/
theorem lot_sp {N : Nat} {t : D} {ds : List D} {Q : W → List (Option W) → Prop} (ht : Tk N t) (hN : N < 900000) (hl : ds.length ≤ 100)
    (q : ∀ (es : List D) (t' : D) (o : Option W), es.Sublist ds → Tk (N + 101) t' → Q (.o (.list es)) [some (.o t'), o]) : FYes m__law_lot [.o t, .d (.list ds)] Q := by
  unfold m__law_lot
  apply FYes.fnM
  simp
  refine Yes.call (by rfl) (by rfl) (drop_sp ht (by omega) (by decide) (by decide) fun k t1 o hk ht1 => ?_)
  simp
  by_cases h : (k : Int) < 2
  · by_cases h0 : k = 0
    · simp [h, h0]
      exact q _ _ _ (List.Sublist.refl _) (ht1.mono (by omega))
    · simp [h, h0]
      exact q _ _ _ (List.nil_sublist _) (ht1.mono (by omega))
  · simp [h, lim_ok (lenS (n := ds.length) (by omega))]
    refine Yes.lcM (fun j out e => ∃ t', e = [some ⟨1, .o t'⟩, some ⟨2, .d (.list ds)⟩, some ⟨0, .d (.int k)⟩, none] ∧ Tk (N + 1 + j) t' ∧ out.Sublist (ds.take j)) ⟨t1, by simp, ht1, by simp⟩ ?_ ?_
    · rintro j d out _ R hd ⟨t2, rfl, ht2, hs⟩ hR
      have hj := (List.getElem?_eq_some_iff.mp hd).1
      simp
      refine Yes.call (by rfl) (by rfl) (drop_sp ht2 (by omega) (by decide) (by decide) fun k2 t3 o hk2 ht3 => ?_)
      simp
      rw [List.take_succ, hd] at hR
      by_cases h2 : k2 = 0
      · simp [h2]
        exact hR _ _ ⟨t3, rfl, ht3, hs.append (List.Sublist.refl _)⟩
      · simp [h2]
        exact hR _ _ ⟨t3, rfl, ht3, by simpa using hs.trans (List.sublist_append_left _ _)⟩
    · rintro out _ ⟨t2, rfl, ht2, hs⟩
      simp
      exact q _ _ _ (by simpa using hs) (ht2.mono (by omega))
end LW

namespace LW
open PySem PySem.Spec PyProof.Rows L2 PL
variable {N : Nat} {t : D} {Q : W → List (Option W) → Prop}
theorem pick_sp {ds : List D} (ht : Tk N t) (hN : N < 900000) (h0 : 0 < ds.length) (hl : ds.length ≤ 100)
    (q : ∀ (d : D) (t' : D) (o : Option W), d ∈ ds → Tk (N + 1) t' → Q (.d d) [some (.o t'), o]) : FYes m__law_pick [.o t, .d (.list ds)] Q := by
  unfold m__law_pick
  apply FYes.fnM
  simp
  refine Yes.call (by rfl) (by rfl) (drop_sp ht (by omega) (by omega) (by omega) fun k t1 o hk ht1 => ?_)
  have hk' : k < ds.length := by omega
  simp [atI_of (List.getElem?_eq_getElem hk')]
  exact q _ _ _ (List.getElem_mem hk') ht1
theorem letters_sp {ds : List D} (ht : Tk N t) (hN : N < 900000) (hl : ds.length ≤ 100)
    (q : ∀ (bs : List Bool) (t' : D) (o : Option W), bs.length = ds.length → Tk (N + 100) t' → Q (.o (.list (List.zipWith (fun d b => .tuple [d, .bool b]) ds bs))) [some (.o t'), o]) : FYes m__law_letters [.o t, .d (.list ds)] Q := by
  unfold m__law_letters
  apply FYes.fnM
  simp [lim_ok (lenS (n := ds.length) (by omega))]
  refine Yes.lcM (fun j out e => ∃ t' bs, e = [some ⟨1, .o t'⟩, some ⟨2, .d (.list ds)⟩, none] ∧ Tk (N + j) t' ∧ bs.length = j ∧ out = List.zipWith (fun d b => .tuple [d, .bool b]) (ds.take j) bs) ⟨t, [], by simp, ht, by simp, by simp⟩ ?_ ?_
  · rintro j d out _ R hd ⟨t2, bs, rfl, ht2, hb, rfl⟩ hR
    have hj := (List.getElem?_eq_some_iff.mp hd).1
    simp
    refine Yes.call (by rfl) (by rfl) (drop_sp ht2 (by omega) (by decide) (by decide) fun k t1 o hk ht1 => ?_)
    simp
    refine hR _ _ ⟨t1, bs ++ [decide (k = 0)], rfl, ht1, by simp [hb], ?_⟩
    rw [List.take_succ, hd, List.zipWith_append (by rw [List.length_take]; omega)]
    simp
  · rintro out _ ⟨t2, bs, rfl, ht2, hb, rfl⟩
    simp
    exact q _ _ _ hb (ht2.mono (by omega))
def SeqOf (x : D) (ds : List D) : Prop := x = .list ds ∨ x = .tuple ds
theorem SeqOf.list2 {x : D} {ds : List D} (h : SeqOf x ds) : list2D [x] = some (.new (.list ds)) := by
  rcases h with rfl | rfl <;> rfl
theorem erase_perm {α : Type} : ∀ {l : List α} {k : Nat} (hk : k < l.length), (l[k] :: l.eraseIdx k).Perm l
  | _ :: _, 0, _ => .refl _
  | a :: l, k + 1, hk => by
    have ih := erase_perm (l := l) (k := k) (by simpa using hk)
    simp only [List.getElem_cons_succ, List.eraseIdx_cons_succ]
    exact (List.Perm.swap ..).trans (ih.cons a)
theorem pop_perm {α : Type} {f l m : List α} {k : Nat} (hk : k < l.length) (h : (f ++ l).Perm m) : ((f ++ [l[k]]) ++ l.eraseIdx k).Perm m := by
  refine List.Perm.trans ?_ h
  rw [List.append_assoc]
  exact List.Perm.append_left f (erase_perm hk)
theorem some_sp {ds : List D} {x : D} {m : Int} (hx : SeqOf x ds) (ht : Tk N t) (hN : N < 900000) (hl : ds.length ≤ 100) (hm : 0 ≤ m ∧ m ≤ 100)
    (q : ∀ (es ls : List D) (t' : D) (o1 o2 : Option W), (es ++ ls).Perm ds → (es.length : Int) ≤ m → Tk (N + 101) t' → Q (.o (.list es)) [some (.o t'), o1, o2]) : FYes m__law_some [.o t, .d x, .d (.int m)] Q := by
  unfold m__law_some
  apply FYes.fnM
  simp [hx.list2]
  refine Yes.call (by rfl) (by rfl) (drop_sp ht (by omega) (by omega) (by omega) fun k t1 o hk ht1 => ?_)
  simp
  generalize hc : (if k < ds.length then (k : Int) else ds.length) = c
  have hc1 : 0 ≤ c ∧ c ≤ ds.length ∧ c ≤ m := by split at hc <;> omega
  simp [okR_int (k := c) (by omega)]
  refine Yes.forM (fun j e => ∃ t' ls fs s, e = [some ⟨1, .o t'⟩, some ⟨2, .d x⟩, some ⟨3, .d (.int m)⟩, some ⟨0, .o (.list ls)⟩, some ⟨0, .o (.list fs)⟩, s] ∧ Tk (N + 1 + j) t' ∧ fs.length = j ∧ (fs ++ ls).Perm ds) ⟨t1, ds, [], none, rfl, ht1, rfl, .refl _⟩ ?_ ?_
  · rintro j d _ R hd ⟨t2, ls, fs, s, rfl, ht2, hf, hp⟩ hR
    obtain ⟨rfl, hj⟩ := rng_get hd
    have hlen := hp.length_eq
    rw [List.length_append] at hlen
    simp
    refine Yes.call (by rfl) (by rfl) (drop_sp ht2 (by omega) (by omega) (by omega) fun k2 t3 o hk2 ht3 => ?_)
    have hk3 : k2 < ls.length := by omega
    simp [popF_ok hk3 (lenS (by omega)), appendF_ok (ds := fs) (lenS (by omega))]
    exact hR _ _ (Or.inl rfl) ⟨t3, _, _, _, rfl, ht3, by simp [hf], pop_perm hk3 hp⟩
  · rintro _ ⟨t2, ls, fs, s, rfl, ht2, hf, hp⟩
    simp
    rw [rngD_length] at hf ht2
    exact q _ _ _ _ _ hp (by omega) (ht2.mono (by omega))
end LW

namespace LW
open PySem PySem.Spec PyProof.Rows L2 PL PySem.W PySem.SeqAt

/-! ### sayings -/
theorem lenK {n : Nat} (h : n ≤ 1000000) : n ≤ sizeLine := by rw [sizeLine_eq]; omega
@[simp] theorem rngD_map : ∀ (n : Nat) (k : Int), rngD k n = (List.range n).map fun j => .int (k + (j : Nat))
  | 0, k => rfl
  | n + 1, k => by
    rw [rngD, rngD_map n (k + 1), List.range_succ_eq_map, List.map_cons, List.map_map]
    congr 1
    · simp
    · refine List.map_congr_left fun j _ => ?_
      simp only [Function.comp_apply]
      congr 1
      omega
theorem atI_nat {α : Type} (l : List α) (k : Nat) : atI l (k : Int) = l[k]? := by
  by_cases h : k < l.length
  · rw [atI_k h, List.getElem?_eq_getElem h]
  · unfold atI ixN
    rw [if_pos (Int.natCast_nonneg k), if_neg (by omega)]
    rw [List.getElem?_eq_none (by omega)]
    rfl
theorem atI_succ {α : Type} (l : List α) (k : Nat) : atI l ((k : Int) + 1) = l[k + 1]? := atI_nat l (k + 1)
@[simp] theorem is_truth_e (x : D) (e : Env') : callF m_is_truth [.d x] e = .ok (.d (.bool (isB x))) e := by
  simp [callF_d1, m_is_truth, fnM_e]
def nmB (x : Str) : Bool := decide ((1 : Int) ≤ x.length) && decide ((x.length : Int) ≤ 8) && x.cps.toList.all fun c => decide (97 ≤ c ∧ c ≤ 122)
theorem nmB_len {x : Str} (h : nmB x = true) : 1 ≤ x.length ∧ x.length ≤ 8 := by
  unfold nmB at h
  simp only [Bool.and_eq_true, decide_eq_true_eq] at h
  omega
theorem nmB_ch {x : Str} (h : nmB x = true) : chOk x := by
  unfold nmB at h
  simp only [Bool.and_eq_true, List.all_eq_true, decide_eq_true_eq] at h
  intro c hc
  have := h.2 c hc
  omega
theorem strD_s (x : Str) : strD x = x.cps.toList.map fun c => .str ⟨#[c]⟩ := rfl
theorem alpha_l : (Str.ofString "abcdefghijklmnopqrstuvwxyz").cps.toList = List.range' 97 26 := by decide
theorem in_alpha (c : Nat) : cmpR .In (.str ⟨#[c]⟩) (.str "abcdefghijklmnopqrstuvwxyz") = some (.d (.bool (decide (97 ≤ c ∧ c ≤ 122)))) := by
  rw [cmp_inS]
  unfold inStr
  show some (R.d (.bool (decide (c ∈ (Str.ofString "abcdefghijklmnopqrstuvwxyz").cps.toList)))) = _
  rw [alpha_l]
  have : (c ∈ List.range' 97 26) = (97 ≤ c ∧ c ≤ 122) := by rw [List.mem_range'_1]; exact propext ⟨fun h => by omega, fun h => by omega⟩
  simp only [this]
theorem is_name_e (x : Str) (h : x.length ≤ 1000) (e : Env') : callF m_is_name [.d (.str x)] e = .ok (.d (.bool (nmB x))) e := by
  have hs : x.length ≤ sizeLine := by rw [sizeLine_eq]; omega
  have hc : x.cps.size ≤ sizeLine := hs
  simp [callF_d1, m_is_name, fnM_e, len_s _ hs, strD_s, lim_ok, hc, nmB, lcP, stepOk_s, stepVal_s, Function.comp_def, in_alpha]
def ascB : List D → Bool
  | a :: b :: t => dataLt a b && ascB (b :: t)
  | _ => true
theorem ascB_get : ∀ ds : List D, (List.range (ds.length - 1)).all (fun i => dataLt (ds.getD i .none) (ds.getD (i + 1) .none)) = ascB ds
  | [] => rfl
  | [_] => rfl
  | a :: b :: t => by
    have ih := ascB_get (b :: t)
    show (List.range (t.length + 1)).all _ = (dataLt a b && ascB (b :: t))
    rw [List.range_succ_eq_map, List.all_cons, List.all_map, ← ih]
    rfl
theorem dataLt_trans {a b c : D} (h : dataLt a b = true) (g : dataLt b c = true) : dataLt a c = true := lex_trans (O := itemOrd) _ _ _ h g
theorem ascB_iff : ∀ ds : List D, ascB ds = true ↔ Asc ds
  | [] => by simp [ascB, Asc]
  | [_] => by simp [ascB, Asc]
  | a :: b :: t => by
    have ih := ascB_iff (b :: t)
    unfold Asc at ih ⊢
    rw [ascB, Bool.and_eq_true, ih, List.pairwise_cons (a := a)]
    refine ⟨fun ⟨h1, h2⟩ => ⟨fun y hy => ?_, h2⟩, fun ⟨h1, h2⟩ => ⟨h1 b (List.mem_cons_self ..), h2⟩⟩
    rcases List.mem_cons.mp hy with rfl | hy
    · exact h1
    · exact dataLt_trans h1 ((List.pairwise_cons.mp h2).1 y hy)
theorem asc_e {ds : List D} {s : Sch} (hf : ∀ d, d ∈ ds → Fits s d) (hs : s.dep ≤ 64) (hn : s ≠ .nn) (hl : ds.length ≤ 1000000) (e : Env') : callF m_are_ascending [.d (.tuple ds)] e = .ok (.d (.bool (ascB ds))) e := by
  have hr : okR ((ds.length : Int) - 1) = true := decide_eq_true (by omega)
  have hlim : lim ((ds.length : Int) - 1).toNat = true := lim_ok (by rw [sizeLine_eq]; omega)
  have hln : ((ds.length : Int) - 1).toNat = ds.length - 1 := by omega
  have ok : ∀ i, i < ds.length - 1 → ∃ a b, ds[i]? = some a ∧ ds[i + 1]? = some b ∧ cmpR .Lt a b = some (.d (.bool (dataLt a b))) ∧ ds.getD i .none = a ∧ ds.getD (i + 1) .none = b := fun i hi => by
    have h1 : i < ds.length := by omega
    have h2 : i + 1 < ds.length := by omega
    refine ⟨ds[i], ds[i + 1], List.getElem?_eq_getElem h1, List.getElem?_eq_getElem h2, ?_, by rw [List.getD_eq_getElem?_getD, List.getElem?_eq_getElem h1]; rfl, by rw [List.getD_eq_getElem?_getD, List.getElem?_eq_getElem h2]; rfl⟩
    have f1 := hf _ (List.getElem_mem h1)
    have f2 := hf _ (List.getElem_mem h2)
    exact cmp_ltE _ _ (fits_shaped f1 hs) (fits_shaped f2 hs) (fits_alike s _ _ f1 f2) (fits_notNone f1 hn)
  rw [← ascB_get]
  rw [hln] at hlim
  simp only [callF_d1, m_are_ascending, fnM_e]
  simp [hr, hln, hlim]
  rw [lcM_map' (fun i => some (.bool (dataLt (ds.getD i .none) (ds.getD (i + 1) .none))))]
  · simp
  · intro i hi
    obtain ⟨a, b, h1, h2, h3, h4, h5⟩ := ok i (List.mem_range.mp hi)
    rw [h4, h5]
    refine ⟨[some ⟨1, .d (.tuple ds)⟩, some ⟨0, .d (.int i)⟩], ?_, ?_⟩
    · simp [atI_nat, atI_succ, h1, h2, h3]
    · simp
end LW

namespace LW
open PySem PySem.Spec PyProof.Rows L2 PL PySem.W PySem.SeqAt

abbrev Nms := List Str
abbrev Cls := List (Str × Bool)
def dNs (xs : Nms) : D := .tuple (xs.map .str)
def dL (l : Str × Bool) : D := .tuple [.str l.1, .bool l.2]
def dC (c : Cls) : D := .tuple (c.map dL)
def dO (o : Str × Nms) : D := .tuple [.str o.1, dNs o.2]
structure Sy where
  picks : Nms
  owns : List (Str × Nms)
  clauses : List Cls
def dSy (s : Sy) : D := .tuple [dNs s.picks, .tuple (s.owns.map dO), .tuple (s.clauses.map dC)]
def scN : Sch := .ss 8
def scL : Sch := .tp [.ss 8, .bb]
def scC : Sch := .tm 14 scL
def scO : Sch := .tp [.ss 8, .tm 6 (.ss 8)]
def scSy : Sch := .tp [.tm 6 (.ss 8), .tm 8 scO, .tm 40 scC]
def NmOk (x : Str) : Prop := nmB x = true
theorem NmOk.fits {x : Str} (h : NmOk x) : Fits scN (.str x) := by
  unfold scN
  simp only [Fits]
  exact ⟨(nmB_len h).2, nmB_ch h⟩
theorem fitsL {l : Str × Bool} (h : NmOk l.1) : Fits scL (dL l) := by
  unfold scL dL
  simp only [Fits, FitsAll, and_true]
  exact ⟨(nmB_len h).2, nmB_ch h⟩
theorem fitsC {c : Cls} (h : ∀ l, l ∈ c → NmOk l.1) (hl : c.length ≤ 14) : Fits scC (dC c) := by
  unfold scC dC
  simp only [Fits, List.length_map, List.mem_map]
  refine ⟨hl, ?_⟩
  rintro d ⟨l, hm, rfl⟩
  exact fitsL (h l hm)
theorem fitsNs {xs : Nms} {k : Nat} (h : ∀ x, x ∈ xs → NmOk x) (hl : xs.length ≤ k) : Fits (.tm k (.ss 8)) (dNs xs) := by
  unfold dNs
  simp only [Fits, List.length_map, List.mem_map]
  refine ⟨hl, ?_⟩
  rintro d ⟨l, hm, rfl⟩
  exact (h l hm).fits
theorem fitsO {o : Str × Nms} (h : NmOk o.1) (hs : ∀ x, x ∈ o.2 → NmOk x) (hl : o.2.length ≤ 6) : Fits scO (dO o) := by
  unfold scO dO
  have h1 := fitsNs hs hl
  have h2 := h.fits
  unfold scN at h2
  simp only [Fits, FitsAll, and_true] at h1 h2 ⊢
  exact ⟨h2, h1⟩
def sLt (x y : Str) : Prop := dataLt (.str x) (.str y) = true
def Ascn (xs : Nms) : Prop := xs.Pairwise sLt
theorem ascn_iff (xs : Nms) : ascB (xs.map .str) = true ↔ Ascn xs := by
  rw [ascB_iff]
  unfold Asc Ascn
  rw [List.pairwise_map]
  exact Iff.rfl
@[simp] theorem eqv_str (x y : Str) : PyData.eqv (.str x) (.str y) = decide (x = y) := by
  rw [PyData.eqv]
  rfl
theorem shaped_str {x : Str} (h : chOk x) : shaped (.str x) = true := by
  unfold shaped
  rw [show PyData.canLay0 (.str x) = true by rw [PyData.canLay0]; exact strOk_of h]
  simp [PyData.depth]
theorem shaped_strs {xs : Nms} (h : ∀ x, x ∈ xs → chOk x) : shaped (.tuple (xs.map .str)) = true ∧ shaped (.list (xs.map .str)) = true := by
  have h1 : PyData.canLayAll0 (xs.map .str) = true := canLayAll fun d hd => by
    obtain ⟨x, hx, rfl⟩ := List.mem_map.mp hd
    rw [PyData.canLay0]; exact strOk_of (h x hx)
  have h2 : PyData.depthAll (xs.map .str) ≤ 0 := depthAll_le fun d hd => by
    obtain ⟨x, hx, rfl⟩ := List.mem_map.mp hd
    simp [PyData.depth]
  unfold shaped
  rw [PyData.canLay0, PyData.canLay0, h1, PyData.depth, PyData.depth]
  constructor <;> (simp; omega)
theorem any_strs (x : Str) (xs : Nms) : (xs.map PyData.str).any (fun z => PyData.eqv z (.str x)) = decide (x ∈ xs) := by
  rw [List.any_map]
  rw [Bool.eq_iff_iff]
  simp only [List.any_eq_true, Function.comp_apply, eqv_str, decide_eq_true_eq]
  exact ⟨fun ⟨y, hy, e⟩ => e ▸ hy, fun h => ⟨x, h, rfl⟩⟩
theorem in_strsT {x : Str} {xs : Nms} (hx : chOk x) (h : ∀ x, x ∈ xs → chOk x) : cmpR .In (.str x) (.tuple (xs.map .str)) = some (.d (.bool (decide (x ∈ xs)))) := by
  rw [cmp_inT _ _ (shaped_str hx) (shaped_strs h).1, any_strs]
theorem in_strsL {x : Str} {xs : Nms} (hx : chOk x) (h : ∀ x, x ∈ xs → chOk x) : cmpR .In (.str x) (.list (xs.map .str)) = some (.d (.bool (decide (x ∈ xs)))) := by
  rw [cmp_inL _ _ (shaped_str hx) (shaped_strs h).2, any_strs]
theorem are_names_e {xs : Nms} (h : ∀ x, x ∈ xs → NmOk x) (ha : Ascn xs) (hl : xs.length ≤ 1000) (e : Env') : callF m_are_names [.d (dNs xs)] e = .ok (.d (.bool true)) e := by
  have h1 : lim xs.length = true := lim_ok (lenK (by omega))
  have h2 : xs.all nmB = true := List.all_eq_true.mpr h
  have hd : ∀ x, x ∈ xs → ∀ e, callF m_is_name [.d (.str x)] e = .ok (.d (.bool (nmB x))) e := fun x hx e => is_name_e x (by have := nmB_len (h x hx); omega) e
  have asc : ∀ e, callF m_are_ascending [.d (.tuple (xs.map .str))] e = .ok (.d (.bool true)) e := fun e => by
    rw [asc_e (s := scN) (fun d hd => ?_) (by decide) (fun h => nomatch h) (by rw [List.length_map]; omega), (ascn_iff xs).mpr ha]
    obtain ⟨x, hx, rfl⟩ := List.mem_map.mp hd
    exact (h x hx).fits
  unfold dNs
  simp only [callF_d1, m_are_names, fnM_e]
  simp [h1, asc]
  rw [lcM_map' (fun x => some (.bool (nmB x)))]
  · simp [h2, asc]
  · intro x hx
    refine ⟨_, by simp [hd x hx]; rfl, ?_⟩
    simp
theorem is_letter_e {l : Str × Bool} (h : NmOk l.1) (e : Env') : callF m_is_letter [.d (dL l)] e = .ok (.d (.bool true)) e := by
  have h1 := is_name_e l.1 (by have := nmB_len h; omega)
  have h2 : nmB l.1 = true := h
  simp only [dL, callF_d1, m_is_letter, fnM_e]
  simp [h1, h2]
theorem is_any_clause_e {c : Cls} (h : ∀ l, l ∈ c → NmOk l.1) (ha : Ascn (c.map (·.1))) (hl : c.length ≤ 1000) (e : Env') : callF m_is_any_clause [.d (dC c)] e = .ok (.d (.bool true)) e := by
  have h1 : lim c.length = true := lim_ok (lenK (by omega))
  have asc : ∀ e, callF m_are_ascending [.d (.tuple (c.map fun l => .str l.1))] e = .ok (.d (.bool true)) e := fun e => by
    have e1 : (c.map fun l => PyData.str l.1) = (c.map (·.1)).map .str := by rw [List.map_map]; rfl
    rw [e1, asc_e (s := scN) (fun d hd => ?_) (by decide) (fun h => nomatch h) (by simp; omega), (ascn_iff _).mpr ha]
    obtain ⟨x, hx, rfl⟩ := List.mem_map.mp hd
    obtain ⟨l, hl, rfl⟩ := List.mem_map.mp hx
    exact (h l hl).fits
  unfold dC
  simp only [callF_d1, m_is_any_clause, fnM_e]
  simp [h1]
  rw [lcM_map' (fun x => some (.bool true))]
  · simp [h1]
    rw [lcM_map' (fun x => some (.str x.1))]
    · simp [asc]
    · intro x hx
      simp [dL]
  · intro x hx
    refine ⟨_, by simp [is_letter_e (h x hx)]; rfl, ?_⟩
    simp
end LW

namespace LW
open PySem PySem.Spec PyProof.Rows L2 PL PySem.W PySem.SeqAt

structure Sy.Ok (s : Sy) : Prop where
  pn : ∀ p, p ∈ s.picks → NmOk p
  pa : Ascn s.picks
  pl : s.picks.length ≤ 6
  on : ∀ o, o ∈ s.owns → NmOk o.1 ∧ o.1 ∉ s.picks ∧ Ascn o.2 ∧ ∀ x, x ∈ o.2 → x ∈ s.picks
  oa : Ascn (s.owns.map (·.1))
  ol : s.owns.length ≤ 8
  oc : (s.owns.map fun o => (2 : Int) ^ o.2.length).sum ≤ 120
  cn : ∀ c, c ∈ s.clauses → Ascn (c.map (·.1)) ∧ ∀ l, l ∈ c → l.1 ∈ s.picks ∨ l.1 ∈ s.owns.map (·.1)
  ca : Asc (s.clauses.map dC)
  cl : s.clauses.length ≤ 40
theorem nodup_len {α : Type} {xs ys : List α} (h : xs.Nodup) (hs : ∀ x, x ∈ xs → x ∈ ys) : xs.length ≤ ys.length := by
  induction xs generalizing ys with
  | nil => simp
  | cons x xs ih =>
    obtain ⟨a, b, rfl⟩ := List.append_of_mem (hs x (List.mem_cons_self ..))
    rw [List.nodup_cons] at h
    have := ih h.2 (ys := a ++ b) fun y hy => by
      have := hs y (List.mem_cons_of_mem _ hy)
      simp only [List.mem_append, List.mem_cons] at this ⊢
      rcases this with h1 | rfl | h1
      · exact .inl h1
      · exact absurd hy h.1
      · exact .inr h1
    simp only [List.length_cons, List.length_append] at this ⊢
    omega
theorem sLt_irrefl (x : Str) : ¬ sLt x x := by
  unfold sLt
  rw [show dataLt (.str x) (.str x) = false from lex_irrefl (O := itemOrd) _]
  exact Bool.false_ne_true
@[simp] theorem len_dNs (xs : Nms) : lenD [dNs xs] = some (.d (.int xs.length)) := by simp [dNs]
theorem Ascn.nodup {xs : Nms} (h : Ascn xs) : xs.Nodup := List.Pairwise.imp (fun {a b} (hl : sLt a b) (e : a = b) => sLt_irrefl a (by rw [← e] at hl; exact hl)) h
theorem Sy.Ok.on6 {s : Sy} (h : s.Ok) {o : Str × Nms} (ho : o ∈ s.owns) : (∀ x, x ∈ o.2 → NmOk x) ∧ o.2.length ≤ 6 := by
  obtain ⟨h1, h2, h3, h4⟩ := h.on o ho
  exact ⟨fun x hx => h.pn x (h4 x hx), Nat.le_trans (nodup_len h3.nodup h4) h.pl⟩
theorem Sy.Ok.nm {s : Sy} (h : s.Ok) {c : Cls} (hc : c ∈ s.clauses) {l : Str × Bool} (hl : l ∈ c) : NmOk l.1 := by
  rcases (h.cn c hc).2 l hl with h1 | h1
  · exact h.pn _ h1
  · obtain ⟨o, ho, e⟩ := List.mem_map.mp h1
    rw [← e]; exact (h.on o ho).1
theorem Sy.Ok.c14 {s : Sy} (h : s.Ok) {c : Cls} (hc : c ∈ s.clauses) : c.length ≤ 14 := by
  have h1 : (c.map (·.1)).length ≤ (s.picks ++ s.owns.map (·.1)).length := nodup_len (h.cn c hc).1.nodup fun x hx => by
    obtain ⟨l, hl, rfl⟩ := List.mem_map.mp hx
    rw [List.mem_append]; exact (h.cn c hc).2 l hl
  have := h.pl
  have := h.ol
  simp only [List.length_map, List.length_append] at h1
  omega
theorem Sy.Ok.fits {s : Sy} (h : s.Ok) : Fits scSy (dSy s) := by
  have h1 := fitsNs (k := 6) h.pn h.pl
  unfold scSy dSy
  simp only [Fits, FitsAll, and_true] at h1 ⊢
  refine ⟨h1, ⟨by rw [List.length_map]; exact h.ol, fun d hd => ?_⟩, ⟨by rw [List.length_map]; exact h.cl, fun d hd => ?_⟩⟩
  · obtain ⟨o, ho, rfl⟩ := List.mem_map.mp hd
    exact fitsO (h.on o ho).1 (h.on6 ho).1 (h.on6 ho).2
  · obtain ⟨c, hc, rfl⟩ := List.mem_map.mp hd
    exact fitsC (fun l hl => h.nm hc hl) (h.c14 hc)
section
variable {s : Sy} (h : s.Ok) (e : Env')
include h
theorem pch : ∀ x, x ∈ s.picks → chOk x := fun x hx => nmB_ch (h.pn x hx)
theorem is_own_e {o : Str × Nms} (ho : o ∈ s.owns) : callF m_is_own [.d (dO o), .d (dNs s.picks)] e = .ok (.d (.bool true)) e := by
  obtain ⟨h1, h2, h3, h4⟩ := h.on o ho
  obtain ⟨h5, h6⟩ := h.on6 ho
  have n1 := is_name_e o.1 (by have := nmB_len h1; omega)
  have n2 : nmB o.1 = true := h1
  have n3 : cmpR .In (.str o.1) (dNs s.picks) = some (.d (.bool (decide (o.1 ∈ s.picks)))) := in_strsT (nmB_ch h1) (pch h)
  have n4 := are_names_e h5 h3 (by omega)
  have hl : lim o.2.length = true := lim_ok (lenK (by omega))
  have n5 : ∀ x, x ∈ o.2 → cmpR .In (.str x) (dNs s.picks) = some (.d (.bool true)) := fun x hx => by
    rw [show cmpR .In (.str x) (dNs s.picks) = _ from in_strsT (nmB_ch (h5 x hx)) (pch h), decide_eq_true (h4 x hx)]
  simp only [dO, callF_d2, m_is_own, fnM_e]
  simp [n1, n2, n3, h2, n4]
  simp [dNs, hl]
  rw [lcM_map' (fun x => some (.bool true))]
  · simp
  · intro x hx
    have := n5 x hx
    unfold dNs at this
    refine ⟨_, by simp [this]; rfl, ?_⟩
    simp
theorem are_owns_e : callF m_are_owns [.d (.tuple (s.owns.map dO)), .d (dNs s.picks)] e = .ok (.d (.bool true)) e := by
  have ol := h.ol
  have hl : lim s.owns.length = true := lim_ok (lenK (by omega))
  have asc : ∀ e, callF m_are_ascending [.d (.tuple (s.owns.map fun o => .str o.1))] e = .ok (.d (.bool true)) e := fun e => by
    have e1 : (s.owns.map fun o => PyData.str o.1) = (s.owns.map (·.1)).map .str := by rw [List.map_map]; rfl
    rw [e1, asc_e (s := scN) (fun d hd => ?_) (by decide) (fun h => nomatch h) (by simp; omega), (ascn_iff _).mpr h.oa]
    obtain ⟨x, hx, rfl⟩ := List.mem_map.mp hd
    obtain ⟨l, hl, rfl⟩ := List.mem_map.mp hx
    exact (h.on l hl).1.fits
  simp only [callF_d2, m_are_owns, fnM_e]
  simp [hl]
  rw [if_neg (by omega), lcM_map' (fun x => some (.bool true))]
  · simp [hl]
    rw [lcM_map' (fun o => some (.str o.1))]
    · simp [hl, asc]
      rw [lcM_map' (fun o => some (.int ((2 : Int) ^ o.2.length)))]
      · have := h.oc
        simp [this]
      · intro o ho
        have := h.on6 ho
        have e1 : (1 : Int) * 2 ^ ((o.2.length : Int)).toNat = 2 ^ o.2.length := by rw [Int.one_mul, Int.toNat_natCast]
        have b1 := bin_shl 1 (o.2.length : Int) (by omega)
        rw [e1] at b1
        refine ⟨_, by simp [dO, b1]; rfl, ?_⟩
        simp
    · intro o ho
      refine ⟨_, by simp [dO]; rfl, ?_⟩
      simp
  · intro o ho
    refine ⟨_, by simp [is_own_e h _ ho]; rfl, ?_⟩
    simp
def namesOf (s : Sy) : Nms := s.picks ++ s.owns.map (·.1)
theorem names_of_e : callF m_names_of [.d (dNs s.picks), .d (.tuple (s.owns.map dO))] e = .ok (.new (.list ((namesOf s).map .str))) e := by
  have ol := h.ol
  have pl := h.pl
  have hl : lim s.owns.length = true := lim_ok (lenK (by omega))
  simp only [callF_d2, m_names_of, fnM_e]
  simp [hl, dNs]
  rw [lcM_map' (fun o => some (.str o.1))]
  · simp [namesOf]
    rw [bin_addL _ _ (lenK (by simp; omega))]
    simp [Function.comp_def]
  · intro o ho
    refine ⟨_, by simp [dO]; rfl, ?_⟩
    simp
theorem nm_namesOf : ∀ x, x ∈ namesOf s → NmOk x := fun x hx => by
  rcases List.mem_append.mp hx with h1 | h1
  · exact h.pn x h1
  · obtain ⟨o, ho, rfl⟩ := List.mem_map.mp h1
    exact (h.on o ho).1
theorem has_names_e {c : Cls} (hc : c ∈ s.clauses) : callF m_has_names [.d (dC c), .d (.list ((namesOf s).map .str))] e = .ok (.d (.bool true)) e := by
  have c14 := h.c14 hc
  have hl : lim c.length = true := lim_ok (lenK (by omega))
  simp only [callF_d2, m_has_names, fnM_e]
  simp [hl, dC]
  rw [lcM_map' (fun l => some (.bool true))]
  · simp
  · intro l hm
    have := in_strsL (x := l.1) (nmB_ch (h.nm hc hm)) fun x hx => nmB_ch (nm_namesOf h x hx)
    rw [decide_eq_true (show l.1 ∈ namesOf s from List.mem_append.mpr ((h.cn c hc).2 l hm))] at this
    refine ⟨_, by simp [dL, this]; rfl, ?_⟩
    simp
theorem is_a_saying_e : callF m_is_a_saying [.d (dSy s)] e = .ok (.d (.bool true)) e := by
  have ol := h.ol
  have pl := h.pl
  have cl := h.cl
  have hl : lim s.clauses.length = true := lim_ok (lenK (by omega))
  have n1 := are_names_e h.pn h.pa (by omega)
  have n2 := are_owns_e h
  have n3 := names_of_e h
  have asc : ∀ e, callF m_are_ascending [.d (.tuple (s.clauses.map dC))] e = .ok (.d (.bool true)) e := fun e => by
    rw [asc_e (s := scC) (fun d hd => ?_) (by decide) (fun h => nomatch h) (by simp; omega), (ascB_iff _).mpr h.ca]
    obtain ⟨c, hc, rfl⟩ := List.mem_map.mp hd
    exact fitsC (fun l hl => h.nm hc hl) (h.c14 hc)
  have ln : lenD [dNs s.picks] = some (.d (.int s.picks.length)) := by simp [dNs]
  simp only [dSy, callF_d1, m_is_a_saying, fnM_e]
  simp [n1, n2, n3, ln, hl, asc]
  rw [if_neg (by omega), if_neg (by omega), lcM_map' (fun x => some (.bool true))]
  · simp [asc, n3, hl]
    rw [lcM_map' (fun x => some (.bool true))]
    · simp
    · intro c hc
      refine ⟨_, by simp [has_names_e h _ hc]; rfl, ?_⟩
      simp
  · intro c hc
    refine ⟨_, by simp [is_any_clause_e (fun l hl => h.nm hc hl) (h.cn c hc).1 (by have := h.c14 hc; omega)]; rfl, ?_⟩
    simp
theorem need_saying_e : callF m_need_saying [.d (dSy s)] e = .ok (.d .none) e := by
  simp only [callF_d1, m_need_saying, fnM_e]
  simp [is_a_saying_e h]
end
end LW

namespace LW
open PySem PySem.Spec PyProof.Rows L2 PL PySem.W PySem.SeqAt

theorem look_strs {ι : Type} (k : ι → Str) (v : ι → D) (xs : List ι) (q : Str) : lookD (xs.map fun x => (PyData.str (k x), v x)) (.inr q) = (xs.find? fun x => decide (k x = q)).map v := by
  have := look_map (fun x => (Sum.inr (k x) : Key)) v xs (.inr q)
  simp only [PL.keyD, Sum.inr.injEq] at this
  exact this
theorem in_dict {ι : Type} (k : ι → Str) (v : ι → D) (xs : List ι) (q : Str) : cmpR .In (.str q) (.dict (xs.map fun x => (PyData.str (k x), v x))) = some (.d (.bool (decide (q ∈ xs.map k)))) := by
  rw [cmp_inD _ _ (.inr q) rfl, look_strs, Option.isSome_map]
  congr 3
  rw [Bool.eq_iff_iff, List.find?_isSome]
  simp only [decide_eq_true_eq, List.mem_map]
theorem pairs_map {ι : Type} (k : ι → Str) (v : ι → D) : ∀ xs : List ι, pairsD (xs.map fun x => .tuple [.str (k x), v x]) = some (xs.map fun x => (.inr (k x), v x))
  | [] => rfl
  | x :: xs => by
    rw [List.map_cons, pairsD, pairs_map k v xs]
    rfl
theorem merge_map {ι : Type} (k : ι → Str) (v : ι → D) : ∀ (xs : List ι) (acc : List (D × D)), (xs.map k).Nodup → (∀ x, x ∈ xs → ∀ p, p ∈ acc → p.1 ≠ .str (k x)) → mergeD acc (xs.map fun x => (.inr (k x), v x)) = acc ++ xs.map fun x => (.str (k x), v x)
  | [], acc, _, _ => by simp [mergeD]
  | x :: xs, acc, hn, ho => by
    rw [List.map_cons, List.nodup_cons] at hn
    show mergeD (putD acc (.inr (k x)) (v x)) (xs.map fun x => (.inr (k x), v x)) = _
    rw [putD_new fun p hp e => ho x (List.mem_cons_self ..) p hp (keyOfD_inj e rfl), merge_map k v xs _ hn.2 fun y hy p hp => ?_]
    · simp [PL.keyD]
    · rcases List.mem_append.mp hp with hp | hp
      · exact ho y (List.mem_cons_of_mem _ hy) p hp
      · simp only [List.mem_singleton] at hp
        subst hp
        intro e
        have e2 : k x = k y := by simpa [PL.keyD] using e
        exact hn.1 (e2 ▸ List.mem_map.mpr ⟨y, hy, rfl⟩)
theorem dict_pairs {ι : Type} (k : ι → Str) (v : ι → D) (xs : List ι) (hn : (xs.map k).Nodup) : dictD [.list (xs.map fun x => .tuple [.str (k x), v x])] = some (.new (.dict (xs.map fun x => (.str (k x), v x)))) := by
  unfold dictD
  dsimp only
  rw [pairs_map, Option.map_some, merge_map k v xs [] hn (fun x hx p hp => by cases hp), List.nil_append]

/-! what the law counts -/
def ownNs (s : Sy) : Nms := s.owns.map (·.1)
def lotO (s : Sy) (c : Cls) : Cls := c.filter fun l => decide (l.1 ∈ ownNs s)
def cntO (s : Sy) (c : Cls) : Nat := (lotO s c).length
def cntT (s : Sy) (c : Cls) : Nat := ((lotO s c).filter (·.2)).length
def plainB (s : Sy) : Bool := s.clauses.all fun c => decide ((cntT s c : Int) ≤ 1)
def twosB (s : Sy) : Bool := s.clauses.all fun c => decide ((1 : Int) ≤ cntO s c) && decide ((cntO s c : Int) ≤ 2)
section
variable {s : Sy} (h : s.Ok) (e : Env')
include h
def ownD (s : Sy) : List (D × D) := s.owns.map fun o => (.str o.1, .bool true)
theorem in_own (q : Str) : cmpR .In (.str q) (.dict (ownD s)) = some (.d (.bool (decide (q ∈ ownNs s)))) := in_dict (fun o : Str × Nms => o.1) (fun _ => .bool true) s.owns q
theorem is_plain_one_e : callF m_is_plain_one [.d (dSy s)] e = .ok (.d (.bool (plainB s))) e := by
  have ol := h.ol
  have cl := h.cl
  have hl : lim s.clauses.length = true := lim_ok (lenK (by omega))
  have ho : lim s.owns.length = true := lim_ok (lenK (by omega))
  simp only [dSy, callF_d1, m_is_plain_one, fnM_e]
  simp [ho]
  rw [dcM_map' (fun o : Str × Nms => .str o.1) (fun _ => .bool true)]
  · simp [hl]
    rw [lcM_map' (fun c => some (.bool (decide ((cntT s c : Int) ≤ 1))))]
    · simp [plainB]
    · intro c hc
      have c14 := h.c14 hc
      have hc1 : lim c.length = true := lim_ok (lenK (by omega))
      have := in_own h
      unfold ownD at this
      refine ⟨_, by
        simp [dC, hc1]
        rw [lcM_map' (fun l => if l.1 ∈ ownNs s ∧ l.2 = true then some (.str l.1) else none)]
        · simp only [fm_ifP]
          simp
          refine ⟨?_, rfl⟩
          unfold cntT lotO
          rw [List.filter_filter]
          simp [Bool.and_comm]
        · intro l hl
          refine ⟨_, by simp [dL, this]; rfl, ?_⟩
          simp, ?_⟩
      simp
  · intro o ho
    refine ⟨_, by simp [dO]; rfl, ?_⟩
    simp
  · intro o ho
    rfl
  · have := h.oa.nodup
    rw [show (s.owns.map fun o => PyData.str o.1) = (s.owns.map (·.1)).map .str by rw [List.map_map]; rfl]
    exact List.Pairwise.map _ (fun {a b} hab e => hab (by injection e)) this
  · intro o ho p hp
    cases hp
end
end LW

namespace LW
open PySem PySem.Spec PyProof.Rows L2 PL PySem.W PySem.SeqAt
theorem nodup_strs {xs : Nms} (h : xs.Nodup) : (xs.map PyData.str).Nodup := List.Pairwise.map _ (fun {a b} hab e => hab (by injection e)) h
section
variable {s : Sy} (h : s.Ok) (e : Env')
include h
theorem is_of_twos_e : callF m_is_of_twos [.d (dSy s)] e = .ok (.d (.bool (twosB s))) e := by
  have ol := h.ol
  have cl := h.cl
  have hl : lim s.clauses.length = true := lim_ok (lenK (by omega))
  have ho : lim s.owns.length = true := lim_ok (lenK (by omega))
  simp only [dSy, callF_d1, m_is_of_twos, fnM_e]
  simp [ho]
  rw [dcM_map' (fun o : Str × Nms => .str o.1) (fun _ => .bool true)]
  · simp [hl]
    rw [lcM_map' (fun c => some (.bool (decide ((1 : Int) ≤ cntO s c) && decide ((cntO s c : Int) ≤ 2))))]
    · simp [twosB]
    · intro c hc
      have c14 := h.c14 hc
      have hc1 : lim c.length = true := lim_ok (lenK (by omega))
      have := in_own h
      unfold ownD at this
      refine ⟨_, by
        simp [dC, hc1]
        rw [lcM_map' (fun l => if l.1 ∈ ownNs s then some (.str l.1) else none)]
        · simp only [fm_ifP]
          simp [cntO, lotO]
          exact ⟨rfl, rfl⟩
        · intro l hl
          refine ⟨_, by simp [dL, this]; rfl, ?_⟩
          simp, ?_⟩
      simp
  · intro o ho
    refine ⟨_, by simp [dO]; rfl, ?_⟩
    simp
  · intro o ho
    rfl
  · have := nodup_strs h.oa.nodup
    rw [List.map_map] at this
    exact this
  · intro o ho p hp
    cases hp
theorem is_plain_e : callF m_is_plain [.d (dSy s)] e = .ok (.d (.bool (plainB s))) e := by
  simp only [callF_d1, m_is_plain, fnM_e]
  simp [need_saying_e h, is_plain_one_e h]
theorem is_twos_e : callF m_is_twos [.d (dSy s)] e = .ok (.d (.bool (twosB s))) e := by
  simp only [callF_d1, m_is_twos, fnM_e]
  simp [need_saying_e h, is_of_twos_e h]
def cntD (s : Sy) (c : Cls) : D := .tuple [.int (cntO s c), .int (cntT s c)]
theorem counted_e : callF m__law_counted [.d (dSy s)] e = .ok (.new (.list (s.clauses.map (cntD s)))) e := by
  have ol := h.ol
  have cl := h.cl
  have ho : lim s.owns.length = true := lim_ok (lenK (by omega))
  have hd : dictD [.list (s.owns.map fun o => .tuple [.str o.1, .bool true])] = some (.new (.dict (s.owns.map fun o => (.str o.1, .bool true)))) := dict_pairs (fun o : Str × Nms => o.1) (fun _ => .bool true) s.owns h.oa.nodup
  refine callF_new (xs := [dSy s]) ?_ e
  refine FYes.fnM ?_
  simp [dSy, ho]
  rw [lcM_map' (fun o => some (.tuple [.str o.1, .bool true]))]
  · simp [hd]
    refine Yes.forO (fun k e => ∃ s3 s4, e = [some ⟨1, .d (dSy s)⟩, some ⟨0, .d (.dict (ownD s))⟩, some ⟨0, .o (.list ((s.clauses.map (cntD s)).take k))⟩, s3, s4, none, none, none]) ⟨none, none, by simp [dSy, ownD]⟩ ?_ ?_
    · rintro k hk e R ⟨s3, s4, rfl⟩ hR
      generalize hc : s.clauses[k] = c
      have hcm : c ∈ s.clauses := hc ▸ List.getElem_mem hk
      have c14 := h.c14 hcm
      have hc1 : lim c.length = true := lim_ok (lenK (by omega))
      simp [dC, hc1]
      rw [lcM_map' (fun l => if l.1 ∈ ownNs s then some (.bool l.2) else none)]
      · simp only [fm_ifP]
        have hle : (c.filter fun l => decide (l.1 ∈ ownNs s)).length ≤ 14 := Nat.le_trans (List.length_filter_le _ _) c14
        have hcnt : countF (.list ((c.filter fun l => decide (l.1 ∈ ownNs s)).map fun x => .bool x.2)) [.bool true] = some (.d (.int (cntT s c))) := by
          unfold countF
          dsimp only
          rw [if_pos]
          · congr 3
            unfold cntT lotO
            rw [List.countP_map, List.countP_eq_length_filter]
            congr 2
            apply List.filter_congr
            intro l _
            cases hb : l.2 <;> simp [PyData.eqv, hb]
          · rw [PL.canLayAll]
            · simp [PyData.canLay0, PyData.depth]
            · intro d hd
              obtain ⟨x, _, rfl⟩ := List.mem_map.mp hd
              rfl
        have hlim : lim ((s.clauses.take k).length + 1) = true := lim_ok (lenK (by rw [List.length_take]; omega))
        rw [List.length_take] at hlim
        simp [hcnt, hlim]
        have e1 : (s.clauses.map (cntD s)).take (k + 1) = (s.clauses.map (cntD s)).take k ++ [cntD s c] := by
          rw [List.take_succ, List.getElem?_map, List.getElem?_eq_getElem hk, hc]
          rfl
        exact hR _ _ ⟨_, _, by rw [e1]; rfl⟩
      · intro l hl
        refine ⟨_, by simp [dL, in_own h]; rfl, ?_⟩
        simp
    · rintro e ⟨s3, s4, rfl⟩
      simp [List.take_of_length_le]
  · intro o ho
    refine ⟨_, by simp [dO]; rfl, ?_⟩
    simp
end
end LW

namespace LW
open PySem PySem.Spec PyProof.Rows L2 PL PySem.W PySem.SeqAt
def scBB : Sch := .ls 2 .bb
theorem fitsBB (a b : Bool) : Fits scBB (.list [.bool a, .bool b]) := by
  unfold scBB
  simp [Fits]
section
variable {s : Sy} (h : s.Ok) (e : Env')
include h
theorem repr_sy : reprD [dSy s] = some (.d (.str (shT (dSy s)))) := repr_e h.fits (by decide) (by decide) (by decide) (.inl rfl)
theorem right_e (b : Bool) : callF m__law_right [.d (dSy s), .d (.bool b)] e = .ok (.d (.bool true)) e := by
  have cl := h.cl
  have hl : lim s.clauses.length = true := lim_ok (lenK (by omega))
  have r0 := repr_sy h
  have rbb : ∀ a b, reprD [.list [.bool a, .bool b]] = some (.d (.str (shT (.list [.bool a, .bool b])))) := fun a b => repr_e (fitsBB a b) (by decide) (by decide) (by decide) (.inr rfl)
  refine callF_of (xs := [dSy s, .bool b]) ?_ e
  refine FYes.fnM ?_
  have inn : ∀ c, cmpR .In (.int (cntO s c)) (.tuple [.int 1, .int 2]) = some (.d (.bool (decide ((1 : Int) ≤ cntO s c) && decide ((cntO s c : Int) ≤ 2)))) := fun c => by
    rw [cmp_inT _ _ rfl (by decide)]
    congr 3
    simp [PyData.eqv]
    rw [Bool.eq_iff_iff]
    simp
    omega
  simp [counted_e h, r0, hl]
  rw [lcM_map' (fun c => some (.bool (decide ((cntT s c : Int) ≤ 1))))]
  · simp [hl]
    rw [lcM_map' (fun c => some (.bool (decide ((1 : Int) ≤ cntO s c) && decide ((cntO s c : Int) ≤ 2))))]
    · simp [rbb]
      have p1 : (s.clauses.all fun x => decide ((cntT s x : Int) ≤ 1)) = plainB s := rfl
      have p2 : (s.clauses.all fun x => decide ((1 : Int) ≤ cntO s x) && decide ((cntO s x : Int) ≤ 2)) = twosB s := rfl
      simp [okR_int (k := 2) (by omega), p1, p2]
      refine Yes.forO (fun k e => ∃ s5 s6, e = [some ⟨1, .d (dSy s)⟩, some ⟨2, .d (.bool b)⟩, some ⟨0, .d (.list (s.clauses.map (cntD s)))⟩, some ⟨0, .d (.str (shT (dSy s)))⟩, some ⟨0, .d (.list [.bool (plainB s), .bool (twosB s)])⟩, s5, s6, none, none]) ⟨_, _, rfl⟩ ?_ ?_
      · rintro k hk e R ⟨s3, s4, rfl⟩ hR
        cases b with
        | true =>
          simp [is_plain_e h, is_twos_e h, atL, rbb, ne_same (fitsBB _ _)]
          exact hR _ _ ⟨_, _, rfl⟩
        | false =>
          simp [is_plain_e h, is_twos_e h, atL, rbb, ne_same (fitsBB _ _)]
          exact hR _ _ ⟨_, _, rfl⟩
      · rintro e ⟨s3, s4, rfl⟩
        simp [r0, eq_same h.fits]
    · intro c hc
      refine ⟨_, by simp [cntD, inn]; rfl, ?_⟩
      simp
  · intro c hc
    refine ⟨_, by
      simp [cntD]
      exact ⟨by omega, rfl⟩, ?_⟩
    simp
end
end LW

namespace LW
open PySem PySem.Spec PyProof.Rows L2 PL
variable {N : Nat} {t : D} {Q : W → List (Option W) → Prop}
def alpha : List Nat := List.range' 97 26
theorem alpha_S : strD (Str.ofString "abcdefghijklmnopqrstuvwxyz") = alpha.map fun c => S [c] := by rfl
theorem alpha_lim : lim (Str.length (Str.ofString "abcdefghijklmnopqrstuvwxyz")) = true := by decide
theorem alpha_L : list2D [.str (Str.ofString "abcdefghijklmnopqrstuvwxyz")] = some (.new (.list (alpha.map fun c => S [c]))) := by
  unfold list2D
  dsimp only
  rw [show lim (Str.ofString "abcdefghijklmnopqrstuvwxyz").cps.size = true from alpha_lim, alpha_S]
  rfl
theorem alpha_bd {c : Nat} (h : c ∈ alpha) : 97 ≤ c ∧ c ≤ 122 := by
  unfold alpha at h
  rw [List.mem_range'_1] at h
  omega
theorem alpha_nodup : alpha.Nodup := by decide
def basic : List (List Nat) := [[97], [98], [97, 98], [98, 97], [120], [120, 121], [120, 121, 122], [113], [113, 113], [97, 98, 99, 100, 101, 102, 103, 104], [97, 98, 99, 100, 101, 102, 103, 105], [109], [122], [107], [97, 97], [121, 101, 115]]
theorem basic_S : [PyData.str (Str.ofString "a"), .str "b", .str "ab", .str "ba", .str "x", .str "xy", .str "xyz", .str "q", .str "qq", .str "abcdefgh", .str "abcdefgi", .str "m", .str "z", .str "k", .str "aa", .str "yes"] = basic.map S := by rfl
/-- words that are apart -/
def Wds (ls : List (List Nat)) : Prop := ls.Nodup ∧ ∀ l, l ∈ ls → NmL l
theorem basic_wds : Wds basic := ⟨by decide, by unfold NmL basic; decide⟩
theorem map_erase {α β : Type} (f : α → β) : ∀ (l : List α) (k : Nat), (l.map f).eraseIdx k = (l.eraseIdx k).map f
  | [], _ => by simp
  | _ :: _, 0 => rfl
  | a :: l, k + 1 => by
    show f a :: (l.map f).eraseIdx k = _
    rw [map_erase f l k]
    rfl
def mkS (l : List Nat) : Str := ⟨l.toArray⟩
theorem mkS_inj {l m : List Nat} (h : mkS l = mkS m) : l = m := S_inj (congrArg PyData.str h)
theorem map_S (ls : List (List Nat)) : ls.map S = (ls.map mkS).map .str := by rw [List.map_map]; rfl
theorem mkS_ok {l : List Nat} (h : NmL l) : NmOk (mkS l) := by
  obtain ⟨h1, h2, h3⟩ := h
  unfold NmOk nmB mkS
  have e : Str.length ⟨l.toArray⟩ = l.length := List.size_toArray
  rw [e]
  simp only [Bool.and_eq_true, decide_eq_true_eq, List.all_eq_true]
  exact ⟨⟨by omega, by omega⟩, h3⟩
theorem tf_ix {k : Nat} (h : k < 2) : ixR (.str "tf") (.int k) = some (.d (S [if k = 0 then 116 else 102])) := by
  match k, h with
  | 0, _ => rfl
  | 1, _ => rfl
theorem S_addT {l : List Nat} {c : Nat} (h : l.length ≤ 100) : binD .Add (S l) (S [c]) = some (.d (S (l ++ [c]))) := S_add (by simp; omega)
theorem apart_w {w : List Nat} {f : Nat → List Nat} (hf : ∀ c d, f c = f d → c = d) (hl : ∀ c, c ∈ alpha → NmL (f c)) : Wds (alpha.map f) := by
  refine ⟨List.Pairwise.map _ (fun {a b} hab e => hab (hf _ _ e)) alpha_nodup, fun l hl' => ?_⟩
  obtain ⟨c, hc, rfl⟩ := List.mem_map.mp hl'
  exact hl c hc
theorem pick_alpha {k : Nat} (h : k < 26) : atI (alpha.map fun c => S [c]) (k : Int) = some (S [97 + k]) := by
  rw [atI_nat, List.getElem?_map]
  unfold alpha
  rw [List.getElem?_range' h]
  simp
theorem names_sp {m : Nat} (ht : Tk N t) (hN : N < 900000) (hm : m ≤ 14)
    (q : ∀ (ls : Nms) (t' : D) (o : Option W), ls.length = m → ls.Nodup → (∀ x, x ∈ ls → NmOk x) → Tk (N + 50) t' → Q (.o (.list (ls.map .str))) [some (.o t'), o]) : FYes m__law_names [.o t, .d (.int m)] Q := by
  unfold m__law_names
  apply FYes.fnM
  refine Yes.seq (fun e => e = [some ⟨1, .o t⟩, some ⟨2, .d (.int m)⟩, some ⟨0, .o (.list (basic.map S))⟩, none, none, none, none, none]) (fun R hR => ?_) ?_
  · have := hR _ rfl
    rw [← basic_S] at this
    simp
    exact this
  rintro _ rfl
  refine Yes.seq (fun e => ∃ t' ls s3 s4 s5 s6, e = [some ⟨1, .o t'⟩, some ⟨2, .d (.int m)⟩, some ⟨0, .o (.list (List.map S ls))⟩, s3, s4, s5, s6, none] ∧ Tk (N + 20) t' ∧ Wds ls ∧ 14 ≤ ls.length ∧ ls.length ≤ 100) (fun R hR => ?_) ?_
  · simp
    refine Yes.call (by rfl) (by rfl) (drop_sp ht (by omega) (by decide) (by decide) fun k t1 o hk ht1 => ?_)
    simp
    by_cases hk0 : k = 0
    · simp [hk0, alpha_L]
      refine Yes.call (by rfl) (by rfl) (drop_sp ht1 (by omega) (by decide) (by decide) fun k2 t2 o hk2 ht2 => ?_)
      simp [okR_nat (k := k2) (by omega), lim_ok (lenS (n := k2) (by omega))]
      refine Yes.lcM (fun j out e => ∃ t' cs, e = [some ⟨1, .o t'⟩, some ⟨2, .d (.int m)⟩, some ⟨0, .o (.list (basic.map S))⟩, some ⟨0, .d (.list (alpha.map fun c => S [c]))⟩, none, none, none, none] ∧ Tk (N + 2 + j) t' ∧ out = cs.map (fun c => S [c]) ∧ cs.length = j ∧ ∀ c, c ∈ cs → c ∈ alpha) ⟨t2, [], rfl, ht2, rfl, rfl, fun c hc => by cases hc⟩ ?_ ?_
      · rintro j d out _ R hd ⟨t3, cs, rfl, ht3, rfl, hj, hc⟩ hR
        simp only [List.getElem?_map, Option.map_eq_some_iff] at hd
        obtain ⟨i, hi, rfl⟩ := hd
        have hji := (List.getElem?_eq_some_iff.mp hi).1
        rw [List.length_range] at hji
        simp
        refine Yes.call (by rfl) (by rfl) (drop_sp ht3 (by omega) (by decide) (by decide) fun k4 t4 o hk4 ht4 => ?_)
        simp [pick_alpha (k := k4) (by omega)]
        refine hR _ _ ⟨t4, cs ++ [97 + k4], rfl, ht4, by simp, by simp [hj], fun c h => ?_⟩
        rcases List.mem_append.mp h with h | h
        · exact hc c h
        · rw [List.mem_singleton.mp h]
          unfold alpha
          rw [List.mem_range'_1]
          omega
      · rintro out _ ⟨t3, cs, rfl, ht3, rfl, hj, hc⟩
        simp at hj ht3
        have hcs : cs.length ≤ 6 := by omega
        have hca : ∀ c, c ∈ cs → 97 ≤ c ∧ c ≤ 122 := fun c h => alpha_bd (hc c h)
        have jn : joinF (.str (Str.ofString "")) [.list (cs.map fun c => S [c])] = some (.d (S cs)) := joinF_S (by rfl) (by omega)
        have tail : ∀ (ls : List (List Nat)) (t5 : D), Tk (N + 9) t5 → ls.length = 26 → ls.Nodup → (∀ l, l ∈ ls → l.length = cs.length + 1 ∧ ∀ c, c ∈ l → 97 ≤ c ∧ c ≤ 122) →
            Yes (sSeq (sSet 2 (eBin .Add (eV 2) (eLC (iSeq (eSl (eV 2) none (some (eC (.int 9))))) (.nm 6) tYes' (eBin .Add (eV 6) (eIx (eC (.str "tf")) (eCall m__law_drop [(eV 0), (eC (.int 2))]))) [6]))) sNil
              [some ⟨1, .o t5⟩, some ⟨2, .d (.int m)⟩, some ⟨0, .o (.list (ls.map S))⟩, some ⟨0, .d (.list (alpha.map fun c => S [c]))⟩, some ⟨0, .d (S cs)⟩, none, none, none]) R := by
          intro ls t5 ht5 h26 hn hl
          have c9 : cutL (ls.map S) none (some (9 : Int)) = (ls.map S).take 9 := cut_to (ls.map S) 9
          simp [c9, lim_ok (lenS (n := min 9 ls.length) (by omega))]
          rw [← List.map_take]
          refine Yes.lcM (fun j out e => ∃ t' ws, e = [some ⟨1, .o t'⟩, some ⟨2, .d (.int m)⟩, some ⟨0, .o (.list (ls.map S))⟩, some ⟨0, .d (.list (alpha.map fun c => S [c]))⟩, some ⟨0, .d (S cs)⟩, none, none, none] ∧ Tk (N + 9 + j) t' ∧ out = ws.map S ∧ ws.length = j ∧ j ≤ 9 ∧ (ls ++ ws).Nodup ∧ ∀ w, w ∈ ws → ∃ l c, l ∈ ls.take j ∧ 97 ≤ c ∧ c ≤ 122 ∧ w = l ++ [c]) ⟨t5, [], rfl, ht5, rfl, rfl, by omega, by simpa using hn, fun w hw => by cases hw⟩ ?_ ?_
          · rintro j d out _ R2 hd ⟨t6, ws, rfl, ht6, rfl, hj, _, hnw, hw⟩ hR2
            simp only [List.getElem?_map, Option.map_eq_some_iff] at hd
            obtain ⟨l, hl2, rfl⟩ := hd
            obtain ⟨hj9, hl3⟩ := List.getElem?_eq_some_iff.mp hl2
            rw [List.length_take] at hj9
            rw [List.getElem_take] at hl3
            have hlm : l ∈ ls := hl3 ▸ List.getElem_mem _
            simp
            refine Yes.call (by rfl) (by rfl) (drop_sp ht6 (by omega) (by decide) (by decide) fun k6 t6 o hk6 ht6 => ?_)
            have hl4 := (hl l hlm).1
            simp [tf_ix (k := k6) (by omega), S_addT (l := l) (c := if k6 = 0 then 116 else 102) (by omega)]
            refine hR2 _ _ ⟨t6, ws ++ [l ++ [if k6 = 0 then 116 else 102]], rfl, ht6, by simp, by simp [hj], by omega, ?_, ?_⟩
            · rw [← List.append_assoc, List.nodup_append]
              refine ⟨hnw, by simp, ?_⟩
              intro x hx y hy e
              rw [List.mem_singleton] at hy
              subst hy e
              rcases List.mem_append.mp hx with hx | hx
              · have := (hl _ hx).1
                simp at this
                omega
              · obtain ⟨l2, c2, hl5, _, _, e⟩ := hw _ hx
                have e2 : l = l2 := (List.append_inj' e rfl).1
                subst e2
                rw [← hl3] at hl5
                obtain ⟨i, hi, he⟩ := List.mem_iff_getElem.mp hl5
                rw [List.getElem_take] at he
                have := (List.getElem_inj hn).mp he
                rw [List.length_take] at hi
                omega
            · intro w hw2
              rcases List.mem_append.mp hw2 with hw2 | hw2
              · obtain ⟨l2, c2, h1, h2⟩ := hw w hw2
                exact ⟨l2, c2, by rw [show ls.take j = (ls.take (j + 1)).take j by rw [List.take_take, Nat.min_eq_left (by omega)]] at h1; exact List.mem_of_mem_take h1, h2⟩
              · rw [List.mem_singleton] at hw2
                exact ⟨l, _, by rw [List.take_succ, show ls[j]? = some l by rw [List.getElem?_eq_getElem (by omega), hl3]]; simp, by split <;> omega, by split <;> omega, hw2⟩
          · rintro out _ ⟨t6, ws, rfl, ht6, rfl, hj, hj9, hnw, hw⟩
            simp at ht6 hj
            simp [bin_addL (ls.map S) (ws.map S) (by simp; exact lenS (by omega))]
            refine hR _ ⟨t6, ls ++ ws, _, _, _, _, by rw [List.map_append], ht6.mono (by omega), ⟨hnw, ?_⟩, by simp; omega, by simp; omega⟩
            intro l hl2
            rcases List.mem_append.mp hl2 with hl2 | hl2
            · obtain ⟨h1, h2⟩ := hl l hl2
              exact ⟨by omega, by omega, h2⟩
            · obtain ⟨l2, c2, h1, h2, h3, rfl⟩ := hw l hl2
              obtain ⟨h4, h5⟩ := hl l2 (List.mem_of_mem_take h1)
              refine ⟨by simp, by simp; omega, fun c hc2 => ?_⟩
              rcases List.mem_append.mp hc2 with hc2 | hc2
              · exact h5 c hc2
              · rw [List.mem_singleton] at hc2
                subst hc2
                exact ⟨h2, h3⟩
        simp [jn, lim_ok (lenS (n := alpha.length) (by decide))]
        rw [lcM_map' (fun c => some (S (cs ++ [c])))]
        · simp
          refine Yes.call (by rfl) (by rfl) (drop_sp ht3 (by omega) (by decide) (by decide) fun k5 t5 o hk5 ht5 => ?_)
          have hfn : ∀ (f : Nat → List Nat), (∀ c d, f c = f d → c = d) → (alpha.map f).Nodup := fun f hf => List.Pairwise.map _ (fun {a b} hab e => hab (hf _ _ e)) alpha_nodup
          by_cases h5 : k5 = 0
          · simp [h5, lim_ok (lenS (n := alpha.length) (by decide))]
            rw [lcM_map' (fun c => some (S ([c] ++ cs)))]
            · have := tail (alpha.map fun c => [c] ++ cs) t5 (ht5.mono (by omega)) (by simp [alpha]) (hfn _ (by simp)) (fun l hl => by
                obtain ⟨c, hc2, rfl⟩ := List.mem_map.mp hl
                refine ⟨by simp, fun d hd => ?_⟩
                rcases List.mem_append.mp hd with hd | hd
                · rw [List.mem_singleton] at hd; subst hd; exact alpha_bd hc2
                · exact hca d hd)
              rw [List.map_map] at this
              simpa [Function.comp_def] using this
            · intro c hc
              refine ⟨_, by simp [S_add (l := [c]) (m := cs) (by simp; omega)]; rfl, ?_⟩
              simp
          · simp [h5]
            have := tail (alpha.map fun c => cs ++ [c]) t5 (ht5.mono (by omega)) (by simp [alpha]) (hfn _ (by simp)) (fun l hl => by
                obtain ⟨c, hc2, rfl⟩ := List.mem_map.mp hl
                refine ⟨by simp, fun d hd => ?_⟩
                rcases List.mem_append.mp hd with hd | hd
                · exact hca d hd
                · rw [List.mem_singleton] at hd; subst hd; exact alpha_bd hc2)
            rw [List.map_map] at this
            simpa [Function.comp_def] using this
        · intro c hc
          refine ⟨_, by simp [S_addT (l := cs) (c := c) (by omega)]; rfl, ?_⟩
          simp
    · simp [hk0]
      exact hR _ ⟨t1, basic, _, _, _, _, rfl, ht1.mono (by omega), basic_wds, by decide, by decide⟩
  · rintro _ ⟨t2, ls, s3, s4, s5, s6, rfl, ht2, hw, h1, h2⟩
    simp [okR_nat (k := m) (by omega), lim_ok (lenS (n := m) (by omega))]
    refine Yes.lcM (fun j out e => ∃ t' ws es, e = [some ⟨1, .o t'⟩, some ⟨2, .d (.int m)⟩, some ⟨0, .o (.list (List.map S ws))⟩, s3, s4, s5, s6, none] ∧ Tk (N + 20 + j) t' ∧ out = es.map S ∧ es.length = j ∧ (es ++ ws).Perm ls) ⟨t2, ls, [], rfl, ht2, rfl, rfl, .refl _⟩ ?_ ?_
    · rintro j d out _ R hd ⟨t3, ws, es, rfl, ht3, rfl, hj, hp⟩ hR
      simp only [List.getElem?_map, Option.map_eq_some_iff] at hd
      obtain ⟨i, hi, rfl⟩ := hd
      have hjm := (List.getElem?_eq_some_iff.mp hi).1
      rw [List.length_range] at hjm
      have hlen := hp.length_eq
      rw [List.length_append] at hlen
      simp
      refine Yes.call (by rfl) (by rfl) (drop_sp ht3 (by omega) (by omega) (by omega) fun k2 t4 o hk2 ht4 => ?_)
      have hk3 : k2 < ws.length := by simpa using hk2
      simp [popF_ok (ds := ws.map S) (k := k2) (by simpa using hk3) (lenS (n := (ws.map S).length) (by rw [List.length_map]; omega))]
      refine hR _ _ ⟨t4, ws.eraseIdx k2, es ++ [ws[k2]], ?_, ht4, by simp, by simp [hj], pop_perm hk3 hp⟩
      rw [map_erase]
      simp
    · rintro out _ ⟨t3, ws, es, rfl, ht3, rfl, hj, hp⟩
      simp
      simp at hj ht3
      have hn := hp.nodup_iff.mpr hw.1
      have hn2 := (List.nodup_append.mp hn).1
      have := q (es.map mkS) t3 (some (.d (.int m))) (by simp [hj]) (List.Pairwise.map _ (fun {a b} hab e => hab (mkS_inj e)) hn2) (fun x hx => ?_) (ht3.mono (by omega))
      · rw [← map_S] at this; exact this
      · obtain ⟨l, hl, rfl⟩ := List.mem_map.mp hx
        exact mkS_ok (hw.2 l (hp.mem_iff.mp (List.mem_append_left _ hl)))
end LW

namespace LW
open PySem PySem.Spec PyProof.Rows L2 PL PySem.W PySem.SeqAt
variable {N : Nat} {t : D} {Q : PL.W → List (Option PL.W) → Prop}
theorem perm_map {α β : Type} (f : α → β) : ∀ {ds : List β} {xs : List α}, ds.Perm (xs.map f) → ∃ ys : List α, ys.Perm xs ∧ ds = ys.map f
  | [], xs, h => by
    have := h.length_eq
    cases xs with
    | nil => exact ⟨[], .refl _, rfl⟩
    | cons x xs => simp at this
  | d :: ds, xs, h => by
    have hd : d ∈ xs.map f := h.mem_iff.mp (List.mem_cons_self ..)
    obtain ⟨x, hx, rfl⟩ := List.mem_map.mp hd
    obtain ⟨a, b, rfl⟩ := List.append_of_mem hx
    have h2 : (f x :: ds).Perm (f x :: (a ++ b).map f) := by
      refine h.trans ?_
      rw [List.map_append, List.map_cons, List.map_append]
      exact List.perm_middle
    obtain ⟨ys, h3, rfl⟩ := perm_map f (List.Perm.cons_inv h2)
    exact ⟨x :: ys, (h3.cons x).trans List.perm_middle.symm, rfl⟩
theorem sort_of {α : Type} (f : α → D) {s : Sch} {xs : List α} (h : ∀ x, x ∈ xs → Fits s (f x)) (hs : s.dep ≤ 64) (hn : s ≠ .nn) (hd : (xs.map f).Nodup) (hl : xs.length ≤ 1000) :
    ∃ ys : List α, ys.Perm xs ∧ Asc (ys.map f) ∧ sortedD [.list (xs.map f)] = some (.new (.list (ys.map f))) := by
  have hf : ∀ d, d ∈ xs.map f → Fits s d := fun d hd => by
    obtain ⟨x, hx, rfl⟩ := List.mem_map.mp hd
    exact h x hx
  obtain ⟨ys, h1, h2⟩ := perm_map f (sortL_perm (xs.map f))
  refine ⟨ys, h1, h2 ▸ asc_sort (fits_all hf) hd, ?_⟩
  rw [sorted_s, fits_sortable hf hs hn (by rw [List.length_map]; omega), if_pos rfl, h2]
theorem sort_strs {xs : Nms} (h : ∀ x, x ∈ xs → NmOk x) (hn : xs.Nodup) (hl : xs.length ≤ 1000) : ∃ ys : Nms, ys.Perm xs ∧ Ascn ys ∧ sortedD [.list (xs.map .str)] = some (.new (.list (ys.map .str))) := by
  obtain ⟨ys, h1, h2, h3⟩ := sort_of PyData.str (s := scN) (fun x hx => (h x hx).fits) (by decide) (fun h => nomatch h) (nodup_strs hn) hl
  exact ⟨ys, h1, (ascn_iff ys).mp ((ascB_iff _).mpr h2), h3⟩
theorem enum_get : ∀ (ds : List D) (n k : Nat), (enumFrom' n ds)[k]? = (ds[k]?).map fun d => .tuple [.int ((n + k : Nat) : Int), d]
  | [], n, k => by simp [enumFrom']
  | d :: ds, n, 0 => by simp [enumFrom']
  | d :: ds, n, k + 1 => by
    rw [enumFrom', List.getElem?_cons_succ, enum_get ds, List.getElem?_cons_succ]
    congr 1
    funext d
    congr 3
    omega
theorem enum_len : ∀ (ds : List D) (n : Nat), (enumFrom' n ds).length = ds.length
  | [], _ => rfl
  | _ :: ds, n => congrArg Nat.succ (enum_len ds _)
theorem lot_strs {xs : Nms} (ht : Tk N t) (hN : N < 900000) (hl : xs.length ≤ 100)
    (q : ∀ (ys : Nms) (t' : D) (o : Option PL.W), ys.Sublist xs → Tk (N + 101) t' → Q (.o (.list (ys.map .str))) [some (.o t'), o]) : FYes m__law_lot [.o t, .d (.list (xs.map .str))] Q :=
  lot_sp ht hN (by rw [List.length_map]; exact hl) fun es t' o hs ht' => by
    obtain ⟨ys, h1, rfl⟩ := List.sublist_map_iff.mp hs
    exact q ys t' o h1 ht'
/-- picks and owns as they are drawn -/
structure Fr (mp mo : Nat) (mc : Int) (ps : Nms) (os : List (Str × Nms)) : Prop where
  pn : ∀ p, p ∈ ps → NmOk p
  pa : Ascn ps
  pl : ps.length ≤ mp
  on : ∀ o, o ∈ os → NmOk o.1 ∧ o.1 ∉ ps ∧ o.2.Sublist ps
  oa : Ascn (os.map (·.1))
  ol : os.length ≤ mo
  oc : (os.map fun o => (2 : Int) ^ o.2.length).sum ≤ mc
theorem pop_sub {ys xs : Nms} (h : ys.Sublist xs) (k : Nat) : (ys.eraseIdx k).Sublist xs := (List.eraseIdx_sublist ys k).trans h
theorem frame_sp {mp mo : Nat} {mc : Int} (ht : Tk N t) (hN : N < 800000) (hmp : mp ≤ 6) (hmo : mo ≤ 8) (hmc : (mo : Int) ≤ mc) (hmc2 : mc ≤ 1000)
    (q : ∀ (ps : Nms) (os : List (Str × Nms)) (t' : D) (o1 o2 o3 : Option PL.W), Fr mp mo mc ps os → Tk (N + 2000) t' → Q (.d (.tuple [dNs ps, .tuple (os.map dO)])) [some (.o t'), o1, o2, o3]) : FYes m__law_frame [.o t, .d (.int mp), .d (.int mo), .d (.int mc)] Q := by
  unfold m__law_frame
  apply FYes.fnM
  simp
  refine Yes.call (by rfl) (by rfl) (drop_sp ht (by omega) (by omega) (by omega) fun k1 t1 o hk1 ht1 => ?_)
  simp
  refine Yes.call (by rfl) (by rfl) (drop_sp ht1 (by omega) (by omega) (by omega) fun k2 t2 o hk2 ht2 => ?_)
  simp
  have cast : ((k1 : Int) + k2) = ((k1 + k2 : Nat) : Int) := by omega
  rw [cast]
  refine Yes.call (by rfl) (by rfl) (names_sp ht2 (by omega) (by omega) fun ls t3 o hls hn hok ht3 => ?_)
  simp [cut_to, cut_from]
  have hd := List.take_append_drop k1 ls
  have hn2 : (ls.take k1 ++ ls.drop k1).Nodup := by rw [hd]; exact hn
  obtain ⟨nt, nd, ndis⟩ := List.nodup_append.mp hn2
  obtain ⟨ps, p1, p2, p3⟩ := sort_strs (xs := ls.take k1) (fun x hx => hok x (List.mem_of_mem_take hx)) nt (by rw [List.length_take]; omega)
  obtain ⟨os, o1, o2, o3⟩ := sort_strs (xs := ls.drop k1) (fun x hx => hok x (List.mem_of_mem_drop hx)) nd (by rw [List.length_drop]; omega)
  rw [List.map_take] at p3
  rw [List.map_drop] at o3
  simp [p3, o3, cut_from]
  have hol : os.length = k2 := by rw [o1.length_eq, List.length_drop]; omega
  have hpl : ps.length ≤ k1 := by rw [p1.length_eq, List.length_take]; omega
  have hpok : ∀ p, p ∈ ps → NmOk p := fun p hp => hok p (List.mem_of_mem_take (p1.mem_iff.mp hp))
  have hook : ∀ p, p ∈ os → NmOk p ∧ p ∉ ps := fun p hp => ⟨hok p (List.mem_of_mem_drop (o1.mem_iff.mp hp)), fun hp2 => ndis p (p1.mem_iff.mp hp2) p (o1.mem_iff.mp hp) rfl⟩
  refine Yes.forX (fun j e => ∃ (t' : D) (room : Int) (ow : List (Str × Nms)) (s10 s11 s12 : Option PL.Slot), e = [some ⟨1, .o t'⟩, some ⟨2, .d (.int mp)⟩, some ⟨3, .d (.int mo)⟩, some ⟨4, .d (.int mc)⟩, some ⟨0, .d (.int k1)⟩, some ⟨0, .d (.list (ls.map .str))⟩,
    some ⟨0, .d (.list (ps.map .str))⟩, some ⟨0, .d (.list (os.map .str))⟩, some ⟨0, .d (.int room)⟩, some ⟨0, .o (.list (ow.map dO))⟩, s10, s11, s12] ∧ Tk (N + 52 + 110 * j) t' ∧ ow.map (·.1) = os.take j ∧ (∀ o, o ∈ ow → o.2.Sublist ps) ∧
    room + (ow.map fun o => (2 : Int) ^ o.2.length).sum = mc ∧ (os.length : Int) - j ≤ room) ⟨t3, mc, [], none, none, none, rfl, ht3, rfl, (fun o ho => by cases ho), by simp, by omega⟩ ?_ ?_
  · rintro j d e R hd ⟨t4, room, ow, s10, s11, s12, rfl, ht4, how, hsub, hsum, hroom⟩ hR
    rw [enum_get, List.getElem?_map] at hd
    simp only [Option.map_map, Option.map_eq_some_iff, Function.comp_apply] at hd
    obtain ⟨name, hname, rfl⟩ := hd
    have hj := (List.getElem?_eq_some_iff.mp hname).1
    simp
    refine Yes.call (by rfl) (by rfl) (lot_strs ht4 (by omega) (by omega) fun ys t5 o hys ht5 => ?_)
    simp
    refine Yes.while (fun m e => ∃ (t' : D) (zs : Nms), e = [some ⟨1, .o t'⟩, some ⟨2, .d (.int mp)⟩, some ⟨3, .d (.int mo)⟩, some ⟨4, .d (.int mc)⟩, some ⟨0, .d (.int k1)⟩, some ⟨0, .d (.list (ls.map .str))⟩,
      some ⟨0, .d (.list (ps.map .str))⟩, some ⟨0, .d (.list (os.map .str))⟩, some ⟨0, .d (.int room)⟩, some ⟨0, .o (.list (ow.map dO))⟩, some ⟨0, .d (.int j)⟩, some ⟨0, .d (.str name)⟩, some ⟨0, .o (.list (zs.map .str))⟩] ∧ Tk (N + 52 + 110 * j + 101 + 6 - m) t' ∧ zs.Sublist ps ∧ zs.length = m ∧ m ≤ 6) (n := ys.length) (by have := hys.length_le; omega) ⟨t5, ys, rfl, ht5.mono (by have := hys.length_le; omega), hys, rfl, by have := hys.length_le; omega⟩ ?_
    rintro m e R2 ⟨t6, zs, rfl, ht6, hzs, hzl, hm6⟩ hT hF
    have b1 := bin_shl 1 (m : Int) (by omega)
    have e1 : (1 : Int) * 2 ^ ((m : Int)).toNat = 2 ^ m := by rw [Int.one_mul, Int.toNat_natCast]
    rw [e1] at b1
    simp [hzl, b1]
    by_cases hc : room - ((os.length : Int) - j - 1) < 2 ^ m
    · simp only [hc, decide_true]
      apply hT
      have hm0 : 0 < m := by
        by_cases h0 : m = 0
        · subst h0
          simp at hc
          omega
        · omega
      simp
      refine Yes.call (by rfl) (by rfl) (drop_sp ht6 (by omega) (by omega) (by omega) fun k7 t7 o hk7 ht7 => ?_)
      have hk8 : k7 < zs.length := by omega
      simp [popF_ok (ds := zs.map .str) (k := k7) (by simpa using hk8) (lenS (by rw [List.length_map]; omega))]
      refine ⟨m - 1, by omega, t7, zs.eraseIdx k7, by simp [map_erase], ?_, pop_sub hzs k7, by rw [List.length_eraseIdx]; simp [hk8]; omega, by omega⟩
      exact ht7.mono (by omega)
    · simp only [hc, decide_false]
      apply hF
      simp [hzl, b1, lim_ok (lenS (n := ow.length + 1) (by
        have := congrArg List.length how
        rw [List.length_map, List.length_take] at this
        omega))]
      have hlen : ow.length = j := by
        have := congrArg List.length how
        rw [List.length_map, List.length_take] at this
        omega
      refine hR _ _ ⟨t6, room - 2 ^ m, ow ++ [(name, zs)], _, _, _, by rw [List.map_append]; rfl, ht6.mono (by omega), ?_, ?_, ?_, ?_⟩
      · rw [List.map_append, how, List.take_succ, hname]; rfl
      · intro o ho
        rcases List.mem_append.mp ho with ho | ho
        · exact hsub o ho
        · rw [List.mem_singleton] at ho
          subst ho
          exact hzs
      · rw [List.map_append, List.sum_append]
        simp [hzl]
        omega
      · omega
  · rintro e ⟨t4, room, ow, s10, s11, s12, rfl, ht4, how, hsub, hsum, hroom⟩
    rw [enum_len, List.length_map] at *
    simp
    rw [List.take_of_length_le (Nat.le_refl _)] at how
    have hlen : ow.length = os.length := by rw [← how, List.length_map]
    refine q ps ow t4 _ _ _ ⟨hpok, p2, by omega, fun o ho => ?_, by rw [how]; exact o2, by omega, by omega⟩ (ht4.mono (by omega))
    have := hook o.1 (how ▸ List.mem_map.mpr ⟨o, ho, rfl⟩)
    exact ⟨this.1, this.2, hsub o ho⟩
end LW

namespace LW
open PySem PySem.Spec PyProof.Rows L2 PL PySem.W PySem.SeqAt
variable {N : Nat} {t : D} {Q : PL.W → List (Option PL.W) → Prop}
theorem zip_dL : ∀ (xs : Nms) (bs : List Bool), List.zipWith (fun d b => PyData.tuple [d, .bool b]) (xs.map .str) bs = (xs.zip bs).map dL
  | [], _ => by simp
  | _ :: _, [] => by simp
  | x :: xs, b :: bs => by
    rw [List.map_cons, List.zipWith_cons_cons, zip_dL xs bs]
    rfl
theorem letters_strs {xs : Nms} (ht : Tk N t) (hN : N < 900000) (hl : xs.length ≤ 100)
    (q : ∀ (c : Cls) (t' : D) (o : Option PL.W), c.map (·.1) = xs → Tk (N + 100) t' → Q (.o (.list (c.map dL))) [some (.o t'), o]) : FYes m__law_letters [.o t, .d (.list (xs.map .str))] Q :=
  letters_sp ht hN (by rw [List.length_map]; exact hl) fun bs t' o hb ht' => by
    rw [List.length_map] at hb
    rw [zip_dL]
    exact q _ t' o (List.map_fst_zip (by omega)) ht'
theorem perm_app {α β : Type} (f : α → β) {es ls : List β} {xs : List α} (h : (es ++ ls).Perm (xs.map f)) : ∃ ys zs : List α, (ys ++ zs).Perm xs ∧ es = ys.map f := by
  obtain ⟨ws, h1, h2⟩ := perm_map f h
  obtain ⟨ys, zs, rfl, h3, h4⟩ := List.map_eq_append_iff.mp h2.symm
  exact ⟨ys, zs, h1, h3.symm⟩
theorem some_strs {xs : Nms} {x : D} {m : Int} (hx : SeqOf x (xs.map .str)) (ht : Tk N t) (hN : N < 900000) (hl : xs.length ≤ 100) (hn : xs.Nodup) (hm : 0 ≤ m ∧ m ≤ 100)
    (q : ∀ (ys : Nms) (t' : D) (o1 o2 : Option PL.W), ys.Nodup → (∀ y, y ∈ ys → y ∈ xs) → (ys.length : Int) ≤ m → ys.length ≤ xs.length → Tk (N + 101) t' → Q (.o (.list (ys.map .str))) [some (.o t'), o1, o2]) : FYes m__law_some [.o t, .d x, .d (.int m)] Q :=
  some_sp hx ht hN (by rw [List.length_map]; exact hl) hm fun es ls t' o1 o2 hp hle ht' => by
    obtain ⟨ys, zs, h1, rfl⟩ := perm_app PyData.str hp
    rw [List.length_map] at hle
    have hl := h1.length_eq
    rw [List.length_append] at hl
    exact q ys t' o1 o2 (List.nodup_append.mp (h1.nodup_iff.mpr hn)).1 (fun y hy => h1.mem_iff.mp (List.mem_append_left _ hy)) hle (by omega) ht'
theorem dL_lt {l m : Str × Bool} (hne : l.1 ≠ m.1) : dataLt (dL l) (dL m) = dataLt (.str l.1) (.str m.1) := by
  unfold dL
  rw [dataLt_tuple]
  exact dataLt_all_no (by rfl) (by rw [eqv_str, decide_eq_false hne])
theorem nodup_of_map {α β : Type} (f : α → β) {xs : List α} (h : (xs.map f).Nodup) : xs.Nodup := by
  rw [List.Nodup, List.pairwise_map] at h
  exact h.imp fun {a b} hab e => hab (congrArg f e)
theorem dL_inj {l m : Str × Bool} (h : dL l = dL m) : l = m := by
  unfold dL at h
  injection h with h
  injection h with h1 h2
  injection h2 with h2
  injection h1 with h1
  injection h2 with h2
  exact Prod.ext h1 h2
theorem sort_cls {c : Cls} (h : ∀ l, l ∈ c → NmOk l.1) (hn : (c.map (·.1)).Nodup) (hl : c.length ≤ 1000) : ∃ c' : Cls, c'.Perm c ∧ Ascn (c'.map (·.1)) ∧ sortedD [.list (c.map dL)] = some (.new (.list (c'.map dL))) := by
  obtain ⟨ys, h1, h2, h3⟩ := sort_of dL (s := scL) (fun l hm => fitsL (h l hm)) (by decide) (fun h => nomatch h) (List.Pairwise.map _ (fun {a b} hab e => hab (dL_inj e)) (nodup_of_map _ hn)) hl
  refine ⟨ys, h1, ?_, h3⟩
  have hn2 : (ys.map (·.1)).Nodup := (h1.map _).nodup_iff.mpr hn
  unfold Asc at h2
  rw [List.pairwise_map] at h2
  rw [List.Nodup, List.pairwise_map] at hn2
  unfold Ascn
  rw [List.pairwise_map]
  exact (h2.and hn2).imp fun {a b} ⟨x, y⟩ => by unfold sLt; rw [← dL_lt y]; exact x
/-- a clause of some names -/
structure ClOk (ps : Nms) (os : List (Str × Nms)) (c : Cls) : Prop where
  a : Ascn (c.map (·.1))
  m : ∀ l, l ∈ c → l.1 ∈ ps ∨ l.1 ∈ os.map (·.1)
section
variable {mp mo : Nat} {mc : Int} {ps : Nms} {os : List (Str × Nms)} (F : Fr mp mo mc ps os) (h6 : mp ≤ 6) (h8 : mo ≤ 8)
include F h6 h8
theorem fr_ok : ∀ x, x ∈ ps ∨ x ∈ os.map (·.1) → NmOk x := fun x hx => by
  rcases hx with hx | hx
  · exact F.pn x hx
  · obtain ⟨o, ho, rfl⟩ := List.mem_map.mp hx
    exact (F.on o ho).1
theorem fr_apart : ∀ x, x ∈ ps → x ∈ os.map (·.1) → False := fun x hx hy => by
  obtain ⟨o, ho, rfl⟩ := List.mem_map.mp hy
  exact (F.on o ho).2.1 hx
theorem cl_end {c : Cls} (hm : ∀ l, l ∈ c → l.1 ∈ ps ∨ l.1 ∈ os.map (·.1)) (hn : (c.map (·.1)).Nodup) : ∃ c' : Cls, ClOk ps os c' ∧ sortedD [.list (c.map dL)] = some (.new (.list (c'.map dL))) := by
  have hl : (c.map (·.1)).length ≤ (ps ++ os.map (·.1)).length := nodup_len hn fun x hx => by
    obtain ⟨l, hl, rfl⟩ := List.mem_map.mp hx
    exact List.mem_append.mpr (hm l hl)
  have := F.pl
  have := F.ol
  simp only [List.length_map, List.length_append] at hl
  obtain ⟨c', h1, h2, h3⟩ := sort_cls (fun l hl => fr_ok F h6 h8 _ (hm l hl)) hn (by omega)
  exact ⟨c', ⟨h2, fun l hl => hm l (h1.mem_iff.mp hl)⟩, h3⟩
theorem own_lc (e : Env') (i j : Nat) : True := trivial
theorem any_clause_sp (ht : Tk N t) (hN : N < 800000)
    (q : ∀ (c : Cls) (t' : D) (o1 o2 : Option PL.W), ClOk ps os c → Tk (N + 400) t' → Q (.d (dC c)) [some (.o t'), o1, o2]) : FYes m__law_any_clause [.o t, .d (dNs ps), .d (.tuple (os.map dO))] Q := by
  have pl := F.pl
  have ol := F.ol
  unfold m__law_any_clause
  apply FYes.fnM
  simp [dNs, lim_ok (lenS (n := os.length) (by omega))]
  rw [lcM_map' (fun o => some (.str o.1))]
  · have e1 : (ps.map PyData.str ++ os.map fun o => .str o.1) = (ps ++ os.map (·.1)).map .str := by rw [List.map_append, List.map_map]; rfl
    simp [bin_addL (ps.map PyData.str) (os.map fun o => .str o.1) (by simp; exact lenS (by omega))]
    rw [e1]
    have hnd : (ps ++ os.map (·.1)).Nodup := List.nodup_append.mpr ⟨F.pa.nodup, F.oa.nodup, fun x hx y hy e => fr_apart F h6 h8 x hx (e ▸ hy)⟩
    refine Yes.call (by rfl) (by rfl) (some_strs (xs := ps ++ os.map (·.1)) (.inl rfl) ht (by omega) (by simp; omega) hnd (by omega) fun ys t1 o1 o2 hyn hys _ hyl ht1 => ?_)
    simp
    refine Yes.call (by rfl) (by rfl) (letters_strs ht1 (by omega) (by simp at hyl; omega) fun c t2 o hc ht2 => ?_)
    simp
    obtain ⟨c', k1, k2⟩ := cl_end F h6 h8 (c := c) (fun l hl => List.mem_append.mp (hys _ (hc ▸ List.mem_map.mpr ⟨l, hl, rfl⟩))) (hc ▸ hyn)
    simp [k2]
    exact q c' t2 _ _ k1 (ht2.mono (by omega))
  · intro o ho
    refine ⟨_, by simp [dO]; rfl, ?_⟩
    simp
theorem plain_clause_sp (ht : Tk N t) (hN : N < 800000)
    (q : ∀ (c : Cls) (t' : D) (o1 o2 : Option PL.W), ClOk ps os c → Tk (N + 400) t' → Q (.d (dC c)) [some (.o t'), o1, o2]) : FYes m__law_plain_clause [.o t, .d (dNs ps), .d (.tuple (os.map dO))] Q := by
  have pl := F.pl
  have ol := F.ol
  unfold m__law_plain_clause
  apply FYes.fnM
  simp [lim_ok (lenS (n := os.length) (by omega))]
  rw [lcM_map' (fun o => some (.str o.1))]
  · obtain ⟨on, hon⟩ : ∃ on, on = os.map (·.1) := ⟨_, rfl⟩
    have e1 : (os.map fun o => PyData.str o.1) = on.map .str := by rw [hon, List.map_map]; rfl
    have honl : on.length = os.length := by rw [hon, List.length_map]
    have honn : on.Nodup := hon ▸ F.oa.nodup
    simp
    rw [e1]
    refine Yes.call (by rfl) (by rfl) (drop_sp ht (by omega) (by omega) (by omega) fun k1 t1 o hk1 ht1 => ?_)
    have m1 : mulOk 4 (if k1 = 0 then 1 else 0) = true := mul_wide (by decide) (by split <;> decide)
    simp [m1]
    generalize hmm : (4 + 4 * if k1 = 0 then 1 else 0 : Int) = mm
    have hmm1 : 0 ≤ mm ∧ mm ≤ 8 := by rw [← hmm]; split <;> omega
    refine Yes.call (by rfl) (by rfl) (some_strs (xs := on) (.inl rfl) ht1 (by omega) (by omega) honn (by omega) fun ys t2 o1 o2 hyn hys _ hyl ht2 => ?_)
    simp
    refine Yes.call (by rfl) (by rfl) (drop_sp ht2 (by omega) (by omega) (by omega) fun k2 t3 o hk2 ht3 => ?_)
    have m2 : mulOk 3 (k2 : Int) = true := mul_wide (by decide) (by omega)
    simp [m2]
    refine Yes.call (by rfl) (by rfl) (some_strs (xs := ps) (.inr rfl) ht3 (by omega) (by omega) F.pa.nodup (by omega) fun zs t4 o1 o2 hzn hzs _ hzl ht4 => ?_)
    simp
    refine Yes.call (by rfl) (by rfl) (letters_strs ht4 (by omega) (by omega) fun c t5 o hc ht5 => ?_)
    have hcl : c.length ≤ 6 := by rw [← hc, List.length_map] at hzl; omega
    obtain ⟨d1, hd1⟩ : ∃ d1, d1 = ys.drop 1 := ⟨_, rfl⟩
    obtain ⟨k1, hk1⟩ : ∃ k1, k1 = ys.take 1 := ⟨_, rfl⟩
    have hdl : d1.length ≤ 8 := by rw [hd1, List.length_drop]; omega
    have hkl : k1.length ≤ 1 := by rw [hk1, List.length_take]; omega
    have c1 : cutL (ys.map PyData.str) (some (1 : Int)) none = d1.map .str := by rw [hd1, List.map_drop]; exact cut_from _ 1
    have c2 : cutL (ys.map PyData.str) none (some (1 : Int)) = k1.map .str := by rw [hk1, List.map_take]; exact cut_to _ 1
    simp [c1, lim_ok (lenS (n := d1.length) (by omega))]
    rw [lcM_map' (fun x => some (dL (x, false)))]
    · obtain ⟨ca, hca⟩ : ∃ ca, ca = c ++ d1.map fun x => (x, false) := ⟨_, rfl⟩
      have a1 : binD .Add (.list (c.map dL)) (.list (d1.map fun x => dL (x, false))) = some (.new (.list (ca.map dL))) := by
        rw [bin_addL _ _ (by simp; exact lenS (by omega)), hca, List.map_append, List.map_map]; rfl
      have hcal : ca.length ≤ 14 := by rw [hca]; simp; omega
      simp [a1, c2, lim_ok (lenS (n := k1.length) (by omega))]
      refine Yes.lcM (fun j out e => ∃ (t' : D) (bs : List Bool), e = [some ⟨1, .o t'⟩, some ⟨2, .d (dNs ps)⟩, some ⟨3, .d (.tuple (os.map dO))⟩, some ⟨0, .d (.list (ys.map .str))⟩, some ⟨0, .d (.list (ca.map dL))⟩, none, none] ∧ Tk (N + 310 + j) t' ∧ out = ((k1.take j).zip bs).map dL ∧ bs.length = j) ⟨t5, [], by simp [dNs], ht5.mono (by omega), by simp, rfl⟩ ?_ ?_
      · rintro j d out _ R hd ⟨t6, bs, rfl, ht6, rfl, hj⟩ hR
        simp only [List.getElem?_map, Option.map_eq_some_iff] at hd
        obtain ⟨x, hx, rfl⟩ := hd
        have hj1 := (List.getElem?_eq_some_iff.mp hx).1
        simp
        refine Yes.call (by rfl) (by rfl) (drop_sp ht6 (by omega) (by omega) (by omega) fun k7 t7 o hk7 ht7 => ?_)
        simp
        refine hR _ _ ⟨t7, bs ++ [decide (0 < k7)], rfl, ht7, ?_, by simp [hj]⟩
        rw [List.take_succ (i := j), hx]
        rw [List.zip_append (by rw [List.length_take]; omega)]
        simp [dL]
      · rintro out _ ⟨t6, bs, rfl, ht6, rfl, hj⟩
        rw [List.length_map] at hj ht6
        obtain ⟨cb, hcb⟩ : ∃ cb, cb = ca ++ k1.zip bs := ⟨_, rfl⟩
        have a2 : binD .Add (.list (ca.map dL)) (.list ((k1.zip bs).map dL)) = some (.new (.list (cb.map dL))) := by
          rw [bin_addL _ _ (by simp; exact lenS (by omega)), hcb, List.map_append]
        have hcbm : cb.map (·.1) = zs ++ d1 ++ k1 := by
          rw [hcb, hca, List.map_append, List.map_append, hc, List.map_map, List.map_fst_zip (by omega)]
          simp [Function.comp_def]
        have hys2 : (d1 ++ k1).Perm ys := by
          rw [hd1, hk1]
          exact List.perm_append_comm.trans (by rw [List.take_append_drop])
        have hcm : ∀ l, l ∈ cb → l.1 ∈ ps ∨ l.1 ∈ os.map (·.1) := fun l hl => by
          have : l.1 ∈ zs ++ d1 ++ k1 := hcbm ▸ List.mem_map.mpr ⟨l, hl, rfl⟩
          rw [List.append_assoc, List.mem_append, hys2.mem_iff] at this
          rcases this with h | h
          · exact .inl (hzs _ h)
          · exact .inr (hon ▸ hys _ h)
        have hcn : (cb.map (·.1)).Nodup := by
          rw [hcbm, List.append_assoc, List.nodup_append]
          refine ⟨hzn, hys2.nodup_iff.mpr hyn, fun x hx y hy e => ?_⟩
          subst e
          exact fr_apart F h6 h8 x (hzs x hx) (hon ▸ hys x (hys2.mem_iff.mp hy))
        obtain ⟨c', q1, q2⟩ := cl_end F h6 h8 hcm hcn
        simp [List.take_of_length_le, a2, q2]
        exact q c' t6 _ _ q1 (ht6.mono (by omega))
    · intro x hx
      refine ⟨_, by simp [dL]; rfl, ?_⟩
      simp
  · intro o ho
    refine ⟨_, by simp [dO]; rfl, ?_⟩
    simp
end
end LW

namespace LW
open PySem PySem.Spec PyProof.Rows L2 PL PySem.W PySem.SeqAt
variable {N : Nat} {t : D} {Q : PL.W → List (Option PL.W) → Prop}
theorem list_max (a b : Int) : (if a < b then b else a) = max a b := by omega
/-- what a set of clauses becomes -/
theorem set_cls {ps : Nms} {os : List (Str × Nms)} {cs : List Cls} (h : ∀ c, c ∈ cs → Fits scC (dC c)) (hl : cs.length < 64) : settable (cs.map dC) = true ∧ ∃ cs' : List Cls, sortL (uniq (cs.map dC)) = cs'.map dC ∧ (∀ c, c ∈ cs' → c ∈ cs) ∧ Asc (cs'.map dC) ∧ cs'.length ≤ cs.length := by
  have hf : ∀ d, d ∈ cs.map dC → Fits scC d := fun d hd => by
    obtain ⟨c, hc, rfl⟩ := List.mem_map.mp hd
    exact h c hc
  have st := fits_settable hf (by decide) (by decide) (.inr ⟨_, _, rfl⟩) (by rw [List.length_map]; exact hl)
  refine ⟨st, ?_⟩
  have key : ∀ es : List D, (∀ d, d ∈ es → d ∈ cs.map dC) → ∃ cs' : List Cls, es = cs'.map dC ∧ ∀ c, c ∈ cs' → c ∈ cs := by
    intro es
    induction es with
    | nil => exact fun _ => ⟨[], rfl, fun c hc => by cases hc⟩
    | cons d es ih =>
      intro hm
      obtain ⟨cs', e1, e2⟩ := ih fun x hx => hm x (List.mem_cons_of_mem _ hx)
      obtain ⟨c, hc, rfl⟩ := List.mem_map.mp (hm d (List.mem_cons_self ..))
      exact ⟨c :: cs', by rw [e1]; rfl, fun x hx => by
        rcases List.mem_cons.mp hx with rfl | hx
        · exact hc
        · exact e2 x hx⟩
  obtain ⟨cs', e1, e2⟩ := key (sortL (uniq (cs.map dC))) fun d hd => uniq_sub ((sortL_perm _).mem_iff.mp hd)
  refine ⟨cs', e1, e2, e1 ▸ asc_sort (fits_all fun d hd => hf d (uniq_sub hd)) ((uniq_apart _).imp fun {a b} hab e => hab (by rw [e])), ?_⟩
  have := uniq_len (cs.map dC)
  have h2 := (sortL_perm (uniq (cs.map dC))).length_eq
  rw [e1, List.length_map] at h2
  rw [List.length_map] at this
  omega
section
variable {mp mo : Nat} {mc : Int} {ps : Nms} {os : List (Str × Nms)} (F : Fr mp mo mc ps os) (h6 : mp ≤ 6) (h8 : mo ≤ 8)
include F h6 h8
theorem cl_fits {c : Cls} (h : ClOk ps os c) : Fits scC (dC c) := by
  have hl : (c.map (·.1)).length ≤ (ps ++ os.map (·.1)).length := nodup_len h.a.nodup fun x hx => by
    obtain ⟨l, hl, rfl⟩ := List.mem_map.mp hx
    exact List.mem_append.mpr (h.m l hl)
  have := F.pl
  have := F.ol
  simp only [List.length_map, List.length_append] at hl
  exact fitsC (fun l hl => fr_ok F h6 h8 _ (h.m l hl)) (by omega)
theorem twos_clause_sp (ht : Tk N t) (hN : N < 800000)
    (q : ∀ (c : Cls) (t' : D) (o1 o2 : Option PL.W), ClOk ps os c → Tk (N + 400) t' → Q (.d (dC c)) [some (.o t'), o1, o2]) : FYes m__law_twos_clause [.o t, .d (dNs ps), .d (.tuple (os.map dO))] Q := by
  have pl := F.pl
  have ol := F.ol
  unfold m__law_twos_clause
  apply FYes.fnM
  simp [lim_ok (lenS (n := os.length) (by omega))]
  rw [lcM_map' (fun o => some (.str o.1))]
  · obtain ⟨on, hon⟩ : ∃ on, on = os.map (·.1) := ⟨_, rfl⟩
    have e1 : (os.map fun o => PyData.str o.1) = on.map .str := by rw [hon, List.map_map]; rfl
    have honl : on.length = os.length := by rw [hon, List.length_map]
    have honn : on.Nodup := hon ▸ F.oa.nodup
    simp
    rw [e1]
    refine Yes.call (by rfl) (by rfl) (drop_sp ht (by omega) (by omega) (by omega) fun k1 t1 o hk1 ht1 => ?_)
    simp
    generalize hmm : (if (1 + if (k1 : Int) < 1 then (k1 : Int) else 1) < (os.length : Int) then (1 + if (k1 : Int) < 1 then (k1 : Int) else 1) else (os.length : Int)) = mm
    have hmm1 : 0 ≤ mm ∧ mm ≤ os.length := by rw [← hmm]; split <;> split <;> omega
    simp [okR_int (k := mm) (by omega), lim_ok (lenS (n := mm.toNat) (by omega))]
    refine Yes.lcM (fun j out e => ∃ (t' : D) (ws es : Nms), e = [some ⟨1, .o t'⟩, some ⟨2, .d (dNs ps)⟩, some ⟨3, .d (.tuple (os.map dO))⟩, some ⟨0, .o (.list (ws.map .str))⟩, none, none, none, none, none] ∧ Tk (N + 1 + j) t' ∧ out = es.map .str ∧ es.length = j ∧ (es ++ ws).Perm on) ⟨t1, on, [], rfl, ht1, rfl, rfl, .refl _⟩ ?_ ?_
    · rintro j d out _ R hd ⟨t3, ws, es, rfl, ht3, rfl, hj, hp⟩ hR
      simp only [List.getElem?_map, Option.map_eq_some_iff] at hd
      obtain ⟨i, hi, rfl⟩ := hd
      have hjm := (List.getElem?_eq_some_iff.mp hi).1
      rw [List.length_range] at hjm
      have hlen := hp.length_eq
      rw [List.length_append] at hlen
      simp
      refine Yes.call (by rfl) (by rfl) (drop_sp ht3 (by omega) (by omega) (by omega) fun k2 t4 o hk2 ht4 => ?_)
      have hk3 : k2 < ws.length := by omega
      simp [popF_ok (ds := ws.map .str) (k := k2) (by simpa using hk3) (lenS (n := (ws.map PyData.str).length) (by rw [List.length_map]; omega))]
      refine hR _ _ ⟨t4, ws.eraseIdx k2, es ++ [ws[k2]], ?_, ht4, by simp, by simp [hj], pop_perm hk3 hp⟩
      rw [map_erase]
      simp
    · rintro out _ ⟨t3, ws, es, rfl, ht3, rfl, hj, hp⟩
      simp at hj ht3
      have hes := (List.nodup_append.mp (hp.nodup_iff.mpr honn)).1
      have hesm : ∀ x, x ∈ es → x ∈ on := fun x hx => hp.mem_iff.mp (List.mem_append_left _ hx)
      simp
      refine Yes.call (by rfl) (by rfl) (drop_sp ht3 (by omega) (by omega) (by omega) fun k2 t4 o hk2 ht4 => ?_)
      have m2 : mulOk 3 (k2 : Int) = true := mul_wide (by decide) (by omega)
      simp [m2]
      refine Yes.call (by rfl) (by rfl) (some_strs (xs := ps) (.inr rfl) ht4 (by omega) (by omega) F.pa.nodup (by omega) fun zs t5 o1 o2 hzn hzs _ hzl ht5 => ?_)
      simp
      refine Yes.call (by rfl) (by rfl) (letters_strs ht5 (by omega) (by omega) fun c t6 o hc ht6 => ?_)
      simp
      refine Yes.call (by rfl) (by rfl) (letters_strs ht6 (by omega) (by omega) fun b t7 o hb ht7 => ?_)
      have hcl : c.length ≤ 6 := by rw [← hc, List.length_map] at hzl; omega
      have hbl : b.length ≤ 8 := by rw [← hb, List.length_map] at hj; omega
      obtain ⟨cb, hcb⟩ : ∃ cb, cb = c ++ b := ⟨_, rfl⟩
      have a2 : binD .Add (.list (c.map dL)) (.list (b.map dL)) = some (.new (.list (cb.map dL))) := by
        rw [bin_addL _ _ (by simp; exact lenS (by omega)), hcb, List.map_append]
      have hcbm : cb.map (·.1) = zs ++ es := by rw [hcb, List.map_append, hc, hb]
      have hcm : ∀ l, l ∈ cb → l.1 ∈ ps ∨ l.1 ∈ os.map (·.1) := fun l hl => by
        have : l.1 ∈ zs ++ es := hcbm ▸ List.mem_map.mpr ⟨l, hl, rfl⟩
        rcases List.mem_append.mp this with h | h
        · exact .inl (hzs _ h)
        · exact .inr (hon ▸ hesm _ h)
      have hcn : (cb.map (·.1)).Nodup := by
        rw [hcbm, List.nodup_append]
        refine ⟨hzn, hes, fun x hx y hy e => ?_⟩
        subst e
        exact fr_apart F h6 h8 x (hzs x hx) (hon ▸ hesm x hy)
      obtain ⟨c', q1, q2⟩ := cl_end F h6 h8 hcm hcn
      simp [a2, q2]
      exact q c' t7 _ _ q1 (ht7.mono (by omega))
  · intro o ho
    refine ⟨_, by simp [dO]; rfl, ?_⟩
    simp
theorem clauses_sp (ht : Tk N t) (hN : N < 700000)
    (q : ∀ (cs : List Cls) (t' : D) (o1 o2 : Option PL.W), (∀ c, c ∈ cs → ClOk ps os c) → Asc (cs.map dC) → cs.length ≤ 40 → Tk (N + 20000) t' → Q (.d (.tuple (cs.map dC))) [some (.o t'), o1, o2]) : FYes m__law_clauses [.o t, .d (dNs ps), .d (.tuple (os.map dO))] Q := by
  have pl := F.pl
  have ol := F.ol
  unfold m__law_clauses
  apply FYes.fnM
  simp
  refine Yes.call (by rfl) (by rfl) (drop_sp ht (by omega) (by omega) (by omega) fun kind t1 o hk1 ht1 => ?_)
  simp
  refine Yes.call (by rfl) (by rfl) (pick_sp ht1 (by omega) (by decide) (by decide) fun d t2 o hd ht2 => ?_)
  obtain ⟨n1, rfl, hn1⟩ : ∃ n : Nat, d = .int n ∧ n ≤ 40 := by
    simp at hd
    rcases hd with rfl | rfl | rfl | rfl | rfl
    · exact ⟨0, rfl, by omega⟩
    · exact ⟨1, rfl, by omega⟩
    · exact ⟨3, rfl, by omega⟩
    · exact ⟨12, rfl, by omega⟩
    · exact ⟨40, rfl, by omega⟩
  simp [okR_nat (k := n1) (by omega)]
  refine Yes.forX (fun j e => ∃ (t' : D) (cs : List Cls) (s5 : Option PL.Slot), e = [some ⟨1, .o t'⟩, some ⟨2, .d (dNs ps)⟩, some ⟨3, .d (.tuple (os.map dO))⟩, some ⟨0, .d (.int kind)⟩, some ⟨0, .o (.list (cs.map dC))⟩, s5] ∧ Tk (N + 2 + 400 * j) t' ∧ cs.length = j ∧ ∀ c, c ∈ cs → ClOk ps os c) ⟨t2, [], none, rfl, ht2, rfl, fun c hc => by cases hc⟩ ?_ ?_
  · rintro j d e R hd ⟨t3, cs, s5, rfl, ht3, hcl, hcs⟩ hR
    simp only [List.getElem?_map, Option.map_eq_some_iff] at hd
    obtain ⟨i, hi, rfl⟩ := hd
    have hjm := (List.getElem?_eq_some_iff.mp hi).1
    rw [List.length_range] at hjm
    have hlim : lim (cs.length + 1) = true := lim_ok (lenS (by omega))
    have next : ∀ (c : Cls) (t4 : D) (s5 : Option PL.Slot), ClOk ps os c → Tk (N + 2 + 400 * j + 400) t4 → R .nx [some ⟨1, .o t4⟩, some ⟨2, .d (dNs ps)⟩, some ⟨3, .d (.tuple (os.map dO))⟩, some ⟨0, .d (.int kind)⟩, some ⟨0, .o (.list (cs.map dC ++ [dC c]))⟩, s5] := fun c t4 s5 hc ht4 => hR _ _ ⟨t4, cs ++ [c], s5, by rw [List.map_append]; rfl, ht4.mono (by omega), by simp [hcl], fun x hx => by
      rcases List.mem_append.mp hx with hx | hx
      · exact hcs x hx
      · rw [List.mem_singleton] at hx; subst hx; exact hc⟩
    by_cases h0 : kind = 0
    · simp [h0]
      refine Yes.call (by rfl) (by rfl) (any_clause_sp F h6 h8 ht3 (by omega) fun c t4 o1 o2 hc ht4 => ?_)
      simp [hlim]
      have := next c t4 (some ⟨0, .d (.int i)⟩) hc ht4
      rw [h0] at this
      exact this
    · by_cases h1 : kind = 1 ∨ os.length = 0
      · have h1' : ((kind : Int) = 1 ∨ os = []) := by
          rcases h1 with h | h
          · left; omega
          · right; exact List.eq_nil_of_length_eq_zero h
        simp [h0, h1']
        refine Yes.call (by rfl) (by rfl) (plain_clause_sp F h6 h8 ht3 (by omega) fun c t4 o1 o2 hc ht4 => ?_)
        simp [hlim]
        exact next c t4 _ hc ht4
      · have h1' : ¬ ((kind : Int) = 1 ∨ os = []) := fun h => h1 (by
          rcases h with h | h
          · left; omega
          · right; rw [h]; rfl)
        simp [h0, h1']
        refine Yes.call (by rfl) (by rfl) (twos_clause_sp F h6 h8 ht3 (by omega) fun c t4 o1 o2 hc ht4 => ?_)
        simp [hlim]
        exact next c t4 _ hc ht4
  · rintro e ⟨t3, cs, s5, rfl, ht3, hcl, hcs⟩
    rw [List.length_map, List.length_range] at *
    simp
    refine Yes.call (by rfl) (by rfl) (pick_sp ht3 (by omega) (by decide) (by decide) fun d t4 o hd ht4 => ?_)
    obtain ⟨n2, rfl, hn2⟩ : ∃ n : Nat, d = .int n ∧ n ≤ 2 := by
      simp at hd
      rcases hd with rfl | rfl | rfl
      · exact ⟨0, rfl, by omega⟩
      · exact ⟨1, rfl, by omega⟩
      · exact ⟨2, rfl, by omega⟩
    simp [okR_nat (k := n2) (by omega)]
    refine Yes.forX (fun j e => ∃ (t' : D) (cs : List Cls) (s5 : Option PL.Slot), e = [some ⟨1, .o t'⟩, some ⟨2, .d (dNs ps)⟩, some ⟨3, .d (.tuple (os.map dO))⟩, some ⟨0, .d (.int kind)⟩, some ⟨0, .o (.list (cs.map dC))⟩, s5] ∧ Tk (N + 16010 + 410 * j) t' ∧ cs.length = n1 ∧ ∀ c, c ∈ cs → ClOk ps os c) ⟨t4, cs, _, rfl, ht4.mono (by omega), hcl, hcs⟩ ?_ ?_
    · rintro j d e R hd ⟨t3, cs, s5, rfl, ht3, hcl, hcs⟩ hR
      simp only [List.getElem?_map, Option.map_eq_some_iff] at hd
      obtain ⟨i, hi, rfl⟩ := hd
      have hjm := (List.getElem?_eq_some_iff.mp hi).1
      rw [List.length_range] at hjm
      have hne : cmpR .NotEq (.list (cs.map dC)) (.list []) = some (.d (.bool (!cs.isEmpty))) := by
        have hf : Fits (.ls 40 scC) (.list (cs.map dC)) := by
          simp only [Fits, List.length_map, List.mem_map]
          refine ⟨by omega, ?_⟩
          rintro d ⟨c, hc, rfl⟩
          exact cl_fits F h6 h8 (hcs c hc)
        rw [cmp_neE _ _ (fits_shaped hf (by decide)) (by decide), PyData.eqv]
        cases cs <;> simp [PyData.eqvAll]
      by_cases hc0 : cs = []
      · subst hc0
        simp at hne
        simp [hne]
        exact hR .nx _ ⟨t3, [], _, rfl, ht3.mono (by omega), hcl, fun c hc => by cases hc⟩
      · have hpos : 0 < cs.length := List.length_pos_iff.mpr hc0
        simp [hne, hc0]
        refine Yes.call (by rfl) (by rfl) (any_clause_sp F h6 h8 ht3 (by omega) fun c t4 o1 o2 hc ht4 => ?_)
        simp
        refine Yes.call (by rfl) (by rfl) (drop_sp ht4 (by omega) (by omega) (by omega) fun k5 t5 o hk5 ht5 => ?_)
        have hk6 : k5 < (cs.map dC).length := by rw [List.length_map]; omega
        simp [stAt, stD, ixN_ok (n := cs.length) (k := k5) (by omega)]
        refine hR _ _ ⟨t5, cs.set k5 c, _, by rw [List.map_set], ht5.mono (by omega), by simp [hcl], fun x hx => ?_⟩
        rcases List.mem_or_eq_of_mem_set hx with hx | rfl
        · exact hcs x hx
        · exact hc
    · rintro e ⟨t3, cs, s5, rfl, ht3, hcl, hcs⟩
      rw [List.length_map, List.length_range] at *
      obtain ⟨st, cs', e1, e2, e3, e4⟩ := set_cls (ps := ps) (os := os) (cs := cs) (fun c hc => cl_fits F h6 h8 (hcs c hc)) (by omega)
      simp [st, e1]
      exact q cs' t3 _ _ (fun c hc => hcs c (e2 c hc)) e3 (by omega) (ht3.mono (by omega))
end
end LW

namespace LW
open PySem PySem.Spec PyProof.Rows L2 PL PySem.W PySem.SeqAt
variable {N : Nat} {t : D} {Q : PL.W → List (Option PL.W) → Prop}
theorem sum_mod : True := trivial
theorem tank_sp {ns : List Int} {k : Nat} (hn : ns.length ≤ 63) (hk : k ≤ 100) (q : ∀ (t' : D) (o1 o2 : Option PL.W), Tk 0 t' → Q (.o t') [o1, o2]) : FYes m__law_tank [.d (.list (ns.map .int)), .d (.int k)] Q := by
  unfold m__law_tank
  apply FYes.fnM
  have m0 : mulOk 9337 (k : Int) = true := mul_wide (by decide) (by omega)
  have m1 : ∀ x : Int, mulOk x 60013 = true := fun x => by unfold mulOk; simp
  have m2 : ∀ x : Int, mulOk x 89 = true := fun x => by unfold mulOk; simp
  have m3 : mulOk 7457 (k : Int) = true := mul_wide (by decide) (by omega)
  have go : ∀ (c : Int), Yes (((PL.sSeq (sSet 3 (eFz (eB sumD [(eLC (iSeq (eV 0)) (.nm 4) tYes' (eBin .Mod (eB intD [(eV 4)]) (eBin .Add (eBin .Pow (eC (.int 10)) (eC (.int 24))) (eC (.int 7)))) [4])]))) (sSeq (sRet (eLst [(eB maxD [(eC (.int 0)), (eBin .Sub (eV 2) (eBin .Pow (eC (.int 10)) (eC (.int 18))))]), (eBin .Mod (eB intD [(eBin .Add (eBin .Add (eBin .Mult (eB absD [(eV 2)]) (eC (.int 60013))) (eBin .Mult (eV 3) (eC (.int 89)))) (eBin .Mult (eC (.int 7457)) (eV 1)))]) (eBin .Add (eBin .Pow (eC (.int 10)) (eC (.int 30))) (eC (.int 57)))), (eC (.int 0))])) sNil)))
      [some ⟨1, .d (.list (ns.map .int))⟩, some ⟨2, .d (.int k)⟩, some ⟨0, .d (.int c)⟩, none, none]) (fin 2 Q) := by
    intro c
    simp [lim_ok (lenS (n := ns.length) (by omega)), bin_pow]
    rw [lcM_map' (fun n => some (.int (n.fmod (10 ^ 24 + 7))))]
    · simp [m1, m2, m3, bin_pow]
      generalize (ns.map fun x => x.fmod 1000000000000000000000007).sum = b
      refine q _ _ _ ⟨_, _, _, rfl, ?_, ?_, by decide, by decide⟩
      · split <;> omega
      · have := fmod_bd (((if c < 0 then -c else c) * 60013 + b * 89 + 7457 * (k : Int))) (n := 1000000000000000000000000000057) (by decide)
        omega
    · intro n hn
      refine ⟨_, by simp [bin_pow]; rfl, ?_⟩
      simp
  by_cases h : (k : Int) < ns.length
  · have hk2 : k < ns.length := by omega
    have := go ns[k]
    simp [h, atI_nat, hk2]
    simpa using this
  · have := go (9337 * (k : Int) + 71)
    simp [h, m0]
    simpa using this
theorem law_sp' {ns : List Int} (hn : ns.length ≤ 63) : FYes m_law [.d (.list (ns.map .int))] fun r _ => r = .d (.bool true) := by
  unfold m_law
  apply FYes.fnM
  simp
  generalize hm : (if 1 < (if (ns.length : Int) < 4 then (ns.length : Int) else 4) then (if (ns.length : Int) < 4 then (ns.length : Int) else 4) else 1) = mm
  have hmm : 0 ≤ mm ∧ mm ≤ 4 := by rw [← hm]; split <;> (try split) <;> omega
  simp [okR_int (k := mm) (by omega)]
  refine Yes.forX (fun j e => ∃ (s1 s2 s3 s4 s5 s6 : Option PL.Slot), e = [some ⟨1, .d (.list (ns.map .int))⟩, s1, s2, s3, s4, s5, s6]) ⟨_, _, _, _, _, _, rfl⟩ ?_ ?_
  · rintro j d e R hd ⟨s1, s2, s3, s4, s5, s6, rfl⟩ hR
    simp only [List.getElem?_map, Option.map_eq_some_iff] at hd
    obtain ⟨i, hi, rfl⟩ := hd
    obtain ⟨hi1, hi2⟩ := List.getElem?_eq_some_iff.mp hi
    rw [List.length_range] at hi1
    rw [List.getElem_range] at hi2
    subst hi2
    simp
    refine Yes.call (by rfl) (by rfl) (tank_sp hn (by omega) fun t1 o1 o2 ht1 => ?_)
    simp [okR_int (k := 4) (by omega)]
    refine Yes.forX (fun j' e => ∃ (t' : D) (s3 s4 s5 s6 : Option PL.Slot), e = [some ⟨1, .d (.list (ns.map .int))⟩, some ⟨0, .d (.int j)⟩, some ⟨0, .o t'⟩, s3, s4, s5, s6] ∧ Tk (25000 * j') t') ⟨t1, _, _, _, _, rfl, ht1⟩ ?_ ?_
    · rintro j' d e R2 hd ⟨t2, s3, s4, s5, s6, rfl, ht2⟩ hR2
      simp only [List.getElem?_map, Option.map_eq_some_iff] at hd
      obtain ⟨i', hi', rfl⟩ := hd
      have hi3 := (List.getElem?_eq_some_iff.mp hi').1
      rw [List.length_range] at hi3
      simp
      refine Yes.call (by rfl) (by rfl) (frame_sp (mp := 6) (mo := 8) (mc := 120) ht2 (by omega) (by omega) (by omega) (by omega) (by omega) fun ps os t3 o1 o2 o3 F ht3 => ?_)
      simp [dNs]
      refine Yes.call (by rfl) (by rfl) (clauses_sp F (by omega) (by omega) ht3 (by omega) fun cs t4 o1 o2 hcs hca hcl ht4 => ?_)
      simp
      refine Yes.call (by rfl) (by rfl) (drop_sp ht4 (by omega) (by omega) (by omega) fun k5 t5 o hk5 ht5 => ?_)
      have ok : Sy.Ok ⟨ps, os, cs⟩ := ⟨F.pn, F.pa, F.pl, fun o ho => ⟨(F.on o ho).1, (F.on o ho).2.1, F.pa.sublist (F.on o ho).2.2, fun x hx => (F.on o ho).2.2.subset hx⟩, F.oa, F.ol, F.oc, fun c hc => ⟨(hcs c hc).a, (hcs c hc).m⟩, hca, hcl⟩
      have := right_e ok
      unfold dSy dNs at this
      simp [this]
      exact hR2 .nx _ ⟨t5, _, _, _, _, rfl, ht5.mono (by omega)⟩
    · rintro e ⟨t2, s3, s4, s5, s6, rfl, ht2⟩
      simp
      exact hR _ _ ⟨_, _, _, _, _, _, rfl⟩
  · rintro e ⟨s1, s2, s3, s4, s5, s6, rfl⟩
    simp
theorem law_true : ∀ ns : List Int, ns.length ≤ 63 → ∃ outs, m_law [.d (.list (ns.map .int))] = .ok (.d (.bool true)) outs := fun ns hn => by
  obtain ⟨r, o, h, rfl⟩ := law_sp' hn
  exact ⟨o, h⟩
end LW

open PySem PySem.W PyProof.Rows
set_option maxRecDepth 100000 in
set_option maxHeartbeats 8000000 in
theorem PySem.Challenge.cw_onlytheseen_k10_plain_ones_and_twos_told_holds : PySem.Challenge.rw_onlytheseen_k10_plain_ones_and_twos_told.Holds := by
  w_on; o_law; k_head; (case hw => w_witness2)
  k_fill
  refine PL.walkG (l := PySem.Challenge.rw_onlytheseen_k10_plain_ones_and_twos_told) (k := 9) (st := LW.top 43) (f := LW.m_law) rfl rfl rfl ⟨rfl, by decide, by decide⟩ (fun w h Y => PySem.W.kIn_of Y) ?F LW.law_true
  case F =>
    intro w mg h KX G base _ _
    refine' LW.all_mk KX G ?a0 ?l0 ?c0 ?k0 ?a1 ?l1 ?c1 ?k1 ?a2 ?l2 ?c2 ?k2 ?a3 ?l3 ?c3 ?k3 ?a4 ?l4 ?c4 ?k4 ?a5 ?l5 ?c5 ?k5 ?a6 ?l6 ?c6 ?k6 ?a7 ?l7 ?c7 ?k7 ?a8 ?l8 ?c8 ?k8 ?a9 ?l9 ?c9 ?k9 ?a10 ?l10 ?c10 ?k10 ?a11 ?l11 ?c11 ?k11 ?a12 ?l12 ?c12 ?k12 ?a13 ?l13 ?c13 ?k13 ?a14 ?l14 ?c14 ?k14 ?a15 ?l15 ?c15 ?k15 ?a16 ?l16 ?c16 ?k16 ?a17 ?l17 ?c17 ?k17 ?a18 ?l18 ?c18 ?k18 ?a19 ?l19 ?c19 ?k19 ?a20 ?l20 ?c20 ?k20 ?a21 ?l21 ?c21 ?k21 ?a22 ?l22 ?c22 ?k22 ?a23 ?l23 ?c23 ?k23 ?a24 ?l24 ?c24 ?k24 ?a25 ?l25 ?c25 ?k25 ?a26 ?l26 ?c26 ?k26 ?a27 ?l27 ?c27 ?k27 ?a28 ?l28 ?c28 ?k28 ?a29 ?l29 ?c29 ?k29 ?a30 ?l30 ?c30 ?k30 ?z_abs ?z_all ?z_bool ?z_dict ?z_enumerate ?z_int ?z_isinstance ?z_len ?z_list ?z_max ?z_min ?z_range ?z_repr ?z_set ?z_sorted ?z_str ?z_sum ?z_tuple ?y_LETTERS ?y_MOST_CLAUSES ?y_MOST_COPIES ?y_MOST_LETTERS ?y_MOST_OWNS ?y_MOST_PICKS base
    (case a0 => k_is)
    (case l0 => k_is)
    (case c0 => k_is)
    (case k0 => k_is)
    (case a1 => k_is)
    (case l1 => k_is)
    (case c1 => k_is)
    (case k1 => k_is)
    (case a2 => k_is)
    (case l2 => k_is)
    (case c2 => k_is)
    (case k2 => k_is)
    (case a3 => k_is)
    (case l3 => k_is)
    (case c3 => k_is)
    (case k3 => k_is)
    (case a4 => k_is)
    (case l4 => k_is)
    (case c4 => k_is)
    (case k4 => k_is)
    (case a5 => k_is)
    (case l5 => k_is)
    (case c5 => k_is)
    (case k5 => k_is)
    (case a6 => k_is)
    (case l6 => k_is)
    (case c6 => k_is)
    (case k6 => k_is)
    (case a7 => k_is)
    (case l7 => k_is)
    (case c7 => k_is)
    (case k7 => k_is)
    (case a8 => k_is)
    (case l8 => k_is)
    (case c8 => k_is)
    (case k8 => k_is)
    (case a9 => k_is)
    (case l9 => k_is)
    (case c9 => k_is)
    (case k9 => k_is)
    (case a10 => k_is)
    (case l10 => k_is)
    (case c10 => k_is)
    (case k10 => k_is)
    (case a11 => k_is)
    (case l11 => k_is)
    (case c11 => k_is)
    (case k11 => k_is)
    (case a12 => k_is)
    (case l12 => k_is)
    (case c12 => k_is)
    (case k12 => k_is)
    (case a13 => k_is)
    (case l13 => k_is)
    (case c13 => k_is)
    (case k13 => k_is)
    (case a14 => k_is)
    (case l14 => k_is)
    (case c14 => k_is)
    (case k14 => k_is)
    (case a15 => k_is)
    (case l15 => k_is)
    (case c15 => k_is)
    (case k15 => k_is)
    (case a16 => k_is)
    (case l16 => k_is)
    (case c16 => k_is)
    (case k16 => k_is)
    (case a17 => k_is)
    (case l17 => k_is)
    (case c17 => k_is)
    (case k17 => k_is)
    (case a18 => k_is)
    (case l18 => k_is)
    (case c18 => k_is)
    (case k18 => k_is)
    (case a19 => k_is)
    (case l19 => k_is)
    (case c19 => k_is)
    (case k19 => k_is)
    (case a20 => k_is)
    (case l20 => k_is)
    (case c20 => k_is)
    (case k20 => k_is)
    (case a21 => k_is)
    (case l21 => k_is)
    (case c21 => k_is)
    (case k21 => k_is)
    (case a22 => k_is)
    (case l22 => k_is)
    (case c22 => k_is)
    (case k22 => k_is)
    (case a23 => k_is)
    (case l23 => k_is)
    (case c23 => k_is)
    (case k23 => k_is)
    (case a24 => k_is)
    (case l24 => k_is)
    (case c24 => k_is)
    (case k24 => k_is)
    (case a25 => k_is)
    (case l25 => k_is)
    (case c25 => k_is)
    (case k25 => k_is)
    (case a26 => k_is)
    (case l26 => k_is)
    (case c26 => k_is)
    (case k26 => k_is)
    (case a27 => k_is)
    (case l27 => k_is)
    (case c27 => k_is)
    (case k27 => k_is)
    (case a28 => k_is)
    (case l28 => k_is)
    (case c28 => k_is)
    (case k28 => k_is)
    (case a29 => k_is)
    (case l29 => k_is)
    (case c29 => k_is)
    (case k29 => k_is)
    (case a30 => k_is)
    (case l30 => k_is)
    (case c30 => k_is)
    (case k30 => k_is)
    (case z_abs => k_is)
    (case z_all => k_is)
    (case z_bool => k_is)
    (case z_dict => k_is)
    (case z_enumerate => k_is)
    (case z_int => k_is)
    (case z_isinstance => k_is)
    (case z_len => k_is)
    (case z_list => k_is)
    (case z_max => k_is)
    (case z_min => k_is)
    (case z_range => k_is)
    (case z_repr => k_is)
    (case z_set => k_is)
    (case z_sorted => k_is)
    (case z_str => k_is)
    (case z_sum => k_is)
    (case z_tuple => k_is)
    (case y_LETTERS => k_is)
    (case y_MOST_CLAUSES => k_is)
    (case y_MOST_COPIES => k_is)
    (case y_MOST_LETTERS => k_is)
    (case y_MOST_OWNS => k_is)
    (case y_MOST_PICKS => k_is)

