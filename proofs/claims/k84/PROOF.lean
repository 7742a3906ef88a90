import PyProof.Rows.All
import Wide.All
import OpenK.AllK
import Wide.FinOn
import HandS.ForMost
import HandS.Exc
import HandS.ExcOwn
import HandS.WordsExc
import HandS.Defaults
import HandS.IsInst
import HandS.HeadHook1
import HandS.Flow
import HandS.CallSlots
import HandS.TupAny
import HandS.TupMul
import HandS.Conv
import HandS.Style
import HandS.Zip
import HandS.Ends
import HandS.Head0
import HandS.Head1
import HandS.Head2
import HandS.HeadEnd
import HandS.HeadHook2
import PySem.Challenge.RW_owedagain_k84_whole_rules_read_off_days
set_option Elab.async false
set_option linter.all false
set_option maxRecDepth 100000
set_option maxHeartbeats 4000000
set_option autoImplicit false
/-! Cl, part A: pure values, slots, the relation to the abstract heap, the judgements. -/
namespace Cl
open PySem PySem.Spec PyProof.Rows L2

/-! ### values -/
inductive D where
  | non | bl (b : Bool) | int (i : Int) | str (x : Str)
  | lst (xs : List D) | tup (xs : List D) | scr (xs : List D)
  | ins (c : Str) (fs : List (Str × D))
  | ty (n : String) | glo (x : Str)
  deriving Inhabited

/-- what a slot holds: a frozen value; an owned object; one that is lent by the caller -/
inductive Sl where
  | fz (d : D) | ow (d : D) | le (d : D)
  deriving Inhabited
abbrev CS := List (Option Sl)
inductive Rs (α : Type) where
  | ok (a : α) (s : CS)
  | exc (c : Str) (fs : List (Str × D)) (s : CS)
  | bad
/-- a statement's end -/
inductive Fl where
  | nx (s : CS) | ret (r : Sl) (s : CS) | brk (s : CS) | ct (s : CS)
  | exc (c : Str) (fs : List (Str × D)) (s : CS)
  | bad
/-- a call's end: the result, what the lent ones hold now -/
inductive GR where
  | ok (r : Sl) (outs : List D)
  | exc (c : Str) (fs : List (Str × D)) (outs : List D)
  | bad

def Rs.bind {α β : Type} : Rs α → (α → CS → Rs β) → Rs β
  | .ok a s, k => k a s
  | .exc c fs s, _ => .exc c fs s
  | .bad, _ => .bad

@[simp] theorem Rs.bind_ok {α β : Type} (a : α) (s : CS) (k : α → CS → Rs β) : Rs.bind (.ok a s) k = k a s := rfl
@[simp] theorem Rs.bind_exc {α β : Type} (c : Str) (fs : List (Str × D)) (s : CS) (k : α → CS → Rs β) : Rs.bind (.exc c fs s) k = .exc c fs s := rfl
@[simp] theorem Rs.bind_bad {α β : Type} (k : α → CS → Rs β) : Rs.bind .bad k = .bad := rfl

/-! ### what stands for what -/
def Sub (F F' : Hp) : Prop := ∀ a o, F a = some o → F' a = some o
theorem Sub.refl (F : Hp) : Sub F F := fun _ _ h => h
theorem Sub.trans {F F1 F2 : Hp} (a : Sub F F1) (b : Sub F1 F2) : Sub F F2 := fun x o h => b x o (a x o h)
theorem Sub.upd {F : Hp} {a : Addr} {o : HO} (h : F a = none) : Sub F (upd F a o) := fun b u e => by
  rw [upd_ne (ne_of_none e h)]; exact e
theorem Sub.rd {F F' : Hp} (s : Sub F F') {a : Addr} {u : HO} (h : Rd F a u) : Rd F' a u := by
  rcases h with h | ⟨o, h⟩
  · exact .inl (s _ _ h)
  · exact .inr ⟨o, s _ _ h⟩
theorem Sub.sqL {K : PySem.W.Frag} {F F' : Hp} (s : Sub F F') {a : Addr} {xs : List V} (h : SqL K F a xs) : SqL K F' a xs := h.imp (s.rd ·) id
theorem Sub.sqT {K : PySem.W.Frag} {F F' : Hp} (s : Sub F F') {a : Addr} {xs : List V} (h : SqT K F a xs) : SqT K F' a xs := h.imp (s.rd ·) id

mutual
inductive Rep (K : PySem.W.Frag) (F : Hp) : V → D → Prop
  | non : Rep K F .non .non
  | bl (b : Bool) : Rep K F (.bl b) (.bl b)
  | int (i : Int) : Rep K F (.int i) (.int i)
  | str (x : Str) : Rep K F (.str x) (.str x)
  | ty (n : String) : Rep K F (.ty n) (.ty n)
  | glo (x : Str) : Rep K F (.ref (He.ga K x)) (.glo x)
  | lst {a : Addr} {vs : List V} {ds : List D} : F a = some (.lst vs) → RepA K F vs ds → Rep K F (.ref a) (.lst ds)
  | scr {a : Addr} {vs : List V} {ds : List D} : SqL K F a vs → RepA K F vs ds → Rep K F (.ref a) (.scr ds)
  | tup {a : Addr} {vs : List V} {ds : List D} : SqT K F a vs → RepA K F vs ds → Rep K F (.ref a) (.tup ds)
  | ins {a dx : Addr} {fvs : List (Str × V)} {c : Str} {fs : List (Str × D)} : F a = some (.ins (He.ga K c) dx fvs) → RepF K F fvs fs → Rep K F (.ref a) (.ins c fs)
inductive RepA (K : PySem.W.Frag) (F : Hp) : List V → List D → Prop
  | nil : RepA K F [] []
  | cons {v : V} {vs : List V} {d : D} {ds : List D} : Rep K F v d → RepA K F vs ds → RepA K F (v :: vs) (d :: ds)
inductive RepF (K : PySem.W.Frag) (F : Hp) : List (Str × V) → List (Str × D) → Prop
  | nil : RepF K F [] []
  | cons {f : Str} {v : V} {vs : List (Str × V)} {d : D} {ds : List (Str × D)} : Rep K F v d → RepF K F vs ds → RepF K F ((f, v) :: vs) ((f, d) :: ds)
end
section
variable {K : PySem.W.Frag} {F F' : Hp}
mutual
theorem Rep.mono (s : Sub F F') : ∀ {v : V} {d : D}, Rep K F v d → Rep K F' v d
  | _, _, .non => .non
  | _, _, .bl b => .bl b
  | _, _, .int i => .int i
  | _, _, .str x => .str x
  | _, _, .ty n => .ty n
  | _, _, .glo x => .glo x
  | _, _, .lst h r => .lst (s _ _ h) (RepA.mono s r)
  | _, _, .scr h r => .scr (s.sqL h) (RepA.mono s r)
  | _, _, .tup h r => .tup (s.sqT h) (RepA.mono s r)
  | _, _, .ins h r => .ins (s _ _ h) (RepF.mono s r)
theorem RepA.mono (s : Sub F F') : ∀ {vs : List V} {ds : List D}, RepA K F vs ds → RepA K F' vs ds
  | _, _, .nil => .nil
  | _, _, .cons h r => .cons (Rep.mono s h) (RepA.mono s r)
theorem RepF.mono (s : Sub F F') : ∀ {vs : List (Str × V)} {ds : List (Str × D)}, RepF K F vs ds → RepF K F' vs ds
  | _, _, .nil => .nil
  | _, _, .cons h r => .cons (Rep.mono s h) (RepF.mono s r)
end
theorem RepA.len : ∀ {vs : List V} {ds : List D}, RepA K F vs ds → vs.length = ds.length
  | _, _, .nil => rfl
  | _, _, .cons _ r => congrArg Nat.succ (RepA.len r)
theorem RepA.get : ∀ {vs : List V} {ds : List D} {i : Nat} {d : D}, RepA K F vs ds → ds[i]? = some d → ∃ v, vs[i]? = some v ∧ Rep K F v d
  | _, _, _, _, .nil, e => by simp at e
  | _, _, 0, _, .cons h _, e => by simp at e; subst e; exact ⟨_, rfl, h⟩
  | _, _, i + 1, d, .cons _ r, e => by
    obtain ⟨v, h1, h2⟩ := RepA.get (i := i) (d := d) r (by simpa using e)
    exact ⟨v, by simpa using h1, h2⟩
theorem RepA.getV : ∀ {vs : List V} {ds : List D} {i : Nat} {v : V}, RepA K F vs ds → vs[i]? = some v → ∃ d, ds[i]? = some d ∧ Rep K F v d
  | _, _, _, _, .nil, e => by simp at e
  | _, _, 0, _, .cons h _, e => by simp at e; subst e; exact ⟨_, rfl, h⟩
  | _, _, i + 1, v, .cons _ r, e => by
    obtain ⟨d, h1, h2⟩ := RepA.getV (i := i) (v := v) r (by simpa using e)
    exact ⟨d, by simpa using h1, h2⟩
theorem RepA.append : ∀ {vs ws : List V} {ds es : List D}, RepA K F vs ds → RepA K F ws es → RepA K F (vs ++ ws) (ds ++ es)
  | _, _, _, _, .nil, s => s
  | _, _, _, _, .cons r t, s => .cons r (RepA.append t s)
theorem RepA.take : ∀ {vs : List V} {ds : List D} (n : Nat), RepA K F vs ds → RepA K F (vs.take n) (ds.take n)
  | _, _, 0, _ => .nil
  | _, _, _ + 1, .nil => .nil
  | _, _, n + 1, .cons r t => .cons r (RepA.take n t)
theorem RepA.drop : ∀ {vs : List V} {ds : List D} (n : Nat), RepA K F vs ds → RepA K F (vs.drop n) (ds.drop n)
  | _, _, 0, r => r
  | _, _, _ + 1, .nil => .nil
  | _, _, n + 1, .cons _ t => RepA.drop n t
theorem RepA.set {v : V} {d : D} (h : Rep K F v d) : ∀ {vs : List V} {ds : List D} (i : Nat), RepA K F vs ds → RepA K F (vs.set i v) (ds.set i d)
  | _, _, _, .nil => .nil
  | _, _, 0, .cons _ t => .cons h t
  | _, _, i + 1, .cons q t => .cons q (RepA.set h i t)
theorem RepA.reverse {vs : List V} {ds : List D} (h : RepA K F vs ds) : RepA K F vs.reverse ds.reverse := by
  induction vs generalizing ds with
  | nil => cases h; exact .nil
  | cons v vs ih =>
    cases h with
    | cons r t =>
      rw [List.reverse_cons, List.reverse_cons]
      exact (ih t).append (.cons r .nil)
theorem RepF.lookup {f : Str} : ∀ {vs : List (Str × V)} {ds : List (Str × D)} {d : D}, RepF K F vs ds → ds.lookup f = some d → ∃ v, vs.lookup f = some v ∧ Rep K F v d
  | _, _, _, .nil, e => by simp at e
  | _, _, d, .cons (f := g) (vs := vs) (ds := ds) h r, e => by
    rw [List.lookup_cons] at e ⊢
    cases hb : f == g with
    | true => rw [hb] at e; simp at e; subst e; exact ⟨_, rfl, h⟩
    | false => rw [hb] at e; exact RepF.lookup r e
end

/-- an owned object: at a, with what it holds frozen -/
def OwnObj (K : PySem.W.Frag) (F H : Hp) (a : Addr) : D → Prop
  | .lst ds => ∃ vs, H a = some (.lst vs) ∧ RepA K F vs ds
  | .ins c fs => ∃ dx fvs, H a = some (.ins (He.ga K c) dx fvs) ∧ RepF K F fvs fs
  | _ => False
theorem OwnObj.mono {K : PySem.W.Frag} {F F' H H' : Hp} {a : Addr} {d : D} (o : OwnObj K F H a d) (s : Sub F F') (h : H' a = H a) : OwnObj K F' H' a d := by
  cases d with
  | lst ds => obtain ⟨vs, h1, h2⟩ := o; exact ⟨vs, h.trans h1, h2.mono s⟩
  | ins c fs => obtain ⟨dx, fvs, h1, h2⟩ := o; exact ⟨dx, fvs, h.trans h1, h2.mono s⟩
  | _ => exact o.elim
theorem OwnObj.ex {K : PySem.W.Frag} {F H : Hp} {a : Addr} {d : D} (o : OwnObj K F H a d) : ∃ u, H a = some u := by
  cases d with
  | lst ds => obtain ⟨vs, h1, h2⟩ := o; exact ⟨_, h1⟩
  | ins c fs => obtain ⟨dx, fvs, h1, h2⟩ := o; exact ⟨_, h1⟩
  | _ => exact o.elim
theorem OwnObj.rep {K : PySem.W.Frag} {F F' H : Hp} {a : Addr} {d : D} {u : HO} (o : OwnObj K F H a d) (s : Sub F F') (h : H a = some u) (e : F' a = some u) : Rep K F' (.ref a) d := by
  cases d with
  | lst ds => obtain ⟨vs, h1, h2⟩ := o; rw [h] at h1; cases h1; exact .lst e (h2.mono s)
  | ins c fs => obtain ⟨dx, fvs, h1, h2⟩ := o; rw [h] at h1; cases h1; exact .ins e (h2.mono s)
  | _ => exact o.elim

/-! ### the entry; the relation -/
structure Bs where
  F0 : Hp
  H0 : Hp
  lent : List (Nat × Addr)
abbrev Bs.la (B : Bs) : List Addr := B.lent.map (·.2)
/-- slot i holds an object that is not frozen -/
def Hot (ŝ : CS) (i : Nat) (d : D) : Prop := ŝ[i]? = some (some (.ow d)) ∨ ŝ[i]? = some (some (.le d))
structure Rel (K : PySem.W.Frag) (B : Bs) (F : Hp) (ŝ : CS) (σ : L2.St) (H : Hp) : Prop where
  sub : Sub F H
  base : Sub B.F0 F
  len : σ.length = ŝ.length
  fz : ∀ (i : Nat) d, ŝ[i]? = some (some (.fz d)) → ∃ v, σ[i]? = some (some v) ∧ Rep K F v d
  hot : ∀ (i : Nat) d, Hot ŝ i d → ∃ a, σ[i]? = some (some (.ref a)) ∧ OwnObj K F H a d ∧ F a = none
  own : ∀ (i : Nat) d a, ŝ[i]? = some (some (.ow d)) → σ[i]? = some (some (.ref a)) → B.H0 a = none
  sep : ∀ (i j : Nat) a d e, Hot ŝ i d → Hot ŝ j e → σ[i]? = some (some (.ref a)) → σ[j]? = some (some (.ref a)) → i = j
  frame : ∀ a o, B.H0 a = some o → a ∉ B.la → H a = some o
  cold : ∀ a o, B.H0 a = some o → B.F0 a = none → F a = none
  lent : ∀ (i : Nat) a, (i, a) ∈ B.lent → σ[i]? = some (some (.ref a)) ∧ ∃ d, ŝ[i]? = some (some (.le d))
  lentB : ∀ (i : Nat) d a, ŝ[i]? = some (some (.le d)) → σ[i]? = some (some (.ref a)) → (i, a) ∈ B.lent
/-- a new object, held by no slot -/
structure New (K : PySem.W.Frag) (B : Bs) (F : Hp) (ŝ : CS) (σ : L2.St) (H : Hp) (a : Addr) (d : D) : Prop where
  obj : OwnObj K F H a d
  cold : F a = none
  new : B.H0 a = none
  no : ∀ (i : Nat) e, Hot ŝ i e → σ[i]? ≠ some (some (.ref a))

section
variable {K : PySem.W.Frag} {B : Bs} {F F' : Hp} {ŝ : CS} {σ : L2.St} {H H' : Hp} {a : Addr} {d : D} {o : HO}
theorem Hot.lt {i : Nat} (h : Hot ŝ i d) : i < ŝ.length := by
  rcases h with h | h <;> exact (List.getElem?_eq_some_iff.mp h).1
/-- the heap grows by what no slot holds -/
theorem Rel.grow (r : Rel K B F ŝ σ H) (hs : Sub H H') : Rel K B F ŝ σ H' where
  sub := r.sub.trans hs
  base := r.base
  len := r.len
  fz := r.fz
  hot := fun i d h => by
    obtain ⟨a, h1, h2, h3⟩ := r.hot i d h
    obtain ⟨u, hu⟩ := h2.ex
    exact ⟨a, h1, h2.mono (.refl _) (by rw [hu]; exact hs _ _ hu), h3⟩
  own := r.own
  sep := r.sep
  frame := fun a o h n => hs _ _ (r.frame a o h n)
  cold := r.cold
  lent := r.lent
  lentB := r.lentB
/-- .. a new object, frozen at once -/
theorem Rel.growF (r : Rel K B F ŝ σ H) (hn : H a = none) (h0 : B.H0 a = none) : Rel K B (upd F a o) ŝ σ (upd H a o) ∧ Sub F (upd F a o) := by
  have fn : F a = none := by
    cases e : F a with
    | none => rfl
    | some u => rw [r.sub _ _ e] at hn; cases hn
  have sF : Sub F (upd F a o) := Sub.upd fn
  refine ⟨?_, sF⟩
  refine ⟨fun b u e => ?_, r.base.trans sF, r.len, fun i d h => ?_, fun i d h => ?_, r.own, r.sep, fun b u e n => Sub.upd hn _ _ (r.frame b u e n), fun b u e f => ?_, r.lent, r.lentB⟩
  · by_cases hb : b = a
    · subst hb; rw [upd_same] at e ⊢; exact e
    · rw [upd_ne hb] at e ⊢; exact r.sub _ _ e
  · obtain ⟨v, h1, h2⟩ := r.fz i d h
    exact ⟨v, h1, h2.mono sF⟩
  · obtain ⟨b, h1, h2, h3⟩ := r.hot i d h
    obtain ⟨u, hu⟩ := h2.ex
    have nb : b ≠ a := ne_of_none hu hn
    exact ⟨b, h1, h2.mono sF (upd_ne nb), by rw [upd_ne nb]; exact h3⟩
  · have nb : b ≠ a := ne_of_none e h0
    rw [upd_ne nb]; exact r.cold b u e f
/-- a new object is frozen -/
theorem Rel.freeze (r : Rel K B F ŝ σ H) (n : New K B F ŝ σ H a d) : ∃ F', Rel K B F' ŝ σ H ∧ Sub F F' ∧ Rep K F' (.ref a) d := by
  obtain ⟨u, hu⟩ := n.obj.ex
  have sF : Sub F (upd F a u) := Sub.upd n.cold
  refine ⟨upd F a u, ⟨fun b v e => ?_, r.base.trans sF, r.len, fun i d h => ?_, fun i d h => ?_, r.own, r.sep, r.frame, fun b v e f => ?_, r.lent, r.lentB⟩, sF, n.obj.rep sF hu upd_same⟩
  · by_cases hb : b = a
    · subst hb; rw [upd_same] at e; cases e; exact hu
    · rw [upd_ne hb] at e; exact r.sub _ _ e
  · obtain ⟨v, h1, h2⟩ := r.fz i d h
    exact ⟨v, h1, h2.mono sF⟩
  · obtain ⟨b, h1, h2, h3⟩ := r.hot i d h
    have nb : b ≠ a := fun e => n.no i d h (by rw [h1, e])
    exact ⟨b, h1, h2.mono sF rfl, by rw [upd_ne nb]; exact h3⟩
  · have nb : b ≠ a := ne_of_none e n.new
    rw [upd_ne nb]; exact r.cold b v e f
/-- an owned slot is frozen -/
theorem Rel.freezeSlot {i : Nat} (r : Rel K B F ŝ σ H) (h : ŝ[i]? = some (some (.ow d))) :
    ∃ v F', σ[i]? = some (some v) ∧ Rel K B F' (ŝ.set i (some (.fz d))) σ H ∧ Sub F F' ∧ Rep K F' v d := by
  obtain ⟨a, h1, h2, h3⟩ := r.hot i d (.inl h)
  obtain ⟨u, hu⟩ := h2.ex
  have sF : Sub F (upd F a u) := Sub.upd h3
  have h0 : B.H0 a = none := r.own i d a h h1
  have hi : i < ŝ.length := (List.getElem?_eq_some_iff.mp h).1
  have old : ∀ {j : Nat} {x : Sl}, (ŝ.set i (some (.fz d)))[j]? = some (some x) → j ≠ i → ŝ[j]? = some (some x) := fun {j x} e ne => by
    rw [List.getElem?_set_ne (Ne.symm ne)] at e; exact e
  have at_i : (ŝ.set i (some (.fz d)))[i]? = some (some (.fz d)) := List.getElem?_set_self hi
  have hot' : ∀ {j : Nat} {e : D}, Hot (ŝ.set i (some (.fz d))) j e → Hot ŝ j e ∧ j ≠ i := fun {j e} hj => by
    have ne : j ≠ i := by
      rintro rfl
      rcases hj with q | q <;> (rw [at_i] at q; cases q)
    exact ⟨hj.imp (old · ne) (old · ne), ne⟩
  have rep : Rep K (upd F a u) (.ref a) d := h2.rep sF hu upd_same
  refine ⟨.ref a, upd F a u, h1, ⟨fun b v e => ?_, r.base.trans sF, by rw [List.length_set]; exact r.len, fun j e he => ?_, fun j e he => ?_, fun j e b he hb => ?_, fun j k b e e' hj hk => ?_, r.frame, fun b v e f => ?_, fun j b hb => ?_, fun j e b he hb => ?_⟩, sF, rep⟩
  · by_cases hb : b = a
    · subst hb; rw [upd_same] at e; cases e; exact hu
    · rw [upd_ne hb] at e; exact r.sub _ _ e
  · by_cases ne : j = i
    · subst ne
      rw [at_i] at he; cases he
      exact ⟨_, h1, rep⟩
    · obtain ⟨v, q1, q2⟩ := r.fz j e (old he ne)
      exact ⟨v, q1, q2.mono sF⟩
  · obtain ⟨hj, ne⟩ := hot' he
    obtain ⟨b, q1, q2, q3⟩ := r.hot j e hj
    have nb : b ≠ a := fun z => ne (r.sep j i a e d hj (.inl h) (by rw [q1, z]) h1)
    exact ⟨b, q1, q2.mono sF rfl, by rw [upd_ne nb]; exact q3⟩
  · obtain ⟨_, ne⟩ := hot' (.inl he)
    exact r.own j e b (old he ne) hb
  · exact r.sep j k b e e' (hot' hj).1 (hot' hk).1
  · have nb : b ≠ a := ne_of_none e h0
    rw [upd_ne nb]; exact r.cold b v e f
  · obtain ⟨q1, e, q2⟩ := r.lent j b hb
    have ne : j ≠ i := by rintro rfl; rw [h] at q2; cases q2
    exact ⟨q1, e, by rw [List.getElem?_set_ne (Ne.symm ne)]; exact q2⟩
  · obtain ⟨_, ne⟩ := hot' (.inr he)
    exact r.lentB j e b (old he ne) hb
/-- a slot is stored: a frozen value -/
theorem Rel.setFz {i : Nat} {v : V} (r : Rel K B F ŝ σ H) (hi : i < ŝ.length) (hl : ∀ e, ŝ[i]? ≠ some (some (.le e))) (h : Rep K F v d) : Rel K B F (ŝ.set i (some (.fz d))) (σ.set i (some v)) H := by
  have hiσ : i < σ.length := by rw [r.len]; exact hi
  have old : ∀ {j : Nat} {x : Sl}, (ŝ.set i (some (.fz d)))[j]? = some (some x) → j ≠ i → ŝ[j]? = some (some x) := fun {j x} e ne => by
    rw [List.getElem?_set_ne (Ne.symm ne)] at e; exact e
  have at_i : (ŝ.set i (some (.fz d)))[i]? = some (some (.fz d)) := List.getElem?_set_self hi
  have hot' : ∀ {j : Nat} {e : D}, Hot (ŝ.set i (some (.fz d))) j e → Hot ŝ j e ∧ j ≠ i := fun {j e} hj => by
    have ne : j ≠ i := by
      rintro rfl
      rcases hj with q | q <;> (rw [at_i] at q; cases q)
    exact ⟨hj.imp (old · ne) (old · ne), ne⟩
  have sv : ∀ {j : Nat}, j ≠ i → (σ.set i (some v))[j]? = σ[j]? := fun ne => List.getElem?_set_ne (Ne.symm ne)
  refine ⟨r.sub, r.base, by rw [List.length_set, List.length_set]; exact r.len, fun j e he => ?_, fun j e he => ?_, fun j e b he hb => ?_, fun j k b e e' hj hk q1 q2 => ?_, r.frame, r.cold, fun j b hb => ?_, fun j e b he hb => ?_⟩
  · by_cases ne : j = i
    · subst ne
      rw [at_i] at he; cases he
      exact ⟨v, List.getElem?_set_self hiσ, h⟩
    · rw [sv ne]; exact r.fz j e (old he ne)
  · obtain ⟨hj, ne⟩ := hot' he
    rw [sv ne]; exact r.hot j e hj
  · obtain ⟨_, ne⟩ := hot' (.inl he)
    rw [sv ne] at hb
    exact r.own j e b (old he ne) hb
  · obtain ⟨hj', n1⟩ := hot' hj
    obtain ⟨hk', n2⟩ := hot' hk
    rw [sv n1] at q1; rw [sv n2] at q2
    exact r.sep j k b e e' hj' hk' q1 q2
  · obtain ⟨q1, e, q2⟩ := r.lent j b hb
    have ne : j ≠ i := by rintro rfl; exact hl _ q2
    exact ⟨by rw [sv ne]; exact q1, e, by rw [List.getElem?_set_ne (Ne.symm ne)]; exact q2⟩
  · obtain ⟨_, ne⟩ := hot' (.inr he)
    rw [sv ne] at hb
    exact r.lentB j e b (old he ne) hb
/-- .. a new object -/
theorem Rel.setOw {i : Nat} (r : Rel K B F ŝ σ H) (hi : i < ŝ.length) (hl : ∀ e, ŝ[i]? ≠ some (some (.le e))) (n : New K B F ŝ σ H a d) : Rel K B F (ŝ.set i (some (.ow d))) (σ.set i (some (.ref a))) H := by
  have hiσ : i < σ.length := by rw [r.len]; exact hi
  have at_i : (ŝ.set i (some (.ow d)))[i]? = some (some (.ow d)) := List.getElem?_set_self hi
  have old : ∀ {j : Nat} {x : Option Sl}, (ŝ.set i (some (.ow d)))[j]? = some x → j ≠ i → ŝ[j]? = some x := fun {j x} e ne => by
    rw [List.getElem?_set_ne (Ne.symm ne)] at e; exact e
  have sv : ∀ {j : Nat}, j ≠ i → (σ.set i (some (.ref a)))[j]? = σ[j]? := fun ne => List.getElem?_set_ne (Ne.symm ne)
  have si : (σ.set i (some (.ref a)))[i]? = some (some (.ref a)) := List.getElem?_set_self hiσ
  have hot' : ∀ {j : Nat} {e : D}, Hot (ŝ.set i (some (.ow d))) j e → j ≠ i → Hot ŝ j e := fun {j e} hj ne => hj.imp (old · ne) (old · ne)
  refine ⟨r.sub, r.base, by rw [List.length_set, List.length_set]; exact r.len, fun j e he => ?_, fun j e he => ?_, fun j e b he hb => ?_, fun j k b e e' hj hk q1 q2 => ?_, r.frame, r.cold, fun j b hb => ?_, fun j e b he hb => ?_⟩
  · have ne : j ≠ i := by rintro rfl; rw [at_i] at he; cases he
    rw [sv ne]; exact r.fz j e (old he ne)
  · by_cases ne : j = i
    · subst ne
      have : e = d := by
        rcases he with q | q <;> (rw [at_i] at q; cases q); rfl
      subst this
      exact ⟨a, si, n.obj, n.cold⟩
    · rw [sv ne]; exact r.hot j e (hot' he ne)
  · by_cases ne : j = i
    · subst ne
      rw [si] at hb; cases hb; exact n.new
    · rw [sv ne] at hb; exact r.own j e b (old he ne) hb
  · by_cases n1 : j = i
    · by_cases n2 : k = i
      · rw [n1, n2]
      · subst n1
        rw [si] at q1; cases q1
        rw [sv n2] at q2
        exact absurd q2 (n.no k e' (hot' hk n2))
    · by_cases n2 : k = i
      · subst n2
        rw [si] at q2; cases q2
        rw [sv n1] at q1
        exact absurd q1 (n.no j e (hot' hj n1))
      · rw [sv n1] at q1; rw [sv n2] at q2
        exact r.sep j k b e e' (hot' hj n1) (hot' hk n2) q1 q2
  · obtain ⟨q1, e, q2⟩ := r.lent j b hb
    have ne : j ≠ i := by rintro rfl; exact hl _ q2
    exact ⟨by rw [sv ne]; exact q1, e, by rw [List.getElem?_set_ne (Ne.symm ne)]; exact q2⟩
  · have ne : j ≠ i := by rintro rfl; rw [at_i] at he; cases he
    rw [sv ne] at hb
    exact r.lentB j e b (old he ne) hb
/-- the object of a hot slot is written -/
def Sl.put : Sl → D → Sl
  | .fz _, d => .fz d
  | .ow _, d => .ow d
  | .le _, d => .le d
theorem Rel.write {i : Nat} {e : D} (r : Rel K B F ŝ σ H) {x : Sl} (hx : ŝ[i]? = some (some x)) (hh : Hot ŝ i e) (hσ : σ[i]? = some (some (.ref a)))
    (hw : ∀ b, b ≠ a → H' b = H b) (ho : OwnObj K F H' a d) : Rel K B F (ŝ.set i (some (x.put d))) σ H' := by
  obtain ⟨a', q1, q2, q3⟩ := r.hot i e hh
  rw [hσ] at q1; cases q1
  have hi : i < ŝ.length := hh.lt
  have at_i : (ŝ.set i (some (x.put d)))[i]? = some (some (x.put d)) := List.getElem?_set_self hi
  have old : ∀ {j : Nat} {y : Option Sl}, (ŝ.set i (some (x.put d)))[j]? = some y → j ≠ i → ŝ[j]? = some y := fun {j y} e ne => by
    rw [List.getElem?_set_ne (Ne.symm ne)] at e; exact e
  have hot' : ∀ {j : Nat} {f : D}, Hot (ŝ.set i (some (x.put d))) j f → j ≠ i → Hot ŝ j f := fun {j f} hj ne => hj.imp (old · ne) (old · ne)
  have hot2 : ∀ {j : Nat} {f : D}, Hot (ŝ.set i (some (x.put d))) j f → ∃ f', Hot ŝ j f' := fun {j f} hj => by
    by_cases ne : j = i
    · exact ⟨e, ne ▸ hh⟩
    · exact ⟨f, hot' hj ne⟩
  have nf : x ≠ .fz e := by rintro rfl; rcases hh with q | q <;> (rw [hx] at q; cases q)
  have xk : x = .ow e ∨ x = .le e := by
    rcases hh with q | q
    · rw [hx] at q; cases q; exact .inl rfl
    · rw [hx] at q; cases q; exact .inr rfl
  have hF : ∀ b u, F b = some u → b ≠ a := fun b u q z => by rw [z, q3] at q; cases q
  refine ⟨fun b u q => by rw [hw b (hF b u q)]; exact r.sub _ _ q, r.base, by rw [List.length_set]; exact r.len, fun j f hf => ?_, fun j f hf => ?_, fun j f b hf hb => ?_, fun j k b f f' hj hk => ?_, fun b u hb nb => ?_, r.cold, fun j b hb => ?_, fun j f b hf hb => ?_⟩
  · have ne : j ≠ i := by
      rintro rfl
      rw [at_i] at hf
      rcases xk with rfl | rfl <;> cases hf
    exact r.fz j f (old hf ne)
  · by_cases ne : j = i
    · subst ne
      have : f = d := by
        rcases xk with rfl | rfl <;> (rcases hf with q | q <;> (rw [at_i] at q; cases q)) <;> rfl
      subst this
      exact ⟨a, hσ, ho, q3⟩
    · obtain ⟨b, z1, z2, z3⟩ := r.hot j f (hot' hf ne)
      have nb : b ≠ a := fun z => ne (r.sep j i a f e (hot' hf ne) hh (by rw [z1, z]) hσ)
      exact ⟨b, z1, z2.mono (.refl _) (hw b nb), z3⟩
  · by_cases ne : j = i
    · subst ne
      rw [hσ] at hb; cases hb
      rcases xk with rfl | rfl
      · exact r.own j e a hx hσ
      · rw [at_i] at hf; cases hf
    · exact r.own j f b (old hf ne) hb
  · obtain ⟨g, hg⟩ := hot2 hj
    obtain ⟨g', hg'⟩ := hot2 hk
    exact r.sep j k b g g' hg hg'
  · have : b ≠ a := by
      rintro rfl
      rcases xk with rfl | rfl
      · rw [r.own i e b hx hσ] at hb; cases hb
      · exact nb (List.mem_map.mpr ⟨(i, b), r.lentB i e b hx hσ, rfl⟩)
    rw [hw b this]; exact r.frame b u hb nb
  · obtain ⟨z1, f, z2⟩ := r.lent j b hb
    refine ⟨z1, ?_⟩
    by_cases ne : j = i
    · subst ne
      rw [hx] at z2; cases z2
      exact ⟨d, at_i⟩
    · exact ⟨f, by rw [List.getElem?_set_ne (Ne.symm ne)]; exact z2⟩
  · by_cases ne : j = i
    · subst ne
      rcases xk with rfl | rfl
      · rw [at_i] at hf; cases hf
      · exact r.lentB j e b hx hb
    · exact r.lentB j f b (old hf ne) hb
end
end Cl

set_option Elab.async false
set_option linter.all false
set_option maxRecDepth 100000
set_option maxHeartbeats 4000000
set_option autoImplicit false
/-! Cl, part B: judgements of expressions, operands, tests; names, constants, operators. -/
namespace Cl
open PySem PySem.Spec L2

/-! ### answers -/
def ExcR (K : PySem.W.Frag) (F H : Hp) (dd : Option Addr) (fs : List (Str × D)) : Prop :=
  (dd = none ∧ fs = []) ∨ ∃ x fvs, dd = some x ∧ H x = some (.xd fvs) ∧ RepF K F fvs fs
def Post (K : PySem.W.Frag) (B : Bs) (σ : L2.St) (W : WX) {α : Type} (P : α → CS → Prop) : Rs α → Prop
  | .ok a s => P a s
  | .exc c fs s => ∀ dd F' H', Rel K B F' s σ H' → ExcR K F' H' dd fs → W (.ref (He.ga K c)) dd σ H'
  | .bad => False
section
variable {K : PySem.W.Frag} {B : Bs} {σ : L2.St} {W : WX} {α β : Type} {P P' : α → CS → Prop}
theorem Post.mono {r : Rs α} (h : Post K B σ W P r) (i : ∀ a s, P a s → P' a s) : Post K B σ W P' r := by
  cases r with
  | ok a s => exact i a s h
  | exc c fs s => exact h
  | bad => exact h
theorem Post.bind {R : β → CS → Prop} {r : Rs α} {k : α → CS → Rs β} (h : Post K B σ W R (r.bind k)) : Post K B σ W (fun a s => Post K B σ W R (k a s)) r := by
  cases r <;> exact h
end
section
variable (K : PySem.W.Frag) (B : Bs) (F : Hp) (σ : L2.St)
def AnsD (Q : VK) (d : D) (s : CS) : Prop := ∀ v F' H', Sub F F' → Rel K B F' s σ H' → Rep K F' v d → Q v H'
def AnsN (Q : VK) (d : D) (s : CS) : Prop := ∀ a F' H', Sub F F' → Rel K B F' s σ H' → New K B F' s σ H' a d → Q (.ref a) H'
def AnsT (Q : Bool → Hp → Prop) (b : Bool) (s : CS) : Prop := ∀ F' H', Sub F F' → Rel K B F' s σ H' → Q b H'
/-- an operand: a value, or what slot i holds when it is asked -/
inductive Av where
  | d (d : D) | s (i : Nat)
def RepV (v : V) : Av → Prop
  | .d d => Rep K F v d
  | .s i => σ[i]? = some (some v)
def AnsO (Q : VK) (x : Av) (s : CS) : Prop := ∀ v F' H', Sub F F' → Rel K B F' s σ H' → RepV K F' σ v x → Q v H'
inductive RepVs : List V → List Av → Prop
  | nil : RepVs [] []
  | cons {v : V} {vs : List V} {x : Av} {xs : List Av} : RepV K F σ v x → RepVs vs xs → RepVs (v :: vs) (x :: xs)
def AnsA (Q : List V → Hp → Prop) (xs : List Av) (s : CS) : Prop := ∀ vs F' H', Sub F F' → Rel K B F' s σ H' → RepVs K F' σ vs xs → Q vs H'
end
section
variable (K : PySem.W.Frag) (B : Bs) (W : WX)
def tD (f : CS → Rs D) : TE := fun σ H Q => ∃ F s, Rel K B F s σ H ∧ Post K B σ W (AnsD K B F σ Q) (f s)
def tN (f : CS → Rs D) : TE := fun σ H Q => ∃ F s, Rel K B F s σ H ∧ Post K B σ W (AnsN K B F σ Q) (f s)
def tT (f : CS → Rs Bool) : TT := fun σ H Q => ∃ F s, Rel K B F s σ H ∧ Post K B σ W (AnsT K B F σ Q) (f s)
def tO (f : CS → Rs Av) : TE := fun σ H Q => ∃ F s, Rel K B F s σ H ∧ Post K B σ W (AnsO K B F σ Q) (f s)
def tA (f : CS → Rs (List Av)) : TA := fun σ H Q => ∃ F s, Rel K B F s σ H ∧ Post K B σ W (AnsA K B F σ Q) (f s)
end
structure SD (X : Cx) (e : Expr) (f : CS → Rs D) : Prop where
  run : ∀ B pn xe W, Takes (X.tr pn xe) W → PE (X.tr pn xe) e (tD X.K B W f)
structure SN (X : Cx) (e : Expr) (f : CS → Rs D) : Prop where
  run : ∀ B pn xe W, Takes (X.tr pn xe) W → PE (X.tr pn xe) e (tN X.K B W f)
structure ST (X : Cx) (e : Expr) (f : CS → Rs Bool) : Prop where
  run : ∀ B pn xe W, Takes (X.tr pn xe) W → PT (X.tr pn xe) e (tT X.K B W f)
structure SW (X : Cx) (e : Expr) (f : CS → Rs Bool) : Prop where
  run : ∀ B pn xe W, Takes (X.tr pn xe) W → PW (X.tr pn xe) e (tT X.K B W f)
structure SO (X : Cx) (e : Expr) (f : CS → Rs Av) : Prop where
  run : ∀ B pn xe W, Takes (X.tr pn xe) W → PE (X.tr pn xe) e (tO X.K B W f)
structure SA (X : Cx) (es : List Expr) (f : CS → Rs (List Av)) : Prop where
  run : ∀ B pn xe W, Takes (X.tr pn xe) W → PA (X.tr pn xe) es (tA X.K B W f)

/-! ### weakening -/
theorem peW {X : Cx} {e : Expr} {t t' : TE} (h : PE X e t) (i : ∀ σ H Q, t' σ H Q → t σ H Q) : PE X e t' := ⟨fun pins s σ H Q I q => h.run pins s σ H Q I (i σ H Q q)⟩
theorem ptW {X : Cx} {e : Expr} {t t' : TT} (h : PT X e t) (i : ∀ σ H Q, t' σ H Q → t σ H Q) : PT X e t' := ⟨fun pins s σ H Q I q => h.run pins s σ H Q I (i σ H Q q)⟩
theorem pwW {X : Cx} {e : Expr} {t t' : TT} (h : PW X e t) (i : ∀ σ H Q, t' σ H Q → t σ H Q) : PW X e t' := ⟨fun wh pins s σ H Q I q => h.run wh pins s σ H Q I (i σ H Q q)⟩
theorem paW {X : Cx} {es : List Expr} {t t' : TA} (h : PA X es t) (i : ∀ σ H Q, t' σ H Q → t σ H Q) : PA X es t' := ⟨fun pos pins s σ H Q I q => h.run pos pins s σ H Q I (i σ H Q q)⟩

section
variable {K : PySem.W.Frag} {B : Bs} {F F' : Hp} {σ : L2.St} {s : CS} {H H' : Hp}
theorem RepV.mono (h : Sub F F') {v : V} {x : Av} (r : RepV K F σ v x) : RepV K F' σ v x := by
  cases x with
  | d d => exact Rep.mono h r
  | s i => exact r
theorem RepVs.mono (h : Sub F F') {vs : List V} {xs : List Av} (r : RepVs K F σ vs xs) : RepVs K F' σ vs xs := by
  induction r with
  | nil => exact .nil
  | cons a _ ih => exact .cons (a.mono h) ih
/-- what an operand is when it is asked -/
def rsv (s : CS) : Av → Option D
  | .d d => some d
  | .s i => match s[i]? with
    | some (some (.fz d)) => some d
    | some (some (.ow d)) => some d
    | some (some (.le d)) => some d
    | _ => none
@[simp] theorem rsv_d (s : CS) (d : D) : rsv s (.d d) = some d := rfl
def rsvs (s : CS) : List Av → Option (List D)
  | [] => some []
  | x :: xs => match rsv s x, rsvs s xs with
    | some d, some ds => some (d :: ds)
    | _, _ => none
/-- v stands for d as the heap is now: frozen, or a hot object -/
def RepH (K : PySem.W.Frag) (F H : Hp) (v : V) (d : D) : Prop := Rep K F v d ∨ ∃ a, v = .ref a ∧ OwnObj K F H a d ∧ F a = none
inductive RepHs (K : PySem.W.Frag) (F H : Hp) : List V → List D → Prop
  | nil : RepHs K F H [] []
  | cons {v : V} {vs : List V} {d : D} {ds : List D} : RepH K F H v d → RepHs K F H vs ds → RepHs K F H (v :: vs) (d :: ds)
theorem RepV.h (r : Rel K B F s σ H) {v : V} {x : Av} {d : D} (q : RepV K F σ v x) (e : rsv s x = some d) : RepH K F H v d := by
  cases x with
  | d d' => cases e; exact .inl q
  | s i =>
    have q : σ[i]? = some (some v) := q
    unfold rsv at e
    dsimp only at e
    split at e
    · rename_i d' h
      cases e
      obtain ⟨w, h1, h2⟩ := r.fz i _ h
      rw [q] at h1; cases h1
      exact .inl h2
    · rename_i d' h
      cases e
      obtain ⟨a, h1, h2, h3⟩ := r.hot i _ (.inl h)
      rw [q] at h1; cases h1
      exact .inr ⟨a, rfl, h2, h3⟩
    · rename_i d' h
      cases e
      obtain ⟨a, h1, h2, h3⟩ := r.hot i _ (.inr h)
      rw [q] at h1; cases h1
      exact .inr ⟨a, rfl, h2, h3⟩
    · cases e
theorem RepVs.h (r : Rel K B F s σ H) : ∀ {vs : List V} {xs : List Av} {ds : List D}, RepVs K F σ vs xs → rsvs s xs = some ds → RepHs K F H vs ds
  | _, _, ds, .nil, e => by cases e; exact .nil
  | _, _, ds, .cons (x := x) (xs := xs) a b, e => by
    unfold rsvs at e
    split at e
    · rename_i d ds' h1 h2
      cases e
      exact .cons (a.h r h1) (RepVs.h r b h2)
    · cases e
/-! ### a value is reckoned -/
inductive GrowT (F H : Hp) : Hp → Hp → Prop
  | refl : GrowT F H F H
  | new {p : Addr} {o : HO} (hn : H p = none) : GrowT F H (upd F p o) (upd H p o)
theorem Rel.fresh0 (r : Rel K B F s σ H) {p : Addr} (hn : H p = none) : B.H0 p = none := by
  cases e : B.H0 p with
  | none => rfl
  | some o =>
    by_cases hp : p ∈ B.la
    · obtain ⟨⟨i, a⟩, h1, h2⟩ := List.mem_map.mp hp
      have h2 : a = p := h2
      subst h2
      obtain ⟨q1, d, q2⟩ := r.lent i a h1
      obtain ⟨b, q3, q4, _⟩ := r.hot i d (.inr q2)
      rw [q1] at q3; cases q3
      obtain ⟨u, hu⟩ := q4.ex
      rw [hn] at hu; cases hu
    · have := r.frame p o e hp
      rw [hn] at this; cases this
theorem Rel.growT (r : Rel K B F s σ H) (g : GrowT F H F' H') : Rel K B F' s σ H' ∧ Sub F F' := by
  cases g with
  | refl => exact ⟨r, .refl _⟩
  | new hn => exact r.growF hn (r.fresh0 hn)
theorem Rel.newN (r : Rel K B F s σ H) {p : Addr} {o : HO} {z : D} (hn : H p = none) (ho : OwnObj K F (upd H p o) p z) : Rel K B F s σ (upd H p o) ∧ New K B F s σ (upd H p o) p z := by
  refine ⟨r.grow (Sub.upd hn), ho, ?_, r.fresh0 hn, fun i e h q => ?_⟩
  · cases e : F p with
    | none => rfl
    | some u => rw [r.sub _ _ e] at hn; cases hn
  · obtain ⟨a, h1, h2, _⟩ := r.hot i e h
    rw [q] at h1; cases h1
    obtain ⟨u, hu⟩ := h2.ex
    rw [hn] at hu; cases hu
/-- a frozen answer, a new object -/
def FinD (K : PySem.W.Frag) (F H : Hp) (z : D) (Q : VK) : Prop := ∀ v F' H', GrowT F H F' H' → Rep K F' v z → Q v H'
def FinN (K : PySem.W.Frag) (F H : Hp) (z : D) (Q : VK) : Prop := ∀ p o, H p = none → OwnObj K F (upd H p o) p z → Q (.ref p) (upd H p o)
theorem FinD.val {z : D} {Q : VK} (h : FinD K F H z Q) {v : V} (r : Rep K F v z) : Q v H := h v F H .refl r
theorem AnsD.fin {F1 : Hp} {z : D} {Q : VK} (h : AnsD K B F σ Q z s) (su : Sub F F1) (r : Rel K B F1 s σ H) : FinD K F1 H z Q := fun v F' H' g q => by
  obtain ⟨r', s'⟩ := r.growT g
  exact h v F' H' (su.trans s') r' q
theorem AnsN.fin {F1 : Hp} {z : D} {Q : VK} (h : AnsN K B F σ Q z s) (su : Sub F F1) (r : Rel K B F1 s σ H) : FinN K F1 H z Q := fun p o hn ho => by
  obtain ⟨r', n'⟩ := r.newN hn ho
  exact h p F1 _ su r' n'
theorem AnsN.ofD {z : D} {Q : VK} (h : AnsD K B F σ Q z s) : AnsN K B F σ Q z s := fun a F' H' su r n => by
  obtain ⟨F2, r2, s2, q⟩ := r.freeze n
  exact h _ F2 H' (su.trans s2) r2 q
end
/-- operations by values -/
def Op2 (K : PySem.W.Frag) (r : R2) (op : D → D → Option D) : Prop :=
  ∀ {F H : Hp} {x y : V} {d e z : D} {Q : VK}, Sub F H → RepH K F H x d → RepH K F H y e → op d e = some z → FinD K F H z Q → r x y H Q
def Op2N (K : PySem.W.Frag) (r : R2) (op : D → D → Option D) : Prop :=
  ∀ {F H : Hp} {x y : V} {d e z : D} {Q : VK}, Sub F H → RepH K F H x d → RepH K F H y e → op d e = some z → FinN K F H z Q → r x y H Q
def Op2T (K : PySem.W.Frag) (r : R2) (op : D → D → Option Bool) : Prop :=
  ∀ {F H : Hp} {x y : V} {d e : D} {z : Bool} {Q : VK}, Sub F H → RepH K F H x d → RepH K F H y e → op d e = some z → Q (.bl z) H → r x y H Q
def Op1 (K : PySem.W.Frag) (r : V → Hp → VK → Prop) (op : D → Option D) : Prop :=
  ∀ {F H : Hp} {x : V} {d z : D} {Q : VK}, Sub F H → RepH K F H x d → op d = some z → FinD K F H z Q → r x H Q
def OpC (K : PySem.W.Frag) (r : List V → Hp → VK → Prop) (op : List D → Option D) : Prop :=
  ∀ {F H : Hp} {xs : List V} {ds : List D} {z : D} {Q : VK}, Sub F H → RepHs K F H xs ds → op ds = some z → FinD K F H z Q → r xs H Q
def OpCN (K : PySem.W.Frag) (r : List V → Hp → VK → Prop) (op : List D → Option D) : Prop :=
  ∀ {F H : Hp} {xs : List V} {ds : List D} {z : D} {Q : VK}, Sub F H → RepHs K F H xs ds → op ds = some z → FinN K F H z Q → r xs H Q
theorem Op2T.d {K : PySem.W.Frag} {r : R2} {op : D → D → Option Bool} (h : Op2T K r op) : Op2 K r (fun d e => (op d e).map D.bl) := by
  intro F H x y d e z Q s rx ry ez q
  replace ez : (op d e).map D.bl = some z := ez
  cases eo : op d e with
  | none => rw [eo] at ez; cases ez
  | some b =>
    rw [eo] at ez; cases ez
    exact h s rx ry eo (q.val (.bl b))

/-! ### the functions -/
/-- the end of an operation -/
def res {α : Type} (o : Option α) (s : CS) : Rs α := match o with
  | some z => .ok z s
  | none => .bad
@[simp] theorem res_some {α : Type} (z : α) (s : CS) : res (some z) s = .ok z s := rfl
@[simp] theorem res_none {α : Type} (s : CS) : res (none : Option α) s = .bad := rfl
def o2 {α : Type} (op : D → D → Option α) (x y : Av) (s : CS) : Option α := (rsv s x).bind fun d => (rsv s y).bind fun e => op d e
def o1 {α : Type} (op : D → Option α) (x : Av) (s : CS) : Option α := (rsv s x).bind op
def oC {α : Type} (op : List D → Option α) (xs : List Av) (s : CS) : Option α := (rsvs s xs).bind op
def opE {α : Type} (f g : CS → Rs Av) (op : D → D → Option α) : CS → Rs α := fun s => (f s).bind fun x s => (g s).bind fun y s => res (o2 op x y s) s
def unE {α : Type} (f : CS → Rs Av) (op : D → Option α) : CS → Rs α := fun s => (f s).bind fun x s => res (o1 op x s) s
def caE {α : Type} (f : CS → Rs (List Av)) (op : List D → Option α) : CS → Rs α := fun s => (f s).bind fun xs s => res (oC op xs s) s
theorem o2_some {α : Type} {op : D → D → Option α} {x y : Av} {s : CS} {z : α} (h : o2 op x y s = some z) : ∃ d e, rsv s x = some d ∧ rsv s y = some e ∧ op d e = some z := by
  unfold o2 at h
  cases h1 : rsv s x with
  | none => rw [h1] at h; cases h
  | some d =>
    cases h2 : rsv s y with
    | none => rw [h1, h2] at h; cases h
    | some e => rw [h1, h2] at h; exact ⟨d, e, rfl, rfl, h⟩
theorem o1_some {α : Type} {op : D → Option α} {x : Av} {s : CS} {z : α} (h : o1 op x s = some z) : ∃ d, rsv s x = some d ∧ op d = some z := by
  unfold o1 at h
  cases h1 : rsv s x with
  | none => rw [h1] at h; cases h
  | some d => rw [h1] at h; exact ⟨d, rfl, h⟩
theorem oC_some {α : Type} {op : List D → Option α} {xs : List Av} {s : CS} {z : α} (h : oC op xs s = some z) : ∃ ds, rsvs s xs = some ds ∧ op ds = some z := by
  unfold oC at h
  cases h1 : rsvs s xs with
  | none => rw [h1] at h; cases h
  | some d => rw [h1] at h; exact ⟨d, rfl, h⟩
theorem Post.res {K : PySem.W.Frag} {B : Bs} {σ : L2.St} {W : WX} {α : Type} {P : α → CS → Prop} {o : Option α} {s : CS} (h : Post K B σ W P (res o s)) : ∃ z, o = some z ∧ P z s := by
  cases o with
  | none => exact h.elim
  | some z => exact ⟨z, rfl, h⟩

section
variable {X : Cx} {a b c e : Expr} {es : List Expr} {pos : Pos} {x : Str}
/-! ### names -/
/-- a slot read: an owned object is frozen by it -/
def rdS (i : Nat) : CS → Rs D := fun s => match s[i]? with
  | some (some (.fz d)) => .ok d s
  | some (some (.ow d)) => .ok d (s.set i (some (.fz d)))
  | _ => .bad
theorem sd_n (i : Nat) (hN : X.N[i]? = some x := by rfl) (hv : Vis X.env.scope x := by first | exact Or.inl rfl | exact Or.inr (Or.inl rfl) | exact Or.inr (Or.inr rfl)) (hd : (x == ("__debug__" : Str)) = false := by decide)
    (hcd : (x == ("__classdict__" : Str)) = false := by decide) : SD X (.Name x pos) (rdS i) := by
  refine ⟨fun B pn xe W tk => peW (pe_var (X := X.tr pn xe) hN hv hd hcd) fun σ H Q h => ?_⟩
  obtain ⟨F, s, r, p⟩ := h
  unfold rdS at p
  split at p
  · rename_i d hi
    obtain ⟨v, h1, h2⟩ := r.fz i d hi
    exact ⟨v, h1, p v F H (.refl _) r h2⟩
  · rename_i d hi
    obtain ⟨v, F', h1, r', s', q⟩ := r.freezeSlot hi
    exact ⟨v, h1, p v F' H s' r' q⟩
  · exact p.elim
/-- the slot itself, as an operand -/
def slO (i : Nat) : CS → Rs Av := fun s => match s[i]? with
  | some (some _) => .ok (.s i) s
  | _ => .bad
theorem so_n (i : Nat) (hN : X.N[i]? = some x := by rfl) (hv : Vis X.env.scope x := by first | exact Or.inl rfl | exact Or.inr (Or.inl rfl) | exact Or.inr (Or.inr rfl)) (hd : (x == ("__debug__" : Str)) = false := by decide)
    (hcd : (x == ("__classdict__" : Str)) = false := by decide) : SO X (.Name x pos) (slO i) := by
  refine ⟨fun B pn xe W tk => peW (pe_var (X := X.tr pn xe) hN hv hd hcd) fun σ H Q h => ?_⟩
  obtain ⟨F, s, r, p⟩ := h
  unfold slO at p
  split at p
  · rename_i y hi
    cases y with
    | fz d =>
      obtain ⟨v, h1, h2⟩ := r.fz i d hi
      exact ⟨v, h1, p v F H (.refl _) r h1⟩
    | ow d =>
      obtain ⟨a, h1, h2, _⟩ := r.hot i d (.inl hi)
      exact ⟨_, h1, p _ F H (.refl _) r h1⟩
    | le d =>
      obtain ⟨a, h1, h2, _⟩ := r.hot i d (.inr hi)
      exact ⟨_, h1, p _ F H (.refl _) r h1⟩
  · exact p.elim
/-- a value as an operand -/
def vlO (f : CS → Rs D) : CS → Rs Av := fun s => (f s).bind fun d s => .ok (.d d) s
theorem SD.o {f : CS → Rs D} (h : SD X e f) : SO X e (vlO f) := by
  refine ⟨fun B pn xe W tk => peW (h.run B pn xe W tk) fun σ H Q h => ?_⟩
  obtain ⟨F, s, r, p⟩ := h
  exact ⟨F, s, r, p.bind.mono fun d s p v F' H' su r' q => p v F' H' su r' q⟩
/-- a new object, frozen -/
theorem SN.d {f : CS → Rs D} (h : SN X e f) : SD X e f := by
  refine ⟨fun B pn xe W tk => peW (h.run B pn xe W tk) fun σ H Q h => ?_⟩
  obtain ⟨F, s, r, p⟩ := h
  exact ⟨F, s, r, p.mono fun d s p => AnsN.ofD p⟩
theorem SN.o {f : CS → Rs D} (h : SN X e f) : SO X e (vlO f) := h.d.o

/-! ### constants -/
def cE (d : D) : CS → Rs D := fun s => .ok d s
theorem sd_c {t : TE} {v : V} {d : D} (h : ∀ pn xe, PE (X.tr pn xe) e (tC v)) (hr : ∀ K F, Rep K F v d) : SD X e (cE d) := by
  refine ⟨fun B pn xe W tk => peW (h pn xe) fun σ H Q h => ?_⟩
  obtain ⟨F, s, r, p⟩ := h
  exact p v F H (.refl _) r (hr _ _)
theorem sd_int {i : Int} {j pos} : SD X (.Constant (.int i) j pos) (cE (.int i)) := sd_c (t := tC (.int i)) (fun _ _ => pe_int) fun _ _ => .int i
theorem sd_bl {b j pos} : SD X (.Constant (.bool b) j pos) (cE (.bl b)) := sd_c (t := tC (.bl b)) (fun _ _ => pe_bl) fun _ _ => .bl b
theorem sd_non {j pos} : SD X (.Constant .none j pos) (cE .non) := sd_c (t := tC .non) (fun _ _ => pe_non) fun _ _ => .non
theorem sd_str {z : Str} {j pos} : SD X (.Constant (.str z) j pos) (cE (.str z)) := sd_c (t := tC (.str z)) (fun _ _ => pe_str) fun _ _ => .str z
/-- a module's constant (an int, a text), a class, a function -/
theorem sd_glob {u : Value} {v : V} {d : D} (hg : Gl X x) (hm : X.mg x = some u) (r : RelV v u) (hr : ∀ F, Rep X.K F v d) (hd : (x == ("__debug__" : Str)) = false := by decide) : SD X (.Name x pos) (cE d) := by
  refine ⟨fun B pn xe W tk => peW (pe_glob (X := X.tr pn xe) hg hm r hd) fun σ H Q h => ?_⟩
  obtain ⟨F, s, rl, p⟩ := h
  exact p v F H (.refl _) rl (hr _)
theorem sd_blt {u : Value} {v : V} {d : D} (hg : Gl X x) (hm : X.mg x = none) (hv : bootBuiltins x = some u) (r : RelV v u) (hr : ∀ F, Rep X.K F v d) (hn : x ≠ "__name__" := by decide) (hd : (x == ("__debug__" : Str)) = false := by decide) : SD X (.Name x pos) (cE d) := by
  refine ⟨fun B pn xe W tk => peW (pe_bltn (X := X.tr pn xe) hg hm hv r hn hd) fun σ H Q h => ?_⟩
  obtain ⟨F, s, rl, p⟩ := h
  exact p v F H (.refl _) rl (hr _)

/-! ### operators -/
variable {f g k : CS → Rs Av} {r r' : R2} {op op' : D → D → Option D}
theorem op_in {K : PySem.W.Frag} {B : Bs} {W : WX} {F : Hp} {s : CS} {σ : L2.St} {H : Hp} {α : Type} {Q : V → V → Hp → Prop} {P : α → CS → Prop} {op : D → D → Option α} (rl : Rel K B F s σ H)
    (p : Post K B σ W P (opE f g op s)) (h : ∀ x y d e z F' H' s', Sub F F' → Rel K B F' s' σ H' → RepH K F' H' x d → RepH K F' H' y e → op d e = some z → P z s' → Q x y H') :
    tO K B W f σ H fun x H1 => tO K B W g σ H1 fun y H2 => Q x y H2 := by
  refine ⟨F, s, rl, p.bind.mono fun x s1 p1 v F1 H1 su1 r1 q1 => ⟨F1, s1, r1, p1.bind.mono fun y s2 p2 u F2 H2 su2 r2 q2 => ?_⟩⟩
  obtain ⟨z, e1, p3⟩ := p2.res
  obtain ⟨d, e, h1, h2, h3⟩ := o2_some e1
  exact h v u d e z F2 H2 s2 (su1.trans su2) r2 ((q1.mono su2).h r2 h1) (q2.h r2 h2) h3 p3
theorem sd_bin {o : Operator} (ho : ∀ pn xe, OpR (X.tr pn xe) (binaryOp o) r) (hv : Op2 X.K r op) (ha : SO X a f) (hb : SO X b g) : SD X (.BinOp a o b pos) (opE f g op) := by
  refine ⟨fun B pn xe W tk => peW (pe_op (ho pn xe) (ha.run B pn xe W tk) (hb.run B pn xe W tk)) fun σ H Q h => ?_⟩
  obtain ⟨F, s, rl, p⟩ := h
  exact op_in rl p fun x y d e z F' H' s' su r' rx ry ez q => hv r'.sub rx ry ez (q.fin su r')
theorem sn_bin {o : Operator} (ho : ∀ pn xe, OpR (X.tr pn xe) (binaryOp o) r) (hv : Op2N X.K r op) (ha : SO X a f) (hb : SO X b g) : SN X (.BinOp a o b pos) (opE f g op) := by
  refine ⟨fun B pn xe W tk => peW (pe_op (ho pn xe) (ha.run B pn xe W tk) (hb.run B pn xe W tk)) fun σ H Q h => ?_⟩
  obtain ⟨F, s, rl, p⟩ := h
  exact op_in rl p fun x y d e z F' H' s' su r' rx ry ez q => hv r'.sub rx ry ez (q.fin su r')
theorem sd_un {o : UnaryOp} {r1 : V → Hp → VK → Prop} {op1 : D → Option D} (ho : ∀ pn xe, UnR (X.tr pn xe) (unaryOp o) r1) (hv : Op1 X.K r1 op1) (ha : SO X a f) : SD X (.UnaryOp o a pos) (unE f op1) := by
  refine ⟨fun B pn xe W tk => peW (pe_un (ho pn xe) (ha.run B pn xe W tk)) fun σ H Q h => ?_⟩
  obtain ⟨F, s, rl, p⟩ := h
  refine ⟨F, s, rl, p.bind.mono fun x s1 p1 v F1 H1 su1 r1 q1 => ?_⟩
  obtain ⟨z, e1, p3⟩ := p1.res
  obtain ⟨d, h1, h3⟩ := o1_some e1
  exact hv r1.sub (q1.h r1 h1) h3 (p3.fin su1 r1)
/-- o[i] -/
theorem sd_ix (hr : ∀ pn xe, IxR (X.tr pn xe) r) (hv : Op2 X.K r op) (ha : SO X a f) (hb : SO X b g) (hs : PlainIx b := by intro _ _; rfl) : SD X (.Subscript a b pos) (opE f g op) := by
  refine ⟨fun B pn xe W tk => peW (pe_ix (hr pn xe) (ha.run B pn xe W tk) (hb.run B pn xe W tk) hs) fun σ H Q h => ?_⟩
  obtain ⟨F, s, rl, p⟩ := h
  exact op_in rl p fun x y d e z F' H' s' su r' rx ry ez q => hv r'.sub rx ry ez (q.fin su r')
/-! ### comparisons -/
variable {oT oT' : D → D → Option Bool}
def blE (f : CS → Rs Bool) : CS → Rs D := fun s => (f s).bind fun b s => .ok (.bl b) s
theorem sd_cmp {o : CmpOp} (ho : ∀ pn xe, OpR (X.tr pn xe) (compareOp o) r) (hv : Op2T X.K r oT) (ha : SO X a f) (hb : SO X b g) (hm : behindInMarks o b = false := by first | exact nomark _ | rfl) : SD X (.Compare a [o] [b] pos) (blE (opE f g oT)) := by
  refine ⟨fun B pn xe W tk => peW (pe_cmpR (ho pn xe) (ha.run B pn xe W tk) (hb.run B pn xe W tk) hm) fun σ H Q h => ?_⟩
  obtain ⟨F, s, rl, p⟩ := h
  exact op_in rl p.bind fun x y d e z F' H' s' su r' rx ry ez q => hv r'.sub rx ry ez (q _ F' H' su r' (.bl z))
theorem st_cmp {o : CmpOp} (ho : ∀ pn xe, OpR (X.tr pn xe) (compareOp o) r) (hv : Op2T X.K r oT) (ha : SO X a f) (hb : SO X b g) (hm : behindInMarks o b = false := by first | exact nomark _ | rfl) : ST X (.Compare a [o] [b] pos) (opE f g oT) := by
  refine ⟨fun B pn xe W tk => ptW (pt_cmpR (ho pn xe) (ha.run B pn xe W tk) (hb.run B pn xe W tk) hm) fun σ H Q h => ?_⟩
  obtain ⟨F, s, rl, p⟩ := h
  exact op_in rl p fun x y d e z F' H' s' su r' rx ry ez q => hv r'.sub rx ry ez ⟨z, rfl, q F' H' su r'⟩
/-- a op b op' c: b is reckoned once -/
def chE (f g k : CS → Rs Av) (oT oT' : D → D → Option Bool) : CS → Rs Bool := fun s => (f s).bind fun x s => (g s).bind fun y s => (res (o2 oT x y s) s).bind fun b s =>
  if b = true then (k s).bind fun z s => res (o2 oT' y z s) s else .ok false s
theorem ch_in {K : PySem.W.Frag} {B : Bs} {W : WX} {F : Hp} {s : CS} {σ : L2.St} {H : Hp} {Q : VK} {P : Bool → CS → Prop} (rl : Rel K B F s σ H) (hv : Op2T K r oT) (hv' : Op2T K r' oT')
    (p : Post K B σ W P (chE f g k oT oT' s)) (h : ∀ z F' H' s', Sub F F' → Rel K B F' s' σ H' → P z s' → Q (.bl z) H') : tChain r r' (tO K B W f) (tO K B W g) (tO K B W k) σ H Q := by
  refine ⟨F, s, rl, p.bind.mono fun x s1 p1 v F1 H1 su1 r1 q1 => ⟨F1, s1, r1, p1.bind.mono fun y s2 p2 u F2 H2 su2 r2 q2 => ?_⟩⟩
  obtain ⟨b, e1, p3⟩ := p2.bind.res
  obtain ⟨d, e, h1, h2, h3⟩ := o2_some e1
  refine hv r2.sub ((q1.mono su2).h r2 h1) (q2.h r2 h2) h3 ⟨b, rfl, ?_⟩
  cases b with
  | false => exact h false F2 H2 s2 (su1.trans su2) r2 p3
  | true =>
    refine ⟨F2, s2, r2, Post.mono (Post.bind p3) fun z s3 p4 w F3 H3 su3 r3 q3 => ?_⟩
    obtain ⟨b', e2, p5⟩ := p4.res
    obtain ⟨d', e', h4, h5, h6⟩ := o2_some e2
    exact hv' r3.sub ((q2.mono su3).h r3 h4) (q3.h r3 h5) h6 (h b' F3 H3 s3 ((su1.trans su2).trans su3) r3 p5)
theorem sd_chain {o o' : CmpOp} (ho : ∀ pn xe, OpR (X.tr pn xe) (compareOp o) r) (ho' : ∀ pn xe, OpR (X.tr pn xe) (compareOp o') r') (hv : Op2T X.K r oT) (hv' : Op2T X.K r' oT') (ha : SO X a f) (hb : SO X b g) (hc : SO X c k)
    (hm : lastMarks [o, o'] [b, c] = false := by with_unfolding_all rfl) : SD X (.Compare a [o, o'] [b, c] pos) (blE (chE f g k oT oT')) := by
  refine ⟨fun B pn xe W tk => peW (pe_chain (ho pn xe) (ho' pn xe) (ha.run B pn xe W tk) (hb.run B pn xe W tk) (hc.run B pn xe W tk) hm) fun σ H Q h => ?_⟩
  obtain ⟨F, s, rl, p⟩ := h
  exact ch_in rl hv hv' p.bind fun z F' H' s' su r' q => q _ F' H' su r' (.bl z)
theorem st_chain {o o' : CmpOp} (ho : ∀ pn xe, OpR (X.tr pn xe) (compareOp o) r) (ho' : ∀ pn xe, OpR (X.tr pn xe) (compareOp o') r') (hv : Op2T X.K r oT) (hv' : Op2T X.K r' oT') (ha : SO X a f) (hb : SO X b g) (hc : SO X c k)
    (hm : lastMarks [o, o'] [b, c] = false := by with_unfolding_all rfl) : ST X (.Compare a [o, o'] [b, c] pos) (chE f g k oT oT') := by
  refine ⟨fun B pn xe W tk => ptW (pt_chain (ho pn xe) (ho' pn xe) (ha.run B pn xe W tk) (hb.run B pn xe W tk) (hc.run B pn xe W tk) hm) fun σ H Q h => ?_⟩
  obtain ⟨F, s, rl, p⟩ := h
  exact ch_in rl hv hv' p fun z F' H' s' su r' q => ⟨z, rfl, q F' H' su r'⟩
/-! ### tests -/
variable {u t : CS → Rs Bool} {rest : List Expr}
/-- a value that is a bool -/
def tsE (f : CS → Rs D) : CS → Rs Bool := fun s => (f s).bind fun d s => match d with
  | .bl b => .ok b s
  | _ => .bad
theorem ts_in {K : PySem.W.Frag} {B : Bs} {W : WX} {fd : CS → Rs D} {σ : L2.St} {H : Hp} {Q : Bool → Hp → Prop} (h : tT K B W (tsE fd) σ H Q) : tD K B W fd σ H fun x H1 => ∃ b, x = .bl b ∧ Q b H1 := by
  obtain ⟨F, s, rl, p⟩ := h
  refine ⟨F, s, rl, p.bind.mono fun d s1 p1 v F1 H1 su r1 q => ?_⟩
  cases d with
  | bl b => cases q; exact ⟨b, rfl, p1 F1 H1 su r1⟩
  | _ => exact p1.elim
theorem SD.tst {fd : CS → Rs D} (h : SD X e fd) (he : ∀ env whole, isTrue e env whole = (do let v ← whole; standAt e.pos; holding [v] (truthy v)) := by intro _ _; rfl) : ST X e (tsE fd) :=
  ⟨fun B pn xe W tk => ptW (pt_val (h.run B pn xe W tk) (he _)) fun σ H Q h => ts_in h⟩
def andT (t u : CS → Rs Bool) : CS → Rs Bool := fun s => (t s).bind fun b s => if b = true then u s else .ok false s
def orT (t u : CS → Rs Bool) : CS → Rs Bool := fun s => (t s).bind fun b s => if b = true then .ok true s else u s
def notT (t : CS → Rs Bool) : CS → Rs Bool := fun s => (t s).bind fun b s => .ok (!b) s
theorem and_in {K : PySem.W.Frag} {B : Bs} {W : WX} {σ : L2.St} {H : Hp} {Q : Bool → Hp → Prop} (h : tT K B W (andT t u) σ H Q) : tAnd (tT K B W t) (tT K B W u) σ H Q := by
  obtain ⟨F, s, rl, p⟩ := h
  refine ⟨F, s, rl, p.bind.mono fun b s1 p1 F1 H1 su r1 => ?_⟩
  cases b with
  | true => exact ⟨F1, s1, r1, Post.mono p1 fun b s2 p2 F2 H2 su2 r2 => p2 F2 H2 (su.trans su2) r2⟩
  | false => exact p1 F1 H1 su r1
theorem or_in {K : PySem.W.Frag} {B : Bs} {W : WX} {σ : L2.St} {H : Hp} {Q : Bool → Hp → Prop} (h : tT K B W (orT t u) σ H Q) : tOr (tT K B W t) (tT K B W u) σ H Q := by
  obtain ⟨F, s, rl, p⟩ := h
  refine ⟨F, s, rl, p.bind.mono fun b s1 p1 F1 H1 su r1 => ?_⟩
  cases b with
  | false => exact ⟨F1, s1, r1, Post.mono p1 fun b s2 p2 F2 H2 su2 r2 => p2 F2 H2 (su.trans su2) r2⟩
  | true => exact p1 F1 H1 su r1
theorem SW.tst (h : SW X e t) : ST X e t := ⟨fun B pn xe W tk => (h.run B pn xe W tk).pt⟩
theorem sw_and1 (ha : ST X a t) : SW X (.BoolOp .And [a] pos) t := ⟨fun B pn xe W tk => pw_and1 (ha.run B pn xe W tk)⟩
theorem sw_or1 (ha : ST X a t) : SW X (.BoolOp .Or [a] pos) t := ⟨fun B pn xe W tk => pw_or1 (ha.run B pn xe W tk)⟩
theorem sw_and (ha : ST X a t) (hb : SW X (.BoolOp .And (b :: rest) pos) u) : SW X (.BoolOp .And (a :: b :: rest) pos) (andT t u) :=
  ⟨fun B pn xe W tk => pwW (pw_and (ha.run B pn xe W tk) (hb.run B pn xe W tk)) fun σ H Q h => and_in h⟩
theorem sw_or (ha : ST X a t) (hb : SW X (.BoolOp .Or (b :: rest) pos) u) : SW X (.BoolOp .Or (a :: b :: rest) pos) (orT t u) :=
  ⟨fun B pn xe W tk => pwW (pw_or (ha.run B pn xe W tk) (hb.run B pn xe W tk)) fun σ H Q h => or_in h⟩
theorem st_not (ha : ST X a t) : ST X (.UnaryOp .Not a pos) (notT t) := by
  refine ⟨fun B pn xe W tk => ptW (pt_not (ha.run B pn xe W tk)) fun σ H Q h => ?_⟩
  obtain ⟨F, s, rl, p⟩ := h
  exact ⟨F, s, rl, p.bind.mono fun b s1 p1 F1 H1 su r1 => p1 F1 H1 su r1⟩
/-! and, or, not as values (bools) -/
variable {fa fb : CS → Rs D}
def andE (f g : CS → Rs D) : CS → Rs D := fun s => (f s).bind fun d s => match d with
  | .bl true => g s
  | .bl false => .ok (.bl false) s
  | _ => .bad
def orE (f g : CS → Rs D) : CS → Rs D := fun s => (f s).bind fun d s => match d with
  | .bl true => .ok (.bl true) s
  | .bl false => g s
  | _ => .bad
def notE (f : CS → Rs D) : CS → Rs D := fun s => (f s).bind fun d s => match d with
  | .bl b => .ok (.bl (!b)) s
  | _ => .bad
theorem sd_bool1 {o} (ha : SD X a fa) : SD X (.BoolOp o [a] pos) fa := ⟨fun B pn xe W tk => pe_one (ha.run B pn xe W tk)⟩
theorem sd_and (ha : SD X a fa) (hb : SD X (.BoolOp .And (b :: rest) pos) fb) : SD X (.BoolOp .And (a :: b :: rest) pos) (andE fa fb) := by
  refine ⟨fun B pn xe W tk => peW (pe_and (ha.run B pn xe W tk) (hb.run B pn xe W tk)) fun σ H Q h => ?_⟩
  obtain ⟨F, s, rl, p⟩ := h
  refine ⟨F, s, rl, p.bind.mono fun d s1 p1 v F1 H1 su r1 q => ?_⟩
  cases d with
  | bl b =>
    cases q
    cases b with
    | true => exact ⟨true, rfl, F1, s1, r1, Post.mono p1 fun z s2 p2 v F2 H2 su2 r2 q2 => p2 v F2 H2 (su.trans su2) r2 q2⟩
    | false => exact ⟨false, rfl, p1 _ F1 H1 su r1 (.bl false)⟩
  | _ => exact p1.elim
theorem sd_or (ha : SD X a fa) (hb : SD X (.BoolOp .Or (b :: rest) pos) fb) : SD X (.BoolOp .Or (a :: b :: rest) pos) (orE fa fb) := by
  refine ⟨fun B pn xe W tk => peW (pe_or (ha.run B pn xe W tk) (hb.run B pn xe W tk)) fun σ H Q h => ?_⟩
  obtain ⟨F, s, rl, p⟩ := h
  refine ⟨F, s, rl, p.bind.mono fun d s1 p1 v F1 H1 su r1 q => ?_⟩
  cases d with
  | bl b =>
    cases q
    cases b with
    | false => exact ⟨false, rfl, F1, s1, r1, Post.mono p1 fun z s2 p2 v F2 H2 su2 r2 q2 => p2 v F2 H2 (su.trans su2) r2 q2⟩
    | true => exact ⟨true, rfl, p1 _ F1 H1 su r1 (.bl true)⟩
  | _ => exact p1.elim
theorem sd_not (ha : SD X a fa) : SD X (.UnaryOp .Not a pos) (notE fa) := by
  refine ⟨fun B pn xe W tk => peW (pe_not (ha.run B pn xe W tk)) fun σ H Q h => ?_⟩
  obtain ⟨F, s, rl, p⟩ := h
  refine ⟨F, s, rl, p.bind.mono fun d s1 p1 v F1 H1 su r1 q => ?_⟩
  cases d with
  | bl b => cases q; exact ⟨b, rfl, p1 _ F1 H1 su r1 (.bl _)⟩
  | _ => exact p1.elim
def ifE (t : CS → Rs Bool) (f g : CS → Rs D) : CS → Rs D := fun s => (t s).bind fun b s => if b = true then f s else g s
theorem sd_if (hc : ST X c t) (ha : SD X a fa) (hb : SD X b fb) : SD X (.IfExp c a b pos) (ifE t fa fb) := by
  refine ⟨fun B pn xe W tk => peW (pe_ifExp (hc.run B pn xe W tk) (ha.run B pn xe W tk) (hb.run B pn xe W tk)) fun σ H Q h => ?_⟩
  obtain ⟨F, s, rl, p⟩ := h
  refine ⟨F, s, rl, p.bind.mono fun d s1 p1 F1 H1 su r1 => ?_⟩
  cases d with
  | true => exact ⟨F1, s1, r1, Post.mono p1 fun z s2 p2 v F2 H2 su2 r2 q2 => p2 v F2 H2 (su.trans su2) r2 q2⟩
  | false => exact ⟨F1, s1, r1, Post.mono p1 fun z s2 p2 v F2 H2 su2 r2 q2 => p2 v F2 H2 (su.trans su2) r2 q2⟩
theorem sn_if (hc : ST X c t) (ha : SN X a fa) (hb : SN X b fb) : SN X (.IfExp c a b pos) (ifE t fa fb) := by
  refine ⟨fun B pn xe W tk => peW (pe_ifExp (hc.run B pn xe W tk) (ha.run B pn xe W tk) (hb.run B pn xe W tk)) fun σ H Q h => ?_⟩
  obtain ⟨F, s, rl, p⟩ := h
  refine ⟨F, s, rl, p.bind.mono fun d s1 p1 F1 H1 su r1 => ?_⟩
  cases d with
  | true => exact ⟨F1, s1, r1, Post.mono p1 fun z s2 p2 v F2 H2 su2 r2 q2 => p2 v F2 H2 (su.trans su2) r2 q2⟩
  | false => exact ⟨F1, s1, r1, Post.mono p1 fun z s2 p2 v F2 H2 su2 r2 q2 => p2 v F2 H2 (su.trans su2) r2 q2⟩
/-! ### argument lists, displays, calls of built-ins -/
variable {fs : CS → Rs (List Av)}
def nilA : CS → Rs (List Av) := fun s => .ok [] s
def consA (f : CS → Rs Av) (g : CS → Rs (List Av)) : CS → Rs (List Av) := fun s => (f s).bind fun x s => (g s).bind fun xs s => .ok (x :: xs) s
theorem sa_nil : SA X [] nilA := by
  refine ⟨fun B pn xe W tk => paW pa_nil fun σ H Q h => ?_⟩
  obtain ⟨F, s, rl, p⟩ := h
  exact p [] F H (.refl _) rl .nil
theorem sa_cons (ha : SO X e f) (hr : SA X es fs) (hs : ∀ env, starEach (e :: es) env = (false, eval e env) :: starEach es env := by intro _; rfl) : SA X (e :: es) (consA f fs) := by
  refine ⟨fun B pn xe W tk => paW (pa_cons (ha.run B pn xe W tk) (hr.run B pn xe W tk) (hs _)) fun σ H Q h => ?_⟩
  obtain ⟨F, s, rl, p⟩ := h
  exact ⟨F, s, rl, p.bind.mono fun x s1 p1 v F1 H1 su1 r1 q1 => ⟨F1, s1, r1, p1.bind.mono fun xs s2 p2 vs F2 H2 su2 r2 q2 => p2 (v :: vs) F2 H2 (su1.trans su2) r2 (.cons (q1.mono su2) q2)⟩⟩
/-- all of them frozen values -/
def allD : List Av → Option (List D)
  | [] => some []
  | .d d :: xs => (allD xs).map (d :: ·)
  | .s _ :: _ => none
theorem RepVs.all {K : PySem.W.Frag} {F : Hp} {σ : L2.St} : ∀ {vs : List V} {xs : List Av} {ds : List D}, RepVs K F σ vs xs → allD xs = some ds → RepA K F vs ds
  | _, _, _, .nil, e => by cases e; exact .nil
  | _, _, ds, .cons (x := .d d) (xs := xs) a b, e => by
    unfold allD at e
    cases h : allD xs with
    | none => rw [h] at e; cases e
    | some ds' =>
      rw [h] at e; cases e
      exact .cons a (RepVs.all b h)
  | _, _, ds, .cons (x := .s i) a b, e => by cases e
def tupE (g : CS → Rs (List Av)) : CS → Rs D := fun s => (g s).bind fun xs s => match allD xs with
  | some ds => if ds.length ≤ sizeLine then .ok (.tup ds) s else .bad
  | none => .bad
def lstE (g : CS → Rs (List Av)) : CS → Rs D := fun s => (g s).bind fun xs s => match allD xs with
  | some ds => if ds.length ≤ sizeLine then .ok (.lst ds) s else .bad
  | none => .bad
theorem sd_tup {x1} (h : SA X es fs) : SD X (.Tuple es x1 pos) (tupE fs) := by
  refine ⟨fun B pn xe W tk => peW (pe_tup (h.run B pn xe W tk)) fun σ H Q h => ?_⟩
  obtain ⟨F, s, rl, p⟩ := h
  refine ⟨F, s, rl, p.bind.mono fun xs s1 p1 vs F1 H1 su r1 q => ?_⟩
  split at p1
  · rename_i ds hd
    split at p1
    · rename_i hz
      have ra := q.all hd
      exact ⟨by rw [ra.len]; exact hz, fun p hn => p1.fin su r1 _ _ _ (.new hn) (.tup (.inl (.inl upd_same)) (ra.mono (Sub.upd (by
        cases e : F1 p with
        | none => rfl
        | some u => rw [r1.sub _ _ e] at hn; cases hn))))⟩
    · exact p1.elim
  · exact p1.elim
theorem sn_lst (h : SA X es fs) : SN X (.List es pos) (lstE fs) := by
  refine ⟨fun B pn xe W tk => peW (pe_lst (h.run B pn xe W tk)) fun σ H Q h => ?_⟩
  obtain ⟨F, s, rl, p⟩ := h
  refine ⟨F, s, rl, p.bind.mono fun xs s1 p1 vs F1 H1 su r1 q => ?_⟩
  split at p1
  · rename_i ds hd
    split at p1
    · rename_i hz
      have ra := q.all hd
      exact ⟨by rw [ra.len]; exact hz, fun p hn => p1.fin su r1 p _ hn ⟨vs, upd_same, ra⟩⟩
    · exact p1.elim
  · exact p1.elim
/-! a built-in called -/
variable {oc : List D → Option D} {rc : List V → Hp → VK → Prop} {id T : String} {p : Pos}
theorem ca_in {K : PySem.W.Frag} {B : Bs} {W : WX} {F : Hp} {s : CS} {σ : L2.St} {H : Hp} {α : Type} {Q : List V → Hp → Prop} {P : α → CS → Prop} {op : List D → Option α} (rl : Rel K B F s σ H)
    (p : Post K B σ W P (caE fs op s)) (h : ∀ xs ds z F' H' s', Sub F F' → Rel K B F' s' σ H' → RepHs K F' H' xs ds → op ds = some z → P z s' → Q xs H') : tA K B W fs σ H Q := by
  refine ⟨F, s, rl, p.bind.mono fun xs s1 p1 vs F1 H1 su1 r1 q1 => ?_⟩
  obtain ⟨z, e1, p3⟩ := p1.res
  obtain ⟨ds, h1, h3⟩ := oC_some e1
  exact h vs ds z F1 H1 s1 su1 r1 (q1.h r1 h1) h3 p3
theorem sd_callB (hc : ∀ pn xe, CallR (X.tr pn xe) (.builtin id) rc) (hv : OpC X.K rc oc) (hg : Gl X x) (hm : X.mg x = none) (hb : bootBuiltins x = some (.builtin id)) (ha : SA X (e :: es) fs) (hn : x ≠ "__name__" := by decide) (hdb : (x == ("__debug__" : Str)) = false := by decide)
    (he : ∀ env, starEach (e :: es) env = (false, eval e env) :: starEach es env := by intro _; rfl) (hpl : ∀ env, (backTo pos (starEach es env)).any (·.1) = false := by intro _; rfl) : SD X (.Call (.Name x p) (e :: es) [] pos) (caE fs oc) := by
  refine ⟨fun B pn xe W tk => peW (pe_callB (X := X.tr pn xe) (hc pn xe) hg hm hb (ha.run B pn xe W tk) hn hdb (he _) (hpl _)) fun σ H Q h => ?_⟩
  obtain ⟨F, s, rl, p⟩ := h
  exact ca_in rl p fun xs ds z F' H' s' su r' rx ez q => hv r'.sub rx ez (q.fin su r')
theorem sn_callB (hc : ∀ pn xe, CallR (X.tr pn xe) (.builtin id) rc) (hv : OpCN X.K rc oc) (hg : Gl X x) (hm : X.mg x = none) (hb : bootBuiltins x = some (.builtin id)) (ha : SA X (e :: es) fs) (hn : x ≠ "__name__" := by decide) (hdb : (x == ("__debug__" : Str)) = false := by decide)
    (he : ∀ env, starEach (e :: es) env = (false, eval e env) :: starEach es env := by intro _; rfl) (hpl : ∀ env, (backTo pos (starEach es env)).any (·.1) = false := by intro _; rfl) : SN X (.Call (.Name x p) (e :: es) [] pos) (caE fs oc) := by
  refine ⟨fun B pn xe W tk => peW (pe_callB (X := X.tr pn xe) (hc pn xe) hg hm hb (ha.run B pn xe W tk) hn hdb (he _) (hpl _)) fun σ H Q h => ?_⟩
  obtain ⟨F, s, rl, p⟩ := h
  exact ca_in rl p fun xs ds z F' H' s' su r' rx ez q => hv r'.sub rx ez (q.fin su r')
theorem sd_callTy (hc : ∀ pn xe, CallR (X.tr pn xe) (.type T) rc) (hv : OpC X.K rc oc) (hg : Gl X x) (hm : X.mg x = none) (hb : bootBuiltins x = some (.type T)) (ha : SA X (e :: es) fs) (hn : x ≠ "__name__" := by decide) (hdb : (x == ("__debug__" : Str)) = false := by decide)
    (he : ∀ env, starEach (e :: es) env = (false, eval e env) :: starEach es env := by intro _; rfl) (hpl : ∀ env, (backTo pos (starEach es env)).any (·.1) = false := by intro _; rfl) : SD X (.Call (.Name x p) (e :: es) [] pos) (caE fs oc) := by
  refine ⟨fun B pn xe W tk => peW (pe_callTy (X := X.tr pn xe) (hc pn xe) hg hm hb (ha.run B pn xe W tk) hn hdb (he _) (hpl _)) fun σ H Q h => ?_⟩
  obtain ⟨F, s, rl, p⟩ := h
  exact ca_in rl p fun xs ds z F' H' s' su r' rx ez q => hv r'.sub rx ez (q.fin su r')
theorem sn_callTy (hc : ∀ pn xe, CallR (X.tr pn xe) (.type T) rc) (hv : OpCN X.K rc oc) (hg : Gl X x) (hm : X.mg x = none) (hb : bootBuiltins x = some (.type T)) (ha : SA X (e :: es) fs) (hn : x ≠ "__name__" := by decide) (hdb : (x == ("__debug__" : Str)) = false := by decide)
    (he : ∀ env, starEach (e :: es) env = (false, eval e env) :: starEach es env := by intro _; rfl) (hpl : ∀ env, (backTo pos (starEach es env)).any (·.1) = false := by intro _; rfl) : SN X (.Call (.Name x p) (e :: es) [] pos) (caE fs oc) := by
  refine ⟨fun B pn xe W tk => peW (pe_callTy (X := X.tr pn xe) (hc pn xe) hg hm hb (ha.run B pn xe W tk) hn hdb (he _) (hpl _)) fun σ H Q h => ?_⟩
  obtain ⟨F, s, rl, p⟩ := h
  exact ca_in rl p fun xs ds z F' H' s' su r' rx ez q => hv r'.sub rx ez (q.fin su r')
end
end Cl

set_option Elab.async false
set_option linter.all false
set_option maxRecDepth 100000
set_option maxHeartbeats 4000000
set_option autoImplicit false
/-! Cl, part C: statements, targets, loops, comprehensions. -/
namespace Cl
open PySem PySem.Spec L2

section
variable (K : PySem.W.Frag) (B : Bs) (W : WX) (F : Hp) (D : Ends)
def PostS : Fl → Prop
  | .nx s => ∀ σ' F' H', Sub F F' → Rel K B F' s σ' H' → D.nx σ' H'
  | .brk s => ∀ σ' F' H', Sub F F' → Rel K B F' s σ' H' → D.bk σ' H'
  | .ct s => ∀ σ' F' H', Sub F F' → Rel K B F' s σ' H' → D.ct σ' H'
  | .ret (.fz d) s => ∀ v σ' F' H', Sub F F' → Rel K B F' s σ' H' → Rep K F' v d → D.rt v H'
  | .ret (.ow d) s => ∀ a σ' F' H', Sub F F' → Rel K B F' s σ' H' → OwnObj K F' H' a d → F' a = none → B.H0 a = none → D.rt (.ref a) H'
  | .ret (.le _) _ => False
  | .exc c fs s => ∀ dd σ' F' H', Rel K B F' s σ' H' → ExcR K F' H' dd fs → W (.ref (He.ga K c)) dd σ' H'
  | .bad => False
end
def tS (K : PySem.W.Frag) (B : Bs) (W : WX) (f : CS → Fl) : TS := fun D σ H => ∃ F s, Rel K B F s σ H ∧ PostS K B W F D (f s)
structure SS (X : Cx) (st : Stmt) (f : CS → Fl) : Prop where
  run : ∀ B pn xe W, Takes (X.tr pn xe) W → PassesOwn (model X.prog X.w) X.A X.env xe → PS (X.tr pn xe) st (tS X.K B W f)
structure SSs (X : Cx) (st : List Stmt) (f : CS → Fl) : Prop where
  run : ∀ B pn xe W, Takes (X.tr pn xe) W → PassesOwn (model X.prog X.w) X.A X.env xe → PSs (X.tr pn xe) st (tS X.K B W f)
theorem psW {X : Cx} {st : Stmt} {t t' : TS} (h : PS X st t) (i : ∀ D σ H, t' D σ H → t D σ H) : PS X st t' := ⟨fun pins s σ H D I q => h.run pins s σ H D I (i D σ H q)⟩
theorem pssW {X : Cx} {st : List Stmt} {t t' : TS} (h : PSs X st t) (i : ∀ D σ H, t' D σ H → t D σ H) : PSs X st t' := ⟨fun pins s σ H D I q => h.run pins s σ H D I (i D σ H q)⟩
theorem pgW {X : Cx} {tg : Expr} {t t' : TG} (h : PG X tg t) (i : ∀ v σ H Q, t' v σ H Q → t v σ H Q) : PG X tg t' := ⟨fun pins s σ H v u Q I r q => h.run pins s σ H v u Q I r (i v σ H Q q)⟩
section
variable {K : PySem.W.Frag} {B : Bs} {W : WX} {F F' : Hp} {D D' : Ends} {σ : L2.St} {α : Type}
theorem PostS.sub (su : Sub F F') {r : Fl} (h : PostS K B W F D r) : PostS K B W F' D r := by
  cases r with
  | nx s => exact fun σ' F2 H' s2 => h σ' F2 H' (su.trans s2)
  | brk s => exact fun σ' F2 H' s2 => h σ' F2 H' (su.trans s2)
  | ct s => exact fun σ' F2 H' s2 => h σ' F2 H' (su.trans s2)
  | ret r s =>
    cases r with
    | fz d => exact fun v σ' F2 H' s2 => h v σ' F2 H' (su.trans s2)
    | ow d => exact fun v σ' F2 H' s2 => h v σ' F2 H' (su.trans s2)
    | le d => exact h
  | exc c fs s => exact h
  | bad => exact h
/-- a statement's end behind an expression -/
def bindS (r : Rs α) (k : α → CS → Fl) : Fl := match r with
  | .ok a s => k a s
  | .exc c fs s => .exc c fs s
  | .bad => .bad
@[simp] theorem bindS_ok (a : α) (s : CS) (k : α → CS → Fl) : bindS (.ok a s) k = k a s := rfl
@[simp] theorem bindS_exc (c : Str) (fs : List (Str × Cl.D)) (s : CS) (k : α → CS → Fl) : bindS (.exc c fs s) k = .exc c fs s := rfl
@[simp] theorem bindS_bad (k : α → CS → Fl) : bindS .bad k = .bad := rfl
theorem PostS.bind {r : Rs α} {k : α → CS → Fl} (h : PostS K B W F D (bindS r k)) : Post K B σ W (fun a s => PostS K B W F D (k a s)) r := by
  cases r with
  | ok a s => exact h
  | exc c fs s => exact fun dd F' H' => h dd σ F' H'
  | bad => exact h
end
/-- one statement behind another -/
def seqS (f g : CS → Fl) : CS → Fl := fun s => match f s with
  | .nx s => g s
  | r => r
theorem PostS.seq {K : PySem.W.Frag} {B : Bs} {W : WX} {F : Hp} {D : Ends} {f g : CS → Fl} {s : CS} (h : PostS K B W F D (seqS f g s)) :
    PostS K B W F { D with nx := tS K B W g D } (f s) := by
  unfold seqS at h
  cases e : f s with
  | nx s1 =>
    rw [e] at h
    exact fun σ' F' H' su r => ⟨F', s1, r, PostS.sub su h⟩
  | ret r s1 => rw [e] at h; cases r <;> exact h
  | brk s1 => rw [e] at h; exact h
  | ct s1 => rw [e] at h; exact h
  | exc c fs s1 => rw [e] at h; exact h
  | bad => rw [e] at h; exact h

section
variable {X : Cx} {st : Stmt} {rest : List Stmt} {f g : CS → Fl} {e : Expr} {pos pos' : Pos} {x : Str} {fe : CS → Rs D}
def nxS : CS → Fl := fun s => .nx s
theorem sss_nil : SSs X [] nxS := ⟨fun B pn xe W tk hp => pssW pss_nil fun D σ H ⟨F, s, r, p⟩ => p σ F H (.refl _) r⟩
theorem sss_cons (h1 : SS X st f) (h2 : SSs X rest g) : SSs X (st :: rest) (seqS f g) := by
  refine ⟨fun B pn xe W tk hp => pssW (pss_cons (h1.run B pn xe W tk hp) (h2.run B pn xe W tk hp)) fun D σ H ⟨F, s, r, p⟩ => ⟨F, s, r, p.seq⟩⟩
theorem sss_one (h1 : SS X st f) : SSs X [st] f := ⟨fun B pn xe W tk hp => pss_one (h1.run B pn xe W tk hp)⟩
theorem ss_pass : SS X (.Pass pos) nxS := ⟨fun B pn xe W tk hp => psW ps_pass fun D σ H ⟨F, s, r, p⟩ => p σ F H (.refl _) r⟩
def brS : CS → Fl := fun s => .brk s
def ctS : CS → Fl := fun s => .ct s
theorem ss_break : SS X (.Break pos) brS := ⟨fun B pn xe W tk hp => psW ps_break fun D σ H ⟨F, s, r, p⟩ => p σ F H (.refl _) r⟩
theorem ss_cont : SS X (.Continue pos) ctS := ⟨fun B pn xe W tk hp => psW ps_continue fun D σ H ⟨F, s, r, p⟩ => p σ F H (.refl _) r⟩
/-- an expression whose value is dropped -/
def exS (fe : CS → Rs D) : CS → Fl := fun s => bindS (fe s) fun _ s => .nx s
theorem ss_expr (he : SD X e fe) (hs : swapsWith e none pos.line X.env = pure false := by rfl) : SS X (.Expr e pos) (exS fe) := by
  refine ⟨fun B pn xe W tk hp => psW (ps_expr (he.run B pn xe W tk) hs) fun D σ H ⟨F, s, r, p⟩ => ⟨F, s, r, p.bind.mono fun d s1 p1 v F1 H1 su r1 q => p1 σ F1 H1 su r1⟩⟩
def rtS (fe : CS → Rs D) : CS → Fl := fun s => bindS (fe s) fun d s => .ret (.fz d) s
theorem ss_ret (he : SD X e fe) : SS X (.Return (some e) pos) (rtS fe) := by
  refine ⟨fun B pn xe W tk hp => psW (ps_ret (he.run B pn xe W tk)) fun D σ H ⟨F, s, r, p⟩ => ⟨F, s, r, p.bind.mono fun d s1 p1 v F1 H1 su r1 q => p1 v σ F1 H1 su r1 q⟩⟩
/-- a new object is returned -/
def rnS (fe : CS → Rs D) : CS → Fl := fun s => bindS (fe s) fun d s => .ret (.ow d) s
theorem ss_retN (he : SN X e fe) : SS X (.Return (some e) pos) (rnS fe) := by
  refine ⟨fun B pn xe W tk hp => psW (ps_ret (he.run B pn xe W tk)) fun D σ H ⟨F, s, r, p⟩ => ⟨F, s, r, p.bind.mono fun d s1 p1 a F1 H1 su r1 n => p1 a σ F1 H1 su r1 n.obj n.cold n.new⟩⟩
/-- a slot's own object is returned -/
def rsS (i : Nat) : CS → Fl := fun s => match s[i]? with
  | some (some (.ow d)) => .ret (.ow d) s
  | some (some (.fz d)) => .ret (.fz d) s
  | _ => .bad
theorem ss_retS (i : Nat) (hN : X.N[i]? = some x := by rfl) (hv : Vis X.env.scope x := by first | exact Or.inl rfl | exact Or.inr (Or.inl rfl) | exact Or.inr (Or.inr rfl)) (hd : (x == ("__debug__" : Str)) = false := by decide)
    (hcd : (x == ("__classdict__" : Str)) = false := by decide) : SS X (.Return (some (.Name x pos')) pos) (rsS i) := by
  refine ⟨fun B pn xe W tk hp => psW (ps_ret (pe_var (X := X.tr pn xe) hN hv hd hcd)) fun D σ H ⟨F, s, r, p⟩ => ?_⟩
  unfold rsS at p
  split at p
  · rename_i d h
    obtain ⟨a, h1, h2, h3⟩ := r.hot i d (.inl h)
    exact ⟨_, h1, p a σ F H (.refl _) r h2 h3 (r.own i d a h h1)⟩
  · rename_i d h
    obtain ⟨v, h1, h2⟩ := r.fz i d h
    exact ⟨v, h1, p v σ F H (.refl _) r h2⟩
  · exact p.elim
def r0S : CS → Fl := fun s => .ret (.fz .non) s
theorem ss_ret0 : SS X (.Return none pos) r0S := ⟨fun B pn xe W tk hp => psW ps_retN fun D σ H ⟨F, s, r, p⟩ => p .non σ F H (.refl _) r .non⟩
def ifS (t : CS → Rs Bool) (f g : CS → Fl) : CS → Fl := fun s => bindS (t s) fun b s => if b = true then f s else g s
theorem ss_if {c : Expr} {a b : List Stmt} {t : CS → Rs Bool} (hc : ST X c t) (ha : SSs X a f) (hb : SSs X b g) : SS X (.If c a b pos) (ifS t f g) := by
  refine ⟨fun B pn xe W tk hp => psW (ps_if (hc.run B pn xe W tk) (ha.run B pn xe W tk hp) (hb.run B pn xe W tk hp)) fun D σ H ⟨F, s, r, p⟩ => ⟨F, s, r, p.bind.mono fun b s1 p1 F1 H1 su r1 => ?_⟩⟩
  cases b with
  | true => exact ⟨F1, s1, r1, PostS.sub su p1⟩
  | false => exact ⟨F1, s1, r1, PostS.sub su p1⟩
/-! ### stores -/
/-- a slot is stored (one that is lent never) -/
def setC (i : Nat) (y : Sl) (s : CS) : Option CS := match s[i]? with
  | some (some (.le _)) => none
  | some _ => some (s.set i (some y))
  | none => none
theorem setC_some {i : Nat} {y : Sl} {s s' : CS} (h : setC i y s = some s') : i < s.length ∧ (∀ e, s[i]? ≠ some (some (.le e))) ∧ s' = s.set i (some y) := by
  unfold setC at h
  split at h
  · cases h
  · rename_i z hn hz
    cases h
    exact ⟨(List.getElem?_eq_some_iff.mp hz).1, fun e q => by rw [hz] at q; cases q; exact hn e rfl, rfl⟩
  · cases h
def nxO (o : Option CS) : Fl := match o with
  | some s => .nx s
  | none => .bad
@[simp] theorem nxO_some (s : CS) : nxO (some s) = .nx s := rfl
@[simp] theorem nxO_none : nxO none = .bad := rfl
def stS (i : Nat) (fe : CS → Rs D) : CS → Fl := fun s => bindS (fe s) fun d s => nxO (setC i (.fz d) s)
def snS (i : Nat) (fe : CS → Rs D) : CS → Fl := fun s => bindS (fe s) fun d s => nxO (setC i (.ow d) s)
theorem ss_set {i : Nat} (hN : X.N.Nodup) (hi : X.N[i]? = some x) (hx : Loc X.env.scope x) (he : SD X e fe) (hs : swapsWith e (some (.Name x pos')) pos.line X.env = pure false := by rfl) (hf : X.fn x = true ∨ X.env.scope.names.lookup x = some .local := by first | exact .inl rfl | exact .inr rfl | assumption) :
    SS X (.Assign [.Name x pos'] e pos) (stS i fe) := by
  refine ⟨fun B pn xe W tk hp => psW (ps_set (X := X.tr pn xe) hN hi hx (he.run B pn xe W tk) hs hf) fun D σ H ⟨F, s, r, p⟩ => ⟨F, s, r, p.bind.mono fun d s1 p1 v F1 H1 su r1 q => ?_⟩⟩
  cases hc : setC i (.fz d) s1 with
  | none => rw [hc] at p1; exact p1.elim
  | some s2 =>
    rw [hc] at p1
    obtain ⟨h1, h2, rfl⟩ := setC_some hc
    exact p1 _ F1 H1 su (r1.setFz h1 h2 q)
theorem ss_setN {i : Nat} (hN : X.N.Nodup) (hi : X.N[i]? = some x) (hx : Loc X.env.scope x) (he : SN X e fe) (hs : swapsWith e (some (.Name x pos')) pos.line X.env = pure false := by rfl) (hf : X.fn x = true ∨ X.env.scope.names.lookup x = some .local := by first | exact .inl rfl | exact .inr rfl | assumption) :
    SS X (.Assign [.Name x pos'] e pos) (snS i fe) := by
  refine ⟨fun B pn xe W tk hp => psW (ps_set (X := X.tr pn xe) hN hi hx (he.run B pn xe W tk) hs hf) fun D σ H ⟨F, s, r, p⟩ => ⟨F, s, r, p.bind.mono fun d s1 p1 a F1 H1 su r1 n => ?_⟩⟩
  cases hc : setC i (.ow d) s1 with
  | none => rw [hc] at p1; exact p1.elim
  | some s2 =>
    rw [hc] at p1
    obtain ⟨h1, h2, rfl⟩ := setC_some hc
    exact p1 _ F1 H1 su (r1.setOw h1 h2 n)
/-! ### targets -/
abbrev TgC := D → CS → Option CS
/-- nothing but these slots is stored -/
def OnlyAt (gs : List Nat) (σ σ' : L2.St) : Prop := σ'.length = σ.length ∧ ∀ i, i ∉ gs → σ'[i]? = σ[i]?
theorem OnlyAt.trans {gs hs : List Nat} {σ σ1 σ2 : L2.St} (a : OnlyAt gs σ σ1) (b : OnlyAt hs σ1 σ2) : OnlyAt (gs ++ hs) σ σ2 :=
  ⟨b.1.trans a.1, fun i h => (b.2 i fun m => h (List.mem_append_right _ m)).trans (a.2 i fun m => h (List.mem_append_left _ m))⟩
def tG (K : PySem.W.Frag) (B : Bs) (gs : List Nat) (g : TgC) : TG := fun v σ H Q => ∃ F s d s', Rel K B F s σ H ∧ Rep K F v d ∧ g d s = some s' ∧ ∀ σ' F' H', OnlyAt gs σ σ' → Sub F F' → Rel K B F' s' σ' H' → Q σ' H'
structure SG (X : Cx) (tg : Expr) (gs : List Nat) (g : TgC) : Prop where
  run : ∀ B pn xe, PG (X.tr pn xe) tg (tG X.K B gs g)
def nmG (i : Nat) : TgC := fun d s => setC i (.fz d) s
theorem sg_n (i : Nat) (hN : X.N.Nodup) (hi : X.N[i]? = some x := by rfl) (hx : Loc X.env.scope x := by first | exact Or.inl rfl | exact Or.inr rfl) (hf : X.fn x = true ∨ X.env.scope.names.lookup x = some .local := by first | exact .inl rfl | exact .inr rfl | assumption) : SG X (.Name x pos) [i] (nmG i) := by
  refine ⟨fun B pn xe => pgW (pg_name (X := X.tr pn xe) hN hi hx hf) fun v σ H Q ⟨F, s, d, s', r, q, e, k⟩ => ?_⟩
  obtain ⟨h1, h2, rfl⟩ := setC_some e
  exact k _ F H ⟨List.length_set .., fun j hj => List.getElem?_set_ne fun e => hj (by rw [e]; exact List.mem_cons_self)⟩ (.refl _) (r.setFz h1 h2 q)
abbrev TgL := List D → CS → Option CS
def tGs (K : PySem.W.Frag) (B : Bs) (gs : List Nat) (g : TgL) : TGs := fun vs σ H Q => ∃ F s ds s', Rel K B F s σ H ∧ RepA K F vs ds ∧ g ds s = some s' ∧ ∀ σ' F' H', OnlyAt gs σ σ' → Sub F F' → Rel K B F' s' σ' H' → Q σ' H'
structure SGs (X : Cx) (ts : List Expr) (gs : List Nat) (g : TgL) : Prop where
  run : ∀ B pn xe, PGs (X.tr pn xe) ts (tGs X.K B gs g)
theorem pgsW {X : Cx} {ts : List Expr} {t t' : TGs} (h : PGs X ts t) (i : ∀ v σ H Q, t' v σ H Q → t v σ H Q) : PGs X ts t' := ⟨fun pins s σ H v u Q I r q => h.run pins s σ H v u Q I r (i v σ H Q q)⟩
def nilG : TgL := fun ds s => match ds with
  | [] => some s
  | _ => none
def consG (g : TgC) (k : TgL) : TgL := fun ds s => match ds with
  | d :: ds => (g d s).bind fun s => k ds s
  | [] => none
theorem sgs_nil : SGs X [] [] nilG := by
  refine ⟨fun B pn xe => pgsW pgs_nil fun vs σ H Q ⟨F, s, ds, s', r, q, e, k⟩ => ?_⟩
  cases q with
  | nil => cases e; exact ⟨rfl, k σ F H ⟨rfl, fun _ _ => rfl⟩ (.refl _) r⟩
  | cons a b => cases e
theorem sgs_cons {t : Expr} {ts : List Expr} {gc : TgC} {gl : TgL} {gs hs : List Nat} (h1 : SG X t gs gc) (h2 : SGs X ts hs gl) (ha : ∀ env, (assignEach (t :: ts) env).map (·.2) = assign t env :: (assignEach ts env).map (·.2) := by intro _; rfl) : SGs X (t :: ts) (gs ++ hs) (consG gc gl) := by
  refine ⟨fun B pn xe => pgsW (pgs_cons (h1.run B pn xe) (h2.run B pn xe) (ha _)) fun vs σ H Q ⟨F, s, ds, s', r, q, e, k⟩ => ?_⟩
  cases q with
  | nil => cases e
  | @cons v vs d ds a b =>
    have e : (gc d s).bind (fun s => gl ds s) = some s' := e
    cases e1 : gc d s with
    | none => rw [e1] at e; cases e
    | some s1 =>
      rw [e1] at e
      exact ⟨v, vs, rfl, F, s, d, s1, r, a, e1, fun σ1 F1 H1 o1 su r1 => ⟨F1, s1, ds, s', r1, b.mono su, e, fun σ2 F2 H2 o2 su2 r2 => k σ2 F2 H2 (o1.trans o2) (su.trans su2) r2⟩⟩
def tupG (n : Nat) (g : TgL) : TgC := fun d s => match d with
  | .tup ds => if ds.length = n then g ds s else none
  | _ => none
theorem sg_tup {ts : List Expr} {k n : Nat} {gl : TgL} {gs : List Nat} (hc : X.calm = true) (h : SGs X ts gs gl) (hn : ∀ env, (assignEach ts env).length = n := by intro _; rfl) (hst : ∀ env, (assignEach ts env).findIdx? (·.1) = none := by intro _; rfl) : SG X (.Tuple ts k pos) gs (tupG n gl) := by
  refine ⟨fun B pn xe => pgW (pg_tup (X := X.tr pn xe) hc (h.run B pn xe) (hn _) (hst _)) fun v σ H Q ⟨F, s, d, s', r, q, e, k⟩ => ?_⟩
  unfold tupG at e
  split at e
  · split at e
    · rename_i ds hl
      cases q with
      | tup h1 h2 => exact ⟨_, _, rfl, r.sub.sqT h1, h2.len.trans hl, F, s, ds, s', r, h2, e, k⟩
    · cases e
  · cases e
/-- target = value -/
def asS (fe : CS → Rs D) (g : TgC) : CS → Fl := fun s => bindS (fe s) fun d s => nxO (g d s)
theorem ss_asg {tg : Expr} {gc : TgC} {gs : List Nat} (he : SD X e fe) (hg : SG X tg gs gc) (hs : swapsWithSole [tg] e pos.line X.env = pure false := by rfl) (hw : swappedStores [tg] e X.env = pure none := by rfl)
    (h1 : (assignEach [tg] X.env).map (·.2) = [assign tg X.env] := by rfl) : SS X (.Assign [tg] e pos) (asS fe gc) := by
  refine ⟨fun B pn xe W tk hp => psW (ps_asg (X := X.tr pn xe) (he.run B pn xe W tk) (hg.run B pn xe) hs hw h1) fun D σ H ⟨F, s, r, p⟩ => ⟨F, s, r, p.bind.mono fun d s1 p1 v F1 H1 su r1 q => ?_⟩⟩
  cases e1 : gc d s1 with
  | none => rw [e1] at p1; exact p1.elim
  | some s2 =>
    rw [e1] at p1
    exact ⟨F1, s1, d, s2, r1, q, e1, fun σ2 F2 H2 _ su2 r2 => p1 σ2 F2 H2 (su.trans su2) r2⟩
/-- a, b = x, y: plain local names -/
def paS (i j : Nat) (fa : CS → Rs (List Av)) : CS → Fl := fun s => bindS (fa s) fun xs s => match xs with
  | [.d d, .d e] => nxO ((setC i (.fz d) s).bind (setC j (.fz e)))
  | _ => .bad
theorem ss_par {i j : Nat} {y : Str} {a b : Expr} {px py pt : Pos} {kt k2 pt2} {fa : CS → Rs (List Av)} (hc : X.calm = true) (hN : X.N.Nodup) (hi : X.N[i]? = some x) (hj : X.N[j]? = some y) (hij : i ≠ j)
    (hx : X.env.scope.names.lookup x = some .local) (hy : X.env.scope.names.lookup y = some .local) (ha : SA X [a, b] fa)
    (hw : swappedStores [.Tuple [.Name x px, .Name y py] kt pt] (.Tuple [a, b] k2 pt2) X.env = pure (some [x, y]) := by rfl)
    (hs : swapsWithSole [.Tuple [.Name x px, .Name y py] kt pt] (.Tuple [a, b] k2 pt2) pos.line X.env = pure false := by rfl) :
    SS X (.Assign [.Tuple [.Name x px, .Name y py] kt pt] (.Tuple [a, b] k2 pt2) pos) (paS i j fa) := by
  refine ⟨fun B pn xe W tk hp => psW (ps_par (X := X.tr pn xe) hc hN hi hj hij hx hy (ha.run B pn xe W tk) hw hs) fun D σ H ⟨F, s, r, p⟩ => ⟨F, s, r, p.bind.mono fun xs s1 p1 vs F1 H1 su r1 q => ?_⟩⟩
  split at p1
  · rename_i d e
    cases q with
    | cons q1 q2 =>
      cases q2 with
      | cons q2 q3 =>
        cases q3
        rename_i v u
        refine ⟨v, u, rfl, ?_⟩
        cases hc1 : setC i (.fz d) s1 with
        | none => rw [hc1] at p1; exact p1.elim
        | some s2 =>
          rw [hc1] at p1
          cases hc2 : setC j (.fz e) s2 with
          | none => have p1 : PostS X.K B W F D (nxO (setC j (.fz e) s2)) := p1; rw [hc2] at p1; exact p1.elim
          | some s3 =>
            have p1 : PostS X.K B W F D (nxO (setC j (.fz e) s2)) := p1
            rw [hc2] at p1
            obtain ⟨h1, h2, rfl⟩ := setC_some hc1
            obtain ⟨h3, h4, rfl⟩ := setC_some hc2
            exact p1 _ F1 H1 su ((r1.setFz h1 h2 q1).setFz h3 h4 q2)
  · exact p1.elim
end
end Cl

set_option Elab.async false
set_option linter.all false
set_option maxRecDepth 100000
set_option maxHeartbeats 4000000
set_option autoImplicit false
/-! Cl, part D: while, for, comprehensions. -/
namespace Cl
open PySem PySem.Spec L2

/-! ### while -/
/-- a turn's end: go on from a state, or the loop's end -/
def turnS : Fl → CS ⊕ Fl
  | .nx s => .inl s
  | .ct s => .inl s
  | .brk s => .inr (.nx s)
  | r => .inr r
def stepW (t : CS → Rs Bool) (b : CS → Fl) (s : CS) : CS ⊕ Fl := match t s with
  | .ok true s => turnS (b s)
  | .ok false s => .inr (.nx s)
  | .exc c fs s => .inr (.exc c fs s)
  | .bad => .inr .bad
def whileN (t : CS → Rs Bool) (b : CS → Fl) : Nat → CS → Option Fl
  | 0, _ => none
  | n + 1, s => match stepW t b s with
    | .inl s => whileN t b n s
    | .inr r => some r
theorem whileN_mono {t : CS → Rs Bool} {b : CS → Fl} : ∀ {n m : Nat} {s : CS} {r : Fl}, n ≤ m → whileN t b n s = some r → whileN t b m s = some r
  | 0, _, _, _, _, h => by cases h
  | n + 1, 0, _, _, hm, _ => absurd hm (by omega)
  | n + 1, m + 1, s, r, hm, h => by
    unfold whileN at h ⊢
    cases e : stepW t b s with
    | inl s1 => rw [e] at h; exact whileN_mono (by omega) h
    | inr r1 => rw [e] at h; exact h
open Classical in
noncomputable def whileS (t : CS → Rs Bool) (b : CS → Fl) : CS → Fl := fun s => if h : ∃ n r, whileN t b n s = some r then Classical.choose (Classical.choose_spec h) else .bad
theorem whileS_eq {t : CS → Rs Bool} {b : CS → Fl} {s : CS} {n : Nat} {r : Fl} (h : whileN t b n s = some r) : whileS t b s = r := by
  have hx : ∃ n r, whileN t b n s = some r := ⟨n, r, h⟩
  unfold whileS
  rw [dif_pos hx]
  have q := Classical.choose_spec (Classical.choose_spec hx)
  have q1 := whileN_mono (Nat.le_max_left _ n) q
  have q2 := whileN_mono (Nat.le_max_right (Classical.choose hx) n) h
  rw [q1] at q2
  exact Option.some.inj q2
theorem whileS_unf (t : CS → Rs Bool) (b : CS → Fl) (s : CS) : whileS t b s = match stepW t b s with
    | .inl s => whileS t b s
    | .inr r => r := by
  cases e : stepW t b s with
  | inr r => exact whileS_eq (n := 1) (by unfold whileN; rw [e])
  | inl s1 =>
    by_cases hx : ∃ n r, whileN t b n s1 = some r
    · obtain ⟨n, r, h⟩ := hx
      show whileS t b s = whileS t b s1
      rw [whileS_eq h]
      exact whileS_eq (n := n + 1) (by unfold whileN; rw [e]; exact h)
    · have hy : ¬ ∃ n r, whileN t b n s = some r := fun ⟨n, r, h⟩ => by
        cases n with
        | zero => cases h
        | succ n =>
          unfold whileN at h
          rw [e] at h
          exact hx ⟨n, r, h⟩
      show whileS t b s = whileS t b s1
      unfold whileS
      rw [dif_neg hx, dif_neg hy]
theorem whileS_N {t : CS → Rs Bool} {b : CS → Fl} {s : CS} (h : whileS t b s ≠ .bad) : ∃ n, whileN t b n s = some (whileS t b s) := by
  by_cases hx : ∃ n r, whileN t b n s = some r
  · obtain ⟨n, r, e⟩ := hx
    exact ⟨n, by rw [whileS_eq e]; exact e⟩
  · unfold whileS at h
    rw [dif_neg hx] at h
    exact absurd rfl h

section
variable {X : Cx} {pos : Pos} {e tg iter : Expr} {body : List Stmt} {f : CS → Fl} {t : CS → Rs Bool}
theorem PostS.ne {K : PySem.W.Frag} {B : Bs} {W : WX} {F : Hp} {D : Ends} {r : Fl} (h : PostS K B W F D r) : r ≠ .bad := fun e => by rw [e] at h; exact h
theorem PostS.turn {K : PySem.W.Frag} {B : Bs} {W : WX} {F : Hp} {D : Ends} {r : Fl} {k : CS → Fl} {N : L2.St → Hp → Prop} (h : PostS K B W F D (match turnS r with | .inl s => k s | .inr r => r))
    (hN : ∀ s σ' F' H', turnS r = .inl s → Sub F F' → Rel K B F' s σ' H' → N σ' H') : PostS K B W F { D with nx := N, ct := N, bk := D.nx } r := by
  cases r with
  | nx s => exact fun σ' F' H' su r => hN s σ' F' H' rfl su r
  | ct s => exact fun σ' F' H' su r => hN s σ' F' H' rfl su r
  | brk s => exact h
  | ret r s => cases r <;> exact h
  | exc c fs s => exact h
  | bad => exact h
theorem ss_while {c : Expr} (hc : ST X c t) (hb : SSs X body f) : SS X (.While c body [] pos) (whileS t f) := by
  refine ⟨fun B pn xe W tk hp => psW (ps_while (X := X.tr pn xe) hp (hc.run B pn xe W tk) (hb.run B pn xe W tk hp)) fun D σ H ⟨F, s, r, p⟩ => ?_⟩
  refine ⟨fun m σ H => ∃ F s q, Rel X.K B F s σ H ∧ whileN t f m s = some q ∧ PostS X.K B W F D q, ?_, ?_⟩
  · obtain ⟨n, hn⟩ := whileS_N p.ne
    exact ⟨n, F, s, _, r, hn, p⟩
  rintro m σ1 H1 ⟨F1, s1, q, r1, hq, pq⟩
  cases m with
  | zero => cases hq
  | succ m =>
    unfold whileN at hq
    refine ⟨F1, s1, r1, ?_⟩
    cases et : t s1 with
    | bad =>
      rw [show stepW t f s1 = .inr .bad by unfold stepW; rw [et]] at hq
      cases hq; exact pq.elim
    | exc c fs s2 =>
      rw [show stepW t f s1 = .inr (.exc c fs s2) by unfold stepW; rw [et]] at hq
      cases hq
      exact fun dd F' H' => pq dd σ1 F' H'
    | ok b s2 =>
      intro F2 H2 su r2
      cases b with
      | false =>
        rw [show stepW t f s1 = .inr (.nx s2) by unfold stepW; rw [et]] at hq
        cases hq
        rw [if_neg Bool.false_ne_true]
        exact pq σ1 F2 H2 su r2
      | true =>
        rw [show stepW t f s1 = turnS (f s2) by unfold stepW; rw [et]] at hq
        rw [if_pos rfl]
        refine ⟨fun σ' H' => ∃ m', m' < m + 1 ∧ ∃ F s q, Rel X.K B F s σ' H' ∧ whileN t f m' s = some q ∧ PostS X.K B W F D q, fun σ' H' h => h, F2, s2, r2, ?_⟩
        refine PostS.turn (k := whileS t f) ?_ fun s3 σ' F' H' e3 su3 r3 => ?_
        · cases e3 : turnS (f s2) with
          | inl s3 =>
            rw [e3] at hq
            show PostS X.K B W F2 D (whileS t f s3)
            rw [whileS_eq hq]
            exact pq.sub su
          | inr r3 =>
            rw [e3] at hq
            cases hq
            exact pq.sub su
        · rw [e3] at hq
          exact ⟨m, Nat.lt_succ_self _, F', s3, q, r3, hq, pq.sub (su.trans su3)⟩

/-! ### what is walked -/
/-- the iterator gives these values -/
def SrcOk (K : PySem.W.Frag) (J : It) (F : Hp) (items : List D) : Prop :=
  ∀ F1 H1, Sub F F1 → Sub F1 H1 → ∀ i : Nat, (i < items.length → J.go i H1 ∧ ∀ x H2, J.yld i H1 x H2 → ∃ d F2, items[i]? = some d ∧ GrowT F1 H1 F2 H2 ∧ Rep K F2 x d) ∧ (items.length ≤ i → J.stop i H1)
def AnsI (K : PySem.W.Frag) (B : Bs) (F : Hp) (σ : L2.St) (R : It → Hp → Prop) (items : List D) (s : CS) : Prop := ∀ J F' H', Sub F F' → Rel K B F' s σ H' → SrcOk K J F' items → R J H'
def tI (K : PySem.W.Frag) (B : Bs) (W : WX) (f : CS → Rs (List D)) : TI := fun σ H R => ∃ F s, Rel K B F s σ H ∧ Post K B σ W (AnsI K B F σ R) (f s)
structure SI (X : Cx) (tg iter : Expr) (f : CS → Rs (List D)) : Prop where
  run : ∀ B pn xe W, Takes (X.tr pn xe) W → PI (X.tr pn xe) tg iter (tI X.K B W f)
theorem piW {X : Cx} {tg iter : Expr} {t t' : TI} (h : PI X tg iter t) (i : ∀ σ H R, t' σ H R → t σ H R) : PI X tg iter t' := ⟨fun pins s σ H R I q => h.run pins s σ H R I (i σ H R q)⟩
theorem SrcOk.mono {K : PySem.W.Frag} {J : It} {F F' : Hp} {items : List D} (h : SrcOk K J F items) (s : Sub F F') : SrcOk K J F' items := fun F1 H1 s1 s2 => h F1 H1 (s.trans s1) s2

/-! ### for -/
def forS (g : TgC) (b : CS → Fl) : List D → CS → Fl
  | [], s => .nx s
  | d :: ds, s => match g d s with
    | none => .bad
    | some s1 => match turnS (b s1) with
      | .inl s2 => forS g b ds s2
      | .inr r => r
def foS (fi : CS → Rs (List D)) (g : TgC) (b : CS → Fl) : CS → Fl := fun s => bindS (fi s) fun items s => forS g b items s
theorem ss_for {fi : CS → Rs (List D)} {g : TgC} {gs : List Nat} (hc : X.calm = true) (hi : SI X tg iter fi) (hg : SG X tg gs g) (hb : SSs X body f) (hs : ∀ env x, foldedSetIterable iter env x = pure x := by intro _ _; rfl) :
    SS X (.For tg iter body [] pos) (foS fi g f) := by
  refine ⟨fun B pn xe W tk hp => psW (ps_for (X := X.tr pn xe) hp hc (hi.run B pn xe W tk) (hg.run B pn xe) (hb.run B pn xe W tk hp) (hs _)) fun D σ H ⟨F, s, r, p⟩ => ⟨F, s, r, p.bind.mono fun items s1 p1 J F1 H1 su r1 src => ?_⟩⟩
  refine ⟨fun i m σ H => m = items.length - i ∧ i ≤ items.length ∧ ∃ F2 s2, Sub F1 F2 ∧ Rel X.K B F2 s2 σ H ∧ PostS X.K B W F2 D (forS g f (items.drop i) s2), ⟨items.length, by omega, Nat.zero_le _, F1, s1, .refl _, r1, p1.sub su⟩, ?_⟩
  rintro i m σ2 H2 ⟨rfl, hi, F2, s2, su2, r2, p2⟩
  have so := src F2 H2 su2 r2.sub i
  by_cases hlt : i < items.length
  · obtain ⟨hgo, hy⟩ := so.1 hlt
    refine .inr ⟨hgo, fun σ' H' => ∃ m', m' < items.length - i ∧ m' = items.length - (i + 1) ∧ i + 1 ≤ items.length ∧ ∃ F3 s3, Sub F1 F3 ∧ Rel X.K B F3 s3 σ' H' ∧ PostS X.K B W F3 D (forS g f (items.drop (i + 1)) s3), fun σ' H' ⟨m', h1, h2, h3, h4⟩ => ⟨m', h1, h2, h3, h4⟩, fun x H3 y => ?_⟩
    obtain ⟨d, F3, hd, gr, rep⟩ := hy x H3 y
    obtain ⟨r3, su3⟩ := r2.growT gr
    have hdr : items.drop i = d :: items.drop (i + 1) := by
      rw [List.drop_eq_getElem_cons hlt]
      congr 1
      rw [List.getElem?_eq_getElem hlt] at hd
      exact Option.some.inj hd
    rw [hdr] at p2
    unfold forS at p2
    cases eg : g d s2 with
    | none => rw [eg] at p2; exact p2.elim
    | some s3 =>
      rw [eg] at p2
      refine ⟨F3, s2, d, s3, r3, rep, eg, fun σ4 F4 H4 _ su4 r4 => ⟨F4, s3, r4, ?_⟩⟩
      have p3 : PostS X.K B W F4 D (match turnS (f s3) with | .inl s2 => forS g f (items.drop (i + 1)) s2 | .inr r => r) := PostS.sub (su3.trans su4) p2
      refine PostS.turn (k := forS g f (items.drop (i + 1))) p3 fun s5 σ5 F5 H5 e5 su5 r5 => ?_
      rw [e5] at p3
      exact ⟨_, by omega, rfl, hlt, F5, s5, su2.trans (su3.trans (su4.trans su5)), r5, p3.sub su5⟩
  · have e : i = items.length := by omega
    subst e
    rw [List.drop_length] at p2
    exact .inl ⟨so.2 (Nat.le_refl _), p2 σ2 F2 H2 (.refl _) r2⟩

/-! ### comprehensions -/
/-- the slots of the block's own names forgotten -/
def wipeS : List Nat → CS → CS
  | [], s => s
  | v :: vs, s => (wipeS vs s).set v none
theorem wipeS_length : ∀ (vs : List Nat) (s : CS), (wipeS vs s).length = s.length
  | [], _ => rfl
  | v :: vs, s => by unfold wipeS; rw [List.length_set, wipeS_length vs s]
theorem wipeS_some : ∀ {vs : List Nat} {s : CS} {i : Nat} {x : Sl}, (wipeS vs s)[i]? = some (some x) → s[i]? = some (some x) ∧ i ∉ vs
  | [], _, _, _, h => ⟨h, by simp⟩
  | v :: vs, s, i, x, h => by
    unfold wipeS at h
    by_cases e : i = v
    · subst e
      by_cases hl : i < (wipeS vs s).length
      · rw [List.getElem?_set_self hl] at h; cases h
      · rw [List.getElem?_eq_none (by rw [List.length_set]; omega)] at h; cases h
    · rw [List.getElem?_set_ne (Ne.symm e)] at h
      obtain ⟨h1, h2⟩ := wipeS_some h
      exact ⟨h1, fun hm => (List.mem_cons.mp hm).elim e h2⟩
theorem wipeS_keep : ∀ {vs : List Nat} {s : CS} {i : Nat}, i ∉ vs → (wipeS vs s)[i]? = s[i]?
  | [], _, _, _ => rfl
  | v :: vs, s, i, h => by
    unfold wipeS
    rw [List.getElem?_set_ne (fun e => h (by rw [e]; exact List.mem_cons_self))]
    exact wipeS_keep fun hm => h (List.mem_cons_of_mem _ hm)
theorem wipe_keep : ∀ {vs : List Nat} {σ : L2.St} {i : Nat}, i ∉ vs → (wipe σ vs)[i]? = σ[i]?
  | [], _, _, _ => rfl
  | v :: vs, σ, i, h => by
    unfold wipe
    rw [List.getElem?_set_ne (fun e => h (by rw [e]; exact List.mem_cons_self))]
    exact wipe_keep fun hm => h (List.mem_cons_of_mem _ hm)
/-- no object that is not frozen stands in these slots -/
def coldS (vs : List Nat) (s : CS) : Bool := vs.all fun i => match s[i]? with
  | some (some (.ow _)) => false
  | some (some (.le _)) => false
  | _ => true
theorem coldS_hot {vs : List Nat} {s : CS} (h : coldS vs s = true) {i : Nat} {d : D} (hh : Hot s i d) : i ∉ vs := fun hm => by
  have q := List.all_eq_true.mp h i hm
  rcases hh with e | e <;> (rw [e] at q; cases q)
/-- the outer slots again -/
def backS (vs : List Nat) (s0 s : CS) : CS := vs.foldl (fun s i => match s0[i]? with
  | some x => s.set i x
  | none => s) s
theorem backS_length : ∀ (vs : List Nat) (s0 s : CS), (backS vs s0 s).length = s.length
  | [], _, _ => rfl
  | v :: vs, s0, s => by
    show (backS vs s0 (match s0[v]? with | some x => s.set v x | none => s)).length = s.length
    rw [backS_length vs s0]
    cases s0[v]? with
    | none => rfl
    | some x => exact List.length_set ..
theorem backS_keep : ∀ {vs : List Nat} {s0 s : CS} {i : Nat}, i ∉ vs → (backS vs s0 s)[i]? = s[i]?
  | [], _, _, _, _ => rfl
  | v :: vs, s0, s, i, h => by
    show (backS vs s0 (match s0[v]? with | some x => s.set v x | none => s))[i]? = s[i]?
    rw [backS_keep fun hm => h (List.mem_cons_of_mem _ hm)]
    cases s0[v]? with
    | none => rfl
    | some x => exact List.getElem?_set_ne fun e => h (by rw [e]; exact List.mem_cons_self)
theorem backS_in : ∀ {vs : List Nat} {s0 s : CS} {i : Nat}, s0.length = s.length → i ∈ vs → (backS vs s0 s)[i]? = s0[i]?
  | v :: vs, s0, s, i, hl, h => by
    show (backS vs s0 (match s0[v]? with | some x => s.set v x | none => s))[i]? = s0[i]?
    by_cases hv : i ∈ vs
    · refine backS_in ?_ hv
      cases s0[v]? with
      | none => exact hl
      | some x => exact hl.trans (List.length_set ..).symm
    · have e : i = v := (List.mem_cons.mp h).resolve_right hv
      subst e
      rw [backS_keep hv]
      cases q : s0[i]? with
      | none =>
        have : s0.length ≤ i := List.getElem?_eq_none_iff.mp q
        exact List.getElem?_eq_none (show s.length ≤ i by omega)
      | some x =>
        have : i < s0.length := (List.getElem?_eq_some_iff.mp q).1
        exact List.getElem?_set_self (by omega)

theorem Rel.wipe {K : PySem.W.Frag} {B : Bs} {F : Hp} {s : CS} {σ : L2.St} {H : Hp} {vs : List Nat} (r : Rel K B F s σ H) (c : coldS vs s = true) : Rel K B F (wipeS vs s) (L2.wipe σ vs) H := by
  have hot : ∀ {i : Nat} {d : D}, Hot (wipeS vs s) i d → Hot s i d ∧ i ∉ vs := fun {i d} h => by
    rcases h with h | h
    · exact ⟨.inl (wipeS_some h).1, (wipeS_some h).2⟩
    · exact ⟨.inr (wipeS_some h).1, (wipeS_some h).2⟩
  refine ⟨r.sub, r.base, by rw [wipe_length, wipeS_length]; exact r.len, fun i d h => ?_, fun i d h => ?_, fun i d a h q => ?_, fun i j a d e hi hj q1 q2 => ?_, r.frame, r.cold, fun i a h => ?_, fun i d a h q => ?_⟩
  · obtain ⟨h1, h2⟩ := wipeS_some h
    rw [wipe_keep h2]; exact r.fz i d h1
  · obtain ⟨h1, h2⟩ := hot h
    rw [wipe_keep h2]; exact r.hot i d h1
  · obtain ⟨h1, h2⟩ := wipeS_some h
    rw [wipe_keep h2] at q; exact r.own i d a h1 q
  · obtain ⟨h1, h2⟩ := hot hi
    obtain ⟨h3, h4⟩ := hot hj
    rw [wipe_keep h2] at q1; rw [wipe_keep h4] at q2
    exact r.sep i j a d e h1 h3 q1 q2
  · obtain ⟨h1, d, h2⟩ := r.lent i a h
    have := coldS_hot c (.inr h2)
    exact ⟨by rw [wipe_keep this]; exact h1, d, by rw [wipeS_keep this]; exact h2⟩
  · obtain ⟨h1, h2⟩ := wipeS_some h
    rw [wipe_keep h2] at q; exact r.lentB i d a h1 q
theorem Rel.unwipe {K : PySem.W.Frag} {B : Bs} {F F' : Hp} {s s' : CS} {σ : L2.St} {H H' : Hp} {vs : List Nat} (r : Rel K B F s σ H) (c : coldS vs s = true) (su : Sub F F') (r' : Rel K B F' s' (L2.wipe σ vs) H') : Rel K B F' (backS vs s s') σ H' := by
  have hl : s.length = s'.length := by
    have h1 := r.len
    have h2 := r'.len
    rw [wipe_length] at h2
    omega
  have hin : ∀ {i : Nat}, i ∈ vs → (backS vs s s')[i]? = s[i]? := fun h => backS_in hl h
  have hout : ∀ {i : Nat}, i ∉ vs → (backS vs s s')[i]? = s'[i]? := fun h => backS_keep h
  have hot : ∀ {i : Nat} {d : D}, Hot (backS vs s s') i d → Hot s' i d ∧ i ∉ vs := fun {i d} h => by
    by_cases hm : i ∈ vs
    · have : Hot s i d := h.imp (by rw [hin hm]; exact id) (by rw [hin hm]; exact id)
      exact absurd hm (coldS_hot c this)
    · exact ⟨h.imp (by rw [hout hm]; exact id) (by rw [hout hm]; exact id), hm⟩
  refine ⟨r'.sub, r'.base, by rw [backS_length]; exact r.len.trans hl, fun i d h => ?_, fun i d h => ?_, fun i d a h q => ?_, fun i j a d e hi hj q1 q2 => ?_, r'.frame, r'.cold, fun i a h => ?_, fun i d a h q => ?_⟩
  · by_cases hm : i ∈ vs
    · rw [hin hm] at h
      obtain ⟨v, h1, h2⟩ := r.fz i d h
      exact ⟨v, h1, h2.mono su⟩
    · rw [hout hm] at h
      rw [← wipe_keep (σ := σ) hm]; exact r'.fz i d h
  · obtain ⟨h1, h2⟩ := hot h
    rw [← wipe_keep (σ := σ) h2]; exact r'.hot i d h1
  · obtain ⟨_, h2⟩ := hot (.inl h)
    rw [hout h2] at h
    rw [← wipe_keep (σ := σ) h2] at q; exact r'.own i d a h q
  · obtain ⟨h1, h2⟩ := hot hi
    obtain ⟨h3, h4⟩ := hot hj
    rw [← wipe_keep (σ := σ) h2] at q1; rw [← wipe_keep (σ := σ) h4] at q2
    exact r'.sep i j a d e h1 h3 q1 q2
  · obtain ⟨h1, d, h2⟩ := r'.lent i a h
    obtain ⟨d', h3⟩ := (r.lent i a h).2
    have hm := coldS_hot c (.inr h3)
    exact ⟨by rw [← wipe_keep (σ := σ) hm]; exact h1, d, by rw [hout hm]; exact h2⟩
  · obtain ⟨_, h2⟩ := hot (.inr h)
    rw [hout h2] at h
    rw [← wipe_keep (σ := σ) h2] at q; exact r'.lentB i d a h q
/-- an object that is no slot's is kept in view -/
theorem Rel.pin {K : PySem.W.Frag} {B : Bs} {F : Hp} {s : CS} {σ : L2.St} {H : Hp} {a : Addr} {o : HO} (r : Rel K B F s σ H) (h : H a = some o) (hF : F a = none) (hn : ∀ (i : Nat) e, Hot s i e → σ[i]? ≠ some (some (.ref a))) :
    Rel K { B with H0 := upd B.H0 a o } F s σ H := by
  refine ⟨r.sub, r.base, r.len, r.fz, r.hot, fun i d b hb q => ?_, r.sep, fun b u e nb => ?_, fun b u e f => ?_, r.lent, r.lentB⟩
  · have : b ≠ a := fun z => hn i d (.inl hb) (by rw [q, z])
    show upd B.H0 a o b = none
    rw [upd_ne this]; exact r.own i d b hb q
  · have e : upd B.H0 a o b = some u := e
    by_cases z : b = a
    · subst z; rw [upd_same] at e; cases e; exact h
    · rw [upd_ne z] at e; exact r.frame b u e nb
  · have e : upd B.H0 a o b = some u := e
    by_cases z : b = a
    · subst z; exact hF
    · rw [upd_ne z] at e; exact r.cold b u e f
theorem Rel.unpin {K : PySem.W.Frag} {B : Bs} {F : Hp} {s : CS} {σ : L2.St} {H : Hp} {a : Addr} {o : HO} (r : Rel K { B with H0 := upd B.H0 a o } F s σ H) (h0 : B.H0 a = none) (f0 : B.F0 a = none) (hl : a ∉ B.la) :
    Rel K B F s σ H ∧ H a = some o ∧ F a = none ∧ ∀ (i : Nat) e, Hot s i e → σ[i]? ≠ some (some (.ref a)) := by
  refine ⟨⟨r.sub, r.base, r.len, r.fz, r.hot, fun i d b hb q => ?_, r.sep, fun b u e nb => r.frame b u ?_ nb, fun b u e f => r.cold b u ?_ f, r.lent, r.lentB⟩, r.frame a o upd_same hl, r.cold a o upd_same f0, fun i e hh q => ?_⟩
  · have e : upd B.H0 a o b = none := r.own i d b hb q
    by_cases z : b = a
    · subst z; rw [upd_same] at e; cases e
    · rw [upd_ne z] at e; exact e
  · have : b ≠ a := ne_of_none e h0
    show upd B.H0 a o b = some u
    rw [upd_ne this]; exact e
  · have : b ≠ a := ne_of_none e h0
    show upd B.H0 a o b = some u
    rw [upd_ne this]; exact e
  · rcases hh with hh | hh
    · have z : upd B.H0 a o a = none := r.own i e a hh q
      rw [upd_same] at z; cases z
    · exact hl (List.mem_map.mpr ⟨(i, a), r.lentB i e a hh q, rfl⟩)
theorem Rel.notLent {K : PySem.W.Frag} {B : Bs} {F : Hp} {s : CS} {σ : L2.St} {H : Hp} {a : Addr} (r : Rel K B F s σ H) (h : H a = none) : a ∉ B.la ∧ B.F0 a = none := by
  refine ⟨fun hm => ?_, ?_⟩
  · obtain ⟨⟨i, b⟩, h1, h2⟩ := List.mem_map.mp hm
    have h2 : b = a := h2
    subst h2
    obtain ⟨q1, d, q2⟩ := r.lent i b h1
    obtain ⟨c, q3, q4, _⟩ := r.hot i d (.inr q2)
    rw [q1] at q3; cases q3
    obtain ⟨u, hu⟩ := q4.ex
    rw [h] at hu; cases hu
  · cases e : B.F0 a with
    | none => rfl
    | some o => rw [r.sub _ _ (r.base _ _ e)] at h; cases h
/-- the tests of a clause -/
structure STs (X : Cx) (ifs : List Expr) (t : CS → Rs Bool) : Prop where
  run : ∀ B pn xe W, Takes (X.tr pn xe) W → PTs (X.tr pn xe) ifs (tT X.K B W t)
theorem ptsW {X : Cx} {ifs : List Expr} {t t' : TT} (h : PTs X ifs t) (i : ∀ σ H Q, t' σ H Q → t σ H Q) : PTs X ifs t' := ⟨fun pins s σ H Q I q => h.run pins s σ H Q I (i σ H Q q)⟩
def yesT : CS → Rs Bool := fun s => .ok true s
theorem sts_nil : STs X [] yesT := ⟨fun B pn xe W tk => ptsW pts_nil fun σ H Q ⟨F, s, r, p⟩ => p F H (.refl _) r⟩
theorem sts_one {c : Expr} (h : ST X c t) : STs X [c] t := ⟨fun B pn xe W tk => pts_one (h.run B pn xe W tk)⟩
/-- no exception leaves -/
def onlyR {α : Type} : Rs α → Rs α
  | .ok a s => .ok a s
  | _ => .bad
theorem Post.only {K : PySem.W.Frag} {B : Bs} {σ : L2.St} {W W' : WX} {B' : Bs} {σ' : L2.St} {α : Type} {P : α → CS → Prop} {r : Rs α} (h : Post K B σ W P (onlyR r)) : Post K B' σ' W' P r := by
  cases r with
  | ok a s => exact h
  | exc c fs s => exact h.elim
  | bad => exact h
/-- the turns of [e for g in items if t] -/
def lcL (vs : List Nat) (g : TgC) (t : CS → Rs Bool) (e : CS → Rs D) : List D → List D → CS → Rs (List D)
  | [], acc, s => .ok acc s
  | d :: ds, acc, s => match g d s with
    | none => .bad
    | some s1 => (onlyR (t s1)).bind fun b s2 => if b = true then (onlyR (e s2)).bind fun y s3 => (if acc.length < sizeLine then (if coldS vs s3 = true then lcL vs g t e ds (acc ++ [y]) (wipeS vs s3) else .bad) else .bad)
      else (if coldS vs s2 = true then lcL vs g t e ds acc (wipeS vs s2) else .bad)
def lcE (vs : List Nat) (fi : CS → Rs (List D)) (g : TgC) (t : CS → Rs Bool) (e : CS → Rs D) : CS → Rs D := fun s => (fi s).bind fun items s1 =>
  if coldS vs s1 = true then (lcL vs g t e items [] (wipeS vs s1)).bind fun acc s2 => .ok (.lst acc) (backS vs s1 s2) else .bad
theorem lcL_only {vs : List Nat} {g : TgC} {t : CS → Rs Bool} {e : CS → Rs D} : ∀ {items acc : List D} {s : CS} {c : Str} {fs : List (Str × D)} {s' : CS}, lcL vs g t e items acc s ≠ .exc c fs s'
  | [], _, _, _, _, _, h => by cases h
  | d :: ds, acc, s, c, fs, s', h => by
    unfold lcL at h
    split at h
    · cases h
    · rename_i s1 _
      cases e1 : t s1 with
      | exc c fs s => rw [e1] at h; cases h
      | bad => rw [e1] at h; cases h
      | ok b s2 =>
        rw [e1] at h
        simp only [onlyR, Rs.bind] at h
        split at h
        · cases e2 : e s2 with
          | exc c fs s => rw [e2] at h; cases h
          | bad => rw [e2] at h; cases h
          | ok y s3 =>
            rw [e2] at h
            simp only [onlyR, Rs.bind] at h
            split at h
            · split at h
              · exact lcL_only h
              · cases h
            · cases h
        · split at h
          · exact lcL_only h
          · cases h
theorem wipe_wipeS {K : PySem.W.Frag} {B : Bs} {F : Hp} {s : CS} {σ : L2.St} {H : Hp} {vs : List Nat} (r : Rel K B F s σ H) (c : coldS vs s = true) (h : L2.wipe σ vs = σ) : Rel K B F (wipeS vs s) σ H := by
  have := r.wipe c
  rw [h] at this; exact this
theorem wipe_wipe (σ : L2.St) : ∀ vs : List Nat, L2.wipe (L2.wipe σ vs) vs = L2.wipe σ vs := fun vs => by
  have key : ∀ (us : List Nat) (τ : L2.St), (∀ v ∈ us, ∀ x, τ[v]? ≠ some (some x)) → L2.wipe τ us = τ := by
    intro us
    induction us with
    | nil => intro τ _; rfl
    | cons u us ih =>
      intro τ h
      show (L2.wipe τ us).set u none = τ
      rw [ih τ fun v hv => h v (List.mem_cons_of_mem _ hv)]
      apply List.ext_getElem?
      intro j
      by_cases e : u = j
      · subst e
        by_cases hl : u < τ.length
        · rw [List.getElem?_set_self hl]
          cases q : τ[u]? with
          | none => rw [List.getElem?_eq_none_iff] at q; omega
          | some y => cases y with
            | none => rfl
            | some x => exact absurd q (h u List.mem_cons_self x)
        · rw [List.getElem?_eq_none (by rw [List.length_set]; omega), List.getElem?_eq_none (by omega)]
      · rw [List.getElem?_set_ne e]
  exact key vs _ fun v hv x q => (wipe_some q).2 hv
theorem wipe_only {gs vs : List Nat} {σ σ' : L2.St} (o : OnlyAt gs σ σ') (h : ∀ i ∈ gs, i ∈ vs) : L2.wipe σ' vs = L2.wipe σ vs := by
  apply List.ext_getElem?
  intro i
  by_cases hv : i ∈ vs
  · have key : ∀ (us : List Nat) (τ : L2.St), i ∈ us → i < τ.length → (L2.wipe τ us)[i]? = some none := by
      intro us
      induction us with
      | nil => intro τ h; cases h
      | cons u us ih =>
        intro τ hm hl
        show ((L2.wipe τ us).set u none)[i]? = some none
        by_cases e : u = i
        · subst e; exact List.getElem?_set_self (by rw [wipe_length]; exact hl)
        · rw [List.getElem?_set_ne e]
          exact ih τ ((List.mem_cons.mp hm).resolve_left (Ne.symm e)) hl
    by_cases hl : i < σ.length
    · rw [key vs σ' hv (by rw [o.1]; exact hl), key vs σ hv hl]
    · rw [List.getElem?_eq_none (by rw [wipe_length, o.1]; omega), List.getElem?_eq_none (by rw [wipe_length]; omega)]
  · rw [wipe_keep hv, wipe_keep hv]
    exact o.2 i fun m => hv (h i m)
/-- what no slot holds is written -/
theorem Rel.writeFree {K : PySem.W.Frag} {B : Bs} {F : Hp} {s : CS} {σ : L2.St} {H : Hp} {a : Addr} {o : HO} (r : Rel K B F s σ H) (h0 : B.H0 a = none) (hF : F a = none) (hn : ∀ (i : Nat) e, Hot s i e → σ[i]? ≠ some (some (.ref a))) :
    Rel K B F s σ (upd H a o) := by
  refine ⟨fun b u e => ?_, r.base, r.len, r.fz, fun i d h => ?_, r.own, r.sep, fun b u e nb => ?_, r.cold, r.lent, r.lentB⟩
  · have : b ≠ a := ne_of_none e hF
    rw [upd_ne this]; exact r.sub _ _ e
  · obtain ⟨b, h1, h2, h3⟩ := r.hot i d h
    have : b ≠ a := fun z => hn i d h (by rw [h1, z])
    exact ⟨b, h1, h2.mono (.refl _) (upd_ne this), h3⟩
  · have : b ≠ a := ne_of_none e h0
    rw [upd_ne this]; exact r.frame b u e nb
theorem peX {X : Cx} {e : Expr} {α : Type} {t : α → TE} (h : ∀ b, PE X e (t b)) : PE X e (fun σ H Q => ∃ b, t b σ H Q) := ⟨fun pins s σ H Q I ⟨b, q⟩ => (h b).run pins s σ H Q I q⟩
theorem ptsX {X : Cx} {ifs : List Expr} {α : Type} {t : α → TT} (h : ∀ b, PTs X ifs (t b)) : PTs X ifs (fun σ H Q => ∃ b, t b σ H Q) := ⟨fun pins s σ H Q I ⟨b, q⟩ => (h b).run pins s σ H Q I q⟩
theorem pgX {X : Cx} {tg : Expr} {α : Type} {t : α → TG} (h : ∀ b, PG X tg (t b)) : PG X tg (fun v σ H Q => ∃ b, t b v σ H Q) := ⟨fun pins s σ H v u Q I r ⟨b, q⟩ => (h b).run pins s σ H v u Q I r q⟩
abbrev W0 : WX := fun _ _ _ _ => False
section
variable {K : PySem.W.Frag} {B : Bs} {F : Hp} {σ : L2.St} {H : Hp} {fi : CS → Rs (List D)} {g : TgC} {gs : List Nat} {t : CS → Rs Bool} {fe : CS → Rs D} {vs : List Nat} {W : WX} {s : CS} {Q : VK}
theorem lc_in (hgs : ∀ i ∈ gs, i ∈ vs) (r : Rel K B F s σ H) (p : Post K B σ W (AnsN K B F σ Q) (lcE vs fi g t fe s)) :
    tLc (tI K B W fi) (fun v σ H Q => ∃ B, tG K B gs g v σ H Q) (fun σ H Q => ∃ B, tT K B W0 t σ H Q) (fun σ H Q => ∃ B, tD K B W0 fe σ H Q) vs σ H Q := by
  refine ⟨F, s, r, p.bind.mono fun items s1 p1 J F1 H1 su r1 src Dl hD => ?_⟩
  split at p1
  · rename_i hcold
    have hl := r1.notLent hD
    have h0 := r1.fresh0 hD
    have F1D : F1 Dl = none := by
      cases e : F1 Dl with
      | none => rfl
      | some u => rw [r1.sub _ _ e] at hD; cases hD
    have nh : ∀ {s2 : CS} {τ : L2.St} {H2 : Hp} {F2 : Hp}, Rel K B F2 s2 τ H2 → H2 Dl = none → ∀ (i : Nat) e, Hot s2 i e → τ[i]? ≠ some (some (.ref Dl)) := fun {s2 τ H2 F2} r2 hn i e hh q => by
      obtain ⟨a, q1, q2, _⟩ := r2.hot i e hh
      rw [q] at q1; cases q1
      obtain ⟨u, hu⟩ := q2.ex
      rw [hn] at hu; cases hu
    refine ⟨fun i m H => m = items.length - i ∧ i ≤ items.length ∧ ∃ F2 s2 vacc acc, Sub F1 F2 ∧ Rel K B F2 s2 (L2.wipe σ vs) H ∧ H Dl = some (.lst vacc) ∧ RepA K F2 vacc acc ∧ F2 Dl = none ∧ (∀ (i : Nat) e, Hot s2 i e → (L2.wipe σ vs)[i]? ≠ some (some (.ref Dl))) ∧
      Post K B σ W (fun acc s2 => AnsN K B F σ Q (.lst acc) (backS vs s1 s2)) (lcL vs g t fe (items.drop i) acc s2), ⟨items.length, by omega, Nat.zero_le _, F1, wipeS vs s1, [], [], .refl _, (r1.wipe hcold).grow (Sub.upd hD), upd_same, .nil, F1D, nh (r1.wipe hcold) hD, Post.bind p1⟩, ?_⟩
    rintro i m H2 ⟨rfl, hi, F2, s2, vacc, acc, su2, r2, hD2, ra, F2D, hn2, p2⟩
    have so := src F2 H2 su2 r2.sub i
    by_cases hlt : i < items.length
    · obtain ⟨hgo, hy⟩ := so.1 hlt
      refine .inr ⟨hgo, fun H' => ∃ m', m' < items.length - i ∧ m' = items.length - (i + 1) ∧ i + 1 ≤ items.length ∧ ∃ F2 s2 vacc acc, Sub F1 F2 ∧ Rel K B F2 s2 (L2.wipe σ vs) H' ∧ H' Dl = some (.lst vacc) ∧ RepA K F2 vacc acc ∧ F2 Dl = none ∧ (∀ (i : Nat) e, Hot s2 i e → (L2.wipe σ vs)[i]? ≠ some (some (.ref Dl))) ∧
        Post K B σ W (fun acc s2 => AnsN K B F σ Q (.lst acc) (backS vs s1 s2)) (lcL vs g t fe (items.drop (i + 1)) acc s2), fun H' ⟨m', h1, h2, h3, h4⟩ => ⟨m', h1, h2, h3, h4⟩, fun x H3 y => ?_⟩
      obtain ⟨d, F3, hd, gr, rep⟩ := hy x H3 y
      obtain ⟨r3, su3⟩ := r2.growT gr
      have hD3 : H3 Dl = some (.lst vacc) ∧ F3 Dl = none := by
        cases gr with
        | refl => exact ⟨hD2, F2D⟩
        | @new p o hn =>
          have : Dl ≠ p := ne_of_none hD2 hn
          exact ⟨by rw [upd_ne this]; exact hD2, by rw [upd_ne this]; exact F2D⟩
      have hdr : items.drop i = d :: items.drop (i + 1) := by
        rw [List.drop_eq_getElem_cons hlt]
        congr 1
        rw [List.getElem?_eq_getElem hlt] at hd
        exact Option.some.inj hd
      rw [hdr] at p2
      unfold lcL at p2
      cases eg : g d s2 with
      | none => rw [eg] at p2; exact p2.elim
      | some s3 =>
        rw [eg] at p2
        have p2 := Post.bind p2
        refine ⟨_, F3, s2, d, s3, r3.pin hD3.1 hD3.2 hn2, rep, eg, fun σ4 F4 H4 o4 su4 r4 => ?_⟩
        have w4 : L2.wipe σ4 vs = L2.wipe σ vs := by rw [wipe_only o4 hgs, wipe_wipe]
        refine ⟨w4, _, F4, s3, r4, Post.mono (Post.only p2) fun b s5 p5 F5 H5 su5 r5 => ?_⟩
        cases b with
        | false =>
          rw [if_neg Bool.false_ne_true]
          have p5 : Post K B σ W (fun acc s2 => AnsN K B F σ Q (.lst acc) (backS vs s1 s2)) (if coldS vs s5 = true then lcL vs g t fe (items.drop (i + 1)) acc (wipeS vs s5) else .bad) := p5
          split at p5
          · rename_i hc5
            obtain ⟨r5', hD5, F5D, hn5⟩ := r5.unpin h0 hl.2 hl.1
            have r6 := r5'.wipe hc5
            rw [w4] at r6
            refine ⟨_, by omega, rfl, hlt, F5, wipeS vs s5, vacc, acc, su2.trans (su3.trans (su4.trans su5)), r6, hD5, ra.mono (su3.trans (su4.trans su5)), F5D, fun j e hh q => ?_, p5⟩
            have hh' : Hot s5 j e ∧ j ∉ vs := by
              rcases hh with h | h
              · exact ⟨.inl (wipeS_some h).1, (wipeS_some h).2⟩
              · exact ⟨.inr (wipeS_some h).1, (wipeS_some h).2⟩
            rw [← w4, wipe_keep hh'.2] at q
            exact hn5 j e hh'.1 q
          · exact p5.elim
        | true =>
          rw [if_pos rfl]
          have p5 := Post.bind (show Post K B σ W (fun acc s2 => AnsN K B F σ Q (.lst acc) (backS vs s1 s2)) ((onlyR (fe s5)).bind fun y s3 => (if acc.length < sizeLine then (if coldS vs s3 = true then lcL vs g t fe (items.drop (i + 1)) (acc ++ [y]) (wipeS vs s3) else .bad) else .bad)) from p5)
          refine ⟨_, F5, s5, r5, Post.mono (Post.only p5) fun z s6 p6 v F6 H6 su6 r6 rz => ?_⟩
          split at p6
          · rename_i hz
            split at p6
            · rename_i hc6
              obtain ⟨r6', hD6, F6D, hn6⟩ := r6.unpin h0 hl.2 hl.1
              have sall := su3.trans (su4.trans (su5.trans su6))
              have rw' := (r6'.writeFree (o := .lst (vacc ++ [v])) h0 F6D hn6).wipe hc6
              rw [w4] at rw'
              refine ⟨vacc, hD6, by rw [ra.len]; exact hz, _, by omega, rfl, hlt, F6, wipeS vs s6, vacc ++ [v], acc ++ [z], su2.trans sall, rw', upd_same, (ra.mono sall).append (.cons rz .nil), F6D, fun j e hh q => ?_, p6⟩
              have hh' : Hot s6 j e ∧ j ∉ vs := by
                rcases hh with h | h
                · exact ⟨.inl (wipeS_some h).1, (wipeS_some h).2⟩
                · exact ⟨.inr (wipeS_some h).1, (wipeS_some h).2⟩
              rw [← w4, wipe_keep hh'.2] at q
              exact hn6 j e hh'.1 q
            · exact p6.elim
          · exact p6.elim
    · have e : i = items.length := by omega
      subst e
      rw [List.drop_length] at p2
      have p2 : AnsN K B F σ Q (.lst acc) (backS vs s1 s2) := p2
      refine .inl ⟨so.2 (Nat.le_refl _), p2 Dl F2 H2 (su.trans su2) (r1.unwipe hcold su2 r2) ⟨⟨vacc, hD2, ra⟩, F2D, h0, fun j e hh q => ?_⟩⟩
      by_cases hm : j ∈ vs
      · have hl2 : s1.length = s2.length := by
          have h1 := r1.len
          have h2 := r2.len
          rw [wipe_length] at h2
          omega
        have : Hot s1 j e := by
          rcases hh with h | h
          · exact .inl ((backS_in hl2 hm).symm.trans h)
          · exact .inr ((backS_in hl2 hm).symm.trans h)
        exact coldS_hot hcold this hm
      · have : Hot s2 j e := by
          rcases hh with h | h
          · exact .inl ((backS_keep hm).symm.trans h)
          · exact .inr ((backS_keep hm).symm.trans h)
        exact hn2 j e this (by rw [wipe_keep hm]; exact q)
  · exact p1.elim
end
theorem sn_lc {elt : Expr} {ifs : List Expr} {scope : Scope} {own : List (Str × Nat)} {fi : CS → Rs (List D)} {g : TgC} {gs : List Nat} {fe : CS → Rs D} (hc : X.calm = true) (hN : X.N.Nodup) (ok : BlkOk X.N X.env.scope scope own) (hgs : ∀ i ∈ gs, i ∈ own.map (·.2)) (hi : SI X tg iter fi)
    (hg : ∀ (s : Shared) (H : Hp) (C : Addr) (cl : List (Str × Addr)) (fp : List Addr), SG (X.blk s H scope (compEnvC scope cl C X.env) fp) tg gs g)
    (ht : ∀ (s : Shared) (H : Hp) (C : Addr) (cl : List (Str × Addr)) (fp : List Addr), STs (X.blk s H scope (compEnvC scope cl C X.env) fp) ifs t)
    (he : ∀ (s : Shared) (H : Hp) (C : Addr) (cl : List (Str × Addr)) (fp : List Addr), SD (X.blk s H scope (compEnvC scope cl C X.env) fp) elt fe)
    (hs : ∀ env x, foldedSetIterable iter env x = pure x := by intro _ _; rfl) : SN X (.ListComp elt [⟨tg, iter, ifs, 0⟩] scope pos) (lcE (own.map (·.2)) fi g t fe) := by
  refine ⟨fun B pn xe W tk => peW (pe_lc (X := X.tr pn xe) hc hN (hi.run B pn xe W tk) ok (fun s H C cl fp => pgX fun B => (hg s H C cl fp).run B [] (fun _ _ => False)) (fun s H C cl fp => ptsX fun B => (ht s H C cl fp).run B [] (fun _ _ => False) W0 takes0)
    (fun s H C cl fp => peX fun B => (he s H C cl fp).run B [] (fun _ _ => False) W0 takes0) (hs _)) fun σ H Q ⟨F, s, r, p⟩ => lc_in hgs r p⟩
/-- name = [..] on one line -/
theorem ss_setLc {i : Nat} {y : Str} {py spos : Pos} {elt : Expr} {ifs : List Expr} {scope : Scope} {own : List (Str × Nat)} {fi : CS → Rs (List D)} {g : TgC} {gs : List Nat} {fe : CS → Rs D} (hc : X.calm = true) (hN : X.N.Nodup) (hy : X.N[i]? = some y) (hyl : X.env.scope.names.lookup y = some .local)
    (hsw : swapsWith (.ListComp elt [⟨tg, iter, ifs, 0⟩] scope pos) (some (.Name y py)) spos.line X.env = pure true) (ok : BlkOk X.N X.env.scope scope own) (hgs : ∀ i ∈ gs, i ∈ own.map (·.2)) (hi : SI X tg iter fi)
    (hg : ∀ (s : Shared) (H : Hp) (C : Addr) (cl : List (Str × Addr)) (fp : List Addr), SG (X.blk s H scope (compEnvC scope cl C X.env) fp) tg gs g)
    (ht : ∀ (s : Shared) (H : Hp) (C : Addr) (cl : List (Str × Addr)) (fp : List Addr), STs (X.blk s H scope (compEnvC scope cl C X.env) fp) ifs t)
    (he : ∀ (s : Shared) (H : Hp) (C : Addr) (cl : List (Str × Addr)) (fp : List Addr), SD (X.blk s H scope (compEnvC scope cl C X.env) fp) elt fe)
    (hs : ∀ env x, foldedSetIterable iter env x = pure x := by intro _ _; rfl) : SS X (.Assign [.Name y py] (.ListComp elt [⟨tg, iter, ifs, 0⟩] scope pos) spos) (snS i (lcE (own.map (·.2)) fi g t fe)) := by
  refine ⟨fun B pn xe W tk hp => psW (ps_setLc (X := X.tr pn xe) hc hN hy hyl hsw (hi.run B pn xe W tk) ok (fun s H C cl fp => pgX fun B => (hg s H C cl fp).run B [] (fun _ _ => False)) (fun s H C cl fp => ptsX fun B => (ht s H C cl fp).run B [] (fun _ _ => False) W0 takes0)
    (fun s H C cl fp => peX fun B => (he s H C cl fp).run B [] (fun _ _ => False) W0 takes0) (hs _)) fun D σ H ⟨F, s, r, p⟩ => lc_in hgs r (p.bind.mono fun d s1 p1 a F1 H1 su r1 n => ?_)⟩
  cases hc : setC i (.ow d) s1 with
  | none => rw [hc] at p1; exact p1.elim
  | some s2 =>
    rw [hc] at p1
    obtain ⟨h1, h2, rfl⟩ := setC_some hc
    exact p1 _ F1 H1 su (r1.setOw h1 h2 n)
end
end Cl

set_option Elab.async false
set_option linter.all false
set_option maxRecDepth 100000
set_option maxHeartbeats 4000000
set_option autoImplicit false
/-! Cl, part E: defs and their calls. -/
namespace Cl
open PySem PySem.Spec L2
open PyProof.Rows (envOfC)

/-- code that is never come to -/
def badS : CS → Fl := fun _ => .bad
theorem ss_bad {X : Cx} {st : Stmt} : SS X st badS := ⟨fun B pn xe W tk hp => psW ps_never fun D σ H ⟨F, s, r, p⟩ => p.elim⟩
theorem sss_bad {X : Cx} {st : List Stmt} : SSs X st badS := ⟨fun B pn xe W tk hp => pssW pss_never fun D σ H ⟨F, s, r, p⟩ => p.elim⟩

/-! ### what a def promises -/
inductive ArgsR (K : PySem.W.Frag) (F H : Hp) : List Bool → List V → List D → Prop
  | nil : ArgsR K F H [] [] []
  | fz {m : List Bool} {v : V} {vs : List V} {d : D} {ds : List D} : Rep K F v d → ArgsR K F H m vs ds → ArgsR K F H (false :: m) (v :: vs) (d :: ds)
  | le {m : List Bool} {a : Addr} {vs : List V} {d : D} {ds : List D} : OwnObj K F H a d → F a = none → ArgsR K F H m vs ds → ArgsR K F H (true :: m) (.ref a :: vs) (d :: ds)
def LentAt (mask : List Bool) (vs : List V) (i : Nat) (a : Addr) : Prop := mask[i]? = some true ∧ vs[i]? = some (.ref a)
def SepA (mask : List Bool) (vs : List V) : Prop := ∀ i j a, LentAt mask vs i a → LentAt mask vs j a → i = j
structure After (K : PySem.W.Frag) (mask : List Bool) (vs : List V) (F H F' H' : Hp) (outs : List D) : Prop where
  s1 : Sub F F'
  s2 : Sub F' H'
  frame : ∀ a o, H a = some o → (∀ i, ¬ LentAt mask vs i a) → H' a = some o
  cold : ∀ a o, H a = some o → F a = none → F' a = none
  outs : ∀ i a, LentAt mask vs i a → ∃ d, outs[i]? = some d ∧ OwnObj K F' H' a d
def ResOk (K : PySem.W.Frag) (F' H H' : Hp) (v : V) : Sl → Prop
  | .fz d => Rep K F' v d
  | .ow d => ∃ a, v = .ref a ∧ OwnObj K F' H' a d ∧ F' a = none ∧ H a = none
  | .le _ => False
def PostG (K : PySem.W.Frag) (mask : List Bool) (vs : List V) (F H : Hp) (Q : VK) (E : XK) : GR → Prop
  | .ok r outs => ∀ v F' H', After K mask vs F H F' H' outs → ResOk K F' H H' v r → Q v H'
  | .exc c fs outs => ∀ dd F' H', After K mask vs F H F' H' outs → ExcR K F' H' dd fs → E (.ref (He.ga K c)) dd H'
  | .bad => False
def spOf (K : PySem.W.Frag) (mask : List Bool) (g : List D → GR) : Sp := fun vs H Q E => ∃ F ds, Sub F H ∧ ArgsR K F H mask vs ds ∧ SepA mask vs ∧ PostG K mask vs F H Q E (g ds)
section
variable {K : PySem.W.Frag} {F H : Hp}
theorem ArgsR.l1 : ∀ {mask : List Bool} {vs : List V} {ds : List D}, ArgsR K F H mask vs ds → vs.length = mask.length
  | _, _, _, .nil => rfl
  | _, _, _, .fz _ r => congrArg Nat.succ (ArgsR.l1 r)
  | _, _, _, .le _ _ r => congrArg Nat.succ (ArgsR.l1 r)
theorem ArgsR.l2 : ∀ {mask : List Bool} {vs : List V} {ds : List D}, ArgsR K F H mask vs ds → ds.length = mask.length
  | _, _, _, .nil => rfl
  | _, _, _, .fz _ r => congrArg Nat.succ (ArgsR.l2 r)
  | _, _, _, .le _ _ r => congrArg Nat.succ (ArgsR.l2 r)
theorem ArgsR.fzAt : ∀ {mask : List Bool} {vs : List V} {ds : List D} {i : Nat} {d : D}, ArgsR K F H mask vs ds → mask[i]? = some false → ds[i]? = some d → ∃ v, vs[i]? = some v ∧ Rep K F v d
  | _, _, _, i, d, .nil, e, _ => by simp at e
  | _, _, _, 0, d, .fz h _, _, e => by simp at e; subst e; exact ⟨_, rfl, h⟩
  | _, _, _, 0, d, .le _ _ _, e, _ => by simp at e
  | _, _, _, i + 1, d, .fz _ r, e1, e2 => by simpa using ArgsR.fzAt (i := i) r (by simpa using e1) (by simpa using e2)
  | _, _, _, i + 1, d, .le _ _ r, e1, e2 => by simpa using ArgsR.fzAt (i := i) r (by simpa using e1) (by simpa using e2)
theorem ArgsR.leAt : ∀ {mask : List Bool} {vs : List V} {ds : List D} {i : Nat} {d : D}, ArgsR K F H mask vs ds → mask[i]? = some true → ds[i]? = some d → ∃ a, vs[i]? = some (.ref a) ∧ OwnObj K F H a d ∧ F a = none
  | _, _, _, i, d, .nil, e, _ => by simp at e
  | _, _, _, 0, d, .le h1 h2 _, _, e => by simp at e; subst e; exact ⟨_, rfl, h1, h2⟩
  | _, _, _, 0, d, .fz _ _, e, _ => by simp at e
  | _, _, _, i + 1, d, .fz _ r, e1, e2 => by simpa using ArgsR.leAt (i := i) r (by simpa using e1) (by simpa using e2)
  | _, _, _, i + 1, d, .le _ _ r, e1, e2 => by simpa using ArgsR.leAt (i := i) r (by simpa using e1) (by simpa using e2)
end

/-! ### the entry of a body -/
def tagS : List Bool → List D → List Sl
  | false :: m, d :: ds => .fz d :: tagS m ds
  | true :: m, d :: ds => .le d :: tagS m ds
  | _, _ => []
def startS (N : Nat) (mask : List Bool) (ds : List D) : CS := (tagS mask ds).map some ++ List.replicate (N - ds.length) none
def outsOf (mask : List Bool) (s : CS) : List D := (List.range mask.length).map fun i => match s[i]? with
  | some (some (Sl.le d)) => d
  | _ => D.non
/-- a def's function by its body's -/
def runF (N : Nat) (mask : List Bool) (f : CS → Fl) (ds : List D) : GR := match f (startS N mask ds) with
  | .nx s => .ok (.fz .non) (outsOf mask s)
  | .ret (.le _) _ => .bad
  | .ret r s => .ok r (outsOf mask s)
  | .exc c fs s => .exc c fs (outsOf mask s)
  | _ => .bad
def lentOf (mask : List Bool) (vs : List V) : List (Nat × Addr) := (List.range mask.length).filterMap fun i => match mask[i]?, vs[i]? with
  | some true, some (V.ref a) => some (i, a)
  | _, _ => none
theorem mem_lentOf {mask : List Bool} {vs : List V} {i : Nat} {a : Addr} : (i, a) ∈ lentOf mask vs ↔ LentAt mask vs i a := by
  unfold lentOf
  rw [List.mem_filterMap]
  constructor
  · rintro ⟨j, hj, e⟩
    split at e
    · rename_i b h1 h2
      cases e; exact ⟨h1, h2⟩
    · cases e
  · rintro ⟨h1, h2⟩
    exact ⟨i, List.mem_range.mpr (List.getElem?_eq_some_iff.mp h1).1, by rw [h1, h2]⟩
theorem tagS_length : ∀ {mask : List Bool} {ds : List D}, ds.length = mask.length → (tagS mask ds).length = ds.length
  | [], [], _ => rfl
  | [], d :: ds, h => by simp at h
  | m :: ms, [], h => by simp at h
  | false :: ms, d :: ds, h => congrArg Nat.succ (tagS_length (by simpa using h))
  | true :: ms, d :: ds, h => congrArg Nat.succ (tagS_length (by simpa using h))
theorem tagS_at : ∀ {mask : List Bool} {ds : List D} {i : Nat} {x : Sl}, (tagS mask ds)[i]? = some x → ∃ d, ds[i]? = some d ∧ ((mask[i]? = some false ∧ x = .fz d) ∨ (mask[i]? = some true ∧ x = .le d))
  | [], ds, i, x, h => by simp [tagS] at h
  | m :: ms, [], i, x, h => by cases m <;> simp [tagS] at h
  | false :: ms, d :: ds, 0, x, h => by simp [tagS] at h; subst h; exact ⟨d, rfl, .inl ⟨rfl, rfl⟩⟩
  | true :: ms, d :: ds, 0, x, h => by simp [tagS] at h; subst h; exact ⟨d, rfl, .inr ⟨rfl, rfl⟩⟩
  | false :: ms, d :: ds, i + 1, x, h => by simpa using tagS_at (mask := ms) (ds := ds) (i := i) (x := x) (by simpa [tagS] using h)
  | true :: ms, d :: ds, i + 1, x, h => by simpa using tagS_at (mask := ms) (ds := ds) (i := i) (x := x) (by simpa [tagS] using h)
theorem tagS_of : ∀ {mask : List Bool} {ds : List D} {i : Nat} {d : D}, mask[i]? = some true → ds[i]? = some d → (tagS mask ds)[i]? = some (.le d)
  | [], _, _, _, h, _ => by simp at h
  | m :: ms, [], _, _, _, h => by simp at h
  | m :: ms, d :: ds, 0, e, h1, h2 => by simp at h1 h2; subst h1; subst h2; rfl
  | false :: ms, d :: ds, i + 1, e, h1, h2 => by simpa [tagS] using tagS_of (mask := ms) (ds := ds) (i := i) (d := e) (by simpa using h1) (by simpa using h2)
  | true :: ms, d :: ds, i + 1, e, h1, h2 => by simpa [tagS] using tagS_of (mask := ms) (ds := ds) (i := i) (d := e) (by simpa using h1) (by simpa using h2)
section
variable {K : PySem.W.Frag} {F H : Hp} {N : List Str} {mask : List Bool} {vs : List V} {ds : List D}
theorem startS_at {n i : Nat} {x : Sl} (hl : ds.length = mask.length) (h : (startS n mask ds)[i]? = some (some x)) : ∃ d, ds[i]? = some d ∧ ((mask[i]? = some false ∧ x = .fz d) ∨ (mask[i]? = some true ∧ x = .le d)) := by
  unfold startS at h
  by_cases hi : i < ds.length
  · rw [List.getElem?_append_left (by rw [List.length_map, tagS_length hl]; exact hi), List.getElem?_map] at h
    cases e : (tagS mask ds)[i]? with
    | none => rw [e] at h; cases h
    | some y => rw [e] at h; cases h; exact tagS_at e
  · rw [List.getElem?_append_right (by rw [List.length_map, tagS_length hl]; omega), List.getElem?_replicate] at h
    split at h <;> cases h
theorem start_at {i : Nat} {v : V} (h : vs[i]? = some v) : (L2.start N vs)[i]? = some (some v) := by
  unfold L2.start
  have hi := (List.getElem?_eq_some_iff.mp h).1
  rw [List.getElem?_append_left (by rw [List.length_map]; exact hi), List.getElem?_map, h]
  rfl
theorem start_of {i : Nat} {v : V} (h : (L2.start N vs)[i]? = some (some v)) : vs[i]? = some v := by
  unfold L2.start at h
  by_cases hi : i < vs.length
  · rw [List.getElem?_append_left (by rw [List.length_map]; exact hi), List.getElem?_map] at h
    cases e : vs[i]? with
    | none => rw [e] at h; cases h
    | some y => rw [e] at h; cases h; rfl
  · rw [List.getElem?_append_right (by rw [List.length_map]; omega), List.getElem?_replicate] at h
    split at h <;> cases h
theorem rel_start (hs : Sub F H) (a : ArgsR K F H mask vs ds) (sp : SepA mask vs) (hn : mask.length ≤ N.length) : Rel K ⟨F, H, lentOf mask vs⟩ F (startS N.length mask ds) (L2.start N vs) H := by
  have hl := a.l2
  have hv := a.l1
  have hot : ∀ {i : Nat} {d : D}, Hot (startS N.length mask ds) i d → mask[i]? = some true ∧ ds[i]? = some d := fun {i d} h => by
    rcases h with h | h
    · obtain ⟨e, _, ⟨_, q⟩ | ⟨_, q⟩⟩ := startS_at hl h <;> cases q
    · obtain ⟨e, h1, ⟨_, q⟩ | ⟨h2, q⟩⟩ := startS_at hl h
      · cases q
      · cases q; exact ⟨h2, h1⟩
  refine ⟨hs, .refl _, ?_, fun i d h => ?_, fun i d h => ?_, fun i d b h _ => ?_, fun i j b d e hi hj q1 q2 => ?_, fun b o h _ => h, fun b o _ h => h, fun i b h => ?_, fun i d b h q => ?_⟩
  · unfold L2.start startS
    rw [List.length_append, List.length_append, List.length_map, List.length_map, List.length_replicate, List.length_replicate, tagS_length hl]
    omega
  · obtain ⟨e, h1, ⟨h2, q⟩ | ⟨_, q⟩⟩ := startS_at hl h
    · cases q
      obtain ⟨v, h3, h4⟩ := a.fzAt h2 h1
      exact ⟨v, start_at h3, h4⟩
    · cases q
  · obtain ⟨h1, h2⟩ := hot h
    obtain ⟨b, h3, h4, h5⟩ := a.leAt h1 h2
    exact ⟨b, start_at h3, h4, h5⟩
  · obtain ⟨e, _, ⟨_, q⟩ | ⟨_, q⟩⟩ := startS_at hl h <;> cases q
  · exact sp i j b ⟨(hot hi).1, start_of q1⟩ ⟨(hot hj).1, start_of q2⟩
  · obtain ⟨h1, h2⟩ := mem_lentOf.mp h
    refine ⟨start_at h2, ?_⟩
    have hi : i < ds.length := by rw [hl]; exact (List.getElem?_eq_some_iff.mp h1).1
    refine ⟨ds[i], ?_⟩
    unfold startS
    rw [List.getElem?_append_left (by rw [List.length_map, tagS_length hl]; exact hi), List.getElem?_map, tagS_of h1 (by rw [List.getElem?_eq_getElem hi])]
    rfl
  · exact mem_lentOf.mpr ⟨(hot (.inr h)).1, start_of q⟩
theorem outsOf_at {s : CS} {i : Nat} {d : D} (hi : i < mask.length) (h : s[i]? = some (some (.le d))) : (outsOf mask s)[i]? = some d := by
  unfold outsOf
  rw [List.getElem?_map, List.getElem?_range hi]
  show some (match s[i]? with | some (some (Sl.le d)) => d | _ => D.non) = some d
  rw [h]
theorem Rel.after {F' H' : Hp} {s : CS} {σ : L2.St} (r : Rel K ⟨F, H, lentOf mask vs⟩ F' s σ H') : After K mask vs F H F' H' (outsOf mask s) := by
  refine ⟨r.base, r.sub, fun a o h n => r.frame a o h fun hm => ?_, fun a o h f => r.cold a o h f, fun i a h => ?_⟩
  · obtain ⟨⟨i, b⟩, h1, h2⟩ := List.mem_map.mp hm
    have h2 : b = a := h2
    subst h2
    exact n i (mem_lentOf.mp h1)
  · obtain ⟨q1, d, q2⟩ := r.lent i a (mem_lentOf.mpr h)
    obtain ⟨b, q3, q4, _⟩ := r.hot i d (.inr q2)
    rw [q1] at q3; cases q3
    exact ⟨d, outsOf_at (List.getElem?_eq_some_iff.mp h.1).1 q2, q4⟩
end
/-! ### defs where no repr is under way -/
structure GRoom (k : Nat) (A : Around) : Prop where
  rm : Room k A
  gd : A.guards = some []
theorem GRoom.mono {j k : Nat} {A : Around} (r : GRoom k A) (h : j ≤ k) : GRoom j A := ⟨r.rm.mono h, r.gd⟩
/-- as the layer's FnOk, but for calls where no repr is under way -/
structure FnG (P : Program) (w : World) (K : PySem.W.Frag) (mg : Str → Option Value) (base : Heap) (k : Nat) (f : Addr) (fd : FuncData) (ps : List Str) (sp : Sp) : Prop where
  arity : ∀ vs H Q E, sp vs H Q E → vs.length = ps.length
  meets : ∀ (A : Around) (outer : List Env) (s : Shared) (H : Hp) (args : Args) (us : List Value) (vs : List V) (Q : VK) (E : XK),
    GRoom k A → Env0 P w K mg base A outer s H → BindsTo s fd args (ps.zip us) → Vals vs us → sp vs H Q E → codeAny (model P w) A (.call (.ref f) args) (CR (L2.CX P w) outer P w H s Q E) s
theorem FnG.mono {P : Program} {w : World} {K : PySem.W.Frag} {mg : Str → Option Value} {base : Heap} {j k : Nat} {f : Addr} {fd : FuncData} {ps : List Str} {sp : Sp} (G : FnG P w K mg base j f fd ps sp) (h : j ≤ k) : FnG P w K mg base k f fd ps sp :=
  ⟨G.arity, fun A outer s H args us vs Q E hr => G.meets A outer s H args us vs Q E (hr.mono h)⟩
theorem FnG.imp {P : Program} {w : World} {K : PySem.W.Frag} {mg : Str → Option Value} {base : Heap} {k : Nat} {f : Addr} {fd : FuncData} {ps : List Str} {sp sp' : Sp} (G : FnG P w K mg base k f fd ps sp) (h : ∀ vs H Q E, sp' vs H Q E → sp vs H Q E) : FnG P w K mg base k f fd ps sp' :=
  ⟨fun vs H Q E q => G.arity vs H Q E (h _ _ _ _ q), fun A outer s H args us vs Q E hr he hb hv q => G.meets A outer s H args us vs Q E hr he hb hv (h _ _ _ _ q)⟩
/-- the answer of a body that has run its frame -/
theorem body_end {CX : CXT} {P : Program} {w : World} {K : PySem.W.Frag} {mg : Str → Option Value} {base : Heap} {N : List Str} {qual : Str} {scope : Scope} {f : Addr} {cd : Value} {A : Around} {outer : List Env} {s s' : Shared} {H : Hp} {E : XK} {Q : VK} {fl : Flow}
    (q : SP (cxOf CX P w K mg base N qual scope f cd A outer s H E) [] { nx := fun _ H' => Q .non H', rt := Q } fl s') : match fl with
      | .ret u => CE outer P w H s Q u s'
      | .next => CE outer P w H s Q .none s'
      | _ => False := by
  cases fl
  case next => obtain ⟨σ, H', I, q⟩ := q; exact ⟨V.non, H', I.os, I.bare, I.base, I.hok, rfl, q⟩
  case ret u => obtain ⟨v, σ, H', I, r, q⟩ := q; exact ⟨v, H', I.os, I.bare, I.base, I.hok, r, q⟩
  case brk => obtain ⟨_, _, _, z⟩ := q; exact z
  case cont => obtain ⟨_, _, _, z⟩ := q; exact z
theorem fnG_of {P : Program} {w : World} {K : PySem.W.Frag} {mg : Str → Option Value} {base : Heap} {x qual : Str} {params : Arguments} {body : List Stmt} {scope : Scope} {dvs : List V} {f : Addr} {fd : FuncData} {N ps : List Str} {k : Nat} {sp : Sp}
    (Fd : FunD K x qual params body scope dvs [] f fd) (S : FnScope N ps scope) (ar : ∀ vs H Q E, sp vs H Q E → vs.length = ps.length)
    (hb : ∀ (cdv : Value) (A : Around) (outer : List Env) (s : Shared) (H : Hp) (vs : List V) (Q : VK) (E : XK), GRoom k (A.deeper (envOfC qual scope s.heap.objs.size f cdv)) → sp vs H Q E →
      ∃ t, PSs (cxOf (L2.CX P w) P w K mg base N qual scope f cdv A outer s H E) body t ∧ t { nx := fun _ H' => Q .non H', rt := Q } (L2.start N vs) H) :
    FnG P w K mg base (k + 1) f fd ps sp := by
  refine ⟨ar, fun A outer s H args us vs Q E hr e0 bt hv hsp => ?_⟩
  obtain ⟨oc, od, dV, kV, doc, pm, an, cdv, ct, osl, rfl, hK, code, _, _⟩ := Fd.ex
  have inS : ∀ b o, base.get? b = some o → s.heap.get? b = some o := fun b o z => (e0.bs b o z).1
  have kin : K.In s.heap := PySem.W.Frag.In.keeps e0.mod.kin inS
  have nl : s.heap.NoLimit := e0.mod.nolimit.keeps inS
  have names : ∀ p ∈ ps.zip us, scope.names.lookup p.1 = some .local ∨ (scope.names.lookup p.1 = some .cell ∧ ((cellsFrom (s.heap.objs.size + 1) scope.names []).lookup p.1).isSome = true) := by
    rintro ⟨n, v⟩ hp
    cases S.par n (List.of_mem_zip hp).1 with
    | inl h => exact Or.inl h
    | inr h => exact Or.inr ⟨h, PySem.W.cellsFrom_some _ _ _ (Or.inl h)⟩
  apply codeAny_call_function hr.rm.depth (kin f _ hK) rfl S.co S.gen rfl (PySem.W.codeRec_of kin code)
  apply bt
  apply wpAny_newFunctionEnv_cells S.kind names
  rintro env rfl s1 ic
  constructor
  · exact nl.keeps ic.toInCall.keep
  · apply codeAny_func
    have deep : GRoom k (A.deeper (envOfC qual scope s.heap.objs.size f cdv)) := ⟨hr.rm.deeper _, hr.gd⟩
    obtain ⟨t, pt, tq⟩ := hb cdv A outer s H vs Q E deep hsp
    have inv0 := inv_start (CX := L2.CX P w) (E := E) S hr.rm.hd e0 (ar _ _ _ _ hsp) hv ic
    refine wpAny_mono (pt.run [] s1 _ H _ inv0 tq) (fun fl s2 h => ?_) (fun e s2 h => h)
    have z := body_end h
    cases fl with
    | next => exact z
    | ret u => exact z
    | brk => exact z.elim
    | cont => exact z.elim
/-- A DEF keeps the promise that its body's function tells -/
theorem fn_ok {P : Program} {w : World} {K : PySem.W.Frag} {mg : Str → Option Value} {base : Heap} {x qual : Str} {params : Arguments} {body : List Stmt} {scope : Scope} {f : Addr} {fd : FuncData} {N ps : List Str} {k : Nat} {mask : List Bool} {fb : CS → Fl}
    (Fd : FunD K x qual params body scope [] [] f fd) (S : FnScope N ps scope) (hm : mask.length = ps.length) (hn : mask.length ≤ N.length)
    (hb : ∀ (cdv : Value) (A : Around) (outer : List Env) (s : Shared) (H : Hp) (E : XK), GRoom k (A.deeper (envOfC qual scope s.heap.objs.size f cdv)) → SSs (cxOf (L2.CX P w) P w K mg base N qual scope f cdv A outer s H E) body fb) :
    FnG P w K mg base (k + 1) f fd ps (spOf K mask (runF N.length mask fb)) := by
  refine fnG_of Fd S (fun vs H Q E ⟨F, ds, _, a, _⟩ => a.l1.trans hm) fun cdv A outer s H vs Q E hr ⟨F, ds, hs, a, sp, pg⟩ => ?_
  refine ⟨_, (hb cdv A outer s H E hr).run ⟨F, H, lentOf mask vs⟩ _ _ _ (takes_of rfl rfl rfl rfl) (passes_of rfl), F, startS N.length mask ds, rel_start hs a sp hn, ?_⟩
  unfold runF at pg
  cases e : fb (startS N.length mask ds) with
  | nx s1 => rw [e] at pg; exact fun σ' F' H' su r => pg .non F' H' r.after .non
  | ret r s1 =>
    rw [e] at pg
    cases r with
    | fz d => exact fun v σ' F' H' su r q => pg v F' H' r.after q
    | ow d => exact fun b σ' F' H' su r ho hc h0 => pg (.ref b) F' H' r.after ⟨b, rfl, ho, hc, h0⟩
    | le d => exact pg.elim
  | exc c fs s1 => rw [e] at pg; exact fun dd σ' F' H' r q => pg dd F' H' r.after q
  | brk s1 => rw [e] at pg; exact pg.elim
  | ct s1 => rw [e] at pg; exact pg.elim
  | bad => rw [e] at pg; exact pg.elim
/-- another function that tells as much -/
theorem FnG.as {P : Program} {w : World} {K : PySem.W.Frag} {mg : Str → Option Value} {base : Heap} {k : Nat} {f : Addr} {fd : FuncData} {ps : List Str} {mask : List Bool} {g g' : List D → GR} (G : FnG P w K mg base k f fd ps (spOf K mask g)) (h : ∀ ds, g' ds ≠ .bad → g ds = g' ds) :
    FnG P w K mg base k f fd ps (spOf K mask g') := G.imp fun vs H Q E ⟨F, ds, a, b, c, p⟩ => ⟨F, ds, a, b, c, by
      rw [h ds fun z => by rw [z] at p; exact p]
      exact p⟩
/-- the callee runs -/
theorem runG {X : Cx} {k : Nat} {f : Addr} {fd : FuncData} {ps : List Str} {sp : Sp} {E : XK} {σ : L2.St} (G : FnG X.prog X.w X.K X.mg X.base k f fd ps sp) (hr : GRoom k X.A) (hb : Binds X.K fd ps []) (hx : PassesAt (L2.CX X.prog X.w) X σ E)
    {pins : List (Addr × Obj)} {H : Hp} {s : Shared} {Q : VK} {us : List Value} {vs : List V} (I : Inv X pins σ H s) (r : Vals vs us) (h : sp vs H Q E) : wpAny (model X.prog X.w) X.A (call (.ref f) us) (EP X pins σ Q) X.xe s := by
  have many : us.length = ps.length := r.length.symm.trans (G.arity _ _ _ _ h)
  have bound := hb s us I.kIn (by simpa using many)
  simp only [List.append_nil] at bound
  apply wpAny_call
  refine codeAny_mono (G.meets X.A X.stack s H ⟨us, []⟩ us vs Q E hr I.env0 bound r h) ?_
  rintro (e | fl) s' z
  · exact hx pins H s e s' I z
  · cases fl
    case ret u => exact I.after z
    all_goals exact z.elim
theorem pe_callG {X : Cx} {k : Nat} {f : Addr} {fd : FuncData} {ps : List Str} {sp : Sp} {x : Str} {p pos : Pos} {e : Expr} {es : List Expr} {t : TA} {W : WX} (tk : Takes X W) (G : FnG X.prog X.w X.K X.mg X.base k f fd ps sp) (hr : GRoom k X.A) (hg : Gl X x) (hm : X.mg x = some (.ref f))
    (hk : PySem.W.keepIn X.K (.ref f) = true) (hb : Binds X.K fd ps []) (ha : PA X (e :: es) t) (hdb : (x == ("__debug__" : Str)) = false) (he : starEach (e :: es) X.env = (false, eval e X.env) :: starEach es X.env) (hpl : (backTo pos (starEach es X.env)).any (·.1) = false) :
    PE X (.Call (.Name x p) (e :: es) [] pos) (fun σ H Q => t σ H fun vs H1 => sp vs H1 Q (WE W σ)) := by
  constructor
  intro pins s σ H Q I h
  apply wpAny_Call_Name_kw
  apply ld_glob I hg hm _ hdb
  apply PySem.W.callWith_K (h₀ := X.base) I.ok.mod.kin hk _ he hpl
  apply thn (ha.run pos pins s σ H _ I h)
  rintro us s1 ⟨vs, H1, I1, r, q⟩
  exact ⟨I1.kIn, runG G hr hb (passAt tk σ) I1 r q⟩

/-! ### a call -/
def margs : List Bool → List Av → CS → Option (List D)
  | [], [], _ => some []
  | false :: m, .d d :: xs, s => (margs m xs s).map (d :: ·)
  | true :: m, .s i :: xs, s => match s[i]? with
    | some (some (Sl.ow d)) => (margs m xs s).map (d :: ·)
    | some (some (Sl.le d)) => (margs m xs s).map (d :: ·)
    | _ => none
  | _, _, _ => none
/-- no slot is lent twice -/
def okSl : List Av → Bool
  | [] => true
  | .d _ :: xs => okSl xs
  | .s i :: xs => (xs.all fun x => match x with
    | .s j => i != j
    | .d _ => true) && okSl xs
def putB : List Bool → List Av → List D → CS → CS
  | true :: m, .s i :: xs, d :: os, s => putB m xs os (match s[i]? with
    | some (some x) => s.set i (some (x.put d))
    | _ => s)
  | _ :: m, _ :: xs, _ :: os, s => putB m xs os s
  | _, _, _, s => s
theorem okSl_inj : ∀ {xs : List Av} {i j k : Nat}, okSl xs = true → xs[i]? = some (.s k) → xs[j]? = some (.s k) → i = j
  | [], i, j, k, _, h, _ => by simp at h
  | x :: xs, 0, 0, k, _, _, _ => rfl
  | .d d :: xs, i + 1, j + 1, k, h, h1, h2 => congrArg Nat.succ (okSl_inj (xs := xs) (k := k) h (by simpa using h1) (by simpa using h2))
  | .s l :: xs, i + 1, j + 1, k, h, h1, h2 => congrArg Nat.succ (okSl_inj (xs := xs) (k := k) (Bool.and_eq_true_iff.mp h).2 (by simpa using h1) (by simpa using h2))
  | .d d :: xs, 0, j + 1, k, h, h1, h2 => by simp at h1
  | .d d :: xs, i + 1, 0, k, h, h1, h2 => by simp at h2
  | .s l :: xs, 0, j + 1, k, h, h1, h2 => by
    simp at h1 h2
    subst h1
    have q := List.all_eq_true.mp (Bool.and_eq_true_iff.mp h).1 _ (List.mem_of_getElem? h2)
    simp at q
  | .s l :: xs, i + 1, 0, k, h, h1, h2 => by
    simp at h1 h2
    subst h2
    have q := List.all_eq_true.mp (Bool.and_eq_true_iff.mp h).1 _ (List.mem_of_getElem? h1)
    simp at q
section
variable {K : PySem.W.Frag} {B : Bs} {F F' H H' : Hp} {s : CS} {σ : L2.St}
theorem args_of (r : Rel K B F s σ H) : ∀ {mask : List Bool} {xs : List Av} {vs : List V} {ds : List D}, RepVs K F σ vs xs → margs mask xs s = some ds → ArgsR K F H mask vs ds
  | [], _, _, _, .nil, e => by cases e; exact .nil
  | false :: m, _, _, ds, .cons (x := .d d) (xs := xs) a b, e => by
    unfold margs at e
    cases h : margs m xs s with
    | none => rw [h] at e; cases e
    | some ds' => rw [h] at e; cases e; exact .fz a (args_of r b h)
  | true :: m, _, _, ds, .cons (v := v) (x := .s i) (xs := xs) a b, e => by
    have a : σ[i]? = some (some v) := a
    unfold margs at e
    have fin : ∀ d, Hot s i d → (margs m xs s).map (d :: ·) = some ds → ArgsR K F H (true :: m) (v :: _) ds := fun d hh e => by
      obtain ⟨b', q1, q2, q3⟩ := r.hot i d hh
      rw [a] at q1; cases q1
      cases h : margs m xs s with
      | none => rw [h] at e; cases e
      | some ds' => rw [h] at e; cases e; exact .le q2 q3 (args_of r b h)
    split at e
    · rename_i d h; exact fin d (.inl h) e
    · rename_i d h; exact fin d (.inr h) e
    · cases e
  | [], _, _, _, .cons _ _, e => by cases e
  | false :: m, _, _, _, .nil, e => by cases e
  | true :: m, _, _, _, .nil, e => by cases e
  | false :: m, _, _, ds, .cons (x := .s i) a b, e => by cases e
  | true :: m, _, _, ds, .cons (x := .d i) a b, e => by cases e
theorem lent_slot : ∀ {mask : List Bool} {xs : List Av} {vs : List V} {ds : List D} {i : Nat} {a : Addr}, RepVs K F σ vs xs → margs mask xs s = some ds → LentAt mask vs i a → ∃ k d, xs[i]? = some (.s k) ∧ Hot s k d ∧ σ[k]? = some (some (.ref a))
  | [], _, _, _, _, _, .nil, _, h => by have := h.1; simp at this
  | false :: m, _, _, ds, 0, a, .cons _ _, _, h => by have := h.1; simp at this
  | false :: m, _, _, ds, i + 1, a, .cons (x := .d d) (xs := xs) _ b, e, h => by
    unfold margs at e
    cases q : margs m xs s with
    | none => rw [q] at e; cases e
    | some ds' => simpa using lent_slot (i := i) b q ⟨by simpa using h.1, by simpa using h.2⟩
  | true :: m, _, _, ds, 0, a, .cons (v := v) (x := .s k) (xs := xs) c b, e, h => by
    have c : σ[k]? = some (some v) := c
    have hv : v = .ref a := by have := h.2; simpa using this
    subst hv
    unfold margs at e
    split at e
    · rename_i d q; exact ⟨k, d, rfl, .inl q, c⟩
    · rename_i d q; exact ⟨k, d, rfl, .inr q, c⟩
    · cases e
  | true :: m, _, _, ds, i + 1, a, .cons (x := .s k) (xs := xs) _ b, e, h => by
    unfold margs at e
    have fin : ∀ d, (margs m xs s).map (d :: ·) = some ds → ∃ k' d, (Av.s k :: xs)[i + 1]? = some (.s k') ∧ Hot s k' d ∧ σ[k']? = some (some (.ref a)) := fun d e => by
      cases q : margs m xs s with
      | none => rw [q] at e; cases e
      | some ds' => simpa using lent_slot (i := i) b q ⟨by simpa using h.1, by simpa using h.2⟩
    split at e
    · exact fin _ e
    · exact fin _ e
    · cases e
  | [], _, _, _, _, _, .cons _ _, e, _ => by cases e
  | false :: m, _, _, _, _, _, .nil, e, _ => by cases e
  | true :: m, _, _, _, _, _, .nil, e, _ => by cases e
  | false :: m, _, _, ds, _, _, .cons (x := .s i) a b, e, _ => by cases e
  | true :: m, _, _, ds, _, _, .cons (x := .d i) a b, e, _ => by cases e
theorem sep_of (r : Rel K B F s σ H) {mask : List Bool} {xs : List Av} {vs : List V} {ds : List D} (hv : RepVs K F σ vs xs) (hm : margs mask xs s = some ds) (ho : okSl xs = true) : SepA mask vs := fun i j a h1 h2 => by
  obtain ⟨k, d, e1, q1, w1⟩ := lent_slot hv hm h1
  obtain ⟨l, e, e2, q2, w2⟩ := lent_slot hv hm h2
  have : k = l := r.sep k l a d e q1 q2 w1 w2
  subst this
  exact okSl_inj ho e1 e2
theorem putB_length : ∀ (m : List Bool) (xs : List Av) (os : List D) (s : CS), (putB m xs os s).length = s.length
  | true :: m, .s i :: xs, d :: os, s => by
    unfold putB
    rw [putB_length m xs os]
    split
    · exact List.length_set ..
    · rfl
  | true :: m, .d i :: xs, d :: os, s => by unfold putB; exact putB_length m xs os s
  | false :: m, x :: xs, d :: os, s => by unfold putB; exact putB_length m xs os s
  | [], _, _, _ => by unfold putB; rfl
  | true :: _, [], _, _ => by unfold putB; rfl
  | false :: _, [], _, _ => by unfold putB; rfl
  | true :: _, .s _ :: _, [], _ => by unfold putB; rfl
  | true :: _, .d _ :: _, [], _ => by unfold putB; rfl
  | false :: _, _ :: _, [], _ => by unfold putB; rfl
theorem putB_keep : ∀ (m : List Bool) (xs : List Av) (os : List D) (s : CS) (k : Nat), (∀ i : Nat, m[i]? = some true → xs[i]? ≠ some (.s k)) → (putB m xs os s)[k]? = s[k]?
  | true :: m, .s i :: xs, d :: os, s, k, h => by
    unfold putB
    have hk : i ≠ k := fun e => h 0 rfl (by rw [e]; rfl)
    rw [putB_keep m xs os _ k fun j hj hx => h (j + 1) (by simpa using hj) (by simpa using hx)]
    split
    · exact List.getElem?_set_ne hk
    · rfl
  | true :: m, .d i :: xs, d :: os, s, k, h => by unfold putB; exact putB_keep m xs os s k fun j hj hx => h (j + 1) (by simpa using hj) (by simpa using hx)
  | false :: m, x :: xs, d :: os, s, k, h => by unfold putB; exact putB_keep m xs os s k fun j hj hx => h (j + 1) (by simpa using hj) (by simpa using hx)
  | [], _, _, _, _, _ => by unfold putB; rfl
  | true :: _, [], _, _, _, _ => by unfold putB; rfl
  | false :: _, [], _, _, _, _ => by unfold putB; rfl
  | true :: _, .s _ :: _, [], _, _, _ => by unfold putB; rfl
  | true :: _, .d _ :: _, [], _, _, _ => by unfold putB; rfl
  | false :: _, _ :: _, [], _, _, _ => by unfold putB; rfl
theorem putB_at : ∀ {m : List Bool} {xs : List Av} {os : List D} {s : CS} {i k : Nat} {d : D} {x : Sl}, okSl xs = true → m[i]? = some true → xs[i]? = some (.s k) → os[i]? = some d → s[k]? = some (some x) → (putB m xs os s)[k]? = some (some (x.put d))
  | true :: m, .s l :: xs, e :: os, s, 0, k, d, x, ho, h1, h2, h3, h4 => by
    simp at h2 h3
    subst h2; subst h3
    unfold putB
    rw [h4]
    have hl : l < s.length := (List.getElem?_eq_some_iff.mp h4).1
    rw [putB_keep m xs os _ l fun j hj hx => ?_]
    · exact List.getElem?_set_self hl
    · have q := List.all_eq_true.mp (Bool.and_eq_true_iff.mp ho).1 _ (List.mem_of_getElem? hx)
      simp at q
  | true :: m, .s l :: xs, e :: os, s, i + 1, k, d, x, ho, h1, h2, h3, h4 => by
    unfold putB
    have hk : l ≠ k := fun e' => by
      have h2' : xs[i]? = some (.s k) := by simpa using h2
      have q := List.all_eq_true.mp (Bool.and_eq_true_iff.mp ho).1 _ (List.mem_of_getElem? h2')
      simp [e'] at q
    refine putB_at (i := i) (Bool.and_eq_true_iff.mp ho).2 (by simpa using h1) (by simpa using h2) (by simpa using h3) ?_
    split
    · rw [List.getElem?_set_ne hk]; exact h4
    · exact h4
  | true :: m, .d l :: xs, e :: os, s, i + 1, k, d, x, ho, h1, h2, h3, h4 => by
    unfold putB; exact putB_at (i := i) ho (by simpa using h1) (by simpa using h2) (by simpa using h3) h4
  | false :: m, .d l :: xs, e :: os, s, i + 1, k, d, x, ho, h1, h2, h3, h4 => by
    unfold putB; exact putB_at (i := i) ho (by simpa using h1) (by simpa using h2) (by simpa using h3) h4
  | false :: m, .s l :: xs, e :: os, s, i + 1, k, d, x, ho, h1, h2, h3, h4 => by
    unfold putB; exact putB_at (i := i) (Bool.and_eq_true_iff.mp ho).2 (by simpa using h1) (by simpa using h2) (by simpa using h3) h4
  | false :: _, _, _, _, 0, _, _, _, _, h1, _, _, _ => by simp at h1
  | true :: _, .d _ :: _, _, _, 0, _, _, _, _, _, h2, _, _ => by simp at h2
  | [], _, _, _, _, _, _, _, _, h1, _, _, _ => by simp at h1
  | _ :: _, [], _, _, _, _, _, _, _, _, h2, _, _ => by simp at h2
  | _ :: _, _ :: _, [], _, _, _, _, _, _, _, _, h3, _ => by simp at h3
theorem Sl.put_hot {x : Sl} {d : D} {s : CS} {k : Nat} (hx : s[k]? = some (some x)) (hh : ∃ e, Hot s k e) : (x = .ow d ∨ ∃ e, x = .ow e ∨ x = .le e) := by
  obtain ⟨e, h | h⟩ := hh
  · rw [hx] at h; cases h; exact .inr ⟨e, .inl rfl⟩
  · rw [hx] at h; cases h; exact .inr ⟨e, .inr rfl⟩
/-- behind a call -/
theorem rel_call (r : Rel K B F s σ H) {mask : List Bool} {xs : List Av} {vs : List V} {ds outs : List D} (hv : RepVs K F σ vs xs) (hm : margs mask xs s = some ds) (ho : okSl xs = true) (a : After K mask vs F H F' H' outs) :
    Rel K B F' (putB mask xs outs s) σ H' := by
  -- each slot is as it was, or lent
  have cases_ : ∀ k : Nat, (putB mask xs outs s)[k]? = s[k]? ∧ (∀ i : Nat, mask[i]? = some true → xs[i]? ≠ some (Av.s k)) ∨
      ∃ (i : Nat) (b : Addr) (d e : D) (x : Sl), LentAt mask vs i b ∧ xs[i]? = some (Av.s k) ∧ σ[k]? = some (some (.ref b)) ∧ Hot s k e ∧ s[k]? = some (some x) ∧ (putB mask xs outs s)[k]? = some (some (x.put d)) ∧ OwnObj K F' H' b d := fun k => by
    by_cases h : ∃ i : Nat, mask[i]? = some true ∧ xs[i]? = some (.s k)
    · obtain ⟨i, h1, h2⟩ := h
      -- the slot's address
      have ar := args_of r hv hm
      have hi : i < ds.length := by rw [ar.l2]; exact (List.getElem?_eq_some_iff.mp h1).1
      obtain ⟨b, hb, _, _⟩ := ar.leAt h1 (List.getElem?_eq_getElem hi)
      obtain ⟨k', e, q1, q2, q3⟩ := lent_slot hv hm ⟨h1, hb⟩
      rw [h2] at q1; cases q1
      obtain ⟨d, o1, o2⟩ := a.outs i b ⟨h1, hb⟩
      obtain ⟨x, hx⟩ : ∃ x, s[k]? = some (some x) := by rcases q2 with q | q <;> exact ⟨_, q⟩
      exact .inr ⟨i, b, d, e, x, ⟨h1, hb⟩, h2, q3, q2, hx, putB_at ho h1 h2 o1 hx, o2⟩
    · have h' : ∀ i : Nat, mask[i]? = some true → xs[i]? ≠ some (.s k) := fun i h1 h2 => h ⟨i, h1, h2⟩
      exact .inl ⟨putB_keep mask xs outs s k h', h'⟩
  have hot : ∀ {k : Nat} {d : D}, Hot (putB mask xs outs s) k d → ∃ e, Hot s k e := fun {k d} h => by
    rcases cases_ k with ⟨e, _⟩ | ⟨i, b, d', e, x, _, _, _, he, _⟩
    · exact ⟨d, h.imp (e ▸ ·) (e ▸ ·)⟩
    · exact ⟨e, he⟩
  have notLent : ∀ {k : Nat} {b : Addr} {e : D}, Hot s k e → σ[k]? = some (some (.ref b)) → (∀ i : Nat, mask[i]? = some true → xs[i]? ≠ some (Av.s k)) → ∀ i, ¬ LentAt mask vs i b := fun {k b e} h q n i l => by
    obtain ⟨k', e', q1, q2, q3⟩ := lent_slot hv hm l
    have : k' = k := r.sep k' k b e' e q2 h q3 q
    subst this
    exact n i l.1 q1
  have tag : ∀ {x : Sl} {k : Nat} {e : D}, s[k]? = some (some x) → Hot s k e → x = .ow e ∨ x = .le e := fun {x k e} hx h => by
    rcases h with h | h
    · rw [hx] at h; cases h; exact .inl rfl
    · rw [hx] at h; cases h; exact .inr rfl
  refine ⟨a.s2, r.base.trans a.s1, by rw [putB_length]; exact r.len, fun k d h => ?_, fun k d h => ?_, fun k d b h q => ?_, fun k l b d e h1 h2 q1 q2 => ?_, fun b o h n => ?_, fun b o h f => ?_, fun k b h => ?_, fun k d b h q => ?_⟩
  · rcases cases_ k with ⟨e, _⟩ | ⟨i, b, d', e, x, _, _, _, he, hx, hp, _⟩
    · rw [e] at h
      obtain ⟨v, h1, h2⟩ := r.fz k d h
      exact ⟨v, h1, h2.mono a.s1⟩
    · rw [hp] at h
      rcases tag hx he with rfl | rfl <;> cases h
  · rcases cases_ k with ⟨e, n⟩ | ⟨i, b, d', e, x, hl, _, hσ, he, hx, hp, ho'⟩
    · have h' : Hot s k d := h.imp (e ▸ ·) (e ▸ ·)
      obtain ⟨b, h1, h2, h3⟩ := r.hot k d h'
      obtain ⟨u, hu⟩ := h2.ex
      refine ⟨b, h1, h2.mono a.s1 ?_, a.cold b u hu h3⟩
      rw [hu]; exact a.frame b u hu (notLent h' h1 n)
    · have : d = d' := by
        rcases tag hx he with rfl | rfl <;> (rcases h with h | h <;> (rw [hp] at h; cases h)) <;> rfl
      subst this
      obtain ⟨b', q1, q2, q3⟩ := r.hot k e he
      rw [hσ] at q1; cases q1
      obtain ⟨u, hu⟩ := q2.ex
      exact ⟨b, hσ, ho', a.cold b u hu q3⟩
  · rcases cases_ k with ⟨e, _⟩ | ⟨i, b', d', e, x, _, _, hσ, he, hx, hp, _⟩
    · rw [e] at h; exact r.own k d b h q
    · rw [hp] at h
      rcases tag hx he with rfl | rfl
      · exact r.own k e b hx q
      · cases h
  · obtain ⟨d', h1'⟩ := hot h1
    obtain ⟨e', h2'⟩ := hot h2
    exact r.sep k l b d' e' h1' h2' q1 q2
  · have hH := r.frame b o h n
    refine a.frame b o hH fun i l => ?_
    obtain ⟨k, e, q1, q2, q3⟩ := lent_slot hv hm l
    rcases q2 with q2 | q2
    · rw [r.own k e b q2 q3] at h; cases h
    · exact n (List.mem_map.mpr ⟨(k, b), r.lentB k e b q2 q3, rfl⟩)
  · have hF := r.cold b o h f
    by_cases hl : b ∈ B.la
    · obtain ⟨⟨k, b'⟩, h1, h2⟩ := List.mem_map.mp hl
      have h2 : b' = b := h2
      subst h2
      obtain ⟨q1, d, q2⟩ := r.lent k b' h1
      obtain ⟨c, q3, q4, q5⟩ := r.hot k d (.inr q2)
      rw [q1] at q3; cases q3
      obtain ⟨u, hu⟩ := q4.ex
      exact a.cold _ u hu q5
    · exact a.cold b o (r.frame b o h hl) hF
  · obtain ⟨h1, d, h2⟩ := r.lent k b h
    refine ⟨h1, ?_⟩
    rcases cases_ k with ⟨e, _⟩ | ⟨i, b', d', e, x, _, _, hσ, he, hx, hp, _⟩
    · exact ⟨d, e ▸ h2⟩
    · rw [h2] at hx; cases hx
      exact ⟨d', hp⟩
  · rcases cases_ k with ⟨e, _⟩ | ⟨i, b', d', e, x, _, _, hσ, he, hx, hp, _⟩
    · rw [e] at h; exact r.lentB k d b h q
    · rw [hp] at h
      rcases tag hx he with rfl | rfl
      · cases h
      · exact r.lentB k e b hx q
end
/-- the functions of a call -/
def calR (mask : List Bool) (g : List D → GR) (xs : List Av) (s : CS) : Rs Sl := if okSl xs = true then (match margs mask xs s with
  | none => .bad
  | some ds => match g ds with
    | .ok r outs => .ok r (putB mask xs outs s)
    | .exc c fs outs => .exc c fs (putB mask xs outs s)
    | .bad => .bad) else .bad
def calD (fa : CS → Rs (List Av)) (mask : List Bool) (g : List D → GR) : CS → Rs D := fun s => (fa s).bind fun xs s => (calR mask g xs s).bind fun r s => match r with
  | .fz d => .ok d s
  | .ow d => .ok d s
  | .le _ => .bad
def calN (fa : CS → Rs (List Av)) (mask : List Bool) (g : List D → GR) : CS → Rs D := fun s => (fa s).bind fun xs s => (calR mask g xs s).bind fun r s => match r with
  | .ow d => .ok d s
  | _ => .bad
section
variable {X : Cx} {x : Str} {p pos : Pos} {e : Expr} {es : List Expr} {fa : CS → Rs (List Av)} {k : Nat} {f : Addr} {fd : FuncData} {ps : List Str} {mask : List Bool} {g : List D → GR}
theorem cal_in {K : PySem.W.Frag} {B : Bs} {W : WX} {F : Hp} {s : CS} {σ : L2.St} {H : Hp} {Q : VK} {R : Sl → CS → Rs D} {P : D → CS → Prop} (r : Rel K B F s σ H) (p : Post K B σ W P ((fa s).bind fun xs s => (calR mask g xs s).bind R))
    (h : ∀ F1 H1 vs xs s1 F' H' outs y v, Sub F F1 → Rel K B F1 s1 σ H1 → RepVs K F1 σ vs xs → After K mask vs F1 H1 F' H' outs → Rel K B F' (putB mask xs outs s1) σ H' → ResOk K F' H1 H' v y → Post K B σ W P (R y (putB mask xs outs s1)) → Q v H') :
    tA K B W fa σ H fun vs H1 => spOf K mask g vs H1 Q (WE W σ) := by
  refine ⟨F, s, r, p.bind.mono fun xs s1 p1 vs F1 H1 su r1 hv => ?_⟩
  show spOf K mask g vs H1 Q (WE W σ)
  have p1 := Post.bind p1
  unfold calR at p1
  split at p1
  · rename_i ho
    cases hm : margs mask xs s1 with
    | none => rw [hm] at p1; exact p1.elim
    | some ds =>
      rw [hm] at p1
      refine ⟨F1, ds, r1.sub, args_of r1 hv hm, sep_of r1 hv hm ho, ?_⟩
      dsimp only at p1
      cases hg : g ds with
      | bad => rw [hg] at p1; exact p1.elim
      | exc c fs outs =>
        rw [hg] at p1
        exact fun dd F' H' a q => p1 dd F' H' (rel_call r1 hv hm ho a) q
      | ok y outs =>
        rw [hg] at p1
        exact fun v F' H' a q => h F1 H1 vs xs s1 F' H' outs y v su r1 hv a (rel_call r1 hv hm ho a) q p1
  · exact p1.elim
theorem new_of {K : PySem.W.Frag} {B : Bs} {F1 F' : Hp} {s s1 : CS} {σ : L2.St} {H1 H' : Hp} {a : Addr} {d : D} {mask : List Bool} {vs : List V} {outs : List D} {xs : List Av} (r1 : Rel K B F1 s1 σ H1) (hv : RepVs K F1 σ vs xs) (r' : Rel K B F' s σ H') (af : After K mask vs F1 H1 F' H' outs)
    (hs : ∀ {k : Nat} {d : D}, Hot s k d → ∃ e, Hot s1 k e) (o : OwnObj K F' H' a d) (c : F' a = none) (n : H1 a = none) : New K B F' s σ H' a d := by
  refine ⟨o, c, r1.fresh0 n, fun i e h q => ?_⟩
  obtain ⟨e', h'⟩ := hs h
  obtain ⟨b, q1, q2, _⟩ := r1.hot i e' h'
  rw [q] at q1; cases q1
  obtain ⟨u, hu⟩ := q2.ex
  rw [n] at hu; cases hu
theorem putB_hot {mask : List Bool} {xs : List Av} {outs : List D} : ∀ {s : CS} {k : Nat} {d : D}, Hot (putB mask xs outs s) k d → ∃ e, Hot s k e := by
  intro s
  induction mask generalizing xs outs s with
  | nil => intro k d h; unfold putB at h; exact ⟨d, h⟩
  | cons m ms ih =>
    intro k d h
    cases xs with
    | nil => cases m <;> (unfold putB at h; exact ⟨d, h⟩)
    | cons x xs =>
      cases outs with
      | nil => cases m <;> cases x <;> (unfold putB at h; exact ⟨d, h⟩)
      | cons o os =>
        cases m with
        | false => unfold putB at h; exact ih h
        | true =>
          cases x with
          | d y => unfold putB at h; exact ih h
          | s i =>
            unfold putB at h
            obtain ⟨e, he⟩ := ih h
            split at he
            · rename_i y hy
              by_cases z : i = k
              · subst z
                have hi : i < s.length := (List.getElem?_eq_some_iff.mp hy).1
                rcases he with he | he
                · rw [List.getElem?_set_self hi] at he
                  cases y with
                  | fz a => cases he
                  | ow a => exact ⟨a, .inl hy⟩
                  | le a => cases he
                · rw [List.getElem?_set_self hi] at he
                  cases y with
                  | fz a => cases he
                  | ow a => cases he
                  | le a => exact ⟨a, .inr hy⟩
              · exact ⟨e, he.imp (by rw [List.getElem?_set_ne z]; exact id) (by rw [List.getElem?_set_ne z]; exact id)⟩
            · exact ⟨e, he⟩
theorem sd_call (G : FnG X.prog X.w X.K X.mg X.base k f fd ps (spOf X.K mask g)) (hr : GRoom k X.A) (hg : Gl X x) (hm : X.mg x = some (.ref f)) (hk : PySem.W.keepIn X.K (.ref f) = true) (hb : Binds X.K fd ps [])
    (ha : SA X (e :: es) fa) (hdb : (x == ("__debug__" : Str)) = false := by decide) (he : ∀ env, starEach (e :: es) env = (false, eval e env) :: starEach es env := by intro _; rfl) (hpl : ∀ env, (backTo pos (starEach es env)).any (·.1) = false := by intro _; rfl) :
    SD X (.Call (.Name x p) (e :: es) [] pos) (calD fa mask g) := by
  refine ⟨fun B pn xe W tk => peW (pe_callG (X := X.tr pn xe) tk G hr hg hm hk hb (ha.run B pn xe W tk) hdb (he _) (hpl _)) fun σ H Q ⟨F, s, r, q⟩ => ?_⟩
  refine cal_in r q fun F1 H1 vs xs s1 F' H' outs y v su r1 hv a r' rv q1 => ?_
  cases y with
  | fz d => exact q1 v F' H' (su.trans a.s1) r' rv
  | ow d =>
    obtain ⟨b, rfl, h1, h2, h3⟩ := rv
    exact AnsN.ofD q1 b F' H' (su.trans a.s1) r' (new_of r1 hv r' a putB_hot h1 h2 h3)
  | le d => exact rv.elim
theorem sn_call (G : FnG X.prog X.w X.K X.mg X.base k f fd ps (spOf X.K mask g)) (hr : GRoom k X.A) (hg : Gl X x) (hm : X.mg x = some (.ref f)) (hk : PySem.W.keepIn X.K (.ref f) = true) (hb : Binds X.K fd ps [])
    (ha : SA X (e :: es) fa) (hdb : (x == ("__debug__" : Str)) = false := by decide) (he : ∀ env, starEach (e :: es) env = (false, eval e env) :: starEach es env := by intro _; rfl) (hpl : ∀ env, (backTo pos (starEach es env)).any (·.1) = false := by intro _; rfl) :
    SN X (.Call (.Name x p) (e :: es) [] pos) (calN fa mask g) := by
  refine ⟨fun B pn xe W tk => peW (pe_callG (X := X.tr pn xe) tk G hr hg hm hk hb (ha.run B pn xe W tk) hdb (he _) (hpl _)) fun σ H Q ⟨F, s, r, q⟩ => ?_⟩
  refine cal_in r q fun F1 H1 vs xs s1 F' H' outs y v su r1 hv a r' rv q1 => ?_
  cases y with
  | fz d => exact q1.elim
  | ow d =>
    obtain ⟨b, rfl, h1, h2, h3⟩ := rv
    exact q1 b F' H' (su.trans a.s1) r' (new_of r1 hv r' a putB_hot h1 h2 h3)
  | le d => exact rv.elim
end
end Cl

set_option Elab.async false
set_option linter.all false
set_option maxRecDepth 100000
set_option maxHeartbeats 4000000
set_option autoImplicit false
/-! Cl, part F: operations by values. -/
namespace Cl
open PySem PySem.Spec L2

/-! ### what stands for what, told back -/
section
variable {K : PySem.W.Frag} {F H : Hp} {v : V}
theorem RepH.noOwn {d : D} (h : RepH K F H v d) (n : ∀ a, ¬ OwnObj K F H a d) : Rep K F v d := h.elim id fun ⟨a, _, o, _⟩ => (n a o).elim
theorem RepH.int {i : Int} (h : RepH K F H v (.int i)) : v = .int i := by cases h.noOwn (fun _ z => z); rfl
theorem RepH.bl {b : Bool} (h : RepH K F H v (.bl b)) : v = .bl b := by cases h.noOwn (fun _ z => z); rfl
theorem RepH.str {x : Str} (h : RepH K F H v (.str x)) : v = .str x := by cases h.noOwn (fun _ z => z); rfl
theorem RepH.non (h : RepH K F H v .non) : v = .non := by cases h.noOwn (fun _ z => z); rfl
theorem RepH.ty {n : String} (h : RepH K F H v (.ty n)) : v = .ty n := by cases h.noOwn (fun _ z => z); rfl
theorem RepH.glo {x : Str} (h : RepH K F H v (.glo x)) : v = .ref (He.ga K x) := by cases h.noOwn (fun _ z => z); rfl
theorem RepH.lst {ds : List D} (s : Sub F H) (h : RepH K F H v (.lst ds)) : ∃ a vs, v = .ref a ∧ H a = some (.lst vs) ∧ RepA K F vs ds := by
  rcases h with h | ⟨a, rfl, ⟨vs, h1, h2⟩, _⟩
  · cases h with
    | lst h1 h2 => exact ⟨_, _, rfl, s _ _ h1, h2⟩
  · exact ⟨a, vs, rfl, h1, h2⟩
theorem RepH.tup {ds : List D} (s : Sub F H) (h : RepH K F H v (.tup ds)) : ∃ a vs, v = .ref a ∧ SqT K H a vs ∧ RepA K F vs ds := by
  cases h.noOwn (fun _ z => z) with
  | tup h1 h2 => exact ⟨_, _, rfl, s.sqT h1, h2⟩
theorem RepH.scr {ds : List D} (s : Sub F H) (h : RepH K F H v (.scr ds)) : ∃ a vs, v = .ref a ∧ SqL K H a vs ∧ RepA K F vs ds := by
  cases h.noOwn (fun _ z => z) with
  | scr h1 h2 => exact ⟨_, _, rfl, s.sqL h1, h2⟩
/-- a list or a tuple -/
def D.items : D → Option (List D)
  | .lst ds => some ds
  | .tup ds => some ds
  | .scr ds => some ds
  | _ => none
theorem RepH.seq {d : D} {ds : List D} (s : Sub F H) (h : RepH K F H v d) (e : d.items = some ds) : ∃ a vs, v = .ref a ∧ (SqL K H a vs ∨ SqT K H a vs) ∧ RepA K F vs ds := by
  cases d with
  | lst xs => cases e; obtain ⟨a, vs, h1, h2, h3⟩ := h.lst s; exact ⟨a, vs, h1, .inl (.inl (.inl h2)), h3⟩
  | tup xs => cases e; obtain ⟨a, vs, h1, h2, h3⟩ := h.tup s; exact ⟨a, vs, h1, .inr h2, h3⟩
  | scr xs => cases e; obtain ⟨a, vs, h1, h2, h3⟩ := h.scr s; exact ⟨a, vs, h1, .inl h2, h3⟩
  | _ => cases e
theorem sub_new (s : Sub F H) {p : Addr} {o : HO} (hn : H p = none) : Sub F (upd F p o) := Sub.upd (by
  cases e : F p with
  | none => rfl
  | some u => rw [s _ _ e] at hn; cases hn)
theorem FinD.tup {ds : List D} {vs : List V} {Q : VK} (h : FinD K F H (.tup ds) Q) (s : Sub F H) (r : RepA K F vs ds) {p : Addr} (hn : H p = none) : Q (.ref p) (upd H p (.tup vs)) :=
  h _ _ _ (.new hn) (.tup (.inl (.inl upd_same)) (r.mono (sub_new s hn)))
theorem FinD.lst {ds : List D} {vs : List V} {Q : VK} (h : FinD K F H (.lst ds) Q) (s : Sub F H) (r : RepA K F vs ds) {p : Addr} (hn : H p = none) : Q (.ref p) (upd H p (.lst vs)) :=
  h _ _ _ (.new hn) (.lst upd_same (r.mono (sub_new s hn)))
theorem FinN.lst {ds : List D} {vs : List V} {Q : VK} (h : FinN K F H (.lst ds) Q) (r : RepA K F vs ds) {p : Addr} (hn : H p = none) : Q (.ref p) (upd H p (.lst vs)) :=
  h p _ hn ⟨vs, upd_same, r⟩
theorem RepA.ints {vs : List V} : ∀ {ns : List Int}, RepA K F vs (ns.map D.int) → vs = ns.map V.int := by
  intro ns h
  induction ns generalizing vs with
  | nil => cases h; rfl
  | cons n ns ih =>
    cases h with
    | cons a b => cases a; rw [ih b]; rfl
theorem repA_ints : ∀ ns : List Int, RepA K F (ns.map V.int) (ns.map D.int)
  | [] => .nil
  | n :: ns => .cons (.int n) (repA_ints ns)
theorem RepA.bls {vs : List V} : ∀ {ns : List Bool}, RepA K F vs (ns.map D.bl) → vs = ns.map V.bl := by
  intro ns h
  induction ns generalizing vs with
  | nil => cases h; rfl
  | cons n ns ih =>
    cases h with
    | cons a b => cases a; rw [ih b]; rfl
theorem RepA.rep {vs : List V} {ds : List D} (h : RepA K F vs ds) : ∀ k : Nat, RepA K F (List.replicate k vs).flatten (List.replicate k ds).flatten
  | 0 => .nil
  | k + 1 => by
    rw [List.replicate_succ, List.replicate_succ, List.flatten_cons, List.flatten_cons]
    exact h.append (RepA.rep h k)
end
theorem Op2.or {K : PySem.W.Frag} {r r' : R2} {op op' : D → D → Option D} (h : Op2 K r op) (h' : Op2 K r' op') : Op2 K (fun x y H Q => r x y H Q ∨ r' x y H Q) (fun d e => match op d e with | some z => some z | none => op' d e) := by
  intro F H x y d e z Q s rx ry ez q
  replace ez : (match op d e with | some z => some z | none => op' d e) = some z := ez
  cases h1 : op d e with
  | some w => rw [h1] at ez; cases ez; exact .inl (h s rx ry h1 q)
  | none => rw [h1] at ez; exact .inr (h' s rx ry ez q)

/-! ### ints -/
def i2 (f : Int → Int → Int) : D → D → Option D
  | .int i, .int j => some (.int (f i j))
  | _, _ => none
def i2c (C : Int → Int → Prop) [∀ i j, Decidable (C i j)] (f : Int → Int → Int) : D → D → Option D
  | .int i, .int j => if C i j then some (.int (f i j)) else none
  | _, _ => none
section
variable {K : PySem.W.Frag}
theorem v_i2 {f : Int → Int → Int} : Op2 K (rI0 fun i j => .int (f i j)) (i2 f) := by
  intro F H x y d e z Q s rx ry ez q
  unfold i2 at ez
  split at ez
  · cases ez
    cases rx.int; cases ry.int
    exact ⟨_, _, rfl, rfl, q.val (.int _)⟩
  · cases ez
theorem v_i2c {C : Int → Int → Prop} [∀ i j, Decidable (C i j)] {f : Int → Int → Int} : Op2 K (rI C fun i j => .int (f i j)) (i2c C f) := by
  intro F H x y d e z Q s rx ry ez q
  unfold i2c at ez
  split at ez
  · split at ez
    · rename_i hc
      cases ez
      cases rx.int; cases ry.int
      exact ⟨_, _, rfl, rfl, hc, q.val (.int _)⟩
    · cases ez
  · cases ez
instance (i j : Int) : Decidable (CMul i j) := by unfold CMul; exact inferInstance
instance (i j : Int) : Decidable (CDiv i j) := by unfold CDiv; exact inferInstance
instance (i j : Int) : Decidable (CPow i j) := by unfold CPow; exact inferInstance
abbrev isub : D → D → Option D := i2 fun i j => i - j
abbrev idiv : D → D → Option D := i2c CDiv fun i j => i / j
abbrev imod : D → D → Option D := i2c (fun _ j => 0 < j) fun i j => i % j
abbrev ipow : D → D → Option D := i2c CPow fun i j => i ^ j.toNat
def ineg : D → Option D
  | .int i => some (.int (-i))
  | _ => none
theorem v_neg : Op1 K (rU fun i => .int (-i)) ineg := by
  intro F H x d z Q s rx ez q
  unfold ineg at ez
  split at ez
  · cases ez; cases rx.int
    exact ⟨_, rfl, q.val (.int _)⟩
  · cases ez
/-! ### + and * -/
def lcat : D → D → Option D
  | .lst xs, .lst ys => if xs.length + ys.length ≤ sizeLine then some (.lst (xs ++ ys)) else none
  | _, _ => none
def tcat : D → D → Option D
  | .tup xs, .tup ys => if xs.length + ys.length ≤ sizeLine then some (.tup (xs ++ ys)) else none
  | _, _ => none
def scat : D → D → Option D
  | .str x, .str y => if x.length + y.length ≤ sizeLine then some (.str (x ++ y)) else none
  | _, _ => none
theorem v_lcat : Op2 K rCat lcat := by
  intro F H x y d e z Q s rx ry ez q
  unfold lcat at ez
  split at ez
  · split at ez
    · rename_i xs ys hz
      cases ez
      obtain ⟨a, vs, rfl, h1, h2⟩ := rx.lst s
      obtain ⟨b, ws, rfl, h3, h4⟩ := ry.lst s
      exact ⟨a, b, vs, ws, rfl, rfl, h1, h3, by rw [h2.len, h4.len]; exact hz, fun p hn => q.lst s (h2.append h4) hn⟩
    · cases ez
  · cases ez
theorem v_lcatN : Op2N K rCat lcat := by
  intro F H x y d e z Q s rx ry ez q
  unfold lcat at ez
  split at ez
  · split at ez
    · rename_i xs ys hz
      cases ez
      obtain ⟨a, vs, rfl, h1, h2⟩ := rx.lst s
      obtain ⟨b, ws, rfl, h3, h4⟩ := ry.lst s
      exact ⟨a, b, vs, ws, rfl, rfl, h1, h3, by rw [h2.len, h4.len]; exact hz, fun p hn => q.lst (h2.append h4) hn⟩
    · cases ez
  · cases ez
theorem v_scat : Op2 K (fun x y H Q => ∃ i j, x = .str i ∧ y = .str j ∧ i.length + j.length ≤ sizeLine ∧ Q (.str (i ++ j)) H) scat := by
  intro F H x y d e z Q s rx ry ez q
  unfold scat at ez
  split at ez
  · split at ez
    · rename_i hz
      cases ez
      cases rx.str; cases ry.str
      exact ⟨_, _, rfl, rfl, hz, q.val (.str _)⟩
    · cases ez
  · cases ez
theorem v_tcat : Op2 K (rCatA K) tcat := by
  intro F H x y d e z Q s rx ry ez q
  unfold tcat at ez
  split at ez
  · split at ez
    · rename_i xs ys hz
      cases ez
      have hx := rx.noOwn (fun _ z => z)
      have hy := ry.noOwn (fun _ z => z)
      obtain ⟨a, vs, rfl, h1, h2⟩ := rx.tup s
      obtain ⟨b, ws, rfl, h3, h4⟩ := ry.tup s
      refine ⟨a, b, vs, ws, rfl, rfl, h1, h3, by rw [h2.len, h4.len]; exact hz, fun e => ?_, fun _ e => ?_, fun _ _ p hn => q.tup s (h2.append h4) hn⟩
      · subst e; cases h2; exact q.val hy
      · subst e; cases h4; rw [List.append_nil] at q; exact q.val hx
    · cases ez
  · cases ez
/-- the first that serves -/
def orO (o1 o2 : D → D → Option D) : D → D → Option D := fun d e => match o1 d e with
  | some z => some z
  | none => o2 d e
def plus : D → D → Option D := orO (i2 fun i j => i + j) (orO lcat (orO tcat scat))
def rPlus (K : PySem.W.Frag) : R2 := fun x y H Q => rI0 (fun i j => .int (i + j)) x y H Q ∨ (rCat x y H Q ∨ (rCatA K x y H Q ∨ (∃ i j, x = .str i ∧ y = .str j ∧ i.length + j.length ≤ sizeLine ∧ Q (.str (i ++ j)) H)))
theorem op_plus {X : Cx} : OpR X (binaryOp .Add) (rPlus X.K) := op_add.or (op_cat.or (op_catA.or op_add_str))
theorem v_plus : Op2 K (rPlus K) plus := v_i2.or (v_lcat.or (v_tcat.or v_scat))
def lrep : D → D → Option D
  | .lst xs, .int k => if -(2 ^ 63) ≤ k ∧ k < 2 ^ 63 ∧ xs.length * k.toNat ≤ sizeLine then some (.lst (List.replicate k.toNat xs).flatten) else none
  | _, _ => none
def trep : D → D → Option D
  | .tup xs, .int k => if xs ≠ [] ∧ 2 ≤ k ∧ k ≤ 1000 ∧ xs.length ≤ 1000 then some (.tup (List.replicate k.toNat xs).flatten) else none
  | _, _ => none
theorem v_lrep : Op2 K rRep lrep := by
  intro F H x y d e z Q s rx ry ez q
  unfold lrep at ez
  split at ez
  · split at ez
    · rename_i xs k hz
      cases ez
      obtain ⟨a, vs, rfl, h1, h2⟩ := rx.lst s
      cases ry.int
      exact ⟨a, k, vs, rfl, rfl, h1, hz.1, hz.2.1, by rw [h2.len]; exact hz.2.2, fun p hn => q.lst s (h2.rep _) hn⟩
    · cases ez
  · cases ez
theorem v_lrepN : Op2N K rRep lrep := by
  intro F H x y d e z Q s rx ry ez q
  unfold lrep at ez
  split at ez
  · split at ez
    · rename_i xs k hz
      cases ez
      obtain ⟨a, vs, rfl, h1, h2⟩ := rx.lst s
      cases ry.int
      exact ⟨a, k, vs, rfl, rfl, h1, hz.1, hz.2.1, by rw [h2.len]; exact hz.2.2, fun p hn => q.lst (h2.rep _) hn⟩
    · cases ez
  · cases ez
def rTimes (K : PySem.W.Frag) : R2 := fun x y H Q => rI CMul (fun i j => .int (i * j)) x y H Q ∨ rRep x y H Q
def times : D → D → Option D := orO (i2c CMul fun i j => i * j) lrep
theorem op_times {X : Cx} : OpR X (binaryOp .Mult) (rTimes X.K) := op_mul.or op_rep
theorem v_times : Op2 K (rTimes K) times := v_i2c.or v_lrep

/-! ### items, slices -/
def ixD : D → D → Option D := fun d e => match e with
  | .int i => match d.items with
    | some ds => atI ds i
    | none => none
  | _ => none
theorem atI_rep {F : Hp} {vs : List V} {ds : List D} {i : Int} {d : D} (h : RepA K F vs ds) (e : atI ds i = some d) : ∃ v, atI vs i = some v ∧ Rep K F v d := by
  unfold atI at e ⊢
  rw [h.len]
  cases q : ixN ds.length i with
  | none => rw [q] at e; cases e
  | some j => rw [q] at e; exact h.get e
theorem v_ix : Op2 K (rIx K) ixD := by
  intro F H x y d e z Q s rx ry ez q
  unfold ixD at ez
  split at ez
  · split at ez
    · rename_i ds hd
      cases ry.int
      obtain ⟨a, vs, rfl, h1, h2⟩ := rx.seq s hd
      obtain ⟨v, h3, h4⟩ := atI_rep h2 ez
      rcases h1 with h1 | h1
      · exact .inl ⟨a, vs, _, v, rfl, rfl, h1, h3, q.val h4⟩
      · exact .inr (.inl ⟨a, vs, _, v, rfl, rfl, h1, h3, q.val h4⟩)
    · cases ez
  · cases ez
def cutG {α : Type} (xs : List α) (lo hi : Option Int) : List α := (xs.drop (HT.sIx xs.length 0 lo)).take (HT.sIx xs.length xs.length hi - HT.sIx xs.length 0 lo)
def cutD (lo hi : Option Int) : D → Option D
  | .tup ds => some (.tup (cutG ds lo hi))
  | .lst ds => some (.lst (cutG ds lo hi))
  | .scr ds => some (.lst (cutG ds lo hi))
  | _ => none
theorem cut_rep {F : Hp} {vs : List V} {ds : List D} (h : RepA K F vs ds) (lo hi : Option Int) : RepA K F (cutV vs lo hi) (cutG ds lo hi) := by
  unfold cutV cutG
  rw [h.len]
  exact (h.drop _).take _
theorem cutV_whole {vs : List V} {lo hi : Option Int} (h : HT.sIx vs.length 0 lo = 0 ∧ HT.sIx vs.length vs.length hi = vs.length) : cutV vs lo hi = vs := by
  unfold cutV
  rw [h.1, h.2]
  simp
theorem cutG_whole {ds : List D} {lo hi : Option Int} (h : HT.sIx ds.length 0 lo = 0 ∧ HT.sIx ds.length ds.length hi = ds.length) : cutG ds lo hi = ds := by
  unfold cutG
  rw [h.1, h.2]
  simp
def rCut (K : PySem.W.Frag) : V → Option Int → Option Int → Hp → VK → Prop := fun x lo hi H Q => rSlA K x lo hi H Q ∨ rSlL K x lo hi H Q
theorem sl_cut {X : Cx} : SlR X (rCut X.K) := sl_tupA.or sl_list
theorem v_cut {F H : Hp} {x : V} {d z : D} {lo hi : Option Int} {Q : VK} (s : Sub F H) (rx : RepH K F H x d) (ez : cutD lo hi d = some z) (q : FinD K F H z Q) : rCut K x lo hi H Q := by
  cases d with
  | tup ds =>
    cases ez
    have hx := rx.noOwn (fun _ z => z)
    obtain ⟨a, vs, rfl, h1, h2⟩ := rx.tup s
    refine .inl ⟨a, vs, rfl, h1, fun w => ?_, fun _ p hn => q.tup s (cut_rep h2 lo hi) hn⟩
    rw [h2.len] at w
    rw [cutG_whole w] at q
    exact q.val hx
  | lst ds =>
    cases ez
    obtain ⟨a, vs, rfl, h1, h2⟩ := rx.lst s
    exact .inr ⟨a, vs, rfl, .inl (.inl h1), fun p hn => q.lst s (cut_rep h2 lo hi) hn⟩
  | scr ds =>
    cases ez
    obtain ⟨a, vs, rfl, h1, h2⟩ := rx.scr s
    exact .inr ⟨a, vs, rfl, h1, fun p hn => q.lst s (cut_rep h2 lo hi) hn⟩
  | _ => cases ez
theorem v_cutN {F H : Hp} {x : V} {d : D} {ds : List D} {lo hi : Option Int} {Q : VK} (s : Sub F H) (rx : RepH K F H x d) (ed : d = .lst ds ∨ d = .scr ds) (q : FinN K F H (.lst (cutG ds lo hi)) Q) : rCut K x lo hi H Q := by
  rcases ed with rfl | rfl
  · obtain ⟨a, vs, rfl, h1, h2⟩ := rx.lst s
    exact .inr ⟨a, vs, rfl, .inl (.inl h1), fun p hn => q.lst (cut_rep h2 lo hi) hn⟩
  · obtain ⟨a, vs, rfl, h1, h2⟩ := rx.scr s
    exact .inr ⟨a, vs, rfl, h1, fun p hn => q.lst (cut_rep h2 lo hi) hn⟩
end
/-! an optional part of a slice -/
structure SPo (X : Cx) (e : Option Expr) (f : CS → Rs (Option Int)) : Prop where
  run : ∀ B pn xe W, Takes (X.tr pn xe) W → PO (X.tr pn xe) e fun σ H Q => ∃ F s, Rel X.K B F s σ H ∧ Post X.K B σ W (fun o s => ∀ F' H', Sub F F' → Rel X.K B F' s σ H' → Q o H') (f s)
def npE : CS → Rs (Option Int) := fun s => .ok none s
def ptE (f : CS → Rs D) : CS → Rs (Option Int) := fun s => (f s).bind fun d s => match d with
  | .int i => .ok (some i) s
  | _ => .bad
theorem poW {X : Cx} {e : Option Expr} {t t' : TO} (h : PO X e t) (i : ∀ σ H Q, t' σ H Q → t σ H Q) : PO X e t' := by
  constructor
  intros
  apply h.run <;> first | assumption | (apply i; assumption)
section
variable {X : Cx} {a e : Expr} {pos p2 : Pos} {lo hi : Option Expr} {f : CS → Rs Av} {fl fh : CS → Rs (Option Int)}
theorem spo_none : SPo X none npE := ⟨fun B pn xe W tk => poW po_none fun σ H Q ⟨F, s, r, p⟩ => p F H (.refl _) r⟩
theorem spo_some {fe : CS → Rs D} (h : SD X e fe) : SPo X (some e) (ptE fe) := by
  refine ⟨fun B pn xe W tk => poW (po_some (h.run B pn xe W tk)) fun σ H Q ⟨F, s, r, p⟩ => ⟨F, s, r, p.bind.mono fun d s1 p1 v F1 H1 su r1 q => ?_⟩⟩
  cases d with
  | int i => cases q; exact ⟨i, rfl, p1 F1 H1 su r1⟩
  | _ => exact p1.elim
def slE (f : CS → Rs Av) (fl fh : CS → Rs (Option Int)) : CS → Rs D := fun s => (f s).bind fun x s => (fl s).bind fun lo s => (fh s).bind fun hi s => res (o1 (cutD lo hi) x s) s
def slNE (f : CS → Rs Av) (fl fh : CS → Rs (Option Int)) : CS → Rs D := fun s => (f s).bind fun x s => (fl s).bind fun lo s => (fh s).bind fun hi s => match rsv s x with
  | some (.lst ds) => .ok (.lst (cutG ds lo hi)) s
  | some (.scr ds) => .ok (.lst (cutG ds lo hi)) s
  | _ => .bad
theorem sd_slice (ha : SO X a f) (hl : SPo X lo fl) (hh : SPo X hi fh) : SD X (.Subscript a (.Slice lo hi none p2) pos) (slE f fl fh) := by
  refine ⟨fun B pn xe W tk => peW (pe_slice (X := X.tr pn xe) sl_cut (ha.run B pn xe W tk) (hl.run B pn xe W tk) (hh.run B pn xe W tk)) fun σ H Q ⟨F, s, r, p⟩ => ?_⟩
  refine ⟨F, s, r, p.bind.mono fun x s1 p1 v F1 H1 su1 r1 q1 => ⟨F1, s1, r1, p1.bind.mono fun lo s2 p2 F2 H2 su2 r2 => ⟨F2, s2, r2, p2.bind.mono fun hi s3 p3 F3 H3 su3 r3 => ?_⟩⟩⟩
  obtain ⟨z, e1, p4⟩ := p3.res
  obtain ⟨d, h1, h2⟩ := o1_some e1
  exact v_cut r3.sub ((q1.mono (su2.trans su3)).h r3 h1) h2 (p4.fin ((su1.trans su2).trans su3) r3)
theorem sn_slice (ha : SO X a f) (hl : SPo X lo fl) (hh : SPo X hi fh) : SN X (.Subscript a (.Slice lo hi none p2) pos) (slNE f fl fh) := by
  refine ⟨fun B pn xe W tk => peW (pe_slice (X := X.tr pn xe) sl_cut (ha.run B pn xe W tk) (hl.run B pn xe W tk) (hh.run B pn xe W tk)) fun σ H Q ⟨F, s, r, p⟩ => ?_⟩
  refine ⟨F, s, r, p.bind.mono fun x s1 p1 v F1 H1 su1 r1 q1 => ⟨F1, s1, r1, p1.bind.mono fun lo s2 p2 F2 H2 su2 r2 => ⟨F2, s2, r2, p2.bind.mono fun hi s3 p3 F3 H3 su3 r3 => ?_⟩⟩⟩
  split at p3
  · rename_i ds h1
    exact v_cutN r3.sub ((q1.mono (su2.trans su3)).h r3 h1) (.inl rfl) (AnsN.fin p3 ((su1.trans su2).trans su3) r3)
  · rename_i ds h1
    exact v_cutN r3.sub ((q1.mono (su2.trans su3)).h r3 h1) (.inr rfl) (AnsN.fin p3 ((su1.trans su2).trans su3) r3)
  · exact p3.elim
end

/-! ### comparisons -/
section
variable {K : PySem.W.Frag}
def c2 (f : Int → Int → Bool) : D → D → Option Bool
  | .int i, .int j => some (f i j)
  | _, _ => none
theorem v_c2 {f : Int → Int → Bool} : Op2T K (rI0 fun i j => .bl (f i j)) (c2 f) := by
  intro F H x y d e z Q s rx ry ez q
  unfold c2 at ez
  split at ez
  · cases ez; cases rx.int; cases ry.int
    exact ⟨_, _, rfl, rfl, q⟩
  · cases ez
mutual
def D.py : D → Option PyData
  | .non => some .none
  | .bl b => some (.bool b)
  | .int i => some (.int i)
  | .str x => some (.str x)
  | .lst ds => (pyL ds).map .list
  | .tup ds => (pyL ds).map .tuple
  | _ => none
def pyL : List D → Option (List PyData)
  | [] => some []
  | d :: ds => match D.py d, pyL ds with
    | some p, some ps => some (p :: ps)
    | _, _ => none
end
mutual
theorem Rep.dp {F H : Hp} (s : Sub F H) : ∀ {v : V} {d : D} {p : PyData}, Rep K F v d → d.py = some p → Dp K H v p
  | _, .non, p, h, e => by cases h; rw [D.py] at e; cases e; exact .non
  | _, .bl b, p, h, e => by cases h; rw [D.py] at e; cases e; exact .bl b
  | _, .int i, p, h, e => by cases h; rw [D.py] at e; cases e; exact .int i
  | _, .str x, p, h, e => by cases h; rw [D.py] at e; cases e; exact .str x
  | _, .lst ds, p, h, e => by
    rw [D.py] at e
    cases q : pyL ds with
    | none => rw [q] at e; cases e
    | some ps =>
      rw [q] at e; cases e
      cases h with
      | lst h1 h2 => exact .lst (.inl (.inl (s _ _ h1))) (RepA.dp s h2 q)
  | _, .tup ds, p, h, e => by
    rw [D.py] at e
    cases q : pyL ds with
    | none => rw [q] at e; cases e
    | some ps =>
      rw [q] at e; cases e
      cases h with
      | tup h1 h2 => exact .tup (s.sqT h1) (RepA.dp s h2 q)
  | _, .scr ds, p, h, e => by rw [D.py] at e; cases e; all_goals (intros; simp_all)
  | _, .ins c fs, p, h, e => by rw [D.py] at e; cases e; all_goals (intros; simp_all)
  | _, .ty n, p, h, e => by rw [D.py] at e; cases e; all_goals (intros; simp_all)
  | _, .glo n, p, h, e => by rw [D.py] at e; cases e; all_goals (intros; simp_all)
theorem RepA.dp {F H : Hp} (s : Sub F H) : ∀ {vs : List V} {ds : List D} {ps : List PyData}, RepA K F vs ds → pyL ds = some ps → DpAll K H vs ps
  | _, [], ps, h, e => by cases h; rw [pyL] at e; cases e; exact .nil
  | _, d :: ds, ps, h, e => by
    rw [pyL] at e
    cases h with
    | cons h1 h2 =>
      cases q1 : d.py with
      | none => rw [q1] at e; cases e
      | some p =>
        cases q2 : pyL ds with
        | none => rw [q1, q2] at e; cases e
        | some ps' =>
          rw [q1, q2] at e; cases e
          exact .cons (Rep.dp s h1 q1) (RepA.dp s h2 q2)
end
theorem RepH.dp {F H : Hp} {v : V} {d : D} {p : PyData} (s : Sub F H) (h : RepH K F H v d) (e : d.py = some p) : Dp K H v p := by
  rcases h with h | ⟨a, rfl, ho, _⟩
  · exact h.dp s e
  · cases d with
    | lst ds =>
      obtain ⟨vs, h1, h2⟩ := ho
      rw [D.py] at e
      cases q : pyL ds with
      | none => rw [q] at e; cases e
      | some ps =>
        rw [q] at e; cases e
        exact .lst (.inl (.inl h1)) (h2.dp s q)
    | ins c fs => rw [D.py] at e; cases e; all_goals (intros; simp_all)
    | _ => exact ho.elim
def eqD : D → D → Option Bool := fun d e => match d.py, e.py with
  | some p, some q => if SeqAt.shaped p = true ∧ SeqAt.shaped q = true then some (PyData.eqv p q) else none
  | _, _ => none
def neD : D → D → Option Bool := fun d e => (eqD d e).map (!·)
theorem eqD_some {d e : D} {z : Bool} (h : eqD d e = some z) : ∃ p q, d.py = some p ∧ e.py = some q ∧ SeqAt.shaped p = true ∧ SeqAt.shaped q = true ∧ z = PyData.eqv p q := by
  unfold eqD at h
  split at h
  · split at h
    · rename_i p q h1 h2 h3
      cases h
      exact ⟨p, q, h1, h2, h3.1, h3.2, rfl⟩
    · cases h
  · cases h
theorem v_eq : Op2T K (rEqD K) eqD := by
  intro F H x y d e z Q s rx ry ez q
  obtain ⟨p, r, h1, h2, h3, h4, rfl⟩ := eqD_some ez
  exact ⟨p, r, rx.dp s h1, ry.dp s h2, h3, h4, q⟩
theorem v_ne : Op2T K (rNeD K) neD := by
  intro F H x y d e z Q s rx ry ez q
  unfold neD at ez
  cases he : eqD d e with
  | none => rw [he] at ez; cases ez
  | some b =>
    rw [he] at ez; cases ez
    obtain ⟨p, r, h1, h2, h3, h4, rfl⟩ := eqD_some he
    exact ⟨p, r, rx.dp s h1, ry.dp s h2, h3, h4, q⟩
/-- is None -/
def D.nonB : D → Bool
  | .non => true
  | _ => false
def isN : D → D → Option Bool
  | d, .non => some d.nonB
  | _, _ => none
def isNN : D → D → Option Bool := fun d e => (isN d e).map (!·)
theorem RepH.isNon {F H : Hp} {v : V} {d : D} (h : RepH K F H v d) : decide (v = .non) = d.nonB := by
  rcases h with h | ⟨a, rfl, ho, _⟩
  · cases h <;> rfl
  · cases d with
    | non => exact ho.elim
    | _ => rfl
theorem v_isN : Op2T K (fun x y H Q => y = .non ∧ Q (.bl (decide (x = .non))) H) isN := by
  intro F H x y d e z Q s rx ry ez q
  unfold isN at ez
  split at ez
  · cases ez
    exact ⟨ry.non, by rw [rx.isNon]; exact q⟩
  · cases ez
theorem v_isNN : Op2T K (fun x y H Q => y = .non ∧ Q (.bl (!decide (x = .non))) H) isNN := by
  intro F H x y d e z Q s rx ry ez q
  unfold isNN at ez
  cases he : isN d e with
  | none => rw [he] at ez; cases ez
  | some b =>
    rw [he] at ez; cases ez
    unfold isN at he
    split at he
    · cases he
      exact ⟨ry.non, by rw [rx.isNon]; exact q⟩
    · cases he
end
/-- is, is not of None and bools -/
def rIsC (neg : Bool) : R2 := fun x y H Q => (x = .non ∨ ∃ b, x = .bl b) ∧ (∃ b, y = .bl b) ∧ Q (.bl (neg != decide (x = y))) H
theorem op_isC {X : Cx} : OpR X (compareOp .Is) (rIsC false) := by
  intro pins s σ H x y v u Q I rx ry h
  obtain ⟨hx, ⟨b, rfl⟩, q⟩ := h
  cases (show u = Value.bool b from ry)
  rcases hx with rfl | ⟨a, rfl⟩
  · cases (show v = Value.none from rx)
    exact wpAny_is_other rfl (fun z => nomatch z) ⟨.bl false, H, I, rfl, by simpa using q⟩
  · cases (show v = Value.bool a from rx)
    by_cases e : a = b
    · subst e
      exact wpAny_is_self rfl ⟨.bl true, H, I, rfl, by simpa using q⟩
    · exact wpAny_is_other rfl (fun z => e (Value.bool.inj z)) ⟨.bl false, H, I, rfl, by simpa [e] using q⟩
theorem op_isNC {X : Cx} : OpR X (compareOp .IsNot) (rIsC true) := by
  intro pins s σ H x y v u Q I rx ry h
  obtain ⟨hx, ⟨b, rfl⟩, q⟩ := h
  cases (show u = Value.bool b from ry)
  rcases hx with rfl | ⟨a, rfl⟩
  · cases (show v = Value.none from rx)
    exact wpAny_isNot_other rfl (fun z => nomatch z) ⟨.bl true, H, I, rfl, by simpa using q⟩
  · cases (show v = Value.bool a from rx)
    by_cases e : a = b
    · subst e
      exact wpAny_isNot_self rfl ⟨.bl false, H, I, rfl, by simpa using q⟩
    · exact wpAny_isNot_other rfl (fun z => e (Value.bool.inj z)) ⟨.bl true, H, I, rfl, by simpa [e] using q⟩
section
variable {K : PySem.W.Frag}
def isC : D → D → Option Bool
  | .non, .bl _ => some false
  | .bl a, .bl b => some (a == b)
  | _, _ => none
def isNC : D → D → Option Bool := fun d e => (isC d e).map (!·)
theorem v_isC : Op2T K (rIsC false) isC := by
  intro F H x y d e z Q s rx ry ez q
  unfold isC at ez
  split at ez
  · cases ez; cases rx.non; cases ry.bl
    exact ⟨.inl rfl, ⟨_, rfl⟩, by simpa using q⟩
  · cases ez; cases rx.bl; cases ry.bl
    exact ⟨.inr ⟨_, rfl⟩, ⟨_, rfl⟩, by simpa [Bool.beq_eq_decide_eq] using q⟩
  · cases ez
theorem v_isNC : Op2T K (rIsC true) isNC := by
  intro F H x y d e z Q s rx ry ez q
  unfold isNC at ez
  cases he : isC d e with
  | none => rw [he] at ez; cases ez
  | some b =>
    rw [he] at ez; cases ez
    unfold isC at he
    split at he
    · cases he; cases rx.non; cases ry.bl
      exact ⟨.inl rfl, ⟨_, rfl⟩, by simpa using q⟩
    · cases he; cases rx.bl; cases ry.bl
      exact ⟨.inr ⟨_, rfl⟩, ⟨_, rfl⟩, by simpa [Bool.beq_eq_decide_eq] using q⟩
    · cases he
/-- in a list or tuple of flat things -/
def D.flat : D → Option V
  | .non => some .non
  | .bl b => some (.bl b)
  | .int i => some (.int i)
  | .str x => some (.str x)
  | _ => none
def flatL : List D → Option (List V)
  | [] => some []
  | d :: ds => match d.flat, flatL ds with
    | some v, some vs => some (v :: vs)
    | _, _ => none
def inD : D → D → Option Bool := fun d e => match d.flat, e.items.bind flatL with
  | some v, some vs => if flatV v = true ∧ vs.all flatV = true then some (inV v vs) else none
  | _, _ => none
def ninD : D → D → Option Bool := fun d e => (inD d e).map (!·)
theorem Rep.flat {F : Hp} {v w : V} {d : D} (h : Rep K F v d) (e : d.flat = some w) : v = w := by cases h <;> cases e <;> rfl
theorem RepA.flat {F : Hp} : ∀ {vs ws : List V} {ds : List D}, RepA K F vs ds → flatL ds = some ws → vs = ws
  | _, _, [], .nil, e => by cases e; rfl
  | _, _, d :: ds, .cons h r, e => by
    unfold flatL at e
    cases q1 : d.flat with
    | none => rw [q1] at e; cases e
    | some v =>
      cases q2 : flatL ds with
      | none => rw [q1, q2] at e; cases e
      | some vs =>
        rw [q1, q2] at e; cases e
        rw [h.flat q1, r.flat q2]
theorem in_parts {F H : Hp} {x y : V} {d e : D} {z : Bool} (s : Sub F H) (rx : RepH K F H x d) (ry : RepH K F H y e) (ez : inD d e = some z) : ∃ p xs, y = .ref p ∧ (SqL K H p xs ∨ SqT K H p xs) ∧ flatV x = true ∧ xs.all flatV = true ∧ z = inV x xs := by
  unfold inD at ez
  split at ez
  · rename_i v vs h1 h2
    split at ez
    · rename_i h3
      cases ez
      cases h4 : e.items with
      | none => rw [h4] at h2; cases h2
      | some ds =>
        rw [h4] at h2
        obtain ⟨a, ws, rfl, h5, h6⟩ := ry.seq s h4
        have e1 : ws = vs := h6.flat h2
        subst e1
        have e2 : x = v := (rx.noOwn (fun a z => by cases d <;> first | exact z | cases h1)).flat h1
        subst e2
        exact ⟨a, ws, rfl, h5, h3.1, h3.2, rfl⟩
    · cases ez
  · cases ez
theorem v_in : Op2T K (rIn K false) inD := by
  intro F H x y d e z Q s rx ry ez q
  obtain ⟨p, xs, rfl, h1, h2, h3, rfl⟩ := in_parts s rx ry ez
  exact ⟨p, xs, rfl, h1, h2, h3, q⟩
theorem v_nin : Op2T K (rIn K true) ninD := by
  intro F H x y d e z Q s rx ry ez q
  unfold ninD at ez
  cases he : inD d e with
  | none => rw [he] at ez; cases ez
  | some b =>
    rw [he] at ez; cases ez
    obtain ⟨p, xs, rfl, h1, h2, h3, rfl⟩ := in_parts s rx ry he
    exact ⟨p, xs, rfl, h1, h2, h3, q⟩

/-! ### built-ins -/
def lenD : List D → Option D
  | [.str x] => if x.length ≤ sizeLine then some (.int x.length) else none
  | [d] => match d.items with
    | some ds => some (.int ds.length)
    | none => none
  | _ => none
theorem v_len : OpC K (fun xs H Q => ∃ x n, xs = [x] ∧ LenV K x H n ∧ Q (.int n) H) lenD := by
  intro F H xs ds z Q s r ez q
  unfold lenD at ez
  split at ez
  · split at ez
    · rename_i x hz
      cases ez
      cases r with
      | cons a b => cases b; cases a.str; exact ⟨_, _, rfl, ⟨hz, rfl⟩, q.val (.int _)⟩
    · cases ez
  · split at ez
    · rename_i d hd ds' h
      cases ez
      cases r with
      | cons a b =>
        cases b
        obtain ⟨p, vs, rfl, h1, h2⟩ := a.seq s h
        rw [← h2.len] at q
        exact ⟨_, vs.length, rfl, h1.imp (fun h => ⟨_, h, rfl⟩) (fun h => ⟨_, h, rfl⟩), q.val (.int _)⟩
    · cases ez
  · cases ez
def intD : List D → Option D
  | [.int i] => some (.int i)
  | [.bl b] => some (.int (if b then 1 else 0))
  | _ => none
theorem v_int : OpC K (fun xs H Q => (∃ i, xs = [.int i] ∧ Q (.int i) H) ∨ ∃ k, xs = [.bl k] ∧ Q (.int (if k then 1 else 0)) H) intD := by
  intro F H xs ds z Q s r ez q
  unfold intD at ez
  split at ez
  · cases ez
    cases r with
    | cons a b => cases b; cases a.int; exact .inl ⟨_, rfl, q.val (.int _)⟩
  · cases ez
    cases r with
    | cons a b => cases b; cases a.bl; exact .inr ⟨_, rfl, q.val (.int _)⟩
  · cases ez
def absD : List D → Option D
  | [.int i] => some (.int (if i < 0 then -i else i))
  | _ => none
theorem v_abs : OpC K (fun xs H Q => ∃ i, xs = [.int i] ∧ Q (.int (if i < 0 then -i else i)) H) absD := by
  intro F H xs ds z Q s r ez q
  unfold absD at ez
  split at ez
  · cases ez
    cases r with
    | cons a b => cases b; cases a.int; exact ⟨_, rfl, q.val (.int _)⟩
  · cases ez
def maxD : List D → Option D
  | [.int i, .int j] => some (.int (if j > i then j else i))
  | _ => none
theorem v_max : OpC K (fun xs H Q => ∃ i j, xs = [.int i, .int j] ∧ Q (.int (if j > i then j else i)) H) maxD := by
  intro F H xs ds z Q s r ez q
  unfold maxD at ez
  split at ez
  · cases ez
    cases r with
    | cons a b => cases b with | cons b c => cases c; cases a.int; cases b.int; exact ⟨_, _, rfl, q.val (.int _)⟩
  · cases ez
def minD : List D → Option D
  | [.int i, .int j] => some (.int (if j < i then j else i))
  | _ => none
theorem v_min : OpC K (fun xs H Q => ∃ i j, xs = [.int i, .int j] ∧ Q (.int (if j < i then j else i)) H) minD := by
  intro F H xs ds z Q s r ez q
  unfold minD at ez
  split at ez
  · cases ez
    cases r with
    | cons a b => cases b with | cons b c => cases c; cases a.int; cases b.int; exact ⟨_, _, rfl, q.val (.int _)⟩
  · cases ez
def tupD : List D → Option D
  | [d] => match d.items with
    | some ds => some (.tup ds)
    | none => none
  | _ => none
def rTupOf (K : PySem.W.Frag) : List V → Hp → VK → Prop := fun xs H Q => ∃ p ys, xs = [.ref p] ∧ ((SqL K H p ys ∧ ∀ l, H l = none → Q (.ref l) (upd H l (.tup ys))) ∨ (SqT K H p ys ∧ Q (.ref p) H))
theorem v_tup : OpC K (rTupOf K) tupD := by
  intro F H xs ds z Q s r ez q
  unfold tupD at ez
  split at ez
  · rename_i d
    cases r with
    | cons a b =>
      cases b
      cases d with
      | tup ys =>
        cases ez
        have ha := a.noOwn (fun _ z => z)
        obtain ⟨p, vs, rfl, h1, h2⟩ := a.tup s
        exact ⟨p, vs, rfl, .inr ⟨h1, q.val ha⟩⟩
      | lst ys =>
        cases ez
        obtain ⟨p, vs, rfl, h1, h2⟩ := a.lst s
        exact ⟨p, vs, rfl, .inl ⟨.inl (.inl h1), fun l hn => q.tup s h2 hn⟩⟩
      | scr ys =>
        cases ez
        obtain ⟨p, vs, rfl, h1, h2⟩ := a.scr s
        exact ⟨p, vs, rfl, .inl ⟨h1, fun l hn => q.tup s h2 hn⟩⟩
      | _ => cases ez
  · cases ez
def lstD : List D → Option D
  | [d] => match d.items with
    | some ds => some (.lst ds)
    | none => none
  | _ => none
def rLstOf (K : PySem.W.Frag) : List V → Hp → VK → Prop := fun xs H Q => ∃ p ys, xs = [.ref p] ∧ (SqL K H p ys ∨ SqT K H p ys) ∧ ∀ l, H l = none → Q (.ref l) (upd H l (.lst ys))
theorem v_lstN : OpCN K (rLstOf K) lstD := by
  intro F H xs ds z Q s r ez q
  unfold lstD at ez
  split at ez
  · split at ez
    · rename_i d ds h
      cases ez
      cases r with
      | cons a b =>
        cases b
        obtain ⟨p, vs, rfl, h1, h2⟩ := a.seq s h
        exact ⟨p, vs, rfl, h1, fun l hn => q.lst h2 hn⟩
    · cases ez
  · cases ez
/-- bools, ints of a list -/
def blsL : List D → Option (List Bool)
  | [] => some []
  | .bl b :: ds => (blsL ds).map (b :: ·)
  | _ => none
def intsL : List D → Option (List Int)
  | [] => some []
  | .int b :: ds => (intsL ds).map (b :: ·)
  | _ => none
theorem blsL_eq : ∀ {ds : List D} {bs : List Bool}, blsL ds = some bs → ds = bs.map D.bl
  | [], _, e => by cases e; rfl
  | .bl b :: ds, bs, e => by
    unfold blsL at e
    cases q : blsL ds with
    | none => rw [q] at e; cases e
    | some cs => rw [q] at e; cases e; rw [blsL_eq q]; rfl
  | .non :: _, _, e => by cases e
  | .int _ :: _, _, e => by cases e
  | .str _ :: _, _, e => by cases e
  | .lst _ :: _, _, e => by cases e
  | .tup _ :: _, _, e => by cases e
  | .scr _ :: _, _, e => by cases e
  | .ins _ _ :: _, _, e => by cases e
  | .ty _ :: _, _, e => by cases e
  | .glo _ :: _, _, e => by cases e
theorem intsL_eq : ∀ {ds : List D} {bs : List Int}, intsL ds = some bs → ds = bs.map D.int
  | [], _, e => by cases e; rfl
  | .int b :: ds, bs, e => by
    unfold intsL at e
    cases q : intsL ds with
    | none => rw [q] at e; cases e
    | some cs => rw [q] at e; cases e; rw [intsL_eq q]; rfl
  | .non :: _, _, e => by cases e
  | .bl _ :: _, _, e => by cases e
  | .str _ :: _, _, e => by cases e
  | .lst _ :: _, _, e => by cases e
  | .tup _ :: _, _, e => by cases e
  | .scr _ :: _, _, e => by cases e
  | .ins _ _ :: _, _, e => by cases e
  | .ty _ :: _, _, e => by cases e
  | .glo _ :: _, _, e => by cases e
theorem blsL_map (bs : List Bool) : blsL (bs.map D.bl) = some bs := by
  induction bs with
  | nil => rfl
  | cons b bs ih => rw [List.map_cons, blsL, ih]; rfl
theorem intsL_map (bs : List Int) : intsL (bs.map D.int) = some bs := by
  induction bs with
  | nil => rfl
  | cons b bs ih => rw [List.map_cons, intsL, ih]; rfl
def blD (f : List Bool → Bool) : List D → Option D
  | [.lst ds] => (blsL ds).map fun bs => .bl (f bs)
  | _ => none
theorem v_bl {f : List Bool → Bool} : OpC K (fun vs H Q => ∃ (a : Addr) (bs : List Bool), vs = [V.ref a] ∧ SqL K H a (bs.map V.bl) ∧ Q (.bl (f bs)) H) (blD f) := by
  intro F H xs ds z Q s r ez q
  unfold blD at ez
  split at ez
  · rename_i ds
    cases h : blsL ds with
    | none => rw [h] at ez; cases ez
    | some bs =>
      rw [h] at ez; cases ez
      cases r with
      | cons a b =>
        cases b
        rw [blsL_eq h] at a
        obtain ⟨p, vs, rfl, h1, h2⟩ := a.lst s
        rw [h2.bls] at h1
        exact ⟨p, bs, rfl, .inl (.inl h1), q.val (.bl _)⟩
  · cases ez
abbrev allBD : List D → Option D := blD fun bs => bs.all id
abbrev anyBD : List D → Option D := blD fun bs => bs.any id
def sumD : List D → Option D
  | [.lst ds] => (intsL ds).map fun ns => .int ns.sum
  | _ => none
theorem v_sum : OpC K (rSum K) sumD := by
  intro F H xs ds z Q s r ez q
  unfold sumD at ez
  split at ez
  · rename_i ds
    cases h : intsL ds with
    | none => rw [h] at ez; cases ez
    | some ns =>
      rw [h] at ez; cases ez
      cases r with
      | cons a b =>
        cases b
        rw [intsL_eq h] at a
        obtain ⟨p, vs, rfl, h1, h2⟩ := a.lst s
        rw [h2.ints] at h1
        exact ⟨p, ns, rfl, .inl (.inl h1), q.val (.int _)⟩
  · cases ez
/-- sorted of ints: an insertion sort tells the answer -/
def insI (x : Int) : List Int → List Int
  | [] => [x]
  | y :: ys => if x ≤ y then x :: y :: ys else y :: insI x ys
def sortI : List Int → List Int
  | [] => []
  | x :: xs => insI x (sortI xs)
theorem insI_perm (x : Int) : ∀ ys : List Int, (insI x ys).Perm (x :: ys)
  | [] => List.Perm.refl _
  | y :: ys => by
    unfold insI
    split
    · exact List.Perm.refl _
    · exact ((insI_perm x ys).cons y).trans (List.Perm.swap x y ys)
theorem sortI_perm : ∀ xs : List Int, (sortI xs).Perm xs
  | [] => List.Perm.refl _
  | x :: xs => (insI_perm x (sortI xs)).trans ((sortI_perm xs).cons x)
theorem insI_mem {x z : Int} {ys : List Int} (h : z ∈ insI x ys) : z = x ∨ z ∈ ys := List.mem_cons.mp ((insI_perm x ys).mem_iff.mp h)
theorem insI_sorted {x : Int} : ∀ {ys : List Int}, ys.Pairwise (· ≤ ·) → (insI x ys).Pairwise (· ≤ ·)
  | [], _ => by unfold insI; exact List.pairwise_singleton _ _
  | y :: ys, h => by
    unfold insI
    have h1 : ∀ z ∈ ys, y ≤ z := fun z hz => List.rel_of_pairwise_cons h hz
    split
    · rename_i hx
      exact List.pairwise_cons.mpr ⟨fun z hz => (List.mem_cons.mp hz).elim (fun e => by rw [e]; exact hx) (fun m => Int.le_trans hx (h1 _ m)), h⟩
    · rename_i hx
      exact List.pairwise_cons.mpr ⟨fun z hz => (insI_mem hz).elim (fun e => by rw [e]; omega) (fun m => h1 _ m), insI_sorted (List.pairwise_cons.mp h).2⟩
theorem sortI_sorted : ∀ xs : List Int, (sortI xs).Pairwise (· ≤ ·)
  | [] => List.Pairwise.nil
  | x :: xs => insI_sorted (sortI_sorted xs)
theorem sorted_one {xs ys : List Int} (hp : xs.Perm ys) (hx : xs.Pairwise (· ≤ ·)) (hy : ys.Pairwise (· ≤ ·)) : xs = ys := by
  induction xs generalizing ys with
  | nil => exact (List.nil_perm.mp hp).symm
  | cons x xs ih =>
    cases ys with
    | nil => exact absurd hp.symm (by simp)
    | cons y ys =>
      have e : x = y := by
        have h1 : x ∈ y :: ys := hp.mem_iff.mp List.mem_cons_self
        have h2 : y ∈ x :: xs := hp.mem_iff.mpr List.mem_cons_self
        rcases List.mem_cons.mp h1 with e | m1
        · exact e
        · rcases List.mem_cons.mp h2 with e | m2
          · exact e.symm
          · have a1 := List.rel_of_pairwise_cons hy m1
            have a2 := List.rel_of_pairwise_cons hx m2
            omega
      subst e
      rw [ih (List.Perm.cons_inv hp) (List.pairwise_cons.mp hx).2 (List.pairwise_cons.mp hy).2]
def srtD : List D → Option D
  | [.lst ds] => (intsL ds).bind fun ns => if ns.length < 64 then some (.lst ((sortI ns).map D.int)) else none
  | _ => none
theorem v_srtN : OpCN K (rSorted K) srtD := by
  intro F H xs ds z Q s r ez q
  unfold srtD at ez
  split at ez
  · rename_i ds
    cases h : intsL ds with
    | none => rw [h] at ez; cases ez
    | some ns =>
      rw [h] at ez
      replace ez : (if ns.length < 64 then some (D.lst ((sortI ns).map D.int)) else none) = some z := ez
      split at ez
      · rename_i hz
        cases ez
        cases r with
        | cons a b =>
          cases b
          rw [intsL_eq h] at a
          obtain ⟨p, vs, rfl, h1, h2⟩ := a.lst s
          rw [h2.ints] at h1
          refine ⟨p, ns, rfl, .inl (.inl h1), hz, fun ns' l hp hs hn => ?_⟩
          have e : ns' = sortI ns := sorted_one (hp.trans (sortI_perm ns).symm) hs (sortI_sorted ns)
          subst e
          exact q.lst (repA_ints _) hn
      · cases ez
  · cases ez
end
/-- repr, where none is under way -/
def rRepr (K : PySem.W.Frag) : List V → Hp → VK → Prop := fun xs H Q => ∃ v d, xs = [v] ∧ Dp K H v d ∧ d.canLay0 = true ∧ d.depth ≤ 40 ∧ d.showable = true ∧ d.shown.length ≤ sizeLine ∧ Q (.str d.shown) H
theorem call_repr {X : Cx} (hg : X.A.guards = some []) (hu : X.A.units + 64 < cLine) : CallR X (.builtin "repr") (rRepr X.K) := by
  intro pins s σ H xs us Q I r h
  obtain ⟨v, d, rfl, hd, hl, hp, hs, hz, q⟩ := h
  obtain ⟨u, rfl, rv⟩ := vals1 r
  obtain ⟨as, rd⟩ := Dp.reads I d v u hd rv
  cases d with
  | none => cases hd; cases rv; exact PySem.P.repr_of_none ⟨.str "None", H, I.tok _, ⟨_, rfl⟩, by simpa [PyData.shown] using q⟩
  | bool b => cases hd; cases rv; exact PySem.P.repr_of_bool ⟨.str _, H, I.tok _, ⟨_, rfl⟩, by simpa [PyData.shown] using q⟩
  | int i =>
    cases hd
    obtain ⟨t, rfl⟩ := rv
    exact PySem.P.repr_of_int (by simpa [PyData.showable] using hs) ⟨.str _, H, I.tok _, ⟨_, rfl⟩, by simpa [PyData.shown] using q⟩
  | str x =>
    cases hd
    obtain ⟨t, rfl⟩ := rv
    exact PySem.P.repr_of_str ⟨.str _, H, I.tok _, ⟨_, rfl⟩, by simpa [PyData.shown] using q⟩ (by simpa [PyData.shown] using hz)
  | dict kvs => cases hd
  | list ds =>
    cases hd with
    | lst h1 h2 =>
      cases rv
      exact repr_of_reads' rd hs (PyData.noDict_hsm (PyData.hasDict_of_canLay _ hl)) hg (by omega) (fun _ _ e => e) (fun h' u tk k => ⟨.str _, H, I.kept k, ⟨_, rfl⟩, q⟩) hz
  | tuple ds =>
    cases hd with
    | tup h1 h2 =>
      cases rv
      exact repr_of_reads' rd hs (PyData.noDict_hsm (PyData.hasDict_of_canLay _ hl)) hg (by omega) (fun _ _ e => e) (fun h' u tk k => ⟨.str _, H, I.kept k, ⟨_, rfl⟩, q⟩) hz
section
variable {K : PySem.W.Frag}
def okShow (p : PyData) : Prop := p.canLay0 = true ∧ p.depth ≤ 40 ∧ p.showable = true ∧ p.shown.length ≤ sizeLine
instance (p : PyData) : Decidable (okShow p) := by unfold okShow; exact inferInstance
def reprD : List D → Option D
  | [d] => match d.py with
    | some p => if okShow p then some (.str p.shown) else none
    | none => none
  | _ => none
theorem v_repr : OpC K (rRepr K) reprD := by
  intro F H xs ds z Q s r ez q
  unfold reprD at ez
  split at ez
  · split at ez
    · rename_i d p h
      split at ez
      · rename_i ho
        cases ez
        cases r with
        | cons a b =>
          cases b
          exact ⟨_, p, rfl, a.dp s h, ho.1, ho.2.1, ho.2.2.1, ho.2.2.2, q.val (.str _)⟩
      · cases ez
    · cases ez
  · cases ez
end
end Cl

set_option Elab.async false
set_option linter.all false
set_option maxRecDepth 100000
set_option maxHeartbeats 4000000
set_option autoImplicit false
/-! Cl, part G: what is walked, stores into objects, methods of lists, instances. -/
namespace Cl
open PySem PySem.Spec L2

/-! ### what is walked -/
def intsFrom (lo c : Int) (n : Nat) : List D := (List.range n).map fun i => .int (lo + (i : Nat) * c)
theorem intsFrom_at {lo c : Int} {n i : Nat} (h : i < n) : (intsFrom lo c n)[i]? = some (.int (lo + (i : Nat) * c)) := by
  unfold intsFrom
  rw [List.getElem?_map, List.getElem?_range h]; rfl
theorem intsFrom_length (lo c : Int) (n : Nat) : (intsFrom lo c n).length = n := by unfold intsFrom; rw [List.length_map, List.length_range]
def sml (i : Int) : Prop := -(2 ^ 62) ≤ i ∧ i < 2 ^ 62
instance (i : Int) : Decidable (sml i) := by unfold sml; exact inferInstance
def rng1 : List D → Option (List D)
  | [.int j] => if sml j then some (intsFrom 0 1 j.toNat) else none
  | _ => none
def rng2 : List D → Option (List D)
  | [.int i, .int j] => if sml i ∧ sml j then some (intsFrom i 1 (j - i).toNat) else none
  | _ => none
def rngOk (i j c : Int) : Prop := c ≠ 0 ∧ c.natAbs < 1073741824 ∧ Builtin.Range.small i j c = true ∧ Builtin.Range.rangeSize i j c = ((Builtin.Range.rangeSize i j c).toNat : Nat)
instance (i j c : Int) : Decidable (rngOk i j c) := by unfold rngOk; exact inferInstance
def rng3 : List D → Option (List D)
  | [.int i, .int j, .int c] => if rngOk i j c then some (intsFrom i c (Builtin.Range.rangeSize i j c).toNat) else none
  | _ => none
section
variable {X : Cx} {tg e a b c : Expr} {p pos : Pos} {fa : CS → Rs (List Av)} {f : CS → Rs D} {x : Str}
theorem src_itr {K : PySem.W.Frag} {F : Hp} (lo : Int) (n : Nat) : SrcOk K (Itr lo n) F (intsFrom lo 1 n) := fun F1 H1 s1 s2 i => by
  rw [intsFrom_length]
  refine ⟨fun h => ⟨h, fun x H2 ⟨e1, e2⟩ => ?_⟩, fun h => h⟩
  subst e1; subst e2
  exact ⟨_, F1, intsFrom_at h, .refl, by rw [Int.mul_one]; exact .int _⟩
theorem src_itc {K : PySem.W.Frag} {F : Hp} (lo k : Int) (n : Nat) : SrcOk K (Itc lo k n) F (intsFrom lo k n) := fun F1 H1 s1 s2 i => by
  rw [intsFrom_length]
  refine ⟨fun h => ⟨h, fun x H2 ⟨e1, e2⟩ => ?_⟩, fun h => h⟩
  subst e1; subst e2
  exact ⟨_, F1, intsFrom_at h, .refl, .int _⟩
theorem rg_in {K : PySem.W.Frag} {B : Bs} {W : WX} {σ : L2.St} {H : Hp} {R : It → Hp → Prop} {op : List D → Option (List D)} {Q : List V → Hp → Prop} (h : tI K B W (caE fa op) σ H R)
    (k : ∀ {F H : Hp} {xs : List V} {ds items : List D}, Sub F H → RepHs K F H xs ds → op ds = some items → (∀ J, SrcOk K J F items → R J H) → Q xs H) : tA K B W fa σ H Q := by
  obtain ⟨F, s, r, p⟩ := h
  exact ca_in r p fun xs ds z F' H' s' su r' rx ez q => k r'.sub rx ez fun J src => q J F' H' su r' src
theorem si_range1 (hg : Gl X "range") (hm : X.mg "range" = none) (ha : SA X [a] fa) (hs : ∀ env, starEach [a] env = [(false, eval a env)] := by intro _; rfl) : SI X tg (.Call (.Name "range" p) [a] [] pos) (caE fa rng1) := by
  refine ⟨fun B pn xe W tk => piW (pi_range1 (X := X.tr pn xe) hg hm (ha.run B pn xe W tk) (hs _)) fun σ H R h => rg_in h fun {F H xs ds items} su rx e q => ?_⟩
  unfold rng1 at e
  split at e
  · split at e
    · rename_i hz
      cases e
      cases rx with
      | cons r rr => cases rr; cases r.int; exact ⟨_, rfl, hz.1, hz.2, q _ (src_itr _ _)⟩
    · cases e
  · cases e
theorem si_range2 (hg : Gl X "range") (hm : X.mg "range" = none) (ha : SA X [a, b] fa) (hs : ∀ env, starEach [a, b] env = [(false, eval a env), (false, eval b env)] := by intro _; rfl) (hs2 : ∀ env, starEach [b] env = [(false, eval b env)] := by intro _; rfl) :
    SI X tg (.Call (.Name "range" p) [a, b] [] pos) (caE fa rng2) := by
  refine ⟨fun B pn xe W tk => piW (pi_range2 (X := X.tr pn xe) hg hm (ha.run B pn xe W tk) (hs _) (hs2 _)) fun σ H R h => rg_in h fun {F H xs ds items} su rx e q => ?_⟩
  unfold rng2 at e
  split at e
  · split at e
    · rename_i hz
      cases e
      cases rx with
      | cons r rr =>
        cases rr with
        | cons r' rr => cases rr; cases r.int; cases r'.int; exact ⟨_, _, rfl, ⟨hz.1.1, hz.1.2, hz.2.1, hz.2.2⟩, q _ (src_itr _ _)⟩
    · cases e
  · cases e
theorem si_range3 (hg : Gl X "range") (hm : X.mg "range" = none) (ha : SA X [a, b, c] fa) (hs : ∀ env, starEach [a, b, c] env = (false, eval a env) :: starEach [b, c] env := by intro _; rfl)
    (hpl : ∀ env, (backTo pos (starEach [b, c] env)).any (·.1) = false := by intro _; rfl) : SI X tg (.Call (.Name "range" p) [a, b, c] [] pos) (caE fa rng3) := by
  refine ⟨fun B pn xe W tk => piW (pi_range3 (X := X.tr pn xe) hg hm (ha.run B pn xe W tk) (hs _) (hpl _)) fun σ H R h => rg_in h fun {F H xs ds items} su rx e q => ?_⟩
  unfold rng3 at e
  split at e
  · split at e
    · rename_i hz
      cases e
      cases rx with
      | cons r rr =>
        cases rr with
        | cons r' rr =>
          cases rr with
          | cons r'' rr => cases rr; cases r.int; cases r'.int; cases r''.int; exact ⟨_, _, _, _, rfl, hz, q _ (src_itc _ _ _)⟩
    · cases e
  · cases e
/-- the items of a list, of a tuple -/
def sqE (f : CS → Rs D) : CS → Rs (List D) := fun s => (f s).bind fun d s => match d.items with
  | some ds => .ok ds s
  | none => .bad
theorem RepA.turn {K : PySem.W.Frag} {F : Hp} {vs : List V} {ds : List D} (h : RepA K F vs ds) {i : Nat} : (i < ds.length → ∃ v, vs[i]? = some v) ∧ (∀ v, vs[i]? = some v → ∃ d, ds[i]? = some d ∧ Rep K F v d) :=
  ⟨fun hi => by rw [← h.len] at hi; exact ⟨_, List.getElem?_eq_getElem hi⟩, fun v e => h.getV e⟩
theorem src_lst {K : PySem.W.Frag} {F : Hp} {a : Addr} {vs : List V} {ds : List D} (h : SqL K F a vs) (r : RepA K F vs ds) : SrcOk K (Itl K a) F ds := fun F1 H1 s1 s2 i => by
  have hq : SqL K H1 a vs := s2.sqL (s1.sqL h)
  refine ⟨fun hi => ?_, fun hi => ⟨vs, hq, by rw [r.len]; exact hi⟩⟩
  obtain ⟨v, hv⟩ := r.turn.1 hi
  refine ⟨⟨vs, v, hq, hv⟩, fun x H2 ⟨e1, e2⟩ => ?_⟩
  subst e1
  obtain ⟨d, h1, h2⟩ := r.turn.2 x (e2 vs hq)
  exact ⟨d, F1, h1, .refl, h2.mono s1⟩
theorem src_tup {K : PySem.W.Frag} {F : Hp} {a : Addr} {vs : List V} {ds : List D} (h : SqT K F a vs) (r : RepA K F vs ds) : SrcOk K (Itt K a) F ds := fun F1 H1 s1 s2 i => by
  have hq : SqT K H1 a vs := s2.sqT (s1.sqT h)
  refine ⟨fun hi => ?_, fun hi => ⟨vs, hq, by rw [r.len]; exact hi⟩⟩
  obtain ⟨v, hv⟩ := r.turn.1 hi
  refine ⟨⟨vs, v, hq, hv⟩, fun x H2 ⟨e1, e2⟩ => ?_⟩
  subst e1
  obtain ⟨d, h1, h2⟩ := r.turn.2 x (e2 vs hq)
  exact ⟨d, F1, h1, .refl, h2.mono s1⟩
/-- what stands frozen for a list or a tuple -/
theorem Rep.seqF {K : PySem.W.Frag} {F : Hp} {v : V} {d : D} {ds : List D} (h : Rep K F v d) (e : d.items = some ds) : ∃ a vs, v = .ref a ∧ (SqL K F a vs ∨ SqT K F a vs) ∧ RepA K F vs ds := by
  cases h with
  | lst h1 h2 => cases e; exact ⟨_, _, rfl, .inl (.inl (.inl h1)), h2⟩
  | scr h1 h2 => cases e; exact ⟨_, _, rfl, .inl h1, h2⟩
  | tup h1 h2 => cases e; exact ⟨_, _, rfl, .inr h1, h2⟩
  | _ => cases e
theorem pi_or {t u : TI} (h1 : PI X tg e t) (h2 : PI X tg e u) : PI X tg e (fun σ H R => t σ H R ∨ u σ H R) := ⟨fun pins s σ H R I h => h.elim (h1.run pins s σ H R I) (h2.run pins s σ H R I)⟩
/-- of either kind: the kind is known only behind the value -/
def iSeq (K : PySem.W.Frag) (te : TE) : TI := fun σ H R => te σ H fun x H1 => ∃ a, x = .ref a ∧ ((∃ xs, SqL K H1 a xs ∧ R (Itl K a) H1) ∨ (∃ xs, SqT K H1 a xs ∧ R (Itt K a) H1))
theorem pi_seq {te : TE} (he : PE X e te) : PI X tg e (iSeq X.K te) := by
  constructor
  intro pins s σ H R I h
  apply thn (he.run pins s σ H _ I h)
  rintro v s1 ⟨x, H1, I1, r1, a, ex, hs⟩
  subst ex
  cases r1
  have fresh : ∀ b ∈ [s1.heap.objs.size], FpOk X pins H1 b := fun b hb => by
    obtain rfl : b = s1.heap.objs.size := by simpa using hb
    exact I1.fpOk (Nat.le_refl _) (I1.hok.fresh (Nat.le_refl _))
  rcases hs with ⟨xs, hq, q⟩ | ⟨xs, hq, q⟩
  · obtain ⟨us, ru, pl, _⟩ := I1.list hq
    exact wpAny_pyIter_list pl.isList ⟨_, _, _, Itl X.K a, H1, rfl, I1.kept (t' := s1.toks) fun b o => Heap.get?_push_of_some _, turn_list a _, ⟨_, Heap.get?_push_size _ rfl, rfl, rfl⟩, fresh, q⟩
  · obtain ⟨us, ru, pl, _⟩ := I1.tuple hq
    exact wpAny_pyIter_tuple (show s1.heap.IsTuple a us.toArray from pl) ⟨_, _, _, Itt X.K a, H1, rfl, I1.kept (t' := s1.toks) fun b o => Heap.get?_push_of_some _, turn_tuple a _, ⟨_, Heap.get?_push_size _ rfl, rfl, rfl⟩, fresh, q⟩
theorem si_seq (he : SD X e f) : SI X tg e (sqE f) := by
  refine ⟨fun B pn xe W tk => piW (pi_seq (he.run B pn xe W tk)) fun σ H R ⟨F, s, r, p⟩ => ⟨F, s, r, p.bind.mono fun d s1 p1 v F1 H1 su r1 q => ?_⟩⟩
  split at p1
  · rename_i ds hd
    obtain ⟨a, vs, rfl, h1, h2⟩ := q.seqF hd
    refine ⟨a, rfl, h1.imp (fun h => ⟨vs, r1.sub.sqL h, p1 _ F1 H1 su r1 (src_lst h h2)⟩) (fun h => ⟨vs, r1.sub.sqT h, p1 _ F1 H1 su r1 (src_tup h h2)⟩)⟩
  · exact p1.elim
/-- zip of two -/
def zipD : List D → List D → List D
  | d :: ds, e :: es => .tup [d, e] :: zipD ds es
  | _, _ => []
theorem zipD_at : ∀ {ds es : List D} {i : Nat} {d e : D}, ds[i]? = some d → es[i]? = some e → (zipD ds es)[i]? = some (.tup [d, e])
  | [], _, _, _, _, h, _ => by simp at h
  | _ :: _, [], _, _, _, _, h => by simp at h
  | d :: ds, e :: es, 0, _, _, h1, h2 => by simp at h1 h2; subst h1; subst h2; rfl
  | d :: ds, e :: es, i + 1, _, _, h1, h2 => by
    show (zipD ds es)[i]? = _
    exact zipD_at (by simpa using h1) (by simpa using h2)
theorem zipD_length : ∀ ds es : List D, (zipD ds es).length = min ds.length es.length
  | [], es => by simp [zipD]
  | d :: ds, [] => by simp [zipD]
  | d :: ds, e :: es => by simp [zipD, zipD_length ds es]
theorem src_zip {K : PySem.W.Frag} {F F1 H1 H2 : Hp} {x : V} {vs ws : List V} {ds es : List D} (s1 : Sub F F1) (s2 : Sub F1 H1) (r : RepA K F vs ds) (r' : RepA K F ws es) {i : Nat}
    (y : ∃ T u v, x = .ref T ∧ H1 T = none ∧ H2 = upd H1 T (.tup [u, v]) ∧ vs[i]? = some u ∧ ws[i]? = some v) : ∃ d F2, (zipD ds es)[i]? = some d ∧ GrowT F1 H1 F2 H2 ∧ Rep K F2 x d := by
  obtain ⟨T, u, v, rfl, hn, rfl, e1, e2⟩ := y
  obtain ⟨d, h1, h2⟩ := r.getV e1
  obtain ⟨e, h3, h4⟩ := r'.getV e2
  have su := sub_new s2 (o := HO.tup [u, v]) hn
  exact ⟨_, _, zipD_at h1 h3, .new hn, .tup (.inl (.inl upd_same)) (.cons ((h2.mono s1).mono su) (.cons ((h4.mono s1).mono su) .nil))⟩
theorem src_zipL {K : PySem.W.Frag} {F : Hp} {a b : Addr} {vs ws : List V} {ds es : List D} (h : SqL K F a vs) (r : RepA K F vs ds) (h' : SqL K F b ws) (r' : RepA K F ws es) : SrcOk K (Itz K a b) F (zipD ds es) := fun F1 H1 s1 s2 i => by
  have hq : SqL K H1 a vs := s2.sqL (s1.sqL h)
  have hq' : SqL K H1 b ws := s2.sqL (s1.sqL h')
  rw [zipD_length, ← r.len, ← r'.len]
  refine ⟨fun hi => ⟨⟨vs, ws, vs[i]'(by omega), ws[i]'(by omega), hq, hq', List.getElem?_eq_getElem _, List.getElem?_eq_getElem _⟩, fun x H2 ⟨T, u, v, e1, e2, e3, e4, e5⟩ => src_zip s1 s2 r r' ⟨T, u, v, e1, e2, e3, e4 _ hq, e5 _ hq'⟩⟩, fun hi => ⟨vs, ws, hq, hq', ?_⟩⟩
  omega
theorem src_zipT {K : PySem.W.Frag} {F : Hp} {a b : Addr} {vs ws : List V} {ds es : List D} (h : SqT K F a vs) (r : RepA K F vs ds) (h' : SqT K F b ws) (r' : RepA K F ws es) : SrcOk K (RZ.ItzT K a b) F (zipD ds es) := fun F1 H1 s1 s2 i => by
  have hq : SqT K H1 a vs := s2.sqT (s1.sqT h)
  have hq' : SqT K H1 b ws := s2.sqT (s1.sqT h')
  rw [zipD_length, ← r.len, ← r'.len]
  refine ⟨fun hi => ⟨⟨vs, ws, vs[i]'(by omega), ws[i]'(by omega), hq, hq', List.getElem?_eq_getElem _, List.getElem?_eq_getElem _⟩, fun x H2 ⟨T, u, v, e1, e2, e3, e4, e5⟩ => src_zip s1 s2 r r' ⟨T, u, v, e1, e2, e3, e4 _ hq, e5 _ hq'⟩⟩, fun hi => ⟨vs, ws, hq, hq', ?_⟩⟩
  omega
def zipO : D → D → Option (List D)
  | .tup ds, .tup es => some (zipD ds es)
  | .lst ds, .lst es => some (zipD ds es)
  | _, _ => none
def zpE (f g : CS → Rs D) : CS → Rs (List D) := fun s => (f s).bind fun d s => (g s).bind fun e s => match zipO d e with
  | some items => .ok items s
  | none => .bad
theorem Rep.lstF {K : PySem.W.Frag} {F : Hp} {v : V} {ds : List D} (h : Rep K F v (.lst ds)) : ∃ a vs, v = .ref a ∧ SqL K F a vs ∧ RepA K F vs ds := by
  cases h with | lst h1 h2 => exact ⟨_, _, rfl, .inl (.inl h1), h2⟩
theorem Rep.tupF {K : PySem.W.Frag} {F : Hp} {v : V} {ds : List D} (h : Rep K F v (.tup ds)) : ∃ a vs, v = .ref a ∧ SqT K F a vs ∧ RepA K F vs ds := by
  cases h with | tup h1 h2 => exact ⟨_, _, rfl, h1, h2⟩
theorem si_zip {g : CS → Rs D} {elts : List Expr} {kk : Nat} {tpos : Pos} (hg : Gl X "zip") (hm : X.mg "zip" = none) (ha : SD X a f) (hb : SD X b g) (hs : ∀ env, starEach [a, b] env = (false, eval a env) :: starEach [b] env := by intro _; rfl)
    (hs2 : ∀ env, starEach [b] env = (false, eval b env) :: starEach [] env := by intro _; rfl) (hpl : ∀ env, (backTo pos (starEach [b] env)).any (·.1) = false := by intro _; rfl) : SI X (.Tuple elts kk tpos) (.Call (.Name "zip" p) [a, b] [] pos) (zpE f g) := by
  refine ⟨fun B pn xe W tk => piW (RZ.pi_zipA (X := X.tr pn xe) hg hm (pa_cons (ha.run B pn xe W tk) (pa_cons (hb.run B pn xe W tk) pa_nil (hs2 _)) (hs _)) (hs _) (hpl _)) fun σ H R ⟨F, s, r, p⟩ => ?_⟩
  refine ⟨F, s, r, p.bind.mono fun d s1 p1 v F1 H1 su1 r1 q1 => ⟨F1, s1, r1, p1.bind.mono fun e s2 p2 w F2 H2 su2 r2 q2 => ?_⟩⟩
  have su := su1.trans su2
  unfold zipO at p2
  split at p2
  · rename_i items hz
    split at hz
    · cases hz
      obtain ⟨a1, vs, rfl, h1, h2⟩ := (q1.mono su2).tupF
      obtain ⟨b1, ws, rfl, h3, h4⟩ := q2.tupF
      exact ⟨a1, b1, vs, ws, rfl, .inr ⟨r2.sub.sqT h1, r2.sub.sqT h3, p2 _ F2 H2 su r2 (src_zipT h1 h2 h3 h4)⟩⟩
    · cases hz
      obtain ⟨a1, vs, rfl, h1, h2⟩ := (q1.mono su2).lstF
      obtain ⟨b1, ws, rfl, h3, h4⟩ := q2.lstF
      exact ⟨a1, b1, vs, ws, rfl, .inl ⟨r2.sub.sqL h1, r2.sub.sqL h3, p2 _ F2 H2 su r2 (src_zipL h1 h2 h3 h4)⟩⟩
    · cases hz
  · exact p2.elim
/-- the letters of a text -/
def chD (x : Str) : List D := (List.range x.cps.size).map fun i => .str ⟨#[x.cps[i]!]⟩
def stE (f : CS → Rs D) : CS → Rs (List D) := fun s => (f s).bind fun d s => match d with
  | .str x => .ok (chD x) s
  | _ => .bad
theorem si_str (he : SD X e f) : SI X tg e (stE f) := by
  refine ⟨fun B pn xe W tk => piW (pi_str (he.run B pn xe W tk)) fun σ H R ⟨F, s, r, p⟩ => ⟨F, s, r, p.bind.mono fun d s1 p1 v F1 H1 su r1 q => ?_⟩⟩
  split at p1
  · rename_i x
    cases q
    refine ⟨x, rfl, p1 _ F1 H1 su r1 fun F2 H2 s1 s2 i => ?_⟩
    unfold chD
    rw [List.length_map, List.length_range]
    refine ⟨fun hi => ⟨hi, fun y H3 ⟨e1, c, e2, e3⟩ => ?_⟩, fun hi => hi⟩
    subst e1; subst e3
    refine ⟨.str ⟨#[c]⟩, F2, ?_, .refl, .str _⟩
    rw [List.getElem?_map, List.getElem?_range hi]
    have hi' : i < x.cps.size := hi
    have : x.cps[i]! = c := by
      rw [Array.getElem?_eq_getElem hi'] at e2
      rw [getElem!_pos x.cps i hi']
      exact Option.some.inj e2
    simp [this]
  · exact p1.elim
end
end Cl

set_option Elab.async false
set_option linter.all false
set_option maxRecDepth 100000
set_option maxHeartbeats 4000000
set_option autoImplicit false
/-! Cl, part H: stores into objects, methods of lists. -/
namespace Cl
open PySem PySem.Spec L2

/-! ### a hot slot's object -/
def lstAt (s : CS) (i : Nat) : Option (List D) := match s[i]? with
  | some (some (.ow (.lst ds))) => some ds
  | some (some (.le (.lst ds))) => some ds
  | _ => none
def putAt (i : Nat) (d : D) (s : CS) : CS := match s[i]? with
  | some (some y) => s.set i (some (y.put d))
  | _ => s
theorem lstAt_some {s : CS} {i : Nat} {ds : List D} (h : lstAt s i = some ds) : Hot s i (.lst ds) ∧ ∃ y, s[i]? = some (some y) := by
  unfold lstAt at h
  split at h
  · rename_i e; cases h; exact ⟨.inl e, _, e⟩
  · rename_i e; cases h; exact ⟨.inr e, _, e⟩
  · cases h
theorem RepA.dropLast {K : PySem.W.Frag} {F : Hp} {vs : List V} {ds : List D} (h : RepA K F vs ds) : RepA K F vs.dropLast ds.dropLast := by
  have := h.take (vs.length - 1)
  rw [List.dropLast_eq_take, List.dropLast_eq_take, ← h.len]
  exact this
theorem RepA.erase {K : PySem.W.Frag} {F : Hp} : ∀ {vs : List V} {ds : List D} (i : Nat), RepA K F vs ds → RepA K F (vs.eraseIdx i) (ds.eraseIdx i)
  | _, _, _, .nil => .nil
  | _, _, 0, .cons _ r => r
  | _, _, i + 1, .cons h r => .cons h (RepA.erase i r)
section
variable {K : PySem.W.Frag} {B : Bs} {F : Hp} {s : CS} {σ : L2.St} {H : Hp}
/-- the list of a hot slot is written -/
theorem Rel.wrL (r : Rel K B F s σ H) {i : Nat} {ds : List D} (hx : lstAt s i = some ds) : ∃ a vs, σ[i]? = some (some (.ref a)) ∧ H a = some (.lst vs) ∧ RepA K F vs ds ∧ F a = none ∧
    ∀ ws es, RepA K F ws es → Rel K B F (putAt i (.lst es) s) σ (upd H a (.lst ws)) := by
  obtain ⟨h2, y, h1⟩ := lstAt_some hx
  obtain ⟨a, h3, ⟨vs, h6, h7⟩, h5⟩ := r.hot i _ h2
  refine ⟨a, vs, h3, h6, h7, h5, fun ws es hw => ?_⟩
  unfold putAt
  rw [h1]
  exact r.write h1 h2 h3 (fun b hb => upd_ne hb) ⟨ws, upd_same, hw⟩
end
section
variable {X : Cx} {x : Str} {p pos apos cpos p2 : Pos} {e o : Expr} {fe fi : CS → Rs D} {i : Nat}
/-! ### x[i] = .. -/
def setIx (k : Int) (d : D) (ds : List D) : Option (List D) := (ixN ds.length k).map fun j => ds.set j d
def ixG (i : Nat) (fi : CS → Rs D) : TgC := fun d s => match lstAt s i with
  | none => none
  | some _ => match fi s with
    | .ok (.int k) s1 => (lstAt s1 i).bind fun ds => (setIx k d ds).map fun es => putAt i (.lst es) s1
    | _ => none
theorem sg_sub (i : Nat) (hi : SD X e fi) (hN : X.N[i]? = some x := by rfl) (hv : Vis X.env.scope x := by first | exact Or.inl rfl | exact Or.inr (Or.inl rfl) | exact Or.inr (Or.inr rfl)) (hd : (x == ("__debug__" : Str)) = false := by decide)
    (hcd : (x == ("__classdict__" : Str)) = false := by decide) (ha : ∀ env v, assign (.Subscript (.Name x p) e pos) env v = (do
      let ov ← holding [v] (eval (.Name x p) env)
      let iv ← holding [v, ov] (eval e env)
      standAt pos
      holding [v, ov, iv] (setItem ov iv v)
      release [v, ov, iv] []) := by intro _ _; rfl) : SG X (.Subscript (.Name x p) e pos) [] (ixG i fi) := by
  refine ⟨fun B pn xe => pgW (pg_sub (X := X.tr pn xe) (pe_var (X := X.tr pn xe) hN hv hd hcd) (hi.run B pn xe W0 takes0) set_list (ha _)) fun v σ H Q ⟨F, s, d, s', r, q, e, k⟩ => ?_⟩
  unfold ixG at e
  cases h0 : lstAt s i with
  | none => rw [h0] at e; cases e
  | some x0 =>
    rw [h0] at e
    dsimp only at e
    obtain ⟨a, _, g1, _⟩ := r.wrL h0
    refine ⟨.ref a, g1, F, s, r, ?_⟩
    split at e
    · rename_i kk s1 e1
      rw [e1]
      cases h1 : lstAt s1 i with
      | none => rw [h1] at e; cases e
      | some ds =>
        rw [h1] at e
        replace e : (setIx kk d ds).map (fun es => putAt i (.lst es) s1) = some s' := e
        unfold setIx at e
        cases h4 : ixN ds.length kk with
        | none => rw [h4] at e; cases e
        | some j =>
          rw [h4] at e; cases e
          intro u F1 H1 su r1 q1
          cases q1
          obtain ⟨b, vs, g2, g3, g4, _, g5⟩ := r1.wrL h1
          rw [g1] at g2; cases g2
          exact ⟨a, vs, kk, j, rfl, rfl, g3, by rw [g4.len]; exact h4, k σ F1 _ ⟨rfl, fun _ _ => rfl⟩ su (g5 _ _ (g4.set (q.mono su) j))⟩
    · cases e
/-! ### methods of lists -/
/-- x.m(e) that writes the list at x and answers -/
def mtE (i : Nat) (fe : CS → Rs D) (g : D → List D → Option (D × List D)) : CS → Rs D := fun s => match lstAt s i with
  | none => .bad
  | some _ => (fe s).bind fun d s => match lstAt s i with
    | none => .bad
    | some ds => match g d ds with
      | none => .bad
      | some (z, es) => .ok z (putAt i (.lst es) s)
/-- .. x.m() -/
def mt0E (i : Nat) (g : List D → Option (D × List D)) : CS → Rs D := fun s => match lstAt s i with
  | none => .bad
  | some ds => match g ds with
    | none => .bad
    | some (z, es) => .ok z (putAt i (.lst es) s)
/-- the method's meaning -/
def MtV (K : PySem.W.Frag) (r : V → List V → Hp → VK → Prop) (g : D → List D → Option (D × List D)) : Prop :=
  ∀ {F H : Hp} {a : Addr} {vs : List V} {v : V} {d z : D} {ds es : List D} {Q : VK}, Sub F H → H a = some (.lst vs) → RepA K F vs ds → Rep K F v d → g d ds = some (z, es) → F a = none →
    (∀ u ws, RepA K F ws es → Rep K F u z → Q u (upd H a (.lst ws))) → r (.ref a) [v] H Q
def Mt0V (K : PySem.W.Frag) (r : V → List V → Hp → VK → Prop) (g : List D → Option (D × List D)) : Prop :=
  ∀ {F H : Hp} {a : Addr} {vs : List V} {z : D} {ds es : List D} {Q : VK}, H a = some (.lst vs) → RepA K F vs ds → g ds = some (z, es) →
    (∀ u ws, RepA K F ws es → Rep K F u z → Q u (upd H a (.lst ws))) → r (.ref a) [] H Q
theorem sd_mt {id : String} {nm : Str} {rr : V → List V → Hp → VK → Prop} {g : D → List D → Option (D × List D)} (i : Nat) (hmt : ∀ pn xe, MtM (X.tr pn xe) id rr) (hv : MtV X.K rr g) (slot : Slot "list" nm id) (hty : typeOf (.builtin id) = pure (.type "method_descriptor"))
    (he : SD X e fe) (hN : X.N[i]? = some x := by rfl) (hvi : Vis X.env.scope x := by first | exact Or.inl rfl | exact Or.inr (Or.inl rfl) | exact Or.inr (Or.inr rfl)) (hd : (x == ("__debug__" : Str)) = false := by decide)
    (hcd : (x == ("__classdict__" : Str)) = false := by decide) (hbase : ∀ env, attributeBase (.Name x p) nm env (eval (.Name x p) env) = eval (.Name x p) env := by intro _; rfl)
    (hfew : ∀ env, ((backTo cpos (starEach [e] env)).all (fun x => !x.1) && (backToKw cpos (keywordEach [] env)).all (fun x => x.1.isSome) && decide ([e].length + ([] : List Keyword).length + (if ([] : List Keyword).isEmpty then 0 else 1) < 30)) = true := by intro _; rfl)
    (hline : (apos.endLine == cpos.line) = true := by rfl) (hs : ∀ env, starEach [e] env = (false, eval e env) :: starEach [] env := by intro _; rfl) :
    SD X (.Call (.Attribute (.Name x p) nm apos) [e] [] cpos) (mtE i fe g) := by
  refine ⟨fun B pn xe W tk => peW (pe_bm (X := X.tr pn xe) PySem.F.plainAttrs_list slot hty (hmt pn xe) (pe_var (X := X.tr pn xe) hN hvi hd hcd) (pa_cons (he.run B pn xe W tk) pa_nil (hs _)) (hbase _) (hfew _) hline (hs _) rfl) fun σ H Q ⟨F, s, r, q⟩ => ?_⟩
  unfold mtE at q
  cases h0 : lstAt s i with
  | none => rw [h0] at q; exact q.elim
  | some x0 =>
    rw [h0] at q
    obtain ⟨a, ws, g1, g0, _⟩ := r.wrL h0
    have q : Post X.K B σ W (AnsD X.K B F σ Q) ((fe s).bind fun d s => match lstAt s i with
      | none => .bad
      | some ds => match g d ds with
        | none => .bad
        | some (z, es) => .ok z (putAt i (.lst es) s)) := q
    refine ⟨.ref a, g1, .inl ⟨rfl, ws, .inl (.inl g0)⟩, F, s, r, q.bind.mono fun d s1 q1 v F1 H1 su r1 rv => ?_⟩
    cases h1 : lstAt s1 i with
    | none => rw [h1] at q1; exact q1.elim
    | some ds =>
      rw [h1] at q1
      dsimp only at q1
      cases h3 : g d ds with
      | none => rw [h3] at q1; exact q1.elim
      | some zz =>
        obtain ⟨z, es⟩ := zz
        rw [h3] at q1
        have q1 : AnsD X.K B F σ Q z (putAt i (.lst es) s1) := q1
        obtain ⟨b, vs, g2, g3, g4, g6, g5⟩ := r1.wrL h1
        rw [g1] at g2; cases g2
        exact hv r1.sub g3 g4 rv h3 g6 fun u ws hw hu => q1 u F1 _ su (g5 ws es hw) hu
theorem sd_mt0 {id : String} {nm : Str} {rr : V → List V → Hp → VK → Prop} {g : List D → Option (D × List D)} (i : Nat) (hmt : ∀ pn xe, MtM (X.tr pn xe) id rr) (hv : Mt0V X.K rr g) (slot : Slot "list" nm id) (hty : typeOf (.builtin id) = pure (.type "method_descriptor"))
    (hN : X.N[i]? = some x := by rfl) (hvi : Vis X.env.scope x := by first | exact Or.inl rfl | exact Or.inr (Or.inl rfl) | exact Or.inr (Or.inr rfl)) (hd : (x == ("__debug__" : Str)) = false := by decide)
    (hcd : (x == ("__classdict__" : Str)) = false := by decide) (hbase : ∀ env, attributeBase (.Name x p) nm env (eval (.Name x p) env) = eval (.Name x p) env := by intro _; rfl)
    (hline : (apos.endLine == cpos.line) = true := by rfl) : SD X (.Call (.Attribute (.Name x p) nm apos) [] [] cpos) (mt0E i g) := by
  refine ⟨fun B pn xe W tk => peW (pe_bm0 (X := X.tr pn xe) PySem.F.plainAttrs_list slot hty (hmt pn xe) (pe_var (X := X.tr pn xe) hN hvi hd hcd) (hbase _) hline) fun σ H Q ⟨F, s, r, q⟩ => ?_⟩
  unfold mt0E at q
  cases h0 : lstAt s i with
  | none => rw [h0] at q; exact q.elim
  | some ds =>
    rw [h0] at q
    dsimp only at q
    cases h3 : g ds with
    | none => rw [h3] at q; exact q.elim
    | some zz =>
      obtain ⟨z, es⟩ := zz
      rw [h3] at q
      have q : AnsD X.K B F σ Q z (putAt i (.lst es) s) := q
      obtain ⟨a, vs, g1, g3, g4, g6, g5⟩ := r.wrL h0
      exact ⟨.ref a, g1, .inl ⟨rfl, vs, .inl (.inl g3)⟩, hv g3 g4 h3 fun u ws hw hu => q u F _ (.refl _) (g5 ws es hw) hu⟩
end
def apD (d : D) (ds : List D) : Option (D × List D) := if ds.length < sizeLine then some (.non, ds ++ [d]) else none
def exD (d : D) (ds : List D) : Option (D × List D) := match d with
  | .lst es => if ds.length + es.length ≤ sizeLine then some (.non, ds ++ es) else none
  | _ => none
def popD (ds : List D) : Option (D × List D) := match ds[ds.length - 1]? with
  | some z => some (z, ds.dropLast)
  | none => none
def popAtD (d : D) (ds : List D) : Option (D × List D) := match d with
  | .int i => if -(2 ^ 63) ≤ i ∧ i < 2 ^ 63 then (match seqIndex? i ds.length with
    | some k => match ds[k]? with
      | some z => some (z, ds.eraseIdx k)
      | none => none
    | none => none) else none
  | _ => none
section
variable {K : PySem.W.Frag}
theorem v_append : MtV K rAppend apD := by
  intro F H a vs v d z ds es Q s ha r rv e hF q
  unfold apD at e
  split at e
  · rename_i hz
    cases e
    exact ⟨a, vs, v, rfl, rfl, ha, by rw [r.len]; exact hz, q .non _ (r.append (.cons rv .nil)) .non⟩
  · cases e
theorem v_extend : MtV K rExtend exD := by
  intro F H a vs v d z ds es Q s ha r rv e hF q
  unfold exD at e
  split at e
  · split at e
    · rename_i hz
      cases e
      cases rv with
      | @lst b ws _ h1 h2 => exact ⟨a, b, vs, ws, rfl, rfl, ha, s _ _ h1, by rw [r.len, h2.len]; exact hz, q .non _ (r.append h2) .non⟩
    · cases e
  · cases e
theorem v_pop : Mt0V K rPop popD := by
  intro F H a vs z ds es Q ha r e q
  unfold popD at e
  split at e
  · rename_i y hy
    cases e
    rw [← r.len] at hy
    obtain ⟨v, h1, h2⟩ := r.get hy
    exact ⟨a, vs, v, rfl, rfl, ha, h1, q v _ r.dropLast h2⟩
  · cases e
theorem v_popAt : MtV K rPopAt popAtD := by
  intro F H a vs v d z ds es Q s ha r rv e hF q
  unfold popAtD at e
  split at e
  · split at e
    · rename_i hz
      split at e
      · rename_i k hk
        split at e
        · rename_i y hy
          cases e
          cases rv
          obtain ⟨w, h1, h2⟩ := r.get hy
          exact ⟨a, vs, _, k, w, rfl, rfl, ha, hz.1, hz.2, by rw [r.len]; exact hk, h1, q w _ (r.erase k) h2⟩
        · cases e
      · cases e
    · cases e
  · cases e
end
section
variable {X : Cx} {x : Str} {p pos apos cpos : Pos} {e : Expr} {fe : CS → Rs D}
abbrev apE (i : Nat) (fe : CS → Rs D) := mtE i fe apD
abbrev exE (i : Nat) (fe : CS → Rs D) := mtE i fe exD
end
end Cl

set_option Elab.async false
set_option linter.all false
set_option maxRecDepth 100000
set_option maxHeartbeats 4000000
set_option autoImplicit false
/-! Cl, part I: instances, isinstance, ranges as tuples, pairs of new objects. -/
namespace Cl
open PySem PySem.Spec L2

/-! ### attributes -/
theorem RepH.ins {K : PySem.W.Frag} {F H : Hp} {v : V} {c : Str} {fs : List (Str × D)} (s : Sub F H) (h : RepH K F H v (.ins c fs)) : ∃ a dx fvs, v = .ref a ∧ H a = some (.ins (He.ga K c) dx fvs) ∧ RepF K F fvs fs := by
  rcases h with h | ⟨a, rfl, ⟨dx, fvs, h1, h2⟩, _⟩
  · cases h with
    | ins h1 h2 => exact ⟨_, _, _, rfl, s _ _ h1, h2⟩
  · exact ⟨a, dx, fvs, rfl, h1, h2⟩
/-- the classes at hand -/
structure ClsOk (K : PySem.W.Frag) (c : Str) : Prop where
  cl : Cls K (He.ga K c)
  ha : PySem.W.findIn K (.ref (He.ga K c)) "__class__" = some (some (.builtin "object.__class__"))
  hn : PySem.W.specialIn K (.builtin "object.__class__") "__get__" = some (some (.builtin "getset_descriptor.__get__"))
  htk : PySem.W.takesIn K (.builtin "object.__class__") = some true
  hm : PySem.W.mroIn K (He.ga K c) (.type "object") = some true
def fldD (cs : List Str) (f : Str) : D → Option D
  | .ins c fs => if cs.contains c = true then fs.lookup f else none
  | _ => none
def FldOk (K : PySem.W.Frag) (cs : List Str) (f : Str) : Prop := ∀ c, cs.contains c = true → Cls K (He.ga K c) ∧ NoAttr K (He.ga K c) f
section
variable {X : Cx} {e o value : Expr} {f : Str} {pos pos' p : Pos} {fo : CS → Rs Av} {fe : CS → Rs D} {cs : List Str} {x : Str}
theorem sd_fld (cs : List Str) (hc : FldOk X.K cs f) (he : SO X e fo) (hb : ∀ env, attributeBase e f env (eval e env) = eval e env := by intro _; rfl) : SD X (.Attribute e f pos) (unE fo (fldD cs f)) := by
  refine ⟨fun B pn xe W tk => peW (pe_fld (X := X.tr pn xe) (he.run B pn xe W tk) (hb _)) fun σ H Q ⟨F, s, r, p⟩ => ⟨F, s, r, p.bind.mono fun y s1 p1 v F1 H1 su r1 q => ?_⟩⟩
  obtain ⟨z, e1, p2⟩ := p1.res
  obtain ⟨d, h1, h2⟩ := o1_some e1
  unfold fldD at h2
  split at h2
  · rename_i c fs
    split at h2
    · rename_i hcc
      obtain ⟨a, dx, fvs, rfl, h3, h4⟩ := (q.h r1 h1).ins r1.sub
      obtain ⟨w, h5, h6⟩ := h4.lookup h2
      exact ⟨a, _, dx, fvs, w, rfl, h3, (hc c hcc).1, (hc c hcc).2, h5, p2 w F1 H1 su r1 h6⟩
    · cases h2
  · cases h2
/-! ### self.f = .. -/
def insAt (s : CS) (i : Nat) : Option (Str × List (Str × D)) := match s[i]? with
  | some (some (.ow (.ins c fs))) => some (c, fs)
  | some (some (.le (.ins c fs))) => some (c, fs)
  | _ => none
theorem insAt_some {s : CS} {i : Nat} {c : Str} {fs : List (Str × D)} (h : insAt s i = some (c, fs)) : Hot s i (.ins c fs) ∧ ∃ y, s[i]? = some (some y) := by
  unfold insAt at h
  split at h
  · rename_i e; cases h; exact ⟨.inl e, _, e⟩
  · rename_i e; cases h; exact ⟨.inr e, _, e⟩
  · cases h
def putFD (f : Str) (d : D) : List (Str × D) → List (Str × D)
  | [] => [(f, d)]
  | (g, x) :: r => if g = f then (g, d) :: r else (g, x) :: putFD f d r
theorem RepF.put {K : PySem.W.Frag} {F : Hp} {f : Str} {v : V} {d : D} (h : Rep K F v d) : ∀ {vs : List (Str × V)} {ds : List (Str × D)}, RepF K F vs ds → RepF K F (putF f v vs) (putFD f d ds)
  | _, _, .nil => .cons h .nil
  | _, _, .cons (f := g) a r => by
    unfold putF putFD
    split
    · exact .cons h r
    · exact .cons a (RepF.put h r)
theorem RepF.len {K : PySem.W.Frag} {F : Hp} : ∀ {vs : List (Str × V)} {ds : List (Str × D)}, RepF K F vs ds → vs.length = ds.length
  | _, _, .nil => rfl
  | _, _, .cons _ r => congrArg Nat.succ (RepF.len r)
def fdS (i : Nat) (cs : List Str) (f : Str) (fe : CS → Rs D) : CS → Fl := fun s => bindS (fe s) fun d s => match insAt s i with
  | none => .bad
  | some (c, fs) => if cs.contains c = true ∧ fs.length < 1000 then .nx (putAt i (.ins c (putFD f d fs)) s) else .bad
theorem ss_fld (i : Nat) (cs : List Str) (hc : FldOk X.K cs f) (he : SD X value fe) (hN : X.N[i]? = some x := by rfl) (hv : Vis X.env.scope x := by first | exact Or.inl rfl | exact Or.inr (Or.inl rfl) | exact Or.inr (Or.inr rfl)) (hd : (x == ("__debug__" : Str)) = false := by decide)
    (hcd : (x == ("__classdict__" : Str)) = false := by decide) (hs : swapsWith value (some (.Attribute (.Name x p) f pos')) pos.line X.env = pure false := by rfl) : SS X (.Assign [.Attribute (.Name x p) f pos'] value pos) (fdS i cs f fe) := by
  refine ⟨fun B pn xe W tk hp => psW (ps_fld (X := X.tr pn xe) (pe_var (X := X.tr pn xe) hN hv hd hcd) (he.run B pn xe W tk) hs) fun D σ H ⟨F, s, r, p⟩ => ⟨F, s, r, p.bind.mono fun d s1 p1 v F1 H1 su r1 q => ?_⟩⟩
  cases h1 : insAt s1 i with
  | none => rw [h1] at p1; exact p1.elim
  | some cf =>
    obtain ⟨c, fs⟩ := cf
    rw [h1] at p1
    dsimp only at p1
    split at p1
    · rename_i hz
      obtain ⟨h2, y, h3⟩ := insAt_some h1
      obtain ⟨a, h4, ⟨dx, fvs, h5, h6⟩, h7⟩ := r1.hot i _ h2
      refine ⟨.ref a, h4, a, _, dx, fvs, rfl, h5, (hc c hz.1).1, (hc c hz.1).2, by rw [h6.len]; exact hz.2, ?_⟩
      have p1 : ∀ σ' F' H', Sub F F' → Rel X.K B F' (putAt i (.ins c (putFD f d fs)) s1) σ' H' → D.nx σ' H' := p1
      refine p1 σ F1 _ su ?_
      unfold putAt
      rw [h3]
      exact r1.write h3 h2 h4 (fun b hb => upd_ne hb) ⟨dx, _, upd_same, h6.put q⟩
    · exact p1.elim
end
/-! ### C(..) -/
section
variable {X : Cx} {x : Str} {p pos : Pos} {e : Expr} {es : List Expr} {fa : CS → Rs (List Av)} {k : Nat} {C f : Addr} {fd : FuncData} {ps : List Str} {mask : List Bool} {g : List D → GR}
theorem GRoom.made {k : Nat} {A : Around} (r : GRoom (k + 1) A) (C : Addr) (us : List Value) : GRoom k (A.under (.builtin "type.__call__" ⟨.ref C :: us, []⟩)) :=
  ⟨r.rm.make C us [], by first | exact r.gd | (simpa [Around.under, Code.isGuard, guardIds] using r.gd)⟩
/-- the class is asked for an instance -/
theorem run_makeG {pins : List (Addr × Obj)} {σ : L2.St} {H : Hp} {s : Shared} {Q : VK} {us : List Value} {vs : List V} {sp : Sp} {E : XK} (M : Mk X.K C f) (G : FnG X.prog X.w X.K X.mg X.base k f fd ps sp) (hr : GRoom (k + 1) X.A) (hb : Binds X.K fd ps [])
    (hx : PassesAt (L2.CX X.prog X.w) X σ E) (I : Inv X pins σ H s) (r : Vals vs us)
    (h : ∀ a dx, H a = none → H dx = none → dx ≠ a → sp (.ref a :: vs) (upd (upd H dx (.own a)) a (.ins C dx [])) (fun v H2 => v = .non ∧ Q (.ref a) H2) E) : wpAny (model X.prog X.w) X.A (call (.ref C) us) (EP X pins σ Q) X.xe s := by
  have q := h (s.heap.objs.size + 1) s.heap.objs.size (I.hok.fresh (Nat.le_succ _)) (I.hok.fresh (Nat.le_refl _)) (Nat.ne_of_lt (Nat.lt_succ_self _))
  have J := Inv.made (C := C) I
  have rr : Vals (V.ref (s.heap.objs.size + 1) :: vs) (Value.ref (s.heap.objs.size + 1) :: us) := .cons rfl r
  have many : (Value.ref (s.heap.objs.size + 1) :: us).length = ps.length := rr.length.symm.trans (G.arity _ _ _ _ q)
  have bound := hb _ (Value.ref (s.heap.objs.size + 1) :: us) J.kIn (by simpa using many)
  simp only [List.append_nil] at bound
  apply wpAny_call
  apply make_map (f := f) I.kIn M.makes M.init (beq_iff_eq.mp M.fn)
  refine codeAny_mono (G.meets _ X.stack _ _ ⟨Value.ref (s.heap.objs.size + 1) :: us, []⟩ _ _ _ E (hr.made C us) (J.env0.make C us []) bound rr q) ?_
  rintro (e | fl) s' z
  · exact hx pins _ _ e s' J z
  · cases fl
    case ret u =>
      obtain ⟨v, H', I3, rv, ev, q3⟩ := J.after z
      subst ev
      exact ⟨rv, ⟨V.ref (s.heap.objs.size + 1), H', I3, rfl, q3⟩⟩
    all_goals exact z.elim
theorem pe_makeG {sp : Sp} {t : TA} {W : WX} (tk : Takes X W) (M : Mk X.K C f) (G : FnG X.prog X.w X.K X.mg X.base k f fd ps sp) (hr : GRoom (k + 1) X.A) (hg : Gl X x) (hm : X.mg x = some (.ref C)) (hb : Binds X.K fd ps [])
    (ha : PA X (e :: es) t) (hdb : (x == ("__debug__" : Str)) = false) (he : starEach (e :: es) X.env = (false, eval e X.env) :: starEach es X.env) (hpl : (backTo pos (starEach es X.env)).any (·.1) = false) :
    PE X (.Call (.Name x p) (e :: es) [] pos) (fun σ H Q => t σ H fun vs H1 => ∀ a dx, H1 a = none → H1 dx = none → dx ≠ a → sp (.ref a :: vs) (upd (upd H1 dx (.own a)) a (.ins C dx [])) (fun v H2 => v = .non ∧ Q (.ref a) H2) (WE W σ)) := by
  constructor
  intro pins s σ H Q I h
  apply wpAny_Call_Name_kw
  apply ld_glob I hg hm _ hdb
  apply PySem.W.callWith_K (h₀ := X.base) I.ok.mod.kin M.kp _ he hpl
  apply thn (ha.run pos pins s σ H _ I h)
  rintro us s1 ⟨vs, H1, I1, r, q⟩
  exact ⟨I1.kIn, run_makeG M G hr hb (passAt tk σ) I1 r q⟩
/-- the function of a construction: the mask is of the written arguments -/
def mkE (c : Str) (fa : CS → Rs (List Av)) (mask : List Bool) (g : List D → GR) : CS → Rs D := fun s => (fa s).bind fun xs s => if okSl xs = true then (match margs mask xs s with
  | none => .bad
  | some ds => match g (.ins c [] :: ds) with
    | .ok (.fz .non) (d :: outs) => .ok d (putB mask xs outs s)
    | .ok _ _ => .bad
    | .exc c fs outs => .exc c fs (putB mask xs outs.tail s)
    | .bad => .bad) else .bad
theorem lent_cons {mask : List Bool} {vs : List V} {i : Nat} {a b : Addr} : LentAt (true :: mask) (.ref a :: vs) i b ↔ (i = 0 ∧ b = a) ∨ ∃ j, i = j + 1 ∧ LentAt mask vs j b := by
  unfold LentAt
  cases i with
  | zero => simp; exact eq_comm
  | succ j => simp
theorem sn_make (c : Str) (M : Mk X.K (He.ga X.K c) f) (G : FnG X.prog X.w X.K X.mg X.base k f fd ps (spOf X.K (true :: mask) g)) (hr : GRoom (k + 1) X.A) (hg : Gl X x) (hm : X.mg x = some (.ref (He.ga X.K c))) (hb : Binds X.K fd ps [])
    (ha : SA X (e :: es) fa) (hdb : (x == ("__debug__" : Str)) = false := by decide) (he : ∀ env, starEach (e :: es) env = (false, eval e env) :: starEach es env := by intro _; rfl) (hpl : ∀ env, (backTo pos (starEach es env)).any (·.1) = false := by intro _; rfl) :
    SN X (.Call (.Name x p) (e :: es) [] pos) (mkE c fa mask g) := by
  refine ⟨fun B pn xe W tk => peW (pe_makeG (X := X.tr pn xe) tk M G hr hg hm hb (ha.run B pn xe W tk) hdb (he _) (hpl _)) fun σ H Q ⟨F, s, r, q⟩ => ?_⟩
  refine ⟨F, s, r, q.bind.mono fun xs s1 p1 vs F1 H1 su r1 hv => fun a dx hna hnd hne => ?_⟩
  show spOf X.K (true :: mask) g _ _ _ _
  split at p1
  · rename_i ho
    cases hmm : margs mask xs s1 with
    | none => rw [hmm] at p1; exact p1.elim
    | some ds =>
      rw [hmm] at p1
      dsimp only at p1
      have F1n : ∀ {b}, H1 b = none → F1 b = none := fun {b} hb => by
        cases e : F1 b with
        | none => rfl
        | some u => rw [r1.sub _ _ e] at hb; cases hb
      have hsub : Sub H1 (upd (upd H1 dx (.own a)) a (.ins (He.ga X.K c) dx [])) := (Sub.upd hnd).trans (Sub.upd (by rw [upd_ne (Ne.symm hne)]; exact hna))
      have rG := r1.grow hsub
      have ar := args_of rG hv hmm
      have ls : ∀ {i b}, LentAt mask vs i b → b ≠ a := fun {i b} l z => by
        obtain ⟨k', e', _, q2, q3⟩ := lent_slot hv hmm l
        obtain ⟨b', g1, g2, _⟩ := r1.hot k' e' q2
        rw [q3] at g1; cases g1
        obtain ⟨u, hu⟩ := g2.ex
        rw [z, hna] at hu; cases hu
      have spA : SepA (true :: mask) (.ref a :: vs) := fun i j b hi hj => by
        rcases lent_cons.mp hi with ⟨rfl, rfl⟩ | ⟨i', rfl, hi'⟩
        · rcases lent_cons.mp hj with ⟨rfl, _⟩ | ⟨j', rfl, hj'⟩
          · rfl
          · exact absurd rfl (ls hj')
        · rcases lent_cons.mp hj with ⟨rfl, rfl⟩ | ⟨j', rfl, hj'⟩
          · exact absurd rfl (ls hi')
          · rw [sep_of r1 hv hmm ho i' j' b hi' hj']
      refine ⟨F1, .ins c [] :: ds, rG.sub, .le ⟨dx, [], upd_same, .nil⟩ (F1n hna) ar, spA, ?_⟩
      have tl : ∀ {F' H' : Hp} {o : D} {outs : List D}, After X.K (true :: mask) (.ref a :: vs) F1 (upd (upd H1 dx (.own a)) a (.ins (He.ga X.K c) dx [])) F' H' (o :: outs) → After X.K mask vs F1 H1 F' H' outs := fun {F' H' o outs} af => by
        refine ⟨af.s1, af.s2, fun b u hb n => af.frame b u (hsub _ _ hb) fun i l => ?_, fun b u hb hf => af.cold b u (hsub _ _ hb) hf, fun i b l => ?_⟩
        · rcases lent_cons.mp l with ⟨_, rfl⟩ | ⟨j, _, l'⟩
          · rw [hna] at hb; cases hb
          · exact n j l'
        · obtain ⟨d, h1, h2⟩ := af.outs (i + 1) b (lent_cons.mpr (.inr ⟨i, rfl, l⟩))
          exact ⟨d, by simpa using h1, h2⟩
      cases hgr : g (.ins c [] :: ds) with
      | bad => rw [hgr] at p1; exact p1.elim
      | exc c' fs outs =>
        rw [hgr] at p1
        intro dd F' H' af hex
        cases outs with
        | nil =>
          obtain ⟨d, h1, _⟩ := af.outs 0 a (lent_cons.mpr (.inl ⟨rfl, rfl⟩))
          cases h1
        | cons o outs => exact p1 dd F' H' (rel_call r1 hv hmm ho (tl af)) hex
      | ok y outs =>
        rw [hgr] at p1
        intro v F' H' af rv
        cases outs with
        | nil =>
          obtain ⟨d, h1, _⟩ := af.outs 0 a (lent_cons.mpr (.inl ⟨rfl, rfl⟩))
          cases h1
        | cons o outs =>
          cases y with
          | fz z =>
            cases z with
            | non =>
              cases rv
              refine ⟨rfl, ?_⟩
              have p1 : AnsN X.K B F σ Q o (putB mask xs outs s1) := p1
              obtain ⟨d, h1, h2⟩ := af.outs 0 a (lent_cons.mpr (.inl ⟨rfl, rfl⟩))
              cases h1
              have r' := rel_call r1 hv hmm ho (tl af)
              exact p1 a F' H' (su.trans af.s1) r' (new_of r1 hv r' (tl af) putB_hot h2 (af.cold a _ upd_same (F1n hna)) hna)
            | _ => exact p1.elim
          | ow z => exact p1.elim
          | le z => exact p1.elim
  · exact p1.elim
end
end Cl

set_option Elab.async false
set_option linter.all false
set_option maxRecDepth 100000
set_option maxHeartbeats 4000000
set_option autoImplicit false
/-! Cl, part J: isinstance, pairs of new objects, ranges as tuples and lists. -/
namespace Cl
open PySem PySem.Spec L2
open PyProof.Rows

/-! ### isinstance -/
inductive Tg where
  | b (n : String) | c (x : Str)
  deriving DecidableEq
def D.tg : D → Option Tg
  | .non => some (.b "NoneType")
  | .bl _ => some (.b "bool")
  | .int _ => some (.b "int")
  | .str _ => some (.b "str")
  | .lst _ => some (.b "list")
  | .scr _ => some (.b "list")
  | .tup _ => some (.b "tuple")
  | .ins c _ => some (.c c)
  | _ => none
def D.cls : D → Option Tg
  | .ty n => some (.b n)
  | .glo c => some (.c c)
  | _ => none
def Tg.v (K : PySem.W.Frag) : Tg → Value
  | .b n => .type n
  | .c x => .ref (He.ga K x)
abbrev Tb := List (Tg × Tg × Bool)
def askT : Tb → Tg → Tg → Option Bool
  | [], _, _ => none
  | (t, u, b) :: r, t', u' => if t = t' ∧ u = u' then some b else askT r t' u'
def IsiOk (K : PySem.W.Frag) (tb : Tb) : Prop := ∀ t u b, askT tb t u = some b → PySem.W.kitOne K (t.v K) (u.v K) = some b ∧ ∀ c, t = .c c → ClsOk K c
theorem isi_nil {K : PySem.W.Frag} : IsiOk K [] := fun t u b h => by cases h
theorem isi_cons {K : PySem.W.Frag} {tb : Tb} {t u : Tg} {b : Bool} (h : PySem.W.kitOne K (t.v K) (u.v K) = some b) (hc : ∀ c, t = .c c → ClsOk K c) (r : IsiOk K tb) : IsiOk K ((t, u, b) :: tb) := fun t' u' b' e => by
  unfold askT at e
  split at e
  · rename_i q
    obtain ⟨rfl, rfl⟩ := q
    cases e
    exact ⟨h, hc⟩
  · exact r t' u' b' e
def isiT (tb : Tb) (t u : Tg) : Option Bool := match t, u with
  | .b a, .b b => kitB a b
  | t, u => askT tb t u
def isiD (tb : Tb) : List D → Option D
  | [d, e] => match d.tg, e.cls with
    | some t, some u => (isiT tb t u).map .bl
    | _, _ => none
  | _ => none
theorem RepH.tyx {K : PySem.W.Frag} {F H : Hp} {v : V} {d : D} {t : Tg} (s : Sub F H) (h : RepH K F H v d) (e : d.tg = some t) (hc : ∀ c, t = .c c → ClsOk K c) : TyX K H v (t.v K) := by
  cases d with
  | non => cases e; cases h.non; exact .base .non
  | bl b => cases e; cases h.bl; exact .base (.bl _)
  | int b => cases e; cases h.int; exact .base (.int _)
  | str b => cases e; cases h.str; exact .base (.str _)
  | lst ds => cases e; obtain ⟨a, vs, rfl, h1, _⟩ := h.lst s; exact .base (.lst h1)
  | scr ds =>
    cases e
    obtain ⟨a, vs, rfl, h1, _⟩ := h.scr s
    rcases h1 with (h1 | ⟨o, h1⟩) | ⟨o, its, n, h1, h2, _⟩
    · exact .base (.lst h1)
    · exact .base (.frz h1)
    · exact .kList h1 h2
  | tup ds =>
    cases e
    obtain ⟨a, vs, rfl, h1, _⟩ := h.tup s
    rcases h1 with (h1 | ⟨o, h1⟩) | ⟨o, its, n, h1, h2, _⟩
    · exact .base (.tup h1)
    · exact .fTuple h1
    · exact .kTuple h1 h2
  | ins c fs =>
    cases e
    obtain ⟨a, dx, fvs, rfl, h1, _⟩ := h.ins s
    have k := hc c rfl
    exact .base (.ins h1 k.cl k.ha k.hn k.htk k.hm)
  | ty n => cases e
  | glo n => cases e
theorem RepH.clsv {K : PySem.W.Frag} {F H : Hp} {v : V} {d : D} {t : Tg} (h : RepH K F H v d) (e : d.cls = some t) : ClsV v (t.v K) := by
  cases d with
  | ty n => cases e; cases h.ty; exact .ty _
  | glo n => cases e; cases h.glo; exact .own _
  | _ => cases e
theorem v_isi {K : PySem.W.Frag} {tb : Tb} (ok : IsiOk K tb) : OpC K (rIsi K) (isiD tb) := by
  intro F H xs ds z Q s r ez q
  unfold isiD at ez
  split at ez
  · split at ez
    · rename_i d e t u h1 h2
      cases h3 : isiT tb t u with
      | none => rw [h3] at ez; cases ez
      | some b =>
        rw [h3] at ez; cases ez
        cases r with
        | cons ra rr =>
          cases rr with
          | cons rb rr =>
            cases rr
            have hk : PySem.W.kitOne K (t.v K) (u.v K) = some b ∧ ∀ c, t = .c c → ClsOk K c := by
              unfold isiT at h3
              split at h3
              · exact ⟨kit_ty h3, fun c z => by cases z⟩
              · exact ok _ _ _ h3
            exact ⟨_, _, _, _, b, rfl, rb.clsv h2, ra.tyx s h1 hk.2, hk.1, q.val (.bl b)⟩
    · cases ez
  · cases ez

/-! ### a, b = new, new -/
theorem New.pins {K : PySem.W.Frag} {B : Bs} {F : Hp} {s : CS} {σ : L2.St} {H : Hp} {a : Addr} {d : D} (n : New K B F s σ H a d) (r : Rel K B F s σ H) : ∃ o, H a = some o ∧ Rel K { B with H0 := upd B.H0 a o } F s σ H ∧ a ∉ B.la ∧ B.F0 a = none := by
  obtain ⟨o, ho⟩ := n.obj.ex
  refine ⟨o, ho, r.pin ho n.cold n.no, fun hm => ?_, ?_⟩
  · obtain ⟨⟨i, b⟩, h1, h2⟩ := List.mem_map.mp hm
    have h2 : b = a := h2
    subst h2
    obtain ⟨q1, e, q2⟩ := r.lent i b h1
    exact n.no i e (.inr q2) q1
  · cases e : B.F0 a with
    | none => rfl
    | some u =>
      have := r.base _ _ e
      rw [n.cold] at this; cases this
/-- with a new object pinned -/
theorem Post.pin {K : PySem.W.Frag} {B : Bs} {σ : L2.St} {W : WX} {a : Addr} {o : HO} {α : Type} {P P' : α → CS → Prop} {r : Rs α} (h : Post K B σ W P r) (h0 : B.H0 a = none) (f0 : B.F0 a = none) (hl : a ∉ B.la) (i : ∀ x s, P x s → P' x s) :
    Post K { B with H0 := upd B.H0 a o } σ W P' r := by
  cases r with
  | ok x s => exact i x s h
  | exc c fs s => exact fun dd F' H' r e => h dd F' H' (r.unpin h0 f0 hl).1 e
  | bad => exact h
def paN (i j : Nat) (f g : CS → Rs D) : CS → Fl := fun s => bindS (f s) fun d s => bindS (g s) fun e s => nxO ((setC i (.ow d) s).bind (setC j (.ow e)))
section
variable {X : Cx} {x y : Str} {a b : Expr} {px py pt pos : Pos} {f g : CS → Rs D}
theorem ss_parN {i j : Nat} {kt k2 pt2} (hc : X.calm = true) (hN : X.N.Nodup) (hi : X.N[i]? = some x) (hj : X.N[j]? = some y) (hij : i ≠ j)
    (hx : X.env.scope.names.lookup x = some .local) (hy : X.env.scope.names.lookup y = some .local) (ha : SN X a f) (hb : SN X b g)
    (hw : swappedStores [.Tuple [.Name x px, .Name y py] kt pt] (.Tuple [a, b] k2 pt2) X.env = pure (some [x, y]) := by rfl)
    (hs : swapsWithSole [.Tuple [.Name x px, .Name y py] kt pt] (.Tuple [a, b] k2 pt2) pos.line X.env = pure false := by rfl)
    (h1 : ∀ env, starEach [a, b] env = (false, eval a env) :: starEach [b] env := by intro _; rfl) (h2 : ∀ env, starEach [b] env = (false, eval b env) :: starEach [] env := by intro _; rfl) :
    SS X (.Assign [.Tuple [.Name x px, .Name y py] kt pt] (.Tuple [a, b] k2 pt2) pos) (paN i j f g) := by
  refine ⟨fun B pn xe W tk hp => psW (ps_par (X := X.tr pn xe) hc hN hi hj hij hx hy (pa_cons (ha.run B pn xe W tk) (pa_cons (peX fun (B' : Bs) => hb.run B' pn xe W tk) pa_nil (h2 _)) (h1 _)) hw hs) fun D σ H ⟨F, s, r, p⟩ => ?_⟩
  refine ⟨F, s, r, p.bind.mono fun d s1 p1 a F1 H1 su1 r1 n1 => ?_⟩
  obtain ⟨o, ho, rp, nl, f0⟩ := n1.pins r1
  refine ⟨{ B with H0 := upd B.H0 a o }, F1, s1, rp, Post.pin (PostS.bind p1) n1.new f0 nl fun e s2 p2 b F2 H2 su2 r2 n2 => ?_⟩
  obtain ⟨r2', hH, hF, hno⟩ := r2.unpin n1.new f0 nl
  refine ⟨_, _, rfl, ?_⟩
  have nb : a ≠ b := fun z => by
    have := n2.new
    rw [← z] at this
    have q : upd B.H0 a o a = none := this
    rw [upd_same] at q; cases q
  cases hc1 : setC i (.ow d) s2 with
  | none => rw [hc1] at p2; exact p2.elim
  | some s3 =>
    rw [hc1] at p2
    cases hc2 : setC j (.ow e) s3 with
    | none => have p2 : PostS X.K B W F D (nxO (setC j (.ow e) s3)) := p2; rw [hc2] at p2; exact p2.elim
    | some s4 =>
      have p2 : PostS X.K B W F D (nxO (setC j (.ow e) s3)) := p2
      rw [hc2] at p2
      obtain ⟨k1, k2, rfl⟩ := setC_some hc1
      obtain ⟨k3, k4, rfl⟩ := setC_some hc2
      have na : New X.K B F2 s2 σ H2 a d := by
        refine ⟨n1.obj.mono su2 (by rw [ho]; exact hH), hF, n1.new, hno⟩
      have r3 := r2'.setOw k1 k2 na
      have nb2 : New X.K B F2 (s2.set i (some (.ow d))) (σ.set i (some (.ref a))) H2 b e := by
        refine ⟨n2.obj, n2.cold, ?_, fun l e' hh q => ?_⟩
        · have q : upd B.H0 a o b = none := n2.new
          rw [upd_ne (Ne.symm nb)] at q; exact q
        · by_cases hl : l = i
          · subst hl
            have hlσ : l < σ.length := by rw [r2'.len]; exact k1
            rw [List.getElem?_set_self hlσ] at q
            cases q; exact nb rfl
          · rw [List.getElem?_set_ne (Ne.symm hl)] at q
            have hh' : Hot s2 l e' := by
              rcases hh with h | h
              · rw [List.getElem?_set_ne (Ne.symm hl)] at h; exact .inl h
              · rw [List.getElem?_set_ne (Ne.symm hl)] at h; exact .inr h
            exact n2.no l e' hh' q
      exact p2 _ F2 H2 (su1.trans su2) (r3.setOw k3 k4 nb2)
end
/-! ### tuple(range(..)), list(range(..)) -/
def rgD (a b : Int) : List D := intsFrom a 1 (b - a).toNat
theorem rep_rg {K : PySem.W.Frag} {F : Hp} (a b : Int) : RepA K F (rgV a b) (rgD a b) := by
  unfold rgV rgD intsFrom
  generalize List.range (b - a).toNat = l
  induction l with
  | nil => exact .nil
  | cons i l ih => rw [List.map_cons, List.map_cons, Int.mul_one]; exact .cons (.int _) ih
instance (a b : Int) : Decidable (RgOk a b) := by unfold RgOk; exact inferInstance
section
variable {X : Cx} {a b e : Expr} {p pos p2 pos2 : Pos} {f g : CS → Rs D}
/-- the bounds -/
def rg1E (f : CS → Rs D) : CS → Rs (Int × Int) := fun s => (f s).bind fun d s => match d with
  | .int n => .ok (0, n) s
  | _ => .bad
def rg2E (f g : CS → Rs D) : CS → Rs (Int × Int) := fun s => (f s).bind fun d s => (g s).bind fun e s => match d, e with
  | .int i, .int j => .ok (i, j) s
  | _, _ => .bad
def tRg (K : PySem.W.Frag) (B : Bs) (W : WX) (f : CS → Rs (Int × Int)) : L2.St → Hp → (Int → Int → Hp → Prop) → Prop := fun σ H Q => ∃ F s, Rel K B F s σ H ∧ Post K B σ W (fun ij s => ∀ F' H', Sub F F' → Rel K B F' s σ H' → Q ij.1 ij.2 H') (f s)
structure SRg (X : Cx) (e : Expr) (f : CS → Rs (Int × Int)) : Prop where
  run : ∀ B pn xe W, Takes (X.tr pn xe) W → PRg (X.tr pn xe) e (tRg X.K B W f)
theorem srg_1 (hg : Gl X "range") (hm : X.mg "range" = none) (ha : SD X a f) (hs : ∀ env, starEach [a] env = (false, eval a env) :: starEach [] env := by intro _; rfl) : SRg X (.Call (.Name "range" p) [a] [] pos) (rg1E f) := by
  refine ⟨fun B pn xe W tk pins s σ H Q I ⟨F, s0, r, q⟩ => prg_1 (X := X.tr pn xe) hg hm (ha.run B pn xe W tk) (hs _) pins s σ H Q I ⟨F, s0, r, q.bind.mono fun d s1 p1 v F1 H1 su r1 rv => ?_⟩⟩
  split at p1
  · cases rv; exact ⟨_, rfl, p1 F1 H1 su r1⟩
  · exact p1.elim
theorem srg_2 (hg : Gl X "range") (hm : X.mg "range" = none) (ha : SD X a f) (hb : SD X b g) (hs : ∀ env, starEach [a, b] env = (false, eval a env) :: starEach [b] env := by intro _; rfl) (hs2 : ∀ env, starEach [b] env = (false, eval b env) :: starEach [] env := by intro _; rfl)
    (hpl : ∀ env, (backTo pos (starEach [b] env)).any (·.1) = false := by intro _; rfl) : SRg X (.Call (.Name "range" p) [a, b] [] pos) (rg2E f g) := by
  refine ⟨fun B pn xe W tk pins s σ H Q I ⟨F, s0, r, q⟩ => prg_2 (X := X.tr pn xe) hg hm (ha.run B pn xe W tk) (hb.run B pn xe W tk) (hs _) (hs2 _) (hpl _) pins s σ H Q I ⟨F, s0, r, q.bind.mono fun d s1 p1 v F1 H1 su r1 rv => ⟨F1, s1, r1, p1.bind.mono fun e s2 p2 w F2 H2 su2 r2 rw => ?_⟩⟩⟩
  split at p2
  · cases rv; cases rw; exact ⟨_, _, rfl, rfl, p2 F2 H2 (su.trans su2) r2⟩
  · exact p2.elim
def trE (f : CS → Rs (Int × Int)) : CS → Rs D := fun s => (f s).bind fun ij s => if RgOk ij.1 ij.2 then .ok (.tup (rgD ij.1 ij.2)) s else .bad
def lrE (f : CS → Rs (Int × Int)) : CS → Rs D := fun s => (f s).bind fun ij s => if RgOk ij.1 ij.2 then .ok (.lst (rgD ij.1 ij.2)) s else .bad
theorem sd_tupRg {fr : CS → Rs (Int × Int)} (hc : X.calm = true) (hg : Gl X "tuple") (hm : X.mg "tuple" = none) (he : SRg X e fr) (hs : ∀ env, starEach [e] env = (false, eval e env) :: starEach [] env := by intro _; rfl) : SD X (.Call (.Name "tuple" p) [e] [] pos) (trE fr) := by
  refine ⟨fun B pn xe W tk => peW (pe_tupRg (X := X.tr pn xe) hc hg hm (he.run B pn xe W tk) (hs _)) fun σ H Q ⟨F, s, r, p⟩ => ⟨F, s, r, p.bind.mono fun ij s1 p1 F1 H1 su r1 => ?_⟩⟩
  split at p1
  · rename_i ok
    exact ⟨ok, fun l hn => (AnsD.fin p1 su r1).tup r1.sub (rep_rg _ _) hn⟩
  · exact p1.elim
theorem sn_lstRg {fr : CS → Rs (Int × Int)} (hc : X.calm = true) (hg : Gl X "list") (hm : X.mg "list" = none) (he : SRg X e fr) (hs : ∀ env, starEach [e] env = (false, eval e env) :: starEach [] env := by intro _; rfl) : SN X (.Call (.Name "list" p) [e] [] pos) (lrE fr) := by
  refine ⟨fun B pn xe W tk => peW (pe_listRg (X := X.tr pn xe) hc hg hm (he.run B pn xe W tk) (hs _)) fun σ H Q ⟨F, s, r, p⟩ => ⟨F, s, r, p.bind.mono fun ij s1 p1 F1 H1 su r1 => ?_⟩⟩
  split at p1
  · rename_i ok
    exact ⟨ok, fun l hn => (AnsN.fin p1 su r1).lst (rep_rg _ _) hn⟩
  · exact p1.elim
end
/-- tuple(range(i, j, c)) -/
def tupRg3 : List D → Option D
  | [.int i, .int j, .int c] => if rngOk i j c ∧ (Builtin.Range.rangeSize i j c).toNat ≤ 2 ^ 24 then some (.tup (intsFrom i c (Builtin.Range.rangeSize i j c).toNat)) else none
  | _ => none
section
variable {X : Cx} {a b c : Expr} {p pos p2 pos2 : Pos} {fa : CS → Rs (List Av)}
theorem vals_step {i c : Int} {n : Nat} {acc : Array Value} (h : ItemsOf (fun m v => ∃ t, v = .int (i + m * c) t) acc n) : Vals ((List.range n).map fun m => V.int (i + (m : Nat) * c)) acc.toList := by
  have hl : acc.toList.length = n := by rw [Array.length_toList]; exact h.1
  rw [← hl]
  apply vals_of_get acc.toList fun m => V.int (i + (m : Nat) * c)
  intro j u hj
  obtain ⟨t, ht⟩ := h.2 j u (by rw [← hj, Array.getElem?_toList])
  exact ⟨t, ht⟩
theorem rep_step {K : PySem.W.Frag} {F : Hp} (i c : Int) (n : Nat) : RepA K F ((List.range n).map fun m => V.int (i + (m : Nat) * c)) (intsFrom i c n) := by
  unfold intsFrom
  generalize List.range n = l
  induction l with
  | nil => exact .nil
  | cons m l ih => exact .cons (.int _) ih
theorem pe_tup3 {ta : TA} (hc : X.calm = true) (hg : Gl X "tuple") (hm : X.mg "tuple" = none) (hg2 : Gl X "range") (hm2 : X.mg "range" = none) (ha : PA X [a, b, c] ta)
    (h1 : starEach [.Call (.Name "range" p2) [a, b, c] [] pos2] X.env = (false, eval (.Call (.Name "range" p2) [a, b, c] [] pos2) X.env) :: starEach [] X.env)
    (h2 : starEach [a, b, c] X.env = (false, eval a X.env) :: starEach [b, c] X.env) (h3 : (backTo pos2 (starEach [b, c] X.env)).any (·.1) = false) :
    PE X (.Call (.Name "tuple" p) [.Call (.Name "range" p2) [a, b, c] [] pos2] [] pos) fun σ H Q => ta σ H fun vs H1 => ∃ (i j k : Int) (n : Nat), vs = [.int i, .int j, .int k] ∧ RgC i j k n ∧ n ≤ 2 ^ 24 ∧
      ∀ q, H1 q = none → Q (.ref q) (upd H1 q (.tup ((List.range n).map fun m => V.int (i + (m : Nat) * k)))) := by
  constructor
  intro pins s σ H Q I h
  refine Call_ (ld_blt I hg hm boot_tuple (callWith_type1 (args_cons (Q := fun us s' => wpAny _ _ (call (.type "tuple") us) (EP X pins σ Q) X.xe s') ?_ h1) h1))
  refine Call_ (ld_blt I hg2 hm2 boot_range (callWith_type1 (thn (ha.run pos2 pins s σ H _ I h) fun us s1 ⟨vs, H1, I1, r1, i, j, k, n, ev, hz, hn, q⟩ => ?_) h2 h3))
  subst ev
  cases r1 with
  | cons ra rr =>
    cases rr with
    | cons rb rr =>
      cases rr with
      | cons rc rr =>
        cases rr
        obtain ⟨ta', rfl⟩ := ra
        obtain ⟨tb', rfl⟩ := rb
        obtain ⟨tc', rfl⟩ := rc
        obtain ⟨z0, z1, z2, z3⟩ := hz
        refine call_range_3 z0 ?_ (.inl (PyProof.noPylong_small z1))
        have I2 : Inv X pins σ H1 { s1 with heap := s1.heap.push { cls := .type "range", data := .fields #[.int i ta', .int j tb', .int k tc'] } } := I1.kept (t' := s1.toks) fun b o e => Heap.get?_push_of_some _ e
        refine args_nil ?_
        refine call_tuple_range (n := n) (I2.ok.hd hc) (IsRange.new ..) z2 z3 hn fun h' tk acc hk hi => ?_
        have I3 : Inv X pins σ H1 { s1 with heap := h', toks := tk } := I2.kept hk
        refine ⟨.ref h'.objs.size, upd H1 h'.objs.size (.tup _), I3.laid (t' := tk) (fun c o e => Heap.get?_push_of_some _ e) (Nat.le_refl _) (show ObjOk X.prog X.w _ _ _ (.tup _) from ⟨?_, acc.toList, vals_step hi, ?_⟩), rfl, q _ (I3.hok.fresh (Nat.le_refl _))⟩
        · rw [List.length_map, List.length_range, sizeLine_eq]; omega
        · rw [Array.toArray_toList]; exact IsTup.new _ _
theorem sd_tupRg3 (hc : X.calm = true) (hg : Gl X "tuple") (hm : X.mg "tuple" = none) (hg2 : Gl X "range") (hm2 : X.mg "range" = none) (ha : SA X [a, b, c] fa)
    (h1 : ∀ env, starEach [.Call (.Name "range" p2) [a, b, c] [] pos2] env = (false, eval (.Call (.Name "range" p2) [a, b, c] [] pos2) env) :: starEach [] env := by intro _; rfl)
    (h2 : ∀ env, starEach [a, b, c] env = (false, eval a env) :: starEach [b, c] env := by intro _; rfl) (h3 : ∀ env, (backTo pos2 (starEach [b, c] env)).any (·.1) = false := by intro _; rfl) :
    SD X (.Call (.Name "tuple" p) [.Call (.Name "range" p2) [a, b, c] [] pos2] [] pos) (caE fa tupRg3) := by
  refine ⟨fun B pn xe W tk => peW (pe_tup3 (X := X.tr pn xe) hc hg hm hg2 hm2 (ha.run B pn xe W tk) (h1 _) (h2 _) (h3 _)) fun σ H Q ⟨F, s, r, p⟩ => ca_in r p fun xs ds z F' H' s' su r' rx ez q => ?_⟩
  unfold tupRg3 at ez
  split at ez
  · split at ez
    · rename_i i j k hz
      cases ez
      cases rx with
      | cons ra rr =>
        cases rr with
        | cons rb rr =>
          cases rr with
          | cons rc rr =>
            cases rr
            cases ra.int; cases rb.int; cases rc.int
            exact ⟨i, j, k, _, rfl, hz.1, hz.2, fun l hn => (AnsD.fin q su r').tup r'.sub (rep_step _ _ _) hn⟩
    · cases ez
  · cases ez
end
end Cl

set_option Elab.async false
set_option linter.all false
set_option maxRecDepth 100000
set_option maxHeartbeats 4000000
set_option autoImplicit false
/-! Cl, part K: a law's end. -/
namespace Cl
open PySem PySem.Spec L2
open PySem.W PyProof.Rows

/-- what the law's def needs of the place where the judge calls it -/
structure Stand (P : Program) (w : World) (K : PySem.W.Frag) (mg : Str → Option Value) (s : Shared) (a : Addr) (xs : List V) (H : Hp) : Prop where
  sq : SqL K H a xs
  only : Only H
  env : Env0 P w K mg (hidT s.heap H) callerA [] s H
  kin : K.In (hidT s.heap H)
  ns : (hidT s.heap H).Ns mainGlobals mg
theorem stand_of {P : Program} {w : World} {K : PySem.W.Frag} {mg mb : Str → Option Value} {s : Shared} {a : Addr} {xs : List V} {H : Hp} (KX : K.In s.heap) (hns : s.heap.Ns mainGlobals mg) (hb : s.heap.Ns builtinsNs mb) (hbb : ∀ x : Str, x ≠ "__name__" → mb x = bootBuiltins x)
    (hlim : s.heap.NoLimit) (hg : s.gens = #[]) (hO : Only H) (hS : SqL K H a xs) (hok : HOk P w H s.heap) (hA : ∀ b u, H b = some u → K.lookup b = none ∧ ∀ o, s.heap.get? b = some o → ∀ es ep, o.data ≠ .dict es ep) : Stand P w K mg s a xs H := by
  have stay : ∀ {b : Addr} {m : Str → Option Value}, s.heap.Ns b m → (hidT s.heap H).Ns b m := by
    rintro b m ⟨o, es, ep, e, d, r⟩
    refine ⟨o, es, ep, hidT_get e ?_, d, r⟩
    cases q : H b with
    | none => rfl
    | some u => exact absurd d ((hA b u q).2 o e es ep)
  have kin : K.In (hidT s.heap H) := by
    intro b o e
    refine hidT_get (KX b o e) ?_
    cases q : H b with
    | none => rfl
    | some u => rw [(hA b u q).1] at e; cases e
  obtain ⟨mc, l1, l2⟩ := hlim
  exact ⟨hS, hO, ⟨rfl, ⟨kin, stay hns, ⟨mb, stay hb, hbb⟩, ⟨mc, stay l1, l2⟩⟩, fun b o e => of_hidT e, Nat.le_of_eq (hidT_size _ _), trivial, fun b hb => (by cases hb), hok, .of_eq hg⟩, kin, stay hns⟩
/-- the script is one of the module's lists, or it is tracked as a list that nobody writes -/
theorem stands {P : Program} {w : World} {K : PySem.W.Frag} {mg mb : Str → Option Value} {s : Shared} {a : Addr} {vs : List Value} {ns : List Int} (KX : K.In s.heap) (hns : s.heap.Ns mainGlobals mg) (hb : s.heap.Ns builtinsNs mb) (hbb : ∀ x : Str, x ≠ "__name__" → mb x = bootBuiltins x)
    (hlim : s.heap.NoLimit) (hg : s.gens = #[]) (ha : s.heap.get? a = some { cls := .type "list", data := .seq vs.toArray }) (hi : PyProof.Rows.IntsAre vs ns) (hl : ns.length ≤ sizeLine) : ∃ H, Stand P w K mg s a (ns.map V.int) H := by
  have rv := vals_ints hi
  have lenV := hi.length
  cases hk : K.lookup a with
  | some o =>
    have e := KX a o hk
    rw [ha] at e
    cases e
    exact ⟨fun _ => none, stand_of KX hns hb hbb hlim hg (fun _ => .inl rfl) (.inr ⟨_, vs.toArray, _, hk, rfl, rfl, rfl, by rw [List.size_toArray, lenV]; exact hl, by simpa using rv⟩) (fun b u z => nomatch (show none = some u from z)) fun b u z => nomatch (show none = some u from z)⟩
  | none =>
    let u0 : HO := .frz { cls := .type "list", data := .seq vs.toArray } (.lst (ns.map V.int))
    have at_ : upd (fun _ => none) a u0 a = some u0 := upd_same
    have el : ∀ {b u}, upd (fun _ => none) a u0 b = some u → b = a ∧ u = u0 := fun {b u} z => by
      by_cases hb : b = a
      · subst hb; rw [upd_same] at z; cases z; exact ⟨rfl, rfl⟩
      · rw [upd_ne hb] at z; cases z
    refine ⟨upd (fun _ => none) a u0, stand_of KX hns hb hbb hlim hg (fun b => ?_) (.inl (.inr ⟨_, at_⟩)) (fun b u z => ?_) fun b u z => ?_⟩
    · by_cases hb : b = a
      · subst hb; exact .inr ⟨_, _, at_⟩
      · exact .inl (upd_ne hb)
    · obtain ⟨rfl, rfl⟩ := el z
      exact ⟨ha, by rw [List.length_map]; exact hl, vs, _, rv, ha⟩
    · obtain ⟨rfl, rfl⟩ := el z
      refine ⟨hk, fun o e es ep d => ?_⟩
      rw [ha] at e; cases e; cases d
theorem law_endG {P : Program} {w : World} {K : PySem.W.Frag} {mg mb : Str → Option Value} {k : Nat} {fa a : Addr} {fd : FuncData} {x : Str} {sp : Sp} {s₁ : Shared} {vs : List Value} {ns : List Int} (KX : K.In s₁.heap) (hns : s₁.heap.Ns mainGlobals mg) (hb : s₁.heap.Ns builtinsNs mb)
    (hbb : ∀ x : Str, x ≠ "__name__" → mb x = bootBuiltins x) (hlim : s₁.heap.NoLimit) (hg : s₁.gens = #[]) (ha : s₁.heap.get? a = some { cls := .type "list", data := .seq vs.toArray }) (hi : PyProof.Rows.IntsAre vs ns) (hl : ns.length ≤ sizeLine) (hr : GRoom k callerA)
    (G : ∀ base : Heap, K.In base → base.Ns mainGlobals mg → FnG P w K mg base k fa fd [x] sp) (hbind : ∀ (s : Shared) (u : Value), BindsTo s fd ⟨[u], []⟩ [(x, u)])
    (hsp : ∀ H : Hp, Only H → SqL K H a (ns.map V.int) → sp [.ref a] H (fun v _ => v = .bl true) fun _ _ _ => False) :
    codeAny (model P w) callerA (.call (.ref fa) ⟨[.ref a], []⟩) (fun r s' => r = .ok (.ret (.bool true)) ∧ OldK s₁.heap s'.heap ∧ s'.os = s₁.os ∧ AllBare s'.gens) s₁ := by
  obtain ⟨H, S⟩ := stands (P := P) (w := w) KX hns hb hbb hlim hg ha hi hl
  refine codeAny_mono ((G _ S.kin S.ns).meets callerA [] s₁ H ⟨[.ref a], []⟩ [.ref a] [.ref a] _ _ hr S.env (hbind s₁ (.ref a)) (.cons rfl .nil) (hsp H S.only S.sq)) ?_
  rintro (e | fl) s' h
  · obtain ⟨_, _, _, _, _, _, _, _, _, _, _, _, z⟩ := h
    exact z.elim
  · cases fl
    case ret u =>
      obtain ⟨v, H', os, bare, un, hok', rv, rfl⟩ := h
      cases rv
      refine ⟨rfl, OldK.of_keep fun b o e => ?_, os, bare⟩
      rcases S.only b with q | ⟨ob, xs, q⟩
      · exact un.keep b o e q (List.not_mem_nil) (List.not_mem_nil)
      · obtain ⟨e1, _⟩ := S.env.hok b _ q
        obtain ⟨e2, _⟩ := hok' b _ (un.frzs b ob _ q)
        rw [e] at e1; cases e1
        exact e2
    all_goals exact h.elim
theorem walk_ofG {l : PySem.W.OpenLaw} {n k : Nat} {q : Program} {loose : List Str} {XP : (Str → Option Value) → Heap → Prop} {YP : World → Heap → Prop} {d : DefRec} {x : Str}
    (hn : l.most = some n) (hn2 : n ≤ sizeLine) (hdf : d.params.defaults = []) (hr : GRoom k callerA)
    (G : ∀ (w : World) (mg : Str → Option Value) (fa : Addr) (h : Heap), YP w h → h.Ns mainGlobals mg → mg d.name = some (.ref fa) →
      ∃ (K : PySem.W.Frag) (fd : FuncData) (sp : Sp), K.In h ∧ (∀ (s : Shared) (u : Value), BindsTo s fd ⟨[u], []⟩ [(x, u)]) ∧
        (∀ (H : Hp) (a : Addr) (ns : List Int), ns.length ≤ n → Only H → SqL K H a (ns.map V.int) → sp [.ref a] H (fun v _ => v = .bl true) fun _ _ _ => False) ∧
        ∀ base : Heap, K.In base → base.Ns mainGlobals mg → FnG l.prog w K mg base k fa fd [x] sp) :
    PySem.W.WalkO q loose XP YP l.row.toRowW d [] (fun f vs => PySem.call f vs) := by
  refine Att.attach_call hn hdf fun w s₀ s₁ mg mb fa o pm cd doc a vs ns T Y ho hd hcd hmg hobj hints hlen hg => ?_
  obtain ⟨K, fd, sp, KX, hb, hsp, hF⟩ := G w mg fa _ Y T.T.g hmg
  exact law_endG KX T.T.g T.T.b T.T.builtins T.T.nolimit hg hobj hints (Nat.le_trans hlen hn2) hr hF hb fun H hO hS => hsp H a ns hlen hO hS
/-- the law's promise from its function: it answers True -/
theorem sp_law {K : PySem.W.Frag} {g : List D → GR} {H : Hp} {a : Addr} {ns : List Int} (hO : Only H) (hS : SqL K H a (ns.map V.int)) {outs : List D} (h : g [.scr (ns.map D.int)] = .ok (.fz (.bl true)) outs) :
    spOf K [false] g [.ref a] H (fun v _ => v = .bl true) fun _ _ _ => False := by
  refine ⟨H, [.scr (ns.map D.int)], .refl _, .fz (.scr hS (repA_ints ns)) .nil, fun i j b h1 h2 => ?_, ?_⟩
  · have := h1.1
    match i with
    | 0 => simp at this
    | i + 1 => simp at this
  · rw [h]
    exact fun v F' H' _ r => by cases r; rfl
end Cl

set_option Elab.async false
set_option linter.all false
set_option maxRecDepth 100000
set_option maxHeartbeats 4000000
set_option autoImplicit false
/-! Cl, part L: defs at hand. -/
namespace Cl
open PySem PySem.Spec L2
open PyProof.Rows (envOfC)

/-- a def at hand: its promise, its binding -/
structure Got (P : Program) (w : World) (K : PySem.W.Frag) (mg : Str → Option Value) (base : Heap) (k : Nat) (f : Addr) (ps : List Str) (mask : List Bool) (g : List D → GR) : Prop where
  ex : ∃ fd, FnG P w K mg base k f fd ps (spOf K mask g) ∧ Binds K fd ps []
  kp : PySem.W.keepIn K (.ref f) = true
theorem got_of {P : Program} {w : World} {K : PySem.W.Frag} {mg : Str → Option Value} {base : Heap} {x qual : Str} {params : Arguments} {body : List Stmt} {scope : Scope} {f : Addr} {N ps : List Str} {k : Nat} {mask : List Bool} {fb : CS → Fl}
    (h : ∃ fd, FunD K x qual params body scope [] [] f fd) (S : FnScope N ps scope) (hm : mask.length = ps.length) (hn : mask.length ≤ N.length)
    (bind : ∀ (kV doc pm : Value) (an : Option Addr) (cdv ct : Value) (us : List Value), us.length = ps.length → bindArgs (PySem.W.fnOf x qual params body scope .none kV doc pm an cdv ct) ⟨us, []⟩ = pure (ps.zip us))
    (hb : ∀ (cdv : Value) (A : Around) (outer : List Env) (s : Shared) (H : Hp) (E : XK), GRoom k (A.deeper (envOfC qual scope s.heap.objs.size f cdv)) → SSs (cxOf (L2.CX P w) P w K mg base N qual scope f cdv A outer s H E) body fb) :
    Got P w K mg base (k + 1) f ps mask (runF N.length mask fb) := by
  obtain ⟨fd, F⟩ := h
  exact ⟨⟨fd, fn_ok F S hm hn hb, F.bindsN bind⟩, F.kp⟩
section
variable {X : Cx} {x : Str} {p pos : Pos} {e : Expr} {es : List Expr} {fa : CS → Rs (List Av)} {j k : Nat} {f : Addr} {ps : List Str} {mask : List Bool} {g : List D → GR}
theorem sd_callG (G : Got X.prog X.w X.K X.mg X.base j f ps mask g) (hr : GRoom k X.A) (hm : X.mg x = some (.ref f)) (ha : SA X (e :: es) fa) (hj : j ≤ k := by decide) (hg : Gl X x := by rfl) (hdb : (x == ("__debug__" : Str)) = false := by decide)
    (he : ∀ env, starEach (e :: es) env = (false, eval e env) :: starEach es env := by intro _; rfl) (hpl : ∀ env, (backTo pos (starEach es env)).any (·.1) = false := by intro _; rfl) : SD X (.Call (.Name x p) (e :: es) [] pos) (calD fa mask g) := by
  obtain ⟨fd, F, b⟩ := G.ex
  exact sd_call F (hr.mono hj) hg hm G.kp b ha hdb he hpl
theorem sn_callG (G : Got X.prog X.w X.K X.mg X.base j f ps mask g) (hr : GRoom k X.A) (hm : X.mg x = some (.ref f)) (ha : SA X (e :: es) fa) (hj : j ≤ k := by decide) (hg : Gl X x := by rfl) (hdb : (x == ("__debug__" : Str)) = false := by decide)
    (he : ∀ env, starEach (e :: es) env = (false, eval e env) :: starEach es env := by intro _; rfl) (hpl : ∀ env, (backTo pos (starEach es env)).any (·.1) = false := by intro _; rfl) : SN X (.Call (.Name x p) (e :: es) [] pos) (calN fa mask g) := by
  obtain ⟨fd, F, b⟩ := G.ex
  exact sn_call F (hr.mono hj) hg hm G.kp b ha hdb he hpl
theorem sn_makeG (M : Mk X.K (He.ga X.K x) f) (G : Got X.prog X.w X.K X.mg X.base j f ps (true :: mask) g) (hr : GRoom k X.A) (hm : X.mg x = some (.ref (He.ga X.K x))) (ha : SA X (e :: es) fa) (hj : j + 1 ≤ k := by decide) (hg : Gl X x := by rfl) (hdb : (x == ("__debug__" : Str)) = false := by decide)
    (he : ∀ env, starEach (e :: es) env = (false, eval e env) :: starEach es env := by intro _; rfl) (hpl : ∀ env, (backTo pos (starEach es env)).any (·.1) = false := by intro _; rfl) : SN X (.Call (.Name x p) (e :: es) [] pos) (mkE x fa mask g) := by
  obtain ⟨fd, F, b⟩ := G.ex
  exact sn_make x M F (hr.mono hj) hg hm b ha hdb he hpl
end
/-- the law's def: one function object over every base -/
structure GotL (P : Program) (w : World) (K : PySem.W.Frag) (mg : Str → Option Value) (k : Nat) (f : Addr) (x : Str) (g : List D → GR) : Prop where
  ex : ∃ fd, (∀ (s : Shared) (u : Value), BindsTo s fd ⟨[u], []⟩ [(x, u)]) ∧ ∀ base : Heap, K.In base → base.Ns mainGlobals mg → FnG P w K mg base k f fd [x] (spOf K [false] g)
theorem gotL_of {P : Program} {w : World} {K : PySem.W.Frag} {mg : Str → Option Value} {x y qual : Str} {params : Arguments} {body : List Stmt} {scope : Scope} {f : Addr} {N : List Str} {k : Nat} {fb : CS → Fl}
    (h : ∃ fd, FunD K x qual params body scope [] [] f fd) (S : FnScope N [y] scope) (hn : 1 ≤ N.length)
    (bind : ∀ (kV doc pm : Value) (an : Option Addr) (cdv ct : Value) (us : List Value), us.length = [y].length → bindArgs (PySem.W.fnOf x qual params body scope .none kV doc pm an cdv ct) ⟨us, []⟩ = pure ([y].zip us))
    (hb : ∀ base : Heap, K.In base → base.Ns mainGlobals mg → ∀ (cdv : Value) (A : Around) (outer : List Env) (s : Shared) (H : Hp) (E : XK), GRoom k (A.deeper (envOfC qual scope s.heap.objs.size f cdv)) → SSs (cxOf (L2.CX P w) P w K mg base N qual scope f cdv A outer s H E) body fb) :
    GotL P w K mg (k + 1) f y (runF N.length [false] fb) := by
  obtain ⟨fd, F⟩ := h
  exact ⟨fd, fun s u => F.bindsA (ps := [y]) bind s [u] rfl, fun base X G => fn_ok F S rfl hn (hb base X G)⟩
theorem end_of {l : PySem.W.OpenLaw} {n k : Nat} {q : Program} {loose : List Str} {XP : (Str → Option Value) → Heap → Prop} {d : DefRec} {x y : Str} {g : List D → GR} {fa : List He.Fa} {fn : List He.DefD}
    (hn : l.most = some n) (hn2 : n ≤ sizeLine) (hdf : d.params.defaults = []) (hr : GRoom k callerA) (hd : d.name = y)
    (hf : ∀ (w : World) (K : PySem.W.Frag) (mg : Str → Option Value) (h : Heap), He.SaysD fa fn K → K.In h → h.Ns mainGlobals mg → mg y = some (.ref (He.ga K y)) ∧ GotL l.prog w K mg k (He.ga K y) x g)
    (hT : ∀ ns : List Int, ns.length ≤ n → ∃ outs, g [.scr (ns.map D.int)] = .ok (.fz (.bl true)) outs) :
    PySem.W.WalkO q loose XP (He.hookD 5 fa fn).says l.row.toRowW d [] (fun f vs => PySem.call f vs) := by
  refine walk_ofG (k := k) (x := x) hn hn2 hdf hr fun w mg fa' h Y G hmg => ?_
  obtain ⟨K, KX, c⟩ := Y
  obtain ⟨e, ⟨fd, b, F⟩⟩ := hf w K mg h c KX G
  rw [hd] at hmg
  have : fa' = He.ga K y := by
    have e := hmg.symm.trans e
    cases e
    rfl
  subst this
  refine ⟨K, fd, _, KX, b, fun H a ns hl hO hS => ?_, F⟩
  obtain ⟨outs, ho⟩ := hT ns hl
  exact sp_law hO hS ho
/-! ### facts of the head -/
section
variable {K : PySem.W.Frag} {h : Heap} {mg : Str → Option Value}
theorem mk_of {c : Str} (e : (He.Fa.mkr c).ok K = true) : Mk K (He.ga K c) (He.ma K (He.ga K c) "__init__") := He.mkr_ok e
theorem cls_of {c : Str} (e : (He.Fa.cls c).ok K = true) : Cls K (He.ga K c) := He.cls_ok e
theorem noat_of {c f : Str} (e : (He.Fa.noat c f).ok K = true) : NoAttr K (He.ga K c) f := He.noat_ok e
theorem fld_one {c f : Str} (h1 : Cls K (He.ga K c)) (h2 : NoAttr K (He.ga K c) f) : FldOk K [c] f := fun c' h => by
  have : c' = c := by simpa using h
  subst this
  exact ⟨h1, h2⟩
theorem fld_cons {c f : Str} {cs : List Str} (h1 : Cls K (He.ga K c)) (h2 : NoAttr K (He.ga K c) f) (r : FldOk K cs f) : FldOk K (c :: cs) f := fun c' h => by
  rcases List.mem_cons.mp (List.contains_iff_mem.mp h) with e | e
  · subst e; exact ⟨h1, h2⟩
  · exact r c' (List.contains_iff_mem.mpr e)
section
variable {X : Cx} {x : Str} {pos : Pos}
/-- a module's int -/
theorem sd_gint {i : Int} (hm : ∃ t, X.mg x = some (.int i t)) (hg : Gl X x := by rfl) (hd : (x == ("__debug__" : Str)) = false := by decide) : SD X (.Name x pos) (cE (.int i)) := by
  obtain ⟨t, e⟩ := hm
  exact sd_glob (v := .int i) hg e ⟨t, rfl⟩ (fun F => .int i) hd
theorem sd_gstr {z : Str} (hm : ∃ t, X.mg x = some (.str z t)) (hg : Gl X x := by rfl) (hd : (x == ("__debug__" : Str)) = false := by decide) : SD X (.Name x pos) (cE (.str z)) := by
  obtain ⟨t, e⟩ := hm
  exact sd_glob (v := .str z) hg e ⟨t, rfl⟩ (fun F => .str z) hd
/-- a def or a class of the module, as a value -/
theorem sd_gref (hm : X.mg x = some (.ref (He.ga X.K x))) (hg : Gl X x := by rfl) (hd : (x == ("__debug__" : Str)) = false := by decide) : SD X (.Name x pos) (cE (.glo x)) :=
  sd_glob (v := .ref (He.ga X.K x)) hg hm rfl (fun F => .glo x) hd
/-- a built-in type, as a value -/
theorem sd_ty (n : String) (hm : X.mg x = none) (hv : bootBuiltins x = some (.type n) := by decide +kernel) (hg : Gl X x := by rfl) (hn : x ≠ "__name__" := by decide) (hd : (x == ("__debug__" : Str)) = false := by decide) : SD X (.Name x pos) (cE (.ty n)) :=
  sd_blt (v := .ty n) hg hm hv rfl (fun F => .ty n) hn hd
end
end
/-! ### ==: scalars told apart as values, the rest as data -/
def eqA : D → D → Option Bool := fun d e => match d.flat, e.flat with
  | some v, some w => if scal v w = true then some (decide (v = w)) else eqD d e
  | _, _ => eqD d e
def neA : D → D → Option Bool := fun d e => (eqA d e).map (!·)
section
variable {K : PySem.W.Frag}
theorem eqA_some {d e : D} {z : Bool} (h : eqA d e = some z) : (∃ v w, d.flat = some v ∧ e.flat = some w ∧ scal v w = true ∧ z = decide (v = w)) ∨ eqD d e = some z := by
  unfold eqA at h
  split at h
  · rename_i v w h1 h2
    split at h
    · rename_i h3
      cases h
      exact .inl ⟨v, w, h1, h2, h3, rfl⟩
    · exact .inr h
  · exact .inr h
theorem RepH.flatH {F H : Hp} {v w : V} {d : D} (h : RepH K F H v d) (e : d.flat = some w) : v = w :=
  (h.noOwn (fun a z => by cases d <;> first | exact z | cases e)).flat e
theorem v_eqA : Op2T K (fun x y H Q => rEq x y H Q ∨ rEqD K x y H Q) eqA := by
  intro F H x y d e z Q s rx ry ez q
  rcases eqA_some ez with ⟨v, w, h1, h2, h3, rfl⟩ | h
  · cases rx.flatH h1; cases ry.flatH h2
    exact .inl ⟨h3, q⟩
  · exact .inr (v_eq s rx ry h q)
theorem v_neA : Op2T K (fun x y H Q => rNe x y H Q ∨ rNeD K x y H Q) neA := by
  intro F H x y d e z Q s rx ry ez q
  unfold neA at ez
  cases he : eqA d e with
  | none => rw [he] at ez; cases ez
  | some b =>
    rw [he] at ez; cases ez
    rcases eqA_some he with ⟨v, w, h1, h2, h3, rfl⟩ | h
    · cases rx.flatH h1; cases ry.flatH h2
      exact .inl ⟨h3, q⟩
    · exact .inr (v_ne s rx ry (show neD d e = some (!b) by unfold neD; rw [h]; rfl) q)
end
theorem op_eqA {X : Cx} (hu : X.A.units + 64 < cLine) : OpR X (compareOp .Eq) (fun x y H Q => rEq x y H Q ∨ rEqD X.K x y H Q) := op_eq.or (op_eqD hu)
theorem op_neA {X : Cx} (hu : X.A.units + 64 < cLine) : OpR X (compareOp .NotEq) (fun x y H Q => rNe x y H Q ∨ rNeD X.K x y H Q) := op_ne.or (op_neD hu)
/-- name = [..], frozen at once -/
theorem SS.frz {X : Cx} {st : Stmt} {i : Nat} {fe : CS → Rs D} (h : SS X st (snS i fe)) : SS X st (stS i fe) := by
  refine ⟨fun B pn xe W tk hp => psW (h.run B pn xe W tk hp) fun D σ H ⟨F, s, r, p⟩ => ⟨F, s, r, ?_⟩⟩
  unfold stS at p
  unfold snS
  cases e : fe s with
  | bad => rw [e] at p; exact p
  | exc c fs s1 => rw [e] at p; exact p
  | ok d s1 =>
    rw [e] at p
    simp only [bindS_ok] at p ⊢
    cases hc : setC i (.ow d) s1 with
    | none =>
      have : setC i (.fz d) s1 = none := by
        unfold setC at hc ⊢
        split at hc <;> first | rfl | cases hc
      rw [this] at p; exact p.elim
    | some s2 =>
      obtain ⟨h1, h2, rfl⟩ := setC_some hc
      have hs : setC i (.fz d) s1 = some (s1.set i (some (.fz d))) := by
        unfold setC at hc ⊢
        split at hc
        · cases hc
        · rfl
        · cases hc
      rw [hs] at p
      intro σ' F' H' su r'
      have at_i : (s1.set i (some (.ow d)))[i]? = some (some (.ow d)) := List.getElem?_set_self h1
      obtain ⟨v, F2, h3, r2, s2, _⟩ := r'.freezeSlot at_i
      rw [List.set_set] at r2
      exact p σ' F2 H' (su.trans s2) r2
end Cl

set_option Elab.async false
set_option linter.all false
set_option maxRecDepth 100000
set_option maxHeartbeats 4000000
set_option autoImplicit false
/-! the walk of owedagain_k84_whole_rules_read_off_days, printed by gen.py -/
namespace W84
open PySem PySem.Spec L2 Cl
def top (i : Nat) : Stmt := PySem.Challenge.pw_owedagain_k84_whole_rules_read_off_days.main.body.getD i (.Pass ⟨0, 0, 0, 0⟩)
def meth (s : Stmt) (j : Nat) : Stmt := match s with
  | .ClassDef _ _ _ b _ _ _ _ _ _ _ => b.getD j (.Pass ⟨0, 0, 0, 0⟩)
  | s => s
def d_is_integer : He.DefD := ⟨("is_integer", none), "is_integer", "is_integer", defArgs (top 7), defBody (top 7), defScope (top 7), [], []⟩
def d_is_number : He.DefD := ⟨("is_number", none), "is_number", "is_number", defArgs (top 8), defBody (top 8), defScope (top 8), [], []⟩
def d_is_within : He.DefD := ⟨("is_within", none), "is_within", "is_within", defArgs (top 9), defBody (top 9), defScope (top 9), [], []⟩
def d_is_ascending_days : He.DefD := ⟨("is_ascending_days", none), "is_ascending_days", "is_ascending_days", defArgs (top 10), defBody (top 10), defScope (top 10), [], []⟩
def d_check_number : He.DefD := ⟨("check_number", none), "check_number", "check_number", defArgs (top 11), defBody (top 11), defScope (top 11), [], []⟩
def d_check_day : He.DefD := ⟨("check_day", none), "check_day", "check_day", defArgs (top 12), defBody (top 12), defScope (top 12), [], []⟩
def d_are_bits : He.DefD := ⟨("are_bits", none), "are_bits", "are_bits", defArgs (top 16), defBody (top 16), defScope (top 16), [], []⟩
def d_Rule___init__ : He.DefD := ⟨("Rule", some "__init__"), "__init__", "Rule.__init__", defArgs (meth (top 17) 0), defBody (meth (top 17) 0), defScope (meth (top 17) 0), [], []⟩
def d_bit_of : He.DefD := ⟨("bit_of", none), "bit_of", "bit_of", defArgs (top 18), defBody (top 18), defScope (top 18), [], []⟩
def d_has : He.DefD := ⟨("has", none), "has", "has", defArgs (top 19), defBody (top 19), defScope (top 19), [], []⟩
def d_check_seen : He.DefD := ⟨("check_seen", none), "check_seen", "check_seen", defArgs (top 23), defBody (top 23), defScope (top 23), [], []⟩
def d_place_of_day : He.DefD := ⟨("place_of_day", none), "place_of_day", "place_of_day", defArgs (top 24), defBody (top 24), defScope (top 24), [], []⟩
def d_told_places : He.DefD := ⟨("told_places", none), "told_places", "told_places", defArgs (top 25), defBody (top 25), defScope (top 25), [], []⟩
def d_rule_of_places : He.DefD := ⟨("rule_of_places", none), "rule_of_places", "rule_of_places", defArgs (top 26), defBody (top 26), defScope (top 26), [], []⟩
def d_least_rule : He.DefD := ⟨("least_rule", none), "least_rule", "least_rule", defArgs (top 27), defBody (top 27), defScope (top 27), [], []⟩
def d_fitting_rules : He.DefD := ⟨("fitting_rules", none), "fitting_rules", "fitting_rules", defArgs (top 28), defBody (top 28), defScope (top 28), [], []⟩
def d_sure_on : He.DefD := ⟨("sure_on", none), "sure_on", "sure_on", defArgs (top 29), defBody (top 29), defScope (top 29), [], []⟩
def d__law_hand : He.DefD := ⟨("_law_hand", none), "_law_hand", "_law_hand", defArgs (top 31), defBody (top 31), defScope (top 31), [], []⟩
def d__law_draw : He.DefD := ⟨("_law_draw", none), "_law_draw", "_law_draw", defArgs (top 32), defBody (top 32), defScope (top 32), [], []⟩
def d__law_some : He.DefD := ⟨("_law_some", none), "_law_some", "_law_some", defArgs (top 33), defBody (top 33), defScope (top 33), [], []⟩
def d__law_bits : He.DefD := ⟨("_law_bits", none), "_law_bits", "_law_bits", defArgs (top 34), defBody (top 34), defScope (top 34), [], []⟩
def d__law_rule_bits : He.DefD := ⟨("_law_rule_bits", none), "_law_rule_bits", "_law_rule_bits", defArgs (top 35), defBody (top 35), defScope (top 35), [], []⟩
def d__law_is : He.DefD := ⟨("_law_is", none), "_law_is", "_law_is", defArgs (top 36), defBody (top 36), defScope (top 36), [], []⟩
def d__law_bit : He.DefD := ⟨("_law_bit", none), "_law_bit", "_law_bit", defArgs (top 37), defBody (top 37), defScope (top 37), [], []⟩
def d__law_bits_of : He.DefD := ⟨("_law_bits_of", none), "_law_bits_of", "_law_bits_of", defArgs (top 38), defBody (top 38), defScope (top 38), [], []⟩
def d__law_least : He.DefD := ⟨("_law_least", none), "_law_least", "_law_least", defArgs (top 39), defBody (top 39), defScope (top 39), [], []⟩
def d__law_sure : He.DefD := ⟨("_law_sure", none), "_law_sure", "_law_sure", defArgs (top 40), defBody (top 40), defScope (top 40), [], []⟩
def d__law_power : He.DefD := ⟨("_law_power", none), "_law_power", "_law_power", defArgs (top 41), defBody (top 41), defScope (top 41), [], []⟩
def d__law_is_right : He.DefD := ⟨("_law_is_right", none), "_law_is_right", "_law_is_right", defArgs (top 42), defBody (top 42), defScope (top 42), [], []⟩
def d_law : He.DefD := ⟨("law", none), "law", "law", defArgs (top 43), defBody (top 43), defScope (top 43), [], []⟩
def fn : List He.DefD := [d_is_integer, d_is_number, d_is_within, d_is_ascending_days, d_check_number, d_check_day, d_are_bits, d_Rule___init__, d_bit_of, d_has, d_check_seen, d_place_of_day, d_told_places, d_rule_of_places, d_least_rule, d_fitting_rules, d_sure_on, d__law_hand, d__law_draw, d__law_some, d__law_bits, d__law_rule_bits, d__law_is, d__law_bit, d__law_bits_of, d__law_least, d__law_sure, d__law_power, d__law_is_right, d_law]
def fa : List He.Fa := [.free "bool", .free "isinstance", .free "int", .cls "Rule", .noat "Rule" "lead", .free "len", .noat "Rule" "again", .free "abs", .free "repr", .free "range", .glo "is_integer", .free "tuple", .free "all", .glo "place_of_day", .glo "_law_draw", .free "max", .free "min", .glo "_law_bits_of", .glo "is_within", .free "zip", .glo "is_number", .int "MOST_LEAD" 24, .glo "are_bits", .int "MOST_ROUND" 60, .glo "_law_bits", .glo "_law_some", .glo "check_day", .glo "bit_of", .int "MOST_SEEN" 40, .glo "check_number", .glo "is_ascending_days", .mkr "Rule", .glo "Rule", .glo "check_seen", .glo "told_places", .int "MOST_TRIED" 12, .glo "rule_of_places", .glo "_law_rule_bits", .glo "_law_bit", .free "sorted", .glo "_law_least", .glo "least_rule", .glo "_law_is", .glo "has", .glo "_law_power", .glo "fitting_rules", .glo "sure_on", .glo "_law_sure", .glo "_law_hand", .glo "_law_is_right", .glo "law"]
section
variable {P : Program} {w : World} {K : PySem.W.Frag} {mg : Str → Option Value} {base : Heap}
/-! is_integer -/
abbrev st_is_integer : Stmt := top 7
theorem sc_is_integer : FnScope ["thing"] ["thing"] (defScope st_is_integer) := ⟨rfl, rfl, rfl, by decide +kernel, rfl, by decide +kernel, by decide +kernel⟩
noncomputable def fb_is_integer : CS → Fl := (rtS (andE (caE (consA (slO 0) (consA (vlO (cE (.ty "int"))) nilA)) (isiD [])) (notE (caE (consA (slO 0) (consA (vlO (cE (.ty "bool"))) nilA)) (isiD [])))))
noncomputable def g_is_integer : List D → GR := runF 1 [false] fb_is_integer
theorem got_is_integer (c : He.SaysD fa fn K) (X : K.In base) (G : base.Ns mainGlobals mg) : Got P w K mg base 1 (He.ga K "is_integer") ["thing"] [false] g_is_integer :=
  got_of (c.def_ 0 (d := d_is_integer) rfl) sc_is_integer rfl (by decide) (fun _ _ _ _ _ _ us hl => match us, hl with | [_], _ => rfl) fun cdv A outer s H E hr =>
    ((sss_one (ss_ret (sd_and (sd_callB (fun _ _ => call_isi) (v_isi (tb := []) isi_nil) rfl (He.free_ok X G (c.fact 1 (f := .free "isinstance") rfl)) (by decide +kernel) (sa_cons (so_n 0) (sa_cons (SD.o (sd_ty "int" (He.free_ok X G (c.fact 2 (f := .free "int") rfl)))) sa_nil))) (sd_bool1 (sd_not (sd_callB (fun _ _ => call_isi) (v_isi (tb := []) isi_nil) rfl (He.free_ok X G (c.fact 1 (f := .free "isinstance") rfl)) (by decide +kernel) (sa_cons (so_n 0) (sa_cons (SD.o (sd_ty "bool" (He.free_ok X G (c.fact 0 (f := .free "bool") rfl)))) sa_nil)))))))))

/-! bit_of -/
abbrev st_bit_of : Stmt := top 18
theorem sc_bit_of : FnScope ["rule", "day"] ["rule", "day"] (defScope st_bit_of) := ⟨rfl, rfl, rfl, by decide +kernel, rfl, by decide +kernel, by decide +kernel⟩
noncomputable def fb_bit_of : CS → Fl := (seqS (ifS (opE (slO 1) (vlO (caE (consA (vlO (unE (slO 0) (fldD ["Rule"] "lead"))) nilA) lenD)) (c2 fun i j => decide (i < j))) (rtS (opE (vlO (unE (slO 0) (fldD ["Rule"] "lead"))) (slO 1) ixD)) nxS)
    (rtS (opE (vlO (unE (slO 0) (fldD ["Rule"] "again"))) (vlO (opE (vlO (caE (consA (vlO (opE (slO 1) (vlO (caE (consA (vlO (unE (slO 0) (fldD ["Rule"] "lead"))) nilA) lenD)) isub)) nilA) intD)) (vlO (caE (consA (vlO (unE (slO 0) (fldD ["Rule"] "again"))) nilA) lenD)) imod)) ixD)))
noncomputable def g_bit_of : List D → GR := runF 2 [false, false] fb_bit_of
theorem got_bit_of (c : He.SaysD fa fn K) (X : K.In base) (G : base.Ns mainGlobals mg) : Got P w K mg base 1 (He.ga K "bit_of") ["rule", "day"] [false, false] g_bit_of :=
  got_of (c.def_ 8 (d := d_bit_of) rfl) sc_bit_of rfl (by decide) (fun _ _ _ _ _ _ us hl => match us, hl with | [_, _], _ => rfl) fun cdv A outer s H E hr =>
    ((sss_cons
    (ss_if (st_cmp (fun _ _ => op_lt) v_c2 (so_n 1) (SD.o (sd_callB (fun _ _ => call_len) v_len rfl (He.free_ok X G (c.fact 5 (f := .free "len") rfl)) (by decide +kernel) (sa_cons (SD.o (sd_fld ["Rule"] (fld_one (cls_of (c.fact 3 (f := .cls "Rule") rfl)) (noat_of (c.fact 4 (f := .noat "Rule" "lead") rfl))) (so_n 0))) sa_nil)))) (sss_one (ss_ret (sd_ix (fun _ _ => ix_seq) v_ix (SD.o (sd_fld ["Rule"] (fld_one (cls_of (c.fact 3 (f := .cls "Rule") rfl)) (noat_of (c.fact 4 (f := .noat "Rule" "lead") rfl))) (so_n 0))) (so_n 1)))) sss_nil)
    (sss_one (ss_ret (sd_ix (fun _ _ => ix_seq) v_ix (SD.o (sd_fld ["Rule"] (fld_one (cls_of (c.fact 3 (f := .cls "Rule") rfl)) (noat_of (c.fact 6 (f := .noat "Rule" "again") rfl))) (so_n 0))) (SD.o (sd_bin (fun _ _ => op_mod) v_i2c (SD.o (sd_callTy (fun _ _ => call_int1) v_int rfl (He.free_ok X G (c.fact 2 (f := .free "int") rfl)) (by decide +kernel) (sa_cons (SD.o (sd_bin (fun _ _ => op_sub) v_i2 (so_n 1) (SD.o (sd_callB (fun _ _ => call_len) v_len rfl (He.free_ok X G (c.fact 5 (f := .free "len") rfl)) (by decide +kernel) (sa_cons (SD.o (sd_fld ["Rule"] (fld_one (cls_of (c.fact 3 (f := .cls "Rule") rfl)) (noat_of (c.fact 4 (f := .noat "Rule" "lead") rfl))) (so_n 0))) sa_nil))))) sa_nil))) (SD.o (sd_callB (fun _ _ => call_len) v_len rfl (He.free_ok X G (c.fact 5 (f := .free "len") rfl)) (by decide +kernel) (sa_cons (SD.o (sd_fld ["Rule"] (fld_one (cls_of (c.fact 3 (f := .cls "Rule") rfl)) (noat_of (c.fact 6 (f := .noat "Rule" "again") rfl))) (so_n 0))) sa_nil))))))))))

/-! place_of_day -/
abbrev st_place_of_day : Stmt := top 24
theorem sc_place_of_day : FnScope ["day", "lead", "again"] ["day", "lead", "again"] (defScope st_place_of_day) := ⟨rfl, rfl, rfl, by decide +kernel, rfl, by decide +kernel, by decide +kernel⟩
noncomputable def fb_place_of_day : CS → Fl := (rtS (ifE (opE (slO 0) (slO 1) (c2 fun i j => decide (i < j))) (rdS 0) (opE (slO 1) (vlO (opE (vlO (caE (consA (vlO (opE (slO 0) (slO 1) isub)) nilA) intD)) (slO 2) imod)) plus)))
noncomputable def g_place_of_day : List D → GR := runF 3 [false, false, false] fb_place_of_day
theorem got_place_of_day (c : He.SaysD fa fn K) (X : K.In base) (G : base.Ns mainGlobals mg) : Got P w K mg base 1 (He.ga K "place_of_day") ["day", "lead", "again"] [false, false, false] g_place_of_day :=
  got_of (c.def_ 11 (d := d_place_of_day) rfl) sc_place_of_day rfl (by decide) (fun _ _ _ _ _ _ us hl => match us, hl with | [_, _, _], _ => rfl) fun cdv A outer s H E hr =>
    ((sss_one (ss_ret (sd_if (st_cmp (fun _ _ => op_lt) v_c2 (so_n 0) (so_n 1)) (sd_n 0) (sd_bin (fun _ _ => op_plus) v_plus (so_n 1) (SD.o (sd_bin (fun _ _ => op_mod) v_i2c (SD.o (sd_callTy (fun _ _ => call_int1) v_int rfl (He.free_ok X G (c.fact 2 (f := .free "int") rfl)) (by decide +kernel) (sa_cons (SD.o (sd_bin (fun _ _ => op_sub) v_i2 (so_n 0) (so_n 1))) sa_nil))) (so_n 2))))))))

/-! _law_hand -/
abbrev st__law_hand : Stmt := top 31
theorem sc__law_hand : FnScope ["script", "cells", "cell"] ["script"] (defScope st__law_hand) := ⟨rfl, rfl, rfl, by decide +kernel, rfl, by decide +kernel, by decide +kernel⟩
noncomputable def fb__law_hand : CS → Fl := (seqS (stS 1 (lcE [2] (sqE (slE (slO 0) npE (ptE (cE (.int 60))))) (nmG 2) yesT (opE (vlO (caE (consA (vlO (caE (consA (vlO (caE (consA (slO 2) nilA) intD)) nilA) absD)) nilA) intD)) (vlO (opE (vlO (cE (.int 10))) (vlO (cE (.int 36))) ipow)) imod)))
    (rnS (lstE (consA (vlO (rdS 1)) (consA (vlO (cE (.int 0))) (consA (vlO (cE (.int 0))) (consA (vlO (opE (vlO (cE (.int 68503))) (vlO (opE (vlO (cE (.int 31))) (vlO (caE (consA (slO 1) nilA) lenD)) times)) plus)) (consA (vlO (cE (.int 0))) nilA))))))))
noncomputable def g__law_hand : List D → GR := runF 3 [false] fb__law_hand
theorem got__law_hand (c : He.SaysD fa fn K) (X : K.In base) (G : base.Ns mainGlobals mg) : Got P w K mg base 1 (He.ga K "_law_hand") ["script"] [false] g__law_hand :=
  got_of (c.def_ 17 (d := d__law_hand) rfl) sc__law_hand rfl (by decide) (fun _ _ _ _ _ _ us hl => match us, hl with | [_], _ => rfl) fun cdv A outer s H E hr =>
    ((sss_cons
    (SS.frz (ss_setLc (i := 1) rfl sc__law_hand.nd rfl rfl (by first | rfl | exact sw_true rfl rfl rfl | exact sw_true rfl rfl rfl rfl) (blkOk_by (own := [("cell", 2)]) (by first | rfl | decide +kernel)) (by decide) (si_seq (sd_slice (so_n 0) spo_none (spo_some sd_int))) (fun _ _ _ _ _ => (sg_n 2 sc__law_hand.nd)) (fun _ _ _ _ _ => sts_nil) (fun _ _ _ _ _ => (sd_bin (fun _ _ => op_mod) v_i2c (SD.o (sd_callTy (fun _ _ => call_int1) v_int rfl (He.free_ok X G (c.fact 2 (f := .free "int") rfl)) (by decide +kernel) (sa_cons (SD.o (sd_callB (fun _ _ => call_abs) v_abs rfl (He.free_ok X G (c.fact 7 (f := .free "abs") rfl)) (by decide +kernel) (sa_cons (SD.o (sd_callTy (fun _ _ => call_int1) v_int rfl (He.free_ok X G (c.fact 2 (f := .free "int") rfl)) (by decide +kernel) (sa_cons (so_n 2) sa_nil))) sa_nil))) sa_nil))) (SD.o (sd_bin (fun _ _ => op_pow) v_i2c (SD.o sd_int) (SD.o sd_int)))))))
    (sss_one (ss_retN (sn_lst (sa_cons (SD.o (sd_n 1)) (sa_cons (SD.o sd_int) (sa_cons (SD.o sd_int) (sa_cons (SD.o (sd_bin (fun _ _ => op_plus) v_plus (SD.o sd_int) (SD.o (sd_bin (fun _ _ => op_times) v_times (SD.o sd_int) (SD.o (sd_callB (fun _ _ => call_len) v_len rfl (He.free_ok X G (c.fact 5 (f := .free "len") rfl)) (by decide +kernel) (sa_cons (so_n 1) sa_nil))))))) (sa_cons (SD.o sd_int) sa_nil))))))))))

/-! _law_draw -/
abbrev st__law_draw : Stmt := top 32
theorem sc__law_draw : FnScope ["hand", "many", "cell", "digit", "number"] ["hand", "many"] (defScope st__law_draw) := ⟨rfl, rfl, rfl, by decide +kernel, rfl, by decide +kernel, by decide +kernel⟩
noncomputable def fb__law_draw : CS → Fl := (seqS (ifS (andT (opE (vlO (opE (slO 0) (vlO (cE (.int 2))) ixD)) (vlO (cE (.int 0))) eqA) (opE (vlO (opE (slO 0) (vlO (cE (.int 1))) ixD)) (vlO (caE (consA (vlO (opE (slO 0) (vlO (cE (.int 0))) ixD)) nilA) lenD)) (c2 fun i j => decide (i < j)))) (seqS (stS 2 (opE (vlO (opE (slO 0) (vlO (cE (.int 0))) ixD)) (vlO (opE (slO 0) (vlO (cE (.int 1))) ixD)) ixD))
    (seqS (asS (opE (vlO (opE (slO 0) (vlO (cE (.int 1))) ixD)) (vlO (cE (.int 1))) plus) (ixG 0 (cE (.int 1))))
    (seqS (asS (opE (vlO (caE (consA (vlO (opE (vlO (opE (vlO (opE (vlO (opE (slO 0) (vlO (cE (.int 3))) ixD)) (vlO (cE (.int 48271))) times)) (vlO (opE (vlO (opE (vlO (caE (consA (slO 2) nilA) intD)) (vlO (cE (.int 2147483629))) imod)) (vlO (cE (.int 69621))) times)) plus)) (vlO (cE (.int 17))) plus)) nilA) intD)) (vlO (cE (.int 2147483629))) imod) (ixG 0 (cE (.int 3))))
    (ifS (opE (slO 2) (vlO (opE (vlO (cE (.int 10))) (vlO (cE (.int 15))) ipow)) (c2 fun i j => decide (j ≤ i))) (asS (rdS 2) (ixG 0 (cE (.int 2)))) nxS)))) nxS)
    (seqS (ifS (opE (vlO (opE (slO 0) (vlO (cE (.int 2))) ixD)) (vlO (cE (.int 0))) (c2 fun i j => decide (j < i))) (seqS (stS 3 (opE (vlO (caE (consA (vlO (opE (slO 0) (vlO (cE (.int 2))) ixD)) nilA) intD)) (slO 1) imod))
    (seqS (asS (opE (vlO (caE (consA (vlO (opE (slO 0) (vlO (cE (.int 2))) ixD)) nilA) intD)) (slO 1) idiv) (ixG 0 (cE (.int 2))))
    (rsS 3))) nxS)
    (seqS (asS (opE (vlO (opE (slO 0) (vlO (cE (.int 4))) ixD)) (vlO (cE (.int 1))) plus) (ixG 0 (cE (.int 4))))
    (seqS (stS 4 (opE (vlO (caE (consA (vlO (opE (vlO (caE (consA (vlO (opE (vlO (opE (slO 0) (vlO (cE (.int 3))) ixD)) (vlO (opE (vlO (cE (.int 7919))) (vlO (opE (slO 0) (vlO (cE (.int 4))) ixD)) times)) plus)) nilA) intD)) (vlO (cE (.int 40692))) times)) nilA) intD)) (vlO (cE (.int 2147483399))) imod))
    (seqS (stS 4 (opE (vlO (caE (consA (vlO (opE (slO 4) (vlO (opE (vlO (opE (slO 4) (vlO (cE (.int 1009))) idiv)) (vlO (cE (.int 30011))) plus)) times)) nilA) intD)) (vlO (cE (.int 2147483647))) imod))
    (rtS (opE (vlO (caE (consA (vlO (opE (slO 4) (vlO (cE (.int 32))) idiv)) nilA) intD)) (slO 1) imod)))))))
noncomputable def g__law_draw : List D → GR := runF 5 [true, false] fb__law_draw
theorem got__law_draw (c : He.SaysD fa fn K) (X : K.In base) (G : base.Ns mainGlobals mg) : Got P w K mg base 1 (He.ga K "_law_draw") ["hand", "many"] [true, false] g__law_draw :=
  got_of (c.def_ 18 (d := d__law_draw) rfl) sc__law_draw rfl (by decide) (fun _ _ _ _ _ _ us hl => match us, hl with | [_, _], _ => rfl) fun cdv A outer s H E hr =>
    ((sss_cons
    (ss_if (SW.tst (sw_and (st_cmp (fun _ _ => op_eqA hr.rm.units) v_eqA (SD.o (sd_ix (fun _ _ => ix_seq) v_ix (so_n 0) (SD.o sd_int))) (SD.o sd_int)) (sw_and1 (st_cmp (fun _ _ => op_lt) v_c2 (SD.o (sd_ix (fun _ _ => ix_seq) v_ix (so_n 0) (SD.o sd_int))) (SD.o (sd_callB (fun _ _ => call_len) v_len rfl (He.free_ok X G (c.fact 5 (f := .free "len") rfl)) (by decide +kernel) (sa_cons (SD.o (sd_ix (fun _ _ => ix_seq) v_ix (so_n 0) (SD.o sd_int))) sa_nil))))))) (sss_cons
    (ss_set (i := 2) sc__law_draw.nd rfl (.inl rfl) (sd_ix (fun _ _ => ix_seq) v_ix (SD.o (sd_ix (fun _ _ => ix_seq) v_ix (so_n 0) (SD.o sd_int))) (SD.o (sd_ix (fun _ _ => ix_seq) v_ix (so_n 0) (SD.o sd_int)))))
    (sss_cons
    (ss_asg (sd_bin (fun _ _ => op_plus) v_plus (SD.o (sd_ix (fun _ _ => ix_seq) v_ix (so_n 0) (SD.o sd_int))) (SD.o sd_int)) (sg_sub 0 sd_int))
    (sss_cons
    (ss_asg (sd_bin (fun _ _ => op_mod) v_i2c (SD.o (sd_callTy (fun _ _ => call_int1) v_int rfl (He.free_ok X G (c.fact 2 (f := .free "int") rfl)) (by decide +kernel) (sa_cons (SD.o (sd_bin (fun _ _ => op_plus) v_plus (SD.o (sd_bin (fun _ _ => op_plus) v_plus (SD.o (sd_bin (fun _ _ => op_times) v_times (SD.o (sd_ix (fun _ _ => ix_seq) v_ix (so_n 0) (SD.o sd_int))) (SD.o sd_int))) (SD.o (sd_bin (fun _ _ => op_times) v_times (SD.o (sd_bin (fun _ _ => op_mod) v_i2c (SD.o (sd_callTy (fun _ _ => call_int1) v_int rfl (He.free_ok X G (c.fact 2 (f := .free "int") rfl)) (by decide +kernel) (sa_cons (so_n 2) sa_nil))) (SD.o sd_int))) (SD.o sd_int))))) (SD.o sd_int))) sa_nil))) (SD.o sd_int)) (sg_sub 0 sd_int))
    (sss_one (ss_if (st_cmp (fun _ _ => op_ge) v_c2 (so_n 2) (SD.o (sd_bin (fun _ _ => op_pow) v_i2c (SD.o sd_int) (SD.o sd_int)))) (sss_one (ss_asg (sd_n 2) (sg_sub 0 sd_int))) sss_nil))))) sss_nil)
    (sss_cons
    (ss_if (st_cmp (fun _ _ => op_gt) v_c2 (SD.o (sd_ix (fun _ _ => ix_seq) v_ix (so_n 0) (SD.o sd_int))) (SD.o sd_int)) (sss_cons
    (ss_set (i := 3) sc__law_draw.nd rfl (.inl rfl) (sd_bin (fun _ _ => op_mod) v_i2c (SD.o (sd_callTy (fun _ _ => call_int1) v_int rfl (He.free_ok X G (c.fact 2 (f := .free "int") rfl)) (by decide +kernel) (sa_cons (SD.o (sd_ix (fun _ _ => ix_seq) v_ix (so_n 0) (SD.o sd_int))) sa_nil))) (so_n 1)))
    (sss_cons
    (ss_asg (sd_bin (fun _ _ => op_fdiv) v_i2c (SD.o (sd_callTy (fun _ _ => call_int1) v_int rfl (He.free_ok X G (c.fact 2 (f := .free "int") rfl)) (by decide +kernel) (sa_cons (SD.o (sd_ix (fun _ _ => ix_seq) v_ix (so_n 0) (SD.o sd_int))) sa_nil))) (so_n 1)) (sg_sub 0 sd_int))
    (sss_one (ss_retS 3)))) sss_nil)
    (sss_cons
    (ss_asg (sd_bin (fun _ _ => op_plus) v_plus (SD.o (sd_ix (fun _ _ => ix_seq) v_ix (so_n 0) (SD.o sd_int))) (SD.o sd_int)) (sg_sub 0 sd_int))
    (sss_cons
    (ss_set (i := 4) sc__law_draw.nd rfl (.inl rfl) (sd_bin (fun _ _ => op_mod) v_i2c (SD.o (sd_callTy (fun _ _ => call_int1) v_int rfl (He.free_ok X G (c.fact 2 (f := .free "int") rfl)) (by decide +kernel) (sa_cons (SD.o (sd_bin (fun _ _ => op_times) v_times (SD.o (sd_callTy (fun _ _ => call_int1) v_int rfl (He.free_ok X G (c.fact 2 (f := .free "int") rfl)) (by decide +kernel) (sa_cons (SD.o (sd_bin (fun _ _ => op_plus) v_plus (SD.o (sd_ix (fun _ _ => ix_seq) v_ix (so_n 0) (SD.o sd_int))) (SD.o (sd_bin (fun _ _ => op_times) v_times (SD.o sd_int) (SD.o (sd_ix (fun _ _ => ix_seq) v_ix (so_n 0) (SD.o sd_int))))))) sa_nil))) (SD.o sd_int))) sa_nil))) (SD.o sd_int)))
    (sss_cons
    (ss_set (i := 4) sc__law_draw.nd rfl (.inl rfl) (sd_bin (fun _ _ => op_mod) v_i2c (SD.o (sd_callTy (fun _ _ => call_int1) v_int rfl (He.free_ok X G (c.fact 2 (f := .free "int") rfl)) (by decide +kernel) (sa_cons (SD.o (sd_bin (fun _ _ => op_times) v_times (so_n 4) (SD.o (sd_bin (fun _ _ => op_plus) v_plus (SD.o (sd_bin (fun _ _ => op_fdiv) v_i2c (so_n 4) (SD.o sd_int))) (SD.o sd_int))))) sa_nil))) (SD.o sd_int)))
    (sss_one (ss_ret (sd_bin (fun _ _ => op_mod) v_i2c (SD.o (sd_callTy (fun _ _ => call_int1) v_int rfl (He.free_ok X G (c.fact 2 (f := .free "int") rfl)) (by decide +kernel) (sa_cons (SD.o (sd_bin (fun _ _ => op_fdiv) v_i2c (so_n 4) (SD.o sd_int))) sa_nil))) (so_n 1))))))))))

/-! _law_is -/
abbrev st__law_is : Stmt := top 36
theorem sc__law_is : FnScope ["told", "due"] ["told", "due"] (defScope st__law_is) := ⟨rfl, rfl, rfl, by decide +kernel, rfl, by decide +kernel, by decide +kernel⟩
noncomputable def fb__law_is : CS → Fl := (rtS (blE (opE (vlO (caE (consA (slO 0) nilA) reprD)) (vlO (caE (consA (slO 1) nilA) reprD)) eqA)))
noncomputable def g__law_is : List D → GR := runF 2 [false, false] fb__law_is
theorem got__law_is (c : He.SaysD fa fn K) (X : K.In base) (G : base.Ns mainGlobals mg) : Got P w K mg base 1 (He.ga K "_law_is") ["told", "due"] [false, false] g__law_is :=
  got_of (c.def_ 22 (d := d__law_is) rfl) sc__law_is rfl (by decide) (fun _ _ _ _ _ _ us hl => match us, hl with | [_, _], _ => rfl) fun cdv A outer s H E hr =>
    ((sss_one (ss_ret (sd_cmp (fun _ _ => op_eqA hr.rm.units) v_eqA (SD.o (sd_callB (fun _ _ => call_repr hr.gd hr.rm.units) v_repr rfl (He.free_ok X G (c.fact 8 (f := .free "repr") rfl)) (by decide +kernel) (sa_cons (so_n 0) sa_nil))) (SD.o (sd_callB (fun _ _ => call_repr hr.gd hr.rm.units) v_repr rfl (He.free_ok X G (c.fact 8 (f := .free "repr") rfl)) (by decide +kernel) (sa_cons (so_n 1) sa_nil)))))))

/-! _law_bit -/
abbrev st__law_bit : Stmt := top 37
theorem sc__law_bit : FnScope ["rule", "day", "lead", "again"] ["rule", "day"] (defScope st__law_bit) := ⟨rfl, rfl, rfl, by decide +kernel, rfl, by decide +kernel, by decide +kernel⟩
noncomputable def fb__law_bit : CS → Fl := (seqS (asS (rdS 0) (tupG 2 (consG (nmG 2) (consG (nmG 3) nilG))))
    (rtS (ifE (opE (slO 1) (vlO (caE (consA (slO 2) nilA) lenD)) (c2 fun i j => decide (i < j))) (opE (slO 2) (slO 1) ixD) (opE (slO 3) (vlO (opE (vlO (caE (consA (vlO (opE (slO 1) (vlO (caE (consA (slO 2) nilA) lenD)) isub)) nilA) intD)) (vlO (caE (consA (slO 3) nilA) lenD)) imod)) ixD))))
noncomputable def g__law_bit : List D → GR := runF 4 [false, false] fb__law_bit
theorem got__law_bit (c : He.SaysD fa fn K) (X : K.In base) (G : base.Ns mainGlobals mg) : Got P w K mg base 1 (He.ga K "_law_bit") ["rule", "day"] [false, false] g__law_bit :=
  got_of (c.def_ 23 (d := d__law_bit) rfl) sc__law_bit rfl (by decide) (fun _ _ _ _ _ _ us hl => match us, hl with | [_, _], _ => rfl) fun cdv A outer s H E hr =>
    ((sss_cons
    (ss_asg (sd_n 0) (sg_tup rfl (sgs_cons (sg_n 2 sc__law_bit.nd) (sgs_cons (sg_n 3 sc__law_bit.nd) sgs_nil))))
    (sss_one (ss_ret (sd_if (st_cmp (fun _ _ => op_lt) v_c2 (so_n 1) (SD.o (sd_callB (fun _ _ => call_len) v_len rfl (He.free_ok X G (c.fact 5 (f := .free "len") rfl)) (by decide +kernel) (sa_cons (so_n 2) sa_nil)))) (sd_ix (fun _ _ => ix_seq) v_ix (so_n 2) (so_n 1)) (sd_ix (fun _ _ => ix_seq) v_ix (so_n 3) (SD.o (sd_bin (fun _ _ => op_mod) v_i2c (SD.o (sd_callTy (fun _ _ => call_int1) v_int rfl (He.free_ok X G (c.fact 2 (f := .free "int") rfl)) (by decide +kernel) (sa_cons (SD.o (sd_bin (fun _ _ => op_sub) v_i2 (so_n 1) (SD.o (sd_callB (fun _ _ => call_len) v_len rfl (He.free_ok X G (c.fact 5 (f := .free "len") rfl)) (by decide +kernel) (sa_cons (so_n 2) sa_nil))))) sa_nil))) (SD.o (sd_callB (fun _ _ => call_len) v_len rfl (He.free_ok X G (c.fact 5 (f := .free "len") rfl)) (by decide +kernel) (sa_cons (so_n 3) sa_nil)))))))))))

/-! _law_bits_of -/
abbrev st__law_bits_of : Stmt := top 38
theorem sc__law_bits_of : FnScope ["seen", "days", "lead", "size", "first", "again", "day", "bit", "at"] ["seen", "days", "lead", "size"] (defScope st__law_bits_of) := ⟨rfl, rfl, rfl, by decide +kernel, rfl, by decide +kernel, by decide +kernel⟩
noncomputable def fb__law_bits_of : CS → Fl := (seqS (paN 4 5 (opE (vlO (lstE (consA (vlO (cE .non)) nilA))) (slO 2) lrep) (opE (vlO (lstE (consA (vlO (cE .non)) nilA))) (slO 3) lrep))
    (seqS (foS (caE (consA (slO 1) nilA) rng1) (nmG 6) (seqS (stS 7 (caE (consA (vlO (blE (opE (slO 6) (slO 0) inD))) nilA) intD))
    (ifS (opE (slO 6) (slO 2) (c2 fun i j => decide (i < j))) (asS (rdS 7) (ixG 4 (rdS 6))) (seqS (stS 8 (opE (vlO (caE (consA (vlO (opE (slO 6) (slO 2) isub)) nilA) intD)) (slO 3) imod))
    (seqS (ifS (andT (opE (vlO (opE (slO 5) (slO 8) ixD)) (vlO (cE .non)) isNN) (opE (vlO (opE (slO 5) (slO 8) ixD)) (slO 7) neA)) (rtS (cE .non)) nxS)
    (asS (rdS 7) (ixG 5 (rdS 8))))))))
    (rtS (tupE (consA (vlO (rdS 4)) (consA (vlO (rdS 5)) nilA))))))
noncomputable def g__law_bits_of : List D → GR := runF 9 [false, false, false, false] fb__law_bits_of
theorem got__law_bits_of (c : He.SaysD fa fn K) (X : K.In base) (G : base.Ns mainGlobals mg) : Got P w K mg base 1 (He.ga K "_law_bits_of") ["seen", "days", "lead", "size"] [false, false, false, false] g__law_bits_of :=
  got_of (c.def_ 24 (d := d__law_bits_of) rfl) sc__law_bits_of rfl (by decide) (fun _ _ _ _ _ _ us hl => match us, hl with | [_, _, _, _], _ => rfl) fun cdv A outer s H E hr =>
    ((sss_cons
    (ss_parN (i := 4) (j := 5) rfl sc__law_bits_of.nd rfl rfl (by decide) rfl rfl (sn_bin (fun _ _ => op_rep) v_lrepN (SD.o (SN.d (sn_lst (sa_cons (SD.o sd_non) sa_nil)))) (so_n 2)) (sn_bin (fun _ _ => op_rep) v_lrepN (SD.o (SN.d (sn_lst (sa_cons (SD.o sd_non) sa_nil)))) (so_n 3)))
    (sss_cons
    (ss_for rfl (si_range1 rfl (He.free_ok X G (c.fact 9 (f := .free "range") rfl)) (sa_cons (so_n 1) sa_nil)) (sg_n 6 sc__law_bits_of.nd) (sss_cons
    (ss_set (i := 7) sc__law_bits_of.nd rfl (.inl rfl) (sd_callTy (fun _ _ => call_int1) v_int rfl (He.free_ok X G (c.fact 2 (f := .free "int") rfl)) (by decide +kernel) (sa_cons (SD.o (sd_cmp (fun _ _ => op_in_seq) v_in (so_n 6) (so_n 0))) sa_nil)))
    (sss_one (ss_if (st_cmp (fun _ _ => op_lt) v_c2 (so_n 6) (so_n 2)) (sss_one (ss_asg (sd_n 7) (sg_sub 4 (sd_n 6)))) (sss_cons
    (ss_set (i := 8) sc__law_bits_of.nd rfl (.inl rfl) (sd_bin (fun _ _ => op_mod) v_i2c (SD.o (sd_callTy (fun _ _ => call_int1) v_int rfl (He.free_ok X G (c.fact 2 (f := .free "int") rfl)) (by decide +kernel) (sa_cons (SD.o (sd_bin (fun _ _ => op_sub) v_i2 (so_n 6) (so_n 2))) sa_nil))) (so_n 3)))
    (sss_cons
    (ss_if (SW.tst (sw_and (st_cmp (fun _ _ => op_notN) v_isNN (SD.o (sd_ix (fun _ _ => ix_seq) v_ix (so_n 5) (so_n 8))) (SD.o sd_non)) (sw_and1 (st_cmp (fun _ _ => op_neA hr.rm.units) v_neA (SD.o (sd_ix (fun _ _ => ix_seq) v_ix (so_n 5) (so_n 8))) (so_n 7))))) (sss_one (ss_ret sd_non)) sss_nil)
    (sss_one (ss_asg (sd_n 7) (sg_sub 5 (sd_n 8))))))))))
    (sss_one (ss_ret (sd_tup (sa_cons (SD.o (sd_n 4)) (sa_cons (SD.o (sd_n 5)) sa_nil))))))))

/-! _law_power -/
abbrev st__law_power : Stmt := top 41
theorem sc__law_power : FnScope ["often", "found", "turn"] ["often"] (defScope st__law_power) := ⟨rfl, rfl, rfl, by decide +kernel, rfl, by decide +kernel, by decide +kernel⟩
noncomputable def fb__law_power : CS → Fl := (seqS (stS 1 (cE (.int 1)))
    (seqS (foS (caE (consA (slO 0) nilA) rng1) (nmG 2) (stS 1 (opE (slO 1) (vlO (cE (.int 2))) times)))
    (rsS 1)))
noncomputable def g__law_power : List D → GR := runF 3 [false] fb__law_power
theorem got__law_power (c : He.SaysD fa fn K) (X : K.In base) (G : base.Ns mainGlobals mg) : Got P w K mg base 1 (He.ga K "_law_power") ["often"] [false] g__law_power :=
  got_of (c.def_ 27 (d := d__law_power) rfl) sc__law_power rfl (by decide) (fun _ _ _ _ _ _ us hl => match us, hl with | [_], _ => rfl) fun cdv A outer s H E hr =>
    ((sss_cons
    (ss_set (i := 1) sc__law_power.nd rfl (.inl rfl) sd_int)
    (sss_cons
    (ss_for rfl (si_range1 rfl (He.free_ok X G (c.fact 9 (f := .free "range") rfl)) (sa_cons (so_n 0) sa_nil)) (sg_n 2 sc__law_power.nd) (sss_one (ss_set (i := 1) sc__law_power.nd rfl (.inl rfl) (sd_bin (fun _ _ => op_times) v_times (so_n 1) (SD.o sd_int)))))
    (sss_one (ss_retS 1)))))

/-! is_number -/
abbrev st_is_number : Stmt := top 8
theorem sc_is_number : FnScope ["thing"] ["thing"] (defScope st_is_number) := ⟨rfl, rfl, rfl, by decide +kernel, rfl, by decide +kernel, by decide +kernel⟩
noncomputable def fb_is_number : CS → Fl := (rtS (andE (calD (consA (vlO (rdS 0)) nilA) [false] g_is_integer) (blE (opE (slO 0) (vlO (cE (.int 0))) (c2 fun i j => decide (j ≤ i))))))
noncomputable def g_is_number : List D → GR := runF 1 [false] fb_is_number
theorem got_is_number (c : He.SaysD fa fn K) (X : K.In base) (G : base.Ns mainGlobals mg) : Got P w K mg base 2 (He.ga K "is_number") ["thing"] [false] g_is_number :=
  got_of (c.def_ 1 (d := d_is_number) rfl) sc_is_number rfl (by decide) (fun _ _ _ _ _ _ us hl => match us, hl with | [_], _ => rfl) fun cdv A outer s H E hr =>
    ((sss_one (ss_ret (sd_and (sd_callG (got_is_integer c X G) hr (He.glo_ok X G (c.fact 10 (f := .glo "is_integer") rfl)) (sa_cons (SD.o (sd_n 0)) sa_nil)) (sd_bool1 (sd_cmp (fun _ _ => op_ge) v_c2 (so_n 0) (SD.o sd_int)))))))

/-! is_within -/
abbrev st_is_within : Stmt := top 9
theorem sc_is_within : FnScope ["thing", "low", "high"] ["thing", "low", "high"] (defScope st_is_within) := ⟨rfl, rfl, rfl, by decide +kernel, rfl, by decide +kernel, by decide +kernel⟩
noncomputable def fb_is_within : CS → Fl := (rtS (andE (calD (consA (vlO (rdS 0)) nilA) [false] g_is_integer) (blE (chE (slO 1) (slO 0) (slO 2) (c2 fun i j => decide (i ≤ j)) (c2 fun i j => decide (i ≤ j))))))
noncomputable def g_is_within : List D → GR := runF 3 [false, false, false] fb_is_within
theorem got_is_within (c : He.SaysD fa fn K) (X : K.In base) (G : base.Ns mainGlobals mg) : Got P w K mg base 2 (He.ga K "is_within") ["thing", "low", "high"] [false, false, false] g_is_within :=
  got_of (c.def_ 2 (d := d_is_within) rfl) sc_is_within rfl (by decide) (fun _ _ _ _ _ _ us hl => match us, hl with | [_, _, _], _ => rfl) fun cdv A outer s H E hr =>
    ((sss_one (ss_ret (sd_and (sd_callG (got_is_integer c X G) hr (He.glo_ok X G (c.fact 10 (f := .glo "is_integer") rfl)) (sa_cons (SD.o (sd_n 0)) sa_nil)) (sd_bool1 (sd_chain (fun _ _ => op_le) (fun _ _ => op_le) v_c2 v_c2 (so_n 1) (so_n 0) (so_n 2)))))))

/-! are_bits -/
abbrev st_are_bits : Stmt := top 16
theorem sc_are_bits : FnScope ["thing", "low", "high", "bit"] ["thing", "low", "high"] (defScope st_are_bits) := ⟨rfl, rfl, rfl, by decide +kernel, rfl, by decide +kernel, by decide +kernel⟩
noncomputable def fb_are_bits : CS → Fl := (seqS (ifS (orT (notT (tsE (caE (consA (slO 0) (consA (vlO (cE (.ty "tuple"))) nilA)) (isiD [])))) (notT (chE (slO 1) (vlO (caE (consA (slO 0) nilA) lenD)) (slO 2) (c2 fun i j => decide (i ≤ j)) (c2 fun i j => decide (i ≤ j))))) (rtS (cE (.bl false))) nxS)
    (rtS (caE (consA (vlO (lcE [3] (sqE (rdS 0)) (nmG 3) yesT (andE (calD (consA (vlO (rdS 3)) nilA) [false] g_is_integer) (blE (chE (vlO (cE (.int 0))) (slO 3) (vlO (cE (.int 1))) (c2 fun i j => decide (i ≤ j)) (c2 fun i j => decide (i ≤ j))))))) nilA) allBD)))
noncomputable def g_are_bits : List D → GR := runF 4 [false, false, false] fb_are_bits
theorem got_are_bits (c : He.SaysD fa fn K) (X : K.In base) (G : base.Ns mainGlobals mg) : Got P w K mg base 2 (He.ga K "are_bits") ["thing", "low", "high"] [false, false, false] g_are_bits :=
  got_of (c.def_ 6 (d := d_are_bits) rfl) sc_are_bits rfl (by decide) (fun _ _ _ _ _ _ us hl => match us, hl with | [_, _, _], _ => rfl) fun cdv A outer s H E hr =>
    ((sss_cons
    (ss_if (SW.tst (sw_or (st_not (SD.tst (sd_callB (fun _ _ => call_isi) (v_isi (tb := []) isi_nil) rfl (He.free_ok X G (c.fact 1 (f := .free "isinstance") rfl)) (by decide +kernel) (sa_cons (so_n 0) (sa_cons (SD.o (sd_ty "tuple" (He.free_ok X G (c.fact 11 (f := .free "tuple") rfl)))) sa_nil))))) (sw_or1 (st_not (st_chain (fun _ _ => op_le) (fun _ _ => op_le) v_c2 v_c2 (so_n 1) (SD.o (sd_callB (fun _ _ => call_len) v_len rfl (He.free_ok X G (c.fact 5 (f := .free "len") rfl)) (by decide +kernel) (sa_cons (so_n 0) sa_nil))) (so_n 2)))))) (sss_one (ss_ret sd_bl)) sss_nil)
    (sss_one (ss_ret (sd_callB (fun _ _ => cr_all rfl) v_bl rfl (He.free_ok X G (c.fact 12 (f := .free "all") rfl)) (by decide +kernel) (sa_cons (SD.o (SN.d (sn_lc rfl sc_are_bits.nd (blkOk_by (own := [("bit", 3)]) (by first | rfl | decide +kernel)) (by decide) (si_seq (sd_n 0)) (fun _ _ _ _ _ => (sg_n 3 sc_are_bits.nd)) (fun _ _ _ _ _ => sts_nil) (fun _ _ _ _ _ => (sd_and (sd_callG (got_is_integer c X G) hr (He.glo_ok X G (c.fact 10 (f := .glo "is_integer") rfl)) (sa_cons (SD.o (sd_n 3)) sa_nil)) (sd_bool1 (sd_chain (fun _ _ => op_le) (fun _ _ => op_le) v_c2 v_c2 (SD.o sd_int) (so_n 3) (SD.o sd_int)))))))) sa_nil))))))

/-! told_places -/
abbrev st_told_places : Stmt := top 25
theorem sc_told_places : FnScope ["seen", "days", "lead", "again", "found", "day", "place", "flag"] ["seen", "days", "lead", "again"] (defScope st_told_places) := ⟨rfl, rfl, rfl, by decide +kernel, rfl, by decide +kernel, by decide +kernel⟩
noncomputable def fb_told_places : CS → Fl := (seqS (snS 4 (opE (vlO (lstE (consA (vlO (cE .non)) nilA))) (vlO (opE (slO 2) (slO 3) plus)) lrep))
    (seqS (foS (caE (consA (slO 1) nilA) rng1) (nmG 5) (seqS (paS 6 7 (consA (vlO (calD (consA (vlO (rdS 5)) (consA (vlO (rdS 2)) (consA (vlO (rdS 3)) nilA))) [false, false, false] g_place_of_day)) (consA (vlO (blE (opE (slO 5) (slO 0) inD))) nilA)))
    (seqS (ifS (andT (opE (vlO (opE (slO 4) (slO 6) ixD)) (vlO (cE .non)) isNN) (opE (vlO (opE (slO 4) (slO 6) ixD)) (slO 7) neA)) (rtS (cE .non)) nxS)
    (asS (rdS 7) (ixG 4 (rdS 6))))))
    (rsS 4)))
noncomputable def g_told_places : List D → GR := runF 8 [false, false, false, false] fb_told_places
theorem got_told_places (c : He.SaysD fa fn K) (X : K.In base) (G : base.Ns mainGlobals mg) : Got P w K mg base 2 (He.ga K "told_places") ["seen", "days", "lead", "again"] [false, false, false, false] g_told_places :=
  got_of (c.def_ 12 (d := d_told_places) rfl) sc_told_places rfl (by decide) (fun _ _ _ _ _ _ us hl => match us, hl with | [_, _, _, _], _ => rfl) fun cdv A outer s H E hr =>
    ((sss_cons
    (ss_setN (i := 4) sc_told_places.nd rfl (.inl rfl) (sn_bin (fun _ _ => op_rep) v_lrepN (SD.o (SN.d (sn_lst (sa_cons (SD.o sd_non) sa_nil)))) (SD.o (sd_bin (fun _ _ => op_plus) v_plus (so_n 2) (so_n 3)))))
    (sss_cons
    (ss_for rfl (si_range1 rfl (He.free_ok X G (c.fact 9 (f := .free "range") rfl)) (sa_cons (so_n 1) sa_nil)) (sg_n 5 sc_told_places.nd) (sss_cons
    (ss_par (i := 6) (j := 7) rfl sc_told_places.nd rfl rfl (by decide) rfl rfl (sa_cons (SD.o (sd_callG (got_place_of_day c X G) hr (He.glo_ok X G (c.fact 13 (f := .glo "place_of_day") rfl)) (sa_cons (SD.o (sd_n 5)) (sa_cons (SD.o (sd_n 2)) (sa_cons (SD.o (sd_n 3)) sa_nil))))) (sa_cons (SD.o (sd_cmp (fun _ _ => op_in_seq) v_in (so_n 5) (so_n 0))) sa_nil)))
    (sss_cons
    (ss_if (SW.tst (sw_and (st_cmp (fun _ _ => op_notN) v_isNN (SD.o (sd_ix (fun _ _ => ix_seq) v_ix (so_n 4) (so_n 6))) (SD.o sd_non)) (sw_and1 (st_cmp (fun _ _ => op_neA hr.rm.units) v_neA (SD.o (sd_ix (fun _ _ => ix_seq) v_ix (so_n 4) (so_n 6))) (so_n 7))))) (sss_one (ss_ret sd_non)) sss_nil)
    (sss_one (ss_asg (sd_n 7) (sg_sub 4 (sd_n 6)))))))
    (sss_one (ss_retS 4)))))

/-! _law_some -/
abbrev st__law_some : Stmt := top 33
theorem sc__law_some : FnScope ["hand", "things"] ["hand", "things"] (defScope st__law_some) := ⟨rfl, rfl, rfl, by decide +kernel, rfl, by decide +kernel, by decide +kernel⟩
noncomputable def fb__law_some : CS → Fl := (rtS (opE (slO 1) (vlO (calD (consA (slO 0) (consA (vlO (caE (consA (slO 1) nilA) lenD)) nilA)) [true, false] g__law_draw)) ixD))
noncomputable def g__law_some : List D → GR := runF 2 [true, false] fb__law_some
theorem got__law_some (c : He.SaysD fa fn K) (X : K.In base) (G : base.Ns mainGlobals mg) : Got P w K mg base 2 (He.ga K "_law_some") ["hand", "things"] [true, false] g__law_some :=
  got_of (c.def_ 19 (d := d__law_some) rfl) sc__law_some rfl (by decide) (fun _ _ _ _ _ _ us hl => match us, hl with | [_, _], _ => rfl) fun cdv A outer s H E hr =>
    ((sss_one (ss_ret (sd_ix (fun _ _ => ix_seq) v_ix (so_n 1) (SD.o (sd_callG (got__law_draw c X G) hr (He.glo_ok X G (c.fact 14 (f := .glo "_law_draw") rfl)) (sa_cons (so_n 0) (sa_cons (SD.o (sd_callB (fun _ _ => call_len) v_len rfl (He.free_ok X G (c.fact 5 (f := .free "len") rfl)) (by decide +kernel) (sa_cons (so_n 1) sa_nil))) sa_nil))))))))

/-! _law_bits -/
abbrev st__law_bits : Stmt := top 34
theorem sc__law_bits : FnScope ["hand", "many", "at"] ["hand", "many"] (defScope st__law_bits) := ⟨rfl, rfl, rfl, by decide +kernel, rfl, by decide +kernel, by decide +kernel⟩
noncomputable def fb__law_bits : CS → Fl := (rtS (caE (consA (vlO (lcE [2] (caE (consA (slO 1) nilA) rng1) (nmG 2) yesT (calD (consA (slO 0) (consA (vlO (cE (.int 2))) nilA)) [true, false] g__law_draw))) nilA) tupD))
noncomputable def g__law_bits : List D → GR := runF 3 [true, false] fb__law_bits
theorem got__law_bits (c : He.SaysD fa fn K) (X : K.In base) (G : base.Ns mainGlobals mg) : Got P w K mg base 2 (He.ga K "_law_bits") ["hand", "many"] [true, false] g__law_bits :=
  got_of (c.def_ 20 (d := d__law_bits) rfl) sc__law_bits rfl (by decide) (fun _ _ _ _ _ _ us hl => match us, hl with | [_, _], _ => rfl) fun cdv A outer s H E hr =>
    ((sss_one (ss_ret (sd_callTy (fun _ _ => call_tuple_of) v_tup rfl (He.free_ok X G (c.fact 11 (f := .free "tuple") rfl)) (by decide +kernel) (sa_cons (SD.o (SN.d (sn_lc rfl sc__law_bits.nd (blkOk_by (own := [("at", 2)]) (by first | rfl | decide +kernel)) (by decide) (si_range1 rfl (He.free_ok X G (c.fact 9 (f := .free "range") rfl)) (sa_cons (so_n 1) sa_nil)) (fun _ _ _ _ _ => (sg_n 2 sc__law_bits.nd)) (fun _ _ _ _ _ => sts_nil) (fun _ _ _ _ _ => (sd_callG (got__law_draw c X G) hr (He.glo_ok X G (c.fact 14 (f := .glo "_law_draw") rfl)) (sa_cons (so_n 0) (sa_cons (SD.o sd_int) sa_nil))))))) sa_nil)))))

/-! _law_least -/
abbrev st__law_least : Stmt := top 39
theorem sc__law_least : FnScope ["seen", "days", "whole", "size", "found", "bit"] ["seen", "days"] (defScope st__law_least) := ⟨rfl, rfl, rfl, by decide +kernel, rfl, by decide +kernel, by decide +kernel⟩
noncomputable def fb__law_least : CS → Fl := (seqS (foS (caE (consA (vlO (cE (.int 1))) (consA (vlO (cE (.int 100))) nilA)) rng2) (nmG 2) (foS (caE (consA (vlO (caE (consA (vlO (cE (.int 1))) (consA (vlO (opE (slO 2) (vlO (cE (.int 24))) isub)) nilA)) maxD)) (consA (vlO (opE (vlO (caE (consA (vlO (cE (.int 60))) (consA (slO 2) nilA)) minD)) (vlO (cE (.int 1))) plus)) nilA)) rng2) (nmG 3) (seqS (stS 4 (calD (consA (vlO (rdS 0)) (consA (vlO (rdS 1)) (consA (vlO (opE (slO 2) (slO 3) isub)) (consA (vlO (rdS 3)) nilA)))) [false, false, false, false] g__law_bits_of))
    (ifS (opE (slO 4) (vlO (cE .non)) isNN) (rtS (tupE (consA (vlO (caE (consA (vlO (lcE [5] (sqE (opE (slO 4) (vlO (cE (.int 0))) ixD)) (nmG 5) yesT (caE (consA (vlO (blE (opE (slO 5) (vlO (cE (.int 1))) eqA))) nilA) intD))) nilA) tupD)) (consA (vlO (caE (consA (vlO (lcE [5] (sqE (opE (slO 4) (vlO (cE (.int 1))) ixD)) (nmG 5) yesT (caE (consA (vlO (blE (opE (slO 5) (vlO (cE (.int 1))) eqA))) nilA) intD))) nilA) tupD)) nilA)))) nxS))))
    (rtS (cE .non)))
noncomputable def g__law_least : List D → GR := runF 6 [false, false] fb__law_least
theorem got__law_least (c : He.SaysD fa fn K) (X : K.In base) (G : base.Ns mainGlobals mg) : Got P w K mg base 2 (He.ga K "_law_least") ["seen", "days"] [false, false] g__law_least :=
  got_of (c.def_ 25 (d := d__law_least) rfl) sc__law_least rfl (by decide) (fun _ _ _ _ _ _ us hl => match us, hl with | [_, _], _ => rfl) fun cdv A outer s H E hr =>
    ((sss_cons
    (ss_for rfl (si_range2 rfl (He.free_ok X G (c.fact 9 (f := .free "range") rfl)) (sa_cons (SD.o sd_int) (sa_cons (SD.o sd_int) sa_nil))) (sg_n 2 sc__law_least.nd) (sss_one (ss_for rfl (si_range2 rfl (He.free_ok X G (c.fact 9 (f := .free "range") rfl)) (sa_cons (SD.o (sd_callB (fun _ _ => call_max2 rfl) v_max rfl (He.free_ok X G (c.fact 15 (f := .free "max") rfl)) (by decide +kernel) (sa_cons (SD.o sd_int) (sa_cons (SD.o (sd_bin (fun _ _ => op_sub) v_i2 (so_n 2) (SD.o sd_int))) sa_nil)))) (sa_cons (SD.o (sd_bin (fun _ _ => op_plus) v_plus (SD.o (sd_callB (fun _ _ => call_min2 rfl) v_min rfl (He.free_ok X G (c.fact 16 (f := .free "min") rfl)) (by decide +kernel) (sa_cons (SD.o sd_int) (sa_cons (so_n 2) sa_nil)))) (SD.o sd_int))) sa_nil))) (sg_n 3 sc__law_least.nd) (sss_cons
    (ss_set (i := 4) sc__law_least.nd rfl (.inl rfl) (sd_callG (got__law_bits_of c X G) hr (He.glo_ok X G (c.fact 17 (f := .glo "_law_bits_of") rfl)) (sa_cons (SD.o (sd_n 0)) (sa_cons (SD.o (sd_n 1)) (sa_cons (SD.o (sd_bin (fun _ _ => op_sub) v_i2 (so_n 2) (so_n 3))) (sa_cons (SD.o (sd_n 3)) sa_nil))))))
    (sss_one (ss_if (st_cmp (fun _ _ => op_notN) v_isNN (so_n 4) (SD.o sd_non)) (sss_one (ss_ret (sd_tup (sa_cons (SD.o (sd_callTy (fun _ _ => call_tuple_of) v_tup rfl (He.free_ok X G (c.fact 11 (f := .free "tuple") rfl)) (by decide +kernel) (sa_cons (SD.o (SN.d (sn_lc rfl sc__law_least.nd (blkOk_by (own := [("bit", 5)]) (by first | rfl | decide +kernel)) (by decide) (si_seq (sd_ix (fun _ _ => ix_seq) v_ix (so_n 4) (SD.o sd_int))) (fun _ _ _ _ _ => (sg_n 5 sc__law_least.nd)) (fun _ _ _ _ _ => sts_nil) (fun _ _ _ _ _ => (sd_callTy (fun _ _ => call_int1) v_int rfl (He.free_ok X G (c.fact 2 (f := .free "int") rfl)) (by decide +kernel) (sa_cons (SD.o (sd_cmp (fun _ _ => op_eqA hr.rm.units) v_eqA (so_n 5) (SD.o sd_int))) sa_nil)))))) sa_nil))) (sa_cons (SD.o (sd_callTy (fun _ _ => call_tuple_of) v_tup rfl (He.free_ok X G (c.fact 11 (f := .free "tuple") rfl)) (by decide +kernel) (sa_cons (SD.o (SN.d (sn_lc rfl sc__law_least.nd (blkOk_by (own := [("bit", 5)]) (by first | rfl | decide +kernel)) (by decide) (si_seq (sd_ix (fun _ _ => ix_seq) v_ix (so_n 4) (SD.o sd_int))) (fun _ _ _ _ _ => (sg_n 5 sc__law_least.nd)) (fun _ _ _ _ _ => sts_nil) (fun _ _ _ _ _ => (sd_callTy (fun _ _ => call_int1) v_int rfl (He.free_ok X G (c.fact 2 (f := .free "int") rfl)) (by decide +kernel) (sa_cons (SD.o (sd_cmp (fun _ _ => op_eqA hr.rm.units) v_eqA (so_n 5) (SD.o sd_int))) sa_nil)))))) sa_nil))) sa_nil))))) sss_nil))))))
    (sss_one (ss_ret sd_non))))

/-! _law_sure -/
abbrev st__law_sure : Stmt := top 40
theorem sc__law_sure : FnScope ["seen", "days", "day", "told", "size", "found", "bit"] ["seen", "days", "day"] (defScope st__law_sure) := ⟨rfl, rfl, rfl, by decide +kernel, rfl, by decide +kernel, by decide +kernel⟩
noncomputable def fb__law_sure : CS → Fl := (seqS (snS 3 (lstE nilA))
    (seqS (foS (caE (consA (vlO (cE (.int 1))) (consA (vlO (cE (.int 13))) nilA)) rng2) (nmG 4) (seqS (stS 5 (calD (consA (vlO (rdS 0)) (consA (vlO (rdS 1)) (consA (vlO (cE (.int 0))) (consA (vlO (rdS 4)) nilA)))) [false, false, false, false] g__law_bits_of))
    (ifS (opE (slO 5) (vlO (cE .non)) isNN) (seqS (stS 6 (opE (vlO (opE (slO 5) (vlO (cE (.int 1))) ixD)) (vlO (opE (vlO (caE (consA (slO 2) nilA) intD)) (slO 4) imod)) ixD))
    (exS (mtE 3 (ifE (opE (slO 6) (vlO (cE .non)) isN) (lstE (consA (vlO (cE (.int 0))) (consA (vlO (cE (.int 1))) nilA))) (lstE (consA (vlO (rdS 6)) nilA))) exD))) nxS)))
    (seqS (ifS (opE (slO 3) (vlO (lstE nilA)) eqA) (rtS (cE (.str "none"))) nxS)
    (rtS (ifE (andT (opE (vlO (cE (.int 0))) (slO 3) inD) (opE (vlO (cE (.int 1))) (slO 3) inD)) (cE .non) (blE (opE (vlO (opE (slO 3) (vlO (cE (.int 0))) ixD)) (vlO (cE (.int 1))) eqA)))))))
noncomputable def g__law_sure : List D → GR := runF 7 [false, false, false] fb__law_sure
theorem got__law_sure (c : He.SaysD fa fn K) (X : K.In base) (G : base.Ns mainGlobals mg) : Got P w K mg base 2 (He.ga K "_law_sure") ["seen", "days", "day"] [false, false, false] g__law_sure :=
  got_of (c.def_ 26 (d := d__law_sure) rfl) sc__law_sure rfl (by decide) (fun _ _ _ _ _ _ us hl => match us, hl with | [_, _, _], _ => rfl) fun cdv A outer s H E hr =>
    ((sss_cons
    (ss_setN (i := 3) sc__law_sure.nd rfl (.inl rfl) (sn_lst sa_nil))
    (sss_cons
    (ss_for rfl (si_range2 rfl (He.free_ok X G (c.fact 9 (f := .free "range") rfl)) (sa_cons (SD.o sd_int) (sa_cons (SD.o sd_int) sa_nil))) (sg_n 4 sc__law_sure.nd) (sss_cons
    (ss_set (i := 5) sc__law_sure.nd rfl (.inl rfl) (sd_callG (got__law_bits_of c X G) hr (He.glo_ok X G (c.fact 17 (f := .glo "_law_bits_of") rfl)) (sa_cons (SD.o (sd_n 0)) (sa_cons (SD.o (sd_n 1)) (sa_cons (SD.o sd_int) (sa_cons (SD.o (sd_n 4)) sa_nil))))))
    (sss_one (ss_if (st_cmp (fun _ _ => op_notN) v_isNN (so_n 5) (SD.o sd_non)) (sss_cons
    (ss_set (i := 6) sc__law_sure.nd rfl (.inl rfl) (sd_ix (fun _ _ => ix_seq) v_ix (SD.o (sd_ix (fun _ _ => ix_seq) v_ix (so_n 5) (SD.o sd_int))) (SD.o (sd_bin (fun _ _ => op_mod) v_i2c (SD.o (sd_callTy (fun _ _ => call_int1) v_int rfl (He.free_ok X G (c.fact 2 (f := .free "int") rfl)) (by decide +kernel) (sa_cons (so_n 2) sa_nil))) (so_n 4)))))
    (sss_one (ss_expr (sd_mt 3 (fun _ _ => mt_extend) v_extend PySem.F.slot_list_extend PySem.F.type_list_extend (sd_if (st_cmp (fun _ _ => op_isN) v_isN (so_n 6) (SD.o sd_non)) (SN.d (sn_lst (sa_cons (SD.o sd_int) (sa_cons (SD.o sd_int) sa_nil)))) (SN.d (sn_lst (sa_cons (SD.o (sd_n 6)) sa_nil)))))))) sss_nil))))
    (sss_cons
    (ss_if (st_cmp (fun _ _ => op_eqA hr.rm.units) v_eqA (so_n 3) (SD.o (SN.d (sn_lst sa_nil)))) (sss_one (ss_ret sd_str)) sss_nil)
    (sss_one (ss_ret (sd_if (SW.tst (sw_and (st_cmp (fun _ _ => op_in_seq) v_in (SD.o sd_int) (so_n 3)) (sw_and1 (st_cmp (fun _ _ => op_in_seq) v_in (SD.o sd_int) (so_n 3))))) sd_non (sd_cmp (fun _ _ => op_eqA hr.rm.units) v_eqA (SD.o (sd_ix (fun _ _ => ix_seq) v_ix (so_n 3) (SD.o sd_int))) (SD.o sd_int)))))))))

/-! is_ascending_days -/
abbrev st_is_ascending_days : Stmt := top 10
theorem sc_is_ascending_days : FnScope ["thing", "most", "day", "one", "other"] ["thing", "most"] (defScope st_is_ascending_days) := ⟨rfl, rfl, rfl, by decide +kernel, rfl, by decide +kernel, by decide +kernel⟩
noncomputable def fb_is_ascending_days : CS → Fl := (seqS (ifS (orT (notT (tsE (caE (consA (slO 0) (consA (vlO (cE (.ty "tuple"))) nilA)) (isiD [])))) (notT (tsE (caE (consA (vlO (lcE [2] (sqE (rdS 0)) (nmG 2) yesT (calD (consA (vlO (rdS 2)) (consA (vlO (cE (.int 0))) (consA (vlO (opE (slO 1) (vlO (cE (.int 1))) isub)) nilA))) [false, false, false] g_is_within))) nilA) allBD)))) (rtS (cE (.bl false))) nxS)
    (rtS (caE (consA (vlO (lcE [3, 4] (zpE (rdS 0) (slE (slO 0) (ptE (cE (.int 1))) npE)) (tupG 2 (consG (nmG 3) (consG (nmG 4) nilG))) yesT (blE (opE (slO 3) (slO 4) (c2 fun i j => decide (i < j)))))) nilA) allBD)))
noncomputable def g_is_ascending_days : List D → GR := runF 5 [false, false] fb_is_ascending_days
theorem got_is_ascending_days (c : He.SaysD fa fn K) (X : K.In base) (G : base.Ns mainGlobals mg) : Got P w K mg base 3 (He.ga K "is_ascending_days") ["thing", "most"] [false, false] g_is_ascending_days :=
  got_of (c.def_ 3 (d := d_is_ascending_days) rfl) sc_is_ascending_days rfl (by decide) (fun _ _ _ _ _ _ us hl => match us, hl with | [_, _], _ => rfl) fun cdv A outer s H E hr =>
    ((sss_cons
    (ss_if (SW.tst (sw_or (st_not (SD.tst (sd_callB (fun _ _ => call_isi) (v_isi (tb := []) isi_nil) rfl (He.free_ok X G (c.fact 1 (f := .free "isinstance") rfl)) (by decide +kernel) (sa_cons (so_n 0) (sa_cons (SD.o (sd_ty "tuple" (He.free_ok X G (c.fact 11 (f := .free "tuple") rfl)))) sa_nil))))) (sw_or1 (st_not (SD.tst (sd_callB (fun _ _ => cr_all rfl) v_bl rfl (He.free_ok X G (c.fact 12 (f := .free "all") rfl)) (by decide +kernel) (sa_cons (SD.o (SN.d (sn_lc rfl sc_is_ascending_days.nd (blkOk_by (own := [("day", 2)]) (by first | rfl | decide +kernel)) (by decide) (si_seq (sd_n 0)) (fun _ _ _ _ _ => (sg_n 2 sc_is_ascending_days.nd)) (fun _ _ _ _ _ => sts_nil) (fun _ _ _ _ _ => (sd_callG (got_is_within c X G) hr (He.glo_ok X G (c.fact 18 (f := .glo "is_within") rfl)) (sa_cons (SD.o (sd_n 2)) (sa_cons (SD.o sd_int) (sa_cons (SD.o (sd_bin (fun _ _ => op_sub) v_i2 (so_n 1) (SD.o sd_int))) sa_nil)))))))) sa_nil))))))) (sss_one (ss_ret sd_bl)) sss_nil)
    (sss_one (ss_ret (sd_callB (fun _ _ => cr_all rfl) v_bl rfl (He.free_ok X G (c.fact 12 (f := .free "all") rfl)) (by decide +kernel) (sa_cons (SD.o (SN.d (sn_lc rfl sc_is_ascending_days.nd (blkOk_by (own := [("one", 3), ("other", 4)]) (by first | rfl | decide +kernel)) (by decide) (si_zip rfl (He.free_ok X G (c.fact 19 (f := .free "zip") rfl)) (sd_n 0) (sd_slice (so_n 0) (spo_some sd_int) spo_none)) (fun _ _ _ _ _ => (sg_tup rfl (sgs_cons (sg_n 3 sc_is_ascending_days.nd) (sgs_cons (sg_n 4 sc_is_ascending_days.nd) sgs_nil)))) (fun _ _ _ _ _ => sts_nil) (fun _ _ _ _ _ => (sd_cmp (fun _ _ => op_lt) v_c2 (so_n 3) (so_n 4)))))) sa_nil))))))

/-! check_number -/
abbrev st_check_number : Stmt := top 11
theorem sc_check_number : FnScope ["thing", "low", "high"] ["thing", "low", "high"] (defScope st_check_number) := ⟨rfl, rfl, rfl, by decide +kernel, rfl, by decide +kernel, by decide +kernel⟩
noncomputable def fb_check_number : CS → Fl := (ifS (notT (tsE (calD (consA (vlO (rdS 0)) (consA (vlO (rdS 1)) (consA (vlO (rdS 2)) nilA))) [false, false, false] g_is_within))) badS nxS)
noncomputable def g_check_number : List D → GR := runF 3 [false, false, false] fb_check_number
theorem got_check_number (c : He.SaysD fa fn K) (X : K.In base) (G : base.Ns mainGlobals mg) : Got P w K mg base 3 (He.ga K "check_number") ["thing", "low", "high"] [false, false, false] g_check_number :=
  got_of (c.def_ 4 (d := d_check_number) rfl) sc_check_number rfl (by decide) (fun _ _ _ _ _ _ us hl => match us, hl with | [_, _, _], _ => rfl) fun cdv A outer s H E hr =>
    ((sss_one (ss_if (st_not (SD.tst (sd_callG (got_is_within c X G) hr (He.glo_ok X G (c.fact 18 (f := .glo "is_within") rfl)) (sa_cons (SD.o (sd_n 0)) (sa_cons (SD.o (sd_n 1)) (sa_cons (SD.o (sd_n 2)) sa_nil)))))) (sss_one ss_bad) sss_nil)))

/-! check_day -/
abbrev st_check_day : Stmt := top 12
theorem sc_check_day : FnScope ["thing"] ["thing"] (defScope st_check_day) := ⟨rfl, rfl, rfl, by decide +kernel, rfl, by decide +kernel, by decide +kernel⟩
noncomputable def fb_check_day : CS → Fl := (ifS (notT (tsE (calD (consA (vlO (rdS 0)) nilA) [false] g_is_number))) badS nxS)
noncomputable def g_check_day : List D → GR := runF 1 [false] fb_check_day
theorem got_check_day (c : He.SaysD fa fn K) (X : K.In base) (G : base.Ns mainGlobals mg) : Got P w K mg base 3 (He.ga K "check_day") ["thing"] [false] g_check_day :=
  got_of (c.def_ 5 (d := d_check_day) rfl) sc_check_day rfl (by decide) (fun _ _ _ _ _ _ us hl => match us, hl with | [_], _ => rfl) fun cdv A outer s H E hr =>
    ((sss_one (ss_if (st_not (SD.tst (sd_callG (got_is_number c X G) hr (He.glo_ok X G (c.fact 20 (f := .glo "is_number") rfl)) (sa_cons (SD.o (sd_n 0)) sa_nil)))) (sss_one ss_bad) sss_nil)))

/-! Rule.__init__ -/
abbrev st_Rule___init__ : Stmt := meth (top 17) 0
theorem sc_Rule___init__ : FnScope ["self", "lead", "again"] ["self", "lead", "again"] (defScope st_Rule___init__) := ⟨rfl, rfl, rfl, by decide +kernel, rfl, by decide +kernel, by decide +kernel⟩
noncomputable def fb_Rule___init__ : CS → Fl := (seqS (ifS (notT (tsE (calD (consA (vlO (rdS 1)) (consA (vlO (cE (.int 0))) (consA (vlO (cE (.int 24))) nilA))) [false, false, false] g_are_bits))) badS nxS)
    (seqS (ifS (notT (tsE (calD (consA (vlO (rdS 2)) (consA (vlO (cE (.int 1))) (consA (vlO (cE (.int 60))) nilA))) [false, false, false] g_are_bits))) badS nxS)
    (seqS (fdS 0 ["Rule"] "lead" (rdS 1))
    (fdS 0 ["Rule"] "again" (rdS 2)))))
noncomputable def g_Rule___init__ : List D → GR := runF 3 [true, false, false] fb_Rule___init__
theorem got_Rule___init__ (c : He.SaysD fa fn K) (X : K.In base) (G : base.Ns mainGlobals mg) : Got P w K mg base 3 (He.ma K (He.ga K "Rule") "__init__") ["self", "lead", "again"] [true, false, false] g_Rule___init__ :=
  got_of (c.def_ 7 (d := d_Rule___init__) rfl) sc_Rule___init__ rfl (by decide) (fun _ _ _ _ _ _ us hl => match us, hl with | [_, _, _], _ => rfl) fun cdv A outer s H E hr =>
    ((sss_cons
    (ss_if (st_not (SD.tst (sd_callG (got_are_bits c X G) hr (He.glo_ok X G (c.fact 22 (f := .glo "are_bits") rfl)) (sa_cons (SD.o (sd_n 1)) (sa_cons (SD.o sd_int) (sa_cons (SD.o (sd_gint (He.int_ok X G (c.fact 21 (f := .int "MOST_LEAD" 24) rfl)))) sa_nil)))))) (sss_one ss_bad) sss_nil)
    (sss_cons
    (ss_if (st_not (SD.tst (sd_callG (got_are_bits c X G) hr (He.glo_ok X G (c.fact 22 (f := .glo "are_bits") rfl)) (sa_cons (SD.o (sd_n 2)) (sa_cons (SD.o sd_int) (sa_cons (SD.o (sd_gint (He.int_ok X G (c.fact 23 (f := .int "MOST_ROUND" 60) rfl)))) sa_nil)))))) (sss_one ss_bad) sss_nil)
    (sss_cons
    (ss_fld 0 ["Rule"] (fld_one (cls_of (c.fact 3 (f := .cls "Rule") rfl)) (noat_of (c.fact 4 (f := .noat "Rule" "lead") rfl))) (sd_n 1))
    (sss_one (ss_fld 0 ["Rule"] (fld_one (cls_of (c.fact 3 (f := .cls "Rule") rfl)) (noat_of (c.fact 6 (f := .noat "Rule" "again") rfl))) (sd_n 2)))))))

/-! _law_rule_bits -/
abbrev st__law_rule_bits : Stmt := top 35
theorem sc__law_rule_bits : FnScope ["hand", "most_lead", "rounds"] ["hand", "most_lead", "rounds"] (defScope st__law_rule_bits) := ⟨rfl, rfl, rfl, by decide +kernel, rfl, by decide +kernel, by decide +kernel⟩
noncomputable def fb__law_rule_bits : CS → Fl := (rtS (tupE (consA (vlO (calD (consA (slO 0) (consA (vlO (calD (consA (slO 0) (consA (vlO (opE (slO 1) (vlO (cE (.int 1))) plus)) nilA)) [true, false] g__law_draw)) nilA)) [true, false] g__law_bits)) (consA (vlO (calD (consA (slO 0) (consA (vlO (calD (consA (slO 0) (consA (vlO (rdS 2)) nilA)) [true, false] g__law_some)) nilA)) [true, false] g__law_bits)) nilA))))
noncomputable def g__law_rule_bits : List D → GR := runF 3 [true, false, false] fb__law_rule_bits
theorem got__law_rule_bits (c : He.SaysD fa fn K) (X : K.In base) (G : base.Ns mainGlobals mg) : Got P w K mg base 3 (He.ga K "_law_rule_bits") ["hand", "most_lead", "rounds"] [true, false, false] g__law_rule_bits :=
  got_of (c.def_ 21 (d := d__law_rule_bits) rfl) sc__law_rule_bits rfl (by decide) (fun _ _ _ _ _ _ us hl => match us, hl with | [_, _, _], _ => rfl) fun cdv A outer s H E hr =>
    ((sss_one (ss_ret (sd_tup (sa_cons (SD.o (sd_callG (got__law_bits c X G) hr (He.glo_ok X G (c.fact 24 (f := .glo "_law_bits") rfl)) (sa_cons (so_n 0) (sa_cons (SD.o (sd_callG (got__law_draw c X G) hr (He.glo_ok X G (c.fact 14 (f := .glo "_law_draw") rfl)) (sa_cons (so_n 0) (sa_cons (SD.o (sd_bin (fun _ _ => op_plus) v_plus (so_n 1) (SD.o sd_int))) sa_nil)))) sa_nil)))) (sa_cons (SD.o (sd_callG (got__law_bits c X G) hr (He.glo_ok X G (c.fact 24 (f := .glo "_law_bits") rfl)) (sa_cons (so_n 0) (sa_cons (SD.o (sd_callG (got__law_some c X G) hr (He.glo_ok X G (c.fact 25 (f := .glo "_law_some") rfl)) (sa_cons (so_n 0) (sa_cons (SD.o (sd_n 2)) sa_nil)))) sa_nil)))) sa_nil))))))

/-! has -/
abbrev st_has : Stmt := top 19
theorem sc_has : FnScope ["rule", "day"] ["rule", "day"] (defScope st_has) := ⟨rfl, rfl, rfl, by decide +kernel, rfl, by decide +kernel, by decide +kernel⟩
noncomputable def fb_has : CS → Fl := (seqS (exS (calD (consA (vlO (rdS 1)) nilA) [false] g_check_day))
    (rtS (blE (opE (vlO (calD (consA (vlO (rdS 0)) (consA (vlO (rdS 1)) nilA)) [false, false] g_bit_of)) (vlO (cE (.int 1))) eqA))))
noncomputable def g_has : List D → GR := runF 2 [false, false] fb_has
theorem got_has (c : He.SaysD fa fn K) (X : K.In base) (G : base.Ns mainGlobals mg) : Got P w K mg base 4 (He.ga K "has") ["rule", "day"] [false, false] g_has :=
  got_of (c.def_ 9 (d := d_has) rfl) sc_has rfl (by decide) (fun _ _ _ _ _ _ us hl => match us, hl with | [_, _], _ => rfl) fun cdv A outer s H E hr =>
    ((sss_cons
    (ss_expr (sd_callG (got_check_day c X G) hr (He.glo_ok X G (c.fact 26 (f := .glo "check_day") rfl)) (sa_cons (SD.o (sd_n 1)) sa_nil)))
    (sss_one (ss_ret (sd_cmp (fun _ _ => op_eqA hr.rm.units) v_eqA (SD.o (sd_callG (got_bit_of c X G) hr (He.glo_ok X G (c.fact 27 (f := .glo "bit_of") rfl)) (sa_cons (SD.o (sd_n 0)) (sa_cons (SD.o (sd_n 1)) sa_nil)))) (SD.o sd_int))))))

/-! check_seen -/
abbrev st_check_seen : Stmt := top 23
theorem sc_check_seen : FnScope ["seen", "days"] ["seen", "days"] (defScope st_check_seen) := ⟨rfl, rfl, rfl, by decide +kernel, rfl, by decide +kernel, by decide +kernel⟩
noncomputable def fb_check_seen : CS → Fl := (seqS (exS (calD (consA (vlO (rdS 1)) (consA (vlO (cE (.int 1))) (consA (vlO (cE (.int 40))) nilA))) [false, false, false] g_check_number))
    (ifS (notT (tsE (calD (consA (vlO (rdS 0)) (consA (vlO (rdS 1)) nilA)) [false, false] g_is_ascending_days))) badS nxS))
noncomputable def g_check_seen : List D → GR := runF 2 [false, false] fb_check_seen
theorem got_check_seen (c : He.SaysD fa fn K) (X : K.In base) (G : base.Ns mainGlobals mg) : Got P w K mg base 4 (He.ga K "check_seen") ["seen", "days"] [false, false] g_check_seen :=
  got_of (c.def_ 10 (d := d_check_seen) rfl) sc_check_seen rfl (by decide) (fun _ _ _ _ _ _ us hl => match us, hl with | [_, _], _ => rfl) fun cdv A outer s H E hr =>
    ((sss_cons
    (ss_expr (sd_callG (got_check_number c X G) hr (He.glo_ok X G (c.fact 29 (f := .glo "check_number") rfl)) (sa_cons (SD.o (sd_n 1)) (sa_cons (SD.o sd_int) (sa_cons (SD.o (sd_gint (He.int_ok X G (c.fact 28 (f := .int "MOST_SEEN" 40) rfl)))) sa_nil)))))
    (sss_one (ss_if (st_not (SD.tst (sd_callG (got_is_ascending_days c X G) hr (He.glo_ok X G (c.fact 30 (f := .glo "is_ascending_days") rfl)) (sa_cons (SD.o (sd_n 0)) (sa_cons (SD.o (sd_n 1)) sa_nil))))) (sss_one ss_bad) sss_nil))))

/-! rule_of_places -/
abbrev st_rule_of_places : Stmt := top 26
theorem sc_rule_of_places : FnScope ["found", "lead", "bits", "one"] ["found", "lead"] (defScope st_rule_of_places) := ⟨rfl, rfl, rfl, by decide +kernel, rfl, by decide +kernel, by decide +kernel⟩
noncomputable def fb_rule_of_places : CS → Fl := (seqS (stS 2 (caE (consA (vlO (lcE [3] (sqE (rdS 0)) (nmG 3) yesT (caE (consA (vlO (blE (opE (slO 3) (vlO (cE (.bl true))) isC))) nilA) intD))) nilA) tupD))
    (rnS (mkE "Rule" (consA (vlO (slE (slO 2) npE (ptE (rdS 1)))) (consA (vlO (slE (slO 2) (ptE (rdS 1)) npE)) nilA)) [false, false] g_Rule___init__)))
noncomputable def g_rule_of_places : List D → GR := runF 4 [false, false] fb_rule_of_places
theorem got_rule_of_places (c : He.SaysD fa fn K) (X : K.In base) (G : base.Ns mainGlobals mg) : Got P w K mg base 5 (He.ga K "rule_of_places") ["found", "lead"] [false, false] g_rule_of_places :=
  got_of (c.def_ 13 (d := d_rule_of_places) rfl) sc_rule_of_places rfl (by decide) (fun _ _ _ _ _ _ us hl => match us, hl with | [_, _], _ => rfl) fun cdv A outer s H E hr =>
    ((sss_cons
    (ss_set (i := 2) sc_rule_of_places.nd rfl (.inl rfl) (sd_callTy (fun _ _ => call_tuple_of) v_tup rfl (He.free_ok X G (c.fact 11 (f := .free "tuple") rfl)) (by decide +kernel) (sa_cons (SD.o (SN.d (sn_lc rfl sc_rule_of_places.nd (blkOk_by (own := [("one", 3)]) (by first | rfl | decide +kernel)) (by decide) (si_seq (sd_n 0)) (fun _ _ _ _ _ => (sg_n 3 sc_rule_of_places.nd)) (fun _ _ _ _ _ => sts_nil) (fun _ _ _ _ _ => (sd_callTy (fun _ _ => call_int1) v_int rfl (He.free_ok X G (c.fact 2 (f := .free "int") rfl)) (by decide +kernel) (sa_cons (SD.o (sd_cmp (fun _ _ => op_isC) v_isC (so_n 3) (SD.o sd_bl))) sa_nil)))))) sa_nil)))
    (sss_one (ss_retN (sn_makeG (mk_of (c.fact 31 (f := .mkr "Rule") rfl)) (got_Rule___init__ c X G) hr (He.glo_ok X G (c.fact 32 (f := .glo "Rule") rfl)) (sa_cons (SD.o (sd_slice (so_n 2) spo_none (spo_some (sd_n 1)))) (sa_cons (SD.o (sd_slice (so_n 2) (spo_some (sd_n 1)) spo_none)) sa_nil)))))))

/-! fitting_rules -/
abbrev st_fitting_rules : Stmt := top 28
theorem sc_fitting_rules : FnScope ["seen", "days", "lead", "again", "found", "many", "one"] ["seen", "days", "lead", "again"] (defScope st_fitting_rules) := ⟨rfl, rfl, rfl, by decide +kernel, rfl, by decide +kernel, by decide +kernel⟩
noncomputable def fb_fitting_rules : CS → Fl := (seqS (exS (calD (consA (vlO (rdS 0)) (consA (vlO (rdS 1)) nilA)) [false, false] g_check_seen))
    (seqS (exS (calD (consA (vlO (rdS 2)) (consA (vlO (cE (.int 0))) (consA (vlO (cE (.int 24))) nilA))) [false, false, false] g_check_number))
    (seqS (exS (calD (consA (vlO (rdS 3)) (consA (vlO (cE (.int 1))) (consA (vlO (cE (.int 60))) nilA))) [false, false, false] g_check_number))
    (seqS (stS 4 (calD (consA (vlO (rdS 0)) (consA (vlO (rdS 1)) (consA (vlO (rdS 2)) (consA (vlO (rdS 3)) nilA)))) [false, false, false, false] g_told_places))
    (seqS (ifS (opE (slO 4) (vlO (cE .non)) isN) (rtS (cE (.int 0))) nxS)
    (seqS (stS 5 (cE (.int 1)))
    (seqS (foS (sqE (rdS 4)) (nmG 6) (stS 5 (ifE (opE (slO 6) (vlO (cE .non)) isN) (opE (slO 5) (vlO (cE (.int 2))) times) (rdS 5))))
    (rsS 5))))))))
noncomputable def g_fitting_rules : List D → GR := runF 7 [false, false, false, false] fb_fitting_rules
theorem got_fitting_rules (c : He.SaysD fa fn K) (X : K.In base) (G : base.Ns mainGlobals mg) : Got P w K mg base 5 (He.ga K "fitting_rules") ["seen", "days", "lead", "again"] [false, false, false, false] g_fitting_rules :=
  got_of (c.def_ 15 (d := d_fitting_rules) rfl) sc_fitting_rules rfl (by decide) (fun _ _ _ _ _ _ us hl => match us, hl with | [_, _, _, _], _ => rfl) fun cdv A outer s H E hr =>
    ((sss_cons
    (ss_expr (sd_callG (got_check_seen c X G) hr (He.glo_ok X G (c.fact 33 (f := .glo "check_seen") rfl)) (sa_cons (SD.o (sd_n 0)) (sa_cons (SD.o (sd_n 1)) sa_nil))))
    (sss_cons
    (ss_expr (sd_callG (got_check_number c X G) hr (He.glo_ok X G (c.fact 29 (f := .glo "check_number") rfl)) (sa_cons (SD.o (sd_n 2)) (sa_cons (SD.o sd_int) (sa_cons (SD.o sd_int) sa_nil)))))
    (sss_cons
    (ss_expr (sd_callG (got_check_number c X G) hr (He.glo_ok X G (c.fact 29 (f := .glo "check_number") rfl)) (sa_cons (SD.o (sd_n 3)) (sa_cons (SD.o sd_int) (sa_cons (SD.o sd_int) sa_nil)))))
    (sss_cons
    (ss_set (i := 4) sc_fitting_rules.nd rfl (.inl rfl) (sd_callG (got_told_places c X G) hr (He.glo_ok X G (c.fact 34 (f := .glo "told_places") rfl)) (sa_cons (SD.o (sd_n 0)) (sa_cons (SD.o (sd_n 1)) (sa_cons (SD.o (sd_n 2)) (sa_cons (SD.o (sd_n 3)) sa_nil))))))
    (sss_cons
    (ss_if (st_cmp (fun _ _ => op_isN) v_isN (so_n 4) (SD.o sd_non)) (sss_one (ss_ret sd_int)) sss_nil)
    (sss_cons
    (ss_set (i := 5) sc_fitting_rules.nd rfl (.inl rfl) sd_int)
    (sss_cons
    (ss_for rfl (si_seq (sd_n 4)) (sg_n 6 sc_fitting_rules.nd) (sss_one (ss_set (i := 5) sc_fitting_rules.nd rfl (.inl rfl) (sd_if (st_cmp (fun _ _ => op_isN) v_isN (so_n 6) (SD.o sd_non)) (sd_bin (fun _ _ => op_times) v_times (so_n 5) (SD.o sd_int)) (sd_n 5)))))
    (sss_one (ss_retS 5))))))))))

/-! sure_on -/
abbrev st_sure_on : Stmt := top 29
theorem sc_sure_on : FnScope ["seen", "days", "day", "words", "again", "found", "word"] ["seen", "days", "day"] (defScope st_sure_on) := ⟨rfl, rfl, rfl, by decide +kernel, rfl, by decide +kernel, by decide +kernel⟩
noncomputable def fb_sure_on : CS → Fl := (seqS (exS (calD (consA (vlO (rdS 0)) (consA (vlO (rdS 1)) nilA)) [false, false] g_check_seen))
    (seqS (exS (calD (consA (vlO (rdS 2)) nilA) [false] g_check_day))
    (seqS (snS 3 (lstE nilA))
    (seqS (foS (caE (consA (vlO (cE (.int 1))) (consA (vlO (opE (vlO (cE (.int 12))) (vlO (cE (.int 1))) plus)) nilA)) rng2) (nmG 4) (seqS (stS 5 (calD (consA (vlO (rdS 0)) (consA (vlO (rdS 1)) (consA (vlO (cE (.int 0))) (consA (vlO (rdS 4)) nilA)))) [false, false, false, false] g_told_places))
    (ifS (opE (slO 5) (vlO (cE .non)) isNN) (exS (mtE 3 (opE (slO 5) (vlO (opE (vlO (caE (consA (slO 2) nilA) intD)) (slO 4) imod)) ixD) apD)) nxS)))
    (seqS (ifS (opE (slO 3) (vlO (lstE nilA)) eqA) (rtS (cE (.str "none"))) nxS)
    (seqS (ifS (tsE (caE (consA (vlO (lcE [6] (sqE (rdS 3)) (nmG 6) yesT (blE (opE (slO 6) (vlO (cE (.bl true))) isC)))) nilA) allBD)) (rtS (cE (.bl true))) nxS)
    (rtS (ifE (tsE (caE (consA (vlO (lcE [6] (sqE (rdS 3)) (nmG 6) yesT (blE (opE (slO 6) (vlO (cE (.bl false))) isC)))) nilA) allBD)) (cE (.bl false)) (cE .non)))))))))
noncomputable def g_sure_on : List D → GR := runF 7 [false, false, false] fb_sure_on
theorem got_sure_on (c : He.SaysD fa fn K) (X : K.In base) (G : base.Ns mainGlobals mg) : Got P w K mg base 5 (He.ga K "sure_on") ["seen", "days", "day"] [false, false, false] g_sure_on :=
  got_of (c.def_ 16 (d := d_sure_on) rfl) sc_sure_on rfl (by decide) (fun _ _ _ _ _ _ us hl => match us, hl with | [_, _, _], _ => rfl) fun cdv A outer s H E hr =>
    ((sss_cons
    (ss_expr (sd_callG (got_check_seen c X G) hr (He.glo_ok X G (c.fact 33 (f := .glo "check_seen") rfl)) (sa_cons (SD.o (sd_n 0)) (sa_cons (SD.o (sd_n 1)) sa_nil))))
    (sss_cons
    (ss_expr (sd_callG (got_check_day c X G) hr (He.glo_ok X G (c.fact 26 (f := .glo "check_day") rfl)) (sa_cons (SD.o (sd_n 2)) sa_nil)))
    (sss_cons
    (ss_setN (i := 3) sc_sure_on.nd rfl (.inl rfl) (sn_lst sa_nil))
    (sss_cons
    (ss_for rfl (si_range2 rfl (He.free_ok X G (c.fact 9 (f := .free "range") rfl)) (sa_cons (SD.o sd_int) (sa_cons (SD.o (sd_bin (fun _ _ => op_plus) v_plus (SD.o (sd_gint (He.int_ok X G (c.fact 35 (f := .int "MOST_TRIED" 12) rfl)))) (SD.o sd_int))) sa_nil))) (sg_n 4 sc_sure_on.nd) (sss_cons
    (ss_set (i := 5) sc_sure_on.nd rfl (.inl rfl) (sd_callG (got_told_places c X G) hr (He.glo_ok X G (c.fact 34 (f := .glo "told_places") rfl)) (sa_cons (SD.o (sd_n 0)) (sa_cons (SD.o (sd_n 1)) (sa_cons (SD.o sd_int) (sa_cons (SD.o (sd_n 4)) sa_nil))))))
    (sss_one (ss_if (st_cmp (fun _ _ => op_notN) v_isNN (so_n 5) (SD.o sd_non)) (sss_one (ss_expr (sd_mt 3 (fun _ _ => mt_append) v_append PySem.F.slot_list_append PySem.F.type_list_append (sd_ix (fun _ _ => ix_seq) v_ix (so_n 5) (SD.o (sd_bin (fun _ _ => op_mod) v_i2c (SD.o (sd_callTy (fun _ _ => call_int1) v_int rfl (He.free_ok X G (c.fact 2 (f := .free "int") rfl)) (by decide +kernel) (sa_cons (so_n 2) sa_nil))) (so_n 4))))))) sss_nil))))
    (sss_cons
    (ss_if (st_cmp (fun _ _ => op_eqA hr.rm.units) v_eqA (so_n 3) (SD.o (SN.d (sn_lst sa_nil)))) (sss_one (ss_ret sd_str)) sss_nil)
    (sss_cons
    (ss_if (SD.tst (sd_callB (fun _ _ => cr_all rfl) v_bl rfl (He.free_ok X G (c.fact 12 (f := .free "all") rfl)) (by decide +kernel) (sa_cons (SD.o (SN.d (sn_lc rfl sc_sure_on.nd (blkOk_by (own := [("word", 6)]) (by first | rfl | decide +kernel)) (by decide) (si_seq (sd_n 3)) (fun _ _ _ _ _ => (sg_n 6 sc_sure_on.nd)) (fun _ _ _ _ _ => sts_nil) (fun _ _ _ _ _ => (sd_cmp (fun _ _ => op_isC) v_isC (so_n 6) (SD.o sd_bl)))))) sa_nil))) (sss_one (ss_ret sd_bl)) sss_nil)
    (sss_one (ss_ret (sd_if (SD.tst (sd_callB (fun _ _ => cr_all rfl) v_bl rfl (He.free_ok X G (c.fact 12 (f := .free "all") rfl)) (by decide +kernel) (sa_cons (SD.o (SN.d (sn_lc rfl sc_sure_on.nd (blkOk_by (own := [("word", 6)]) (by first | rfl | decide +kernel)) (by decide) (si_seq (sd_n 3)) (fun _ _ _ _ _ => (sg_n 6 sc_sure_on.nd)) (fun _ _ _ _ _ => sts_nil) (fun _ _ _ _ _ => (sd_cmp (fun _ _ => op_isC) v_isC (so_n 6) (SD.o sd_bl)))))) sa_nil))) sd_bl sd_non))))))))))

/-! least_rule -/
abbrev st_least_rule : Stmt := top 27
theorem sc_least_rule : FnScope ["seen", "days", "whole", "again", "found"] ["seen", "days"] (defScope st_least_rule) := ⟨rfl, rfl, rfl, by decide +kernel, rfl, by decide +kernel, by decide +kernel⟩
noncomputable def fb_least_rule : CS → Fl := (seqS (exS (calD (consA (vlO (rdS 0)) (consA (vlO (rdS 1)) nilA)) [false, false] g_check_seen))
    (seqS (foS (caE (consA (vlO (cE (.int 1))) (consA (vlO (opE (slO 1) (vlO (cE (.int 1))) plus)) nilA)) rng2) (nmG 2) (foS (caE (consA (vlO (cE (.int 1))) (consA (vlO (opE (slO 2) (vlO (cE (.int 1))) plus)) nilA)) rng2) (nmG 3) (ifS (opE (vlO (opE (slO 2) (slO 3) isub)) (vlO (cE (.int 24))) (c2 fun i j => decide (i ≤ j))) (seqS (stS 4 (calD (consA (vlO (rdS 0)) (consA (vlO (rdS 1)) (consA (vlO (opE (slO 2) (slO 3) isub)) (consA (vlO (rdS 3)) nilA)))) [false, false, false, false] g_told_places))
    (ifS (opE (slO 4) (vlO (cE .non)) isNN) (rtS (calD (consA (vlO (rdS 4)) (consA (vlO (opE (slO 2) (slO 3) isub)) nilA)) [false, false] g_rule_of_places)) nxS)) nxS)))
    (rtS (calD (consA (vlO (calD (consA (vlO (rdS 0)) (consA (vlO (rdS 1)) (consA (vlO (cE (.int 0))) (consA (vlO (rdS 1)) nilA)))) [false, false, false, false] g_told_places)) (consA (vlO (cE (.int 0))) nilA)) [false, false] g_rule_of_places))))
noncomputable def g_least_rule : List D → GR := runF 5 [false, false] fb_least_rule
theorem got_least_rule (c : He.SaysD fa fn K) (X : K.In base) (G : base.Ns mainGlobals mg) : Got P w K mg base 6 (He.ga K "least_rule") ["seen", "days"] [false, false] g_least_rule :=
  got_of (c.def_ 14 (d := d_least_rule) rfl) sc_least_rule rfl (by decide) (fun _ _ _ _ _ _ us hl => match us, hl with | [_, _], _ => rfl) fun cdv A outer s H E hr =>
    ((sss_cons
    (ss_expr (sd_callG (got_check_seen c X G) hr (He.glo_ok X G (c.fact 33 (f := .glo "check_seen") rfl)) (sa_cons (SD.o (sd_n 0)) (sa_cons (SD.o (sd_n 1)) sa_nil))))
    (sss_cons
    (ss_for rfl (si_range2 rfl (He.free_ok X G (c.fact 9 (f := .free "range") rfl)) (sa_cons (SD.o sd_int) (sa_cons (SD.o (sd_bin (fun _ _ => op_plus) v_plus (so_n 1) (SD.o sd_int))) sa_nil))) (sg_n 2 sc_least_rule.nd) (sss_one (ss_for rfl (si_range2 rfl (He.free_ok X G (c.fact 9 (f := .free "range") rfl)) (sa_cons (SD.o sd_int) (sa_cons (SD.o (sd_bin (fun _ _ => op_plus) v_plus (so_n 2) (SD.o sd_int))) sa_nil))) (sg_n 3 sc_least_rule.nd) (sss_one (ss_if (st_cmp (fun _ _ => op_le) v_c2 (SD.o (sd_bin (fun _ _ => op_sub) v_i2 (so_n 2) (so_n 3))) (SD.o sd_int)) (sss_cons
    (ss_set (i := 4) sc_least_rule.nd rfl (.inl rfl) (sd_callG (got_told_places c X G) hr (He.glo_ok X G (c.fact 34 (f := .glo "told_places") rfl)) (sa_cons (SD.o (sd_n 0)) (sa_cons (SD.o (sd_n 1)) (sa_cons (SD.o (sd_bin (fun _ _ => op_sub) v_i2 (so_n 2) (so_n 3))) (sa_cons (SD.o (sd_n 3)) sa_nil))))))
    (sss_one (ss_if (st_cmp (fun _ _ => op_notN) v_isNN (so_n 4) (SD.o sd_non)) (sss_one (ss_ret (sd_callG (got_rule_of_places c X G) hr (He.glo_ok X G (c.fact 36 (f := .glo "rule_of_places") rfl)) (sa_cons (SD.o (sd_n 4)) (sa_cons (SD.o (sd_bin (fun _ _ => op_sub) v_i2 (so_n 2) (so_n 3))) sa_nil))))) sss_nil))) sss_nil)))))
    (sss_one (ss_ret (sd_callG (got_rule_of_places c X G) hr (He.glo_ok X G (c.fact 36 (f := .glo "rule_of_places") rfl)) (sa_cons (SD.o (sd_callG (got_told_places c X G) hr (He.glo_ok X G (c.fact 34 (f := .glo "told_places") rfl)) (sa_cons (SD.o (sd_n 0)) (sa_cons (SD.o (sd_n 1)) (sa_cons (SD.o sd_int) (sa_cons (SD.o (sd_n 1)) sa_nil)))))) (sa_cons (SD.o sd_int) sa_nil))))))))

/-! _law_is_right -/
abbrev st__law_is_right : Stmt := top 42
theorem sc__law_is_right : FnScope ["hand", "days", "rule", "seen", "day", "due", "told", "turn", "lead", "size", "found", "many", "bit", "one"] ["hand"] (defScope st__law_is_right) := ⟨rfl, rfl, rfl, by decide +kernel, rfl, by decide +kernel, by decide +kernel⟩
noncomputable def fb__law_is_right : CS → Fl := (seqS (asS (tupE (consA (vlO (calD (consA (slO 0) (consA (vlO (lstE (consA (vlO (cE (.int 1))) (consA (vlO (cE (.int 2))) (consA (vlO (cE (.int 7))) (consA (vlO (cE (.int 20))) (consA (vlO (cE (.int 40))) nilA))))))) nilA)) [true, false] g__law_some)) (consA (vlO (calD (consA (slO 0) (consA (vlO (cE (.int 5))) (consA (vlO (tupE (consA (vlO (cE (.int 1))) (consA (vlO (cE (.int 2))) (consA (vlO (cE (.int 3))) (consA (vlO (cE (.int 5))) (consA (vlO (cE (.int 7))) (consA (vlO (cE (.int 12))) nilA)))))))) nilA))) [true, false, false] g__law_rule_bits)) nilA))) (tupG 2 (consG (nmG 1) (consG (nmG 2) nilG))))
    (seqS (stS 3 (lcE [4] (caE (consA (slO 1) nilA) rng1) (nmG 4) (opE (vlO (calD (consA (vlO (rdS 2)) (consA (vlO (rdS 4)) nilA)) [false, false] g__law_bit)) (vlO (cE (.int 1))) eqA) (rdS 4)))
    (seqS (ifS (opE (vlO (calD (consA (slO 0) (consA (vlO (cE (.int 3))) nilA)) [true, false] g__law_draw)) (vlO (cE (.int 0))) eqA) (seqS (stS 4 (calD (consA (slO 0) (consA (vlO (rdS 1)) nilA)) [true, false] g__law_draw))
    (stS 3 (ifE (opE (slO 4) (slO 3) inD) (lcE [13] (sqE (rdS 3)) (nmG 13) (opE (slO 13) (slO 4) neA) (rdS 13)) (caE (consA (vlO (opE (slO 3) (vlO (lstE (consA (vlO (rdS 4)) nilA))) plus)) nilA) srtD)))) nxS)
    (seqS (stS 5 (calD (consA (vlO (rdS 3)) (consA (vlO (rdS 1)) nilA)) [false, false] g__law_least))
    (seqS (stS 6 (calD (consA (vlO (caE (consA (slO 3) nilA) tupD)) (consA (vlO (rdS 1)) nilA)) [false, false] g_least_rule))
    (seqS (ifS (notT (tsE (calD (consA (vlO (lstE (consA (vlO (unE (slO 6) (fldD ["Rule"] "lead"))) (consA (vlO (unE (slO 6) (fldD ["Rule"] "again"))) nilA)))) (consA (vlO (lstE (consA (vlO (opE (slO 5) (vlO (cE (.int 0))) ixD)) (consA (vlO (opE (slO 5) (vlO (cE (.int 1))) ixD)) nilA)))) nilA)) [false, false] g__law_is))) (rtS (cE (.bl false))) nxS)
    (seqS (ifS (notT (tsE (caE (consA (vlO (lcE [4] (caE (consA (slO 1) nilA) rng1) (nmG 4) yesT (blE (opE (vlO (calD (consA (vlO (rdS 6)) (consA (vlO (rdS 4)) nilA)) [false, false] g_has)) (vlO (blE (opE (slO 4) (slO 3) inD))) eqA)))) nilA) allBD))) (rtS (cE (.bl false))) nxS)
    (seqS (foS (caE (consA (vlO (cE (.int 4))) nilA) rng1) (nmG 7) (seqS (paS 8 9 (consA (vlO (calD (consA (slO 0) (consA (vlO (lstE (consA (vlO (cE (.int 0))) (consA (vlO (cE (.int 24))) (consA (vlO (calD (consA (slO 0) (consA (vlO (cE (.int 25))) nilA)) [true, false] g__law_draw)) nilA))))) nilA)) [true, false] g__law_some)) (consA (vlO (calD (consA (slO 0) (consA (vlO (lstE (consA (vlO (cE (.int 1))) (consA (vlO (cE (.int 60))) (consA (vlO (opE (vlO (cE (.int 1))) (vlO (calD (consA (slO 0) (consA (vlO (cE (.int 12))) nilA)) [true, false] g__law_draw)) plus)) nilA))))) nilA)) [true, false] g__law_some)) nilA)))
    (seqS (stS 10 (calD (consA (vlO (rdS 3)) (consA (vlO (rdS 1)) (consA (vlO (rdS 8)) (consA (vlO (rdS 9)) nilA)))) [false, false, false, false] g__law_bits_of))
    (seqS (stS 11 (ifE (opE (slO 10) (vlO (cE .non)) isN) (cE (.int 0)) (calD (consA (vlO (caE (consA (vlO (lcE [12] (sqE (opE (vlO (opE (slO 10) (vlO (cE (.int 0))) ixD)) (vlO (opE (slO 10) (vlO (cE (.int 1))) ixD)) plus)) (nmG 12) (opE (slO 12) (vlO (cE .non)) isN) (rdS 12))) nilA) lenD)) nilA) [false] g__law_power)))
    (seqS (ifS (notT (tsE (calD (consA (vlO (calD (consA (vlO (caE (consA (slO 3) nilA) tupD)) (consA (vlO (rdS 1)) (consA (vlO (rdS 8)) (consA (vlO (rdS 9)) nilA)))) [false, false, false, false] g_fitting_rules)) (consA (vlO (rdS 11)) nilA)) [false, false] g__law_is))) (rtS (cE (.bl false))) nxS)
    (seqS (stS 4 (calD (consA (slO 0) (consA (vlO (lstE (consA (vlO (calD (consA (slO 0) (consA (vlO (cE (.int 60))) nilA)) [true, false] g__law_draw)) (consA (vlO (rdS 1)) (consA (vlO (opE (vlO (opE (vlO (cE (.int 10))) (vlO (cE (.int 12))) ipow)) (vlO (calD (consA (slO 0) (consA (vlO (cE (.int 99))) nilA)) [true, false] g__law_draw)) plus)) nilA))))) nilA)) [true, false] g__law_some))
    (ifS (notT (tsE (calD (consA (vlO (calD (consA (vlO (caE (consA (slO 3) nilA) tupD)) (consA (vlO (rdS 1)) (consA (vlO (rdS 4)) nilA))) [false, false, false] g_sure_on)) (consA (vlO (calD (consA (vlO (rdS 3)) (consA (vlO (rdS 1)) (consA (vlO (rdS 4)) nilA))) [false, false, false] g__law_sure)) nilA)) [false, false] g__law_is))) (rtS (cE (.bl false))) nxS)))))))
    (rtS (cE (.bl true)))))))))))
noncomputable def g__law_is_right : List D → GR := runF 14 [true] fb__law_is_right
theorem got__law_is_right (c : He.SaysD fa fn K) (X : K.In base) (G : base.Ns mainGlobals mg) : Got P w K mg base 7 (He.ga K "_law_is_right") ["hand"] [true] g__law_is_right :=
  got_of (c.def_ 28 (d := d__law_is_right) rfl) sc__law_is_right rfl (by decide) (fun _ _ _ _ _ _ us hl => match us, hl with | [_], _ => rfl) fun cdv A outer s H E hr =>
    ((sss_cons
    (ss_asg (sd_tup (sa_cons (SD.o (sd_callG (got__law_some c X G) hr (He.glo_ok X G (c.fact 25 (f := .glo "_law_some") rfl)) (sa_cons (so_n 0) (sa_cons (SD.o (SN.d (sn_lst (sa_cons (SD.o sd_int) (sa_cons (SD.o sd_int) (sa_cons (SD.o sd_int) (sa_cons (SD.o sd_int) (sa_cons (SD.o sd_int) sa_nil)))))))) sa_nil)))) (sa_cons (SD.o (sd_callG (got__law_rule_bits c X G) hr (He.glo_ok X G (c.fact 37 (f := .glo "_law_rule_bits") rfl)) (sa_cons (so_n 0) (sa_cons (SD.o sd_int) (sa_cons (SD.o (sd_tup (sa_cons (SD.o sd_int) (sa_cons (SD.o sd_int) (sa_cons (SD.o sd_int) (sa_cons (SD.o sd_int) (sa_cons (SD.o sd_int) (sa_cons (SD.o sd_int) sa_nil)))))))) sa_nil))))) sa_nil))) (sg_tup rfl (sgs_cons (sg_n 1 sc__law_is_right.nd) (sgs_cons (sg_n 2 sc__law_is_right.nd) sgs_nil))))
    (sss_cons
    (ss_set (i := 3) sc__law_is_right.nd rfl (.inr rfl) (SN.d (sn_lc rfl sc__law_is_right.nd (blkOk_by (own := [("day", 4)]) (by first | rfl | decide +kernel)) (by decide) (si_range1 rfl (He.free_ok X G (c.fact 9 (f := .free "range") rfl)) (sa_cons (so_n 1) sa_nil)) (fun _ _ _ _ _ => (sg_n 4 sc__law_is_right.nd)) (fun _ _ _ _ _ => (sts_one (st_cmp (fun _ _ => op_eqA hr.rm.units) v_eqA (SD.o (sd_callG (got__law_bit c X G) hr (He.glo_ok X G (c.fact 38 (f := .glo "_law_bit") rfl)) (sa_cons (SD.o (sd_n 2)) (sa_cons (SD.o (sd_n 4)) sa_nil)))) (SD.o sd_int)))) (fun _ _ _ _ _ => (sd_n 4)))))
    (sss_cons
    (ss_if (st_cmp (fun _ _ => op_eqA hr.rm.units) v_eqA (SD.o (sd_callG (got__law_draw c X G) hr (He.glo_ok X G (c.fact 14 (f := .glo "_law_draw") rfl)) (sa_cons (so_n 0) (sa_cons (SD.o sd_int) sa_nil)))) (SD.o sd_int)) (sss_cons
    (ss_set (i := 4) sc__law_is_right.nd rfl (.inr rfl) (sd_callG (got__law_draw c X G) hr (He.glo_ok X G (c.fact 14 (f := .glo "_law_draw") rfl)) (sa_cons (so_n 0) (sa_cons (SD.o (sd_n 1)) sa_nil))))
    (sss_one (ss_set (i := 3) sc__law_is_right.nd rfl (.inr rfl) (sd_if (st_cmp (fun _ _ => op_in_seq) v_in (so_n 4) (so_n 3)) (SN.d (sn_lc rfl sc__law_is_right.nd (blkOk_by (own := [("one", 13)]) (by first | rfl | decide +kernel)) (by decide) (si_seq (sd_n 3)) (fun _ _ _ _ _ => (sg_n 13 sc__law_is_right.nd)) (fun _ _ _ _ _ => (sts_one (st_cmp (fun _ _ => op_neA hr.rm.units) v_neA (so_n 13) (so_n 4)))) (fun _ _ _ _ _ => (sd_n 13)))) (SN.d (sn_callB (fun _ _ => cr_sorted) v_srtN rfl (He.free_ok X G (c.fact 39 (f := .free "sorted") rfl)) (by decide +kernel) (sa_cons (SD.o (sd_bin (fun _ _ => op_plus) v_plus (so_n 3) (SD.o (SN.d (sn_lst (sa_cons (SD.o (sd_n 4)) sa_nil)))))) sa_nil))))))) sss_nil)
    (sss_cons
    (ss_set (i := 5) sc__law_is_right.nd rfl (.inl rfl) (sd_callG (got__law_least c X G) hr (He.glo_ok X G (c.fact 40 (f := .glo "_law_least") rfl)) (sa_cons (SD.o (sd_n 3)) (sa_cons (SD.o (sd_n 1)) sa_nil))))
    (sss_cons
    (ss_set (i := 6) sc__law_is_right.nd rfl (.inr rfl) (sd_callG (got_least_rule c X G) hr (He.glo_ok X G (c.fact 41 (f := .glo "least_rule") rfl)) (sa_cons (SD.o (sd_callTy (fun _ _ => call_tuple_of) v_tup rfl (He.free_ok X G (c.fact 11 (f := .free "tuple") rfl)) (by decide +kernel) (sa_cons (so_n 3) sa_nil))) (sa_cons (SD.o (sd_n 1)) sa_nil))))
    (sss_cons
    (ss_if (st_not (SD.tst (sd_callG (got__law_is c X G) hr (He.glo_ok X G (c.fact 42 (f := .glo "_law_is") rfl)) (sa_cons (SD.o (SN.d (sn_lst (sa_cons (SD.o (sd_fld ["Rule"] (fld_one (cls_of (c.fact 3 (f := .cls "Rule") rfl)) (noat_of (c.fact 4 (f := .noat "Rule" "lead") rfl))) (so_n 6))) (sa_cons (SD.o (sd_fld ["Rule"] (fld_one (cls_of (c.fact 3 (f := .cls "Rule") rfl)) (noat_of (c.fact 6 (f := .noat "Rule" "again") rfl))) (so_n 6))) sa_nil))))) (sa_cons (SD.o (SN.d (sn_lst (sa_cons (SD.o (sd_ix (fun _ _ => ix_seq) v_ix (so_n 5) (SD.o sd_int))) (sa_cons (SD.o (sd_ix (fun _ _ => ix_seq) v_ix (so_n 5) (SD.o sd_int))) sa_nil))))) sa_nil))))) (sss_one (ss_ret sd_bl)) sss_nil)
    (sss_cons
    (ss_if (st_not (SD.tst (sd_callB (fun _ _ => cr_all rfl) v_bl rfl (He.free_ok X G (c.fact 12 (f := .free "all") rfl)) (by decide +kernel) (sa_cons (SD.o (SN.d (sn_lc rfl sc__law_is_right.nd (blkOk_by (own := [("day", 4)]) (by first | rfl | decide +kernel)) (by decide) (si_range1 rfl (He.free_ok X G (c.fact 9 (f := .free "range") rfl)) (sa_cons (so_n 1) sa_nil)) (fun _ _ _ _ _ => (sg_n 4 sc__law_is_right.nd)) (fun _ _ _ _ _ => sts_nil) (fun _ _ _ _ _ => (sd_cmp (fun _ _ => op_eqA hr.rm.units) v_eqA (SD.o (sd_callG (got_has c X G) hr (He.glo_ok X G (c.fact 43 (f := .glo "has") rfl)) (sa_cons (SD.o (sd_n 6)) (sa_cons (SD.o (sd_n 4)) sa_nil)))) (SD.o (sd_cmp (fun _ _ => op_in_seq) v_in (so_n 4) (so_n 3)))))))) sa_nil)))) (sss_one (ss_ret sd_bl)) sss_nil)
    (sss_cons
    (ss_for rfl (si_range1 rfl (He.free_ok X G (c.fact 9 (f := .free "range") rfl)) (sa_cons (SD.o sd_int) sa_nil)) (sg_n 7 sc__law_is_right.nd) (sss_cons
    (ss_par (i := 8) (j := 9) rfl sc__law_is_right.nd rfl rfl (by decide) rfl rfl (sa_cons (SD.o (sd_callG (got__law_some c X G) hr (He.glo_ok X G (c.fact 25 (f := .glo "_law_some") rfl)) (sa_cons (so_n 0) (sa_cons (SD.o (SN.d (sn_lst (sa_cons (SD.o sd_int) (sa_cons (SD.o sd_int) (sa_cons (SD.o (sd_callG (got__law_draw c X G) hr (He.glo_ok X G (c.fact 14 (f := .glo "_law_draw") rfl)) (sa_cons (so_n 0) (sa_cons (SD.o sd_int) sa_nil)))) sa_nil)))))) sa_nil)))) (sa_cons (SD.o (sd_callG (got__law_some c X G) hr (He.glo_ok X G (c.fact 25 (f := .glo "_law_some") rfl)) (sa_cons (so_n 0) (sa_cons (SD.o (SN.d (sn_lst (sa_cons (SD.o sd_int) (sa_cons (SD.o sd_int) (sa_cons (SD.o (sd_bin (fun _ _ => op_plus) v_plus (SD.o sd_int) (SD.o (sd_callG (got__law_draw c X G) hr (He.glo_ok X G (c.fact 14 (f := .glo "_law_draw") rfl)) (sa_cons (so_n 0) (sa_cons (SD.o sd_int) sa_nil)))))) sa_nil)))))) sa_nil)))) sa_nil)))
    (sss_cons
    (ss_set (i := 10) sc__law_is_right.nd rfl (.inl rfl) (sd_callG (got__law_bits_of c X G) hr (He.glo_ok X G (c.fact 17 (f := .glo "_law_bits_of") rfl)) (sa_cons (SD.o (sd_n 3)) (sa_cons (SD.o (sd_n 1)) (sa_cons (SD.o (sd_n 8)) (sa_cons (SD.o (sd_n 9)) sa_nil))))))
    (sss_cons
    (ss_set (i := 11) sc__law_is_right.nd rfl (.inl rfl) (sd_if (st_cmp (fun _ _ => op_isN) v_isN (so_n 10) (SD.o sd_non)) sd_int (sd_callG (got__law_power c X G) hr (He.glo_ok X G (c.fact 44 (f := .glo "_law_power") rfl)) (sa_cons (SD.o (sd_callB (fun _ _ => call_len) v_len rfl (He.free_ok X G (c.fact 5 (f := .free "len") rfl)) (by decide +kernel) (sa_cons (SD.o (SN.d (sn_lc rfl sc__law_is_right.nd (blkOk_by (own := [("bit", 12)]) (by first | rfl | decide +kernel)) (by decide) (si_seq (sd_bin (fun _ _ => op_plus) v_plus (SD.o (sd_ix (fun _ _ => ix_seq) v_ix (so_n 10) (SD.o sd_int))) (SD.o (sd_ix (fun _ _ => ix_seq) v_ix (so_n 10) (SD.o sd_int))))) (fun _ _ _ _ _ => (sg_n 12 sc__law_is_right.nd)) (fun _ _ _ _ _ => (sts_one (st_cmp (fun _ _ => op_isN) v_isN (so_n 12) (SD.o sd_non)))) (fun _ _ _ _ _ => (sd_n 12))))) sa_nil))) sa_nil))))
    (sss_cons
    (ss_if (st_not (SD.tst (sd_callG (got__law_is c X G) hr (He.glo_ok X G (c.fact 42 (f := .glo "_law_is") rfl)) (sa_cons (SD.o (sd_callG (got_fitting_rules c X G) hr (He.glo_ok X G (c.fact 45 (f := .glo "fitting_rules") rfl)) (sa_cons (SD.o (sd_callTy (fun _ _ => call_tuple_of) v_tup rfl (He.free_ok X G (c.fact 11 (f := .free "tuple") rfl)) (by decide +kernel) (sa_cons (so_n 3) sa_nil))) (sa_cons (SD.o (sd_n 1)) (sa_cons (SD.o (sd_n 8)) (sa_cons (SD.o (sd_n 9)) sa_nil)))))) (sa_cons (SD.o (sd_n 11)) sa_nil))))) (sss_one (ss_ret sd_bl)) sss_nil)
    (sss_cons
    (ss_set (i := 4) sc__law_is_right.nd rfl (.inr rfl) (sd_callG (got__law_some c X G) hr (He.glo_ok X G (c.fact 25 (f := .glo "_law_some") rfl)) (sa_cons (so_n 0) (sa_cons (SD.o (SN.d (sn_lst (sa_cons (SD.o (sd_callG (got__law_draw c X G) hr (He.glo_ok X G (c.fact 14 (f := .glo "_law_draw") rfl)) (sa_cons (so_n 0) (sa_cons (SD.o sd_int) sa_nil)))) (sa_cons (SD.o (sd_n 1)) (sa_cons (SD.o (sd_bin (fun _ _ => op_plus) v_plus (SD.o (sd_bin (fun _ _ => op_pow) v_i2c (SD.o sd_int) (SD.o sd_int))) (SD.o (sd_callG (got__law_draw c X G) hr (He.glo_ok X G (c.fact 14 (f := .glo "_law_draw") rfl)) (sa_cons (so_n 0) (sa_cons (SD.o sd_int) sa_nil)))))) sa_nil)))))) sa_nil))))
    (sss_one (ss_if (st_not (SD.tst (sd_callG (got__law_is c X G) hr (He.glo_ok X G (c.fact 42 (f := .glo "_law_is") rfl)) (sa_cons (SD.o (sd_callG (got_sure_on c X G) hr (He.glo_ok X G (c.fact 46 (f := .glo "sure_on") rfl)) (sa_cons (SD.o (sd_callTy (fun _ _ => call_tuple_of) v_tup rfl (He.free_ok X G (c.fact 11 (f := .free "tuple") rfl)) (by decide +kernel) (sa_cons (so_n 3) sa_nil))) (sa_cons (SD.o (sd_n 1)) (sa_cons (SD.o (sd_n 4)) sa_nil))))) (sa_cons (SD.o (sd_callG (got__law_sure c X G) hr (He.glo_ok X G (c.fact 47 (f := .glo "_law_sure") rfl)) (sa_cons (SD.o (sd_n 3)) (sa_cons (SD.o (sd_n 1)) (sa_cons (SD.o (sd_n 4)) sa_nil))))) sa_nil))))) (sss_one (ss_ret sd_bl)) sss_nil))))))))
    (sss_one (ss_ret sd_bl)))))))))))

/-! law -/
abbrev st_law : Stmt := top 43
theorem sc_law : FnScope ["script", "hand", "told", "other", "even", "turn"] ["script"] (defScope st_law) := ⟨rfl, rfl, rfl, by decide +kernel, rfl, by decide +kernel, by decide +kernel⟩
noncomputable def fb_law : CS → Fl := (seqS (snS 1 (calN (consA (vlO (rdS 0)) nilA) [false] g__law_hand))
    (seqS (stS 2 (calD (consA (vlO (tupE (consA (vlO (cE (.int 0))) (consA (vlO (cE (.int 2))) (consA (vlO (cE (.int 4))) nilA))))) (consA (vlO (cE (.int 6))) nilA)) [false, false] g_least_rule))
    (seqS (stS 3 (calD (consA (vlO (tupE (consA (vlO (cE (.int 1))) nilA))) (consA (vlO (cE (.int 5))) nilA)) [false, false] g_least_rule))
    (seqS (ifS (notT (tsE (calD (consA (vlO (lstE (consA (vlO (unE (slO 2) (fldD ["Rule"] "lead"))) (consA (vlO (unE (slO 2) (fldD ["Rule"] "again"))) (consA (vlO (unE (slO 3) (fldD ["Rule"] "lead"))) (consA (vlO (unE (slO 3) (fldD ["Rule"] "again"))) nilA)))))) (consA (vlO (lstE (consA (vlO (tupE nilA)) (consA (vlO (tupE (consA (vlO (cE (.int 1))) (consA (vlO (cE (.int 0))) nilA)))) (consA (vlO (tupE (consA (vlO (cE (.int 0))) (consA (vlO (cE (.int 1))) nilA)))) (consA (vlO (tupE (consA (vlO (cE (.int 0))) nilA))) nilA)))))) nilA)) [false, false] g__law_is))) (rtS (cE (.bl false))) nxS)
    (seqS (stS 4 (tupE (consA (vlO (cE (.int 0))) (consA (vlO (cE (.int 2))) (consA (vlO (cE (.int 4))) (consA (vlO (cE (.int 6))) (consA (vlO (cE (.int 8))) (consA (vlO (cE (.int 10))) nilA))))))))
    (seqS (ifS (notT (tsE (calD (consA (vlO (lstE (consA (vlO (calD (consA (vlO (rdS 4)) (consA (vlO (cE (.int 12))) (consA (vlO (cE (.int 12))) nilA))) [false, false, false] g_sure_on)) (consA (vlO (calD (consA (vlO (rdS 4)) (consA (vlO (cE (.int 12))) (consA (vlO (cE (.int 13))) nilA))) [false, false, false] g_sure_on)) (consA (vlO (calD (consA (vlO (tupE nilA)) (consA (vlO (cE (.int 40))) (consA (vlO (cE (.int 77))) nilA))) [false, false, false] g_sure_on)) nilA))))) (consA (vlO (lstE (consA (vlO (cE (.bl true))) (consA (vlO (cE (.bl false))) (consA (vlO (cE (.bl false))) nilA))))) nilA)) [false, false] g__law_is))) (rtS (cE (.bl false))) nxS)
    (seqS (stS 2 (lstE (consA (vlO (calD (consA (vlO (tupE (consA (vlO (cE (.int 0))) nilA))) (consA (vlO (cE (.int 1))) (consA (vlO (cE (.int 0))) (consA (vlO (cE (.int 2))) nilA)))) [false, false, false, false] g_fitting_rules)) (consA (vlO (calD (consA (vlO (tupE (consA (vlO (cE (.int 0))) (consA (vlO (cE (.int 1))) nilA)))) (consA (vlO (cE (.int 3))) (consA (vlO (cE (.int 0))) (consA (vlO (cE (.int 1))) nilA)))) [false, false, false, false] g_fitting_rules)) (consA (vlO (calD (consA (vlO (tupE (consA (vlO (cE (.int 0))) (consA (vlO (cE (.int 2))) nilA)))) (consA (vlO (cE (.int 4))) (consA (vlO (cE (.int 6))) nilA))) [false, false, false] g_sure_on)) (consA (vlO (calD (consA (vlO (tupE (consA (vlO (cE (.int 0))) nilA))) (consA (vlO (cE (.int 1))) (consA (vlO (cE (.int 1))) nilA))) [false, false, false] g_sure_on)) nilA))))))
    (seqS (ifS (orT (notT (tsE (calD (consA (vlO (rdS 2)) (consA (vlO (lstE (consA (vlO (cE (.int 2))) (consA (vlO (cE (.int 0))) (consA (vlO (cE .non)) (consA (vlO (cE .non)) nilA)))))) nilA)) [false, false] g__law_is))) (notT (tsE (calD (consA (vlO (calD (consA (vlO (caE (consA (vlO (cE (.int 0))) (consA (vlO (cE (.int 40))) (consA (vlO (cE (.int 13))) nilA))) tupRg3)) (consA (vlO (cE (.int 40))) (consA (vlO (cE (.int 3))) nilA))) [false, false, false] g_sure_on)) (consA (vlO (cE (.str "none"))) nilA)) [false, false] g__law_is)))) (rtS (cE (.bl false))) nxS)
    (rtS (caE (consA (vlO (lcE [5] (caE (consA (vlO (cE (.int 6))) nilA) rng1) (nmG 5) yesT (calD (consA (slO 1) nilA) [true] g__law_is_right))) nilA) allBD))))))))))
noncomputable def g_law : List D → GR := runF 6 [false] fb_law
abbrev lawK : Nat := 8
theorem got_law (c : He.SaysD fa fn K) : GotL P w K mg lawK (He.ga K "law") "script" g_law :=
  gotL_of (c.def_ 29 (d := d_law) rfl) sc_law (by decide) (fun _ _ _ _ _ _ us hl => match us, hl with | [_], _ => rfl) fun base X G cdv A outer s H E hr =>
    ((sss_cons
    (ss_setN (i := 1) sc_law.nd rfl (.inr rfl) (sn_callG (got__law_hand c X G) hr (He.glo_ok X G (c.fact 48 (f := .glo "_law_hand") rfl)) (sa_cons (SD.o (sd_n 0)) sa_nil)))
    (sss_cons
    (ss_set (i := 2) sc_law.nd rfl (.inl rfl) (sd_callG (got_least_rule c X G) hr (He.glo_ok X G (c.fact 41 (f := .glo "least_rule") rfl)) (sa_cons (SD.o (sd_tup (sa_cons (SD.o sd_int) (sa_cons (SD.o sd_int) (sa_cons (SD.o sd_int) sa_nil))))) (sa_cons (SD.o sd_int) sa_nil))))
    (sss_cons
    (ss_set (i := 3) sc_law.nd rfl (.inl rfl) (sd_callG (got_least_rule c X G) hr (He.glo_ok X G (c.fact 41 (f := .glo "least_rule") rfl)) (sa_cons (SD.o (sd_tup (sa_cons (SD.o sd_int) sa_nil))) (sa_cons (SD.o sd_int) sa_nil))))
    (sss_cons
    (ss_if (st_not (SD.tst (sd_callG (got__law_is c X G) hr (He.glo_ok X G (c.fact 42 (f := .glo "_law_is") rfl)) (sa_cons (SD.o (SN.d (sn_lst (sa_cons (SD.o (sd_fld ["Rule"] (fld_one (cls_of (c.fact 3 (f := .cls "Rule") rfl)) (noat_of (c.fact 4 (f := .noat "Rule" "lead") rfl))) (so_n 2))) (sa_cons (SD.o (sd_fld ["Rule"] (fld_one (cls_of (c.fact 3 (f := .cls "Rule") rfl)) (noat_of (c.fact 6 (f := .noat "Rule" "again") rfl))) (so_n 2))) (sa_cons (SD.o (sd_fld ["Rule"] (fld_one (cls_of (c.fact 3 (f := .cls "Rule") rfl)) (noat_of (c.fact 4 (f := .noat "Rule" "lead") rfl))) (so_n 3))) (sa_cons (SD.o (sd_fld ["Rule"] (fld_one (cls_of (c.fact 3 (f := .cls "Rule") rfl)) (noat_of (c.fact 6 (f := .noat "Rule" "again") rfl))) (so_n 3))) sa_nil))))))) (sa_cons (SD.o (SN.d (sn_lst (sa_cons (SD.o (sd_tup sa_nil)) (sa_cons (SD.o (sd_tup (sa_cons (SD.o sd_int) (sa_cons (SD.o sd_int) sa_nil)))) (sa_cons (SD.o (sd_tup (sa_cons (SD.o sd_int) (sa_cons (SD.o sd_int) sa_nil)))) (sa_cons (SD.o (sd_tup (sa_cons (SD.o sd_int) sa_nil))) sa_nil))))))) sa_nil))))) (sss_one (ss_ret sd_bl)) sss_nil)
    (sss_cons
    (ss_set (i := 4) sc_law.nd rfl (.inl rfl) (sd_tup (sa_cons (SD.o sd_int) (sa_cons (SD.o sd_int) (sa_cons (SD.o sd_int) (sa_cons (SD.o sd_int) (sa_cons (SD.o sd_int) (sa_cons (SD.o sd_int) sa_nil))))))))
    (sss_cons
    (ss_if (st_not (SD.tst (sd_callG (got__law_is c X G) hr (He.glo_ok X G (c.fact 42 (f := .glo "_law_is") rfl)) (sa_cons (SD.o (SN.d (sn_lst (sa_cons (SD.o (sd_callG (got_sure_on c X G) hr (He.glo_ok X G (c.fact 46 (f := .glo "sure_on") rfl)) (sa_cons (SD.o (sd_n 4)) (sa_cons (SD.o sd_int) (sa_cons (SD.o sd_int) sa_nil))))) (sa_cons (SD.o (sd_callG (got_sure_on c X G) hr (He.glo_ok X G (c.fact 46 (f := .glo "sure_on") rfl)) (sa_cons (SD.o (sd_n 4)) (sa_cons (SD.o sd_int) (sa_cons (SD.o sd_int) sa_nil))))) (sa_cons (SD.o (sd_callG (got_sure_on c X G) hr (He.glo_ok X G (c.fact 46 (f := .glo "sure_on") rfl)) (sa_cons (SD.o (sd_tup sa_nil)) (sa_cons (SD.o sd_int) (sa_cons (SD.o sd_int) sa_nil))))) sa_nil)))))) (sa_cons (SD.o (SN.d (sn_lst (sa_cons (SD.o sd_bl) (sa_cons (SD.o sd_bl) (sa_cons (SD.o sd_bl) sa_nil)))))) sa_nil))))) (sss_one (ss_ret sd_bl)) sss_nil)
    (sss_cons
    (ss_set (i := 2) sc_law.nd rfl (.inl rfl) (SN.d (sn_lst (sa_cons (SD.o (sd_callG (got_fitting_rules c X G) hr (He.glo_ok X G (c.fact 45 (f := .glo "fitting_rules") rfl)) (sa_cons (SD.o (sd_tup (sa_cons (SD.o sd_int) sa_nil))) (sa_cons (SD.o sd_int) (sa_cons (SD.o sd_int) (sa_cons (SD.o sd_int) sa_nil)))))) (sa_cons (SD.o (sd_callG (got_fitting_rules c X G) hr (He.glo_ok X G (c.fact 45 (f := .glo "fitting_rules") rfl)) (sa_cons (SD.o (sd_tup (sa_cons (SD.o sd_int) (sa_cons (SD.o sd_int) sa_nil)))) (sa_cons (SD.o sd_int) (sa_cons (SD.o sd_int) (sa_cons (SD.o sd_int) sa_nil)))))) (sa_cons (SD.o (sd_callG (got_sure_on c X G) hr (He.glo_ok X G (c.fact 46 (f := .glo "sure_on") rfl)) (sa_cons (SD.o (sd_tup (sa_cons (SD.o sd_int) (sa_cons (SD.o sd_int) sa_nil)))) (sa_cons (SD.o sd_int) (sa_cons (SD.o sd_int) sa_nil))))) (sa_cons (SD.o (sd_callG (got_sure_on c X G) hr (He.glo_ok X G (c.fact 46 (f := .glo "sure_on") rfl)) (sa_cons (SD.o (sd_tup (sa_cons (SD.o sd_int) sa_nil))) (sa_cons (SD.o sd_int) (sa_cons (SD.o sd_int) sa_nil))))) sa_nil)))))))
    (sss_cons
    (ss_if (SW.tst (sw_or (st_not (SD.tst (sd_callG (got__law_is c X G) hr (He.glo_ok X G (c.fact 42 (f := .glo "_law_is") rfl)) (sa_cons (SD.o (sd_n 2)) (sa_cons (SD.o (SN.d (sn_lst (sa_cons (SD.o sd_int) (sa_cons (SD.o sd_int) (sa_cons (SD.o sd_non) (sa_cons (SD.o sd_non) sa_nil))))))) sa_nil))))) (sw_or1 (st_not (SD.tst (sd_callG (got__law_is c X G) hr (He.glo_ok X G (c.fact 42 (f := .glo "_law_is") rfl)) (sa_cons (SD.o (sd_callG (got_sure_on c X G) hr (He.glo_ok X G (c.fact 46 (f := .glo "sure_on") rfl)) (sa_cons (SD.o (sd_tupRg3 rfl rfl (He.free_ok X G (c.fact 11 (f := .free "tuple") rfl)) rfl (He.free_ok X G (c.fact 9 (f := .free "range") rfl)) (sa_cons (SD.o sd_int) (sa_cons (SD.o sd_int) (sa_cons (SD.o sd_int) sa_nil))))) (sa_cons (SD.o sd_int) (sa_cons (SD.o sd_int) sa_nil))))) (sa_cons (SD.o sd_str) sa_nil)))))))) (sss_one (ss_ret sd_bl)) sss_nil)
    (sss_one (ss_ret (sd_callB (fun _ _ => cr_all rfl) v_bl rfl (He.free_ok X G (c.fact 12 (f := .free "all") rfl)) (by decide +kernel) (sa_cons (SD.o (SN.d (sn_lc rfl sc_law.nd (blkOk_by (own := [("turn", 5)]) (by first | rfl | decide +kernel)) (by decide) (si_range1 rfl (He.free_ok X G (c.fact 9 (f := .free "range") rfl)) (sa_cons (SD.o sd_int) sa_nil)) (fun _ _ _ _ _ => (sg_n 5 sc_law.nd)) (fun _ _ _ _ _ => sts_nil) (fun _ _ _ _ _ => (sd_callG (got__law_is_right c X G) hr (He.glo_ok X G (c.fact 49 (f := .glo "_law_is_right") rfl)) (sa_cons (so_n 1) sa_nil)))))) sa_nil)))))))))))))

theorem glo_law (c : He.SaysD fa fn K) : (He.Fa.glo "law").ok K = true := c.fact 50 rfl
end
end W84

set_option Elab.async false
set_option linter.all false
set_option maxRecDepth 100000
set_option maxHeartbeats 4000000
set_option autoImplicit false
/-! Cl, part M: the functions reckoned (rules for simp). -/
namespace Cl
open PySem PySem.Spec L2

/-! ### ends behind ends -/
def Fl.seq : Fl → (CS → Fl) → Fl
  | .nx s, g => g s
  | r, _ => r
@[simp] theorem Fl.seq_nx (s : CS) (g : CS → Fl) : Fl.seq (.nx s) g = g s := rfl
@[simp] theorem Fl.seq_ret (r : Sl) (s : CS) (g : CS → Fl) : Fl.seq (.ret r s) g = .ret r s := rfl
@[simp] theorem Fl.seq_brk (s : CS) (g : CS → Fl) : Fl.seq (.brk s) g = .brk s := rfl
@[simp] theorem Fl.seq_ct (s : CS) (g : CS → Fl) : Fl.seq (.ct s) g = .ct s := rfl
@[simp] theorem Fl.seq_exc (c : Str) (fs : List (Str × D)) (s : CS) (g : CS → Fl) : Fl.seq (.exc c fs s) g = .exc c fs s := rfl
@[simp] theorem Fl.seq_bad (g : CS → Fl) : Fl.seq .bad g = .bad := rfl
@[simp] theorem Fl.seq_ite (p : Prop) [Decidable p] (a b : Fl) (g : CS → Fl) : Fl.seq (if p then a else b) g = if p then a.seq g else b.seq g := by split <;> rfl
@[simp] theorem seqS_e (f g : CS → Fl) (s : CS) : seqS f g s = (f s).seq g := by
  unfold seqS Fl.seq
  cases f s <;> rfl
@[simp] theorem bind_ite {α β : Type} (p : Prop) [Decidable p] (a b : Rs α) (k : α → CS → Rs β) : Rs.bind (if p then a else b) k = if p then a.bind k else b.bind k := by split <;> rfl
@[simp] theorem bindS_ite {α : Type} (p : Prop) [Decidable p] (a b : Rs α) (k : α → CS → Fl) : bindS (if p then a else b) k = if p then bindS a k else bindS b k := by split <;> rfl
def runE (mask : List Bool) : Fl → GR
  | .nx s => .ok (.fz .non) (outsOf mask s)
  | .ret (.le _) _ => .bad
  | .ret r s => .ok r (outsOf mask s)
  | .exc c fs s => .exc c fs (outsOf mask s)
  | _ => .bad
theorem runF_e (N : Nat) (mask : List Bool) (f : CS → Fl) (ds : List D) : runF N mask f ds = runE mask (f (startS N mask ds)) := by
  unfold runF runE
  cases f (startS N mask ds) <;> first | rfl | (rename_i r s; cases r <;> rfl)
@[simp] theorem runE_nx (m : List Bool) (s : CS) : runE m (.nx s) = .ok (.fz .non) (outsOf m s) := rfl
@[simp] theorem runE_fz (m : List Bool) (d : D) (s : CS) : runE m (.ret (.fz d) s) = .ok (.fz d) (outsOf m s) := rfl
@[simp] theorem runE_ow (m : List Bool) (d : D) (s : CS) : runE m (.ret (.ow d) s) = .ok (.ow d) (outsOf m s) := rfl
@[simp] theorem runE_exc (m : List Bool) (c : Str) (fs : List (Str × D)) (s : CS) : runE m (.exc c fs s) = .exc c fs (outsOf m s) := rfl
@[simp] theorem runE_bad (m : List Bool) : runE m .bad = .bad := rfl
@[simp] theorem runE_ite (m : List Bool) (p : Prop) [Decidable p] (a b : Fl) : runE m (if p then a else b) = if p then runE m a else runE m b := by split <;> rfl

/-! ### statements -/
@[simp] theorem nxS_e (s : CS) : nxS s = .nx s := rfl
@[simp] theorem brS_e (s : CS) : brS s = .brk s := rfl
@[simp] theorem ctS_e (s : CS) : ctS s = .ct s := rfl
@[simp] theorem badS_e (s : CS) : badS s = .bad := rfl
@[simp] theorem r0S_e (s : CS) : r0S s = .ret (.fz .non) s := rfl
@[simp] theorem exS_e (f : CS → Rs D) (s : CS) : exS f s = bindS (f s) fun _ s => .nx s := rfl
@[simp] theorem rtS_e (f : CS → Rs D) (s : CS) : rtS f s = bindS (f s) fun d s => .ret (.fz d) s := rfl
@[simp] theorem rnS_e (f : CS → Rs D) (s : CS) : rnS f s = bindS (f s) fun d s => .ret (.ow d) s := rfl
@[simp] theorem ifS_e (t : CS → Rs Bool) (f g : CS → Fl) (s : CS) : ifS t f g s = bindS (t s) fun b s => if b = true then f s else g s := rfl
@[simp] theorem stS_e (i : Nat) (f : CS → Rs D) (s : CS) : stS i f s = bindS (f s) fun d s => nxO (setC i (.fz d) s) := rfl
@[simp] theorem snS_e (i : Nat) (f : CS → Rs D) (s : CS) : snS i f s = bindS (f s) fun d s => nxO (setC i (.ow d) s) := rfl
@[simp] theorem asS_e (f : CS → Rs D) (g : TgC) (s : CS) : asS f g s = bindS (f s) fun d s => nxO (g d s) := rfl
@[simp] theorem nmG_e (i : Nat) (d : D) (s : CS) : nmG i d s = setC i (.fz d) s := rfl
@[simp] theorem foS_e (f : CS → Rs (List D)) (g : TgC) (b : CS → Fl) (s : CS) : foS f g b s = bindS (f s) fun items s => forS g b items s := rfl
/-! ### expressions -/
@[simp] theorem cE_e (d : D) (s : CS) : cE d s = .ok d s := rfl
@[simp] theorem vlO_e (f : CS → Rs D) (s : CS) : vlO f s = (f s).bind fun d s => .ok (.d d) s := rfl
@[simp] theorem opE_e {α : Type} (f g : CS → Rs Av) (op : D → D → Option α) (s : CS) : opE f g op s = (f s).bind fun x s => (g s).bind fun y s => res (o2 op x y s) s := rfl
@[simp] theorem unE_e {α : Type} (f : CS → Rs Av) (op : D → Option α) (s : CS) : unE f op s = (f s).bind fun x s => res (o1 op x s) s := rfl
@[simp] theorem caE_e {α : Type} (f : CS → Rs (List Av)) (op : List D → Option α) (s : CS) : caE f op s = (f s).bind fun xs s => res (oC op xs s) s := rfl
@[simp] theorem blE_e (f : CS → Rs Bool) (s : CS) : blE f s = (f s).bind fun b s => .ok (.bl b) s := rfl
@[simp] theorem chE_e (f g k : CS → Rs Av) (p q : D → D → Option Bool) (s : CS) : chE f g k p q s = (f s).bind fun x s => (g s).bind fun y s => (res (o2 p x y s) s).bind fun b s => if b = true then (k s).bind fun z s => res (o2 q y z s) s else .ok false s := rfl
def asB (d : D) (s : CS) : Rs Bool := match d with
  | .bl b => .ok b s
  | _ => .bad
@[simp] theorem asB_bl (b : Bool) (s : CS) : asB (.bl b) s = .ok b s := rfl
@[simp] theorem tsE_e (f : CS → Rs D) (s : CS) : tsE f s = (f s).bind asB := rfl
@[simp] theorem andT_e (t u : CS → Rs Bool) (s : CS) : andT t u s = (t s).bind fun b s => if b = true then u s else .ok false s := rfl
@[simp] theorem orT_e (t u : CS → Rs Bool) (s : CS) : orT t u s = (t s).bind fun b s => if b = true then .ok true s else u s := rfl
@[simp] theorem notT_e (t : CS → Rs Bool) (s : CS) : notT t s = (t s).bind fun b s => .ok (!b) s := rfl
@[simp] theorem andE_e (f g : CS → Rs D) (s : CS) : andE f g s = (f s).bind fun d s => (asB d s).bind fun b s => if b = true then g s else .ok (.bl false) s := by
  unfold andE
  congr; funext d s
  cases d <;> first | rfl | (rename_i b; cases b <;> rfl)
@[simp] theorem orE_e (f g : CS → Rs D) (s : CS) : orE f g s = (f s).bind fun d s => (asB d s).bind fun b s => if b = true then .ok (.bl true) s else g s := by
  unfold orE
  congr; funext d s
  cases d <;> first | rfl | (rename_i b; cases b <;> rfl)
@[simp] theorem notE_e (f : CS → Rs D) (s : CS) : notE f s = (f s).bind fun d s => (asB d s).bind fun b s => .ok (.bl (!b)) s := by
  unfold notE
  congr; funext d s
  cases d <;> rfl
@[simp] theorem ifE_e (t : CS → Rs Bool) (f g : CS → Rs D) (s : CS) : ifE t f g s = (t s).bind fun b s => if b = true then f s else g s := rfl
@[simp] theorem nilA_e (s : CS) : nilA s = .ok [] s := rfl
@[simp] theorem consA_e (f : CS → Rs Av) (g : CS → Rs (List Av)) (s : CS) : consA f g s = (f s).bind fun x s => (g s).bind fun xs s => .ok (x :: xs) s := rfl
def mkT (c : List D → D) (o : Option (List D)) (s : CS) : Rs D := match o with
  | some ds => if ds.length ≤ sizeLine then .ok (c ds) s else .bad
  | none => .bad
@[simp] theorem mkT_some (c : List D → D) (ds : List D) (s : CS) : mkT c (some ds) s = if ds.length ≤ sizeLine then .ok (c ds) s else .bad := rfl
@[simp] theorem tupE_e (g : CS → Rs (List Av)) (s : CS) : tupE g s = (g s).bind fun xs s => mkT .tup (allD xs) s := rfl
@[simp] theorem lstE_e (g : CS → Rs (List Av)) (s : CS) : lstE g s = (g s).bind fun xs s => mkT .lst (allD xs) s := rfl
@[simp] theorem npE_e (s : CS) : npE s = .ok none s := rfl
def asI (d : D) (s : CS) : Rs (Option Int) := match d with
  | .int i => .ok (some i) s
  | _ => .bad
@[simp] theorem asI_int (i : Int) (s : CS) : asI (.int i) s = .ok (some i) s := rfl
@[simp] theorem ptE_e (f : CS → Rs D) (s : CS) : ptE f s = (f s).bind asI := rfl
@[simp] theorem slE_e (f : CS → Rs Av) (a b : CS → Rs (Option Int)) (s : CS) : slE f a b s = (f s).bind fun x s => (a s).bind fun lo s => (b s).bind fun hi s => res (o1 (cutD lo hi) x s) s := rfl
def itO (o : Option (List D)) (s : CS) : Rs (List D) := match o with
  | some ds => .ok ds s
  | none => .bad
@[simp] theorem itO_some (ds : List D) (s : CS) : itO (some ds) s = .ok ds s := rfl
@[simp] theorem sqE_e (f : CS → Rs D) (s : CS) : sqE f s = (f s).bind fun d s => itO d.items s := rfl
@[simp] theorem zpE_e (f g : CS → Rs D) (s : CS) : zpE f g s = (f s).bind fun d s => (g s).bind fun e s => itO (zipO d e) s := rfl
@[simp] theorem items_lst (ds : List D) : (D.lst ds).items = some ds := rfl
@[simp] theorem items_tup (ds : List D) : (D.tup ds).items = some ds := rfl
@[simp] theorem items_scr (ds : List D) : (D.scr ds).items = some ds := rfl
@[simp] theorem zipO_tup (ds es : List D) : zipO (.tup ds) (.tup es) = some (zipD ds es) := rfl
@[simp] theorem zipO_lst (ds es : List D) : zipO (.lst ds) (.lst es) = some (zipD ds es) := rfl
/-! ### slots -/
def rdO (i : Nat) (o : Option (Option Sl)) (s : CS) : Rs D := match o with
  | some (some (.fz d)) => .ok d s
  | some (some (.ow d)) => .ok d (s.set i (some (.fz d)))
  | _ => .bad
@[simp] theorem rdS_e (i : Nat) (s : CS) : rdS i s = rdO i s[i]? s := rfl
@[simp] theorem rdO_fz (i : Nat) (d : D) (s : CS) : rdO i (some (some (.fz d))) s = .ok d s := rfl
@[simp] theorem rdO_ow (i : Nat) (d : D) (s : CS) : rdO i (some (some (.ow d))) s = .ok d (s.set i (some (.fz d))) := rfl
def slP (i : Nat) (o : Option (Option Sl)) (s : CS) : Rs Av := match o with
  | some (some _) => .ok (.s i) s
  | _ => .bad
@[simp] theorem slO_e (i : Nat) (s : CS) : slO i s = slP i s[i]? s := rfl
@[simp] theorem slP_some (i : Nat) (x : Sl) (s : CS) : slP i (some (some x)) s = .ok (.s i) s := rfl
def Sl.val : Sl → D
  | .fz d => d
  | .ow d => d
  | .le d => d
@[simp] theorem Sl.val_fz (d : D) : (Sl.fz d).val = d := rfl
@[simp] theorem Sl.val_ow (d : D) : (Sl.ow d).val = d := rfl
@[simp] theorem Sl.val_le (d : D) : (Sl.le d).val = d := rfl
def vlOf (o : Option (Option Sl)) : Option D := match o with
  | some (some x) => some x.val
  | _ => none
@[simp] theorem vlOf_some (x : Sl) : vlOf (some (some x)) = some x.val := rfl
@[simp] theorem rsv_s (s : CS) (i : Nat) : rsv s (.s i) = vlOf s[i]? := by
  show (match s[i]? with | some (some (.fz d)) => some d | some (some (.ow d)) => some d | some (some (.le d)) => some d | _ => none) = _
  cases s[i]? with
  | none => rfl
  | some o => cases o with
    | none => rfl
    | some x => cases x <;> rfl
@[simp] theorem o2_e {α : Type} (op : D → D → Option α) (x y : Av) (s : CS) : o2 op x y s = (rsv s x).bind fun d => (rsv s y).bind fun e => op d e := rfl
@[simp] theorem o1_e {α : Type} (op : D → Option α) (x : Av) (s : CS) : o1 op x s = (rsv s x).bind op := rfl
@[simp] theorem oC_e {α : Type} (op : List D → Option α) (xs : List Av) (s : CS) : oC op xs s = (rsvs s xs).bind op := rfl
@[simp] theorem rsvs_nil (s : CS) : rsvs s [] = some [] := rfl
@[simp] theorem rsvs_cons (s : CS) (x : Av) (xs : List Av) : rsvs s (x :: xs) = (rsv s x).bind fun d => (rsvs s xs).map fun ds => d :: ds := by
  show (match rsv s x, rsvs s xs with | some d, some ds => some (d :: ds) | _, _ => none) = _
  cases rsv s x <;> cases rsvs s xs <;> rfl
@[simp] theorem allD_nil : allD [] = some [] := rfl
@[simp] theorem allD_cons (d : D) (xs : List Av) : allD (.d d :: xs) = (allD xs).map (d :: ·) := rfl
def rsO (o : Option (Option Sl)) (s : CS) : Fl := match o with
  | some (some (.ow d)) => .ret (.ow d) s
  | some (some (.fz d)) => .ret (.fz d) s
  | _ => .bad
@[simp] theorem rsS_e (i : Nat) (s : CS) : rsS i s = rsO s[i]? s := rfl
@[simp] theorem rsO_ow (d : D) (s : CS) : rsO (some (some (.ow d))) s = .ret (.ow d) s := rfl
@[simp] theorem rsO_fz (d : D) (s : CS) : rsO (some (some (.fz d))) s = .ret (.fz d) s := rfl
def scO (i : Nat) (y : Sl) (o : Option (Option Sl)) (s : CS) : Option CS := match o with
  | some (some (.le _)) => none
  | some _ => some (s.set i (some y))
  | none => none
@[simp] theorem setC_e (i : Nat) (y : Sl) (s : CS) : setC i y s = scO i y s[i]? s := rfl
@[simp] theorem scO_none (i : Nat) (y : Sl) (s : CS) : scO i y (some none) s = some (s.set i (some y)) := rfl
@[simp] theorem scO_fz (i : Nat) (y : Sl) (d : D) (s : CS) : scO i y (some (some (.fz d))) s = some (s.set i (some y)) := rfl
@[simp] theorem scO_ow (i : Nat) (y : Sl) (d : D) (s : CS) : scO i y (some (some (.ow d))) s = some (s.set i (some y)) := rfl
def laO (o : Option (Option Sl)) : Option (List D) := match o with
  | some (some (.ow (.lst ds))) => some ds
  | some (some (.le (.lst ds))) => some ds
  | _ => none
@[simp] theorem lstAt_e (s : CS) (i : Nat) : lstAt s i = laO s[i]? := rfl
@[simp] theorem laO_ow (ds : List D) : laO (some (some (.ow (.lst ds)))) = some ds := rfl
@[simp] theorem laO_le (ds : List D) : laO (some (some (.le (.lst ds)))) = some ds := rfl
def paO (i : Nat) (d : D) (o : Option (Option Sl)) (s : CS) : CS := match o with
  | some (some y) => s.set i (some (y.put d))
  | _ => s
@[simp] theorem putAt_e (i : Nat) (d : D) (s : CS) : putAt i d s = paO i d s[i]? s := rfl
@[simp] theorem paO_some (i : Nat) (d : D) (y : Sl) (s : CS) : paO i d (some (some y)) s = s.set i (some (y.put d)) := rfl
@[simp] theorem put_fz (d e : D) : (Sl.fz d).put e = .fz e := rfl
@[simp] theorem put_ow (d e : D) : (Sl.ow d).put e = .ow e := rfl
@[simp] theorem put_le (d e : D) : (Sl.le d).put e = .le e := rfl
def ixK (i : Nat) (d : D) : Rs D → Option CS
  | .ok (.int k) s1 => (lstAt s1 i).bind fun ds => (setIx k d ds).map fun es => putAt i (.lst es) s1
  | _ => none
@[simp] theorem ixK_ok (i : Nat) (d : D) (k : Int) (s1 : CS) : ixK i d (.ok (.int k) s1) = (lstAt s1 i).bind fun ds => (setIx k d ds).map fun es => putAt i (.lst es) s1 := rfl
@[simp] theorem ixG_e (i : Nat) (f : CS → Rs D) (d : D) (s : CS) : ixG i f d s = (lstAt s i).bind fun _ => ixK i d (f s) := by
  unfold ixG ixK
  cases lstAt s i <;> rfl
@[simp] theorem mtE_e (i : Nat) (f : CS → Rs D) (g : D → List D → Option (D × List D)) (s : CS) : mtE i f g s = match lstAt s i with
  | none => .bad
  | some _ => (f s).bind fun d s => match lstAt s i with
    | none => .bad
    | some ds => match g d ds with
      | none => .bad
      | some (z, es) => .ok z (putAt i (.lst es) s) := rfl
@[simp] theorem startS_e (N : Nat) (m : List Bool) (ds : List D) : startS N m ds = (tagS m ds).map some ++ List.replicate (N - ds.length) none := rfl
@[simp] theorem tagS_nil : tagS [] [] = [] := rfl
@[simp] theorem tagS_f (m : List Bool) (d : D) (ds : List D) : tagS (false :: m) (d :: ds) = .fz d :: tagS m ds := rfl
@[simp] theorem tagS_t (m : List Bool) (d : D) (ds : List D) : tagS (true :: m) (d :: ds) = .le d :: tagS m ds := rfl
def outO : Option (Option Sl) → D
  | some (some (.le d)) => d
  | _ => .non
@[simp] theorem outO_le (d : D) : outO (some (some (.le d))) = d := rfl
@[simp] theorem outO_fz (d : D) : outO (some (some (.fz d))) = .non := rfl
@[simp] theorem outO_ow (d : D) : outO (some (some (.ow d))) = .non := rfl
@[simp] theorem outO_n : outO (some none) = .non := rfl
def outL : List Bool → CS → List D
  | [], _ => []
  | _ :: m, o :: s => outO (some o) :: outL m s
  | _ :: m, [] => .non :: outL m []
@[simp] theorem outL_nil (s : CS) : outL [] s = [] := rfl
@[simp] theorem outL_cons (b : Bool) (m : List Bool) (o : Option Sl) (s : CS) : outL (b :: m) (o :: s) = outO (some o) :: outL m s := rfl
@[simp] theorem outsOf_e (m : List Bool) (s : CS) : outsOf m s = outL m s := by
  have key : ∀ (m : List Bool) (s : CS), ((List.range m.length).map fun i => outO s[i]?) = outL m s := by
    intro m
    induction m with
    | nil => intro s; rfl
    | cons b m ih =>
      intro s
      rw [List.length_cons, List.range_succ_eq_map, List.map_cons, List.map_map]
      cases s with
      | nil =>
        show D.non :: _ = D.non :: outL m []
        rw [← ih []]
        congr
      | cons o s =>
        show outO (some o) :: _ = outO (some o) :: outL m s
        rw [← ih s]
        congr
  exact key m s
@[simp] theorem res_ite {α : Type} (p : Prop) [Decidable p] (a b : Option α) (s : CS) : res (if p then a else b) s = if p then res a s else res b s := by split <;> rfl
/-! ### operations -/
@[simp] theorem i2_e (f : Int → Int → Int) (i j : Int) : i2 f (.int i) (.int j) = some (.int (f i j)) := rfl
@[simp] theorem i2c_e (C : Int → Int → Prop) [∀ i j, Decidable (C i j)] (f : Int → Int → Int) (i j : Int) : i2c C f (.int i) (.int j) = if C i j then some (.int (f i j)) else none := rfl
@[simp] theorem plus_ii (i j : Int) : plus (.int i) (.int j) = some (.int (i + j)) := rfl
@[simp] theorem times_ii (i j : Int) : times (.int i) (.int j) = if CMul i j then some (.int (i * j)) else none := by
  unfold times orO
  rw [i2c_e]
  by_cases h : CMul i j
  · rw [if_pos h]
  · rw [if_neg h]; rfl
@[simp] theorem plus_ll (xs ys : List D) : plus (.lst xs) (.lst ys) = if xs.length + ys.length ≤ sizeLine then some (.lst (xs ++ ys)) else none := by
  unfold plus orO
  simp only [i2, lcat]
  by_cases h : xs.length + ys.length ≤ sizeLine
  · simp [h]
  · simp [h, tcat, scat]
@[simp] theorem plus_tt (xs ys : List D) : plus (.tup xs) (.tup ys) = if xs.length + ys.length ≤ sizeLine then some (.tup (xs ++ ys)) else none := by
  unfold plus orO
  simp only [i2, lcat, tcat]
  by_cases h : xs.length + ys.length ≤ sizeLine
  · simp [h]
  · simp [h, scat]
@[simp] theorem lcat_e (xs ys : List D) : lcat (.lst xs) (.lst ys) = if xs.length + ys.length ≤ sizeLine then some (.lst (xs ++ ys)) else none := rfl
theorem lrep_e (xs : List D) (k : Int) : lrep (.lst xs) (.int k) = if -(2 ^ 63) ≤ k ∧ k < 2 ^ 63 ∧ xs.length * k.toNat ≤ sizeLine then some (.lst (List.replicate k.toNat xs).flatten) else none := rfl
/-- [x] * n -/
theorem lrep_n (d : D) (k : Nat) (K : Int) (hK : K = (k : Int)) (h : k ≤ 1000000) : lrep (.lst [d]) (.int K) = some (.lst (List.replicate k d)) := by
  have e : (List.replicate K.toNat [d]).flatten = List.replicate k d := by
    rw [show K.toNat = k by omega]
    clear h hK
    induction k with
    | zero => rfl
    | succ k ih =>
      rw [List.replicate_succ, List.flatten_cons, ih, List.replicate_succ]
      first | done | rfl
  have c : -(2 ^ 63) ≤ K ∧ K < 2 ^ 63 ∧ [d].length * K.toNat ≤ sizeLine := by
    rw [sizeLine_eq, List.length_singleton]
    omega
  rw [lrep_e, if_pos c, e]
@[simp] theorem c2_e (f : Int → Int → Bool) (i j : Int) : c2 f (.int i) (.int j) = some (f i j) := rfl
@[simp] theorem ixD_l (xs : List D) (i : Int) : ixD (.lst xs) (.int i) = atI xs i := rfl
@[simp] theorem ixD_t (xs : List D) (i : Int) : ixD (.tup xs) (.int i) = atI xs i := rfl
@[simp] theorem ixD_s (xs : List D) (i : Int) : ixD (.scr xs) (.int i) = atI xs i := rfl
@[simp] theorem cutD_t (lo hi : Option Int) (xs : List D) : cutD lo hi (.tup xs) = some (.tup (cutG xs lo hi)) := rfl
@[simp] theorem cutD_l (lo hi : Option Int) (xs : List D) : cutD lo hi (.lst xs) = some (.lst (cutG xs lo hi)) := rfl
@[simp] theorem cutD_s (lo hi : Option Int) (xs : List D) : cutD lo hi (.scr xs) = some (.lst (cutG xs lo hi)) := rfl
@[simp] theorem lenD_l (xs : List D) : lenD [.lst xs] = some (.int xs.length) := rfl
@[simp] theorem lenD_t (xs : List D) : lenD [.tup xs] = some (.int xs.length) := rfl
@[simp] theorem lenD_s (xs : List D) : lenD [.scr xs] = some (.int xs.length) := rfl
@[simp] theorem intD_i (i : Int) : intD [.int i] = some (.int i) := rfl
@[simp] theorem intD_b (b : Bool) : intD [.bl b] = some (.int (if b then 1 else 0)) := rfl
@[simp] theorem absD_e (i : Int) : absD [.int i] = some (.int (if i < 0 then -i else i)) := rfl
@[simp] theorem maxD_e (i j : Int) : maxD [.int i, .int j] = some (.int (if j > i then j else i)) := rfl
@[simp] theorem minD_e (i j : Int) : minD [.int i, .int j] = some (.int (if j < i then j else i)) := rfl
@[simp] theorem tupD_l (xs : List D) : tupD [.lst xs] = some (.tup xs) := rfl
@[simp] theorem tupD_t (xs : List D) : tupD [.tup xs] = some (.tup xs) := rfl
@[simp] theorem lstD_l (xs : List D) : lstD [.lst xs] = some (.lst xs) := rfl
@[simp] theorem lstD_t (xs : List D) : lstD [.tup xs] = some (.lst xs) := rfl
@[simp] theorem blD_e (f : List Bool → Bool) (bs : List Bool) : blD f [.lst (bs.map D.bl)] = some (.bl (f bs)) := by
  show (blsL (bs.map D.bl)).map (fun bs => D.bl (f bs)) = _
  rw [blsL_map]; rfl
@[simp] theorem sumD_e (ns : List Int) : sumD [.lst (ns.map D.int)] = some (.int ns.sum) := by
  show (intsL (ns.map D.int)).map (fun ns => D.int ns.sum) = _
  rw [intsL_map]; rfl
@[simp] theorem isN_e (d : D) : isN d .non = some d.nonB := by cases d <;> rfl
@[simp] theorem isNN_e (d : D) : isNN d .non = some (!d.nonB) := by
  unfold isNN
  rw [isN_e]; rfl
@[simp] theorem nonB_int (i : Int) : (D.int i).nonB = false := rfl
@[simp] theorem nonB_non : D.non.nonB = true := rfl
@[simp] theorem nonB_bl (b : Bool) : (D.bl b).nonB = false := rfl
@[simp] theorem nonB_lst (b : List D) : (D.lst b).nonB = false := rfl
@[simp] theorem nonB_tup (b : List D) : (D.tup b).nonB = false := rfl
@[simp] theorem nonB_ins (c : Str) (fs : List (Str × D)) : (D.ins c fs).nonB = false := rfl
@[simp] theorem isC_bb (a b : Bool) : isC (.bl a) (.bl b) = some (a == b) := rfl
@[simp] theorem isC_nb (b : Bool) : isC .non (.bl b) = some false := rfl
theorem eqA_sc {d e : D} {v w : V} (h1 : d.flat = some v) (h2 : e.flat = some w) (h3 : scal v w = true) : eqA d e = some (decide (v = w)) := by
  unfold eqA
  rw [h1, h2]
  show (if scal v w = true then some (decide (v = w)) else eqD d e) = _
  rw [if_pos h3]
@[simp] theorem eqA_ii (a b : Int) : eqA (.int a) (.int b) = some (decide (a = b)) := by rw [eqA_sc (v := .int a) (w := .int b) rfl rfl rfl]; simp
@[simp] theorem eqA_bb (a b : Bool) : eqA (.bl a) (.bl b) = some (decide (a = b)) := by rw [eqA_sc (v := .bl a) (w := .bl b) rfl rfl rfl]; simp
@[simp] theorem eqA_ss (a b : Str) : eqA (.str a) (.str b) = some (decide (a = b)) := by rw [eqA_sc (v := .str a) (w := .str b) rfl rfl rfl]; simp
@[simp] theorem eqA_nn : eqA .non .non = some true := rfl
@[simp] theorem eqA_in (a : Int) : eqA (.int a) .non = some false := rfl
@[simp] theorem eqA_ni (a : Int) : eqA .non (.int a) = some false := rfl
@[simp] theorem eqA_bn (a : Bool) : eqA (.bl a) .non = some false := rfl
@[simp] theorem eqA_nb (a : Bool) : eqA .non (.bl a) = some false := rfl
@[simp] theorem eqA_sn (a : Str) : eqA (.str a) .non = some false := rfl
@[simp] theorem eqA_ns (a : Str) : eqA .non (.str a) = some false := rfl
@[simp] theorem eqA_si (a : Str) (b : Int) : eqA (.str a) (.int b) = some false := rfl
@[simp] theorem eqA_is (a : Str) (b : Int) : eqA (.int b) (.str a) = some false := rfl
@[simp] theorem eqA_sb (a : Str) (b : Bool) : eqA (.str a) (.bl b) = some false := rfl
@[simp] theorem eqA_bs (a : Str) (b : Bool) : eqA (.bl b) (.str a) = some false := rfl
@[simp] theorem eqA_ib (a : Int) (b : Bool) : eqA (.int a) (.bl b) = some (a == (if b then 1 else 0)) := rfl
@[simp] theorem eqA_bi (a : Int) (b : Bool) : eqA (.bl b) (.int a) = some ((if b then 1 else 0) == a) := rfl
@[simp] theorem eqA_ll (xs ys : List D) : eqA (.lst xs) (.lst ys) = eqD (.lst xs) (.lst ys) := rfl
@[simp] theorem eqA_tt (xs ys : List D) : eqA (.tup xs) (.tup ys) = eqD (.tup xs) (.tup ys) := rfl
@[simp] theorem neA_e (d e : D) : neA d e = (eqA d e).map (!·) := rfl
@[simp] theorem fldD_e (cs : List Str) (f c : Str) (fs : List (Str × D)) : fldD cs f (.ins c fs) = if cs.contains c = true then fs.lookup f else none := rfl
/-! ### places -/
theorem atI_nat {α : Type} (xs : List α) (k : Nat) : atI xs (k : Int) = xs[k]? := by
  unfold atI ixN
  rw [if_pos (Int.natCast_nonneg k)]
  by_cases h : k < xs.length
  · rw [if_pos (by omega)]; rfl
  · rw [if_neg (by omega)]
    exact (List.getElem?_eq_none (by omega)).symm
theorem setIx_nat (k : Nat) (d : D) (ds : List D) : setIx (k : Int) d ds = if k < ds.length then some (ds.set k d) else none := by
  unfold setIx ixN
  rw [if_pos (Int.natCast_nonneg k)]
  by_cases h : k < ds.length
  · rw [if_pos (by omega), if_pos h]; rfl
  · rw [if_neg (by omega), if_neg h]; rfl
@[simp] theorem atI_0 {α : Type} (xs : List α) : atI xs 0 = xs[0]? := atI_nat xs 0
@[simp] theorem setIx_0 (d : D) (ds : List D) : setIx 0 d ds = if 0 < ds.length then some (ds.set 0 d) else none := setIx_nat 0 d ds
@[simp] theorem atI_1 {α : Type} (xs : List α) : atI xs 1 = xs[1]? := atI_nat xs 1
@[simp] theorem setIx_1 (d : D) (ds : List D) : setIx 1 d ds = if 1 < ds.length then some (ds.set 1 d) else none := setIx_nat 1 d ds
@[simp] theorem atI_2 {α : Type} (xs : List α) : atI xs 2 = xs[2]? := atI_nat xs 2
@[simp] theorem setIx_2 (d : D) (ds : List D) : setIx 2 d ds = if 2 < ds.length then some (ds.set 2 d) else none := setIx_nat 2 d ds
@[simp] theorem atI_3 {α : Type} (xs : List α) : atI xs 3 = xs[3]? := atI_nat xs 3
@[simp] theorem setIx_3 (d : D) (ds : List D) : setIx 3 d ds = if 3 < ds.length then some (ds.set 3 d) else none := setIx_nat 3 d ds
@[simp] theorem atI_4 {α : Type} (xs : List α) : atI xs 4 = xs[4]? := atI_nat xs 4
@[simp] theorem setIx_4 (d : D) (ds : List D) : setIx 4 d ds = if 4 < ds.length then some (ds.set 4 d) else none := setIx_nat 4 d ds
@[simp] theorem atI_5 {α : Type} (xs : List α) : atI xs 5 = xs[5]? := atI_nat xs 5
@[simp] theorem setIx_5 (d : D) (ds : List D) : setIx 5 d ds = if 5 < ds.length then some (ds.set 5 d) else none := setIx_nat 5 d ds
@[simp] theorem atI_6 {α : Type} (xs : List α) : atI xs 6 = xs[6]? := atI_nat xs 6
@[simp] theorem setIx_6 (d : D) (ds : List D) : setIx 6 d ds = if 6 < ds.length then some (ds.set 6 d) else none := setIx_nat 6 d ds
@[simp] theorem atI_7 {α : Type} (xs : List α) : atI xs 7 = xs[7]? := atI_nat xs 7
@[simp] theorem setIx_7 (d : D) (ds : List D) : setIx 7 d ds = if 7 < ds.length then some (ds.set 7 d) else none := setIx_nat 7 d ds
theorem atI_pos {α : Type} {xs : List α} {i : Int} (h0 : 0 ≤ i) (h1 : i < xs.length) : atI xs i = some (xs[i.toNat]'(by omega)) := by
  have e : i = (i.toNat : Int) := by omega
  have : atI xs ((i.toNat : Nat) : Int) = xs[i.toNat]? := atI_nat xs i.toNat
  rw [← e] at this
  rw [this, List.getElem?_eq_getElem]
theorem atI_mapI {xs : List Int} {i : Int} (h0 : 0 ≤ i) (h1 : i < xs.length) : atI (xs.map D.int) i = some (.int (xs[i.toNat]'(by omega))) := by
  rw [atI_pos h0 (by simpa using h1)]
  simp
@[simp] theorem atI_m1 {α : Type} (xs : List α) : atI xs (-1) = xs.getLast? := by
  unfold atI ixN
  rw [if_neg (by decide)]
  cases xs with
  | nil => rfl
  | cons x xs =>
    rw [if_pos (by simp; omega), List.getLast?_eq_getElem?]
    show (x :: xs)[(-1 + ((x :: xs).length : Int)).toNat]? = _
    congr 1
    simp; omega
/-! ### isinstance -/
@[simp] theorem isiD_e (tb : Tb) (d e : D) : isiD tb [d, e] = d.tg.bind fun t => e.cls.bind fun u => (isiT tb t u).map D.bl := by
  show (match d.tg, e.cls with | some t, some u => (isiT tb t u).map D.bl | _, _ => none) = _
  cases d.tg <;> cases e.cls <;> rfl
@[simp] theorem tg_non : D.non.tg = some (.b "NoneType") := rfl
@[simp] theorem tg_bl (b : Bool) : (D.bl b).tg = some (.b "bool") := rfl
@[simp] theorem tg_int (b : Int) : (D.int b).tg = some (.b "int") := rfl
@[simp] theorem tg_str (b : Str) : (D.str b).tg = some (.b "str") := rfl
@[simp] theorem tg_lst (b : List D) : (D.lst b).tg = some (.b "list") := rfl
@[simp] theorem tg_tup (b : List D) : (D.tup b).tg = some (.b "tuple") := rfl
@[simp] theorem tg_ins (c : Str) (fs : List (Str × D)) : (D.ins c fs).tg = some (.c c) := rfl
@[simp] theorem cls_ty (n : String) : (D.ty n).cls = some (.b n) := rfl
@[simp] theorem cls_glo (n : Str) : (D.glo n).cls = some (.c n) := rfl
@[simp] theorem isiT_bb (tb : Tb) (a b : String) : isiT tb (.b a) (.b b) = kitB a b := rfl
@[simp] theorem kb1 : kitB "int" "int" = some true := by decide +kernel
@[simp] theorem kb2 : kitB "bool" "int" = some true := by decide +kernel
@[simp] theorem kb3 : kitB "NoneType" "int" = some false := by decide +kernel
@[simp] theorem kb4 : kitB "str" "int" = some false := by decide +kernel
@[simp] theorem kb5 : kitB "list" "int" = some false := by decide +kernel
@[simp] theorem kb6 : kitB "tuple" "int" = some false := by decide +kernel
@[simp] theorem kb7 : kitB "int" "bool" = some false := by decide +kernel
@[simp] theorem kb8 : kitB "bool" "bool" = some true := by decide +kernel
@[simp] theorem kb9 : kitB "NoneType" "bool" = some false := by decide +kernel
@[simp] theorem kb10 : kitB "int" "tuple" = some false := by decide +kernel
@[simp] theorem kb11 : kitB "bool" "tuple" = some false := by decide +kernel
@[simp] theorem kb12 : kitB "NoneType" "tuple" = some false := by decide +kernel
@[simp] theorem kb13 : kitB "str" "tuple" = some false := by decide +kernel
@[simp] theorem kb14 : kitB "list" "tuple" = some false := by decide +kernel
@[simp] theorem kb15 : kitB "tuple" "tuple" = some true := by decide +kernel
@[simp] theorem kb16 : kitB "str" "str" = some true := by decide +kernel
@[simp] theorem kb17 : kitB "int" "str" = some false := by decide +kernel
@[simp] theorem kb18 : kitB "NoneType" "str" = some false := by decide +kernel
@[simp] theorem kb19 : kitB "tuple" "str" = some false := by decide +kernel
@[simp] theorem kb20 : kitB "list" "list" = some true := by decide +kernel
@[simp] theorem kb21 : kitB "tuple" "list" = some false := by decide +kernel
@[simp] theorem kb22 : kitB "str" "bool" = some false := by decide +kernel
@[simp] theorem kb23 : kitB "tuple" "bool" = some false := by decide +kernel
@[simp] theorem kb24 : kitB "bool" "str" = some false := by decide +kernel
/-! bounds that simp settles -/
theorem cmul_r {i j : Int} (h : -(2 ^ 64) < j ∧ j < 2 ^ 64) : CMul i j := .inr h
theorem cmul_l {i j : Int} (h : -(2 ^ 64) < i ∧ i < 2 ^ 64) : CMul i j := .inl h
@[simp] theorem cdiv_e (i j : Int) : CDiv i j ↔ (0 < j ∧ j < 1073741824) := Iff.rfl
@[simp] theorem cpow_e (i j : Int) : CPow i j ↔ (0 ≤ j ∧ j ≤ 1000000 ∧ i.natAbs < 18446744073709551616) := Iff.rfl
@[simp] theorem cmul_e (i j : Int) : CMul i j ↔ ((-18446744073709551616 < i ∧ i < 18446744073709551616) ∨ (-18446744073709551616 < j ∧ j < 18446744073709551616)) := Iff.rfl
/-! ### calls -/
@[simp] theorem okSl_nil : okSl [] = true := rfl
@[simp] theorem okSl_d (d : D) (xs : List Av) : okSl (.d d :: xs) = okSl xs := rfl
def notS (i : Nat) : Av → Bool
  | .s j => i != j
  | .d _ => true
@[simp] theorem notS_d (i : Nat) (d : D) : notS i (.d d) = true := rfl
@[simp] theorem notS_s (i j : Nat) : notS i (.s j) = (i != j) := rfl
@[simp] theorem okSl_s (i : Nat) (xs : List Av) : okSl (.s i :: xs) = (xs.all (notS i) && okSl xs) := by
  show ((xs.all fun x => match x with | .s j => i != j | .d _ => true) && okSl xs) = _
  congr
@[simp] theorem margs_nil (s : CS) : margs [] [] s = some [] := rfl
@[simp] theorem margs_f (m : List Bool) (d : D) (xs : List Av) (s : CS) : margs (false :: m) (.d d :: xs) s = (margs m xs s).map (d :: ·) := rfl
def hotV : Option (Option Sl) → Option D
  | some (some (.ow d)) => some d
  | some (some (.le d)) => some d
  | _ => none
@[simp] theorem hotV_ow (d : D) : hotV (some (some (.ow d))) = some d := rfl
@[simp] theorem hotV_le (d : D) : hotV (some (some (.le d))) = some d := rfl
@[simp] theorem margs_t (m : List Bool) (i : Nat) (xs : List Av) (s : CS) : margs (true :: m) (.s i :: xs) s = (hotV s[i]?).bind fun d => (margs m xs s).map (d :: ·) := by
  show (match s[i]? with | some (some (Sl.ow d)) => (margs m xs s).map (d :: ·) | some (some (Sl.le d)) => (margs m xs s).map (d :: ·) | _ => none) = _
  cases s[i]? with
  | none => rfl
  | some o => cases o with
    | none => rfl
    | some x => cases x <;> rfl
@[simp] theorem putB_nil (os : List D) (s : CS) : putB [] [] os s = s := by unfold putB; rfl
@[simp] theorem putB_f (m : List Bool) (x : Av) (xs : List Av) (o : D) (os : List D) (s : CS) : putB (false :: m) (x :: xs) (o :: os) s = putB m xs os s := by cases x <;> (rw [putB]; intro i h; cases h)
@[simp] theorem putB_t (m : List Bool) (i : Nat) (xs : List Av) (o : D) (os : List D) (s : CS) : putB (true :: m) (.s i :: xs) (o :: os) s = putB m xs os (putAt i o s) := by
  rw [putB]
  unfold putAt
  cases s[i]? with
  | none => rfl
  | some y => cases y <;> rfl
/-- a call's end in the caller -/
def calO (mask : List Bool) (xs : List Av) (s : CS) : GR → Rs Sl
  | .ok r outs => .ok r (putB mask xs outs s)
  | .exc c fs outs => .exc c fs (putB mask xs outs s)
  | .bad => .bad
@[simp] theorem calO_ok (m : List Bool) (xs : List Av) (s : CS) (r : Sl) (os : List D) : calO m xs s (.ok r os) = .ok r (putB m xs os s) := rfl
@[simp] theorem calO_ite (m : List Bool) (xs : List Av) (s : CS) (p : Prop) [Decidable p] (a b : GR) : calO m xs s (if p then a else b) = if p then calO m xs s a else calO m xs s b := by split <;> rfl
def calA (mask : List Bool) (xs : List Av) (s : CS) (g : List D → GR) : Option (List D) → Rs Sl
  | none => .bad
  | some ds => calO mask xs s (g ds)
@[simp] theorem calA_some (m : List Bool) (xs : List Av) (s : CS) (g : List D → GR) (ds : List D) : calA m xs s g (some ds) = calO m xs s (g ds) := rfl
theorem calR_e (mask : List Bool) (g : List D → GR) (xs : List Av) (s : CS) : calR mask g xs s = if okSl xs = true then calA mask xs s g (margs mask xs s) else .bad := by
  unfold calR calA
  split
  · cases margs mask xs s with
    | none => rfl
    | some ds =>
      dsimp only
      cases g ds <;> rfl
  · rfl
def frzR (r : Sl) (s : CS) : Rs D := match r with
  | .fz d => .ok d s
  | .ow d => .ok d s
  | .le _ => .bad
@[simp] theorem frzR_fz (d : D) (s : CS) : frzR (.fz d) s = .ok d s := rfl
@[simp] theorem frzR_ow (d : D) (s : CS) : frzR (.ow d) s = .ok d s := rfl
@[simp] theorem calD_e (f : CS → Rs (List Av)) (m : List Bool) (g : List D → GR) (s : CS) : calD f m g s = (f s).bind fun xs s => (if okSl xs = true then calA m xs s g (margs m xs s) else .bad).bind frzR := by
  unfold calD
  congr
def ownR (r : Sl) (s : CS) : Rs D := match r with
  | .ow d => .ok d s
  | _ => .bad
@[simp] theorem ownR_ow (d : D) (s : CS) : ownR (.ow d) s = .ok d s := rfl
@[simp] theorem calN_e (f : CS → Rs (List Av)) (m : List Bool) (g : List D → GR) (s : CS) : calN f m g s = (f s).bind fun xs s => (if okSl xs = true then calA m xs s g (margs m xs s) else .bad).bind ownR := by
  unfold calN
  congr
end Cl

set_option Elab.async false
set_option linter.all false
set_option maxRecDepth 100000
set_option maxHeartbeats 4000000
set_option autoImplicit false
/-! Cl, part N: loops and comprehensions reckoned. -/
namespace Cl
open PySem PySem.Spec L2

/-! ### comprehensions -/
@[simp] theorem yesT_e (s : CS) : yesT s = .ok true s := rfl
/-- one turn -/
def turnC (vs : List Nat) (g : TgC) (t : CS → Rs Bool) (e : CS → Rs D) (d : D) (s : CS) : Rs (Option D) := match g d s with
  | none => .bad
  | some s1 => (onlyR (t s1)).bind fun b s2 => if b = true then (onlyR (e s2)).bind fun y s3 => if coldS vs s3 = true then .ok (some y) (wipeS vs s3) else .bad
    else if coldS vs s2 = true then .ok none (wipeS vs s2) else .bad
theorem lcL_cons {vs : List Nat} {g : TgC} {t : CS → Rs Bool} {e : CS → Rs D} {d : D} {ds acc : List D} {s s' : CS} {y : D} (h : turnC vs g t e d s = .ok (some y) s') (hl : acc.length < sizeLine) :
    lcL vs g t e (d :: ds) acc s = lcL vs g t e ds (acc ++ [y]) s' := by
  unfold turnC at h
  conv => lhs; unfold lcL
  cases h1 : g d s with
  | none => rw [h1] at h; cases h
  | some s1 =>
    rw [h1] at h
    dsimp only at h ⊢
    cases h2 : onlyR (t s1) with
    | bad => rw [h2] at h; cases h
    | exc c fs s2 => rw [h2] at h; cases h
    | ok b s2 =>
      rw [h2] at h
      simp only [Rs.bind_ok] at h ⊢
      cases b with
      | false =>
        rw [if_neg Bool.false_ne_true] at h
        split at h <;> cases h
      | true =>
        rw [if_pos rfl] at h ⊢
        cases h3 : onlyR (e s2) with
        | bad => rw [h3] at h; cases h
        | exc c fs s3 => rw [h3] at h; cases h
        | ok z s3 =>
          rw [h3] at h
          simp only [Rs.bind_ok] at h ⊢
          split at h
          · rename_i hc
            cases h
            rw [if_pos hl, if_pos hc]
          · cases h
theorem lcL_skip {vs : List Nat} {g : TgC} {t : CS → Rs Bool} {e : CS → Rs D} {d : D} {ds acc : List D} {s s' : CS} (h : turnC vs g t e d s = .ok none s') : lcL vs g t e (d :: ds) acc s = lcL vs g t e ds acc s' := by
  unfold turnC at h
  conv => lhs; unfold lcL
  cases h1 : g d s with
  | none => rw [h1] at h; cases h
  | some s1 =>
    rw [h1] at h
    dsimp only at h ⊢
    cases h2 : onlyR (t s1) with
    | bad => rw [h2] at h; cases h
    | exc c fs s2 => rw [h2] at h; cases h
    | ok b s2 =>
      rw [h2] at h
      simp only [Rs.bind_ok] at h ⊢
      cases b with
      | true =>
        rw [if_pos rfl] at h
        cases h3 : onlyR (e s2) with
        | bad => rw [h3] at h; cases h
        | exc c fs s3 => rw [h3] at h; cases h
        | ok z s3 =>
          rw [h3] at h
          simp only [Rs.bind_ok] at h
          split at h <;> cases h
      | false =>
        rw [if_neg Bool.false_ne_true] at h ⊢
        split at h
        · rename_i hc
          cases h
          rw [if_pos hc]
        · cases h
/-- each turn leaves the state as it was -/
theorem lcL_all {vs : List Nat} {g : TgC} {t : CS → Rs Bool} {e : CS → Rs D} {F : D → Option D} {s : CS} : ∀ {items acc : List D}, (∀ d ∈ items, turnC vs g t e d s = .ok (F d) s) → acc.length + items.length ≤ sizeLine →
    lcL vs g t e items acc s = .ok (acc ++ items.filterMap F) s
  | [], acc, _, _ => by unfold lcL; simp
  | d :: ds, acc, h, hl => by
    have h1 := h d List.mem_cons_self
    have h2 : ∀ d ∈ ds, turnC vs g t e d s = .ok (F d) s := fun x hx => h x (List.mem_cons_of_mem _ hx)
    simp only [List.length_cons] at hl
    cases hF : F d with
    | none =>
      rw [hF] at h1
      rw [lcL_skip h1, lcL_all h2 (by omega), List.filterMap_cons, hF]
    | some y =>
      rw [hF] at h1
      rw [lcL_cons h1 (by omega), lcL_all h2 (by simp; omega), List.filterMap_cons, hF]
      simp
theorem lcL_map {α : Type} {vs : List Nat} {g : TgC} {t : CS → Rs Bool} {e : CS → Rs D} {s : CS} (inj f : α → D) (xs : List α) (h : ∀ x ∈ xs, turnC vs g t e (inj x) s = .ok (some (f x)) s) (hz : xs.length ≤ sizeLine) : lcL vs g t e (xs.map inj) [] s = .ok (xs.map f) s := by
  have key : ∀ (xs : List α) (acc : List D), (∀ x ∈ xs, turnC vs g t e (inj x) s = .ok (some (f x)) s) → acc.length + xs.length ≤ sizeLine → lcL vs g t e (xs.map inj) acc s = .ok (acc ++ xs.map f) s := by
    intro xs
    induction xs with
    | nil => intro acc _ _; conv => lhs; unfold lcL
             simp
    | cons x xs ih =>
      intro acc h hz
      simp only [List.length_cons] at hz
      rw [List.map_cons, lcL_cons (h x List.mem_cons_self) (by omega), ih _ (fun y hy => h y (List.mem_cons_of_mem _ hy)) (by simp; omega)]
      simp
  exact key xs [] h (by simpa using hz)
theorem lcL_filter {α : Type} {vs : List Nat} {g : TgC} {t : CS → Rs Bool} {e : CS → Rs D} {s : CS} (inj f : α → D) (p : α → Bool) (xs : List α) (h : ∀ x ∈ xs, turnC vs g t e (inj x) s = .ok (if p x = true then some (f x) else none) s) (hz : xs.length ≤ sizeLine) :
    lcL vs g t e (xs.map inj) [] s = .ok ((xs.filter p).map f) s := by
  have key : ∀ (xs : List α) (acc : List D), (∀ x ∈ xs, turnC vs g t e (inj x) s = .ok (if p x = true then some (f x) else none) s) → acc.length + xs.length ≤ sizeLine → lcL vs g t e (xs.map inj) acc s = .ok (acc ++ (xs.filter p).map f) s := by
    intro xs
    induction xs with
    | nil => intro acc _ _; conv => lhs; unfold lcL
             simp
    | cons x xs ih =>
      intro acc h hz
      simp only [List.length_cons] at hz
      have hx := h x List.mem_cons_self
      have ht : ∀ y ∈ xs, turnC vs g t e (inj y) s = .ok (if p y = true then some (f y) else none) s := fun y hy => h y (List.mem_cons_of_mem _ hy)
      rw [List.map_cons]
      cases hp : p x with
      | true =>
        rw [hp, if_pos rfl] at hx
        rw [lcL_cons hx (by omega), ih _ ht (by simp; omega), List.filter_cons_of_pos hp]
        simp
      | false =>
        rw [hp, if_neg Bool.false_ne_true] at hx
        rw [lcL_skip hx, ih _ ht (by omega), List.filter_cons_of_neg (by simp [hp])]
  exact key xs [] h (by simpa using hz)
/-- .. by an invariant of what was found and of the state -/
theorem lcL_inv {vs : List Nat} {g : TgC} {t : CS → Rs Bool} {e : CS → Rs D} {P : List D → CS → Prop} : ∀ {items acc : List D} {s : CS}, (∀ d ∈ items, ∀ acc s, P acc s → ∃ o s', turnC vs g t e d s = .ok o s' ∧ P (acc ++ o.toList) s') → acc.length + items.length ≤ sizeLine → P acc s →
    ∃ ys s', lcL vs g t e items acc s = .ok ys s' ∧ P ys s'
  | [], acc, s, _, _, h => ⟨acc, s, by unfold lcL; rfl, h⟩
  | d :: ds, acc, s, h, hl, hp => by
    obtain ⟨o, s', h1, h2⟩ := h d List.mem_cons_self acc s hp
    have h3 : ∀ d ∈ ds, ∀ acc s, P acc s → ∃ o s', turnC vs g t e d s = .ok o s' ∧ P (acc ++ o.toList) s' := fun x hx => h x (List.mem_cons_of_mem _ hx)
    simp only [List.length_cons] at hl
    cases o with
    | none =>
      rw [lcL_skip h1]
      exact lcL_inv h3 (by omega) (by simpa using h2)
    | some y =>
      rw [lcL_cons h1 (by omega)]
      exact lcL_inv h3 (by simp; omega) (by simpa using h2)
/-- how the items were found -/
def lcO (vs : List Nat) (s1 : CS) (r : Rs (List D)) : Rs D := r.bind fun acc s2 => .ok (.lst acc) (backS vs s1 s2)
@[simp] theorem lcO_ok (vs : List Nat) (s1 s2 : CS) (acc : List D) : lcO vs s1 (.ok acc s2) = .ok (.lst acc) (backS vs s1 s2) := rfl
@[simp] theorem lcE_e (vs : List Nat) (fi : CS → Rs (List D)) (g : TgC) (t : CS → Rs Bool) (e : CS → Rs D) (s : CS) : lcE vs fi g t e s = (fi s).bind fun items s1 => if coldS vs s1 = true then lcO vs s1 (lcL vs g t e items [] (wipeS vs s1)) else .bad := rfl
@[simp] theorem wipeS_nil (s : CS) : wipeS [] s = s := rfl
@[simp] theorem wipeS_cons (v : Nat) (vs : List Nat) (s : CS) : wipeS (v :: vs) s = (wipeS vs s).set v none := rfl
def cldO : Option (Option Sl) → Bool
  | some (some (.ow _)) => false
  | some (some (.le _)) => false
  | _ => true
@[simp] theorem cldO_n : cldO (some none) = true := rfl
@[simp] theorem cldO_fz (d : D) : cldO (some (some (.fz d))) = true := rfl
@[simp] theorem coldS_nil (s : CS) : coldS [] s = true := rfl
@[simp] theorem coldS_cons (v : Nat) (vs : List Nat) (s : CS) : coldS (v :: vs) s = (cldO s[v]? && coldS vs s) := by
  show ((match s[v]? with | some (some (Sl.ow _)) => false | some (some (Sl.le _)) => false | _ => true) && coldS vs s) = _
  congr
def bkO (v : Nat) (o : Option (Option Sl)) (s : CS) : CS := match o with
  | some x => s.set v x
  | none => s
@[simp] theorem bkO_some (v : Nat) (x : Option Sl) (s : CS) : bkO v (some x) s = s.set v x := rfl
@[simp] theorem backS_nil (s0 s : CS) : backS [] s0 s = s := rfl
@[simp] theorem backS_cons (v : Nat) (vs : List Nat) (s0 s : CS) : backS (v :: vs) s0 s = backS vs s0 (bkO v s0[v]? s) := rfl
@[simp] theorem onlyR_ok {α : Type} (a : α) (s : CS) : onlyR (.ok a s) = .ok a s := rfl
@[simp] theorem onlyR_ite {α : Type} (p : Prop) [Decidable p] (a b : Rs α) : onlyR (if p then a else b) = if p then onlyR a else onlyR b := by split <;> rfl
theorem turnC_e (vs : List Nat) (g : TgC) (t : CS → Rs Bool) (e : CS → Rs D) (d : D) (s : CS) : turnC vs g t e d s = match g d s with
  | none => .bad
  | some s1 => (onlyR (t s1)).bind fun b s2 => if b = true then (onlyR (e s2)).bind fun y s3 => if coldS vs s3 = true then .ok (some y) (wipeS vs s3) else .bad
    else if coldS vs s2 = true then .ok none (wipeS vs s2) else .bad := rfl
/-! ### for -/
@[simp] theorem turnS_nx (s : CS) : turnS (.nx s) = .inl s := rfl
@[simp] theorem turnS_ct (s : CS) : turnS (.ct s) = .inl s := rfl
@[simp] theorem turnS_brk (s : CS) : turnS (.brk s) = .inr (.nx s) := rfl
@[simp] theorem turnS_ret (r : Sl) (s : CS) : turnS (.ret r s) = .inr (.ret r s) := rfl
@[simp] theorem turnS_exc (c : Str) (fs : List (Str × D)) (s : CS) : turnS (.exc c fs s) = .inr (.exc c fs s) := rfl
@[simp] theorem turnS_ite (p : Prop) [Decidable p] (a b : Fl) : turnS (if p then a else b) = if p then turnS a else turnS b := by split <;> rfl
@[simp] theorem forS_nil (g : TgC) (b : CS → Fl) (s : CS) : forS g b [] s = .nx s := rfl
/-- one turn of a for -/
def oneF (g : TgC) (b : CS → Fl) (d : D) (s : CS) : CS ⊕ Fl := match g d s with
  | none => .inr .bad
  | some s1 => turnS (b s1)
theorem forS_cons (g : TgC) (b : CS → Fl) (d : D) (ds : List D) (s : CS) : forS g b (d :: ds) s = match oneF g b d s with
  | .inl s' => forS g b ds s'
  | .inr r => r := by
  rw [forS]
  unfold oneF
  cases g d s <;> rfl
theorem forS_inl {g : TgC} {b : CS → Fl} {d : D} {ds : List D} {s s' : CS} (h : oneF g b d s = .inl s') : forS g b (d :: ds) s = forS g b ds s' := by rw [forS_cons, h]
theorem forS_inr {g : TgC} {b : CS → Fl} {d : D} {ds : List D} {s : CS} {r : Fl} (h : oneF g b d s = .inr r) : forS g b (d :: ds) s = r := by rw [forS_cons, h]
/-- a loop that runs through, by an invariant of the turn -/
theorem forS_inv {g : TgC} {b : CS → Fl} (P : Nat → CS → Prop) (R : Fl → Prop) : ∀ (items : List D) (i : Nat) (s : CS), (∀ j d, items[j]? = some d → ∀ s, P (i + j) s → (∃ s', oneF g b d s = .inl s' ∧ P (i + j + 1) s') ∨ (∃ r, oneF g b d s = .inr r ∧ R r)) → P i s →
    (∃ s', forS g b items s = .nx s' ∧ P (i + items.length) s') ∨ R (forS g b items s)
  | [], i, s, _, hp => .inl ⟨s, rfl, by simpa using hp⟩
  | d :: ds, i, s, h, hp => by
    rcases h 0 d rfl s (by simpa using hp) with ⟨s', h1, h2⟩ | ⟨r, h1, h2⟩
    · rw [forS_inl h1]
      have h3 := forS_inv P R ds (i + 1) s' (fun j e he s hs => by
        have := h (j + 1) e (by simpa using he) s (by rw [show i + (j + 1) = i + 1 + j by omega]; exact hs)
        rw [show i + (j + 1) = i + 1 + j by omega] at this
        exact this) (by simpa using h2)
      rw [show i + (d :: ds).length = i + 1 + ds.length by simp; omega]
      exact h3
    · rw [forS_inr h1]
      exact .inr h2
/-- a slot that no hot thing holds -/
@[simp] theorem scO_map (i : Nat) (y : Sl) (x : Option D) (s : CS) : scO i y (some (x.map Sl.fz)) s = some (s.set i (some y)) := by cases x <;> rfl
/-! ### lists of ints, bools -/
@[simp] theorem blD_map {α : Type} (f : List Bool → Bool) (h : α → Bool) (xs : List α) : blD f [.lst (xs.map fun x => D.bl (h x))] = some (.bl (f (xs.map h))) := by
  have : (xs.map fun x => D.bl (h x)) = (xs.map h).map D.bl := by rw [List.map_map]; rfl
  rw [this]; exact blD_e f _
@[simp] theorem sumD_map {α : Type} (h : α → Int) (xs : List α) : sumD [.lst (xs.map fun x => D.int (h x))] = some (.int (xs.map h).sum) := by
  have : (xs.map fun x => D.int (h x)) = (xs.map h).map D.int := by rw [List.map_map]; rfl
  rw [this]; exact sumD_e _
theorem ints_map {α : Type} (h : α → Int) (xs : List α) : (xs.map fun x => D.int (h x)) = (xs.map h).map D.int := by rw [List.map_map]; rfl
/-- the items of a range from 0 -/
theorem from0 (n : Nat) : intsFrom 0 1 n = (List.range n).map fun (i : Nat) => D.int (i : Int) := by
  unfold intsFrom
  congr; funext i
  congr 1
  omega
theorem rng1_e (j : Int) : rng1 [.int j] = if sml j then some (intsFrom 0 1 j.toNat) else none := rfl
theorem rng2_e (i j : Int) : rng2 [.int i, .int j] = if sml i ∧ sml j then some (intsFrom i 1 (j - i).toNat) else none := rfl
theorem rng1_n (n : Nat) (N : Int) (hN : N = (n : Int)) (h : n ≤ 1000000000) : rng1 [.int N] = some ((List.range n).map fun (i : Nat) => D.int (i : Int)) := by
  rw [rng1_e, if_pos ⟨by omega, by omega⟩, show N.toNat = n by omega, from0]
theorem rng2_n (a b : Nat) (A B : Int) (hA : A = (a : Int)) (hB : B = (b : Int)) (h : a ≤ 1000000000) (h2 : b ≤ 1000000000) : rng2 [.int A, .int B] = some ((List.range' a (b - a)).map fun (i : Nat) => D.int (i : Int)) := by
  rw [rng2_e, if_pos ⟨⟨by omega, by omega⟩, by omega, by omega⟩, show (B - A).toNat = b - a by omega]
  unfold intsFrom
  rw [List.range'_eq_map_range, List.map_map]
  congr 2
  funext i
  show D.int _ = D.int _
  congr 1
  push_cast
  omega
/-! ### lists of ints -/
@[simp] theorem flatL_ints (xs : List Int) : flatL (xs.map D.int) = some (xs.map V.int) := by
  induction xs with
  | nil => rfl
  | cons x xs ih => rw [List.map_cons, flatL, ih]; rfl
theorem inV_ints (i : Int) (xs : List Int) : inV (.int i) (xs.map V.int) = decide (i ∈ xs) := by
  unfold inV
  induction xs with
  | nil => rfl
  | cons x xs ih =>
    rw [List.map_cons, List.any_cons, ih]
    show ((x == i) || decide (i ∈ xs)) = _
    by_cases h : x = i
    · subst h; simp
    · have h' : ¬ i = x := fun e => h e.symm
      simp [h, h']
theorem flat_ints (xs : List Int) : (xs.map V.int).all flatV = true := by
  rw [List.all_map]
  exact List.all_eq_true.mpr fun x _ => rfl
theorem inD_of {i : Int} {e : D} {xs : List Int} (h : e.items = some (xs.map D.int)) : inD (.int i) e = some (decide (i ∈ xs)) := by
  unfold inD
  rw [h]
  show (match some (V.int i), flatL (xs.map D.int) with | some v, some vs => (if flatV v = true ∧ vs.all flatV = true then some (inV v vs) else none) | _, _ => none) = _
  rw [flatL_ints]
  show (if flatV (.int i) = true ∧ (xs.map V.int).all flatV = true then some (inV (.int i) (xs.map V.int)) else none) = _
  rw [if_pos ⟨rfl, flat_ints xs⟩, inV_ints]
@[simp] theorem inD_l (i : Int) (xs : List Int) : inD (.int i) (.lst (xs.map D.int)) = some (decide (i ∈ xs)) := inD_of rfl
@[simp] theorem inD_t (i : Int) (xs : List Int) : inD (.int i) (.tup (xs.map D.int)) = some (decide (i ∈ xs)) := inD_of rfl
@[simp] theorem ninD_e (d e : D) : ninD d e = (inD d e).map (!·) := rfl
theorem cutG_map {α : Type} (f : α → D) (xs : List α) (lo hi : Option Int) : cutG (xs.map f) lo hi = (cutG xs lo hi).map f := by
  unfold cutG
  rw [List.length_map, List.map_take, List.map_drop]
/-- [:n] and [n:] where n is within the length -/
theorem cutG_to {α : Type} (xs : List α) (n : Nat) (h : n ≤ xs.length) : cutG xs none (some (n : Int)) = xs.take n := by
  unfold cutG
  have h1 : HT.sIx xs.length 0 none = 0 := rfl
  have h2 : HT.sIx xs.length xs.length (some (n : Int)) = n := by
    simp only [HT.sIx]
    split <;> omega
  rw [h1, h2]; simp
theorem cutG_from {α : Type} (xs : List α) (n : Nat) (h : n ≤ xs.length) : cutG xs (some (n : Int)) none = xs.drop n := by
  unfold cutG
  have h1 : HT.sIx xs.length xs.length none = xs.length := rfl
  have h2 : HT.sIx xs.length 0 (some (n : Int)) = n := by
    simp only [HT.sIx]
    split <;> omega
  rw [h1, h2]
  exact List.take_of_length_le (by simp)
end Cl

set_option Elab.async false
set_option linter.all false
set_option maxRecDepth 100000
set_option maxHeartbeats 4000000
set_option autoImplicit false
namespace W84
open PySem PySem.Spec L2 Cl
/-! ### checks -/
theorem e_is_integer (i : Int) : g_is_integer [.int i] = .ok (.fz (.bl true)) [.non] := by
  unfold g_is_integer
  rw [runF_e]
  simp [fb_is_integer]
theorem e_place (d l a : Int) (ha : 0 < a) : g_place_of_day [.int d, .int l, .int a] = .ok (.fz (.int (if d < l then d else l + (d - l) % a))) [.non, .non, .non] := by
  unfold g_place_of_day
  rw [runF_e]
  simp [fb_place_of_day, ha]
  split <;> rfl
theorem e_within (i l h : Int) : g_is_within [.int i, .int l, .int h] = .ok (.fz (.bl (decide (l ≤ i ∧ i ≤ h)))) [.non, .non, .non] := by
  unfold g_is_within
  rw [runF_e]
  simp [fb_is_within, e_is_integer]
  split <;> simp [*]
theorem e_check (i l h : Int) (h1 : l ≤ i) (h2 : i ≤ h) : g_check_number [.int i, .int l, .int h] = .ok (.fz .non) [.non, .non, .non] := by
  unfold g_check_number
  rw [runF_e]
  simp [fb_check_number, e_within, h1, h2]
theorem e_check_day (i : Int) (h : 0 ≤ i) : g_check_day [.int i] = .ok (.fz .non) [.non] := by
  have e : g_is_number [.int i] = .ok (.fz (.bl true)) [.non] := by
    unfold g_is_number
    rw [runF_e]
    simp [fb_is_number, e_is_integer, h]
  unfold g_check_day
  rw [runF_e]
  simp [fb_check_day, e]
theorem e_are_bits (bs : List Int) (lo hi : Int) (h1 : lo ≤ bs.length) (h2 : bs.length ≤ hi) (hz : bs.length ≤ 1000) (hb : ∀ b ∈ bs, 0 ≤ b ∧ b ≤ 1) : g_are_bits [.tup (bs.map .int), .int lo, .int hi] = .ok (.fz (.bl true)) [.non, .non, .non] := by
  unfold g_are_bits
  rw [runF_e]
  simp [fb_are_bits, h1, h2]
  rw [lcL_map D.int (fun _ => D.bl true)]
  · simp
  · intro b hb'
    have := hb b hb'
    simp [turnC_e, e_is_integer, this]
  · rw [sizeLine_eq]; omega
theorem zip_tail (xs : List Int) : zipD (xs.map .int) (xs.map .int).tail = (xs.zip xs.tail).map fun p => .tup [.int p.1, .int p.2] := by
  have key : ∀ xs ys : List Int, zipD (xs.map .int) (ys.map .int) = (xs.zip ys).map fun p => .tup [.int p.1, .int p.2] := by
    intro xs
    induction xs with
    | nil => intro ys; rfl
    | cons x xs ih =>
      intro ys
      cases ys with
      | nil => rfl
      | cons y ys => simp [zipD, ih ys]
  rw [← List.map_tail]
  exact key xs xs.tail
theorem zip_lt {xs : List Int} (h : xs.Pairwise (· < ·)) : ∀ p ∈ xs.zip xs.tail, p.1 < p.2 := by
  induction xs with
  | nil => intro p hp; simp at hp
  | cons x xs ih =>
    cases xs with
    | nil => intro p hp; simp at hp
    | cons y ys =>
      intro p hp
      simp only [List.tail_cons, List.zip_cons_cons, List.mem_cons] at hp
      obtain ⟨h1, h2⟩ := List.pairwise_cons.mp h
      rcases hp with rfl | hp
      · exact h1 y List.mem_cons_self
      · exact ih h2 p (by simpa using hp)
theorem e_ascending (xs : List Int) (m : Int) (hz : xs.length ≤ 1000) (hx : ∀ x ∈ xs, 0 ≤ x ∧ x < m) (hp : xs.Pairwise (· < ·)) : g_is_ascending_days [.tup (xs.map .int), .int m] = .ok (.fz (.bl true)) [.non, .non] := by
  have h1 : cutG (xs.map D.int) (some 1) none = (xs.drop 1).map D.int := by
    rw [cutG_map]
    congr 1
    by_cases h : 1 ≤ xs.length
    · exact cutG_from xs 1 h
    · have : xs = [] := List.eq_nil_of_length_eq_zero (by omega)
      subst this; rfl
  unfold g_is_ascending_days
  rw [runF_e]
  simp [fb_is_ascending_days]
  rw [lcL_map D.int (fun _ => D.bl true)]
  · simp [h1, zip_tail]
    rw [lcL_map (fun (p : Int × Int) => D.tup [.int p.1, .int p.2]) (fun _ => D.bl true)]
    · simp
    · intro p hp'
      have := zip_lt hp p hp'
      simp [turnC_e, tupG, consG, nilG, this]
    · rw [sizeLine_eq]; simp; omega
  · intro b hb'
    have := hx b hb'
    simp [turnC_e, e_within, this]
    omega
  · rw [sizeLine_eq]; omega
theorem e_check_seen (xs : List Int) (m : Int) (h1 : 1 ≤ m) (h2 : m ≤ 40) (hz : xs.length ≤ 1000) (hx : ∀ x ∈ xs, 0 ≤ x ∧ x < m) (hp : xs.Pairwise (· < ·)) : g_check_seen [.tup (xs.map .int), .int m] = .ok (.fz .non) [.non, .non] := by
  unfold g_check_seen
  rw [runF_e]
  simp [fb_check_seen, e_check m 1 40 h1 h2, e_ascending xs m hz hx hp]
end W84

set_option Elab.async false
set_option linter.all false
set_option maxRecDepth 100000
set_option maxHeartbeats 4000000
set_option autoImplicit false
namespace W84
open PySem PySem.Spec L2 Cl
def dO : Option Bool → D
  | none => .non
  | some b => .bl b
@[simp] theorem dO_n : dO none = .non := rfl
@[simp] theorem dO_s (b : Bool) : dO (some b) = .bl b := rfl
def plc (l a d : Nat) : Nat := if d < l then d else l + (d - l) % a
theorem plc_lt {l a : Nat} (ha : 0 < a) (d : Nat) : plc l a d < l + a := by
  unfold plc
  split
  · omega
  · have := Nat.mod_lt (d - l) ha; omega
theorem plc_int (l a d : Nat) : (if (d : Int) < (l : Int) then (d : Int) else (l : Int) + ((d : Int) - (l : Int)) % (a : Int)) = ((plc l a d : Nat) : Int) := by
  unfold plc
  by_cases h : d < l
  · rw [if_pos h, if_pos (by omega)]
  · rw [if_neg h, if_neg (by omega)]
    have : (d : Int) - (l : Int) = ((d - l : Nat) : Int) := by omega
    rw [this]
    push_cast
    omega
abbrev Fd := List (Option Bool)
def stepT (l a : Nat) (m : Nat → Bool) (d : Nat) (f : Fd) : Option Fd := match f[plc l a d]? with
  | some (some b) => if b = m d then some (f.set (plc l a d) (some (m d))) else none
  | some none => some (f.set (plc l a d) (some (m d)))
  | none => none
def runT (l a : Nat) (m : Nat → Bool) : List Nat → Fd → Option Fd
  | [], f => some f
  | d :: ds, f => (stepT l a m d f).bind (runT l a m ds)
theorem stepT_len {l a : Nat} {m : Nat → Bool} {d : Nat} {f f' : Fd} (h : stepT l a m d f = some f') : f'.length = f.length := by
  unfold stepT at h
  split at h
  · split at h <;> cases h
    simp
  · cases h; simp
  · cases h
/-- is the day among the seen -/
def mem (seen : List Int) (d : Nat) : Bool := decide ((d : Int) ∈ seen)
section
variable (seen : List Int) (n l a : Nat)
noncomputable abbrev bodyT : CS → Fl := (seqS (paS 6 7 (consA (vlO (calD (consA (vlO (rdS 5)) (consA (vlO (rdS 2)) (consA (vlO (rdS 3)) nilA))) [false, false, false] g_place_of_day)) (consA (vlO (blE (opE (slO 5) (slO 0) inD))) nilA)))
    (seqS (ifS (andT (opE (vlO (opE (slO 4) (slO 6) ixD)) (vlO (cE .non)) isNN) (opE (vlO (opE (slO 4) (slO 6) ixD)) (slO 7) neA)) (rtS (cE .non)) nxS)
    (asS (rdS 7) (ixG 4 (rdS 6)))))
def stT (f : Fd) (x y z : Option D) : CS := [some (.fz (.tup (seen.map .int))), some (.fz (.int n)), some (.fz (.int l)), some (.fz (.int a)), some (.ow (.lst (f.map dO))), x.map .fz, y.map .fz, z.map .fz]
theorem one_T (ha : 0 < a) (d : Nat) (f : Fd) (hf : f.length = l + a) (x y z : Option D) :
    oneF (nmG 5) bodyT (.int (d : Int)) (stT seen n l a f x y z) = match stepT l a (mem seen) d f with
      | some f' => .inl (stT seen n l a f' (some (.int d)) (some (.int (plc l a d : Nat))) (some (.bl (mem seen d))))
      | none => .inr (.ret (.fz .non) (stT seen n l a f (some (.int d)) (some (.int (plc l a d : Nat))) (some (.bl (mem seen d))))) := by
  have hp := plc_lt (l := l) ha d
  have hp' : plc l a d < f.length := by omega
  have e1 := e_place d l a (by omega)
  rw [plc_int] at e1
  have ix : atI (f.map dO) ((plc l a d : Nat) : Int) = some (dO f[plc l a d]) := by
    rw [Cl.atI_nat]; simp [hp']
  have sx : ∀ b : Bool, setIx ((plc l a d : Nat) : Int) (.bl b) (f.map dO) = some ((f.set (plc l a d) (some b)).map dO) := fun b => by
    rw [setIx_nat, if_pos (by simpa using hp'), List.map_set]; rfl
  unfold stepT
  rw [List.getElem?_eq_getElem hp']
  unfold oneF stT bodyT paS
  cases hx : f[plc l a d] with
  | none => simp [e1, ix, hx, sx, mem]
  | some b =>
    by_cases hb : b = mem seen d
    · simp [e1, ix, hx, sx, hb, mem]
    · have hb' : ¬ b = decide ((d : Int) ∈ seen) := hb
      simp [e1, ix, hx, sx, hb', mem]
theorem loop_T (ha : 0 < a) : ∀ (ds : List Nat) (f : Fd) (x y z : Option D), f.length = l + a → ∃ x' y' z' : Option D, (match runT l a (mem seen) ds f with
    | some f' => forS (nmG 5) bodyT (ds.map fun (d : Nat) => .int (d : Int)) (stT seen n l a f x y z) = .nx (stT seen n l a f' x' y' z')
    | none => ∃ f', forS (nmG 5) bodyT (ds.map fun (d : Nat) => .int (d : Int)) (stT seen n l a f x y z) = .ret (.fz .non) (stT seen n l a f' x' y' z'))
  | [], f, x, y, z, _ => ⟨x, y, z, rfl⟩
  | d :: ds, f, x, y, z, hf => by
    have h1 := one_T seen n l a ha d f hf x y z
    unfold runT
    cases hs : stepT l a (mem seen) d f with
    | none =>
      rw [hs] at h1
      exact ⟨_, _, _, f, by rw [List.map_cons, forS_inr h1]⟩
    | some f1 =>
      rw [hs] at h1
      rw [List.map_cons, forS_inl h1]
      exact loop_T ha ds f1 _ _ _ ((stepT_len hs).trans hf)
/-- what told_places tells -/
def told (seen : List Int) (n l a : Nat) : Option Fd := runT l a (mem seen) (List.range n) (List.replicate (l + a) none)
def toldD : Option Fd → Sl
  | none => .fz .non
  | some f => .ow (.lst (f.map dO))
theorem e_told (ha : 0 < a) (h1 : l + a ≤ 1000) (h2 : n ≤ 1000) : g_told_places [.tup (seen.map .int), .int n, .int l, .int a] = .ok (toldD (told seen n l a)) [.non, .non, .non, .non] := by
  have e0 := lrep_n .non (l + a) ((l : Int) + (a : Int)) (by push_cast; rfl) (by omega)
  have e2 := rng1_n n n rfl (by omega)
  obtain ⟨x, y, z, hl⟩ := loop_T seen n l a ha (List.range n) (List.replicate (l + a) none) none none none (by simp)
  unfold g_told_places told
  rw [runF_e]
  have s0 : stT seen n l a (List.replicate (l + a) none) none none none = [some (.fz (.tup (seen.map .int))), some (.fz (.int n)), some (.fz (.int l)), some (.fz (.int a)), some (.ow (.lst (List.replicate (l + a) D.non))), none, none, none] := by simp [stT]
  simp -implicitDefEqProofs [fb_told_places, e0, e2, sizeLine_eq]
  rw [← s0]
  cases hr : runT l a (mem seen) (List.range n) (List.replicate (l + a) none) with
  | none =>
    rw [hr] at hl
    obtain ⟨f', hl⟩ := hl
    rw [hl]
    simp [stT, toldD]
  | some f =>
    rw [hr] at hl
    replace hl : forS _ _ _ _ = _ := hl
    rw [hl]
    simp [stT, toldD]
end
end W84

set_option Elab.async false
set_option linter.all false
set_option maxRecDepth 100000
set_option maxHeartbeats 4000000
set_option autoImplicit false
namespace W84
open PySem PySem.Spec L2 Cl
/-- the law's bits: ints -/
def dI : Option Bool → D
  | none => .non
  | some b => .int (if b then 1 else 0)
@[simp] theorem dI_n : dI none = .non := rfl
@[simp] theorem dI_s (b : Bool) : dI (some b) = .int (if b then 1 else 0) := rfl
noncomputable abbrev bodyB : CS → Fl := (seqS (stS 7 (caE (consA (vlO (blE (opE (slO 6) (slO 0) inD))) nilA) intD))
    (ifS (opE (slO 6) (slO 2) (c2 fun i j => decide (i < j))) (asS (rdS 7) (ixG 4 (rdS 6))) (seqS (stS 8 (opE (vlO (caE (consA (vlO (opE (slO 6) (slO 2) isub)) nilA) intD)) (slO 3) imod))
    (seqS (ifS (andT (opE (vlO (opE (slO 5) (slO 8) ixD)) (vlO (cE .non)) isNN) (opE (vlO (opE (slO 5) (slO 8) ixD)) (slO 7) neA)) (rtS (cE .non)) nxS)
    (asS (rdS 7) (ixG 5 (rdS 8)))))))
section
variable (sd : D) (seen : List Int) (n l a : Nat)
def stB (f g : Fd) (x y z : Option D) : CS := [some (.fz sd), some (.fz (.int n)), some (.fz (.int l)), some (.fz (.int a)), some (.ow (.lst (f.map dI))), some (.ow (.lst (g.map dI))), x.map .fz, y.map .fz, z.map .fz]
/-- one turn: the two lists are one, cut at l -/
theorem one_B (hs : sd.items = some (seen.map .int)) (ha : 0 < a) (d : Nat) (f g : Fd) (hf : f.length = l) (hg : g.length = a) (hn : ∀ j, d ≤ j → j < l → f[j]? = some none) (x y z : Option D) :
    match stepT l a (mem seen) d (f ++ g) with
      | some h => ∃ x' y' z', oneF (nmG 6) bodyB (.int (d : Int)) (stB sd n l a f g x y z) = .inl (stB sd n l a (h.take l) (h.drop l) x' y' z')
      | none => ∃ x' y' z', oneF (nmG 6) bodyB (.int (d : Int)) (stB sd n l a f g x y z) = .inr (.ret (.fz .non) (stB sd n l a f g x' y' z')) := by
  have e1 : inD (.int (d : Int)) sd = some (mem seen d) := inD_of hs
  by_cases hd : d < l
  · have hp : plc l a d = d := by unfold plc; rw [if_pos hd]
    have h1 := hn d (Nat.le_refl _) hd
    have h2 : (f ++ g)[d]? = some none := by rw [List.getElem?_append_left (by omega)]; exact h1
    have hd' : (d : Int) < (l : Int) := by omega
    have sx : ∀ b : Bool, setIx (d : Int) (.int (if b then 1 else 0)) (f.map dI) = some ((f.set d (some b)).map dI) := fun b => by
      rw [setIx_nat, if_pos (by simp; omega), List.map_set]; rfl
    unfold stepT
    rw [hp, h2]
    refine ⟨some (.int d), some (.int (if mem seen d then 1 else 0)), z, ?_⟩
    have e2 : ((f ++ g).set d (some (mem seen d))).take l = f.set d (some (mem seen d)) := by
      rw [List.set_append_left _ _ (by omega), List.take_left' (by simp [hf])]
    have e3 : ((f ++ g).set d (some (mem seen d))).drop l = g := by
      rw [List.set_append_left _ _ (by omega), List.drop_left' (by simp [hf])]
    rw [e2, e3]
    unfold oneF stB bodyB
    simp -implicitDefEqProofs [e1, hd', sx]
  · have hp : plc l a d = l + (d - l) % a := by unfold plc; rw [if_neg hd]
    have hm := Nat.mod_lt (d - l) ha
    have hd' : ¬ (d : Int) < (l : Int) := by omega
    have em : ((d : Int) - (l : Int)) % (a : Int) = (((d - l) % a : Nat) : Int) := by
      have : (d : Int) - (l : Int) = ((d - l : Nat) : Int) := by omega
      rw [this]; push_cast; rfl
    generalize (d - l) % a = q at hp hm em
    have hq : q < g.length := by omega
    have ix : atI (g.map dI) (q : Int) = some (dI g[q]) := by
      rw [Cl.atI_nat]; simp [hq]
    have sx : ∀ b : Bool, setIx (q : Int) (.int (if b then 1 else 0)) (g.map dI) = some ((g.set q (some b)).map dI) := fun b => by
      rw [setIx_nat, if_pos (by simpa using hq), List.map_set]; rfl
    have h2 : (f ++ g)[l + q]? = some g[q] := by
      rw [List.getElem?_append_right (by omega), hf, show l + q - l = q by omega, List.getElem?_eq_getElem hq]
    have e2 : ∀ v, ((f ++ g).set (l + q) v).take l = f := fun v => by
      rw [List.set_append_right _ _ (by omega), List.take_left' hf]
    have e3 : ∀ v, ((f ++ g).set (l + q) v).drop l = g.set q v := fun v => by
      rw [List.set_append_right _ _ (by omega), List.drop_left' hf, hf, show l + q - l = q by omega]
    unfold stepT
    rw [hp, h2]
    unfold oneF stB bodyB
    cases hx : g[q] with
    | none =>
      refine ⟨some (.int d), some (.int (if mem seen d then 1 else 0)), some (.int (q : Int)), ?_⟩
      rw [e2, e3]
      simp -implicitDefEqProofs [e1, hd', em, ha, ix, hx, sx]
    | some b =>
      by_cases hb : b = mem seen d
      · dsimp only
        rw [if_pos hb]
        refine ⟨some (.int d), some (.int (if mem seen d then 1 else 0)), some (.int (q : Int)), ?_⟩
        rw [e2, e3]
        simp -implicitDefEqProofs [e1, hd', em, ha, ix, hx, sx, hb]
      · dsimp only
        rw [if_neg hb]
        have hb' : ¬ (if b = true then (1 : Int) else 0) = if mem seen d = true then 1 else 0 := by
          revert hb
          cases b <;> cases mem seen d <;> simp
        refine ⟨some (.int d), some (.int (if mem seen d then 1 else 0)), some (.int (q : Int)), ?_⟩
        simp -implicitDefEqProofs [e1, hd', em, ha, ix, hx, sx, hb']
theorem loop_B (hs : sd.items = some (seen.map .int)) (ha : 0 < a) : ∀ (m k : Nat) (h : Fd) (x y z : Option D), h.length = l + a → (∀ j, k ≤ j → j < l → h[j]? = some none) → match runT l a (mem seen) (List.range' k m) h with
    | some h' => ∃ x' y' z', forS (nmG 6) bodyB ((List.range' k m).map fun (d : Nat) => .int (d : Int)) (stB sd n l a (h.take l) (h.drop l) x y z) = .nx (stB sd n l a (h'.take l) (h'.drop l) x' y' z')
    | none => ∃ (h' : Fd) (x' y' z' : Option D), forS (nmG 6) bodyB ((List.range' k m).map fun (d : Nat) => .int (d : Int)) (stB sd n l a (h.take l) (h.drop l) x y z) = .ret (.fz .non) (stB sd n l a (h'.take l) (h'.drop l) x' y' z')
  | 0, k, h, x, y, z, _, _ => ⟨x, y, z, rfl⟩
  | m + 1, k, h, x, y, z, hl, hn => by
    have h1 := one_B sd seen n l a hs ha k (h.take l) (h.drop l) (by simp; omega) (by simp; omega) (fun j hj hjl => by
      rw [List.getElem?_take_of_lt hjl]; exact hn j hj hjl) x y z
    rw [List.take_append_drop] at h1
    rw [List.range'_succ, List.map_cons]
    unfold runT
    cases hst : stepT l a (mem seen) k h with
    | none =>
      rw [hst] at h1
      obtain ⟨x', y', z', h1⟩ := h1
      exact ⟨h, x', y', z', by rw [forS_inr h1]⟩
    | some h2 =>
      rw [hst] at h1
      obtain ⟨x', y', z', h1⟩ := h1
      rw [forS_inl h1]
      refine loop_B hs ha m (k + 1) h2 x' y' z' ((stepT_len hst).trans hl) fun j hj hjl => ?_
      have hk : k < l := by omega
      have hp : plc l a k = k := by unfold plc; rw [if_pos hk]
      unfold stepT at hst
      rw [hp, hn k (Nat.le_refl _) hk] at hst
      cases hst
      rw [List.getElem?_set_ne (by omega)]
      exact hn j (by omega) hjl
def bitsD (l : Nat) : Option Fd → D
  | none => .non
  | some h => .tup [.lst ((h.take l).map dI), .lst ((h.drop l).map dI)]
theorem e_bits_of (hs : sd.items = some (seen.map .int)) (ha : 0 < a) (h1 : l + a ≤ 1000) (h2 : n ≤ 1000) : g__law_bits_of [sd, .int n, .int l, .int a] = .ok (.fz (bitsD l (told seen n l a))) [.non, .non, .non, .non] := by
  have e0 := lrep_n .non l (l : Int) rfl (by omega)
  have e1 := lrep_n .non a (a : Int) rfl (by omega)
  have e2 := rng1_n n n rfl (by omega)
  have hl := loop_B sd seen n l a hs ha n 0 (List.replicate (l + a) none) none none none (by simp) (fun j _ hj => by
    rw [List.getElem?_replicate, if_pos (by omega)])
  rw [← List.range_eq_range'] at hl
  unfold g__law_bits_of told
  rw [runF_e]
  have s0 : stB sd n l a ((List.replicate (l + a) (none : Option Bool)).take l) ((List.replicate (l + a) (none : Option Bool)).drop l) none none none = [some (.fz sd), some (.fz (.int n)), some (.fz (.int l)), some (.fz (.int a)), some (.ow (.lst (List.replicate l D.non))), some (.ow (.lst (List.replicate a D.non))), none, none, none] := by
    simp [stB]
  simp -implicitDefEqProofs [fb__law_bits_of, paN, e0, e1, e2, sizeLine_eq]
  rw [← s0]
  cases hr : runT l a (mem seen) (List.range n) (List.replicate (l + a) none) with
  | none =>
    rw [hr] at hl
    obtain ⟨h', x, y, z, hl⟩ := hl
    rw [hl]
    simp -implicitDefEqProofs [stB, bitsD]
  | some f =>
    rw [hr] at hl
    obtain ⟨x, y, z, hl⟩ := hl
    rw [hl]
    simp -implicitDefEqProofs [stB, bitsD, sizeLine_eq]
end
end W84

set_option Elab.async false
set_option linter.all false
set_option maxRecDepth 100000
set_option maxHeartbeats 4000000
set_option autoImplicit false
namespace W84
open PySem PySem.Spec L2 Cl
/-! ### what told tells -/
section
variable {l a : Nat} {m : Nat → Bool}
theorem stepT_get {d : Nat} {f f' : Fd} (h : stepT l a m d f = some f') : f'[plc l a d]? = some (some (m d)) ∧ ∀ (j : Nat) (b : Bool), f[j]? = some (some b) → f'[j]? = some (some b) := by
  unfold stepT at h
  split at h
  · rename_i b hb
    split at h
    · rename_i hm
      cases h
      have hl : plc l a d < f.length := (List.getElem?_eq_some_iff.mp hb).1
      refine ⟨List.getElem?_set_self hl, fun j c hj => ?_⟩
      by_cases e : plc l a d = j
      · subst e
        rw [hb] at hj; cases hj
        rw [List.getElem?_set_self hl, hm]
      · rw [List.getElem?_set_ne e]; exact hj
    · cases h
  · rename_i hb
    cases h
    have hl : plc l a d < f.length := (List.getElem?_eq_some_iff.mp hb).1
    refine ⟨List.getElem?_set_self hl, fun j c hj => ?_⟩
    by_cases e : plc l a d = j
    · subst e
      rw [hb] at hj; cases hj
    · rw [List.getElem?_set_ne e]; exact hj
  · cases h
theorem runT_get : ∀ {ds : List Nat} {f f' : Fd}, runT l a m ds f = some f' → (∀ d ∈ ds, f'[plc l a d]? = some (some (m d))) ∧ (∀ (j : Nat) (b : Bool), f[j]? = some (some b) → f'[j]? = some (some b)) ∧ f'.length = f.length
  | [], f, f', h => by cases h; exact ⟨fun d hd => (nomatch hd), fun _ _ h => h, rfl⟩
  | d :: ds, f, f', h => by
    unfold runT at h
    cases hs : stepT l a m d f with
    | none => rw [hs] at h; cases h
    | some f1 =>
      rw [hs] at h
      obtain ⟨h1, h2, h3⟩ := runT_get (f := f1) (f' := f') h
      obtain ⟨h4, h5⟩ := stepT_get hs
      refine ⟨fun e he => ?_, fun j b hj => h2 j b (h5 j b hj), h3.trans (stepT_len hs)⟩
      rcases List.mem_cons.mp he with rfl | he
      · exact h2 _ _ h4
      · exact h1 e he
/-- one place a day: nothing stands against it -/
theorem runT_own {n : Nat} : ∀ (k c : Nat) (f : Fd), c + k ≤ n → f.length = 0 + n → (∀ j, c ≤ j → j < n → f[j]? = some none) → ∃ f', runT 0 n m (List.range' c k) f = some f'
  | 0, c, f, _, _, _ => ⟨f, rfl⟩
  | k + 1, c, f, hk, hl, hf => by
    have hp : plc 0 n c = c := by
      unfold plc
      rw [if_neg (by omega)]
      have : (c - 0) % n = c := Nat.mod_eq_of_lt (by omega)
      omega
    have hs : stepT 0 n m c f = some (f.set c (some (m c))) := by
      unfold stepT
      rw [hp, hf c (Nat.le_refl _) (by omega)]
    rw [List.range'_succ]
    unfold runT
    rw [hs]
    exact runT_own k (c + 1) _ (by omega) (by simpa using hl) fun j hj hjn => by
      rw [List.getElem?_set_ne (by omega)]
      exact hf j (by omega) hjn
end
theorem told_own (seen : List Int) (n : Nat) : ∃ f, told seen n 0 n = some f := by
  unfold told
  rw [List.range_eq_range']
  exact runT_own n 0 _ (by omega) (by simp) fun j _ hj => by rw [List.getElem?_replicate, if_pos (by omega)]
theorem told_len {seen : List Int} {n l a : Nat} {f : Fd} (h : told seen n l a = some f) : f.length = l + a := by
  have := (runT_get h).2.2
  simpa using this
theorem told_at {seen : List Int} {n l a : Nat} {f : Fd} (h : told seen n l a = some f) (d : Nat) (hd : d < n) : f[plc l a d]? = some (some (mem seen d)) := (runT_get h).1 d (List.mem_range.mpr hd)
/-! ### the rule of the places -/
def tI (x : Option Bool) : Int := if x = some true then 1 else 0
theorem tI_bit (x : Option Bool) : 0 ≤ tI x ∧ tI x ≤ 1 := by unfold tI; split <;> omega
def insR (bs cs : List Int) : D := .ins "Rule" [("lead", .tup (bs.map .int)), ("again", .tup (cs.map .int))]
theorem e_init (bs cs : List Int) (h1 : bs.length ≤ 24) (h2 : 1 ≤ cs.length) (h3 : cs.length ≤ 60) (hb : ∀ b ∈ bs, 0 ≤ b ∧ b ≤ 1) (hc : ∀ b ∈ cs, 0 ≤ b ∧ b ≤ 1) :
    g_Rule___init__ [.ins "Rule" [], .tup (bs.map .int), .tup (cs.map .int)] = .ok (.fz .non) [insR bs cs, .non, .non] := by
  have e1 := e_are_bits bs 0 24 (by omega) (by omega) (by omega) hb
  have e2 := e_are_bits cs 1 60 (by omega) (by omega) (by omega) hc
  unfold g_Rule___init__
  rw [runF_e]
  have ne : ¬ ("lead" : Str) = "again" := by decide
  simp -implicitDefEqProofs [fb_Rule___init__, e1, e2, fdS, insAt, putFD, insR, ne]
theorem e_rule_of (f : Fd) (l a : Nat) (hf : f.length = l + a) (h1 : l ≤ 24) (h2 : 1 ≤ a) (h3 : a ≤ 60) : g_rule_of_places [.lst (f.map dO), .int l] = .ok (.ow (insR ((f.take l).map tI) ((f.drop l).map tI))) [.non, .non] := by
  have e1 := e_init ((f.take l).map tI) ((f.drop l).map tI) (by simp; omega) (by simp; omega) (by simp; omega) (fun b hb => by
    obtain ⟨x, _, rfl⟩ := List.mem_map.mp hb; exact tI_bit x) (fun b hb => by
    obtain ⟨x, _, rfl⟩ := List.mem_map.mp hb; exact tI_bit x)
  have c1 : cutG (f.map fun x => D.int (tI x)) none (some (l : Int)) = ((f.take l).map tI).map .int := by
    rw [cutG_map, cutG_to _ _ (by omega), List.map_map]; rfl
  have c2 : cutG (f.map fun x => D.int (tI x)) (some (l : Int)) none = ((f.drop l).map tI).map .int := by
    rw [cutG_map, cutG_from _ _ (by omega), List.map_map]; rfl
  generalize (f.take l).map tI = bs at e1 c1 ⊢
  generalize (f.drop l).map tI = cs at e1 c2 ⊢
  have k : ∀ s, lcL [3] (nmG 3) yesT (caE (consA (vlO (blE (opE (slO 3) (vlO (cE (.bl true))) isC))) nilA) intD) (f.map dO) [] [some (.fz (.lst (f.map dO))), some (.fz (.int (l : Int))), s, none] = .ok (f.map fun x => D.int (tI x)) [some (.fz (.lst (f.map dO))), some (.fz (.int (l : Int))), s, none] := fun s => by
    apply lcL_map dO fun x => D.int (tI x)
    · intro x _
      cases x with
      | none => simp -implicitDefEqProofs [turnC_e, tI]
      | some b => cases b <;> simp -implicitDefEqProofs [turnC_e, tI]
    · rw [sizeLine_eq]; omega
  unfold g_rule_of_places
  rw [runF_e]
  simp -implicitDefEqProofs [fb_rule_of_places, k, mkE, c1, c2, e1]
end W84

set_option Elab.async false
set_option linter.all false
set_option maxRecDepth 100000
set_option maxHeartbeats 4000000
set_option autoImplicit false
namespace W84
open PySem PySem.Spec L2 Cl
/-- a loop that returns at the first item that has an answer -/
theorem forS_find {α X : Type} {g : TgC} {b : CS → Fl} (S : X → CS) (inj : α → D) (P : α → Option D) : ∀ (xs : List α), (∀ a ∈ xs, ∀ x, ∃ x', oneF g b (inj a) (S x) = match P a with | none => .inl (S x') | some r => .inr (.ret (.fz r) (S x'))) →
    ∀ x, ∃ x', forS g b (xs.map inj) (S x) = match xs.findSome? P with | none => .nx (S x') | some r => .ret (.fz r) (S x')
  | [], _, x => ⟨x, rfl⟩
  | a :: xs, h, x => by
    obtain ⟨x1, h1⟩ := h a List.mem_cons_self x
    rw [List.map_cons, List.findSome?_cons]
    cases hp : P a with
    | some r =>
      rw [hp] at h1
      exact ⟨x1, by rw [forS_inr h1]⟩
    | none =>
      rw [hp] at h1
      obtain ⟨x2, h2⟩ := forS_find S inj P xs (fun a ha => h a (List.mem_cons_of_mem _ ha)) x1
      exact ⟨x2, by rw [forS_inl h1]; exact h2⟩
/-! ### least_rule -/
section
variable (seen : List Int) (n : Nat)
noncomputable abbrev bodyL : CS → Fl := (ifS (opE (vlO (opE (slO 2) (slO 3) isub)) (vlO (cE (.int 24))) (c2 fun i j => decide (i ≤ j))) (seqS (stS 4 (calD (consA (vlO (rdS 0)) (consA (vlO (rdS 1)) (consA (vlO (opE (slO 2) (slO 3) isub)) (consA (vlO (rdS 3)) nilA)))) [false, false, false, false] g_told_places))
    (ifS (opE (slO 4) (vlO (cE .non)) isNN) (rtS (calD (consA (vlO (rdS 4)) (consA (vlO (opE (slO 2) (slO 3) isub)) nilA)) [false, false] g_rule_of_places)) nxS)) nxS)
def ruleOf (l : Nat) (f : Fd) : D := insR ((f.take l).map tI) ((f.drop l).map tI)
def tryA (w a : Nat) : Option (Nat × Fd) := if w - a ≤ 24 then (told seen n (w - a) a).map fun f => (w - a, f) else none
def stL (w : Nat) (x : Option D × Option D) : CS := [some (.fz (.tup (seen.map .int))), some (.fz (.int n)), some (.fz (.int w)), x.1.map .fz, x.2.map .fz]
theorem one_L (hn : n ≤ 40) (w : Nat) (hw : w ≤ 40) (a : Nat) (ha : 1 ≤ a) (haw : a ≤ w) (x : Option D × Option D) : ∃ x', oneF (nmG 3) bodyL (.int (a : Int)) (stL seen n w x) = match (tryA seen n w a).map fun p => ruleOf p.1 p.2 with
    | none => .inl (stL seen n w x')
    | some r => .inr (.ret (.fz r) (stL seen n w x')) := by
  obtain ⟨x1, x2⟩ := x
  have es : (w : Int) - (a : Int) = ((w - a : Nat) : Int) := by omega
  have e1 := e_told seen n (w - a) a (by omega) (by omega) (by omega)
  unfold tryA
  by_cases h : w - a ≤ 24
  · have h' : ((w - a : Nat) : Int) ≤ 24 := by omega
    rw [if_pos h]
    generalize hl : w - a = l at *
    cases ht : told seen n l a with
    | none =>
      rw [ht] at e1
      refine ⟨(some (.int a), some .non), ?_⟩
      unfold oneF stL bodyL
      simp -implicitDefEqProofs [es, h', e1, toldD]
    | some f =>
      rw [ht] at e1
      have e2 := e_rule_of f l a (told_len ht) h ha (by omega)
      refine ⟨(some (.int a), some (.lst (f.map dO))), ?_⟩
      unfold oneF stL bodyL
      simp -implicitDefEqProofs [es, h', e1, e2, toldD, ruleOf]
  · have h' : ¬ ((w - a : Nat) : Int) ≤ 24 := by omega
    rw [if_neg h]
    generalize hl : w - a = l at *
    refine ⟨(some (.int a), x2), ?_⟩
    unfold oneF stL bodyL
    simp -implicitDefEqProofs [es, h']
/-- the first that tells, for one whole -/
def tryW (w : Nat) : Option (Nat × Fd) := (List.range' 1 w).findSome? (tryA seen n w)
noncomputable abbrev outL : CS → Fl := (foS (caE (consA (vlO (cE (.int 1))) (consA (vlO (opE (slO 2) (vlO (cE (.int 1))) plus)) nilA)) rng2) (nmG 3) bodyL)
def stL2 (x : Option D × Option D × Option D) : CS := [some (.fz (.tup (seen.map .int))), some (.fz (.int n)), x.1.map .fz, x.2.1.map .fz, x.2.2.map .fz]
theorem findSome_map {α β γ : Type} (P : α → Option β) (f : β → γ) : ∀ xs : List α, xs.findSome? (fun a => (P a).map f) = (xs.findSome? P).map f
  | [] => rfl
  | a :: xs => by
    rw [List.findSome?_cons, List.findSome?_cons]
    cases P a with
    | none => exact findSome_map P f xs
    | some b => rfl
theorem out_L (hn : n ≤ 40) (w : Nat) (hw : w ≤ 40) (x : Option D × Option D × Option D) : ∃ x', oneF (nmG 2) outL (.int (w : Int)) (stL2 seen n x) = match (tryW seen n w).map fun p => ruleOf p.1 p.2 with
    | none => .inl (stL2 seen n x')
    | some r => .inr (.ret (.fz r) (stL2 seen n x')) := by
  obtain ⟨x0, x1, x2⟩ := x
  obtain ⟨y, hy⟩ := forS_find (g := nmG 3) (b := bodyL) (stL seen n w) (fun (a : Nat) => D.int (a : Int)) (fun a => (tryA seen n w a).map fun p => ruleOf p.1 p.2) (List.range' 1 w) (fun a ha x => by
    have := List.mem_range'_1.mp ha
    exact one_L seen n hn w hw a (by omega) (by omega) x) (x1, x2)
  rw [findSome_map] at hy
  have e2 := rng2_n 1 (w + 1) 1 ((w : Int) + 1) rfl (by push_cast; rfl) (by omega) (by omega)
  rw [show w + 1 - 1 = w by omega] at e2
  refine ⟨(some (.int w), y.1, y.2), ?_⟩
  have s0 : stL seen n w (x1, x2) = [some (.fz (.tup (seen.map .int))), some (.fz (.int n)), some (.fz (.int w)), x1.map .fz, x2.map .fz] := rfl
  have s1 : stL2 seen n (some (.int w), y.1, y.2) = stL seen n w y := rfl
  rw [s1]
  unfold oneF stL2 tryW
  generalize (List.range' 1 w).findSome? (tryA seen n w) = o at hy ⊢
  simp -implicitDefEqProofs [e2]
  rw [← s0, hy]
  cases o <;> simp
/-- what least_rule tells -/
def least : Option (Nat × Fd) := (List.range' 1 n).findSome? (tryW seen n)
theorem e_least (h1 : 1 ≤ n) (hn : n ≤ 40) (hz : seen.length ≤ 1000) (hx : ∀ x ∈ seen, 0 ≤ x ∧ x < (n : Int)) (hp : seen.Pairwise (· < ·)) {p : Nat × Fd} (hl : least seen n = some p) : g_least_rule [.tup (seen.map .int), .int n] = .ok (.fz (ruleOf p.1 p.2)) [.non, .non] := by
  obtain ⟨y, hy⟩ := forS_find (g := nmG 2) (b := outL) (stL2 seen n) (fun (a : Nat) => D.int (a : Int)) (fun w => (tryW seen n w).map fun p => ruleOf p.1 p.2) (List.range' 1 n) (fun w hw x => by
    have := List.mem_range'_1.mp hw
    exact out_L seen n hn w (by omega) x) (none, none, none)
  rw [findSome_map] at hy
  replace hy : forS (nmG 2) outL _ _ = match (least seen n).map fun p => ruleOf p.1 p.2 with | none => .nx (stL2 seen n y) | some r => .ret (.fz r) (stL2 seen n y) := hy
  rw [hl] at hy
  have e0 := e_check_seen seen n (by omega) (by omega) hz hx hp
  have e2 := rng2_n 1 (n + 1) 1 ((n : Int) + 1) rfl (by push_cast; rfl) (by omega) (by omega)
  rw [show n + 1 - 1 = n by omega] at e2
  have s0 : stL2 seen n (none, none, none) = [some (.fz (.tup (seen.map .int))), some (.fz (.int n)), none, none, none] := rfl
  unfold g_least_rule
  rw [runF_e]
  simp -implicitDefEqProofs [fb_least_rule, e0, e2]
  rw [← s0, hy]
  simp -implicitDefEqProofs [stL2]
theorem least_some (h1 : 1 ≤ n) : ∃ p, least seen n = some p := by
  obtain ⟨f, hf⟩ := told_own seen n
  have ha : tryA seen n n n = some (0, f) := by
    unfold tryA
    rw [Nat.sub_self, if_pos (by omega), hf]; rfl
  have hw : (tryW seen n n).isSome = true := by
    unfold tryW
    rw [List.findSome?_isSome_iff]
    exact ⟨n, List.mem_range'_1.mpr ⟨by omega, by omega⟩, by rw [ha]; rfl⟩
  have : (least seen n).isSome = true := by
    unfold least
    rw [List.findSome?_isSome_iff]
    exact ⟨n, List.mem_range'_1.mpr ⟨by omega, by omega⟩, hw⟩
  exact Option.isSome_iff_exists.mp this
end
end W84

set_option Elab.async false
set_option linter.all false
set_option maxRecDepth 100000
set_option maxHeartbeats 4000000
set_option autoImplicit false
namespace W84
open PySem PySem.Spec L2 Cl
theorem forS_append {g : TgC} {b : CS → Fl} {r : Sl} {s' : CS} : ∀ (xs ys : List D) (s : CS), forS g b xs s = .ret r s' → forS g b (xs ++ ys) s = .ret r s'
  | [], _, s, h => by cases h
  | x :: xs, ys, s, h => by
    rw [List.cons_append, forS_cons]
    rw [forS_cons] at h
    cases e : oneF g b x s with
    | inl s1 => rw [e] at h; exact forS_append xs ys s1 h
    | inr q => rw [e] at h; exact h
section
variable (sd : D) (seen : List Int) (n : Nat)
abbrev cmpB (i : Nat) : CS → Rs D := lcE [5] (sqE (opE (slO 4) (vlO (cE (.int (i : Int)))) ixD)) (nmG 5) yesT (caE (consA (vlO (blE (opE (slO 5) (vlO (cE (.int 1))) eqA))) nilA) intD)
noncomputable abbrev bodyK : CS → Fl := (seqS (stS 4 (calD (consA (vlO (rdS 0)) (consA (vlO (rdS 1)) (consA (vlO (opE (slO 2) (slO 3) isub)) (consA (vlO (rdS 3)) nilA)))) [false, false, false, false] g__law_bits_of))
    (ifS (opE (slO 4) (vlO (cE .non)) isNN) (rtS (tupE (consA (vlO (caE (consA (vlO (lcE [5] (sqE (opE (slO 4) (vlO (cE (.int 0))) ixD)) (nmG 5) yesT (caE (consA (vlO (blE (opE (slO 5) (vlO (cE (.int 1))) eqA))) nilA) intD))) nilA) tupD)) (consA (vlO (caE (consA (vlO (lcE [5] (sqE (opE (slO 4) (vlO (cE (.int 1))) ixD)) (nmG 5) yesT (caE (consA (vlO (blE (opE (slO 5) (vlO (cE (.int 1))) eqA))) nilA) intD))) nilA) tupD)) nilA)))) nxS))
def lawD (l : Nat) (f : Fd) : D := .tup [.tup (((f.take l).map tI).map .int), .tup (((f.drop l).map tI).map .int)]
def tryB (w a : Nat) : Option (Nat × Fd) := (told seen n (w - a) a).map fun f => (w - a, f)
def stK (w : Nat) (x : Option D × Option D) : CS := [some (.fz sd), some (.fz (.int n)), some (.fz (.int w)), x.1.map .fz, x.2.map .fz, none]
theorem comp_K (A B C E X : Option Sl) (f : Fd) (hz : f.length ≤ 1000) : lcL [5] (nmG 5) yesT (caE (consA (vlO (blE (opE (slO 5) (vlO (cE (.int 1))) eqA))) nilA) intD) (f.map dI) [] [A, B, C, E, X, none] = .ok (f.map fun x => D.int (tI x)) [A, B, C, E, X, none] := by
  apply lcL_map dI fun x => D.int (tI x)
  · intro x _
    cases x with
    | none => simp -implicitDefEqProofs [turnC_e, tI]
    | some b => cases b <;> simp -implicitDefEqProofs [turnC_e, tI]
  · rw [sizeLine_eq]; omega
theorem one_K (hs : sd.items = some (seen.map .int)) (hn : n ≤ 40) (w : Nat) (hw : w ≤ 40) (a : Nat) (ha : 1 ≤ a) (haw : a ≤ w) (x : Option D × Option D) : ∃ x', oneF (nmG 3) bodyK (.int (a : Int)) (stK sd n w x) = match (tryB seen n w a).map fun p => lawD p.1 p.2 with
    | none => .inl (stK sd n w x')
    | some r => .inr (.ret (.fz r) (stK sd n w x')) := by
  obtain ⟨x1, x2⟩ := x
  have es : (w : Int) - (a : Int) = ((w - a : Nat) : Int) := by omega
  have e1 := e_bits_of sd seen n (w - a) a hs (by omega) (by omega) (by omega)
  unfold tryB
  generalize hl : w - a = l at *
  cases ht : told seen n l a with
  | none =>
    rw [ht] at e1
    refine ⟨(some (.int a), some .non), ?_⟩
    unfold oneF stK bodyK
    simp -implicitDefEqProofs [es, e1, bitsD]
  | some f =>
    rw [ht] at e1
    have hf := told_len ht
    refine ⟨(some (.int a), some (bitsD l (some f))), ?_⟩
    unfold oneF stK bodyK
    have k1 := comp_K (some (.fz sd)) (some (.fz (.int (n : Int)))) (some (.fz (.int (w : Int)))) (some (.fz (.int (a : Int)))) (some (.fz (bitsD l (some f)))) (f.take l) (by simp; omega)
    have k2 := comp_K (some (.fz sd)) (some (.fz (.int (n : Int)))) (some (.fz (.int (w : Int)))) (some (.fz (.int (a : Int)))) (some (.fz (bitsD l (some f)))) (f.drop l) (by simp; omega)
    have d1 : (lawD l f) = .tup [.tup ((f.take l).map fun x => D.int (tI x)), .tup ((f.drop l).map fun x => D.int (tI x))] := by
      unfold lawD; rw [List.map_map, List.map_map]; rfl
    rw [Option.map_some, Option.map_some, d1]
    unfold bitsD at e1 k1 k2 ⊢
    dsimp only at e1 k1 k2 ⊢
    generalize f.take l = f1 at *
    generalize f.drop l = f2 at *
    simp -implicitDefEqProofs [es, e1, k1, k2, sizeLine_eq]
theorem tryW_law (w : Nat) (hw : w ≤ 40) : (List.range' (if w ≤ 25 then 1 else w - 24) (w + 1 - (if w ≤ 25 then 1 else w - 24))).findSome? (tryB seen n w) = tryW seen n w := by
  unfold tryW
  have key : ∀ a, w - a ≤ 24 → tryA seen n w a = tryB seen n w a := fun a h => by unfold tryA tryB; rw [if_pos h]
  by_cases h : w ≤ 25
  · rw [if_pos h, show w + 1 - 1 = w by omega]
    have : ∀ xs : List Nat, (∀ a ∈ xs, w - a ≤ 24) → xs.findSome? (tryB seen n w) = xs.findSome? (tryA seen n w) := by
      intro xs
      induction xs with
      | nil => intro _; rfl
      | cons a xs ih =>
        intro hx
        rw [List.findSome?_cons, List.findSome?_cons, key a (hx a List.mem_cons_self), ih fun b hb => hx b (List.mem_cons_of_mem _ hb)]
    exact this _ fun a ha => by have := List.mem_range'_1.mp ha; omega
  · rw [if_neg h]
    have e : List.range' 1 w = List.range' 1 (w - 25) ++ List.range' (w - 24) (w + 1 - (w - 24)) := by
      have := List.range'_append (s := 1) (m := w - 25) (n := w + 1 - (w - 24)) (step := 1)
      rw [show 1 + 1 * (w - 25) = w - 24 by omega, show w - 25 + (w + 1 - (w - 24)) = w by omega] at this
      exact this.symm
    rw [e, List.findSome?_append]
    have h0 : (List.range' 1 (w - 25)).findSome? (tryA seen n w) = none := by
      rw [List.findSome?_eq_none_iff]
      intro a ha
      have := List.mem_range'_1.mp ha
      unfold tryA
      rw [if_neg (by omega)]
    rw [h0, Option.none_or]
    have : ∀ xs : List Nat, (∀ a ∈ xs, w - a ≤ 24) → xs.findSome? (tryB seen n w) = xs.findSome? (tryA seen n w) := by
      intro xs
      induction xs with
      | nil => intro _; rfl
      | cons a xs ih =>
        intro hx
        rw [List.findSome?_cons, List.findSome?_cons, key a (hx a List.mem_cons_self), ih fun b hb => hx b (List.mem_cons_of_mem _ hb)]
    exact this _ fun a ha => by have := List.mem_range'_1.mp ha; omega
end
end W84

set_option Elab.async false
set_option linter.all false
set_option maxRecDepth 100000
set_option maxHeartbeats 4000000
set_option autoImplicit false
namespace W84
open PySem PySem.Spec L2 Cl
section
variable (sd : D) (seen : List Int) (n : Nat)
noncomputable abbrev outK : CS → Fl := (foS (caE (consA (vlO (caE (consA (vlO (cE (.int 1))) (consA (vlO (opE (slO 2) (vlO (cE (.int 24))) isub)) nilA)) maxD)) (consA (vlO (opE (vlO (caE (consA (vlO (cE (.int 60))) (consA (slO 2) nilA)) minD)) (vlO (cE (.int 1))) plus)) nilA)) rng2) (nmG 3) bodyK)
def stK2 (x : Option D × Option D × Option D) : CS := [some (.fz sd), some (.fz (.int n)), x.1.map .fz, x.2.1.map .fz, x.2.2.map .fz, none]
theorem out_K (hs : sd.items = some (seen.map .int)) (hn : n ≤ 40) (w : Nat) (hw : w ≤ 40) (x : Option D × Option D × Option D) : ∃ x', oneF (nmG 2) outK (.int (w : Int)) (stK2 sd n x) = match (tryW seen n w).map fun p => lawD p.1 p.2 with
    | none => .inl (stK2 sd n x')
    | some r => .inr (.ret (.fz r) (stK2 sd n x')) := by
  obtain ⟨x0, x1, x2⟩ := x
  rw [← tryW_law seen n w hw]
  have hlo : (if (1 : Int) < (w : Int) - 24 then (w : Int) - 24 else 1) = (((if w ≤ 25 then 1 else w - 24) : Nat) : Int) := by
    split <;> split <;> omega
  have hhi : (if (w : Int) < 60 then (w : Int) else 60) + 1 = ((w + 1 : Nat) : Int) := by
    rw [if_pos (by omega)]; push_cast; rfl
  have hle : 1 ≤ (if w ≤ 25 then 1 else w - 24) ∧ (if w ≤ 25 then 1 else w - 24) ≤ w + 1 := by split <;> omega
  generalize (if w ≤ 25 then 1 else w - 24) = lo at *
  obtain ⟨y, hy⟩ := forS_find (g := nmG 3) (b := bodyK) (stK sd n w) (fun (a : Nat) => D.int (a : Int)) (fun a => (tryB seen n w a).map fun p => lawD p.1 p.2) (List.range' lo (w + 1 - lo)) (fun a ha x => by
    have := List.mem_range'_1.mp ha
    exact one_K sd seen n hs hn w hw a (by omega) (by omega) x) (x1, x2)
  rw [findSome_map] at hy
  have e2 := rng2_n lo (w + 1) _ _ hlo hhi (by omega) (by omega)
  refine ⟨(some (.int w), y.1, y.2), ?_⟩
  have s0 : stK sd n w (x1, x2) = [some (.fz sd), some (.fz (.int n)), some (.fz (.int w)), x1.map .fz, x2.map .fz, none] := rfl
  have s1 : stK2 sd n (some (.int w), y.1, y.2) = stK sd n w y := rfl
  rw [s1]
  unfold oneF stK2
  generalize (List.range' lo (w + 1 - lo)).findSome? (tryB seen n w) = o at hy ⊢
  have hm : maxD [.int 1, .int ((w : Int) - 24)] = some (.int (if (1 : Int) < (w : Int) - 24 then (w : Int) - 24 else 1)) := rfl
  have hmi : minD [.int 60, .int (w : Int)] = some (.int (if (w : Int) < 60 then (w : Int) else 60)) := rfl
  generalize (if (1 : Int) < (w : Int) - 24 then (w : Int) - 24 else 1) = A at *
  generalize (if (w : Int) < 60 then (w : Int) else 60) = B at *
  have e3 : outK
      [some (.fz sd), some (.fz (.int n)), some (.fz (.int w)), x1.map .fz, x2.map .fz, none] = forS (nmG 3) bodyK ((List.range' lo (w + 1 - lo)).map fun (a : Nat) => D.int (a : Int)) [some (.fz sd), some (.fz (.int n)), some (.fz (.int w)), x1.map .fz, x2.map .fz, none] := by
    unfold outK
    simp -implicitDefEqProofs only [foS_e, caE_e, consA_e, vlO_e, cE_e, opE_e, slO_e, List.getElem?_cons_succ, List.getElem?_cons_zero, slP_some, Rs.bind_ok, nilA_e, o2_e, rsv_s, vlOf_some, Sl.val_fz, rsv_d, Option.bind_some, i2_e, oC_e, rsvs_cons, rsvs_nil, Option.map_some, hm, hmi, res_some, plus_ii, e2, bindS_ok]
  have e4 : nmG 2 (.int (w : Int)) [some (.fz sd), some (.fz (.int n)), x0.map .fz, x1.map .fz, x2.map .fz, none] = some [some (.fz sd), some (.fz (.int n)), some (.fz (.int w)), x1.map .fz, x2.map .fz, none] := by
    simp -implicitDefEqProofs
  dsimp only
  rw [e4]
  dsimp only
  rw [e3, ← s0, hy]
  cases o <;> simp
theorem e_law_least (hs : sd.items = some (seen.map .int)) (h1 : 1 ≤ n) (hn : n ≤ 40) {p : Nat × Fd} (hl : least seen n = some p) : g__law_least [sd, .int n] = .ok (.fz (lawD p.1 p.2)) [.non, .non] := by
  obtain ⟨y, hy⟩ := forS_find (g := nmG 2) (b := outK) (stK2 sd n) (fun (a : Nat) => D.int (a : Int)) (fun w => (tryW seen n w).map fun p => lawD p.1 p.2) (List.range' 1 n) (fun w hw x => by
    have := List.mem_range'_1.mp hw
    exact out_K sd seen n hs hn w (by omega) x) (none, none, none)
  rw [findSome_map] at hy
  replace hy : forS (nmG 2) outK _ _ = match (least seen n).map fun p => lawD p.1 p.2 with | none => .nx (stK2 sd n y) | some r => .ret (.fz r) (stK2 sd n y) := hy
  rw [hl] at hy
  replace hy : forS (nmG 2) outK _ _ = .ret (.fz (lawD p.1 p.2)) (stK2 sd n y) := hy
  have hy2 := forS_append _ ((List.range' (n + 1) (99 - n)).map fun (a : Nat) => D.int (a : Int)) _ hy
  rw [← List.map_append] at hy2
  have e : List.range' 1 n ++ List.range' (n + 1) (99 - n) = List.range' 1 99 := by
    have := List.range'_append (s := 1) (m := n) (n := 99 - n) (step := 1)
    rw [show 1 + 1 * n = n + 1 by omega, show n + (99 - n) = 99 by omega] at this
    exact this
  rw [e] at hy2
  have e2 := rng2_n 1 100 1 100 rfl rfl (by omega) (by omega)
  have s0 : stK2 sd n (none, none, none) = [some (.fz sd), some (.fz (.int n)), none, none, none, none] := rfl
  unfold g__law_least
  rw [runF_e]
  generalize hL : List.range' 1 99 = L at hy2
  rw [show 100 - 1 = 99 from rfl, hL] at e2
  simp -implicitDefEqProofs [fb__law_least, e2]
  rw [← s0, hy2]
  simp -implicitDefEqProofs [stK2]
end
end W84

set_option Elab.async false
set_option linter.all false
set_option maxRecDepth 100000
set_option maxHeartbeats 4000000
set_option autoImplicit false
namespace W84
open PySem PySem.Spec L2 Cl
/-! ### the bit of a day -/
theorem lk2 (x y : D) : List.lookup ("again" : Str) [("lead", x), ("again", y)] = some y := by
  rw [List.lookup_cons, show (("again" : Str) == "lead") = false from by decide]
  exact List.lookup_cons_self
theorem lk1 (x y : D) : List.lookup ("lead" : Str) [("lead", x), ("again", y)] = some x := List.lookup_cons_self
theorem e_bit_of (bs cs : List Int) (d : Nat) (v : Int) (hc : cs ≠ []) (hv : (d < bs.length ∧ bs[d]? = some v) ∨ (bs.length ≤ d ∧ cs[(d - bs.length) % cs.length]? = some v)) : g_bit_of [insR bs cs, .int d] = .ok (.fz (.int v)) [.non, .non] := by
  have hcl : 0 < cs.length := List.length_pos_iff.mpr hc
  unfold g_bit_of insR
  rw [runF_e]
  rcases hv with ⟨h1, h2⟩ | ⟨h1, h2⟩
  · have h1' : (d : Int) < (bs.length : Int) := by omega
    have ix : atI (bs.map D.int) (d : Int) = some (.int v) := by
      rw [Cl.atI_nat, List.getElem?_map, h2]; rfl
    simp -implicitDefEqProofs [fb_bit_of, h1, ix, lk1, lk2]
  · have h1' : ¬ d < bs.length := by omega
    have em : ((d : Int) - (bs.length : Int)) % (cs.length : Int) = (((d - bs.length) % cs.length : Nat) : Int) := by
      have : (d : Int) - (bs.length : Int) = ((d - bs.length : Nat) : Int) := by omega
      rw [this]; push_cast; rfl
    generalize (d - bs.length) % cs.length = q at *
    have ix : atI (cs.map D.int) (q : Int) = some (.int v) := by
      rw [Cl.atI_nat, List.getElem?_map, h2]; rfl
    simp -implicitDefEqProofs [fb_bit_of, h1', ix, em, lk1, lk2, hcl, hc]
theorem e_has (bs cs : List Int) (d : Nat) (v : Int) (hc : cs ≠ []) (hv : (d < bs.length ∧ bs[d]? = some v) ∨ (bs.length ≤ d ∧ cs[(d - bs.length) % cs.length]? = some v)) : g_has [insR bs cs, .int d] = .ok (.fz (.bl (decide (v = 1)))) [.non, .non] := by
  have e1 := e_bit_of bs cs d v hc hv
  have e2 := e_check_day d (by omega)
  unfold g_has
  rw [runF_e]
  simp -implicitDefEqProofs [fb_has, e1, e2]
theorem e_has_told {seen : List Int} {n l a : Nat} {f : Fd} (h : told seen n l a = some f) (ha : 0 < a) (d : Nat) (hd : d < n) : g_has [ruleOf l f, .int d] = .ok (.fz (.bl (mem seen d))) [.non, .non] := by
  have hl := told_len h
  have ht := told_at h d hd
  have hv : decide ((if mem seen d = true then (1 : Int) else 0) = 1) = mem seen d := by cases mem seen d <;> rfl
  have hI : tI (some (mem seen d)) = if mem seen d = true then 1 else 0 := by cases mem seen d <;> rfl
  rw [← hv]
  unfold ruleOf
  apply e_has
  · intro e
    have := congrArg List.length e
    simp at this; omega
  · unfold plc at ht
    by_cases hdl : d < l
    · rw [if_pos hdl] at ht
      refine .inl ⟨by simp; omega, ?_⟩
      rw [List.getElem?_map, List.getElem?_take_of_lt hdl, ht, Option.map_some, hI]
    · rw [if_neg hdl] at ht
      refine .inr ⟨by simp; omega, ?_⟩
      have l1 : ((f.take l).map tI).length = l := by simp; omega
      have l2 : ((f.drop l).map tI).length = a := by simp; omega
      rw [l1, l2, List.getElem?_map, List.getElem?_drop, ht, Option.map_some, hI]
/-! ### how many -/
def nones (f : Fd) : Nat := (f.filter fun x => x == none).length
theorem nones_cons (x : Option Bool) (f : Fd) : nones (x :: f) = (if x = none then 1 else 0) + nones f := by
  unfold nones
  cases x with
  | none => simp [List.filter_cons]; omega
  | some b => simp [List.filter_cons]
theorem nones_append (f g : Fd) : nones (f ++ g) = nones f + nones g := by unfold nones; rw [List.filter_append, List.length_append]
section
variable (A B C E X : Option Sl)
noncomputable abbrev bodyF : CS → Fl := (stS 5 (ifE (opE (slO 6) (vlO (cE .non)) isN) (opE (slO 5) (vlO (cE (.int 2))) times) (rdS 5)))
theorem loop_F : ∀ (f : Fd) (m : Int) (x : Option D), ∃ x' : Option D, forS (nmG 6) bodyF (f.map dO) [A, B, C, E, X, some (.fz (.int m)), x.map .fz] = .nx [A, B, C, E, X, some (.fz (.int (m * 2 ^ nones f))), x'.map .fz]
  | [], m, x => ⟨x, by simp [nones]⟩
  | y :: f, m, x => by
    have h1 : oneF (nmG 6) bodyF (dO y) [A, B, C, E, X, some (.fz (.int m)), x.map .fz] = .inl [A, B, C, E, X, some (.fz (.int (if y = none then m * 2 else m))), some (.fz (dO y))] := by
      unfold oneF bodyF
      cases y <;> simp -implicitDefEqProofs
    obtain ⟨x', h2⟩ := loop_F f (if y = none then m * 2 else m) (some (dO y))
    refine ⟨x', ?_⟩
    rw [List.map_cons, forS_inl h1]
    refine h2.trans ?_
    have : (if y = none then m * 2 else m) * 2 ^ nones f = m * 2 ^ nones (y :: f) := by
      rw [nones_cons]
      split
      · rw [Int.pow_add]; rw [Int.mul_assoc]; rfl
      · rw [Nat.zero_add]
    rw [this]
end
def fitN : Option Fd → Int
  | none => 0
  | some f => 2 ^ nones f
theorem e_fit (seen : List Int) (n l a : Nat) (h1 : 1 ≤ n) (h2 : n ≤ 40) (hl : l ≤ 24) (ha : 1 ≤ a) (ha2 : a ≤ 60) (hz : seen.length ≤ 1000) (hx : ∀ x ∈ seen, 0 ≤ x ∧ x < (n : Int)) (hp : seen.Pairwise (· < ·)) :
    g_fitting_rules [.tup (seen.map .int), .int n, .int l, .int a] = .ok (.fz (.int (fitN (told seen n l a)))) [.non, .non, .non, .non] := by
  have e0 := e_check_seen seen n (by omega) (by omega) hz hx hp
  have e1 := e_check l 0 24 (by omega) (by omega)
  have e2 := e_check a 1 60 (by omega) (by omega)
  have e3 := e_told seen n l a (by omega) (by omega) (by omega)
  unfold g_fitting_rules
  rw [runF_e]
  cases ht : told seen n l a with
  | none =>
    rw [ht] at e3
    simp -implicitDefEqProofs [fb_fitting_rules, e0, e1, e2, e3, toldD, fitN]
  | some f =>
    rw [ht] at e3
    obtain ⟨x', hf⟩ := loop_F (some (.fz (.tup (seen.map .int)))) (some (.fz (.int (n : Int)))) (some (.fz (.int (l : Int)))) (some (.fz (.int (a : Int)))) (some (.fz (.lst (f.map dO)))) f 1 none
    have hf : forS (nmG 6) bodyF (f.map dO) [some (.fz (.tup (seen.map .int))), some (.fz (.int (n : Int))), some (.fz (.int (l : Int))), some (.fz (.int (a : Int))), some (.fz (.lst (f.map dO))), some (.fz (.int 1)), none] = _ := hf
    simp -implicitDefEqProofs [fb_fitting_rules, e0, e1, e2, e3, toldD, fitN]
    rw [hf]
    simp -implicitDefEqProofs
theorem e_power (k : Nat) (hk : k ≤ 1000) : g__law_power [.int k] = .ok (.fz (.int (2 ^ k))) [.non] := by
  have key : ∀ (xs : List Nat) (m : Int) (x : Option D), ∃ x' : Option D, forS (nmG 2) (stS 1 (opE (slO 1) (vlO (cE (.int 2))) times)) (xs.map fun (i : Nat) => D.int (i : Int)) [some (.fz (.int (k : Int))), some (.fz (.int m)), x.map .fz] = .nx [some (.fz (.int (k : Int))), some (.fz (.int (m * 2 ^ xs.length))), x'.map .fz] := by
    intro xs
    induction xs with
    | nil => intro m x; exact ⟨x, by simp⟩
    | cons y xs ih =>
      intro m x
      have h1 : oneF (nmG 2) (stS 1 (opE (slO 1) (vlO (cE (.int 2))) times)) (.int (y : Int)) [some (.fz (.int (k : Int))), some (.fz (.int m)), x.map .fz] = .inl [some (.fz (.int (k : Int))), some (.fz (.int (m * 2))), some (.fz (.int (y : Int)))] := by
        unfold oneF
        simp -implicitDefEqProofs
      obtain ⟨x', h2⟩ := ih (m * 2) (some (.int (y : Int)))
      refine ⟨x', ?_⟩
      rw [List.map_cons, forS_inl h1]
      refine h2.trans ?_
      rw [List.length_cons, Int.pow_succ, Int.mul_assoc, Int.mul_comm 2]
  obtain ⟨x', h⟩ := key (List.range k) 1 none
  have h : forS (nmG 2) (stS 1 (opE (slO 1) (vlO (cE (.int 2))) times)) ((List.range k).map fun (i : Nat) => D.int (i : Int)) [some (.fz (.int (k : Int))), some (.fz (.int 1)), none] = _ := h
  have e2 := rng1_n k k rfl (by omega)
  unfold g__law_power
  rw [runF_e]
  simp -implicitDefEqProofs [fb__law_power, e2]
  rw [h]
  simp -implicitDefEqProofs
end W84

set_option Elab.async false
set_option linter.all false
set_option maxRecDepth 100000
set_option maxHeartbeats 4000000
set_option autoImplicit false
namespace W84
open PySem PySem.Spec L2 Cl
/-! ### a list of scalars against [] -/
def atom : D → Bool
  | .non => true
  | .bl _ => true
  | .int _ => true
  | _ => false
theorem py_atoms : ∀ (xs : List D), xs.all atom = true → ∃ ps, pyL xs = some ps ∧ PyData.canLayAll0 ps = true ∧ PyData.depthAll ps = 0 ∧ ps.isEmpty = xs.isEmpty
  | [], _ => ⟨[], rfl, rfl, rfl, rfl⟩
  | x :: xs, h => by
    rw [List.all_cons, Bool.and_eq_true] at h
    obtain ⟨ps, h1, h2, h3, _⟩ := py_atoms xs h.2
    have : ∃ p, x.py = some p ∧ PyData.canLay0 p = true ∧ PyData.depth p = 0 := by
      cases x with
      | non => exact ⟨.none, rfl, rfl, rfl⟩
      | bl b => exact ⟨.bool b, rfl, rfl, rfl⟩
      | int b => exact ⟨.int b, rfl, rfl, rfl⟩
      | _ => cases h.1
    obtain ⟨p, p1, p2, p3⟩ := this
    refine ⟨p :: ps, ?_, ?_, ?_, rfl⟩
    · rw [pyL, p1, h1]
    · rw [PyData.canLayAll0, p2, h2]; rfl
    · rw [PyData.depthAll, p3, h3]; rfl
theorem eq_nil (xs : List D) (h : xs.all atom = true) : eqD (.lst xs) (.lst []) = some xs.isEmpty := by
  obtain ⟨ps, h1, h2, h3, h4⟩ := py_atoms xs h
  unfold eqD
  have e1 : (D.lst xs).py = some (.list ps) := by rw [D.py, h1]; rfl
  have e2 : (D.lst []).py = some (.list []) := rfl
  rw [e1, e2]
  have s1 : SeqAt.shaped (.list ps) = true := by
    unfold SeqAt.shaped
    rw [PyData.canLay0, h2, PyData.depth, h3]; decide
  have s2 : SeqAt.shaped (.list []) = true := by decide
  dsimp only
  rw [if_pos ⟨s1, s2⟩, ← h4]
  cases ps with
  | nil => rfl
  | cons p ps => rfl
theorem atom_dO (ws : Fd) : (ws.map dO).all atom = true := by
  rw [List.all_map]
  exact List.all_eq_true.mpr fun x _ => by cases x <;> rfl
theorem atom_int (ws : List Int) : (ws.map D.int).all atom = true := by
  rw [List.all_map]
  exact List.all_eq_true.mpr fun x _ => rfl
@[simp] theorem apD_e (d : D) (ds : List D) : apD d ds = if ds.length < sizeLine then some (.non, ds ++ [d]) else none := rfl
@[simp] theorem exD_e (es ds : List D) : exD (.lst es) ds = if ds.length + es.length ≤ sizeLine then some (.non, ds ++ es) else none := rfl
/-! ### sure_on -/
section
variable (seen : List Int) (n : Nat) (day : Int)
def wordOf (a : Nat) : Option (Option Bool) := (told seen n 0 a).map fun f => (f[(day % (a : Int)).toNat]?).getD none
def words : Fd := (List.range' 1 12).filterMap (wordOf seen n day)
noncomputable abbrev bodyS : CS → Fl := (seqS (stS 5 (calD (consA (vlO (rdS 0)) (consA (vlO (rdS 1)) (consA (vlO (cE (.int 0))) (consA (vlO (rdS 4)) nilA)))) [false, false, false, false] g_told_places))
    (ifS (opE (slO 5) (vlO (cE .non)) isNN) (exS (mtE 3 (opE (slO 5) (vlO (opE (vlO (caE (consA (slO 2) nilA) intD)) (slO 4) imod)) ixD) apD)) nxS))
def stS' (ws : Fd) (x y : Option D) : CS := [some (.fz (.tup (seen.map .int))), some (.fz (.int n)), some (.fz (.int day)), some (.ow (.lst (ws.map dO))), x.map .fz, y.map .fz, none]
theorem at_day {α : Type} {xs : List α} {a : Nat} (ha : 0 < a) (h : xs.length = a) : ∃ x, xs[(day % (a : Int)).toNat]? = some x ∧ ∀ (f : α → D), atI (xs.map f) (day % (a : Int)) = some (f x) := by
  have h0 := Int.emod_nonneg day (show (a : Int) ≠ 0 by omega)
  have h1 := Int.emod_lt_of_pos day (show (0 : Int) < (a : Int) by omega)
  obtain ⟨q, hq⟩ : ∃ q : Nat, day % (a : Int) = (q : Int) := ⟨(day % (a : Int)).toNat, by omega⟩
  rw [hq]
  have hlt : q < xs.length := by omega
  refine ⟨xs[q], by rw [Int.toNat_natCast]; exact List.getElem?_eq_getElem hlt, fun f => ?_⟩
  rw [Cl.atI_nat, List.getElem?_map, List.getElem?_eq_getElem hlt]; rfl
theorem one_S (hn : n ≤ 40) (a : Nat) (ha : 1 ≤ a) (ha2 : a ≤ 12) (ws : Fd) (hw : ws.length ≤ 100) (x y : Option D) : ∃ x' y', oneF (nmG 4) bodyS (.int (a : Int)) (stS' seen n day ws x y) = .inl (stS' seen n day (ws ++ (wordOf seen n day a).toList) x' y') := by
  have e1 := e_told seen n 0 a (by omega) (by omega) (by omega)
  have e1 : g_told_places [.tup (seen.map .int), .int n, .int 0, .int a] = _ := e1
  unfold wordOf
  cases ht : told seen n 0 a with
  | none =>
    rw [ht] at e1
    refine ⟨some (.int a), some .non, ?_⟩
    unfold oneF stS' bodyS
    simp -implicitDefEqProofs [e1, toldD]
  | some f =>
    rw [ht] at e1
    have hf := told_len ht
    obtain ⟨w, h1, h2⟩ := at_day day (xs := f) (a := a) (by omega) (by omega)
    have h2 := h2 dO
    rw [Option.map_some, h1, Option.getD_some]
    have ha' : 0 < a := by omega
    refine ⟨some (.int a), some (.lst (f.map dO)), ?_⟩
    have hz : ws.length < 16777216 := by omega
    unfold oneF stS' bodyS
    simp -implicitDefEqProofs [e1, toldD, ha', h2, sizeLine_eq, hz]
theorem loop_S (hn : n ≤ 40) : ∀ (as : List Nat) (ws : Fd) (x y : Option D), (∀ a ∈ as, 1 ≤ a ∧ a ≤ 12) → ws.length + as.length ≤ 100 → ∃ x' y', forS (nmG 4) bodyS (as.map fun (a : Nat) => D.int (a : Int)) (stS' seen n day ws x y) = .nx (stS' seen n day (ws ++ as.filterMap (wordOf seen n day)) x' y')
  | [], ws, x, y, _, _ => ⟨x, y, by simp⟩
  | a :: as, ws, x, y, h, hz => by
    simp only [List.length_cons] at hz
    have ha := h a List.mem_cons_self
    obtain ⟨x1, y1, h1⟩ := one_S seen n day hn a ha.1 ha.2 ws (by omega) x y
    have hl : (ws ++ (wordOf seen n day a).toList).length + as.length ≤ 100 := by
      rw [List.length_append]
      have : (wordOf seen n day a).toList.length ≤ 1 := by cases wordOf seen n day a <;> simp
      omega
    obtain ⟨x2, y2, h2⟩ := loop_S hn as _ x1 y1 (fun b hb => h b (List.mem_cons_of_mem _ hb)) hl
    refine ⟨x2, y2, ?_⟩
    rw [List.map_cons, forS_inl h1, h2, List.filterMap_cons]
    cases wordOf seen n day a <;> simp
def sureV (ws : Fd) : D := if ws = [] then .str "none" else if (∀ x ∈ ws, x = some true) then .bl true else if (∀ x ∈ ws, x = some false) then .bl false else .non
theorem words_len : (words seen n day).length ≤ 12 := by
  unfold words
  have := List.length_filterMap_le (wordOf seen n day) (List.range' 1 12)
  simpa using this
theorem comp_S (A B C E F G : Option Sl) (b : Bool) (ws : Fd) (hz : ws.length ≤ 1000) : lcL [6] (nmG 6) yesT (blE (opE (slO 6) (vlO (cE (.bl b))) isC)) (ws.map dO) [] [A, B, C, E, F, G, none] = .ok (ws.map fun x => D.bl (x == some b)) [A, B, C, E, F, G, none] := by
  apply lcL_map dO fun x => D.bl (x == some b)
  · intro x _
    cases x with
    | none => simp -implicitDefEqProofs [turnC_e]
    | some c => simp -implicitDefEqProofs [turnC_e]
  · rw [sizeLine_eq]; omega
theorem e_sure_on (h1 : 1 ≤ n) (hn : n ≤ 40) (hz : seen.length ≤ 1000) (hx : ∀ x ∈ seen, 0 ≤ x ∧ x < (n : Int)) (hp : seen.Pairwise (· < ·)) (hd : 0 ≤ day) : g_sure_on [.tup (seen.map .int), .int n, .int day] = .ok (.fz (sureV (words seen n day))) [.non, .non, .non] := by
  have e0 := e_check_seen seen n (by omega) (by omega) hz hx hp
  have e1 := e_check_day day hd
  have e2 := rng2_n 1 13 1 13 rfl rfl (by omega) (by omega)
  rw [show 13 - 1 = 12 from rfl] at e2
  obtain ⟨x, y, hl⟩ := loop_S seen n day hn (List.range' 1 12) [] none none (fun a ha => by have := List.mem_range'_1.mp ha; omega) (by simp)
  replace hl : forS (nmG 4) bodyS ((List.range' 1 12).map fun (a : Nat) => D.int (a : Int)) (stS' seen n day [] none none) = .nx (stS' seen n day (words seen n day) x y) := hl
  have hwl := words_len seen n day
  generalize words seen n day = ws at *
  generalize hL : List.range' 1 12 = L at e2 hl
  have s0 : stS' seen n day [] none none = [some (.fz (.tup (seen.map .int))), some (.fz (.int n)), some (.fz (.int day)), some (.ow (.lst [])), none, none, none] := rfl
  unfold g_sure_on
  rw [runF_e]
  simp -implicitDefEqProofs [fb_sure_on, e0, e1, e2, sizeLine_eq]
  rw [← s0, hl]
  have k1 : ∀ A B C E F G b, lcL [6] (nmG 6) yesT (blE (opE (slO 6) (vlO (cE (.bl b))) isC)) (ws.map dO) [] [A, B, C, E, F, G, none] = .ok (ws.map fun x => D.bl (x == some b)) [A, B, C, E, F, G, none] := fun A B C E F G b => comp_S A B C E F G b ws (by omega)
  have q1 := eq_nil (ws.map dO) (atom_dO ws)
  simp -implicitDefEqProofs [stS', sizeLine_eq, q1, k1]
  unfold sureV
  by_cases c1 : ws = []
  · rw [if_pos c1, if_pos c1]
  · rw [if_neg c1, if_neg c1]
    by_cases c2 : ∀ x ∈ ws, x = some true
    · rw [if_pos c2, if_pos c2]
    · rw [if_neg c2, if_neg c2]
      by_cases c3 : ∀ x ∈ ws, x = some false
      · rw [if_pos c3, if_pos c3]
      · rw [if_neg c3, if_neg c3]
/-! ### the law's sure -/
def ints1 : Option Bool → List Int
  | none => [0, 1]
  | some b => [if b = true then 1 else 0]
noncomputable abbrev bodyU : CS → Fl := (seqS (stS 5 (calD (consA (vlO (rdS 0)) (consA (vlO (rdS 1)) (consA (vlO (cE (.int 0))) (consA (vlO (rdS 4)) nilA)))) [false, false, false, false] g__law_bits_of))
    (ifS (opE (slO 5) (vlO (cE .non)) isNN) (seqS (stS 6 (opE (vlO (opE (slO 5) (vlO (cE (.int 1))) ixD)) (vlO (opE (vlO (caE (consA (slO 2) nilA) intD)) (slO 4) imod)) ixD))
    (exS (mtE 3 (ifE (opE (slO 6) (vlO (cE .non)) isN) (lstE (consA (vlO (cE (.int 0))) (consA (vlO (cE (.int 1))) nilA))) (lstE (consA (vlO (rdS 6)) nilA))) exD))) nxS))
variable (sd : D)
def stU (ts : List Int) (x y z : Option D) : CS := [some (.fz sd), some (.fz (.int n)), some (.fz (.int day)), some (.ow (.lst (ts.map .int))), x.map .fz, y.map .fz, z.map .fz]
theorem one_U (hs : sd.items = some (seen.map .int)) (hn : n ≤ 40) (a : Nat) (ha : 1 ≤ a) (ha2 : a ≤ 12) (ts : List Int) (hw : ts.length ≤ 100) (x y z : Option D) : ∃ x' y' z', oneF (nmG 4) bodyU (.int (a : Int)) (stU n day sd ts x y z) = .inl (stU n day sd (ts ++ (wordOf seen n day a).toList.flatMap ints1) x' y' z') := by
  have e1 := e_bits_of sd seen n 0 a hs (by omega) (by omega) (by omega)
  have e1 : g__law_bits_of [sd, .int n, .int 0, .int a] = _ := e1
  unfold wordOf
  cases ht : told seen n 0 a with
  | none =>
    rw [ht] at e1
    refine ⟨some (.int a), some .non, z, ?_⟩
    unfold oneF stU bodyU
    simp -implicitDefEqProofs [e1, bitsD]
  | some f =>
    rw [ht] at e1
    have hf := told_len ht
    obtain ⟨w, h1, h2⟩ := at_day day (xs := f) (a := a) (by omega) (by omega)
    have h2 := h2 dI
    rw [Option.map_some, h1, Option.getD_some]
    have ha' : 0 < a := by omega
    refine ⟨some (.int a), some (bitsD 0 (some f)), some (dI w), ?_⟩
    have hz : ts.length + 2 ≤ 16777216 := by omega
    have hz1 : ts.length + 1 ≤ 16777216 := by omega
    have hz0 : ts.length ≤ 16777216 := by omega
    have hz3 : ts.length < 16777216 := by omega
    unfold oneF stU bodyU bitsD
    unfold bitsD at e1
    cases w with
    | none => simp -implicitDefEqProofs [e1, ha', h2, sizeLine_eq, hz, ints1]
    | some b => simp -implicitDefEqProofs [e1, ha', h2, sizeLine_eq, hz, hz1, hz3, ints1]
theorem loop_U (hs : sd.items = some (seen.map .int)) (hn : n ≤ 40) : ∀ (as : List Nat) (ts : List Int) (x y z : Option D), (∀ a ∈ as, 1 ≤ a ∧ a ≤ 12) → ts.length + 2 * as.length ≤ 100 → ∃ x' y' z', forS (nmG 4) bodyU (as.map fun (a : Nat) => D.int (a : Int)) (stU n day sd ts x y z) = .nx (stU n day sd (ts ++ (as.filterMap (wordOf seen n day)).flatMap ints1) x' y' z')
  | [], ts, x, y, z, _, _ => ⟨x, y, z, by simp⟩
  | a :: as, ts, x, y, z, h, hz => by
    simp only [List.length_cons] at hz
    have ha := h a List.mem_cons_self
    obtain ⟨x1, y1, z1, h1⟩ := one_U seen n day sd hs hn a ha.1 ha.2 ts (by omega) x y z
    have hl : (ts ++ (wordOf seen n day a).toList.flatMap ints1).length + 2 * as.length ≤ 100 := by
      rw [List.length_append]
      have : ((wordOf seen n day a).toList.flatMap ints1).length ≤ 2 := by
        cases wordOf seen n day a with
        | none => simp
        | some w => cases w <;> simp [ints1]
      omega
    obtain ⟨x2, y2, z2, h2⟩ := loop_U hs hn as _ x1 y1 z1 (fun b hb => h b (List.mem_cons_of_mem _ hb)) hl
    refine ⟨x2, y2, z2, ?_⟩
    rw [List.map_cons, forS_inl h1, h2, List.filterMap_cons]
    cases wordOf seen n day a <;> simp
/-- what the law's list tells -/
def sureT (ts : List Int) : D := if ts = [] then .str "none" else if 0 ∈ ts ∧ 1 ∈ ts then .non else .bl (decide (ts.head? = some 1))
theorem sure_same (ws : Fd) : sureT (ws.flatMap ints1) = sureV ws := by
  have m0 : (0 : Int) ∈ ws.flatMap ints1 ↔ ¬ ∀ x ∈ ws, x = some true := by
    rw [List.mem_flatMap]
    constructor
    · rintro ⟨x, hx, h⟩ hall
      rw [hall x hx] at h
      simp [ints1] at h
    · intro h
      have : ∃ x ∈ ws, x ≠ some true := by
        apply Classical.byContradiction
        intro hc
        exact h fun x hx => Classical.byContradiction fun hne => hc ⟨x, hx, hne⟩
      obtain ⟨x, hx, hne⟩ := this
      refine ⟨x, hx, ?_⟩
      cases x with
      | none => simp [ints1]
      | some b => cases b <;> simp [ints1] at hne ⊢
  have m1 : (1 : Int) ∈ ws.flatMap ints1 ↔ ¬ ∀ x ∈ ws, x = some false := by
    rw [List.mem_flatMap]
    constructor
    · rintro ⟨x, hx, h⟩ hall
      rw [hall x hx] at h
      simp [ints1] at h
    · intro h
      have : ∃ x ∈ ws, x ≠ some false := by
        apply Classical.byContradiction
        intro hc
        exact h fun x hx => Classical.byContradiction fun hne => hc ⟨x, hx, hne⟩
      obtain ⟨x, hx, hne⟩ := this
      refine ⟨x, hx, ?_⟩
      cases x with
      | none => simp [ints1]
      | some b => cases b <;> simp [ints1] at hne ⊢
  unfold sureT sureV
  cases ws with
  | nil => rfl
  | cons w ws =>
    have hne : (w :: ws).flatMap ints1 ≠ [] := by
      rw [List.flatMap_cons]
      cases w with
      | none => simp [ints1]
      | some b => simp [ints1]
    rw [if_neg hne, if_neg (show ¬ (w :: ws = []) from by simp)]
    by_cases c1 : ∀ x ∈ w :: ws, x = some true
    · have n0 : ¬ (0 : Int) ∈ (w :: ws).flatMap ints1 := fun h => m0.mp h c1
      rw [if_pos c1, if_neg (fun h => n0 h.1)]
      have := c1 w List.mem_cons_self
      subst this
      simp [ints1]
    · rw [if_neg c1]
      by_cases c2 : ∀ x ∈ w :: ws, x = some false
      · have n1 : ¬ (1 : Int) ∈ (w :: ws).flatMap ints1 := fun h => m1.mp h c2
        rw [if_pos c2, if_neg (fun h => n1 h.2)]
        have := c2 w List.mem_cons_self
        subst this
        simp [ints1]
      · rw [if_neg c2, if_pos ⟨m0.mpr c1, m1.mpr c2⟩]
theorem e_law_sure (hs : sd.items = some (seen.map .int)) (hn : n ≤ 40) : g__law_sure [sd, .int n, .int day] = .ok (.fz (sureV (words seen n day))) [.non, .non, .non] := by
  have e2 := rng2_n 1 13 1 13 rfl rfl (by omega) (by omega)
  rw [show 13 - 1 = 12 from rfl] at e2
  obtain ⟨x, y, z, hl⟩ := loop_U seen n day sd hs hn (List.range' 1 12) [] none none none (fun a ha => by have := List.mem_range'_1.mp ha; omega) (by simp)
  replace hl : forS (nmG 4) bodyU ((List.range' 1 12).map fun (a : Nat) => D.int (a : Int)) (stU n day sd [] none none none) = .nx (stU n day sd ((words seen n day).flatMap ints1) x y z) := hl
  rw [← sure_same]
  generalize (words seen n day).flatMap ints1 = ts at *
  generalize hL : List.range' 1 12 = L at e2 hl
  have s0 : stU n day sd [] none none none = [some (.fz sd), some (.fz (.int n)), some (.fz (.int day)), some (.ow (.lst [])), none, none, none] := rfl
  unfold g__law_sure
  rw [runF_e]
  simp -implicitDefEqProofs [fb__law_sure, e2, sizeLine_eq]
  rw [← s0, hl]
  have q1 := eq_nil (ts.map D.int) (atom_int ts)
  unfold sureT
  cases ts with
  | nil =>
    have q0 : eqD (.lst []) (.lst []) = some true := eq_nil [] rfl
    simp -implicitDefEqProofs [stU, sizeLine_eq, q0]
  | cons t ts =>
    have q2 : eqD (.lst (.int t :: ts.map .int)) (.lst []) = some false := eq_nil _ (atom_int (t :: ts))
    have i0 : ∀ i : Int, inD (.int i) (.lst (.int t :: ts.map .int)) = some (decide (i ∈ t :: ts)) := fun i => inD_l i (t :: ts)
    rw [if_neg (show ¬ (t :: ts = []) from by simp)]
    by_cases c0 : (0 : Int) ∈ t :: ts
    · by_cases c1 : (1 : Int) ∈ t :: ts
      · rw [if_pos ⟨c0, c1⟩]
        simp -implicitDefEqProofs only [stU, List.map_cons]
        simp -implicitDefEqProofs [q2, i0, c0, c1, sizeLine_eq, -List.mem_cons]
      · rw [if_neg fun h => c1 h.2]
        simp -implicitDefEqProofs only [stU, List.map_cons]
        simp -implicitDefEqProofs [q2, i0, c0, c1, sizeLine_eq, -List.mem_cons]
    · rw [if_neg fun h => c0 h.1]
      simp -implicitDefEqProofs only [stU, List.map_cons]
      simp -implicitDefEqProofs [q2, i0, c0, sizeLine_eq, -List.mem_cons]
end
end W84

set_option Elab.async false
set_option linter.all false
set_option maxRecDepth 100000
set_option maxHeartbeats 4000000
set_option autoImplicit false
/-! Cl, part O: what repr takes. -/
namespace Cl
open PySem PySem.Spec L2
/-- 10 ^ 60, kept closed -/
def big : Nat := 10 ^ 60
mutual
/-- d is data that repr shows: its weight, its depth -/
inductive Fit : D → Nat → Nat → Prop
  | non : Fit .non 0 0
  | bl (b : Bool) : Fit (.bl b) 0 0
  | int {i : Int} (h : i.natAbs < big) : Fit (.int i) 256 0
  | str {x : Str} (h : PyData.strOk x = true) : Fit (.str x) x.cps.size 0
  | lst {xs : List D} {w k : Nat} (h : FitL xs w k) : Fit (.lst xs) w (k + 1)
  | tup {xs : List D} {w k : Nat} (h : FitL xs w k) : Fit (.tup xs) w (k + 1)
inductive FitL : List D → Nat → Nat → Prop
  | nil : FitL [] 0 0
  | cons {x : D} {xs : List D} {w w' k k' : Nat} (h : Fit x w k) (r : FitL xs w' k') : FitL (x :: xs) (w + 1 + w') (max k k')
end
structure PyFit (p : PyData) (w k : Nat) : Prop where
  lay : p.canLay0 = true
  show_ : p.showable = true
  leaves : p.leavesShort 61 = true
  wt : p.weight ≤ w
  dp : p.depth ≤ k
structure PyFitL (ps : List PyData) (w k : Nat) : Prop where
  lay : PyData.canLayAll0 ps = true
  show_ : PyData.showableAll ps = true
  leaves : PyData.leavesShortAll 61 ps = true
  wt : PyData.weightAll ps ≤ w
  dp : PyData.depthAll ps ≤ k
theorem log2_big {i : Int} (h : i.natAbs < big) : i.natAbs.log2 < 200 := by
  by_cases h0 : i.natAbs = 0
  · rw [h0]; decide
  · rw [Nat.log2_lt h0]
    exact Nat.lt_trans h (by decide +kernel)
mutual
theorem Fit.py : ∀ {d : D} {w k : Nat}, Fit d w k → ∃ p, d.py = some p ∧ PyFit p w k
  | _, _, _, .non => ⟨.none, rfl, rfl, rfl, rfl, Nat.le_refl _, Nat.le_refl _⟩
  | _, _, _, .bl b => ⟨.bool b, rfl, rfl, rfl, rfl, Nat.le_refl _, Nat.le_refl _⟩
  | _, _, _, .int (i := i) h => by
    have hl := log2_big h
    refine ⟨.int i, rfl, rfl, ?_, ?_, ?_, Nat.le_refl _⟩
    · show decide _ = true
      exact decide_eq_true (by omega)
    · show decide _ = true
      refine decide_eq_true ?_
      have h1 := int_text_length_le10 (a := i) (k := 60) (by decide) (by exact h)
      show (Str.ofString (toString i)).length ≤ 61
      rw [ofString_length]; exact h1
    · show (if i == 0 then 0 else i.natAbs.log2 + 1) ≤ 256
      split <;> omega
  | _, _, _, .str (x := x) h => by
    refine ⟨.str x, rfl, h, rfl, ?_, Nat.le_refl _, Nat.le_refl _⟩
    have h0 : x.cps.all (· < 0x110000) = true := h
    show x.cps.toList.all (fun c => decide (c < 16 ^ 8)) = true
    refine List.all_eq_true.mpr fun c hc => decide_eq_true ?_
    have := (Array.all_eq_true_iff_forall_mem.mp h0) c (Array.mem_toList_iff.mp hc)
    have : c < 1114112 := by simpa using this
    omega
  | _, _, _, .lst (xs := xs) h => by
    obtain ⟨ps, h1, h2⟩ := FitL.py h
    exact ⟨.list ps, by rw [D.py, h1]; rfl, by rw [PyData.canLay0]; exact h2.lay, by rw [PyData.showable]; exact h2.show_, by rw [PyData.leavesShort]; exact h2.leaves, by rw [PyData.weight]; exact h2.wt, by rw [PyData.depth]; exact Nat.succ_le_succ h2.dp⟩
  | _, _, _, .tup (xs := xs) h => by
    obtain ⟨ps, h1, h2⟩ := FitL.py h
    exact ⟨.tuple ps, by rw [D.py, h1]; rfl, by rw [PyData.canLay0]; exact h2.lay, by rw [PyData.showable]; exact h2.show_, by rw [PyData.leavesShort]; exact h2.leaves, by rw [PyData.weight]; exact h2.wt, by rw [PyData.depth]; exact Nat.succ_le_succ h2.dp⟩
theorem FitL.py : ∀ {xs : List D} {w k : Nat}, FitL xs w k → ∃ ps, pyL xs = some ps ∧ PyFitL ps w k
  | _, _, _, .nil => ⟨[], rfl, rfl, rfl, rfl, Nat.le_refl _, Nat.le_refl _⟩
  | _, _, _, .cons h r => by
    obtain ⟨p, h1, h2⟩ := Fit.py h
    obtain ⟨ps, h3, h4⟩ := FitL.py r
    refine ⟨p :: ps, by rw [pyL, h1, h3], ?_, ?_, ?_, ?_, ?_⟩
    · rw [PyData.canLayAll0, h2.lay, h4.lay]; rfl
    · rw [PyData.showableAll, h2.show_, h4.show_]; rfl
    · rw [PyData.leavesShortAll, h2.leaves, h4.leaves]; rfl
    · rw [PyData.weightAll]
      have := h2.wt; have := h4.wt; omega
    · rw [PyData.depthAll]
      have := h2.dp; have := h4.dp; omega
end
theorem Fit.repr {d : D} {w k : Nat} (h : Fit d w k) (hw : w ≤ 200000) (hk : k ≤ 40) : ∃ z, reprD [d] = some (.str z) := by
  obtain ⟨p, h1, h2⟩ := h.py
  have ok : okShow p := by
    refine ⟨h2.lay, Nat.le_trans h2.dp hk, h2.show_, ?_⟩
    have := PyData.shown_le 61 (by decide) p h2.leaves
    have := h2.wt
    rw [sizeLine_eq]; omega
  refine ⟨p.shown, ?_⟩
  show (match d.py with | some p => if okShow p then some (D.str p.shown) else none | none => none) = _
  rw [h1]
  exact if_pos ok
theorem fit_ints : ∀ (ns : List Int), (∀ n ∈ ns, n.natAbs < big) → FitL (ns.map .int) (257 * ns.length) 0
  | [], _ => .nil
  | n :: ns, h => by
    have := FitL.cons (.int (h n List.mem_cons_self)) (fit_ints ns fun m hm => h m (List.mem_cons_of_mem _ hm))
    rw [show 256 + 1 + 257 * ns.length = 257 * (n :: ns).length by simp; omega] at this
    exact this
end Cl

set_option Elab.async false
set_option linter.all false
set_option maxRecDepth 100000
set_option maxHeartbeats 4000000
set_option autoImplicit false
namespace W84
open PySem PySem.Spec L2 Cl
/-- the state of the dice -/
def Hand (h : D) : Prop := ∃ (cells : List Int) (p c s k : Int), 0 ≤ p ∧ h = .lst [.lst (cells.map .int), .int p, .int c, .int s, .int k]
def Dice (m : Int) (x : GR) : Prop := ∃ (r : Int) (h : D), x = .ok (.fz (.int r)) [h, .non] ∧ 0 ≤ r ∧ r < m ∧ Hand h
theorem e_draw {h : D} (m : Int) (hh : Hand h) (hm : 0 < m) (hm2 : m < 1073741824) : Dice m (g__law_draw [h, .int m]) := by
  obtain ⟨cells, p, c, s, k, hp, rfl⟩ := hh
  have md : ∀ x : Int, 0 ≤ x % m ∧ x % m < m := fun x => ⟨Int.emod_nonneg _ (by omega), Int.emod_lt_of_pos _ hm⟩
  have fin : ∀ (x p c s k : Int), 0 ≤ p → Dice m (.ok (.fz (.int (x % m))) [.lst [.lst (cells.map .int), .int p, .int c, .int s, .int k], .non]) := fun x p c s k hp => ⟨_, _, rfl, (md x).1, (md x).2, _, _, _, _, _, hp, rfl⟩
  unfold g__law_draw
  rw [runF_e]
  have hb : ∀ x : Int, -18446744073709551616 < x % 2147483399 ∧ x % 2147483399 < 18446744073709551616 := fun x => by omega
  by_cases h1 : c = 0 ∧ p < cells.length
  · obtain ⟨rfl, h1⟩ := h1
    by_cases h2 : (1000000000000000 : Int) ≤ cells[p.toNat]
    · have h3 : 0 < cells[p.toNat] := by omega
      simp [fb__law_draw, atI_mapI hp h1, h1, h2, h3, hm, hm2, hb]
      exact fin _ _ _ _ _ (by omega)
    · simp [fb__law_draw, atI_mapI hp h1, h1, h2, hm, hm2, hb]
      exact fin _ _ _ _ _ (by omega)
  · have h1' : c = 0 → ¬ p < cells.length := fun a b => h1 ⟨a, b⟩
    by_cases h2 : 0 < c
    · have h3 : ¬ c = 0 := by omega
      simp [fb__law_draw, h3, h2, hm, hm2, hb]
      exact fin _ _ _ _ _ (by omega)
    · by_cases h3 : c = 0
      · subst h3
        have h4 := h1' rfl
        simp [fb__law_draw, h4, hm, hm2, hb]
        exact fin _ _ _ _ _ (by omega)
      · simp [fb__law_draw, h3, h2, hm, hm2, hb]
        exact fin _ _ _ _ _ (by omega)

theorem e_some {h : D} (hh : Hand h) (t : D) (xs : List D) (ht : t = .lst xs ∨ t = .tup xs) (hne : xs ≠ []) (hz : xs.length ≤ 1000) : ∃ x h', g__law_some [h, t] = .ok (.fz x) [h', .non] ∧ x ∈ xs ∧ Hand h' := by
  have hp : 0 < xs.length := List.length_pos_iff.mpr hne
  obtain ⟨r, h', e, h0, h1, h2⟩ := e_draw (h := h) (xs.length : Int) hh (by omega) (by omega)
  obtain ⟨q, rfl⟩ : ∃ q : Nat, r = (q : Int) := ⟨r.toNat, by omega⟩
  have hq : q < xs.length := by omega
  refine ⟨xs[q], h', ?_, List.getElem_mem hq, h2⟩
  have ix : atI xs (q : Int) = some xs[q] := by rw [Cl.atI_nat]; exact List.getElem?_eq_getElem hq
  unfold g__law_some
  rw [runF_e]
  rcases ht with rfl | rfl
  · simp -implicitDefEqProofs [fb__law_some, e, ix]
  · simp -implicitDefEqProofs [fb__law_some, e, ix]
def Bits (bs : List Int) : Prop := ∀ b ∈ bs, 0 ≤ b ∧ b ≤ 1
theorem loop_bits (A : Option Sl) : ∀ (xs acc : List D) (h : D), Hand h → acc.length + xs.length ≤ 1000 → ∃ bs h', lcL [2] (nmG 2) yesT (calD (consA (slO 0) (consA (vlO (cE (.int 2))) nilA)) [true, false] g__law_draw) xs acc [some (.le h), A, none] = .ok (acc ++ bs.map .int) [some (.le h'), A, none] ∧ bs.length = xs.length ∧ Bits bs ∧ Hand h'
  | [], acc, h, hh, _ => ⟨[], h, by conv => lhs; unfold lcL
                                    simp, rfl, fun b hb => (nomatch hb), hh⟩
  | x :: xs, acc, h, hh, hz => by
    simp only [List.length_cons] at hz
    obtain ⟨r, h1, e, r0, r1, hh1⟩ := e_draw (h := h) 2 hh (by omega) (by omega)
    have t : turnC [2] (nmG 2) yesT (calD (consA (slO 0) (consA (vlO (cE (.int 2))) nilA)) [true, false] g__law_draw) x [some (.le h), A, none] = .ok (some (.int r)) [some (.le h1), A, none] := by
      simp -implicitDefEqProofs [turnC_e, e]
    obtain ⟨bs, h2, e2, l2, b2, hh2⟩ := loop_bits A xs (acc ++ [.int r]) h1 hh1 (by simp; omega)
    refine ⟨r :: bs, h2, ?_, by simp [l2], fun b hb => ?_, hh2⟩
    · rw [lcL_cons t (by rw [sizeLine_eq]; omega), e2]; simp
    · rcases List.mem_cons.mp hb with rfl | hb
      · omega
      · exact b2 b hb
theorem e_bits {h : D} (hh : Hand h) (k : Nat) (hk : k ≤ 100) : ∃ bs h', g__law_bits [h, .int k] = .ok (.fz (.tup (bs.map .int))) [h', .non] ∧ bs.length = k ∧ Bits bs ∧ Hand h' := by
  have e2 := rng1_n k k rfl (by omega)
  obtain ⟨bs, h', e, hl, hb, hh'⟩ := loop_bits (some (.fz (.int (k : Int)))) ((List.range k).map fun (i : Nat) => D.int (i : Int)) [] h hh (by simp; omega)
  refine ⟨bs, h', ?_, by simpa using hl, hb, hh'⟩
  unfold g__law_bits
  rw [runF_e]
  simp -implicitDefEqProofs [fb__law_bits, e2]
  rw [e]
  simp -implicitDefEqProofs
theorem e_rule_bits {h : D} (hh : Hand h) (ml : Nat) (hm : ml ≤ 60) (ys : List Int) (hne : ys ≠ []) (hz : ys.length ≤ 1000) (hy : ∀ y ∈ ys, 1 ≤ y ∧ y ≤ 60) : ∃ bs cs h', g__law_rule_bits [h, .int ml, .tup (ys.map .int)] = .ok (.fz (.tup [.tup (bs.map .int), .tup (cs.map .int)])) [h', .non, .non] ∧ bs.length ≤ ml ∧ 1 ≤ cs.length ∧ cs.length ≤ 60 ∧ Bits bs ∧ Bits cs ∧ Hand h' := by
  obtain ⟨r, h1, e1, r0, r1, hh1⟩ := e_draw (h := h) ((ml : Int) + 1) hh (by omega) (by omega)
  obtain ⟨q, rfl⟩ : ∃ q : Nat, r = (q : Int) := ⟨r.toNat, by omega⟩
  obtain ⟨bs, h2, e2, l2, b2, hh2⟩ := e_bits hh1 q (by omega)
  obtain ⟨x, h3, e3, hx, hh3⟩ := e_some hh2 (.tup (ys.map .int)) (ys.map .int) (.inr rfl) (by simpa using hne) (by simpa using hz)
  obtain ⟨y, hy', rfl⟩ := List.mem_map.mp hx
  have hyy := hy y hy'
  obtain ⟨p, rfl⟩ : ∃ p : Nat, y = (p : Int) := ⟨y.toNat, by omega⟩
  obtain ⟨cs, h4, e4, l4, b4, hh4⟩ := e_bits hh3 p (by omega)
  refine ⟨bs, cs, h4, ?_, by omega, by omega, by omega, b2, b4, hh4⟩
  unfold g__law_rule_bits
  rw [runF_e]
  simp -implicitDefEqProofs [fb__law_rule_bits, e1, e2, e3, e4, sizeLine_eq]
theorem e_law_bit (bs cs : List Int) (d : Nat) (hc : cs ≠ []) : ∃ v, g__law_bit [.tup [.tup (bs.map .int), .tup (cs.map .int)], .int d] = .ok (.fz (.int v)) [.non, .non] := by
  have hcl : 0 < cs.length := List.length_pos_iff.mpr hc
  unfold g__law_bit
  rw [runF_e]
  by_cases h1 : d < bs.length
  · have ix : atI (bs.map D.int) (d : Int) = some (.int bs[d]) := by
      rw [Cl.atI_nat, List.getElem?_map, List.getElem?_eq_getElem h1]; rfl
    refine ⟨bs[d], ?_⟩
    simp -implicitDefEqProofs [fb__law_bit, h1, ix, tupG, consG, nilG]
  · have em : ((d : Int) - (bs.length : Int)) % (cs.length : Int) = (((d - bs.length) % cs.length : Nat) : Int) := by
      have : (d : Int) - (bs.length : Int) = ((d - bs.length : Nat) : Int) := by omega
      rw [this]; push_cast; rfl
    have hq := Nat.mod_lt (d - bs.length) hcl
    generalize (d - bs.length) % cs.length = q at *
    have ix : atI (cs.map D.int) (q : Int) = some (.int cs[q]) := by
      rw [Cl.atI_nat, List.getElem?_map, List.getElem?_eq_getElem hq]; rfl
    refine ⟨cs[q], ?_⟩
    simp -implicitDefEqProofs [fb__law_bit, h1, ix, em, hcl, hc, tupG, consG, nilG]
theorem e_law_is {d : D} {w k : Nat} (h : Fit d w k) (hw : w ≤ 200000) (hk : k ≤ 40) : g__law_is [d, d] = .ok (.fz (.bl true)) [.non, .non] := by
  obtain ⟨z, hz⟩ := h.repr hw hk
  unfold g__law_is
  rw [runF_e]
  simp -implicitDefEqProofs [fb__law_is, hz]
theorem e_hand (ns : List Int) (hl : ns.length ≤ 63) : ∃ h, g__law_hand [.scr (ns.map .int)] = .ok (.ow h) [.non] ∧ Hand h := by
  have c1 : cutG (ns.map D.int) none (some 60) = (ns.take 60).map .int := by
    rw [cutG_map]
    congr 1
    by_cases h : 60 ≤ ns.length
    · exact cutG_to ns 60 h
    · rw [List.take_of_length_le (by omega)]
      unfold cutG
      have h1 : HT.sIx ns.length 0 none = 0 := rfl
      have h2 : HT.sIx ns.length ns.length (some 60) = ns.length := by
        simp only [HT.sIx]
        split <;> omega
      rw [h1, h2]; simp
  have hz : (ns.take 60).length ≤ 60 := by simp; omega
  generalize ns.take 60 = ms at *
  have k : ∀ A, lcL [2] (nmG 2) yesT (opE (vlO (caE (consA (vlO (caE (consA (vlO (caE (consA (slO 2) nilA) intD)) nilA) absD)) nilA) intD)) (vlO (opE (vlO (cE (.int 10))) (vlO (cE (.int 36))) ipow)) imod) (ms.map .int) [] [A, none, none] = .ok (ms.map fun m => D.int ((if m < 0 then -m else m) % 10 ^ 36)) [A, none, none] := fun A => by
    apply lcL_map D.int fun m => D.int ((if m < 0 then -m else m) % 10 ^ 36)
    · intro m _
      simp [turnC_e]
    · rw [sizeLine_eq]; omega
  refine ⟨_, ?_, ms.map (fun m => (if m < 0 then -m else m) % 10 ^ 36), 0, 0, 68503 + 31 * ms.length, 0, by omega, rfl⟩
  unfold g__law_hand
  rw [runF_e]
  simp -implicitDefEqProofs [fb__law_hand, c1, k, sizeLine_eq]
end W84

set_option Elab.async false
set_option linter.all false
set_option maxRecDepth 100000
set_option maxHeartbeats 4000000
set_option autoImplicit false
namespace W84
open PySem PySem.Spec L2 Cl
noncomputable abbrev rp0 : CS → Fl := (asS (tupE (consA (vlO (calD (consA (slO 0) (consA (vlO (lstE (consA (vlO (cE (.int 1))) (consA (vlO (cE (.int 2))) (consA (vlO (cE (.int 7))) (consA (vlO (cE (.int 20))) (consA (vlO (cE (.int 40))) nilA))))))) nilA)) [true, false] g__law_some)) (consA (vlO (calD (consA (slO 0) (consA (vlO (cE (.int 5))) (consA (vlO (tupE (consA (vlO (cE (.int 1))) (consA (vlO (cE (.int 2))) (consA (vlO (cE (.int 3))) (consA (vlO (cE (.int 5))) (consA (vlO (cE (.int 7))) (consA (vlO (cE (.int 12))) nilA)))))))) nilA))) [true, false, false] g__law_rule_bits)) nilA))) (tupG 2 (consG (nmG 1) (consG (nmG 2) nilG))))
noncomputable abbrev rp1 : CS → Fl := (stS 3 (lcE [4] (caE (consA (slO 1) nilA) rng1) (nmG 4) (opE (vlO (calD (consA (vlO (rdS 2)) (consA (vlO (rdS 4)) nilA)) [false, false] g__law_bit)) (vlO (cE (.int 1))) eqA) (rdS 4)))
noncomputable abbrev rp2 : CS → Fl := (ifS (opE (vlO (calD (consA (slO 0) (consA (vlO (cE (.int 3))) nilA)) [true, false] g__law_draw)) (vlO (cE (.int 0))) eqA) (seqS (stS 4 (calD (consA (slO 0) (consA (vlO (rdS 1)) nilA)) [true, false] g__law_draw)) (stS 3 (ifE (opE (slO 4) (slO 3) inD) (lcE [13] (sqE (rdS 3)) (nmG 13) (opE (slO 13) (slO 4) neA) (rdS 13)) (caE (consA (vlO (opE (slO 3) (vlO (lstE (consA (vlO (rdS 4)) nilA))) plus)) nilA) srtD)))) nxS)
noncomputable abbrev rp3 : CS → Fl := (stS 5 (calD (consA (vlO (rdS 3)) (consA (vlO (rdS 1)) nilA)) [false, false] g__law_least))
noncomputable abbrev rp4 : CS → Fl := (stS 6 (calD (consA (vlO (caE (consA (slO 3) nilA) tupD)) (consA (vlO (rdS 1)) nilA)) [false, false] g_least_rule))
noncomputable abbrev rp5 : CS → Fl := (ifS (notT (tsE (calD (consA (vlO (lstE (consA (vlO (unE (slO 6) (fldD ["Rule"] "lead"))) (consA (vlO (unE (slO 6) (fldD ["Rule"] "again"))) nilA)))) (consA (vlO (lstE (consA (vlO (opE (slO 5) (vlO (cE (.int 0))) ixD)) (consA (vlO (opE (slO 5) (vlO (cE (.int 1))) ixD)) nilA)))) nilA)) [false, false] g__law_is))) (rtS (cE (.bl false))) nxS)
noncomputable abbrev rp6 : CS → Fl := (ifS (notT (tsE (caE (consA (vlO (lcE [4] (caE (consA (slO 1) nilA) rng1) (nmG 4) yesT (blE (opE (vlO (calD (consA (vlO (rdS 6)) (consA (vlO (rdS 4)) nilA)) [false, false] g_has)) (vlO (blE (opE (slO 4) (slO 3) inD))) eqA)))) nilA) allBD))) (rtS (cE (.bl false))) nxS)
noncomputable abbrev rp7 : CS → Fl := (foS (caE (consA (vlO (cE (.int 4))) nilA) rng1) (nmG 7) (seqS (paS 8 9 (consA (vlO (calD (consA (slO 0) (consA (vlO (lstE (consA (vlO (cE (.int 0))) (consA (vlO (cE (.int 24))) (consA (vlO (calD (consA (slO 0) (consA (vlO (cE (.int 25))) nilA)) [true, false] g__law_draw)) nilA))))) nilA)) [true, false] g__law_some)) (consA (vlO (calD (consA (slO 0) (consA (vlO (lstE (consA (vlO (cE (.int 1))) (consA (vlO (cE (.int 60))) (consA (vlO (opE (vlO (cE (.int 1))) (vlO (calD (consA (slO 0) (consA (vlO (cE (.int 12))) nilA)) [true, false] g__law_draw)) plus)) nilA))))) nilA)) [true, false] g__law_some)) nilA))) (seqS (stS 10 (calD (consA (vlO (rdS 3)) (consA (vlO (rdS 1)) (consA (vlO (rdS 8)) (consA (vlO (rdS 9)) nilA)))) [false, false, false, false] g__law_bits_of)) (seqS (stS 11 (ifE (opE (slO 10) (vlO (cE .non)) isN) (cE (.int 0)) (calD (consA (vlO (caE (consA (vlO (lcE [12] (sqE (opE (vlO (opE (slO 10) (vlO (cE (.int 0))) ixD)) (vlO (opE (slO 10) (vlO (cE (.int 1))) ixD)) plus)) (nmG 12) (opE (slO 12) (vlO (cE .non)) isN) (rdS 12))) nilA) lenD)) nilA) [false] g__law_power))) (seqS (ifS (notT (tsE (calD (consA (vlO (calD (consA (vlO (caE (consA (slO 3) nilA) tupD)) (consA (vlO (rdS 1)) (consA (vlO (rdS 8)) (consA (vlO (rdS 9)) nilA)))) [false, false, false, false] g_fitting_rules)) (consA (vlO (rdS 11)) nilA)) [false, false] g__law_is))) (rtS (cE (.bl false))) nxS) (seqS (stS 4 (calD (consA (slO 0) (consA (vlO (lstE (consA (vlO (calD (consA (slO 0) (consA (vlO (cE (.int 60))) nilA)) [true, false] g__law_draw)) (consA (vlO (rdS 1)) (consA (vlO (opE (vlO (opE (vlO (cE (.int 10))) (vlO (cE (.int 12))) ipow)) (vlO (calD (consA (slO 0) (consA (vlO (cE (.int 99))) nilA)) [true, false] g__law_draw)) plus)) nilA))))) nilA)) [true, false] g__law_some)) (ifS (notT (tsE (calD (consA (vlO (calD (consA (vlO (caE (consA (slO 3) nilA) tupD)) (consA (vlO (rdS 1)) (consA (vlO (rdS 4)) nilA))) [false, false, false] g_sure_on)) (consA (vlO (calD (consA (vlO (rdS 3)) (consA (vlO (rdS 1)) (consA (vlO (rdS 4)) nilA))) [false, false, false] g__law_sure)) nilA)) [false, false] g__law_is))) (rtS (cE (.bl false))) nxS)))))))
noncomputable abbrev rp8 : CS → Fl := (rtS (cE (.bl true)))
noncomputable abbrev rq0 : CS → Fl := (paS 8 9 (consA (vlO (calD (consA (slO 0) (consA (vlO (lstE (consA (vlO (cE (.int 0))) (consA (vlO (cE (.int 24))) (consA (vlO (calD (consA (slO 0) (consA (vlO (cE (.int 25))) nilA)) [true, false] g__law_draw)) nilA))))) nilA)) [true, false] g__law_some)) (consA (vlO (calD (consA (slO 0) (consA (vlO (lstE (consA (vlO (cE (.int 1))) (consA (vlO (cE (.int 60))) (consA (vlO (opE (vlO (cE (.int 1))) (vlO (calD (consA (slO 0) (consA (vlO (cE (.int 12))) nilA)) [true, false] g__law_draw)) plus)) nilA))))) nilA)) [true, false] g__law_some)) nilA)))
noncomputable abbrev rq1 : CS → Fl := (stS 10 (calD (consA (vlO (rdS 3)) (consA (vlO (rdS 1)) (consA (vlO (rdS 8)) (consA (vlO (rdS 9)) nilA)))) [false, false, false, false] g__law_bits_of))
noncomputable abbrev rq2 : CS → Fl := (stS 11 (ifE (opE (slO 10) (vlO (cE .non)) isN) (cE (.int 0)) (calD (consA (vlO (caE (consA (vlO (lcE [12] (sqE (opE (vlO (opE (slO 10) (vlO (cE (.int 0))) ixD)) (vlO (opE (slO 10) (vlO (cE (.int 1))) ixD)) plus)) (nmG 12) (opE (slO 12) (vlO (cE .non)) isN) (rdS 12))) nilA) lenD)) nilA) [false] g__law_power)))
noncomputable abbrev rq3 : CS → Fl := (ifS (notT (tsE (calD (consA (vlO (calD (consA (vlO (caE (consA (slO 3) nilA) tupD)) (consA (vlO (rdS 1)) (consA (vlO (rdS 8)) (consA (vlO (rdS 9)) nilA)))) [false, false, false, false] g_fitting_rules)) (consA (vlO (rdS 11)) nilA)) [false, false] g__law_is))) (rtS (cE (.bl false))) nxS)
noncomputable abbrev rq4 : CS → Fl := (stS 4 (calD (consA (slO 0) (consA (vlO (lstE (consA (vlO (calD (consA (slO 0) (consA (vlO (cE (.int 60))) nilA)) [true, false] g__law_draw)) (consA (vlO (rdS 1)) (consA (vlO (opE (vlO (opE (vlO (cE (.int 10))) (vlO (cE (.int 12))) ipow)) (vlO (calD (consA (slO 0) (consA (vlO (cE (.int 99))) nilA)) [true, false] g__law_draw)) plus)) nilA))))) nilA)) [true, false] g__law_some))
noncomputable abbrev rq5 : CS → Fl := (ifS (notT (tsE (calD (consA (vlO (calD (consA (vlO (caE (consA (slO 3) nilA) tupD)) (consA (vlO (rdS 1)) (consA (vlO (rdS 4)) nilA))) [false, false, false] g_sure_on)) (consA (vlO (calD (consA (vlO (rdS 3)) (consA (vlO (rdS 1)) (consA (vlO (rdS 4)) nilA))) [false, false, false] g__law_sure)) nilA)) [false, false] g__law_is))) (rtS (cE (.bl false))) nxS)

theorem seq_nx {f g : CS → Fl} {s s' : CS} (h : f s = .nx s') : seqS f g s = g s' := by rw [seqS_e, h]; rfl
/-- the seen days of a book -/
structure Good (seen : List Int) (n : Nat) : Prop where
  in_ : ∀ x ∈ seen, 0 ≤ x ∧ x < (n : Int)
  up : seen.Pairwise (· < ·)
theorem range_up (k : Nat) : ((List.range k).map fun (i : Nat) => (i : Int)).Pairwise (· < ·) := by
  rw [List.pairwise_map]
  exact List.Pairwise.imp (fun h => by omega) List.pairwise_lt_range
theorem up_len {n : Nat} {xs : List Int} (h : Good xs n) : xs.length ≤ n := by
  have key : ∀ (xs : List Int) (lo : Int), (∀ x ∈ xs, lo ≤ x ∧ x < (n : Int)) → xs.Pairwise (· < ·) → xs.length ≤ ((n : Int) - lo).toNat := by
    intro xs
    induction xs with
    | nil => intro lo _ _; exact Nat.zero_le _
    | cons x xs ih =>
      intro lo h hp
      obtain ⟨h1, h2⟩ := List.pairwise_cons.mp hp
      have hx := h x List.mem_cons_self
      have := ih (x + 1) (fun y hy => ⟨by have := h1 y hy; omega, (h y (List.mem_cons_of_mem _ hy)).2⟩) h2
      rw [List.length_cons]; omega
  have := key xs 0 h.in_ h.up
  omega
theorem good_filter {seen : List Int} {n : Nat} (h : Good seen n) (p : Int → Bool) : Good (seen.filter p) n :=
  ⟨fun x hx => h.in_ x (List.mem_filter.mp hx).1, h.up.filter p⟩
theorem good_sorted {seen : List Int} {n : Nat} (h : Good seen n) {d : Int} (h0 : 0 ≤ d) (h1 : d < n) (hd : d ∉ seen) : Good (sortI (seen ++ [d])) n := by
  have hp := sortI_perm (seen ++ [d])
  refine ⟨fun x hx => ?_, ?_⟩
  · have := hp.mem_iff.mp hx
    rcases List.mem_append.mp this with h2 | h2
    · exact h.in_ x h2
    · have := List.mem_singleton.mp h2; omega
  · have nd : (seen ++ [d]).Nodup := by
      rw [List.nodup_append]
      refine ⟨h.up.imp (fun h => Int.ne_of_lt h), by simp, fun a ha b hb e => ?_⟩
      have := List.mem_singleton.mp hb
      subst this; subst e; exact hd ha
    have nd2 : (sortI (seen ++ [d])).Nodup := hp.nodup_iff.mpr nd
    have := (sortI_sorted (seen ++ [d])).and nd2
    exact this.imp fun h => by have := h.1; have := h.2; omega
/-- the frame -/
def fr (h : D) (n : Nat) (x2 x3 x4 x5 x6 x7 x8 x9 x10 x11 : Option D) : CS := [some (.le h), some (.fz (.int n)), x2.map .fz, x3.map .fz, x4.map .fz, x5.map .fz, x6.map .fz, x7.map .fz, x8.map .fz, x9.map .fz, x10.map .fz, x11.map .fz, none, none]
def ruleD (bs cs : List Int) : D := .tup [.tup (bs.map .int), .tup (cs.map .int)]
theorem r0 {h : D} (hh : Hand h) : ∃ (n : Nat) (bs cs : List Int) (h' : D), rp0 [some (.le h), none, none, none, none, none, none, none, none, none, none, none, none, none] = .nx (fr h' n (some (ruleD bs cs)) none none none none none none none none none) ∧ 1 ≤ n ∧ n ≤ 40 ∧ cs ≠ [] ∧ Hand h' := by
  obtain ⟨x, h1, e1, hx, hh1⟩ := e_some hh (.lst [.int 1, .int 2, .int 7, .int 20, .int 40]) _ (.inl rfl) (by simp) (by simp)
  obtain ⟨n, rfl, hn1, hn2⟩ : ∃ n : Nat, x = .int n ∧ 1 ≤ n ∧ n ≤ 40 := by
    simp at hx
    rcases hx with rfl | rfl | rfl | rfl | rfl
    · exact ⟨1, rfl, by omega, by omega⟩
    · exact ⟨2, rfl, by omega, by omega⟩
    · exact ⟨7, rfl, by omega, by omega⟩
    · exact ⟨20, rfl, by omega, by omega⟩
    · exact ⟨40, rfl, by omega, by omega⟩
  obtain ⟨bs, cs, h2, e2, _, l2, _, _, _, hh2⟩ := e_rule_bits hh1 5 (by omega) [1, 2, 3, 5, 7, 12] (by simp) (by simp) (by decide)
  have e2 : g__law_rule_bits [h1, .int 5, .tup [.int 1, .int 2, .int 3, .int 5, .int 7, .int 12]] = _ := e2
  refine ⟨n, bs, cs, h2, ?_, hn1, hn2, by intro e; subst e; simp at l2, hh2⟩
  unfold rp0 fr ruleD
  simp -implicitDefEqProofs [e1, e2, sizeLine_eq, tupG, consG, nilG]
theorem r1 {h : D} {n : Nat} {bs cs : List Int} (hn : n ≤ 40) (hc : cs ≠ []) : ∃ seen, rp1 (fr h n (some (ruleD bs cs)) none none none none none none none none none) = .nx (fr h n (some (ruleD bs cs)) (some (.lst (seen.map .int))) none none none none none none none none) ∧ Good seen n := by
  have hv : ∀ d : Nat, ∃ v, g__law_bit [ruleD bs cs, .int d] = .ok (.fz (.int v)) [.non, .non] := fun d => e_law_bit bs cs d hc
  let val : Nat → Int := fun d => Classical.choose (hv d)
  have hval : ∀ d : Nat, g__law_bit [ruleD bs cs, .int d] = .ok (.fz (.int (val d))) [.non, .non] := fun d => Classical.choose_spec (hv d)
  have e2 := rng1_n n n rfl (by omega)
  have k : lcL [4] (nmG 4) (opE (vlO (calD (consA (vlO (rdS 2)) (consA (vlO (rdS 4)) nilA)) [false, false] g__law_bit)) (vlO (cE (.int 1))) eqA) (rdS 4) ((List.range n).map fun (i : Nat) => D.int (i : Int)) [] (fr h n (some (ruleD bs cs)) none none none none none none none none none) =
      .ok (((List.range n).filter fun d => decide (val d = 1)).map fun (i : Nat) => D.int (i : Int)) (fr h n (some (ruleD bs cs)) none none none none none none none none none) := by
    apply lcL_filter (fun (i : Nat) => D.int (i : Int)) (fun (i : Nat) => D.int (i : Int)) (fun d => decide (val d = 1))
    · intro d _
      have := hval d
      by_cases h1 : val d = 1
      · simp -implicitDefEqProofs [turnC_e, this, fr, h1]
      · simp -implicitDefEqProofs [turnC_e, this, fr, h1]
    · rw [sizeLine_eq]; simp; omega
  refine ⟨((List.range n).filter fun d => decide (val d = 1)).map fun (i : Nat) => (i : Int), ?_, ⟨fun x hx => ?_, ?_⟩⟩
  · have e3 : (((List.range n).filter fun d => decide (val d = 1)).map fun (i : Nat) => (i : Int)).map D.int = ((List.range n).filter fun d => decide (val d = 1)).map fun (i : Nat) => D.int (i : Int) := by rw [List.map_map]; rfl
    rw [e3]
    generalize ((List.range n).filter fun d => decide (val d = 1)).map (fun (i : Nat) => D.int (i : Int)) = L at *
    unfold fr at k ⊢
    unfold rp1
    simp -implicitDefEqProofs at k
    simp -implicitDefEqProofs [e2, k]
  · obtain ⟨i, hi, rfl⟩ := List.mem_map.mp hx
    have := List.mem_range.mp (List.mem_filter.mp hi).1
    omega
  · rw [List.pairwise_map]
    exact ((List.pairwise_lt_range (n := n)).filter _).imp fun h => by omega
theorem srt_e (ns : List Int) (h : ns.length < 64) : srtD [.lst (ns.map .int)] = some (.lst ((sortI ns).map .int)) := by
  show (intsL (ns.map D.int)).bind (fun ns => if ns.length < 64 then some (D.lst ((sortI ns).map D.int)) else none) = _
  rw [intsL_map]
  exact if_pos h
theorem r2 {h : D} {n : Nat} {r : D} {seen : List Int} (hh : Hand h) (h1 : 1 ≤ n) (hn : n ≤ 40) (hg : Good seen n) : ∃ (seen' : List Int) (h' : D) (x : Option D), rp2 (fr h n (some r) (some (.lst (seen.map .int))) none none none none none none none none) = .nx (fr h' n (some r) (some (.lst (seen'.map .int))) x none none none none none none none) ∧ Good seen' n ∧ Hand h' := by
  have hl := up_len hg
  obtain ⟨v, h1', e1, v0, v1, hh1⟩ := e_draw (h := h) 3 hh (by omega) (by omega)
  by_cases hv : v = 0
  · subst hv
    obtain ⟨d, h2, e2, d0, d1, hh2⟩ := e_draw (h := h1') (n : Int) hh1 (by omega) (by omega)
    by_cases hd : d ∈ seen
    · have k : ∀ A B C E F G H I J K L M, lcL [13] (nmG 13) (opE (slO 13) (slO 4) neA) (rdS 13) (seen.map .int) [] [A, B, C, E, some (.fz (.int d)), F, G, H, I, J, K, L, M, none] = .ok ((seen.filter fun x => !decide (x = d)).map .int) [A, B, C, E, some (.fz (.int d)), F, G, H, I, J, K, L, M, none] := fun A B C E F G H I J K L M => by
        apply lcL_filter D.int D.int (fun x => !decide (x = d))
        · intro x _
          by_cases hx : x = d
          · simp -implicitDefEqProofs [turnC_e, hx]
          · simp -implicitDefEqProofs [turnC_e, hx]
        · rw [sizeLine_eq]; omega
      refine ⟨seen.filter fun x => !decide (x = d), h2, some (.int d), ?_, good_filter hg _, hh2⟩
      unfold rp2 fr
      simp -implicitDefEqProofs [e1, e2, hd, k]
    · have es := srt_e (seen ++ [d]) (by simp; omega)
      rw [List.map_append, List.map_cons, List.map_nil] at es
      refine ⟨sortI (seen ++ [d]), h2, some (.int d), ?_, good_sorted hg d0 d1 hd, hh2⟩
      have hz : seen.length + 1 ≤ 16777216 := by omega
      have hz2 : seen.length < 16777216 := by omega
      unfold rp2 fr
      simp -implicitDefEqProofs [e1, e2, hd, es, sizeLine_eq, hz, hz2]
  · refine ⟨seen, h1', none, ?_, hg, hh1⟩
    unfold rp2 fr
    simp -implicitDefEqProofs [e1, hv]
end W84

set_option Elab.async false
set_option linter.all false
set_option maxRecDepth 100000
set_option maxHeartbeats 4000000
set_option autoImplicit false
namespace W84
open PySem PySem.Spec L2 Cl
theorem least_spec {seen : List Int} {n : Nat} {p : Nat × Fd} (h : least seen n = some p) : ∃ a, told seen n p.1 a = some p.2 ∧ 1 ≤ a ∧ p.1 ≤ 24 ∧ p.1 + a ≤ n := by
  obtain ⟨w, hw, h1⟩ := List.exists_of_findSome?_eq_some h
  obtain ⟨a, ha, h2⟩ := List.exists_of_findSome?_eq_some h1
  have hw' := List.mem_range'_1.mp hw
  have ha' := List.mem_range'_1.mp ha
  unfold tryA at h2
  split at h2
  · rename_i hc
    cases ht : told seen n (w - a) a with
    | none => rw [ht] at h2; cases h2
    | some f =>
      rw [ht] at h2
      cases h2
      exact ⟨a, ht, by omega, hc, by show w - a + a ≤ n; omega⟩
  · cases h2
theorem bit_big {bs : List Int} (h : Bits bs) : ∀ b ∈ bs, b.natAbs < big := fun b hb => by
  have := h b hb
  have : b.natAbs ≤ 1 := by omega
  exact Nat.lt_of_le_of_lt this (by decide +kernel)
theorem tI_bits (f : Fd) : Bits (f.map tI) := fun b hb => by
  obtain ⟨x, _, rfl⟩ := List.mem_map.mp hb; exact tI_bit x
theorem fit_two {as bs : List Int} (ha : Bits as) (hb : Bits bs) (la : as.length ≤ 100) (lb : bs.length ≤ 100) : ∃ w, Fit (.lst [.tup (as.map .int), .tup (bs.map .int)]) w 2 ∧ w ≤ 200000 := by
  have f := Fit.lst (.cons (.tup (fit_ints as (bit_big ha))) (.cons (.tup (fit_ints bs (bit_big hb))) .nil))
  exact ⟨_, f, by omega⟩
section
variable {h : D} {n : Nat} {r : D} {seen : List Int} {p : Nat × Fd} {x4 : Option D}
theorem r3 (hn1 : 1 ≤ n) (hn : n ≤ 40) (hl : least seen n = some p) : rp3 (fr h n (some r) (some (.lst (seen.map .int))) x4 none none none none none none none) = .nx (fr h n (some r) (some (.lst (seen.map .int))) x4 (some (lawD p.1 p.2)) none none none none none none) := by
  have e := e_law_least (.lst (seen.map .int)) seen n rfl hn1 hn hl
  unfold rp3 fr
  simp -implicitDefEqProofs [e]
theorem r4 (hn1 : 1 ≤ n) (hn : n ≤ 40) (hg : Good seen n) (hl : least seen n = some p) {x5 : Option D} : rp4 (fr h n (some r) (some (.lst (seen.map .int))) x4 x5 none none none none none none) = .nx (fr h n (some r) (some (.lst (seen.map .int))) x4 x5 (some (ruleOf p.1 p.2)) none none none none none) := by
  have hz := up_len hg
  have e := e_least seen n hn1 hn (by omega) hg.in_ hg.up hl
  unfold rp4 fr
  simp -implicitDefEqProofs [e]
theorem r5 (hn : n ≤ 40) (hl : least seen n = some p) {x3 : Option D} : rp5 (fr h n (some r) x3 x4 (some (lawD p.1 p.2)) (some (ruleOf p.1 p.2)) none none none none none) = .nx (fr h n (some r) x3 x4 (some (lawD p.1 p.2)) (some (ruleOf p.1 p.2)) none none none none none) := by
  obtain ⟨a, h1, h2, h3, h4⟩ := least_spec hl
  have hf := told_len h1
  have b1 := tI_bits (p.2.take p.1)
  have b2 := tI_bits (p.2.drop p.1)
  obtain ⟨w, f, hw⟩ := fit_two b1 b2 (by simp; omega) (by simp; omega)
  have e := e_law_is f hw (by omega)
  unfold lawD ruleOf insR rp5 fr
  generalize (p.2.take p.1).map tI = A at *
  generalize (p.2.drop p.1).map tI = B at *
  simp -implicitDefEqProofs [e, lk1, lk2, sizeLine_eq]
theorem r6 (hn : n ≤ 40) (hl : least seen n = some p) {x5 : Option D} : rp6 (fr h n (some r) (some (.lst (seen.map .int))) x4 x5 (some (ruleOf p.1 p.2)) none none none none none) = .nx (fr h n (some r) (some (.lst (seen.map .int))) x4 x5 (some (ruleOf p.1 p.2)) none none none none none) := by
  obtain ⟨a, h1, h2, h3, h4⟩ := least_spec hl
  have e2 := rng1_n n n rfl (by omega)
  have k : lcL [4] (nmG 4) yesT (blE (opE (vlO (calD (consA (vlO (rdS 6)) (consA (vlO (rdS 4)) nilA)) [false, false] g_has)) (vlO (blE (opE (slO 4) (slO 3) inD))) eqA)) ((List.range n).map fun (i : Nat) => D.int (i : Int)) []
      (fr h n (some r) (some (.lst (seen.map .int))) none x5 (some (ruleOf p.1 p.2)) none none none none none) = .ok ((List.range n).map fun _ => D.bl true) (fr h n (some r) (some (.lst (seen.map .int))) none x5 (some (ruleOf p.1 p.2)) none none none none none) := by
    apply lcL_map (fun (i : Nat) => D.int (i : Int)) (fun _ => D.bl true)
    · intro d hd
      have e := e_has_told h1 (by omega) d (List.mem_range.mp hd)
      unfold mem at e
      simp -implicitDefEqProofs [turnC_e, e, fr]
    · rw [sizeLine_eq]; simp; omega
  have al : allBD [.lst ((List.range n).map fun _ => D.bl true)] = some (.bl true) := by
    have := blD_map (fun bs => bs.all id) (fun _ : Nat => true) (List.range n)
    exact this.trans (by simp)
  have hc : coldS [4] (fr h n (some r) (some (.lst (seen.map .int))) x4 x5 (some (ruleOf p.1 p.2)) none none none none none) = true := by
    cases x4 <;> simp [fr]
  have hw : wipeS [4] (fr h n (some r) (some (.lst (seen.map .int))) x4 x5 (some (ruleOf p.1 p.2)) none none none none none) = fr h n (some r) (some (.lst (seen.map .int))) none x5 (some (ruleOf p.1 p.2)) none none none none none := by
    simp [fr]
  have hb : backS [4] (fr h n (some r) (some (.lst (seen.map .int))) x4 x5 (some (ruleOf p.1 p.2)) none none none none none) (fr h n (some r) (some (.lst (seen.map .int))) none x5 (some (ruleOf p.1 p.2)) none none none none none) = fr h n (some r) (some (.lst (seen.map .int))) x4 x5 (some (ruleOf p.1 p.2)) none none none none none := by
    simp [fr]
  have hi : caE (consA (slO 1) nilA) rng1 (fr h n (some r) (some (.lst (seen.map .int))) x4 x5 (some (ruleOf p.1 p.2)) none none none none none) = .ok ((List.range n).map fun (i : Nat) => D.int (i : Int)) (fr h n (some r) (some (.lst (seen.map .int))) x4 x5 (some (ruleOf p.1 p.2)) none none none none none) := by
    unfold fr
    simp -implicitDefEqProofs [e2]
  unfold rp6
  simp -implicitDefEqProofs only [ifS_e, notT_e, tsE_e, caE_e, consA_e, vlO_e, lcE_e, nilA_e]
  simp -implicitDefEqProofs only [caE_e, consA_e, nilA_e] at hi
  rw [hi]
  simp -implicitDefEqProofs only [Rs.bind_ok, hc, if_pos, hw, k, lcO_ok, hb]
  simp -implicitDefEqProofs [al]
end
end W84

set_option Elab.async false
set_option linter.all false
set_option maxRecDepth 100000
set_option maxHeartbeats 4000000
set_option autoImplicit false
namespace W84
open PySem PySem.Spec L2 Cl
theorem nones_le (f : Fd) : nones f ≤ f.length := by unfold nones; exact List.length_filter_le _ _
theorem fit_fit {seen : List Int} {n l a : Nat} (h : l + a ≤ 90) : (fitN (told seen n l a)).natAbs < big := by
  cases ht : told seen n l a with
  | none => exact (by decide +kernel : (0 : Int).natAbs < big)
  | some f =>
    have hf := told_len ht
    have := nones_le f
    unfold fitN
    rw [Int.natAbs_pow]
    have h1 : (2 : Int).natAbs ^ nones f ≤ 2 ^ 90 := Nat.pow_le_pow_right (by decide) (by omega)
    exact Nat.lt_of_le_of_lt h1 (by decide +kernel)
theorem fit_sure (ws : Fd) : ∃ w, Fit (sureV ws) w 0 ∧ w ≤ 200000 := by
  unfold sureV
  split
  · exact ⟨_, .str (by decide +kernel), by decide +kernel⟩
  · split
    · exact ⟨0, .bl _, by omega⟩
    · split
      · exact ⟨0, .bl _, by omega⟩
      · exact ⟨0, .non, by omega⟩
section
variable {h : D} {n : Nat} {seen : List Int} {x2 x4 x5 x6 x7 x8 x9 x10 x11 : Option D}
theorem q0 (hh : Hand h) {x3 : Option D} : ∃ (l a : Nat) (h' : D), rq0 (fr h n x2 x3 x4 x5 x6 x7 x8 x9 x10 x11) = .nx (fr h' n x2 x3 x4 x5 x6 x7 (some (.int l)) (some (.int a)) x10 x11) ∧ l ≤ 24 ∧ 1 ≤ a ∧ a ≤ 60 ∧ Hand h' := by
  obtain ⟨v, h1, e1, v0, v1, hh1⟩ := e_draw (h := h) 25 hh (by omega) (by omega)
  obtain ⟨x, h2, e2, hx, hh2⟩ := e_some hh1 (.lst [.int 0, .int 24, .int v]) _ (.inl rfl) (by simp) (by simp)
  obtain ⟨l, rfl, hl⟩ : ∃ l : Nat, x = .int l ∧ l ≤ 24 := by
    simp at hx
    rcases hx with rfl | rfl | rfl
    · exact ⟨0, rfl, by omega⟩
    · exact ⟨24, rfl, by omega⟩
    · exact ⟨v.toNat, by congr 1; omega, by omega⟩
  obtain ⟨u, h3, e3, u0, u1, hh3⟩ := e_draw (h := h2) 12 hh2 (by omega) (by omega)
  obtain ⟨y, h4, e4, hy, hh4⟩ := e_some hh3 (.lst [.int 1, .int 60, .int (1 + u)]) _ (.inl rfl) (by simp) (by simp)
  obtain ⟨a, rfl, ha, ha2⟩ : ∃ a : Nat, y = .int a ∧ 1 ≤ a ∧ a ≤ 60 := by
    simp at hy
    rcases hy with rfl | rfl | rfl
    · exact ⟨1, rfl, by omega, by omega⟩
    · exact ⟨60, rfl, by omega, by omega⟩
    · exact ⟨(1 + u).toNat, by congr 1; omega, by omega, by omega⟩
  refine ⟨l, a, h4, ?_, hl, ha, ha2, hh4⟩
  unfold rq0 fr
  simp -implicitDefEqProofs [paS, e1, e2, e3, e4, sizeLine_eq]
variable {l a : Nat}
theorem q1 (hn : n ≤ 40) (hl : l ≤ 24) (ha : 1 ≤ a) (ha2 : a ≤ 60) : rq1 (fr h n x2 (some (.lst (seen.map .int))) x4 x5 x6 x7 (some (.int l)) (some (.int a)) x10 x11) = .nx (fr h n x2 (some (.lst (seen.map .int))) x4 x5 x6 x7 (some (.int l)) (some (.int a)) (some (bitsD l (told seen n l a))) x11) := by
  have e := e_bits_of (.lst (seen.map .int)) seen n l a rfl (by omega) (by omega) (by omega)
  unfold rq1 fr
  simp -implicitDefEqProofs [e]
theorem q2 (hl : l ≤ 24) (ha : 1 ≤ a) (ha2 : a ≤ 60) {x3 : Option D} : rq2 (fr h n x2 x3 x4 x5 x6 x7 (some (.int l)) (some (.int a)) (some (bitsD l (told seen n l a))) x11) = .nx (fr h n x2 x3 x4 x5 x6 x7 (some (.int l)) (some (.int a)) (some (bitsD l (told seen n l a))) (some (.int (fitN (told seen n l a))))) := by
  cases ht : told seen n l a with
  | none =>
    unfold rq2 fr bitsD fitN
    simp -implicitDefEqProofs
  | some f =>
    have hf := told_len ht
    have hc : (f.take l).map dI ++ (f.drop l).map dI = f.map dI := by rw [← List.map_append, List.take_append_drop]
    have hz1 : (f.take l).length + (f.drop l).length ≤ 16777216 := by simp; omega
    have hp := e_power (nones f) (by have := nones_le f; omega)
    have k : ∀ A B C E F G H I J K L M, lcL [12] (nmG 12) (opE (slO 12) (vlO (cE .non)) isN) (rdS 12) (f.map dI) [] [A, B, C, E, F, G, H, I, J, K, L, M, none, none] = .ok ((f.filter fun x => x == none).map fun _ => D.non) [A, B, C, E, F, G, H, I, J, K, L, M, none, none] := fun A B C E F G H I J K L M => by
      apply lcL_filter dI (fun _ => D.non) (fun x => x == none)
      · intro x _
        cases x with
        | none => simp -implicitDefEqProofs [turnC_e]
        | some b => simp -implicitDefEqProofs [turnC_e]
      · rw [sizeLine_eq]; omega
    have hlen : lenD [.lst ((f.filter fun x => x == none).map fun _ => D.non)] = some (.int (nones f : Nat)) := by
      show some (D.int _) = _
      unfold nones
      rw [List.length_map]
    generalize (f.filter fun x => x == none).map (fun _ => D.non) = L at *
    unfold rq2 fr bitsD fitN
    dsimp only
    have hz2 : ((f.take l).map dI).length + ((f.drop l).map dI).length ≤ 16777216 := by simpa using hz1
    generalize (f.take l).map dI = f1 at *
    generalize (f.drop l).map dI = f2 at *
    simp -implicitDefEqProofs [hc, hz2, k, hlen, hp, sizeLine_eq, -lenD_l]
theorem q3 (hn1 : 1 ≤ n) (hn : n ≤ 40) (hg : Good seen n) (hl : l ≤ 24) (ha : 1 ≤ a) (ha2 : a ≤ 60) : rq3 (fr h n x2 (some (.lst (seen.map .int))) x4 x5 x6 x7 (some (.int l)) (some (.int a)) x10 (some (.int (fitN (told seen n l a))))) = .nx (fr h n x2 (some (.lst (seen.map .int))) x4 x5 x6 x7 (some (.int l)) (some (.int a)) x10 (some (.int (fitN (told seen n l a))))) := by
  have hz := up_len hg
  have e1 := e_fit seen n l a hn1 hn hl ha ha2 (by omega) hg.in_ hg.up
  have e2 := e_law_is (.int (fit_fit (seen := seen) (n := n) (l := l) (a := a) (by omega))) (by omega) (by omega)
  unfold rq3 fr
  simp -implicitDefEqProofs [e1, e2]
theorem q4 (hh : Hand h) {x3 : Option D} : ∃ (d : Int) (h' : D), rq4 (fr h n x2 x3 x4 x5 x6 x7 x8 x9 x10 x11) = .nx (fr h' n x2 x3 (some (.int d)) x5 x6 x7 x8 x9 x10 x11) ∧ 0 ≤ d ∧ Hand h' := by
  obtain ⟨v, h1, e1, v0, v1, hh1⟩ := e_draw (h := h) 60 hh (by omega) (by omega)
  obtain ⟨u, h2, e2, u0, u1, hh2⟩ := e_draw (h := h1) 99 hh1 (by omega) (by omega)
  obtain ⟨x, h3, e3, hx, hh3⟩ := e_some hh2 (.lst [.int v, .int n, .int (1000000000000 + u)]) _ (.inl rfl) (by simp) (by simp)
  obtain ⟨d, rfl, hd⟩ : ∃ d : Int, x = .int d ∧ 0 ≤ d := by
    simp at hx
    rcases hx with rfl | rfl | rfl
    · exact ⟨_, rfl, v0⟩
    · exact ⟨_, rfl, by omega⟩
    · exact ⟨_, rfl, by omega⟩
  refine ⟨d, h3, ?_, hd, hh3⟩
  unfold rq4 fr
  simp -implicitDefEqProofs [e1, e2, e3, sizeLine_eq]
theorem q5 (hn1 : 1 ≤ n) (hn : n ≤ 40) (hg : Good seen n) {d : Int} (hd : 0 ≤ d) : rq5 (fr h n x2 (some (.lst (seen.map .int))) (some (.int d)) x5 x6 x7 x8 x9 x10 x11) = .nx (fr h n x2 (some (.lst (seen.map .int))) (some (.int d)) x5 x6 x7 x8 x9 x10 x11) := by
  have hz := up_len hg
  have e1 := e_sure_on seen n d hn1 hn (by omega) hg.in_ hg.up hd
  have e2 := e_law_sure seen n d (.lst (seen.map .int)) rfl hn
  obtain ⟨w, f, hw⟩ := fit_sure (words seen n d)
  have e3 := e_law_is f hw (by omega)
  unfold rq5 fr
  simp -implicitDefEqProofs [e1, e2, e3]
end
end W84

set_option Elab.async false
set_option linter.all false
set_option maxRecDepth 100000
set_option maxHeartbeats 4000000
set_option autoImplicit false
namespace W84
open PySem PySem.Spec L2 Cl
noncomputable abbrev bodyR : CS → Fl := seqS rq0 (seqS rq1 (seqS rq2 (seqS rq3 (seqS rq4 rq5))))
theorem loop_R {n : Nat} {seen : List Int} {x2 x5 x6 : Option D} (hn1 : 1 ≤ n) (hn : n ≤ 40) (hg : Good seen n) : ∀ (ds : List D) (h : D) (x4 x7 x8 x9 x10 x11 : Option D), Hand h → ∃ (h' : D) (y4 y7 y8 y9 y10 y11 : Option D),
    forS (nmG 7) bodyR ds (fr h n x2 (some (.lst (seen.map .int))) x4 x5 x6 x7 x8 x9 x10 x11) = .nx (fr h' n x2 (some (.lst (seen.map .int))) y4 x5 x6 y7 y8 y9 y10 y11) ∧ Hand h'
  | [], h, x4, x7, x8, x9, x10, x11, hh => ⟨h, x4, x7, x8, x9, x10, x11, rfl, hh⟩
  | d :: ds, h, x4, x7, x8, x9, x10, x11, hh => by
    obtain ⟨l, a, h1, e0, hl, ha, ha2, hh1⟩ := q0 (n := n) (x2 := x2) (x3 := some (.lst (seen.map .int))) (x4 := x4) (x5 := x5) (x6 := x6) (x7 := some d) (x8 := x8) (x9 := x9) (x10 := x10) (x11 := x11) hh
    have e1 := q1 (h := h1) (seen := seen) (x2 := x2) (x4 := x4) (x5 := x5) (x6 := x6) (x7 := some d) (x10 := x10) (x11 := x11) hn hl ha ha2
    have e2 := q2 (h := h1) (n := n) (seen := seen) (x2 := x2) (x4 := x4) (x5 := x5) (x6 := x6) (x7 := some d) (x11 := x11) (x3 := some (.lst (seen.map .int))) hl ha ha2
    have e3 := q3 (h := h1) (seen := seen) (x2 := x2) (x4 := x4) (x5 := x5) (x6 := x6) (x7 := some d) (x10 := some (bitsD l (told seen n l a))) hn1 hn hg hl ha ha2
    obtain ⟨dd, h2, e4, hd, hh2⟩ := q4 (n := n) (x2 := x2) (x3 := some (.lst (seen.map .int))) (x4 := x4) (x5 := x5) (x6 := x6) (x7 := some d) (x8 := some (.int l)) (x9 := some (.int a)) (x10 := some (bitsD l (told seen n l a))) (x11 := some (.int (fitN (told seen n l a)))) hh1
    have e5 := q5 (h := h2) (seen := seen) (x2 := x2) (x5 := x5) (x6 := x6) (x7 := some d) (x8 := some (.int l)) (x9 := some (.int a)) (x10 := some (bitsD l (told seen n l a))) (x11 := some (.int (fitN (told seen n l a)))) hn1 hn hg hd
    have one : oneF (nmG 7) bodyR d (fr h n x2 (some (.lst (seen.map .int))) x4 x5 x6 x7 x8 x9 x10 x11) = .inl (fr h2 n x2 (some (.lst (seen.map .int))) (some (.int dd)) x5 x6 (some d) (some (.int l)) (some (.int a)) (some (bitsD l (told seen n l a))) (some (.int (fitN (told seen n l a))))) := by
      have s0 : nmG 7 d (fr h n x2 (some (.lst (seen.map .int))) x4 x5 x6 x7 x8 x9 x10 x11) = some (fr h n x2 (some (.lst (seen.map .int))) x4 x5 x6 (some d) x8 x9 x10 x11) := by
        unfold fr
        simp -implicitDefEqProofs
      unfold oneF
      rw [s0]
      dsimp only
      unfold bodyR
      rw [seq_nx e0, seq_nx e1, seq_nx e2, seq_nx e3, seq_nx e4, e5]
      rfl
    obtain ⟨h3, y4, y7, y8, y9, y10, y11, e6, hh3⟩ := loop_R hn1 hn hg ds h2 _ _ _ _ _ _ hh2
    exact ⟨h3, y4, y7, y8, y9, y10, y11, by rw [forS_inl one]; exact e6, hh3⟩
theorem e_right {h : D} (hh : Hand h) : ∃ h', g__law_is_right [h] = .ok (.fz (.bl true)) [h'] ∧ Hand h' := by
  obtain ⟨n, bs, cs, h1, e0, hn1, hn, hc, hh1⟩ := r0 hh
  obtain ⟨seen0, e1, hg0⟩ := r1 (h := h1) (bs := bs) hn hc
  obtain ⟨seen, h2, x4, e2, hg, hh2⟩ := r2 (r := ruleD bs cs) hh1 hn1 hn hg0
  obtain ⟨p, hl⟩ := least_some seen n hn1
  have e3 := r3 (h := h2) (r := ruleD bs cs) (x4 := x4) hn1 hn hl
  have e4 := r4 (h := h2) (r := ruleD bs cs) (x4 := x4) (x5 := some (lawD p.1 p.2)) hn1 hn hg hl
  have e5 := r5 (h := h2) (r := ruleD bs cs) (x4 := x4) (x3 := some (.lst (seen.map .int))) hn hl
  have e6 := r6 (h := h2) (r := ruleD bs cs) (x4 := x4) (x5 := some (lawD p.1 p.2)) hn hl
  obtain ⟨h3, y4, y7, y8, y9, y10, y11, e7, hh3⟩ := loop_R (x2 := some (ruleD bs cs)) (x5 := some (lawD p.1 p.2)) (x6 := some (ruleOf p.1 p.2)) hn1 hn hg ((List.range 4).map fun (i : Nat) => D.int (i : Int)) h2 x4 none none none none none hh2
  have er := rng1_n 4 4 rfl (by omega)
  generalize (List.range 4).map (fun (i : Nat) => D.int (i : Int)) = L at er e7
  have e7' : rp7 (fr h2 n (some (ruleD bs cs)) (some (.lst (seen.map .int))) x4 (some (lawD p.1 p.2)) (some (ruleOf p.1 p.2)) none none none none none) = .nx (fr h3 n (some (ruleD bs cs)) (some (.lst (seen.map .int))) y4 (some (lawD p.1 p.2)) (some (ruleOf p.1 p.2)) y7 y8 y9 y10 y11) := by
    have e7 : forS (nmG 7) bodyR L _ = _ := e7
    unfold rp7
    simp -implicitDefEqProofs only [foS_e, caE_e, consA_e, vlO_e, cE_e, nilA_e, Rs.bind_ok, oC_e, rsvs_cons, rsvs_nil, rsv_d, Option.bind_some, Option.map_some, er, res_some, bindS_ok]
    exact e7
  have hfb : fb__law_is_right = seqS rp0 (seqS rp1 (seqS rp2 (seqS rp3 (seqS rp4 (seqS rp5 (seqS rp6 (seqS rp7 rp8))))))) := rfl
  refine ⟨h3, ?_, hh3⟩
  unfold g__law_is_right
  rw [runF_e]
  have st : startS 14 [true] [h] = [some (.le h), none, none, none, none, none, none, none, none, none, none, none, none, none] := rfl
  rw [st, hfb, seq_nx e0, seq_nx e1, seq_nx e2, seq_nx e3, seq_nx e4, seq_nx e5, seq_nx e6, seq_nx e7']
  unfold rp8 fr
  simp -implicitDefEqProofs
end W84

set_option Elab.async false
set_option linter.all false
set_option maxRecDepth 100000
set_option maxHeartbeats 4000000
set_option autoImplicit false
namespace W84
open PySem PySem.Spec L2 Cl
noncomputable abbrev lp0 : CS → Fl := (snS 1 (calN (consA (vlO (rdS 0)) nilA) [false] g__law_hand))
noncomputable abbrev lp1 : CS → Fl := (stS 2 (calD (consA (vlO (tupE (consA (vlO (cE (.int 0))) (consA (vlO (cE (.int 2))) (consA (vlO (cE (.int 4))) nilA))))) (consA (vlO (cE (.int 6))) nilA)) [false, false] g_least_rule))
noncomputable abbrev lp2 : CS → Fl := (stS 3 (calD (consA (vlO (tupE (consA (vlO (cE (.int 1))) nilA))) (consA (vlO (cE (.int 5))) nilA)) [false, false] g_least_rule))
noncomputable abbrev lp3 : CS → Fl := (ifS (notT (tsE (calD (consA (vlO (lstE (consA (vlO (unE (slO 2) (fldD ["Rule"] "lead"))) (consA (vlO (unE (slO 2) (fldD ["Rule"] "again"))) (consA (vlO (unE (slO 3) (fldD ["Rule"] "lead"))) (consA (vlO (unE (slO 3) (fldD ["Rule"] "again"))) nilA)))))) (consA (vlO (lstE (consA (vlO (tupE nilA)) (consA (vlO (tupE (consA (vlO (cE (.int 1))) (consA (vlO (cE (.int 0))) nilA)))) (consA (vlO (tupE (consA (vlO (cE (.int 0))) (consA (vlO (cE (.int 1))) nilA)))) (consA (vlO (tupE (consA (vlO (cE (.int 0))) nilA))) nilA)))))) nilA)) [false, false] g__law_is))) (rtS (cE (.bl false))) nxS)
noncomputable abbrev lp4 : CS → Fl := (stS 4 (tupE (consA (vlO (cE (.int 0))) (consA (vlO (cE (.int 2))) (consA (vlO (cE (.int 4))) (consA (vlO (cE (.int 6))) (consA (vlO (cE (.int 8))) (consA (vlO (cE (.int 10))) nilA))))))))
noncomputable abbrev lp5 : CS → Fl := (ifS (notT (tsE (calD (consA (vlO (lstE (consA (vlO (calD (consA (vlO (rdS 4)) (consA (vlO (cE (.int 12))) (consA (vlO (cE (.int 12))) nilA))) [false, false, false] g_sure_on)) (consA (vlO (calD (consA (vlO (rdS 4)) (consA (vlO (cE (.int 12))) (consA (vlO (cE (.int 13))) nilA))) [false, false, false] g_sure_on)) (consA (vlO (calD (consA (vlO (tupE nilA)) (consA (vlO (cE (.int 40))) (consA (vlO (cE (.int 77))) nilA))) [false, false, false] g_sure_on)) nilA))))) (consA (vlO (lstE (consA (vlO (cE (.bl true))) (consA (vlO (cE (.bl false))) (consA (vlO (cE (.bl false))) nilA))))) nilA)) [false, false] g__law_is))) (rtS (cE (.bl false))) nxS)
noncomputable abbrev lp6 : CS → Fl := (stS 2 (lstE (consA (vlO (calD (consA (vlO (tupE (consA (vlO (cE (.int 0))) nilA))) (consA (vlO (cE (.int 1))) (consA (vlO (cE (.int 0))) (consA (vlO (cE (.int 2))) nilA)))) [false, false, false, false] g_fitting_rules)) (consA (vlO (calD (consA (vlO (tupE (consA (vlO (cE (.int 0))) (consA (vlO (cE (.int 1))) nilA)))) (consA (vlO (cE (.int 3))) (consA (vlO (cE (.int 0))) (consA (vlO (cE (.int 1))) nilA)))) [false, false, false, false] g_fitting_rules)) (consA (vlO (calD (consA (vlO (tupE (consA (vlO (cE (.int 0))) (consA (vlO (cE (.int 2))) nilA)))) (consA (vlO (cE (.int 4))) (consA (vlO (cE (.int 6))) nilA))) [false, false, false] g_sure_on)) (consA (vlO (calD (consA (vlO (tupE (consA (vlO (cE (.int 0))) nilA))) (consA (vlO (cE (.int 1))) (consA (vlO (cE (.int 1))) nilA))) [false, false, false] g_sure_on)) nilA))))))
noncomputable abbrev lp7 : CS → Fl := (ifS (orT (notT (tsE (calD (consA (vlO (rdS 2)) (consA (vlO (lstE (consA (vlO (cE (.int 2))) (consA (vlO (cE (.int 0))) (consA (vlO (cE .non)) (consA (vlO (cE .non)) nilA)))))) nilA)) [false, false] g__law_is))) (notT (tsE (calD (consA (vlO (calD (consA (vlO (caE (consA (vlO (cE (.int 0))) (consA (vlO (cE (.int 40))) (consA (vlO (cE (.int 13))) nilA))) tupRg3)) (consA (vlO (cE (.int 40))) (consA (vlO (cE (.int 3))) nilA))) [false, false, false] g_sure_on)) (consA (vlO (cE (.str "none"))) nilA)) [false, false] g__law_is)))) (rtS (cE (.bl false))) nxS)
noncomputable abbrev lp8 : CS → Fl := (rtS (caE (consA (vlO (lcE [5] (caE (consA (vlO (cE (.int 6))) nilA) rng1) (nmG 5) yesT (calD (consA (slO 1) nilA) [true] g__law_is_right))) nilA) allBD))

def fl (s h : D) (x2 x3 x4 : Option D) : CS := [some (.fz s), some (.ow h), x2.map .fz, x3.map .fz, x4.map .fz, none]
theorem least1 : least [0, 2, 4] 6 = some (0, [some true, some false]) := by decide +kernel
theorem least2 : least [1] 5 = some (2, [some false, some true, some false]) := by decide +kernel
theorem c_least1 : g_least_rule [.tup [.int 0, .int 2, .int 4], .int 6] = .ok (.fz (insR [] [1, 0])) [.non, .non] :=
  e_least [0, 2, 4] 6 (by omega) (by omega) (by decide) (by decide) (by decide) least1
theorem c_least2 : g_least_rule [.tup [.int 1], .int 5] = .ok (.fz (insR [0, 1] [0])) [.non, .non] :=
  e_least [1] 5 (by omega) (by omega) (by decide) (by decide) (by decide) least2
theorem sure_true {ws : Fd} (h : ws ≠ [] ∧ ∀ x ∈ ws, x = some true) : sureV ws = .bl true := by unfold sureV; rw [if_neg h.1, if_pos h.2]
theorem sure_false {ws : Fd} (h : ws ≠ [] ∧ (¬ ∀ x ∈ ws, x = some true) ∧ ∀ x ∈ ws, x = some false) : sureV ws = .bl false := by unfold sureV; rw [if_neg h.1, if_neg h.2.1, if_pos h.2.2]
theorem sure_non {ws : Fd} (h : ws ≠ [] ∧ (¬ ∀ x ∈ ws, x = some true) ∧ ¬ ∀ x ∈ ws, x = some false) : sureV ws = .non := by unfold sureV; rw [if_neg h.1, if_neg h.2.1, if_neg h.2.2]
theorem sure_none {ws : Fd} (h : ws = []) : sureV ws = .str "none" := by unfold sureV; rw [if_pos h]
theorem c_sure1 : g_sure_on [.tup [.int 0, .int 2, .int 4, .int 6, .int 8, .int 10], .int 12, .int 12] = .ok (.fz (.bl true)) [.non, .non, .non] := by
  rw [← sure_true (ws := words [0, 2, 4, 6, 8, 10] 12 12) (by decide +kernel)]
  exact e_sure_on [0, 2, 4, 6, 8, 10] 12 12 (by omega) (by omega) (by decide) (by decide) (by decide) (by omega)
theorem c_sure2 : g_sure_on [.tup [.int 0, .int 2, .int 4, .int 6, .int 8, .int 10], .int 12, .int 13] = .ok (.fz (.bl false)) [.non, .non, .non] := by
  rw [← sure_false (ws := words [0, 2, 4, 6, 8, 10] 12 13) (by decide +kernel)]
  exact e_sure_on [0, 2, 4, 6, 8, 10] 12 13 (by omega) (by omega) (by decide) (by decide) (by decide) (by omega)
theorem c_sure3 : g_sure_on [.tup [], .int 40, .int 77] = .ok (.fz (.bl false)) [.non, .non, .non] := by
  rw [← sure_false (ws := words [] 40 77) (by decide +kernel)]
  exact e_sure_on [] 40 77 (by omega) (by omega) (by decide) (by decide) (by decide) (by omega)
theorem c_sure4 : g_sure_on [.tup [.int 0, .int 2], .int 4, .int 6] = .ok (.fz .non) [.non, .non, .non] := by
  rw [← sure_non (ws := words [0, 2] 4 6) (by decide +kernel)]
  exact e_sure_on [0, 2] 4 6 (by omega) (by omega) (by decide) (by decide) (by decide) (by omega)
theorem c_sure5 : g_sure_on [.tup [.int 0], .int 1, .int 1] = .ok (.fz .non) [.non, .non, .non] := by
  rw [← sure_non (ws := words [0] 1 1) (by decide +kernel)]
  exact e_sure_on [0] 1 1 (by omega) (by omega) (by decide) (by decide) (by decide) (by omega)
theorem c_sure6 : g_sure_on [.tup [.int 0, .int 13, .int 26, .int 39], .int 40, .int 3] = .ok (.fz (.str "none")) [.non, .non, .non] := by
  rw [← sure_none (ws := words [0, 13, 26, 39] 40 3) (by decide +kernel)]
  exact e_sure_on [0, 13, 26, 39] 40 3 (by omega) (by omega) (by decide) (by decide) (by decide) (by omega)
theorem c_fit1 : g_fitting_rules [.tup [.int 0], .int 1, .int 0, .int 2] = .ok (.fz (.int 2)) [.non, .non, .non, .non] := by
  have : fitN (told [0] 1 0 2) = 2 := by decide +kernel
  have e := e_fit [0] 1 0 2 (by omega) (by omega) (by omega) (by omega) (by omega) (by decide) (by decide) (by decide)
  rw [this] at e
  exact e
theorem c_fit2 : g_fitting_rules [.tup [.int 0, .int 1], .int 3, .int 0, .int 1] = .ok (.fz (.int 0)) [.non, .non, .non, .non] := by
  have : fitN (told [0, 1] 3 0 1) = 0 := by decide +kernel
  have e := e_fit [0, 1] 3 0 1 (by omega) (by omega) (by omega) (by omega) (by omega) (by decide) (by decide) (by decide)
  rw [this] at e
  exact e
theorem c_rg : tupRg3 [.int 0, .int 40, .int 13] = some (.tup [.int 0, .int 13, .int 26, .int 39]) := by
  have : rngOk 0 40 13 ∧ (Builtin.Range.rangeSize 0 40 13).toNat ≤ 2 ^ 24 := by decide +kernel
  show (if rngOk 0 40 13 ∧ (Builtin.Range.rangeSize 0 40 13).toNat ≤ 2 ^ 24 then some (D.tup (intsFrom 0 13 (Builtin.Range.rangeSize 0 40 13).toNat)) else none) = _
  rw [if_pos this]
  have h : (Builtin.Range.rangeSize 0 40 13).toNat = 4 := by decide +kernel
  rw [h]; rfl
/-- small data -/
theorem sm (i : Int) (h : i.natAbs ≤ 9) : i.natAbs < big := Nat.lt_of_le_of_lt h (by decide +kernel)
section
variable {s h : D}
theorem l3 : lp3 (fl s h (some (insR [] [1, 0])) (some (insR [0, 1] [0])) none) = .nx (fl s h (some (insR [] [1, 0])) (some (insR [0, 1] [0])) none) := by
  have f : Fit (.lst [.tup [], .tup [.int 1, .int 0], .tup [.int 0, .int 1], .tup [.int 0]]) _ _ := .lst (.cons (.tup .nil) (.cons (.tup (.cons (.int (sm 1 (by decide))) (.cons (.int (sm 0 (by decide))) .nil))) (.cons (.tup (.cons (.int (sm 0 (by decide))) (.cons (.int (sm 1 (by decide))) .nil))) (.cons (.tup (.cons (.int (sm 0 (by decide))) .nil)) .nil))))
  have e := e_law_is f (by decide) (by decide)
  unfold lp3 fl insR
  simp -implicitDefEqProofs [e, lk1, lk2, sizeLine_eq]
theorem l5 {x2 x3 : Option D} : lp5 (fl s h x2 x3 (some (.tup [.int 0, .int 2, .int 4, .int 6, .int 8, .int 10]))) = .nx (fl s h x2 x3 (some (.tup [.int 0, .int 2, .int 4, .int 6, .int 8, .int 10]))) := by
  have f : Fit (.lst [.bl true, .bl false, .bl false]) _ _ := .lst (.cons (.bl _) (.cons (.bl _) (.cons (.bl _) .nil)))
  have e := e_law_is f (by decide) (by decide)
  unfold lp5 fl
  simp -implicitDefEqProofs [e, c_sure1, c_sure2, c_sure3, sizeLine_eq]
theorem l7 {x3 x4 : Option D} : lp7 (fl s h (some (.lst [.int 2, .int 0, .non, .non])) x3 x4) = .nx (fl s h (some (.lst [.int 2, .int 0, .non, .non])) x3 x4) := by
  have f : Fit (.lst [.int 2, .int 0, .non, .non]) _ _ := .lst (.cons (.int (sm 2 (by decide))) (.cons (.int (sm 0 (by decide))) (.cons .non (.cons .non .nil))))
  have e := e_law_is f (by decide) (by decide)
  have f2 : Fit (.str "none") _ _ := .str (by decide +kernel)
  have e2 := e_law_is f2 (by decide +kernel) (by decide)
  unfold lp7 fl
  simp -implicitDefEqProofs [e, e2, c_sure6, c_rg, sizeLine_eq]
theorem loop_8 {x2 x3 x4 : Option D} : ∀ (xs acc : List D) (h : D), Hand h → acc.length + xs.length ≤ 1000 → ∃ h', lcL [5] (nmG 5) yesT (calD (consA (slO 1) nilA) [true] g__law_is_right) xs acc (fl s h x2 x3 x4) = .ok (acc ++ xs.map fun _ => D.bl true) (fl s h' x2 x3 x4)
  | [], acc, h, _, _ => ⟨h, by conv => lhs; unfold lcL
                               simp⟩
  | x :: xs, acc, h, hh, hz => by
    simp only [List.length_cons] at hz
    obtain ⟨h1, e, hh1⟩ := e_right hh
    have t : turnC [5] (nmG 5) yesT (calD (consA (slO 1) nilA) [true] g__law_is_right) x (fl s h x2 x3 x4) = .ok (some (.bl true)) (fl s h1 x2 x3 x4) := by
      unfold fl
      simp -implicitDefEqProofs [turnC_e, e]
    obtain ⟨h2, e2⟩ := loop_8 xs (acc ++ [.bl true]) h1 hh1 (by simp; omega)
    exact ⟨h2, by rw [lcL_cons t (by rw [sizeLine_eq]; omega), e2]; simp⟩
end
theorem law_true (ns : List Int) (hl : ns.length ≤ 63) : ∃ outs, g_law [.scr (ns.map D.int)] = .ok (.fz (.bl true)) outs := by
  obtain ⟨h, e0, hh⟩ := e_hand ns hl
  generalize D.scr (ns.map D.int) = s at *
  have a0 : lp0 [some (.fz s), none, none, none, none, none] = .nx (fl s h none none none) := by
    unfold lp0 fl
    simp -implicitDefEqProofs [e0]
  have a1 : lp1 (fl s h none none none) = .nx (fl s h (some (insR [] [1, 0])) none none) := by
    unfold lp1 fl
    simp -implicitDefEqProofs [c_least1, sizeLine_eq]
  have a2 : lp2 (fl s h (some (insR [] [1, 0])) none none) = .nx (fl s h (some (insR [] [1, 0])) (some (insR [0, 1] [0])) none) := by
    unfold lp2 fl
    simp -implicitDefEqProofs [c_least2, sizeLine_eq]
  have a3 := l3 (s := s) (h := h)
  have a4 : lp4 (fl s h (some (insR [] [1, 0])) (some (insR [0, 1] [0])) none) = .nx (fl s h (some (insR [] [1, 0])) (some (insR [0, 1] [0])) (some (.tup [.int 0, .int 2, .int 4, .int 6, .int 8, .int 10]))) := by
    unfold lp4 fl
    simp -implicitDefEqProofs [sizeLine_eq]
  have a5 := l5 (s := s) (h := h) (x2 := some (insR [] [1, 0])) (x3 := some (insR [0, 1] [0]))
  have a6 : lp6 (fl s h (some (insR [] [1, 0])) (some (insR [0, 1] [0])) (some (.tup [.int 0, .int 2, .int 4, .int 6, .int 8, .int 10]))) = .nx (fl s h (some (.lst [.int 2, .int 0, .non, .non])) (some (insR [0, 1] [0])) (some (.tup [.int 0, .int 2, .int 4, .int 6, .int 8, .int 10]))) := by
    unfold lp6 fl
    simp -implicitDefEqProofs [c_fit1, c_fit2, c_sure4, c_sure5, sizeLine_eq]
  have a7 := l7 (s := s) (h := h) (x3 := some (insR [0, 1] [0])) (x4 := some (.tup [.int 0, .int 2, .int 4, .int 6, .int 8, .int 10]))
  generalize some (insR [0, 1] [0]) = x3 at *
  generalize some (D.tup [.int 0, .int 2, .int 4, .int 6, .int 8, .int 10]) = x4 at *
  generalize some (D.lst [.int 2, .int 0, .non, .non]) = x2 at *
  obtain ⟨h', e8⟩ := loop_8 (s := s) (x2 := x2) (x3 := x3) (x4 := x4) ((List.range 6).map fun (i : Nat) => D.int (i : Int)) [] h hh (by simp)
  have er := rng1_n 6 6 rfl (by omega)
  have hfb : fb_law = seqS lp0 (seqS lp1 (seqS lp2 (seqS lp3 (seqS lp4 (seqS lp5 (seqS lp6 (seqS lp7 lp8))))))) := rfl
  have st : startS 6 [false] [s] = [some (.fz s), none, none, none, none, none] := rfl
  refine ⟨[.non], ?_⟩
  unfold g_law
  rw [runF_e, st, hfb, seq_nx a0, seq_nx a1, seq_nx a2, seq_nx a3, seq_nx a4, seq_nx a5, seq_nx a6, seq_nx a7]
  have al : allBD [.lst (((List.range 6).map fun (i : Nat) => D.int (i : Int)).map fun _ => D.bl true)] = some (.bl true) := by
    exact (blD_map (fun bs => bs.all id) (fun _ : D => true) _).trans (by simp)
  generalize (List.range 6).map (fun (i : Nat) => D.int (i : Int)) = L at *
  generalize L.map (fun _ => D.bl true) = M at *
  unfold lp8
  unfold fl at *
  simp -implicitDefEqProofs at e8
  simp -implicitDefEqProofs [er, e8, al]
end W84

abbrev W84.loose : List PySem.Str := (["__name__", "OwedError", "BadRule", "NoDay", "NoNumber", "NoDays", "is_integer", "is_number", "is_within", "is_ascending_days", "check_number", "check_day", "MOST_LEAD", "MOST_ROUND", "are_bits", "Rule", "bit_of", "has", "MOST_SEEN", "MOST_TRIED", "check_seen", "place_of_day", "told_places", "rule_of_places", "least_rule", "fitting_rules", "sure_on", "_law_hand", "_law_draw", "_law_some"] : List PySem.Str) ++ (["_law_bits", "_law_rule_bits", "_law_is", "_law_bit", "_law_bits_of", "_law_least", "_law_sure", "_law_power", "_law_is_right"] : List PySem.Str)
namespace W84
open PySem PySem.Spec L2 Cl
abbrev R : PySem.W.OpenRow := PySem.W.OpenLaw.row PySem.Challenge.rw_owedagain_k84_whole_rules_read_off_days
abbrev hk : PySem.W.Hook := He.hookD 5 fa fn
def ob (s : PySem.W.SharedT) : He.AlD := He.obsDG 5 fa fn (HandSHeadRun.getT s)
theorem ob_eq (s : PySem.W.SharedT) : ob s = hk.obs s.abs := He.obsDG_eq (HandSHeadRun.getT_eq s)
theorem run (w : World) : HandSHeadRun.RunEq R (PySem.W.view R.prog [43]) hk ob 4000 loose w := by
  intro os
  kernel_rfl
end W84
open PySem PySem.W PySem.Calls PyProof.Rows
theorem PySem.Challenge.cw_owedagain_k84_whole_rules_read_off_days_holds : PySem.Challenge.rw_owedagain_k84_whole_rules_read_off_days.Holds := by
  w_on; o_law
  refine HandSHeadRun.head_any (r := OpenLaw.row PySem.Challenge.rw_owedagain_k84_whole_rules_read_off_days) (q := view (OpenLaw.row PySem.Challenge.rw_owedagain_k84_whole_rules_read_off_days).prog [43]) (H := W84.hk) (ob := W84.ob) (M := 4000) (loose := W84.loose)
    (d := HandSHeadRun.topDef (OpenLaw.row PySem.Challenge.rw_owedagain_k84_whole_rules_read_off_days).prog 43) (kwd := []) W84.ob_eq
    (by kernel_rfl) (fun s => by kernel_rfl) W84.run (by kernel_rfl) (by kernel_rfl) (by kernel_rfl) (by rfl) (by first | assumption | decide +kernel) (by decide +kernel) ⟨rfl, rfl, rfl, rfl, rfl, by decide +kernel⟩ ?hw ?hc
  case hw => w_witness2
  case hc =>
    exact Cl.end_of (l := PySem.Challenge.rw_owedagain_k84_whole_rules_read_off_days) (n := 63) (k := W84.lawK) (x := "script") (y := "law") rfl (by decide) (by kernel_rfl) ⟨⟨rfl, by decide, by decide⟩, rfl⟩ (by kernel_rfl)
      (fun w K mg h c X G => ⟨He.glo_ok X G (W84.glo_law c), W84.got_law c⟩) W84.law_true

