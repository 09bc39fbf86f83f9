import PyProof.Rows.All
import Wide.All
import OpenK.AllK
import Wide.FinOn
import HandS.Base
import HandS.Call
import HandS.List
import HandS.Comp
import HandS.Ends
import HandS.Dict
import HandS.Iter
import HandS.Text
import HandS.Words
import HandS.Slots
import HandS.SlotsOwn
import HandS.TupAny
import HandS.TupLe
import HandS.Deep
import HandS.IsInst
import HandS.Defaults
import HandS.Exc
import KE.SortData
import PyProof.TupleOfSeq
import PyProof.ReprRoads
import HandS.Style
import KE.GoesEnum
import HandS.Star
import HandS.Flow
import PyProof.RulesMatch
import PyProof.RulesMatchSeq
import PyProof.Rows.MatchSeqLen
import PyProof.CollectIter
import PyProof.RulesAssignMore
import PyProof.Comp
import HandS.ExcValue
import HandS.TupMul
import KE.KStateDown
import HandS.More
import HandS.WordsExc
import HandS.Head0
import HandS.Head1
import HandS.Head2
import HandS.HeadEnd
import HandS.HeadHook1
import HandS.HeadHook2
import KE.SortLaws
import PyProof.ReprLen
import PySem.Challenge.RW_walkcopy_k35_whole_texts
set_option Elab.async false
set_option linter.all false
set_option maxRecDepth 100000
set_option maxHeartbeats 4000000
namespace DL
open PySem PySem.Spec PyProof.Rows L2

/-! ### data -/
inductive D where
  | non
  | bl (b : Bool)
  | int (i : Int)
  | str (x : Str)
  | tup (l : List D)
  | lst (l : List D)
  | ins (c : Str) (fs : List D)
  | fn (x : Str)
  | dr
  | scr (l : List D)
deriving Inhabited

/-- what is fixed through a law: the written part, the module's names; the draws' dict stands at am -/
structure Wd where
  K : PySem.W.Frag
  mg : Str → Option Value
  am : Addr

def Ext (H H' : Hp) : Prop := ∀ a o, H a = some o → H' a = some o
theorem Ext.refl (H : Hp) : Ext H H := fun _ _ e => e
theorem Ext.trans {H H1 H2 : Hp} (a : Ext H H1) (b : Ext H1 H2) : Ext H H2 := fun x o e => b x o (a x o e)
theorem Ext.new {H : Hp} {p : Addr} {o : HO} (h : H p = none) : Ext H (upd H p o) := fun a u e => by
  rw [upd_ne (ne_of_none e h)]; exact e
theorem Ext.rd {H H' : Hp} {a : Addr} {u : HO} (e : Ext H H') (h : Rd H a u) : Rd H' a u := by
  rcases h with h | ⟨o, h⟩
  · exact .inl (e _ _ h)
  · exact .inr ⟨o, e _ _ h⟩
theorem Ext.l {K : PySem.W.Frag} {H H' : Hp} {a : Addr} {xs : List V} (e : Ext H H') (h : SqL K H a xs) : SqL K H' a xs := by
  rcases h with h | h
  · exact .inl (e.rd h)
  · exact .inr h
theorem Ext.t {K : PySem.W.Frag} {H H' : Hp} {a : Addr} {xs : List V} (e : Ext H H') (h : SqT K H a xs) : SqT K H' a xs := by
  rcases h with h | h
  · exact .inl (e.rd h)
  · exact .inr h
theorem Ext.free {H H' : Hp} {p : Addr} (e : Ext H H') (h : H' p = none) : H p = none := by
  cases q : H p with
  | none => rfl
  | some o => rw [e _ _ q] at h; cases h

/-- an instance with slots whose variables all hold something -/
def InsAt (H : Hp) (x C : Addr) (vs : List V) : Prop := ∃ dx, H x = some (SlX.SlO x C dx (vs.map some)) ∧ H dx = some (.xd [])
theorem Ext.ins {H H' : Hp} {x C : Addr} {vs : List V} (e : Ext H H') (h : InsAt H x C vs) : InsAt H' x C vs := by
  obtain ⟨dx, h1, h2⟩ := h
  exact ⟨dx, e _ _ h1, e _ _ h2⟩
theorem InsAt.slt {H : Hp} {x C : Addr} {vs : List V} (h : InsAt H x C vs) : ∃ dx, SlX.Slt H x C dx (vs.map some) := by
  obtain ⟨dx, h1, h2⟩ := h
  exact ⟨dx, .inr ⟨h1, h2⟩⟩

/- a value bears a datum -/
mutual
inductive Is (W : Wd) (H : Hp) : V → D → Prop
  | non : Is W H .non .non
  | bl (b : Bool) : Is W H (.bl b) (.bl b)
  | int (i : Int) : Is W H (.int i) (.int i)
  | str (x : Str) : Is W H (.str x) (.str x)
  | tup {a : Addr} {vs : List V} {ds : List D} (h : SqT W.K H a vs) (t : IsL W H vs ds) : Is W H (.ref a) (.tup ds)
  | lst {a : Addr} {vs : List V} {ds : List D} (h : H a = some (.lst vs)) (t : IsL W H vs ds) : Is W H (.ref a) (.lst ds)
  | ins {c : Str} {C x : Addr} {vs : List V} {ds : List D} (g : W.mg c = some (.ref C)) (h : InsAt H x C vs) (t : IsL W H vs ds) : Is W H (.ref x) (.ins c ds)
  | fn {x : Str} {f : Addr} (g : W.mg x = some (.ref f)) : Is W H (.ref f) (.fn x)
  | dr : Is W H (.ref W.am) .dr
  | scr {a : Addr} {vs : List V} {ds : List D} (h : SqL W.K H a vs) (t : IsL W H vs ds) : Is W H (.ref a) (.scr ds)
inductive IsL (W : Wd) (H : Hp) : List V → List D → Prop
  | nil : IsL W H [] []
  | cons {v : V} {d : D} {vs : List V} {ds : List D} (h : Is W H v d) (t : IsL W H vs ds) : IsL W H (v :: vs) (d :: ds)
end

section
variable {W : Wd} {H H' : Hp}
mutual
theorem Is.mono (e : Ext H H') : ∀ {v : V} {d : D}, Is W H v d → Is W H' v d
  | _, _, .non => .non
  | _, _, .bl b => .bl b
  | _, _, .int i => .int i
  | _, _, .str x => .str x
  | _, _, .tup h t => .tup (e.t h) (IsL.mono e t)
  | _, _, .lst h t => .lst (e _ _ h) (IsL.mono e t)
  | _, _, .ins g h t => .ins g (e.ins h) (IsL.mono e t)
  | _, _, .fn g => .fn g
  | _, _, .dr => .dr
  | _, _, .scr h t => .scr (e.l h) (IsL.mono e t)
theorem IsL.mono (e : Ext H H') : ∀ {vs : List V} {ds : List D}, IsL W H vs ds → IsL W H' vs ds
  | _, _, .nil => .nil
  | _, _, .cons h t => .cons (Is.mono e h) (IsL.mono e t)
end
theorem IsL.length : ∀ {vs : List V} {ds : List D}, IsL W H vs ds → vs.length = ds.length
  | _, _, .nil => rfl
  | _, _, .cons _ t => by simp [IsL.length t]
theorem IsL.append : ∀ {vs ws : List V} {ds es : List D}, IsL W H vs ds → IsL W H ws es → IsL W H (vs ++ ws) (ds ++ es)
  | _, _, _, _, .nil, s => s
  | _, _, _, _, .cons h t, s => .cons h (IsL.append t s)
theorem IsL.get : ∀ {vs : List V} {ds : List D} {i : Nat} {d : D}, IsL W H vs ds → ds[i]? = some d → ∃ v, vs[i]? = some v ∧ Is W H v d
  | _, _, _, _, .nil, e => by simp at e
  | _, _, 0, _, .cons h _, e => by simp at e; subst e; exact ⟨_, rfl, h⟩
  | _, _, i + 1, d, .cons _ t, e => by
    obtain ⟨v, h1, h2⟩ := IsL.get (i := i) (d := d) t (by simpa using e)
    exact ⟨v, by simpa using h1, h2⟩
theorem IsL.take : ∀ {vs : List V} {ds : List D} (n : Nat), IsL W H vs ds → IsL W H (vs.take n) (ds.take n)
  | _, _, 0, _ => .nil
  | _, _, _ + 1, .nil => .nil
  | _, _, n + 1, .cons h t => .cons h (IsL.take n t)
theorem IsL.drop : ∀ {vs : List V} {ds : List D} (n : Nat), IsL W H vs ds → IsL W H (vs.drop n) (ds.drop n)
  | _, _, 0, h => h
  | _, _, _ + 1, .nil => .nil
  | _, _, n + 1, .cons _ t => IsL.drop n t
theorem IsL.reverse : ∀ {vs : List V} {ds : List D}, IsL W H vs ds → IsL W H vs.reverse ds.reverse
  | _, _, .nil => .nil
  | _, _, .cons h t => by simpa using (IsL.reverse t).append (.cons h .nil)
theorem IsL.bools : ∀ {vs : List V} {bs : List Bool}, IsL W H vs (bs.map D.bl) → vs = bs.map V.bl
  | _, [], h => by cases h; rfl
  | _, b :: bs, h => by
    cases h with
    | cons h t => cases h; rw [IsL.bools t]; rfl
theorem IsL.strs : ∀ {vs : List V} {bs : List Str}, IsL W H vs (bs.map D.str) → vs = bs.map V.str
  | _, [], h => by cases h; rfl
  | _, b :: bs, h => by
    cases h with
    | cons h t => cases h; rw [IsL.strs t]; rfl
theorem IsL.ints : ∀ {vs : List V} {bs : List Int}, IsL W H vs (bs.map D.int) → vs = bs.map V.int
  | _, [], h => by cases h; rfl
  | _, b :: bs, h => by
    cases h with
    | cons h t => cases h; rw [IsL.ints t]; rfl
theorem IsL.ofStrs : ∀ (bs : List Str), IsL W H (bs.map V.str) (bs.map D.str)
  | [] => .nil
  | b :: bs => .cons (.str b) (IsL.ofStrs bs)
end

/-! ### the state of a def: slots; the draws -/
structure Ora where
  left : Int
  seed : Int
  spot : Int
  cells : List Int
/-- an object of one's own, that may be changed: a list; a dict -/
inductive OO where
  | lst (l : List D)
  | dct (l : List (D × D))
deriving Inhabited
inductive Slot where
  | no
  | im (d : D)
  | ow (o : OO)
deriving Inhabited
structure Env where
  sl : List Slot
  ora : Option Ora
/-- the slot's own list stands at a -/
def OwnAt (ρ : Env) (σ : L2.St) (i : Nat) (a : Addr) : Prop := (∃ l, ρ.sl[i]? = some (.ow l)) ∧ σ[i]? = some (some (.ref a))
/-- what may be changed: the own lists; the draws' dict -/
def Own (W : Wd) (ρ : Env) (σ : L2.St) (a : Addr) : Prop := (∃ i, OwnAt ρ σ i a) ∨ (a = W.am ∧ ∃ o, ρ.ora = some o)
def oraKV (o : Ora) (c : Addr) : List (Key × V) := [(.inr "left", .int o.left), (.inr "seed", .int o.seed), (.inr "cells", .ref c), (.inr "spot", .int o.spot)]
def OraOk (W : Wd) (F H : Hp) (o : Ora) : Prop := F W.am = none ∧ ∃ c, c ≠ W.am ∧ H W.am = some (.dK (oraKV o c)) ∧ F c = some (.lst (o.cells.map V.int))
/-- a key of a dict -/
def keyD : D → Option Key
  | .int i => some (.inl i)
  | .str x => some (.inr x)
  | _ => none
/-- a dict's pairs: keys ints and texts -/
inductive IsKV (W : Wd) (F : Hp) : List (Key × V) → List (D × D) → Prop
  | nil : IsKV W F [] []
  | cons {k : Key} {kd : D} {v : V} {d : D} {l : List (Key × V)} {m : List (D × D)} (hk : keyD kd = some k) (h : Is W F v d) (t : IsKV W F l m) : IsKV W F ((k, v) :: l) ((kd, d) :: m)
theorem IsKV.mono {W : Wd} {F F' : Hp} (e : Ext F F') : ∀ {l : List (Key × V)} {m : List (D × D)}, IsKV W F l m → IsKV W F' l m
  | _, _, .nil => .nil
  | _, _, .cons hk h t => .cons hk (h.mono e) (IsKV.mono e t)
/-- what stands at an object of one's own -/
inductive OOk (W : Wd) (F : Hp) (a : Addr) : HO → OO → Prop
  | lst {vs : List V} {l : List D} (i : IsL W F vs l) : OOk W F a (.lst vs) (.lst l)
  | dct {kvs : List (Key × V)} {l : List (D × D)} (i : IsKV W F kvs l) : OOk W F a (.dK kvs) (.dct l)
theorem OOk.mono {W : Wd} {F F' : Hp} {a : Addr} {h : HO} {o : OO} (e : Ext F F') (k : OOk W F a h o) : OOk W F' a h o := by
  cases k with
  | lst i => exact .lst (i.mono e)
  | dct i => exact .dct (i.mono e)
def SlotOk (W : Wd) (F H : Hp) (v : Option (Option V)) : Slot → Prop
  | .no => True
  | .im d => ∃ x, v = some (some x) ∧ Is W F x d
  | .ow o => ∃ a h, v = some (some (.ref a)) ∧ F a = none ∧ H a = some h ∧ OOk W F a h o
structure Rp (W : Wd) (ρ : Env) (σ : L2.St) (F H : Hp) : Prop where
  ext : Ext F H
  len : ρ.sl.length = σ.length
  slot : ∀ (i : Nat) s, ρ.sl[i]? = some s → SlotOk W F H σ[i]? s
  apart : ∀ i j a, OwnAt ρ σ i a → OwnAt ρ σ j a → i = j
  ora : ∀ o, ρ.ora = some o → OraOk W F H o
  noam : ∀ i, ¬ ((∃ o, ρ.ora = some o) ∧ OwnAt ρ σ i W.am)
/-- from F, H to F', H': what is known stays, what is not own stays, what is known newly was not there (or was own) -/
structure Go (own : Addr → Prop) (F H F' H' : Hp) : Prop where
  ext : Ext F F'
  keep : ∀ a x, H a = some x → ¬ own a → H' a = some x
  new : ∀ a x, F' a = some x → F a = some x ∨ H a = none ∨ own a
theorem Go.refl (own : Addr → Prop) (F H : Hp) : Go own F H F H := ⟨Ext.refl F, fun _ _ e _ => e, fun _ _ e => .inl e⟩
theorem Go.trans {own own1 : Addr → Prop} {F H F1 H1 F2 H2 : Hp} (a : Go own F H F1 H1) (b : Go own1 F1 H1 F2 H2) (h : ∀ x, own1 x → own x ∨ H x = none) : Go own F H F2 H2 := by
  refine ⟨a.ext.trans b.ext, fun x o e n => b.keep x o (a.keep x o e n) fun q => ?_, fun x o e => ?_⟩
  · rcases h x q with z | z
    · exact n z
    · rw [z] at e; cases e
  · rcases b.new x o e with q | q | q
    · exact a.new x o q
    · by_cases z : own x
      · exact .inr (.inr z)
      · refine .inr (.inl ?_)
        cases w : H x with
        | none => rfl
        | some u => rw [a.keep x u w z] at q; cases q
    · rcases h x q with z | z
      · exact .inr (.inr z)
      · exact .inr (.inl z)
theorem Go.weak {own own1 : Addr → Prop} {F H F' H' : Hp} (a : Go own F H F' H') (h : ∀ x, own x → own1 x) : Go own1 F H F' H' :=
  ⟨a.ext, fun x o e n => a.keep x o e fun q => n (h x q), fun x o e => (a.new x o e).imp id fun q => q.imp id (h x)⟩
/-- nothing changed but new objects -/
abbrev Nw := Go fun _ => False
theorem Nw.of {F H : Hp} {p : Addr} {o : HO} (e : Ext F H) (h : H p = none) : Nw F H (upd F p o) (upd H p o) :=
  ⟨Ext.new (e.free h), fun a x q _ => Ext.new h a x q, fun a x q => by
    by_cases z : a = p
    · subst z; exact .inr (.inl h)
    · rw [upd_ne z] at q; exact .inl q⟩
theorem Ext.both {F H : Hp} {p : Addr} {o : HO} (e : Ext F H) : Ext (upd F p o) (upd H p o) := fun a x q => by
  by_cases z : a = p
  · subst z; rw [upd_same] at q ⊢; exact q
  · rw [upd_ne z] at q ⊢; exact e a x q
section
variable {W : Wd} {ρ ρ' : Env} {σ : L2.St} {F H F' H' : Hp}
theorem SlotOk.nw {v : Option (Option V)} {s : Slot} (g : Nw F H F' H') (e : Ext F' H') (h : SlotOk W F H v s) : SlotOk W F' H' v s := by
  cases s with
  | no => trivial
  | im d => obtain ⟨x, q, i⟩ := h; exact ⟨x, q, i.mono g.ext⟩
  | ow l =>
    obtain ⟨a, vs, q, n, ha, i⟩ := h
    refine ⟨a, vs, q, ?_, g.keep a _ ha (fun z => z), i.mono g.ext⟩
    cases w : F' a with
    | none => rfl
    | some u =>
      rcases g.new a u w with z | z | z
      · rw [n] at z; cases z
      · rw [ha] at z; cases z
      · exact z.elim
theorem OraOk.nw {o : Ora} (g : Nw F H F' H') (h : OraOk W F H o) : OraOk W F' H' o := by
  obtain ⟨n, c, hc, ha, hs⟩ := h
  refine ⟨?_, c, hc, g.keep _ _ ha fun z => z, g.ext _ _ hs⟩
  cases w : F' W.am with
  | none => rfl
  | some u =>
    rcases g.new _ u w with z | z | z
    · rw [n] at z; cases z
    · rw [ha] at z; cases z
    · exact z.elim
theorem Rp.nw (r : Rp W ρ σ F H) (g : Nw F H F' H') (e : Ext F' H') : Rp W ρ σ F' H' :=
  ⟨e, r.len, fun i s q => (r.slot i s q).nw g e, r.apart, fun o q => (r.ora o q).nw g, r.noam⟩
end

/-! ### from state to state -/
structure Tr (W : Wd) (ρ : Env) (σ : L2.St) (F H : Hp) (ρ' : Env) (σ' : L2.St) (F' H' : Hp) : Prop where
  go : Go (Own W ρ σ) F H F' H'
  rp : Rp W ρ' σ' F' H'
  own : ∀ a, Own W ρ' σ' a → Own W ρ σ a ∨ H a = none
section
variable {W : Wd} {ρ ρ1 ρ2 : Env} {σ σ1 σ2 : L2.St} {F H F1 H1 F2 H2 : Hp}
theorem Tr.refl (r : Rp W ρ σ F H) : Tr W ρ σ F H ρ σ F H := ⟨Go.refl _ _ _, r, fun _ h => .inl h⟩
theorem Tr.trans (a : Tr W ρ σ F H ρ1 σ1 F1 H1) (b : Tr W ρ1 σ1 F1 H1 ρ2 σ2 F2 H2) : Tr W ρ σ F H ρ2 σ2 F2 H2 := by
  refine ⟨a.go.trans b.go a.own, b.rp, fun x h => ?_⟩
  rcases b.own x h with z | z
  · exact a.own x z
  · by_cases w : Own W ρ σ x
    · exact .inl w
    · refine .inr ?_
      cases q : H x with
      | none => rfl
      | some u => rw [a.go.keep x u q w] at z; cases z
theorem Tr.nw (r : Rp W ρ σ F H) (g : Nw F H F1 H1) (e : Ext F1 H1) : Tr W ρ σ F H ρ σ F1 H1 := ⟨g.weak fun _ z => z.elim, r.nw g e, fun _ h => .inl h⟩
theorem Tr.ext (a : Tr W ρ σ F H ρ1 σ1 F1 H1) : Ext F F1 := a.go.ext
end

/-! ### outcomes -/
/-- nothing is told; a result; an exception of the class named c, its fields, the state behind it -/
inductive Res (α : Type) where
  | no
  | ok (a : α)
  | ex (c : Str) (fs : List (Str × D)) (ρ : Env)
/-- the exception's fields lie in its dict at dx -/
inductive IsFs (W : Wd) (F : Hp) : List (Str × V) → List (Str × D) → Prop
  | nil : IsFs W F [] []
  | cons {x : Str} {v : V} {d : D} {l : List (Str × V)} {m : List (Str × D)} (h : Is W F v d) (t : IsFs W F l m) : IsFs W F ((x, v) :: l) ((x, d) :: m)
theorem IsFs.mono {W : Wd} {F F' : Hp} (e : Ext F F') : ∀ {l : List (Str × V)} {m : List (Str × D)}, IsFs W F l m → IsFs W F' l m
  | _, _, .nil => .nil
  | _, _, .cons h t => .cons (h.mono e) (IsFs.mono e t)
def ExAt (W : Wd) (F : Hp) (dx : Addr) (fs : List (Str × D)) : Prop := ∃ vfs, F dx = some (.xd vfs) ∧ IsFs W F vfs fs
/-- what is wanted of an exception -/
def ExQ (W : Wd) (E : WX) (ρ : Env) (σ : L2.St) (F H : Hp) (c : Str) (fs : List (Str × D)) (ρ' : Env) : Prop :=
  ∀ C dx σ' F' H', W.mg c = some (.ref C) → Tr W ρ σ F H ρ' σ' F' H' → ExAt W F' dx fs → E (.ref C) (some dx) σ' H'
theorem ExQ.after {W : Wd} {E : WX} {ρ ρ1 : Env} {σ σ1 : L2.St} {F H F1 H1 : Hp} {c : Str} {fs : List (Str × D)} {ρ' : Env} (t : Tr W ρ σ F H ρ1 σ1 F1 H1) (h : ExQ W E ρ σ F H c fs ρ') : ExQ W E ρ1 σ1 F1 H1 c fs ρ' :=
  fun C dx σ' F' H' hm t' x => h C dx σ' F' H' hm (t.trans t') x
/-! ### expressions -/
def AtR {α β : Type} (W : Wd) (E : WX) (rel : Hp → β → α → Prop) (ρ : Env) (σ : L2.St) (F H : Hp) (Q : β → Hp → Prop) : Res (α × Env) → Prop
  | .no => False
  | .ok (d, ρ') => ∀ v F' H', Tr W ρ σ F H ρ' σ F' H' → rel F' v d → Q v H'
  | .ex c fs ρ' => ExQ W E ρ σ F H c fs ρ'
/-- a piece of a def, g, stands at ρ, σ, F, H, and what is wanted behind it is Q -/
def At {α β : Type} (W : Wd) (E : WX) (rel : Hp → β → α → Prop) (g : Env → Res (α × Env)) (ρ : Env) (σ : L2.St) (F H : Hp) (Q : β → Hp → Prop) : Prop :=
  Rp W ρ σ F H ∧ AtR W E rel ρ σ F H Q (g ρ)
def tG {α β : Type} (W : Wd) (E : WX) (rel : Hp → β → α → Prop) (g : Env → Res (α × Env)) : L2.St → Hp → (β → Hp → Prop) → Prop := fun σ H Q => ∃ ρ F, At W E rel g ρ σ F H Q
abbrev Fe := Env → Res (D × Env)
abbrev Ft := Env → Res (Bool × Env)
abbrev Fa := Env → Res (List D × Env)
def relB : Hp → Bool → Bool → Prop := fun _ b c => b = c
/-- where the draws lie; what is wanted of exceptions -/
structure Am where
  a : Addr
  E : WX
/-- no exception may leave -/
abbrev Am.not (am : Am) : Am := ⟨am.a, fun _ _ _ _ => False⟩
abbrev wd (X : Cx) (am : Am) : Wd := ⟨X.K, X.mg, am.a⟩
abbrev tD (W : Wd) (E : WX) (f : Fe) : TE := tG W E (Is W) f
abbrev tDT (W : Wd) (E : WX) (f : Ft) : TT := tG W E relB f
abbrev tDA (W : Wd) (E : WX) (f : Fa) : TA := tG W E (IsL W) f
abbrev DE (X : Cx) (am : Am) (e : Expr) (f : Fe) : Prop := PE X e (tD (wd X am) am.E f)
abbrev DT (X : Cx) (am : Am) (e : Expr) (f : Ft) : Prop := PT X e (tDT (wd X am) am.E f)
abbrev DA (X : Cx) (am : Am) (e : List Expr) (f : Fa) : Prop := PA X e (tDA (wd X am) am.E f)
theorem PE.imp {X : Cx} {e : Expr} {t u : TE} (h : PE X e t) (i : ∀ σ H Q, u σ H Q → t σ H Q) : PE X e u := ⟨fun pins s σ H Q I hw => h.run pins s σ H Q I (i σ H Q hw)⟩
theorem PT.imp {X : Cx} {e : Expr} {t u : TT} (h : PT X e t) (i : ∀ σ H Q, u σ H Q → t σ H Q) : PT X e u := ⟨fun pins s σ H Q I hw => h.run pins s σ H Q I (i σ H Q hw)⟩
theorem PA.imp {X : Cx} {e : List Expr} {t u : TA} (h : PA X e t) (i : ∀ σ H Q, u σ H Q → t σ H Q) : PA X e u := ⟨fun pos pins s σ H Q I hw => h.run pos pins s σ H Q I (i σ H Q hw)⟩

/-- e then k -/
def bR {α β : Type} (r : Res (α × Env)) (k : α → Env → Res β) : Res β := match r with
  | .ok (d, ρ1) => k d ρ1
  | .no => .no
  | .ex c fs ρ1 => .ex c fs ρ1
def bE {α β : Type} (f : Env → Res (α × Env)) (k : α → Env → Res β) : Env → Res β := fun ρ => bR (f ρ) k
theorem bE_ok {α β : Type} {f : Env → Res (α × Env)} {k : α → Env → Res β} {ρ : Env} {r : β} (h : bE f k ρ = .ok r) : ∃ d ρ1, f ρ = .ok (d, ρ1) ∧ k d ρ1 = .ok r := by
  have h : bR (f ρ) k = .ok r := h
  cases e : f ρ with
  | no => rw [e] at h; cases h
  | ex c fs ρ1 => rw [e] at h; cases h
  | ok r1 =>
    obtain ⟨d, ρ1⟩ := r1
    rw [e] at h
    exact ⟨d, ρ1, rfl, h⟩
/-- what is told, or nothing -/
def oR {α β : Type} (o : Option α) (k : α → β) : Res β := match o with
  | some z => .ok (k z)
  | none => .no
section
variable {α β α2 β2 : Type} {W : Wd} {E : WX} {rel : Hp → β → α → Prop} {rel2 : Hp → β2 → α2 → Prop} {ρ : Env} {σ : L2.St} {F H : Hp}
theorem At.bind {f : Env → Res (α × Env)} {k : α → Env → Res (α2 × Env)} {Q : β2 → Hp → Prop} {P : β → Hp → Prop} (h : At W E rel2 (bE f k) ρ σ F H Q)
    (st : ∀ d ρ1 v F1 H1, Tr W ρ σ F H ρ1 σ F1 H1 → rel F1 v d → At W E rel2 (k d) ρ1 σ F1 H1 Q → P v H1) : At W E rel f ρ σ F H P := by
  obtain ⟨rp, q⟩ := h
  refine ⟨rp, ?_⟩
  unfold bE at q
  cases e : f ρ with
  | no => rw [e] at q; exact q
  | ex c fs ρ1 => rw [e] at q; exact q
  | ok r =>
    obtain ⟨d, ρ1⟩ := r
    rw [e] at q
    intro v F1 H1 t r
    refine st d ρ1 v F1 H1 t r ⟨t.rp, ?_⟩
    have q' : AtR W E rel2 ρ σ F H Q (k d ρ1) := q
    cases e2 : k d ρ1 with
    | no => rw [e2] at q'; exact q'
    | ex c fs ρ2 => rw [e2] at q'; exact ExQ.after t q'
    | ok r2 =>
      obtain ⟨d2, ρ2⟩ := r2
      rw [e2] at q'
      exact fun v2 F2 H2 t2 r2 => q' v2 F2 H2 (t.trans t2) r2
theorem At.ret {d : α} {Q : β → Hp → Prop} {v : β} (h : At W E rel (fun ρ => .ok (d, ρ)) ρ σ F H Q) (r : rel F v d) : Q v H := h.2 v F H (Tr.refl h.1) r
/-- the piece, read at a known outcome -/
theorem At.ok {g : Env → Res (α × Env)} {d : α} {ρ' : Env} {Q : β → Hp → Prop} (h : At W E rel g ρ σ F H Q) (e : g ρ = .ok (d, ρ')) : ∀ v F' H', Tr W ρ σ F H ρ' σ F' H' → rel F' v d → Q v H' := by
  have q := h.2
  rw [e] at q
  exact q
theorem At.no {g : Env → Res (α × Env)} {Q : β → Hp → Prop} {C : Prop} (h : At W E rel g ρ σ F H Q) (e : g ρ = .no) : C := by
  have q := h.2
  rw [e] at q
  exact q.elim
theorem At.mk {g : Env → Res (α × Env)} {d : α} {ρ' : Env} {Q : β → Hp → Prop} (r : Rp W ρ σ F H) (e : g ρ = .ok (d, ρ')) (q : ∀ v F' H', Tr W ρ σ F H ρ' σ F' H' → rel F' v d → Q v H') : At W E rel g ρ σ F H Q := ⟨r, by rw [e]; exact q⟩
/-- a last step on values that only makes new objects -/
theorem At.out {o : Option α} {Q : β → Hp → Prop} (h : At W E rel (fun ρ => oR o fun z => (z, ρ)) ρ σ F H Q) : ∃ z, o = some z ∧ ∀ v F' H', Nw F H F' H' → Ext F' H' → rel F' v z → Q v H' := by
  cases o with
  | none => exact h.2.elim
  | some z => exact ⟨z, rfl, fun v F' H' g x r => h.2 v F' H' (Tr.nw h.1 g x) r⟩
theorem tG.of {f : Env → Res (α × Env)} {Q : β → Hp → Prop} (h : At W E rel f ρ σ F H Q) : tG W E rel f σ H Q := ⟨ρ, F, h⟩
end
def cC (d : D) : Fe := fun ρ => .ok (d, ρ)
def cVar (i : Nat) : Fe := fun ρ => match ρ.sl[i]? with
  | some (.im d) => .ok (d, ρ)
  | _ => .no
section
variable {X : Cx} {am : Am}
theorem de_var {i : Nat} {x : Str} {pos : Pos} (hN : X.N[i]? = some x) (hv : Vis X.env.scope x) (hd : (x == ("__debug__" : Str)) = false := by decide) (hcd : (x == ("__classdict__" : Str)) = false := by decide) : DE X am (.Name x pos) (cVar i) :=
  PE.imp (pe_var hN hv hd hcd) fun σ H Q ⟨ρ, F, r, k⟩ => by
    unfold cVar at k
    split at k
    · rename_i d' q
      obtain ⟨x, hx, ix⟩ := r.slot i _ q
      exact ⟨x, hx, k x F H (Tr.refl r) ix⟩
    · exact k.elim
theorem de_const {e : Expr} {v : V} {d : D} (h : PE X e (tC v)) (i : ∀ F, Is (wd X am) F v d) : DE X am e (cC d) :=
  PE.imp h fun σ H Q ⟨ρ, F, h⟩ => At.ret h (i F)
theorem de_int {i j pos} : DE X am (.Constant (.int i) j pos) (cC (.int i)) := de_const pe_int fun _ => .int _
theorem de_bl {i j pos} : DE X am (.Constant (.bool i) j pos) (cC (.bl i)) := de_const pe_bl fun _ => .bl _
theorem de_non {j pos} : DE X am (.Constant .none j pos) (cC .non) := de_const pe_non fun _ => .non
theorem de_str {i j pos} : DE X am (.Constant (.str i) j pos) (cC (.str i)) := de_const pe_str fun _ => .str _
/-- a two-place operation, by values -/
def DOp (W : Wd) (r : R2) (g : D → D → Option D) : Prop := ∀ (F H : Hp) (x y : V) (d e z : D) (Q : VK), Ext F H → Is W F x d → Is W F y e → g d e = some z →
  (∀ v F' H', Nw F H F' H' → Ext F' H' → Is W F' v z → Q v H') → r x y H Q
def cOp (g : D → D → Option D) (f h : Fe) : Fe := bE f fun d => bE h fun e ρ => oR (g d e) fun z => (z, ρ)
theorem op_core {W : Wd} {E : WX} {r : R2} {g : D → D → Option D} {f h : Fe} (ho : DOp W r g) {σ : L2.St} {H : Hp} {Q : VK} (hw : tD W E (cOp g f h) σ H Q) : tOp r (tD W E f) (tD W E h) σ H Q := by
  obtain ⟨ρ, F, hw⟩ := hw
  refine tG.of (hw.bind (rel := Is W) fun d ρ1 x F1 H1 t1 i1 hw => tG.of (hw.bind (rel := Is W) fun e ρ2 y F2 H2 t2 i2 hw => ?_))
  obtain ⟨z, ez, q⟩ := hw.out
  exact ho F2 H2 x y d e z Q t2.rp.ext (i1.mono t2.ext) i2 ez q
theorem de_op {op : Operator} {a b : Expr} {pos : Pos} {r : R2} {g : D → D → Option D} {f h : Fe} (ho : OpR X (binaryOp op) r) (hd : DOp (wd X am) r g) (ha : DE X am a f) (hb : DE X am b h) : DE X am (.BinOp a op b pos) (cOp g f h) :=
  PE.imp (pe_op ho ha hb) fun _ _ _ hw => op_core hd hw
end
end DL

set_option Elab.async false
set_option linter.all false
set_option maxRecDepth 100000
set_option maxHeartbeats 4000000
namespace DL
open PySem PySem.Spec PyProof.Rows L2
abbrev sz (n : Nat) : Prop := n ≤ 100000
theorem sz.le {n : Nat} (h : sz n) : n ≤ sizeLine := Nat.le_trans h (by decide)
theorem sz.lt {n : Nat} (h : sz n) : n < sizeLine := Nat.lt_of_le_of_lt h (by decide)
/-- a guard -/
def gd {α : Type} (p : Prop) [Decidable p] (x : α) : Option α := if p then some x else none
theorem gd_some {α : Type} {p : Prop} [Decidable p] {x z : α} (h : gd p x = some z) : p ∧ x = z := by
  unfold gd at h
  split at h
  · rename_i q; exact ⟨q, Option.some.inj h⟩
  · cases h
theorem gd_yes {α : Type} {p : Prop} [Decidable p] {x : α} (h : p) : gd p x = some x := if_pos h
section
variable {X : Cx} {am : Am} {a b c : Expr} {f g h : Fe} {pos : Pos}

/-! ### tests -/
def cTest (f : Fe) : Ft := bE f fun d ρ => match d with
  | .bl b => .ok (b, ρ)
  | _ => .no
theorem test_core {W : Wd} {E : WX} {σ : L2.St} {H : Hp} {Q : Bool → Hp → Prop} (hw : tDT W E (cTest f) σ H Q) : tTest (tD W E f) σ H Q := by
  obtain ⟨ρ, F, hw⟩ := hw
  refine tG.of (hw.bind (rel := Is W) fun d ρ1 x F1 H1 t1 i1 hw => ?_)
  cases i1 with
  | bl b => exact ⟨b, rfl, At.ret (d := b) hw rfl⟩
  | _ => exact hw.2.elim
theorem dt_val {e : Expr} (hf : DE X am e f) (he : ∀ whole, isTrue e X.env whole = (do let v ← whole; standAt e.pos; holding [v] (truthy v)) := by intro _; rfl) : DT X am e (cTest f) :=
  PT.imp (pt_val hf he) fun _ _ _ hw => test_core hw
theorem dt_cmp {op : CmpOp} {r : R2} {o : D → D → Option D} (ho : OpR X (compareOp op) r) (hd : DOp (wd X am) r o) (ha : DE X am a f) (hb : DE X am b g) (hm : behindInMarks op b = false := by first | exact nomark _ | rfl) : DT X am (.Compare a [op] [b] pos) (cTest (cOp o f g)) :=
  PT.imp (pt_cmpR ho ha hb hm) fun σ H Q hw => op_core hd (test_core hw)
theorem de_cmp {op : CmpOp} {r : R2} {o : D → D → Option D} (ho : OpR X (compareOp op) r) (hd : DOp (wd X am) r o) (ha : DE X am a f) (hb : DE X am b g) (hm : behindInMarks op b = false := by first | exact nomark _ | rfl) : DE X am (.Compare a [op] [b] pos) (cOp o f g) :=
  PE.imp (pe_cmpR ho ha hb hm) fun σ H Q hw => op_core hd hw
/-- a op1 b op2 c -/
def cChain (o o' : D → D → Option D) (f g h : Fe) : Fe := bE f fun d => bE g fun e => bE (fun ρ => oR (o d e) fun z => (z, ρ)) fun z => match z with
  | .bl true => bE h fun u ρ => oR (o' e u) fun z => (z, ρ)
  | .bl false => fun ρ => .ok (.bl false, ρ)
  | _ => fun _ => .no
theorem chain_core {W : Wd} {E : WX} {r r' : R2} {o o' : D → D → Option D} (hd : DOp W r o) (hd' : DOp W r' o') {σ : L2.St} {H : Hp} {Q : VK} (hw : tD W E (cChain o o' f g h) σ H Q) : tChain r r' (tD W E f) (tD W E g) (tD W E h) σ H Q := by
  obtain ⟨ρ, F, hw⟩ := hw
  refine tG.of (hw.bind (rel := Is W) fun d ρ1 x F1 H1 t1 i1 hw => tG.of (hw.bind (rel := Is W) fun e ρ2 y F2 H2 t2 i2 hw => ?_))
  have hb := hw.bind (rel := Is W) (P := fun v H' => ∃ k, v = V.bl k ∧ (if k = true then tD W E h σ H' fun w' H4 => r' y w' H4 Q else Q (.bl false) H')) fun z ρ3 v F3 H3 t3 i3 hw => by
    cases i3 with
    | bl b =>
      refine ⟨b, rfl, ?_⟩
      cases b with
      | true =>
        rw [if_pos rfl]
        refine tG.of (hw.bind (rel := Is W) fun u ρ4 w F4 H4 t4 i4 hw => ?_)
        obtain ⟨z, ez, q⟩ := hw.out
        exact hd' F4 H4 y w e u z Q t4.rp.ext (i2.mono (t3.ext.trans t4.ext)) i4 ez q
      | false =>
        rw [if_neg Bool.false_ne_true]
        exact At.ret (d := D.bl false) hw (.bl false)
    | _ => exact hw.2.elim
  obtain ⟨z, ez, q⟩ := hb.out
  exact hd F2 H2 x y d e z _ t2.rp.ext (i1.mono t2.ext) i2 ez q
theorem dt_chain {op op' : CmpOp} {r r' : R2} {o o' : D → D → Option D} (ho : OpR X (compareOp op) r) (ho' : OpR X (compareOp op') r') (hd : DOp (wd X am) r o) (hd' : DOp (wd X am) r' o') (ha : DE X am a f) (hb : DE X am b g) (hc : DE X am c h)
    (hm : lastMarks [op, op'] [b, c] = false := by with_unfolding_all rfl) : DT X am (.Compare a [op, op'] [b, c] pos) (cTest (cChain o o' f g h)) := PT.imp (pt_chain ho ho' ha hb hc hm) fun _ _ _ hw => chain_core hd hd' (test_core hw)
/-! and, or, not -/
abbrev DW (X : Cx) (am : Am) (e : Expr) (f : Ft) : Prop := PW X e (tDT (wd X am) am.E f)
theorem PW.imp {X : Cx} {e : Expr} {t u : TT} (h : PW X e t) (i : ∀ σ H Q, u σ H Q → t σ H Q) : PW X e u := ⟨fun wh pins s σ H Q I hw => h.run wh pins s σ H Q I (i σ H Q hw)⟩
def cAnd (f g : Ft) : Ft := bE f fun b => if b = true then g else fun ρ => .ok (false, ρ)
def cOr (f g : Ft) : Ft := bE f fun b => if b = true then (fun ρ => .ok (true, ρ)) else g
def cNot (f : Ft) : Ft := bE f fun b ρ => .ok (!b, ρ)
variable {p q : Ft} {rest : List Expr}
theorem dw_and (ha : DT X am a p) (hb : DW X am (.BoolOp .And (b :: rest) pos) q) : DW X am (.BoolOp .And (a :: b :: rest) pos) (cAnd p q) :=
  PW.imp (pw_and ha hb) fun σ H Q ⟨ρ, F, hw⟩ => tG.of (hw.bind (rel := relB) fun d ρ1 x F1 H1 t1 i1 hw => by
    cases i1
    cases d with
    | true => rw [if_pos rfl]; rw [if_pos rfl] at hw; exact tG.of hw
    | false => rw [if_neg Bool.false_ne_true]; rw [if_neg Bool.false_ne_true] at hw; exact At.ret (d := false) hw rfl)
theorem dw_or (ha : DT X am a p) (hb : DW X am (.BoolOp .Or (b :: rest) pos) q) : DW X am (.BoolOp .Or (a :: b :: rest) pos) (cOr p q) :=
  PW.imp (pw_or ha hb) fun σ H Q ⟨ρ, F, hw⟩ => tG.of (hw.bind (rel := relB) fun d ρ1 x F1 H1 t1 i1 hw => by
    cases i1
    cases d with
    | true => rw [if_pos rfl]; rw [if_pos rfl] at hw; exact At.ret (d := true) hw rfl
    | false => rw [if_neg Bool.false_ne_true]; rw [if_neg Bool.false_ne_true] at hw; exact tG.of hw)
theorem dw_and1 (ha : DT X am a p) : DW X am (.BoolOp .And [a] pos) p := pw_and1 ha
theorem dw_or1 (ha : DT X am a p) : DW X am (.BoolOp .Or [a] pos) p := pw_or1 ha
theorem dt_bool {e : Expr} (h : DW X am e p) : DT X am e p := PW.pt h
theorem dt_not (ha : DT X am a p) : DT X am (.UnaryOp .Not a pos) (cNot p) :=
  PT.imp (pt_not ha) fun σ H Q ⟨ρ, F, hw⟩ => tG.of (hw.bind (rel := relB) fun d ρ1 x F1 H1 t1 i1 hw => by
    cases i1
    exact At.ret (d := !d) hw rfl)
/-! .. as values -/
def cV (p : Ft) : Fe := bE p fun b ρ => .ok (.bl b, ρ)
def cAndV (f g : Fe) : Fe := bE f fun d => match d with
  | .bl true => g
  | .bl false => fun ρ => .ok (.bl false, ρ)
  | _ => fun _ => .no
def cOrV (f g : Fe) : Fe := bE f fun d => match d with
  | .bl true => fun ρ => .ok (.bl true, ρ)
  | .bl false => g
  | _ => fun _ => .no
def cNotV (f : Fe) : Fe := bE f fun d => match d with
  | .bl b => fun ρ => .ok (.bl (!b), ρ)
  | _ => fun _ => .no
theorem de_one {op} (h : DE X am a f) : DE X am (.BoolOp op [a] pos) f := pe_one h
theorem de_and (ha : DE X am a f) (hb : DE X am (.BoolOp .And (b :: rest) pos) g) : DE X am (.BoolOp .And (a :: b :: rest) pos) (cAndV f g) :=
  PE.imp (pe_and ha hb) fun σ H Q ⟨ρ, F, hw⟩ => tG.of (hw.bind (rel := Is _) fun d ρ1 x F1 H1 t1 i1 hw => by
    cases i1 with
    | bl b =>
      refine ⟨b, rfl, ?_⟩
      cases b with
      | true => rw [if_pos rfl]; exact tG.of hw
      | false => rw [if_neg Bool.false_ne_true]; exact At.ret (d := D.bl false) hw (.bl false)
    | _ => exact hw.2.elim)
theorem de_or (ha : DE X am a f) (hb : DE X am (.BoolOp .Or (b :: rest) pos) g) : DE X am (.BoolOp .Or (a :: b :: rest) pos) (cOrV f g) :=
  PE.imp (pe_or ha hb) fun σ H Q ⟨ρ, F, hw⟩ => tG.of (hw.bind (rel := Is _) fun d ρ1 x F1 H1 t1 i1 hw => by
    cases i1 with
    | bl b =>
      refine ⟨b, rfl, ?_⟩
      cases b with
      | true => rw [if_pos rfl]; exact At.ret (d := D.bl true) hw (.bl true)
      | false => rw [if_neg Bool.false_ne_true]; exact tG.of hw
    | _ => exact hw.2.elim)
def cIf (p : Ft) (f g : Fe) : Fe := bE p fun b => if b = true then f else g
theorem de_if (hc : DT X am c p) (ha : DE X am a f) (hb : DE X am b g) : DE X am (.IfExp c a b pos) (cIf p f g) :=
  PE.imp (pe_ifExp hc ha hb) fun σ H Q ⟨ρ, F, hw⟩ => tG.of (hw.bind (rel := relB) fun d ρ1 x F1 H1 t1 i1 hw => by
    cases i1
    cases d with
    | true => rw [if_pos rfl]; rw [if_pos rfl] at hw; exact tG.of hw
    | false => rw [if_neg Bool.false_ne_true]; rw [if_neg Bool.false_ne_true] at hw; exact tG.of hw)

/-! ### arguments, displays -/
variable {es : List Expr} {u : Fa}
def cNil : Fa := fun ρ => .ok ([], ρ)
def cCons (f : Fe) (u : Fa) : Fa := bE f fun d => bE u fun l ρ => .ok (d :: l, ρ)
theorem da_nil : DA X am [] cNil := PA.imp pa_nil fun σ H Q ⟨ρ, F, hw⟩ => At.ret (d := []) hw .nil
theorem da_cons (ha : DE X am a f) (hr : DA X am es u) (hs : starEach (a :: es) X.env = (false, eval a X.env) :: starEach es X.env := by rfl) : DA X am (a :: es) (cCons f u) :=
  PA.imp (pa_cons ha hr hs) fun σ H Q ⟨ρ, F, hw⟩ => tG.of (hw.bind (rel := Is _) fun d ρ1 x F1 H1 t1 i1 hw => tG.of (hw.bind (rel := IsL _) fun l ρ2 xs F2 H2 t2 i2 hw =>
    At.ret (d := d :: l) hw (.cons (i1.mono t2.ext) i2)))
def cTup (u : Fa) : Fe := bE u fun l ρ => oR (gd (sz l.length) (D.tup l)) fun z => (z, ρ)
def cLst (u : Fa) : Fe := bE u fun l ρ => oR (gd (sz l.length) (D.lst l)) fun z => (z, ρ)
theorem newTup {W : Wd} {F H : Hp} {xs : List V} {l : List D} (e : Ext F H) (i : IsL W F xs l) {Q : VK} (q : ∀ v F' H', Nw F H F' H' → Ext F' H' → Is W F' v (.tup l) → Q v H') : ∀ p, H p = none → Q (.ref p) (upd H p (.tup xs)) := fun p hp =>
  q (.ref p) (upd F p (.tup xs)) (upd H p (.tup xs)) (Nw.of e hp) e.both (.tup (SqT.of upd_same) (i.mono (Ext.new (e.free hp))))
theorem newLst {W : Wd} {F H : Hp} {xs : List V} {l : List D} (e : Ext F H) (i : IsL W F xs l) {Q : VK} (q : ∀ v F' H', Nw F H F' H' → Ext F' H' → Is W F' v (.lst l) → Q v H') : ∀ p, H p = none → Q (.ref p) (upd H p (.lst xs)) := fun p hp =>
  q (.ref p) (upd F p (.lst xs)) (upd H p (.lst xs)) (Nw.of e hp) e.both (.lst upd_same (i.mono (Ext.new (e.free hp))))
theorem same {W : Wd} {F H : Hp} {v : V} {d : D} (e : Ext F H) (i : Is W F v d) {Q : VK} (q : ∀ v F' H', Nw F H F' H' → Ext F' H' → Is W F' v d → Q v H') : Q v H := q v F H (Go.refl _ _ _) e i
theorem de_tup {x1} (hu : DA X am es u) : DE X am (.Tuple es x1 pos) (cTup u) :=
  PE.imp (pe_tup hu) fun σ H Q ⟨ρ, F, hw⟩ => tG.of (hw.bind (rel := IsL _) fun l ρ1 xs F1 H1 t1 i1 hw => by
    obtain ⟨z, ez, q⟩ := hw.out
    obtain ⟨hz, rfl⟩ := gd_some ez
    exact ⟨by rw [i1.length]; exact hz.le, newTup t1.rp.ext i1 q⟩)
theorem de_lst (hu : DA X am es u) : DE X am (.List es pos) (cLst u) :=
  PE.imp (pe_lst hu) fun σ H Q ⟨ρ, F, hw⟩ => tG.of (hw.bind (rel := IsL _) fun l ρ1 xs F1 H1 t1 i1 hw => by
    obtain ⟨z, ez, q⟩ := hw.out
    obtain ⟨hz, rfl⟩ := gd_some ez
    exact ⟨by rw [i1.length]; exact hz.le, newLst t1.rp.ext i1 q⟩)

/-! ### built-ins -/
def DCall (W : Wd) (r : List V → Hp → VK → Prop) (o : List D → Option D) : Prop := ∀ (F H : Hp) (xs : List V) (l : List D) (z : D) (Q : VK), Ext F H → IsL W F xs l → o l = some z →
  (∀ v F' H', Nw F H F' H' → Ext F' H' → Is W F' v z → Q v H') → r xs H Q
def cCall (o : List D → Option D) (u : Fa) : Fe := bE u fun l ρ => oR (o l) fun z => (z, ρ)
theorem call_core {W : Wd} {E : WX} {r : List V → Hp → VK → Prop} {o : List D → Option D} (hd : DCall W r o) {σ : L2.St} {H : Hp} {Q : VK} (hw : tD W E (cCall o u) σ H Q) : tCB r (tDA W E u) σ H Q := by
  obtain ⟨ρ, F, hw⟩ := hw
  refine tG.of (hw.bind (rel := IsL W) fun l ρ1 xs F1 H1 t1 i1 hw => ?_)
  obtain ⟨z, ez, q⟩ := hw.out
  exact hd F1 H1 xs l z Q t1.rp.ext i1 ez q
theorem de_callB {x : Str} {px : Pos} {id : String} {r : List V → Hp → VK → Prop} {o : List D → Option D} (hd : DCall (wd X am) r o) (hc : CallR X (.builtin id) r) (hg : Gl X x) (hm : X.mg x = none) (hv : bootBuiltins x = some (.builtin id)) (hu : DA X am (a :: es) u)
    (hn : x ≠ "__name__" := by decide) (hdb : (x == ("__debug__" : Str)) = false := by decide) (he : starEach (a :: es) X.env = (false, eval a X.env) :: starEach es X.env := by rfl) (hpl : (backTo pos (starEach es X.env)).any (·.1) = false := by rfl) :
    DE X am (.Call (.Name x px) (a :: es) [] pos) (cCall o u) := PE.imp (pe_callB hc hg hm hv hu hn hdb he hpl) fun _ _ _ hw => call_core hd hw
theorem de_callTy {x : Str} {px : Pos} {T : String} {r : List V → Hp → VK → Prop} {o : List D → Option D} (hd : DCall (wd X am) r o) (hc : CallR X (.type T) r) (hg : Gl X x) (hm : X.mg x = none) (hv : bootBuiltins x = some (.type T)) (hu : DA X am (a :: es) u)
    (hn : x ≠ "__name__" := by decide) (hdb : (x == ("__debug__" : Str)) = false := by decide) (he : starEach (a :: es) X.env = (false, eval a X.env) :: starEach es X.env := by rfl) (hpl : (backTo pos (starEach es X.env)).any (·.1) = false := by rfl) :
    DE X am (.Call (.Name x px) (a :: es) [] pos) (cCall o u) := PE.imp (pe_callTy hc hg hm hv hu hn hdb he hpl) fun _ _ _ hw => call_core hd hw
/-! a method of a built-in type -/
def DMt (W : Wd) (T : String) (r : V → List V → Hp → VK → Prop) (o : D → List D → Option D) : Prop := ∀ (F H : Hp) (x : V) (xs : List V) (d : D) (l : List D) (z : D) (Q : VK), Ext F H → Is W F x d → IsL W F xs l → o d l = some z →
  (∀ v F' H', Nw F H F' H' → Ext F' H' → Is W F' v z → Q v H') → r x xs H Q
def DTy (W : Wd) (T : String) (o : D → Bool) : Prop := ∀ (F : Hp) (x : V) (d : D), Is W F x d → o d = true → tyV W.K T x F
def cMt (o : D → List D → Option D) (f : Fe) (u : Fa) : Fe := bE f fun d => bE u fun l ρ => oR (o d l) fun z => (z, ρ)
/-! ### subscripts -/
theorem de_ix {r : R2} {o : D → D → Option D} (hr : IxR X r) (hd : DOp (wd X am) r o) (ha : DE X am a f) (hb : DE X am b g) (hs : PlainIx b := by intro _ _; rfl) : DE X am (.Subscript a b pos) (cOp o f g) :=
  PE.imp (pe_ix hr ha hb hs) fun _ _ _ hw => op_core hd hw
end
end DL

set_option Elab.async false
set_option linter.all false
set_option maxRecDepth 100000
set_option maxHeartbeats 4000000
namespace DL
open PySem PySem.Spec PyProof.Rows L2
/-! ### slots that change -/
def Env.set (ρ : Env) (i : Nat) (s : Slot) : Env := { ρ with sl := ρ.sl.set i s }
section
variable {W : Wd} {ρ ρ' : Env} {σ σ' : L2.St} {F H F' H' : Hp}
theorem ownAt_set {i j : Nat} {d : D} {x : V} {a : Addr} (h : OwnAt (ρ.set i (.im d)) (σ.set i (some x)) j a) : OwnAt ρ σ j a := by
  obtain ⟨⟨l, h1⟩, h2⟩ := h
  unfold Env.set at h1
  by_cases e : i = j
  · subst e
    rw [List.getElem?_set] at h1
    simp only [if_true] at h1
    split at h1
    · cases h1
    · cases h1
  · simp only [List.getElem?_set_ne e] at h1 h2
    exact ⟨⟨l, h1⟩, h2⟩
theorem own_set {i : Nat} {d : D} {x : V} {a : Addr} (h : Own W (ρ.set i (.im d)) (σ.set i (some x)) a) : Own W ρ σ a := by
  rcases h with ⟨j, h⟩ | h
  · exact .inl ⟨j, ownAt_set h⟩
  · exact .inr h
theorem Rp.set (r : Rp W ρ σ F H) {i : Nat} {d : D} {x : V} (hx : Is W F x d) (hi : i < ρ.sl.length) : Rp W (ρ.set i (.im d)) (σ.set i (some x)) F H := by
  refine ⟨r.ext, by simp [Env.set, r.len], fun j s q => ?_, fun j k a h1 h2 => r.apart j k a (ownAt_set h1) (ownAt_set h2), r.ora, fun j h => r.noam j ⟨h.1, ownAt_set h.2⟩⟩
  unfold Env.set at q
  by_cases e : i = j
  · subst e
    have hs : i < σ.length := by rw [← r.len]; exact hi
    simp only [List.getElem?_set_self hi, Option.some.injEq] at q
    subst q
    exact ⟨x, by rw [List.getElem?_set_self hs], hx⟩
  · simp only [List.getElem?_set_ne e] at q ⊢
    exact r.slot j s q
theorem Tr.set (t : Tr W ρ σ F H ρ' σ' F' H') {i : Nat} {d : D} {x : V} (hx : Is W F' x d) (hi : i < ρ'.sl.length) : Tr W ρ σ F H (ρ'.set i (.im d)) (σ'.set i (some x)) F' H' :=
  ⟨t.go, t.rp.set hx hi, fun a h => t.own a (own_set h)⟩
end
/-! ### statements -/
inductive Fl where
  | nx (ρ : Env)
  | rt (d : D) (ρ : Env)
  | bk (ρ : Env)
  | ct (ρ : Env)
abbrev Fs := Env → Res Fl
def Flk (W : Wd) (E : WX) (ρ : Env) (σ : L2.St) (F H : Hp) (N : Ends) : Res Fl → Prop
  | .no => False
  | .ok (.nx ρ') => ∀ σ' F' H', Tr W ρ σ F H ρ' σ' F' H' → N.nx σ' H'
  | .ok (.rt d ρ') => ∀ v σ' F' H', Tr W ρ σ F H ρ' σ' F' H' → Is W F' v d → N.rt v H'
  | .ok (.bk ρ') => ∀ σ' F' H', Tr W ρ σ F H ρ' σ' F' H' → N.bk σ' H'
  | .ok (.ct ρ') => ∀ σ' F' H', Tr W ρ σ F H ρ' σ' F' H' → N.ct σ' H'
  | .ex c fs ρ' => ExQ W E ρ σ F H c fs ρ'
def AtS (W : Wd) (E : WX) (g : Fs) (ρ : Env) (σ : L2.St) (F H : Hp) (N : Ends) : Prop := Rp W ρ σ F H ∧ Flk W E ρ σ F H N (g ρ)
def tS (W : Wd) (E : WX) (g : Fs) : TS := fun N σ H => ∃ ρ F, AtS W E g ρ σ F H N
abbrev DS (X : Cx) (am : Am) (s : Stmt) (g : Fs) : Prop := PS X s (tS (wd X am) am.E g)
abbrev DSs (X : Cx) (am : Am) (s : List Stmt) (g : Fs) : Prop := PSs X s (tS (wd X am) am.E g)
theorem PS.imp {X : Cx} {s : Stmt} {t u : TS} (h : PS X s t) (i : ∀ N σ H, u N σ H → t N σ H) : PS X s u := ⟨fun pins s σ H N I hw => h.run pins s σ H N I (i N σ H hw)⟩
theorem PSs.imp {X : Cx} {s : List Stmt} {t u : TS} (h : PSs X s t) (i : ∀ N σ H, u N σ H → t N σ H) : PSs X s u := ⟨fun pins s σ H N I hw => h.run pins s σ H N I (i N σ H hw)⟩
/-- a guard -/
def gR {α : Type} (p : Prop) [Decidable p] (x : α) : Res α := if p then .ok x else .no
theorem gR_yes {α : Type} {p : Prop} [Decidable p] {x : α} (h : p) : gR p x = .ok x := if_pos h
theorem gR_no {α : Type} {p : Prop} [Decidable p] {x : α} (h : ¬ p) : gR p x = .no := if_neg h
section
variable {W : Wd} {E : WX} {ρ ρ1 : Env} {σ σ1 : L2.St} {F H F1 H1 : Hp}
theorem Flk.after {N : Ends} {fl : Res Fl} (t : Tr W ρ σ F H ρ1 σ1 F1 H1) (h : Flk W E ρ σ F H N fl) : Flk W E ρ1 σ1 F1 H1 N fl := by
  cases fl with
  | no => exact h
  | ex c fs ρ' => exact ExQ.after t h
  | ok fl =>
    cases fl with
    | nx ρ' => exact fun σ' F' H' t' => h σ' F' H' (t.trans t')
    | rt d ρ' => exact fun v σ' F' H' t' i => h v σ' F' H' (t.trans t') i
    | bk ρ' => exact fun σ' F' H' t' => h σ' F' H' (t.trans t')
    | ct ρ' => exact fun σ' F' H' t' => h σ' F' H' (t.trans t')
theorem Flk.gR {N : Ends} {p : Prop} [Decidable p] {x : Fl} (h : Flk W E ρ σ F H N (DL.gR p x)) : p ∧ Flk W E ρ σ F H N (.ok x) := by
  by_cases hp : p
  · rw [gR_yes hp] at h; exact ⟨hp, h⟩
  · rw [gR_no hp] at h; exact h.elim
/-- an expression, then what it decides -/
abbrev bS {α : Type} (f : Env → Res (α × Env)) (k : α → Fs) : Fs := bE f k
theorem AtS.bind {α β : Type} {rel : Hp → β → α → Prop} {f : Env → Res (α × Env)} {k : α → Fs} {N : Ends} {P : β → Hp → Prop} (h : AtS W E (bS f k) ρ σ F H N)
    (st : ∀ d ρ1 v F1 H1, Tr W ρ σ F H ρ1 σ F1 H1 → rel F1 v d → AtS W E (k d) ρ1 σ F1 H1 N → P v H1) : At W E rel f ρ σ F H P := by
  obtain ⟨rp, q⟩ := h
  refine ⟨rp, ?_⟩
  have q : Flk W E ρ σ F H N (bR (f ρ) k) := q
  cases e : f ρ with
  | no => rw [e] at q; exact q
  | ex c fs ρ1 => rw [e] at q; exact q
  | ok r =>
    obtain ⟨d, ρ1⟩ := r
    rw [e] at q
    intro v F1 H1 t r
    exact st d ρ1 v F1 H1 t r ⟨t.rp, Flk.after t (show Flk W E ρ σ F H N (k d ρ1) from q)⟩
end
def sSeq (g h : Fs) : Fs := fun ρ => match g ρ with
  | .ok (.nx ρ1) => h ρ1
  | r => r
def sPass : Fs := fun ρ => .ok (.nx ρ)
def sBreak : Fs := fun ρ => .ok (.bk ρ)
def sCont : Fs := fun ρ => .ok (.ct ρ)
def sNever : Fs := fun _ => .no
def sSet (i : Nat) (f : Fe) : Fs := bS f fun d ρ => gR (i < ρ.sl.length) (.nx (ρ.set i (.im d)))
def sDrop (f : Fe) : Fs := bS f fun _ ρ => .ok (.nx ρ)
def sRet (f : Fe) : Fs := bS f fun d ρ => .ok (.rt d ρ)
def sRetN : Fs := fun ρ => .ok (.rt .non ρ)
def sIf (p : Ft) (g h : Fs) : Fs := bS p fun b => if b = true then g else h
section
variable {X : Cx} {am : Am} {s : Stmt} {rest : List Stmt} {g h : Fs} {f : Fe} {p : Ft} {e c : Expr} {pos : Pos}
theorem dss_nil : DSs X am [] sPass := PSs.imp pss_nil fun N σ H ⟨ρ, F, r, q⟩ => q σ F H (Tr.refl r)
theorem dss_cons (h1 : DS X am s g) (h2 : DSs X am rest h) : DSs X am (s :: rest) (sSeq g h) := PSs.imp (pss_cons h1 h2) fun N σ H ⟨ρ, F, r, q⟩ => by
  refine ⟨ρ, F, r, ?_⟩
  unfold sSeq at q
  cases eg : g ρ with
  | no => rw [eg] at q; exact q
  | ex c fs ρ1 => rw [eg] at q; exact q
  | ok fl' =>
    rw [eg] at q
    cases fl' with
    | nx ρ1 => exact fun σ' F' H' t => ⟨ρ1, F', t.rp, Flk.after t q⟩
    | rt d ρ1 => exact q
    | bk ρ1 => exact q
    | ct ρ1 => exact q
theorem dss_one (h1 : DS X am s g) : DSs X am [s] g := pss_one h1
theorem ds_never : DS X am s sNever := PS.imp (ps_never (st := s)) fun N σ H ⟨ρ, F, r, q⟩ => q.elim
theorem ds_drop (he : DE X am e f) (hs : swapsWith e none pos.line X.env = pure false := by rfl) : DS X am (.Expr e pos) (sDrop f) := PS.imp (ps_expr he hs) fun N σ H ⟨ρ, F, hw⟩ =>
  tG.of (hw.bind (rel := Is _) fun d ρ1 x F1 H1 t1 i1 ⟨r, q⟩ => q σ F1 H1 (Tr.refl r))
theorem ds_ret (he : DE X am e f) : DS X am (.Return (some e) pos) (sRet f) := PS.imp (ps_ret he) fun N σ H ⟨ρ, F, hw⟩ =>
  tG.of (hw.bind (rel := Is _) fun d ρ1 x F1 H1 t1 i1 ⟨r, q⟩ => q x σ F1 H1 (Tr.refl r) i1)
theorem ds_if {a b : List Stmt} (hc : DT X am c p) (ha : DSs X am a g) (hb : DSs X am b h) : DS X am (.If c a b pos) (sIf p g h) := PS.imp (ps_if hc ha hb) fun N σ H ⟨ρ, F, hw⟩ =>
  tG.of (hw.bind (rel := relB) fun d ρ1 x F1 H1 t1 i1 hw => by
    cases i1
    cases d with
    | true => rw [if_pos rfl]; rw [if_pos rfl] at hw; exact ⟨ρ1, F1, hw⟩
    | false => rw [if_neg Bool.false_ne_true]; rw [if_neg Bool.false_ne_true] at hw; exact ⟨ρ1, F1, hw⟩)
theorem ds_set {i : Nat} {x : Str} {pos' : Pos} (hN : X.N.Nodup) (hi : X.N[i]? = some x) (hx : Loc X.env.scope x) (he : DE X am e f) (hs : swapsWith e (some (.Name x pos')) pos.line X.env = pure false := by rfl) (hf : X.fn x = true ∨ X.env.scope.names.lookup x = some .local := by first | exact .inl rfl | exact .inr rfl | assumption) :
    DS X am (.Assign [.Name x pos'] e pos) (sSet i f) := PS.imp (ps_set hN hi hx he hs hf) fun N σ H ⟨ρ, F, hw⟩ =>
  tG.of (hw.bind (rel := Is _) fun d ρ1 x F1 H1 t1 i1 ⟨r, q⟩ => by
    obtain ⟨hl, q⟩ := q.gR
    exact q _ F1 H1 ((Tr.refl r).set i1 hl))
end

/-! ### a def's promise -/
/-- what a def gives: nothing told; a result; an exception -/
inductive Rd where
  | no
  | ok (d : D) (o : Option Ora)
  | ex (c : Str) (fs : List (Str × D)) (o : Option Ora)
/-- what a def computes: of its arguments and the draws -/
abbrev Fd := List D → Option Ora → Rd
def spR (W : Wd) (F H : Hp) (o : Option Ora) (Q : VK) (E : XK) : Rd → Prop
  | .no => False
  | .ok d o' => (o'.isSome = true → o.isSome = true) ∧ ∀ v F' H', Go (fun a => a = W.am ∧ ∃ r, o = some r) F H F' H' → Ext F' H' → (∀ r, o' = some r → OraOk W F' H' r) → Is W F' v d → Q v H'
  | .ex c fs o' => (o'.isSome = true → o.isSome = true) ∧ ∀ C dx F' H', W.mg c = some (.ref C) → Go (fun a => a = W.am ∧ ∃ r, o = some r) F H F' H' → Ext F' H' → (∀ r, o' = some r → OraOk W F' H' r) → ExAt W F' dx fs → E (.ref C) (some dx) H'
def spD (K : PySem.W.Frag) (mg : Str → Option Value) (n : Nat) (m : Fd) : Sp := fun vs H Q E => vs.length = n ∧ ∃ am F ds o, Ext F H ∧ IsL ⟨K, mg, am⟩ F vs ds ∧ (∀ r, o = some r → OraOk ⟨K, mg, am⟩ F H r) ∧ spR ⟨K, mg, am⟩ F H o Q E (m ds o)
def env0 (n : Nat) (ds : List D) (o : Option Ora) : Env := ⟨ds.map .im ++ List.replicate (n - ds.length) .no, o⟩
/-- the def's function by its body's -/
def fnR (o : Option Ora) : Res Fl → Rd
  | .ok (.nx ρ) => if ρ.ora.isSome = true → o.isSome = true then .ok .non ρ.ora else .no
  | .ok (.rt d ρ) => if ρ.ora.isSome = true → o.isSome = true then .ok d ρ.ora else .no
  | .ex c fs ρ => if ρ.ora.isSome = true → o.isSome = true then .ex c fs ρ.ora else .no
  | _ => .no
def fnD (n : Nat) (g : Fs) : Fd := fun ds o => fnR o (g (env0 n ds o))
theorem rp_start {W : Wd} {F H : Hp} {N : List Str} {vs : List V} {ds : List D} {o : Option Ora} (e : Ext F H) (i : IsL W F vs ds) (ho : ∀ r, o = some r → OraOk W F H r) : Rp W (env0 N.length ds o) (L2.start N vs) F H := by
  have hl := i.length
  have nown : ∀ (j : Nat) l, (env0 N.length ds o).sl[j]? ≠ some (.ow l) := fun j l q => by
    unfold env0 at q
    rw [List.getElem?_append] at q
    split at q
    · rw [List.getElem?_map] at q
      cases w : ds[j]? with
      | none => rw [w] at q; cases q
      | some d => rw [w] at q; cases q
    · rw [List.getElem?_replicate] at q
      split at q <;> cases q
  refine ⟨e, by simp [env0, L2.start, hl], fun j s q => ?_, fun j k a h _ => (nown j _ h.1.choose_spec).elim, ho, fun j h => (nown j _ h.2.1.choose_spec).elim⟩
  unfold env0 at q
  rw [List.getElem?_append] at q
  split at q
  · rename_i hj
    rw [List.getElem?_map] at q
    cases w : ds[j]? with
    | none => rw [w] at q; cases q
    | some d =>
      rw [w] at q
      cases q
      obtain ⟨v, hv, iv⟩ := i.get w
      refine ⟨v, ?_, iv⟩
      unfold L2.start
      rw [List.getElem?_append_left (by rw [List.length_map, hl]; simpa using hj), List.getElem?_map, hv]
      rfl
  · rw [List.getElem?_replicate] at q
    split at q
    · cases q; trivial
    · cases q
theorem own_start {W : Wd} {N : List Str} {vs : List V} {ds : List D} {o : Option Ora} {a : Addr} (h : Own W (env0 N.length ds o) (L2.start N vs) a) : a = W.am ∧ ∃ r, o = some r := by
  rcases h with ⟨j, ⟨l, q⟩, _⟩ | h
  · exfalso
    unfold env0 at q
    rw [List.getElem?_append] at q
    split at q
    · rw [List.getElem?_map] at q
      cases w : ds[j]? with
      | none => rw [w] at q; cases q
      | some d => rw [w] at q; cases q
    · rw [List.getElem?_replicate] at q
      split at q <;> cases q
  · exact h
/-- from a body to the promise -/
theorem body_D {X : Cx} {N : List Str} {body : List Stmt} {g : Fs} {vs : List V} {H : Hp} {Q : VK} {E : XK} {n : Nat} (hN : X.N = N) (hb : ∀ a, DSs X ⟨a, fun cls d _ H => E cls d H⟩ body g) (hs : spD X.K X.mg n (fnD N.length g) vs H Q E) :
    ∃ t, PSs X body t ∧ t { nx := fun _ H' => Q .non H', rt := Q } (L2.start N vs) H := by
  obtain ⟨_, am, F, ds, o, e, i, ho, em⟩ := hs
  refine ⟨_, hb am, env0 N.length ds o, F, rp_start e i ho, ?_⟩
  unfold fnD at em
  show Flk ⟨X.K, X.mg, am⟩ (fun cls d _ H => E cls d H) _ _ _ _ _ (g (env0 N.length ds o))
  cases eg : g (env0 N.length ds o) with
  | no => rw [eg] at em; exact em
  | ex c fs ρ =>
    rw [eg] at em
    unfold fnR at em
    simp only at em
    split at em
    · exact fun C dx σ' F' H' hm t x => em.2 C dx F' H' hm (t.go.weak fun a h => own_start h) t.rp.ext (fun r q => t.rp.ora r q) x
    · exact em.elim
  | ok fl =>
    rw [eg] at em
    unfold fnR at em
    cases fl with
    | nx ρ =>
      simp only at em
      split at em
      · exact fun σ' F' H' t => em.2 .non F' H' (t.go.weak fun a h => own_start h) t.rp.ext (fun r q => t.rp.ora r q) .non
      · exact em.elim
    | rt d ρ =>
      simp only at em
      split at em
      · exact fun v σ' F' H' t iv => em.2 v F' H' (t.go.weak fun a h => own_start h) t.rp.ext (fun r q => t.rp.ora r q) iv
      · exact em.elim
    | bk ρ => exact em.elim
    | ct ρ => exact em.elim
/-! a call of a def -/
def fnC (ρ : Env) : Rd → Res (D × Env)
  | .ok d o' => if o'.isSome = true → ρ.ora.isSome = true then .ok (d, { ρ with ora := o' }) else .no
  | .ex c fs o' => if o'.isSome = true → ρ.ora.isSome = true then .ex c fs { ρ with ora := o' } else .no
  | .no => .no
def cFn (m : Fd) (u : Fa) : Fe := bE u fun l ρ => fnC ρ (m l ρ.ora)
/-- a call at the slots σ -/
def tCallZ (sp : Sp) (E : WX) (t : TA) : TE := fun σ H Q => t σ H fun vs H1 => sp vs H1 Q (fun cls d H' => E cls d σ H')
theorem Tr.called {W : Wd} {ρ : Env} {σ : L2.St} {F H F2 H2 : Hp} {o' : Option Ora} (r : Rp W ρ σ F H) (g2 : Go (fun a => a = W.am ∧ ∃ r, ρ.ora = some r) F H F2 H2) (x2 : Ext F2 H2) (ho2 : ∀ r, o' = some r → OraOk W F2 H2 r) (hoo : o'.isSome = true → ρ.ora.isSome = true) :
    Tr W ρ σ F H { ρ with ora := o' } σ F2 H2 := by
  refine ⟨g2.weak fun a h => .inr h, ⟨x2, r.len, fun i s q => ?_, r.apart, fun r q => ho2 r q, fun i h => ?_⟩, fun a h => ?_⟩
  · have so := r.slot i s q
    cases s with
    | no => trivial
    | im d => obtain ⟨x, hx, ix⟩ := so; exact ⟨x, hx, ix.mono g2.ext⟩
    | ow l =>
      obtain ⟨a, vs', hx, hF, hH, ix⟩ := so
      have na : ¬ (a = W.am ∧ ∃ r, ρ.ora = some r) := fun ⟨z, zr⟩ => r.noam i ⟨zr, ⟨l, q⟩, by rw [hx, z]⟩
      refine ⟨a, vs', hx, ?_, g2.keep a _ hH na, ix.mono g2.ext⟩
      cases w : F2 a with
      | none => rfl
      | some y =>
        rcases g2.new a y w with z | z | z
        · rw [hF] at z; cases z
        · rw [hH] at z; cases z
        · exact (na z).elim
  · refine r.noam i ⟨?_, h.2⟩
    obtain ⟨r', hr⟩ := h.1
    have := hoo (by rw [show o' = some r' from hr]; rfl)
    exact Option.isSome_iff_exists.mp this
  · rcases h with h | ⟨h1, r', hr⟩
    · exact .inl (.inl h)
    · have := hoo (by rw [show o' = some r' from hr]; rfl)
      exact .inl (.inr ⟨h1, Option.isSome_iff_exists.mp this⟩)
theorem fn_core {K : PySem.W.Frag} {mg : Str → Option Value} {am : Addr} {E : WX} {m : Fd} {u : Fa} {n : Nat} (hn : ∀ ρ l ρ', u ρ = .ok (l, ρ') → l.length = n) {σ : L2.St} {H : Hp} {Q : VK} (hw : tD ⟨K, mg, am⟩ E (cFn m u) σ H Q) : tCallZ (spD K mg n m) E (tDA ⟨K, mg, am⟩ E u) σ H Q := by
  obtain ⟨ρ, F, rp, q⟩ := hw
  refine ⟨ρ, F, rp, ?_⟩
  unfold cFn bE at q
  cases eu : u ρ with
  | no => rw [eu] at q; exact q
  | ex c fs ρ1 => rw [eu] at q; exact q
  | ok r =>
    obtain ⟨l, ρ1⟩ := r
    rw [eu] at q
    have q' : AtR ⟨K, mg, am⟩ E (Is ⟨K, mg, am⟩) ρ σ F H Q (fnC ρ1 (m l ρ1.ora)) := q
    intro vs F1 H1 t1 i1
    refine ⟨by rw [i1.length]; exact hn _ _ _ eu, am, F1, l, ρ1.ora, t1.rp.ext, i1, fun r q => t1.rp.ora r q, ?_⟩
    cases em : m l ρ1.ora with
    | no => rw [em] at q'; exact q'
    | ok d o' =>
      rw [em] at q'
      unfold fnC at q'
      simp only at q'
      split at q'
      · rename_i hoo
        exact ⟨hoo, fun v F2 H2 g2 x2 ho2 i2 => q' v F2 H2 (t1.trans (Tr.called t1.rp g2 x2 ho2 hoo)) i2⟩
      · exact q'.elim
    | ex c fs o' =>
      rw [em] at q'
      unfold fnC at q'
      simp only at q'
      split at q'
      · rename_i hoo
        exact ⟨hoo, fun C dx F2 H2 hm g2 x2 ho2 x => q' C dx σ F2 H2 hm (t1.trans (Tr.called t1.rp g2 x2 ho2 hoo)) x⟩
      · exact q'.elim
theorem len_nil (ρ : Env) (l : List D) (ρ' : Env) (h : cNil ρ = .ok (l, ρ')) : l.length = 0 := by cases h; rfl
theorem len_cons {f : Fe} {u : Fa} {n : Nat} (hu : ∀ ρ l ρ', u ρ = .ok (l, ρ') → l.length = n) (ρ : Env) (l : List D) (ρ' : Env) (h : cCons f u ρ = .ok (l, ρ')) : l.length = n + 1 := by
  obtain ⟨d, ρ1, _, e⟩ := bE_ok h
  obtain ⟨l', ρ2, e1, e2⟩ := bE_ok e
  cases e2
  simp [hu _ _ _ e1]
end DL

set_option Elab.async false
set_option linter.all false
set_option maxRecDepth 100000
set_option maxHeartbeats 4000000
namespace DL
open PySem PySem.Spec PyProof.Rows L2
/-! ### what is walked -/
/-- the iterator J yields the data l, whatever is known besides F1 -/
structure JOk (W : Wd) (F1 : Hp) (J : It) (l : List D) : Prop where
  go : ∀ (i : Nat) (F H : Hp), Ext F1 F → Ext F H → i < l.length → J.go i H
  yld : ∀ (i : Nat) (F H : Hp) (x : V) (H' : Hp) (d : D), Ext F1 F → Ext F H → l[i]? = some d → J.yld i H x H' → ∃ F', Nw F H F' H' ∧ Ext F' H' ∧ Is W F' x d
  stop : ∀ (i : Nat) (F H : Hp), Ext F1 F → Ext F H → l.length ≤ i → J.stop i H
theorem JOk.mono {W : Wd} {F1 F2 : Hp} {J : It} {l : List D} (h : JOk W F1 J l) (e : Ext F1 F2) : JOk W F2 J l :=
  ⟨fun i F H a => h.go i F H (e.trans a), fun i F H x H' d a => h.yld i F H x H' d (e.trans a), fun i F H a => h.stop i F H (e.trans a)⟩
abbrev tI (W : Wd) (E : WX) (f : Fa) : TI := tG W E (fun F J l => JOk W F J l) f
abbrev DI (X : Cx) (am : Am) (tg e : Expr) (f : Fa) : Prop := PI X tg e (tI (wd X am) am.E f)
theorem PI.imp {X : Cx} {tg e : Expr} {t u : TI} (h : PI X tg e t) (i : ∀ σ H R, u σ H R → t σ H R) : PI X tg e u := ⟨fun pins s σ H R I hw => h.run pins s σ H R I (i σ H R hw)⟩
theorem PI.or {X : Cx} {tg e : Expr} {t u : TI} (h : PI X tg e t) (h' : PI X tg e u) : PI X tg e (fun σ H R => t σ H R ∨ u σ H R) := ⟨fun pins s σ H R I hw => hw.elim (h.run pins s σ H R I) (h'.run pins s σ H R I)⟩
theorem jok_list {W : Wd} {F : Hp} {a : Addr} {vs : List V} {l : List D} (h : SqL W.K F a vs) (i : IsL W F vs l) : JOk W F (Itl W.K a) l where
  go := fun j F' H e e' hj => by
    have : j < vs.length := by rw [i.length]; exact hj
    exact ⟨vs, vs[j], (e.trans e').l h, by simp [this]⟩
  yld := fun j F' H x H' d e e' hd ⟨hH, hx⟩ => by
    subst hH
    obtain ⟨v, hv, iv⟩ := i.get hd
    have := hx vs ((e.trans e').l h)
    rw [hv] at this
    cases this
    exact ⟨F', Go.refl _ _ _, e', iv.mono e⟩
  stop := fun j F' H e e' hj => ⟨vs, (e.trans e').l h, by rw [i.length]; exact hj⟩
theorem jok_tup {W : Wd} {F : Hp} {a : Addr} {vs : List V} {l : List D} (h : SqT W.K F a vs) (i : IsL W F vs l) : JOk W F (Itt W.K a) l where
  go := fun j F' H e e' hj => by
    have : j < vs.length := by rw [i.length]; exact hj
    exact ⟨vs, vs[j], (e.trans e').t h, by simp [this]⟩
  yld := fun j F' H x H' d e e' hd ⟨hH, hx⟩ => by
    subst hH
    obtain ⟨v, hv, iv⟩ := i.get hd
    have := hx vs ((e.trans e').t h)
    rw [hv] at this
    cases this
    exact ⟨F', Go.refl _ _ _, e', iv.mono e⟩
  stop := fun j F' H e e' hj => ⟨vs, (e.trans e').t h, by rw [i.length]; exact hj⟩
def signs (x : Str) : List D := x.cps.toList.map fun c => D.str ⟨#[c]⟩
theorem jok_str {W : Wd} {F : Hp} (x : Str) : JOk W F (Its x) (signs x) where
  go := fun j F' H e e' hj => by
    show j < x.cps.size
    simpa [signs] using hj
  yld := fun j F' H v H' d e e' hd ⟨hH, c, hc, hv⟩ => by
    subst hH hv
    refine ⟨F', Go.refl _ _ _, e', ?_⟩
    have : d = D.str ⟨#[c]⟩ := by
      unfold signs at hd
      rw [List.getElem?_map, Array.getElem?_toList, hc] at hd
      exact (Option.some.inj hd).symm
    rw [this]
    exact .str _
  stop := fun j F' H e e' hj => by
    show x.cps.size ≤ j
    simpa [signs] using hj
theorem jok_range {W : Wd} {F : Hp} (lo : Int) (n : Nat) : JOk W F (Itr lo n) ((List.range n).map fun i => D.int (lo + (i : Nat))) where
  go := fun j F' H e e' hj => by
    show j < n
    simpa using hj
  yld := fun j F' H v H' d e e' hd ⟨hH, hv⟩ => by
    subst hH hv
    refine ⟨F', Go.refl _ _ _, e', ?_⟩
    rw [List.getElem?_map] at hd
    cases w : (List.range n)[j]? with
    | none => rw [w] at hd; cases hd
    | some k =>
      rw [w] at hd
      have : j = k := by
        rw [List.getElem?_range (by have := (List.getElem?_eq_some_iff.mp w).1; simpa using this)] at w
        exact Option.some.inj w
      subst this
      cases hd
      exact .int _
  stop := fun j F' H e e' hj => by
    show n ≤ j
    simpa using hj
/-- over a list, a tuple, a text -/
def seqD : D → Option (List D)
  | .lst l => some l
  | .tup l => some l
  | .str x => some (signs x)
  | _ => none
def cSeqI (f : Fe) : Fa := bE f fun d ρ => oR (seqD d) fun l => (l, ρ)
theorem di_seq {X : Cx} {am : Am} {tg e : Expr} {f : Fe} (h : DE X am e f) : DI X am tg e (cSeqI f) :=
  PI.imp (PI.or (pi_list (tg := tg) h) (PI.or (pi_tup h) (pi_str h))) fun σ H R ⟨ρ, F, hw⟩ => by
    obtain ⟨rp, q⟩ := hw
    have q : AtR (wd X am) am.E (fun F J l => JOk (wd X am) F J l) ρ σ F H R (bR (f ρ) _) := q
    cases e1 : f ρ with
    | no => rw [e1] at q; exact q.elim
    | ex c fs ρ1 => rw [e1] at q; exact .inl ⟨ρ, F, rp, by rw [e1]; exact q⟩
    | ok r =>
      obtain ⟨d, ρ1⟩ := r
      rw [e1] at q
      cases d with
      | lst l' =>
        refine .inl ⟨ρ, F, At.mk rp e1 fun v F' H' t i => ?_⟩
        cases i with
        | lst hs il => exact ⟨_, rfl, ⟨_, SqL.of (t.rp.ext _ _ hs)⟩, q _ F' H' t (jok_list (SqL.of hs) il)⟩
      | tup l' =>
        refine .inr (.inl ⟨ρ, F, At.mk rp e1 fun v F' H' t i => ?_⟩)
        cases i with
        | tup hs il => exact ⟨_, rfl, ⟨_, t.rp.ext.t hs⟩, q _ F' H' t (jok_tup hs il)⟩
      | str x =>
        refine .inr (.inr ⟨ρ, F, At.mk rp e1 fun v F' H' t i => ?_⟩)
        cases i with
        | str _ => exact ⟨_, rfl, q _ F' H' t (jok_str x)⟩
      | _ => exact q.elim
def rngD : List D → Option (List D)
  | [.int j] => gd (-100000 ≤ j ∧ j ≤ 100000) ((List.range j.toNat).map (fun i => D.int (0 + (i : Nat))))
  | _ => none
def cRng1 (u : Fa) : Fa := bE u fun l ρ => oR (rngD l) fun l => (l, ρ)
theorem di_range1 {X : Cx} {am : Am} {tg a : Expr} {u : Fa} {p pos : Pos} (hg : Gl X "range") (hm : X.mg "range" = none) (hu : DA X am [a] u) (hs : starEach [a] X.env = [(false, eval a X.env)] := by rfl) : DI X am tg (.Call (.Name "range" p) [a] [] pos) (cRng1 u) :=
  PI.imp (pi_range1 hg hm hu hs) fun σ H R ⟨ρ, F, hw⟩ => tG.of (hw.bind (rel := IsL _) fun l ρ1 xs F1 H1 t1 i1 hw => by
    cases i1 with
    | nil => exact hw.2.elim
    | cons i t =>
      cases t with
      | cons _ _ => cases i <;> exact hw.2.elim
      | nil =>
        cases i with
        | int j =>
          have q := hw.2
          by_cases hj : -100000 ≤ j ∧ j ≤ 100000
          · have e : rngD [.int j] = some ((List.range j.toNat).map (fun i => D.int (0 + (i : Nat)))) := gd_yes hj
            rw [e] at q
            exact ⟨j, rfl, by omega, by omega, q _ F1 H1 (Tr.refl hw.1) (jok_range 0 j.toNat)⟩
          · have e : rngD [.int j] = none := if_neg hj
            rw [e] at q
            exact q.elim
        | _ => exact hw.2.elim)
/-! ### targets -/
/-- a target takes a datum -/
abbrev Fg := D → Env → Option Env
/-- only slots of vs change -/
def Chg (vs : List Nat) (σ σ' : L2.St) : Prop := σ'.length = σ.length ∧ ∀ j, j ∉ vs → σ'[j]? = σ[j]?
theorem Chg.refl (vs : List Nat) (σ : L2.St) : Chg vs σ σ := ⟨rfl, fun _ _ => rfl⟩
theorem Chg.trans {vs : List Nat} {σ σ1 σ2 : L2.St} (a : Chg vs σ σ1) (b : Chg vs σ1 σ2) : Chg vs σ σ2 := ⟨b.1.trans a.1, fun j h => (b.2 j h).trans (a.2 j h)⟩
theorem Chg.set {vs : List Nat} {σ : L2.St} {i : Nat} {x : Option V} (h : i ∈ vs) : Chg vs σ (σ.set i x) := ⟨by simp, fun j hj => by
  have : i ≠ j := fun e => hj (e ▸ h)
  rw [List.getElem?_set_ne this]⟩
def gtD (W : Wd) (vs : List Nat) (g : Fg) : TG := fun v σ H Q => ∃ ρ F d ρ', Rp W ρ σ F H ∧ Is W F v d ∧ g d ρ = some ρ' ∧ ∀ σ' F' H', Tr W ρ σ F H ρ' σ' F' H' → Chg vs σ σ' → Q σ' H'
abbrev DG (X : Cx) (am : Am) (vs : List Nat) (e : Expr) (g : Fg) : Prop := PG X e (gtD (wd X am) vs g)
theorem PG.imp {X : Cx} {e : Expr} {t u : TG} (h : PG X e t) (i : ∀ v σ H Q, u v σ H Q → t v σ H Q) : PG X e u := ⟨fun pins s σ H v w Q I r hw => h.run pins s σ H v w Q I r (i v σ H Q hw)⟩
def tgName (i : Nat) : Fg := fun d ρ => gd (i < ρ.sl.length) (ρ.set i (.im d))
theorem dg_name {X : Cx} {am : Am} {pos : Pos} {i : Nat} {x : Str} {vs : List Nat} (hN : X.N.Nodup) (hi : X.N[i]? = some x) (hx : Loc X.env.scope x) (hf : X.fn x = true ∨ X.env.scope.names.lookup x = some .local := by first | exact .inl rfl | exact .inr rfl | assumption) (hv : i ∈ vs := by decide) : DG X am vs (.Name x pos) (tgName i) :=
  PG.imp (pg_name hN hi hx hf) fun v σ H Q ⟨ρ, F, d, ρ', rp, iv, e, q⟩ => by
    obtain ⟨hl, rfl⟩ := gd_some e
    exact q _ F H ((Tr.refl rp).set iv hl) (Chg.set hv)
/-- several targets -/
abbrev Fgs := List D → Env → Option Env
def gtDs (W : Wd) (ws : List Nat) (g : Fgs) : TGs := fun vs σ H Q => ∃ ρ F ds ρ', Rp W ρ σ F H ∧ IsL W F vs ds ∧ g ds ρ = some ρ' ∧ ∀ σ' F' H', Tr W ρ σ F H ρ' σ' F' H' → Chg ws σ σ' → Q σ' H'
abbrev DGs (X : Cx) (am : Am) (vs : List Nat) (es : List Expr) (g : Fgs) : Prop := PGs X es (gtDs (wd X am) vs g)
theorem PGs.imp {X : Cx} {e : List Expr} {t u : TGs} (h : PGs X e t) (i : ∀ v σ H Q, u v σ H Q → t v σ H Q) : PGs X e u := ⟨fun pins s σ H v w Q I r hw => h.run pins s σ H v w Q I r (i v σ H Q hw)⟩
def tgsNil : Fgs := fun ds ρ => match ds with
  | [] => some ρ
  | _ => none
def tgsCons (g : Fg) (gs : Fgs) : Fgs := fun ds ρ => match ds with
  | d :: r => (match g d ρ with
    | some ρ1 => gs r ρ1
    | none => none)
  | [] => none
theorem dgs_nil {X : Cx} {am : Am} {vs : List Nat} : DGs X am vs [] tgsNil := PGs.imp pgs_nil fun v σ H Q ⟨ρ, F, ds, ρ', rp, iv, e, q⟩ => by
  cases iv with
  | nil => cases e; exact ⟨rfl, q σ F H (Tr.refl rp) (Chg.refl _ _)⟩
  | cons _ _ => cases e
theorem dgs_cons {X : Cx} {am : Am} {vs : List Nat} {e : Expr} {es : List Expr} {g : Fg} {gs : Fgs} (h1 : DG X am vs e g) (h2 : DGs X am vs es gs) (hs : (assignEach (e :: es) X.env).map (·.2) = assign e X.env :: (assignEach es X.env).map (·.2) := by rfl) : DGs X am vs (e :: es) (tgsCons g gs) :=
  PGs.imp (pgs_cons h1 h2 hs) fun v σ H Q ⟨ρ, F, ds, ρ', rp, iv, e, q⟩ => by
    cases iv with
    | nil => cases e
    | cons i t =>
      unfold tgsCons at e
      simp only at e
      split at e
      · rename_i ρ1 e1
        exact ⟨_, _, rfl, ρ, F, _, ρ1, rp, i, e1, fun σ1 F1 H1 t1 c1 => ⟨ρ1, F1, _, ρ', t1.rp, t.mono t1.ext, e, fun σ2 F2 H2 t2 c2 => q σ2 F2 H2 (t1.trans t2) (c1.trans c2)⟩⟩
      · cases e
def tgTup (n : Nat) (gs : Fgs) : Fg := fun d ρ => match d with
  | .tup ds => if ds.length = n then gs ds ρ else none
  | _ => none
theorem dg_tup {X : Cx} {am : Am} {vs : List Nat} {pos : Pos} {es : List Expr} {k n : Nat} {gs : Fgs} (hc : X.calm = true) (h : DGs X am vs es gs) (hn : (assignEach es X.env).length = n := by rfl) (hst : (assignEach es X.env).findIdx? (·.1) = none := by rfl) : DG X am vs (.Tuple es k pos) (tgTup n gs) :=
  PG.imp (pg_tup hc h hn hst) fun v σ H Q ⟨ρ, F, d, ρ', rp, iv, e, q⟩ => by
    cases iv with
    | tup hs il =>
      unfold tgTup at e
      simp only at e
      split at e
      · rename_i hl
        exact ⟨_, _, rfl, rp.ext.t hs, by rw [il.length]; exact hl, ρ, F, _, ρ', rp, il, e, q⟩
      · cases e
    | _ => cases e
/-! ### for -/
def forD (g : Fg) (body : Fs) : List D → Fs
  | [], ρ => .ok (.nx ρ)
  | d :: r, ρ => match g d ρ with
    | none => .no
    | some ρ1 => match body ρ1 with
      | .ok (.nx ρ2) => forD g body r ρ2
      | .ok (.ct ρ2) => forD g body r ρ2
      | .ok (.bk ρ2) => .ok (.nx ρ2)
      | .ok (.rt d ρ2) => .ok (.rt d ρ2)
      | .ex c fs ρ2 => .ex c fs ρ2
      | .no => .no
def sFor (f : Fa) (g : Fg) (body : Fs) : Fs := bS f fun l => forD g body l
theorem ds_for {X : Cx} {am : Am} {vs : List Nat} {tg iter : Expr} {body : List Stmt} {pos : Pos} {f : Fa} {g : Fg} {b : Fs} (hp : PassesOwn (model X.prog X.w) X.A X.env X.xe) (hc : X.calm = true) (hi : DI X am tg iter f) (hg : DG X am vs tg g) (hb : DSs X am body b) (hs : ∀ x, foldedSetIterable iter X.env x = pure x := by intro _; rfl) : DS X am (.For tg iter body [] pos) (sFor f g b) :=
  PS.imp (ps_for hp hc hi hg hb hs) fun N σ H ⟨ρ, F, hw⟩ => tG.of (hw.bind (rel := fun F J l => JOk _ F J l) fun l ρ1 J F1 H1 t1 jok hw => by
    obtain ⟨rp, q⟩ := hw
    obtain ⟨fl, e⟩ : ∃ fl, forD g b l ρ1 = fl := ⟨_, rfl⟩
    have q : Flk (wd X am) am.E ρ1 σ F1 H1 N (forD g b l ρ1) := q
    rw [e] at q
    refine ⟨fun i m σ' H' => m = l.length - i ∧ i ≤ l.length ∧ ∃ ρ' F', Tr (wd X am) ρ1 σ F1 H1 ρ' σ' F' H' ∧ forD g b (l.drop i) ρ' = fl, ⟨l.length, by simp, Nat.zero_le _, ρ1, F1, Tr.refl rp, by simpa using e⟩, ?_⟩
    rintro i m σ' H' ⟨rfl, hi, ρ', F', t, ef⟩
    have q' := q.after t
    by_cases hlt : i < l.length
    · refine .inr ⟨jok.go i F' H' t.ext t.rp.ext hlt, ?_⟩
      have ed : l.drop i = l[i] :: l.drop (i + 1) := List.drop_eq_getElem_cons hlt
      rw [ed] at ef
      unfold forD at ef
      split at ef
      · rw [← ef] at q; exact q.elim
      · rename_i ρ2 eg
        refine ⟨fun σ2 H2 => ∃ ρ3 F3, Tr (wd X am) ρ1 σ F1 H1 ρ3 σ2 F3 H2 ∧ forD g b (l.drop (i + 1)) ρ3 = fl, fun σ2 H2 ⟨ρ3, F3, t3, e3⟩ => ⟨l.length - (i + 1), by omega, rfl, hlt, ρ3, F3, t3, e3⟩, fun x H2 hy => ?_⟩
        obtain ⟨F2, nw, ex, ix⟩ := jok.yld i F' H' x H2 l[i] t.ext t.rp.ext (by simp [hlt]) hy
        have t2 := t.trans (Tr.nw t.rp nw ex)
        refine ⟨ρ', F2, l[i], ρ2, t2.rp, ix, eg, fun σ3 F3 H3 t3 _ => ?_⟩
        have t4 := t2.trans t3
        have q4 := q.after t4
        refine ⟨ρ2, F3, t3.rp, ?_⟩
        cases eb : b ρ2 with
        | no => rw [eb] at ef; rw [← ef] at q4; exact q4
        | ex c fs ρ5 => rw [eb] at ef; rw [← ef] at q4; exact q4
        | ok fl2 =>
          rw [eb] at ef
          cases fl2 with
          | nx ρ5 => exact fun σ5 F5 H5 t5 => ⟨ρ5, F5, t4.trans t5, ef⟩
          | ct ρ5 => exact fun σ5 F5 H5 t5 => ⟨ρ5, F5, t4.trans t5, ef⟩
          | bk ρ5 => rw [← ef] at q4; exact q4
          | rt d ρ5 => rw [← ef] at q4; exact q4
    · refine .inl ⟨jok.stop i F' H' t.ext t.rp.ext (by omega), ?_⟩
      have ed : l.drop i = [] := List.drop_eq_nil_of_le (by omega)
      rw [ed] at ef
      rw [← ef] at q'
      exact q' σ' F' H' (Tr.refl t.rp))
/-! ### while -/
def whD (p : Ft) (body : Fs) : Nat → Fs
  | 0, _ => .no
  | n + 1, ρ => match p ρ with
    | .no => .no
    | .ex c fs ρ1 => .ex c fs ρ1
    | .ok (false, ρ1) => .ok (.nx ρ1)
    | .ok (true, ρ1) => match body ρ1 with
      | .ok (.nx ρ2) => whD p body n ρ2
      | .ok (.ct ρ2) => whD p body n ρ2
      | .ok (.bk ρ2) => .ok (.nx ρ2)
      | .ok (.rt d ρ2) => .ok (.rt d ρ2)
      | .ex c fs ρ2 => .ex c fs ρ2
      | .no => .no
end DL

set_option Elab.async false
set_option linter.all false
set_option maxRecDepth 100000
set_option maxHeartbeats 4000000
namespace DL
open PySem PySem.Spec PyProof.Rows L2
/-! ### a block's own slots -/
def wipeS (l : List Slot) : List Nat → List Slot
  | [] => l
  | v :: vs => (wipeS l vs).set v .no
def backS (l0 l : List Slot) : List Nat → List Slot
  | [] => l
  | v :: vs => (backS l0 l vs).set v (l0.getD v .no)
def Env.wipe (ρ : Env) (vs : List Nat) : Env := { ρ with sl := wipeS ρ.sl vs }
def Env.back (ρ ρ0 : Env) (vs : List Nat) : Env := { ρ with sl := backS ρ0.sl ρ.sl vs }
theorem wipeS_len (l : List Slot) : ∀ vs, (wipeS l vs).length = l.length
  | [] => rfl
  | v :: vs => by simp [wipeS, wipeS_len l vs]
theorem backS_len (l0 l : List Slot) : ∀ vs, (backS l0 l vs).length = l.length
  | [] => rfl
  | v :: vs => by simp [backS, backS_len l0 l vs]
theorem wipeS_get {l : List Slot} {i : Nat} {s : Slot} : ∀ {vs : List Nat}, (wipeS l vs)[i]? = some s → s ≠ .no → l[i]? = some s ∧ i ∉ vs
  | [], h, _ => ⟨h, by simp⟩
  | v :: vs, h, n => by
    unfold wipeS at h
    by_cases e : v = i
    · subst e
      rw [List.getElem?_set] at h
      simp only [if_true] at h
      split at h
      · cases h; exact absurd rfl n
      · cases h
    · rw [List.getElem?_set_ne e] at h
      obtain ⟨h1, h2⟩ := wipeS_get h n
      exact ⟨h1, by simp [h2, Ne.symm e]⟩
theorem wipeV_get {σ : L2.St} {i : Nat} : ∀ {vs : List Nat}, i ∉ vs → (wipe σ vs)[i]? = σ[i]?
  | [], _ => rfl
  | v :: vs, h => by
    unfold wipe
    have : v ≠ i := fun e => h (by simp [e])
    rw [List.getElem?_set_ne this, wipeV_get fun z => h (by simp [z])]
theorem backS_out {l0 l : List Slot} {i : Nat} : ∀ {vs : List Nat}, i ∉ vs → (backS l0 l vs)[i]? = l[i]?
  | [], _ => rfl
  | v :: vs, h => by
    unfold backS
    have : v ≠ i := fun e => h (by simp [e])
    rw [List.getElem?_set_ne this, backS_out fun z => h (by simp [z])]
theorem backS_in {l0 l : List Slot} {i : Nat} {s : Slot} : ∀ {vs : List Nat}, i ∈ vs → (backS l0 l vs)[i]? = some s → s = l0.getD i .no
  | [], h, _ => by cases h
  | v :: vs, h, e => by
    unfold backS at e
    by_cases q : v = i
    · subst q
      rw [List.getElem?_set] at e
      simp only [if_true] at e
      split at e
      · exact (Option.some.inj e).symm
      · cases e
    · rw [List.getElem?_set_ne q] at e
      rcases List.mem_cons.mp h with z | z
      · exact absurd z.symm q
      · exact backS_in z e
section
variable {W : Wd} {ρ ρ1 : Env} {σ σ1 : L2.St} {F H F1 H1 : Hp} {vs : List Nat}
theorem ownAt_wipe {i : Nat} {a : Addr} (h : OwnAt (ρ.wipe vs) (wipe σ vs) i a) : OwnAt ρ σ i a ∧ i ∉ vs := by
  obtain ⟨⟨l, h1⟩, h2⟩ := h
  obtain ⟨h3, h4⟩ := wipeS_get (show (wipeS ρ.sl vs)[i]? = _ from h1) (by intro z; cases z)
  rw [wipeV_get h4] at h2
  exact ⟨⟨⟨l, h3⟩, h2⟩, h4⟩
theorem own_wipe {a : Addr} (h : Own W (ρ.wipe vs) (wipe σ vs) a) : Own W ρ σ a := by
  rcases h with ⟨i, h⟩ | h
  · exact .inl ⟨i, (ownAt_wipe h).1⟩
  · exact .inr h
theorem Rp.wipe (r : Rp W ρ σ F H) (vs : List Nat) : Rp W (ρ.wipe vs) (L2.wipe σ vs) F H := by
  refine ⟨r.ext, by simp [Env.wipe, wipeS_len, wipe_length, r.len], fun i s q => ?_, fun i j a h1 h2 => r.apart i j a (ownAt_wipe h1).1 (ownAt_wipe h2).1, r.ora, fun i h => r.noam i ⟨h.1, (ownAt_wipe h.2).1⟩⟩
  cases s with
  | no => trivial
  | im d =>
    obtain ⟨h1, h2⟩ := wipeS_get (show (wipeS ρ.sl vs)[i]? = _ from q) (by intro z; cases z)
    rw [wipeV_get h2]
    exact r.slot i _ h1
  | ow l =>
    obtain ⟨h1, h2⟩ := wipeS_get (show (wipeS ρ.sl vs)[i]? = _ from q) (by intro z; cases z)
    rw [wipeV_get h2]
    exact r.slot i _ h1
theorem Tr.wipe (t : Tr W ρ σ F H ρ1 σ1 F1 H1) (vs : List Nat) : Tr W ρ σ F H (ρ1.wipe vs) (L2.wipe σ1 vs) F1 H1 := ⟨t.go, t.rp.wipe vs, fun a h => t.own a (own_wipe h)⟩
/-- behind a block -/
theorem Tr.back (r : Rp W ρ σ F H) (t : Tr W (ρ.wipe vs) (L2.wipe σ vs) F H ρ1 (L2.wipe σ vs) F1 H1) : Tr W ρ σ F H (ρ1.back ρ vs) σ F1 H1 := by
  have g : Go (Own W ρ σ) F H F1 H1 := t.go.weak fun a h => own_wipe h
  have lenσ : ρ1.sl.length = σ.length := by rw [t.rp.len, wipe_length]
  -- an own list of the block's slots is not touched
  have kept : ∀ i a, i ∈ vs → OwnAt ρ σ i a → ¬ Own W (ρ.wipe vs) (L2.wipe σ vs) a := fun i a hi ho z => by
    rcases z with ⟨j, hj⟩ | ⟨h1, h2⟩
    · have := r.apart j i a (ownAt_wipe hj).1 ho
      exact (ownAt_wipe hj).2 (this ▸ hi)
    · exact r.noam i ⟨h2, by rw [← h1]; exact ho⟩
  have oat : ∀ i a, OwnAt (ρ1.back ρ vs) σ i a → (i ∈ vs ∧ OwnAt ρ σ i a) ∨ (i ∉ vs ∧ OwnAt ρ1 (L2.wipe σ vs) i a) := fun i a ⟨⟨l, h1⟩, h2⟩ => by
    by_cases hi : i ∈ vs
    · refine .inl ⟨hi, ⟨l, ?_⟩, h2⟩
      have e := backS_in hi (show (backS ρ.sl ρ1.sl vs)[i]? = _ from h1)
      rw [List.getD_eq_getElem?_getD] at e
      cases w : ρ.sl[i]? with
      | none => rw [w] at e; cases e
      | some s => rw [w] at e; exact congrArg some e.symm
    · refine .inr ⟨hi, ⟨l, ?_⟩, by rw [wipeV_get hi]; exact h2⟩
      rw [← backS_out (l0 := ρ.sl) (vs := vs) hi]; exact h1
  refine ⟨g, ⟨t.rp.ext, by simp [Env.back, backS_len, lenσ], fun i s q => ?_, fun i j a h1 h2 => ?_, t.rp.ora, fun i h => ?_⟩, fun a h => ?_⟩
  · by_cases hi : i ∈ vs
    · have e := backS_in hi (show (backS ρ.sl ρ1.sl vs)[i]? = _ from q)
      rw [List.getD_eq_getElem?_getD] at e
      cases w : ρ.sl[i]? with
      | none => rw [w] at e; rw [e]; trivial
      | some s' =>
        rw [w] at e
        have e' : s = s' := e
        subst e'
        have so := r.slot i s w
        cases s with
        | no => trivial
        | im d => obtain ⟨x, hx, ix⟩ := so; exact ⟨x, hx, ix.mono g.ext⟩
        | ow l =>
          obtain ⟨a, vs', hx, hF, hH, ix⟩ := so
          have nk := kept i a hi ⟨⟨l, w⟩, hx⟩
          refine ⟨a, vs', hx, ?_, t.go.keep a _ hH nk, ix.mono g.ext⟩
          cases z : F1 a with
          | none => rfl
          | some y =>
            rcases t.go.new a y z with u | u | u
            · rw [hF] at u; cases u
            · rw [hH] at u; cases u
            · exact (nk u).elim
    · rw [show (ρ1.back ρ vs).sl[i]? = ρ1.sl[i]? from backS_out hi] at q
      have so := t.rp.slot i s q
      rw [wipeV_get hi] at so
      exact so
  · rcases oat i a h1 with ⟨i1, o1⟩ | ⟨i1, o1⟩ <;> rcases oat j a h2 with ⟨j1, o2⟩ | ⟨j1, o2⟩
    · exact r.apart i j a o1 o2
    · exfalso
      have hx : H a = none ∨ Own W (ρ.wipe vs) (L2.wipe σ vs) a := (t.own a (.inl ⟨j, o2⟩)).symm
      rcases hx with z | z
      · obtain ⟨l, hl⟩ := o1.1
        obtain ⟨a', _, hx, _, hH, _⟩ := r.slot i _ hl
        rw [o1.2] at hx
        cases hx
        rw [z] at hH; cases hH
      · exact kept i a i1 o1 z
    · exfalso
      have hx : H a = none ∨ Own W (ρ.wipe vs) (L2.wipe σ vs) a := (t.own a (.inl ⟨i, o1⟩)).symm
      rcases hx with z | z
      · obtain ⟨l, hl⟩ := o2.1
        obtain ⟨a', _, hx, _, hH, _⟩ := r.slot j _ hl
        rw [o2.2] at hx
        cases hx
        rw [z] at hH; cases hH
      · exact kept j a j1 o2 z
    · exact t.rp.apart i j a o1 o2
  · rcases oat i _ h.2 with ⟨i1, o1⟩ | ⟨i1, o1⟩
    · rcases t.own W.am (.inr ⟨rfl, h.1⟩) with z | z
      · exact kept i _ i1 o1 z
      · obtain ⟨l, hl⟩ := o1.1
        obtain ⟨a', _, hx, _, hH, _⟩ := r.slot i _ hl
        rw [o1.2] at hx
        cases hx
        rw [z] at hH; cases hH
    · exact t.rp.noam i ⟨h.1, o1⟩
  · rcases h with ⟨i, h⟩ | h
    · rcases oat i a h with ⟨i1, o1⟩ | ⟨i1, o1⟩
      · exact .inl (.inl ⟨i, o1⟩)
      · exact (t.own a (.inl ⟨i, o1⟩)).imp own_wipe id
    · exact (t.own a (.inr h)).imp own_wipe id
/-- a new object, not known to F -/
theorem Tr.put {p : Addr} {o : HO} (t : Tr W ρ σ F H ρ1 σ1 F1 H1) (hp : H p = none) (hF : F1 p = none) (ho : ¬ Own W ρ1 σ1 p) : Tr W ρ σ F H ρ1 σ1 F1 (upd H1 p o) := by
  have np : ∀ a x, F1 a = some x → a ≠ p := fun a x e z => by rw [z, hF] at e; cases e
  refine ⟨⟨t.go.ext, fun a x e n => by rw [upd_ne (ne_of_none e hp)]; exact t.go.keep a x e n, t.go.new⟩, ⟨fun a x e => by rw [upd_ne (np a x e)]; exact t.rp.ext a x e, t.rp.len, fun i s q => ?_, t.rp.apart, fun o q => ?_, t.rp.noam⟩, t.own⟩
  · have so := t.rp.slot i s q
    cases s with
    | no => trivial
    | im d => exact so
    | ow l =>
      obtain ⟨a, vs', hx, hF', hH, ix⟩ := so
      have : a ≠ p := fun z => ho (.inl ⟨i, ⟨l, q⟩, by rw [← z]; exact hx⟩)
      exact ⟨a, vs', hx, hF', by rw [upd_ne this]; exact hH, ix⟩
  · obtain ⟨h1, c, hc, h2, h3⟩ := t.rp.ora o q
    have : W.am ≠ p := fun z => ho (.inr ⟨z.symm, o, q⟩)
    exact ⟨h1, c, hc, by rw [upd_ne this]; exact h2, h3⟩
/-- .. and then it is known -/
theorem Tr.frz {p : Addr} {o : HO} (t : Tr W ρ σ F H ρ1 σ1 F1 H1) (hp : H p = none) (hF : F1 p = none) (hH : H1 p = some o) (ho : ¬ Own W ρ1 σ1 p) : Tr W ρ σ F H ρ1 σ1 (upd F1 p o) H1 := by
  refine ⟨⟨t.go.ext.trans (Ext.new hF), t.go.keep, fun a x e => ?_⟩, ⟨fun a x e => ?_, t.rp.len, fun i s q => ?_, t.rp.apart, fun o' q => ?_, t.rp.noam⟩, t.own⟩
  · by_cases z : a = p
    · exact .inr (.inl (by rw [z]; exact hp))
    · rw [upd_ne z] at e; exact t.go.new a x e
  · by_cases z : a = p
    · subst z; rw [upd_same] at e; cases e; exact hH
    · rw [upd_ne z] at e; exact t.rp.ext a x e
  · have so := t.rp.slot i s q
    cases s with
    | no => trivial
    | im d => obtain ⟨x, hx, ix⟩ := so; exact ⟨x, hx, ix.mono (Ext.new hF)⟩
    | ow l =>
      obtain ⟨a, vs', hx, hF', hH', ix⟩ := so
      have : a ≠ p := fun z => ho (.inl ⟨i, ⟨l, q⟩, by rw [← z]; exact hx⟩)
      exact ⟨a, vs', hx, by rw [upd_ne this]; exact hF', hH', ix.mono (Ext.new hF)⟩
  · obtain ⟨h1, c, hc, h2, h3⟩ := t.rp.ora o' q
    have : W.am ≠ p := fun z => ho (.inr ⟨z.symm, o', q⟩)
    exact ⟨by rw [upd_ne this]; exact h1, c, hc, h2, Ext.new hF _ _ h3⟩
/-- an object besides stays -/
theorem Tr.besides {p : Addr} {o : HO} (t : Tr W ρ σ F H ρ1 σ1 F1 H1) (hF : F p = none) (hH : H p = some o) (ho : ¬ Own W ρ σ p) : F1 p = none ∧ H1 p = some o ∧ ¬ Own W ρ1 σ1 p := by
  refine ⟨?_, t.go.keep p o hH ho, fun z => ?_⟩
  · cases e : F1 p with
    | none => rfl
    | some x =>
      rcases t.go.new p x e with u | u | u
      · rw [hF] at u; cases u
      · rw [hH] at u; cases u
      · exact (ho u).elim
  · rcases t.own p z with u | u
    · exact ho u
    · rw [hH] at u; cases u
end
theorem wipe_chg {σ σ' : L2.St} {vs : List Nat} (h : Chg vs σ σ') : wipe σ' vs = wipe σ vs := by
  apply List.ext_getElem?
  intro i
  by_cases hi : i ∈ vs
  · have : ∀ (σ : L2.St), (wipe σ vs)[i]? = (if i < σ.length then some none else none) := by
      intro σ
      clear h
      induction vs with
      | nil => cases hi
      | cons v vs ih =>
        unfold wipe
        by_cases e : v = i
        · subst e
          rw [List.getElem?_set]
          simp [wipe_length]
        · rw [List.getElem?_set_ne e]
          exact ih (by simpa [Ne.symm e] using hi)
    rw [this, this, h.1]
  · rw [wipeV_get hi, wipeV_get hi, h.2 i hi]
theorem Chg.wiped {σ σ' : L2.St} {vs : List Nat} (h : Chg vs (wipe σ vs) σ') : wipe σ' vs = wipe σ vs := by
  rw [wipe_chg h]
  apply List.ext_getElem?
  intro i
  by_cases hi : i ∈ vs
  · have : ∀ (σ : L2.St), (wipe σ vs)[i]? = (if i < σ.length then some none else none) := by
      intro σ
      clear h
      induction vs with
      | nil => cases hi
      | cons v vs ih =>
        unfold wipe
        by_cases e : v = i
        · subst e
          rw [List.getElem?_set]
          simp [wipe_length]
        · rw [List.getElem?_set_ne e]
          exact ih (by simpa [Ne.symm e] using hi)
    rw [this, this, wipe_length]
  · rw [wipeV_get hi]
/-! ### list comprehensions -/
def lcD (g : Fg) (p : Ft) (f : Fe) (vs : List Nat) : List D → List D → Env → Option (List D × Env)
  | [], acc, ρ => some (acc, ρ)
  | d :: r, acc, ρ => match g d ρ with
    | none => none
    | some ρ1 => match p ρ1 with
      | .ok (false, ρ2) => lcD g p f vs r acc (ρ2.wipe vs)
      | .ok (true, ρ2) => (match f ρ2 with
        | .ok (y, ρ3) => if acc.length < 100000 then lcD g p f vs r (acc ++ [y]) (ρ3.wipe vs) else none
        | _ => none)
      | _ => none
def cLc (fi : Fa) (g : Fg) (p : Ft) (f : Fe) (vs : List Nat) : Fe := bE fi fun l ρ => oR (lcD g p f vs l [] (ρ.wipe vs)) fun r => (.lst r.1, r.2.back ρ vs)
def cYes : Ft := fun ρ => .ok (true, ρ)
abbrev noE : WX := fun _ _ _ _ => False
theorem lc_core' {W : Wd} {E : WX} {fi : Fa} {g : Fg} {p : Ft} {f : Fe} {vs : List Nat} {σ : L2.St} {H : Hp} {Q : VK} (hw : tD W E (cLc fi g p f vs) σ H Q) : tLc (tI W E fi) (gtD W vs g) (tDT W noE p) (tD W noE f) vs σ H Q := by
  obtain ⟨ρ, F, hw⟩ := hw
  refine tG.of (hw.bind (rel := fun F J l => JOk _ F J l) fun l ρ1 J F1 H1 t1 jok hw => ?_)
  obtain ⟨rp, q⟩ := hw
  have q : AtR W E (Is W) ρ1 σ F1 H1 Q (oR (lcD g p f vs l [] (ρ1.wipe vs)) fun r => (.lst r.1, r.2.back ρ1 vs)) := q
  intro Dl hD
  cases el : lcD g p f vs l [] (ρ1.wipe vs) with
  | none => rw [el] at q; exact q.elim
  | some re =>
    obtain ⟨acc, ρe⟩ := re
    rw [el] at q
    have hFD : F1 Dl = none := rp.ext.free hD
    have rpw := rp.wipe vs
    have noD : ¬ Own W (ρ1.wipe vs) (wipe σ vs) Dl := fun z => by
      rcases own_wipe z with ⟨i, ⟨l', h1⟩, h2⟩ | ⟨h1, o, ho⟩
      · obtain ⟨a, _, hx, _, hH, _⟩ := rp.slot i _ h1
        rw [h2] at hx; cases hx
        rw [hD] at hH; cases hH
      · obtain ⟨_, c, _, hH, _⟩ := rp.ora o ho
        rw [← h1, hD] at hH; cases hH
    refine ⟨fun i m H' => m = l.length - i ∧ i ≤ l.length ∧ ∃ ρi Fi vacc iacc, Tr W (ρ1.wipe vs) (wipe σ vs) F1 H1 ρi (wipe σ vs) Fi H' ∧ Fi Dl = none ∧ H' Dl = some (.lst vacc) ∧ ¬ Own W ρi (wipe σ vs) Dl ∧ IsL W Fi vacc iacc ∧ lcD g p f vs (l.drop i) iacc ρi = some (acc, ρe),
      ⟨l.length, by simp, Nat.zero_le _, ρ1.wipe vs, F1, [], [], (Tr.refl rpw).put hD hFD noD, hFD, upd_same, noD, .nil, by simpa using el⟩, ?_⟩
    rintro i m H' ⟨rfl, hi, ρi, Fi, vacc, iacc, t, hF, hH, hO, il, ef⟩
    by_cases hlt : i < l.length
    · refine .inr ⟨jok.go i Fi H' t.ext t.rp.ext hlt, fun H2 => i + 1 ≤ l.length ∧ ∃ ρi Fi vacc iacc, Tr W (ρ1.wipe vs) (wipe σ vs) F1 H1 ρi (wipe σ vs) Fi H2 ∧ Fi Dl = none ∧ H2 Dl = some (.lst vacc) ∧ ¬ Own W ρi (wipe σ vs) Dl ∧ IsL W Fi vacc iacc ∧ lcD g p f vs (l.drop (i + 1)) iacc ρi = some (acc, ρe),
        fun H2 h => ⟨l.length - (i + 1), by omega, rfl, h.1, h.2⟩, fun x H2 hy => ?_⟩
      have ed : l.drop i = l[i] :: l.drop (i + 1) := List.drop_eq_getElem_cons hlt
      rw [ed] at ef
      unfold lcD at ef
      split at ef
      · cases ef
      · rename_i ρ2 eg
        obtain ⟨F2, nw, ex, ix⟩ := jok.yld i Fi H' x H2 l[i] t.ext t.rp.ext (by simp [hlt]) hy
        have tn := Tr.nw t.rp nw ex
        have b2 := tn.besides hF hH hO
        refine ⟨ρi, F2, l[i], ρ2, tn.rp, ix, eg, fun σ3 F3 H3 t3 c3 => ⟨c3.wiped, ?_⟩⟩
        have b3 := t3.besides b2.1 b2.2.1 b2.2.2
        have tt := (t.trans tn).trans t3
        have ew : wipe σ3 vs = wipe σ vs := c3.wiped
        split at ef
        · rename_i ρ4 ep
          refine ⟨ρ2, F3, At.mk t3.rp ep fun b F4 H4 t4 r4 => ?_⟩
          cases r4
          rw [if_neg Bool.false_ne_true]
          have b4 := t4.besides b3.1 b3.2.1 b3.2.2
          have t5 := (tt.trans t4).wipe vs
          rw [ew] at t5
          refine ⟨hlt, ρ4.wipe vs, F4, vacc, iacc, t5, b4.1, b4.2.1, fun z => b4.2.2 (own_wipe (by rw [ew]; exact z)), il.mono ((nw.ext.trans t3.ext).trans t4.ext), ef⟩
        · rename_i ρ4 ep
          refine ⟨ρ2, F3, At.mk t3.rp ep fun b F4 H4 t4 r4 => ?_⟩
          cases r4
          rw [if_pos rfl]
          have b4 := t4.besides b3.1 b3.2.1 b3.2.2
          split at ef
          · rename_i y ρ5 ey
            split at ef
            · rename_i hz
              refine ⟨ρ4, F4, At.mk t4.rp ey fun vy F5 H5 t5 i5 => ?_⟩
              have b5 := t5.besides b4.1 b4.2.1 b4.2.2
              refine ⟨vacc, b5.2.1, by rw [il.length]; exact Nat.lt_of_lt_of_le hz (by decide), hlt, ?_⟩
              have t6 := ((tt.trans t4).trans t5).wipe vs
              rw [ew] at t6
              have nO : ¬ Own W (ρ5.wipe vs) (wipe σ vs) Dl := fun z => b5.2.2 (own_wipe (by rw [ew]; exact z))
              exact ⟨ρ5.wipe vs, F5, vacc ++ [vy], iacc ++ [y], t6.put hD b5.1 nO, b5.1, upd_same, nO, (il.mono (((nw.ext.trans t3.ext).trans t4.ext).trans t5.ext)).append (.cons i5 .nil), ef⟩
            · cases ef
          · cases ef
        · cases ef
    · refine .inl ⟨jok.stop i Fi H' t.ext t.rp.ext (by omega), ?_⟩
      have ed : l.drop i = [] := List.drop_eq_nil_of_le (by omega)
      rw [ed] at ef
      cases ef
      have tf := t.frz hD hF hH hO
      exact q (.ref Dl) _ H' (Tr.back rp tf) (.lst upd_same (il.mono (Ext.new hF)))
theorem de_lc {X : Cx} {am : Am} {elt tg iter : Expr} {ifs : List Expr} {scope : Scope} {own : List (Str × Nat)} {pos : Pos} {fi : Fa} {g : Fg} {p : Ft} {f : Fe} (hc : X.calm = true) (hN : X.N.Nodup) (hi : DI X am tg iter fi) (ok : BlkOk X.N X.env.scope scope own)
    (hg : ∀ (s : Shared) (H : Hp) (C : Addr) (cl : List (Str × Addr)) (fp : List Addr), DG (X.blk s H scope (compEnvC scope cl C X.env) fp) am.not (own.map (·.2)) tg g)
    (ht : ∀ (s : Shared) (H : Hp) (C : Addr) (cl : List (Str × Addr)) (fp : List Addr), PTs (X.blk s H scope (compEnvC scope cl C X.env) fp) ifs (tDT (wd X am) noE p))
    (he : ∀ (s : Shared) (H : Hp) (C : Addr) (cl : List (Str × Addr)) (fp : List Addr), DE (X.blk s H scope (compEnvC scope cl C X.env) fp) am.not elt f) (hs : ∀ x, foldedSetIterable iter X.env x = pure x := by intro _; rfl) :
    DE X am (.ListComp elt [⟨tg, iter, ifs, 0⟩] scope pos) (cLc fi g p f (own.map (·.2))) :=
  PE.imp (pe_lc hc hN hi ok hg ht he hs) fun σ H Q hw => lc_core' hw
theorem dts_nil {X : Cx} {am : Am} : PTs X [] (tDT (wd X am) am.E cYes) := ⟨fun pins s σ H Q I hw => pts_nil.run pins s σ H Q I (by
  obtain ⟨ρ, F, h⟩ := hw
  exact At.ret (d := true) h rfl)⟩
theorem dts_one {X : Cx} {am : Am} {c : Expr} {p : Ft} (h : DT X am c p) : PTs X [c] (tDT (wd X am) am.E p) := pts_one h
/-- y = [..] -/
theorem ds_setLc {X : Cx} {am : Am} {i : Nat} {y : Str} {py : Pos} {elt tg iter : Expr} {ifs : List Expr} {scope : Scope} {own : List (Str × Nat)} {pos spos : Pos} {fi : Fa} {g : Fg} {p : Ft} {f : Fe} (hc : X.calm = true) (hN : X.N.Nodup) (hy : X.N[i]? = some y) (hyl : X.env.scope.names.lookup y = some .local)
    (hsw : swapsWith (.ListComp elt [⟨tg, iter, ifs, 0⟩] scope pos) (some (.Name y py)) spos.line X.env = pure true) (hi : DI X am tg iter fi) (ok : BlkOk X.N X.env.scope scope own)
    (hg : ∀ (s : Shared) (H : Hp) (C : Addr) (cl : List (Str × Addr)) (fp : List Addr), DG (X.blk s H scope (compEnvC scope cl C X.env) fp) am.not (own.map (·.2)) tg g)
    (ht : ∀ (s : Shared) (H : Hp) (C : Addr) (cl : List (Str × Addr)) (fp : List Addr), PTs (X.blk s H scope (compEnvC scope cl C X.env) fp) ifs (tDT (wd X am) noE p))
    (he : ∀ (s : Shared) (H : Hp) (C : Addr) (cl : List (Str × Addr)) (fp : List Addr), DE (X.blk s H scope (compEnvC scope cl C X.env) fp) am.not elt f) (hs : ∀ x, foldedSetIterable iter X.env x = pure x := by intro _; rfl) :
    DS X am (.Assign [.Name y py] (.ListComp elt [⟨tg, iter, ifs, 0⟩] scope pos) spos) (sSet i (cLc fi g p f (own.map (·.2)))) :=
  PS.imp (ps_setLc hc hN hy hyl hsw hi ok hg ht he hs) fun N σ H ⟨ρ, F, hw⟩ => by
    refine lc_core' (tG.of (hw.bind (rel := Is _) fun d ρ1 x F1 H1 t1 i1 ⟨r, q⟩ => ?_))
    obtain ⟨hl, q⟩ := q.gR
    exact q _ F1 H1 ((Tr.refl r).set i1 hl)
end DL

set_option Elab.async false
set_option linter.all false
set_option maxRecDepth 100000
set_option maxHeartbeats 4000000
namespace DL
open PySem PySem.Spec PyProof.Rows L2
section
variable {W : Wd} {ρ ρ1 : Env} {σ σ1 : L2.St} {F H F1 H1 : Hp}
theorem own_there (r : Rp W ρ σ F H) {a : Addr} (h : Own W ρ σ a) : ∃ x, H a = some x := by
  rcases h with ⟨i, ⟨l, h1⟩, h2⟩ | ⟨h1, o, ho⟩
  · obtain ⟨a', x, hx, _, hH, _⟩ := r.slot i _ h1
    rw [h2] at hx; cases hx
    exact ⟨x, hH⟩
  · obtain ⟨_, c, _, hH, _⟩ := r.ora o ho
    rw [h1]; exact ⟨_, hH⟩
theorem own_fresh (r : Rp W ρ σ F H) {p : Addr} (hp : H p = none) : ¬ Own W ρ σ p := fun z => by
  obtain ⟨x, hx⟩ := own_there r z
  rw [hp] at hx; cases hx
/-- an object of one's own is changed -/
theorem Tr.chg {i : Nat} {a : Addr} {h : HO} {o o' : OO} (r : Rp W ρ σ F H) (hs : ρ.sl[i]? = some (.ow o)) (ha : σ[i]? = some (some (.ref a))) (ok : OOk W F a h o') : Tr W ρ σ F H (ρ.set i (.ow o')) σ F (upd H a h) := by
  have hi : i < ρ.sl.length := (List.getElem?_eq_some_iff.mp hs).1
  obtain ⟨a', x, hx, hF, hH, _⟩ := r.slot i _ hs
  rw [ha] at hx
  cases hx
  have oa : OwnAt ρ σ i a := ⟨⟨o, hs⟩, ha⟩
  have oat : ∀ j b, OwnAt (ρ.set i (.ow o')) σ j b → OwnAt ρ σ j b := fun j b ⟨⟨l, h1⟩, h2⟩ => by
    unfold Env.set at h1
    by_cases e : i = j
    · subst e; exact ⟨⟨o, hs⟩, h2⟩
    · simp only [List.getElem?_set_ne e] at h1
      exact ⟨⟨l, h1⟩, h2⟩
  refine ⟨⟨Ext.refl F, fun b y e n => ?_, fun b y e => .inl e⟩, ⟨fun b y e => ?_, by simp [Env.set, r.len], fun j s q => ?_, fun j k b h1 h2 => r.apart j k b (oat j b h1) (oat k b h2), fun p q => ?_, fun j h => r.noam j ⟨h.1, oat j _ h.2⟩⟩, fun b h => ?_⟩
  · have : b ≠ a := fun z => n (by rw [z]; exact .inl ⟨i, oa⟩)
    rw [upd_ne this]; exact e
  · have : b ≠ a := fun z => by rw [z, hF] at e; cases e
    rw [upd_ne this]; exact r.ext b y e
  · unfold Env.set at q
    by_cases e : i = j
    · subst e
      simp only [List.getElem?_set_self hi, Option.some.injEq] at q
      subst q
      exact ⟨a, h, ha, hF, upd_same, ok⟩
    · simp only [List.getElem?_set_ne e] at q
      have so := r.slot j s q
      cases s with
      | no => trivial
      | im d => exact so
      | ow o2 =>
        obtain ⟨b, y, hy, hFb, hHb, k⟩ := so
        have : b ≠ a := fun z => e (r.apart i j a oa ⟨⟨o2, q⟩, by rw [← z]; exact hy⟩)
        exact ⟨b, y, hy, hFb, by rw [upd_ne this]; exact hHb, k⟩
  · obtain ⟨h1, c, hc, h2, h3⟩ := r.ora p q
    have : W.am ≠ a := fun z => r.noam i ⟨⟨p, q⟩, by rw [z]; exact oa⟩
    exact ⟨h1, c, hc, by rw [upd_ne this]; exact h2, h3⟩
  · rcases h with ⟨j, h⟩ | h
    · exact .inl (.inl ⟨j, oat j b h⟩)
    · exact .inl (.inr h)
/-- an own list is given away: it is known from then on -/
theorem Tr.give {i : Nat} {l : List D} (r : Rp W ρ σ F H) (hs : ρ.sl[i]? = some (.ow (.lst l))) : ∃ a vs, σ[i]? = some (some (.ref a)) ∧ H a = some (.lst vs) ∧ Tr W ρ σ F H (ρ.set i (.im (.lst l))) σ (upd F a (.lst vs)) H ∧ Is W (upd F a (.lst vs)) (.ref a) (.lst l) := by
  have hi : i < ρ.sl.length := (List.getElem?_eq_some_iff.mp hs).1
  obtain ⟨a, x, hx, hF, hH, k⟩ := r.slot i _ hs
  cases k with
  | lst il =>
    rename_i vs
    have ex : Ext F (upd F a (.lst vs)) := Ext.new hF
    have is : Is W (upd F a (.lst vs)) (.ref a) (.lst l) := .lst upd_same (il.mono ex)
    have oa : OwnAt ρ σ i a := ⟨⟨_, hs⟩, hx⟩
    have oat : ∀ j b, OwnAt (ρ.set i (.im (.lst l))) σ j b → j ≠ i ∧ OwnAt ρ σ j b := fun j b ⟨⟨l', h1⟩, h2⟩ => by
      unfold Env.set at h1
      by_cases e : i = j
      · subst e
        simp only [List.getElem?_set_self hi] at h1
        cases h1
      · simp only [List.getElem?_set_ne e] at h1
        exact ⟨Ne.symm e, ⟨l', h1⟩, h2⟩
    refine ⟨a, vs, hx, hH, ⟨⟨ex, fun b y e _ => e, fun b y e => ?_⟩, ⟨fun b y e => ?_, by simp [Env.set, r.len], fun j s q => ?_, fun j k b h1 h2 => r.apart j k b (oat j b h1).2 (oat k b h2).2, fun p q => ?_, fun j h => r.noam j ⟨h.1, (oat j _ h.2).2⟩⟩, fun b h => ?_⟩, is⟩
    · by_cases z : b = a
      · exact .inr (.inr (.inl ⟨i, by rw [z]; exact oa⟩))
      · rw [upd_ne z] at e; exact .inl e
    · by_cases z : b = a
      · rw [z, upd_same] at e; rw [z]; cases e; exact hH
      · rw [upd_ne z] at e; exact r.ext b y e
    · unfold Env.set at q
      by_cases e : i = j
      · subst e
        simp only [List.getElem?_set_self hi, Option.some.injEq] at q
        subst q
        exact ⟨_, hx, is⟩
      · simp only [List.getElem?_set_ne e] at q
        have so := r.slot j s q
        cases s with
        | no => trivial
        | im d => obtain ⟨y, hy, iy⟩ := so; exact ⟨y, hy, iy.mono ex⟩
        | ow o2 =>
          obtain ⟨b, y, hy, hFb, hHb, k⟩ := so
          have : b ≠ a := fun z => e (r.apart i j a oa ⟨⟨o2, q⟩, by rw [← z]; exact hy⟩)
          exact ⟨b, y, hy, by rw [upd_ne this]; exact hFb, hHb, k.mono ex⟩
    · obtain ⟨h1, c, hc, h2, h3⟩ := r.ora p q
      have : W.am ≠ a := fun z => r.noam i ⟨⟨p, q⟩, by rw [z]; exact oa⟩
      exact ⟨by rw [upd_ne this]; exact h1, c, hc, h2, ex _ _ h3⟩
    · rcases h with ⟨j, h⟩ | h
      · exact .inl (.inl ⟨j, (oat j b h).2⟩)
      · exact .inl (.inr h)
end
/-! ### the rules -/
section
variable {X : Cx} {am : Am} {e : Expr} {es : List Expr} {f : Fe} {u : Fa} {i : Nat} {x : Str} {pos p1 p2 p3 : Pos}
/-- the own list's data -/
def ownL (ρ : Env) (i : Nat) : Option (List D) := match ρ.sl[i]? with
  | some (.ow (.lst l)) => some l
  | _ => none
theorem ownL_some {ρ : Env} {l : List D} (h : ownL ρ i = some l) : ρ.sl[i]? = some (.ow (.lst l)) := by
  unfold ownL at h
  split at h
  · rename_i q; cases h; exact q
  · cases h
theorem ownL_at {W : Wd} {ρ : Env} {σ : L2.St} {F H : Hp} {l : List D} (r : Rp W ρ σ F H) (h : ownL ρ i = some l) : ∃ a vs, σ[i]? = some (some (.ref a)) ∧ H a = some (.lst vs) ∧ IsL W F vs l := by
  obtain ⟨a, x, hx, hF, hH, k⟩ := r.slot i _ (ownL_some h)
  cases k with
  | lst il => exact ⟨a, _, hx, hH, il⟩
/-- x = [..], which is changed later -/
def sOwn (i : Nat) (u : Fa) : Fs := bS u fun l ρ => gR (i < ρ.sl.length ∧ sz l.length) (.nx (ρ.set i (.ow (.lst l))))
/-- the name of an own list, given away -/
def cGive (i : Nat) : Fe := fun ρ => oR (ownL ρ i) fun l => (.lst l, ρ.set i (.im (.lst l)))
theorem de_give (hN : X.N[i]? = some x) (hv : Vis X.env.scope x) (hd : (x == ("__debug__" : Str)) = false := by decide) (hcd : (x == ("__classdict__" : Str)) = false := by decide) : DE X am (.Name x pos) (cGive i) :=
  PE.imp (pe_var hN hv hd hcd) fun σ H Q ⟨ρ, F, r, k⟩ => by
    unfold cGive at k
    cases el : ownL ρ i with
    | none => rw [el] at k; exact k.elim
    | some l =>
      rw [el] at k
      obtain ⟨a, vs, ha, hH, t, is⟩ := Tr.give r (ownL_some el)
      exact ⟨_, ha, k _ _ H t is⟩
/-- x.append(e) -/
def appD (i : Nat) (d : D) (ρ1 : Env) : Option Fl := match ownL ρ1 i with
  | some l => gd (sz l.length) (.nx (ρ1.set i (.ow (.lst (l ++ [d])))))
  | none => none
def sApp (i : Nat) (f : Fe) : Fs := fun ρ => if (ownL ρ i).isSome = true then bE f (fun d ρ1 => oR (appD i d ρ1) id) ρ else .no
theorem ds_app (hN : X.N[i]? = some x) (hv : Vis X.env.scope x) (he : DE X am e f) (hs : swapsWith (.Call (.Attribute (.Name x p1) "append" p2) [e] [] p3) none pos.line X.env = pure false := by rfl)
    (hd : (x == ("__debug__" : Str)) = false := by decide) (hcd : (x == ("__classdict__" : Str)) = false := by decide)
    (hbase : attributeBase (.Name x p1) "append" X.env (eval (.Name x p1) X.env) = eval (.Name x p1) X.env := by rfl)
    (hfew : ((backTo p3 (starEach [e] X.env)).all (fun x => !x.1) && (backToKw p3 (keywordEach [] X.env)).all (fun x => x.1.isSome)
      && decide ([e].length + ([] : List Keyword).length + (if ([] : List Keyword).isEmpty then 0 else 1) < 30)) = true := by rfl)
    (hline : (p2.endLine == p3.line) = true := by rfl) (hst : starEach [e] X.env = (false, eval e X.env) :: starEach [] X.env := by rfl) :
    DS X am (.Expr (.Call (.Attribute (.Name x p1) "append" p2) [e] [] p3) pos) (sApp i f) :=
  PS.imp (ps_expr (pe_bm PySem.F.plainAttrs_list PySem.F.slot_list_append PySem.F.type_list_append mt_append (pe_var hN hv hd hcd) (pa_cons he pa_nil hst) hbase hfew hline hst rfl) hs) fun N σ H ⟨ρ, F, hw⟩ => by
    obtain ⟨rp, q⟩ := hw
    unfold sApp at q
    split at q
    · rename_i h0
      obtain ⟨l0, hl0⟩ := Option.isSome_iff_exists.mp h0
      obtain ⟨a, vs, ha, hH, il⟩ := ownL_at rp hl0
      refine ⟨_, ha, .inl ⟨rfl, _, SqL.of hH⟩, ?_⟩
      have q : AtS (wd X am) am.E (bE f fun d ρ1 => oR (appD i d ρ1) id) ρ σ F H N := ⟨rp, q⟩
      refine tG.of (q.bind (rel := Is _) fun d ρ1 v F1 H1 t1 i1 ⟨r1, q⟩ => ?_)
      have q : Flk (wd X am) am.E ρ1 σ F1 H1 N (oR (appD i d ρ1) id) := q
      unfold appD at q
      cases el : ownL ρ1 i with
      | none => rw [el] at q; exact q.elim
      | some l =>
        rw [el] at q
        simp only at q
        by_cases hz : sz l.length
        · rw [gd_yes hz] at q
          obtain ⟨a1, vs1, ha1, hH1, il1⟩ := ownL_at t1.rp el
          rw [ha] at ha1
          cases ha1
          refine ⟨a, vs1, v, rfl, rfl, hH1, by rw [il1.length]; exact hz.lt, ?_⟩
          exact q σ F1 _ (Tr.chg t1.rp (ownL_some el) ha (.lst (il1.append (.cons i1 .nil))))
        · rw [show gd (sz l.length) (Fl.nx (ρ1.set i (.ow (.lst (l ++ [d]))))) = none from if_neg hz] at q
          exact q.elim
    · exact q.elim
/-- x.pop(e) -/
def popD (i : Nat) (d : D) (ρ1 : Env) : Option (D × Env) := match d, ownL ρ1 i with
  | .int j, some l => (match l[j.toNat]? with
    | some y => gd (0 ≤ j ∧ j < 100000) (y, ρ1.set i (.ow (.lst (l.eraseIdx j.toNat))))
    | none => none)
  | _, _ => none
def cPopAt (i : Nat) (f : Fe) : Fe := fun ρ => if (ownL ρ i).isSome = true then bE f (fun d ρ1 => oR (popD i d ρ1) id) ρ else .no
theorem IsL.eraseIdx {W : Wd} {F : Hp} : ∀ {vs : List V} {l : List D} (n : Nat), IsL W F vs l → IsL W F (vs.eraseIdx n) (l.eraseIdx n)
  | _, _, _, .nil => .nil
  | _, _, 0, .cons _ t => t
  | _, _, n + 1, .cons h t => .cons h (IsL.eraseIdx n t)
theorem de_popAt (hN : X.N[i]? = some x) (hv : Vis X.env.scope x) (he : DE X am e f)
    (hd : (x == ("__debug__" : Str)) = false := by decide) (hcd : (x == ("__classdict__" : Str)) = false := by decide)
    (hbase : attributeBase (.Name x p1) "pop" X.env (eval (.Name x p1) X.env) = eval (.Name x p1) X.env := by rfl)
    (hfew : ((backTo p3 (starEach [e] X.env)).all (fun x => !x.1) && (backToKw p3 (keywordEach [] X.env)).all (fun x => x.1.isSome)
      && decide ([e].length + ([] : List Keyword).length + (if ([] : List Keyword).isEmpty then 0 else 1) < 30)) = true := by rfl)
    (hline : (p2.endLine == p3.line) = true := by rfl) (hst : starEach [e] X.env = (false, eval e X.env) :: starEach [] X.env := by rfl) :
    DE X am (.Call (.Attribute (.Name x p1) "pop" p2) [e] [] p3) (cPopAt i f) :=
  PE.imp (pe_bm PySem.F.plainAttrs_list PySem.F.slot_list_pop PySem.F.type_list_pop mt_popAt (pe_var hN hv hd hcd) (pa_cons he pa_nil hst) hbase hfew hline hst rfl) fun σ H Q ⟨ρ, F, hw⟩ => by
    obtain ⟨rp, q⟩ := hw
    unfold cPopAt at q
    split at q
    · rename_i h0
      obtain ⟨l0, hl0⟩ := Option.isSome_iff_exists.mp h0
      obtain ⟨a, vs, ha, hH, il⟩ := ownL_at rp hl0
      refine ⟨_, ha, .inl ⟨rfl, _, SqL.of hH⟩, ?_⟩
      have q : At (wd X am) am.E (Is _) (bE f fun d ρ1 => oR (popD i d ρ1) id) ρ σ F H Q := ⟨rp, q⟩
      refine tG.of (q.bind (rel := Is _) fun d ρ1 v F1 H1 t1 i1 ⟨r1, q⟩ => ?_)
      have q : AtR (wd X am) am.E (Is _) ρ1 σ F1 H1 Q (oR (popD i d ρ1) id) := q
      unfold popD at q
      cases i1 with
      | int j =>
        cases el : ownL ρ1 i with
        | none => rw [el] at q; exact q.elim
        | some l =>
          rw [el] at q
          simp only at q
          cases ey : l[j.toNat]? with
          | none => rw [ey] at q; exact q.elim
          | some y =>
            rw [ey] at q
            simp only at q
            by_cases hj : 0 ≤ j ∧ j < 100000
            · rw [gd_yes hj] at q
              obtain ⟨hj, hj2⟩ := hj
              obtain ⟨a1, vs1, ha1, hH1, il1⟩ := ownL_at t1.rp el
              rw [ha] at ha1
              cases ha1
              obtain ⟨vy, hvy, iy⟩ := il1.get ey
              have hlt : j.toNat < vs1.length := (List.getElem?_eq_some_iff.mp hvy).1
              refine ⟨a, vs1, j, j.toNat, vy, rfl, rfl, hH1, by omega, by omega, seqIndex_of hj (by omega), hvy, ?_⟩
              exact q vy F1 _ (Tr.chg t1.rp (ownL_some el) ha (.lst (il1.eraseIdx j.toNat))) iy
            · rw [show gd (0 ≤ j ∧ j < 100000) (y, ρ1.set i (.ow (.lst (l.eraseIdx j.toNat)))) = none from if_neg hj] at q
              exact q.elim
      | _ => exact q.elim
    · exact q.elim
end
end DL

set_option Elab.async false
set_option linter.all false
set_option maxRecDepth 100000
set_option maxHeartbeats 4000000
namespace DL
open PySem PySem.Spec PyProof.Rows L2
/-! ### defs that are called where no repr is under way -/
structure FnG (P : Program) (w : World) (K : PySem.W.Frag) (mg : Str → Option Value) (B : Heap)
    (CX : CXT) (k : Nat) (f : Addr) (fd : FuncData) (ps : List Str) (sp : Sp) : Prop where
  len : ∀ vs H Q E, sp vs H Q E → vs.length = ps.length
  run : ∀ (A : Around) (out : List PySem.Env) (s : Shared) (H : Hp) (ar : Args) (us : List Value) (vs : List V) (Q : VK) (E : XK),
    A.guards = some [] → Room k A → Env0 P w K mg B A out s H → BindsTo s fd ar (ps.zip us) → Vals vs us → sp vs H Q E →
    codeAny (model P w) A (.call (.ref f) ar) (CR CX out P w H s Q E) s
section
variable {P : Program} {w : World} {K : PySem.W.Frag} {mg : Str → Option Value} {B : Heap} {CX : CXT} {k : Nat} {f : Addr} {ps : List Str} {sp : Sp}
theorem FnG.mono {j : Nat} {fd : FuncData} (G : FnG P w K mg B CX j f fd ps sp) (h : j ≤ k) : FnG P w K mg B CX k f fd ps sp :=
  ⟨G.len, fun A o s H ar us vs Q E g r => G.run A o s H ar us vs Q E g (r.mono h)⟩
/-- a def by its body -/
theorem fnG_of {x qual : Str} {pr : Arguments} {body : List Stmt} {sc : Scope} {dvs : List V} {kws : List (Str × V)} {fd : FuncData} {N : List Str} (FD : FunD K x qual pr body sc dvs kws f fd) (S : FnScope N ps sc)
    (len : ∀ vs H Q E, sp vs H Q E → vs.length = ps.length)
    (hB : ∀ (cv : Value) (A : Around) (out : List PySem.Env) (s : Shared) (H : Hp) (vs : List V) (Q : VK) (E : XK), A.guards = some [] → Room k (A.deeper (envOfC qual sc s.heap.objs.size f cv)) → sp vs H Q E →
      ∃ t, PSs (cxOf CX P w K mg B N qual sc f cv A out s H E) body t ∧ t ⟨fun _ H' => Q .non H', Q, fun _ _ => False, fun _ _ => False⟩ (L2.start N vs) H) :
    FnG P w K mg B CX (k + 1) f fd ps sp := by
  obtain ⟨oc, od, dV, kV, doc, pm, an, cv, ct, osl, rfl, lk, hcd, _, _⟩ := FD.ex
  refine ⟨len, fun A out s H ar us vs Q E hg hr e0 hb r hsp => ?_⟩
  have KX : K.In s.heap := e0.mod.kin.keeps fun b o e => (e0.bs b o e).1
  have par : ∀ y ∈ ps.zip us, sc.names.lookup y.1 = some .local ∨
      (sc.names.lookup y.1 = some .cell ∧ ((cellsFrom (s.heap.objs.size + 1) sc.names []).lookup y.1).isSome = true) := by
    rintro ⟨n, v⟩ hy
    exact (S.par n (List.of_mem_zip hy).1).imp id fun q => ⟨q, PySem.W.cellsFrom_some _ _ _ (.inl q)⟩
  refine codeAny_call_function hr.depth (KX _ _ lk) rfl S.co S.gen rfl
    (PySem.W.codeRec_of KX hcd) (hb _ _ _ _ (wpAny_newFunctionEnv_cells S.kind par fun env he s1 y => ?_))
  subst he
  refine ⟨(e0.mod.nolimit.keeps fun b o e => (e0.bs b o e).1).keeps y.toInCall.keep, codeAny_func ?_⟩
  obtain ⟨t, ht, hq⟩ := hB cv A out s H vs Q E hg (hr.deeper _) hsp
  refine wpAny_mono (ht.run [] s1 (L2.start N vs) H _ (inv_start S hr.hd e0 (len _ _ _ _ hsp) r y) hq) (fun fl s' hs => ?_) fun _ _ hs => hs
  cases fl with
  | ret u => obtain ⟨v, σ', H', J, rv, q⟩ := hs; exact ⟨v, H', J.os, J.bare, J.base, J.hok, rv, q⟩
  | next => obtain ⟨σ', H', J, q⟩ := hs; exact ⟨.non, H', J.os, J.bare, J.base, J.hok, rfl, q⟩
  | brk => exact hs.elim fun _ h => h.elim fun _ h => h.2.elim
  | cont => exact hs.elim fun _ h => h.elim fun _ h => h.2.elim
end
section
variable {X : Cx} {k : Nat} {f C : Addr} {fd : FuncData} {ps : List Str} {sp : Sp} {dvs : List V} {ds : List Value} {E : WX}
abbrev CXx (X : Cx) : CXT := L2.CX X.prog X.w
/-- f(..) where an exception is taken as E says, at the slots of the call -/
theorem runZ {pins : List (Addr × Obj)} {σ : L2.St} {H : Hp} {s : Shared} {Q : VK} {us : List Value} {vs : List V} (G : FnG X.prog X.w X.K X.mg X.base (CXx X) k f fd ps sp) (hgd : X.A.guards = some []) (hr : Room k X.A) (hb : Binds X.K fd ps ds) (hd : Vals dvs ds) (tk : Takes X E)
    (I : Inv X pins σ H s) (r : Vals vs us) (h : sp (vs ++ dvs) H Q (fun cls d H' => E cls d σ H')) : wpAny (model X.prog X.w) X.A (call (.ref f) us) (EP X pins σ Q) X.xe s := by
  have r2 := r.append hd
  refine wpAny_call (codeAny_mono (G.run X.A X.stack s H ⟨us, []⟩ (us ++ ds) (vs ++ dvs) Q _ hgd hr I.env0 (hb s us I.kIn (by rw [← r2.length]; exact G.len _ _ _ _ h)) r2 h) fun o s' q => ?_)
  cases o with
  | error e => exact tk e s' (XE.of_call I (fun _ _ _ h => h) q)
  | ok fl => cases fl <;> first | exact I.after q | exact q.elim
def tCallZd (sp : Sp) (dvs : List V) (E : WX) (t : TA) : TE := fun σ H Q => t σ H fun vs H1 => sp (vs ++ dvs) H1 Q (fun cls d H' => E cls d σ H')
theorem pe_callZ {x : Str} {px pos : Pos} {a : Expr} {es : List Expr} {t : TA} (G : FnG X.prog X.w X.K X.mg X.base (CXx X) k f fd ps sp) (hgd : X.A.guards = some []) (hr : Room k X.A) (hb : Binds X.K fd ps ds) (hd : Vals dvs ds) (tk : Takes X E) (hg : Gl X x) (hm : X.mg x = some (.ref f)) (hk : PySem.W.keepIn X.K (.ref f) = true) (ha : PA X (a :: es) t)
    (hdb : (x == ("__debug__" : Str)) = false := by decide) (he : starEach (a :: es) X.env = (false, eval a X.env) :: starEach es X.env := by rfl) (hpl : (backTo pos (starEach es X.env)).any (·.1) = false := by rfl) :
    PE X (.Call (.Name x px) (a :: es) [] pos) (tCallZd sp dvs E t) := by
  refine ⟨fun pins s σ H Q I h => wpAny_Call_Name_kw (ld_glob I hg hm ?_ hdb)⟩
  exact PySem.W.callWith_K (h₀ := X.base) I.ok.mod.kin hk (thn (ha.run pos pins s σ H _ I h) fun us s1 ⟨vs, H1, I1, rv, q⟩ => ⟨I1.kIn, runZ G hgd hr hb hd tk I1 rv q⟩) he hpl
/-- C(..) -/
def tMakeZ (C : Addr) (sp : Sp) (dvs : List V) (E : WX) (t : TA) : TE := fun σ H Q => t σ H fun vs H1 => ∀ x dx, H1 x = none → H1 dx = none → dx ≠ x →
  sp (.ref x :: (vs ++ dvs)) (upd (upd H1 dx (.own x)) x (.ins C dx [])) (fun v H2 => v = .non ∧ Q (.ref x) H2) (fun cls d H' => E cls d σ H')
theorem guards_make {A : Around} {us : List Value} (h : A.guards = some []) : (A.under (.builtin "type.__call__" ⟨.ref C :: us, []⟩)).guards = some [] := by
  have hn : (Code.builtin "type.__call__" ⟨.ref C :: us, []⟩).guards = [] := by
    have hi : (Code.builtin "type.__call__" ⟨.ref C :: us, []⟩).isGuard = false := by
      show guardIds.contains "type.__call__" = false
      decide +kernel
    unfold Code.guards
    simp [hi]
  show pushGuards (Code.builtin "type.__call__" ⟨.ref C :: us, []⟩).guards A.guards = some []
  rw [hn, h]
  rfl
theorem makeZ {pins : List (Addr × Obj)} {σ : L2.St} {H : Hp} {s : Shared} {Q : VK} {us : List Value} {vs : List V} (M : Mk X.K C f) (G : FnG X.prog X.w X.K X.mg X.base (CXx X) k f fd ps sp) (hgd : X.A.guards = some []) (hr : Room (k + 1) X.A) (hb : Binds X.K fd ps ds) (hd : Vals dvs ds) (tk : Takes X E)
    (I : Inv X pins σ H s) (r : Vals vs us) (h : ∀ x dx, H x = none → H dx = none → dx ≠ x → sp (.ref x :: (vs ++ dvs)) (upd (upd H dx (.own x)) x (.ins C dx [])) (fun v H2 => v = .non ∧ Q (.ref x) H2) (fun cls d H' => E cls d σ H')) :
    wpAny (model X.prog X.w) X.A (call (.ref C) us) (EP X pins σ Q) X.xe s := by
  have hq := h (s.heap.objs.size + 1) s.heap.objs.size (I.hok.fresh (Nat.le_succ _)) (I.hok.fresh (Nat.le_refl _)) (Nat.ne_of_lt (Nat.lt_succ_self _))
  have J := Inv.made (C := C) I
  have r2 : Vals (V.ref (s.heap.objs.size + 1) :: (vs ++ dvs)) (Value.ref (s.heap.objs.size + 1) :: (us ++ ds)) := .cons rfl (r.append hd)
  have hl : (Value.ref (s.heap.objs.size + 1) :: us ++ ds).length = ps.length := by
    have e := r2.length
    rw [G.len _ _ _ _ hq] at e
    exact e.symm
  refine wpAny_call (make_map (f := f) I.kIn M.makes M.init (beq_iff_eq.mp M.fn) (codeAny_mono
    (G.run _ X.stack _ _ ⟨Value.ref (s.heap.objs.size + 1) :: us, []⟩ (Value.ref (s.heap.objs.size + 1) :: (us ++ ds)) _ _ _ (guards_make hgd) (hr.make C us []) (J.env0.make C us [])
      (hb _ (Value.ref (s.heap.objs.size + 1) :: us) J.kIn hl) r2 hq) fun o s' q => ?_))
  cases o with
  | error e => exact tk e s' (XE.of_call J (fun _ _ _ h => h) q)
  | ok fl =>
    cases fl with
    | ret u =>
      obtain ⟨v, H', I3, rv, ev, q3⟩ := J.after q
      subst ev
      exact ⟨rv, ⟨V.ref (s.heap.objs.size + 1), H', I3, rfl, q3⟩⟩
    | _ => exact q.elim
theorem pe_makeZ {x : Str} {px pos : Pos} {a : Expr} {es : List Expr} {t : TA} (M : Mk X.K C f) (G : FnG X.prog X.w X.K X.mg X.base (CXx X) k f fd ps sp) (hgd : X.A.guards = some []) (hr : Room (k + 1) X.A) (hb : Binds X.K fd ps ds) (hd : Vals dvs ds) (tk : Takes X E) (hg : Gl X x) (hm : X.mg x = some (.ref C)) (hk : PySem.W.keepIn X.K (.ref C) = true) (ha : PA X (a :: es) t)
    (hdb : (x == ("__debug__" : Str)) = false := by decide) (he : starEach (a :: es) X.env = (false, eval a X.env) :: starEach es X.env := by rfl) (hpl : (backTo pos (starEach es X.env)).any (·.1) = false := by rfl) :
    PE X (.Call (.Name x px) (a :: es) [] pos) (tMakeZ C sp dvs E t) := by
  refine ⟨fun pins s σ H Q I h => wpAny_Call_Name_kw (ld_glob I hg hm ?_ hdb)⟩
  exact PySem.W.callWith_K (h₀ := X.base) I.ok.mod.kin hk (thn (ha.run pos pins s σ H _ I h) fun us s1 ⟨vs, H1, I1, rv, q⟩ => ⟨I1.kIn, makeZ M G hgd hr hb hd tk I1 rv q⟩) he hpl
end
/-! a call of a def, at the level of data -/
section
variable {X : Cx} {am : Am} {x : Str} {px pos : Pos} {a : Expr} {es : List Expr} {u : Fa} {m : Fd} {n k : Nat} {f : Addr} {fd : FuncData} {ps : List Str}
theorem de_fnG (G : FnG X.prog X.w X.K X.mg X.base (CXx X) k f fd ps (spD X.K X.mg n m)) (hgd : X.A.guards = some []) (hr : Room k X.A) (tk : Takes X am.E) (hg : Gl X x) (hm : X.mg x = some (.ref f)) (hk : PySem.W.keepIn X.K (.ref f) = true) (hb : Binds X.K fd ps [])
    (hu : DA X am (a :: es) u) (hn : ∀ ρ l ρ', u ρ = .ok (l, ρ') → l.length = n) (hdb : (x == ("__debug__" : Str)) = false := by decide) (he : starEach (a :: es) X.env = (false, eval a X.env) :: starEach es X.env := by rfl) (hpl : (backTo pos (starEach es X.env)).any (·.1) = false := by rfl) :
    DE X am (.Call (.Name x px) (a :: es) [] pos) (cFn m u) := PE.imp (pe_callZ (E := am.E) G hgd hr hb .nil tk hg hm hk hu hdb he hpl) fun σ H Q hw => by
  have h := fn_core hn hw
  show tDA _ _ _ _ _ _
  simp only [List.append_nil]
  exact h
end
end DL

set_option Elab.async false
set_option linter.all false
set_option maxRecDepth 100000
set_option maxHeartbeats 4000000
namespace DL
open PySem PySem.Spec PyProof.Rows L2
/-! ### operations on data -/
theorem OpR.or {X : Cx} {g : Value → Value → Sem Value} {r r' : R2} (h : OpR X g r) (h' : OpR X g r') : OpR X g (fun x y H Q => r x y H Q ∨ r' x y H Q) :=
  fun pins s σ H x y v u Q I rx ry q => q.elim (h pins s σ H x y v u Q I rx ry) (h' pins s σ H x y v u Q I rx ry)
theorem DOp.or {W : Wd} {r r' : R2} {g g' : D → D → Option D} (h : DOp W r g) (h' : DOp W r' g') : DOp W (fun x y H Q => r x y H Q ∨ r' x y H Q) (fun d e => (g d e).or (g' d e)) :=
  fun F H x y d e z Q ex ix iy ez q => by
    cases w : g d e with
    | some z' =>
      simp only [w, Option.some_or] at ez
      cases ez
      exact .inl (h F H x y d e _ Q ex ix iy w q)
    | none =>
      simp only [w, Option.none_or] at ez
      exact .inr (h' F H x y d e _ Q ex ix iy ez q)
/-! ints -/
def onI (g : Int → Int → D) : D → D → Option D
  | .int i, .int j => some (g i j)
  | _, _ => none
theorem dop_I {W : Wd} {gv : Int → Int → V} {g : Int → Int → D} (hg : ∀ i j F, Is W F (gv i j) (g i j)) : DOp W (rI0 gv) (onI g) := fun F H x y d e z Q ex ix iy ez q => by
  cases ix <;> cases iy <;> cases ez
  exact ⟨_, _, rfl, rfl, same ex (hg _ _ F) q⟩
def onIc (C : Int → Int → Prop) [∀ i j, Decidable (C i j)] (g : Int → Int → D) : D → D → Option D
  | .int i, .int j => gd (C i j) (g i j)
  | _, _ => none
theorem dop_Ic {W : Wd} {C C' : Int → Int → Prop} [∀ i j, Decidable (C' i j)] {gv : Int → Int → V} {g : Int → Int → D} (hC : ∀ i j, C' i j → C i j) (hg : ∀ i j F, Is W F (gv i j) (g i j)) : DOp W (rI C gv) (onIc C' g) := fun F H x y d e z Q ex ix iy ez q => by
  cases ix <;> cases iy <;> first | cases ez | skip
  obtain ⟨hc, rfl⟩ := gd_some ez
  exact ⟨_, _, rfl, rfl, hC _ _ hc, same ex (hg _ _ F) q⟩
abbrev dLt := onI fun i j => .bl (decide (i < j))
abbrev dLe := onI fun i j => .bl (decide (i ≤ j))
abbrev dGt := onI fun i j => .bl (decide (j < i))
abbrev dGe := onI fun i j => .bl (decide (j ≤ i))
abbrev dSub := onI fun i j => .int (i - j)
abbrev dMod := onIc (fun _ j => 0 < j) fun i j => .int (i % j)
theorem dop_lt {W : Wd} : DOp W (rI0 fun i j => .bl (decide (i < j))) dLt := dop_I fun _ _ _ => .bl _
theorem dop_le {W : Wd} : DOp W (rI0 fun i j => .bl (decide (i ≤ j))) dLe := dop_I fun _ _ _ => .bl _
theorem dop_gt {W : Wd} : DOp W (rI0 fun i j => .bl (decide (j < i))) dGt := dop_I fun _ _ _ => .bl _
theorem dop_ge {W : Wd} : DOp W (rI0 fun i j => .bl (decide (j ≤ i))) dGe := dop_I fun _ _ _ => .bl _
theorem dop_sub {W : Wd} : DOp W (rI0 fun i j => .int (i - j)) dSub := dop_I fun _ _ _ => .int _
theorem dop_mod {W : Wd} : DOp W (rI (fun _ j => 0 < j) fun i j => .int (i % j)) dMod := dop_Ic (fun _ _ h => h) fun _ _ _ => .int _
/-! + -/
def addS : D → D → Option D
  | .str a, .str b => gd (sz (a.length + b.length)) (.str (a ++ b))
  | _, _ => none
def addT : D → D → Option D
  | .tup l, .tup m => gd (sz (l.length + m.length)) (.tup (l ++ m))
  | _, _ => none
def addL : D → D → Option D
  | .lst l, .lst m => gd (sz (l.length + m.length)) (.lst (l ++ m))
  | _, _ => none
theorem IsL.nil_iff {W : Wd} {F : Hp} {vs : List V} {l : List D} (h : IsL W F vs l) : vs = [] ↔ l = [] := by
  cases h <;> simp
theorem dop_addS {W : Wd} : DOp W (fun x y H Q => ∃ i j, x = .str i ∧ y = .str j ∧ i.length + j.length ≤ sizeLine ∧ Q (.str (i ++ j)) H) addS := fun F H x y d e z Q ex ix iy ez q => by
  cases ix <;> cases iy <;> first | cases ez | skip
  obtain ⟨hz, rfl⟩ := gd_some ez
  exact ⟨_, _, rfl, rfl, hz.le, same ex (.str _) q⟩
theorem dop_addT {W : Wd} : DOp W (rCatA W.K) addT := fun F H x y d e z Q ex ix iy ez q => by
  cases ix with
  | tup h t =>
    cases iy with
    | tup h' t' =>
      obtain ⟨hz, rfl⟩ := gd_some ez
      refine ⟨_, _, _, _, rfl, rfl, ex.t h, ex.t h', by rw [t.length, t'.length]; exact hz.le, fun e => ?_, fun _ e => ?_, fun _ _ => newTup ex (t.append t') q⟩
      · have : _ = [] := t.nil_iff.mp e
        subst this
        exact same ex (.tup h' t') q
      · have : _ = [] := t'.nil_iff.mp e
        subst this
        rw [List.append_nil] at q
        exact same ex (.tup h t) q
    | _ => cases ez
  | _ => cases ez
theorem dop_addL {W : Wd} : DOp W rCat addL := fun F H x y d e z Q ex ix iy ez q => by
  cases ix with
  | lst h t =>
    cases iy with
    | lst h' t' =>
      obtain ⟨hz, rfl⟩ := gd_some ez
      exact ⟨_, _, _, _, rfl, rfl, ex _ _ h, ex _ _ h', by rw [t.length, t'.length]; exact hz.le, newLst ex (t.append t') q⟩
    | _ => cases ez
  | _ => cases ez
abbrev dAdd : D → D → Option D := fun d e => (onI (fun i j => .int (i + j)) d e).or ((addS d e).or ((addT d e).or (addL d e)))
section
variable {X : Cx} {am : Am} {a b : Expr} {f g : Fe} {pos : Pos}
theorem de_add (ha : DE X am a f) (hb : DE X am b g) : DE X am (.BinOp a .Add b pos) (cOp dAdd f g) :=
  de_op (OpR.or op_add (OpR.or op_add_str (OpR.or op_catA op_cat))) (DOp.or (dop_I fun _ _ _ => .int _) (DOp.or dop_addS (DOp.or dop_addT dop_addL))) ha hb
theorem de_sub (ha : DE X am a f) (hb : DE X am b g) : DE X am (.BinOp a .Sub b pos) (cOp dSub f g) := de_op op_sub dop_sub ha hb
theorem de_mod (ha : DE X am a f) (hb : DE X am b g) : DE X am (.BinOp a .Mod b pos) (cOp dMod f g) := de_op op_mod dop_mod ha hb
end
/-! ### == -/
mutual
def toPy : D → Option PyData
  | .non => some .none
  | .bl b => some (.bool b)
  | .int i => some (.int i)
  | .str x => some (.str x)
  | .tup l => (toPyL l).map .tuple
  | .lst l => (toPyL l).map .list
  | .ins _ _ => none
  | .fn _ => none
  | .dr => none
  | .scr _ => none
def toPyL : List D → Option (List PyData)
  | [] => some []
  | d :: l => match toPy d, toPyL l with
    | some p, some q => some (p :: q)
    | _, _ => none
end
mutual
theorem Is.dp {W : Wd} {F : Hp} : ∀ {v : V} {d : D} {p : PyData}, Is W F v d → toPy d = some p → Dp W.K F v p
  | _, _, _, .non, e => by cases e; exact .non
  | _, _, _, .bl b, e => by cases e; exact .bl b
  | _, _, _, .int i, e => by cases e; exact .int i
  | _, _, _, .str x, e => by cases e; exact .str x
  | _, _, _, .tup h t, e => by
    unfold toPy at e
    obtain ⟨q, e1, e2⟩ := Option.map_eq_some_iff.mp e
    subst e2
    exact .tup h (IsL.dp t e1)
  | _, _, _, .lst h t, e => by
    unfold toPy at e
    obtain ⟨q, e1, e2⟩ := Option.map_eq_some_iff.mp e
    subst e2
    exact .lst (SqL.of h) (IsL.dp t e1)
  | _, _, _, .ins _ _ _, e => by simp [toPy] at e
  | _, _, _, .fn _, e => by simp [toPy] at e
  | _, _, _, .dr, e => by simp [toPy] at e
  | _, _, _, .scr _ _, e => by simp [toPy] at e
theorem IsL.dp {W : Wd} {F : Hp} : ∀ {vs : List V} {l : List D} {p : List PyData}, IsL W F vs l → toPyL l = some p → DpAll W.K F vs p
  | _, _, _, .nil, e => by cases e; exact .nil
  | _, _, _, .cons h t, e => by
    unfold toPyL at e
    split at e
    · rename_i p q e1 e2
      cases e
      exact .cons (Is.dp h e1) (IsL.dp t e2)
    · cases e
end
mutual
theorem dpMono {K : PySem.W.Frag} {F H : Hp} (e : Ext F H) : ∀ {v : V} {p : PyData}, Dp K F v p → Dp K H v p
  | _, _, .non => .non
  | _, _, .bl b => .bl b
  | _, _, .int i => .int i
  | _, _, .str x => .str x
  | _, _, .lst h t => .lst (e.l h) (dpAllMono e t)
  | _, _, .tup h t => .tup (e.t h) (dpAllMono e t)
theorem dpAllMono {K : PySem.W.Frag} {F H : Hp} (e : Ext F H) : ∀ {v : List V} {p : List PyData}, DpAll K F v p → DpAll K H v p
  | _, _, .nil => .nil
  | _, _, .cons h t => .cons (dpMono e h) (dpAllMono e t)
end
/-- equality of data, where it is told -/
def eqB (d e : D) : Option Bool := match toPy d, toPy e with
  | some p, some q => gd (SeqAt.shaped p = true ∧ SeqAt.shaped q = true) (PyData.eqv p q)
  | _, _ => none
def dEq (d e : D) : Option D := (eqB d e).map D.bl
def dNe (d e : D) : Option D := (eqB d e).map fun b => D.bl (!b)
theorem eqB_some {d e : D} {b : Bool} (h : eqB d e = some b) : ∃ p q, toPy d = some p ∧ toPy e = some q ∧ SeqAt.shaped p = true ∧ SeqAt.shaped q = true ∧ b = PyData.eqv p q := by
  unfold eqB at h
  split at h
  · rename_i p q e1 e2
    obtain ⟨⟨h1, h2⟩, h3⟩ := gd_some h
    exact ⟨p, q, e1, e2, h1, h2, h3.symm⟩
  · cases h
theorem dop_eq {W : Wd} : DOp W (rEqD W.K) dEq := fun F H x y d e z Q ex ix iy ez q => by
  obtain ⟨b, eb, rfl⟩ := Option.map_eq_some_iff.mp ez
  obtain ⟨p, p', e1, e2, s1, s2, rfl⟩ := eqB_some eb
  exact ⟨p, p', dpMono ex (ix.dp e1), dpMono ex (iy.dp e2), s1, s2, same ex (.bl _) q⟩
theorem dop_ne {W : Wd} : DOp W (rNeD W.K) dNe := fun F H x y d e z Q ex ix iy ez q => by
  obtain ⟨b, eb, rfl⟩ := Option.map_eq_some_iff.mp ez
  obtain ⟨p, p', e1, e2, s1, s2, rfl⟩ := eqB_some eb
  exact ⟨p, p', dpMono ex (ix.dp e1), dpMono ex (iy.dp e2), s1, s2, same ex (.bl _) q⟩
/-! is None -/
def dIsN : D → D → Option D
  | .non, .non => some (.bl true)
  | .ins _ _, .non => some (.bl false)
  | .bl _, .non => some (.bl false)
  | .int _, .non => some (.bl false)
  | .str _, .non => some (.bl false)
  | .tup _, .non => some (.bl false)
  | .lst _, .non => some (.bl false)
  | _, _ => none
def dNotN : D → D → Option D
  | .non, .non => some (.bl false)
  | .ins _ _, .non => some (.bl true)
  | .bl _, .non => some (.bl true)
  | .int _, .non => some (.bl true)
  | .str _, .non => some (.bl true)
  | .tup _, .non => some (.bl true)
  | .lst _, .non => some (.bl true)
  | _, _ => none
theorem dop_notN {W : Wd} : DOp W (fun x y H Q => y = .non ∧ Q (.bl (!decide (x = .non))) H) dNotN := fun F H x y d e z Q ex ix iy ez q => by
  cases iy <;> cases ix <;> cases ez <;> exact ⟨rfl, same ex (.bl _) q⟩
/-! in -/
def rInT (K : PySem.W.Frag) (neg : Bool) : R2 := fun x y H Q => ∃ d l, Dp K H x d ∧ Dp K H y (.tuple l) ∧ SeqAt.shaped d = true ∧ SeqAt.shaped (.tuple l) = true ∧ Q (.bl (if neg then !l.any (fun z => PyData.eqv z d) else l.any fun z => PyData.eqv z d)) H
theorem op_inT {X : Cx} (hu : X.A.units + 65 < cLine) : OpR X (compareOp .In) (rInT X.K false) := by
  intro pins s σ H x y v u Q I rx ry h
  obtain ⟨d, l, hd, he, sd, se, q⟩ := h
  obtain ⟨as, r1⟩ := Dp.reads I d x v hd rx
  obtain ⟨bs, r2⟩ := Dp.reads I (.tuple l) y u he ry
  exact SeqAt.in_tuple_reads r2 r1 (SeqAt.canLay_of_shaped se) (SeqAt.canLay_of_shaped sd) (room_in_shaped sd hu) ⟨.bl _, H, I, rfl, q⟩
theorem op_notInT {X : Cx} (hu : X.A.units + 65 < cLine) : OpR X (compareOp .NotIn) (rInT X.K true) := by
  intro pins s σ H x y v u Q I rx ry h
  obtain ⟨d, l, hd, he, sd, se, q⟩ := h
  obtain ⟨as, r1⟩ := Dp.reads I d x v hd rx
  obtain ⟨bs, r2⟩ := Dp.reads I (.tuple l) y u he ry
  exact SeqAt.notIn_tuple_reads r2 r1 (SeqAt.canLay_of_shaped se) (SeqAt.canLay_of_shaped sd) (room_in_shaped sd hu) ⟨.bl _, H, I, rfl, q⟩
def inB (d : D) : D → Option Bool
  | .tup l => (match toPy d, toPyL l with
    | some p, some q => gd (SeqAt.shaped p = true ∧ SeqAt.shaped (.tuple q) = true) (q.any fun z => PyData.eqv z p)
    | _, _ => none)
  | .lst l => (match toPy d, toPyL l with
    | some p, some q => gd (SeqAt.shaped p = true ∧ SeqAt.shaped (.list q) = true) (q.any fun z => PyData.eqv z p)
    | _, _ => none)
  | .str z => (match d with
    | .str x => (match x.cps.toList with
      | [c] => some (decide (c ∈ z.cps.toList))
      | _ => none)
    | _ => none)
  | _ => none
def dIn (d e : D) : Option D := (inB d e).map D.bl
def dNotIn (d e : D) : Option D := (inB d e).map fun b => D.bl (!b)
theorem inB_tup {d : D} {l : List D} {b : Bool} (h : inB d (.tup l) = some b) : ∃ p q, toPy d = some p ∧ toPyL l = some q ∧ SeqAt.shaped p = true ∧ SeqAt.shaped (.tuple q) = true ∧ b = q.any fun z => PyData.eqv z p := by
  unfold inB at h
  simp only at h
  split at h
  · rename_i p q e1 e2
    obtain ⟨⟨h1, h2⟩, h3⟩ := gd_some h
    exact ⟨p, q, e1, e2, h1, h2, h3.symm⟩
  · cases h
theorem inB_lst {d : D} {l : List D} {b : Bool} (h : inB d (.lst l) = some b) : ∃ p q, toPy d = some p ∧ toPyL l = some q ∧ SeqAt.shaped p = true ∧ SeqAt.shaped (.list q) = true ∧ b = q.any fun z => PyData.eqv z p := by
  unfold inB at h
  simp only at h
  split at h
  · rename_i p q e1 e2
    obtain ⟨⟨h1, h2⟩, h3⟩ := gd_some h
    exact ⟨p, q, e1, e2, h1, h2, h3.symm⟩
  · cases h
theorem inB_str {d : D} {z : Str} {b : Bool} (h : inB d (.str z) = some b) : ∃ c, d = .str ⟨#[c]⟩ ∧ b = decide (c ∈ z.cps.toList) := by
  unfold inB at h
  simp only at h
  split at h
  · rename_i x
    split at h
    · rename_i c ec
      refine ⟨c, ?_, (Option.some.inj h).symm⟩
      obtain ⟨cps⟩ := x
      have : cps = #[c] := by
        apply Array.ext'
        simpa using ec
      rw [this]
    · cases h
  · cases h
abbrev rInAll (K : PySem.W.Frag) : R2 := fun x y H Q => rInT K false x y H Q ∨ (rInD K x y H Q ∨ ∃ (c : Nat) (z : Str), x = .str ⟨#[c]⟩ ∧ y = .str z ∧ Q (.bl (decide (c ∈ z.cps.toList))) H)
abbrev rNotInAll (K : PySem.W.Frag) : R2 := fun x y H Q => rInT K true x y H Q ∨ rNotInD K x y H Q
theorem op_inAll {X : Cx} (hu : X.A.units + 65 < cLine) : OpR X (compareOp .In) (rInAll X.K) := OpR.or (op_inT hu) (OpR.or (op_inD hu) op_in_sign)
theorem op_notInAll {X : Cx} (hu : X.A.units + 65 < cLine) : OpR X (compareOp .NotIn) (rNotInAll X.K) := OpR.or (op_notInT hu) (op_notInD hu)
theorem dop_in {W : Wd} : DOp W (rInAll W.K) dIn := fun F H x y d e z Q ex ix iy ez q => by
  obtain ⟨b, eb, rfl⟩ := Option.map_eq_some_iff.mp ez
  cases iy with
  | tup h t =>
    obtain ⟨p, p', e1, e2, s1, s2, rfl⟩ := inB_tup eb
    exact .inl ⟨p, p', dpMono ex (ix.dp e1), dpMono ex (Dp.tup h (t.dp e2)), s1, s2, same ex (.bl _) q⟩
  | lst h t =>
    obtain ⟨p, p', e1, e2, s1, s2, rfl⟩ := inB_lst eb
    exact .inr (.inl ⟨p, p', dpMono ex (ix.dp e1), dpMono ex (Dp.lst (SqL.of h) (t.dp e2)), s1, s2, same ex (.bl _) q⟩)
  | str z =>
    obtain ⟨c, rfl, rfl⟩ := inB_str eb
    cases ix
    exact .inr (.inr ⟨c, z, rfl, rfl, same ex (.bl _) q⟩)
  | _ => cases eb
def dNotInS (d e : D) : Option D := match e with
  | .str _ => none
  | e => dNotIn d e
theorem dop_notIn {W : Wd} : DOp W (rNotInAll W.K) dNotInS := fun F H x y d e z Q ex ix iy ez q => by
  cases iy with
  | tup h t =>
    obtain ⟨b, eb, rfl⟩ := Option.map_eq_some_iff.mp (show (inB d _).map _ = some z from ez)
    obtain ⟨p, p', e1, e2, s1, s2, rfl⟩ := inB_tup eb
    exact .inl ⟨p, p', dpMono ex (ix.dp e1), dpMono ex (Dp.tup h (t.dp e2)), s1, s2, same ex (.bl _) q⟩
  | lst h t =>
    obtain ⟨b, eb, rfl⟩ := Option.map_eq_some_iff.mp (show (inB d _).map _ = some z from ez)
    obtain ⟨p, p', e1, e2, s1, s2, rfl⟩ := inB_lst eb
    exact .inr ⟨p, p', dpMono ex (ix.dp e1), dpMono ex (Dp.lst (SqL.of h) (t.dp e2)), s1, s2, same ex (.bl _) q⟩
  | _ => cases ez
/-! ### subscripts -/
theorem IsL.atI {W : Wd} {F : Hp} {vs : List V} {l : List D} {i : Int} {d : D} (h : IsL W F vs l) (e : L2.atI l i = some d) : ∃ v, L2.atI vs i = some v ∧ Is W F v d := by
  unfold L2.atI at e ⊢
  rw [h.length]
  cases w : ixN l.length i with
  | none => rw [w] at e; cases e
  | some j =>
    rw [w] at e
    exact h.get (show l[j]? = some d from e)
def dIx : D → D → Option D
  | .tup l, .int i => L2.atI l i
  | .lst l, .int i => L2.atI l i
  | .str x, .int i => (L2.atI x.cps.toList i).bind fun c => gd (sz x.length) (.str ⟨#[c]⟩)
  | _, _ => none
abbrev rIxA (K : PySem.W.Frag) : R2 := fun x y H Q => rIxT K x y H Q ∨ (rIxL K x y H Q ∨ rIxS x y H Q)
theorem ix_all {X : Cx} : IxR X (rIxA X.K) := IxR.or ix_tup (IxR.or ix_list ix_str)
theorem dop_ix {W : Wd} : DOp W (rIxA W.K) dIx := fun F H x y d e z Q ex ix iy ez q => by
  cases iy with
  | int i =>
    cases ix with
    | tup h t =>
      obtain ⟨v, hv, iv⟩ := t.atI (show L2.atI _ _ = some z from ez)
      exact .inl ⟨_, _, _, v, rfl, rfl, ex.t h, hv, same ex iv q⟩
    | lst h t =>
      obtain ⟨v, hv, iv⟩ := t.atI (show L2.atI _ _ = some z from ez)
      exact .inr (.inl ⟨_, _, _, v, rfl, rfl, SqL.of (ex _ _ h), hv, same ex iv q⟩)
    | str x =>
      obtain ⟨c, ec, e2⟩ := Option.bind_eq_some_iff.mp (show (L2.atI x.cps.toList i).bind _ = some z from ez)
      obtain ⟨hz, rfl⟩ := gd_some e2
      exact .inr (.inr ⟨x, i, c, rfl, rfl, hz.le, ec, same ex (.str _) q⟩)
    | _ => cases ez
  | _ => cases ix <;> cases ez
/-! slices -/
def cutL {α : Type} (l : List α) (lo hi : Option Int) : List α := (l.drop (HT.sIx l.length 0 lo)).take (HT.sIx l.length l.length hi - HT.sIx l.length 0 lo)
theorem IsL.cut {W : Wd} {F : Hp} {vs : List V} {l : List D} (h : IsL W F vs l) (lo hi : Option Int) : IsL W F (cutV vs lo hi) (cutL l lo hi) := by
  unfold cutV cutL
  rw [h.length]
  exact (h.drop _).take _
def dSl (d : D) (lo hi : Option Int) : Option D := match d with
  | .tup l => some (.tup (cutL l lo hi))
  | .lst l => some (.lst (cutL l lo hi))
  | .scr l => some (.lst (cutL l lo hi))
  | .str x => gd (sz x.length) (.str (cutS x lo hi))
  | _ => none
def cPart (f : Fe) : Env → Res (Option Int × Env) := bE f fun d ρ => match d with
  | .int i => .ok (some i, ρ)
  | _ => .no
def cNoPart : Env → Res (Option Int × Env) := fun ρ => .ok (none, ρ)
def relP : Hp → Option Int → Option Int → Prop := fun _ a b => a = b
abbrev DPt (X : Cx) (am : Am) (e : Option Expr) (f : Env → Res (Option Int × Env)) : Prop := PO X e (tG (wd X am) am.E relP f)
theorem dp_none {X : Cx} {am : Am} : DPt X am none cNoPart := ⟨fun pins s σ H Q I ⟨ρ, F, hw⟩ => po_none.run pins s σ H Q I (At.ret (d := none) hw rfl)⟩
theorem dp_some {X : Cx} {am : Am} {e : Expr} {f : Fe} (h : DE X am e f) : DPt X am (some e) (cPart f) := ⟨fun pins s σ H Q I ⟨ρ, F, hw⟩ => (po_some h).run pins s σ H Q I (tG.of (hw.bind (rel := Is _) fun d ρ1 x F1 H1 t1 i1 hw => by
  cases i1 with
  | int i => exact ⟨i, rfl, At.ret (d := some i) hw rfl⟩
  | _ => exact hw.2.elim))⟩
def cSl (f : Fe) (lo hi : Env → Res (Option Int × Env)) : Fe := bE f fun d => bE lo fun l => bE hi fun u ρ => oR (dSl d l u) fun z => (z, ρ)
theorem de_slice {X : Cx} {am : Am} {e : Expr} {lo hi : Option Expr} {p2 pos : Pos} {f : Fe} {l u : Env → Res (Option Int × Env)} (he : DE X am e f) (hl : DPt X am lo l) (hu : DPt X am hi u) : DE X am (.Subscript e (.Slice lo hi none p2) pos) (cSl f l u) :=
  PE.imp (pe_slice (SlR.or sl_tupA (SlR.or sl_list sl_str)) he hl hu) fun σ H Q ⟨ρ, F, hw⟩ => tG.of (hw.bind (rel := Is _) fun d ρ1 x F1 H1 t1 i1 hw => tG.of (hw.bind (rel := relP) fun lo ρ2 lo' F2 H2 t2 e2 hw => tG.of (hw.bind (rel := relP) fun hi ρ3 hi' F3 H3 t3 e3 hw => by
    cases e2
    cases e3
    obtain ⟨z, ez, q⟩ := hw.out
    have i3 := i1.mono (t2.ext.trans t3.ext)
    have ex := t3.rp.ext
    cases i3 with
    | @tup a vs ds h t =>
      cases ez
      refine .inl ⟨_, _, rfl, ex.t h, fun hh => ?_, fun _ => newTup ex (t.cut lo hi) q⟩
      have hc : cutL ds lo hi = ds := by
        unfold cutL
        rw [t.length] at hh
        rw [hh.1, hh.2, Nat.sub_zero, List.drop_zero, List.take_length]
      rw [hc] at q
      exact same ex (.tup h t) q
    | lst h t =>
      cases ez
      exact .inr (.inl ⟨_, _, rfl, SqL.of (ex _ _ h), newLst ex (t.cut lo hi) q⟩)
    | scr h t =>
      cases ez
      exact .inr (.inl ⟨_, _, rfl, ex.l h, newLst ex (t.cut lo hi) q⟩)
    | str x =>
      obtain ⟨hz, rfl⟩ := gd_some ez
      exact .inr (.inr ⟨x, rfl, hz.le, same ex (.str _) q⟩)
    | _ => cases ez)))
/-! ### built-ins -/
theorem DCall.or {W : Wd} {r r' : List V → Hp → VK → Prop} {g g' : List D → Option D} (h : DCall W r g) (h' : DCall W r' g') : DCall W (fun xs H Q => r xs H Q ∨ r' xs H Q) (fun l => (g l).or (g' l)) :=
  fun F H xs l z Q ex ix ez q => by
    cases w : g l with
    | some z' =>
      simp only [w, Option.some_or] at ez
      cases ez
      exact .inl (h F H xs l _ Q ex ix w q)
    | none =>
      simp only [w, Option.none_or] at ez
      exact .inr (h' F H xs l _ Q ex ix ez q)
def dLen : List D → Option D
  | [.tup l] => some (.int l.length)
  | [.lst l] => some (.int l.length)
  | [.scr l] => some (.int l.length)
  | [.str x] => gd (sz x.length) (.int x.length)
  | _ => none
abbrev rLenA (K : PySem.W.Frag) : List V → Hp → VK → Prop := fun xs H Q => (∃ p ys, xs = [.ref p] ∧ (SqL K H p ys ∨ SqT K H p ys) ∧ Q (.int ys.length) H) ∨ (∃ z, xs = [.str z] ∧ z.length ≤ sizeLine ∧ Q (.int z.length) H)
theorem call_lenA {X : Cx} : CallR X (.builtin "len") (rLenA X.K) := CallR.or call_len_seq call_len_str
theorem dc_len {W : Wd} : DCall W (rLenA W.K) dLen := fun F H xs l z Q ex ix ez q => by
  cases ix with
  | nil => cases ez
  | cons i t =>
    cases t with
    | cons _ _ => cases i <;> cases ez
    | nil =>
      cases i with
      | tup h t => cases ez; exact .inl ⟨_, _, rfl, .inr (ex.t h), by rw [t.length]; exact same ex (.int _) q⟩
      | lst h t => cases ez; exact .inl ⟨_, _, rfl, .inl (SqL.of (ex _ _ h)), by rw [t.length]; exact same ex (.int _) q⟩
      | scr h t => cases ez; exact .inl ⟨_, _, rfl, .inl (ex.l h), by rw [t.length]; exact same ex (.int _) q⟩
      | str x =>
        obtain ⟨hz, rfl⟩ := gd_some ez
        exact .inr ⟨x, rfl, hz.le, same ex (.int _) q⟩
      | _ => cases ez
/-- the truth values of a list -/
def blsOf : List D → Option (List Bool)
  | [] => some []
  | .bl b :: l => (blsOf l).map (b :: ·)
  | _ :: _ => none
theorem blsOf_some : ∀ {l : List D} {bs : List Bool}, blsOf l = some bs → l = bs.map D.bl
  | [], _, h => by cases h; rfl
  | d :: l, bs, h => by
    cases d with
    | bl b =>
      obtain ⟨bs', e, e2⟩ := Option.map_eq_some_iff.mp (show (blsOf l).map (b :: ·) = some bs from h)
      subst e2
      rw [blsOf_some e]
      rfl
    | _ => cases h
def dAll : List D → Option D
  | [.lst l] => (blsOf l).map fun bs => .bl (bs.all id)
  | _ => none
def dAny : List D → Option D
  | [.lst l] => (blsOf l).map fun bs => .bl (bs.any id)
  | _ => none
theorem dc_all {W : Wd} : DCall W (rAll W.K) dAll := fun F H xs l z Q ex ix ez q => by
  cases ix with
  | nil => cases ez
  | cons i t =>
    cases t with
    | cons _ _ => cases i <;> cases ez
    | nil =>
      cases i with
      | lst h t =>
        obtain ⟨bs, e1, e2⟩ := Option.map_eq_some_iff.mp (show (blsOf _).map _ = some z from ez)
        rw [blsOf_some e1] at t
        have := t.bools
        subst this e2
        exact ⟨_, bs, rfl, SqL.of (ex _ _ h), same ex (.bl _) q⟩
      | _ => cases ez
theorem dc_any {W : Wd} : DCall W (rAny W.K) dAny := fun F H xs l z Q ex ix ez q => by
  cases ix with
  | nil => cases ez
  | cons i t =>
    cases t with
    | cons _ _ => cases i <;> cases ez
    | nil =>
      cases i with
      | lst h t =>
        obtain ⟨bs, e1, e2⟩ := Option.map_eq_some_iff.mp (show (blsOf _).map _ = some z from ez)
        rw [blsOf_some e1] at t
        have := t.bools
        subst this e2
        exact ⟨_, bs, rfl, SqL.of (ex _ _ h), same ex (.bl _) q⟩
      | _ => cases ez
def dTuple : List D → Option D
  | [.lst l] => some (.tup l)
  | [.tup l] => some (.tup l)
  | _ => none
def dList : List D → Option D
  | [.lst l] => some (.lst l)
  | [.tup l] => some (.lst l)
  | _ => none
theorem dc_tuple {W : Wd} : DCall W (fun xs H Q => ∃ p ys, xs = [.ref p] ∧ ((SqL W.K H p ys ∧ ∀ l, H l = none → Q (.ref l) (upd H l (.tup ys))) ∨ (SqT W.K H p ys ∧ Q (.ref p) H))) dTuple := fun F H xs l z Q ex ix ez q => by
  cases ix with
  | nil => cases ez
  | cons i t =>
    cases t with
    | cons _ _ => cases i <;> cases ez
    | nil =>
      cases i with
      | lst h t => cases ez; exact ⟨_, _, rfl, .inl ⟨SqL.of (ex _ _ h), newTup ex t q⟩⟩
      | tup h t => cases ez; exact ⟨_, _, rfl, .inr ⟨ex.t h, same ex (.tup h t) q⟩⟩
      | _ => cases ez
theorem dc_list {W : Wd} : DCall W (fun xs H Q => ∃ p ys, xs = [.ref p] ∧ (SqL W.K H p ys ∨ SqT W.K H p ys) ∧ ∀ l, H l = none → Q (.ref l) (upd H l (.lst ys))) dList := fun F H xs l z Q ex ix ez q => by
  cases ix with
  | nil => cases ez
  | cons i t =>
    cases t with
    | cons _ _ => cases i <;> cases ez
    | nil =>
      cases i with
      | lst h t => cases ez; exact ⟨_, _, rfl, .inl (SqL.of (ex _ _ h)), newLst ex t q⟩
      | tup h t => cases ez; exact ⟨_, _, rfl, .inr (ex.t h), newLst ex t q⟩
      | _ => cases ez
end DL

set_option Elab.async false
set_option linter.all false
set_option maxRecDepth 100000
set_option maxHeartbeats 4000000
namespace DL
open PySem PySem.Spec PyProof.Rows L2
/-! ### sorted of a list or a tuple -/
section
open PySem.W
variable {prog : Program} {w : World} {A : Around} {E : Value → Shared → Prop} {s : Shared} {β : Type} {bs : List β} {enc : β → PyData} {R : Value → β → Prop}
theorem sortedHeap_get {h : Heap} {a : Addr} {vs : List Value} {out : Array Value} {n : Nat} (ho : h.get? a = some (seqObj "list" vs.toArray n)) : ∃ c, (sortedHeap h a vs out).get? a = some (seqObj "list" out c) := by
  unfold sortedHeap
  have h1 : (h.update a (Obj.mapSeq fun _ => #[])).get? a = some (Obj.mapSeq (fun _ => #[]) (seqObj "list" vs.toArray n)) := Heap.get?_update_self _ ho rfl
  have h2 := Heap.get?_push_of_some (seqObj "tuple" vs.toArray 0) h1
  have h3 := Heap.get?_push_of_some (seqObj "list" #[] 0) h2
  have h4 := Heap.get?_update_self (Obj.mapSeq fun _ => out) h3 rfl
  exact ⟨_, h4⟩
theorem sortedHeap_keep {h : Heap} {a b : Addr} {vs : List Value} {out : Array Value} {o : Obj} (hb : b ≠ a) (e : h.get? b = some o) : (sortedHeap h a vs out).get? b = some o := by
  unfold sortedHeap
  have h1 : (h.update a (Obj.mapSeq fun _ => #[])).get? b = some o := (Heap.get?_update_other _ _ (Ne.symm hb)).trans e
  have h3 := Heap.get?_push_of_some (seqObj "list" #[] 0) (Heap.get?_push_of_some (seqObj "tuple" vs.toArray 0) h1)
  exact (Heap.get?_update_other _ _ (Ne.symm hb)).trans h3
/-- the items of a list or a tuple, collected: the heap only grows -/
theorem collect_grow {it : Addr} {T : String} {o : Obj} {its : Array Value} {n : Nat} {Q : List Value → Shared → Prop} (hT : T = "list" ∨ T = "tuple") (ho : s.heap.get? it = some o) (hc : o.cls = .type T) (hd : o.data = .seq its n) (hz : its.size ≤ sizeLine)
    (q : ∀ h', (∀ b o', s.heap.get? b = some o' → h'.get? b = some o') → s.heap.objs.size ≤ h'.objs.size → Q its.toList { s with heap := h' }) : wpAny (model prog w) A (collect (.ref it)) Q E s := by
  have k1 : ∀ b o', s.heap.get? b = some o' → ((s.heap.push (seqObj "list" #[] 0)).update s.heap.objs.size (Obj.mapSeq (· ++ its))).get? b = some o' := fun b o' hb =>
    (Heap.get?_update_other _ _ (Nat.ne_of_gt (Heap.lt_size hb))).trans (Heap.get?_push_of_some _ hb)
  have q1 := q ((s.heap.push (seqObj "list" #[] 0)).update s.heap.objs.size (Obj.mapSeq (· ++ its))) k1 (by rw [Heap.size_update, Heap.size_push]; exact Nat.le_succ _)
  have at0 : (s.heap.push (seqObj "list" #[] 0)).get? s.heap.objs.size = some (seqObj "list" #[] 0) := Heap.get?_push_size _ rfl
  have at1 := Heap.get?_update_self (Obj.mapSeq (· ++ its)) at0 rfl
  unfold collect
  refine wpAny_bind (wpAny_runValue (codeAny_builtin PySem.F.entry_proto_collect ?_))
  rw [Around.under_plainId PySem.F.plain_proto_collect]
  refine wpAny_bind (m := newList []) (wpAny_newObj_type (wpAny_pure ⟨plainId_quiet PySem.F.plain_list_iadd _, codeAny_builtin PySem.F.entry_list_iadd ?_⟩))
  rw [Around.under_plainId PySem.F.plain_list_iadd]
  have fin : wpAny (model prog w) A (load s.heap.objs.size >>= fun ob => match ob.data with
      | Data.seq xs _ => pure xs.toList
      | _ => unsupported "internal:collect") Q E { s with heap := (s.heap.push (seqObj "list" #[] 0)).update s.heap.objs.size (Obj.mapSeq (· ++ its)) } := by
    refine wpAny_bind (wpAny_load at1 (wpAny_pure ?_))
    have e : ((#[] : Array Value) ++ its).toList = its.toList := by simp
    show Q ((#[] : Array Value) ++ its).toList _
    rw [e]
    exact q1
  refine wpAny_mono (wpAny_extend_seq (hsz := hz) (A := A) (R := fun r s' => r = .ok (.ret (.ref s.heap.objs.size)) ∧ s' = { s with heap := (s.heap.push (seqObj "list" #[] 0)).update s.heap.objs.size (Obj.mapSeq (· ++ its)) })
    (s := { s with heap := s.heap.push (seqObj "list" #[] 0) }) _ it _ 0 hT at0 (Heap.get?_push_of_some _ ho) hc hd ⟨rfl, rfl⟩) (fun f s' y => ?_) fun e s' y => absurd y.1 (by simp)
  cases f with
  | done f => obtain ⟨y1, rfl⟩ := y; cases y1; exact fin
  | again c => exact ⟨y.1, codeAny_mono y.2 fun r s'' z => by obtain ⟨rfl, rfl⟩ := z; exact fin⟩
theorem sorted_seq {it : Addr} {T : String} {o : Obj} {its : Array Value} {n : Nat} {Q : Value → Shared → Prop} (hT : T = "list" ∨ T = "tuple") (ho : s.heap.get? it = some o) (hc : o.cls = .type T) (hd : o.data = .seq its n)
    (e : EachIs R its.toList bs) (er : EachIs (fun v b => ∃ as, Reads s.heap v (enc b) as) its.toList bs) (hal : AllAlike (bs.map enc)) (hk : Sortable (bs.map enc)) (hL : bs.length ≤ sizeLine) (hu : ∀ b, b ∈ bs → A.units + 2 + (enc b).depth < cLine)
    (h : ∀ (h' : Heap) (p : Addr) (out : List Value) (c : Nat), (∀ b o, s.heap.get? b = some o → h'.get? b = some o) → s.heap.objs.size ≤ p → h'.get? p = some (seqObj "list" out.toArray c) → EachIs R out (bs.mergeSort (dataLe false enc)) → Q (.ref p) { s with heap := h' }) :
    wpAny (model prog w) A (call (.builtin "sorted") [.ref it]) Q E s := by
  have hz : its.size ≤ sizeLine := by
    have := e.length
    rw [Array.length_toList] at this
    omega
  refine Calls.call_function_entry kind_sorted plain_sorted entry_sorted (args_sorted1 _) ?_
  unfold Builtin.«sorted»
  refine wpAny_bind (m := checkCount "sorted" 1 1 _) (wpAny_pure (wpAny_bind (collect_grow hT ho hc hd hz fun h1 k1 hsz => ?_)))
  refine wpAny_bind (wpAny_newList ?_ (by rw [Array.length_toList]; exact hz))
  have hat : (h1.push (seqObj "list" its.toList.toArray 0)).get? h1.objs.size = some (seqObj "list" its.toList.toArray 0) := Heap.get?_push_size _ rfl
  have k2 : ∀ b o, s.heap.get? b = some o → (h1.push (seqObj "list" its.toList.toArray 0)).get? b = some o := fun b o q => Heap.get?_push_of_some _ (k1 b o q)
  have nb : ∀ b o, s.heap.get? b = some o → b ≠ h1.objs.size := fun b o q => Nat.ne_of_lt (Nat.lt_of_lt_of_le (Heap.lt_size q) hsz)
  have er2 : EachIs (fun v b => ∃ as, Reads (sortingHeap (h1.push (seqObj "list" its.toList.toArray 0)) h1.objs.size its.toList) v (enc b) as) its.toList bs :=
    er.mono fun v b ⟨as, r⟩ => ⟨as, PyProof.Rows.Reads.keeps (fun b o q => sortingHeap_old (nb b o q) (k2 b o q)) r⟩
  refine wpAny_bind (wpAny_holding (wpAny_call_entry slot_list_sort ⟨_, hat, rfl⟩ entry_list_sort
    (list_sort_vals (s := { s with heap := h1.push (seqObj "list" its.toList.toArray 0) }) (κ := dataKind (sortingHeap (h1.push (seqObj "list" its.toList.toArray 0)) h1.objs.size its.toList) (bs.map enc)) hat
      (SortsAt.data (s := { s with heap := sortingHeap (h1.push (seqObj "list" its.toList.toArray 0)) h1.objs.size its.toList }) (each_map (R := fun v d => ∃ as, Reads (sortingHeap (h1.push (seqObj "list" its.toList.toArray 0)) h1.objs.size its.toList) v d as) enc er2) hal hk (bound_map hu)) (by rw [Array.length_toList]; exact hz) ⟨_, rfl, ?_⟩) (args_list_sort _)))
  obtain ⟨c, hcat⟩ := sortedHeap_get (out := (sortVals (dataKind (sortingHeap (h1.push (seqObj "list" its.toList.toArray 0)) h1.objs.size its.toList) (bs.map enc)) false its.toList its.toList).toArray) hat
  exact wpAny_pure ⟨_, rfl, h _ _ _ c (fun b o q => sortedHeap_keep (nb b o q) (k2 b o q)) hsz hcat (sortVals_data false e er2 hal)⟩
end
end DL

set_option Elab.async false
set_option linter.all false
set_option maxRecDepth 100000
set_option maxHeartbeats 4000000
namespace DL
open PySem PySem.Spec PyProof.Rows L2
/-! ### sorted -/
def encD (d : D) : PyData := (toPy d).getD .none
abbrev encB (b : V × D) : PyData := encD b.2
def leD (d e : D) : Bool := PySem.W.dataLe false encD d e
def sortD (l : List D) : List D := l.mergeSort leD
def okT (d : D) : Bool := match encD d with
  | .tuple (_ :: _) => true
  | _ => false
def okN (d : D) : Bool := match encD d with
  | .tuple _ => false
  | .none => false
  | _ => true
/-- what can be sorted -/
def srtOk (l : List D) : Bool := decide (l.length ≤ 100000) && (l.all fun d => (toPy d).isSome && decide ((encD d).depth ≤ 64) && l.all fun e => PySem.W.alike (encD d) (encD e)) && (l.all okT || l.all okN)
theorem srtOk_len {l : List D} (h : srtOk l = true) : l.length ≤ 100000 := by
  unfold srtOk at h
  simp only [Bool.and_eq_true, decide_eq_true_eq] at h
  exact h.1.1
theorem srtOk_each {l : List D} (h : srtOk l = true) {d : D} (hd : d ∈ l) : (∃ p, toPy d = some p) ∧ (encD d).depth ≤ 64 ∧ ∀ e ∈ l, PySem.W.alike (encD d) (encD e) = true := by
  unfold srtOk at h
  simp only [Bool.and_eq_true, decide_eq_true_eq, List.all_eq_true] at h
  obtain ⟨⟨h1, h2⟩, h3⟩ := h.1.2 d hd
  exact ⟨Option.isSome_iff_exists.mp h1, h2, h3⟩
theorem srtOk_kind {l : List D} (h : srtOk l = true) : PySem.W.Sortable (l.map encD) := by
  unfold srtOk at h
  simp only [Bool.and_eq_true, Bool.or_eq_true] at h
  rcases h.2 with h | h
  · refine .inl fun d hd => ?_
    obtain ⟨e, he, rfl⟩ := List.mem_map.mp hd
    have := List.all_eq_true.mp h e he
    unfold okT at this
    split at this
    · rename_i x r q; exact ⟨x, r, q⟩
    · cases this
  · refine .inr fun d hd => ?_
    obtain ⟨e, he, rfl⟩ := List.mem_map.mp hd
    have := List.all_eq_true.mp h e he
    unfold okN at this
    split at this
    · cases this
    · cases this
    · rename_i h1 h2
      exact ⟨fun z => h2 z, fun xs z => h1 xs z⟩
theorem IsL.pair {W : Wd} {F : Hp} : ∀ {vs : List V} {l : List D}, IsL W F vs l → ∃ bs : List (V × D), vs = bs.map Prod.fst ∧ l = bs.map Prod.snd ∧ ∀ b ∈ bs, Is W F b.1 b.2
  | _, _, .nil => ⟨[], rfl, rfl, by simp⟩
  | _, _, .cons h t => by
    obtain ⟨bs, rfl, rfl, q⟩ := IsL.pair t
    exact ⟨(_, _) :: bs, rfl, rfl, by
      intro b hb
      rcases List.mem_cons.mp hb with e | e
      · rw [e]; exact h
      · exact q b e⟩
theorem IsL.ofPair {W : Wd} {F : Hp} : ∀ {bs : List (V × D)}, (∀ b ∈ bs, Is W F b.1 b.2) → IsL W F (bs.map Prod.fst) (bs.map Prod.snd)
  | [], _ => .nil
  | b :: bs, h => .cons (h b (by simp)) (IsL.ofPair fun c hc => h c (by simp [hc]))
/-- the values of bs, sorted by their data -/
def rSorted (K : PySem.W.Frag) : List V → Hp → VK → Prop := fun xs H Q => ∃ (p : Addr) (bs : List (V × D)), xs = [.ref p] ∧ (SqL K H p (bs.map Prod.fst) ∨ SqT K H p (bs.map Prod.fst)) ∧ (∀ b ∈ bs, Dp K H b.1 (encB b)) ∧ srtOk (bs.map Prod.snd) = true ∧
  ∀ q, H q = none → Q (.ref q) (upd H q (.lst ((bs.mergeSort (PySem.W.dataLe false encB)).map Prod.fst)))
theorem each_of {R : V × D → Value → Prop} : ∀ {bs : List (V × D)} {us : List Value}, Vals (bs.map Prod.fst) us → (∀ b u, b ∈ bs → RelV b.1 u → R b u) → PySem.W.EachIs (fun u b => R b u) us bs
  | [], _, h, _ => by cases h; exact .nil
  | b :: bs, _, h, k => by
    cases h with
    | cons r t => exact .cons (k b _ (by simp) r) (each_of t fun c u hc => k c u (by simp [hc]))
theorem vals_of : ∀ {bs : List (V × D)} {us : List Value}, PySem.W.EachIs (fun u b => RelV b.1 u) us bs → Vals (bs.map Prod.fst) us
  | _, _, .nil => .nil
  | _, _, .cons r t => .cons r (vals_of t)
theorem call_sorted {X : Cx} (hu : X.A.units + 70 < cLine) : CallR X (.builtin "sorted") (rSorted X.K) := by
  intro pins s σ H xs us Q I r h
  obtain ⟨p, bs, rfl, hq, hdp, ok, q⟩ := h
  obtain ⟨u, rfl, rx⟩ := vals1 r
  cases rx
  have mem2 : ∀ b ∈ bs, b.2 ∈ bs.map Prod.snd := fun b hb => List.mem_map.mpr ⟨b, hb, rfl⟩
  have hal : PySem.W.AllAlike (bs.map encB) := fun d hd d' hd' => by
    obtain ⟨b, hb, rfl⟩ := List.mem_map.mp hd
    obtain ⟨b', hb', rfl⟩ := List.mem_map.mp hd'
    exact (srtOk_each ok (mem2 b hb)).2.2 _ (mem2 b' hb')
  have hk : PySem.W.Sortable (bs.map encB) := by
    have := srtOk_kind ok
    rw [List.map_map] at this
    exact this
  have hL : bs.length ≤ sizeLine := by
    have := srtOk_len ok
    rw [List.length_map] at this
    exact Nat.le_trans this (by decide)
  have hU : ∀ b, b ∈ bs → X.A.units + 2 + (encB b).depth < cLine := fun b hb => by
    have : (encB b).depth ≤ 64 := (srtOk_each ok (mem2 b hb)).2.1
    omega
  have main : ∀ (its : List Value) (T : String) (o : Obj) (n : Nat), (T = "list" ∨ T = "tuple") → s.heap.get? p = some o → o.cls = .type T → o.data = .seq its.toArray n → Vals (bs.map Prod.fst) its →
      wpAny (model X.prog X.w) X.A (call (.builtin "sorted") [.ref p]) (EP X pins σ Q) X.xe s := fun its T o n hT ho hc hd rv => by
    refine sorted_seq (R := fun u b => RelV b.1 u) (bs := bs) (enc := encB) hT ho hc hd (each_of (R := fun b u => RelV b.1 u) (by simpa using rv) fun b u _ r => r)
      (each_of (R := fun b u => ∃ as, Reads s.heap u (encB b) as) (by simpa using rv) fun b u hb r => Dp.reads I _ _ _ (hdp b hb) r) hal hk hL hU fun h' pp out c kp hp hget he => ?_
    have rv2 := vals_of he
    have hlen : ((bs.mergeSort (PySem.W.dataLe false encB)).map Prod.fst).length ≤ sizeLine := by simpa using hL
    refine ⟨.ref pp, _, I.laid (t' := s.toks) kp hp (show ObjOk X.prog X.w _ h' _ (.lst ((bs.mergeSort (PySem.W.dataLe false encB)).map Prod.fst)) from ⟨hlen, out, c, rv2, hget⟩), rfl, q _ (I.hok.fresh hp)⟩
  rcases hq with hq | hq
  · obtain ⟨its, r', pl, hz⟩ := I.list hq
    obtain ⟨o, ho, hc, n, hd⟩ := pl.isList
    exact main its "list" o n (.inl rfl) ho hc hd r'
  · obtain ⟨its, r', pl, hz⟩ := I.tuple hq
    obtain ⟨o, ho, hc, n, hd⟩ := pl
    exact main its "tuple" o n (.inr rfl) ho hc hd r'
def dSorted : List D → Option D
  | [.lst l] => gd (srtOk l = true) (.lst (sortD l))
  | [.tup l] => gd (srtOk l = true) (.lst (sortD l))
  | _ => none
theorem sort_pairs (bs : List (V × D)) : (bs.mergeSort (PySem.W.dataLe false encB)).map Prod.snd = sortD (bs.map Prod.snd) := by
  unfold sortD
  rw [List.map_mergeSort (r := PySem.W.dataLe false encB) (s := leD) (f := Prod.snd)]
  intro a _ b _
  rfl
theorem dc_sorted {W : Wd} : DCall W (rSorted W.K) dSorted := fun F H xs l z Q ex ix ez q => by
  cases ix with
  | nil => cases ez
  | cons i t =>
    cases t with
    | cons _ _ => cases i <;> cases ez
    | nil =>
      have fin : ∀ (a : Addr) (vs : List V) (l : List D), (SqL W.K H a vs ∨ SqT W.K H a vs) → IsL W F vs l → gd (srtOk l = true) (D.lst (sortD l)) = some z → rSorted W.K [.ref a] H Q := fun a vs l hs il e => by
        obtain ⟨ok, rfl⟩ := gd_some e
        obtain ⟨bs, rfl, rfl, hb⟩ := il.pair
        refine ⟨a, bs, rfl, hs, fun b hb' => ?_, ok, ?_⟩
        · obtain ⟨p, hp⟩ := (srtOk_each ok (List.mem_map.mpr ⟨b, hb', rfl⟩)).1
          have : encB b = p := by show (toPy b.2).getD .none = p; rw [hp]; rfl
          rw [this]
          exact dpMono ex ((hb b hb').dp hp)
        · rw [← sort_pairs] at q
          exact newLst ex (IsL.ofPair fun b hb' => hb b ((List.mem_mergeSort).mp hb')) q
      cases i with
      | lst h t => exact fin _ _ _ (.inl (SqL.of (ex _ _ h))) t ez
      | tup h t => exact fin _ _ _ (.inr (ex.t h)) t ez
      | _ => cases ez
/-! ### repr -/
def rRepr (K : PySem.W.Frag) : List V → Hp → VK → Prop := fun xs H Q => ∃ (a : Addr) (d : PyData), xs = [.ref a] ∧ Dp K H (.ref a) d ∧ d.showable = true ∧ d.hasDict = false ∧ d.depth ≤ 64 ∧ d.shown.length ≤ 16777216 ∧ Q (.str d.shown) H
theorem call_repr {X : Cx} (hgd : X.A.guards = some []) (hu : X.A.units + 70 < cLine) : CallR X (.builtin "repr") (rRepr X.K) := by
  intro pins s σ H xs us Q I r h
  obtain ⟨a, d, rfl, hd, h1, h2, h3, h4, q⟩ := h
  obtain ⟨u, rfl, rx⟩ := vals1 r
  cases rx
  obtain ⟨as, rd⟩ := Dp.reads I d _ _ hd (show RelV (.ref a) (.ref a) from rfl)
  refine repr_of_reads' rd h1 (PyData.noDict_hsm h2) hgd (by omega) (fun _ _ e => e) (fun h' u tk k => ?_) (Nat.le_trans h4 (by decide))
  exact ⟨.str d.shown, H, I.kept (t' := tk) k, ⟨_, rfl⟩, q⟩
def shownOk (p : PyData) : Bool := p.showable && !p.hasDict && decide (p.depth ≤ 64) && decide (p.shown.length ≤ 16777216)
def dRepr : List D → Option D
  | [.lst l] => (toPy (.lst l)).bind fun p => gd (shownOk p = true) (.str p.shown)
  | [.tup l] => (toPy (.tup l)).bind fun p => gd (shownOk p = true) (.str p.shown)
  | _ => none
theorem dc_repr {W : Wd} : DCall W (rRepr W.K) dRepr := fun F H xs l z Q ex ix ez q => by
  cases ix with
  | nil => cases ez
  | cons i t =>
    cases t with
    | cons _ _ => cases i <;> cases ez
    | nil =>
      have fin : ∀ (a : Addr) (d : D), Is W F (.ref a) d → ((toPy d).bind fun p => gd (shownOk p = true) (D.str p.shown)) = some z → rRepr W.K [.ref a] H Q := fun a d i e => by
        obtain ⟨p, e1, e2⟩ := Option.bind_eq_some_iff.mp e
        obtain ⟨ok, rfl⟩ := gd_some e2
        unfold shownOk at ok
        simp only [Bool.and_eq_true, decide_eq_true_eq, Bool.not_eq_true'] at ok
        exact ⟨a, p, rfl, dpMono ex (i.dp e1), ok.1.1.1, ok.1.1.2, ok.1.2, ok.2, same ex (.str _) q⟩
      cases i with
      | lst h t => exact fin _ _ (.lst h t) ez
      | tup h t => exact fin _ _ (.tup h t) ez
      | _ => cases ez
end DL

set_option Elab.async false
set_option linter.all false
set_option maxRecDepth 100000
set_option maxHeartbeats 4000000
namespace DL
open PySem PySem.Spec PyProof.Rows L2
/-! ### isinstance -/
/-- the built-in type of a datum -/
def tyD : D → Option String
  | .non => some "NoneType"
  | .bl _ => some "bool"
  | .int _ => some "int"
  | .str _ => some "str"
  | .tup _ => some "tuple"
  | .lst _ => some "list"
  | _ => none
theorem sqT_ty {K : PySem.W.Frag} {H : Hp} {a : Addr} {xs : List V} (h : SqT K H a xs) : TyX K H (.ref a) (.type "tuple") := by
  rcases h with (h | ⟨o, h⟩) | ⟨o, its, n, h1, h2, _⟩
  · exact .base (.tup h)
  · exact .fTuple h
  · exact .kTuple h1 h2
theorem Is.ty {W : Wd} {F H : Hp} {v : V} {d : D} {T : String} (ex : Ext F H) (i : Is W F v d) (e : tyD d = some T) : TyX W.K H v (.type T) := by
  cases i with
  | non => cases e; exact .base .non
  | bl b => cases e; exact .base (.bl b)
  | int b => cases e; exact .base (.int b)
  | str b => cases e; exact .base (.str b)
  | tup h t => cases e; exact sqT_ty (ex.t h)
  | lst h t => cases e; exact .base (.lst (ex _ _ h))
  | ins _ _ _ => cases e
  | fn _ => cases e
  | dr => cases e
  | scr _ _ => cases e
def isT (T : String) (d : D) : Option D := ((tyD d).bind fun n => kitB n T).map D.bl
def cUn (o : D → Option D) (f : Fe) : Fe := bE f fun d ρ => oR (o d) fun z => (z, ρ)
section
variable {X : Cx} {am : Am} {e : Expr} {f : Fe} {pos px pt p1 p2 : Pos}
/-- isinstance(e, T) -/
theorem de_isT {x : Str} {T : String} (hgi : Gl X "isinstance") (hmi : X.mg "isinstance" = none) (hbi : bootBuiltins "isinstance" = some (.builtin "isinstance")) (hg : Gl X x) (hm : X.mg x = none) (hb : bootBuiltins x = some (.type T)) (he : DE X am e f)
    (hn : x ≠ "__name__" := by decide) (hd : (x == ("__debug__" : Str)) = false := by decide)
    (hs : starEach [e, .Name x pt] X.env = (false, eval e X.env) :: starEach [.Name x pt] X.env := by rfl) (hs2 : starEach [.Name x pt] X.env = (false, eval (.Name x pt) X.env) :: starEach [] X.env := by rfl) (hpl : (backTo pos (starEach [.Name x pt] X.env)).any (·.1) = false := by rfl) :
    DE X am (.Call (.Name "isinstance" px) [e, .Name x pt] [] pos) (cUn (isT T) f) :=
  PE.imp (pe_callB call_isi hgi hmi hbi (pa_cons he (pa_cons (pe_bltn (v := .ty T) hg hm hb rfl hn hd) pa_nil hs2) hs) (he := hs) (hpl := hpl)) fun σ H Q ⟨ρ, F, hw⟩ =>
    tG.of (hw.bind (rel := Is _) fun d ρ1 v F1 H1 t1 i1 hw => by
      obtain ⟨z, ez, q⟩ := hw.out
      obtain ⟨b, eb, rfl⟩ := Option.map_eq_some_iff.mp ez
      obtain ⟨n, en, ek⟩ := Option.bind_eq_some_iff.mp eb
      exact ⟨v, .ty T, .type n, .type T, b, rfl, .ty T, i1.ty t1.rp.ext en, kit_ty ek, same t1.rp.ext (.bl b) q⟩)
/-- isinstance(e, (T, U)) -/
def isT2 (T U : String) (d : D) : Option D := (tyD d).bind fun n => match kitB n T, kitB n U with
  | some a, some b => some (.bl (a || b))
  | _, _ => none
theorem de_isT2 {x y : Str} {T U : String} {k : Nat} {py : Pos} (hgi : Gl X "isinstance") (hmi : X.mg "isinstance" = none) (hbi : bootBuiltins "isinstance" = some (.builtin "isinstance")) (hg : Gl X x) (hm : X.mg x = none) (hb : bootBuiltins x = some (.type T)) (hg' : Gl X y) (hm' : X.mg y = none) (hb' : bootBuiltins y = some (.type U)) (he : DE X am e f)
    (hn : x ≠ "__name__" := by decide) (hd : (x == ("__debug__" : Str)) = false := by decide) (hn' : y ≠ "__name__" := by decide) (hd' : (y == ("__debug__" : Str)) = false := by decide)
    (hs : starEach [e, .Tuple [.Name x pt, .Name y py] k p1] X.env = (false, eval e X.env) :: starEach [.Tuple [.Name x pt, .Name y py] k p1] X.env := by rfl)
    (hs2 : starEach [.Tuple [.Name x pt, .Name y py] k p1] X.env = (false, eval (.Tuple [.Name x pt, .Name y py] k p1) X.env) :: starEach [] X.env := by rfl) (hpl : (backTo pos (starEach [.Tuple [.Name x pt, .Name y py] k p1] X.env)).any (·.1) = false := by rfl)
    (h3 : starEach [.Name x pt, .Name y py] X.env = (false, eval (.Name x pt) X.env) :: starEach [.Name y py] X.env := by rfl) (h4 : starEach [.Name y py] X.env = (false, eval (.Name y py) X.env) :: starEach [] X.env := by rfl) :
    DE X am (.Call (.Name "isinstance" px) [e, .Tuple [.Name x pt, .Name y py] k p1] [] pos) (cUn (isT2 T U) f) :=
  PE.imp (pe_callB call_isiT hgi hmi hbi (pa_cons he (pa_cons (pe_tup (pa_cons (pe_bltn (v := .ty T) hg hm hb rfl hn hd) (pa_cons (pe_bltn (v := .ty U) hg' hm' hb' rfl hn' hd') pa_nil h4) h3)) pa_nil hs2) hs) (he := hs) (hpl := hpl)) fun σ H Q ⟨ρ, F, hw⟩ =>
    tG.of (hw.bind (rel := Is _) fun d ρ1 v F1 H1 t1 i1 hw => by
      obtain ⟨z, ez, q⟩ := hw.out
      refine ⟨by show 2 ≤ sizeLine; decide, fun p hp => ?_⟩
      obtain ⟨n, en, ek⟩ := Option.bind_eq_some_iff.mp ez
      split at ek
      · rename_i a b ea eb
        cases ek
        have ex : Ext F1 (upd H1 p (.tup [.ty T, .ty U])) := t1.rp.ext.trans (Ext.new hp)
        refine ⟨v, p, [.ty T, .ty U], .type n, [.type T, .type U], a || b, rfl, upd_same, .cons (.ty T) (.cons (.ty U) .nil), i1.ty ex en, ?_, ?_⟩
        · refine kitAny_cons (kit_ty ea) (fun hf => ?_) (fun ht => by rw [ht]; rfl)
          subst hf
          refine kitAny_cons (kit_ty eb) (fun hf => ?_) (fun ht => by rw [ht]; rfl)
          subst hf
          exact kitAny_nil
        · exact q _ F1 _ ⟨Ext.refl _, fun a x e _ => Ext.new hp a x e, fun a x e => .inl e⟩ ex (.bl _)
      · cases ek)
/-- isinstance(e, C), C an own class: what is said of instances, of the other data -/
def isC (C : Str) (ans : Str → Option Bool) (d : D) : Option D := match d with
  | .ins c _ => (ans c).map D.bl
  | d => (tyD d).map fun _ => .bl false
theorem de_isC {x : Str} {C : Addr} {ans : Str → Option Bool} (hgi : Gl X "isinstance") (hmi : X.mg "isinstance" = none) (hbi : bootBuiltins "isinstance" = some (.builtin "isinstance")) (hg : Gl X x) (hm : X.mg x = some (.ref C)) (he : DE X am e f)
    (hans : ∀ c D b, ans c = some b → X.mg c = some (.ref D) → SlX.SCls X.K D ∧ SlX.SIsi X.K D ∧ PySem.W.kitOne X.K (.ref D) (.ref C) = some b)
    (hoth : ∀ n ∈ ["NoneType", "bool", "int", "str", "tuple", "list"], PySem.W.kitOne X.K (.type n) (.ref C) = some false)
    (hd : (x == ("__debug__" : Str)) = false := by decide)
    (hs : starEach [e, .Name x pt] X.env = (false, eval e X.env) :: starEach [.Name x pt] X.env := by rfl) (hs2 : starEach [.Name x pt] X.env = (false, eval (.Name x pt) X.env) :: starEach [] X.env := by rfl) (hpl : (backTo pos (starEach [.Name x pt] X.env)).any (·.1) = false := by rfl) :
    DE X am (.Call (.Name "isinstance" px) [e, .Name x pt] [] pos) (cUn (isC x ans) f) :=
  PE.imp (pe_callB (CallR.or (SlX.call_isiSl (.ref C)) call_isi) hgi hmi hbi (pa_cons he (pa_cons (pe_glob (v := .ref C) hg hm rfl hd) pa_nil hs2) hs) (he := hs) (hpl := hpl)) fun σ H Q ⟨ρ, F, hw⟩ =>
    tG.of (hw.bind (rel := Is _) fun d ρ1 v F1 H1 t1 i1 hw => by
      obtain ⟨z, ez, q⟩ := hw.out
      have oth : ∀ n, tyD d = some n → n ∈ ["NoneType", "bool", "int", "str", "tuple", "list"] → z = .bl false → rIsi X.K [v, .ref C] H1 Q := fun n en hn hz => by
        subst hz
        exact ⟨v, .ref C, .type n, .ref C, false, rfl, .own C, i1.ty t1.rp.ext en, hoth n hn, same t1.rp.ext (.bl false) q⟩
      cases i1 with
      | @ins c D' y vs ds g h t =>
        obtain ⟨b, eb, rfl⟩ := Option.map_eq_some_iff.mp (show (ans c).map D.bl = some z from ez)
        obtain ⟨h1, h2, h3⟩ := hans c D' b eb g
        obtain ⟨dx, hs⟩ := (t1.rp.ext.ins h).slt
        exact .inl ⟨y, D', dx, _, .ref C, b, rfl, rfl, fun w hw => hw, hs, h1, h2, h3, same t1.rp.ext (.bl b) q⟩
      | non => exact .inr (oth _ rfl (by simp) (Option.some.inj ez).symm)
      | bl _ => exact .inr (oth _ rfl (by simp) (Option.some.inj ez).symm)
      | int _ => exact .inr (oth _ rfl (by simp) (Option.some.inj ez).symm)
      | str _ => exact .inr (oth _ rfl (by simp) (Option.some.inj ez).symm)
      | tup _ _ => exact .inr (oth _ rfl (by simp) (Option.some.inj ez).symm)
      | lst _ _ => exact .inr (oth _ rfl (by simp) (Option.some.inj ez).symm)
      | fn _ => cases ez
      | dr => cases ez
      | scr _ _ => cases ez)
/-! ### attributes -/
def atD (fld : Str → Option Nat) (d : D) : Option D := match d with
  | .ins c ds => (fld c).bind fun i => ds[i]?
  | _ => none
theorem de_attr {n : Str} {fld : Str → Option Nat} (he : DE X am e f) (hf : ∀ c C i, fld c = some i → X.mg c = some (.ref C) → SlX.SCls X.K C ∧ ∃ p, SlX.Slot1 X.K C n p i) (hb : attributeBase e n X.env (eval e X.env) = eval e X.env := by rfl) : DE X am (.Attribute e n pos) (cUn (atD fld) f) :=
  PE.imp (SlX.pe_sl he hb) fun σ H Q ⟨ρ, F, hw⟩ => tG.of (hw.bind (rel := Is _) fun d ρ1 v F1 H1 t1 i1 hw => by
    obtain ⟨z, ez, q⟩ := hw.out
    cases i1 with
    | @ins c C y vs ds g h t =>
      obtain ⟨i, ei, e2⟩ := Option.bind_eq_some_iff.mp (show (fld c).bind _ = some z from ez)
      obtain ⟨h1, p, h2⟩ := hf c C i ei g
      obtain ⟨w, hw, iw⟩ := t.get e2
      obtain ⟨dx, hs⟩ := (t1.rp.ext.ins h).slt
      exact ⟨y, C, dx, p, _, i, w, rfl, hs, h1, h2, by rw [List.getElem?_map, hw]; rfl, same t1.rp.ext iw q⟩
    | _ => cases ez)
/-! ### texts -/
def strsOf : List D → Option (List Str)
  | [] => some []
  | .str x :: l => (strsOf l).map (x :: ·)
  | _ :: _ => none
theorem strsOf_some : ∀ {l : List D} {xs : List Str}, strsOf l = some xs → l = xs.map D.str
  | [], _, h => by cases h; rfl
  | d :: l, xs, h => by
    cases d with
    | str x =>
      obtain ⟨xs', e, e2⟩ := Option.map_eq_some_iff.mp (show (strsOf l).map (x :: ·) = some xs from h)
      subst e2
      rw [strsOf_some e]
      rfl
    | _ => cases h
def joinL (a : Str) (l : List D) : Option D := (strsOf l).bind fun ys => gd ((ys.map (·.length)).sum + ys.length * a.length ≤ 16777216) (.str (Txt.join a ys))
/-- a method of a text with one argument -/
def cM1 (o : Str → D → Option D) (f g : Fe) : Fe := bE f fun d => match d with
  | .str a => bE g fun e ρ => oR (o a e) fun z => (z, ρ)
  | _ => fun _ => .no
theorem m1_core {W : Wd} {E : WX} {r : V → List V → Hp → VK → Prop} {o : Str → D → Option D} {f g : Fe} (ho : ∀ (F H : Hp) (a : Str) (y : V) (e z : D) (Q : VK), Ext F H → Is W F y e → o a e = some z → (∀ v F' H', Nw F H F' H' → Ext F' H' → Is W F' v z → Q v H') → r (.str a) [y] H Q)
    {σ : L2.St} {H : Hp} {Q : VK} (hw : tD W E (cM1 o f g) σ H Q) : tM1 r (tD W E f) (tD W E g) σ H Q := by
  obtain ⟨ρ, F, hw⟩ := hw
  refine tG.of (hw.bind (rel := Is W) fun d ρ1 v F1 H1 t1 i1 hw => ?_)
  cases i1 with
  | str a =>
    refine ⟨⟨a, rfl⟩, tG.of (hw.bind (rel := Is W) fun e ρ2 w F2 H2 t2 i2 hw => ?_)⟩
    obtain ⟨z, ez, q⟩ := hw.out
    exact ho F2 H2 a w e z Q t2.rp.ext i2 ez q
  | _ => exact hw.2.elim
def dJoin (a : Str) : D → Option D
  | .lst l => joinL a l
  | .tup l => joinL a l
  | _ => none
theorem de_join {o : Expr} {g : Fe} {ap : Pos} (ho : DE X am o f) (he : DE X am e g) (hs : starEach [e] X.env = [(false, eval e X.env)] := by rfl) (hbase : attributeBase o "join" X.env (eval o X.env) = eval o X.env := by rfl) (hline : (ap.endLine == pos.line) = true := by rfl) :
    DE X am (.Call (.Attribute o "join" ap) [e] [] pos) (cM1 dJoin f g) :=
  PE.imp (pe_join ho he hs hbase hline) fun σ H Q hw => m1_core (fun F2 H2 a w e z Q ex i2 ez q => by
    have fin : ∀ l vs p, IsL (wd X am) F2 vs l → joinL a l = some z → (SqL X.K H2 p vs ∨ SqT X.K H2 p vs) → ∃ a' p', ∃ ys : List Str, V.str a = .str a' ∧ [V.ref p] = [V.ref p'] ∧ (SqL X.K H2 p' (ys.map V.str) ∨ SqT X.K H2 p' (ys.map V.str)) ∧
        (ys.map (·.length)).sum + ys.length * a'.length ≤ 16777216 ∧ Q (.str (Txt.join a' ys)) H2 := fun l vs p il ej hq => by
      obtain ⟨ys, e1, e2⟩ := Option.bind_eq_some_iff.mp ej
      obtain ⟨hz, rfl⟩ := gd_some e2
      rw [strsOf_some e1] at il
      rw [il.strs] at hq
      exact ⟨a, p, ys, rfl, rfl, hq, hz, same ex (.str _) q⟩
    cases i2 with
    | lst h t => exact fin _ _ _ t ez (.inl (SqL.of (ex _ _ h)))
    | tup h t => exact fin _ _ _ t ez (.inr (ex.t h))
    | _ => cases ez) hw
def dSplit (a : Str) : D → Option D
  | .str b => gd ((b.length == 0) = false ∧ sz a.length) (.lst ((Txt.split a b).map D.str))
  | _ => none
theorem de_split {o : Expr} {g : Fe} {ap : Pos} (ho : DE X am o f) (he : DE X am e g) (hs : starEach [e] X.env = [(false, eval e X.env)] := by rfl) (hbase : attributeBase o "split" X.env (eval o X.env) = eval o X.env := by rfl) (hline : (ap.endLine == pos.line) = true := by rfl) :
    DE X am (.Call (.Attribute o "split" ap) [e] [] pos) (cM1 dSplit f g) :=
  PE.imp (pe_split ho he hs hbase hline) fun σ H Q hw => m1_core (fun F2 H2 a w e z Q ex i2 ez q => by
    cases i2 with
    | str b =>
      obtain ⟨⟨h1, h2⟩, rfl⟩ := gd_some (show gd _ _ = some z from ez)
      have hz : a.length + 2 ≤ sizeLine := Nat.le_trans (Nat.add_le_add_right h2 2) (by decide)
      exact ⟨a, b, rfl, rfl, h1, hz, newLst ex (IsL.ofStrs _) q⟩
    | _ => cases ez) hw
/-! e[::-1] -/
def dRev : D → Option D
  | .lst l => some (.lst l.reverse)
  | _ => none
theorem de_rev {k : Nat} {p3 : Pos} (he : DE X am e f) : DE X am (.Subscript e (.Slice none none (some (.UnaryOp .USub (.Constant (.int 1) k p1) p2)) p3) pos) (cUn dRev f) :=
  PE.imp (pe_revL he) fun σ H Q ⟨ρ, F, hw⟩ => tG.of (hw.bind (rel := Is _) fun d ρ1 v F1 H1 t1 i1 hw => by
    obtain ⟨z, ez, q⟩ := hw.out
    cases i1 with
    | lst h t =>
      cases ez
      exact ⟨_, _, rfl, SqL.of (t1.rp.ext _ _ h), newLst t1.rp.ext t.reverse q⟩
    | _ => cases ez)
end
/-! ### own lists that are only read -/
section
/-- what tells of itself -/
def scal : D → Bool
  | .non => true
  | .bl _ => true
  | .int _ => true
  | .str _ => true
  | _ => false
theorem Is.scal {W : Wd} {F F' : Hp} {v : V} {d : D} (i : Is W F v d) (h : DL.scal d = true) : Is W F' v d := by
  cases i with
  | non => exact .non
  | bl b => exact .bl b
  | int b => exact .int b
  | str b => exact .str b
  | _ => cases h
/-- the own list, read as a datum -/
theorem own_peek {W : Wd} {ρ : Env} {σ : L2.St} {F H : Hp} {i : Nat} {l : List D} (r : Rp W ρ σ F H) (h : ownL ρ i = some l) : ∃ a G, σ[i]? = some (some (.ref a)) ∧ Ext F G ∧ Ext G H ∧ Is W G (.ref a) (.lst l) := by
  obtain ⟨a, x, hx, hF, hH, k⟩ := r.slot i _ (ownL_some h)
  cases k with
  | lst il =>
    rename_i vs
    refine ⟨a, upd F a (.lst vs), hx, Ext.new hF, fun b o e => ?_, .lst upd_same (il.mono (Ext.new hF))⟩
    by_cases z : b = a
    · subst z; rw [upd_same] at e; cases e; exact hH
    · rw [upd_ne z] at e; exact r.ext b o e
/-- a result that tells of itself, out of a view -/
theorem peeked {W : Wd} {ρ : Env} {σ : L2.St} {F G H : Hp} {z : D} {Q : VK} (r : Rp W ρ σ F H) (hz : DL.scal z = true) (q : ∀ v F' H', Nw F H F' H' → Ext F' H' → Is W F' v z → Q v H') : ∀ v F' H', Nw G H F' H' → Ext F' H' → Is W F' v z → Q v H' := fun v F' H' g x i =>
  q v F H' ⟨Ext.refl F, g.keep, fun a x e => .inl e⟩ (fun a o e => g.keep a o (r.ext a o e) fun z => z) (i.scal hz)
def scO (o : Option D) : Option D := o.bind fun z => if scal z = true then some z else none
theorem scO_some {o : Option D} {z : D} (h : scO o = some z) : o = some z ∧ scal z = true := by
  obtain ⟨z', e, e2⟩ := Option.bind_eq_some_iff.mp h
  split at e2
  · rename_i q; cases e2; exact ⟨e, q⟩
  · cases e2
variable {X : Cx} {am : Am} {f g : Fe} {a b : Expr} {i : Nat} {x : Str} {pos px : Pos}
/-- f op x -/
def cOpO (o : D → D → Option D) (f : Fe) (i : Nat) : Fe := bE f fun d ρ => match ownL ρ i with
  | some l => oR (scO (o d (.lst l))) fun z => (z, ρ)
  | none => .no
theorem opO_core {W : Wd} {E : WX} {r : R2} {o : D → D → Option D} (hd : DOp W r o) {σ : L2.St} {H : Hp} {Q : VK} (hw : tD W E (cOpO o f i) σ H Q) : tOp r (tD W E f) (fun σ H Q => ∃ x, σ[i]? = some (some x) ∧ Q x H) σ H Q := by
  obtain ⟨ρ, F, hw⟩ := hw
  refine tG.of (hw.bind (rel := Is W) fun d ρ1 v F1 H1 t1 i1 hw => ?_)
  cases el : ownL ρ1 i with
  | none => exact hw.no (by show (match ownL ρ1 i with | some l => _ | none => _) = _; rw [el])
  | some l =>
    have hw : At W E (Is W) (fun ρ => oR (scO (o d (.lst l))) fun z => (z, ρ)) ρ1 σ F1 H1 Q := ⟨hw.1, by
      have q := hw.2
      simp only [el] at q
      exact q⟩
    obtain ⟨z, ez, q⟩ := hw.out
    obtain ⟨ez, hz⟩ := scO_some ez
    obtain ⟨a, G, ha, e1, e2, ia⟩ := own_peek t1.rp el
    exact ⟨_, ha, hd G H1 v (.ref a) d (.lst l) z Q e2 (i1.mono e1) ia ez (peeked t1.rp hz q)⟩
/-- x op g -/
def cOpOL (o : D → D → Option D) (i : Nat) (g : Fe) : Fe := fun ρ => if (ownL ρ i).isSome = true then bE g (fun e ρ1 => match ownL ρ1 i with
  | some l => oR (scO (o (.lst l) e)) fun z => (z, ρ1)
  | none => .no) ρ else .no
theorem opOL_core {W : Wd} {E : WX} {r : R2} {o : D → D → Option D} (hd : DOp W r o) {σ : L2.St} {H : Hp} {Q : VK} (hw : tD W E (cOpOL o i g) σ H Q) : tOp r (fun σ H Q => ∃ x, σ[i]? = some (some x) ∧ Q x H) (tD W E g) σ H Q := by
  obtain ⟨ρ, F, hw⟩ := hw
  by_cases h0 : (ownL ρ i).isSome = true
  · obtain ⟨l0, hl0⟩ := Option.isSome_iff_exists.mp h0
    obtain ⟨a0, vs0, ha0, _, _⟩ := ownL_at hw.1 hl0
    have hw : At W E (Is W) (bE g fun e ρ1 => match ownL ρ1 i with
      | some l => oR (scO (o (.lst l) e)) fun z => (z, ρ1)
      | none => .no) ρ σ F H Q := ⟨hw.1, by
        have q := hw.2
        unfold cOpOL at q
        rw [if_pos h0] at q
        exact q⟩
    refine ⟨_, ha0, tG.of (hw.bind (rel := Is W) fun e ρ1 v F1 H1 t1 i1 hw => ?_)⟩
    cases el : ownL ρ1 i with
    | none => exact hw.no (by show (match ownL ρ1 i with | some l => _ | none => _) = _; rw [el])
    | some l =>
      have hw : At W E (Is W) (fun ρ => oR (scO (o (.lst l) e)) fun z => (z, ρ)) ρ1 σ F1 H1 Q := ⟨hw.1, by
        have q := hw.2
        simp only [el] at q
        exact q⟩
      obtain ⟨z, ez, q⟩ := hw.out
      obtain ⟨ez, hz⟩ := scO_some ez
      obtain ⟨a, G, ha, e1, e2, ia⟩ := own_peek t1.rp el
      rw [ha0] at ha
      cases ha
      exact hd G H1 (.ref a0) v (.lst l) e z Q e2 ia (i1.mono e1) ez (peeked t1.rp hz q)
  · exact hw.no (by unfold cOpOL; rw [if_neg h0])
theorem dt_cmpO {op : CmpOp} {r : R2} {o : D → D → Option D} (ho : OpR X (compareOp op) r) (hd : DOp (wd X am) r o) (ha : DE X am a f) (hN : X.N[i]? = some x) (hv : Vis X.env.scope x) (hdb : (x == ("__debug__" : Str)) = false := by decide) (hcd : (x == ("__classdict__" : Str)) = false := by decide)
    (hm : behindInMarks op (.Name x px) = false := by first | exact nomark _ | rfl) : DT X am (.Compare a [op] [.Name x px] pos) (cTest (cOpO o f i)) :=
  PT.imp (pt_cmpR ho ha (pe_var hN hv hdb hcd) hm) fun σ H Q hw => opO_core hd (test_core hw)
theorem dt_cmpOL {op : CmpOp} {r : R2} {o : D → D → Option D} (ho : OpR X (compareOp op) r) (hd : DOp (wd X am) r o) (hN : X.N[i]? = some x) (hv : Vis X.env.scope x) (hb : DE X am b g) (hdb : (x == ("__debug__" : Str)) = false := by decide) (hcd : (x == ("__classdict__" : Str)) = false := by decide)
    (hm : behindInMarks op b = false := by first | exact nomark _ | rfl) : DT X am (.Compare (.Name x px) [op] [b] pos) (cTest (cOpOL o i g)) :=
  PT.imp (pt_cmpR ho (pe_var hN hv hdb hcd) hb hm) fun σ H Q hw => opOL_core hd (test_core hw)
/-- fn(x), fn a built-in that tells a number or the like -/
def cCallO (o : List D → Option D) (i : Nat) : Fe := fun ρ => match ownL ρ i with
  | some l => oR (scO (o [.lst l])) fun z => (z, ρ)
  | none => .no
theorem de_callBO {y : Str} {py : Pos} {id : String} {r : List V → Hp → VK → Prop} {o : List D → Option D} (hd : DCall (wd X am) r o) (hc : CallR X (.builtin id) r) (hg : Gl X y) (hm : X.mg y = none) (hbo : bootBuiltins y = some (.builtin id)) (hN : X.N[i]? = some x) (hv : Vis X.env.scope x)
    (hn : y ≠ "__name__" := by decide) (hdb : (y == ("__debug__" : Str)) = false := by decide) (hdb' : (x == ("__debug__" : Str)) = false := by decide) (hcd : (x == ("__classdict__" : Str)) = false := by decide)
    (he : starEach [.Name x px] X.env = (false, eval (.Name x px) X.env) :: starEach [] X.env := by rfl) (hpl : (backTo pos (starEach [] X.env)).any (·.1) = false := by rfl) :
    DE X am (.Call (.Name y py) [.Name x px] [] pos) (cCallO o i) := PE.imp (pe_callB hc hg hm hbo (pa_cons (pe_var hN hv hdb' hcd) pa_nil he) hn hdb he hpl) fun σ H Q ⟨ρ, F, hw⟩ => by
  cases el : ownL ρ i with
  | none => exact hw.no (by show (match ownL ρ i with | some l => _ | none => _) = _; rw [el])
  | some l =>
    have hw : At (wd X am) am.E (Is _) (fun ρ => oR (scO (o [.lst l])) fun z => (z, ρ)) ρ σ F H Q := ⟨hw.1, by
      have q := hw.2
      unfold cCallO at q
      simp only [el] at q
      exact q⟩
    obtain ⟨z, ez, q⟩ := hw.out
    obtain ⟨ez, hz⟩ := scO_some ez
    obtain ⟨a, G, ha, e1, e2, ia⟩ := own_peek hw.1 el
    exact ⟨_, ha, hd G H [.ref a] [.lst l] z Q e2 (.cons ia .nil) ez (peeked hw.1 hz q)⟩
end
end DL

set_option Elab.async false
set_option linter.all false
set_option maxRecDepth 100000
set_option maxHeartbeats 4000000
namespace DL
open PySem PySem.Spec PyProof.Rows L2
/-! ### enumerate over a tuple -/
section
open PySem
set_option maxHeartbeats 4000000 in
theorem enumNewT {v : Value} {o : Obj} {H : Heap → Prop} (B : Begins v o H) :
    Meets (Builtin.«enumerate.__new__» ⟨[.type "enumerate", v], []⟩) (fun _ R s => H s.heap ∧ R (.ok (.ret (.ref (s.heap.push o).objs.size)))
      { s with heap := (s.heap.push o).push { cls := .type "enumerate", data := .fields #[.none, .bool false, .ref s.heap.objs.size, rawInt 0, .none, .none] } }) :=
  .of_wp fun prog w A R s h => by
    obtain ⟨hp, g, d, tk, os⟩ := s
    obtain ⟨h1, h⟩ := h
    have subE := sub_enumerate
    have iterV : ∀ {A' : Around} {E' : Value → Shared → Prop} {Q' : Value → Shared → Prop}, Q' (.ref hp.objs.size) ⟨hp.push o, g, d, tk, os⟩ → wpAny (model prog w) A' (pyIter v) Q' E' ⟨hp, g, d, tk, os⟩ := fun q => B.iter prog w _ _ ⟨hp, g, d, tk, os⟩ _ h1 q
    wp_walk using iterV
    refine wpAny_stack_any fun stk => wpAny_pure ?_
    split
    · rename_i cc _ _ _ _ _
      cases (cc == Value.type "enumerate")
      · wp_walk using iterV
        exact ⟨_, rfl, h⟩
      · wp_walk using iterV
        exact ⟨_, rfl, h⟩
    · wp_walk using iterV
      exact ⟨_, rfl, h⟩
theorem enumCallT {prog : Program} {w : World} {A : Around} {E : Value → Shared → Prop} {s : Shared} {v : Value} {o : Obj} {H : Heap → Prop} {Q : Value → Shared → Prop} (B : Begins v o H) (h1 : H s.heap)
    (h : ∀ h', IsEnum h' (s.heap.objs.size + 1) s.heap.objs.size 0 .none → h'.get? s.heap.objs.size = some o → h'.objs.size = s.heap.objs.size + 2 → (∀ b o, s.heap.get? b = some o → h'.get? b = some o) → Q (.ref (s.heap.objs.size + 1)) { s with heap := h' }) :
    wpAny (model prog w) A (call (.type "enumerate") [v]) Q E s := by
  refine callType_new F.called_enumerate (by decide) (F.typeCall_enumerate_1 _) (F.newCall_enumerate_1 _) (fun ob => F.args_object_init_2 ob _) F.entry_enumerate_new (enumNewT B) ⟨h1, ?_⟩
  have sz1 : (s.heap.push o).objs.size = s.heap.objs.size + 1 := Heap.size_push ..
  show _ ∧ _
  rw [sz1]
  have he : IsEnum ((s.heap.push o).push { cls := .type "enumerate", data := .fields #[.none, .bool false, .ref s.heap.objs.size, rawInt 0, .none, .none] }) (s.heap.objs.size + 1) s.heap.objs.size 0 .none := by
    have z := Heap.get?_push_size (s.heap.push o) (o := { cls := .type "enumerate", data := .fields #[.none, .bool false, .ref s.heap.objs.size, rawInt 0, .none, .none] }) rfl
    rw [sz1] at z
    exact z
  exact ⟨⟨_, he, rfl⟩, h _ he (Heap.get?_push_of_some _ (Heap.get?_push_size _ B.free)) (by rw [Heap.size_push, sz1]) fun b o x => Heap.get?_push_of_some _ (Heap.get?_push_of_some _ x)⟩
end
/-- the tuple at a, each item in a new pair -/
def Iet (K : PySem.W.Frag) (a : Addr) : It :=
  ⟨fun i H => ∃ (xs : List V) (x : V), SqT K H a xs ∧ xs[i]? = some x, fun i H v H' => ∃ T x, v = .ref T ∧ H T = none ∧ H' = upd H T (.tup [.int (i : Nat), x]) ∧ ∀ xs, SqT K H a xs → xs[i]? = some x, fun i H => ∃ xs : List V, SqT K H a xs ∧ xs.length ≤ i⟩
theorem turn_enumT {P : Program} {w : World} {K : PySem.W.Frag} {elts : List Expr} {kk : Nat} {tpos : Pos} (a e it : Addr) (hai : a ≠ it) (hae : a ≠ e) :
    Turn P w K (.Tuple elts kk tpos) (Iet K a) [e, it] e (fun i h => (∃ old, IsEnum h e it ((i : Nat) : Int) old) ∧ h.IsTupleIter it a i ∧ e ≠ it) where
  mem := by simp
  obj := fun i h st b hb => by
    obtain ⟨⟨old, he⟩, ⟨o, ho, hc, hd⟩, _⟩ := st
    have eb : b = e ∨ b = it := by simpa using hb
    rcases eb with rfl | rfl
    · exact ⟨_, he, fun v q => nomatch q⟩
    · exact ⟨o, ho, fun v q => by rw [hd] at q; cases q⟩
  keep := fun i h h' st k => let ⟨⟨old, he⟩, ⟨o, ho, r⟩, hne⟩ := st; ⟨⟨old, k e (by simp) _ he⟩, ⟨o, k it (by simp) o ho, r⟩, hne⟩
  item := by
    intro X hP hw hK hc i pins s σ H E I hf st hg
    subst hP hw hK
    obtain ⟨⟨old, he⟩, hit, hne⟩ := st
    obtain ⟨xs, x, hq, hx⟩ := hg
    obtain ⟨its, rv, p, hz⟩ := I.tuple hq
    obtain ⟨u, hu, ru⟩ := rv.get hx
    have hel : e < s.heap.objs.size := Heap.lt_size he
    have hil : it < s.heap.objs.size := by obtain ⟨_, q, _⟩ := hit; exact Heap.lt_size q
    have Dr := Draws.tuple (prog := X.prog) (w := X.w) (A := X.A.in1) (show X.A.in1.handled = none from I.ok.hd hc) it a hai its.toArray
    have hlt : i < its.toArray.size := by
      have := (List.getElem?_eq_some_iff.mp hu).1
      simpa using this
    refine wpAny_pyNext_enum_itemD Dr he ⟨hit, p⟩ hlt hne (by simp [hne, Ne.symm hae]) fun y h' tk hy ho hst' hT hsz hk => ?_
    have ey : y = u := by
      have h1 : its[i]? = some y := by simpa using hy
      rw [hu] at h1
      exact (Option.some.inj h1).symm
    subst ey
    refine ⟨_, rfl, wpAny_letOwnedTupleGo_enum (s := { s with heap := h', toks := tk + 1 }) ho fun h'' he' sb => ?_⟩
    have hT2 : h''.get? s.heap.objs.size = some { cls := .type "tuple", data := .seq #[.int i tk, y] } := (sb.2 _ (Nat.ne_of_gt hel)).trans hT
    have new : ObjOk X.prog X.w (upd H s.heap.objs.size (.tup [.int (i : Nat), x])) h'' s.heap.objs.size (.tup [.int (i : Nat), x]) :=
      ⟨by show 2 ≤ sizeLine; decide, [.int i tk, y], .cons ⟨_, rfl⟩ (.cons ru .nil), ⟨_, hT2, rfl, _, rfl⟩⟩
    have I1 : Inv X pins σ (upd H s.heap.objs.size (.tup [.int (i : Nat), x])) { s with heap := h'', toks := tk + 1 } :=
      I.turnedNew (ch := [e, it]) (fun b ob hb q => (sb.2 b (fun z => hb (by simp [z]))).trans (hk b ob (fun z => hb (by simp [z])) (fun z => hb (by simp [z])) q)) hf (Nat.le_refl _) new
    refine ⟨.ref s.heap.objs.size, _, I1, rfl, ⟨_, x, rfl, I.hok.fresh (Nat.le_refl _), rfl, fun ys hy => by rw [I.tuple_inj hy hq]; exact hx⟩, ⟨⟨y, ?_⟩, ?_, hne⟩, fun b hb => ?_⟩
    · rw [show ((i + 1 : Nat) : Int) = (i : Int) + 1 from by omega]; exact he'
    · obtain ⟨o', ho', r'⟩ := hst'.1
      exact ⟨o', (sb.2 it (Ne.symm hne)).trans ho', r'⟩
    · have eb : b = e ∨ b = it := by simpa using hb
      have hb' : b < s.heap.objs.size := by rcases eb with z | z <;> (rw [z]; assumption)
      rw [upd_ne (Nat.ne_of_lt hb')]
      exact (hf b hb).1
  done := by
    intro X hP hw hK hc i pins s σ H E I hf st hg
    subst hP hw hK
    obtain ⟨⟨old, he⟩, hit, hne⟩ := st
    obtain ⟨xs, hq, hx⟩ := hg
    obtain ⟨its, rv, p, hz⟩ := I.tuple hq
    obtain ⟨f0, f1, f2, f3, f4, f5⟩ := hf it (by simp)
    have hl := rv.length
    have Dr := Draws.tuple (prog := X.prog) (w := X.w) (A := X.A.in1) (show X.A.in1.handled = none from I.ok.hd hc) it a hai its.toArray
    have hT : s.TypeIs (.ref e) "enumerate" := ⟨_, he, rfl⟩
    have fin : ∀ h', Heap.ExtBut it s.heap h' → Inv X pins σ H { s with heap := h' } := fun h' eb => I.turned (t' := s.toks) (fun b o hb q => eb b o hb q) f0 f1 f3 f4 f5
    unfold pyNext
    refine wpAny_bind (wpAny_attempt (wpAny_callSpecial?_slot (name := Str.ofString "__next__") hT F.slot_enumerate_next (wpAny_call_entry F.slot_enumerate_next hT F.entry_enumerate_next ?_ (F.args_enumerate_next_1 _))))
    show wpAny _ _ (field (.ref e) 2 >>= _) _ _ _
    refine wpAny_bind (wpAny_field he rfl (x := .ref it) rfl ?_)
    refine wpAny_bind (wpAny_nextOf_tuple_end (show X.A.in1.handled = none from I.ok.hd hc) hit p (by simp; omega) fun h' x he' hx' => ?_)
    obtain ⟨o, ho, hcc⟩ := hx'
    exact wpAny_bind (wpAny_isInstance (T := "StopIteration") (b := true) ⟨o, ho, hcc⟩ isSubtype_stop (wpAny_pure ⟨rfl, fin h' he'⟩))
  self := fun A i s Q E st h => let ⟨⟨_, he⟩, _⟩ := st; wpAny_pyIter_enum he h
def iEnumT (K : PySem.W.Frag) (ta : TA) : TI := fun σ H R => ta σ H fun vs H1 => ∃ a xs, vs = [.ref a] ∧ SqT K H1 a xs ∧ R (Iet K a) H1
theorem pi_enumT {X : Cx} {e : Expr} {ta : TA} {p pos tpos : Pos} {elts : List Expr} {kk : Nat} (hg : Gl X "enumerate") (hm : X.mg "enumerate" = none) (ha : PA X [e] ta) (hs : starEach [e] X.env = [(false, eval e X.env)] := by rfl) :
    PI X (.Tuple elts kk tpos) (.Call (.Name "enumerate" p) [e] [] pos) (iEnumT X.K ta) := by
  refine ⟨fun pins s σ H R I h => Call_ (ld_blt I hg hm boot_enumerate (PyProof.Rows.callWith_type1 (thn (ha.run pos pins s σ H _ I h) fun us s1 ⟨vs, H1, I1, r1, q1⟩ => ?_) hs rfl))⟩
  obtain ⟨a, xs, ex, hq, q⟩ := q1
  subst ex
  cases r1 with
  | cons r rr =>
    cases rr
    cases r
    obtain ⟨its, rv, pt, hz⟩ := I1.tuple hq
    have hal : a < s1.heap.objs.size := by obtain ⟨o, ho, _⟩ := pt; exact Heap.lt_size ho
    refine enumCallT (begins_tuple a its.toArray) pt fun h' he hit hsz hk => wpAny_pyIter_enum he ?_
    have I2 : Inv X pins σ H1 { s1 with heap := h' } := I1.kept (t' := s1.toks) hk
    refine ⟨s1.heap.objs.size + 1, [s1.heap.objs.size + 1, s1.heap.objs.size], _, _, H1, rfl, I2, turn_enumT a (s1.heap.objs.size + 1) s1.heap.objs.size (Nat.ne_of_lt hal) (Nat.ne_of_lt (Nat.lt_succ_of_lt hal)), ⟨⟨.none, he⟩, ⟨_, hit, rfl, rfl⟩, Nat.succ_ne_self _⟩, fun b hb => ?_, q⟩
    have eb : b = s1.heap.objs.size + 1 ∨ b = s1.heap.objs.size := by simpa using hb
    have hle : s1.heap.objs.size ≤ b := by rcases eb with z | z <;> (rw [z]; omega)
    exact I1.fpOk hle (I1.hok.fresh hle)
/-! enumerate, at the level of data -/
def enumL (l : List D) : List D := (l.zipIdx).map fun p => .tup [.int (p.2 : Nat), p.1]
theorem enumL_get {l : List D} {i : Nat} {d : D} (h : (enumL l)[i]? = some d) : ∃ y, l[i]? = some y ∧ d = .tup [.int (i : Nat), y] := by
  unfold enumL at h
  rw [List.getElem?_map, List.getElem?_zipIdx] at h
  cases w : l[i]? with
  | none => rw [w] at h; cases h
  | some y =>
    rw [w] at h
    refine ⟨y, rfl, ?_⟩
    have := (Option.some.inj h).symm
    simpa using this
theorem enumL_len (l : List D) : (enumL l).length = l.length := by simp [enumL]
theorem jok_enum {W : Wd} {F : Hp} {a : Addr} {vs : List V} {l : List D} (h : SqL W.K F a vs) (i : IsL W F vs l) : JOk W F (Ite W.K a) (enumL l) where
  go := fun j F' H e e' hj => by
    rw [enumL_len] at hj
    have : j < vs.length := by rw [i.length]; exact hj
    exact ⟨vs, vs[j], (e.trans e').l h, by simp [this]⟩
  yld := fun j F' H x H' d e e' hd ⟨T, y, hx, hT, hH, hy⟩ => by
    subst hx hH
    obtain ⟨dy, hdy, rfl⟩ := enumL_get hd
    obtain ⟨v, hv, iv⟩ := i.get hdy
    have e1 := hy vs ((e.trans e').l h)
    rw [hv] at e1
    cases e1
    exact ⟨upd F' T _, Nw.of e' hT, e'.both, .tup (SqT.of upd_same) (.cons (.int _) (.cons (iv.mono (e.trans (Ext.new (e'.free hT)))) .nil))⟩
  stop := fun j F' H e e' hj => ⟨vs, (e.trans e').l h, by rw [i.length]; rw [enumL_len] at hj; exact hj⟩
theorem jok_enumT {W : Wd} {F : Hp} {a : Addr} {vs : List V} {l : List D} (h : SqT W.K F a vs) (i : IsL W F vs l) : JOk W F (Iet W.K a) (enumL l) where
  go := fun j F' H e e' hj => by
    rw [enumL_len] at hj
    have : j < vs.length := by rw [i.length]; exact hj
    exact ⟨vs, vs[j], (e.trans e').t h, by simp [this]⟩
  yld := fun j F' H x H' d e e' hd ⟨T, y, hx, hT, hH, hy⟩ => by
    subst hx hH
    obtain ⟨dy, hdy, rfl⟩ := enumL_get hd
    obtain ⟨v, hv, iv⟩ := i.get hdy
    have e1 := hy vs ((e.trans e').t h)
    rw [hv] at e1
    cases e1
    exact ⟨upd F' T _, Nw.of e' hT, e'.both, .tup (SqT.of upd_same) (.cons (.int _) (.cons (iv.mono (e.trans (Ext.new (e'.free hT)))) .nil))⟩
  stop := fun j F' H e e' hj => ⟨vs, (e.trans e').t h, by rw [i.length]; rw [enumL_len] at hj; exact hj⟩
def seqE : List D → Option (List D)
  | [.lst l] => some (enumL l)
  | [.tup l] => some (enumL l)
  | _ => none
def cEnum (u : Fa) : Fa := bE u fun l ρ => oR (seqE l) fun l => (l, ρ)
theorem di_enum {X : Cx} {am : Am} {e : Expr} {u : Fa} {p pos tpos : Pos} {elts : List Expr} {kk : Nat} (hg : Gl X "enumerate") (hm : X.mg "enumerate" = none) (hu : DA X am [e] u) (hs : starEach [e] X.env = [(false, eval e X.env)] := by rfl) :
    DI X am (.Tuple elts kk tpos) (.Call (.Name "enumerate" p) [e] [] pos) (cEnum u) :=
  PI.imp (PI.or (pi_enum hg hm hu hs) (pi_enumT hg hm hu hs)) fun σ H R ⟨ρ, F, hw⟩ => by
    obtain ⟨rp, q⟩ := hw
    have q : AtR (wd X am) am.E (fun F J l => JOk (wd X am) F J l) ρ σ F H R (bR (u ρ) _) := q
    cases e1 : u ρ with
    | no => rw [e1] at q; exact q.elim
    | ex c fs ρ1 => rw [e1] at q; exact .inl ⟨ρ, F, rp, by rw [e1]; exact q⟩
    | ok r =>
      obtain ⟨l, ρ1⟩ := r
      rw [e1] at q
      match l, q with
      | [.lst l'], q =>
        refine .inl ⟨ρ, F, At.mk rp e1 fun vs F' H' t i => ?_⟩
        cases i with
        | cons i t2 =>
          cases t2
          cases i with
          | lst hs il => exact ⟨_, _, rfl, SqL.of (t.rp.ext _ _ hs), q _ F' H' t (jok_enum (SqL.of hs) il)⟩
      | [.tup l'], q =>
        refine .inr ⟨ρ, F, At.mk rp e1 fun vs F' H' t i => ?_⟩
        cases i with
        | cons i t2 =>
          cases t2
          cases i with
          | tup hs il => exact ⟨_, _, rfl, t.rp.ext.t hs, q _ F' H' t (jok_enumT hs il)⟩
end DL

set_option Elab.async false
set_option linter.all false
set_option maxRecDepth 100000
set_option maxHeartbeats 4000000
namespace DL
open PySem PySem.Spec PyProof.Rows L2
/-! ### values that become data or objects of one's own -/
/-- v stands for the slot s: N: what is new, O: what is own already -/
def SlV (W : Wd) (F H : Hp) (O N : Addr → Prop) (v : V) : Slot → Prop
  | .no => False
  | .im d => Is W F v d
  | .ow o => ∃ p h, v = .ref p ∧ F p = none ∧ H p = some h ∧ OOk W F p h o ∧ ¬ O p ∧ N p
/-- new, seen from ρ, σ, H -/
def Fresh (W : Wd) (ρ : Env) (σ : L2.St) (H : Hp) : Addr → Prop := fun p => Own W ρ σ p ∨ H p = none
section
variable {W : Wd} {E : WX} {ρ ρ1 ρ2 : Env} {σ σ1 σ2 : L2.St} {F H F1 H1 F2 H2 : Hp}
theorem Fresh.back (t : Tr W ρ σ F H ρ1 σ1 F1 H1) {p : Addr} (h : Fresh W ρ1 σ1 H1 p) : Fresh W ρ σ H p := by
  rcases h with h | h
  · exact t.own p h
  · by_cases w : Own W ρ σ p
    · exact .inl w
    · refine .inr ?_
      cases q : H p with
      | none => rfl
      | some u => rw [t.go.keep p u q w] at h; cases h
inductive SlVs (W : Wd) (F H : Hp) (O N : Addr → Prop) : List V → List Slot → List Addr → Prop
  | nil : SlVs W F H O N [] [] []
  | im {v : V} {d : D} {vs : List V} {ss : List Slot} {as : List Addr} (i : Is W F v d) (t : SlVs W F H O N vs ss as) : SlVs W F H O N (v :: vs) (.im d :: ss) as
  | ow {p : Addr} {h : HO} {o : OO} {vs : List V} {ss : List Slot} {as : List Addr} (hF : F p = none) (hH : H p = some h) (k : OOk W F p h o) (nO : ¬ O p) (n : N p) (na : p ∉ as) (t : SlVs W F H O N vs ss as) : SlVs W F H O N (.ref p :: vs) (.ow o :: ss) (p :: as)
theorem SlVs.len {O N : Addr → Prop} : ∀ {vs : List V} {ss : List Slot} {as : List Addr}, SlVs W F H O N vs ss as → vs.length = ss.length
  | _, _, _, .nil => rfl
  | _, _, _, .im _ t => by simp [t.len]
  | _, _, _, .ow _ _ _ _ _ _ t => by simp [t.len]
theorem SlVs.new {O N : Addr → Prop} : ∀ {vs : List V} {ss : List Slot} {as : List Addr}, SlVs W F H O N vs ss as → ∀ a ∈ as, N a ∧ ¬ O a ∧ ∃ h, H a = some h
  | _, _, _, .nil, a, ha => by cases ha
  | _, _, _, .im _ t, a, ha => t.new a ha
  | _, _, _, .ow _ hH _ nO n _ t, a, ha => by
    rcases List.mem_cons.mp ha with e | e
    · rw [e]; exact ⟨n, nO, _, hH⟩
    · exact t.new a e
theorem SlVs.imp {O O' N N' : Addr → Prop} (hN : ∀ p, N p → N' p) : ∀ {vs : List V} {ss : List Slot} {as : List Addr}, (∀ p ∈ as, ¬ O p → ¬ O' p) → SlVs W F H O N vs ss as → SlVs W F H O' N' vs ss as
  | _, _, _, _, .nil => .nil
  | _, _, _, hO, .im i t => .im i (SlVs.imp hN hO t)
  | _, _, _, hO, .ow hF hH k nO n na t => .ow hF hH k (hO _ (by simp) nO) (hN _ n) na (SlVs.imp hN (fun p hp => hO p (by simp [hp])) t)
/-- an object that is new is taken as an own one -/
theorem Tr.adopt {i : Nat} {p : Addr} {h : HO} {o : OO} (t : Tr W ρ σ F H ρ1 σ1 F1 H1) (hF : F1 p = none) (hH : H1 p = some h) (k : OOk W F1 p h o) (nO : ¬ Own W ρ1 σ1 p) (n : Fresh W ρ σ H p) (hi : i < ρ1.sl.length) :
    Tr W ρ σ F H (ρ1.set i (.ow o)) (σ1.set i (some (.ref p))) F1 H1 ∧ ∀ a, Own W (ρ1.set i (.ow o)) (σ1.set i (some (.ref p))) a → a = p ∨ Own W ρ1 σ1 a := by
  have r := t.rp
  have hs : i < σ1.length := by rw [← r.len]; exact hi
  have oat : ∀ j a, OwnAt (ρ1.set i (.ow o)) (σ1.set i (some (.ref p))) j a → (j = i ∧ a = p) ∨ (j ≠ i ∧ OwnAt ρ1 σ1 j a) := fun j a ⟨⟨l, h1⟩, h2⟩ => by
    by_cases e : i = j
    · subst e
      rw [List.getElem?_set_self hs] at h2
      cases h2
      exact .inl ⟨rfl, rfl⟩
    · unfold Env.set at h1
      simp only [List.getElem?_set_ne e] at h1 h2
      exact .inr ⟨Ne.symm e, ⟨l, h1⟩, h2⟩
  have own : ∀ a, Own W (ρ1.set i (.ow o)) (σ1.set i (some (.ref p))) a → a = p ∨ Own W ρ1 σ1 a := fun a h => by
    rcases h with ⟨j, h⟩ | h
    · rcases oat j a h with ⟨_, e⟩ | ⟨_, o1⟩
      · exact .inl e
      · exact .inr (.inl ⟨j, o1⟩)
    · exact .inr (.inr h)
  refine ⟨⟨t.go, ⟨r.ext, by simp [Env.set, r.len], fun j s q => ?_, fun j k' a h1 h2 => ?_, r.ora, fun j h => ?_⟩, fun a h => ?_⟩, own⟩
  · unfold Env.set at q
    by_cases e : i = j
    · subst e
      simp only [List.getElem?_set_self hi, Option.some.injEq] at q
      subst q
      exact ⟨p, h, by rw [List.getElem?_set_self hs], hF, hH, k⟩
    · simp only [List.getElem?_set_ne e] at q ⊢
      exact r.slot j s q
  · rcases oat j a h1 with ⟨e1, e2⟩ | ⟨e1, o1⟩ <;> rcases oat k' a h2 with ⟨e3, e4⟩ | ⟨e3, o3⟩
    · rw [e1, e3]
    · exact (nO (.inl ⟨k', by rw [← e2]; exact o3⟩)).elim
    · exact (nO (.inl ⟨j, by rw [← e4]; exact o1⟩)).elim
    · exact r.apart j k' a o1 o3
  · rcases oat j _ h.2 with ⟨e1, e2⟩ | ⟨e1, o1⟩
    · exact nO (.inr ⟨e2.symm, h.1⟩)
    · exact r.noam j ⟨h.1, o1⟩
  · rcases own a h with e | e
    · rw [e]; exact n
    · exact t.own a e
def setS (ρ : Env) : List Nat → List Slot → Env
  | i :: is, s :: ss => setS (ρ.set i s) is ss
  | _, _ => ρ
def setV (σ : L2.St) : List Nat → List V → L2.St
  | i :: is, v :: vs => setV (σ.set i (some v)) is vs
  | _, _ => σ
theorem set_len {ρ : Env} {i : Nat} {s : Slot} : (ρ.set i s).sl.length = ρ.sl.length := by simp [Env.set]
theorem Tr.puts : ∀ {is : List Nat} {vs : List V} {ss : List Slot} {as : List Addr} {ρ1 : Env} {σ1 : L2.St}, Tr W ρ σ F H ρ1 σ1 F1 H1 → SlVs W F1 H1 (Own W ρ1 σ1) (Fresh W ρ σ H) vs ss as → (∀ i ∈ is, i < ρ1.sl.length) →
    Tr W ρ σ F H (setS ρ1 is ss) (setV σ1 is vs) F1 H1
  | [], _, _, _, _, _, t, _, _ => by simpa [setS, setV] using t
  | i :: is, _, _, _, _, _, t, .nil, _ => by simpa [setS, setV] using t
  | i :: is, _, _, _, ρ1, σ1, t, .im (v := v) (d := d) iv tl, hl => by
    have t1 := t.set iv (hl i (by simp))
    have tl2 := tl.imp (O' := Own W (ρ1.set i (.im d)) (σ1.set i (some v))) (N' := Fresh W ρ σ H) (fun _ h => h) fun p _ n z => n (own_set z)
    exact Tr.puts (is := is) t1 tl2 fun j hj => by rw [set_len]; exact hl j (by simp [hj])
  | i :: is, _, _, _, ρ1, σ1, t, .ow (p := q) (o := o) hF hH k nO n na tl, hl => by
    obtain ⟨t1, hown⟩ := t.adopt hF hH k nO n (hl i (by simp))
    have tl2 := tl.imp (O' := Own W (ρ1.set i (.ow o)) (σ1.set i (some (.ref q)))) (N' := Fresh W ρ σ H) (fun _ h => h) fun p hp n' z => by
      rcases hown p z with e | e
      · exact na (e ▸ hp)
      · exact n' e
    exact Tr.puts (is := is) t1 tl2 fun j hj => by rw [set_len]; exact hl j (by simp [hj])
/-- one expression: a datum or a new object -/
abbrev Fo := Env → Res (Slot × Env)
def AtOR (W : Wd) (E : WX) (ρ : Env) (σ : L2.St) (F H : Hp) (Q : VK) : Res (Slot × Env) → Prop
  | .no => False
  | .ok (s, ρ') => ∀ v F' H', Tr W ρ σ F H ρ' σ F' H' → SlV W F' H' (Own W ρ' σ) (Fresh W ρ σ H) v s → Q v H'
  | .ex c fs ρ' => ExQ W E ρ σ F H c fs ρ'
def tO (W : Wd) (E : WX) (g : Fo) : TE := fun σ H Q => ∃ ρ F, Rp W ρ σ F H ∧ AtOR W E ρ σ F H Q (g ρ)
abbrev Fos := Env → Res (List Slot × Env)
def AtOsR (W : Wd) (E : WX) (ρ : Env) (σ : L2.St) (F H : Hp) (Q : List V → Hp → Prop) : Res (List Slot × Env) → Prop
  | .no => False
  | .ok (ss, ρ') => ∀ vs as F' H', Tr W ρ σ F H ρ' σ F' H' → SlVs W F' H' (Own W ρ' σ) (Fresh W ρ σ H) vs ss as → Q vs H'
  | .ex c fs ρ' => ExQ W E ρ σ F H c fs ρ'
def tOs (W : Wd) (E : WX) (g : Fos) : TA := fun σ H Q => ∃ ρ F, Rp W ρ σ F H ∧ AtOsR W E ρ σ F H Q (g ρ)
end
abbrev DO (X : Cx) (am : Am) (e : Expr) (g : Fo) : Prop := PE X e (tO (wd X am) am.E g)
abbrev DOs (X : Cx) (am : Am) (es : List Expr) (g : Fos) : Prop := PA X es (tOs (wd X am) am.E g)
section
variable {X : Cx} {am : Am} {e : Expr} {es : List Expr} {f : Fe} {u : Fa} {g : Fo} {gs : Fos} {pos p1 px : Pos}
def oIm (f : Fe) : Fo := bE f fun d ρ => .ok (.im d, ρ)
theorem do_im (h : DE X am e f) : DO X am e (oIm f) := PE.imp h fun σ H Q ⟨ρ, F, r, q⟩ => by
  refine ⟨ρ, F, r, ?_⟩
  have q : AtOR (wd X am) am.E ρ σ F H Q (bR (f ρ) _) := q
  cases e : f ρ with
  | no => rw [e] at q; exact q
  | ex c fs ρ1 => rw [e] at q; exact q
  | ok r =>
    obtain ⟨d, ρ1⟩ := r
    rw [e] at q
    exact fun v F' H' t i => q v F' H' t i
def oLst (u : Fa) : Fo := bE u fun l ρ => gR (sz l.length) (.ow (.lst l), ρ)
theorem ownNew {W : Wd} {E : WX} {ρ ρ1 : Env} {σ : L2.St} {F H F1 H1 : Hp} {vs : List V} {l : List D} {Q : VK} (t : Tr W ρ σ F H ρ1 σ F1 H1) (i : IsL W F1 vs l) (q : ∀ v F' H', Tr W ρ σ F H ρ1 σ F' H' → SlV W F' H' (Own W ρ1 σ) (Fresh W ρ σ H) v (.ow (.lst l)) → Q v H') : ∀ p, H1 p = none → Q (.ref p) (upd H1 p (.lst vs)) := fun p hp => by
  have hF : F1 p = none := t.rp.ext.free hp
  have nO : ¬ Own W ρ1 σ p := own_fresh t.rp hp
  refine q (.ref p) F1 _ ?_ ⟨p, _, rfl, hF, upd_same, .lst i, nO, Fresh.back t (.inr hp)⟩
  have tp := (Tr.refl t.rp).put hp hF nO (o := .lst vs)
  exact t.trans tp
theorem do_lst (hu : DA X am es u) : DO X am (.List es pos) (oLst u) := PE.imp (pe_lst hu) fun σ H Q ⟨ρ, F, r, q⟩ => by
  refine ⟨ρ, F, r, ?_⟩
  have q : AtOR (wd X am) am.E ρ σ F H Q (bR (u ρ) _) := q
  cases e : u ρ with
  | no => rw [e] at q; exact q
  | ex c fs ρ1 => rw [e] at q; exact q
  | ok r =>
    obtain ⟨l, ρ1⟩ := r
    rw [e] at q
    intro vs F1 H1 t1 i1
    by_cases hz : sz l.length
    · have q : AtOR (wd X am) am.E ρ σ F H Q (gR (sz l.length) (.ow (.lst l), ρ1)) := q
      rw [gR_yes hz] at q
      exact ⟨by rw [i1.length]; exact hz.le, ownNew (E := am.E) t1 i1 q⟩
    · have q : AtOR (wd X am) am.E ρ σ F H Q (gR (sz l.length) (.ow (.lst l), ρ1)) := q
      rw [gR_no hz] at q
      exact q.elim
/-- list(e), which is changed later -/
def itemsD : D → Option (List D)
  | .lst l => some l
  | .tup l => some l
  | _ => none
def oList (f : Fe) : Fo := bE f fun d ρ => oR (itemsD d) fun l => (.ow (.lst l), ρ)
/-! several -/
def osNil : Fos := fun ρ => .ok ([], ρ)
def osCons (g : Fo) (gs : Fos) : Fos := bE g fun s => bE gs fun ss ρ => .ok (s :: ss, ρ)
theorem dos_nil : DOs X am [] osNil := PA.imp pa_nil fun σ H Q ⟨ρ, F, r, q⟩ => q [] [] F H (Tr.refl r) .nil
theorem dos_cons (h1 : DO X am e g) (h2 : DOs X am es gs) (hs : starEach (e :: es) X.env = (false, eval e X.env) :: starEach es X.env := by rfl) : DOs X am (e :: es) (osCons g gs) := PA.imp (pa_cons h1 h2 hs) fun σ H Q ⟨ρ, F, r, q⟩ => by
  refine ⟨ρ, F, r, ?_⟩
  have q : AtOsR (wd X am) am.E ρ σ F H Q (bR (g ρ) _) := q
  cases eg : g ρ with
  | no => rw [eg] at q; exact q
  | ex c fs ρ1 => rw [eg] at q; exact q
  | ok r1 =>
    obtain ⟨s, ρ1⟩ := r1
    rw [eg] at q
    have q : AtOsR (wd X am) am.E ρ σ F H Q (bR (gs ρ1) _) := q
    intro v F1 H1 t1 i1
    refine ⟨ρ1, F1, t1.rp, ?_⟩
    cases e2 : gs ρ1 with
    | no => rw [e2] at q; exact q
    | ex c fs ρ2 => rw [e2] at q; exact ExQ.after t1 q
    | ok r2 =>
      obtain ⟨ss, ρ2⟩ := r2
      rw [e2] at q
      intro vs as F2 H2 t2 i2
      have i2' : SlVs (wd X am) F2 H2 (Own (wd X am) ρ2 σ) (Fresh (wd X am) ρ σ H) vs ss as := i2.imp (fun p h => Fresh.back t1 h) fun _ _ h => h
      cases s with
      | no => exact i1.elim
      | im d => exact q _ _ F2 H2 (t1.trans t2) (.im (i1.mono t2.ext) i2')
      | ow o =>
        obtain ⟨p, h, rfl, hF, hH, k, nO, n⟩ := i1
        obtain ⟨b1, b2, b3⟩ := t2.besides hF hH nO
        refine q _ (p :: as) F2 H2 (t1.trans t2) (.ow b1 b2 (k.mono t2.ext) b3 n (fun hp => ?_) i2')
        rcases (i2.new p hp).1 with z | z
        · exact nO z
        · rw [hH] at z; cases z
/-! assignments -/
def sPar (is : List Nat) (g : Fos) : Fs := bE g fun ss ρ => gR (ss.length = is.length ∧ ∀ i ∈ is, i < ρ.sl.length) (.nx (setS ρ is ss))
theorem par_core {W : Wd} {E : WX} {g : Fos} {is : List Nat} {N : Ends} {σ : L2.St} {H : Hp} (hw : tS W E (sPar is g) N σ H) : tOs W E g σ H fun vs H1 => vs.length = is.length ∧ N.nx (setV σ is vs) H1 := by
  obtain ⟨ρ, F, r, q⟩ := hw
  refine ⟨ρ, F, r, ?_⟩
  have q : Flk W E ρ σ F H N (bR (g ρ) _) := q
  cases eg : g ρ with
  | no => rw [eg] at q; exact q
  | ex c fs ρ1 => rw [eg] at q; exact q
  | ok r1 =>
    obtain ⟨ss, ρ1⟩ := r1
    rw [eg] at q
    have q : Flk W E ρ σ F H N (gR _ _) := q
    obtain ⟨⟨hl, hi⟩, q⟩ := q.gR
    intro vs as F1 H1 t1 i1
    exact ⟨by rw [i1.len]; exact hl, q _ F1 H1 (t1.puts i1 hi)⟩
/-- x = e -/
theorem ds_setO {i : Nat} {x : Str} {pos' : Pos} (hN : X.N.Nodup) (hi : X.N[i]? = some x) (hx : Loc X.env.scope x) (he : DO X am e g) (hs : swapsWith e (some (.Name x pos')) pos.line X.env = pure false := by rfl) (hf : X.fn x = true ∨ X.env.scope.names.lookup x = some .local := by first | exact .inl rfl | exact .inr rfl | assumption) :
    DS X am (.Assign [.Name x pos'] e pos) (sPar [i] (osCons g osNil)) := PS.imp (ps_set hN hi hx he hs hf) fun N σ H hw => by
  have h := par_core hw
  obtain ⟨ρ, F, r, q⟩ := h
  refine ⟨ρ, F, r, ?_⟩
  have q : AtOsR (wd X am) am.E ρ σ F H _ (bR (g ρ) _) := q
  cases eg : g ρ with
  | no => rw [eg] at q; exact q
  | ex c fs ρ1 => rw [eg] at q; exact q
  | ok r1 =>
    obtain ⟨s, ρ1⟩ := r1
    rw [eg] at q
    intro v F1 H1 t1 i1
    cases s with
    | no => exact i1.elim
    | im d => exact (q [v] [] F1 H1 t1 (.im i1 .nil)).2
    | ow o =>
      obtain ⟨p, h, rfl, hF, hH, k, nO, n⟩ := i1
      exact (q [.ref p] [p] F1 H1 t1 (.ow hF hH k nO n (by simp) .nil)).2
theorem ds_par2 {i j : Nat} {x y : Str} {a b : Expr} {py pt : Pos} {kt k2 pt2} (hc : X.calm = true) (hN : X.N.Nodup) (hi : X.N[i]? = some x) (hj : X.N[j]? = some y) (hij : i ≠ j) (hx : X.env.scope.names.lookup x = some .local) (hy : X.env.scope.names.lookup y = some .local) (ha : DOs X am [a, b] gs)
    (hw : swappedStores [.Tuple [.Name x px, .Name y py] kt pt] (.Tuple [a, b] k2 pt2) X.env = pure (some [x, y])) (hs : swapsWithSole [.Tuple [.Name x px, .Name y py] kt pt] (.Tuple [a, b] k2 pt2) pos.line X.env = pure false := by rfl) :
    DS X am (.Assign [.Tuple [.Name x px, .Name y py] kt pt] (.Tuple [a, b] k2 pt2) pos) (sPar [i, j] gs) := PS.imp (ps_par hc hN hi hj hij hx hy ha hw hs) fun N σ H hw => by
  obtain ⟨ρ, F, r, q⟩ := par_core hw
  refine ⟨ρ, F, r, ?_⟩
  cases eg : gs ρ with
  | no => rw [eg] at q; exact q
  | ex c fs ρ1 => rw [eg] at q; exact q
  | ok r1 =>
    rw [eg] at q
    intro vs as F1 H1 t1 i1
    obtain ⟨hl, q2⟩ := q vs as F1 H1 t1 i1
    match vs, hl, q2 with
    | [v, w], _, q2 => exact ⟨v, w, rfl, q2⟩
theorem ds_par3 {i j l : Nat} {x y z : Str} {a b c : Expr} {py pz pt : Pos} {kt k2 pt2} (hc : X.calm = true) (hN : X.N.Nodup) (hi : X.N[i]? = some x) (hj : X.N[j]? = some y) (hl : X.N[l]? = some z) (hij : i ≠ j) (hil : i ≠ l) (hjl : j ≠ l)
    (hx : X.env.scope.names.lookup x = some .local) (hy : X.env.scope.names.lookup y = some .local) (hz : X.env.scope.names.lookup z = some .local) (ha : DOs X am [a, b, c] gs)
    (hw : swappedStores [.Tuple [.Name x px, .Name y py, .Name z pz] kt pt] (.Tuple [a, b, c] k2 pt2) X.env = pure (some [x, y, z])) (hs : swapsWithSole [.Tuple [.Name x px, .Name y py, .Name z pz] kt pt] (.Tuple [a, b, c] k2 pt2) pos.line X.env = pure false := by rfl) :
    DS X am (.Assign [.Tuple [.Name x px, .Name y py, .Name z pz] kt pt] (.Tuple [a, b, c] k2 pt2) pos) (sPar [i, j, l] gs) := PS.imp (ps_par3 hc hN hi hj hl hij hil hjl hx hy hz ha hw hs) fun N σ H hw => by
  obtain ⟨ρ, F, r, q⟩ := par_core hw
  refine ⟨ρ, F, r, ?_⟩
  cases eg : gs ρ with
  | no => rw [eg] at q; exact q
  | ex c fs ρ1 => rw [eg] at q; exact q
  | ok r1 =>
    rw [eg] at q
    intro vs as F1 H1 t1 i1
    obtain ⟨hl, q2⟩ := q vs as F1 H1 t1 i1
    match vs, hl, q2 with
    | [v, w, u], _, q2 => exact ⟨v, w, u, rfl, q2⟩
/-! *e in a display -/
def cStar (f : Fe) (u : Fa) : Fa := bE f fun d => match itemsD d with
  | some l => bE u fun m ρ => .ok (l ++ m, ρ)
  | none => fun _ => .no
theorem da_star (he : DE X am e f) (hr : DA X am es u) (hs : starEach (.Starred e p1 :: es) X.env = (true, eval e X.env) :: starEach es X.env := by rfl) : DA X am (.Starred e p1 :: es) (cStar f u) :=
  PA.imp (StX.pa_star he hr hs) fun σ H Q ⟨ρ, F, hw⟩ => tG.of (hw.bind (rel := Is _) fun d ρ1 v F1 H1 t1 i1 hw => by
    cases i1 with
    | lst h t => exact ⟨_, _, rfl, .inr (SqL.of (t1.rp.ext _ _ h)), tG.of (hw.bind (rel := IsL _) fun m ρ2 ys F2 H2 t2 i2 hw => At.ret (d := _ ++ m) hw ((t.mono t2.ext).append i2))⟩
    | tup h t => exact ⟨_, _, rfl, .inl (t1.rp.ext.t h), tG.of (hw.bind (rel := IsL _) fun m ρ2 ys F2 H2 t2 i2 hw => At.ret (d := _ ++ m) hw ((t.mono t2.ext).append i2))⟩
    | _ => exact hw.2.elim)
/-! if (x := e) op g -/
def ifW (o : D → D → Option D) (d : D) (g : Fe) (s1 s2 : Fs) : Fs := bE g fun e ρ => match o d e with
  | some (.bl true) => s1 ρ
  | some (.bl false) => s2 ρ
  | _ => .no
def sIfW (o : D → D → Option D) (i : Nat) (f g : Fe) (s1 s2 : Fs) : Fs := bE f fun d ρ => if i < ρ.sl.length then ifW o d g s1 s2 (ρ.set i (.im d)) else .no
theorem ds_ifW {i : Nat} {x : Str} {b : Expr} {g : Fe} {c1 c2 : List Stmt} {s1 s2 : Fs} {op : CmpOp} {r : R2} {o : D → D → Option D} {p2 p3 : Pos} (ho : OpR X (compareOp op) r) (hd : DOp (wd X am) r o) (hN : X.N.Nodup) (hi : X.N[i]? = some x) (hx : Loc X.env.scope x) (he : DE X am e f) (hb : DE X am b g) (h1 : DSs X am c1 s1) (h2 : DSs X am c2 s2)
    (hm : behindInMarks op b = false := by first | exact nomark _ | rfl) (hf : X.fn x = true ∨ X.env.scope.names.lookup x = some .local := by first | exact .inl rfl | exact .inr rfl | assumption) :
    DS X am (.If (.Compare (.NamedExpr (.Name x px) e p1) [op] [b] p2) c1 c2 p3) (sIfW o i f g s1 s2) :=
  PS.imp (ps_ifW (ptw_cmp ho (pew_named hN hi hx (pew_of he) hf) hb hm) h1 h2) fun N σ H ⟨ρ, F, hw⟩ => by
    refine tG.of (hw.bind (rel := Is _) fun d ρ1 v F1 H1 t1 i1 hw => ?_)
    obtain ⟨rp, q⟩ := hw
    by_cases hl : i < ρ1.sl.length
    · have q : Flk (wd X am) am.E ρ1 σ F1 H1 N (if i < ρ1.sl.length then ifW o d g s1 s2 (ρ1.set i (.im d)) else .no) := q
      rw [if_pos hl] at q
      have ts := (Tr.refl rp).set i1 hl
      have hw2 : AtS (wd X am) am.E (ifW o d g s1 s2) (ρ1.set i (.im d)) (σ.set i (some v)) F1 H1 N := ⟨ts.rp, q.after ts⟩
      refine tG.of (hw2.bind (rel := Is _) fun e ρ2 w F2 H2 t2 i2 hw => ?_)
      obtain ⟨rp2, q2⟩ := hw
      have q2 : Flk (wd X am) am.E ρ2 (σ.set i (some v)) F2 H2 N (match o d e with
        | some (.bl true) => s1 ρ2
        | some (.bl false) => s2 ρ2
        | _ => .no) := q2
      cases eo : o d e with
      | none => rw [eo] at q2; exact q2.elim
      | some z =>
        rw [eo] at q2
        refine hd F2 H2 v w d e z _ t2.rp.ext (i1.mono t2.ext) i2 eo fun y F3 H3 g3 x3 i3 => ?_
        have t3 := Tr.nw t2.rp g3 x3
        cases i3 with
        | bl k =>
          refine ⟨k, rfl, ?_⟩
          cases k with
          | true => rw [if_pos rfl]; exact ⟨ρ2, F3, t3.rp, Flk.after t3 q2⟩
          | false => rw [if_neg Bool.false_ne_true]; exact ⟨ρ2, F3, t3.rp, Flk.after t3 q2⟩
        | _ => exact q2.elim
    · have q : Flk (wd X am) am.E ρ1 σ F1 H1 N (if i < ρ1.sl.length then ifW o d g s1 s2 (ρ1.set i (.im d)) else .no) := q
      rw [if_neg hl] at q
      exact q.elim
end
end DL

set_option Elab.async false
set_option linter.all false
set_option maxRecDepth 100000
set_option maxHeartbeats 4000000
namespace DL
open PySem PySem.Spec PyProof.Rows L2
/-! ### x.remove(e), x an own list of texts -/
/-- where the text first stands -/
def firstAt (a : Str) : List Str → Option Nat
  | [] => none
  | b :: l => if b = a then some 0 else (firstAt a l).map (· + 1)
theorem firstAt_some {a : Str} : ∀ {l : List Str} {j : Nat}, firstAt a l = some j → l[j]? = some a ∧ ∀ m, m < j → l[m]? ≠ some a
  | [], _, h => by cases h
  | b :: l, j, h => by
    unfold firstAt at h
    split at h
    · rename_i e
      cases h
      exact ⟨by simp [e], fun m hm => by omega⟩
    · rename_i e
      obtain ⟨k, ek, rfl⟩ := Option.map_eq_some_iff.mp h
      obtain ⟨h1, h2⟩ := firstAt_some ek
      refine ⟨by simpa using h1, fun m hm => ?_⟩
      cases m with
      | zero => simpa using e
      | succ m => simpa using h2 m (by omega)
theorem map_erase {α β : Type} (f : α → β) : ∀ (l : List α) (j : Nat), (l.eraseIdx j).map f = (l.map f).eraseIdx j
  | [], _ => rfl
  | _ :: _, 0 => rfl
  | a :: l, j + 1 => by simp [map_erase f l j]
def rRemT : V → List V → Hp → VK → Prop := fun x vs H Q => ∃ (l : Addr) (ws : List Str) (a : Str) (j : Nat), x = .ref l ∧ vs = [.str a] ∧ H l = some (.lst (ws.map V.str)) ∧ firstAt a ws = some j ∧ Q .non (upd H l (.lst ((ws.eraseIdx j).map V.str)))
theorem vals_strs : ∀ {ws : List Str} {us : List Value}, Vals (ws.map V.str) us → us.length = ws.length ∧ ∀ m (h : m < us.length), ∃ b t, ws[m]? = some b ∧ us[m] = .str b t
  | [], _, h => by cases h; exact ⟨rfl, fun m h => absurd h (by simp)⟩
  | b :: ws, _, h => by
    cases h with
    | cons r t =>
      obtain ⟨tk, rfl⟩ := r
      obtain ⟨h1, h2⟩ := vals_strs t
      refine ⟨by simp [h1], fun m hm => ?_⟩
      cases m with
      | zero => exact ⟨b, tk, rfl, rfl⟩
      | succ m =>
        obtain ⟨b', t', e1, e2⟩ := h2 m (by simpa using hm)
        exact ⟨b', t', by simpa using e1, by simpa using e2⟩
theorem Vals.eraseIdx : ∀ {xs : List V} {us : List Value} (j : Nat), Vals xs us → Vals (xs.eraseIdx j) (us.eraseIdx j)
  | _, _, _, .nil => .nil
  | _, _, 0, .cons _ t => t
  | _, _, j + 1, .cons r t => .cons r (Vals.eraseIdx j t)
theorem mt_removeT {X : Cx} : MtM X "list.remove" rRemT := by
  intro pins s σ H x vs v us Q I rx rv h
  obtain ⟨l, ws, a, j, rfl, rfl, hH, hj, q⟩ := h
  cases rx
  obtain ⟨u, rfl, ru⟩ := rv.one
  obtain ⟨tk, rfl⟩ := ru
  obtain ⟨z, its, n, r, hl, e⟩ := I.lstM hH
  obtain ⟨hlen, hel⟩ := vals_strs r
  obtain ⟨f1, f2⟩ := firstAt_some hj
  have hjl : j < its.length := by rw [hlen]; exact (List.getElem?_eq_some_iff.mp f1).1
  have isEq : ∀ m (h : m < its.length), isStrOf a its[m] = decide (ws[m]? = some a) := fun m h => by
    obtain ⟨b, t, e1, e2⟩ := hel m h
    rw [e2, e1]
    show (b == a) = _
    by_cases hb : b = a
    · simp [hb]
    · simp [hb]
  have he : ∀ y, y ∈ its.toArray → MeetsSeq.EqGives y (.str a tk) (isStrOf a y) := fun y hy => by
    have hy : y ∈ its := by simpa using hy
    obtain ⟨m, hm, rfl⟩ := List.getElem_of_mem hy
    obtain ⟨b, t, e1, e2⟩ := hel m hm
    rw [e2]
    exact eqGives_str b a t tk
  refine call_meets F.slot_list_remove ⟨_, e, rfl⟩ F.entry_list_remove (F.args_list_remove_2 _ _) (MeetsSeq.list_remove l its.toArray n (.str a tk) (isStrOf a) he j (by simpa using hjl) (by
    have := isEq j hjl
    simp [this, f1]) (fun m hm hmj => by
    have := isEq m (by simpa using hm)
    simp [this, f2 m hmj]) (by rw [List.size_toArray]; omega)) ⟨e, ?_⟩
  refine ⟨.non, _, I.lset (its' := its.eraseIdx j) hH e (by simp [Array.eraseIdxIfInBounds, hjl]) (by
    rw [show (ws.eraseIdx j).map V.str = (ws.map V.str).eraseIdx j from map_erase _ _ _]
    exact Vals.eraseIdx j r) (by rw [List.length_map]; have := List.length_eraseIdx_le ws j; rw [List.length_map] at z; omega), rfl, q⟩
def remD (i : Nat) (d : D) (ρ1 : Env) : Option Fl := match d with
  | .str a => ((ownL ρ1 i).bind strsOf).bind fun ws => (firstAt a ws).map fun j => .nx (ρ1.set i (.ow (.lst ((ws.eraseIdx j).map D.str))))
  | _ => none
def sRem (i : Nat) (f : Fe) : Fs := fun ρ => if (ownL ρ i).isSome = true then bE f (fun d ρ1 => oR (remD i d ρ1) id) ρ else .no
section
variable {X : Cx} {am : Am} {e : Expr} {f : Fe} {i : Nat} {x : Str} {pos p1 p2 p3 : Pos}
theorem ds_rem (hN : X.N[i]? = some x) (hv : Vis X.env.scope x) (he : DE X am e f) (hs : swapsWith (.Call (.Attribute (.Name x p1) "remove" p2) [e] [] p3) none pos.line X.env = pure false := by rfl)
    (hd : (x == ("__debug__" : Str)) = false := by decide) (hcd : (x == ("__classdict__" : Str)) = false := by decide)
    (hbase : attributeBase (.Name x p1) "remove" X.env (eval (.Name x p1) X.env) = eval (.Name x p1) X.env := by rfl)
    (hfew : ((backTo p3 (starEach [e] X.env)).all (fun x => !x.1) && (backToKw p3 (keywordEach [] X.env)).all (fun x => x.1.isSome)
      && decide ([e].length + ([] : List Keyword).length + (if ([] : List Keyword).isEmpty then 0 else 1) < 30)) = true := by rfl)
    (hline : (p2.endLine == p3.line) = true := by rfl) (hst : starEach [e] X.env = (false, eval e X.env) :: starEach [] X.env := by rfl) :
    DS X am (.Expr (.Call (.Attribute (.Name x p1) "remove" p2) [e] [] p3) pos) (sRem i f) :=
  PS.imp (ps_expr (pe_bm PySem.F.plainAttrs_list PySem.F.slot_list_remove PySem.F.type_list_remove mt_removeT (pe_var hN hv hd hcd) (pa_cons he pa_nil hst) hbase hfew hline hst rfl) hs) fun N σ H ⟨ρ, F, hw⟩ => by
    obtain ⟨rp, q⟩ := hw
    unfold sRem at q
    split at q
    · rename_i h0
      obtain ⟨l0, hl0⟩ := Option.isSome_iff_exists.mp h0
      obtain ⟨a, vs, ha, hH, il⟩ := ownL_at rp hl0
      refine ⟨_, ha, .inl ⟨rfl, _, SqL.of hH⟩, ?_⟩
      have q : AtS (wd X am) am.E (bE f fun d ρ1 => oR (remD i d ρ1) id) ρ σ F H N := ⟨rp, q⟩
      refine tG.of (q.bind (rel := Is _) fun d ρ1 v F1 H1 t1 i1 ⟨r1, q⟩ => ?_)
      have q : Flk (wd X am) am.E ρ1 σ F1 H1 N (oR (remD i d ρ1) id) := q
      cases er : remD i d ρ1 with
      | none => rw [er] at q; exact q.elim
      | some fl =>
        rw [er] at q
        cases i1 with
        | str w =>
          obtain ⟨ws, ew, er⟩ := Option.bind_eq_some_iff.mp (show (Option.bind _ _) = some fl from er)
          obtain ⟨l, el, es⟩ := Option.bind_eq_some_iff.mp ew
          obtain ⟨j, ej, rfl⟩ := Option.map_eq_some_iff.mp er
          have hl := strsOf_some es
          subst hl
          obtain ⟨a1, vs1, ha1, hH1, il1⟩ := ownL_at t1.rp el
          rw [ha] at ha1
          cases ha1
          have e1 := il1.strs
          subst e1
          exact ⟨a, ws, w, j, rfl, rfl, hH1, ej, q σ F1 _ (Tr.chg t1.rp (ownL_some el) ha (.lst (IsL.ofStrs _)))⟩
        | _ => cases er
    · exact q.elim
end
end DL

set_option Elab.async false
set_option linter.all false
set_option maxRecDepth 100000
set_option maxHeartbeats 4000000
namespace DL
open PySem PySem.Spec PyProof.Rows L2
/-! ### match -/
/-- a pattern's answer: not told; no; yes, with these names -/
abbrev Fp := D → Option (Option (List (Str × D)))
inductive RelBs (W : Wd) (F : Hp) : List (Str × Value) → List (Str × D) → Prop
  | nil : RelBs W F [] []
  | cons {n : Str} {u : Value} {x : V} {d : D} {l : List (Str × Value)} {m : List (Str × D)} (r : RelV x u) (i : Is W F x d) (t : RelBs W F l m) : RelBs W F ((n, u) :: l) ((n, d) :: m)
theorem RelBs.append {W : Wd} {F : Hp} : ∀ {l l' : List (Str × Value)} {m m' : List (Str × D)}, RelBs W F l m → RelBs W F l' m' → RelBs W F (l ++ l') (m ++ m')
  | _, _, _, _, .nil, h => h
  | _, _, _, _, .cons r i t, h => .cons r i (t.append h)
inductive RelBo (W : Wd) (F : Hp) : Option (List (Str × Value)) → Option (List (Str × D)) → Prop
  | no : RelBo W F none none
  | yes {l : List (Str × Value)} {m : List (Str × D)} (h : RelBs W F l m) : RelBo W F (some l) (some m)
def DPat (X : Cx) (am : Am) (p : Pattern) (f : Fp) : Prop := ∀ (pins : List (Addr × Obj)) (s : Shared) (σ : L2.St) (F H : Hp) (x : V) (v : Value) (d : D) (r : Option (List (Str × D))) (Q : Option (List (Str × Value)) → Shared → Prop), Inv X pins σ H s → RelV x v → Ext F H → Is (wd X am) F x d → f d = some r →
  (∀ r' s', Inv X pins σ H s' → RelBo (wd X am) F r' r → Q r' s') → wpAny (model X.prog X.w) X.A (matchPattern p X.env v) Q X.xe s
def DPats (X : Cx) (am : Am) (ps : List Pattern) (f : List D → Option (Option (List (Str × D)))) : Prop := ∀ (pins : List (Addr × Obj)) (s : Shared) (σ : L2.St) (F H : Hp) (xs : List V) (vs : List Value) (ds : List D) (r : Option (List (Str × D))) (Q : Option (List (Str × Value)) → Shared → Prop), Inv X pins σ H s → Vals xs vs → Ext F H → IsL (wd X am) F xs ds → f ds = some r →
  (∀ r' s', Inv X pins σ H s' → RelBo (wd X am) F r' r → Q r' s') → wpAny (model X.prog X.w) X.A (matchEach ps X.env vs) Q X.xe s
def DPor (X : Cx) (am : Am) (ps : List Pattern) (f : D → Option Bool) : Prop := ∀ (pins : List (Addr × Obj)) (s : Shared) (σ : L2.St) (F H : Hp) (x : V) (v : Value) (d : D) (b : Bool) (Q : Option (List (Str × Value)) → Shared → Prop), Inv X pins σ H s → RelV x v → Ext F H → Is (wd X am) F x d → f d = some b →
  (∀ r' s', Inv X pins σ H s' → RelBo (wd X am) F r' (if b = true then some [] else none) → Q r' s') → wpAny (model X.prog X.w) X.A (matchFirst ps X.env v) Q X.xe s
section
variable {X : Cx} {am : Am} {p : Pattern} {ps : List Pattern} {f : Fp} {pos pos' : Pos}
def pVal (a : Str) : Fp := fun d => (eqB d (.str a)).map fun b => if b = true then some [] else none
theorem dp_str {a : Str} {j : Nat} (hu : X.A.units + 64 < cLine) : DPat X am (.MatchValue (.Constant (.str a) j pos') pos) (pVal a) := fun pins s σ F H x v d r Q I rx ex i e q => by
  obtain ⟨b, eb, rfl⟩ := Option.map_eq_some_iff.mp e
  obtain ⟨p1, p2, e1, e2, sh1, sh2, rfl⟩ := eqB_some eb
  refine wpAny_matchPattern_Value (thn ((pe_str (X := X) (x := a) (pos := pos')).run pins s σ H (fun y H1 => y = .str a ∧ H1 = H) I ⟨rfl, rfl⟩) fun u s1 ⟨y, H1, I1, ry, ey, eH⟩ => ?_)
  subst ey eH
  refine thn (op_eqD hu pins s1 σ H1 x (.str a) v u (fun z H2 => z = .bl (PyData.eqv p1 p2) ∧ H2 = H1) I1 rx ry ⟨p1, p2, dpMono ex (i.dp e1), dpMono ex ((Is.str (W := wd X am) (H := F) a).dp e2), sh1, sh2, rfl, rfl⟩) fun c s2 ⟨z, H2, I2, rz, ez, eH2⟩ => ?_
  subst ez eH2
  cases rz
  refine wpAny_truthy_bool ?_
  cases hk : PyData.eqv p1 p2 with
  | true => exact q (some []) s2 I2 (by rw [hk, if_pos rfl]; exact .yes .nil)
  | false => exact q none s2 I2 (by rw [hk, if_neg Bool.false_ne_true]; exact .no)
theorem dp_name {n : Str} : DPat X am (.MatchAs none (some n) pos) (fun d => some (some [(n, d)])) := fun pins s σ F H x v d r Q I rx ex i e q => by
  cases e
  exact wpAny_matchPattern_Capture (q _ s I (.yes (.cons rx i .nil)))
/-! p | q, without names -/
theorem dpo_nil : DPor X am [] (fun _ => some false) := fun pins s σ F H x v d r Q I rx ex i e q => by
  cases e
  exact wpAny_matchFirst_nil (q none s I .no)
def poCons (f : Fp) (g : D → Option Bool) : D → Option Bool := fun d => match f d with
  | some (some []) => some true
  | some none => g d
  | _ => none
theorem dpo_cons {g : D → Option Bool} (h1 : DPat X am p f) (h2 : DPor X am ps g) : DPor X am (p :: ps) (poCons f g) := fun pins s σ F H x v d b Q I rx ex i e q => by
  unfold poCons at e
  split at e
  · rename_i ef
    cases e
    refine wpAny_matchFirst_cons (h1 pins s σ F H x v d _ _ I rx ex i ef fun r' s' I' rr => ?_)
    cases rr with
    | yes h => cases h; exact q _ s' I' (.yes .nil)
  · rename_i ef
    refine wpAny_matchFirst_cons (h1 pins s σ F H x v d _ _ I rx ex i ef fun r' s' I' rr => ?_)
    cases rr
    exact h2 pins s' σ F H x v d b Q I' rx ex i e q
  · cases e
def pOr (g : D → Option Bool) : Fp := fun d => (g d).map fun b => if b = true then some [] else none
theorem dp_or {g : D → Option Bool} (h : DPor X am ps g) (hn : namesOfAll (ps.take 1) = [] := by rfl) : DPat X am (.MatchOr ps pos) (pOr g) := fun pins s σ F H x v d r Q I rx ex i e q => by
  obtain ⟨b, eb, rfl⟩ := Option.map_eq_some_iff.mp e
  refine wpAny_matchPattern_Or (h pins s σ F H x v d b _ I rx ex i eb fun r' s' I' rr => ?_)
  cases b with
  | true =>
    rw [if_pos rfl] at rr
    cases rr with
    | yes hh => rw [hn]; exact q _ s' I' (.yes .nil)
  | false =>
    rw [if_neg Bool.false_ne_true] at rr
    cases rr
    exact q _ s' I' .no
/-! [p, q, ..] -/
def psNil : List D → Option (Option (List (Str × D)))
  | [] => some (some [])
  | _ => none
theorem dps_nil : DPats X am [] psNil := fun pins s σ F H xs vs ds r Q I rv ex i e q => by
  cases i with
  | nil => cases e; exact wpAny_matchEach_nil (q _ s I (.yes .nil))
  | cons _ _ => cases e
def psCons (f : Fp) (g : List D → Option (Option (List (Str × D)))) : List D → Option (Option (List (Str × D)))
  | d :: l => (match f d with
    | some none => some none
    | some (some b) => (match g l with
      | some none => some none
      | some (some c) => some (some (b ++ c))
      | none => none)
    | none => none)
  | [] => none
theorem dps_cons {g : List D → Option (Option (List (Str × D)))} (h1 : DPat X am p f) (h2 : DPats X am ps g) (hp : p.isStar = false := by rfl) : DPats X am (p :: ps) (psCons f g) := fun pins s σ F H xs vs ds r Q I rv ex i e q => by
  cases i with
  | nil => cases e
  | @cons x d xs ds i t =>
    cases rv with
    | @cons _ u _ us ru ru2 =>
      unfold psCons at e
      simp only at e
      split at e
      · rename_i ef
        cases e
        refine wpAny_matchEach_cons (h1 pins s σ F H x u d _ _ I ru ex i ef fun r' s' I' rr => ?_) hp
        cases rr
        exact q _ s' I' .no
      · rename_i b ef
        refine wpAny_matchEach_cons (h1 pins s σ F H x u d _ _ I ru ex i ef fun r' s' I' rr => ?_) hp
        cases rr with
        | yes hb =>
          split at e
          · rename_i eg
            cases e
            refine h2 pins s' σ F H xs us ds _ _ I' ru2 ex t eg fun r2 s2 I2 rr2 => ?_
            cases rr2
            exact q _ s2 I2 .no
          · rename_i c eg
            cases e
            refine h2 pins s' σ F H xs us ds _ _ I' ru2 ex t eg fun r2 s2 I2 rr2 => ?_
            cases rr2 with
            | yes hc => exact q _ s2 I2 (.yes (hb.append hc))
          · cases e
      · cases e
def pSeq (n : Nat) (g : List D → Option (Option (List (Str × D)))) : Fp := fun d => match d with
  | .tup l => if l.length = n then g l else some none
  | _ => none
theorem dp_seq {g : List D → Option (Option (List (Str × D)))} {n : Nat} (hc : X.calm = true) (h : DPats X am ps g) (hn : ps.length = n := by rfl) (hstar : ps.findIdx? (·.isStar) = none := by rfl) (hwild : (ps.all fun p => p.isWildcard || (p.isStar && p.names.isEmpty)) = false := by rfl) :
    DPat X am (.MatchSequence ps pos) (pSeq n g) := fun pins s σ F H x v d r Q I rx ex i e q => by
  cases i with
  | @tup a vs ds ht il =>
    cases (show v = Value.ref a from rx)
    obtain ⟨its, rv, pt, hz⟩ := I.tuple (ex.t ht)
    have hl := rv.length
    have hl2 := il.length
    have hT : s.TypeIs (.ref a) "tuple" := by obtain ⟨o, ho, hcl, _⟩ := pt; exact ⟨o, ho, hcl⟩
    have h63 := line63
    have I0 : Inv X pins σ H { s with toks := s.toks + 1 + 1 } := I.tok _
    refine wpAny_matchPattern_Sequence (wpAny_collectionFlag hT flag_seq_tuple ?_) hstar hwild
    rw [if_pos rfl]
    refine pyLen_tuple pt (by simp only [List.size_toArray]; omega) ?_
    unfold pSeq at e
    simp only at e
    split at e
    · rename_i hn2
      have e1 : its.length = ps.length := by omega
      rw [if_neg (by simp [e1])]
      have hu := fun (Q : List Value → Shared → Prop) hq => unpackItems_tuple (prog := X.prog) (w := X.w) (A := X.A) (E := X.xe) (s := { s with toks := s.toks + 1 + 1 }) (Q := Q) (I.ok.hd hc) pt hq
      rw [show ps.length = its.toArray.size by simp [e1]]
      refine hu _ fun h' hx => ?_
      have I2 : Inv X pins σ H { s with toks := s.toks + 1 + 1, heap := h' } := I0.kept (t' := s.toks + 1 + 1) fun b o ho => hx b o (Nat.ne_of_lt (Heap.lt_size ho)) ho
      refine h pins _ σ F H vs its ds r Q I2 ?_ ex il e q
      exact rv
    · rename_i hn2
      cases e
      rw [if_pos (by
        have h1 : its.length ≠ ps.length := by omega
        have h2 : (its.length : Int) ≠ (ps.length : Int) := by omega
        simpa using h2)]
      exact q none _ I0 .no
  | _ => cases e
/-! the names are stored, the cases -/
def bindS (ix : List (Str × Nat)) : List (Str × D) → Env → Option Env
  | [], ρ => some ρ
  | (n, d) :: r, ρ => match ix.lookup n with
    | some i => if i < ρ.sl.length then bindS ix r (ρ.set i (.im d)) else none
    | none => none
def IxOk (X : Cx) (ix : List (Str × Nat)) : Prop := ∀ n i, ix.lookup n = some i → X.N[i]? = some n ∧ Loc X.env.scope n ∧ (X.fn n = true ∨ X.env.scope.names.lookup n = some .local)
theorem bind_run {ix : List (Str × Nat)} (hN : X.N.Nodup) (hix : IxOk X ix) : ∀ {bs : List (Str × Value)} {ds : List (Str × D)} {pins : List (Addr × Obj)} {s : Shared} {σ : L2.St} {ρ ρ' : Env} {F H : Hp} {Q : Unit → Shared → Prop}, Inv X pins σ H s → Rp (wd X am) ρ σ F H → RelBs (wd X am) F bs ds → bindS ix ds ρ = some ρ' →
    (∀ σ' s', Inv X pins σ' H s' → Tr (wd X am) ρ σ F H ρ' σ' F H → Q () s') → wpAny (model X.prog X.w) X.A (assignInOrder (bs.map fun (n, _) => bindName X.env n) (bs.map (·.2))) Q X.xe s
  | _, _, pins, s, σ, ρ, ρ', F, H, Q, I, r, .nil, e, q => by
    cases e
    exact wpAny_assignInOrder_none (q σ s I (Tr.refl r))
  | _, _, pins, s, σ, ρ, ρ', F, H, Q, I, r, .cons (n := n) (u := u) (x := x) (d := d) rx i t, e, q => by
    unfold bindS at e
    split at e
    · rename_i j ej
      split at e
      · rename_i hj
        obtain ⟨h1, h2, h3⟩ := hix n j ej
        have tr := (Tr.refl r).set i hj
        refine wpAny_assignInOrder_more (wpAny_bindName (store_ok I hN h1 h2 rx (fun s2 I2 => ?_) h3))
        exact bind_run hN hix I2 tr.rp t e fun σ' s' I' t' => q σ' s' I' (tr.trans t')
      · cases e
    · cases e
def DCs (X : Cx) (am : Am) (cs : List MatchCase) (c : D → Fs) : Prop := ∀ (pins : List (Addr × Obj)) (s : Shared) (σ : L2.St) (ρ : Env) (F H : Hp) (x : V) (v : Value) (d : D) (N : Ends) (first : Bool), Inv X pins σ H s → RelV x v → Is (wd X am) F x d → AtS (wd X am) am.E (c d) ρ σ F H N →
  wpAny (model X.prog X.w) X.A (matchCases cs X.env v first) (SP X pins N) X.xe s
theorem dcs_nil : DCs X am [] (fun _ => sPass) := fun pins s σ ρ F H x v d N fi I rx i ⟨r, q⟩ => wpAny_matchCases_nil ⟨σ, H, I, q σ F H (Tr.refl r)⟩
def mCase (ix : List (Str × Nat)) (f : Fp) (g : Ft) (b : Fs) (c : D → Fs) : D → Fs := fun d ρ => match f d with
  | none => .no
  | some none => c d ρ
  | some (some bs) => (match bindS ix bs ρ with
    | some ρ1 => bE g (fun k => if k = true then b else c d) ρ1
    | none => .no)
theorem dcs_cons {ix : List (Str × Nat)} {g : Ft} {b : Fs} {c : D → Fs} {gu : Option Expr} {body : List Stmt} {cs : List MatchCase} (hN : X.N.Nodup) (hix : IxOk X ix) (hp : DPat X am p f)
    (hg : match gu with
      | none => g = cYes
      | some e => DT X am e g) (hb : DSs X am body b) (hc : DCs X am cs c) : DCs X am (⟨p, gu, body⟩ :: cs) (mCase ix f g b c) := fun pins s σ ρ F H x v d N fi I rx i ⟨r, q⟩ => by
  have q : Flk (wd X am) am.E ρ σ F H N (mCase ix f g b c d ρ) := q
  unfold mCase at q
  split at q
  · exact q.elim
  · rename_i ef
    refine wpAny_matchCases_cons (hp pins s σ F H x v d _ _ I rx r.ext i ef fun r' s' I' rr => ?_)
    cases rr
    exact hc pins s' σ ρ F H x v d N false I' rx i ⟨r, q⟩
  · rename_i bs ef
    refine wpAny_matchCases_cons (hp pins s σ F H x v d _ _ I rx r.ext i ef fun r' s' I' rr => ?_)
    cases rr with
    | yes hbs =>
      split at q
      · rename_i ρ1 eb
        refine bind_run hN hix I' r hbs eb fun σ2 s2 I2 t2 => ?_
        have q2 := Flk.after t2 q
        cases gu with
        | none =>
          have hg : g = cYes := hg
          subst hg
          exact hb.run pins s2 σ2 H N I2 ⟨ρ1, F, t2.rp, q2⟩
        | some ge =>
          have hg : DT X am ge g := hg
          have hw : AtS (wd X am) am.E (bE g fun k => if k = true then b else c d) ρ1 σ2 F H N := ⟨t2.rp, q2⟩
          refine thn (hg.run pins s2 σ2 H (fun k H3 => ∃ ρ3 F3, Ext F F3 ∧ AtS (wd X am) am.E (if k = true then b else c d) ρ3 σ2 F3 H3 N) I2 (tG.of (hw.bind (rel := relB) fun k ρ3 k' F3 H3 t3 r3 hw => by
            cases r3
            exact ⟨ρ3, F3, t3.ext, hw⟩))) fun k s3 ⟨H3, I3, ρ3, F3, e3, hw⟩ => ?_
          cases k with
          | true => rw [if_pos rfl]; rw [if_pos rfl] at hw; exact hb.run pins s3 σ2 H3 N I3 ⟨ρ3, F3, hw⟩
          | false => rw [if_neg Bool.false_ne_true]; rw [if_neg Bool.false_ne_true] at hw; exact hc pins s3 σ2 ρ3 F3 H3 x v d N false I3 rx (i.mono e3) hw
      · exact q.elim
def sMatch (f : Fe) (c : D → Fs) : Fs := bS f c
theorem ds_match {e : Expr} {f : Fe} {cs : List MatchCase} {c : D → Fs} (he : DE X am e f) (hc : DCs X am cs c) : DS X am (.Match e cs pos) (sMatch f c) := ⟨fun pins s σ H N I ⟨ρ, F, hw⟩ =>
  wpAny_Match (thn (he.run pins s σ H (fun x H1 => ∃ d ρ1 F1, Is (wd X am) F1 x d ∧ AtS (wd X am) am.E (c d) ρ1 σ F1 H1 N) I (tG.of (hw.bind (rel := Is _) fun d ρ1 x F1 H1 t1 i1 hw => ⟨d, ρ1, F1, i1, hw⟩))) fun v s1 ⟨x, H1, I1, rx, d, ρ1, F1, i1, hw⟩ =>
    hc pins s1 σ ρ1 F1 H1 x v d N true I1 rx i1 hw)⟩
end
end DL

set_option Elab.async false
set_option linter.all false
set_option maxRecDepth 100000
set_option maxHeartbeats 4000000
namespace DL
open PySem PySem.Spec PyProof.Rows L2
/-! ### a, *b = e -/
section
variable {prog : Program} {w : World} {A : Around} {E : Value → Shared → Prop} {s : Shared}
/-- a list's iterator, from the item k on -/
theorem walks_from (hh : A.handled = none) (it l : Addr) (hne : l ≠ it) (items : Array Value) (k : Nat) :
    WalksS prog w A it [it, l] [it] (fun a b => a = b) (items.size - k) (fun i v => items[i + k]? = some v) (fun i s => s.heap.IsListIter it l (i + k) ∧ s.heap.IsList l items) where
  sub := fun b hb => by rw [List.mem_singleton.mp hb]; simp
  grefl := fun _ => rfl
  gtrans := fun _ _ _ h1 h2 => h1.trans h2
  frame := fun i s h' tk st _ hk => ⟨st.1.at fun o e => hk it (by simp) o e, st.2.at fun o e => hk l (by simp) o e⟩
  item := fun i s Q E hi st hQ => by
    have hlt : i + k < items.size := by omega
    refine wpAny_pyNext_list_item st.1 st.2 (x := items[i + k]) (by simp [hlt]) fun h' hit' hs' => ?_
    refine hQ _ _ (by simp [hlt]) ⟨?_, st.2.extBut hs'.extBut hne⟩ ⟨fun b o hb ho => hs'.extBut b o (fun e => hb (by simp [e])) ho, rfl, rfl, rfl, Nat.le_refl _⟩
    rw [show i + 1 + k = i + k + 1 by omega]
    exact hit'
  done := fun s Q E st hQ => by
    by_cases hk : k ≤ items.size
    · refine wpAny_pyNext_list_end hh st.1 st.2 (by simp; omega) fun h' he => hQ _ ⟨fun b o hb ho => he b o (fun e => hb (by simp [e])) ho, rfl, rfl, rfl, Nat.le_refl _⟩
    · refine wpAny_pyNext_list_end hh st.1 st.2 (by simp; omega) fun h' he => hQ _ ⟨fun b o hb ho => he b o (fun e => hb (by simp [e])) ho, rfl, rfl, rfl, Nat.le_refl _⟩
  self := fun i s Q E st h => wpAny_pyIter_listiter st.1 h
theorem unpack_star {l : Addr} {x : Value} {rest : List Value} {Q : List Value → Shared → Prop} (hh : A.handled = none) (hl : s.heap.IsList l (x :: rest).toArray) (hz : rest.length ≤ 100000)
    (h : ∀ h' p c tk, (∀ b o, s.heap.get? b = some o → h'.get? b = some o) → s.heap.get? p = none → h'.get? p = some { cls := .type "list", data := .seq rest.toArray c } → Q [x, .ref p] { s with heap := h', toks := tk }) :
    wpAny (model prog w) A (unpackItems (.ref l) 2 (some 1)) Q E s := by
  have hlt : l < s.heap.objs.size := by obtain ⟨o, ho, _⟩ := hl; exact Heap.lt_size ho
  have hne : l ≠ s.heap.objs.size := Nat.ne_of_lt hlt
  have hzL : rest.length ≤ sizeLine := Nat.le_trans hz (by decide)
  unfold unpackItems
  refine wpAny_bind ?_
  unfold notIterableAtAll
  refine wpAny_bind (wpAny_specialOf hl.typeIs PySem.F.slot_list_iter.lookup (wpAny_pure ?_))
  simp only [Bool.false_eq_true, if_false]
  refine wpAny_bind (wpAny_holding (wpAny_pyIter_list hl ?_))
  have k1 : ∀ b o, s.heap.get? b = some o → (s.heap.push { cls := .type "list_iterator", data := .fields #[.ref l, .int 0 0] }).get? b = some o := fun b o e => Heap.get?_push_of_some _ e
  have it0 : (s.heap.push { cls := .type "list_iterator", data := .fields #[.ref l, .int 0 0] }).IsListIter s.heap.objs.size l 0 := ⟨_, Heap.get?_push_size _ rfl, rfl, rfl⟩
  have l0 : (s.heap.push { cls := .type "list_iterator", data := .fields #[.ref l, .int 0 0] }).IsList l (x :: rest).toArray := hl.push _
  have sz0 : (s.heap.push { cls := .type "list_iterator", data := .fields #[.ref l, .int 0 0] }).objs.size = s.heap.objs.size + 1 := Heap.size_push ..
  generalize (s.heap.push { cls := .type "list_iterator", data := .fields #[.ref l, .int 0 0] }) = h0 at k1 it0 l0 sz0
  show wpAny _ _ (holding [Value.ref s.heap.objs.size] (draw (.ref s.heap.objs.size) 1) >>= _) _ _ _
  refine wpAny_bind (wpAny_holding ?_)
  unfold draw
  refine wpAny_bind (wpAny_pyNext_list_item (s := { s with heap := h0 }) it0 l0 (x := x) rfl fun h1 it1 sb1 => ?_)
  show wpAny _ _ (holding [x] (draw (.ref s.heap.objs.size) 0) >>= fun r => pure (x :: r)) _ _ _
  unfold draw
  refine wpAny_bind (wpAny_holding (wpAny_pure (wpAny_pure ?_)))
  simp only [List.length_singleton, Nat.lt_irrefl, if_false]
  have l1 : h1.IsList l (x :: rest).toArray := l0.extBut sb1.extBut hne
  have k2 : ∀ b o, s.heap.get? b = some o → h1.get? b = some o := fun b o e => sb1.extBut b o (Nat.ne_of_lt (Heap.lt_size e)) (k1 b o e)
  have W := walks_from (prog := prog) (w := w) (A := A.in1) (show A.in1.handled = none from hh) s.heap.objs.size l hne (x :: rest).toArray 1
  have hil : s.heap.objs.size < h1.objs.size := by obtain ⟨o, ho, _⟩ := it1; exact Heap.lt_size ho
  have hll : l < h1.objs.size := by obtain ⟨o, ho, _⟩ := l1; exact Heap.lt_size ho
  refine wpAny_bind (wpAny_holding (wpAny_collect_iter (T := "list_iterator") (s := { s with heap := h1 }) (.inr (.inr (.inl rfl))) W (fun i s st => st.1.typeIs) ⟨it1, l1⟩ (fun b hb => ?_) (by simp) (fun s2 acc mv its => ?_) (by simp; omega)))
  · have eb : b = s.heap.objs.size ∨ b = l := by simpa using hb
    rcases eb with e | e
    · rw [e]; exact hil
    · rw [e]; exact hll
  · have eacc : acc.toList = rest := by
      obtain ⟨hsz, hget⟩ := its
      apply List.ext_getElem?
      intro j
      by_cases hj : j < acc.size
      · have h1 : acc[j]? = some acc[j] := by simp [hj]
        have h2 := hget j acc[j] h1
        rw [Array.getElem?_toList, h1]
        simpa using h2.symm
      · have hr : rest.length ≤ j := by
          have : acc.size = (x :: rest).toArray.size - 1 := hsz
          simp at this
          omega
        rw [List.getElem?_eq_none hr, Array.getElem?_toList]
        simp [Nat.le_of_not_lt hj]
    rw [eacc]
    simp only [Nat.sub_self, Nat.not_lt_zero, if_false, Nat.reduceSub]
    have k3 : ∀ b o, s.heap.get? b = some o → s2.heap.get? b = some o := fun b o e => mv.heap b o (fun hb => Nat.ne_of_lt (Heap.lt_size e) (List.mem_singleton.mp hb)) (k2 b o e)
    have pf : s.heap.get? s2.heap.objs.size = none := by
      cases q : s.heap.get? s2.heap.objs.size with
      | none => rfl
      | some o => exact absurd (Heap.lt_size (k3 _ o q)) (Nat.lt_irrefl _)
    obtain ⟨hp2, g2, d2, t2, os2⟩ := s2
    have eg : s.gens = g2 := mv.gens
    have ed : d2 = s.drawn := mv.drawn
    have eo : os2 = s.os := mv.os
    subst eg ed eo
    simp only [Nat.sub_zero, List.take_length, List.drop_length]
    refine wpAny_bind (wpAny_newList ?_ hzL)
    have := h (hp2.push (seqObj "list" rest.toArray 0)) hp2.objs.size 0 t2 (fun b o e => Heap.get?_push_of_some _ (k3 b o e)) pf (Heap.get?_push_size _ rfl)
    refine wpAny_pure ?_
    simpa using this
end
section
variable {X : Cx} {am : Am} {i j : Nat} {x y : Str} {px py p1 pos : Pos} {k : Nat}
/-- tg = e -/
theorem ps_tgt {tg e : Expr} {g : TG} {te : TE} (he : PE X e te) (hg : PG X tg g) (hs : swapsWithSole [tg] e pos.line X.env = pure false := by rfl) (hw : swappedStores [tg] e X.env = pure none := by rfl) (ha : (assignEach [tg] X.env).map (·.2) = [assign tg X.env] := by rfl) :
    PS X (.Assign [tg] e pos) (fun N σ H => te σ H fun v H1 => g v σ H1 fun σ' H' => N.nx σ' H') := by
  refine ⟨fun pins s σ H N I h => wpAny_Assign_stores (thn (he.run pins s σ H _ I h) fun u s1 ⟨v, H1, I1, r1, q1⟩ => ?_) hs hw⟩
  rw [ha]
  exact thn (hg.run pins s1 σ H1 v u _ I1 r1 q1) fun _ s2 ⟨σ2, H2, I2, q2⟩ => ⟨σ2, H2, I2, q2⟩
def sTgt (f : Fe) (g : Fg) : Fs := bS f fun d ρ => oR (g d ρ) fun ρ' => .nx ρ'
theorem ds_tgt {vs : List Nat} {tg e : Expr} {f : Fe} {g : Fg} (he : DE X am e f) (hg : DG X am vs tg g) (hs : swapsWithSole [tg] e pos.line X.env = pure false := by rfl) (hw : swappedStores [tg] e X.env = pure none := by rfl) (ha : (assignEach [tg] X.env).map (·.2) = [assign tg X.env] := by rfl) :
    DS X am (.Assign [tg] e pos) (sTgt f g) := PS.imp (ps_tgt he hg hs hw ha) fun N σ H ⟨ρ, F, hw⟩ => tG.of (hw.bind (rel := Is _) fun d ρ1 v F1 H1 t1 i1 ⟨r, q⟩ => by
  have q : Flk (wd X am) am.E ρ1 σ F1 H1 N (oR (g d ρ1) fun ρ' => .nx ρ') := q
  cases eg : g d ρ1 with
  | none => rw [eg] at q; exact q.elim
  | some ρ2 =>
    rw [eg] at q
    exact ⟨ρ1, F1, d, ρ2, r, i1, eg, fun σ' F' H' t _ => q σ' F' H' t⟩)
def tgStar (i j : Nat) : Fg := fun d ρ => match d with
  | .lst (a :: r) => gd (i < ρ.sl.length ∧ j < ρ.sl.length ∧ sz r.length) ((ρ.set i (.im a)).set j (.im (.lst r)))
  | _ => none
theorem dg_star {vs : List Nat} (hc : X.calm = true) (hN : X.N.Nodup) (hi : X.N[i]? = some x) (hj : X.N[j]? = some y) (hx : Loc X.env.scope x) (hy : Loc X.env.scope y) (ha : assignEach [.Name x px, .Starred (.Name y py) p1] X.env = [(false, assign (.Name x px) X.env), (true, assign (.Name y py) X.env)] := by rfl)
    (hf : X.fn x = true ∨ X.env.scope.names.lookup x = some .local := by first | exact .inl rfl | exact .inr rfl | assumption) (hf' : X.fn y = true ∨ X.env.scope.names.lookup y = some .local := by first | exact .inl rfl | exact .inr rfl | assumption) (hv : i ∈ vs := by decide) (hv' : j ∈ vs := by decide) :
    DG X am vs (.Tuple [.Name x px, .Starred (.Name y py) p1] k pos) (tgStar i j) := by
  refine ⟨fun pins s σ H v u Q I r ⟨ρ, F, d, ρ', rp, iv, e, q⟩ => ?_⟩
  rw [assign_Tuple]
  refine wpAny_bind (wpAny_standAt ?_)
  cases iv with
  | @lst a vs ds hF il =>
    cases (show u = Value.ref a from r)
    cases il with
    | nil => cases e
    | @cons v d vs ds iv il =>
      obtain ⟨⟨h1, h2, h3⟩, rfl⟩ := gd_some (show gd _ _ = some ρ' from e)
      obtain ⟨its, rv, pl, hz⟩ := I.list (SqL.of (rp.ext _ _ hF))
      cases rv with
      | @cons _ u _ us ru rus =>
        unfold unpack
        rw [ha]
        show wpAny _ _ (holding [Value.ref a] (unpackItems (.ref a) 2 (some 1)) >>= _) _ _ _
        have hlen : us.length ≤ 100000 := by
          have := rus.length
          rw [← this, il.length]
          exact h3
        refine wpAny_bind (wpAny_holding (unpack_star (I.ok.hd hc) pl.isList hlen fun h' p c tk kp hp hget => ?_))
        have hn : H p = none := I.hok.gone hp
        have I1 : Inv X pins σ (upd H p (.lst vs)) { s with heap := h', toks := tk } := I.laidN (t' := tk) kp hp hn (show ObjOk X.prog X.w _ h' _ (.lst vs) from ⟨by rw [rus.length]; exact Nat.le_trans hlen (by decide), us, c, rus, hget⟩)
        have t0 := Tr.nw rp (Nw.of rp.ext hn (o := .lst vs)) rp.ext.both
        have ex := Ext.new (o := .lst vs) (rp.ext.free hn)
        have t1 := t0.set (iv.mono ex) h1
        have t2 := t1.set (Is.lst upd_same (il.mono ex)) (show j < _ by rw [set_len]; exact h2)
        refine assignInOrder_cons (wpAny_assign_Name (store_ok I1 hN hi hx ru (fun s2 I2 => ?_) hf))
        refine assignInOrder_cons (wpAny_assign_Name (store_ok I2 hN hj hy (show RelV (.ref p) (.ref p) from rfl) (fun s3 I3 => assignInOrder_nil ?_) hf'))
        exact ⟨_, _, I3, q _ _ _ t2 ((Chg.set hv).trans (Chg.set hv'))⟩
  | _ => cases e
end
end DL

set_option Elab.async false
set_option linter.all false
set_option maxRecDepth 100000
set_option maxHeartbeats 4000000
namespace DL
open PySem PySem.Spec PyProof.Rows L2
/-! ### data without the draws' dict: they mean the same wherever it lies -/
mutual
def ND : D → Bool
  | .tup l => NDs l
  | .lst l => NDs l
  | .ins _ l => NDs l
  | .scr l => NDs l
  | .dr => false
  | _ => true
def NDs : List D → Bool
  | [] => true
  | d :: l => ND d && NDs l
end
mutual
theorem Is.am {K : PySem.W.Frag} {mg : Str → Option Value} {a b : Addr} {F : Hp} : ∀ {v : V} {d : D}, ND d = true → Is ⟨K, mg, a⟩ F v d → Is ⟨K, mg, b⟩ F v d
  | _, _, _, .non => .non
  | _, _, _, .bl x => .bl x
  | _, _, _, .int x => .int x
  | _, _, _, .str x => .str x
  | _, _, h, .tup s t => .tup s (IsL.am (by simpa [ND] using h) t)
  | _, _, h, .lst s t => .lst s (IsL.am (by simpa [ND] using h) t)
  | _, _, h, .ins g s t => .ins g s (IsL.am (by simpa [ND] using h) t)
  | _, _, _, .fn g => .fn g
  | _, _, h, .dr => by simp [ND] at h
  | _, _, h, .scr s t => .scr s (IsL.am (by simpa [ND] using h) t)
theorem IsL.am {K : PySem.W.Frag} {mg : Str → Option Value} {a b : Addr} {F : Hp} : ∀ {vs : List V} {l : List D}, NDs l = true → IsL ⟨K, mg, a⟩ F vs l → IsL ⟨K, mg, b⟩ F vs l
  | _, _, _, .nil => .nil
  | _ :: _, d :: l, h, .cons i t => by
    have h : ND d = true ∧ NDs l = true := by simpa [NDs] using h
    exact .cons (Is.am h.1 i) (IsL.am h.2 t)
end
def NDf (fs : List (Str × D)) : Bool := NDs (fs.map (·.2))
theorem IsFs.am {K : PySem.W.Frag} {mg : Str → Option Value} {a b : Addr} {F : Hp} : ∀ {vs : List (Str × V)} {l : List (Str × D)}, NDf l = true → IsFs ⟨K, mg, a⟩ F vs l → IsFs ⟨K, mg, b⟩ F vs l
  | _, _, _, .nil => .nil
  | _ :: _, (_, d) :: l, h, .cons i t => by
    have h : ND d = true ∧ NDs (l.map (·.2)) = true := by simpa [NDf, NDs] using h
    exact .cons (i.am h.1) (IsFs.am h.2 t)
/-! ### __init__ of a class with two slots -/
/-- what a class's call promises: a new instance of the class c -/
def spI (K : PySem.W.Frag) (mg : Str → Option Value) (c : Str) (n : Nat) (m : Fd) : Sp := fun vs H Q E => vs.length = n + 1 ∧ ∃ C x dx H0 ws am F ds o, mg c = some (.ref C) ∧ vs = .ref x :: ws ∧ H = upd (upd H0 dx (.own x)) x (.ins C dx []) ∧ H0 x = none ∧ H0 dx = none ∧ dx ≠ x ∧
  Ext F H0 ∧ IsL ⟨K, mg, am⟩ F ws ds ∧ (∀ r, o = some r → OraOk ⟨K, mg, am⟩ F H0 r) ∧ spR ⟨K, mg, am⟩ F H0 o (fun v H' => v = .ref x → Q .non H') E (m ds o)
/-- the new instance (it lies at W.am) and its dict stand besides -/
structure Bes (W : Wd) (ρ : Env) (σ : L2.St) (F H : Hp) (C dx : Addr) (vs : List (Option V)) : Prop where
  fx : F W.am = none
  fd : F dx = none
  ox : ¬ Own W ρ σ W.am
  od : ¬ Own W ρ σ dx
  hx : SlX.Slt H W.am C dx vs
  hd : ∃ o, H dx = some o
  ne : dx ≠ W.am
theorem Bes.after {W : Wd} {ρ ρ1 : Env} {σ σ1 : L2.St} {F H F1 H1 : Hp} {C dx : Addr} {vs : List (Option V)} (b : Bes W ρ σ F H C dx vs) (t : Tr W ρ σ F H ρ1 σ1 F1 H1) : Bes W ρ1 σ1 F1 H1 C dx vs := by
  obtain ⟨o, ho⟩ := b.hd
  obtain ⟨d1, d2, d3⟩ := t.besides b.fd ho b.od
  rcases b.hx with ⟨hx, hv⟩ | ⟨hx, hd⟩
  · obtain ⟨x1, x2, x3⟩ := t.besides b.fx hx b.ox
    exact ⟨x1, d1, x3, d3, .inl ⟨x2, hv⟩, ⟨_, d2⟩, b.ne⟩
  · obtain ⟨x1, x2, x3⟩ := t.besides b.fx hx b.ox
    rw [hd] at ho
    cases ho
    exact ⟨x1, d1, x3, d3, .inr ⟨x2, d2⟩, ⟨_, d2⟩, b.ne⟩
/-- the instance is written: nothing that is known or own changes -/
theorem Rp.wrote {W : Wd} {ρ : Env} {σ : L2.St} {F H : Hp} {C dx : Addr} {vs ws : List (Option V)} (r : Rp W ρ σ F H) (b : Bes W ρ σ F H C dx vs) : Rp W ρ σ F (SlX.slH H W.am C dx ws) ∧ Bes W ρ σ F (SlX.slH H W.am C dx ws) C dx ws ∧ Go (fun a => a = W.am ∨ a = dx) F H F (SlX.slH H W.am C dx ws) := by
  have ne : ∀ a, a ≠ W.am → a ≠ dx → SlX.slH H W.am C dx ws a = H a := fun a h1 h2 => SlX.slH_ne h1 h2
  have nf : ∀ a o, F a = some o → a ≠ W.am ∧ a ≠ dx := fun a o e => ⟨fun z => (by rw [z, b.fx] at e; cases e), fun z => (by rw [z, b.fd] at e; cases e)⟩
  refine ⟨⟨fun a o e => by rw [ne a (nf a o e).1 (nf a o e).2]; exact r.ext a o e, r.len, fun i s q => ?_, r.apart, fun o q => ?_, r.noam⟩, ⟨b.fx, b.fd, b.ox, b.od, SlX.slH_slt b.ne, ⟨_, by unfold SlX.slH; rw [upd_ne b.ne]; exact upd_same⟩, b.ne⟩,
    ⟨Ext.refl F, fun a o e n => by rw [ne a (fun z => n (.inl z)) fun z => n (.inr z)]; exact e, fun a o e => .inl e⟩⟩
  · have so := r.slot i s q
    cases s with
    | no => trivial
    | im d => exact so
    | ow l =>
      obtain ⟨a, h, hx, hF, hH, k⟩ := so
      have n1 : a ≠ W.am := fun z => b.ox (.inl ⟨i, ⟨l, q⟩, by rw [← z]; exact hx⟩)
      have n2 : a ≠ dx := fun z => b.od (.inl ⟨i, ⟨l, q⟩, by rw [← z]; exact hx⟩)
      exact ⟨a, h, hx, hF, by rw [ne a n1 n2]; exact hH, k⟩
  · exact (b.ox (.inr ⟨rfl, o, q⟩)).elim
abbrev Fi := Env → Res ((D × D) × Env)
def AtI (W : Wd) (E : WX) (c : Str) (ρ : Env) (σ : L2.St) (F H : Hp) (dx : Addr) (N : Ends) : Res ((D × D) × Env) → Prop
  | .no => False
  | .ok ((d1, d2), _) => ∀ σ' F' H', Go (fun a => Own W ρ σ a ∨ a = W.am ∨ a = dx) F H F' H' → Ext F' H' → Is W F' (.ref W.am) (.ins c [d1, d2]) → N.nx σ' H'
  | .ex e fs ρ' => ExQ W E ρ σ F H e fs ρ'
def tIn (W : Wd) (E : WX) (c : Str) (C dx : Addr) (h : Fi) : TS := fun N σ H => ∃ ρ F, Rp W ρ σ F H ∧ Bes W ρ σ F H C dx [] ∧ AtI W E c ρ σ F H dx N (h ρ)
abbrev DIn (X : Cx) (am : Am) (c : Str) (C dx : Addr) (body : List Stmt) (h : Fi) : Prop := PSs X body (tIn (wd X am) am.E c C dx h)
def iSeq (g : Fs) (h : Fi) : Fi := fun ρ => match g ρ with
  | .ok (.nx ρ1) => h ρ1
  | .ex c fs ρ1 => .ex c fs ρ1
  | _ => .no
def isSelf (ρ : Env) : Bool := match ρ.sl[0]? with
  | some (Slot.im D.dr) => true
  | _ => false
theorem isSelf_at {W : Wd} {ρ : Env} {σ : L2.St} {F H : Hp} (r : Rp W ρ σ F H) (h : isSelf ρ = true) : σ[0]? = some (some (.ref W.am)) := by
  unfold isSelf at h
  split at h
  · rename_i q
    obtain ⟨x, hx, ix⟩ := r.slot 0 _ q
    cases ix
    exact hx
  · cases h
def iTwo (d1 : D) : Res (D × Env) → Res ((D × D) × Env)
  | .ok (d2, ρ2) => if isSelf ρ2 = true then .ok ((d1, d2), ρ2) else .no
  | _ => .no
def iEnd (f1 f2 : Fe) : Fi := bE f1 fun d1 ρ1 => if isSelf ρ1 = true then iTwo d1 (f2 ρ1) else .no
section
variable {X : Cx} {am : Am} {c : Str} {C dx : Addr} {s : Stmt} {rest : List Stmt} {g : Fs} {h : Fi}
theorem din_cons (h1 : DS X am s g) (h2 : DIn X am c C dx rest h) : DIn X am c C dx (s :: rest) (iSeq g h) := PSs.imp (pss_cons h1 h2) fun N σ H ⟨ρ, F, r, b, q⟩ => by
  refine ⟨ρ, F, r, ?_⟩
  unfold iSeq at q
  cases eg : g ρ with
  | no => rw [eg] at q; exact q
  | ex e fs ρ1 => rw [eg] at q; exact q
  | ok fl =>
    rw [eg] at q
    cases fl with
    | nx ρ1 =>
      intro σ1 F1 H1 t
      refine ⟨ρ1, F1, t.rp, b.after t, ?_⟩
      have q : AtI (wd X am) am.E c ρ σ F H dx N (h ρ1) := q
      cases eh : h ρ1 with
      | no => rw [eh] at q; exact q
      | ex e fs ρ2 => rw [eh] at q; exact ExQ.after t q
      | ok r2 =>
        rw [eh] at q
        intro σ2 F2 H2 g2 x2 i2
        refine q σ2 F2 H2 ((t.go.weak fun a z => .inl z).trans g2 fun a z => ?_) x2 i2
        rcases z with z | z
        · exact (t.own a z).imp .inl id
        · exact .inl (.inr z)
    | rt d ρ1 => exact q.elim
    | bk ρ1 => exact q.elim
    | ct ρ1 => exact q.elim
variable {e1 e2 : Expr} {f1 f2 : Fe} {n1 n2 x : Str} {pa pb pc pd pe pf : Pos} {p1 p2 : Addr}
theorem din_end (hm : X.mg c = some (.ref C)) (hN : X.N[0]? = some x) (hv : Vis X.env.scope x) (c1 : SlX.SCls X.K C) (s1 : SlX.Slot1 X.K C n1 p1 0) (s2 : SlX.Slot1 X.K C n2 p2 1) (h1 : DE X am e1 f1) (h2 : DE X am e2 f2)
    (hd : (x == ("__debug__" : Str)) = false := by decide) (hcd : (x == ("__classdict__" : Str)) = false := by decide)
    (hs1 : swapsWith e1 (some (.Attribute (.Name x pa) n1 pb)) pc.line X.env = pure false := by rfl) (hs2 : swapsWith e2 (some (.Attribute (.Name x pd) n2 pe)) pf.line X.env = pure false := by rfl) :
    DIn X am c C dx [.Assign [.Attribute (.Name x pa) n1 pb] e1 pc, .Assign [.Attribute (.Name x pd) n2 pe] e2 pf] (iEnd f1 f2) :=
  PSs.imp (pss_cons (SlX.ps_sl (pe_var hN hv hd hcd) h1 hs1) (pss_one (SlX.ps_sl (pe_var hN hv hd hcd) h2 hs2))) fun N σ H ⟨ρ, F, r, b, q⟩ => by
    refine ⟨ρ, F, r, ?_⟩
    have q : AtI (wd X am) am.E c ρ σ F H dx N (bR (f1 ρ) _) := q
    cases e1 : f1 ρ with
    | no => rw [e1] at q; exact q
    | ex e fs ρ1 => rw [e1] at q; exact q
    | ok r1 =>
      obtain ⟨d1, ρ1⟩ := r1
      rw [e1] at q
      have q : AtI (wd X am) am.E c ρ σ F H dx N (if isSelf ρ1 = true then iTwo d1 (f2 ρ1) else .no) := q
      intro v1 F1 H1 t1 i1
      split at q
      · rename_i sf1
        have b1 := b.after t1
        refine ⟨_, isSelf_at t1.rp sf1, _, C, dx, p1, [], 0, rfl, b1.hx, c1, s1, ?_⟩
        obtain ⟨rw1, bw1, gw1⟩ := Rp.wrote (ws := SlX.putS 0 v1 []) t1.rp b1
        refine ⟨ρ1, F1, rw1, ?_⟩
        have g1 : Go (fun a => Own (wd X am) ρ σ a ∨ a = am.a ∨ a = dx) F H F1 (SlX.slH H1 am.a C dx (SlX.putS 0 v1 [])) := (t1.go.weak fun a z => .inl z).trans gw1 fun a z => .inl (.inr z)
        cases e2 : f2 ρ1 with
        | no => rw [e2] at q; exact q.elim
        | ex e fs ρ2 =>
          rw [e2] at q
          exact q.elim
        | ok r2 =>
          obtain ⟨d2, ρ2⟩ := r2
          rw [e2] at q
          have q : AtI (wd X am) am.E c ρ σ F H dx N (if isSelf ρ2 = true then .ok ((d1, d2), ρ2) else .no) := q
          intro v2 F2 H2 t2 i2
          split at q
          · rename_i sf2
            have b2 := bw1.after t2
            refine ⟨_, isSelf_at t2.rp sf2, _, C, dx, p2, _, 1, rfl, b2.hx, c1, s2, ?_⟩
            obtain ⟨rw2, bw2, gw2⟩ := Rp.wrote (ws := SlX.putS 1 v2 (SlX.putS 0 v1 [])) t2.rp b2
            have hp : SlX.putS 1 v2 (SlX.putS 0 v1 []) = [some v1, some v2] := rfl
            rw [hp] at rw2 bw2 gw2 ⊢
            have g2 : Go (fun a => Own (wd X am) ρ σ a ∨ a = am.a ∨ a = dx) F H F2 (SlX.slH H2 am.a C dx [some v1, some v2]) := by
              refine (g1.trans (t2.go.weak (own1 := fun a => Own (wd X am) ρ1 σ a ∨ a = am.a ∨ a = dx) fun a z => .inl z) fun a z => ?_).trans gw2 fun a z => .inl (.inr z)
              rcases z with z | z
              · exact (t1.own a z).imp .inl id
              · exact .inl (.inr z)
            have x2 := rw2.ext
            have fx : F2 am.a = none := bw2.fx
            have fd : F2 dx = none := bw2.fd
            have ne : dx ≠ am.a := bw2.ne
            have ex : Ext F2 (upd (upd F2 dx (.xd [])) am.a (SlX.SlO am.a C dx [some v1, some v2])) := (Ext.new fd).trans (Ext.new (by rw [upd_ne (Ne.symm ne)]; exact fx))
            refine q σ _ _ ⟨g2.ext.trans ex, g2.keep, fun a o e => ?_⟩ (fun a o e => ?_) (.ins hm ⟨dx, upd_same, by rw [upd_ne ne]; exact upd_same⟩ (.cons (i1.mono (t2.ext.trans ex)) (.cons (i2.mono ex) .nil)))
            · by_cases z1 : a = am.a
              · exact .inr (.inr (.inr (.inl z1)))
              · by_cases z2 : a = dx
                · exact .inr (.inr (.inr (.inr z2)))
                · rw [upd_ne z1, upd_ne z2] at e; exact g2.new a o e
            · unfold SlX.slH
              by_cases z1 : a = am.a
              · rw [z1, upd_same] at e ⊢; exact e
              · rw [upd_ne z1] at e ⊢
                by_cases z2 : a = dx
                · rw [z2, upd_same] at e ⊢; exact e
                · rw [upd_ne z2] at e ⊢
                  have := x2 a o e
                  unfold SlX.slH at this
                  rw [upd_ne z1, upd_ne z2] at this
                  exact this
          · exact q.elim
      · exact q.elim
end
end DL

set_option Elab.async false
set_option linter.all false
set_option maxRecDepth 100000
set_option maxHeartbeats 4000000
namespace DL
open PySem PySem.Spec PyProof.Rows L2
/-! ### a class's call -/
def fnI (c : Str) (n : Nat) (h : Fi) : Fd := fun ds o => if NDs ds = true then (match h (env0 n (.dr :: ds) none) with
  | .ok ((d1, d2), _) => if ND d1 = true ∧ ND d2 = true then .ok (.ins c [d1, d2]) o else .no
  | .ex e fs _ => if NDf fs = true then .ex e fs o else .no
  | .no => .no) else .no
theorem init_D {X : Cx} {N : List Str} {body : List Stmt} {c : Str} {h : Fi} {vs : List V} {H : Hp} {Q : VK} {E : XK} {n : Nat} (hb : ∀ a C dx, X.mg c = some (.ref C) → DIn X ⟨a, fun cls d _ H => E cls d H⟩ c C dx body h) (hs : spI X.K X.mg c n (fnI c N.length h) vs H Q E) :
    ∃ t, PSs X body t ∧ t { nx := fun _ H' => Q .non H', rt := Q } (L2.start N vs) H := by
  obtain ⟨_, C, x, dx, H0, ws, am, F, ds, o, hm, rfl, rfl, hx, hd, hne, e, i, ho, em⟩ := hs
  have eH : Ext H0 (upd (upd H0 dx (.own x)) x (.ins C dx [])) := (Ext.new hd).trans (Ext.new (by rw [upd_ne (Ne.symm hne)]; exact hx))
  have back : ∀ a, (upd (upd H0 dx (.own x)) x (.ins C dx [])) a = none → H0 a = none := fun a z => by
    cases q : H0 a with
    | none => rfl
    | some u => rw [eH a u q] at z; cases z
  unfold fnI at em
  split at em
  · rename_i nd
    refine ⟨_, hb x C dx hm, env0 N.length (.dr :: ds) none, F, rp_start (W := ⟨X.K, X.mg, x⟩) (e.trans eH) (.cons .dr (i.am nd)) (fun r z => by cases z), ?_, ?_⟩
    · have no : ∀ a, ¬ Own ⟨X.K, X.mg, x⟩ (env0 N.length (.dr :: ds) none) (L2.start N (.ref x :: ws)) a := fun a z => by
        obtain ⟨_, r, hr⟩ := own_start z
        cases hr
      exact ⟨e.free hx, e.free hd, no _, no _, .inl ⟨upd_same, rfl⟩, ⟨_, by rw [upd_ne hne]; exact upd_same⟩, hne⟩
    · have no : ∀ a, ¬ Own ⟨X.K, X.mg, x⟩ (env0 N.length (.dr :: ds) none) (L2.start N (.ref x :: ws)) a := fun a z => by
        obtain ⟨_, r, hr⟩ := own_start z
        cases hr
      have nwI : ∀ F' H', Go (fun a => Own ⟨X.K, X.mg, x⟩ (env0 N.length (.dr :: ds) none) (L2.start N (.ref x :: ws)) a ∨ a = x ∨ a = dx) F (upd (upd H0 dx (.own x)) x (.ins C dx [])) F' H' → Nw F H0 F' H' := fun F' H' g => by
        refine ⟨g.ext, fun a u q _ => g.keep a u (eH a u q) fun z => ?_, fun a u q => ?_⟩
        · rcases z with z | z | z
          · exact no a z
          · rw [z, hx] at q; cases q
          · rw [z, hd] at q; cases q
        · rcases g.new a u q with z | z | z | z | z
          · exact .inl z
          · exact .inr (.inl (back a z))
          · exact (no a z).elim
          · exact .inr (.inl (by rw [z]; exact hx))
          · exact .inr (.inl (by rw [z]; exact hd))
      show AtI ⟨X.K, X.mg, x⟩ (fun cls d _ H => E cls d H) c _ _ _ _ dx _ (h (env0 N.length (.dr :: ds) none))
      cases eh : h (env0 N.length (.dr :: ds) none) with
      | no => rw [eh] at em; exact em
      | ex e2 fs ρ =>
        rw [eh] at em
        simp only at em
        split at em
        · rename_i nf
          intro C' dx' σ' F' H' hm' t xa
          have nw := nwI F' H' (t.go.weak fun a z => .inl z)
          obtain ⟨vfs, h1, h2⟩ := xa
          exact em.2 C' dx' F' H' hm' (nw.weak fun a z => z.elim) t.rp.ext (fun r q => (ho r q).nw nw) ⟨vfs, h1, h2.am nf⟩
        · exact em.elim
      | ok r =>
        obtain ⟨⟨d1, d2⟩, ρ⟩ := r
        rw [eh] at em
        simp only at em
        split at em
        · rename_i nf
          intro σ' F' H' g x' iv
          have nw := nwI F' H' g
          exact em.2 (.ref x) F' H' (nw.weak fun a z => z.elim) x' (fun r q => (ho r q).nw nw) (iv.am (by simp [ND, NDs, nf.1, nf.2])) rfl
        · exact em.elim
  · exact em.elim
/-! ### what is known of a module's def, a class, a method -/
structure Df (P : Program) (w : World) (K : PySem.W.Frag) (mg : Str → Option Value) (B : Heap) (k : Nat) (x : Str) (n : Nat) (m : Fd) : Prop where
  ex : ∃ f fd ps, mg x = some (.ref f) ∧ PySem.W.keepIn K (.ref f) = true ∧ Binds K fd ps [] ∧ FnG P w K mg B (L2.CX P w) k f fd ps (spD K mg n m)
theorem Df.mono {P : Program} {w : World} {K : PySem.W.Frag} {mg : Str → Option Value} {B : Heap} {k j : Nat} {x : Str} {n : Nat} {m : Fd} (h : Df P w K mg B j x n m) (hk : j ≤ k) : Df P w K mg B k x n m := by
  obtain ⟨f, fd, ps, h1, h2, h3, h4⟩ := h.ex
  exact ⟨f, fd, ps, h1, h2, h3, h4.mono hk⟩
/-- a class's call, with the defaults dd behind the written arguments -/
structure Dc (P : Program) (w : World) (K : PySem.W.Frag) (mg : Str → Option Value) (B : Heap) (k : Nat) (c : Str) (n : Nat) (m : Fd) (dd : List D) : Prop where
  ex : ∃ C f fd ps dvs ds, mg c = some (.ref C) ∧ PySem.W.keepIn K (.ref C) = true ∧ Mk K C f ∧ Binds K fd ps ds ∧ Vals dvs ds ∧ (∀ am F, IsL ⟨K, mg, am⟩ F dvs dd) ∧ FnG P w K mg B (L2.CX P w) k f fd ps (spI K mg c n m)
/-- a method of a class with slots -/
structure Dm (P : Program) (w : World) (K : PySem.W.Frag) (mg : Str → Option Value) (B : Heap) (k : Nat) (c meth : Str) (n : Nat) (m : Fd) : Prop where
  ex : ∃ C g fd ps, mg c = some (.ref C) ∧ SlX.SCls K C ∧ Meth K C meth g ∧ Binds K fd ps [] ∧ FnG P w K mg B (L2.CX P w) k g fd ps (spD K mg n m)
theorem Dm.mono {P : Program} {w : World} {K : PySem.W.Frag} {mg : Str → Option Value} {B : Heap} {k j : Nat} {c x : Str} {n : Nat} {m : Fd} (h : Dm P w K mg B j c x n m) (hk : j ≤ k) : Dm P w K mg B k c x n m := by
  obtain ⟨C, f, fd, ps, h1, h2, h3, h4, h5⟩ := h.ex
  exact ⟨C, f, fd, ps, h1, h2, h3, h4, h5.mono hk⟩
theorem Dc.mono {P : Program} {w : World} {K : PySem.W.Frag} {mg : Str → Option Value} {B : Heap} {k j : Nat} {c : Str} {n : Nat} {m : Fd} {dd : List D} (h : Dc P w K mg B j c n m dd) (hk : j ≤ k) : Dc P w K mg B k c n m dd := by
  obtain ⟨C, f, fd, ps, dvs, ds, h1, h2, h3, h4, h5, h6, h7⟩ := h.ex
  exact ⟨C, f, fd, ps, dvs, ds, h1, h2, h3, h4, h5, h6, h7.mono hk⟩
abbrev DfX (X : Cx) := Df X.prog X.w X.K X.mg X.base
abbrev DcX (X : Cx) := Dc X.prog X.w X.K X.mg X.base
abbrev DmX (X : Cx) := Dm X.prog X.w X.K X.mg X.base
theorem takes_noE {X : Cx} : Takes X noE := fun _ _ ⟨_, _, _, _, _, _, _, _, _, _, _, _, _, _, _, _, w⟩ => w.elim
section
variable {X : Cx} {am : Am} {x c : Str} {px pos ap : Pos} {a o : Expr} {es : List Expr} {u : Fa} {m : Fd} {n k : Nat} {dd : List D} {f : Fe}
theorem de_call (G : DfX X k x n m) (hgd : X.A.guards = some []) (hr : Room k X.A) (tk : Takes X am.E) (hg : Gl X x) (hu : DA X am (a :: es) u) (hn : ∀ ρ l ρ', u ρ = .ok (l, ρ') → l.length = n)
    (hdb : (x == ("__debug__" : Str)) = false := by decide) (he : starEach (a :: es) X.env = (false, eval a X.env) :: starEach es X.env := by rfl) (hpl : (backTo pos (starEach es X.env)).any (·.1) = false := by rfl) :
    DE X am (.Call (.Name x px) (a :: es) [] pos) (cFn m u) := by
  obtain ⟨f, fd, ps, h1, h2, h3, h4⟩ := G.ex
  exact de_fnG h4 hgd hr tk hg h1 h2 h3 hu hn hdb he hpl
/-- C(..) -/
def cMk (m : Fd) (dd : List D) (u : Fa) : Fe := bE u fun l ρ => fnC ρ (m (l ++ dd) ρ.ora)
theorem mk_core {K : PySem.W.Frag} {mg : Str → Option Value} {am C : Addr} {E : WX} {dvs : List V} (hm : mg c = some (.ref C)) (hdv : ∀ am F, IsL ⟨K, mg, am⟩ F dvs dd) (hn : ∀ ρ l ρ', u ρ = .ok (l, ρ') → l.length + dd.length = n) {σ : L2.St} {H : Hp} {Q : VK} (hw : tD ⟨K, mg, am⟩ E (cMk m dd u) σ H Q) :
    tMakeZ C (spI K mg c n m) dvs E (tDA ⟨K, mg, am⟩ E u) σ H Q := by
  obtain ⟨ρ, F, rp, q⟩ := hw
  refine ⟨ρ, F, rp, ?_⟩
  have q : AtR ⟨K, mg, am⟩ E (Is ⟨K, mg, am⟩) ρ σ F H Q (bR (u ρ) _) := q
  cases eu : u ρ with
  | no => rw [eu] at q; exact q
  | ex c fs ρ1 => rw [eu] at q; exact q
  | ok r =>
    obtain ⟨l, ρ1⟩ := r
    rw [eu] at q
    have q : AtR ⟨K, mg, am⟩ E (Is ⟨K, mg, am⟩) ρ σ F H Q (fnC ρ1 (m (l ++ dd) ρ1.ora)) := q
    intro vs F1 H1 t1 i1 x dx hx hdx hne
    refine ⟨by
      have h1 := hn _ _ _ eu
      have h2 := (hdv am F).length
      simp only [List.length_cons, List.length_append, i1.length, h2]
      omega, C, x, dx, H1, vs ++ dvs, am, F1, l ++ dd, ρ1.ora, hm, rfl, rfl, hx, hdx, hne, t1.rp.ext, i1.append (hdv am F1), fun r q => t1.rp.ora r q, ?_⟩
    cases em : m (l ++ dd) ρ1.ora with
    | no => rw [em] at q; exact q
    | ok d o' =>
      rw [em] at q
      unfold fnC at q
      simp only at q
      split at q
      · rename_i hoo
        exact ⟨hoo, fun v F2 H2 g2 x2 ho2 i2 e => ⟨rfl, by
          subst e
          exact q (.ref x) F2 H2 (t1.trans (Tr.called t1.rp g2 x2 ho2 hoo)) i2⟩⟩
      · exact q.elim
    | ex c fs o' =>
      rw [em] at q
      unfold fnC at q
      simp only at q
      split at q
      · rename_i hoo
        exact ⟨hoo, fun C dx F2 H2 hm g2 x2 ho2 x => q C dx σ F2 H2 hm (t1.trans (Tr.called t1.rp g2 x2 ho2 hoo)) x⟩
      · exact q.elim
theorem de_make (G : DcX X k c n m dd) (hgd : X.A.guards = some []) (hr : Room (k + 1) X.A) (tk : Takes X am.E) (hg : Gl X c) (hu : DA X am (a :: es) u) (hn : ∀ ρ l ρ', u ρ = .ok (l, ρ') → l.length + dd.length = n)
    (hdb : (c == ("__debug__" : Str)) = false := by decide) (he : starEach (a :: es) X.env = (false, eval a X.env) :: starEach es X.env := by rfl) (hpl : (backTo pos (starEach es X.env)).any (·.1) = false := by rfl) :
    DE X am (.Call (.Name c px) (a :: es) [] pos) (cMk m dd u) := by
  obtain ⟨C, f, fd, ps, dvs, ds, h1, h2, h3, h4, h5, h6, h7⟩ := G.ex
  exact PE.imp (pe_makeZ (E := am.E) h3 h7 hgd hr h4 h5 tk hg h1 h2 hu hdb he hpl) fun σ H Q hw => mk_core h1 h6 hn hw
/-! ### x == y of instances -/
def rOwnG (K : PySem.W.Frag) (C : Addr) (sp : Sp) : R2 := fun x y H Q => ∃ a dx vs b dy ws, x = .ref a ∧ y = .ref b ∧ SlX.Slt H a C dx vs ∧ SlX.Slt H b C dy ws ∧ sp [x, y] H Q (fun _ _ _ => False)
theorem op_ownG {C g : Addr} {fd : FuncData} {ps : List Str} {sp : Sp} (hs : PySem.W.findIn X.K (.ref C) (cmpInfo .Eq).2.1 = some (some (.ref g))) (hf : PySem.W.isFn X.K (.ref g) = true) (F : FnG X.prog X.w X.K X.mg X.base (CXx X) k g fd ps sp) (hb : Binds X.K fd ps []) (hgd : X.A.guards = some []) (hr : Room k X.A) : OpR X (compareOp .Eq) (rOwnG X.K C sp) := by
  intro pins s σ H x y v u Q I rx ry h
  obtain ⟨a, dx, vs, b, dy, ws, rfl, rfl, ha, hb', q⟩ := h
  cases (show v = Value.ref a from rx)
  cases (show u = Value.ref b from ry)
  obtain ⟨sl, od, _, J, _⟩ := SlX.slt_inst I ha
  obtain ⟨sl', od', _, J', _⟩ := SlX.slt_inst I hb'
  obtain ⟨m, hF⟩ := I.fr
  have hn : PySem.W.notFirst X.K C (.ref C) = true := by
    unfold PySem.W.notFirst
    simp
  show wpAny _ _ (richCompare .Eq (.ref a) (.ref b)) _ _ _
  refine PySem.W.cmp_K (op := .Eq) (tb := .ref C) hr.units0 hF I.ok.mod.kin J J'.type hn hs hf ?_
  refine wpAny_mono (runZ (E := noE) (ds := []) (dvs := []) F hgd hr hb .nil takes_noE I (us := [.ref a, .ref b]) (vs := [.ref a, .ref b]) (.cons rfl (.cons rfl .nil)) (by simpa using q)) (fun w s' z => ?_) fun _ _ x => x
  obtain ⟨z', H', I', rz, qz⟩ := z
  exact SlX.cmpback rz ⟨z', H', I', rz, qz⟩
/-- == by the class's own __eq__ -/
def dEqI (c : Str) (m : Fd) : D → D → Option D
  | .ins c1 l1, .ins c2 l2 => if c1 = c ∧ c2 = c then (match m [.ins c1 l1, .ins c2 l2] none with
    | .ok d none => some d
    | _ => none) else none
  | _, _ => none
theorem dop_ownG {W : Wd} {C : Addr} {m : Fd} (hm : W.mg c = some (.ref C)) : DOp W (rOwnG W.K C (spD W.K W.mg 2 m)) (dEqI c m) := fun F H x y d e z Q ex ix iy ez q => by
  cases ix with
  | @ins c1 C1 a1 vs1 l1 g1 h1 t1 =>
    cases iy with
    | @ins c2 C2 a2 vs2 l2 g2 h2 t2 =>
      unfold dEqI at ez
      simp only at ez
      split at ez
      · rename_i hc
        obtain ⟨rfl, rfl⟩ := hc
        rw [hm] at g1
        cases g1
        have gC2 : C2 = C := by rw [hm] at g2; cases g2; rfl
        subst gC2
        cases em : m [.ins c2 l1, .ins c2 l2] none with
        | no => rw [em] at ez; cases ez
        | ex _ _ _ => rw [em] at ez; cases ez
        | ok d o =>
          rw [em] at ez
          cases o with
          | some _ => cases ez
          | none =>
            cases ez
            obtain ⟨dx1, s1⟩ := (ex.ins h1).slt
            obtain ⟨dx2, s2⟩ := (ex.ins h2).slt
            refine ⟨_, dx1, _, _, dx2, _, rfl, rfl, s1, s2, rfl, W.am, F, [.ins c2 l1, .ins c2 l2], none, ex, .cons (.ins g2 h1 t1) (.cons (.ins g2 h2 t2) .nil), fun r z => (by cases z), ?_⟩
            rw [em]
            refine ⟨fun z => by simp at z, fun v F' H' g x' _ iv => q v F' H' (g.weak fun a z => ?_) x' iv⟩
            obtain ⟨_, r, hr⟩ := z
            cases hr
      · cases ez
    | _ => cases ez
  | _ => cases ez
/-! ### o.m(..) -/
def cMeth (c : Str) (m : Fd) (f : Fe) (u : Fa) : Fe := bE f fun d => match d with
  | .ins c1 l1 => if c1 = c then bE u fun l ρ => fnC ρ (m (.ins c1 l1 :: l) ρ.ora) else fun _ => .no
  | _ => fun _ => .no
/-! ### f(..), f a name that holds a def -/
def cCallV (tbl : Str → Option Fd) (i : Nat) (u : Fa) : Fe := fun ρ => match ρ.sl[i]? with
  | some (.im (.fn x)) => (match tbl x with
    | some m => cFn m u ρ
    | none => .no)
  | _ => .no
theorem de_callV {tbl : Str → Option Fd} {i : Nat} (A : ∀ x m, tbl x = some m → DfX X k x n m) (hgd : X.A.guards = some []) (hr : Room k X.A) (tk : Takes X am.E) (hN : X.N[i]? = some x) (hv : Vis X.env.scope x) (hu : DA X am (a :: es) u) (hn : ∀ ρ l ρ', u ρ = .ok (l, ρ') → l.length = n)
    (hdb : (x == ("__debug__" : Str)) = false := by decide) (hcd : (x == ("__classdict__" : Str)) = false := by decide) (he : starEach (a :: es) X.env = (false, eval a X.env) :: starEach es X.env := by rfl) (hpl : (backTo pos (starEach es X.env)).any (·.1) = false := by rfl) :
    DE X am (.Call (.Name x px) (a :: es) [] pos) (cCallV tbl i u) := by
  refine ⟨fun pins s σ H Q I ⟨ρ, F, rp, q⟩ => ?_⟩
  unfold cCallV at q
  split at q
  · rename_i y ey
    split at q
    · rename_i m em
      obtain ⟨v, hv', iv⟩ := rp.slot i _ ey
      cases iv with
      | @fn _ g gm =>
        obtain ⟨f, fd, ps, h1, h2, h3, h4⟩ := (A y m em).ex
        have ef : f = g := by
          have gm : X.mg y = some (.ref g) := gm
          rw [h1] at gm
          cases gm
          rfl
        subst ef
        refine wpAny_Call_Name_kw (thn ((pe_var (pos := px) hN hv hdb hcd).run pins s σ H (fun v H1 => v = .ref f ∧ H1 = H) I ⟨.ref f, hv', rfl, rfl⟩) fun w s1 ⟨v, H1, I1, r1, q1⟩ => ?_)
        obtain ⟨rfl, rfl⟩ := q1
        cases r1
        refine PySem.W.callWith_K (h₀ := X.base) I.ok.mod.kin h2 (thn (hu.run pos pins s1 σ _ _ I1 (fn_core (am := am.a) hn ⟨ρ, F, rp, q⟩)) fun us s2 ⟨vs, H2, I2, r, q⟩ => ⟨I2.kIn, ?_⟩) he hpl
        exact runZ (E := am.E) (ds := []) (dvs := []) h4 hgd hr h3 .nil tk I2 r (by simpa using q)
    · exact q.elim
  · exact q.elim
end
end DL

set_option Elab.async false
set_option linter.all false
set_option maxRecDepth 100000
set_option maxHeartbeats 4000000
namespace DL
open PySem PySem.Spec PyProof.Rows L2
/-! ### more of ints -/
abbrev dMul := onIc (fun i j => (-(2 ^ 64) < i ∧ i < 2 ^ 64) ∨ (-(2 ^ 64) < j ∧ j < 2 ^ 64)) fun i j => .int (i * j)
abbrev dFdiv := onIc (fun _ j => 0 < j ∧ j < 1073741824) fun i j => .int (i / j)
abbrev dPow := onIc (fun i j => 0 ≤ j ∧ j ≤ 1000 ∧ -1000 < i ∧ i < 1000) fun i j => .int (i ^ j.toNat)
theorem dop_mul {W : Wd} : DOp W (rI CMul fun i j => .int (i * j)) dMul := dop_Ic (fun _ _ h => h) fun _ _ _ => .int _
theorem dop_fdiv {W : Wd} : DOp W (rI CDiv fun i j => .int (i / j)) dFdiv := dop_Ic (fun _ _ h => h) fun _ _ _ => .int _
theorem dop_pow {W : Wd} : DOp W (rI CPow fun i j => .int (i ^ j.toNat)) dPow := dop_Ic (fun i j h => ⟨h.1, by omega, by
  have : i.natAbs < 1000 := by omega
  exact Nat.lt_of_lt_of_le this (by decide)⟩) fun _ _ _ => .int _
section
variable {X : Cx} {am : Am} {a b : Expr} {f g : Fe} {pos : Pos}
theorem de_mul (ha : DE X am a f) (hb : DE X am b g) : DE X am (.BinOp a .Mult b pos) (cOp dMul f g) := de_op op_mul dop_mul ha hb
theorem de_fdiv (ha : DE X am a f) (hb : DE X am b g) : DE X am (.BinOp a .FloorDiv b pos) (cOp dFdiv f g) := de_op op_fdiv dop_fdiv ha hb
theorem de_pow (ha : DE X am a f) (hb : DE X am b g) : DE X am (.BinOp a .Pow b pos) (cOp dPow f g) := de_op op_pow dop_pow ha hb
end
/-- int(i) -/
def dInt : List D → Option D
  | [.int i] => some (.int i)
  | _ => none
theorem dc_int {W : Wd} : DCall W (fun xs H Q => (∃ i, xs = [.int i] ∧ Q (.int i) H) ∨ ∃ k, xs = [.bl k] ∧ Q (.int (if k then 1 else 0)) H) dInt := fun F H xs l z Q ex ix ez q => by
  cases ix with
  | nil => cases ez
  | cons i t =>
    cases t with
    | cons _ _ => cases i <;> cases ez
    | nil =>
      cases i with
      | int i => cases ez; exact .inl ⟨i, rfl, same ex (.int i) q⟩
      | _ => cases ez
def dMin2 : List D → Option D
  | [.int i, .int j] => some (.int (if j < i then j else i))
  | _ => none
theorem dc_min2 {W : Wd} : DCall W (fun xs H Q => ∃ i j, xs = [.int i, .int j] ∧ Q (.int (if j < i then j else i)) H) dMin2 := fun F H xs l z Q ex ix ez q => by
  cases ix with
  | nil => cases ez
  | cons i t =>
    cases t with
    | nil => cases i <;> cases ez
    | cons j t =>
      cases t with
      | cons _ _ => cases i <;> cases j <;> cases ez
      | nil =>
        cases i with
        | int i =>
          cases j with
          | int j => cases ez; exact ⟨i, j, rfl, same ex (.int _) q⟩
          | _ => cases ez
        | _ => cases ez
/-! ### the draws' dict -/
theorem k_left_seed : ¬ (Str.ofString "left" = Str.ofString "seed") := by decide +kernel
theorem k_left_cells : ¬ (Str.ofString "left" = Str.ofString "cells") := by decide +kernel
theorem k_left_spot : ¬ (Str.ofString "left" = Str.ofString "spot") := by decide +kernel
theorem k_seed_left : ¬ (Str.ofString "seed" = Str.ofString "left") := by decide +kernel
theorem k_seed_cells : ¬ (Str.ofString "seed" = Str.ofString "cells") := by decide +kernel
theorem k_seed_spot : ¬ (Str.ofString "seed" = Str.ofString "spot") := by decide +kernel
theorem k_cells_left : ¬ (Str.ofString "cells" = Str.ofString "left") := by decide +kernel
theorem k_cells_seed : ¬ (Str.ofString "cells" = Str.ofString "seed") := by decide +kernel
theorem k_cells_spot : ¬ (Str.ofString "cells" = Str.ofString "spot") := by decide +kernel
theorem k_spot_left : ¬ (Str.ofString "spot" = Str.ofString "left") := by decide +kernel
theorem k_spot_seed : ¬ (Str.ofString "spot" = Str.ofString "seed") := by decide +kernel
theorem k_spot_cells : ¬ (Str.ofString "spot" = Str.ofString "cells") := by decide +kernel
def oraGet (o : Ora) (k : Str) : Option D := if k = "left" then some (.int o.left) else if k = "seed" then some (.int o.seed) else if k = "cells" then some (.lst (o.cells.map D.int)) else if k = "spot" then some (.int o.spot) else none
def oraPut (o : Ora) (k : Str) (i : Int) : Option Ora := if k = "left" then some { o with left := i } else if k = "seed" then some { o with seed := i } else if k = "spot" then some { o with spot := i } else none
theorem IsL.ofInts {W : Wd} {F : Hp} : ∀ (l : List Int), IsL W F (l.map V.int) (l.map D.int)
  | [] => .nil
  | i :: l => .cons (.int i) (IsL.ofInts l)
def cOra (i : Nat) (k : Str) : Fe := fun ρ => match ρ.sl[i]?, ρ.ora with
  | some (Slot.im D.dr), some o => oR (oraGet o k) fun d => (d, ρ)
  | _, _ => .no
theorem ora_at {W : Wd} {ρ : Env} {σ : L2.St} {F H : Hp} {i : Nat} (r : Rp W ρ σ F H) (h : ρ.sl[i]? = some (Slot.im D.dr)) : σ[i]? = some (some (.ref W.am)) := by
  obtain ⟨x, hx, ix⟩ := r.slot i _ h
  cases ix
  exact hx
theorem oraGet_ok {W : Wd} {F H : Hp} {o : Ora} {k : Str} {d : D} (h : OraOk W F H o) (e : oraGet o k = some d) : ∃ v c, H W.am = some (.dK (oraKV o c)) ∧ valV (oraKV o c) (.inr k) = some v ∧ Is W F v d := by
  obtain ⟨h1, c, hc, h2, h3⟩ := h
  unfold oraGet at e
  split at e
  · rename_i ek; subst ek; cases e; exact ⟨_, c, h2, rfl, .int _⟩
  · split at e
    · rename_i n1 ek; subst ek; cases e; exact ⟨_, c, h2, by simp [oraKV, valV, k_left_seed, k_left_cells, k_left_spot, k_seed_left, k_seed_cells, k_seed_spot, k_cells_left, k_cells_seed, k_cells_spot, k_spot_left, k_spot_seed, k_spot_cells], .int _⟩
    · split at e
      · rename_i n1 n2 ek; subst ek; cases e; exact ⟨_, c, h2, by simp [oraKV, valV, k_left_seed, k_left_cells, k_left_spot, k_seed_left, k_seed_cells, k_seed_spot, k_cells_left, k_cells_seed, k_cells_spot, k_spot_left, k_spot_seed, k_spot_cells], .lst h3 (IsL.ofInts _)⟩
      · split at e
        · rename_i n1 n2 n3 ek; subst ek; cases e; exact ⟨_, c, h2, by simp [oraKV, valV, k_left_seed, k_left_cells, k_left_spot, k_seed_left, k_seed_cells, k_seed_spot, k_cells_left, k_cells_seed, k_cells_spot, k_spot_left, k_spot_seed, k_spot_cells], .int _⟩
        · cases e
section
variable {X : Cx} {am : Am} {e : Expr} {f : Fe} {i j : Nat} {x k : Str} {p1 p2 pos : Pos}
theorem de_ora (hu : X.A.units + 1 < cLine) (hN : X.N[i]? = some x) (hv : Vis X.env.scope x) (hs : NoSl (.Constant (.str k) j p2) := by intro _ _; rfl) (hd : (x == ("__debug__" : Str)) = false := by decide) (hcd : (x == ("__classdict__" : Str)) = false := by decide) :
    DE X am (.Subscript (.Name x p1) (.Constant (.str k) j p2) pos) (cOra i k) := PE.imp (pe_dget hu (pe_var hN hv hd hcd) pe_str hs) fun σ H Q ⟨ρ, F, r, q⟩ => by
  unfold cOra at q
  split at q
  · rename_i o e1 e2
    cases ed : oraGet o k with
    | none => rw [ed] at q; exact q.elim
    | some d =>
      rw [ed] at q
      obtain ⟨v, c, h1, h2, h3⟩ := oraGet_ok (r.ora o e2) ed
      exact ⟨_, ora_at r e1, _, v, rfl, by rw [← h2]; exact DGet.k (k := .inr k) h1, q v F H (Tr.refl r) h3⟩
  · exact q.elim
def oraPd (i : Nat) (k : Str) (d : D) (ρ : Env) : Option Ora := match ρ.sl[i]?, ρ.ora, d with
  | some (Slot.im D.dr), some o, .int z => oraPut o k z
  | _, _, _ => none
def sOraP (i : Nat) (k : Str) (f : Fe) : Fs := bE f fun d ρ => oR (oraPd i k d ρ) fun o' => .nx { ρ with ora := some o' }
theorem oraPut_ok {W : Wd} {F H : Hp} {o o' : Ora} {k : Str} {z : Int} (h : OraOk W F H o) (e : oraPut o k z = some o') : ∃ c, H W.am = some (.dK (oraKV o c)) ∧ OraOk W F (upd H W.am (.dK (putK (oraKV o c) (.inr k) (.int z)))) o' := by
  obtain ⟨h1, c, hc, h2, h3⟩ := h
  refine ⟨c, h2, h1, c, hc, ?_⟩
  rw [upd_same]
  unfold oraPut at e
  split at e
  · rename_i ek; subst ek; cases e; exact ⟨by simp [oraKV, putK, k_left_seed, k_left_cells, k_left_spot, k_seed_left, k_seed_cells, k_seed_spot, k_cells_left, k_cells_seed, k_cells_spot, k_spot_left, k_spot_seed, k_spot_cells], h3⟩
  · split at e
    · rename_i n1 ek; subst ek; cases e; exact ⟨by simp [oraKV, putK, k_left_seed, k_left_cells, k_left_spot, k_seed_left, k_seed_cells, k_seed_spot, k_cells_left, k_cells_seed, k_cells_spot, k_spot_left, k_spot_seed, k_spot_cells], h3⟩
    · split at e
      · rename_i n1 n2 ek; subst ek; cases e; exact ⟨by simp [oraKV, putK, k_left_seed, k_left_cells, k_left_spot, k_seed_left, k_seed_cells, k_seed_spot, k_cells_left, k_cells_seed, k_cells_spot, k_spot_left, k_spot_seed, k_spot_cells], h3⟩
      · cases e
theorem Tr.oraP {W : Wd} {ρ : Env} {σ : L2.St} {F H : Hp} {o o' : Ora} {h : HO} (r : Rp W ρ σ F H) (e : ρ.ora = some o) (k : OraOk W F (upd H W.am h) o') : Tr W ρ σ F H { ρ with ora := some o' } σ F (upd H W.am h) := by
  have oa : Own W ρ σ W.am := .inr ⟨rfl, o, e⟩
  obtain ⟨h1, c, hc, h2, h3⟩ := r.ora o e
  refine ⟨⟨Ext.refl F, fun a x q n => by rw [upd_ne (fun z => n (by rw [z]; exact oa))]; exact q, fun a x q => .inl q⟩, ⟨fun a x q => ?_, r.len, fun i s q => ?_, r.apart, fun o2 q => ?_, fun i z => r.noam i ⟨⟨o, e⟩, z.2⟩⟩, fun a z => ?_⟩
  · have : a ≠ W.am := fun z => by rw [z, h1] at q; cases q
    rw [upd_ne this]; exact r.ext a x q
  · have so := r.slot i s q
    cases s with
    | no => trivial
    | im d => exact so
    | ow l =>
      obtain ⟨a, x, hx, hF, hH, kk⟩ := so
      have : a ≠ W.am := fun z => r.noam i ⟨⟨o, e⟩, ⟨l, q⟩, by rw [← z]; exact hx⟩
      exact ⟨a, x, hx, hF, by rw [upd_ne this]; exact hH, kk⟩
  · cases q; exact k
  · rcases z with z | z
    · exact .inl (.inl z)
    · exact .inl (.inr ⟨z.1, o, e⟩)
theorem ds_oraP (hu : X.A.units + 1 < cLine) (hN : X.N[i]? = some x) (hv : Vis X.env.scope x) (he : DE X am e f) (hs : swapsWith e (some (.Subscript (.Name x p1) (.Constant (.str k) j p2) pos)) pos.line X.env = pure false := by rfl) {pos' : Pos} (hs' : swapsWith e (some (.Subscript (.Name x p1) (.Constant (.str k) j p2) pos')) pos.line X.env = pure false := by rfl)
    (hd : (x == ("__debug__" : Str)) = false := by decide) (hcd : (x == ("__classdict__" : Str)) = false := by decide) :
    DS X am (.Assign [.Subscript (.Name x p1) (.Constant (.str k) j p2) pos'] e pos) (sOraP i k f) := PS.imp (ps_dput hu (pe_var hN hv hd hcd) pe_str he hs') fun N σ H ⟨ρ, F, hw⟩ => tG.of (hw.bind (rel := Is _) fun d ρ1 v F1 H1 t1 i1 ⟨r, q⟩ => by
  have q : Flk (wd X am) am.E ρ1 σ F1 H1 N (oR (oraPd i k d ρ1) fun o' => .nx { ρ1 with ora := some o' }) := q
  cases ep : oraPd i k d ρ1 with
  | none => rw [ep] at q; exact q.elim
  | some o' =>
    rw [ep] at q
    have q2 : ∀ σ' F' H', Tr (wd X am) ρ1 σ F1 H1 { ρ1 with ora := some o' } σ' F' H' → N.nx σ' H' := q
    unfold oraPd at ep
    cases e1 : ρ1.sl[i]? with
    | none => rw [e1] at ep; cases ep
    | some sl =>
      cases e2 : ρ1.ora with
      | none =>
        rw [e1, e2] at ep
        cases sl with
        | im dd => cases dd <;> cases ep
        | _ => cases ep
      | some o =>
        rw [e1, e2] at ep
        cases sl with
        | im dd =>
          cases dd with
          | dr =>
            cases i1 with
            | int z =>
              have ep : oraPut o k z = some o' := ep
              obtain ⟨c, h1, h2⟩ := oraPut_ok (r.ora o e2) ep
              exact ⟨_, ora_at r e1, _, _, rfl, .inl ⟨_, .inr k, h1, rfl, by simp [oraKV]; decide, rfl⟩, q2 σ F1 _ (Tr.oraP r e2 h2)⟩
            | _ => cases ep
          | _ => cases ep
        | _ => cases ep)
end
end DL

set_option Elab.async false
set_option linter.all false
set_option maxRecDepth 100000
set_option maxHeartbeats 4000000
namespace DL
open PySem PySem.Spec PyProof.Rows L2
/-! ### the def that begins the draws -/
abbrev Fb := Env → Option Ora
/-- a new dict of draws: at p, its cells at c -/
structure NewOra (F' H' : Hp) (o : Ora) (p c : Addr) : Prop where
  fp : F' p = none
  hp : H' p = some (.dK (oraKV o c))
  cp : c ≠ p
  fc : F' c = some (.lst (o.cells.map V.int))
def tB (W : Wd) (h : Fb) : TS := fun N σ H => ∃ ρ F, Rp W ρ σ F H ∧ ∃ o, h ρ = some o ∧ ∀ p c F' H', Go (Own W ρ σ) F H F' H' → Ext F' H' → Fresh W ρ σ H p → NewOra F' H' o p c → N.rt (.ref p) H'
abbrev DB (X : Cx) (am : Am) (body : List Stmt) (h : Fb) : Prop := PSs X body (tB (wd X am) h)
def bSeq (g : Fs) (h : Fb) : Fb := fun ρ => match g ρ with
  | .ok (.nx ρ1) => h ρ1
  | _ => none
section
variable {X : Cx} {am : Am} {s : Stmt} {rest : List Stmt} {g : Fs} {h : Fb}
theorem db_cons (h1 : DS X am s g) (h2 : DB X am rest h) : DB X am (s :: rest) (bSeq g h) := PSs.imp (pss_cons h1 h2) fun N σ H ⟨ρ, F, r, o, eo, q⟩ => by
  refine ⟨ρ, F, r, ?_⟩
  unfold bSeq at eo
  cases eg : g ρ with
  | no => rw [eg] at eo; cases eo
  | ex c fs ρ1 => rw [eg] at eo; cases eo
  | ok fl =>
    rw [eg] at eo
    cases fl with
    | nx ρ1 => exact fun σ1 F1 H1 t => ⟨ρ1, F1, t.rp, o, eo, fun p c F' H' g2 x2 fr n => q p c F' H' (t.go.trans g2 t.own) x2 (fr.back t) n⟩
    | rt d ρ1 => cases eo
    | bk ρ1 => cases eo
    | ct ρ1 => cases eo
def intsOf : List D → Option (List Int)
  | [] => some []
  | .int x :: l => (intsOf l).map (x :: ·)
  | _ :: _ => none
theorem intsOf_some : ∀ {l : List D} {xs : List Int}, intsOf l = some xs → l = xs.map D.int
  | [], _, h => by cases h; rfl
  | d :: l, xs, h => by
    cases d with
    | int x =>
      obtain ⟨xs', e, e2⟩ := Option.map_eq_some_iff.mp (show (intsOf l).map (x :: ·) = some xs from h)
      subst e2
      rw [intsOf_some e]
      rfl
    | _ => cases h
def oraOf : D → D → D → D → Option Ora
  | .int a, .int b, .lst l, .int d => (intsOf l).map fun c => ⟨a, b, d, c⟩
  | _, _, _, _ => none
def bRet (f1 f2 f3 f4 : Fe) : Fb := fun ρ => match f1 ρ with
  | .ok (d1, ρ1) => (match f2 ρ1 with
    | .ok (d2, ρ2) => (match f3 ρ2 with
      | .ok (d3, ρ3) => (match f4 ρ3 with
        | .ok (d4, _) => oraOf d1 d2 d3 d4
        | _ => none)
      | _ => none)
    | _ => none)
  | _ => none
theorem db_ret {e1 e2 e3 e4 : Expr} {f1 f2 f3 f4 : Fe} {j1 j2 j3 j4 : Nat} {p1 p2 p3 p4 pos pos' : Pos} (h1 : DE X am e1 f1) (h2 : DE X am e2 f2) (h3 : DE X am e3 f3) (h4 : DE X am e4 f4) :
    DB X am [.Return (some (.Dict [some (.Constant (.str "left") j1 p1), some (.Constant (.str "seed") j2 p2), some (.Constant (.str "cells") j3 p3), some (.Constant (.str "spot") j4 p4)] [e1, e2, e3, e4] pos)) pos'] (bRet f1 f2 f3 f4) :=
  PSs.imp (pss_one (ps_ret (pe_disp (pps_cons pe_str h1 (pps_cons pe_str h2 (pps_cons pe_str h3 (pps_cons pe_str h4 pps_nil)))) rfl rfl (by simp) (by simp)))) fun N σ H ⟨ρ, F, r, o, eo, q⟩ => by
    intro p hp
    have hF : F p = none := r.ext.free hp
    have nO := own_fresh r hp
    have t0 := (Tr.refl r).put hp hF nO (o := .dK [])
    have b0 : F p = none ∧ (upd H p (.dK [])) p = some (.dK []) ∧ ¬ Own (wd X am) ρ σ p := ⟨hF, upd_same, nO⟩
    unfold bRet at eo
    split at eo
    · rename_i d1 ρ1 q1
      split at eo
      · rename_i d2 ρ2 q2
        split at eo
        · rename_i d3 ρ3 q3
          split at eo
          · rename_i d4 ρ4 q4
            refine ⟨ρ, F, At.mk t0.rp q1 fun v1 F1 H1 t1 i1 => ?_⟩
            have b1 := t1.besides b0.1 b0.2.1 b0.2.2
            refine ⟨ρ1, F1, At.mk t1.rp q2 fun v2 F2 H2 t2 i2 => ?_⟩
            have b2 := t2.besides b1.1 b1.2.1 b1.2.2
            refine ⟨ρ2, F2, At.mk t2.rp q3 fun v3 F3 H3 t3 i3 => ?_⟩
            have b3 := t3.besides b2.1 b2.2.1 b2.2.2
            refine ⟨ρ3, F3, At.mk t3.rp q4 fun v4 F4 H4 t4 i4 => ?_⟩
            have b4 := t4.besides b3.1 b3.2.1 b3.2.2
            have i1' := i1.mono (t2.ext.trans (t3.ext.trans t4.ext))
            have i2' := i2.mono (t3.ext.trans t4.ext)
            have i3' := i3.mono t4.ext
            cases i1' with
            | int a =>
              cases i2' with
              | int b =>
                cases i3' with
                | @lst c vs l hc il =>
                  cases i4 with
                  | int d =>
                    obtain ⟨cs, ec, rfl⟩ := Option.map_eq_some_iff.mp (show (intsOf l).map _ = some o from eo)
                    have el := intsOf_some ec
                    subst el
                    have ev := il.ints
                    subst ev
                    have cp : c ≠ p := fun z => by rw [z, b4.1] at hc; cases hc
                    refine ⟨b4.2.1, [(.inr "left", .int a), (.inr "seed", .int b), (.inr "cells", .ref c), (.inr "spot", .int d)], rfl, by simp, ?_⟩
                    have em : mergeK [] [((.inr "left" : Key), V.int a), (.inr "seed", .int b), (.inr "cells", .ref c), (.inr "spot", .int d)] = oraKV ⟨a, b, d, cs⟩ c := by
                      simp [mergeK, oraKV, putK, k_left_seed, k_left_cells, k_left_spot, k_seed_left, k_seed_cells, k_seed_spot, k_cells_left, k_cells_seed, k_cells_spot, k_spot_left, k_spot_seed, k_spot_cells]
                    rw [em]
                    have tt := ((((t0.trans t1).trans t2).trans t3).trans t4)
                    have nf : ∀ a x, F4 a = some x → a ≠ p := fun a x e z => by rw [z, b4.1] at e; cases e
                    refine q p c F4 _ ⟨tt.go.ext, fun a x e n => ?_, tt.go.new⟩ (fun a x e => by rw [upd_ne (nf a x e)]; exact tt.rp.ext a x e) (.inr hp) ⟨b4.1, upd_same, cp, hc⟩
                    have : a ≠ p := fun z => by rw [z, hp] at e; cases e
                    rw [upd_ne this]
                    exact tt.go.keep a x e n
                  | _ => cases eo
                | _ => cases eo
              | _ => cases eo
            | _ => cases eo
          · cases eo
        · cases eo
      · cases eo
    · cases eo
end
/-- what the def promises -/
def spB (K : PySem.W.Frag) (mg : Str → Option Value) (n : Nat) (m : List D → Option Ora) : Sp := fun vs H Q _ => vs.length = n ∧ ∃ am F ds o, Ext F H ∧ IsL ⟨K, mg, am⟩ F vs ds ∧ m ds = some o ∧ ∀ p c F' H', Nw F H F' H' → Ext F' H' → H p = none → NewOra F' H' o p c → Q (.ref p) H'
def fnB (n : Nat) (h : Fb) : List D → Option Ora := fun ds => h (env0 n ds none)
theorem body_B {X : Cx} {N : List Str} {body : List Stmt} {h : Fb} {vs : List V} {H : Hp} {Q : VK} {E : XK} {n : Nat} (hb : ∀ am, DB X am body h) (hs : spB X.K X.mg n (fnB N.length h) vs H Q E) : ∃ t, PSs X body t ∧ t { nx := fun _ H' => Q .non H', rt := Q } (L2.start N vs) H := by
  obtain ⟨_, a, F, ds, o, e, i, em, k⟩ := hs
  refine ⟨_, hb ⟨a, noE⟩, env0 N.length ds none, F, rp_start (W := ⟨X.K, X.mg, a⟩) e i (fun r z => by cases z), o, em, fun p c F' H' g x fr n => ?_⟩
  have no : ∀ a', ¬ Own ⟨X.K, X.mg, a⟩ (env0 N.length ds none) (L2.start N vs) a' := fun a' z => by
    obtain ⟨_, r, hr⟩ := own_start z
    cases hr
  exact k p c F' H' (g.weak fun a' z => no a' z) x (fr.resolve_left (no p)) n
/-! ### the law's own body: draws are begun anew -/
def redS : Slot → Slot
  | .im d => if ND d = true then .im d else .no
  | .ow (.lst l) => if NDs l = true then .ow (.lst l) else .no
  | _ => .no
def Env.redr (ρ : Env) (o : Ora) : Env := ⟨ρ.sl.map redS, some o⟩
section
variable {K : PySem.W.Frag} {mg : Str → Option Value} {a p c : Addr} {ρ : Env} {σ : L2.St} {F H F' H' : Hp} {o : Ora}
theorem redr_im {i : Nat} {d : D} (h : (ρ.redr o).sl[i]? = some (.im d)) : ρ.sl[i]? = some (.im d) ∧ ND d = true := by
  unfold Env.redr at h
  simp only [List.getElem?_map] at h
  cases q : ρ.sl[i]? with
  | none => rw [q] at h; cases h
  | some s =>
    rw [q] at h
    have h := Option.some.inj h
    cases s with
    | no => cases h
    | im d' =>
      unfold redS at h
      simp only at h
      split at h
      · rename_i n; cases h; exact ⟨rfl, n⟩
      · cases h
    | ow x =>
      cases x with
      | lst l =>
        unfold redS at h
        simp only at h
        split at h <;> cases h
      | dct l => cases h
theorem redr_ow {i : Nat} {x : OO} (h : (ρ.redr o).sl[i]? = some (.ow x)) : ρ.sl[i]? = some (.ow x) ∧ ∃ l, x = .lst l ∧ NDs l = true := by
  unfold Env.redr at h
  simp only [List.getElem?_map] at h
  cases q : ρ.sl[i]? with
  | none => rw [q] at h; cases h
  | some s =>
    rw [q] at h
    have h := Option.some.inj h
    cases s with
    | no => cases h
    | im d' =>
      unfold redS at h
      simp only at h
      split at h <;> cases h
    | ow x =>
      cases x with
      | lst l =>
        unfold redS at h
        simp only at h
        split at h
        · rename_i n; cases h; exact ⟨rfl, l, rfl, n⟩
        · cases h
      | dct l => cases h
theorem Rp.redr (r : Rp ⟨K, mg, a⟩ ρ σ F H) (g : Nw F H F' H') (x : Ext F' H') (hp : H p = none) (n : NewOra F' H' o p c) : Rp ⟨K, mg, p⟩ (ρ.redr o) σ F' H' := by
  have oat : ∀ i b, OwnAt (ρ.redr o) σ i b → OwnAt ρ σ i b := fun i b ⟨⟨l, h1⟩, h2⟩ => ⟨⟨l, (redr_ow h1).1⟩, h2⟩
  refine ⟨x, by simp [Env.redr, r.len], fun i s q => ?_, fun i j b h1 h2 => r.apart i j b (oat i b h1) (oat j b h2), fun o' q => ?_, fun i h => ?_⟩
  · cases s with
    | no => trivial
    | im d =>
      obtain ⟨q1, nd⟩ := redr_im q
      obtain ⟨v, hv, iv⟩ := r.slot i _ q1
      exact ⟨v, hv, (iv.am nd).mono g.ext⟩
    | ow y =>
      obtain ⟨q1, l, rfl, nd⟩ := redr_ow q
      obtain ⟨b, hb, h1, h2, h3, k⟩ := r.slot i _ q1
      cases k with
      | lst il =>
        refine ⟨b, _, h1, ?_, g.keep b _ h3 fun z => z, .lst ((il.am nd).mono g.ext)⟩
        cases w : F' b with
        | none => rfl
        | some u =>
          rcases g.new b u w with z | z | z
          · rw [h2] at z; cases z
          · rw [h3] at z; cases z
          · exact z.elim
  · cases q
    exact ⟨n.fp, c, n.cp, n.hp, n.fc⟩
  · obtain ⟨⟨l, h1⟩, h2⟩ := oat i _ h.2
    obtain ⟨b, hb, e1, e2, e3, _⟩ := r.slot i _ h1
    rw [h2] at e1
    cases e1
    have hp' : H p = none := hp
    rw [show (p : Addr) = (⟨K, mg, p⟩ : Wd).am from rfl] at hp'
    rw [hp'] at e3
    cases e3
end
/-- what is wanted behind a statement: only that the state is told -/
def FlkF (K : PySem.W.Frag) (mg : Str → Option Value) (F : Hp) (N : Ends) : Res Fl → Prop
  | .no => False
  | .ok (.nx ρ') => ∀ a σ' F' H', Ext F F' → Rp ⟨K, mg, a⟩ ρ' σ' F' H' → N.nx σ' H'
  | .ok (.rt d _) => ∀ a v F' H', Is ⟨K, mg, a⟩ F' v d → N.rt v H'
  | .ok (.bk ρ') => ∀ a σ' F' H', Ext F F' → Rp ⟨K, mg, a⟩ ρ' σ' F' H' → N.bk σ' H'
  | .ok (.ct ρ') => ∀ a σ' F' H', Ext F F' → Rp ⟨K, mg, a⟩ ρ' σ' F' H' → N.ct σ' H'
  | .ex _ _ _ => False
theorem FlkF.mono {K : PySem.W.Frag} {mg : Str → Option Value} {F F' : Hp} {N : Ends} {r : Res Fl} (e : Ext F F') (h : FlkF K mg F N r) : FlkF K mg F' N r := by
  cases r with
  | no => exact h
  | ex _ _ _ => exact h
  | ok fl =>
    cases fl with
    | nx ρ => exact fun a σ' F2 H' x => h a σ' F2 H' (e.trans x)
    | rt d ρ => exact h
    | bk ρ => exact fun a σ' F2 H' x => h a σ' F2 H' (e.trans x)
    | ct ρ => exact fun a σ' F2 H' x => h a σ' F2 H' (e.trans x)
def tF (K : PySem.W.Frag) (mg : Str → Option Value) (g : Fs) : TS := fun N σ H => ∃ a ρ F, Rp ⟨K, mg, a⟩ ρ σ F H ∧ FlkF K mg F N (g ρ)
abbrev DF (X : Cx) (s : Stmt) (g : Fs) : Prop := PS X s (tF X.K X.mg g)
abbrev DFs (X : Cx) (s : List Stmt) (g : Fs) : Prop := PSs X s (tF X.K X.mg g)
section
variable {X : Cx} {s : Stmt} {rest : List Stmt} {g h : Fs}
theorem df_of (hs : ∀ a, DS X ⟨a, noE⟩ s g) : DF X s g := ⟨fun pins sh σ H N I ⟨a, ρ, F, r, q⟩ => (hs a).run pins sh σ H N I ⟨ρ, F, r, by
  cases e : g ρ with
  | no => rw [e] at q; exact q
  | ex _ _ _ => rw [e] at q; exact q.elim
  | ok fl =>
    rw [e] at q
    cases fl with
    | nx ρ' => exact fun σ' F' H' t => q a σ' F' H' t.ext t.rp
    | rt d ρ' => exact fun v σ' F' H' t i => q a v F' H' i
    | bk ρ' => exact fun σ' F' H' t => q a σ' F' H' t.ext t.rp
    | ct ρ' => exact fun σ' F' H' t => q a σ' F' H' t.ext t.rp⟩⟩
theorem dfs_one (h1 : DF X s g) : DFs X [s] g := pss_one h1
theorem dfs_cons (h1 : DF X s g) (h2 : DFs X rest h) : DFs X (s :: rest) (sSeq g h) := PSs.imp (pss_cons h1 h2) fun N σ H ⟨a, ρ, F, r, q⟩ => by
  refine ⟨a, ρ, F, r, ?_⟩
  unfold sSeq at q
  cases e : g ρ with
  | no => rw [e] at q; exact q
  | ex _ _ _ => rw [e] at q; exact q
  | ok fl =>
    rw [e] at q
    cases fl with
    | nx ρ1 => exact fun a1 σ1 F1 H1 x r1 => ⟨a1, ρ1, F1, r1, FlkF.mono x q⟩
    | rt d ρ1 => exact q
    | bk ρ1 => exact q
    | ct ρ1 => exact q
theorem NDs.get : ∀ {l : List D} {i : Nat} {d : D}, NDs l = true → l[i]? = some d → ND d = true
  | [], _, _, _, h => by simp at h
  | y :: l, 0, d, n, h => by
    have n : ND y = true ∧ NDs l = true := by simpa [NDs] using n
    simp at h
    rw [← h]; exact n.1
  | y :: l, i + 1, d, n, h => by
    have n : ND y = true ∧ NDs l = true := by simpa [NDs] using n
    exact NDs.get (i := i) n.2 (by simpa using h)
theorem JOk.am {K : PySem.W.Frag} {mg : Str → Option Value} {a b : Addr} {F : Hp} {J : It} {l : List D} (n : NDs l = true) (j : JOk ⟨K, mg, a⟩ F J l) : JOk ⟨K, mg, b⟩ F J l :=
  ⟨j.go, fun i F1 H x H' d e e' hd hy => by
    obtain ⟨F', g, x', iv⟩ := j.yld i F1 H x H' d e e' hd hy
    exact ⟨F', g, x', iv.am (NDs.get n hd)⟩, j.stop⟩
def sForF (f : Fa) (g : Fg) (body : Fs) : Fs := bS f fun l ρ => if NDs l = true then forD g body l ρ else .no
theorem df_for {vs : List Nat} {tg iter : Expr} {body : List Stmt} {pos : Pos} {f : Fa} {g : Fg} {b : Fs} (hp : PassesOwn (model X.prog X.w) X.A X.env X.xe) (hc : X.calm = true) (hi : ∀ a, DI X ⟨a, noE⟩ tg iter f) (hg : ∀ a, DG X ⟨a, noE⟩ vs tg g) (hb : DFs X body b) (hs : ∀ x, foldedSetIterable iter X.env x = pure x := by intro _; rfl) : DF X (.For tg iter body [] pos) (sForF f g b) := by
  refine ⟨fun pins s σ H N I ⟨am, ρ, F, r, q⟩ => ?_⟩
  have hg' : PG X tg (fun v σ H Q => ∃ a, gtD ⟨X.K, X.mg, a⟩ vs g v σ H Q) := ⟨fun pins s σ H v u Q I r ⟨a, h⟩ => (hg a).run pins s σ H v u Q I r h⟩
  refine (ps_for hp hc (hi am) hg' hb hs).run pins s σ H N I ⟨ρ, F, r, ?_⟩
  have q : FlkF X.K X.mg F N (bR (f ρ) _) := q
  cases e0 : f ρ with
  | no => rw [e0] at q; exact q
  | ex _ _ _ => rw [e0] at q; exact q.elim
  | ok x =>
    obtain ⟨l, ρ1⟩ := x
    rw [e0] at q
    have q : FlkF X.K X.mg F N (if NDs l = true then forD g b l ρ1 else .no) := q
    intro J F1 H1 t1 jok
    split at q
    · rename_i nd
      obtain ⟨fl, e⟩ : ∃ fl, forD g b l ρ1 = fl := ⟨_, rfl⟩
      rw [e] at q
      have q := FlkF.mono t1.ext q
      refine ⟨fun i m σ' H' => m = l.length - i ∧ i ≤ l.length ∧ ∃ a ρ' F', Ext F1 F' ∧ Rp ⟨X.K, X.mg, a⟩ ρ' σ' F' H' ∧ forD g b (l.drop i) ρ' = fl, ⟨l.length, by simp, Nat.zero_le _, am, ρ1, F1, Ext.refl _, t1.rp, by simpa using e⟩, ?_⟩
      rintro i m σ' H' ⟨rfl, hi', a, ρ', F', ex, rp, ef⟩
      have q' := FlkF.mono ex q
      by_cases hlt : i < l.length
      · refine .inr ⟨jok.go i F' H' ex rp.ext hlt, ?_⟩
        have ed : l.drop i = l[i] :: l.drop (i + 1) := List.drop_eq_getElem_cons hlt
        rw [ed] at ef
        unfold forD at ef
        split at ef
        · rw [← ef] at q; exact q.elim
        · rename_i ρ2 eg
          refine ⟨fun σ2 H2 => ∃ a3 ρ3 F3, Ext F1 F3 ∧ Rp ⟨X.K, X.mg, a3⟩ ρ3 σ2 F3 H2 ∧ forD g b (l.drop (i + 1)) ρ3 = fl, fun σ2 H2 h => ⟨l.length - (i + 1), by omega, rfl, hlt, h⟩, fun x H2 hy => ?_⟩
          obtain ⟨F2, nw, ex2, ix⟩ := (JOk.am (b := a) nd jok).yld i F' H' x H2 l[i] ex rp.ext (by simp [hlt]) hy
          have t2 := Tr.nw rp nw ex2
          refine ⟨a, ρ', F2, l[i], ρ2, t2.rp, ix, eg, fun σ3 F3 H3 t3 _ => ?_⟩
          have ex3 : Ext F1 F3 := ex.trans (nw.ext.trans t3.ext)
          refine ⟨a, ρ2, F3, t3.rp, ?_⟩
          have q4 := FlkF.mono ex3 q
          cases eb : b ρ2 with
          | no => rw [eb] at ef; rw [← ef] at q4; exact q4
          | ex c fs ρ5 => rw [eb] at ef; rw [← ef] at q4; exact q4
          | ok fl2 =>
            rw [eb] at ef
            cases fl2 with
            | nx ρ5 => exact fun a5 σ5 F5 H5 x5 r5 => ⟨a5, ρ5, F5, ex3.trans x5, r5, ef⟩
            | ct ρ5 => exact fun a5 σ5 F5 H5 x5 r5 => ⟨a5, ρ5, F5, ex3.trans x5, r5, ef⟩
            | bk ρ5 => rw [← ef] at q4; exact q4
            | rt d ρ5 => rw [← ef] at q4; exact q4
      · refine .inl ⟨jok.stop i F' H' ex rp.ext (by omega), ?_⟩
        have ed : l.drop i = [] := List.drop_eq_nil_of_le (by omega)
        rw [ed] at ef
        rw [← ef] at q'
        exact q' a σ' F' H' (Ext.refl _) rp
    · exact q.elim
/-! m = begun(..) -/
structure Dbg (P : Program) (w : World) (K : PySem.W.Frag) (mg : Str → Option Value) (B : Heap) (k : Nat) (x : Str) (n : Nat) (m : List D → Option Ora) : Prop where
  ex : ∃ f fd ps, mg x = some (.ref f) ∧ PySem.W.keepIn K (.ref f) = true ∧ Binds K fd ps [] ∧ FnG P w K mg B (L2.CX P w) k f fd ps (spB K mg n m)
def tBg (K : PySem.W.Frag) (mg : Str → Option Value) (n : Nat) (m : List D → Option Ora) (t : TA) : TE := fun σ H Q => t σ H fun vs H1 => spB K mg n m vs H1 Q (fun _ _ _ => False)
theorem pe_begun {x : Str} {px pos : Pos} {a : Expr} {es : List Expr} {t : TA} {n k : Nat} {m : List D → Option Ora} (G : Dbg X.prog X.w X.K X.mg X.base k x n m) (hgd : X.A.guards = some []) (hr : Room k X.A) (hg : Gl X x) (ha : PA X (a :: es) t)
    (hdb : (x == ("__debug__" : Str)) = false := by decide) (he : starEach (a :: es) X.env = (false, eval a X.env) :: starEach es X.env := by rfl) (hpl : (backTo pos (starEach es X.env)).any (·.1) = false := by rfl) : PE X (.Call (.Name x px) (a :: es) [] pos) (tBg X.K X.mg n m t) := by
  obtain ⟨f, fd, ps, h1, h2, h3, h4⟩ := G.ex
  exact PE.imp (pe_callZ (E := noE) h4 hgd hr h3 .nil takes_noE hg h1 h2 ha hdb he hpl) fun σ H Q hw => by
    show t σ H _
    simp only [List.append_nil]
    exact hw
theorem bg_core {am : Addr} {ρ ρ1 : Env} {σ : L2.St} {F H : Hp} {u : Fa} {l : List D} {n : Nat} {m : List D → Option Ora} {o : Ora} {Q : VK} (r : Rp ⟨X.K, X.mg, am⟩ ρ σ F H) (eu : u ρ = .ok (l, ρ1)) (hl : l.length = n) (em : m l = some o)
    (q : ∀ p F' H', Ext F F' → Rp ⟨X.K, X.mg, p⟩ (ρ1.redr o) σ F' H' → Q (.ref p) H') : tBg X.K X.mg n m (tDA ⟨X.K, X.mg, am⟩ noE u) σ H Q := by
  refine ⟨ρ, F, At.mk r eu fun vs F1 H1 t1 i1 => ⟨by rw [i1.length]; exact hl, am, F1, l, o, t1.rp.ext, i1, em, fun p c F' H' g x hp n => ?_⟩⟩
  exact q p F' H' (t1.ext.trans g.ext) (t1.rp.redr g x hp n)
def sBeg (i n : Nat) (m : List D → Option Ora) (u : Fa) : Fs := bE u fun l ρ => match m l with
  | some o => if l.length = n ∧ i < ρ.sl.length then .ok (.nx ((ρ.redr o).set i (.im .dr))) else .no
  | none => .no
theorem redr_len {ρ : Env} {o : Ora} : (ρ.redr o).sl.length = ρ.sl.length := by simp [Env.redr]
theorem df_begun {i n k : Nat} {m : List D → Option Ora} {y x : Str} {a : Expr} {es : List Expr} {u : Fa} {px py pos pos' : Pos} (hN : X.N.Nodup) (hi : X.N[i]? = some y) (hy : Loc X.env.scope y) (G : Dbg X.prog X.w X.K X.mg X.base k x n m) (hgd : X.A.guards = some []) (hr : Room k X.A) (hg : Gl X x) (hu : ∀ am, DA X ⟨am, noE⟩ (a :: es) u)
    (hs : swapsWith (.Call (.Name x px) (a :: es) [] pos') (some (.Name y py)) pos.line X.env = pure false := by rfl) (hf : X.fn y = true ∨ X.env.scope.names.lookup y = some .local := by first | exact .inl rfl | exact .inr rfl | assumption)
    (hdb : (x == ("__debug__" : Str)) = false := by decide) (he : starEach (a :: es) X.env = (false, eval a X.env) :: starEach es X.env := by rfl) (hpl : (backTo pos' (starEach es X.env)).any (·.1) = false := by rfl) :
    DF X (.Assign [.Name y py] (.Call (.Name x px) (a :: es) [] pos') pos) (sBeg i n m u) := by
  refine ⟨fun pins s σ H N I ⟨am, ρ, F, r, q⟩ => (ps_set hN hi hy (pe_begun G hgd hr hg (hu am) hdb he hpl) hs hf).run pins s σ H N I ?_⟩
  have q : FlkF X.K X.mg F N (bR (u ρ) _) := q
  cases e0 : u ρ with
  | no => rw [e0] at q; exact q.elim
  | ex _ _ _ => rw [e0] at q; exact q.elim
  | ok z =>
    obtain ⟨l, ρ1⟩ := z
    rw [e0] at q
    have q : FlkF X.K X.mg F N (match m l with
      | some o => if l.length = n ∧ i < ρ1.sl.length then .ok (.nx ((ρ1.redr o).set i (.im .dr))) else .no
      | none => .no) := q
    cases em : m l with
    | none => rw [em] at q; exact q.elim
    | some o =>
      rw [em] at q
      simp only at q
      split at q
      · rename_i hh
        exact bg_core r e0 hh.1 em fun p F' H' x r' => q p _ F' H' x (r'.set .dr (by rw [redr_len]; exact hh.2))
      · exact q.elim
/-- m, y = begun(..), e -/
def sBegPar (i j n : Nat) (m : List D → Option Ora) (u : Fa) (f : Fe) : Fs := bE u fun l ρ => match m l with
  | some o => if l.length = n then bE f (fun d ρ2 => if i < ρ2.sl.length ∧ j < ρ2.sl.length then .ok (.nx ((ρ2.set i (.im .dr)).set j (.im d))) else .no) (ρ.redr o) else .no
  | none => .no
theorem df_begPar {i j n k : Nat} {m : List D → Option Ora} {y z x : Str} {a e2 : Expr} {es : List Expr} {u : Fa} {f : Fe} {px py pz pt pos pos' : Pos} {kt k2 pt2} (hc : X.calm = true) (hN : X.N.Nodup) (hi : X.N[i]? = some y) (hj : X.N[j]? = some z) (hij : i ≠ j) (hy : X.env.scope.names.lookup y = some .local) (hz : X.env.scope.names.lookup z = some .local)
    (G : Dbg X.prog X.w X.K X.mg X.base k x n m) (hgd : X.A.guards = some []) (hr : Room k X.A) (hg : Gl X x) (hu : ∀ am, DA X ⟨am, noE⟩ (a :: es) u) (h2 : ∀ am, DE X ⟨am, noE⟩ e2 f)
    (hw : swappedStores [.Tuple [.Name y py, .Name z pz] kt pt] (.Tuple [.Call (.Name x px) (a :: es) [] pos', e2] k2 pt2) X.env = pure (some [y, z])) (hs : swapsWithSole [.Tuple [.Name y py, .Name z pz] kt pt] (.Tuple [.Call (.Name x px) (a :: es) [] pos', e2] k2 pt2) pos.line X.env = pure false := by rfl)
    (hdb : (x == ("__debug__" : Str)) = false := by decide) (he : starEach (a :: es) X.env = (false, eval a X.env) :: starEach es X.env := by rfl) (hpl : (backTo pos' (starEach es X.env)).any (·.1) = false := by rfl)
    (hs1 : starEach [.Call (.Name x px) (a :: es) [] pos', e2] X.env = (false, eval (.Call (.Name x px) (a :: es) [] pos') X.env) :: starEach [e2] X.env := by rfl) (hs2 : starEach [e2] X.env = (false, eval e2 X.env) :: starEach [] X.env := by rfl) :
    DF X (.Assign [.Tuple [.Name y py, .Name z pz] kt pt] (.Tuple [.Call (.Name x px) (a :: es) [] pos', e2] k2 pt2) pos) (sBegPar i j n m u f) := by
  refine ⟨fun pins s σ H N I ⟨am, ρ, F, r, q⟩ => ?_⟩
  have pe2 : PE X e2 (fun σ H Q => ∃ am, tD ⟨X.K, X.mg, am⟩ noE f σ H Q) := ⟨fun pins s σ H Q I ⟨am, h⟩ => (h2 am).run pins s σ H Q I h⟩
  refine (ps_par hc hN hi hj hij hy hz (pa_cons (pe_begun G hgd hr hg (hu am) hdb he hpl) (pa_cons pe2 pa_nil hs2) hs1) hw hs).run pins s σ H N I ?_
  have q : FlkF X.K X.mg F N (bR (u ρ) _) := q
  cases e0 : u ρ with
  | no => rw [e0] at q; exact q.elim
  | ex _ _ _ => rw [e0] at q; exact q.elim
  | ok zz =>
    obtain ⟨l, ρ1⟩ := zz
    rw [e0] at q
    have q : FlkF X.K X.mg F N (match m l with
      | some o => if l.length = n then bE f (fun d ρ2 => if i < ρ2.sl.length ∧ j < ρ2.sl.length then .ok (.nx ((ρ2.set i (.im .dr)).set j (.im d))) else .no) (ρ1.redr o) else .no
      | none => .no) := q
    cases em : m l with
    | none => rw [em] at q; exact q.elim
    | some o =>
      rw [em] at q
      simp only at q
      split at q
      · rename_i hl
        refine bg_core r e0 hl em fun p F' H' x r' => ⟨p, ρ1.redr o, F', r', ?_⟩
        have q : FlkF X.K X.mg F N (bR (f (ρ1.redr o)) _) := q
        cases e1 : f (ρ1.redr o) with
        | no => rw [e1] at q; exact q.elim
        | ex _ _ _ => rw [e1] at q; exact q.elim
        | ok zz =>
          obtain ⟨d, ρ2⟩ := zz
          rw [e1] at q
          have q : FlkF X.K X.mg F N (if i < ρ2.sl.length ∧ j < ρ2.sl.length then .ok (.nx ((ρ2.set i (.im .dr)).set j (.im d))) else .no) := q
          intro v F2 H2 t2 i2
          split at q
          · rename_i hh
            exact ⟨_, _, rfl, q p _ F2 H2 (x.trans t2.ext) ((t2.rp.set .dr hh.1).set i2 (by rw [set_len]; exact hh.2))⟩
          · exact q.elim
      · exact q.elim
end
/-! ### the law -/
def spLaw (K : PySem.W.Frag) (mg : Str → Option Value) (g : List D → Option Ora → Rd) : Sp := fun vs H Q _ => ∃ (a : Addr) (ns : List Int), vs = [.ref a] ∧ SqL K H a (ns.map V.int) ∧ g [.scr (ns.map D.int)] none = .ok (.bl true) none ∧ ∀ H', Q (.bl true) H'
def lawD (n : Nat) (g : Fs) : List D → Option Ora → Rd := fun ds o => match g (env0 n ds o) with
  | .ok (.rt d _) => .ok d none
  | _ => .no
theorem body_L {X : Cx} {N : List Str} {body : List Stmt} {g : Fs} {vs : List V} {H : Hp} {Q : VK} {E : XK} (hb : DFs X body g) (hs : spLaw X.K X.mg (lawD N.length g) vs H Q E) : ∃ t, PSs X body t ∧ t { nx := fun _ H' => Q .non H', rt := Q } (L2.start N vs) H := by
  obtain ⟨a, ns, rfl, hS, em, k⟩ := hs
  refine ⟨_, hb, 0, env0 N.length [.scr (ns.map D.int)] none, H, rp_start (W := ⟨X.K, X.mg, 0⟩) (Ext.refl H) (.cons (.scr hS (IsL.ofInts ns)) .nil) (fun r z => by cases z), ?_⟩
  unfold lawD at em
  cases e : g (env0 N.length [.scr (ns.map D.int)] none) with
  | no => rw [e] at em; cases em
  | ex _ _ _ => rw [e] at em; cases em
  | ok fl =>
    rw [e] at em
    cases fl with
    | rt d ρ =>
      cases em
      intro a v F' H' i
      cases i
      exact k H'
    | _ => cases em
end DL

set_option Elab.async false
set_option linter.all false
set_option maxRecDepth 100000
set_option maxHeartbeats 4000000
namespace DL
open PySem PySem.Spec PyProof.Rows L2
/-! ### the law's call, where no repr is under way -/
/-- over an abstract heap that tracks the script at most -/
theorem lawCore {P : Program} {w : World} {K : PySem.W.Frag} {mg mb : Str → Option Value} {CX : CXT} {k : Nat} {fa a : Addr} {fd : FuncData} {x : Str} {sp : Sp} {st : Shared} {us : List Value} {H : Hp} (KX : K.In st.heap) (gG : st.heap.Ns mainGlobals mg) (gB : st.heap.Ns builtinsNs mb) (bB : ∀ y : Str, y ≠ "__name__" → mb y = bootBuiltins y) (lim : st.heap.NoLimit)
    (gens0 : st.gens = #[]) (scr : st.heap.get? a = some { cls := .type "list", data := .seq us.toArray }) (room : Room k callerA) (F : ∀ B : Heap, K.In B → B.Ns mainGlobals mg → FnG P w K mg B CX k fa fd [x] sp) (bnd : ∀ (s : Shared) (u : Value), BindsTo s fd ⟨[u], []⟩ [(x, u)])
    (noX : ∀ H e s', CX [] H st (fun _ _ _ => False) e s' → False) (on : Only H) (wish : sp [.ref a] H (fun v _ => v = .bl true) fun _ _ _ => False) (hok : HOk P w H st.heap) (alone : ∀ b, H b ≠ none → b = a) (notK : H a ≠ none → K.lookup a = none) :
    codeAny (model P w) callerA (.call (.ref fa) ⟨[.ref a], []⟩) (fun r s' => r = .ok (.ret (.bool true)) ∧ OldK st.heap s'.heap ∧ s'.os = st.os ∧ AllBare s'.gens) st := by
  have at_ : ∀ {b : Addr} {o : Obj}, st.heap.get? b = some o → H b = none → (hidT st.heap H).get? b = some o := hidT_get
  have dictFree : ∀ {b : Addr} {o : Obj} {es : Array DictEntry} {ep : Nat}, st.heap.get? b = some o → o.data = .dict es ep → H b = none := by
    intro b o es ep e dd
    by_cases hb : H b = none
    · exact hb
    · have := alone b hb
      subst this
      rw [scr] at e
      cases e
      exact absurd (show Data.seq us.toArray _ = Data.dict es ep from dd) (fun z => by cases z)
  have names : ∀ {b : Addr} {m : Str → Option Value}, st.heap.Ns b m → (hidT st.heap H).Ns b m := by
    rintro b m ⟨o, es, ep, e, dd, r⟩
    exact ⟨o, es, ep, at_ e (dictFree e dd), dd, r⟩
  have inB : K.In (hidT st.heap H) := by
    intro b o e
    refine at_ (KX b o e) ?_
    by_cases hb : H b = none
    · exact hb
    · have := alone b hb
      subst this
      rw [notK hb] at e
      cases e
  obtain ⟨mc, lim1, lim2⟩ := lim
  have modl : Mod K mg (hidT st.heap H) := ⟨inB, names gG, ⟨mb, names gB, bB⟩, ⟨mc, names lim1, lim2⟩⟩
  have env : Env0 P w K mg (hidT st.heap H) callerA [] st H := ⟨rfl, modl, fun b o => of_hidT, Nat.le_of_eq (hidT_size _ _), trivial, fun b hb => absurd (show b ∈ ([] : List Addr) from hb) (List.not_mem_nil), hok, .of_eq gens0⟩
  refine codeAny_mono ((F _ inB (names gG)).run callerA [] st H ⟨[.ref a], []⟩ [.ref a] [.ref a] _ _ rfl room env (bnd st (.ref a)) (.cons rfl .nil) wish) ?_
  rintro (e | fl) s' h
  · exact (noX H e s' h).elim
  · cases fl with
    | ret u =>
      obtain ⟨v, H', os, bare, un, hok', rv, q⟩ := h
      obtain rfl : v = .bl true := q
      cases (show u = Value.bool true from rv)
      refine ⟨rfl, OldK.of_keep fun b o e => ?_, os, bare⟩
      rcases on b with z | ⟨ob, xs, z⟩
      · exact un.keep b o e z (fun y => absurd (show b ∈ ([] : List Addr) from y) List.not_mem_nil) List.not_mem_nil
      · have z1 := (hok b _ z).1
        have z2 := (hok' b _ (un.frzs b ob _ z)).1
        rw [e] at z1
        cases z1
        exact z2
    | _ => exact h.elim
theorem lawCallG {P : Program} {w : World} {K : PySem.W.Frag} {mg mb : Str → Option Value} {CX : CXT} {k : Nat} {fa a : Addr} {fd : FuncData} {x : Str} {sp : Sp} {st : Shared} {us : List Value} {ns : List Int} (KX : K.In st.heap) (gG : st.heap.Ns mainGlobals mg) (gB : st.heap.Ns builtinsNs mb) (bB : ∀ y : Str, y ≠ "__name__" → mb y = bootBuiltins y) (lim : st.heap.NoLimit)
    (gens0 : st.gens = #[]) (scr : st.heap.get? a = some { cls := .type "list", data := .seq us.toArray }) (iar : IntsAre us ns) (short : ns.length ≤ sizeLine) (room : Room k callerA) (F : ∀ B : Heap, K.In B → B.Ns mainGlobals mg → FnG P w K mg B CX k fa fd [x] sp) (bnd : ∀ (s : Shared) (u : Value), BindsTo s fd ⟨[u], []⟩ [(x, u)])
    (wish : ∀ H : Hp, Only H → SqL K H a (ns.map V.int) → sp [.ref a] H (fun v _ => v = .bl true) fun _ _ _ => False) (noX : ∀ H e s', CX [] H st (fun _ _ _ => False) e s' → False) :
    codeAny (model P w) callerA (.call (.ref fa) ⟨[.ref a], []⟩) (fun r s' => r = .ok (.ret (.bool true)) ∧ OldK st.heap s'.heap ∧ s'.os = st.os ∧ AllBare s'.gens) st := by
  have vals := vals_ints iar
  have len := iar.length
  cases inK : K.lookup a with
  | some o =>
    have here := KX a o inK
    rw [scr] at here
    cases here
    have on : Only (fun _ => none) := fun _ => .inl rfl
    exact lawCore (H := fun _ => none) KX gG gB bB lim gens0 scr room F bnd noX on (wish _ on (.inr ⟨_, us.toArray, _, inK, rfl, rfl, rfl, by rw [List.size_toArray, len]; exact short, by simpa using vals⟩)) (fun b u z => by cases z) (fun b z => absurd rfl z) fun z => absurd rfl z
  | none =>
    let fz : HO := .frz { cls := .type "list", data := .seq us.toArray } (.lst (ns.map V.int))
    have on : Only (fun b => if b = a then some fz else none) := fun b => by
      by_cases hb : b = a
      · exact .inr ⟨_, _, if_pos hb⟩
      · exact .inl (if_neg hb)
    refine lawCore (H := fun b => if b = a then some fz else none) KX gG gB bB lim gens0 scr room F bnd noX on (wish _ on (.inl (.inr ⟨_, if_pos rfl⟩))) (fun b u z => ?_) (fun b z => ?_) fun _ => inK
    · by_cases hb : b = a
      · have z2 := (if_pos hb).symm.trans z
        cases z2
        subst hb
        exact ⟨scr, by rw [List.length_map]; exact short, us, _, vals, scr⟩
      · have z2 := (if_neg hb).symm.trans z
        cases z2
    · by_cases hb : b = a
      · exact hb
      · exact absurd (if_neg hb) z
theorem walkG {l : PySem.W.OpenLaw} {n k : Nat} {q : Program} {loose : List Str} {XP : (Str → Option Value) → Heap → Prop} {YP : World → Heap → Prop} {d : DefRec} {x : Str} (hn : l.most = some n) (hn2 : n ≤ sizeLine) (nodef : d.params.defaults = []) (room : Room k callerA)
    (F : ∀ (w : World) (mg : Str → Option Value) (fa : Addr) (h : Heap), YP w h → h.Ns mainGlobals mg → mg d.name = some (.ref fa) → ∃ (K : PySem.W.Frag) (fd : FuncData) (sp : Sp), K.In h ∧ (∀ (s : Shared) (u : Value), BindsTo s fd ⟨[u], []⟩ [(x, u)]) ∧
      (∀ (H : Hp) (a : Addr) (ns : List Int), ns.length ≤ n → SqL K H a (ns.map V.int) → sp [.ref a] H (fun v _ => v = .bl true) fun _ _ _ => False) ∧ ∀ B : Heap, K.In B → B.Ns mainGlobals mg → FnG l.prog w K mg B (L2.CX l.prog w) k fa fd [x] sp) :
    PySem.W.WalkO q loose XP YP l.row.toRowW d [] (fun f vs => PySem.call f vs) := by
  refine Att.attach_call hn nodef fun w s₀ s₁ mg mb fa o pm cd doc a vs ns G Y ho hd hcd hmg hobj hints hlen hg => ?_
  obtain ⟨K, fd, sp, KX, hb, hsp, hF⟩ := F w mg fa _ Y G.T.g hmg
  refine lawCallG KX G.T.g G.T.b G.T.builtins G.T.nolimit hg hobj hints (Nat.le_trans hlen hn2) room hF hb (fun H _ hS => hsp H a ns hlen hS) fun H e s' c => ?_
  obtain ⟨_, _, _, _, _, _, _, _, _, _, _, _, z⟩ := c
  exact z
end DL

set_option Elab.async false
set_option linter.all false
set_option maxRecDepth 100000
set_option maxHeartbeats 4000000
namespace DL
open PySem PySem.Spec PyProof.Rows L2
/-! ### the head's facts: a class with slots, tuples of texts -/
/-- what the head says, and more of it -/
abbrev AlM : Type := Bool × He.AlD
def obsM (fa : List He.Fa) (fn : List He.DefD) (more : PySem.W.Frag → Bool) (K : PySem.W.Frag) : AlM := (more K, He.obsD fa fn K)
def SaysM (fa : List He.Fa) (fn : List He.DefD) (more : PySem.W.Frag → Bool) (K : PySem.W.Frag) : Prop := obsM fa fn more K = (true, He.valD fn)
def obsMG (n : Nat) (fa : List He.Fa) (fn : List He.DefD) (more : PySem.W.Frag → Bool) (g : Addr → Option Obj) : AlM := obsM fa fn more (He.frG g (He.asD g n))
def hookM (n : Nat) (fa : List He.Fa) (fn : List He.DefD) (more : PySem.W.Frag → Bool) : PySem.W.Hook where
  α := AlM
  obs := fun s => obsMG n fa fn more s.heap.get?
  val := fun _ => (true, He.valD fn)
  says := fun _ h => ∃ K : PySem.W.Frag, K.In h ∧ SaysM fa fn more K
  of := fun _ _ e => ⟨_, He.frG_in, e⟩
  keeps := fun _ _ _ ⟨K, hK, c⟩ k => ⟨K, PySem.W.Frag.In.keeps hK k, c⟩
theorem obsMG_eq {n : Nat} {fa : List He.Fa} {fn : List He.DefD} {more : PySem.W.Frag → Bool} {g : Addr → Option Obj} {s : Shared} (h : ∀ a, g a = s.heap.get? a) : obsMG n fa fn more g = (hookM n fa fn more).obs s := by
  have e : g = s.heap.get? := funext h
  rw [e] <;> rfl
section
variable {fa : List He.Fa} {fn : List He.DefD} {more : PySem.W.Frag → Bool} {K : PySem.W.Frag}
theorem SaysM.d (c : SaysM fa fn more K) : He.SaysD fa fn K := congrArg (fun z : AlM => z.2) c
theorem SaysM.mr (c : SaysM fa fn more K) : more K = true := congrArg (fun z : AlM => z.1) c
end
/-- a class with slots -/
def sclsB (K : PySem.W.Frag) (x : Str) : Bool := PySem.W.plainGet K (He.ga K x) Str.empty && PySem.W.isClsIn K (He.ga K x) && PySem.W.plainOver K (He.ga K x) && decide (PySem.W.findIn K (.ref (He.ga K x)) "__setattr__" = some (some (.builtin "object.__setattr__"))) &&
  (decide (PySem.W.findIn K (.ref (He.ga K x)) "__class__" = some (some (.builtin "object.__class__"))) && decide (PySem.W.specialIn K (.builtin "object.__class__") "__get__" = some (some (.builtin "getset_descriptor.__get__"))) && decide (PySem.W.takesIn K (.builtin "object.__class__") = some true) && decide (PySem.W.mroIn K (He.ga K x) (.type "object") = some true))
theorem sclsB_ok {K : PySem.W.Frag} {x : Str} (h : sclsB K x = true) : SlX.SCls K (He.ga K x) ∧ SlX.SIsi K (He.ga K x) := by
  unfold sclsB at h
  simp only [Bool.and_eq_true, decide_eq_true_eq] at h
  exact ⟨⟨h.1.1.1.1, h.1.1.1.2, h.1.1.2, h.1.2⟩, ⟨h.2.1.1.1, h.2.1.1.2, h.2.1.2, h.2.2⟩⟩
def slotB (K : PySem.W.Frag) (x f : Str) (i : Nat) : Bool := decide (PySem.W.findIn K (.ref (He.ga K x)) f = some (some (.ref (He.ma K (He.ga K x) f)))) && decide (PySem.W.specialIn K (.ref (He.ma K (He.ga K x) f)) "__get__" = some (some (.builtin "member_descriptor.__get__"))) &&
  decide (PySem.W.takesIn K (.ref (He.ma K (He.ga K x) f)) = some true) && decide (PySem.W.typeIn K (.ref (He.ma K (He.ga K x) f)) = some (.type "member_descriptor")) && decide (PySem.W.slotIn K (He.ma K (He.ga K x) f) (He.ga K x) = some i) && decide (i < 1000)
theorem slotB_ok {K : PySem.W.Frag} {x f : Str} {i : Nat} (h : slotB K x f i = true) : SlX.Slot1 K (He.ga K x) f (He.ma K (He.ga K x) f) i := by
  unfold slotB at h
  simp only [Bool.and_eq_true, decide_eq_true_eq] at h
  exact ⟨h.1.1.1.1.1, h.1.1.1.1.2, h.1.1.1.2, h.1.1.2, h.1.2, h.2⟩
/-- isinstance(.., x): the built-in types' data are not instances -/
def othB (K : PySem.W.Frag) (x : Str) : Bool := ["NoneType", "bool", "int", "str", "tuple", "list"].all fun n => decide (PySem.W.kitOne K (.type n) (.ref (He.ga K x)) = some false)
theorem othB_ok {K : PySem.W.Frag} {x : Str} (h : othB K x = true) : ∀ n ∈ ["NoneType", "bool", "int", "str", "tuple", "list"], PySem.W.kitOne K (.type n) (.ref (He.ga K x)) = some false := fun n hn => of_decide_eq_true (List.all_eq_true.mp h n hn)
def kitB2 (K : PySem.W.Frag) (x y : Str) (b : Bool) : Bool := decide (PySem.W.kitOne K (.ref (He.ga K x)) (.ref (He.ga K y)) = some b)
/-- a tuple of texts of the module -/
def tupT (K : PySem.W.Frag) (x : Str) (l : List Str) : Bool := He.tupB K x (l.map He.Dv.str)
theorem tupT_ok {K : PySem.W.Frag} {x : Str} {l : List Str} {mg : Str → Option Value} {am : Addr} (h : tupT K x l = true) (F : Hp) : Is ⟨K, mg, am⟩ F (.ref (He.ga K x)) (.tup (l.map D.str)) := by
  have h2 := He.tupB_ok h F
  refine .tup h2 ?_
  rw [List.map_map]
  exact IsL.ofStrs l
section
variable {X : Cx} {am : Am} {x : Str} {pos : Pos}
theorem de_gI {i : Int} (hg : Gl X x) (hm : ∃ t, X.mg x = some (.int i t)) (hd : (x == ("__debug__" : Str)) = false := by decide) : DE X am (.Name x pos) (cC (.int i)) := by
  obtain ⟨t, hm⟩ := hm
  exact de_const (pe_glob (v := .int i) hg hm ⟨t, rfl⟩ hd) fun _ => .int _
theorem de_gS {z : Str} (hg : Gl X x) (hm : ∃ t, X.mg x = some (.str z t)) (hd : (x == ("__debug__" : Str)) = false := by decide) : DE X am (.Name x pos) (cC (.str z)) := by
  obtain ⟨t, hm⟩ := hm
  exact de_const (pe_glob (v := .str z) hg hm ⟨t, rfl⟩ hd) fun _ => .str _
theorem de_gT {l : List Str} (hg : Gl X x) (hm : X.mg x = some (.ref (He.ga X.K x))) (ht : tupT X.K x l = true) (hd : (x == ("__debug__" : Str)) = false := by decide) : DE X am (.Name x pos) (cC (.tup (l.map D.str))) :=
  de_const (pe_glob (v := .ref (He.ga X.K x)) hg hm rfl hd) fun F => tupT_ok ht F
theorem de_gF (hg : Gl X x) {f : Addr} (hm : X.mg x = some (.ref f)) (hd : (x == ("__debug__" : Str)) = false := by decide) : DE X am (.Name x pos) (cC (.fn x)) :=
  de_const (pe_glob (v := .ref f) hg hm rfl hd) fun F => .fn hm
end
/-- the defs' contexts: an exception that leaves is taken -/
theorem takesC {P : Program} {w : World} {K : PySem.W.Frag} {mg : Str → Option Value} {B : Heap} {N : List Str} {q : Str} {sc : Scope} {f : Addr} {cv : Value} {A : Around} {out : List PySem.Env} {s : Shared} {H : Hp} {E : XK} :
    Takes (cxOf (L2.CX P w) P w K mg B N q sc f cv A out s H E) (fun cls d _ H => E cls d H) := takes_of rfl rfl rfl rfl
/-- a module's def -/
theorem df_fn {P : Program} {w : World} {K : PySem.W.Frag} {mg : Str → Option Value} {B : Heap} {k : Nat} {x q : Str} {pr : Arguments} {body : List Stmt} {sc : Scope} {kws : List (Str × V)} {f : Addr} {fd : FuncData} {N ps : List Str} {g : Fs} {n : Nat} (FD : FunD K x q pr body sc [] kws f fd) (S : FnScope N ps sc) (hm : mg x = some (.ref f)) (hn : n = ps.length)
    (hb : ∀ (kV doc pm : Value) (an : Option Addr) (cdv ct : Value) (us : List Value), us.length = ps.length → bindArgs (PySem.W.fnOf x q pr body sc .none kV doc pm an cdv ct) ⟨us, []⟩ = pure (ps.zip us))
    (hbody : ∀ (cv : Value) (A : Around) (out : List PySem.Env) (s : Shared) (H : Hp) (E : XK) (a : Addr), A.guards = some [] → Room k (A.deeper (envOfC q sc s.heap.objs.size f cv)) → DSs (cxOf (L2.CX P w) P w K mg B N q sc f cv A out s H E) ⟨a, fun cls d _ H => E cls d H⟩ body g) : Df P w K mg B (k + 1) x n (fnD N.length g) :=
  ⟨f, fd, ps, hm, FD.kp, FD.bindsN hb, fnG_of FD S (fun vs H Q E h => by rw [h.1, hn]) fun cv A out s H vs Q E hg hr hsp => body_D (X := cxOf (L2.CX P w) P w K mg B N q sc f cv A out s H E) rfl (fun a => hbody cv A out s H E a hg hr) hsp⟩
/-- a method of a class with slots -/
theorem dm_fn {P : Program} {w : World} {K : PySem.W.Frag} {mg : Str → Option Value} {B : Heap} {k : Nat} {c x q : Str} {pr : Arguments} {body : List Stmt} {sc : Scope} {kws : List (Str × V)} {C f : Addr} {fd : FuncData} {N ps : List Str} {g : Fs} {n : Nat} (FD : FunD K x q pr body sc [] kws f fd) (S : FnScope N ps sc) (hm : mg c = some (.ref C)) (hC : SlX.SCls K C) (hM : Meth K C x f) (hn : n = ps.length)
    (hb : ∀ (kV doc pm : Value) (an : Option Addr) (cdv ct : Value) (us : List Value), us.length = ps.length → bindArgs (PySem.W.fnOf x q pr body sc .none kV doc pm an cdv ct) ⟨us, []⟩ = pure (ps.zip us))
    (hbody : ∀ (cv : Value) (A : Around) (out : List PySem.Env) (s : Shared) (H : Hp) (E : XK) (a : Addr), A.guards = some [] → Room k (A.deeper (envOfC q sc s.heap.objs.size f cv)) → DSs (cxOf (L2.CX P w) P w K mg B N q sc f cv A out s H E) ⟨a, fun cls d _ H => E cls d H⟩ body g) : Dm P w K mg B (k + 1) c x n (fnD N.length g) :=
  ⟨C, f, fd, ps, hm, hC, hM, FD.bindsN hb, fnG_of FD S (fun vs H Q E h => by rw [h.1, hn]) fun cv A out s H vs Q E hg hr hsp => body_D (X := cxOf (L2.CX P w) P w K mg B N q sc f cv A out s H E) rfl (fun a => hbody cv A out s H E a hg hr) hsp⟩
/-- __init__ of a class with two slots: the promise -/
theorem init_fn {P : Program} {w : World} {K : PySem.W.Frag} {mg : Str → Option Value} {B : Heap} {k : Nat} {c x q : Str} {pr : Arguments} {body : List Stmt} {sc : Scope} {dvs : List V} {kws : List (Str × V)} {f : Addr} {fd : FuncData} {N ps : List Str} {h : Fi} {n : Nat} (FD : FunD K x q pr body sc dvs kws f fd) (S : FnScope N ps sc) (hn : n + 1 = ps.length)
    (hbody : ∀ (cv : Value) (A : Around) (out : List PySem.Env) (s : Shared) (H : Hp) (E : XK) (a C dx : Addr), A.guards = some [] → Room k (A.deeper (envOfC q sc s.heap.objs.size f cv)) → mg c = some (.ref C) → DIn (cxOf (L2.CX P w) P w K mg B N q sc f cv A out s H E) ⟨a, fun cls d _ H => E cls d H⟩ c C dx body h) : FnG P w K mg B (L2.CX P w) (k + 1) f fd ps (spI K mg c n (fnI c N.length h)) :=
  fnG_of FD S (fun vs H Q E h => by rw [h.1, hn]) fun cv A out s H vs Q E hg hr hsp => init_D (X := cxOf (L2.CX P w) P w K mg B N q sc f cv A out s H E) (fun a C dx hm => hbody cv A out s H E a C dx hg hr hm) hsp
/-- the def that begins the draws -/
theorem begun_fn {P : Program} {w : World} {K : PySem.W.Frag} {mg : Str → Option Value} {B : Heap} {k : Nat} {x q : Str} {pr : Arguments} {body : List Stmt} {sc : Scope} {kws : List (Str × V)} {f : Addr} {fd : FuncData} {N ps : List Str} {h : Fb} {n : Nat} (FD : FunD K x q pr body sc [] kws f fd) (S : FnScope N ps sc) (hm : mg x = some (.ref f)) (hn : n = ps.length)
    (hb : ∀ (kV doc pm : Value) (an : Option Addr) (cdv ct : Value) (us : List Value), us.length = ps.length → bindArgs (PySem.W.fnOf x q pr body sc .none kV doc pm an cdv ct) ⟨us, []⟩ = pure (ps.zip us))
    (hbody : ∀ (cv : Value) (A : Around) (out : List PySem.Env) (s : Shared) (H : Hp) (E : XK) (am : Am), A.guards = some [] → Room k (A.deeper (envOfC q sc s.heap.objs.size f cv)) → DB (cxOf (L2.CX P w) P w K mg B N q sc f cv A out s H E) am body h) : Dbg P w K mg B (k + 1) x n (fnB N.length h) :=
  ⟨f, fd, ps, hm, FD.kp, FD.bindsN hb, fnG_of FD S (fun vs H Q E h => by rw [h.1, hn]) fun cv A out s H vs Q E hg hr hsp => body_B (X := cxOf (L2.CX P w) P w K mg B N q sc f cv A out s H E) (fun am => hbody cv A out s H E am hg hr) hsp⟩
theorem law_fn {P : Program} {w : World} {K : PySem.W.Frag} {mg : Str → Option Value} {B : Heap} {k : Nat} {x q : Str} {pr : Arguments} {body : List Stmt} {sc : Scope} {kws : List (Str × V)} {f : Addr} {fd : FuncData} {N : List Str} {y : Str} {g : Fs} (FD : FunD K x q pr body sc [] kws f fd) (S : FnScope N [y] sc)
    (hbody : ∀ (cv : Value) (A : Around) (out : List PySem.Env) (s : Shared) (H : Hp) (E : XK), A.guards = some [] → Room k (A.deeper (envOfC q sc s.heap.objs.size f cv)) → DFs (cxOf (L2.CX P w) P w K mg B N q sc f cv A out s H E) body g) : FnG P w K mg B (L2.CX P w) (k + 1) f fd [y] (spLaw K mg (lawD N.length g)) :=
  fnG_of FD S (fun vs H Q E h => by obtain ⟨a, ns, rfl, _⟩ := h; rfl) fun cv A out s H vs Q E hg hr hsp => body_L (X := cxOf (L2.CX P w) P w K mg B N q sc f cv A out s H E) (hbody cv A out s H E hg hr) hsp
end DL

set_option Elab.async false
set_option linter.all false
set_option maxRecDepth 100000
set_option maxHeartbeats 4000000
namespace DL
open PySem PySem.Spec PyProof.Rows L2
/-! ### the rules with their choices made (the generator's words) -/
theorem un65 {k : Nat} {A : Around} (r : Room k A) : A.units + 65 < cLine := by have := r.un; omega
theorem un70 {k : Nat} {A : Around} (r : Room k A) : A.units + 70 < cLine := by have := r.un; omega
theorem un1 {k : Nat} {A : Around} (r : Room k A) : A.units + 1 < cLine := by have := r.un; omega
/-- a block of a comprehension, told by computing -/
def blkB (N : List Str) (sc scope : Scope) (own : List (Str × Nat)) : Bool := decide (scope.kind = .function) && (scope.names.all fun y => decide (scope.names.lookup y.1 = some y.2)) && (own.all fun p => decide (N[p.2]? = some p.1)) &&
  (scope.names.all fun y => !decide (y.2 = .free) || decide (sc.names.lookup y.1 = some .cell) || decide (sc.names.lookup y.1 = some .free)) && (scope.names.all fun y => !(decide (y.2 = .local) || decide (y.2 = .cell)) || (own.map (·.1)).contains y.1 || !N.contains y.1)
theorem blkB_ok {N : List Str} {sc scope : Scope} {own : List (Str × Nat)} (h : blkB N sc scope own = true) : BlkOk N sc scope own := by
  unfold blkB at h
  simp only [Bool.and_eq_true, decide_eq_true_eq, List.all_eq_true, Bool.or_eq_true, Bool.not_eq_true', Bool.or_eq_false_iff, decide_eq_false_iff_not, List.contains_eq_mem] at h
  refine ⟨h.1.1.1.1, h.1.1.1.2, h.1.1.2, fun y hy hf => ?_, fun y hy hl => ?_⟩
  · rcases h.1.2 y hy with (z | z) | z
    · exact absurd hf z
    · exact .inl z
    · exact .inr z
  · rcases h.2 y hy with (z | z) | z
    · rcases hl with e | e
      · exact absurd e z.1
      · exact absurd e z.2
    · exact .inl (by simpa using z)
    · exact .inr (by simpa using z)
section
variable {X : Cx} {am : Am} {a b : Expr} {f g : Fe} {pos : Pos} {k : Nat}
theorem eEq (hr : Room k X.A) (ha : DE X am a f) (hb : DE X am b g) : DE X am (.Compare a [.Eq] [b] pos) (cOp dEq f g) := de_cmp (op_eqD hr.units) dop_eq ha hb
theorem eNe (hr : Room k X.A) (ha : DE X am a f) (hb : DE X am b g) : DE X am (.Compare a [.NotEq] [b] pos) (cOp dNe f g) := de_cmp (op_neD hr.units) dop_ne ha hb
theorem eIn (hr : Room k X.A) (ha : DE X am a f) (hb : DE X am b g) (hm : behindInMarks .In b = false := by rfl) : DE X am (.Compare a [.In] [b] pos) (cOp dIn f g) := de_cmp (op_inAll (un65 hr)) dop_in ha hb hm
theorem tEq (hr : Room k X.A) (ha : DE X am a f) (hb : DE X am b g) : DT X am (.Compare a [.Eq] [b] pos) (cTest (cOp dEq f g)) := dt_cmp (op_eqD hr.units) dop_eq ha hb
theorem tNe (hr : Room k X.A) (ha : DE X am a f) (hb : DE X am b g) : DT X am (.Compare a [.NotEq] [b] pos) (cTest (cOp dNe f g)) := dt_cmp (op_neD hr.units) dop_ne ha hb
theorem tIn_ (hr : Room k X.A) (ha : DE X am a f) (hb : DE X am b g) (hm : behindInMarks .In b = false := by rfl) : DT X am (.Compare a [.In] [b] pos) (cTest (cOp dIn f g)) := dt_cmp (op_inAll (un65 hr)) dop_in ha hb hm
theorem tLt_ (ha : DE X am a f) (hb : DE X am b g) : DT X am (.Compare a [.Lt] [b] pos) (cTest (cOp dLt f g)) := dt_cmp op_lt dop_lt ha hb
theorem tGt_ (ha : DE X am a f) (hb : DE X am b g) : DT X am (.Compare a [.Gt] [b] pos) (cTest (cOp dGt f g)) := dt_cmp op_gt dop_gt ha hb
theorem tGe_ (ha : DE X am a f) (hb : DE X am b g) : DT X am (.Compare a [.GtE] [b] pos) (cTest (cOp dGe f g)) := dt_cmp op_ge dop_ge ha hb
/-! == of instances too -/
theorem eEqI {m : Fd} {n : Nat} {cl : Str} (hr : Room k X.A) (hgd : X.A.guards = some []) (G : DmX X k cl "__eq__" 2 m) (ha : DE X am a f) (hb : DE X am b g) : DE X am (.Compare a [.Eq] [b] pos) (cOp (dEqI cl m) f g) := by
  obtain ⟨C, gg, fd, ps, h1, h2, h3, h4, h5⟩ := G.ex
  exact de_cmp (op_ownG (show PySem.W.findIn X.K (.ref C) (cmpInfo .Eq).2.1 = some (some (.ref gg)) from h3.at_) h3.fn h5 h4 hgd hr) (dop_ownG h1) ha hb
theorem tEqI {m : Fd} {n : Nat} {cl : Str} (hr : Room k X.A) (hgd : X.A.guards = some []) (G : DmX X k cl "__eq__" 2 m) (ha : DE X am a f) (hb : DE X am b g) : DT X am (.Compare a [.Eq] [b] pos) (cTest (cOp (dEqI cl m) f g)) := by
  obtain ⟨C, gg, fd, ps, h1, h2, h3, h4, h5⟩ := G.ex
  exact dt_cmp (op_ownG (show PySem.W.findIn X.K (.ref C) (cmpInfo .Eq).2.1 = some (some (.ref gg)) from h3.at_) h3.fn h5 h4 hgd hr) (dop_ownG h1) ha hb
end
/-- a name that may be read; one that may be stored -/
def visB (sc : Scope) (x : Str) : Bool := match sc.names.lookup x with
  | some .local => true
  | some .cell => true
  | some .free => true
  | _ => false
theorem vis_ {sc : Scope} {x : Str} (h : visB sc x = true) : Vis sc x := by
  unfold visB at h
  split at h
  · exact .inl ‹_›
  · exact .inr (.inl ‹_›)
  · exact .inr (.inr ‹_›)
  · cases h
def locB (sc : Scope) (x : Str) : Bool := match sc.names.lookup x with
  | some .local => true
  | some .cell => true
  | _ => false
theorem loc_ {sc : Scope} {x : Str} (h : locB sc x = true) : Loc sc x := by
  unfold locB at h
  split at h
  · exact .inl ‹_›
  · exact .inr ‹_›
  · cases h
theorem dts_oneN {X : Cx} {am : Am} {s : Shared} {H : Hp} {scope : Scope} {ce : PySem.Env} {fp : List Addr} {c : Expr} {p : Ft} (h : DT (X.blk s H scope ce fp) am.not c p) : PTs (X.blk s H scope ce fp) [c] (tDT (wd X am) noE p) := dts_one h
theorem dts_nilN {X : Cx} {am : Am} {s : Shared} {H : Hp} {scope : Scope} {ce : PySem.Env} {fp : List Addr} : PTs (X.blk s H scope ce fp) [] (tDT (wd X am) noE cYes) := dts_nil (am := am.not)
theorem gl_ {X : Cx} {x : Str} (h : X.env.kindOf x = some .globalImplicit) : Gl X x := h
theorem ixOk1 {X : Cx} {n : Str} {i : Nat} (hN : X.N[i]? = some n) (hl : Loc X.env.scope n) (hf : X.fn n = true ∨ X.env.scope.names.lookup n = some .local) : IxOk X [(n, i)] := fun m j h => by
  by_cases e : m = n
  · subst e
    simp [List.lookup] at h
    subst h
    exact ⟨hN, hl, hf⟩
  · have : (m == n) = false := by simpa using e
    simp [List.lookup, this] at h
/-! * of a tuple -/
def dRepT : D → D → Option D
  | .tup l, .int k => gd (l.isEmpty = false ∧ 2 ≤ k ∧ k ≤ 1000 ∧ l.length ≤ 1000) (.tup (List.replicate k.toNat l).flatten)
  | _, _ => none
theorem IsL.rep {W : Wd} {F : Hp} {vs : List V} {l : List D} (h : IsL W F vs l) : ∀ n : Nat, IsL W F (List.replicate n vs).flatten (List.replicate n l).flatten
  | 0 => .nil
  | n + 1 => by
    simp only [List.replicate_succ, List.flatten_cons]
    exact h.append (IsL.rep h n)
theorem dop_repT {W : Wd} : DOp W (rRepT W.K) dRepT := fun F H x y d e z Q ex ix iy ez q => by
  cases ix with
  | tup h t =>
    cases iy with
    | int k =>
      obtain ⟨⟨h1, h2, h3, h4⟩, rfl⟩ := gd_some (show gd _ _ = some z from ez)
      exact ⟨_, k, _, rfl, rfl, ex.t h, fun e => (by rw [t.nil_iff.mp e] at h1; cases h1), h2, h3, by rw [t.length]; exact h4, newTup ex (t.rep _) q⟩
    | _ => cases ez
  | _ => cases ez
end DL

set_option Elab.async false
set_option linter.all false
set_option maxRecDepth 100000
set_option maxHeartbeats 4000000
namespace DL
open PySem PySem.Spec PyProof.Rows L2
/-- a tuple of the written part, by its address -/
def tupAtB (K : PySem.W.Frag) (a : Addr) (vs : List He.Dv) : Bool := match K.lookup a with
  | some ⟨.type c, _, .seq its _, _⟩ => decide (c = "tuple") && (decide (its.size ≤ sizeLine) && He.relAll (vs.map (He.Dv.v K)) its.toList)
  | _ => false
theorem tupAtB_ok {K : PySem.W.Frag} {a : Addr} {vs : List He.Dv} (h : tupAtB K a vs = true) (H : Hp) : SqT K H a (vs.map (He.Dv.v K)) := by
  unfold tupAtB at h
  split at h
  · rename_i c od its n osl q
    obtain ⟨h1, h2⟩ := He.ba h
    obtain ⟨h3, h4⟩ := He.ba h2
    exact .inr ⟨_, its, n, q, congrArg Value.type (of_decide_eq_true h1), rfl, of_decide_eq_true h3, He.relAll_ok h4⟩
  · cases h
/-- more facts, by their number -/
theorem all_at {K : PySem.W.Frag} {l : List (PySem.W.Frag → Bool)} (h : (l.all fun f => f K) = true) (i : Nat) {f : PySem.W.Frag → Bool} (e : l[i]? = some f) : f K = true :=
  List.all_eq_true.mp h f (List.mem_of_getElem? e)
theorem funD_uniq {K : PySem.W.Frag} {x qual : Str} {params : Arguments} {body : List Stmt} {scope : Scope} {dvs : List V} {kws : List (Str × V)} {f : Addr} {fd fd2 : FuncData} (A : FunD K x qual params body scope dvs kws f fd) (B : FunD K x qual params body scope dvs kws f fd2) : fd = fd2 := by
  obtain ⟨oc, od, dV, kV, doc, pm, an, cdv, ct, osl, e1, l1, _⟩ := A.ex
  obtain ⟨oc2, od2, dV2, kV2, doc2, pm2, an2, cdv2, ct2, osl2, e2, l2, _⟩ := B.ex
  rw [l1] at l2
  cases l2
  rfl
/-! ### __init__ of a class with two slots, the second one stored first -/
def iTwoS (d1 : D) : Res (D × Env) → Res ((D × D) × Env)
  | .ok (d2, ρ2) => if isSelf ρ2 = true then .ok ((d2, d1), ρ2) else .no
  | _ => .no
def iEndS (f1 f2 : Fe) : Fi := bE f1 fun d1 ρ1 => if isSelf ρ1 = true then iTwoS d1 (f2 ρ1) else .no
section
variable {X : Cx} {am : Am} {c : Str} {C dx : Addr} {e1 e2 : Expr} {f1 f2 : Fe} {n1 n2 x : Str} {pa pb pc pd pe pf : Pos} {p1 p2 : Addr}
theorem din_endS (hm : X.mg c = some (.ref C)) (hN : X.N[0]? = some x) (hv : Vis X.env.scope x) (c1 : SlX.SCls X.K C) (s1 : SlX.Slot1 X.K C n1 p1 1) (s2 : SlX.Slot1 X.K C n2 p2 0) (h1 : DE X am e1 f1) (h2 : DE X am e2 f2)
    (hd : (x == ("__debug__" : Str)) = false := by decide) (hcd : (x == ("__classdict__" : Str)) = false := by decide)
    (hs1 : swapsWith e1 (some (.Attribute (.Name x pa) n1 pb)) pc.line X.env = pure false := by rfl) (hs2 : swapsWith e2 (some (.Attribute (.Name x pd) n2 pe)) pf.line X.env = pure false := by rfl) :
    DIn X am c C dx [.Assign [.Attribute (.Name x pa) n1 pb] e1 pc, .Assign [.Attribute (.Name x pd) n2 pe] e2 pf] (iEndS f1 f2) :=
  PSs.imp (pss_cons (SlX.ps_sl (pe_var hN hv hd hcd) h1 hs1) (pss_one (SlX.ps_sl (pe_var hN hv hd hcd) h2 hs2))) fun N σ H ⟨ρ, F, r, b, q⟩ => by
    refine ⟨ρ, F, r, ?_⟩
    have q : AtI (wd X am) am.E c ρ σ F H dx N (bR (f1 ρ) _) := q
    cases e1 : f1 ρ with
    | no => rw [e1] at q; exact q
    | ex e fs ρ1 => rw [e1] at q; exact q
    | ok r1 =>
      obtain ⟨d1, ρ1⟩ := r1
      rw [e1] at q
      have q : AtI (wd X am) am.E c ρ σ F H dx N (if isSelf ρ1 = true then iTwoS d1 (f2 ρ1) else .no) := q
      intro v1 F1 H1 t1 i1
      split at q
      · rename_i sf1
        have b1 := b.after t1
        refine ⟨_, isSelf_at t1.rp sf1, _, C, dx, p1, [], 1, rfl, b1.hx, c1, s1, ?_⟩
        obtain ⟨rw1, bw1, gw1⟩ := Rp.wrote (ws := SlX.putS 1 v1 []) t1.rp b1
        refine ⟨ρ1, F1, rw1, ?_⟩
        have g1 : Go (fun a => Own (wd X am) ρ σ a ∨ a = am.a ∨ a = dx) F H F1 (SlX.slH H1 am.a C dx (SlX.putS 1 v1 [])) := (t1.go.weak fun a z => .inl z).trans gw1 fun a z => .inl (.inr z)
        cases e2 : f2 ρ1 with
        | no => rw [e2] at q; exact q.elim
        | ex e fs ρ2 =>
          rw [e2] at q
          exact q.elim
        | ok r2 =>
          obtain ⟨d2, ρ2⟩ := r2
          rw [e2] at q
          have q : AtI (wd X am) am.E c ρ σ F H dx N (if isSelf ρ2 = true then .ok ((d2, d1), ρ2) else .no) := q
          intro v2 F2 H2 t2 i2
          split at q
          · rename_i sf2
            have b2 := bw1.after t2
            refine ⟨_, isSelf_at t2.rp sf2, _, C, dx, p2, _, 0, rfl, b2.hx, c1, s2, ?_⟩
            obtain ⟨rw2, bw2, gw2⟩ := Rp.wrote (ws := SlX.putS 0 v2 (SlX.putS 1 v1 [])) t2.rp b2
            have hp : SlX.putS 0 v2 (SlX.putS 1 v1 []) = [some v2, some v1] := rfl
            rw [hp] at rw2 bw2 gw2 ⊢
            have g2 : Go (fun a => Own (wd X am) ρ σ a ∨ a = am.a ∨ a = dx) F H F2 (SlX.slH H2 am.a C dx [some v2, some v1]) := by
              refine (g1.trans (t2.go.weak (own1 := fun a => Own (wd X am) ρ1 σ a ∨ a = am.a ∨ a = dx) fun a z => .inl z) fun a z => ?_).trans gw2 fun a z => .inl (.inr z)
              rcases z with z | z
              · exact (t1.own a z).imp .inl id
              · exact .inl (.inr z)
            have x2 := rw2.ext
            have fx : F2 am.a = none := bw2.fx
            have fd : F2 dx = none := bw2.fd
            have ne : dx ≠ am.a := bw2.ne
            have ex : Ext F2 (upd (upd F2 dx (.xd [])) am.a (SlX.SlO am.a C dx [some v2, some v1])) := (Ext.new fd).trans (Ext.new (by rw [upd_ne (Ne.symm ne)]; exact fx))
            refine q σ _ _ ⟨g2.ext.trans ex, g2.keep, fun a o e => ?_⟩ (fun a o e => ?_) (.ins hm ⟨dx, upd_same, by rw [upd_ne ne]; exact upd_same⟩ (.cons (i2.mono ex) (.cons (i1.mono (t2.ext.trans ex)) .nil)))
            · by_cases z1 : a = am.a
              · exact .inr (.inr (.inr (.inl z1)))
              · by_cases z2 : a = dx
                · exact .inr (.inr (.inr (.inr z2)))
                · rw [upd_ne z1, upd_ne z2] at e; exact g2.new a o e
            · unfold SlX.slH
              by_cases z1 : a = am.a
              · rw [z1, upd_same] at e ⊢; exact e
              · rw [upd_ne z1] at e ⊢
                by_cases z2 : a = dx
                · rw [z2, upd_same] at e ⊢; exact e
                · rw [upd_ne z2] at e ⊢
                  have := x2 a o e
                  unfold SlX.slH at this
                  rw [upd_ne z1, upd_ne z2] at this
                  exact this
          · exact q.elim
      · exact q.elim
end
end DL

set_option Elab.async false
set_option linter.all false
set_option maxRecDepth 100000
set_option maxHeartbeats 4000000
namespace DL
open PySem PySem.Spec PyProof.Rows L2
/-! ### texts and rows of texts as data -/
abbrev sD (l : List Str) : List D := l.map D.str
def wT (r : List Str) : D := .tup (sD r)
abbrev rD (rs : List (List Str)) : List D := rs.map wT
abbrev okS (x : Str) : Prop := PyData.strOk x = true
abbrev okW (r : List Str) : Prop := ∀ x ∈ r, okS x
abbrev okR (rs : List (List Str)) : Prop := ∀ r ∈ rs, okW r
theorem toPyL_strs : ∀ l : List Str, toPyL (sD l) = some (l.map PyData.str)
  | [] => rfl
  | x :: l => by
    show (match toPy (.str x), toPyL (sD l) with
      | some p, some ps => some (p :: ps)
      | _, _ => none) = _
    rw [toPyL_strs l]; rfl
theorem toPy_wT (r : List Str) : toPy (wT r) = some (.tuple (r.map PyData.str)) := by
  show (toPyL (sD r)).map PyData.tuple = _
  rw [toPyL_strs]; rfl
theorem toPyL_rows : ∀ rs : List (List Str), toPyL (rD rs) = some (rs.map fun r => PyData.tuple (r.map PyData.str))
  | [] => rfl
  | r :: rs => by
    show (match toPy (wT r), toPyL (rD rs) with
      | some p, some ps => some (p :: ps)
      | _, _ => none) = _
    rw [toPyL_rows rs, toPy_wT]; rfl
theorem eqvAll_strs : ∀ a b : List Str, PyData.eqvAll (a.map PyData.str) (b.map PyData.str) = decide (a = b)
  | [], [] => by simp [PyData.eqvAll]
  | [], _ :: _ => by simp [PyData.eqvAll]
  | _ :: _, [] => by simp [PyData.eqvAll]
  | x :: a, y :: b => by
    simp only [List.map_cons, PyData.eqvAll, eqvAll_strs a b, PyData.eqv]
    by_cases h : x = y <;> by_cases h2 : a = b <;> simp [h, h2]
theorem eqvAll_rows : ∀ a b : List (List Str), PyData.eqvAll (a.map fun r => PyData.tuple (r.map PyData.str)) (b.map fun r => PyData.tuple (r.map PyData.str)) = decide (a = b)
  | [], [] => by simp [PyData.eqvAll]
  | [], _ :: _ => by simp [PyData.eqvAll]
  | _ :: _, [] => by simp [PyData.eqvAll]
  | x :: a, y :: b => by
    simp only [List.map_cons, PyData.eqvAll, eqvAll_rows a b, PyData.eqv, eqvAll_strs]
    by_cases h : x = y <;> by_cases h2 : a = b <;> simp [h, h2]
theorem canLay_strs : ∀ {l : List Str}, okW l → PyData.canLayAll0 (l.map PyData.str) = true
  | [], _ => by simp [PyData.canLayAll0]
  | x :: l, h => by
    have h1 : okS x := h x (by simp)
    have h2 := canLay_strs (l := l) fun y hy => h y (by simp [hy])
    simp [PyData.canLayAll0, PyData.canLay0, h1, h2]
theorem canLay_rows : ∀ {rs : List (List Str)}, okR rs → PyData.canLayAll0 (rs.map fun r => PyData.tuple (r.map PyData.str)) = true
  | [], _ => by simp [PyData.canLayAll0]
  | r :: rs, h => by
    have h1 := canLay_strs (h r (by simp))
    have h2 := canLay_rows (rs := rs) fun y hy => h y (by simp [hy])
    simp [PyData.canLayAll0, PyData.canLay0, h1, h2]
theorem depth_strs : ∀ l : List Str, PyData.depthAll (l.map PyData.str) ≤ 1
  | [] => by simp [PyData.depthAll]
  | x :: l => by
    have := depth_strs l
    simp only [List.map_cons, PyData.depthAll, PyData.depth]
    omega
theorem depth_rows : ∀ rs : List (List Str), PyData.depthAll (rs.map fun r => PyData.tuple (r.map PyData.str)) ≤ 4
  | [] => by simp [PyData.depthAll]
  | r :: rs => by
    have := depth_rows rs
    have := depth_strs r
    simp only [List.map_cons, PyData.depthAll, PyData.depth]
    omega
theorem shaped_str {x : Str} (h : okS x) : SeqAt.shaped (.str x) = true := by simp [SeqAt.shaped, PyData.canLay0, PyData.depth, h]
theorem shaped_of {p : PyData} (c : p.canLay0 = true) (d : p.depth ≤ 64) : SeqAt.shaped p = true := by
  unfold SeqAt.shaped
  rw [c, decide_eq_true d]; rfl
theorem shaped_tupS {l : List Str} (h : okW l) : SeqAt.shaped (.tuple (l.map PyData.str)) = true :=
  shaped_of (by simp only [PyData.canLay0, canLay_strs h]) (by have := depth_strs l; simp only [PyData.depth]; omega)
theorem shaped_lstS {l : List Str} (h : okW l) : SeqAt.shaped (.list (l.map PyData.str)) = true :=
  shaped_of (by simp only [PyData.canLay0, canLay_strs h]) (by have := depth_strs l; simp only [PyData.depth]; omega)
theorem shaped_tupR {rs : List (List Str)} (h : okR rs) : SeqAt.shaped (.tuple (rs.map fun r => PyData.tuple (r.map PyData.str))) = true :=
  shaped_of (by simp only [PyData.canLay0, canLay_rows h]) (by have := depth_rows rs; simp only [PyData.depth]; omega)
theorem shaped_lstR {rs : List (List Str)} (h : okR rs) : SeqAt.shaped (.list (rs.map fun r => PyData.tuple (r.map PyData.str))) = true :=
  shaped_of (by simp only [PyData.canLay0, canLay_rows h]) (by have := depth_rows rs; simp only [PyData.depth]; omega)
theorem beq_dec {α : Type} [DecidableEq α] [BEq α] [LawfulBEq α] (a b : α) : (a == b) = decide (a = b) := by
  by_cases h : a = b
  · subst h; simp
  · simp [h]
/-! ### == -/
theorem eqB_of {d e : D} {p q : PyData} (h1 : toPy d = some p) (h2 : toPy e = some q) (s1 : SeqAt.shaped p = true) (s2 : SeqAt.shaped q = true) : eqB d e = some (PyData.eqv p q) := by
  unfold eqB
  rw [h1, h2]
  exact gd_yes ⟨s1, s2⟩
theorem eqB_str {a b : Str} (ha : okS a) (hb : okS b) : eqB (.str a) (.str b) = some (decide (a = b)) := by
  rw [eqB_of rfl rfl (shaped_str ha) (shaped_str hb)]
  simp only [PyData.eqv, beq_dec]
theorem toPy_tupS (l : List Str) : toPy (.tup (sD l)) = some (.tuple (l.map PyData.str)) := toPy_wT l
theorem toPy_lstS (l : List Str) : toPy (.lst (sD l)) = some (.list (l.map PyData.str)) := by
  show (toPyL (sD l)).map PyData.list = _
  rw [toPyL_strs]; rfl
theorem toPy_tupR (rs : List (List Str)) : toPy (.tup (rD rs)) = some (.tuple (rs.map fun r => PyData.tuple (r.map PyData.str))) := by
  show (toPyL (rD rs)).map PyData.tuple = _
  rw [toPyL_rows]; rfl
theorem eqB_tupS {a b : List Str} (ha : okW a) (hb : okW b) : eqB (.tup (sD a)) (.tup (sD b)) = some (decide (a = b)) := by
  rw [eqB_of (toPy_tupS a) (toPy_tupS b) (shaped_tupS ha) (shaped_tupS hb)]
  simp only [PyData.eqv, eqvAll_strs]
theorem eqB_lstS {a b : List Str} (ha : okW a) (hb : okW b) : eqB (.lst (sD a)) (.lst (sD b)) = some (decide (a = b)) := by
  rw [eqB_of (toPy_lstS a) (toPy_lstS b) (shaped_lstS ha) (shaped_lstS hb)]
  simp only [PyData.eqv, eqvAll_strs]
theorem eqB_tupR {a b : List (List Str)} (ha : okR a) (hb : okR b) : eqB (.tup (rD a)) (.tup (rD b)) = some (decide (a = b)) := by
  rw [eqB_of (toPy_tupR a) (toPy_tupR b) (shaped_tupR ha) (shaped_tupR hb)]
  simp only [PyData.eqv, eqvAll_rows]
theorem eqB_int (a b : Int) : eqB (.int a) (.int b) = some (decide (a = b)) := by
  rw [eqB_of (p := .int a) (q := .int b) rfl rfl (by simp [SeqAt.shaped, PyData.canLay0, PyData.depth]) (by simp [SeqAt.shaped, PyData.canLay0, PyData.depth])]
  simp only [PyData.eqv, beq_dec]
/-! ### in -/
theorem any_strs (a : Str) : ∀ l : List Str, ((l.map PyData.str).any fun z => PyData.eqv z (.str a)) = decide (a ∈ l)
  | [] => rfl
  | b :: l => by
    simp only [List.map_cons, List.any_cons, any_strs a l, PyData.eqv]
    by_cases h : b = a
    · simp [h]
    · by_cases h2 : a ∈ l <;> simp [h, h2, Ne.symm h]
theorem any_rows (a : List Str) : ∀ l : List (List Str), ((l.map fun r => PyData.tuple (r.map PyData.str)).any fun z => PyData.eqv z (.tuple (a.map PyData.str))) = decide (a ∈ l)
  | [] => rfl
  | b :: l => by
    simp only [List.map_cons, List.any_cons, any_rows a l, PyData.eqv, eqvAll_strs]
    by_cases h : b = a
    · simp [h]
    · by_cases h2 : a ∈ l <;> simp [h, h2, Ne.symm h]
theorem inB_tupOf {d : D} {l : List D} {p : PyData} {q : List PyData} (h1 : toPy d = some p) (h2 : toPyL l = some q) (s1 : SeqAt.shaped p = true) (s2 : SeqAt.shaped (.tuple q) = true) : inB d (.tup l) = some (q.any fun z => PyData.eqv z p) := by
  show (match toPy d, toPyL l with
    | some p, some q => gd (SeqAt.shaped p = true ∧ SeqAt.shaped (.tuple q) = true) (q.any fun z => PyData.eqv z p)
    | _, _ => none) = _
  rw [h1, h2]
  exact gd_yes ⟨s1, s2⟩
theorem inB_lstOf {d : D} {l : List D} {p : PyData} {q : List PyData} (h1 : toPy d = some p) (h2 : toPyL l = some q) (s1 : SeqAt.shaped p = true) (s2 : SeqAt.shaped (.list q) = true) : inB d (.lst l) = some (q.any fun z => PyData.eqv z p) := by
  show (match toPy d, toPyL l with
    | some p, some q => gd (SeqAt.shaped p = true ∧ SeqAt.shaped (.list q) = true) (q.any fun z => PyData.eqv z p)
    | _, _ => none) = _
  rw [h1, h2]
  exact gd_yes ⟨s1, s2⟩
theorem inB_tupS {a : Str} {l : List Str} (ha : okS a) (hl : okW l) : inB (.str a) (.tup (sD l)) = some (decide (a ∈ l)) := by
  rw [inB_tupOf rfl (toPyL_strs l) (shaped_str ha) (shaped_tupS hl), any_strs]
theorem inB_lstS {a : Str} {l : List Str} (ha : okS a) (hl : okW l) : inB (.str a) (.lst (sD l)) = some (decide (a ∈ l)) := by
  rw [inB_lstOf rfl (toPyL_strs l) (shaped_str ha) (shaped_lstS hl), any_strs]
theorem inB_tupR {a : List Str} {l : List (List Str)} (ha : okW a) (hl : okR l) : inB (wT a) (.tup (rD l)) = some (decide (a ∈ l)) := by
  rw [inB_tupOf (toPy_wT a) (toPyL_rows l) (shaped_tupS ha) (shaped_tupR hl), any_rows]
theorem inB_lstR {a : List Str} {l : List (List Str)} (ha : okW a) (hl : okR l) : inB (wT a) (.lst (rD l)) = some (decide (a ∈ l)) := by
  rw [inB_lstOf (toPy_wT a) (toPyL_rows l) (shaped_tupS ha) (shaped_lstR hl), any_rows]
/-! ### sorted -/
theorem le_total : PySem.W.TotalLe leD := PySem.W.sortLe_total (PyProof.Rows.listOrd PyProof.Rows.itemOrd) false fun d : D => PySem.W.keyToks (encD d)
theorem sorted_uniq {α : Type} {le : α → α → Bool} : ∀ {l m : List α}, l.Perm m → l.Pairwise (fun a b => le a b = true) → m.Pairwise (fun a b => le a b = true) → (∀ a ∈ l, ∀ b ∈ l, le a b = true → le b a = true → a = b) → l = m
  | [], m, p, _, _, _ => by rw [List.nil_perm.mp p]
  | a :: l, [], p, _, _, _ => by have := p.length_eq; simp at this
  | a :: l, b :: m, p, h1, h2, an => by
    have hb : b ∈ a :: l := p.mem_iff.mpr (by simp)
    have ha : a ∈ b :: m := p.mem_iff.mp (by simp)
    have e : a = b := by
      rcases List.mem_cons.mp hb with e | hb'
      · exact e.symm
      · rcases List.mem_cons.mp ha with e | ha'
        · exact e
        · exact an a (by simp) b hb ((List.pairwise_cons.mp h1).1 b hb') ((List.pairwise_cons.mp h2).1 a ha')
    subst e
    rw [sorted_uniq (p.cons_inv) (List.pairwise_cons.mp h1).2 (List.pairwise_cons.mp h2).2 fun x hx y hy => an x (by simp [hx]) y (by simp [hy])]
theorem sortD_of {l m : List D} (p : l.Perm m) (h : m.Pairwise fun a b => leD a b = true) (an : ∀ a ∈ m, ∀ b ∈ m, leD a b = true → leD b a = true → a = b) : sortD l = m := by
  have p1 : (sortD l).Perm m := (List.mergeSort_perm l leD).trans p
  exact sorted_uniq p1 (PySem.W.sort_pairwise le_total l) h fun a ha b hb => an a (p1.mem_iff.mp ha) b (p1.mem_iff.mp hb)
theorem leD_toks {d e : D} (h1 : leD d e = true) (h2 : leD e d = true) : PySem.W.keyToks (encD d) = PySem.W.keyToks (encD e) := by
  have a : (!PySem.W.dataLt (encD e) (encD d)) = true := h1
  have b : (!PySem.W.dataLt (encD d) (encD e)) = true := h2
  rw [Bool.not_eq_true'] at a b
  exact (PyProof.Rows.listOrd PyProof.Rows.itemOrd).total _ _ b a
theorem toks_strs_inj : ∀ {a b : List Str}, PySem.W.keyToksAll (a.map PyData.str) = PySem.W.keyToksAll (b.map PyData.str) → a = b
  | [], [], _ => rfl
  | [], _ :: _, h => by simp [PySem.W.keyToksAll] at h
  | _ :: _, [], h => by simp [PySem.W.keyToksAll] at h
  | x :: a, y :: b, h => by
    simp only [List.map_cons, PySem.W.keyToksAll, PySem.W.keyToks, List.cons_append, List.nil_append, List.cons.injEq, Sum.inr.injEq, true_and] at h
    rw [PySem.W.str_of_cps h.1, toks_strs_inj h.2]
theorem leD_str_anti {a b : Str} (h1 : leD (.str a) (.str b) = true) (h2 : leD (.str b) (.str a) = true) : a = b := by
  have := leD_toks h1 h2
  simp only [encD, toPy, Option.getD_some, PySem.W.keyToks, List.cons.injEq, Sum.inr.injEq, and_true] at this
  exact PySem.W.str_of_cps this
theorem encD_wT (r : List Str) : encD (wT r) = .tuple (r.map PyData.str) := by unfold encD; rw [toPy_wT]; rfl
theorem leD_wT_anti {a b : List Str} (h1 : leD (wT a) (wT b) = true) (h2 : leD (wT b) (wT a) = true) : a = b := by
  have := leD_toks h1 h2
  rw [encD_wT, encD_wT] at this
  simp only [PySem.W.keyToks] at this
  exact toks_strs_inj this
abbrev ascS (l : List Str) : Prop := l.Pairwise fun a b => leD (.str a) (.str b) = true
abbrev ascR (l : List (List Str)) : Prop := l.Pairwise fun a b => leD (wT a) (wT b) = true
theorem sortD_strs {l m : List Str} (p : l.Perm m) (h : ascS m) : sortD (sD l) = sD m := by
  refine sortD_of (p.map _) (List.pairwise_map.mpr h) fun a ha b hb h1 h2 => ?_
  obtain ⟨x, _, rfl⟩ := List.mem_map.mp ha
  obtain ⟨y, _, rfl⟩ := List.mem_map.mp hb
  rw [leD_str_anti h1 h2]
theorem sortD_rows {l m : List (List Str)} (p : l.Perm m) (h : ascR m) : sortD (rD l) = rD m := by
  refine sortD_of (p.map _) (List.pairwise_map.mpr h) fun a ha b hb h1 h2 => ?_
  obtain ⟨x, _, rfl⟩ := List.mem_map.mp ha
  obtain ⟨y, _, rfl⟩ := List.mem_map.mp hb
  rw [leD_wT_anti h1 h2]
theorem sort_strs_ex (l : List Str) : ∃ m, sortD (sD l) = sD m ∧ m.Perm l ∧ ascS m := by
  have p := List.mergeSort_perm l fun a b => leD (.str a) (.str b)
  refine ⟨l.mergeSort fun a b => leD (.str a) (.str b), ?_, p, ?_⟩
  · exact (PySem.W.sort_maps (r := fun a b => leD (.str a) (.str b)) (s := leD) D.str fun _ _ _ _ => rfl).symm
  · exact PySem.W.sort_pairwise (le := fun a b => leD (.str a) (.str b)) ⟨fun a b c => le_total.trans _ _ _, fun a b => le_total.total _ _⟩ l
theorem sort_rows_ex (l : List (List Str)) : ∃ m, sortD (rD l) = rD m ∧ m.Perm l ∧ ascR m := by
  have p := List.mergeSort_perm l fun a b => leD (wT a) (wT b)
  refine ⟨l.mergeSort fun a b => leD (wT a) (wT b), ?_, p, ?_⟩
  · exact (PySem.W.sort_maps (r := fun a b => leD (wT a) (wT b)) (s := leD) wT fun _ _ _ _ => rfl).symm
  · exact PySem.W.sort_pairwise (le := fun a b => leD (wT a) (wT b)) ⟨fun a b c => le_total.trans _ _ _, fun a b => le_total.total _ _⟩ l
end DL

set_option Elab.async false
set_option linter.all false
set_option maxRecDepth 100000
set_option maxHeartbeats 4000000
namespace DL
open PySem PySem.Spec PyProof.Rows L2
theorem alikeAll_strs : ∀ a b : List Str, PySem.W.alikeAll (a.map PyData.str) (b.map PyData.str) = true
  | [], _ => by simp [PySem.W.alikeAll]
  | _ :: _, [] => by simp [PySem.W.alikeAll]
  | x :: a, y :: b => by simp [PySem.W.alikeAll, PySem.W.alike, alikeAll_strs a b]
theorem srtOk_strs {l : List Str} (h : l.length ≤ 100000) : srtOk (sD l) = true := by
  unfold srtOk
  simp only [List.length_map, decide_eq_true h, Bool.true_and, Bool.and_eq_true, Bool.or_eq_true]
  refine ⟨List.all_eq_true.mpr fun d hd => ?_, .inr (List.all_eq_true.mpr fun d hd => ?_)⟩
  · obtain ⟨x, _, rfl⟩ := List.mem_map.mp hd
    simp only [Bool.and_eq_true, List.all_eq_true]
    refine ⟨⟨rfl, by simp [encD, toPy, PyData.depth]⟩, fun e he => ?_⟩
    obtain ⟨y, _, rfl⟩ := List.mem_map.mp he
    rfl
  · obtain ⟨x, _, rfl⟩ := List.mem_map.mp hd
    rfl
theorem srtOk_rows {l : List (List Str)} (h : l.length ≤ 100000) (hn : ∀ r ∈ l, r ≠ []) : srtOk (rD l) = true := by
  unfold srtOk
  simp only [List.length_map, decide_eq_true h, Bool.true_and, Bool.and_eq_true, Bool.or_eq_true]
  refine ⟨List.all_eq_true.mpr fun d hd => ?_, .inl (List.all_eq_true.mpr fun d hd => ?_)⟩
  · obtain ⟨x, _, rfl⟩ := List.mem_map.mp hd
    simp only [Bool.and_eq_true, List.all_eq_true, decide_eq_true_eq]
    refine ⟨⟨by rw [toPy_wT]; rfl, ?_⟩, fun e he => ?_⟩
    · rw [encD_wT]
      have := depth_strs x
      simp only [PyData.depth]
      omega
    · obtain ⟨y, _, rfl⟩ := List.mem_map.mp he
      rw [encD_wT, encD_wT]
      simp only [PySem.W.alike, alikeAll_strs]
  · obtain ⟨x, hx, rfl⟩ := List.mem_map.mp hd
    have := hn x hx
    cases x with
    | nil => exact absurd rfl this
    | cons y x => unfold okT; rw [encD_wT]; rfl
theorem dSorted_lstS {l m : List Str} (h : l.length ≤ 100000) (p : l.Perm m) (a : ascS m) : dSorted [.lst (sD l)] = some (.lst (sD m)) := by
  show gd _ _ = _
  rw [gd_yes (srtOk_strs h), sortD_strs p a]
theorem dSorted_lstR {l m : List (List Str)} (h : l.length ≤ 100000) (hn : ∀ r ∈ l, r ≠ []) (p : l.Perm m) (a : ascR m) : dSorted [.lst (rD l)] = some (.lst (rD m)) := by
  show gd _ _ = _
  rw [gd_yes (srtOk_rows h hn), sortD_rows p a]
theorem dSorted_lstS_ex {l : List Str} (h : l.length ≤ 100000) : ∃ m, dSorted [.lst (sD l)] = some (.lst (sD m)) ∧ m.Perm l ∧ ascS m := by
  obtain ⟨m, e, p, a⟩ := sort_strs_ex l
  exact ⟨m, by show gd _ _ = _; rw [gd_yes (srtOk_strs h), e], p, a⟩
theorem dSorted_lstR_ex {l : List (List Str)} (h : l.length ≤ 100000) (hn : ∀ r ∈ l, r ≠ []) : ∃ m, dSorted [.lst (rD l)] = some (.lst (rD m)) ∧ m.Perm l ∧ ascR m := by
  obtain ⟨m, e, p, a⟩ := sort_rows_ex l
  exact ⟨m, by show gd _ _ = _; rw [gd_yes (srtOk_rows h hn), e], p, a⟩
/-! ### repr -/
mutual
/-- data of texts, tuples and lists; ints of up to twelve digits -/
def good : D → Bool
  | .non => true
  | .bl _ => true
  | .int i => decide (i.natAbs < 10 ^ 12)
  | .str x => PyData.strOk x
  | .tup l => goodL l
  | .lst l => goodL l
  | .ins _ _ => false
  | .fn _ => false
  | .dr => false
  | .scr _ => false
def goodL : List D → Bool
  | [] => true
  | d :: l => good d && goodL l
end
mutual
def wgt : D → Nat
  | .str x => x.cps.size
  | .tup l => wgtL l
  | .lst l => wgtL l
  | .int i => if i == 0 then 0 else i.natAbs.log2 + 1
  | .non => 0
  | .bl _ => 0
  | .ins _ _ => 0
  | .fn _ => 0
  | .dr => 0
  | .scr _ => 0
def wgtL : List D → Nat
  | [] => 0
  | d :: l => wgt d + 1 + wgtL l
end
mutual
def dpt : D → Nat
  | .tup l => dptL l + 1
  | .lst l => dptL l + 1
  | .str _ => 0
  | .int _ => 0
  | .non => 0
  | .bl _ => 0
  | .ins _ _ => 0
  | .fn _ => 0
  | .dr => 0
  | .scr _ => 0
def dptL : List D → Nat
  | [] => 0
  | d :: l => max (dpt d) (dptL l)
end
mutual
theorem good_py : ∀ {d : D}, good d = true → ∃ p, toPy d = some p ∧ p.canLay0 = true ∧ p.intsShort 13 = true ∧ p.showable = true ∧ p.hasDict = false ∧ p.weight = wgt d ∧ p.depth = dpt d
  | .non, _ => ⟨.none, rfl, by simp [PyData.canLay0, PyData.intsShort, PyData.showable, PyData.hasDict, PyData.weight, PyData.depth, wgt, dpt]⟩
  | .bl b, _ => ⟨.bool b, rfl, by simp [PyData.canLay0, PyData.intsShort, PyData.showable, PyData.hasDict, PyData.weight, PyData.depth, wgt, dpt]⟩
  | .int i, h => by
    have h : i.natAbs < 10 ^ 12 := by simpa [good] using h
    refine ⟨.int i, rfl, by simp [PyData.canLay0], ?_, ?_, by simp [PyData.hasDict], by simp [PyData.weight, wgt], by simp [PyData.depth, dpt]⟩
    · simp only [PyData.intsShort, decide_eq_true_eq]
      exact PyData.shown_int_le h
    · simp only [PyData.showable, decide_eq_true_eq]
      by_cases z : i.natAbs = 0
      · rw [z]; decide
      · exact (Nat.log2_lt z).mpr (Nat.lt_of_lt_of_le (Nat.lt_trans h (show 10 ^ 12 < 2 ^ 40 by decide)) (Nat.pow_le_pow_right (by decide) (by decide)))
  | .str x, h => by
    have h : PyData.strOk x = true := by simpa [good] using h
    exact ⟨.str x, rfl, by simp [PyData.canLay0, h], by simp [PyData.intsShort], by simp [PyData.showable], by simp [PyData.hasDict], by simp [PyData.weight, wgt], by simp [PyData.depth, dpt]⟩
  | .tup l, h => by
    obtain ⟨q, h1, h2, h3, h4, h5, h6, h7⟩ := good_pyL (l := l) (by simpa [good] using h)
    exact ⟨.tuple q, by simp [toPy, h1], by simp [PyData.canLay0, h2], by simp [PyData.intsShort, h3], by simp [PyData.showable, h4], by simp [PyData.hasDict, h5], by simp [PyData.weight, wgt, h6], by simp [PyData.depth, dpt, h7]⟩
  | .lst l, h => by
    obtain ⟨q, h1, h2, h3, h4, h5, h6, h7⟩ := good_pyL (l := l) (by simpa [good] using h)
    exact ⟨.list q, by simp [toPy, h1], by simp [PyData.canLay0, h2], by simp [PyData.intsShort, h3], by simp [PyData.showable, h4], by simp [PyData.hasDict, h5], by simp [PyData.weight, wgt, h6], by simp [PyData.depth, dpt, h7]⟩
  | .ins _ _, h => by simp [good] at h
  | .fn _, h => by simp [good] at h
  | .dr, h => by simp [good] at h
  | .scr _, h => by simp [good] at h
theorem good_pyL : ∀ {l : List D}, goodL l = true → ∃ q, toPyL l = some q ∧ PyData.canLayAll0 q = true ∧ PyData.intsShortAll 13 q = true ∧ PyData.showableAll q = true ∧ PyData.hasDictAll q = false ∧ PyData.weightAll q = wgtL l ∧ PyData.depthAll q = dptL l
  | [], _ => ⟨[], rfl, by simp [PyData.canLayAll0, PyData.intsShortAll, PyData.showableAll, PyData.hasDictAll, PyData.weightAll, PyData.depthAll, wgtL, dptL]⟩
  | d :: l, h => by
    have h : good d = true ∧ goodL l = true := by simpa [goodL] using h
    obtain ⟨p, a1, a2, a3, a4, a5, a6, a7⟩ := good_py h.1
    obtain ⟨q, h1, h2, h3, h4, h5, h6, h7⟩ := good_pyL h.2
    exact ⟨p :: q, by simp [toPyL, a1, h1], by simp [PyData.canLayAll0, a2, h2], by simp [PyData.intsShortAll, a3, h3], by simp [PyData.showableAll, a4, h4], by simp [PyData.hasDictAll, a5, h5], by simp [PyData.weightAll, wgtL, a6, h6], by simp [PyData.depthAll, dptL, a7, h7]⟩
end
def reprOf (d : D) : Str := (encD d).shown
/-- repr of small data is told -/
theorem dRepr_good {d : D} (hd : (∃ l, d = .tup l) ∨ ∃ l, d = .lst l) (h : good d = true) (w : wgt d ≤ 2 ^ 20) (k : dpt d ≤ 64) : dRepr [d] = some (.str (reprOf d)) := by
  obtain ⟨p, h1, h2, h3, h4, h5, h6, h7⟩ := good_py h
  have e : dRepr [d] = (toPy d).bind fun p => gd (shownOk p = true) (.str p.shown) := by
    rcases hd with ⟨l, rfl⟩ | ⟨l, rfl⟩ <;> rfl
  rw [e, h1]
  have hl : p.layable0 = true := by
    unfold PyData.layable0
    rw [h2, h6, h7, decide_eq_true k, decide_eq_true w]; rfl
  have hs : p.shown.length ≤ 16777216 := Nat.le_trans (PyData.shown_le_of_layable0 hl h3) (by decide)
  have ok : shownOk p = true := by
    unfold shownOk
    rw [h4, h5, h7, decide_eq_true k, decide_eq_true hs]; rfl
  show gd _ _ = _
  rw [gd_yes ok]
  unfold reprOf encD
  rw [h1]; rfl
end DL

set_option Elab.async false
set_option linter.all false
set_option maxRecDepth 100000
set_option maxHeartbeats 4000000
namespace DL
open PySem PySem.Spec PyProof.Rows L2
theorem cYes_ap (ρ : Env) : cYes ρ = .ok (true, ρ) := rfl
theorem tgName_ap (i : Nat) (d : D) (ρ : Env) : tgName i d ρ = gd (i < ρ.sl.length) (ρ.set i (.im d)) := rfl
theorem tgTup_ap (n : Nat) (gs : Fgs) (ds : List D) (ρ : Env) : tgTup n gs (.tup ds) ρ = if ds.length = n then gs ds ρ else none := rfl
theorem tgsCons_ap (g : Fg) (gs : Fgs) (d : D) (r : List D) (ρ : Env) : tgsCons g gs (d :: r) ρ = (match g d ρ with
  | some ρ1 => gs r ρ1
  | none => none) := rfl
theorem tgsNil_ap (ρ : Env) : tgsNil [] ρ = some ρ := rfl
theorem tgStar_ap (i j : Nat) (a : D) (r : List D) (ρ : Env) : tgStar i j (.lst (a :: r)) ρ = gd (i < ρ.sl.length ∧ j < ρ.sl.length ∧ sz r.length) ((ρ.set i (.im a)).set j (.im (.lst r))) := rfl
/-- a loop by its invariant -/
theorem forD_inv {α : Type} {enc : α → D} {g : Fg} {body : Fs} (all : List α) (P : List α → Env → Prop) (turn : ∀ pre x post ρ, all = pre ++ x :: post → P pre ρ → ∃ ρ1 ρ2, g (enc x) ρ = some ρ1 ∧ body ρ1 = .ok (.nx ρ2) ∧ P (pre ++ [x]) ρ2) :
    ∀ {ρ : Env}, P [] ρ → ∃ ρ', forD g body (all.map enc) ρ = .ok (.nx ρ') ∧ P all ρ' := by
  have key : ∀ (post pre : List α) (ρ : Env), all = pre ++ post → P pre ρ → ∃ ρ', forD g body (post.map enc) ρ = .ok (.nx ρ') ∧ P all ρ' := by
    intro post
    induction post with
    | nil => intro pre ρ e h; exact ⟨ρ, rfl, by rw [e, List.append_nil]; exact h⟩
    | cons x post ih =>
      intro pre ρ e h
      obtain ⟨ρ1, ρ2, h1, h2, h3⟩ := turn pre x post ρ e h
      obtain ⟨ρ', h4, h5⟩ := ih (pre ++ [x]) ρ2 (by rw [e]; simp) h3
      refine ⟨ρ', ?_, h5⟩
      have e1 : forD g body ((x :: post).map enc) ρ = forD g body (post.map enc) ρ2 := by
        simp only [List.map_cons, forD, h1, h2]
      rw [e1]
      exact h4
  intro ρ h
  exact key all [] ρ rfl h
/-- a loop whose turns leave the state as it was but for its names -/
theorem forD_same {α : Type} {enc : α → D} {g : Fg} {body : Fs} (all : List α) (P : Env → Prop) (turn : ∀ x ∈ all, ∀ ρ, P ρ → ∃ ρ1 ρ2, g (enc x) ρ = some ρ1 ∧ body ρ1 = .ok (.nx ρ2) ∧ P ρ2) {ρ : Env} (h : P ρ) : ∃ ρ', forD g body (all.map enc) ρ = .ok (.nx ρ') ∧ P ρ' :=
  forD_inv all (fun _ => P) (fun pre x post ρ e h => turn x (by rw [e]; simp) ρ h) h
/-- a comprehension by its invariant -/
theorem lc_inv {α : Type} {enc : α → D} {g : Fg} {p : Ft} {f : Fe} {vs : List Nat} (all : List α) (hl : all.length ≤ 100000) (P : List α → List D → Env → Prop)
    (turn : ∀ pre x post acc ρ, all = pre ++ x :: post → P pre acc ρ → ∃ ρ1, g (enc x) ρ = some ρ1 ∧ ((∃ ρ2, p ρ1 = .ok (false, ρ2) ∧ P (pre ++ [x]) acc (ρ2.wipe vs)) ∨ ∃ ρ2 y ρ3, p ρ1 = .ok (true, ρ2) ∧ f ρ2 = .ok (y, ρ3) ∧ P (pre ++ [x]) (acc ++ [y]) (ρ3.wipe vs))) :
    ∀ {ρ : Env}, P [] [] ρ → ∃ r ρ', lcD g p f vs (all.map enc) [] ρ = some (r, ρ') ∧ P all r ρ' := by
  have key : ∀ (post pre : List α) (acc : List D) (ρ : Env), all = pre ++ post → acc.length ≤ pre.length → P pre acc ρ → ∃ r ρ', lcD g p f vs (post.map enc) acc ρ = some (r, ρ') ∧ P all r ρ' := by
    intro post
    induction post with
    | nil => intro pre acc ρ e _ h; exact ⟨acc, ρ, rfl, by rw [e, List.append_nil]; exact h⟩
    | cons x post ih =>
      intro pre acc ρ e hacc h
      obtain ⟨ρ1, h1, h2⟩ := turn pre x post acc ρ e h
      have hh : acc.length < 100000 := by
        have : all.length = pre.length + (post.length + 1) := by rw [e]; simp
        omega
      have e0 : lcD g p f vs ((x :: post).map enc) acc ρ = (match p ρ1 with
          | .ok (false, ρ2) => lcD g p f vs (post.map enc) acc (ρ2.wipe vs)
          | .ok (true, ρ2) => (match f ρ2 with
            | .ok (y, ρ3) => if acc.length < 100000 then lcD g p f vs (post.map enc) (acc ++ [y]) (ρ3.wipe vs) else none
            | _ => none)
          | _ => none) := by
        show (match g (enc x) ρ with
          | none => none
          | some ρ1 => match p ρ1 with
            | .ok (false, ρ2) => lcD g p f vs (post.map enc) acc (ρ2.wipe vs)
            | .ok (true, ρ2) => (match f ρ2 with
              | .ok (y, ρ3) => if acc.length < 100000 then lcD g p f vs (post.map enc) (acc ++ [y]) (ρ3.wipe vs) else none
              | _ => none)
            | _ => none) = _
        rw [h1]
      rcases h2 with ⟨ρ2, h2, h3⟩ | ⟨ρ2, y, ρ3, h2, h3, h4⟩
      · obtain ⟨r, ρ', h5, h6⟩ := ih (pre ++ [x]) acc (ρ2.wipe vs) (by rw [e]; simp) (by simp; omega) h3
        exact ⟨r, ρ', by rw [e0, h2]; exact h5, h6⟩
      · obtain ⟨r, ρ', h5, h6⟩ := ih (pre ++ [x]) (acc ++ [y]) (ρ3.wipe vs) (by rw [e]; simp) (by simp; omega) h4
        refine ⟨r, ρ', ?_, h6⟩
        rw [e0, h2]
        show (match f ρ2 with
            | .ok (y, ρ3) => if acc.length < 100000 then lcD g p f vs (post.map enc) (acc ++ [y]) (ρ3.wipe vs) else none
            | _ => none) = _
        rw [h3]
        show (if acc.length < 100000 then lcD g p f vs (post.map enc) (acc ++ [y]) (ρ3.wipe vs) else none) = _
        rw [if_pos hh]
        exact h5
  intro ρ h
  exact key all [] [] ρ rfl (by simp) h
/-- a comprehension of one name that changes nothing -/
theorem lc_pure {α : Type} {enc : α → D} {i : Nat} {p : Ft} {f : Fe} {ρ : Env} (b : α → Bool) (F : α → D) (all : List α) (hl : all.length ≤ 100000) (hi : ρ.sl[i]? = some .no)
    (turn : ∀ x ∈ all, p (ρ.set i (.im (enc x))) = .ok (b x, ρ.set i (.im (enc x))) ∧ (b x = true → f (ρ.set i (.im (enc x))) = .ok (F x, ρ.set i (.im (enc x))))) :
    lcD (tgName i) p f [i] (all.map enc) [] ρ = some ((all.filter b).map F, ρ) := by
  have hlen : i < ρ.sl.length := by
    rcases List.getElem?_eq_some_iff.mp hi with ⟨h, _⟩
    exact h
  have hw : ∀ d : D, (ρ.set i (.im d)).wipe [i] = ρ := fun d => by
    unfold Env.set Env.wipe wipeS wipeS
    have : (ρ.sl.set i (Slot.im d)).set i .no = ρ.sl := by
      rw [List.set_set]
      refine List.ext_getElem? fun j => ?_
      by_cases hj : i = j
      · subst hj; rw [List.getElem?_set_self hlen, hi]
      · rw [List.getElem?_set_ne hj]
    show Env.mk ((ρ.sl.set i (Slot.im d)).set i .no) ρ.ora = ρ
    rw [this]
  obtain ⟨r, ρ', e, h1, h2⟩ := lc_inv (enc := enc) (g := tgName i) (p := p) (f := f) (vs := [i]) all hl (fun pre acc ρ' => acc = (pre.filter b).map F ∧ ρ' = ρ) (fun pre x post acc ρ' e ⟨h1, h2⟩ => by
    subst h2
    obtain ⟨t1, t2⟩ := turn x (by rw [e]; simp)
    refine ⟨_, gd_yes hlen, ?_⟩
    cases hb : b x with
    | false => exact .inl ⟨_, by rw [t1, hb], by rw [h1]; simp [hb], hw _⟩
    | true => exact .inr ⟨_, _, _, by rw [t1, hb], t2 hb, by rw [h1]; simp [hb], hw _⟩) (ρ := ρ) ⟨rfl, rfl⟩
  rw [e, h1, h2]
/-- the same without a test -/
theorem lc_map {α : Type} {enc : α → D} {i : Nat} {f : Fe} {ρ : Env} (F : α → D) (all : List α) (hl : all.length ≤ 100000) (hi : ρ.sl[i]? = some .no)
    (turn : ∀ x ∈ all, f (ρ.set i (.im (enc x))) = .ok (F x, ρ.set i (.im (enc x)))) : lcD (tgName i) cYes f [i] (all.map enc) [] ρ = some (all.map F, ρ) := by
  have := lc_pure (p := cYes) (f := f) (enc := enc) (ρ := ρ) (fun _ => true) F all hl hi fun x hx => ⟨rfl, fun _ => turn x hx⟩
  rw [this, List.filter_eq_self.mpr fun _ _ => rfl]
/-! ### operations at data of known kind -/
theorem dSl_tup (l : List D) (a b : Option Int) : dSl (.tup l) a b = some (.tup (cutL l a b)) := rfl
theorem dSl_lst (l : List D) (a b : Option Int) : dSl (.lst l) a b = some (.lst (cutL l a b)) := rfl
theorem dSl_scr (l : List D) (a b : Option Int) : dSl (.scr l) a b = some (.lst (cutL l a b)) := rfl
theorem dSl_str (x : Str) (a b : Option Int) : dSl (.str x) a b = gd (sz x.length) (.str (cutS x a b)) := rfl
theorem dLen_tup (l : List D) : dLen [.tup l] = some (.int l.length) := rfl
theorem dLen_lst (l : List D) : dLen [.lst l] = some (.int l.length) := rfl
theorem dLen_scr (l : List D) : dLen [.scr l] = some (.int l.length) := rfl
theorem dLen_str (x : Str) : dLen [.str x] = gd (sz x.length) (.int x.length) := rfl
theorem seqD_tup (l : List D) : seqD (.tup l) = some l := rfl
theorem seqD_lst (l : List D) : seqD (.lst l) = some l := rfl
theorem seqD_str (x : Str) : seqD (.str x) = some (DL.signs x) := rfl
theorem itemsD_tup (l : List D) : itemsD (.tup l) = some l := rfl
theorem itemsD_lst (l : List D) : itemsD (.lst l) = some l := rfl
theorem seqE_tup (l : List D) : seqE [.tup l] = some (enumL l) := rfl
theorem seqE_lst (l : List D) : seqE [.lst l] = some (enumL l) := rfl
theorem dTuple_tup (l : List D) : dTuple [.tup l] = some (.tup l) := rfl
theorem dTuple_lst (l : List D) : dTuple [.lst l] = some (.tup l) := rfl
theorem dList_tup (l : List D) : dList [.tup l] = some (.lst l) := rfl
theorem dList_lst (l : List D) : dList [.lst l] = some (.lst l) := rfl
theorem dIx_tup (l : List D) (i : Int) : dIx (.tup l) (.int i) = L2.atI l i := rfl
theorem dIx_lst (l : List D) (i : Int) : dIx (.lst l) (.int i) = L2.atI l i := rfl
theorem dIx_str (x : Str) (i : Int) : dIx (.str x) (.int i) = (L2.atI x.cps.toList i).bind fun c => gd (sz x.length) (.str ⟨#[c]⟩) := rfl
theorem dRev_lst (l : List D) : dRev (.lst l) = some (.lst l.reverse) := rfl
theorem dJoin_lst (a : Str) (l : List D) : dJoin a (.lst l) = joinL a l := rfl
theorem dJoin_tup (a : Str) (l : List D) : dJoin a (.tup l) = joinL a l := rfl
theorem atD_ins (f : Str → Option Nat) (c : Str) (l : List D) : atD f (.ins c l) = (f c).bind fun i => l[i]? := rfl
theorem isC_ins (C : Str) (a : Str → Option Bool) (c : Str) (l : List D) : isC C a (.ins c l) = (a c).map D.bl := rfl
theorem dNotInS_tup (d : D) (l : List D) : dNotInS d (.tup l) = (inB d (.tup l)).map fun b => D.bl (!b) := rfl
theorem dNotInS_lst (d : D) (l : List D) : dNotInS d (.lst l) = (inB d (.lst l)).map fun b => D.bl (!b) := rfl
end DL

set_option Elab.async false
set_option linter.all false
set_option maxRecDepth 100000
set_option maxHeartbeats 0
namespace LW
open PySem PySem.Spec PyProof.Rows L2 DL

def top (i : Nat) : Stmt := PySem.Challenge.pw_walkcopy_k35_whole_texts.main.body.getD i (.Pass ⟨0, 0, 0, 0⟩)
def mem (st : Stmt) (j : Nat) : Stmt := match st with
  | .ClassDef _ _ _ b _ _ _ _ _ _ _ => b.getD j (.Pass ⟨0, 0, 0, 0⟩)
  | _ => .Pass ⟨0, 0, 0, 0⟩
def s_law_begun : Stmt := top 44
def s_law_draw : Stmt := top 45
def s_law_folders : Stmt := top 47
def s_law_of : Stmt := top 46
def s_law_any_folders : Stmt := top 51
def s_law_every_rule : Stmt := top 48
def s_law_rules : Stmt := top 49
def s_law_steps : Stmt := top 50
def s_is_list : Stmt := top 16
def s_is_word : Stmt := top 17
def s_is_rule_of : Stmt := top 18
def s_World_init : Stmt := mem (top 19) 1
def s_law_text_of : Stmt := top 52
def s_world_text : Stmt := top 35
def s_lines_of : Stmt := top 37
def s_is_rule_line : Stmt := top 38
def s_is_step_line : Stmt := top 39
def s_need_lines : Stmt := top 40
def s_read_world : Stmt := top 41
def s_World_eq : Stmt := mem (top 19) 2
def s_law_worlds_right : Stmt := top 53
def s_is_step : Stmt := top 29
def s_first_bad : Stmt := top 30
def s_need_steps : Stmt := top 31
def s_Copier_init : Stmt := mem (top 32) 1
def s_copier_text : Stmt := top 36
def s_read_copier : Stmt := top 42
def s_Copier_eq : Stmt := mem (top 32) 3
def s_law_copiers_right : Stmt := top 54
def s_law : Stmt := top 55
def k_ALONE : List Str := ["drop", "make"]
def k_PAIRED : List Str := ["link", "move"]
def k_TICK : List Str := ["tick"]
def k_WORDS : List Str := ["look", "check", "sure", "hold", "free"]
def at_folders : Str → Option Nat := fun c => if c = "World" then some 0 else none
def at_rules : Str → Option Nat := fun c => if c = "World" then some 1 else none
def at_steps : Str → Option Nat := fun c => if c = "Copier" then some 0 else none
def at_world : Str → Option Nat := fun c => if c = "Copier" then some 1 else none
def is_Copier : Str → Option Bool := fun c => if c = "World" then some false else if c = "Copier" then some true else none
def is_World : Str → Option Bool := fun c => if c = "World" then some true else if c = "Copier" then some false else none
def ad_World (K : PySem.W.Frag) : Addr := match K.lookup (He.fAd K ("World", some "__init__")) with
  | some ⟨_, _, .func fd, _⟩ => (match fd.defaults with
    | .ref T => (match K.lookup T with
      | some ⟨_, _, .seq its _, _⟩ => (match its[0]? with
        | some (Value.ref a) => a
        | _ => 0)
      | _ => 0)
    | _ => 0)
  | _ => 0
def dd_World : List D := [.tup []]
/-- what is known of the module -/
structure FK (K : PySem.W.Frag) (mg : Str → Option Value) : Prop where
  i_MOST_FOLDERS : ∃ t, mg "MOST_FOLDERS" = some (.int 4 t)
  i_MOST_LETTERS : ∃ t, mg "MOST_LETTERS" = some (.int 8 t)
  i_MOST_STEPS : ∃ t, mg "MOST_STEPS" = some (.int 16 t)
  n_all : mg "all" = none
  n_any : mg "any" = none
  n_enumerate : mg "enumerate" = none
  n_int : mg "int" = none
  n_isinstance : mg "isinstance" = none
  n_len : mg "len" = none
  n_list : mg "list" = none
  n_min : mg "min" = none
  n_range : mg "range" = none
  n_repr : mg "repr" = none
  n_sorted : mg "sorted" = none
  n_str : mg "str" = none
  n_tuple : mg "tuple" = none
  s_FOLDERS : ∃ t, mg "FOLDERS" = some (.str "folders" t)
  s_LETTERS : ∃ t, mg "LETTERS" = some (.str "abcdefghijklmnopqrstuvwxyz" t)
  s_LOOK : ∃ t, mg "LOOK" = some (.str "look" t)
  t_ALONE : tupT K "ALONE" k_ALONE = true
  t_PAIRED : tupT K "PAIRED" k_PAIRED = true
  t_TICK : tupT K "TICK" k_TICK = true
  t_WORDS : tupT K "WORDS" k_WORDS = true
  g_ALONE : mg "ALONE" = some (.ref (He.ga K "ALONE"))
  g_Copier : mg "Copier" = some (.ref (He.ga K "Copier"))
  g_PAIRED : mg "PAIRED" = some (.ref (He.ga K "PAIRED"))
  g_TICK : mg "TICK" = some (.ref (He.ga K "TICK"))
  g_WORDS : mg "WORDS" = some (.ref (He.ga K "WORDS"))
  g_World : mg "World" = some (.ref (He.ga K "World"))
  g_law_any_folders : mg "_law_any_folders" = some (.ref (He.ga K "_law_any_folders"))
  g_law_begun : mg "_law_begun" = some (.ref (He.ga K "_law_begun"))
  g_law_copiers_right : mg "_law_copiers_right" = some (.ref (He.ga K "_law_copiers_right"))
  g_law_draw : mg "_law_draw" = some (.ref (He.ga K "_law_draw"))
  g_law_every_rule : mg "_law_every_rule" = some (.ref (He.ga K "_law_every_rule"))
  g_law_folders : mg "_law_folders" = some (.ref (He.ga K "_law_folders"))
  g_law_of : mg "_law_of" = some (.ref (He.ga K "_law_of"))
  g_law_rules : mg "_law_rules" = some (.ref (He.ga K "_law_rules"))
  g_law_steps : mg "_law_steps" = some (.ref (He.ga K "_law_steps"))
  g_law_text_of : mg "_law_text_of" = some (.ref (He.ga K "_law_text_of"))
  g_law_worlds_right : mg "_law_worlds_right" = some (.ref (He.ga K "_law_worlds_right"))
  g_copier_text : mg "copier_text" = some (.ref (He.ga K "copier_text"))
  g_first_bad : mg "first_bad" = some (.ref (He.ga K "first_bad"))
  g_is_list : mg "is_list" = some (.ref (He.ga K "is_list"))
  g_is_rule_line : mg "is_rule_line" = some (.ref (He.ga K "is_rule_line"))
  g_is_rule_of : mg "is_rule_of" = some (.ref (He.ga K "is_rule_of"))
  g_is_step : mg "is_step" = some (.ref (He.ga K "is_step"))
  g_is_step_line : mg "is_step_line" = some (.ref (He.ga K "is_step_line"))
  g_is_word : mg "is_word" = some (.ref (He.ga K "is_word"))
  g_law : mg "law" = some (.ref (He.ga K "law"))
  g_lines_of : mg "lines_of" = some (.ref (He.ga K "lines_of"))
  g_need_lines : mg "need_lines" = some (.ref (He.ga K "need_lines"))
  g_need_steps : mg "need_steps" = some (.ref (He.ga K "need_steps"))
  g_read_copier : mg "read_copier" = some (.ref (He.ga K "read_copier"))
  g_read_world : mg "read_world" = some (.ref (He.ga K "read_world"))
  g_world_text : mg "world_text" = some (.ref (He.ga K "world_text"))
  a_folders : ∀ c C i, at_folders c = some i → mg c = some (.ref C) → SlX.SCls K C ∧ ∃ p, SlX.Slot1 K C "folders" p i
  a_rules : ∀ c C i, at_rules c = some i → mg c = some (.ref C) → SlX.SCls K C ∧ ∃ p, SlX.Slot1 K C "rules" p i
  a_steps : ∀ c C i, at_steps c = some i → mg c = some (.ref C) → SlX.SCls K C ∧ ∃ p, SlX.Slot1 K C "steps" p i
  a_world : ∀ c C i, at_world c = some i → mg c = some (.ref C) → SlX.SCls K C ∧ ∃ p, SlX.Slot1 K C "world" p i
  z_Copier : ∀ c C b, is_Copier c = some b → mg c = some (.ref C) → SlX.SCls K C ∧ SlX.SIsi K C ∧ PySem.W.kitOne K (.ref C) (.ref (He.ga K "Copier")) = some b
  o_Copier : ∀ n ∈ ["NoneType", "bool", "int", "str", "tuple", "list"], PySem.W.kitOne K (.type n) (.ref (He.ga K "Copier")) = some false
  z_World : ∀ c C b, is_World c = some b → mg c = some (.ref C) → SlX.SCls K C ∧ SlX.SIsi K C ∧ PySem.W.kitOne K (.ref C) (.ref (He.ga K "World")) = some b
  o_World : ∀ n ∈ ["NoneType", "bool", "int", "str", "tuple", "list"], PySem.W.kitOne K (.type n) (.ref (He.ga K "World")) = some false
  q_World : ∀ {C : Addr}, mg "World" = some (.ref C) → SlX.SCls K C ∧ SlX.Slot1 K C "folders" (He.ma K (He.ga K "World") "folders") 0 ∧ SlX.Slot1 K C "rules" (He.ma K (He.ga K "World") "rules") 1
  k_World : Mk K (He.ga K "World") (He.ma K (He.ga K "World") "__init__") ∧ PySem.W.keepIn K (.ref (He.ga K "World")) = true
  e_World : ∀ F : Hp, SqT K F (ad_World K) []
  q_Copier : ∀ {C : Addr}, mg "Copier" = some (.ref C) → SlX.SCls K C ∧ SlX.Slot1 K C "steps" (He.ma K (He.ga K "Copier") "steps") 0 ∧ SlX.Slot1 K C "world" (He.ma K (He.ga K "Copier") "world") 1
  k_Copier : Mk K (He.ga K "Copier") (He.ma K (He.ga K "Copier") "__init__") ∧ PySem.W.keepIn K (.ref (He.ga K "Copier")) = true
  d_law_begun : ∃ fd, FunD K "_law_begun" "_law_begun" (defArgs s_law_begun) (defBody s_law_begun) (defScope s_law_begun) [] [] (He.fAd K ("_law_begun", none)) fd
  d_law_draw : ∃ fd, FunD K "_law_draw" "_law_draw" (defArgs s_law_draw) (defBody s_law_draw) (defScope s_law_draw) [] [] (He.fAd K ("_law_draw", none)) fd
  d_law_folders : ∃ fd, FunD K "_law_folders" "_law_folders" (defArgs s_law_folders) (defBody s_law_folders) (defScope s_law_folders) [] [] (He.fAd K ("_law_folders", none)) fd
  d_law_of : ∃ fd, FunD K "_law_of" "_law_of" (defArgs s_law_of) (defBody s_law_of) (defScope s_law_of) [] [] (He.fAd K ("_law_of", none)) fd
  d_law_any_folders : ∃ fd, FunD K "_law_any_folders" "_law_any_folders" (defArgs s_law_any_folders) (defBody s_law_any_folders) (defScope s_law_any_folders) [] [] (He.fAd K ("_law_any_folders", none)) fd
  d_law_every_rule : ∃ fd, FunD K "_law_every_rule" "_law_every_rule" (defArgs s_law_every_rule) (defBody s_law_every_rule) (defScope s_law_every_rule) [] [] (He.fAd K ("_law_every_rule", none)) fd
  d_law_rules : ∃ fd, FunD K "_law_rules" "_law_rules" (defArgs s_law_rules) (defBody s_law_rules) (defScope s_law_rules) [] [] (He.fAd K ("_law_rules", none)) fd
  d_law_steps : ∃ fd, FunD K "_law_steps" "_law_steps" (defArgs s_law_steps) (defBody s_law_steps) (defScope s_law_steps) [] [] (He.fAd K ("_law_steps", none)) fd
  d_is_list : ∃ fd, FunD K "is_list" "is_list" (defArgs s_is_list) (defBody s_is_list) (defScope s_is_list) [] [] (He.fAd K ("is_list", none)) fd
  d_is_word : ∃ fd, FunD K "is_word" "is_word" (defArgs s_is_word) (defBody s_is_word) (defScope s_is_word) [] [] (He.fAd K ("is_word", none)) fd
  d_is_rule_of : ∃ fd, FunD K "is_rule_of" "is_rule_of" (defArgs s_is_rule_of) (defBody s_is_rule_of) (defScope s_is_rule_of) [] [] (He.fAd K ("is_rule_of", none)) fd
  d_World_init : ∃ fd, FunD K "__init__" "World.__init__" (defArgs s_World_init) (defBody s_World_init) (defScope s_World_init) [.ref (ad_World K)] [] (He.fAd K ("World", some "__init__")) fd
  d_law_text_of : ∃ fd, FunD K "_law_text_of" "_law_text_of" (defArgs s_law_text_of) (defBody s_law_text_of) (defScope s_law_text_of) [] [] (He.fAd K ("_law_text_of", none)) fd
  d_world_text : ∃ fd, FunD K "world_text" "world_text" (defArgs s_world_text) (defBody s_world_text) (defScope s_world_text) [] [] (He.fAd K ("world_text", none)) fd
  d_lines_of : ∃ fd, FunD K "lines_of" "lines_of" (defArgs s_lines_of) (defBody s_lines_of) (defScope s_lines_of) [] [] (He.fAd K ("lines_of", none)) fd
  d_is_rule_line : ∃ fd, FunD K "is_rule_line" "is_rule_line" (defArgs s_is_rule_line) (defBody s_is_rule_line) (defScope s_is_rule_line) [] [] (He.fAd K ("is_rule_line", none)) fd
  d_is_step_line : ∃ fd, FunD K "is_step_line" "is_step_line" (defArgs s_is_step_line) (defBody s_is_step_line) (defScope s_is_step_line) [] [] (He.fAd K ("is_step_line", none)) fd
  d_need_lines : ∃ fd, FunD K "need_lines" "need_lines" (defArgs s_need_lines) (defBody s_need_lines) (defScope s_need_lines) [] [] (He.fAd K ("need_lines", none)) fd
  d_read_world : ∃ fd, FunD K "read_world" "read_world" (defArgs s_read_world) (defBody s_read_world) (defScope s_read_world) [] [] (He.fAd K ("read_world", none)) fd
  m_World_eq : SlX.SCls K (He.ga K "World") ∧ Meth K (He.ga K "World") "__eq__" (He.ma K (He.ga K "World") "__eq__")
  d_World_eq : ∃ fd, FunD K "__eq__" "World.__eq__" (defArgs s_World_eq) (defBody s_World_eq) (defScope s_World_eq) [] [] (He.fAd K ("World", some "__eq__")) fd
  d_law_worlds_right : ∃ fd, FunD K "_law_worlds_right" "_law_worlds_right" (defArgs s_law_worlds_right) (defBody s_law_worlds_right) (defScope s_law_worlds_right) [] [] (He.fAd K ("_law_worlds_right", none)) fd
  d_is_step : ∃ fd, FunD K "is_step" "is_step" (defArgs s_is_step) (defBody s_is_step) (defScope s_is_step) [] [] (He.fAd K ("is_step", none)) fd
  d_first_bad : ∃ fd, FunD K "first_bad" "first_bad" (defArgs s_first_bad) (defBody s_first_bad) (defScope s_first_bad) [] [] (He.fAd K ("first_bad", none)) fd
  d_need_steps : ∃ fd, FunD K "need_steps" "need_steps" (defArgs s_need_steps) (defBody s_need_steps) (defScope s_need_steps) [] [] (He.fAd K ("need_steps", none)) fd
  d_Copier_init : ∃ fd, FunD K "__init__" "Copier.__init__" (defArgs s_Copier_init) (defBody s_Copier_init) (defScope s_Copier_init) [] [] (He.fAd K ("Copier", some "__init__")) fd
  d_copier_text : ∃ fd, FunD K "copier_text" "copier_text" (defArgs s_copier_text) (defBody s_copier_text) (defScope s_copier_text) [] [] (He.fAd K ("copier_text", none)) fd
  d_read_copier : ∃ fd, FunD K "read_copier" "read_copier" (defArgs s_read_copier) (defBody s_read_copier) (defScope s_read_copier) [] [] (He.fAd K ("read_copier", none)) fd
  m_Copier_eq : SlX.SCls K (He.ga K "Copier") ∧ Meth K (He.ga K "Copier") "__eq__" (He.ma K (He.ga K "Copier") "__eq__")
  d_Copier_eq : ∃ fd, FunD K "__eq__" "Copier.__eq__" (defArgs s_Copier_eq) (defBody s_Copier_eq) (defScope s_Copier_eq) [] [] (He.fAd K ("Copier", some "__eq__")) fd
  d_law_copiers_right : ∃ fd, FunD K "_law_copiers_right" "_law_copiers_right" (defArgs s_law_copiers_right) (defBody s_law_copiers_right) (defScope s_law_copiers_right) [] [] (He.fAd K ("_law_copiers_right", none)) fd
  d_law : ∃ fd, FunD K "law" "law" (defArgs s_law) (defBody s_law) (defScope s_law) [] [] (He.fAd K ("law", none)) fd

def N_law_begun : List Str := ["_law_script", "_law_k", "_law_cells", "_law_great", "_law_seed", "_law_cell"]
theorem sc_law_begun : FnScope N_law_begun ["_law_script", "_law_k"] (defScope s_law_begun) := ⟨rfl, rfl, rfl, by decide +kernel, rfl, by decide +kernel, by decide +kernel⟩
def N_law_draw : List Str := ["_law_m", "_law_many", "_law_spot", "_law_cell", "_law_blend", "_law_found", "_law_cells", "_law_added"]
theorem sc_law_draw : FnScope N_law_draw ["_law_m", "_law_many"] (defScope s_law_draw) := ⟨rfl, rfl, rfl, by decide +kernel, rfl, by decide +kernel, by decide +kernel⟩
def N_law_folders : List Str := ["_law_m", "_law_most", "_law_k", "_law_rest", "_law_found"]
theorem sc_law_folders : FnScope N_law_folders ["_law_m", "_law_most"] (defScope s_law_folders) := ⟨rfl, rfl, rfl, by decide +kernel, rfl, by decide +kernel, by decide +kernel⟩
def N_law_of : List Str := ["_law_m", "_law_some"]
theorem sc_law_of : FnScope N_law_of ["_law_m", "_law_some"] (defScope s_law_of) := ⟨rfl, rfl, rfl, by decide +kernel, rfl, by decide +kernel, by decide +kernel⟩
def N_law_any_folders : List Str := ["_law_m", "_law_way", "_law_words", "_law_letters", "_law_base", "_law_found", "_law_k", "_law_spot", "_law_near", "_law_name"]
theorem sc_law_any_folders : FnScope N_law_any_folders ["_law_m"] (defScope s_law_any_folders) := ⟨rfl, rfl, rfl, by decide +kernel, rfl, by decide +kernel, by decide +kernel⟩
def N_law_every_rule : List Str := ["_law_folders_here", "_law_found", "_law_word", "_law_x", "_law_y"]
theorem sc_law_every_rule : FnScope N_law_every_rule ["_law_folders_here"] (defScope s_law_every_rule) := ⟨rfl, rfl, rfl, by decide +kernel, rfl, by decide +kernel, by decide +kernel⟩
def N_law_rules : List Str := ["_law_m", "_law_folders_here", "_law_way", "_law_some", "_law_rule"]
theorem sc_law_rules : FnScope N_law_rules ["_law_m", "_law_folders_here"] (defScope s_law_rules) := ⟨rfl, rfl, rfl, by decide +kernel, rfl, by decide +kernel, by decide +kernel⟩
def N_law_steps : List Str := ["_law_m", "_law_folders_here", "_law_most", "_law_k", "_law_looked", "_law_held", "_law_found", "_law_way", "_law_x"]
theorem sc_law_steps : FnScope N_law_steps ["_law_m", "_law_folders_here", "_law_most"] (defScope s_law_steps) := ⟨rfl, rfl, rfl, by decide +kernel, rfl, by decide +kernel, by decide +kernel⟩
def N_is_list : List Str := ["value"]
theorem sc_is_list : FnScope N_is_list ["value"] (defScope s_is_list) := ⟨rfl, rfl, rfl, by decide +kernel, rfl, by decide +kernel, by decide +kernel⟩
def N_is_word : List Str := ["value", "letter"]
theorem sc_is_word : FnScope N_is_word ["value"] (defScope s_is_word) := ⟨rfl, rfl, rfl, by decide +kernel, rfl, by decide +kernel, by decide +kernel⟩
def N_is_rule_of : List Str := ["value", "folders", "part"]
theorem sc_is_rule_of : FnScope N_is_rule_of ["value", "folders"] (defScope s_is_rule_of) := ⟨rfl, rfl, rfl, by decide +kernel, rfl, by decide +kernel, by decide +kernel⟩
def N_World_init : List Str := ["self", "folders", "rules", "number", "folder", "rule"]
theorem sc_World_init : FnScope N_World_init ["self", "folders", "rules"] (defScope s_World_init) := ⟨rfl, rfl, rfl, by decide +kernel, rfl, by decide +kernel, by decide +kernel⟩
def N_law_text_of : List Str := ["_law_rows", "_law_row"]
theorem sc_law_text_of : FnScope N_law_text_of ["_law_rows"] (defScope s_law_text_of) := ⟨rfl, rfl, rfl, by decide +kernel, rfl, by decide +kernel, by decide +kernel⟩
def N_world_text : List Str := ["world", "lines", "line"]
theorem sc_world_text : FnScope N_world_text ["world"] (defScope s_world_text) := ⟨rfl, rfl, rfl, by decide +kernel, rfl, by decide +kernel, by decide +kernel⟩
def N_lines_of : List Str := ["text", "line"]
theorem sc_lines_of : FnScope N_lines_of ["text"] (defScope s_lines_of) := ⟨rfl, rfl, rfl, by decide +kernel, rfl, by decide +kernel, by decide +kernel⟩
def N_is_rule_line : List Str := ["words", "word"]
theorem sc_is_rule_line : FnScope N_is_rule_line ["words"] (defScope s_is_rule_line) := ⟨rfl, rfl, rfl, by decide +kernel, rfl, by decide +kernel, by decide +kernel⟩
def N_is_step_line : List Str := ["words"]
theorem sc_is_step_line : FnScope N_is_step_line ["words"] (defScope s_is_step_line) := ⟨rfl, rfl, rfl, by decide +kernel, rfl, by decide +kernel, by decide +kernel⟩
def N_need_lines : List Str := ["rows", "begin", "is_line", "number", "words"]
theorem sc_need_lines : FnScope N_need_lines ["rows", "begin", "is_line"] (defScope s_need_lines) := ⟨rfl, rfl, rfl, by decide +kernel, rfl, by decide +kernel, by decide +kernel⟩
def N_read_world : List Str := ["text", "rows", "first", "rules", "words", "word"]
theorem sc_read_world : FnScope N_read_world ["text"] (defScope s_read_world) := ⟨rfl, rfl, rfl, by decide +kernel, rfl, by decide +kernel, by decide +kernel⟩
def N_World_eq : List Str := ["self", "other"]
theorem sc_World_eq : FnScope N_World_eq ["self", "other"] (defScope s_World_eq) := ⟨rfl, rfl, rfl, by decide +kernel, rfl, by decide +kernel, by decide +kernel⟩
def N_law_worlds_right : List Str := ["_law_m", "_law_folders_here", "_law_rules_here", "_law_own", "_law_due", "_law_row", "_law_some", "_law_text", "_law_k", "_law_n", "_law_back"]
theorem sc_law_worlds_right : FnScope N_law_worlds_right ["_law_m", "_law_folders_here", "_law_rules_here"] (defScope s_law_worlds_right) := ⟨rfl, rfl, rfl, by decide +kernel, rfl, by decide +kernel, by decide +kernel⟩
def N_is_step : List Str := ["value", "folders", "part"]
theorem sc_is_step : FnScope N_is_step ["value", "folders"] (defScope s_is_step) := ⟨rfl, rfl, rfl, by decide +kernel, rfl, by decide +kernel, by decide +kernel⟩
def N_first_bad : List Str := ["world", "steps", "looked", "held", "number", "step", "folder"]
theorem sc_first_bad : FnScope N_first_bad ["world", "steps"] (defScope s_first_bad) := ⟨rfl, rfl, rfl, by decide +kernel, rfl, by decide +kernel, by decide +kernel⟩
def N_need_steps : List Str := ["world", "steps", "number", "step"]
theorem sc_need_steps : FnScope N_need_steps ["world", "steps"] (defScope s_need_steps) := ⟨rfl, rfl, rfl, by decide +kernel, rfl, by decide +kernel, by decide +kernel⟩
def N_Copier_init : List Str := ["self", "world", "steps"]
theorem sc_Copier_init : FnScope N_Copier_init ["self", "world", "steps"] (defScope s_Copier_init) := ⟨rfl, rfl, rfl, by decide +kernel, rfl, by decide +kernel, by decide +kernel⟩
def N_copier_text : List Str := ["copier", "step"]
theorem sc_copier_text : FnScope N_copier_text ["copier"] (defScope s_copier_text) := ⟨rfl, rfl, rfl, by decide +kernel, rfl, by decide +kernel, by decide +kernel⟩
def N_read_copier : List Str := ["world", "text", "rows", "words"]
theorem sc_read_copier : FnScope N_read_copier ["world", "text"] (defScope s_read_copier) := ⟨rfl, rfl, rfl, by decide +kernel, rfl, by decide +kernel, by decide +kernel⟩
def N_Copier_eq : List Str := ["self", "other"]
theorem sc_Copier_eq : FnScope N_Copier_eq ["self", "other"] (defScope s_Copier_eq) := ⟨rfl, rfl, rfl, by decide +kernel, rfl, by decide +kernel, by decide +kernel⟩
def N_law_copiers_right : List Str := ["_law_folders_here", "_law_rules_here", "_law_steps_here", "_law_box", "_law_back", "_law_own", "_law_due"]
theorem sc_law_copiers_right : FnScope N_law_copiers_right ["_law_folders_here", "_law_rules_here", "_law_steps_here"] (defScope s_law_copiers_right) := ⟨rfl, rfl, rfl, by decide +kernel, rfl, by decide +kernel, by decide +kernel⟩
def N_law : List Str := ["_law_script", "_law_k", "_law_four", "_law_long", "_law_told", "_law_m", "_law_folders_here", "_law_every", "_law_rules_here", "_law_steps_here"]
theorem sc_law : FnScope N_law ["_law_script"] (defScope s_law) := ⟨rfl, rfl, rfl, by decide +kernel, rfl, by decide +kernel, by decide +kernel⟩
section
variable {P : Program} {w : World} {K : PySem.W.Frag} {mg : Str → Option Value} {B : Heap}

def law_begun_p1 : Ft := cTest (cOp dGe (cVar 5) (cOp dPow (cC (.int 10)) (cC (.int 18))))
def law_begun_e1 : Fe := cVar 5
def law_begun_f1 : Fs := sSet 4 (cOp dMod (cCall dInt (cCons (cOp dAdd (cOp dMul (cVar 4) (cC (.int 48271))) (cVar 5)) (cNil))) (cC (.int 2147483647)))
def B_law_begun : Fb := bSeq (sSet 2 (cOp dAdd (cSl (cVar 0) (cPart (cVar 1)) (cNoPart)) (cSl (cVar 0) (cNoPart) (cPart (cVar 1))))) (bSeq (sSet 3 (cLc (cSeqI (cVar 2)) (tgName 5) (law_begun_p1) (law_begun_e1) [5])) (bSeq (sSet 4 (cOp dAdd (cC (.int 97)) (cVar 1))) (bSeq (sFor (cSeqI (cVar 2)) (tgName 5) (law_begun_f1)) (bRet (cIf (cTest (cOp dNe (cVar 3) (cLst (cNil)))) (cOp dIx (cVar 3) (cC (.int 0))) (cC (.int 0))) (cVar 4) (cOp dAdd (cVar 2) (cLst (cCons (cOp dAdd (cOp dMul (cC (.int 31)) (cVar 1)) (cC (.int 5))) (cNil)))) (cC (.int 0))))))
def F_law_begun : List D → Option Ora := fnB N_law_begun.length B_law_begun
theorem D_law_begun (c : FK K mg) : Dbg P w K mg B 1 "_law_begun" 2 F_law_begun := by
  obtain ⟨fd, FD⟩ := c.d_law_begun
  refine begun_fn (h := B_law_begun) FD sc_law_begun c.g_law_begun rfl (fun _ _ _ _ _ _ us hl => match us, hl with | [_, _], _ => rfl) fun cv A out s H E am hg hr => ?_
  unfold B_law_begun
  exact db_cons (ds_set (i := 2) sc_law_begun.nd rfl (loc_ (by kernel_rfl)) (de_add (de_slice (de_var (i := 0) (x := "_law_script") rfl (vis_ (by kernel_rfl))) (dp_some (de_var (i := 1) (x := "_law_k") rfl (vis_ (by kernel_rfl)))) (dp_none)) (de_slice (de_var (i := 0) (x := "_law_script") rfl (vis_ (by kernel_rfl))) (dp_none) (dp_some (de_var (i := 1) (x := "_law_k") rfl (vis_ (by kernel_rfl))))))) (db_cons (ds_setLc (i := 3) (own := [("_law_cell", 5)]) rfl sc_law_begun.nd rfl (by kernel_rfl) (by kernel_rfl) (di_seq (de_var (i := 2) (x := "_law_cells") rfl (vis_ (by kernel_rfl)))) (blkB_ok (own := [("_law_cell", 5)]) (by kernel_rfl)) (fun _ _ _ _ _ => dg_name (i := 5) (x := "_law_cell") sc_law_begun.nd rfl (loc_ (by kernel_rfl))) (fun _ _ _ _ _ => dts_oneN (tGe_ (de_var (i := 5) (x := "_law_cell") rfl (vis_ (by kernel_rfl))) (de_pow (de_int) (de_int)))) (fun _ _ _ _ _ => de_var (i := 5) (x := "_law_cell") rfl (vis_ (by kernel_rfl)))) (db_cons (ds_set (i := 4) sc_law_begun.nd rfl (loc_ (by kernel_rfl)) (de_add (de_int) (de_var (i := 1) (x := "_law_k") rfl (vis_ (by kernel_rfl))))) (db_cons (ds_for (vs := [5]) (passes_of rfl) rfl (di_seq (de_var (i := 2) (x := "_law_cells") rfl (vis_ (by kernel_rfl)))) (dg_name (i := 5) (x := "_law_cell") sc_law_begun.nd rfl (loc_ (by kernel_rfl))) (dss_one (ds_set (i := 4) sc_law_begun.nd rfl (loc_ (by kernel_rfl)) (de_mod (de_callTy dc_int call_int1 (gl_ (by kernel_rfl)) c.n_int (by kernel_rfl) (da_cons (de_add (de_mul (de_var (i := 4) (x := "_law_seed") rfl (vis_ (by kernel_rfl))) (de_int)) (de_var (i := 5) (x := "_law_cell") rfl (vis_ (by kernel_rfl)))) (da_nil))) (de_int))))) (db_ret (de_if (tNe hr (de_var (i := 3) (x := "_law_great") rfl (vis_ (by kernel_rfl))) (de_lst (da_nil))) (de_ix ix_all dop_ix (de_var (i := 3) (x := "_law_great") rfl (vis_ (by kernel_rfl))) (de_int)) (de_int)) (de_var (i := 4) (x := "_law_seed") rfl (vis_ (by kernel_rfl))) (de_add (de_var (i := 2) (x := "_law_cells") rfl (vis_ (by kernel_rfl))) (de_lst (da_cons (de_add (de_mul (de_int) (de_var (i := 1) (x := "_law_k") rfl (vis_ (by kernel_rfl)))) (de_int)) (da_nil)))) (de_int)))))

def B_law_draw : Fs := sSeq (sIf (cTest (cOp dGt (cOra 0 "left") (cC (.int 0)))) (sSeq (sSet 5 (cOp dMod (cCall dInt (cCons (cOra 0 "left") (cNil))) (cVar 1))) (sSeq (sOraP 0 "left" (cOp dFdiv (cOra 0 "left") (cVar 1))) (sRet (cVar 5)))) (sPass)) (sSeq (sSet 2 (cOra 0 "spot")) (sSeq (sOraP 0 "spot" (cOp dAdd (cVar 2) (cC (.int 1)))) (sSeq (sPar [6, 7] (osCons (oIm (cOra 0 "cells")) (osCons (oIm (cOp dAdd (cOra 0 "seed") (cOp dMul (cOp dMul (cC (.int 40503)) (cVar 2)) (cVar 2)))) (osNil)))) (sSeq (sSet 3 (cOp dIx (cVar 6) (cOp dMod (cCall dInt (cCons (cVar 2) (cNil))) (cCall dLen (cCons (cVar 6) (cNil)))))) (sSeq (sSet 4 (cOp dMod (cCall dInt (cCons (cOp dAdd (cOp dMul (cVar 3) (cOp dAdd (cOp dMul (cC (.int 2)) (cVar 2)) (cC (.int 3)))) (cVar 7)) (cNil))) (cC (.int 2147483647)))) (sSeq (sSet 4 (cOp dMod (cCall dInt (cCons (cOp dAdd (cOp dAdd (cOp dMul (cVar 4) (cVar 4)) (cOp dMul (cC (.int 69621)) (cVar 2))) (cOra 0 "seed")) (cNil))) (cC (.int 2147483629)))) (sRet (cOp dMod (cOp dFdiv (cOp dMod (cCall dInt (cCons (cOp dAdd (cOp dMul (cVar 4) (cC (.int 48271))) (cVar 2)) (cNil))) (cC (.int 2147483647))) (cC (.int 11))) (cVar 1)))))))))
def F_law_draw : Fd := fnD N_law_draw.length B_law_draw
theorem D_law_draw (c : FK K mg) : Df P w K mg B 1 "_law_draw" 2 F_law_draw := by
  obtain ⟨fd, FD⟩ := c.d_law_draw
  refine df_fn (g := B_law_draw) FD sc_law_draw c.g_law_draw rfl (fun _ _ _ _ _ _ us hl => match us, hl with | [_, _], _ => rfl) fun cv A out s H E a hg hr => ?_
  unfold B_law_draw
  exact dss_cons (ds_if (tGt_ (de_ora (i := 0) (x := "_law_m") (un1 hr) rfl (vis_ (by kernel_rfl))) (de_int)) (dss_cons (ds_set (i := 5) sc_law_draw.nd rfl (loc_ (by kernel_rfl)) (de_mod (de_callTy dc_int call_int1 (gl_ (by kernel_rfl)) c.n_int (by kernel_rfl) (da_cons (de_ora (i := 0) (x := "_law_m") (un1 hr) rfl (vis_ (by kernel_rfl))) (da_nil))) (de_var (i := 1) (x := "_law_many") rfl (vis_ (by kernel_rfl))))) (dss_cons (ds_oraP (i := 0) (un1 hr) rfl (vis_ (by kernel_rfl)) (de_fdiv (de_ora (i := 0) (x := "_law_m") (un1 hr) rfl (vis_ (by kernel_rfl))) (de_var (i := 1) (x := "_law_many") rfl (vis_ (by kernel_rfl))))) (dss_one (ds_ret (de_var (i := 5) (x := "_law_found") rfl (vis_ (by kernel_rfl))))))) (dss_nil)) (dss_cons (ds_set (i := 2) sc_law_draw.nd rfl (loc_ (by kernel_rfl)) (de_ora (i := 0) (x := "_law_m") (un1 hr) rfl (vis_ (by kernel_rfl)))) (dss_cons (ds_oraP (i := 0) (un1 hr) rfl (vis_ (by kernel_rfl)) (de_add (de_var (i := 2) (x := "_law_spot") rfl (vis_ (by kernel_rfl))) (de_int))) (dss_cons (ds_par2 (i := 6) (j := 7) rfl sc_law_draw.nd rfl rfl (by decide) (by kernel_rfl) (by kernel_rfl) (dos_cons (do_im (de_ora (i := 0) (x := "_law_m") (un1 hr) rfl (vis_ (by kernel_rfl)))) (dos_cons (do_im (de_add (de_ora (i := 0) (x := "_law_m") (un1 hr) rfl (vis_ (by kernel_rfl))) (de_mul (de_mul (de_int) (de_var (i := 2) (x := "_law_spot") rfl (vis_ (by kernel_rfl)))) (de_var (i := 2) (x := "_law_spot") rfl (vis_ (by kernel_rfl)))))) (dos_nil))) (by kernel_rfl)) (dss_cons (ds_set (i := 3) sc_law_draw.nd rfl (loc_ (by kernel_rfl)) (de_ix ix_all dop_ix (de_var (i := 6) (x := "_law_cells") rfl (vis_ (by kernel_rfl))) (de_mod (de_callTy dc_int call_int1 (gl_ (by kernel_rfl)) c.n_int (by kernel_rfl) (da_cons (de_var (i := 2) (x := "_law_spot") rfl (vis_ (by kernel_rfl))) (da_nil))) (de_callB dc_len call_lenA (gl_ (by kernel_rfl)) c.n_len (by kernel_rfl) (da_cons (de_var (i := 6) (x := "_law_cells") rfl (vis_ (by kernel_rfl))) (da_nil)))))) (dss_cons (ds_set (i := 4) sc_law_draw.nd rfl (loc_ (by kernel_rfl)) (de_mod (de_callTy dc_int call_int1 (gl_ (by kernel_rfl)) c.n_int (by kernel_rfl) (da_cons (de_add (de_mul (de_var (i := 3) (x := "_law_cell") rfl (vis_ (by kernel_rfl))) (de_add (de_mul (de_int) (de_var (i := 2) (x := "_law_spot") rfl (vis_ (by kernel_rfl)))) (de_int))) (de_var (i := 7) (x := "_law_added") rfl (vis_ (by kernel_rfl)))) (da_nil))) (de_int))) (dss_cons (ds_set (i := 4) sc_law_draw.nd rfl (loc_ (by kernel_rfl)) (de_mod (de_callTy dc_int call_int1 (gl_ (by kernel_rfl)) c.n_int (by kernel_rfl) (da_cons (de_add (de_add (de_mul (de_var (i := 4) (x := "_law_blend") rfl (vis_ (by kernel_rfl))) (de_var (i := 4) (x := "_law_blend") rfl (vis_ (by kernel_rfl)))) (de_mul (de_int) (de_var (i := 2) (x := "_law_spot") rfl (vis_ (by kernel_rfl))))) (de_ora (i := 0) (x := "_law_m") (un1 hr) rfl (vis_ (by kernel_rfl)))) (da_nil))) (de_int))) (dss_one (ds_ret (de_mod (de_fdiv (de_mod (de_callTy dc_int call_int1 (gl_ (by kernel_rfl)) c.n_int (by kernel_rfl) (da_cons (de_add (de_mul (de_var (i := 4) (x := "_law_blend") rfl (vis_ (by kernel_rfl))) (de_int)) (de_var (i := 2) (x := "_law_spot") rfl (vis_ (by kernel_rfl)))) (da_nil))) (de_int)) (de_int)) (de_var (i := 1) (x := "_law_many") rfl (vis_ (by kernel_rfl))))))))))))

def law_folders_f1 : Fs := sApp 4 (cPopAt 3 (cFn F_law_draw (cCons (cVar 0) (cCons (cCallO dLen 3) (cNil)))))
def B_law_folders : Fs := sSeq (sPar [3, 4] (osCons (oLst (cCons (cC (.str "a")) (cCons (cC (.str "b")) (cCons (cC (.str "ab")) (cCons (cC (.str "ba")) (cCons (cC (.str "zz")) (cCons (cC (.str "q")) (cCons (cC (.str "abcdefgh")) (cCons (cC (.str "m")) (cNil)))))))))) (osCons (oLst (cNil)) (osNil)))) (sSeq (sFor (cRng1 (cCons (cOp dAdd (cC (.int 1)) (cFn F_law_draw (cCons (cVar 0) (cCons (cVar 1) (cNil))))) (cNil))) (tgName 2) (law_folders_f1)) (sRet (cCall dTuple (cCons (cCall dSorted (cCons (cGive 4) (cNil))) (cNil)))))
def F_law_folders : Fd := fnD N_law_folders.length B_law_folders
theorem D_law_folders (c : FK K mg) (H_law_draw : Df P w K mg B 1 "_law_draw" 2 F_law_draw) : Df P w K mg B 2 "_law_folders" 2 F_law_folders := by
  obtain ⟨fd, FD⟩ := c.d_law_folders
  refine df_fn (g := B_law_folders) FD sc_law_folders c.g_law_folders rfl (fun _ _ _ _ _ _ us hl => match us, hl with | [_, _], _ => rfl) fun cv A out s H E a hg hr => ?_
  unfold B_law_folders
  exact dss_cons (ds_par2 (i := 3) (j := 4) rfl sc_law_folders.nd rfl rfl (by decide) (by kernel_rfl) (by kernel_rfl) (dos_cons (do_lst (da_cons (de_str) (da_cons (de_str) (da_cons (de_str) (da_cons (de_str) (da_cons (de_str) (da_cons (de_str) (da_cons (de_str) (da_cons (de_str) (da_nil)))))))))) (dos_cons (do_lst (da_nil)) (dos_nil))) (by kernel_rfl)) (dss_cons (ds_for (vs := [2]) (passes_of rfl) rfl (di_range1 (gl_ (by kernel_rfl)) c.n_range (da_cons (de_add (de_int) (de_call ((H_law_draw).mono (by decide)) hg hr takesC (gl_ (by kernel_rfl)) (da_cons (de_var (i := 0) (x := "_law_m") rfl (vis_ (by kernel_rfl))) (da_cons (de_var (i := 1) (x := "_law_most") rfl (vis_ (by kernel_rfl))) (da_nil))) (len_cons (len_cons (len_nil))))) (da_nil))) (dg_name (i := 2) (x := "_law_k") sc_law_folders.nd rfl (loc_ (by kernel_rfl))) (dss_one (ds_app (i := 4) rfl (vis_ (by kernel_rfl)) (de_popAt (i := 3) rfl (vis_ (by kernel_rfl)) (de_call ((H_law_draw).mono (by decide)) hg hr takesC (gl_ (by kernel_rfl)) (da_cons (de_var (i := 0) (x := "_law_m") rfl (vis_ (by kernel_rfl))) (da_cons (de_callBO (i := 3) (x := "_law_rest") dc_len call_lenA (gl_ (by kernel_rfl)) c.n_len (by kernel_rfl) rfl (vis_ (by kernel_rfl))) (da_nil))) (len_cons (len_cons (len_nil)))))))) (dss_one (ds_ret (de_callTy dc_tuple call_tuple_of (gl_ (by kernel_rfl)) c.n_tuple (by kernel_rfl) (da_cons (de_callB dc_sorted (call_sorted (un70 hr)) (gl_ (by kernel_rfl)) c.n_sorted (by kernel_rfl) (da_cons (de_give (i := 4) (x := "_law_found") rfl (vis_ (by kernel_rfl))) (da_nil))) (da_nil))))))

def B_law_of : Fs := sRet (cOp dIx (cVar 1) (cFn F_law_draw (cCons (cVar 0) (cCons (cCall dLen (cCons (cVar 1) (cNil))) (cNil)))))
def F_law_of : Fd := fnD N_law_of.length B_law_of
theorem D_law_of (c : FK K mg) (H_law_draw : Df P w K mg B 1 "_law_draw" 2 F_law_draw) : Df P w K mg B 2 "_law_of" 2 F_law_of := by
  obtain ⟨fd, FD⟩ := c.d_law_of
  refine df_fn (g := B_law_of) FD sc_law_of c.g_law_of rfl (fun _ _ _ _ _ _ us hl => match us, hl with | [_, _], _ => rfl) fun cv A out s H E a hg hr => ?_
  unfold B_law_of
  exact dss_one (ds_ret (de_ix ix_all dop_ix (de_var (i := 1) (x := "_law_some") rfl (vis_ (by kernel_rfl))) (de_call ((H_law_draw).mono (by decide)) hg hr takesC (gl_ (by kernel_rfl)) (da_cons (de_var (i := 0) (x := "_law_m") rfl (vis_ (by kernel_rfl))) (da_cons (de_callB dc_len call_lenA (gl_ (by kernel_rfl)) c.n_len (by kernel_rfl) (da_cons (de_var (i := 1) (x := "_law_some") rfl (vis_ (by kernel_rfl))) (da_nil))) (da_nil))) (len_cons (len_cons (len_nil))))))

def law_any_folders_e1 : Fe := cFn F_law_of (cCons (cVar 0) (cCons (cVar 3) (cNil)))
def law_any_folders_f1 : Fs := sSeq (sSet 7 (cFn F_law_draw (cCons (cVar 0) (cCons (cCall dLen (cCons (cVar 4) (cNil))) (cNil))))) (sSeq (sSet 8 (cOp dAdd (cOp dAdd (cSl (cVar 4) (cNoPart) (cPart (cVar 7))) (cFn F_law_of (cCons (cVar 0) (cCons (cVar 3) (cNil))))) (cSl (cVar 4) (cPart (cOp dAdd (cVar 7) (cC (.int 1)))) (cNoPart)))) (sSeq (sSet 9 (cIf (cTest (cOp dEq (cVar 1) (cC (.int 1)))) (cFn F_law_of (cCons (cVar 0) (cCons (cVar 2) (cNil)))) (cVar 8))) (sIf (cTest (cOpO dNotInS (cVar 9) 5)) (sApp 5 (cVar 9)) (sPass))))
def B_law_any_folders : Fs := sSeq (sSet 1 (cFn F_law_draw (cCons (cVar 0) (cCons (cC (.int 3)) (cNil))))) (sSeq (sIf (cTest (cOp dEq (cVar 1) (cC (.int 0)))) (sRet (cFn F_law_folders (cCons (cVar 0) (cCons (cC (.int 4)) (cNil))))) (sPass)) (sSeq (sSet 2 (cLst (cCons (cC (.str "folders")) (cCons (cC (.str "make")) (cCons (cC (.str "drop")) (cCons (cC (.str "link")) (cCons (cC (.str "move")) (cCons (cC (.str "look")) (cCons (cC (.str "check")) (cCons (cC (.str "sure")) (cCons (cC (.str "hold")) (cCons (cC (.str "free")) (cCons (cC (.str "tick")) (cNil)))))))))))))) (sSeq (sSet 3 (cC (.str "abcdefghijklmnopqrstuvwxyz"))) (sSeq (sSet 4 (cM1 dJoin (cC (.str "")) (cLc (cRng1 (cCons (cOp dAdd (cC (.int 1)) (cFn F_law_draw (cCons (cVar 0) (cCons (cC (.int 8)) (cNil))))) (cNil))) (tgName 6) (cYes) (law_any_folders_e1) [6]))) (sSeq (sPar [5] (osCons (oLst (cCons (cIf (cTest (cOp dEq (cVar 1) (cC (.int 1)))) (cFn F_law_of (cCons (cVar 0) (cCons (cVar 2) (cNil)))) (cVar 4)) (cNil))) osNil)) (sSeq (sFor (cRng1 (cCons (cFn F_law_draw (cCons (cVar 0) (cCons (cC (.int 4)) (cNil)))) (cNil))) (tgName 6) (law_any_folders_f1)) (sRet (cCall dTuple (cCons (cCall dSorted (cCons (cGive 5) (cNil))) (cNil))))))))))
def F_law_any_folders : Fd := fnD N_law_any_folders.length B_law_any_folders
theorem D_law_any_folders (c : FK K mg) (H_law_draw : Df P w K mg B 1 "_law_draw" 2 F_law_draw) (H_law_folders : Df P w K mg B 2 "_law_folders" 2 F_law_folders) (H_law_of : Df P w K mg B 2 "_law_of" 2 F_law_of) : Df P w K mg B 3 "_law_any_folders" 1 F_law_any_folders := by
  obtain ⟨fd, FD⟩ := c.d_law_any_folders
  refine df_fn (g := B_law_any_folders) FD sc_law_any_folders c.g_law_any_folders rfl (fun _ _ _ _ _ _ us hl => match us, hl with | [_], _ => rfl) fun cv A out s H E a hg hr => ?_
  unfold B_law_any_folders
  exact dss_cons (ds_set (i := 1) sc_law_any_folders.nd rfl (loc_ (by kernel_rfl)) (de_call ((H_law_draw).mono (by decide)) hg hr takesC (gl_ (by kernel_rfl)) (da_cons (de_var (i := 0) (x := "_law_m") rfl (vis_ (by kernel_rfl))) (da_cons (de_int) (da_nil))) (len_cons (len_cons (len_nil))))) (dss_cons (ds_if (tEq hr (de_var (i := 1) (x := "_law_way") rfl (vis_ (by kernel_rfl))) (de_int)) (dss_one (ds_ret (de_call ((H_law_folders).mono (by decide)) hg hr takesC (gl_ (by kernel_rfl)) (da_cons (de_var (i := 0) (x := "_law_m") rfl (vis_ (by kernel_rfl))) (da_cons (de_int) (da_nil))) (len_cons (len_cons (len_nil)))))) (dss_nil)) (dss_cons (ds_set (i := 2) sc_law_any_folders.nd rfl (loc_ (by kernel_rfl)) (de_lst (da_cons (de_str) (da_cons (de_str) (da_cons (de_str) (da_cons (de_str) (da_cons (de_str) (da_cons (de_str) (da_cons (de_str) (da_cons (de_str) (da_cons (de_str) (da_cons (de_str) (da_cons (de_str) (da_nil)))))))))))))) (dss_cons (ds_set (i := 3) sc_law_any_folders.nd rfl (loc_ (by kernel_rfl)) (de_str)) (dss_cons (ds_set (i := 4) sc_law_any_folders.nd rfl (loc_ (by kernel_rfl)) (de_join (de_str) (de_lc (own := [("_law_k", 6)]) rfl sc_law_any_folders.nd (di_range1 (gl_ (by kernel_rfl)) c.n_range (da_cons (de_add (de_int) (de_call ((H_law_draw).mono (by decide)) hg hr takesC (gl_ (by kernel_rfl)) (da_cons (de_var (i := 0) (x := "_law_m") rfl (vis_ (by kernel_rfl))) (da_cons (de_int) (da_nil))) (len_cons (len_cons (len_nil))))) (da_nil))) (blkB_ok (own := [("_law_k", 6)]) (by kernel_rfl)) (fun _ _ _ _ _ => dg_name (i := 6) (x := "_law_k") sc_law_any_folders.nd rfl (loc_ (by kernel_rfl))) (fun _ _ _ _ _ => dts_nilN) (fun _ _ _ _ _ => de_call ((H_law_of).mono (by decide)) hg hr takes_noE (gl_ (by kernel_rfl)) (da_cons (de_var (i := 0) (x := "_law_m") rfl (vis_ (by kernel_rfl))) (da_cons (de_var (i := 3) (x := "_law_letters") rfl (vis_ (by kernel_rfl))) (da_nil))) (len_cons (len_cons (len_nil))))))) (dss_cons (ds_setO (i := 5) sc_law_any_folders.nd rfl (loc_ (by kernel_rfl)) (do_lst (da_cons (de_if (tEq hr (de_var (i := 1) (x := "_law_way") rfl (vis_ (by kernel_rfl))) (de_int)) (de_call ((H_law_of).mono (by decide)) hg hr takesC (gl_ (by kernel_rfl)) (da_cons (de_var (i := 0) (x := "_law_m") rfl (vis_ (by kernel_rfl))) (da_cons (de_var (i := 2) (x := "_law_words") rfl (vis_ (by kernel_rfl))) (da_nil))) (len_cons (len_cons (len_nil)))) (de_var (i := 4) (x := "_law_base") rfl (vis_ (by kernel_rfl)))) (da_nil)))) (dss_cons (ds_for (vs := [6]) (passes_of rfl) rfl (di_range1 (gl_ (by kernel_rfl)) c.n_range (da_cons (de_call ((H_law_draw).mono (by decide)) hg hr takesC (gl_ (by kernel_rfl)) (da_cons (de_var (i := 0) (x := "_law_m") rfl (vis_ (by kernel_rfl))) (da_cons (de_int) (da_nil))) (len_cons (len_cons (len_nil)))) (da_nil))) (dg_name (i := 6) (x := "_law_k") sc_law_any_folders.nd rfl (loc_ (by kernel_rfl))) (dss_cons (ds_set (i := 7) sc_law_any_folders.nd rfl (loc_ (by kernel_rfl)) (de_call ((H_law_draw).mono (by decide)) hg hr takesC (gl_ (by kernel_rfl)) (da_cons (de_var (i := 0) (x := "_law_m") rfl (vis_ (by kernel_rfl))) (da_cons (de_callB dc_len call_lenA (gl_ (by kernel_rfl)) c.n_len (by kernel_rfl) (da_cons (de_var (i := 4) (x := "_law_base") rfl (vis_ (by kernel_rfl))) (da_nil))) (da_nil))) (len_cons (len_cons (len_nil))))) (dss_cons (ds_set (i := 8) sc_law_any_folders.nd rfl (loc_ (by kernel_rfl)) (de_add (de_add (de_slice (de_var (i := 4) (x := "_law_base") rfl (vis_ (by kernel_rfl))) (dp_none) (dp_some (de_var (i := 7) (x := "_law_spot") rfl (vis_ (by kernel_rfl))))) (de_call ((H_law_of).mono (by decide)) hg hr takesC (gl_ (by kernel_rfl)) (da_cons (de_var (i := 0) (x := "_law_m") rfl (vis_ (by kernel_rfl))) (da_cons (de_var (i := 3) (x := "_law_letters") rfl (vis_ (by kernel_rfl))) (da_nil))) (len_cons (len_cons (len_nil))))) (de_slice (de_var (i := 4) (x := "_law_base") rfl (vis_ (by kernel_rfl))) (dp_some (de_add (de_var (i := 7) (x := "_law_spot") rfl (vis_ (by kernel_rfl))) (de_int))) (dp_none)))) (dss_cons (ds_set (i := 9) sc_law_any_folders.nd rfl (loc_ (by kernel_rfl)) (de_if (tEq hr (de_var (i := 1) (x := "_law_way") rfl (vis_ (by kernel_rfl))) (de_int)) (de_call ((H_law_of).mono (by decide)) hg hr takesC (gl_ (by kernel_rfl)) (da_cons (de_var (i := 0) (x := "_law_m") rfl (vis_ (by kernel_rfl))) (da_cons (de_var (i := 2) (x := "_law_words") rfl (vis_ (by kernel_rfl))) (da_nil))) (len_cons (len_cons (len_nil)))) (de_var (i := 8) (x := "_law_near") rfl (vis_ (by kernel_rfl))))) (dss_one (ds_if (dt_cmpO (op_notInAll (un65 hr)) dop_notIn (de_var (i := 9) (x := "_law_name") rfl (vis_ (by kernel_rfl))) (i := 5) (x := "_law_found") rfl (vis_ (by kernel_rfl))) (dss_one (ds_app (i := 5) rfl (vis_ (by kernel_rfl)) (de_var (i := 9) (x := "_law_name") rfl (vis_ (by kernel_rfl))))) (dss_nil))))))) (dss_one (ds_ret (de_callTy dc_tuple call_tuple_of (gl_ (by kernel_rfl)) c.n_tuple (by kernel_rfl) (da_cons (de_callB dc_sorted (call_sorted (un70 hr)) (gl_ (by kernel_rfl)) c.n_sorted (by kernel_rfl) (da_cons (de_give (i := 5) (x := "_law_found") rfl (vis_ (by kernel_rfl))) (da_nil))) (da_nil)))))))))))

def law_every_rule_e1 : Fe := cTup (cCons (cC (.str "drop")) (cCons (cVar 3) (cNil)))
def law_every_rule_p2 : Ft := cTest (cOp dNe (cVar 4) (cVar 3))
def law_every_rule_e2 : Fe := cTup (cCons (cVar 2) (cCons (cVar 3) (cCons (cVar 4) (cNil))))
def law_every_rule_f2 : Fs := sSet 1 (cOp dAdd (cVar 1) (cLc (cSeqI (cVar 0)) (tgName 4) (law_every_rule_p2) (law_every_rule_e2) [4]))
def law_every_rule_f1 : Fs := sFor (cSeqI (cVar 0)) (tgName 3) (law_every_rule_f2)
def law_every_rule_e3 : Fe := cTup (cCons (cC (.str "make")) (cCons (cVar 3) (cNil)))
def B_law_every_rule : Fs := sSeq (sSet 1 (cLc (cSeqI (cVar 0)) (tgName 3) (cYes) (law_every_rule_e1) [3])) (sSeq (sFor (cSeqI (cTup (cCons (cC (.str "link")) (cCons (cC (.str "move")) (cNil))))) (tgName 2) (law_every_rule_f1)) (sRet (cCall dSorted (cCons (cOp dAdd (cVar 1) (cLc (cSeqI (cVar 0)) (tgName 3) (cYes) (law_every_rule_e3) [3])) (cNil)))))
def F_law_every_rule : Fd := fnD N_law_every_rule.length B_law_every_rule
theorem D_law_every_rule (c : FK K mg) : Df P w K mg B 1 "_law_every_rule" 1 F_law_every_rule := by
  obtain ⟨fd, FD⟩ := c.d_law_every_rule
  refine df_fn (g := B_law_every_rule) FD sc_law_every_rule c.g_law_every_rule rfl (fun _ _ _ _ _ _ us hl => match us, hl with | [_], _ => rfl) fun cv A out s H E a hg hr => ?_
  unfold B_law_every_rule
  exact dss_cons (ds_setLc (i := 1) (own := [("_law_x", 3)]) rfl sc_law_every_rule.nd rfl (by kernel_rfl) (by kernel_rfl) (di_seq (de_var (i := 0) (x := "_law_folders_here") rfl (vis_ (by kernel_rfl)))) (blkB_ok (own := [("_law_x", 3)]) (by kernel_rfl)) (fun _ _ _ _ _ => dg_name (i := 3) (x := "_law_x") sc_law_every_rule.nd rfl (loc_ (by kernel_rfl))) (fun _ _ _ _ _ => dts_nilN) (fun _ _ _ _ _ => de_tup (da_cons (de_str) (da_cons (de_var (i := 3) (x := "_law_x") rfl (vis_ (by kernel_rfl))) (da_nil))))) (dss_cons (ds_for (vs := [2]) (passes_of rfl) rfl (di_seq (de_tup (da_cons (de_str) (da_cons (de_str) (da_nil))))) (dg_name (i := 2) (x := "_law_word") sc_law_every_rule.nd rfl (loc_ (by kernel_rfl))) (dss_one (ds_for (vs := [3]) (passes_of rfl) rfl (di_seq (de_var (i := 0) (x := "_law_folders_here") rfl (vis_ (by kernel_rfl)))) (dg_name (i := 3) (x := "_law_x") sc_law_every_rule.nd rfl (loc_ (by kernel_rfl))) (dss_one (ds_set (i := 1) sc_law_every_rule.nd rfl (loc_ (by kernel_rfl)) (de_add (de_var (i := 1) (x := "_law_found") rfl (vis_ (by kernel_rfl))) (de_lc (own := [("_law_y", 4)]) rfl sc_law_every_rule.nd (di_seq (de_var (i := 0) (x := "_law_folders_here") rfl (vis_ (by kernel_rfl)))) (blkB_ok (own := [("_law_y", 4)]) (by kernel_rfl)) (fun _ _ _ _ _ => dg_name (i := 4) (x := "_law_y") sc_law_every_rule.nd rfl (loc_ (by kernel_rfl))) (fun _ _ _ _ _ => dts_oneN (tNe hr (de_var (i := 4) (x := "_law_y") rfl (vis_ (by kernel_rfl))) (de_var (i := 3) (x := "_law_x") rfl (vis_ (by kernel_rfl))))) (fun _ _ _ _ _ => de_tup (da_cons (de_var (i := 2) (x := "_law_word") rfl (vis_ (by kernel_rfl))) (da_cons (de_var (i := 3) (x := "_law_x") rfl (vis_ (by kernel_rfl))) (da_cons (de_var (i := 4) (x := "_law_y") rfl (vis_ (by kernel_rfl))) (da_nil)))))))))))) (dss_one (ds_ret (de_callB dc_sorted (call_sorted (un70 hr)) (gl_ (by kernel_rfl)) c.n_sorted (by kernel_rfl) (da_cons (de_add (de_var (i := 1) (x := "_law_found") rfl (vis_ (by kernel_rfl))) (de_lc (own := [("_law_x", 3)]) rfl sc_law_every_rule.nd (di_seq (de_var (i := 0) (x := "_law_folders_here") rfl (vis_ (by kernel_rfl)))) (blkB_ok (own := [("_law_x", 3)]) (by kernel_rfl)) (fun _ _ _ _ _ => dg_name (i := 3) (x := "_law_x") sc_law_every_rule.nd rfl (loc_ (by kernel_rfl))) (fun _ _ _ _ _ => dts_nilN) (fun _ _ _ _ _ => de_tup (da_cons (de_str) (da_cons (de_var (i := 3) (x := "_law_x") rfl (vis_ (by kernel_rfl))) (da_nil)))))) (da_nil))))))

def law_rules_p1 : Ft := cOr (cTest (cOp dGt (cVar 2) (cC (.int 0)))) (cTest (cOp dEq (cOp dIx (cVar 4) (cC (.int 0))) (cC (.str "move"))))
def law_rules_e1 : Fe := cVar 4
def law_rules_p2 : Ft := cTest (cOp dLt (cFn F_law_draw (cCons (cVar 0) (cCons (cC (.int 6)) (cNil)))) (cOp dAdd (cC (.int 2)) (cVar 2)))
def law_rules_e2 : Fe := cVar 4
def B_law_rules : Fs := sSeq (sSet 2 (cFn F_law_draw (cCons (cVar 0) (cCons (cC (.int 4)) (cNil))))) (sSeq (sSet 3 (cLc (cSeqI (cFn F_law_every_rule (cCons (cVar 1) (cNil)))) (tgName 4) (law_rules_p1) (law_rules_e1) [4])) (sRet (cCall dTuple (cCons (cLc (cSeqI (cVar 3)) (tgName 4) (law_rules_p2) (law_rules_e2) [4]) (cNil)))))
def F_law_rules : Fd := fnD N_law_rules.length B_law_rules
theorem D_law_rules (c : FK K mg) (H_law_draw : Df P w K mg B 1 "_law_draw" 2 F_law_draw) (H_law_every_rule : Df P w K mg B 1 "_law_every_rule" 1 F_law_every_rule) : Df P w K mg B 2 "_law_rules" 2 F_law_rules := by
  obtain ⟨fd, FD⟩ := c.d_law_rules
  refine df_fn (g := B_law_rules) FD sc_law_rules c.g_law_rules rfl (fun _ _ _ _ _ _ us hl => match us, hl with | [_, _], _ => rfl) fun cv A out s H E a hg hr => ?_
  unfold B_law_rules
  exact dss_cons (ds_set (i := 2) sc_law_rules.nd rfl (loc_ (by kernel_rfl)) (de_call ((H_law_draw).mono (by decide)) hg hr takesC (gl_ (by kernel_rfl)) (da_cons (de_var (i := 0) (x := "_law_m") rfl (vis_ (by kernel_rfl))) (da_cons (de_int) (da_nil))) (len_cons (len_cons (len_nil))))) (dss_cons (ds_setLc (i := 3) (own := [("_law_rule", 4)]) rfl sc_law_rules.nd rfl (by kernel_rfl) (by kernel_rfl) (di_seq (de_call ((H_law_every_rule).mono (by decide)) hg hr takesC (gl_ (by kernel_rfl)) (da_cons (de_var (i := 1) (x := "_law_folders_here") rfl (vis_ (by kernel_rfl))) (da_nil)) (len_cons (len_nil)))) (blkB_ok (own := [("_law_rule", 4)]) (by kernel_rfl)) (fun _ _ _ _ _ => dg_name (i := 4) (x := "_law_rule") sc_law_rules.nd rfl (loc_ (by kernel_rfl))) (fun _ _ _ _ _ => dts_oneN (dt_bool (dw_or (tGt_ (de_var (i := 2) (x := "_law_way") rfl (vis_ (by kernel_rfl))) (de_int)) (dw_or1 (tEq hr (de_ix ix_all dop_ix (de_var (i := 4) (x := "_law_rule") rfl (vis_ (by kernel_rfl))) (de_int)) (de_str)))))) (fun _ _ _ _ _ => de_var (i := 4) (x := "_law_rule") rfl (vis_ (by kernel_rfl)))) (dss_one (ds_ret (de_callTy dc_tuple call_tuple_of (gl_ (by kernel_rfl)) c.n_tuple (by kernel_rfl) (da_cons (de_lc (own := [("_law_rule", 4)]) rfl sc_law_rules.nd (di_seq (de_var (i := 3) (x := "_law_some") rfl (vis_ (by kernel_rfl)))) (blkB_ok (own := [("_law_rule", 4)]) (by kernel_rfl)) (fun _ _ _ _ _ => dg_name (i := 4) (x := "_law_rule") sc_law_rules.nd rfl (loc_ (by kernel_rfl))) (fun _ _ _ _ _ => dts_oneN (tLt_ (de_call ((H_law_draw).mono (by decide)) hg hr takes_noE (gl_ (by kernel_rfl)) (da_cons (de_var (i := 0) (x := "_law_m") rfl (vis_ (by kernel_rfl))) (da_cons (de_int) (da_nil))) (len_cons (len_cons (len_nil)))) (de_add (de_int) (de_var (i := 2) (x := "_law_way") rfl (vis_ (by kernel_rfl)))))) (fun _ _ _ _ _ => de_var (i := 4) (x := "_law_rule") rfl (vis_ (by kernel_rfl)))) (da_nil))))))

def law_steps_f1 : Fs := sSeq (sPar [7, 8] (osCons (oIm (cFn F_law_draw (cCons (cVar 0) (cCons (cC (.int 11)) (cNil))))) (osCons (oIm (cFn F_law_of (cCons (cVar 0) (cCons (cVar 1) (cNil))))) (osNil)))) (sIf (cTest (cOp dLt (cVar 7) (cC (.int 4)))) (sSeq (sApp 6 (cTup (cCons (cC (.str "look")) (cCons (cVar 8) (cNil))))) (sApp 4 (cVar 8))) (sIf (cTest (cOp dLt (cVar 7) (cC (.int 6)))) (sApp 6 (cTup (cCons (cC (.str "tick")) (cNil)))) (sIf (cAnd (cTest (cOp dLt (cVar 7) (cC (.int 9)))) (cTest (cOpO dIn (cVar 8) 4))) (sApp 6 (cTup (cCons (cOp dIx (cLst (cCons (cC (.str "check")) (cCons (cC (.str "sure")) (cCons (cC (.str "sure")) (cNil))))) (cOp dSub (cVar 7) (cC (.int 6)))) (cCons (cVar 8) (cNil))))) (sIf (cTest (cOpO dIn (cVar 8) 5)) (sSeq (sApp 6 (cTup (cCons (cC (.str "free")) (cCons (cVar 8) (cNil))))) (sRem 5 (cVar 8))) (sSeq (sApp 6 (cTup (cCons (cC (.str "hold")) (cCons (cVar 8) (cNil))))) (sApp 5 (cVar 8)))))))
def B_law_steps : Fs := sSeq (sPar [4, 5, 6] (osCons (oLst (cNil)) (osCons (oLst (cNil)) (osCons (oLst (cNil)) (osNil))))) (sSeq (sFor (cRng1 (cCons (cFn F_law_draw (cCons (cVar 0) (cCons (cVar 2) (cNil)))) (cNil))) (tgName 3) (law_steps_f1)) (sRet (cCall dTuple (cCons (cIf (cTest (cOpOL dNe 4 (cLst (cNil)))) (cGive 6) (cOp dAdd (cGive 6) (cLst (cCons (cTup (cCons (cC (.str "look")) (cCons (cFn F_law_of (cCons (cVar 0) (cCons (cVar 1) (cNil)))) (cNil)))) (cNil))))) (cNil)))))
def F_law_steps : Fd := fnD N_law_steps.length B_law_steps
theorem D_law_steps (c : FK K mg) (H_law_draw : Df P w K mg B 1 "_law_draw" 2 F_law_draw) (H_law_of : Df P w K mg B 2 "_law_of" 2 F_law_of) : Df P w K mg B 3 "_law_steps" 3 F_law_steps := by
  obtain ⟨fd, FD⟩ := c.d_law_steps
  refine df_fn (g := B_law_steps) FD sc_law_steps c.g_law_steps rfl (fun _ _ _ _ _ _ us hl => match us, hl with | [_, _, _], _ => rfl) fun cv A out s H E a hg hr => ?_
  unfold B_law_steps
  exact dss_cons (ds_par3 (i := 4) (j := 5) (l := 6) rfl sc_law_steps.nd rfl rfl rfl (by decide) (by decide) (by decide) (by kernel_rfl) (by kernel_rfl) (by kernel_rfl) (dos_cons (do_lst (da_nil)) (dos_cons (do_lst (da_nil)) (dos_cons (do_lst (da_nil)) (dos_nil)))) (by kernel_rfl)) (dss_cons (ds_for (vs := [3]) (passes_of rfl) rfl (di_range1 (gl_ (by kernel_rfl)) c.n_range (da_cons (de_call ((H_law_draw).mono (by decide)) hg hr takesC (gl_ (by kernel_rfl)) (da_cons (de_var (i := 0) (x := "_law_m") rfl (vis_ (by kernel_rfl))) (da_cons (de_var (i := 2) (x := "_law_most") rfl (vis_ (by kernel_rfl))) (da_nil))) (len_cons (len_cons (len_nil)))) (da_nil))) (dg_name (i := 3) (x := "_law_k") sc_law_steps.nd rfl (loc_ (by kernel_rfl))) (dss_cons (ds_par2 (i := 7) (j := 8) rfl sc_law_steps.nd rfl rfl (by decide) (by kernel_rfl) (by kernel_rfl) (dos_cons (do_im (de_call ((H_law_draw).mono (by decide)) hg hr takesC (gl_ (by kernel_rfl)) (da_cons (de_var (i := 0) (x := "_law_m") rfl (vis_ (by kernel_rfl))) (da_cons (de_int) (da_nil))) (len_cons (len_cons (len_nil))))) (dos_cons (do_im (de_call ((H_law_of).mono (by decide)) hg hr takesC (gl_ (by kernel_rfl)) (da_cons (de_var (i := 0) (x := "_law_m") rfl (vis_ (by kernel_rfl))) (da_cons (de_var (i := 1) (x := "_law_folders_here") rfl (vis_ (by kernel_rfl))) (da_nil))) (len_cons (len_cons (len_nil))))) (dos_nil))) (by kernel_rfl)) (dss_one (ds_if (tLt_ (de_var (i := 7) (x := "_law_way") rfl (vis_ (by kernel_rfl))) (de_int)) (dss_cons (ds_app (i := 6) rfl (vis_ (by kernel_rfl)) (de_tup (da_cons (de_str) (da_cons (de_var (i := 8) (x := "_law_x") rfl (vis_ (by kernel_rfl))) (da_nil))))) (dss_one (ds_app (i := 4) rfl (vis_ (by kernel_rfl)) (de_var (i := 8) (x := "_law_x") rfl (vis_ (by kernel_rfl)))))) (dss_one (ds_if (tLt_ (de_var (i := 7) (x := "_law_way") rfl (vis_ (by kernel_rfl))) (de_int)) (dss_one (ds_app (i := 6) rfl (vis_ (by kernel_rfl)) (de_tup (da_cons (de_str) (da_nil))))) (dss_one (ds_if (dt_bool (dw_and (tLt_ (de_var (i := 7) (x := "_law_way") rfl (vis_ (by kernel_rfl))) (de_int)) (dw_and1 (dt_cmpO (op_inAll (un65 hr)) dop_in (de_var (i := 8) (x := "_law_x") rfl (vis_ (by kernel_rfl))) (i := 4) (x := "_law_looked") rfl (vis_ (by kernel_rfl)))))) (dss_one (ds_app (i := 6) rfl (vis_ (by kernel_rfl)) (de_tup (da_cons (de_ix ix_all dop_ix (de_lst (da_cons (de_str) (da_cons (de_str) (da_cons (de_str) (da_nil))))) (de_sub (de_var (i := 7) (x := "_law_way") rfl (vis_ (by kernel_rfl))) (de_int))) (da_cons (de_var (i := 8) (x := "_law_x") rfl (vis_ (by kernel_rfl))) (da_nil)))))) (dss_one (ds_if (dt_cmpO (op_inAll (un65 hr)) dop_in (de_var (i := 8) (x := "_law_x") rfl (vis_ (by kernel_rfl))) (i := 5) (x := "_law_held") rfl (vis_ (by kernel_rfl))) (dss_cons (ds_app (i := 6) rfl (vis_ (by kernel_rfl)) (de_tup (da_cons (de_str) (da_cons (de_var (i := 8) (x := "_law_x") rfl (vis_ (by kernel_rfl))) (da_nil))))) (dss_one (ds_rem (i := 5) rfl (vis_ (by kernel_rfl)) (de_var (i := 8) (x := "_law_x") rfl (vis_ (by kernel_rfl)))))) (dss_cons (ds_app (i := 6) rfl (vis_ (by kernel_rfl)) (de_tup (da_cons (de_str) (da_cons (de_var (i := 8) (x := "_law_x") rfl (vis_ (by kernel_rfl))) (da_nil))))) (dss_one (ds_app (i := 5) rfl (vis_ (by kernel_rfl)) (de_var (i := 8) (x := "_law_x") rfl (vis_ (by kernel_rfl)))))))))))))))) (dss_one (ds_ret (de_callTy dc_tuple call_tuple_of (gl_ (by kernel_rfl)) c.n_tuple (by kernel_rfl) (da_cons (de_if (dt_cmpOL (op_neD hr.units) dop_ne (i := 4) (x := "_law_looked") rfl (vis_ (by kernel_rfl)) (de_lst (da_nil))) (de_give (i := 6) (x := "_law_found") rfl (vis_ (by kernel_rfl))) (de_add (de_give (i := 6) (x := "_law_found") rfl (vis_ (by kernel_rfl))) (de_lst (da_cons (de_tup (da_cons (de_str) (da_cons (de_call ((H_law_of).mono (by decide)) hg hr takesC (gl_ (by kernel_rfl)) (da_cons (de_var (i := 0) (x := "_law_m") rfl (vis_ (by kernel_rfl))) (da_cons (de_var (i := 1) (x := "_law_folders_here") rfl (vis_ (by kernel_rfl))) (da_nil))) (len_cons (len_cons (len_nil)))) (da_nil)))) (da_nil))))) (da_nil))))))

def B_is_list : Fs := sRet (cUn (isT2 "list" "tuple") (cVar 0))
def F_is_list : Fd := fnD N_is_list.length B_is_list
theorem D_is_list (c : FK K mg) : Df P w K mg B 1 "is_list" 1 F_is_list := by
  obtain ⟨fd, FD⟩ := c.d_is_list
  refine df_fn (g := B_is_list) FD sc_is_list c.g_is_list rfl (fun _ _ _ _ _ _ us hl => match us, hl with | [_], _ => rfl) fun cv A out s H E a hg hr => ?_
  unfold B_is_list
  exact dss_one (ds_ret (de_isT2 (gl_ (by kernel_rfl)) c.n_isinstance (by kernel_rfl) (gl_ (by kernel_rfl)) c.n_list (by kernel_rfl) (gl_ (by kernel_rfl)) c.n_tuple (by kernel_rfl) (de_var (i := 0) (x := "value") rfl (vis_ (by kernel_rfl)))))

def is_word_e1 : Fe := cOp dIn (cVar 1) (cC (.str "abcdefghijklmnopqrstuvwxyz"))
def B_is_word : Fs := sSeq (sIf (cOr (cNot (cTest (cUn (isT "str") (cVar 0)))) (cNot (cTest (cChain dLe dLe (cC (.int 1)) (cCall dLen (cCons (cVar 0) (cNil))) (cC (.int 8)))))) (sRet (cC (.bl false))) (sPass)) (sRet (cCall dAll (cCons (cLc (cSeqI (cVar 0)) (tgName 1) (cYes) (is_word_e1) [1]) (cNil))))
def F_is_word : Fd := fnD N_is_word.length B_is_word
theorem D_is_word (c : FK K mg) : Df P w K mg B 1 "is_word" 1 F_is_word := by
  obtain ⟨fd, FD⟩ := c.d_is_word
  refine df_fn (g := B_is_word) FD sc_is_word c.g_is_word rfl (fun _ _ _ _ _ _ us hl => match us, hl with | [_], _ => rfl) fun cv A out s H E a hg hr => ?_
  unfold B_is_word
  exact dss_cons (ds_if (dt_bool (dw_or (dt_not (dt_val (de_isT (gl_ (by kernel_rfl)) c.n_isinstance (by kernel_rfl) (gl_ (by kernel_rfl)) c.n_str (by kernel_rfl) (de_var (i := 0) (x := "value") rfl (vis_ (by kernel_rfl)))))) (dw_or1 (dt_not (dt_chain (op_le) (op_le) dop_le dop_le (de_int) (de_callB dc_len call_lenA (gl_ (by kernel_rfl)) c.n_len (by kernel_rfl) (da_cons (de_var (i := 0) (x := "value") rfl (vis_ (by kernel_rfl))) (da_nil))) (de_gI (gl_ (by kernel_rfl)) c.i_MOST_LETTERS)))))) (dss_one (ds_ret (de_bl))) (dss_nil)) (dss_one (ds_ret (de_callB dc_all (cr_all rfl) (gl_ (by kernel_rfl)) c.n_all (by kernel_rfl) (da_cons (de_lc (own := [("letter", 1)]) rfl sc_is_word.nd (di_seq (de_var (i := 0) (x := "value") rfl (vis_ (by kernel_rfl)))) (blkB_ok (own := [("letter", 1)]) (by kernel_rfl)) (fun _ _ _ _ _ => dg_name (i := 1) (x := "letter") sc_is_word.nd rfl (loc_ (by kernel_rfl))) (fun _ _ _ _ _ => dts_nilN) (fun _ _ _ _ _ => eIn hr (de_var (i := 1) (x := "letter") rfl (vis_ (by kernel_rfl))) (de_gS (gl_ (by kernel_rfl)) c.s_LETTERS))) (da_nil)))))

def is_rule_of_e1 : Fe := cUn (isT "str") (cVar 2)
def is_rule_of_e2 : Fe := cOp dIn (cVar 2) (cVar 1)
def B_is_rule_of : Fs := sSeq (sIf (cOr (cNot (cTest (cUn (isT "tuple") (cVar 0)))) (cOr (cNot (cTest (cChain dLe dLe (cC (.int 2)) (cCall dLen (cCons (cVar 0) (cNil))) (cC (.int 3))))) (cNot (cTest (cCall dAll (cCons (cLc (cSeqI (cVar 0)) (tgName 2) (cYes) (is_rule_of_e1) [2]) (cNil))))))) (sRet (cC (.bl false))) (sPass)) (sSeq (sIf (cNot (cTest (cCall dAll (cCons (cLc (cSeqI (cSl (cVar 0) (cPart (cC (.int 1))) (cNoPart))) (tgName 2) (cYes) (is_rule_of_e2) [2]) (cNil))))) (sRet (cC (.bl false))) (sPass)) (sSeq (sIf (cTest (cOp dEq (cCall dLen (cCons (cVar 0) (cNil))) (cC (.int 2)))) (sRet (cOp dIn (cOp dIx (cVar 0) (cC (.int 0))) (cC (.tup (k_ALONE.map D.str))))) (sPass)) (sRet (cAndV (cOp dIn (cOp dIx (cVar 0) (cC (.int 0))) (cC (.tup (k_PAIRED.map D.str)))) (cOp dNe (cOp dIx (cVar 0) (cC (.int 1))) (cOp dIx (cVar 0) (cC (.int 2))))))))
def F_is_rule_of : Fd := fnD N_is_rule_of.length B_is_rule_of
theorem D_is_rule_of (c : FK K mg) : Df P w K mg B 1 "is_rule_of" 2 F_is_rule_of := by
  obtain ⟨fd, FD⟩ := c.d_is_rule_of
  refine df_fn (g := B_is_rule_of) FD sc_is_rule_of c.g_is_rule_of rfl (fun _ _ _ _ _ _ us hl => match us, hl with | [_, _], _ => rfl) fun cv A out s H E a hg hr => ?_
  unfold B_is_rule_of
  exact dss_cons (ds_if (dt_bool (dw_or (dt_not (dt_val (de_isT (gl_ (by kernel_rfl)) c.n_isinstance (by kernel_rfl) (gl_ (by kernel_rfl)) c.n_tuple (by kernel_rfl) (de_var (i := 0) (x := "value") rfl (vis_ (by kernel_rfl)))))) (dw_or (dt_not (dt_chain (op_le) (op_le) dop_le dop_le (de_int) (de_callB dc_len call_lenA (gl_ (by kernel_rfl)) c.n_len (by kernel_rfl) (da_cons (de_var (i := 0) (x := "value") rfl (vis_ (by kernel_rfl))) (da_nil))) (de_int))) (dw_or1 (dt_not (dt_val (de_callB dc_all (cr_all rfl) (gl_ (by kernel_rfl)) c.n_all (by kernel_rfl) (da_cons (de_lc (own := [("part", 2)]) rfl sc_is_rule_of.nd (di_seq (de_var (i := 0) (x := "value") rfl (vis_ (by kernel_rfl)))) (blkB_ok (own := [("part", 2)]) (by kernel_rfl)) (fun _ _ _ _ _ => dg_name (i := 2) (x := "part") sc_is_rule_of.nd rfl (loc_ (by kernel_rfl))) (fun _ _ _ _ _ => dts_nilN) (fun _ _ _ _ _ => de_isT (gl_ (by kernel_rfl)) c.n_isinstance (by kernel_rfl) (gl_ (by kernel_rfl)) c.n_str (by kernel_rfl) (de_var (i := 2) (x := "part") rfl (vis_ (by kernel_rfl))))) (da_nil))))))))) (dss_one (ds_ret (de_bl))) (dss_nil)) (dss_cons (ds_if (dt_not (dt_val (de_callB dc_all (cr_all rfl) (gl_ (by kernel_rfl)) c.n_all (by kernel_rfl) (da_cons (de_lc (own := [("part", 2)]) rfl sc_is_rule_of.nd (di_seq (de_slice (de_var (i := 0) (x := "value") rfl (vis_ (by kernel_rfl))) (dp_some (de_int)) (dp_none))) (blkB_ok (own := [("part", 2)]) (by kernel_rfl)) (fun _ _ _ _ _ => dg_name (i := 2) (x := "part") sc_is_rule_of.nd rfl (loc_ (by kernel_rfl))) (fun _ _ _ _ _ => dts_nilN) (fun _ _ _ _ _ => eIn hr (de_var (i := 2) (x := "part") rfl (vis_ (by kernel_rfl))) (de_var (i := 1) (x := "folders") rfl (vis_ (by kernel_rfl))))) (da_nil))))) (dss_one (ds_ret (de_bl))) (dss_nil)) (dss_cons (ds_if (tEq hr (de_callB dc_len call_lenA (gl_ (by kernel_rfl)) c.n_len (by kernel_rfl) (da_cons (de_var (i := 0) (x := "value") rfl (vis_ (by kernel_rfl))) (da_nil))) (de_int)) (dss_one (ds_ret (eIn hr (de_ix ix_all dop_ix (de_var (i := 0) (x := "value") rfl (vis_ (by kernel_rfl))) (de_int)) (de_gT (gl_ (by kernel_rfl)) c.g_ALONE c.t_ALONE)))) (dss_nil)) (dss_one (ds_ret (de_and (eIn hr (de_ix ix_all dop_ix (de_var (i := 0) (x := "value") rfl (vis_ (by kernel_rfl))) (de_int)) (de_gT (gl_ (by kernel_rfl)) c.g_PAIRED c.t_PAIRED)) (de_one (eNe hr (de_ix ix_all dop_ix (de_var (i := 0) (x := "value") rfl (vis_ (by kernel_rfl))) (de_int)) (de_ix ix_all dop_ix (de_var (i := 0) (x := "value") rfl (vis_ (by kernel_rfl))) (de_int)))))))))

def World_init_f1 : Fs := sIf (cOr (cNot (cTest (cFn F_is_word (cCons (cVar 4) (cNil))))) (cTest (cOp dIn (cVar 4) (cSl (cVar 1) (cNoPart) (cPart (cVar 3)))))) (sNever) (sPass)
def World_init_f2 : Fs := sIf (cOr (cNot (cTest (cFn F_is_rule_of (cCons (cVar 5) (cCons (cVar 1) (cNil)))))) (cTest (cOp dIn (cVar 5) (cSl (cVar 2) (cNoPart) (cPart (cVar 3)))))) (sNever) (sPass)
def B_World_init : Fi := iSeq (sIf (cOr (cNot (cTest (cFn F_is_list (cCons (cVar 1) (cNil))))) (cTest (cOp dEq (cCall dLen (cCons (cVar 1) (cNil))) (cC (.int 0))))) (sNever) (sPass)) (iSeq (sIf (cTest (cOp dGt (cCall dLen (cCons (cVar 1) (cNil))) (cC (.int 4)))) (sNever) (sPass)) (iSeq (sFor (cEnum (cCons (cVar 1) (cNil))) (tgTup 2 (tgsCons (tgName 3) (tgsCons (tgName 4) (tgsNil)))) (World_init_f1)) (iSeq (sIf (cNot (cTest (cFn F_is_list (cCons (cVar 2) (cNil))))) (sNever) (sPass)) (iSeq (sFor (cEnum (cCons (cVar 2) (cNil))) (tgTup 2 (tgsCons (tgName 3) (tgsCons (tgName 5) (tgsNil)))) (World_init_f2)) (iEnd (cCall dTuple (cCons (cCall dSorted (cCons (cVar 1) (cNil))) (cNil))) (cCall dTuple (cCons (cCall dSorted (cCons (cVar 2) (cNil))) (cNil))))))))
def F_World_init : Fd := fnI "World" N_World_init.length B_World_init
theorem I_World_init (c : FK K mg) (H_is_list : Df P w K mg B 1 "is_list" 1 F_is_list) (H_is_word : Df P w K mg B 1 "is_word" 1 F_is_word) (H_is_rule_of : Df P w K mg B 1 "is_rule_of" 2 F_is_rule_of) {fd : FuncData} (FD : FunD K "__init__" "World.__init__" (defArgs s_World_init) (defBody s_World_init) (defScope s_World_init) [.ref (ad_World K)] [] (He.fAd K ("World", some "__init__")) fd) : FnG P w K mg B (L2.CX P w) 2 (He.fAd K ("World", some "__init__")) fd ["self", "folders", "rules"] (spI K mg "World" 2 F_World_init) := by
  refine init_fn (h := B_World_init) FD sc_World_init rfl fun cv A out s H E a C dx hg hr hm => ?_
  have cq := c.q_World hm
  unfold B_World_init
  exact din_cons (ds_if (dt_bool (dw_or (dt_not (dt_val (de_call ((H_is_list).mono (by decide)) hg hr takesC (gl_ (by kernel_rfl)) (da_cons (de_var (i := 1) (x := "folders") rfl (vis_ (by kernel_rfl))) (da_nil)) (len_cons (len_nil))))) (dw_or1 (tEq hr (de_callB dc_len call_lenA (gl_ (by kernel_rfl)) c.n_len (by kernel_rfl) (da_cons (de_var (i := 1) (x := "folders") rfl (vis_ (by kernel_rfl))) (da_nil))) (de_int))))) (dss_one (ds_never)) (dss_nil)) (din_cons (ds_if (tGt_ (de_callB dc_len call_lenA (gl_ (by kernel_rfl)) c.n_len (by kernel_rfl) (da_cons (de_var (i := 1) (x := "folders") rfl (vis_ (by kernel_rfl))) (da_nil))) (de_gI (gl_ (by kernel_rfl)) c.i_MOST_FOLDERS)) (dss_one (ds_never)) (dss_nil)) (din_cons (ds_for (vs := [3, 4]) (passes_of rfl) rfl (di_enum (gl_ (by kernel_rfl)) c.n_enumerate (da_cons (de_var (i := 1) (x := "folders") rfl (vis_ (by kernel_rfl))) (da_nil))) (dg_tup rfl (dgs_cons (dg_name (i := 3) (x := "number") sc_World_init.nd rfl (loc_ (by kernel_rfl))) (dgs_cons (dg_name (i := 4) (x := "folder") sc_World_init.nd rfl (loc_ (by kernel_rfl))) (dgs_nil)))) (dss_one (ds_if (dt_bool (dw_or (dt_not (dt_val (de_call ((H_is_word).mono (by decide)) hg hr takesC (gl_ (by kernel_rfl)) (da_cons (de_var (i := 4) (x := "folder") rfl (vis_ (by kernel_rfl))) (da_nil)) (len_cons (len_nil))))) (dw_or1 (tIn_ hr (de_var (i := 4) (x := "folder") rfl (vis_ (by kernel_rfl))) (de_slice (de_var (i := 1) (x := "folders") rfl (vis_ (by kernel_rfl))) (dp_none) (dp_some (de_var (i := 3) (x := "number") rfl (vis_ (by kernel_rfl))))))))) (dss_one (ds_never)) (dss_nil)))) (din_cons (ds_if (dt_not (dt_val (de_call ((H_is_list).mono (by decide)) hg hr takesC (gl_ (by kernel_rfl)) (da_cons (de_var (i := 2) (x := "rules") rfl (vis_ (by kernel_rfl))) (da_nil)) (len_cons (len_nil))))) (dss_one (ds_never)) (dss_nil)) (din_cons (ds_for (vs := [3, 5]) (passes_of rfl) rfl (di_enum (gl_ (by kernel_rfl)) c.n_enumerate (da_cons (de_var (i := 2) (x := "rules") rfl (vis_ (by kernel_rfl))) (da_nil))) (dg_tup rfl (dgs_cons (dg_name (i := 3) (x := "number") sc_World_init.nd rfl (loc_ (by kernel_rfl))) (dgs_cons (dg_name (i := 5) (x := "rule") sc_World_init.nd rfl (loc_ (by kernel_rfl))) (dgs_nil)))) (dss_one (ds_if (dt_bool (dw_or (dt_not (dt_val (de_call ((H_is_rule_of).mono (by decide)) hg hr takesC (gl_ (by kernel_rfl)) (da_cons (de_var (i := 5) (x := "rule") rfl (vis_ (by kernel_rfl))) (da_cons (de_var (i := 1) (x := "folders") rfl (vis_ (by kernel_rfl))) (da_nil))) (len_cons (len_cons (len_nil)))))) (dw_or1 (tIn_ hr (de_var (i := 5) (x := "rule") rfl (vis_ (by kernel_rfl))) (de_slice (de_var (i := 2) (x := "rules") rfl (vis_ (by kernel_rfl))) (dp_none) (dp_some (de_var (i := 3) (x := "number") rfl (vis_ (by kernel_rfl))))))))) (dss_one (ds_never)) (dss_nil)))) (din_end hm rfl (.inl (by kernel_rfl)) cq.1 cq.2.1 cq.2.2 (de_callTy dc_tuple call_tuple_of (gl_ (by kernel_rfl)) c.n_tuple (by kernel_rfl) (da_cons (de_callB dc_sorted (call_sorted (un70 hr)) (gl_ (by kernel_rfl)) c.n_sorted (by kernel_rfl) (da_cons (de_var (i := 1) (x := "folders") rfl (vis_ (by kernel_rfl))) (da_nil))) (da_nil))) (de_callTy dc_tuple call_tuple_of (gl_ (by kernel_rfl)) c.n_tuple (by kernel_rfl) (da_cons (de_callB dc_sorted (call_sorted (un70 hr)) (gl_ (by kernel_rfl)) c.n_sorted (by kernel_rfl) (da_cons (de_var (i := 2) (x := "rules") rfl (vis_ (by kernel_rfl))) (da_nil))) (da_nil))))))))
theorem C0_World (c : FK K mg) (H_is_list : Df P w K mg B 1 "is_list" 1 F_is_list) (H_is_word : Df P w K mg B 1 "is_word" 1 F_is_word) (H_is_rule_of : Df P w K mg B 1 "is_rule_of" 2 F_is_rule_of) : Dc P w K mg B 2 "World" 2 F_World_init [] := by
  obtain ⟨fd, FD⟩ := c.d_World_init
  obtain ⟨ds, hv, hb⟩ := FD.binds1 (ps := ["self", "folders", "rules"]) 3 1 (by simp) (by rfl) (fun _ _ _ _ _ _ _ us its hu hi => match us, its, hu, hi with | [_, _, _], [_], _, _ => ⟨_, rfl, rfl⟩)
  exact ⟨_, _, fd, _, _, ds, c.g_World, c.k_World.2, c.k_World.1, hb, hv, fun _ F => .nil, I_World_init c H_is_list H_is_word H_is_rule_of FD⟩
theorem C1_World (c : FK K mg) (H_is_list : Df P w K mg B 1 "is_list" 1 F_is_list) (H_is_word : Df P w K mg B 1 "is_word" 1 F_is_word) (H_is_rule_of : Df P w K mg B 1 "is_rule_of" 2 F_is_rule_of) : Dc P w K mg B 2 "World" 2 F_World_init dd_World := by
  obtain ⟨fd, FD⟩ := c.d_World_init
  obtain ⟨ds, hv, hb⟩ := FD.binds1 (ps := ["self", "folders", "rules"]) 2 0 (by simp) (by rfl) (fun _ _ _ _ _ _ _ us its hu hi => match us, its, hu, hi with | [_, _], [_], _, _ => ⟨_, rfl, rfl⟩)
  exact ⟨_, _, fd, _, _, ds, c.g_World, c.k_World.2, c.k_World.1, hb, hv, fun _ F => .cons (.tup (c.e_World F) .nil) .nil, I_World_init c H_is_list H_is_word H_is_rule_of FD⟩

def law_text_of_e1 : Fe := cM1 dJoin (cC (.str " ")) (cVar 1)
def B_law_text_of : Fs := sRet (cM1 dJoin (cC (.str "\n")) (cLc (cSeqI (cVar 0)) (tgName 1) (cYes) (law_text_of_e1) [1]))
def F_law_text_of : Fd := fnD N_law_text_of.length B_law_text_of
theorem D_law_text_of (c : FK K mg) : Df P w K mg B 1 "_law_text_of" 1 F_law_text_of := by
  obtain ⟨fd, FD⟩ := c.d_law_text_of
  refine df_fn (g := B_law_text_of) FD sc_law_text_of c.g_law_text_of rfl (fun _ _ _ _ _ _ us hl => match us, hl with | [_], _ => rfl) fun cv A out s H E a hg hr => ?_
  unfold B_law_text_of
  exact dss_one (ds_ret (de_join (de_str) (de_lc (own := [("_law_row", 1)]) rfl sc_law_text_of.nd (di_seq (de_var (i := 0) (x := "_law_rows") rfl (vis_ (by kernel_rfl)))) (blkB_ok (own := [("_law_row", 1)]) (by kernel_rfl)) (fun _ _ _ _ _ => dg_name (i := 1) (x := "_law_row") sc_law_text_of.nd rfl (loc_ (by kernel_rfl))) (fun _ _ _ _ _ => dts_nilN) (fun _ _ _ _ _ => de_join (de_str) (de_var (i := 1) (x := "_law_row") rfl (vis_ (by kernel_rfl)))))))

def world_text_e1 : Fe := cM1 dJoin (cC (.str " ")) (cVar 2)
def B_world_text : Fs := sSeq (sSet 1 (cLst (cCons (cTup (cCons (cC (.str "folders")) (cStar (cUn (atD at_folders) (cVar 0)) (cNil)))) (cStar (cUn (atD at_rules) (cVar 0)) (cNil))))) (sRet (cM1 dJoin (cC (.str "\n")) (cLc (cSeqI (cVar 1)) (tgName 2) (cYes) (world_text_e1) [2])))
def F_world_text : Fd := fnD N_world_text.length B_world_text
theorem D_world_text (c : FK K mg) : Df P w K mg B 1 "world_text" 1 F_world_text := by
  obtain ⟨fd, FD⟩ := c.d_world_text
  refine df_fn (g := B_world_text) FD sc_world_text c.g_world_text rfl (fun _ _ _ _ _ _ us hl => match us, hl with | [_], _ => rfl) fun cv A out s H E a hg hr => ?_
  unfold B_world_text
  exact dss_cons (ds_set (i := 1) sc_world_text.nd rfl (loc_ (by kernel_rfl)) (de_lst (da_cons (de_tup (da_cons (de_gS (gl_ (by kernel_rfl)) c.s_FOLDERS) (da_star (de_attr (de_var (i := 0) (x := "world") rfl (vis_ (by kernel_rfl))) c.a_folders) (da_nil)))) (da_star (de_attr (de_var (i := 0) (x := "world") rfl (vis_ (by kernel_rfl))) c.a_rules) (da_nil))))) (dss_one (ds_ret (de_join (de_str) (de_lc (own := [("line", 2)]) rfl sc_world_text.nd (di_seq (de_var (i := 1) (x := "lines") rfl (vis_ (by kernel_rfl)))) (blkB_ok (own := [("line", 2)]) (by kernel_rfl)) (fun _ _ _ _ _ => dg_name (i := 2) (x := "line") sc_world_text.nd rfl (loc_ (by kernel_rfl))) (fun _ _ _ _ _ => dts_nilN) (fun _ _ _ _ _ => de_join (de_str) (de_var (i := 2) (x := "line") rfl (vis_ (by kernel_rfl))))))))

def lines_of_e1 : Fe := cM1 dSplit (cVar 1) (cC (.str " "))
def B_lines_of : Fs := sSeq (sIf (cNot (cTest (cUn (isT "str") (cVar 0)))) (sNever) (sPass)) (sRet (cLc (cSeqI (cM1 dSplit (cVar 0) (cC (.str "\n")))) (tgName 1) (cYes) (lines_of_e1) [1]))
def F_lines_of : Fd := fnD N_lines_of.length B_lines_of
theorem D_lines_of (c : FK K mg) : Df P w K mg B 1 "lines_of" 1 F_lines_of := by
  obtain ⟨fd, FD⟩ := c.d_lines_of
  refine df_fn (g := B_lines_of) FD sc_lines_of c.g_lines_of rfl (fun _ _ _ _ _ _ us hl => match us, hl with | [_], _ => rfl) fun cv A out s H E a hg hr => ?_
  unfold B_lines_of
  exact dss_cons (ds_if (dt_not (dt_val (de_isT (gl_ (by kernel_rfl)) c.n_isinstance (by kernel_rfl) (gl_ (by kernel_rfl)) c.n_str (by kernel_rfl) (de_var (i := 0) (x := "text") rfl (vis_ (by kernel_rfl)))))) (dss_one (ds_never)) (dss_nil)) (dss_one (ds_ret (de_lc (own := [("line", 1)]) rfl sc_lines_of.nd (di_seq (de_split (de_var (i := 0) (x := "text") rfl (vis_ (by kernel_rfl))) (de_str))) (blkB_ok (own := [("line", 1)]) (by kernel_rfl)) (fun _ _ _ _ _ => dg_name (i := 1) (x := "line") sc_lines_of.nd rfl (loc_ (by kernel_rfl))) (fun _ _ _ _ _ => dts_nilN) (fun _ _ _ _ _ => de_split (de_var (i := 1) (x := "line") rfl (vis_ (by kernel_rfl))) (de_str)))))

def is_rule_line_e1 : Fe := cFn F_is_word (cCons (cVar 1) (cNil))
def B_is_rule_line : Fs := sSeq (sIf (cNot (cTest (cCall dAll (cCons (cLc (cSeqI (cSl (cVar 0) (cPart (cC (.int 1))) (cNoPart))) (tgName 1) (cYes) (is_rule_line_e1) [1]) (cNil))))) (sRet (cC (.bl false))) (sPass)) (sRet (cOrV (cAndV (cOp dIn (cOp dIx (cVar 0) (cC (.int 0))) (cC (.tup (k_ALONE.map D.str)))) (cOp dEq (cCall dLen (cCons (cVar 0) (cNil))) (cC (.int 2)))) (cAndV (cOp dIn (cOp dIx (cVar 0) (cC (.int 0))) (cC (.tup (k_PAIRED.map D.str)))) (cOp dEq (cCall dLen (cCons (cVar 0) (cNil))) (cC (.int 3))))))
def F_is_rule_line : Fd := fnD N_is_rule_line.length B_is_rule_line
theorem D_is_rule_line (c : FK K mg) (H_is_word : Df P w K mg B 1 "is_word" 1 F_is_word) : Df P w K mg B 2 "is_rule_line" 1 F_is_rule_line := by
  obtain ⟨fd, FD⟩ := c.d_is_rule_line
  refine df_fn (g := B_is_rule_line) FD sc_is_rule_line c.g_is_rule_line rfl (fun _ _ _ _ _ _ us hl => match us, hl with | [_], _ => rfl) fun cv A out s H E a hg hr => ?_
  unfold B_is_rule_line
  exact dss_cons (ds_if (dt_not (dt_val (de_callB dc_all (cr_all rfl) (gl_ (by kernel_rfl)) c.n_all (by kernel_rfl) (da_cons (de_lc (own := [("word", 1)]) rfl sc_is_rule_line.nd (di_seq (de_slice (de_var (i := 0) (x := "words") rfl (vis_ (by kernel_rfl))) (dp_some (de_int)) (dp_none))) (blkB_ok (own := [("word", 1)]) (by kernel_rfl)) (fun _ _ _ _ _ => dg_name (i := 1) (x := "word") sc_is_rule_line.nd rfl (loc_ (by kernel_rfl))) (fun _ _ _ _ _ => dts_nilN) (fun _ _ _ _ _ => de_call ((H_is_word).mono (by decide)) hg hr takes_noE (gl_ (by kernel_rfl)) (da_cons (de_var (i := 1) (x := "word") rfl (vis_ (by kernel_rfl))) (da_nil)) (len_cons (len_nil)))) (da_nil))))) (dss_one (ds_ret (de_bl))) (dss_nil)) (dss_one (ds_ret (de_or (de_and (eIn hr (de_ix ix_all dop_ix (de_var (i := 0) (x := "words") rfl (vis_ (by kernel_rfl))) (de_int)) (de_gT (gl_ (by kernel_rfl)) c.g_ALONE c.t_ALONE)) (de_one (eEq hr (de_callB dc_len call_lenA (gl_ (by kernel_rfl)) c.n_len (by kernel_rfl) (da_cons (de_var (i := 0) (x := "words") rfl (vis_ (by kernel_rfl))) (da_nil))) (de_int)))) (de_one (de_and (eIn hr (de_ix ix_all dop_ix (de_var (i := 0) (x := "words") rfl (vis_ (by kernel_rfl))) (de_int)) (de_gT (gl_ (by kernel_rfl)) c.g_PAIRED c.t_PAIRED)) (de_one (eEq hr (de_callB dc_len call_lenA (gl_ (by kernel_rfl)) c.n_len (by kernel_rfl) (da_cons (de_var (i := 0) (x := "words") rfl (vis_ (by kernel_rfl))) (da_nil))) (de_int))))))))

def B_is_step_line : Fs := sRet (cOrV (cOp dEq (cVar 0) (cLst (cCons (cC (.str "tick")) (cNil)))) (cAndV (cOp dEq (cCall dLen (cCons (cVar 0) (cNil))) (cC (.int 2))) (cAndV (cOp dIn (cOp dIx (cVar 0) (cC (.int 0))) (cC (.tup (k_WORDS.map D.str)))) (cFn F_is_word (cCons (cOp dIx (cVar 0) (cC (.int 1))) (cNil))))))
def F_is_step_line : Fd := fnD N_is_step_line.length B_is_step_line
theorem D_is_step_line (c : FK K mg) (H_is_word : Df P w K mg B 1 "is_word" 1 F_is_word) : Df P w K mg B 2 "is_step_line" 1 F_is_step_line := by
  obtain ⟨fd, FD⟩ := c.d_is_step_line
  refine df_fn (g := B_is_step_line) FD sc_is_step_line c.g_is_step_line rfl (fun _ _ _ _ _ _ us hl => match us, hl with | [_], _ => rfl) fun cv A out s H E a hg hr => ?_
  unfold B_is_step_line
  exact dss_one (ds_ret (de_or (eEq hr (de_var (i := 0) (x := "words") rfl (vis_ (by kernel_rfl))) (de_lst (da_cons (de_str) (da_nil)))) (de_one (de_and (eEq hr (de_callB dc_len call_lenA (gl_ (by kernel_rfl)) c.n_len (by kernel_rfl) (da_cons (de_var (i := 0) (x := "words") rfl (vis_ (by kernel_rfl))) (da_nil))) (de_int)) (de_and (eIn hr (de_ix ix_all dop_ix (de_var (i := 0) (x := "words") rfl (vis_ (by kernel_rfl))) (de_int)) (de_gT (gl_ (by kernel_rfl)) c.g_WORDS c.t_WORDS)) (de_one (de_call ((H_is_word).mono (by decide)) hg hr takesC (gl_ (by kernel_rfl)) (da_cons (de_ix ix_all dop_ix (de_var (i := 0) (x := "words") rfl (vis_ (by kernel_rfl))) (de_int)) (da_nil)) (len_cons (len_nil)))))))))

def tb_need_lines : Str → Option Fd := fun x => if x = "is_rule_line" then some F_is_rule_line else if x = "is_step_line" then some F_is_step_line else none
theorem tbA_need_lines (h_is_rule_line : Df P w K mg B 2 "is_rule_line" 1 F_is_rule_line) (h_is_step_line : Df P w K mg B 2 "is_step_line" 1 F_is_step_line) : ∀ x m, tb_need_lines x = some m → Df P w K mg B 2 x 1 m := by
  intro x m h
  unfold tb_need_lines at h
  split at h
  · rename_i e; subst e; cases h; exact h_is_rule_line.mono (by decide)
  split at h
  · rename_i e; subst e; cases h; exact h_is_step_line.mono (by decide)
  cases h
def need_lines_f1 : Fs := sIf (cAnd (cTest (cOp dGe (cVar 3) (cVar 1))) (cNot (cTest (cCallV tb_need_lines 2 (cCons (cVar 4) (cNil)))))) (sNever) (sPass)
def B_need_lines : Fs := sFor (cEnum (cCons (cVar 0) (cNil))) (tgTup 2 (tgsCons (tgName 3) (tgsCons (tgName 4) (tgsNil)))) (need_lines_f1)
def F_need_lines : Fd := fnD N_need_lines.length B_need_lines
theorem D_need_lines (c : FK K mg) (H_is_rule_line : Df P w K mg B 2 "is_rule_line" 1 F_is_rule_line) (H_is_step_line : Df P w K mg B 2 "is_step_line" 1 F_is_step_line) : Df P w K mg B 3 "need_lines" 3 F_need_lines := by
  obtain ⟨fd, FD⟩ := c.d_need_lines
  refine df_fn (g := B_need_lines) FD sc_need_lines c.g_need_lines rfl (fun _ _ _ _ _ _ us hl => match us, hl with | [_, _, _], _ => rfl) fun cv A out s H E a hg hr => ?_
  unfold B_need_lines
  exact dss_one (ds_for (vs := [3, 4]) (passes_of rfl) rfl (di_enum (gl_ (by kernel_rfl)) c.n_enumerate (da_cons (de_var (i := 0) (x := "rows") rfl (vis_ (by kernel_rfl))) (da_nil))) (dg_tup rfl (dgs_cons (dg_name (i := 3) (x := "number") sc_need_lines.nd rfl (loc_ (by kernel_rfl))) (dgs_cons (dg_name (i := 4) (x := "words") sc_need_lines.nd rfl (loc_ (by kernel_rfl))) (dgs_nil)))) (dss_one (ds_if (dt_bool (dw_and (tGe_ (de_var (i := 3) (x := "number") rfl (vis_ (by kernel_rfl))) (de_var (i := 1) (x := "begin") rfl (vis_ (by kernel_rfl)))) (dw_and1 (dt_not (dt_val (de_callV (i := 2) (tbA_need_lines (H_is_rule_line) (H_is_step_line)) hg hr takesC rfl (vis_ (by kernel_rfl)) (da_cons (de_var (i := 4) (x := "words") rfl (vis_ (by kernel_rfl))) (da_nil)) (len_cons (len_nil)))))))) (dss_one (ds_never)) (dss_nil))))

def read_world_e1 : Fe := cFn F_is_word (cCons (cVar 5) (cNil))
def read_world_e2 : Fe := cCall dTuple (cCons (cVar 4) (cNil))
def B_read_world : Fs := sSeq (sSet 1 (cFn F_lines_of (cCons (cVar 0) (cNil)))) (sSeq (sTgt (cVar 1) (tgStar 2 3)) (sSeq (sIf (cOr (cTest (cOp dNe (cOp dIx (cVar 2) (cC (.int 0))) (cC (.str "folders")))) (cOr (cNot (cTest (cChain dLe dLe (cC (.int 2)) (cCall dLen (cCons (cVar 2) (cNil))) (cOp dAdd (cC (.int 4)) (cC (.int 1)))))) (cNot (cTest (cCall dAll (cCons (cLc (cSeqI (cSl (cVar 2) (cPart (cC (.int 1))) (cNoPart))) (tgName 5) (cYes) (read_world_e1) [5]) (cNil))))))) (sNever) (sPass)) (sSeq (sDrop (cFn F_need_lines (cCons (cVar 1) (cCons (cC (.int 1)) (cCons (cC (.fn "is_rule_line")) (cNil)))))) (sRet (cMk F_World_init [] (cCons (cSl (cVar 2) (cPart (cC (.int 1))) (cNoPart)) (cCons (cLc (cSeqI (cVar 3)) (tgName 4) (cYes) (read_world_e2) [4]) (cNil))))))))
def F_read_world : Fd := fnD N_read_world.length B_read_world
theorem D_read_world (c : FK K mg) (H_lines_of : Df P w K mg B 1 "lines_of" 1 F_lines_of) (H_is_word : Df P w K mg B 1 "is_word" 1 F_is_word) (H_need_lines : Df P w K mg B 3 "need_lines" 3 F_need_lines) (C0_World : Dc P w K mg B 2 "World" 2 F_World_init []) (C1_World : Dc P w K mg B 2 "World" 2 F_World_init dd_World) : Df P w K mg B 4 "read_world" 1 F_read_world := by
  obtain ⟨fd, FD⟩ := c.d_read_world
  refine df_fn (g := B_read_world) FD sc_read_world c.g_read_world rfl (fun _ _ _ _ _ _ us hl => match us, hl with | [_], _ => rfl) fun cv A out s H E a hg hr => ?_
  unfold B_read_world
  exact dss_cons (ds_set (i := 1) sc_read_world.nd rfl (loc_ (by kernel_rfl)) (de_call ((H_lines_of).mono (by decide)) hg hr takesC (gl_ (by kernel_rfl)) (da_cons (de_var (i := 0) (x := "text") rfl (vis_ (by kernel_rfl))) (da_nil)) (len_cons (len_nil)))) (dss_cons (ds_tgt (vs := [2, 3]) (de_var (i := 1) (x := "rows") rfl (vis_ (by kernel_rfl))) (dg_star (i := 2) (j := 3) rfl sc_read_world.nd rfl rfl (loc_ (by kernel_rfl)) (loc_ (by kernel_rfl)))) (dss_cons (ds_if (dt_bool (dw_or (tNe hr (de_ix ix_all dop_ix (de_var (i := 2) (x := "first") rfl (vis_ (by kernel_rfl))) (de_int)) (de_gS (gl_ (by kernel_rfl)) c.s_FOLDERS)) (dw_or (dt_not (dt_chain (op_le) (op_le) dop_le dop_le (de_int) (de_callB dc_len call_lenA (gl_ (by kernel_rfl)) c.n_len (by kernel_rfl) (da_cons (de_var (i := 2) (x := "first") rfl (vis_ (by kernel_rfl))) (da_nil))) (de_add (de_gI (gl_ (by kernel_rfl)) c.i_MOST_FOLDERS) (de_int)))) (dw_or1 (dt_not (dt_val (de_callB dc_all (cr_all rfl) (gl_ (by kernel_rfl)) c.n_all (by kernel_rfl) (da_cons (de_lc (own := [("word", 5)]) rfl sc_read_world.nd (di_seq (de_slice (de_var (i := 2) (x := "first") rfl (vis_ (by kernel_rfl))) (dp_some (de_int)) (dp_none))) (blkB_ok (own := [("word", 5)]) (by kernel_rfl)) (fun _ _ _ _ _ => dg_name (i := 5) (x := "word") sc_read_world.nd rfl (loc_ (by kernel_rfl))) (fun _ _ _ _ _ => dts_nilN) (fun _ _ _ _ _ => de_call ((H_is_word).mono (by decide)) hg hr takes_noE (gl_ (by kernel_rfl)) (da_cons (de_var (i := 5) (x := "word") rfl (vis_ (by kernel_rfl))) (da_nil)) (len_cons (len_nil)))) (da_nil))))))))) (dss_one (ds_never)) (dss_nil)) (dss_cons (ds_drop (de_call ((H_need_lines).mono (by decide)) hg hr takesC (gl_ (by kernel_rfl)) (da_cons (de_var (i := 1) (x := "rows") rfl (vis_ (by kernel_rfl))) (da_cons (de_int) (da_cons (de_gF (gl_ (by kernel_rfl)) c.g_is_rule_line) (da_nil)))) (len_cons (len_cons (len_cons (len_nil)))))) (dss_one (ds_ret (de_make ((C0_World).mono (by decide)) hg hr takesC (gl_ (by kernel_rfl)) (da_cons (de_slice (de_var (i := 2) (x := "first") rfl (vis_ (by kernel_rfl))) (dp_some (de_int)) (dp_none)) (da_cons (de_lc (own := [("words", 4)]) rfl sc_read_world.nd (di_seq (de_var (i := 3) (x := "rules") rfl (vis_ (by kernel_rfl)))) (blkB_ok (own := [("words", 4)]) (by kernel_rfl)) (fun _ _ _ _ _ => dg_name (i := 4) (x := "words") sc_read_world.nd rfl (loc_ (by kernel_rfl))) (fun _ _ _ _ _ => dts_nilN) (fun _ _ _ _ _ => de_callTy dc_tuple call_tuple_of (gl_ (by kernel_rfl)) c.n_tuple (by kernel_rfl) (da_cons (de_var (i := 4) (x := "words") rfl (vis_ (by kernel_rfl))) (da_nil)))) (da_nil))) (fun ρ l ρ' h => by have := (len_cons (len_cons (len_nil))) ρ l ρ' h; simp [List.length_nil] at this ⊢; omega)))))))

def B_World_eq : Fs := sRet (cAndV (cUn (isC "World" is_World) (cVar 1)) (cAndV (cOp dEq (cUn (atD at_folders) (cVar 0)) (cUn (atD at_folders) (cVar 1))) (cOp dEq (cUn (atD at_rules) (cVar 0)) (cUn (atD at_rules) (cVar 1)))))
def F_World_eq : Fd := fnD N_World_eq.length B_World_eq
theorem D_World_eq (c : FK K mg) : Dm P w K mg B 1 "World" "__eq__" 2 F_World_eq := by
  obtain ⟨fd, FD⟩ := c.d_World_eq
  refine dm_fn (g := B_World_eq) FD sc_World_eq c.g_World c.m_World_eq.1 c.m_World_eq.2 rfl (fun _ _ _ _ _ _ us hl => match us, hl with | [_, _], _ => rfl) fun cv A out s H E a hg hr => ?_
  unfold B_World_eq
  exact dss_one (ds_ret (de_and (de_isC (gl_ (by kernel_rfl)) c.n_isinstance (by kernel_rfl) (gl_ (by kernel_rfl)) c.g_World (de_var (i := 1) (x := "other") rfl (vis_ (by kernel_rfl))) c.z_World c.o_World) (de_and (eEq hr (de_attr (de_var (i := 0) (x := "self") rfl (vis_ (by kernel_rfl))) c.a_folders) (de_attr (de_var (i := 1) (x := "other") rfl (vis_ (by kernel_rfl))) c.a_folders)) (de_one (eEq hr (de_attr (de_var (i := 0) (x := "self") rfl (vis_ (by kernel_rfl))) c.a_rules) (de_attr (de_var (i := 1) (x := "other") rfl (vis_ (by kernel_rfl))) c.a_rules))))))

def law_worlds_right_f1 : Fs := sSeq (sSet 10 (cFn F_read_world (cCons (cVar 7) (cNil)))) (sSeq (sIf (cNot (cTest (cUn (isC "World" is_World) (cVar 10)))) (sRet (cC (.bl false))) (sPass)) (sSeq (sIf (cTest (cOp dNe (cCall dRepr (cCons (cLst (cCons (cUn (atD at_folders) (cVar 10)) (cCons (cUn (atD at_rules) (cVar 10)) (cNil)))) (cNil))) (cCall dRepr (cCons (cLst (cCons (cVar 1) (cCons (cVar 2) (cNil)))) (cNil))))) (sRet (cC (.bl false))) (sPass)) (sIf (cOr (cNot (cTest (cOp (dEqI "World" F_World_eq) (cVar 10) (cVar 3)))) (cTest (cOp dNe (cFn F_world_text (cCons (cVar 10) (cNil))) (cVar 4)))) (sRet (cC (.bl false))) (sPass))))
def B_law_worlds_right : Fs := sSeq (sSet 3 (cMk F_World_init [] (cCons (cUn dRev (cCall dList (cCons (cVar 1) (cNil)))) (cCons (cUn dRev (cCall dList (cCons (cVar 2) (cNil)))) (cNil))))) (sSeq (sSet 4 (cFn F_law_text_of (cCons (cOp dAdd (cLst (cCons (cOp dAdd (cTup (cCons (cC (.str "folders")) (cNil))) (cVar 1)) (cNil))) (cCall dList (cCons (cVar 2) (cNil)))) (cNil)))) (sSeq (sIf (cTest (cOp dNe (cCall dRepr (cCons (cLst (cCons (cFn F_world_text (cCons (cVar 3) (cNil))) (cCons (cFn F_world_text (cCons (cVar 3) (cNil))) (cNil)))) (cNil))) (cCall dRepr (cCons (cLst (cCons (cVar 4) (cCons (cVar 4) (cNil)))) (cNil))))) (sRet (cC (.bl false))) (sPass)) (sSeq (sPar [8, 9] (osCons (oIm (cFn F_law_draw (cCons (cVar 0) (cCons (cCall dLen (cCons (cVar 1) (cNil))) (cNil))))) (osCons (oIm (cFn F_law_draw (cCons (cVar 0) (cCons (cOp dAdd (cCall dLen (cCons (cVar 2) (cNil))) (cC (.int 1))) (cNil))))) (osNil)))) (sSeq (sSet 5 (cOp dAdd (cOp dAdd (cTup (cCons (cC (.str "folders")) (cNil))) (cSl (cVar 1) (cPart (cVar 8)) (cNoPart))) (cSl (cVar 1) (cNoPart) (cPart (cVar 8))))) (sSeq (sSet 6 (cOp dAdd (cLst (cCons (cVar 5) (cNil))) (cCall dList (cCons (cOp dAdd (cSl (cVar 2) (cPart (cVar 9)) (cNoPart)) (cSl (cVar 2) (cNoPart) (cPart (cVar 9)))) (cNil))))) (sSeq (sFor (cSeqI (cTup (cCons (cVar 4) (cCons (cFn F_law_text_of (cCons (cVar 6) (cNil))) (cCons (cFn F_law_text_of (cCons (cOp dAdd (cSl (cVar 6) (cNoPart) (cPart (cC (.int 1)))) (cUn dRev (cSl (cVar 6) (cPart (cC (.int 1))) (cNoPart)))) (cNil))) (cNil)))))) (tgName 7) (law_worlds_right_f1)) (sRet (cC (.bl true)))))))))
def F_law_worlds_right : Fd := fnD N_law_worlds_right.length B_law_worlds_right
theorem D_law_worlds_right (c : FK K mg) (C0_World : Dc P w K mg B 2 "World" 2 F_World_init []) (C1_World : Dc P w K mg B 2 "World" 2 F_World_init dd_World) (H_law_text_of : Df P w K mg B 1 "_law_text_of" 1 F_law_text_of) (H_world_text : Df P w K mg B 1 "world_text" 1 F_world_text) (H_law_draw : Df P w K mg B 1 "_law_draw" 2 F_law_draw) (H_read_world : Df P w K mg B 4 "read_world" 1 F_read_world) (H_World_eq : Dm P w K mg B 1 "World" "__eq__" 2 F_World_eq) : Df P w K mg B 5 "_law_worlds_right" 3 F_law_worlds_right := by
  obtain ⟨fd, FD⟩ := c.d_law_worlds_right
  refine df_fn (g := B_law_worlds_right) FD sc_law_worlds_right c.g_law_worlds_right rfl (fun _ _ _ _ _ _ us hl => match us, hl with | [_, _, _], _ => rfl) fun cv A out s H E a hg hr => ?_
  unfold B_law_worlds_right
  exact dss_cons (ds_set (i := 3) sc_law_worlds_right.nd rfl (loc_ (by kernel_rfl)) (de_make ((C0_World).mono (by decide)) hg hr takesC (gl_ (by kernel_rfl)) (da_cons (de_rev (de_callTy dc_list call_list_of (gl_ (by kernel_rfl)) c.n_list (by kernel_rfl) (da_cons (de_var (i := 1) (x := "_law_folders_here") rfl (vis_ (by kernel_rfl))) (da_nil)))) (da_cons (de_rev (de_callTy dc_list call_list_of (gl_ (by kernel_rfl)) c.n_list (by kernel_rfl) (da_cons (de_var (i := 2) (x := "_law_rules_here") rfl (vis_ (by kernel_rfl))) (da_nil)))) (da_nil))) (fun ρ l ρ' h => by have := (len_cons (len_cons (len_nil))) ρ l ρ' h; simp [List.length_nil] at this ⊢; omega))) (dss_cons (ds_set (i := 4) sc_law_worlds_right.nd rfl (loc_ (by kernel_rfl)) (de_call ((H_law_text_of).mono (by decide)) hg hr takesC (gl_ (by kernel_rfl)) (da_cons (de_add (de_lst (da_cons (de_add (de_tup (da_cons (de_str) (da_nil))) (de_var (i := 1) (x := "_law_folders_here") rfl (vis_ (by kernel_rfl)))) (da_nil))) (de_callTy dc_list call_list_of (gl_ (by kernel_rfl)) c.n_list (by kernel_rfl) (da_cons (de_var (i := 2) (x := "_law_rules_here") rfl (vis_ (by kernel_rfl))) (da_nil)))) (da_nil)) (len_cons (len_nil)))) (dss_cons (ds_if (tNe hr (de_callB dc_repr (call_repr hg (un70 hr)) (gl_ (by kernel_rfl)) c.n_repr (by kernel_rfl) (da_cons (de_lst (da_cons (de_call ((H_world_text).mono (by decide)) hg hr takesC (gl_ (by kernel_rfl)) (da_cons (de_var (i := 3) (x := "_law_own") rfl (vis_ (by kernel_rfl))) (da_nil)) (len_cons (len_nil))) (da_cons (de_call ((H_world_text).mono (by decide)) hg hr takesC (gl_ (by kernel_rfl)) (da_cons (de_var (i := 3) (x := "_law_own") rfl (vis_ (by kernel_rfl))) (da_nil)) (len_cons (len_nil))) (da_nil)))) (da_nil))) (de_callB dc_repr (call_repr hg (un70 hr)) (gl_ (by kernel_rfl)) c.n_repr (by kernel_rfl) (da_cons (de_lst (da_cons (de_var (i := 4) (x := "_law_due") rfl (vis_ (by kernel_rfl))) (da_cons (de_var (i := 4) (x := "_law_due") rfl (vis_ (by kernel_rfl))) (da_nil)))) (da_nil)))) (dss_one (ds_ret (de_bl))) (dss_nil)) (dss_cons (ds_par2 (i := 8) (j := 9) rfl sc_law_worlds_right.nd rfl rfl (by decide) (by kernel_rfl) (by kernel_rfl) (dos_cons (do_im (de_call ((H_law_draw).mono (by decide)) hg hr takesC (gl_ (by kernel_rfl)) (da_cons (de_var (i := 0) (x := "_law_m") rfl (vis_ (by kernel_rfl))) (da_cons (de_callB dc_len call_lenA (gl_ (by kernel_rfl)) c.n_len (by kernel_rfl) (da_cons (de_var (i := 1) (x := "_law_folders_here") rfl (vis_ (by kernel_rfl))) (da_nil))) (da_nil))) (len_cons (len_cons (len_nil))))) (dos_cons (do_im (de_call ((H_law_draw).mono (by decide)) hg hr takesC (gl_ (by kernel_rfl)) (da_cons (de_var (i := 0) (x := "_law_m") rfl (vis_ (by kernel_rfl))) (da_cons (de_add (de_callB dc_len call_lenA (gl_ (by kernel_rfl)) c.n_len (by kernel_rfl) (da_cons (de_var (i := 2) (x := "_law_rules_here") rfl (vis_ (by kernel_rfl))) (da_nil))) (de_int)) (da_nil))) (len_cons (len_cons (len_nil))))) (dos_nil))) (by kernel_rfl)) (dss_cons (ds_set (i := 5) sc_law_worlds_right.nd rfl (loc_ (by kernel_rfl)) (de_add (de_add (de_tup (da_cons (de_str) (da_nil))) (de_slice (de_var (i := 1) (x := "_law_folders_here") rfl (vis_ (by kernel_rfl))) (dp_some (de_var (i := 8) (x := "_law_k") rfl (vis_ (by kernel_rfl)))) (dp_none))) (de_slice (de_var (i := 1) (x := "_law_folders_here") rfl (vis_ (by kernel_rfl))) (dp_none) (dp_some (de_var (i := 8) (x := "_law_k") rfl (vis_ (by kernel_rfl))))))) (dss_cons (ds_set (i := 6) sc_law_worlds_right.nd rfl (loc_ (by kernel_rfl)) (de_add (de_lst (da_cons (de_var (i := 5) (x := "_law_row") rfl (vis_ (by kernel_rfl))) (da_nil))) (de_callTy dc_list call_list_of (gl_ (by kernel_rfl)) c.n_list (by kernel_rfl) (da_cons (de_add (de_slice (de_var (i := 2) (x := "_law_rules_here") rfl (vis_ (by kernel_rfl))) (dp_some (de_var (i := 9) (x := "_law_n") rfl (vis_ (by kernel_rfl)))) (dp_none)) (de_slice (de_var (i := 2) (x := "_law_rules_here") rfl (vis_ (by kernel_rfl))) (dp_none) (dp_some (de_var (i := 9) (x := "_law_n") rfl (vis_ (by kernel_rfl)))))) (da_nil))))) (dss_cons (ds_for (vs := [7]) (passes_of rfl) rfl (di_seq (de_tup (da_cons (de_var (i := 4) (x := "_law_due") rfl (vis_ (by kernel_rfl))) (da_cons (de_call ((H_law_text_of).mono (by decide)) hg hr takesC (gl_ (by kernel_rfl)) (da_cons (de_var (i := 6) (x := "_law_some") rfl (vis_ (by kernel_rfl))) (da_nil)) (len_cons (len_nil))) (da_cons (de_call ((H_law_text_of).mono (by decide)) hg hr takesC (gl_ (by kernel_rfl)) (da_cons (de_add (de_slice (de_var (i := 6) (x := "_law_some") rfl (vis_ (by kernel_rfl))) (dp_none) (dp_some (de_int))) (de_rev (de_slice (de_var (i := 6) (x := "_law_some") rfl (vis_ (by kernel_rfl))) (dp_some (de_int)) (dp_none)))) (da_nil)) (len_cons (len_nil))) (da_nil)))))) (dg_name (i := 7) (x := "_law_text") sc_law_worlds_right.nd rfl (loc_ (by kernel_rfl))) (dss_cons (ds_set (i := 10) sc_law_worlds_right.nd rfl (loc_ (by kernel_rfl)) (de_call ((H_read_world).mono (by decide)) hg hr takesC (gl_ (by kernel_rfl)) (da_cons (de_var (i := 7) (x := "_law_text") rfl (vis_ (by kernel_rfl))) (da_nil)) (len_cons (len_nil)))) (dss_cons (ds_if (dt_not (dt_val (de_isC (gl_ (by kernel_rfl)) c.n_isinstance (by kernel_rfl) (gl_ (by kernel_rfl)) c.g_World (de_var (i := 10) (x := "_law_back") rfl (vis_ (by kernel_rfl))) c.z_World c.o_World))) (dss_one (ds_ret (de_bl))) (dss_nil)) (dss_cons (ds_if (tNe hr (de_callB dc_repr (call_repr hg (un70 hr)) (gl_ (by kernel_rfl)) c.n_repr (by kernel_rfl) (da_cons (de_lst (da_cons (de_attr (de_var (i := 10) (x := "_law_back") rfl (vis_ (by kernel_rfl))) c.a_folders) (da_cons (de_attr (de_var (i := 10) (x := "_law_back") rfl (vis_ (by kernel_rfl))) c.a_rules) (da_nil)))) (da_nil))) (de_callB dc_repr (call_repr hg (un70 hr)) (gl_ (by kernel_rfl)) c.n_repr (by kernel_rfl) (da_cons (de_lst (da_cons (de_var (i := 1) (x := "_law_folders_here") rfl (vis_ (by kernel_rfl))) (da_cons (de_var (i := 2) (x := "_law_rules_here") rfl (vis_ (by kernel_rfl))) (da_nil)))) (da_nil)))) (dss_one (ds_ret (de_bl))) (dss_nil)) (dss_one (ds_if (dt_bool (dw_or (dt_not (tEqI (n := 0) hr hg ((H_World_eq).mono (by decide)) (de_var (i := 10) (x := "_law_back") rfl (vis_ (by kernel_rfl))) (de_var (i := 3) (x := "_law_own") rfl (vis_ (by kernel_rfl))))) (dw_or1 (tNe hr (de_call ((H_world_text).mono (by decide)) hg hr takesC (gl_ (by kernel_rfl)) (da_cons (de_var (i := 10) (x := "_law_back") rfl (vis_ (by kernel_rfl))) (da_nil)) (len_cons (len_nil))) (de_var (i := 4) (x := "_law_due") rfl (vis_ (by kernel_rfl))))))) (dss_one (ds_ret (de_bl))) (dss_nil))))))) (dss_one (ds_ret (de_bl)))))))))

def is_step_e1 : Fe := cUn (isT "str") (cVar 2)
def B_is_step : Fs := sSeq (sIf (cOr (cNot (cTest (cUn (isT "tuple") (cVar 0)))) (cNot (cTest (cCall dAll (cCons (cLc (cSeqI (cVar 0)) (tgName 2) (cYes) (is_step_e1) [2]) (cNil)))))) (sRet (cC (.bl false))) (sPass)) (sSeq (sIf (cTest (cOp dEq (cVar 0) (cC (.tup (k_TICK.map D.str))))) (sRet (cC (.bl true))) (sPass)) (sRet (cAndV (cOp dEq (cCall dLen (cCons (cVar 0) (cNil))) (cC (.int 2))) (cAndV (cOp dIn (cOp dIx (cVar 0) (cC (.int 0))) (cC (.tup (k_WORDS.map D.str)))) (cOp dIn (cOp dIx (cVar 0) (cC (.int 1))) (cVar 1))))))
def F_is_step : Fd := fnD N_is_step.length B_is_step
theorem D_is_step (c : FK K mg) : Df P w K mg B 1 "is_step" 2 F_is_step := by
  obtain ⟨fd, FD⟩ := c.d_is_step
  refine df_fn (g := B_is_step) FD sc_is_step c.g_is_step rfl (fun _ _ _ _ _ _ us hl => match us, hl with | [_, _], _ => rfl) fun cv A out s H E a hg hr => ?_
  unfold B_is_step
  exact dss_cons (ds_if (dt_bool (dw_or (dt_not (dt_val (de_isT (gl_ (by kernel_rfl)) c.n_isinstance (by kernel_rfl) (gl_ (by kernel_rfl)) c.n_tuple (by kernel_rfl) (de_var (i := 0) (x := "value") rfl (vis_ (by kernel_rfl)))))) (dw_or1 (dt_not (dt_val (de_callB dc_all (cr_all rfl) (gl_ (by kernel_rfl)) c.n_all (by kernel_rfl) (da_cons (de_lc (own := [("part", 2)]) rfl sc_is_step.nd (di_seq (de_var (i := 0) (x := "value") rfl (vis_ (by kernel_rfl)))) (blkB_ok (own := [("part", 2)]) (by kernel_rfl)) (fun _ _ _ _ _ => dg_name (i := 2) (x := "part") sc_is_step.nd rfl (loc_ (by kernel_rfl))) (fun _ _ _ _ _ => dts_nilN) (fun _ _ _ _ _ => de_isT (gl_ (by kernel_rfl)) c.n_isinstance (by kernel_rfl) (gl_ (by kernel_rfl)) c.n_str (by kernel_rfl) (de_var (i := 2) (x := "part") rfl (vis_ (by kernel_rfl))))) (da_nil)))))))) (dss_one (ds_ret (de_bl))) (dss_nil)) (dss_cons (ds_if (tEq hr (de_var (i := 0) (x := "value") rfl (vis_ (by kernel_rfl))) (de_gT (gl_ (by kernel_rfl)) c.g_TICK c.t_TICK)) (dss_one (ds_ret (de_bl))) (dss_nil)) (dss_one (ds_ret (de_and (eEq hr (de_callB dc_len call_lenA (gl_ (by kernel_rfl)) c.n_len (by kernel_rfl) (da_cons (de_var (i := 0) (x := "value") rfl (vis_ (by kernel_rfl))) (da_nil))) (de_int)) (de_and (eIn hr (de_ix ix_all dop_ix (de_var (i := 0) (x := "value") rfl (vis_ (by kernel_rfl))) (de_int)) (de_gT (gl_ (by kernel_rfl)) c.g_WORDS c.t_WORDS)) (de_one (eIn hr (de_ix ix_all dop_ix (de_var (i := 0) (x := "value") rfl (vis_ (by kernel_rfl))) (de_int)) (de_var (i := 1) (x := "folders") rfl (vis_ (by kernel_rfl))))))))))

def first_bad_f1 : Fs := sSeq (sIf (cNot (cTest (cFn F_is_step (cCons (cVar 5) (cCons (cUn (atD at_folders) (cVar 0)) (cNil)))))) (sRet (cVar 4)) (sPass)) (sMatch (cVar 5) (mCase [("folder", 6)] (pSeq 2 (psCons (pVal "look") (psCons (fun d => some (some [("folder", d)])) psNil))) (cYes) (sApp 2 (cVar 6)) (mCase [("folder", 6)] (pSeq 2 (psCons (pOr (poCons (pVal "check") (poCons (pVal "sure") (fun _ => some false)))) (psCons (fun d => some (some [("folder", d)])) psNil))) (cTest (cOpO dNotInS (cVar 6) 2)) (sRet (cVar 4)) (mCase [("folder", 6)] (pSeq 2 (psCons (pVal "hold") (psCons (fun d => some (some [("folder", d)])) psNil))) (cTest (cOpO dIn (cVar 6) 3)) (sRet (cVar 4)) (mCase [("folder", 6)] (pSeq 2 (psCons (pVal "hold") (psCons (fun d => some (some [("folder", d)])) psNil))) (cYes) (sApp 3 (cVar 6)) (mCase [("folder", 6)] (pSeq 2 (psCons (pVal "free") (psCons (fun d => some (some [("folder", d)])) psNil))) (cTest (cOpO dNotInS (cVar 6) 3)) (sRet (cVar 4)) (mCase [("folder", 6)] (pSeq 2 (psCons (pVal "free") (psCons (fun d => some (some [("folder", d)])) psNil))) (cYes) (sRem 3 (cVar 6)) (fun _ => sPass))))))))
def B_first_bad : Fs := sSeq (sPar [2] (osCons (oLst (cNil)) osNil)) (sSeq (sPar [3] (osCons (oLst (cNil)) osNil)) (sSeq (sFor (cEnum (cCons (cVar 1) (cNil))) (tgTup 2 (tgsCons (tgName 4) (tgsCons (tgName 5) (tgsNil)))) (first_bad_f1)) (sRet (cC .non))))
def F_first_bad : Fd := fnD N_first_bad.length B_first_bad
theorem D_first_bad (c : FK K mg) (H_is_step : Df P w K mg B 1 "is_step" 2 F_is_step) : Df P w K mg B 2 "first_bad" 2 F_first_bad := by
  obtain ⟨fd, FD⟩ := c.d_first_bad
  refine df_fn (g := B_first_bad) FD sc_first_bad c.g_first_bad rfl (fun _ _ _ _ _ _ us hl => match us, hl with | [_, _], _ => rfl) fun cv A out s H E a hg hr => ?_
  unfold B_first_bad
  exact dss_cons (ds_setO (i := 2) sc_first_bad.nd rfl (loc_ (by kernel_rfl)) (do_lst (da_nil))) (dss_cons (ds_setO (i := 3) sc_first_bad.nd rfl (loc_ (by kernel_rfl)) (do_lst (da_nil))) (dss_cons (ds_for (vs := [4, 5]) (passes_of rfl) rfl (di_enum (gl_ (by kernel_rfl)) c.n_enumerate (da_cons (de_var (i := 1) (x := "steps") rfl (vis_ (by kernel_rfl))) (da_nil))) (dg_tup rfl (dgs_cons (dg_name (i := 4) (x := "number") sc_first_bad.nd rfl (loc_ (by kernel_rfl))) (dgs_cons (dg_name (i := 5) (x := "step") sc_first_bad.nd rfl (loc_ (by kernel_rfl))) (dgs_nil)))) (dss_cons (ds_if (dt_not (dt_val (de_call ((H_is_step).mono (by decide)) hg hr takesC (gl_ (by kernel_rfl)) (da_cons (de_var (i := 5) (x := "step") rfl (vis_ (by kernel_rfl))) (da_cons (de_attr (de_var (i := 0) (x := "world") rfl (vis_ (by kernel_rfl))) c.a_folders) (da_nil))) (len_cons (len_cons (len_nil)))))) (dss_one (ds_ret (de_var (i := 4) (x := "number") rfl (vis_ (by kernel_rfl))))) (dss_nil)) (dss_one (ds_match (de_var (i := 5) (x := "step") rfl (vis_ (by kernel_rfl))) (dcs_cons (ix := [("folder", 6)]) sc_first_bad.nd (ixOk1 rfl (loc_ (by kernel_rfl)) (.inl rfl)) (dp_seq rfl (dps_cons (dp_str hr.units) (dps_cons (dp_name) dps_nil))) (rfl) (dss_one (ds_app (i := 2) rfl (vis_ (by kernel_rfl)) (de_var (i := 6) (x := "folder") rfl (vis_ (by kernel_rfl))))) (dcs_cons (ix := [("folder", 6)]) sc_first_bad.nd (ixOk1 rfl (loc_ (by kernel_rfl)) (.inl rfl)) (dp_seq rfl (dps_cons (dp_or (dpo_cons (dp_str hr.units) (dpo_cons (dp_str hr.units) dpo_nil))) (dps_cons (dp_name) dps_nil))) (dt_cmpO (op_notInAll (un65 hr)) dop_notIn (de_var (i := 6) (x := "folder") rfl (vis_ (by kernel_rfl))) (i := 2) (x := "looked") rfl (vis_ (by kernel_rfl))) (dss_one (ds_ret (de_var (i := 4) (x := "number") rfl (vis_ (by kernel_rfl))))) (dcs_cons (ix := [("folder", 6)]) sc_first_bad.nd (ixOk1 rfl (loc_ (by kernel_rfl)) (.inl rfl)) (dp_seq rfl (dps_cons (dp_str hr.units) (dps_cons (dp_name) dps_nil))) (dt_cmpO (op_inAll (un65 hr)) dop_in (de_var (i := 6) (x := "folder") rfl (vis_ (by kernel_rfl))) (i := 3) (x := "held") rfl (vis_ (by kernel_rfl))) (dss_one (ds_ret (de_var (i := 4) (x := "number") rfl (vis_ (by kernel_rfl))))) (dcs_cons (ix := [("folder", 6)]) sc_first_bad.nd (ixOk1 rfl (loc_ (by kernel_rfl)) (.inl rfl)) (dp_seq rfl (dps_cons (dp_str hr.units) (dps_cons (dp_name) dps_nil))) (rfl) (dss_one (ds_app (i := 3) rfl (vis_ (by kernel_rfl)) (de_var (i := 6) (x := "folder") rfl (vis_ (by kernel_rfl))))) (dcs_cons (ix := [("folder", 6)]) sc_first_bad.nd (ixOk1 rfl (loc_ (by kernel_rfl)) (.inl rfl)) (dp_seq rfl (dps_cons (dp_str hr.units) (dps_cons (dp_name) dps_nil))) (dt_cmpO (op_notInAll (un65 hr)) dop_notIn (de_var (i := 6) (x := "folder") rfl (vis_ (by kernel_rfl))) (i := 3) (x := "held") rfl (vis_ (by kernel_rfl))) (dss_one (ds_ret (de_var (i := 4) (x := "number") rfl (vis_ (by kernel_rfl))))) (dcs_cons (ix := [("folder", 6)]) sc_first_bad.nd (ixOk1 rfl (loc_ (by kernel_rfl)) (.inl rfl)) (dp_seq rfl (dps_cons (dp_str hr.units) (dps_cons (dp_name) dps_nil))) (rfl) (dss_one (ds_rem (i := 3) rfl (vis_ (by kernel_rfl)) (de_var (i := 6) (x := "folder") rfl (vis_ (by kernel_rfl))))) dcs_nil)))))))))) (dss_one (ds_ret (de_non)))))

def need_steps_e1 : Fe := cOp dEq (cOp dIx (cVar 3) (cC (.int 0))) (cC (.str "look"))
def B_need_steps : Fs := sSeq (sIf (cOr (cNot (cTest (cFn F_is_list (cCons (cVar 1) (cNil))))) (cTest (cOp dEq (cCall dLen (cCons (cVar 1) (cNil))) (cC (.int 0))))) (sNever) (sPass)) (sSeq (sIf (cTest (cOp dGt (cCall dLen (cCons (cVar 1) (cNil))) (cC (.int 16)))) (sNever) (sPass)) (sSeq (sIfW dNotN 2 (cFn F_first_bad (cCons (cVar 0) (cCons (cVar 1) (cNil)))) (cC .non) (sNever) (sPass)) (sIf (cNot (cTest (cCall dAny (cCons (cLc (cSeqI (cVar 1)) (tgName 3) (cYes) (need_steps_e1) [3]) (cNil))))) (sNever) (sPass))))
def F_need_steps : Fd := fnD N_need_steps.length B_need_steps
theorem D_need_steps (c : FK K mg) (H_is_list : Df P w K mg B 1 "is_list" 1 F_is_list) (H_first_bad : Df P w K mg B 2 "first_bad" 2 F_first_bad) : Df P w K mg B 3 "need_steps" 2 F_need_steps := by
  obtain ⟨fd, FD⟩ := c.d_need_steps
  refine df_fn (g := B_need_steps) FD sc_need_steps c.g_need_steps rfl (fun _ _ _ _ _ _ us hl => match us, hl with | [_, _], _ => rfl) fun cv A out s H E a hg hr => ?_
  unfold B_need_steps
  exact dss_cons (ds_if (dt_bool (dw_or (dt_not (dt_val (de_call ((H_is_list).mono (by decide)) hg hr takesC (gl_ (by kernel_rfl)) (da_cons (de_var (i := 1) (x := "steps") rfl (vis_ (by kernel_rfl))) (da_nil)) (len_cons (len_nil))))) (dw_or1 (tEq hr (de_callB dc_len call_lenA (gl_ (by kernel_rfl)) c.n_len (by kernel_rfl) (da_cons (de_var (i := 1) (x := "steps") rfl (vis_ (by kernel_rfl))) (da_nil))) (de_int))))) (dss_one (ds_never)) (dss_nil)) (dss_cons (ds_if (tGt_ (de_callB dc_len call_lenA (gl_ (by kernel_rfl)) c.n_len (by kernel_rfl) (da_cons (de_var (i := 1) (x := "steps") rfl (vis_ (by kernel_rfl))) (da_nil))) (de_gI (gl_ (by kernel_rfl)) c.i_MOST_STEPS)) (dss_one (ds_never)) (dss_nil)) (dss_cons (ds_ifW (i := 2) op_notN dop_notN sc_need_steps.nd rfl (loc_ (by kernel_rfl)) (de_call ((H_first_bad).mono (by decide)) hg hr takesC (gl_ (by kernel_rfl)) (da_cons (de_var (i := 0) (x := "world") rfl (vis_ (by kernel_rfl))) (da_cons (de_var (i := 1) (x := "steps") rfl (vis_ (by kernel_rfl))) (da_nil))) (len_cons (len_cons (len_nil)))) (de_non) (dss_one (ds_never)) (dss_nil)) (dss_one (ds_if (dt_not (dt_val (de_callB dc_any (cr_any rfl) (gl_ (by kernel_rfl)) c.n_any (by kernel_rfl) (da_cons (de_lc (own := [("step", 3)]) rfl sc_need_steps.nd (di_seq (de_var (i := 1) (x := "steps") rfl (vis_ (by kernel_rfl)))) (blkB_ok (own := [("step", 3)]) (by kernel_rfl)) (fun _ _ _ _ _ => dg_name (i := 3) (x := "step") sc_need_steps.nd rfl (loc_ (by kernel_rfl))) (fun _ _ _ _ _ => dts_nilN) (fun _ _ _ _ _ => eEq hr (de_ix ix_all dop_ix (de_var (i := 3) (x := "step") rfl (vis_ (by kernel_rfl))) (de_int)) (de_gS (gl_ (by kernel_rfl)) c.s_LOOK))) (da_nil))))) (dss_one (ds_never)) (dss_nil)))))

def B_Copier_init : Fi := iSeq (sDrop (cFn F_need_steps (cCons (cVar 1) (cCons (cVar 2) (cNil))))) (iEndS (cVar 1) (cCall dTuple (cCons (cVar 2) (cNil))))
def F_Copier_init : Fd := fnI "Copier" N_Copier_init.length B_Copier_init
theorem I_Copier_init (c : FK K mg) (H_need_steps : Df P w K mg B 3 "need_steps" 2 F_need_steps) {fd : FuncData} (FD : FunD K "__init__" "Copier.__init__" (defArgs s_Copier_init) (defBody s_Copier_init) (defScope s_Copier_init) [] [] (He.fAd K ("Copier", some "__init__")) fd) : FnG P w K mg B (L2.CX P w) 4 (He.fAd K ("Copier", some "__init__")) fd ["self", "world", "steps"] (spI K mg "Copier" 2 F_Copier_init) := by
  refine init_fn (h := B_Copier_init) FD sc_Copier_init rfl fun cv A out s H E a C dx hg hr hm => ?_
  have cq := c.q_Copier hm
  unfold B_Copier_init
  exact din_cons (ds_drop (de_call ((H_need_steps).mono (by decide)) hg hr takesC (gl_ (by kernel_rfl)) (da_cons (de_var (i := 1) (x := "world") rfl (vis_ (by kernel_rfl))) (da_cons (de_var (i := 2) (x := "steps") rfl (vis_ (by kernel_rfl))) (da_nil))) (len_cons (len_cons (len_nil))))) (din_endS hm rfl (.inl (by kernel_rfl)) cq.1 cq.2.2 cq.2.1 (de_var (i := 1) (x := "world") rfl (vis_ (by kernel_rfl))) (de_callTy dc_tuple call_tuple_of (gl_ (by kernel_rfl)) c.n_tuple (by kernel_rfl) (da_cons (de_var (i := 2) (x := "steps") rfl (vis_ (by kernel_rfl))) (da_nil))))
theorem C0_Copier (c : FK K mg) (H_need_steps : Df P w K mg B 3 "need_steps" 2 F_need_steps) : Dc P w K mg B 4 "Copier" 2 F_Copier_init [] := by
  obtain ⟨fd, FD⟩ := c.d_Copier_init
  exact ⟨_, _, fd, _, [], [], c.g_Copier, c.k_Copier.2, c.k_Copier.1, FD.bindsN (fun _ _ _ _ _ _ us hl => match us, hl with | [_, _, _], _ => rfl), .nil, fun _ _ => .nil, I_Copier_init c H_need_steps FD⟩

def copier_text_e1 : Fe := cM1 dJoin (cC (.str " ")) (cVar 1)
def B_copier_text : Fs := sRet (cM1 dJoin (cC (.str "\n")) (cLc (cSeqI (cUn (atD at_steps) (cVar 0))) (tgName 1) (cYes) (copier_text_e1) [1]))
def F_copier_text : Fd := fnD N_copier_text.length B_copier_text
theorem D_copier_text (c : FK K mg) : Df P w K mg B 1 "copier_text" 1 F_copier_text := by
  obtain ⟨fd, FD⟩ := c.d_copier_text
  refine df_fn (g := B_copier_text) FD sc_copier_text c.g_copier_text rfl (fun _ _ _ _ _ _ us hl => match us, hl with | [_], _ => rfl) fun cv A out s H E a hg hr => ?_
  unfold B_copier_text
  exact dss_one (ds_ret (de_join (de_str) (de_lc (own := [("step", 1)]) rfl sc_copier_text.nd (di_seq (de_attr (de_var (i := 0) (x := "copier") rfl (vis_ (by kernel_rfl))) c.a_steps)) (blkB_ok (own := [("step", 1)]) (by kernel_rfl)) (fun _ _ _ _ _ => dg_name (i := 1) (x := "step") sc_copier_text.nd rfl (loc_ (by kernel_rfl))) (fun _ _ _ _ _ => dts_nilN) (fun _ _ _ _ _ => de_join (de_str) (de_var (i := 1) (x := "step") rfl (vis_ (by kernel_rfl)))))))

def read_copier_e1 : Fe := cCall dTuple (cCons (cVar 3) (cNil))
def B_read_copier : Fs := sSeq (sSet 2 (cFn F_lines_of (cCons (cVar 1) (cNil)))) (sSeq (sDrop (cFn F_need_lines (cCons (cVar 2) (cCons (cC (.int 0)) (cCons (cC (.fn "is_step_line")) (cNil)))))) (sRet (cMk F_Copier_init [] (cCons (cVar 0) (cCons (cLc (cSeqI (cVar 2)) (tgName 3) (cYes) (read_copier_e1) [3]) (cNil))))))
def F_read_copier : Fd := fnD N_read_copier.length B_read_copier
theorem D_read_copier (c : FK K mg) (H_lines_of : Df P w K mg B 1 "lines_of" 1 F_lines_of) (H_need_lines : Df P w K mg B 3 "need_lines" 3 F_need_lines) (C0_Copier : Dc P w K mg B 4 "Copier" 2 F_Copier_init []) : Df P w K mg B 6 "read_copier" 2 F_read_copier := by
  obtain ⟨fd, FD⟩ := c.d_read_copier
  refine df_fn (g := B_read_copier) FD sc_read_copier c.g_read_copier rfl (fun _ _ _ _ _ _ us hl => match us, hl with | [_, _], _ => rfl) fun cv A out s H E a hg hr => ?_
  unfold B_read_copier
  exact dss_cons (ds_set (i := 2) sc_read_copier.nd rfl (loc_ (by kernel_rfl)) (de_call ((H_lines_of).mono (by decide)) hg hr takesC (gl_ (by kernel_rfl)) (da_cons (de_var (i := 1) (x := "text") rfl (vis_ (by kernel_rfl))) (da_nil)) (len_cons (len_nil)))) (dss_cons (ds_drop (de_call ((H_need_lines).mono (by decide)) hg hr takesC (gl_ (by kernel_rfl)) (da_cons (de_var (i := 2) (x := "rows") rfl (vis_ (by kernel_rfl))) (da_cons (de_int) (da_cons (de_gF (gl_ (by kernel_rfl)) c.g_is_step_line) (da_nil)))) (len_cons (len_cons (len_cons (len_nil)))))) (dss_one (ds_ret (de_make ((C0_Copier).mono (by decide)) hg hr takesC (gl_ (by kernel_rfl)) (da_cons (de_var (i := 0) (x := "world") rfl (vis_ (by kernel_rfl))) (da_cons (de_lc (own := [("words", 3)]) rfl sc_read_copier.nd (di_seq (de_var (i := 2) (x := "rows") rfl (vis_ (by kernel_rfl)))) (blkB_ok (own := [("words", 3)]) (by kernel_rfl)) (fun _ _ _ _ _ => dg_name (i := 3) (x := "words") sc_read_copier.nd rfl (loc_ (by kernel_rfl))) (fun _ _ _ _ _ => dts_nilN) (fun _ _ _ _ _ => de_callTy dc_tuple call_tuple_of (gl_ (by kernel_rfl)) c.n_tuple (by kernel_rfl) (da_cons (de_var (i := 3) (x := "words") rfl (vis_ (by kernel_rfl))) (da_nil)))) (da_nil))) (fun ρ l ρ' h => by have := (len_cons (len_cons (len_nil))) ρ l ρ' h; simp [List.length_nil] at this ⊢; omega)))))

def B_Copier_eq : Fs := sRet (cAndV (cUn (isC "Copier" is_Copier) (cVar 1)) (cAndV (cOp (dEqI "World" F_World_eq) (cUn (atD at_world) (cVar 0)) (cUn (atD at_world) (cVar 1))) (cOp dEq (cUn (atD at_steps) (cVar 0)) (cUn (atD at_steps) (cVar 1)))))
def F_Copier_eq : Fd := fnD N_Copier_eq.length B_Copier_eq
theorem D_Copier_eq (c : FK K mg) (H_World_eq : Dm P w K mg B 1 "World" "__eq__" 2 F_World_eq) : Dm P w K mg B 2 "Copier" "__eq__" 2 F_Copier_eq := by
  obtain ⟨fd, FD⟩ := c.d_Copier_eq
  refine dm_fn (g := B_Copier_eq) FD sc_Copier_eq c.g_Copier c.m_Copier_eq.1 c.m_Copier_eq.2 rfl (fun _ _ _ _ _ _ us hl => match us, hl with | [_, _], _ => rfl) fun cv A out s H E a hg hr => ?_
  unfold B_Copier_eq
  exact dss_one (ds_ret (de_and (de_isC (gl_ (by kernel_rfl)) c.n_isinstance (by kernel_rfl) (gl_ (by kernel_rfl)) c.g_Copier (de_var (i := 1) (x := "other") rfl (vis_ (by kernel_rfl))) c.z_Copier c.o_Copier) (de_and (eEqI (n := 0) hr hg ((H_World_eq).mono (by decide)) (de_attr (de_var (i := 0) (x := "self") rfl (vis_ (by kernel_rfl))) c.a_world) (de_attr (de_var (i := 1) (x := "other") rfl (vis_ (by kernel_rfl))) c.a_world)) (de_one (eEq hr (de_attr (de_var (i := 0) (x := "self") rfl (vis_ (by kernel_rfl))) c.a_steps) (de_attr (de_var (i := 1) (x := "other") rfl (vis_ (by kernel_rfl))) c.a_steps))))))

def B_law_copiers_right : Fs := sSeq (sPar [5, 6] (osCons (oIm (cMk F_World_init [] (cCons (cVar 0) (cCons (cVar 1) (cNil))))) (osCons (oIm (cFn F_law_text_of (cCons (cVar 2) (cNil)))) (osNil)))) (sSeq (sSet 3 (cMk F_Copier_init [] (cCons (cVar 5) (cCons (cCall dList (cCons (cVar 2) (cNil))) (cNil))))) (sSeq (sIf (cTest (cOp dNe (cCall dRepr (cCons (cLst (cCons (cFn F_copier_text (cCons (cVar 3) (cNil))) (cCons (cFn F_copier_text (cCons (cVar 3) (cNil))) (cNil)))) (cNil))) (cCall dRepr (cCons (cLst (cCons (cVar 6) (cCons (cVar 6) (cNil)))) (cNil))))) (sRet (cC (.bl false))) (sPass)) (sSeq (sSet 4 (cFn F_read_copier (cCons (cVar 5) (cCons (cVar 6) (cNil))))) (sSeq (sIf (cOr (cNot (cTest (cUn (isC "Copier" is_Copier) (cVar 4)))) (cTest (cOp dNe (cCall dRepr (cCons (cUn (atD at_steps) (cVar 4)) (cNil))) (cCall dRepr (cCons (cVar 2) (cNil)))))) (sRet (cC (.bl false))) (sPass)) (sSeq (sIf (cNot (cTest (cOp (dEqI "World" F_World_eq) (cUn (atD at_world) (cVar 4)) (cVar 5)))) (sRet (cC (.bl false))) (sPass)) (sRet (cAndV (cOp (dEqI "Copier" F_Copier_eq) (cVar 4) (cVar 3)) (cOp dEq (cFn F_copier_text (cCons (cVar 4) (cNil))) (cVar 6)))))))))
def F_law_copiers_right : Fd := fnD N_law_copiers_right.length B_law_copiers_right
theorem D_law_copiers_right (c : FK K mg) (C0_World : Dc P w K mg B 2 "World" 2 F_World_init []) (C1_World : Dc P w K mg B 2 "World" 2 F_World_init dd_World) (H_law_text_of : Df P w K mg B 1 "_law_text_of" 1 F_law_text_of) (C0_Copier : Dc P w K mg B 4 "Copier" 2 F_Copier_init []) (H_copier_text : Df P w K mg B 1 "copier_text" 1 F_copier_text) (H_read_copier : Df P w K mg B 6 "read_copier" 2 F_read_copier) (H_World_eq : Dm P w K mg B 1 "World" "__eq__" 2 F_World_eq) (H_Copier_eq : Dm P w K mg B 2 "Copier" "__eq__" 2 F_Copier_eq) : Df P w K mg B 7 "_law_copiers_right" 3 F_law_copiers_right := by
  obtain ⟨fd, FD⟩ := c.d_law_copiers_right
  refine df_fn (g := B_law_copiers_right) FD sc_law_copiers_right c.g_law_copiers_right rfl (fun _ _ _ _ _ _ us hl => match us, hl with | [_, _, _], _ => rfl) fun cv A out s H E a hg hr => ?_
  unfold B_law_copiers_right
  exact dss_cons (ds_par2 (i := 5) (j := 6) rfl sc_law_copiers_right.nd rfl rfl (by decide) (by kernel_rfl) (by kernel_rfl) (dos_cons (do_im (de_make ((C0_World).mono (by decide)) hg hr takesC (gl_ (by kernel_rfl)) (da_cons (de_var (i := 0) (x := "_law_folders_here") rfl (vis_ (by kernel_rfl))) (da_cons (de_var (i := 1) (x := "_law_rules_here") rfl (vis_ (by kernel_rfl))) (da_nil))) (fun ρ l ρ' h => by have := (len_cons (len_cons (len_nil))) ρ l ρ' h; simp [List.length_nil] at this ⊢; omega))) (dos_cons (do_im (de_call ((H_law_text_of).mono (by decide)) hg hr takesC (gl_ (by kernel_rfl)) (da_cons (de_var (i := 2) (x := "_law_steps_here") rfl (vis_ (by kernel_rfl))) (da_nil)) (len_cons (len_nil)))) (dos_nil))) (by kernel_rfl)) (dss_cons (ds_set (i := 3) sc_law_copiers_right.nd rfl (loc_ (by kernel_rfl)) (de_make ((C0_Copier).mono (by decide)) hg hr takesC (gl_ (by kernel_rfl)) (da_cons (de_var (i := 5) (x := "_law_own") rfl (vis_ (by kernel_rfl))) (da_cons (de_callTy dc_list call_list_of (gl_ (by kernel_rfl)) c.n_list (by kernel_rfl) (da_cons (de_var (i := 2) (x := "_law_steps_here") rfl (vis_ (by kernel_rfl))) (da_nil))) (da_nil))) (fun ρ l ρ' h => by have := (len_cons (len_cons (len_nil))) ρ l ρ' h; simp [List.length_nil] at this ⊢; omega))) (dss_cons (ds_if (tNe hr (de_callB dc_repr (call_repr hg (un70 hr)) (gl_ (by kernel_rfl)) c.n_repr (by kernel_rfl) (da_cons (de_lst (da_cons (de_call ((H_copier_text).mono (by decide)) hg hr takesC (gl_ (by kernel_rfl)) (da_cons (de_var (i := 3) (x := "_law_box") rfl (vis_ (by kernel_rfl))) (da_nil)) (len_cons (len_nil))) (da_cons (de_call ((H_copier_text).mono (by decide)) hg hr takesC (gl_ (by kernel_rfl)) (da_cons (de_var (i := 3) (x := "_law_box") rfl (vis_ (by kernel_rfl))) (da_nil)) (len_cons (len_nil))) (da_nil)))) (da_nil))) (de_callB dc_repr (call_repr hg (un70 hr)) (gl_ (by kernel_rfl)) c.n_repr (by kernel_rfl) (da_cons (de_lst (da_cons (de_var (i := 6) (x := "_law_due") rfl (vis_ (by kernel_rfl))) (da_cons (de_var (i := 6) (x := "_law_due") rfl (vis_ (by kernel_rfl))) (da_nil)))) (da_nil)))) (dss_one (ds_ret (de_bl))) (dss_nil)) (dss_cons (ds_set (i := 4) sc_law_copiers_right.nd rfl (loc_ (by kernel_rfl)) (de_call ((H_read_copier).mono (by decide)) hg hr takesC (gl_ (by kernel_rfl)) (da_cons (de_var (i := 5) (x := "_law_own") rfl (vis_ (by kernel_rfl))) (da_cons (de_var (i := 6) (x := "_law_due") rfl (vis_ (by kernel_rfl))) (da_nil))) (len_cons (len_cons (len_nil))))) (dss_cons (ds_if (dt_bool (dw_or (dt_not (dt_val (de_isC (gl_ (by kernel_rfl)) c.n_isinstance (by kernel_rfl) (gl_ (by kernel_rfl)) c.g_Copier (de_var (i := 4) (x := "_law_back") rfl (vis_ (by kernel_rfl))) c.z_Copier c.o_Copier))) (dw_or1 (tNe hr (de_callB dc_repr (call_repr hg (un70 hr)) (gl_ (by kernel_rfl)) c.n_repr (by kernel_rfl) (da_cons (de_attr (de_var (i := 4) (x := "_law_back") rfl (vis_ (by kernel_rfl))) c.a_steps) (da_nil))) (de_callB dc_repr (call_repr hg (un70 hr)) (gl_ (by kernel_rfl)) c.n_repr (by kernel_rfl) (da_cons (de_var (i := 2) (x := "_law_steps_here") rfl (vis_ (by kernel_rfl))) (da_nil))))))) (dss_one (ds_ret (de_bl))) (dss_nil)) (dss_cons (ds_if (dt_not (tEqI (n := 0) hr hg ((H_World_eq).mono (by decide)) (de_attr (de_var (i := 4) (x := "_law_back") rfl (vis_ (by kernel_rfl))) c.a_world) (de_var (i := 5) (x := "_law_own") rfl (vis_ (by kernel_rfl))))) (dss_one (ds_ret (de_bl))) (dss_nil)) (dss_one (ds_ret (de_and (eEqI (n := 0) hr hg ((H_Copier_eq).mono (by decide)) (de_var (i := 4) (x := "_law_back") rfl (vis_ (by kernel_rfl))) (de_var (i := 3) (x := "_law_box") rfl (vis_ (by kernel_rfl)))) (de_one (eEq hr (de_call ((H_copier_text).mono (by decide)) hg hr takesC (gl_ (by kernel_rfl)) (da_cons (de_var (i := 4) (x := "_law_back") rfl (vis_ (by kernel_rfl))) (da_nil)) (len_cons (len_nil))) (de_var (i := 6) (x := "_law_due") rfl (vis_ (by kernel_rfl)))))))))))))

def law_f1 : Fs := sSeq (sBeg 5 2 F_law_begun (cCons (cVar 0) (cCons (cVar 1) (cNil)))) (sSeq (sSet 6 (cFn F_law_any_folders (cCons (cVar 5) (cNil)))) (sSeq (sPar [8, 9] (osCons (oIm (cFn F_law_rules (cCons (cVar 5) (cCons (cVar 6) (cNil))))) (osCons (oIm (cFn F_law_steps (cCons (cVar 5) (cCons (cVar 6) (cCons (cC (.int 16)) (cNil)))))) (osNil)))) (sSeq (sIf (cNot (cTest (cFn F_law_worlds_right (cCons (cVar 5) (cCons (cVar 6) (cCons (cVar 8) (cNil))))))) (sRet (cC (.bl false))) (sPass)) (sIf (cNot (cTest (cFn F_law_copiers_right (cCons (cVar 6) (cCons (cVar 8) (cCons (cVar 9) (cNil))))))) (sRet (cC (.bl false))) (sPass)))))
def B_law : Fs := sSeq (sForF (cRng1 (cCons (cOp dAdd (cC (.int 1)) (cCall dMin2 (cCons (cCall dLen (cCons (cVar 0) (cNil))) (cCons (cC (.int 5)) (cNil))))) (cNil))) (tgName 1) (law_f1)) (sSeq (sSet 2 (cTup (cCons (cC (.str "a")) (cCons (cC (.str "b")) (cCons (cC (.str "c")) (cCons (cC (.str "d")) (cNil))))))) (sSeq (sBegPar 5 7 2 F_law_begun (cCons (cVar 0) (cCons (cC (.int 0)) (cNil))) (cCall dTuple (cCons (cFn F_law_every_rule (cCons (cVar 2) (cNil))) (cNil)))) (sSeq (sIf (cOr (cTest (cOp dNe (cCall dLen (cCons (cVar 7) (cNil))) (cC (.int 32)))) (cNot (cTest (cFn F_law_worlds_right (cCons (cVar 5) (cCons (cVar 2) (cCons (cVar 7) (cNil)))))))) (sRet (cC (.bl false))) (sPass)) (sSeq (sIf (cNot (cTest (cFn F_law_worlds_right (cCons (cVar 5) (cCons (cTup (cCons (cC (.str "tick")) (cNil))) (cCons (cTup (cNil)) (cNil))))))) (sRet (cC (.bl false))) (sPass)) (sSeq (sSet 3 (cOp dAdd (cTup (cCons (cTup (cCons (cC (.str "look")) (cCons (cC (.str "d")) (cNil)))) (cNil))) (cOp dRepT (cTup (cCons (cTup (cCons (cC (.str "tick")) (cNil))) (cCons (cTup (cCons (cC (.str "check")) (cCons (cC (.str "d")) (cNil)))) (cCons (cTup (cCons (cC (.str "sure")) (cCons (cC (.str "d")) (cNil)))) (cNil))))) (cC (.int 4))))) (sSeq (sSet 3 (cOp dAdd (cVar 3) (cTup (cCons (cTup (cCons (cC (.str "hold")) (cCons (cC (.str "a")) (cNil)))) (cCons (cTup (cCons (cC (.str "free")) (cCons (cC (.str "a")) (cNil)))) (cCons (cTup (cCons (cC (.str "look")) (cCons (cC (.str "b")) (cNil)))) (cNil))))))) (sSeq (sIf (cOr (cTest (cOp dNe (cCall dLen (cCons (cVar 3) (cNil))) (cC (.int 16)))) (cNot (cTest (cFn F_law_copiers_right (cCons (cVar 2) (cCons (cVar 7) (cCons (cVar 3) (cNil)))))))) (sRet (cC (.bl false))) (sPass)) (sSeq (sSet 4 (cFn F_read_world (cCons (cC (.str "folders b a\nmove b a\nmake a")) (cNil)))) (sSeq (sIf (cTest (cOp dNe (cCall dRepr (cCons (cLst (cCons (cUn (atD at_folders) (cVar 4)) (cCons (cUn (atD at_rules) (cVar 4)) (cNil)))) (cNil))) (cCall dRepr (cCons (cLst (cCons (cTup (cCons (cC (.str "a")) (cCons (cC (.str "b")) (cNil)))) (cCons (cTup (cCons (cTup (cCons (cC (.str "make")) (cCons (cC (.str "a")) (cNil)))) (cCons (cTup (cCons (cC (.str "move")) (cCons (cC (.str "b")) (cCons (cC (.str "a")) (cNil))))) (cNil)))) (cNil)))) (cNil))))) (sRet (cC (.bl false))) (sPass)) (sSeq (sIf (cOr (cTest (cOp dNe (cFn F_world_text (cCons (cMk F_World_init dd_World (cCons (cLst (cCons (cC (.str "b")) (cCons (cC (.str "a")) (cNil)))) (cNil))) (cNil))) (cC (.str "folders a b")))) (cTest (cOp dNe (cFn F_world_text (cCons (cVar 4) (cNil))) (cC (.str "folders a b\nmake a\nmove b a"))))) (sRet (cC (.bl false))) (sPass)) (sRet (cOp dEq (cFn F_copier_text (cCons (cMk F_Copier_init [] (cCons (cVar 4) (cCons (cLst (cCons (cTup (cCons (cC (.str "tick")) (cNil))) (cCons (cTup (cCons (cC (.str "look")) (cCons (cC (.str "b")) (cNil)))) (cCons (cTup (cCons (cC (.str "sure")) (cCons (cC (.str "b")) (cNil)))) (cNil))))) (cNil)))) (cNil))) (cC (.str "tick\nlook b\nsure b"))))))))))))))
theorem D_law (c : FK K mg) (H_law_begun : Dbg P w K mg B 1 "_law_begun" 2 F_law_begun) (H_law_any_folders : Df P w K mg B 3 "_law_any_folders" 1 F_law_any_folders) (H_law_rules : Df P w K mg B 2 "_law_rules" 2 F_law_rules) (H_law_steps : Df P w K mg B 3 "_law_steps" 3 F_law_steps) (H_law_worlds_right : Df P w K mg B 5 "_law_worlds_right" 3 F_law_worlds_right) (H_law_copiers_right : Df P w K mg B 7 "_law_copiers_right" 3 F_law_copiers_right) (H_law_every_rule : Df P w K mg B 1 "_law_every_rule" 1 F_law_every_rule) (H_read_world : Df P w K mg B 4 "read_world" 1 F_read_world) (C0_World : Dc P w K mg B 2 "World" 2 F_World_init []) (C1_World : Dc P w K mg B 2 "World" 2 F_World_init dd_World) (H_world_text : Df P w K mg B 1 "world_text" 1 F_world_text) (C0_Copier : Dc P w K mg B 4 "Copier" 2 F_Copier_init []) (H_copier_text : Df P w K mg B 1 "copier_text" 1 F_copier_text) {fd : FuncData} (FD : FunD K "law" "law" (defArgs s_law) (defBody s_law) (defScope s_law) [] [] (He.fAd K ("law", none)) fd) : FnG P w K mg B (L2.CX P w) 8 (He.fAd K ("law", none)) fd ["_law_script"] (spLaw K mg (lawD N_law.length B_law)) := by
  refine law_fn (g := B_law) FD sc_law fun cv A out s H E hg hr => ?_
  unfold B_law
  exact dfs_cons (df_for (vs := [1]) (passes_of rfl) rfl (fun _ => di_range1 (gl_ (by kernel_rfl)) c.n_range (da_cons (de_add (de_int) (de_callB dc_min2 (call_min2 rfl) (gl_ (by kernel_rfl)) c.n_min (by kernel_rfl) (da_cons (de_callB dc_len call_lenA (gl_ (by kernel_rfl)) c.n_len (by kernel_rfl) (da_cons (de_var (i := 0) (x := "_law_script") rfl (vis_ (by kernel_rfl))) (da_nil))) (da_cons (de_int) (da_nil))))) (da_nil))) (fun _ => dg_name (i := 1) (x := "_law_k") sc_law.nd rfl (loc_ (by kernel_rfl))) (dfs_cons (df_begun (i := 5) sc_law.nd rfl (loc_ (by kernel_rfl)) (H_law_begun) hg (hr.mono (by decide)) (gl_ (by kernel_rfl)) (fun _ => da_cons (de_var (i := 0) (x := "_law_script") rfl (vis_ (by kernel_rfl))) (da_cons (de_var (i := 1) (x := "_law_k") rfl (vis_ (by kernel_rfl))) (da_nil)))) (dfs_cons (df_of fun _ => ds_set (i := 6) sc_law.nd rfl (loc_ (by kernel_rfl)) (de_call ((H_law_any_folders).mono (by decide)) hg hr takes_noE (gl_ (by kernel_rfl)) (da_cons (de_var (i := 5) (x := "_law_m") rfl (vis_ (by kernel_rfl))) (da_nil)) (len_cons (len_nil)))) (dfs_cons (df_of fun _ => ds_par2 (i := 8) (j := 9) rfl sc_law.nd rfl rfl (by decide) (by kernel_rfl) (by kernel_rfl) (dos_cons (do_im (de_call ((H_law_rules).mono (by decide)) hg hr takes_noE (gl_ (by kernel_rfl)) (da_cons (de_var (i := 5) (x := "_law_m") rfl (vis_ (by kernel_rfl))) (da_cons (de_var (i := 6) (x := "_law_folders_here") rfl (vis_ (by kernel_rfl))) (da_nil))) (len_cons (len_cons (len_nil))))) (dos_cons (do_im (de_call ((H_law_steps).mono (by decide)) hg hr takes_noE (gl_ (by kernel_rfl)) (da_cons (de_var (i := 5) (x := "_law_m") rfl (vis_ (by kernel_rfl))) (da_cons (de_var (i := 6) (x := "_law_folders_here") rfl (vis_ (by kernel_rfl))) (da_cons (de_int) (da_nil)))) (len_cons (len_cons (len_cons (len_nil)))))) (dos_nil))) (by kernel_rfl)) (dfs_cons (df_of fun _ => ds_if (dt_not (dt_val (de_call ((H_law_worlds_right).mono (by decide)) hg hr takes_noE (gl_ (by kernel_rfl)) (da_cons (de_var (i := 5) (x := "_law_m") rfl (vis_ (by kernel_rfl))) (da_cons (de_var (i := 6) (x := "_law_folders_here") rfl (vis_ (by kernel_rfl))) (da_cons (de_var (i := 8) (x := "_law_rules_here") rfl (vis_ (by kernel_rfl))) (da_nil)))) (len_cons (len_cons (len_cons (len_nil))))))) (dss_one (ds_ret (de_bl))) (dss_nil)) (dfs_one (df_of fun _ => ds_if (dt_not (dt_val (de_call ((H_law_copiers_right).mono (by decide)) hg hr takes_noE (gl_ (by kernel_rfl)) (da_cons (de_var (i := 6) (x := "_law_folders_here") rfl (vis_ (by kernel_rfl))) (da_cons (de_var (i := 8) (x := "_law_rules_here") rfl (vis_ (by kernel_rfl))) (da_cons (de_var (i := 9) (x := "_law_steps_here") rfl (vis_ (by kernel_rfl))) (da_nil)))) (len_cons (len_cons (len_cons (len_nil))))))) (dss_one (ds_ret (de_bl))) (dss_nil)))))))) (dfs_cons (df_of fun _ => ds_set (i := 2) sc_law.nd rfl (loc_ (by kernel_rfl)) (de_tup (da_cons (de_str) (da_cons (de_str) (da_cons (de_str) (da_cons (de_str) (da_nil))))))) (dfs_cons (df_begPar (i := 5) (j := 7) rfl sc_law.nd rfl rfl (by decide) (by kernel_rfl) (by kernel_rfl) (H_law_begun) hg (hr.mono (by decide)) (gl_ (by kernel_rfl)) (fun _ => da_cons (de_var (i := 0) (x := "_law_script") rfl (vis_ (by kernel_rfl))) (da_cons (de_int) (da_nil))) (fun _ => de_callTy dc_tuple call_tuple_of (gl_ (by kernel_rfl)) c.n_tuple (by kernel_rfl) (da_cons (de_call ((H_law_every_rule).mono (by decide)) hg hr takes_noE (gl_ (by kernel_rfl)) (da_cons (de_var (i := 2) (x := "_law_four") rfl (vis_ (by kernel_rfl))) (da_nil)) (len_cons (len_nil))) (da_nil))) (by kernel_rfl)) (dfs_cons (df_of fun _ => ds_if (dt_bool (dw_or (tNe hr (de_callB dc_len call_lenA (gl_ (by kernel_rfl)) c.n_len (by kernel_rfl) (da_cons (de_var (i := 7) (x := "_law_every") rfl (vis_ (by kernel_rfl))) (da_nil))) (de_int)) (dw_or1 (dt_not (dt_val (de_call ((H_law_worlds_right).mono (by decide)) hg hr takes_noE (gl_ (by kernel_rfl)) (da_cons (de_var (i := 5) (x := "_law_m") rfl (vis_ (by kernel_rfl))) (da_cons (de_var (i := 2) (x := "_law_four") rfl (vis_ (by kernel_rfl))) (da_cons (de_var (i := 7) (x := "_law_every") rfl (vis_ (by kernel_rfl))) (da_nil)))) (len_cons (len_cons (len_cons (len_nil)))))))))) (dss_one (ds_ret (de_bl))) (dss_nil)) (dfs_cons (df_of fun _ => ds_if (dt_not (dt_val (de_call ((H_law_worlds_right).mono (by decide)) hg hr takes_noE (gl_ (by kernel_rfl)) (da_cons (de_var (i := 5) (x := "_law_m") rfl (vis_ (by kernel_rfl))) (da_cons (de_tup (da_cons (de_str) (da_nil))) (da_cons (de_tup (da_nil)) (da_nil)))) (len_cons (len_cons (len_cons (len_nil))))))) (dss_one (ds_ret (de_bl))) (dss_nil)) (dfs_cons (df_of fun _ => ds_set (i := 3) sc_law.nd rfl (loc_ (by kernel_rfl)) (de_add (de_tup (da_cons (de_tup (da_cons (de_str) (da_cons (de_str) (da_nil)))) (da_nil))) (de_op op_repT dop_repT (de_tup (da_cons (de_tup (da_cons (de_str) (da_nil))) (da_cons (de_tup (da_cons (de_str) (da_cons (de_str) (da_nil)))) (da_cons (de_tup (da_cons (de_str) (da_cons (de_str) (da_nil)))) (da_nil))))) (de_int)))) (dfs_cons (df_of fun _ => ds_set (i := 3) sc_law.nd rfl (loc_ (by kernel_rfl)) (de_add (de_var (i := 3) (x := "_law_long") rfl (vis_ (by kernel_rfl))) (de_tup (da_cons (de_tup (da_cons (de_str) (da_cons (de_str) (da_nil)))) (da_cons (de_tup (da_cons (de_str) (da_cons (de_str) (da_nil)))) (da_cons (de_tup (da_cons (de_str) (da_cons (de_str) (da_nil)))) (da_nil))))))) (dfs_cons (df_of fun _ => ds_if (dt_bool (dw_or (tNe hr (de_callB dc_len call_lenA (gl_ (by kernel_rfl)) c.n_len (by kernel_rfl) (da_cons (de_var (i := 3) (x := "_law_long") rfl (vis_ (by kernel_rfl))) (da_nil))) (de_int)) (dw_or1 (dt_not (dt_val (de_call ((H_law_copiers_right).mono (by decide)) hg hr takes_noE (gl_ (by kernel_rfl)) (da_cons (de_var (i := 2) (x := "_law_four") rfl (vis_ (by kernel_rfl))) (da_cons (de_var (i := 7) (x := "_law_every") rfl (vis_ (by kernel_rfl))) (da_cons (de_var (i := 3) (x := "_law_long") rfl (vis_ (by kernel_rfl))) (da_nil)))) (len_cons (len_cons (len_cons (len_nil)))))))))) (dss_one (ds_ret (de_bl))) (dss_nil)) (dfs_cons (df_of fun _ => ds_set (i := 4) sc_law.nd rfl (loc_ (by kernel_rfl)) (de_call ((H_read_world).mono (by decide)) hg hr takes_noE (gl_ (by kernel_rfl)) (da_cons (de_str) (da_nil)) (len_cons (len_nil)))) (dfs_cons (df_of fun _ => ds_if (tNe hr (de_callB dc_repr (call_repr hg (un70 hr)) (gl_ (by kernel_rfl)) c.n_repr (by kernel_rfl) (da_cons (de_lst (da_cons (de_attr (de_var (i := 4) (x := "_law_told") rfl (vis_ (by kernel_rfl))) c.a_folders) (da_cons (de_attr (de_var (i := 4) (x := "_law_told") rfl (vis_ (by kernel_rfl))) c.a_rules) (da_nil)))) (da_nil))) (de_callB dc_repr (call_repr hg (un70 hr)) (gl_ (by kernel_rfl)) c.n_repr (by kernel_rfl) (da_cons (de_lst (da_cons (de_tup (da_cons (de_str) (da_cons (de_str) (da_nil)))) (da_cons (de_tup (da_cons (de_tup (da_cons (de_str) (da_cons (de_str) (da_nil)))) (da_cons (de_tup (da_cons (de_str) (da_cons (de_str) (da_cons (de_str) (da_nil))))) (da_nil)))) (da_nil)))) (da_nil)))) (dss_one (ds_ret (de_bl))) (dss_nil)) (dfs_cons (df_of fun _ => ds_if (dt_bool (dw_or (tNe hr (de_call ((H_world_text).mono (by decide)) hg hr takes_noE (gl_ (by kernel_rfl)) (da_cons (de_make ((C1_World).mono (by decide)) hg hr takes_noE (gl_ (by kernel_rfl)) (da_cons (de_lst (da_cons (de_str) (da_cons (de_str) (da_nil)))) (da_nil)) (fun ρ l ρ' h => by have := (len_cons (len_nil)) ρ l ρ' h; simp [dd_World] at this ⊢; omega)) (da_nil)) (len_cons (len_nil))) (de_str)) (dw_or1 (tNe hr (de_call ((H_world_text).mono (by decide)) hg hr takes_noE (gl_ (by kernel_rfl)) (da_cons (de_var (i := 4) (x := "_law_told") rfl (vis_ (by kernel_rfl))) (da_nil)) (len_cons (len_nil))) (de_str))))) (dss_one (ds_ret (de_bl))) (dss_nil)) (dfs_one (df_of fun _ => ds_ret (eEq hr (de_call ((H_copier_text).mono (by decide)) hg hr takes_noE (gl_ (by kernel_rfl)) (da_cons (de_make ((C0_Copier).mono (by decide)) hg hr takes_noE (gl_ (by kernel_rfl)) (da_cons (de_var (i := 4) (x := "_law_told") rfl (vis_ (by kernel_rfl))) (da_cons (de_lst (da_cons (de_tup (da_cons (de_str) (da_nil))) (da_cons (de_tup (da_cons (de_str) (da_cons (de_str) (da_nil)))) (da_cons (de_tup (da_cons (de_str) (da_cons (de_str) (da_nil)))) (da_nil))))) (da_nil))) (fun ρ l ρ' h => by have := (len_cons (len_cons (len_nil))) ρ l ρ' h; simp [List.length_nil] at this ⊢; omega)) (da_nil)) (len_cons (len_nil))) (de_str))))))))))))))

end
end LW

set_option Elab.async false
set_option linter.all false
set_option maxRecDepth 100000
set_option maxHeartbeats 4000000
namespace LW
open PySem DL
theorem oraGet_left (o : Ora) : oraGet o "left" = some (.int o.left) := rfl
theorem oraGet_seed (o : Ora) : oraGet o "seed" = some (.int o.seed) := rfl
theorem oraGet_spot (o : Ora) : oraGet o "spot" = some (.int o.spot) := rfl
theorem oraGet_cells (o : Ora) : oraGet o "cells" = some (.lst (o.cells.map D.int)) := rfl
theorem oraPut_left (o : Ora) (z : Int) : oraPut o "left" z = some { o with left := z } := rfl
theorem oraPut_seed (o : Ora) (z : Int) : oraPut o "seed" z = some { o with seed := z } := rfl
theorem oraPut_spot (o : Ora) (z : Int) : oraPut o "spot" z = some { o with spot := z } := rfl
/-- the draws' state is sound, at most n spots were drawn -/
theorem atI_at {α : Type} {l : List α} {i : Int} (h1 : 0 ≤ i) (h2 : i < l.length) : ∃ x, L2.atI l i = some x ∧ x ∈ l ∧ l[i.toNat]? = some x := by
  have hx : l[i.toNat]? = some (l[i.toNat]'(by omega)) := List.getElem?_eq_getElem (by omega)
  refine ⟨_, ?_, List.getElem_mem (by omega), hx⟩
  unfold L2.atI L2.ixN
  rw [if_pos h1, if_pos h2]
  exact hx
structure Ok (n : Nat) (o : Ora) : Prop where
  ne : o.cells ≠ []
  lo : 0 ≤ o.spot
  hi : o.spot ≤ n
theorem draw_left {o : Ora} {m : Int} (h : 0 < o.left) (hm : 0 < m) (hm2 : m < 1000000) : F_law_draw [.dr, .int m] (some o) = .ok (.int (o.left % m)) (some { o with left := o.left / m }) := by
  have hm3 : m < 1073741824 := by omega
  simp only [F_law_draw, N_law_draw, B_law_draw, sSeq, sIf, bE, bR, bS, cTest, cOp, cOra, sOraP, oraPd, cC, cCall, cCons, cNil, cTup, cLst, cStar, itemsD_tup, itemsD_lst, cUn, cSl, cPart, cNoPart, cNot, cAnd, cOr, cChain, cAndV, cOrV, cNotV, cIf, cYes_ap, sSet, sRet, sRetN, sPass, sDrop, sPar, osCons, osNil, oIm, oLst, oList, setS, cVar, oR, gR, gd, fnD, fnR, fnC, cFn, cMk, cM1, cGive, cOpO, cOpOL, cCallO, cPopAt, popD, sApp, appD, sRem, ownL, sIfW, ifW, sTgt, tgName_ap, tgTup_ap, tgsCons_ap, tgsNil_ap, tgStar_ap, cSeqI, seqD_tup, seqD_lst, seqD_str, cRng1, rngD, cEnum, seqE_tup, seqE_lst, sFor, cLc, Env.set, Env.wipe, Env.back, wipeS, backS, iSeq, iEnd, iEndS, iTwo, iTwoS, isSelf, fnI, bSeq, bRet, fnB, cCallV, cMeth, sMatch, sBeg, sBegPar, sForF, env0, scO, DL.scal, atD_ins, isC_ins, dAdd, dSub, dMod, dMul, dFdiv, dPow, dLt, dLe, dGt, dGe, onI, onIc, addS, addT, addL, dInt, dLen_tup, dLen_lst, dLen_scr, dLen_str, dTuple_tup, dTuple_lst, dList_tup, dList_lst, dSl_tup, dSl_lst, dSl_scr, dSl_str, dIx_tup, dIx_lst, dIx_str, dIn, dNotInS_tup, dNotInS_lst, dEq, dNe, dIsN, dNotN, dMin2, dRev_lst, dJoin_lst, dJoin_tup, oraGet_left, oraGet_seed, oraGet_spot, oraGet_cells, oraPut_left, oraPut_seed, oraPut_spot, Option.map, Option.or, Option.bind, Option.isSome_some, Option.isSome_none, id, List.map_cons, List.map_nil, List.length_cons, List.length_nil, List.length_map, List.length_append, List.replicate, List.cons_append, List.nil_append, List.append_assoc, List.getElem?_cons_zero, List.getElem?_cons_succ, List.set_cons_zero, List.set_cons_succ, List.getD_cons_zero, List.getD_cons_succ, decide_true, decide_false, if_true, if_false, ite_true, ite_false, ↓reduceIte, reduceCtorEq, Nat.reduceAdd, Nat.reduceSub, Nat.reduceLT, Nat.reduceLeDiff, Nat.reduceEqDiff, Nat.zero_add, true_and, and_true, Bool.not_true, Bool.not_false, imp_self, Bool.true_and, Bool.and_true, Bool.false_eq_true, decide_eq_true_eq, forall_const, implies_true, List.mem_cons, List.not_mem_nil, or_false, forall_eq_or_imp, forall_eq, false_implies, eq_self, eqB_int, Int.cast_ofNat_Int, Int.natCast_add, Int.natCast_one, Int.reduceAdd, Int.reduceSub, Int.reduceLT, Int.reduceLE, Int.reduceEq, Int.reduceNeg, Bool.and_false, Bool.false_and, Bool.or_true, Bool.true_or, Bool.or_false, Bool.false_or, h, hm, hm3]
theorem draw_spot {n : Nat} {o : Ora} {m : Int} (k : Ok n o) (hn : n < 2 ^ 40) (h : ¬ 0 < o.left) (hm : 0 < m) (hm2 : m < 1000000) : ∃ r, F_law_draw [.dr, .int m] (some o) = .ok (.int r) (some { o with spot := o.spot + 1 }) ∧ 0 ≤ r ∧ r < m := by
  have hm3 : m < 1073741824 := by omega
  have k1 := k.lo
  have k2 := k.hi
  have hl : (0 : Int) < o.cells.length := by
    have := k.ne
    cases e : o.cells with
    | nil => exact absurd e this
    | cons a l => simp only [List.length_cons]; omega
  obtain ⟨c, hc⟩ : ∃ c, L2.atI (o.cells.map D.int) (o.spot % (o.cells.length : Int)) = some (D.int c) := by
    have h1 : 0 ≤ o.spot % (o.cells.length : Int) := Int.emod_nonneg _ (by omega)
    have h2 : o.spot % (o.cells.length : Int) < o.cells.length := Int.emod_lt_of_pos _ hl
    refine ⟨o.cells[(o.spot % (o.cells.length : Int)).toNat]'(by omega), ?_⟩
    unfold L2.atI L2.ixN
    rw [if_pos h1, List.length_map, if_pos h2]
    show (List.map D.int o.cells)[_]? = _
    rw [List.getElem?_map, List.getElem?_eq_getElem (by omega)]
    rfl
  have e1 : (-(2 ^ 64) < o.spot ∧ o.spot < 2 ^ 64) := by constructor <;> omega
  have e2 : (-(2 ^ 64) < 2 * o.spot + 3 ∧ 2 * o.spot + 3 < 2 ^ 64) := by constructor <;> omega
  have e3 : ∀ z : Int, (-(2 ^ 64) < z % 2147483647 ∧ z % 2147483647 < 2 ^ 64) := fun z => by constructor <;> omega
  have e4 : ∀ z : Int, (-(2 ^ 64) < z % 2147483629 ∧ z % 2147483629 < 2 ^ 64) := fun z => by constructor <;> omega
  have e5 : (0 : Int) < 2147483647 := by decide
  have e6 : (0 : Int) < 2147483629 := by decide
  have e7 : ((0 : Int) < 11 ∧ (11 : Int) < 1073741824) := by decide
  simp only [F_law_draw, N_law_draw, B_law_draw, sSeq, sIf, bE, bR, bS, cTest, cOp, cOra, sOraP, oraPd, cC, cCall, cCons, cNil, cTup, cLst, cStar, itemsD_tup, itemsD_lst, cUn, cSl, cPart, cNoPart, cNot, cAnd, cOr, cChain, cAndV, cOrV, cNotV, cIf, cYes_ap, sSet, sRet, sRetN, sPass, sDrop, sPar, osCons, osNil, oIm, oLst, oList, setS, cVar, oR, gR, gd, fnD, fnR, fnC, cFn, cMk, cM1, cGive, cOpO, cOpOL, cCallO, cPopAt, popD, sApp, appD, sRem, ownL, sIfW, ifW, sTgt, tgName_ap, tgTup_ap, tgsCons_ap, tgsNil_ap, tgStar_ap, cSeqI, seqD_tup, seqD_lst, seqD_str, cRng1, rngD, cEnum, seqE_tup, seqE_lst, sFor, cLc, Env.set, Env.wipe, Env.back, wipeS, backS, iSeq, iEnd, iEndS, iTwo, iTwoS, isSelf, fnI, bSeq, bRet, fnB, cCallV, cMeth, sMatch, sBeg, sBegPar, sForF, env0, scO, DL.scal, atD_ins, isC_ins, dAdd, dSub, dMod, dMul, dFdiv, dPow, dLt, dLe, dGt, dGe, onI, onIc, addS, addT, addL, dInt, dLen_tup, dLen_lst, dLen_scr, dLen_str, dTuple_tup, dTuple_lst, dList_tup, dList_lst, dSl_tup, dSl_lst, dSl_scr, dSl_str, dIx_tup, dIx_lst, dIx_str, dIn, dNotInS_tup, dNotInS_lst, dEq, dNe, dIsN, dNotN, dMin2, dRev_lst, dJoin_lst, dJoin_tup, oraGet_left, oraGet_seed, oraGet_spot, oraGet_cells, oraPut_left, oraPut_seed, oraPut_spot, Option.map, Option.or, Option.bind, Option.isSome_some, Option.isSome_none, id, List.map_cons, List.map_nil, List.length_cons, List.length_nil, List.length_map, List.length_append, List.replicate, List.cons_append, List.nil_append, List.append_assoc, List.getElem?_cons_zero, List.getElem?_cons_succ, List.set_cons_zero, List.set_cons_succ, List.getD_cons_zero, List.getD_cons_succ, decide_true, decide_false, if_true, if_false, ite_true, ite_false, ↓reduceIte, reduceCtorEq, Nat.reduceAdd, Nat.reduceSub, Nat.reduceLT, Nat.reduceLeDiff, Nat.reduceEqDiff, Nat.zero_add, true_and, and_true, Bool.not_true, Bool.not_false, imp_self, Bool.true_and, Bool.and_true, Bool.false_eq_true, decide_eq_true_eq, forall_const, implies_true, List.mem_cons, List.not_mem_nil, or_false, forall_eq_or_imp, forall_eq, false_implies, eq_self, eqB_int, Int.cast_ofNat_Int, Int.natCast_add, Int.natCast_one, Int.reduceAdd, Int.reduceSub, Int.reduceLT, Int.reduceLE, Int.reduceEq, Int.reduceNeg, Bool.and_false, Bool.false_and, Bool.or_true, Bool.true_or, Bool.or_false, Bool.false_or, h, hm, hm3, hl, hc, e1, e2, e3, e4, e5, e6, e7, or_true, true_or]
  exact ⟨_, rfl, Int.emod_nonneg _ (by omega), Int.emod_lt_of_pos _ hm⟩
/-- a draw -/
theorem draw {n : Nat} {o : Ora} {m : Int} (k : Ok n o) (hn : n < 2 ^ 40) (hm : 0 < m) (hm2 : m < 1000000) : ∃ r o', F_law_draw [.dr, .int m] (some o) = .ok (.int r) (some o') ∧ 0 ≤ r ∧ r < m ∧ Ok (n + 1) o' := by
  by_cases h : 0 < o.left
  · exact ⟨_, _, draw_left h hm hm2, Int.emod_nonneg _ (by omega), Int.emod_lt_of_pos _ hm, ⟨k.ne, k.lo, by have := k.hi; show o.spot ≤ ((n + 1 : Nat) : Int); omega⟩⟩
  · obtain ⟨r, e, h1, h2⟩ := draw_spot k hn h hm hm2
    exact ⟨r, _, e, h1, h2, ⟨k.ne, by have := k.lo; show 0 ≤ o.spot + 1; omega, by have := k.hi; show o.spot + 1 ≤ ((n + 1 : Nat) : Int); omega⟩⟩
theorem of_lst {n : Nat} {o : Ora} {l : List D} (k : Ok n o) (hn : n < 2 ^ 40) (hl : l ≠ []) (hl2 : l.length < 1000000) : ∃ x o', F_law_of [.dr, .lst l] (some o) = .ok x (some o') ∧ x ∈ l ∧ Ok (n + 1) o' := by
  have h0 : 0 < l.length := List.length_pos_iff.mpr hl
  obtain ⟨r, o', e, h1, h2, k'⟩ := draw (m := l.length) k hn (by omega) (by omega)
  obtain ⟨x, hx, hm, _⟩ := atI_at h1 h2
  refine ⟨x, o', ?_, hm, k'⟩
  simp only [F_law_of, N_law_of, B_law_of, sSeq, sIf, bE, bR, bS, cTest, cOp, cOra, sOraP, oraPd, cC, cCall, cCons, cNil, cTup, cLst, cStar, itemsD_tup, itemsD_lst, cUn, cSl, cPart, cNoPart, cNot, cAnd, cOr, cChain, cAndV, cOrV, cNotV, cIf, cYes_ap, sSet, sRet, sRetN, sPass, sDrop, sPar, osCons, osNil, oIm, oLst, oList, setS, cVar, oR, gR, gd, fnD, fnR, fnC, cFn, cMk, cM1, cGive, cOpO, cOpOL, cCallO, cPopAt, popD, sApp, appD, sRem, ownL, sIfW, ifW, sTgt, tgName_ap, tgTup_ap, tgsCons_ap, tgsNil_ap, tgStar_ap, cSeqI, seqD_tup, seqD_lst, seqD_str, cRng1, rngD, cEnum, seqE_tup, seqE_lst, sFor, cLc, Env.set, Env.wipe, Env.back, wipeS, backS, iSeq, iEnd, iEndS, iTwo, iTwoS, isSelf, fnI, bSeq, bRet, fnB, cCallV, cMeth, sMatch, sBeg, sBegPar, sForF, env0, scO, DL.scal, atD_ins, isC_ins, dAdd, dSub, dMod, dMul, dFdiv, dPow, dLt, dLe, dGt, dGe, onI, onIc, addS, addT, addL, dInt, dLen_tup, dLen_lst, dLen_scr, dLen_str, dTuple_tup, dTuple_lst, dList_tup, dList_lst, dSl_tup, dSl_lst, dSl_scr, dSl_str, dIx_tup, dIx_lst, dIx_str, dIn, dNotInS_tup, dNotInS_lst, dEq, dNe, dIsN, dNotN, dMin2, dRev_lst, dJoin_lst, dJoin_tup, oraGet_left, oraGet_seed, oraGet_spot, oraGet_cells, oraPut_left, oraPut_seed, oraPut_spot, Option.map, Option.or, Option.bind, Option.isSome_some, Option.isSome_none, id, List.map_cons, List.map_nil, List.length_cons, List.length_nil, List.length_map, List.length_append, List.replicate, List.cons_append, List.nil_append, List.append_assoc, List.getElem?_cons_zero, List.getElem?_cons_succ, List.set_cons_zero, List.set_cons_succ, List.getD_cons_zero, List.getD_cons_succ, decide_true, decide_false, if_true, if_false, ite_true, ite_false, ↓reduceIte, reduceCtorEq, Nat.reduceAdd, Nat.reduceSub, Nat.reduceLT, Nat.reduceLeDiff, Nat.reduceEqDiff, Nat.zero_add, true_and, and_true, Bool.not_true, Bool.not_false, imp_self, Bool.true_and, Bool.and_true, Bool.false_eq_true, decide_eq_true_eq, forall_const, implies_true, List.mem_cons, List.not_mem_nil, or_false, forall_eq_or_imp, forall_eq, false_implies, eq_self, eqB_int, Int.cast_ofNat_Int, Int.natCast_add, Int.natCast_one, Int.reduceAdd, Int.reduceSub, Int.reduceLT, Int.reduceLE, Int.reduceEq, Int.reduceNeg, Bool.and_false, Bool.false_and, Bool.or_true, Bool.true_or, Bool.or_false, Bool.false_or, e, hx]
theorem of_tup {n : Nat} {o : Ora} {l : List D} (k : Ok n o) (hn : n < 2 ^ 40) (hl : l ≠ []) (hl2 : l.length < 1000000) : ∃ x o', F_law_of [.dr, .tup l] (some o) = .ok x (some o') ∧ x ∈ l ∧ Ok (n + 1) o' := by
  have h0 : 0 < l.length := List.length_pos_iff.mpr hl
  obtain ⟨r, o', e, h1, h2, k'⟩ := draw (m := l.length) k hn (by omega) (by omega)
  obtain ⟨x, hx, hm, _⟩ := atI_at h1 h2
  refine ⟨x, o', ?_, hm, k'⟩
  simp only [F_law_of, N_law_of, B_law_of, sSeq, sIf, bE, bR, bS, cTest, cOp, cOra, sOraP, oraPd, cC, cCall, cCons, cNil, cTup, cLst, cStar, itemsD_tup, itemsD_lst, cUn, cSl, cPart, cNoPart, cNot, cAnd, cOr, cChain, cAndV, cOrV, cNotV, cIf, cYes_ap, sSet, sRet, sRetN, sPass, sDrop, sPar, osCons, osNil, oIm, oLst, oList, setS, cVar, oR, gR, gd, fnD, fnR, fnC, cFn, cMk, cM1, cGive, cOpO, cOpOL, cCallO, cPopAt, popD, sApp, appD, sRem, ownL, sIfW, ifW, sTgt, tgName_ap, tgTup_ap, tgsCons_ap, tgsNil_ap, tgStar_ap, cSeqI, seqD_tup, seqD_lst, seqD_str, cRng1, rngD, cEnum, seqE_tup, seqE_lst, sFor, cLc, Env.set, Env.wipe, Env.back, wipeS, backS, iSeq, iEnd, iEndS, iTwo, iTwoS, isSelf, fnI, bSeq, bRet, fnB, cCallV, cMeth, sMatch, sBeg, sBegPar, sForF, env0, scO, DL.scal, atD_ins, isC_ins, dAdd, dSub, dMod, dMul, dFdiv, dPow, dLt, dLe, dGt, dGe, onI, onIc, addS, addT, addL, dInt, dLen_tup, dLen_lst, dLen_scr, dLen_str, dTuple_tup, dTuple_lst, dList_tup, dList_lst, dSl_tup, dSl_lst, dSl_scr, dSl_str, dIx_tup, dIx_lst, dIx_str, dIn, dNotInS_tup, dNotInS_lst, dEq, dNe, dIsN, dNotN, dMin2, dRev_lst, dJoin_lst, dJoin_tup, oraGet_left, oraGet_seed, oraGet_spot, oraGet_cells, oraPut_left, oraPut_seed, oraPut_spot, Option.map, Option.or, Option.bind, Option.isSome_some, Option.isSome_none, id, List.map_cons, List.map_nil, List.length_cons, List.length_nil, List.length_map, List.length_append, List.replicate, List.cons_append, List.nil_append, List.append_assoc, List.getElem?_cons_zero, List.getElem?_cons_succ, List.set_cons_zero, List.set_cons_succ, List.getD_cons_zero, List.getD_cons_succ, decide_true, decide_false, if_true, if_false, ite_true, ite_false, ↓reduceIte, reduceCtorEq, Nat.reduceAdd, Nat.reduceSub, Nat.reduceLT, Nat.reduceLeDiff, Nat.reduceEqDiff, Nat.zero_add, true_and, and_true, Bool.not_true, Bool.not_false, imp_self, Bool.true_and, Bool.and_true, Bool.false_eq_true, decide_eq_true_eq, forall_const, implies_true, List.mem_cons, List.not_mem_nil, or_false, forall_eq_or_imp, forall_eq, false_implies, eq_self, eqB_int, Int.cast_ofNat_Int, Int.natCast_add, Int.natCast_one, Int.reduceAdd, Int.reduceSub, Int.reduceLT, Int.reduceLE, Int.reduceEq, Int.reduceNeg, Bool.and_false, Bool.false_and, Bool.or_true, Bool.true_or, Bool.or_false, Bool.false_or, e, hx]
theorem of_str {n : Nat} {o : Ora} {z : Str} (k : Ok n o) (hn : n < 2 ^ 40) (hl : z.cps.toList ≠ []) (hl2 : z.length ≤ 100000) : ∃ c o', F_law_of [.dr, .str z] (some o) = .ok (.str ⟨#[c]⟩) (some o') ∧ c ∈ z.cps.toList ∧ Ok (n + 1) o' := by
  have h0 : 0 < z.cps.toList.length := List.length_pos_iff.mpr hl
  have hz : z.length = z.cps.toList.length := by simp [Str.length]
  obtain ⟨r, o', e, h1, h2, k'⟩ := draw (m := z.length) k hn (by omega) (by omega)
  obtain ⟨x, hx, hm, _⟩ := atI_at (l := z.cps.toList) h1 (by omega)
  refine ⟨x, o', ?_, hm, k'⟩
  have hs : sz z.length := hl2
  simp only [F_law_of, N_law_of, B_law_of, sSeq, sIf, bE, bR, bS, cTest, cOp, cOra, sOraP, oraPd, cC, cCall, cCons, cNil, cTup, cLst, cStar, itemsD_tup, itemsD_lst, cUn, cSl, cPart, cNoPart, cNot, cAnd, cOr, cChain, cAndV, cOrV, cNotV, cIf, cYes_ap, sSet, sRet, sRetN, sPass, sDrop, sPar, osCons, osNil, oIm, oLst, oList, setS, cVar, oR, gR, gd, fnD, fnR, fnC, cFn, cMk, cM1, cGive, cOpO, cOpOL, cCallO, cPopAt, popD, sApp, appD, sRem, ownL, sIfW, ifW, sTgt, tgName_ap, tgTup_ap, tgsCons_ap, tgsNil_ap, tgStar_ap, cSeqI, seqD_tup, seqD_lst, seqD_str, cRng1, rngD, cEnum, seqE_tup, seqE_lst, sFor, cLc, Env.set, Env.wipe, Env.back, wipeS, backS, iSeq, iEnd, iEndS, iTwo, iTwoS, isSelf, fnI, bSeq, bRet, fnB, cCallV, cMeth, sMatch, sBeg, sBegPar, sForF, env0, scO, DL.scal, atD_ins, isC_ins, dAdd, dSub, dMod, dMul, dFdiv, dPow, dLt, dLe, dGt, dGe, onI, onIc, addS, addT, addL, dInt, dLen_tup, dLen_lst, dLen_scr, dLen_str, dTuple_tup, dTuple_lst, dList_tup, dList_lst, dSl_tup, dSl_lst, dSl_scr, dSl_str, dIx_tup, dIx_lst, dIx_str, dIn, dNotInS_tup, dNotInS_lst, dEq, dNe, dIsN, dNotN, dMin2, dRev_lst, dJoin_lst, dJoin_tup, oraGet_left, oraGet_seed, oraGet_spot, oraGet_cells, oraPut_left, oraPut_seed, oraPut_spot, Option.map, Option.or, Option.bind, Option.isSome_some, Option.isSome_none, id, List.map_cons, List.map_nil, List.length_cons, List.length_nil, List.length_map, List.length_append, List.replicate, List.cons_append, List.nil_append, List.append_assoc, List.getElem?_cons_zero, List.getElem?_cons_succ, List.set_cons_zero, List.set_cons_succ, List.getD_cons_zero, List.getD_cons_succ, decide_true, decide_false, if_true, if_false, ite_true, ite_false, ↓reduceIte, reduceCtorEq, Nat.reduceAdd, Nat.reduceSub, Nat.reduceLT, Nat.reduceLeDiff, Nat.reduceEqDiff, Nat.zero_add, true_and, and_true, Bool.not_true, Bool.not_false, imp_self, Bool.true_and, Bool.and_true, Bool.false_eq_true, decide_eq_true_eq, forall_const, implies_true, List.mem_cons, List.not_mem_nil, or_false, forall_eq_or_imp, forall_eq, false_implies, eq_self, eqB_int, Int.cast_ofNat_Int, Int.natCast_add, Int.natCast_one, Int.reduceAdd, Int.reduceSub, Int.reduceLT, Int.reduceLE, Int.reduceEq, Int.reduceNeg, Bool.and_false, Bool.false_and, Bool.or_true, Bool.true_or, Bool.or_false, Bool.false_or, e, hx, hs]
end LW

set_option Elab.async false
set_option linter.all false
set_option maxRecDepth 100000
set_option maxHeartbeats 4000000
namespace LW
open PySem DL
theorem isT_str_str (x : Str) : isT "str" (.str x) = some (.bl true) := by kernel_rfl
theorem isT_tup_tup (l : List D) : isT "tuple" (.tup l) = some (.bl true) := by kernel_rfl
theorem isT2_lst (l : List D) : isT2 "list" "tuple" (.lst l) = some (.bl true) := by kernel_rfl
theorem isT2_tup (l : List D) : isT2 "list" "tuple" (.tup l) = some (.bl true) := by kernel_rfl
theorem is_list_lst (l : List D) (o : Option Ora) : F_is_list [.lst l] o = .ok (.bl true) o := by
  simp only [F_is_list, N_is_list, B_is_list, sSeq, sIf, bE, bR, bS, cTest, cOp, cOra, sOraP, oraPd, cC, cCall, cCons, cNil, cTup, cLst, cStar, itemsD_tup, itemsD_lst, cUn, cSl, cPart, cNoPart, cNot, cAnd, cOr, cChain, cAndV, cOrV, cNotV, cIf, cYes_ap, sSet, sRet, sRetN, sPass, sDrop, sPar, osCons, osNil, oIm, oLst, oList, setS, cVar, oR, gR, gd, fnD, fnR, fnC, cFn, cMk, cM1, cGive, cOpO, cOpOL, cCallO, cPopAt, popD, sApp, appD, sRem, ownL, sIfW, ifW, sTgt, tgName_ap, tgTup_ap, tgsCons_ap, tgsNil_ap, tgStar_ap, cSeqI, seqD_tup, seqD_lst, seqD_str, cRng1, rngD, cEnum, seqE_tup, seqE_lst, sFor, cLc, Env.set, Env.wipe, Env.back, wipeS, backS, iSeq, iEnd, iEndS, iTwo, iTwoS, isSelf, fnI, bSeq, bRet, fnB, cCallV, cMeth, sMatch, sBeg, sBegPar, sForF, env0, scO, DL.scal, atD_ins, isC_ins, dAdd, dSub, dMod, dMul, dFdiv, dPow, dLt, dLe, dGt, dGe, onI, onIc, addS, addT, addL, dInt, dLen_tup, dLen_lst, dLen_scr, dLen_str, dTuple_tup, dTuple_lst, dList_tup, dList_lst, dSl_tup, dSl_lst, dSl_scr, dSl_str, dIx_tup, dIx_lst, dIx_str, dIn, dNotInS_tup, dNotInS_lst, dEq, dNe, dIsN, dNotN, dMin2, dRev_lst, dJoin_lst, dJoin_tup, oraGet_left, oraGet_seed, oraGet_spot, oraGet_cells, oraPut_left, oraPut_seed, oraPut_spot, Option.map, Option.or, Option.bind, Option.isSome_some, Option.isSome_none, id, List.map_cons, List.map_nil, List.length_cons, List.length_nil, List.length_map, List.length_append, List.replicate, List.cons_append, List.nil_append, List.append_assoc, List.getElem?_cons_zero, List.getElem?_cons_succ, List.set_cons_zero, List.set_cons_succ, List.getD_cons_zero, List.getD_cons_succ, decide_true, decide_false, if_true, if_false, ite_true, ite_false, ↓reduceIte, reduceCtorEq, Nat.reduceAdd, Nat.reduceSub, Nat.reduceLT, Nat.reduceLeDiff, Nat.reduceEqDiff, Nat.zero_add, true_and, and_true, Bool.not_true, Bool.not_false, imp_self, Bool.true_and, Bool.and_true, Bool.false_eq_true, decide_eq_true_eq, forall_const, implies_true, List.mem_cons, List.not_mem_nil, or_false, forall_eq_or_imp, forall_eq, false_implies, eq_self, eqB_int, Int.cast_ofNat_Int, Int.natCast_add, Int.natCast_one, Int.reduceAdd, Int.reduceSub, Int.reduceLT, Int.reduceLE, Int.reduceEq, Int.reduceNeg, Bool.and_false, Bool.false_and, Bool.or_true, Bool.true_or, Bool.or_false, Bool.false_or, isT2_lst]
theorem is_list_tup (l : List D) (o : Option Ora) : F_is_list [.tup l] o = .ok (.bl true) o := by
  simp only [F_is_list, N_is_list, B_is_list, sSeq, sIf, bE, bR, bS, cTest, cOp, cOra, sOraP, oraPd, cC, cCall, cCons, cNil, cTup, cLst, cStar, itemsD_tup, itemsD_lst, cUn, cSl, cPart, cNoPart, cNot, cAnd, cOr, cChain, cAndV, cOrV, cNotV, cIf, cYes_ap, sSet, sRet, sRetN, sPass, sDrop, sPar, osCons, osNil, oIm, oLst, oList, setS, cVar, oR, gR, gd, fnD, fnR, fnC, cFn, cMk, cM1, cGive, cOpO, cOpOL, cCallO, cPopAt, popD, sApp, appD, sRem, ownL, sIfW, ifW, sTgt, tgName_ap, tgTup_ap, tgsCons_ap, tgsNil_ap, tgStar_ap, cSeqI, seqD_tup, seqD_lst, seqD_str, cRng1, rngD, cEnum, seqE_tup, seqE_lst, sFor, cLc, Env.set, Env.wipe, Env.back, wipeS, backS, iSeq, iEnd, iEndS, iTwo, iTwoS, isSelf, fnI, bSeq, bRet, fnB, cCallV, cMeth, sMatch, sBeg, sBegPar, sForF, env0, scO, DL.scal, atD_ins, isC_ins, dAdd, dSub, dMod, dMul, dFdiv, dPow, dLt, dLe, dGt, dGe, onI, onIc, addS, addT, addL, dInt, dLen_tup, dLen_lst, dLen_scr, dLen_str, dTuple_tup, dTuple_lst, dList_tup, dList_lst, dSl_tup, dSl_lst, dSl_scr, dSl_str, dIx_tup, dIx_lst, dIx_str, dIn, dNotInS_tup, dNotInS_lst, dEq, dNe, dIsN, dNotN, dMin2, dRev_lst, dJoin_lst, dJoin_tup, oraGet_left, oraGet_seed, oraGet_spot, oraGet_cells, oraPut_left, oraPut_seed, oraPut_spot, Option.map, Option.or, Option.bind, Option.isSome_some, Option.isSome_none, id, List.map_cons, List.map_nil, List.length_cons, List.length_nil, List.length_map, List.length_append, List.replicate, List.cons_append, List.nil_append, List.append_assoc, List.getElem?_cons_zero, List.getElem?_cons_succ, List.set_cons_zero, List.set_cons_succ, List.getD_cons_zero, List.getD_cons_succ, decide_true, decide_false, if_true, if_false, ite_true, ite_false, ↓reduceIte, reduceCtorEq, Nat.reduceAdd, Nat.reduceSub, Nat.reduceLT, Nat.reduceLeDiff, Nat.reduceEqDiff, Nat.zero_add, true_and, and_true, Bool.not_true, Bool.not_false, imp_self, Bool.true_and, Bool.and_true, Bool.false_eq_true, decide_eq_true_eq, forall_const, implies_true, List.mem_cons, List.not_mem_nil, or_false, forall_eq_or_imp, forall_eq, false_implies, eq_self, eqB_int, Int.cast_ofNat_Int, Int.natCast_add, Int.natCast_one, Int.reduceAdd, Int.reduceSub, Int.reduceLT, Int.reduceLE, Int.reduceEq, Int.reduceNeg, Bool.and_false, Bool.false_and, Bool.or_true, Bool.true_or, Bool.or_false, Bool.false_or, isT2_tup]
theorem blsOf_map {α : Type} (b : α → Bool) : ∀ l : List α, blsOf (l.map fun x => D.bl (b x)) = some (l.map b)
  | [] => rfl
  | x :: l => by
    show (blsOf (l.map fun x => D.bl (b x))).map (b x :: ·) = _
    rw [blsOf_map b l]; rfl
theorem dAll_map {α : Type} (b : α → Bool) (l : List α) : dAll [.lst (l.map fun x => D.bl (b x))] = some (.bl (l.all b)) := by
  show (blsOf _).map _ = _
  rw [blsOf_map]
  show some (D.bl ((l.map b).all id)) = _
  rw [List.all_map]; rfl
theorem dAny_map {α : Type} (b : α → Bool) (l : List α) : dAny [.lst (l.map fun x => D.bl (b x))] = some (.bl (l.any b)) := by
  show (blsOf _).map _ = _
  rw [blsOf_map]
  show some (D.bl ((l.map b).any id)) = _
  rw [List.any_map]; rfl
/-! ### words -/
def lettersS : Str := "abcdefghijklmnopqrstuvwxyz"
def isLet (c : Nat) : Bool := decide (c ∈ lettersS.cps.toList)
def isWord (x : Str) : Bool := decide (1 ≤ x.length) && decide (x.length ≤ 8) && x.cps.toList.all isLet
theorem in_sign (c : Nat) (z : Str) : inB (.str ⟨#[c]⟩) (.str z) = some (decide (c ∈ z.cps.toList)) := rfl
theorem is_word_str (x : Str) (h : x.length ≤ 100000) (o : Option Ora) : F_is_word [.str x] o = .ok (.bl (isWord x)) o := by
  have hs : sz x.length := h
  have hx : x.cps.toList.length = x.length := by simp [Str.length]
  by_cases h1 : (1 : Int) ≤ x.length
  · by_cases h2 : (x.length : Int) ≤ 8
    · have e := lc_map (enc := fun c => D.str ⟨#[c]⟩) (f := is_word_e1) (i := 1) (ρ := ⟨[.im (.str x), .no], o⟩) (fun c => D.bl (isLet c)) x.cps.toList (by omega) rfl (fun c hc => by
        simp only [is_word_e1, sSeq, sIf, bE, bR, bS, cTest, cOp, cOra, sOraP, oraPd, cC, cCall, cCons, cNil, cTup, cLst, cStar, itemsD_tup, itemsD_lst, cUn, cSl, cPart, cNoPart, cNot, cAnd, cOr, cChain, cAndV, cOrV, cNotV, cIf, cYes_ap, sSet, sRet, sRetN, sPass, sDrop, sPar, osCons, osNil, oIm, oLst, oList, setS, cVar, oR, gR, gd, fnD, fnR, fnC, cFn, cMk, cM1, cGive, cOpO, cOpOL, cCallO, cPopAt, popD, sApp, appD, sRem, ownL, sIfW, ifW, sTgt, tgName_ap, tgTup_ap, tgsCons_ap, tgsNil_ap, tgStar_ap, cSeqI, seqD_tup, seqD_lst, seqD_str, cRng1, rngD, cEnum, seqE_tup, seqE_lst, sFor, cLc, Env.set, Env.wipe, Env.back, wipeS, backS, iSeq, iEnd, iEndS, iTwo, iTwoS, isSelf, fnI, bSeq, bRet, fnB, cCallV, cMeth, sMatch, sBeg, sBegPar, sForF, env0, scO, DL.scal, atD_ins, isC_ins, dAdd, dSub, dMod, dMul, dFdiv, dPow, dLt, dLe, dGt, dGe, onI, onIc, addS, addT, addL, dInt, dLen_tup, dLen_lst, dLen_scr, dLen_str, dTuple_tup, dTuple_lst, dList_tup, dList_lst, dSl_tup, dSl_lst, dSl_scr, dSl_str, dIx_tup, dIx_lst, dIx_str, dIn, dNotInS_tup, dNotInS_lst, dEq, dNe, dIsN, dNotN, dMin2, dRev_lst, dJoin_lst, dJoin_tup, oraGet_left, oraGet_seed, oraGet_spot, oraGet_cells, oraPut_left, oraPut_seed, oraPut_spot, Option.map, Option.or, Option.bind, Option.isSome_some, Option.isSome_none, id, List.map_cons, List.map_nil, List.length_cons, List.length_nil, List.length_map, List.length_append, List.replicate, List.cons_append, List.nil_append, List.append_assoc, List.getElem?_cons_zero, List.getElem?_cons_succ, List.set_cons_zero, List.set_cons_succ, List.getD_cons_zero, List.getD_cons_succ, decide_true, decide_false, if_true, if_false, ite_true, ite_false, ↓reduceIte, reduceCtorEq, Nat.reduceAdd, Nat.reduceSub, Nat.reduceLT, Nat.reduceLeDiff, Nat.reduceEqDiff, Nat.zero_add, true_and, and_true, Bool.not_true, Bool.not_false, imp_self, Bool.true_and, Bool.and_true, Bool.false_eq_true, decide_eq_true_eq, forall_const, implies_true, List.mem_cons, List.not_mem_nil, or_false, forall_eq_or_imp, forall_eq, false_implies, eq_self, eqB_int, Int.cast_ofNat_Int, Int.natCast_add, Int.natCast_one, Int.reduceAdd, Int.reduceSub, Int.reduceLT, Int.reduceLE, Int.reduceEq, Int.reduceNeg, Bool.and_false, Bool.false_and, Bool.or_true, Bool.true_or, Bool.or_false, Bool.false_or, in_sign]; rfl)
      have h1' : 1 ≤ x.length := by omega
      have h2' : x.length ≤ 8 := by omega
      simp only [F_is_word, N_is_word, B_is_word, sSeq, sIf, bE, bR, bS, cTest, cOp, cOra, sOraP, oraPd, cC, cCall, cCons, cNil, cTup, cLst, cStar, itemsD_tup, itemsD_lst, cUn, cSl, cPart, cNoPart, cNot, cAnd, cOr, cChain, cAndV, cOrV, cNotV, cIf, cYes_ap, sSet, sRet, sRetN, sPass, sDrop, sPar, osCons, osNil, oIm, oLst, oList, setS, cVar, oR, gR, gd, fnD, fnR, fnC, cFn, cMk, cM1, cGive, cOpO, cOpOL, cCallO, cPopAt, popD, sApp, appD, sRem, ownL, sIfW, ifW, sTgt, tgName_ap, tgTup_ap, tgsCons_ap, tgsNil_ap, tgStar_ap, cSeqI, seqD_tup, seqD_lst, seqD_str, cRng1, rngD, cEnum, seqE_tup, seqE_lst, sFor, cLc, Env.set, Env.wipe, Env.back, wipeS, backS, iSeq, iEnd, iEndS, iTwo, iTwoS, isSelf, fnI, bSeq, bRet, fnB, cCallV, cMeth, sMatch, sBeg, sBegPar, sForF, env0, scO, DL.scal, atD_ins, isC_ins, dAdd, dSub, dMod, dMul, dFdiv, dPow, dLt, dLe, dGt, dGe, onI, onIc, addS, addT, addL, dInt, dLen_tup, dLen_lst, dLen_scr, dLen_str, dTuple_tup, dTuple_lst, dList_tup, dList_lst, dSl_tup, dSl_lst, dSl_scr, dSl_str, dIx_tup, dIx_lst, dIx_str, dIn, dNotInS_tup, dNotInS_lst, dEq, dNe, dIsN, dNotN, dMin2, dRev_lst, dJoin_lst, dJoin_tup, oraGet_left, oraGet_seed, oraGet_spot, oraGet_cells, oraPut_left, oraPut_seed, oraPut_spot, Option.map, Option.or, Option.bind, Option.isSome_some, Option.isSome_none, id, List.map_cons, List.map_nil, List.length_cons, List.length_nil, List.length_map, List.length_append, List.replicate, List.cons_append, List.nil_append, List.append_assoc, List.getElem?_cons_zero, List.getElem?_cons_succ, List.set_cons_zero, List.set_cons_succ, List.getD_cons_zero, List.getD_cons_succ, decide_true, decide_false, if_true, if_false, ite_true, ite_false, ↓reduceIte, reduceCtorEq, Nat.reduceAdd, Nat.reduceSub, Nat.reduceLT, Nat.reduceLeDiff, Nat.reduceEqDiff, Nat.zero_add, true_and, and_true, Bool.not_true, Bool.not_false, imp_self, Bool.true_and, Bool.and_true, Bool.false_eq_true, decide_eq_true_eq, forall_const, implies_true, List.mem_cons, List.not_mem_nil, or_false, forall_eq_or_imp, forall_eq, false_implies, eq_self, eqB_int, Int.cast_ofNat_Int, Int.natCast_add, Int.natCast_one, Int.reduceAdd, Int.reduceSub, Int.reduceLT, Int.reduceLE, Int.reduceEq, Int.reduceNeg, Bool.and_false, Bool.false_and, Bool.or_true, Bool.true_or, Bool.or_false, Bool.false_or, isT_str_str, hs, h1, h2, DL.signs, e, dAll_map, isWord, h1', h2']
    · have h2' : ¬ x.length ≤ 8 := by omega
      simp only [F_is_word, N_is_word, B_is_word, sSeq, sIf, bE, bR, bS, cTest, cOp, cOra, sOraP, oraPd, cC, cCall, cCons, cNil, cTup, cLst, cStar, itemsD_tup, itemsD_lst, cUn, cSl, cPart, cNoPart, cNot, cAnd, cOr, cChain, cAndV, cOrV, cNotV, cIf, cYes_ap, sSet, sRet, sRetN, sPass, sDrop, sPar, osCons, osNil, oIm, oLst, oList, setS, cVar, oR, gR, gd, fnD, fnR, fnC, cFn, cMk, cM1, cGive, cOpO, cOpOL, cCallO, cPopAt, popD, sApp, appD, sRem, ownL, sIfW, ifW, sTgt, tgName_ap, tgTup_ap, tgsCons_ap, tgsNil_ap, tgStar_ap, cSeqI, seqD_tup, seqD_lst, seqD_str, cRng1, rngD, cEnum, seqE_tup, seqE_lst, sFor, cLc, Env.set, Env.wipe, Env.back, wipeS, backS, iSeq, iEnd, iEndS, iTwo, iTwoS, isSelf, fnI, bSeq, bRet, fnB, cCallV, cMeth, sMatch, sBeg, sBegPar, sForF, env0, scO, DL.scal, atD_ins, isC_ins, dAdd, dSub, dMod, dMul, dFdiv, dPow, dLt, dLe, dGt, dGe, onI, onIc, addS, addT, addL, dInt, dLen_tup, dLen_lst, dLen_scr, dLen_str, dTuple_tup, dTuple_lst, dList_tup, dList_lst, dSl_tup, dSl_lst, dSl_scr, dSl_str, dIx_tup, dIx_lst, dIx_str, dIn, dNotInS_tup, dNotInS_lst, dEq, dNe, dIsN, dNotN, dMin2, dRev_lst, dJoin_lst, dJoin_tup, oraGet_left, oraGet_seed, oraGet_spot, oraGet_cells, oraPut_left, oraPut_seed, oraPut_spot, Option.map, Option.or, Option.bind, Option.isSome_some, Option.isSome_none, id, List.map_cons, List.map_nil, List.length_cons, List.length_nil, List.length_map, List.length_append, List.replicate, List.cons_append, List.nil_append, List.append_assoc, List.getElem?_cons_zero, List.getElem?_cons_succ, List.set_cons_zero, List.set_cons_succ, List.getD_cons_zero, List.getD_cons_succ, decide_true, decide_false, if_true, if_false, ite_true, ite_false, ↓reduceIte, reduceCtorEq, Nat.reduceAdd, Nat.reduceSub, Nat.reduceLT, Nat.reduceLeDiff, Nat.reduceEqDiff, Nat.zero_add, true_and, and_true, Bool.not_true, Bool.not_false, imp_self, Bool.true_and, Bool.and_true, Bool.false_eq_true, decide_eq_true_eq, forall_const, implies_true, List.mem_cons, List.not_mem_nil, or_false, forall_eq_or_imp, forall_eq, false_implies, eq_self, eqB_int, Int.cast_ofNat_Int, Int.natCast_add, Int.natCast_one, Int.reduceAdd, Int.reduceSub, Int.reduceLT, Int.reduceLE, Int.reduceEq, Int.reduceNeg, Bool.and_false, Bool.false_and, Bool.or_true, Bool.true_or, Bool.or_false, Bool.false_or, isT_str_str, hs, h1, h2, isWord, h2', Bool.and_false, Bool.false_and]
  · have h1' : ¬ 1 ≤ x.length := by omega
    simp only [F_is_word, N_is_word, B_is_word, sSeq, sIf, bE, bR, bS, cTest, cOp, cOra, sOraP, oraPd, cC, cCall, cCons, cNil, cTup, cLst, cStar, itemsD_tup, itemsD_lst, cUn, cSl, cPart, cNoPart, cNot, cAnd, cOr, cChain, cAndV, cOrV, cNotV, cIf, cYes_ap, sSet, sRet, sRetN, sPass, sDrop, sPar, osCons, osNil, oIm, oLst, oList, setS, cVar, oR, gR, gd, fnD, fnR, fnC, cFn, cMk, cM1, cGive, cOpO, cOpOL, cCallO, cPopAt, popD, sApp, appD, sRem, ownL, sIfW, ifW, sTgt, tgName_ap, tgTup_ap, tgsCons_ap, tgsNil_ap, tgStar_ap, cSeqI, seqD_tup, seqD_lst, seqD_str, cRng1, rngD, cEnum, seqE_tup, seqE_lst, sFor, cLc, Env.set, Env.wipe, Env.back, wipeS, backS, iSeq, iEnd, iEndS, iTwo, iTwoS, isSelf, fnI, bSeq, bRet, fnB, cCallV, cMeth, sMatch, sBeg, sBegPar, sForF, env0, scO, DL.scal, atD_ins, isC_ins, dAdd, dSub, dMod, dMul, dFdiv, dPow, dLt, dLe, dGt, dGe, onI, onIc, addS, addT, addL, dInt, dLen_tup, dLen_lst, dLen_scr, dLen_str, dTuple_tup, dTuple_lst, dList_tup, dList_lst, dSl_tup, dSl_lst, dSl_scr, dSl_str, dIx_tup, dIx_lst, dIx_str, dIn, dNotInS_tup, dNotInS_lst, dEq, dNe, dIsN, dNotN, dMin2, dRev_lst, dJoin_lst, dJoin_tup, oraGet_left, oraGet_seed, oraGet_spot, oraGet_cells, oraPut_left, oraPut_seed, oraPut_spot, Option.map, Option.or, Option.bind, Option.isSome_some, Option.isSome_none, id, List.map_cons, List.map_nil, List.length_cons, List.length_nil, List.length_map, List.length_append, List.replicate, List.cons_append, List.nil_append, List.append_assoc, List.getElem?_cons_zero, List.getElem?_cons_succ, List.set_cons_zero, List.set_cons_succ, List.getD_cons_zero, List.getD_cons_succ, decide_true, decide_false, if_true, if_false, ite_true, ite_false, ↓reduceIte, reduceCtorEq, Nat.reduceAdd, Nat.reduceSub, Nat.reduceLT, Nat.reduceLeDiff, Nat.reduceEqDiff, Nat.zero_add, true_and, and_true, Bool.not_true, Bool.not_false, imp_self, Bool.true_and, Bool.and_true, Bool.false_eq_true, decide_eq_true_eq, forall_const, implies_true, List.mem_cons, List.not_mem_nil, or_false, forall_eq_or_imp, forall_eq, false_implies, eq_self, eqB_int, Int.cast_ofNat_Int, Int.natCast_add, Int.natCast_one, Int.reduceAdd, Int.reduceSub, Int.reduceLT, Int.reduceLE, Int.reduceEq, Int.reduceNeg, Bool.and_false, Bool.false_and, Bool.or_true, Bool.true_or, Bool.or_false, Bool.false_or, isT_str_str, hs, h1, isWord, h1', Bool.and_false, Bool.false_and]
/-! ### a list or a tuple -/
inductive Sq : D → List D → Prop
  | lst (l : List D) : Sq (.lst l) l
  | tup (l : List D) : Sq (.tup l) l
theorem Sq.len {d : D} {l : List D} (h : Sq d l) : dLen [d] = some (.int l.length) := by cases h <;> rfl
theorem Sq.isl {d : D} {l : List D} (h : Sq d l) (o : Option Ora) : F_is_list [d] o = .ok (.bl true) o := by
  cases h
  · exact is_list_lst _ _
  · exact is_list_tup _ _
theorem Sq.inS {d : D} {l : List Str} (h : Sq d (sD l)) {a : Str} (ha : okS a) (hl : okW l) : inB (.str a) d = some (decide (a ∈ l)) := by
  cases h
  · exact inB_lstS ha hl
  · exact inB_tupS ha hl
theorem Sq.inR {d : D} {l : List (List Str)} (h : Sq d (rD l)) {a : List Str} (ha : okW a) (hl : okR l) : inB (wT a) d = some (decide (a ∈ l)) := by
  cases h
  · exact inB_lstR ha hl
  · exact inB_tupR ha hl
/-! ### rules -/
theorem isT_strs (r : List Str) (a : Slot) (o : Option Ora) (e : Fe) (he : ∀ x ∈ r, e ⟨[.im (wT r), a, .im (.str x)], o⟩ = .ok (.bl true, ⟨[.im (wT r), a, .im (.str x)], o⟩)) (hr : r.length ≤ 100000) : lcD (tgName 2) cYes e [2] (sD r) [] ⟨[.im (wT r), a, .no], o⟩ = some (r.map fun _ => D.bl true, ⟨[.im (wT r), a, .no], o⟩) :=
  lc_map (enc := D.str) (i := 2) (ρ := ⟨[.im (wT r), a, .no], o⟩) (fun _ => D.bl true) r hr rfl fun x hx => he x hx
def isRule (fs : List Str) : List Str → Bool
  | [w, x] => decide (x ∈ fs) && decide (w ∈ k_ALONE)
  | [w, x, y] => (decide (x ∈ fs) && decide (y ∈ fs)) && (decide (w ∈ k_PAIRED) && !decide (x = y))
  | _ => false
theorem okK_ALONE : okW k_ALONE := by decide +kernel
theorem okK_PAIRED : okW k_PAIRED := by decide +kernel
theorem is_rule2 {w x : Str} {fs : List Str} {d : D} (o : Option Ora) (hs : Sq d (sD fs)) (hw : okS w) (hx : okS x) (hf : okW fs) : F_is_rule_of [wT [w, x], d] o = .ok (.bl (isRule fs [w, x])) o := by
  have e1 := isT_strs [w, x] (.im d) o is_rule_of_e1 (fun x hx => by simp only [is_rule_of_e1, sSeq, sIf, bE, bR, bS, cTest, cOp, cOra, sOraP, oraPd, cC, cCall, cCons, cNil, cTup, cLst, cStar, itemsD_tup, itemsD_lst, cUn, cSl, cPart, cNoPart, cNot, cAnd, cOr, cChain, cAndV, cOrV, cNotV, cIf, cYes_ap, sSet, sRet, sRetN, sPass, sDrop, sPar, osCons, osNil, oIm, oLst, oList, setS, cVar, oR, gR, gd, fnD, fnR, fnC, cFn, cMk, cM1, cGive, cOpO, cOpOL, cCallO, cPopAt, popD, sApp, appD, sRem, ownL, sIfW, ifW, sTgt, tgName_ap, tgTup_ap, tgsCons_ap, tgsNil_ap, tgStar_ap, cSeqI, seqD_tup, seqD_lst, seqD_str, cRng1, rngD, cEnum, seqE_tup, seqE_lst, sFor, cLc, Env.set, Env.wipe, Env.back, wipeS, backS, iSeq, iEnd, iEndS, iTwo, iTwoS, isSelf, fnI, bSeq, bRet, fnB, cCallV, cMeth, sMatch, sBeg, sBegPar, sForF, env0, scO, DL.scal, atD_ins, isC_ins, dAdd, dSub, dMod, dMul, dFdiv, dPow, dLt, dLe, dGt, dGe, onI, onIc, addS, addT, addL, dInt, dLen_tup, dLen_lst, dLen_scr, dLen_str, dTuple_tup, dTuple_lst, dList_tup, dList_lst, dSl_tup, dSl_lst, dSl_scr, dSl_str, dIx_tup, dIx_lst, dIx_str, dIn, dNotInS_tup, dNotInS_lst, dEq, dNe, dIsN, dNotN, dMin2, dRev_lst, dJoin_lst, dJoin_tup, oraGet_left, oraGet_seed, oraGet_spot, oraGet_cells, oraPut_left, oraPut_seed, oraPut_spot, Option.map, Option.or, Option.bind, Option.isSome_some, Option.isSome_none, id, List.map_cons, List.map_nil, List.length_cons, List.length_nil, List.length_map, List.length_append, List.replicate, List.cons_append, List.nil_append, List.append_assoc, List.getElem?_cons_zero, List.getElem?_cons_succ, List.set_cons_zero, List.set_cons_succ, List.getD_cons_zero, List.getD_cons_succ, decide_true, decide_false, if_true, if_false, ite_true, ite_false, ↓reduceIte, reduceCtorEq, Nat.reduceAdd, Nat.reduceSub, Nat.reduceLT, Nat.reduceLeDiff, Nat.reduceEqDiff, Nat.zero_add, true_and, and_true, Bool.not_true, Bool.not_false, imp_self, Bool.true_and, Bool.and_true, Bool.false_eq_true, decide_eq_true_eq, forall_const, implies_true, List.mem_cons, List.not_mem_nil, or_false, forall_eq_or_imp, forall_eq, false_implies, eq_self, eqB_int, Int.cast_ofNat_Int, Int.natCast_add, Int.natCast_one, Int.reduceAdd, Int.reduceSub, Int.reduceLT, Int.reduceLE, Int.reduceEq, Int.reduceNeg, Bool.and_false, Bool.false_and, Bool.or_true, Bool.true_or, Bool.or_false, Bool.false_or, isT_str_str]) (by simp)
  have e2 := lc_map (enc := D.str) (f := is_rule_of_e2) (i := 2) (ρ := ⟨[.im (wT [w, x]), .im d, .no], o⟩) (fun y => D.bl (decide (y ∈ fs))) [x] (by simp) rfl (fun y hy => by
    have hy : okS y := by simp at hy; rw [hy]; exact hx
    simp only [is_rule_of_e2, sSeq, sIf, bE, bR, bS, cTest, cOp, cOra, sOraP, oraPd, cC, cCall, cCons, cNil, cTup, cLst, cStar, itemsD_tup, itemsD_lst, cUn, cSl, cPart, cNoPart, cNot, cAnd, cOr, cChain, cAndV, cOrV, cNotV, cIf, cYes_ap, sSet, sRet, sRetN, sPass, sDrop, sPar, osCons, osNil, oIm, oLst, oList, setS, cVar, oR, gR, gd, fnD, fnR, fnC, cFn, cMk, cM1, cGive, cOpO, cOpOL, cCallO, cPopAt, popD, sApp, appD, sRem, ownL, sIfW, ifW, sTgt, tgName_ap, tgTup_ap, tgsCons_ap, tgsNil_ap, tgStar_ap, cSeqI, seqD_tup, seqD_lst, seqD_str, cRng1, rngD, cEnum, seqE_tup, seqE_lst, sFor, cLc, Env.set, Env.wipe, Env.back, wipeS, backS, iSeq, iEnd, iEndS, iTwo, iTwoS, isSelf, fnI, bSeq, bRet, fnB, cCallV, cMeth, sMatch, sBeg, sBegPar, sForF, env0, scO, DL.scal, atD_ins, isC_ins, dAdd, dSub, dMod, dMul, dFdiv, dPow, dLt, dLe, dGt, dGe, onI, onIc, addS, addT, addL, dInt, dLen_tup, dLen_lst, dLen_scr, dLen_str, dTuple_tup, dTuple_lst, dList_tup, dList_lst, dSl_tup, dSl_lst, dSl_scr, dSl_str, dIx_tup, dIx_lst, dIx_str, dIn, dNotInS_tup, dNotInS_lst, dEq, dNe, dIsN, dNotN, dMin2, dRev_lst, dJoin_lst, dJoin_tup, oraGet_left, oraGet_seed, oraGet_spot, oraGet_cells, oraPut_left, oraPut_seed, oraPut_spot, Option.map, Option.or, Option.bind, Option.isSome_some, Option.isSome_none, id, List.map_cons, List.map_nil, List.length_cons, List.length_nil, List.length_map, List.length_append, List.replicate, List.cons_append, List.nil_append, List.append_assoc, List.getElem?_cons_zero, List.getElem?_cons_succ, List.set_cons_zero, List.set_cons_succ, List.getD_cons_zero, List.getD_cons_succ, decide_true, decide_false, if_true, if_false, ite_true, ite_false, ↓reduceIte, reduceCtorEq, Nat.reduceAdd, Nat.reduceSub, Nat.reduceLT, Nat.reduceLeDiff, Nat.reduceEqDiff, Nat.zero_add, true_and, and_true, Bool.not_true, Bool.not_false, imp_self, Bool.true_and, Bool.and_true, Bool.false_eq_true, decide_eq_true_eq, forall_const, implies_true, List.mem_cons, List.not_mem_nil, or_false, forall_eq_or_imp, forall_eq, false_implies, eq_self, eqB_int, Int.cast_ofNat_Int, Int.natCast_add, Int.natCast_one, Int.reduceAdd, Int.reduceSub, Int.reduceLT, Int.reduceLE, Int.reduceEq, Int.reduceNeg, Bool.and_false, Bool.false_and, Bool.or_true, Bool.true_or, Bool.or_false, Bool.false_or, hs.inS hy hf])
  have e3 : cutL [D.str w, D.str x] (some 1) none = [D.str x] := rfl
  have e4 : L2.atI [D.str w, D.str x] 0 = some (.str w) := rfl
  have e6 := inB_tupS hw okK_ALONE
  simp only [wT, sD, List.map_cons, List.map_nil] at e1 e2 e6
  by_cases h : x ∈ fs
  · simp only [F_is_rule_of, N_is_rule_of, B_is_rule_of, wT, sSeq, sIf, bE, bR, bS, cTest, cOp, cOra, sOraP, oraPd, cC, cCall, cCons, cNil, cTup, cLst, cStar, itemsD_tup, itemsD_lst, cUn, cSl, cPart, cNoPart, cNot, cAnd, cOr, cChain, cAndV, cOrV, cNotV, cIf, cYes_ap, sSet, sRet, sRetN, sPass, sDrop, sPar, osCons, osNil, oIm, oLst, oList, setS, cVar, oR, gR, gd, fnD, fnR, fnC, cFn, cMk, cM1, cGive, cOpO, cOpOL, cCallO, cPopAt, popD, sApp, appD, sRem, ownL, sIfW, ifW, sTgt, tgName_ap, tgTup_ap, tgsCons_ap, tgsNil_ap, tgStar_ap, cSeqI, seqD_tup, seqD_lst, seqD_str, cRng1, rngD, cEnum, seqE_tup, seqE_lst, sFor, cLc, Env.set, Env.wipe, Env.back, wipeS, backS, iSeq, iEnd, iEndS, iTwo, iTwoS, isSelf, fnI, bSeq, bRet, fnB, cCallV, cMeth, sMatch, sBeg, sBegPar, sForF, env0, scO, DL.scal, atD_ins, isC_ins, dAdd, dSub, dMod, dMul, dFdiv, dPow, dLt, dLe, dGt, dGe, onI, onIc, addS, addT, addL, dInt, dLen_tup, dLen_lst, dLen_scr, dLen_str, dTuple_tup, dTuple_lst, dList_tup, dList_lst, dSl_tup, dSl_lst, dSl_scr, dSl_str, dIx_tup, dIx_lst, dIx_str, dIn, dNotInS_tup, dNotInS_lst, dEq, dNe, dIsN, dNotN, dMin2, dRev_lst, dJoin_lst, dJoin_tup, oraGet_left, oraGet_seed, oraGet_spot, oraGet_cells, oraPut_left, oraPut_seed, oraPut_spot, Option.map, Option.or, Option.bind, Option.isSome_some, Option.isSome_none, id, List.map_cons, List.map_nil, List.length_cons, List.length_nil, List.length_map, List.length_append, List.replicate, List.cons_append, List.nil_append, List.append_assoc, List.getElem?_cons_zero, List.getElem?_cons_succ, List.set_cons_zero, List.set_cons_succ, List.getD_cons_zero, List.getD_cons_succ, decide_true, decide_false, if_true, if_false, ite_true, ite_false, ↓reduceIte, reduceCtorEq, Nat.reduceAdd, Nat.reduceSub, Nat.reduceLT, Nat.reduceLeDiff, Nat.reduceEqDiff, Nat.zero_add, true_and, and_true, Bool.not_true, Bool.not_false, imp_self, Bool.true_and, Bool.and_true, Bool.false_eq_true, decide_eq_true_eq, forall_const, implies_true, List.mem_cons, List.not_mem_nil, or_false, forall_eq_or_imp, forall_eq, false_implies, eq_self, eqB_int, Int.cast_ofNat_Int, Int.natCast_add, Int.natCast_one, Int.reduceAdd, Int.reduceSub, Int.reduceLT, Int.reduceLE, Int.reduceEq, Int.reduceNeg, Bool.and_false, Bool.false_and, Bool.or_true, Bool.true_or, Bool.or_false, Bool.false_or, isT_tup_tup, e1, e2, e3, e4, e6, h, isRule, dAll, blsOf, List.all_cons, List.all_nil]
  · simp only [F_is_rule_of, N_is_rule_of, B_is_rule_of, wT, sSeq, sIf, bE, bR, bS, cTest, cOp, cOra, sOraP, oraPd, cC, cCall, cCons, cNil, cTup, cLst, cStar, itemsD_tup, itemsD_lst, cUn, cSl, cPart, cNoPart, cNot, cAnd, cOr, cChain, cAndV, cOrV, cNotV, cIf, cYes_ap, sSet, sRet, sRetN, sPass, sDrop, sPar, osCons, osNil, oIm, oLst, oList, setS, cVar, oR, gR, gd, fnD, fnR, fnC, cFn, cMk, cM1, cGive, cOpO, cOpOL, cCallO, cPopAt, popD, sApp, appD, sRem, ownL, sIfW, ifW, sTgt, tgName_ap, tgTup_ap, tgsCons_ap, tgsNil_ap, tgStar_ap, cSeqI, seqD_tup, seqD_lst, seqD_str, cRng1, rngD, cEnum, seqE_tup, seqE_lst, sFor, cLc, Env.set, Env.wipe, Env.back, wipeS, backS, iSeq, iEnd, iEndS, iTwo, iTwoS, isSelf, fnI, bSeq, bRet, fnB, cCallV, cMeth, sMatch, sBeg, sBegPar, sForF, env0, scO, DL.scal, atD_ins, isC_ins, dAdd, dSub, dMod, dMul, dFdiv, dPow, dLt, dLe, dGt, dGe, onI, onIc, addS, addT, addL, dInt, dLen_tup, dLen_lst, dLen_scr, dLen_str, dTuple_tup, dTuple_lst, dList_tup, dList_lst, dSl_tup, dSl_lst, dSl_scr, dSl_str, dIx_tup, dIx_lst, dIx_str, dIn, dNotInS_tup, dNotInS_lst, dEq, dNe, dIsN, dNotN, dMin2, dRev_lst, dJoin_lst, dJoin_tup, oraGet_left, oraGet_seed, oraGet_spot, oraGet_cells, oraPut_left, oraPut_seed, oraPut_spot, Option.map, Option.or, Option.bind, Option.isSome_some, Option.isSome_none, id, List.map_cons, List.map_nil, List.length_cons, List.length_nil, List.length_map, List.length_append, List.replicate, List.cons_append, List.nil_append, List.append_assoc, List.getElem?_cons_zero, List.getElem?_cons_succ, List.set_cons_zero, List.set_cons_succ, List.getD_cons_zero, List.getD_cons_succ, decide_true, decide_false, if_true, if_false, ite_true, ite_false, ↓reduceIte, reduceCtorEq, Nat.reduceAdd, Nat.reduceSub, Nat.reduceLT, Nat.reduceLeDiff, Nat.reduceEqDiff, Nat.zero_add, true_and, and_true, Bool.not_true, Bool.not_false, imp_self, Bool.true_and, Bool.and_true, Bool.false_eq_true, decide_eq_true_eq, forall_const, implies_true, List.mem_cons, List.not_mem_nil, or_false, forall_eq_or_imp, forall_eq, false_implies, eq_self, eqB_int, Int.cast_ofNat_Int, Int.natCast_add, Int.natCast_one, Int.reduceAdd, Int.reduceSub, Int.reduceLT, Int.reduceLE, Int.reduceEq, Int.reduceNeg, Bool.and_false, Bool.false_and, Bool.or_true, Bool.true_or, Bool.or_false, Bool.false_or, isT_tup_tup, e1, e2, e3, e4, e6, h, isRule, dAll, blsOf, List.all_cons, List.all_nil]
theorem is_rule3 {w x y : Str} {fs : List Str} {d : D} (o : Option Ora) (hs : Sq d (sD fs)) (hw : okS w) (hx : okS x) (hy : okS y) (hf : okW fs) : F_is_rule_of [wT [w, x, y], d] o = .ok (.bl (isRule fs [w, x, y])) o := by
  have e1 := isT_strs [w, x, y] (.im d) o is_rule_of_e1 (fun x hx => by simp only [is_rule_of_e1, sSeq, sIf, bE, bR, bS, cTest, cOp, cOra, sOraP, oraPd, cC, cCall, cCons, cNil, cTup, cLst, cStar, itemsD_tup, itemsD_lst, cUn, cSl, cPart, cNoPart, cNot, cAnd, cOr, cChain, cAndV, cOrV, cNotV, cIf, cYes_ap, sSet, sRet, sRetN, sPass, sDrop, sPar, osCons, osNil, oIm, oLst, oList, setS, cVar, oR, gR, gd, fnD, fnR, fnC, cFn, cMk, cM1, cGive, cOpO, cOpOL, cCallO, cPopAt, popD, sApp, appD, sRem, ownL, sIfW, ifW, sTgt, tgName_ap, tgTup_ap, tgsCons_ap, tgsNil_ap, tgStar_ap, cSeqI, seqD_tup, seqD_lst, seqD_str, cRng1, rngD, cEnum, seqE_tup, seqE_lst, sFor, cLc, Env.set, Env.wipe, Env.back, wipeS, backS, iSeq, iEnd, iEndS, iTwo, iTwoS, isSelf, fnI, bSeq, bRet, fnB, cCallV, cMeth, sMatch, sBeg, sBegPar, sForF, env0, scO, DL.scal, atD_ins, isC_ins, dAdd, dSub, dMod, dMul, dFdiv, dPow, dLt, dLe, dGt, dGe, onI, onIc, addS, addT, addL, dInt, dLen_tup, dLen_lst, dLen_scr, dLen_str, dTuple_tup, dTuple_lst, dList_tup, dList_lst, dSl_tup, dSl_lst, dSl_scr, dSl_str, dIx_tup, dIx_lst, dIx_str, dIn, dNotInS_tup, dNotInS_lst, dEq, dNe, dIsN, dNotN, dMin2, dRev_lst, dJoin_lst, dJoin_tup, oraGet_left, oraGet_seed, oraGet_spot, oraGet_cells, oraPut_left, oraPut_seed, oraPut_spot, Option.map, Option.or, Option.bind, Option.isSome_some, Option.isSome_none, id, List.map_cons, List.map_nil, List.length_cons, List.length_nil, List.length_map, List.length_append, List.replicate, List.cons_append, List.nil_append, List.append_assoc, List.getElem?_cons_zero, List.getElem?_cons_succ, List.set_cons_zero, List.set_cons_succ, List.getD_cons_zero, List.getD_cons_succ, decide_true, decide_false, if_true, if_false, ite_true, ite_false, ↓reduceIte, reduceCtorEq, Nat.reduceAdd, Nat.reduceSub, Nat.reduceLT, Nat.reduceLeDiff, Nat.reduceEqDiff, Nat.zero_add, true_and, and_true, Bool.not_true, Bool.not_false, imp_self, Bool.true_and, Bool.and_true, Bool.false_eq_true, decide_eq_true_eq, forall_const, implies_true, List.mem_cons, List.not_mem_nil, or_false, forall_eq_or_imp, forall_eq, false_implies, eq_self, eqB_int, Int.cast_ofNat_Int, Int.natCast_add, Int.natCast_one, Int.reduceAdd, Int.reduceSub, Int.reduceLT, Int.reduceLE, Int.reduceEq, Int.reduceNeg, Bool.and_false, Bool.false_and, Bool.or_true, Bool.true_or, Bool.or_false, Bool.false_or, isT_str_str]) (by simp)
  have e2 := lc_map (enc := D.str) (f := is_rule_of_e2) (i := 2) (ρ := ⟨[.im (wT [w, x, y]), .im d, .no], o⟩) (fun y => D.bl (decide (y ∈ fs))) [x, y] (by simp) rfl (fun z hz => by
    have hz : okS z := by
      simp at hz
      rcases hz with rfl | rfl
      · exact hx
      · exact hy
    simp only [is_rule_of_e2, sSeq, sIf, bE, bR, bS, cTest, cOp, cOra, sOraP, oraPd, cC, cCall, cCons, cNil, cTup, cLst, cStar, itemsD_tup, itemsD_lst, cUn, cSl, cPart, cNoPart, cNot, cAnd, cOr, cChain, cAndV, cOrV, cNotV, cIf, cYes_ap, sSet, sRet, sRetN, sPass, sDrop, sPar, osCons, osNil, oIm, oLst, oList, setS, cVar, oR, gR, gd, fnD, fnR, fnC, cFn, cMk, cM1, cGive, cOpO, cOpOL, cCallO, cPopAt, popD, sApp, appD, sRem, ownL, sIfW, ifW, sTgt, tgName_ap, tgTup_ap, tgsCons_ap, tgsNil_ap, tgStar_ap, cSeqI, seqD_tup, seqD_lst, seqD_str, cRng1, rngD, cEnum, seqE_tup, seqE_lst, sFor, cLc, Env.set, Env.wipe, Env.back, wipeS, backS, iSeq, iEnd, iEndS, iTwo, iTwoS, isSelf, fnI, bSeq, bRet, fnB, cCallV, cMeth, sMatch, sBeg, sBegPar, sForF, env0, scO, DL.scal, atD_ins, isC_ins, dAdd, dSub, dMod, dMul, dFdiv, dPow, dLt, dLe, dGt, dGe, onI, onIc, addS, addT, addL, dInt, dLen_tup, dLen_lst, dLen_scr, dLen_str, dTuple_tup, dTuple_lst, dList_tup, dList_lst, dSl_tup, dSl_lst, dSl_scr, dSl_str, dIx_tup, dIx_lst, dIx_str, dIn, dNotInS_tup, dNotInS_lst, dEq, dNe, dIsN, dNotN, dMin2, dRev_lst, dJoin_lst, dJoin_tup, oraGet_left, oraGet_seed, oraGet_spot, oraGet_cells, oraPut_left, oraPut_seed, oraPut_spot, Option.map, Option.or, Option.bind, Option.isSome_some, Option.isSome_none, id, List.map_cons, List.map_nil, List.length_cons, List.length_nil, List.length_map, List.length_append, List.replicate, List.cons_append, List.nil_append, List.append_assoc, List.getElem?_cons_zero, List.getElem?_cons_succ, List.set_cons_zero, List.set_cons_succ, List.getD_cons_zero, List.getD_cons_succ, decide_true, decide_false, if_true, if_false, ite_true, ite_false, ↓reduceIte, reduceCtorEq, Nat.reduceAdd, Nat.reduceSub, Nat.reduceLT, Nat.reduceLeDiff, Nat.reduceEqDiff, Nat.zero_add, true_and, and_true, Bool.not_true, Bool.not_false, imp_self, Bool.true_and, Bool.and_true, Bool.false_eq_true, decide_eq_true_eq, forall_const, implies_true, List.mem_cons, List.not_mem_nil, or_false, forall_eq_or_imp, forall_eq, false_implies, eq_self, eqB_int, Int.cast_ofNat_Int, Int.natCast_add, Int.natCast_one, Int.reduceAdd, Int.reduceSub, Int.reduceLT, Int.reduceLE, Int.reduceEq, Int.reduceNeg, Bool.and_false, Bool.false_and, Bool.or_true, Bool.true_or, Bool.or_false, Bool.false_or, hs.inS hz hf])
  have e3 : cutL [D.str w, D.str x, D.str y] (some 1) none = [D.str x, D.str y] := rfl
  have e4 : L2.atI [D.str w, D.str x, D.str y] 0 = some (.str w) := rfl
  have e7 : L2.atI [D.str w, D.str x, D.str y] 1 = some (.str x) := rfl
  have e8 : L2.atI [D.str w, D.str x, D.str y] 2 = some (.str y) := rfl
  have e9 := eqB_str hx hy
  have e6 := inB_tupS hw okK_PAIRED
  simp only [wT, sD, List.map_cons, List.map_nil] at e1 e2 e6
  by_cases h : x ∈ fs <;> by_cases h2 : y ∈ fs <;> by_cases h3 : w ∈ k_PAIRED <;>
    simp only [F_is_rule_of, N_is_rule_of, B_is_rule_of, wT, sSeq, sIf, bE, bR, bS, cTest, cOp, cOra, sOraP, oraPd, cC, cCall, cCons, cNil, cTup, cLst, cStar, itemsD_tup, itemsD_lst, cUn, cSl, cPart, cNoPart, cNot, cAnd, cOr, cChain, cAndV, cOrV, cNotV, cIf, cYes_ap, sSet, sRet, sRetN, sPass, sDrop, sPar, osCons, osNil, oIm, oLst, oList, setS, cVar, oR, gR, gd, fnD, fnR, fnC, cFn, cMk, cM1, cGive, cOpO, cOpOL, cCallO, cPopAt, popD, sApp, appD, sRem, ownL, sIfW, ifW, sTgt, tgName_ap, tgTup_ap, tgsCons_ap, tgsNil_ap, tgStar_ap, cSeqI, seqD_tup, seqD_lst, seqD_str, cRng1, rngD, cEnum, seqE_tup, seqE_lst, sFor, cLc, Env.set, Env.wipe, Env.back, wipeS, backS, iSeq, iEnd, iEndS, iTwo, iTwoS, isSelf, fnI, bSeq, bRet, fnB, cCallV, cMeth, sMatch, sBeg, sBegPar, sForF, env0, scO, DL.scal, atD_ins, isC_ins, dAdd, dSub, dMod, dMul, dFdiv, dPow, dLt, dLe, dGt, dGe, onI, onIc, addS, addT, addL, dInt, dLen_tup, dLen_lst, dLen_scr, dLen_str, dTuple_tup, dTuple_lst, dList_tup, dList_lst, dSl_tup, dSl_lst, dSl_scr, dSl_str, dIx_tup, dIx_lst, dIx_str, dIn, dNotInS_tup, dNotInS_lst, dEq, dNe, dIsN, dNotN, dMin2, dRev_lst, dJoin_lst, dJoin_tup, oraGet_left, oraGet_seed, oraGet_spot, oraGet_cells, oraPut_left, oraPut_seed, oraPut_spot, Option.map, Option.or, Option.bind, Option.isSome_some, Option.isSome_none, id, List.map_cons, List.map_nil, List.length_cons, List.length_nil, List.length_map, List.length_append, List.replicate, List.cons_append, List.nil_append, List.append_assoc, List.getElem?_cons_zero, List.getElem?_cons_succ, List.set_cons_zero, List.set_cons_succ, List.getD_cons_zero, List.getD_cons_succ, decide_true, decide_false, if_true, if_false, ite_true, ite_false, ↓reduceIte, reduceCtorEq, Nat.reduceAdd, Nat.reduceSub, Nat.reduceLT, Nat.reduceLeDiff, Nat.reduceEqDiff, Nat.zero_add, true_and, and_true, Bool.not_true, Bool.not_false, imp_self, Bool.true_and, Bool.and_true, Bool.false_eq_true, decide_eq_true_eq, forall_const, implies_true, List.mem_cons, List.not_mem_nil, or_false, forall_eq_or_imp, forall_eq, false_implies, eq_self, eqB_int, Int.cast_ofNat_Int, Int.natCast_add, Int.natCast_one, Int.reduceAdd, Int.reduceSub, Int.reduceLT, Int.reduceLE, Int.reduceEq, Int.reduceNeg, Bool.and_false, Bool.false_and, Bool.or_true, Bool.true_or, Bool.or_false, Bool.false_or, isT_tup_tup, e1, e2, e3, e4, e6, e7, e8, e9, h, h2, h3, isRule, dAll, blsOf, List.all_cons, List.all_nil]
theorem isRule_shape {fs r : List Str} (h : isRule fs r = true) : (∃ w x, r = [w, x] ∧ x ∈ fs ∧ w ∈ k_ALONE) ∨ ∃ w x y, r = [w, x, y] ∧ x ∈ fs ∧ y ∈ fs ∧ w ∈ k_PAIRED ∧ x ≠ y := by
  unfold isRule at h
  split at h
  · simp at h; exact .inl ⟨_, _, rfl, h.1, h.2⟩
  · simp at h; exact .inr ⟨_, _, _, rfl, h.1.1, h.1.2, h.2.1, h.2.2⟩
  · cases h
theorem isRule_ok {fs r : List Str} (hf : okW fs) (h : isRule fs r = true) : okW r := by
  rcases isRule_shape h with ⟨w, x, rfl, h1, h2⟩ | ⟨w, x, y, rfl, h1, h2, h3, _⟩
  · intro z hz
    simp at hz
    rcases hz with rfl | rfl
    · exact okK_ALONE _ h2
    · exact hf _ h1
  · intro z hz
    simp at hz
    rcases hz with rfl | rfl | rfl
    · exact okK_PAIRED _ h3
    · exact hf _ h1
    · exact hf _ h2
theorem is_rule_yes {fs r : List Str} {d : D} (o : Option Ora) (hs : Sq d (sD fs)) (hf : okW fs) (h : isRule fs r = true) : F_is_rule_of [wT r, d] o = .ok (.bl true) o := by
  have ok := isRule_ok hf h
  rcases isRule_shape h with ⟨w, x, rfl, h1, h2⟩ | ⟨w, x, y, rfl, h1, h2, h3, _⟩
  · rw [is_rule2 o hs (ok _ (by simp)) (ok _ (by simp)) hf, h]
  · rw [is_rule3 o hs (ok _ (by simp)) (ok _ (by simp)) (ok _ (by simp)) hf, h]
end LW

set_option Elab.async false
set_option linter.all false
set_option maxRecDepth 100000
set_option maxHeartbeats 4000000
namespace LW
open PySem DL
theorem enumL_map {α : Type} (e : α → D) (l : List α) : enumL (l.map e) = l.zipIdx.map fun p => .tup [.int (p.2 : Nat), e p.1] := by
  unfold enumL
  rw [List.zipIdx_map, List.map_map]
  rfl
theorem cutL_take {α : Type} (l : List α) (k : Nat) : cutL l none (some (k : Int)) = l.take k := by
  unfold cutL
  rw [HT.sIx_nat, HT.sIx_none, List.drop_zero, Nat.sub_zero]
  by_cases h : k ≤ l.length
  · rw [Nat.min_eq_left h]
  · rw [Nat.min_eq_right (by omega), List.take_of_length_le (Nat.le_refl _), List.take_of_length_le (by omega)]
theorem cutL_drop {α : Type} (l : List α) (k : Nat) : cutL l (some (k : Int)) none = l.drop k := by
  unfold cutL
  rw [HT.sIx_nat, HT.sIx_none]
  by_cases h : k ≤ l.length
  · rw [Nat.min_eq_left h, List.take_of_length_le (by simp)]
  · rw [Nat.min_eq_right (by omega), List.drop_of_length_le (Nat.le_refl _), List.drop_of_length_le (by omega), List.take_nil]
theorem Sq.cut {d : D} {l : List D} (h : Sq d l) (k : Nat) : ∃ d', dSl d none (some (k : Int)) = some d' ∧ Sq d' (l.take k) := by
  cases h
  · exact ⟨_, rfl, by rw [cutL_take]; exact .lst _⟩
  · exact ⟨_, rfl, by rw [cutL_take]; exact .tup _⟩
theorem Sq.sorted {d : D} {l : List D} (h : Sq d l) : dSorted [d] = dSorted [.lst l] := by cases h <;> rfl
theorem Sq.enum {d : D} {l : List D} (h : Sq d l) : seqE [d] = some (enumL l) := by cases h <;> rfl
theorem Sq.seq {d : D} {l : List D} (h : Sq d l) : seqD d = some l := by cases h <;> rfl
theorem NDs_strs : ∀ l : List Str, NDs (sD l) = true
  | [] => rfl
  | x :: l => by show (ND (.str x) && NDs (sD l)) = true; rw [NDs_strs l]; rfl
theorem ND_wT (r : List Str) : ND (wT r) = true := by show ND (.tup (sD r)) = true; simp only [ND]; exact NDs_strs r
theorem NDs_rows : ∀ l : List (List Str), NDs (rD l) = true
  | [] => rfl
  | x :: l => by show (ND (wT x) && NDs (rD l)) = true; rw [NDs_rows l, ND_wT]; rfl
theorem Sq.nd {d : D} {l : List D} (h : Sq d l) (n : NDs l = true) : ND d = true := by cases h <;> simpa only [ND] using n
theorem isWord_ok {x : Str} (h : isWord x = true) : okS x := by
  unfold isWord at h
  simp only [Bool.and_eq_true, List.all_eq_true] at h
  show x.cps.all _ = true
  rw [← Array.all_toList, List.all_eq_true]
  intro c hc
  have : c ∈ lettersS.cps.toList := by simpa [isLet] using h.2 c hc
  have all : ∀ c ∈ lettersS.cps.toList, decide (c < 0x110000) = true := by decide +kernel
  exact all c this
theorem isWord_len {x : Str} (h : isWord x = true) : 1 ≤ x.length ∧ x.length ≤ 8 := by
  unfold isWord at h
  simp only [Bool.and_eq_true, decide_eq_true_eq] at h
  exact h.1
theorem nodup_take {α : Type} {l : List α} {k : Nat} {x : α} (h : l.Nodup) (e : l[k]? = some x) : x ∉ l.take k := by
  intro hm
  obtain ⟨j, hj, ej⟩ := List.mem_take_iff_getElem.mp hm
  obtain ⟨hk, ek⟩ := List.getElem?_eq_some_iff.mp e
  have := (List.getElem_inj h).mp (ej.trans ek.symm)
  omega
theorem world_init {fd rd : D} {fs fs' : List Str} {rs rs' : List (List Str)} (o : Option Ora) (hf : Sq fd (sD fs)) (hr : Sq rd (rD rs)) (pf : fs.Perm fs') (af : ascS fs') (pr : rs.Perm rs') (ar : ascR rs') (n1 : fs ≠ []) (n4 : fs.length ≤ 4) (nd : fs.Nodup) (ww : ∀ x ∈ fs, isWord x = true) (rr : ∀ r ∈ rs, isRule fs r = true) (rnd : rs.Nodup) (rl : rs.length ≤ 100000) :
    F_World_init [fd, rd] o = .ok (.ins "World" [.tup (sD fs'), .tup (rD rs')]) o := by
  have okf : okW fs := fun x hx => isWord_ok (ww x hx)
  have okr : okR rs := fun r h => isRule_ok okf (rr r h)
  have hlen : 0 < fs.length := List.length_pos_iff.mpr n1
  let P : DL.Env → Prop := fun ρ => ∃ a b c, ρ = ⟨[.im .dr, .im fd, .im rd, a, b, c], none⟩
  have P0 : P ⟨[.im .dr, .im fd, .im rd, .no, .no, .no], none⟩ := ⟨_, _, _, rfl⟩
  obtain ⟨ρ1, e1, a1, b1, c1, rfl⟩ := forD_same (enc := fun p : Str × Nat => D.tup [.int (p.2 : Nat), .str p.1]) (g := tgTup 2 (tgsCons (tgName 3) (tgsCons (tgName 4) tgsNil))) (body := World_init_f1) fs.zipIdx P (fun p hp ρ ⟨a, b, c, hρ⟩ => by
    subst hρ
    obtain ⟨x, k⟩ := p
    have hx : fs[k]? = some x := List.mem_zipIdx_iff_getElem?.mp hp
    have hm : x ∈ fs := List.mem_of_getElem? hx
    obtain ⟨d', ed, sd'⟩ := hf.cut k
    have hsd : Sq d' (sD (fs.take k)) := by rw [sD, ← List.map_take] at sd'; exact sd'
    have hin := hsd.inS (okf x hm) fun y hy => okf y (List.mem_of_mem_take hy)
    have hno := nodup_take nd hx
    have hw := is_word_str x (Nat.le_trans (isWord_len (ww x hm)).2 (by decide)) none
    rw [ww x hm] at hw
    refine ⟨⟨[.im .dr, .im fd, .im rd, .im (.int k), .im (.str x), c], none⟩, ⟨[.im .dr, .im fd, .im rd, .im (.int k), .im (.str x), c], none⟩, ?_, ?_, _, _, _, rfl⟩
    · simp only [sSeq, sIf, bE, bR, bS, cTest, cOp, cOra, sOraP, oraPd, cC, cCall, cCons, cNil, cTup, cLst, cStar, itemsD_tup, itemsD_lst, cUn, cSl, cPart, cNoPart, cNot, cAnd, cOr, cChain, cAndV, cOrV, cNotV, cIf, cYes_ap, sSet, sRet, sRetN, sPass, sDrop, sPar, osCons, osNil, oIm, oLst, oList, setS, cVar, oR, gR, gd, fnD, fnR, fnC, cFn, cMk, cM1, cGive, cOpO, cOpOL, cCallO, cPopAt, popD, sApp, appD, sRem, ownL, sIfW, ifW, sTgt, tgName_ap, tgTup_ap, tgsCons_ap, tgsNil_ap, tgStar_ap, cSeqI, seqD_tup, seqD_lst, seqD_str, cRng1, rngD, cEnum, seqE_tup, seqE_lst, sFor, cLc, Env.set, Env.wipe, Env.back, wipeS, backS, iSeq, iEnd, iEndS, iTwo, iTwoS, isSelf, fnI, bSeq, bRet, fnB, cCallV, cMeth, sMatch, sBeg, sBegPar, sForF, env0, scO, DL.scal, atD_ins, isC_ins, dAdd, dSub, dMod, dMul, dFdiv, dPow, dLt, dLe, dGt, dGe, onI, onIc, addS, addT, addL, dInt, dLen_tup, dLen_lst, dLen_scr, dLen_str, dTuple_tup, dTuple_lst, dList_tup, dList_lst, dSl_tup, dSl_lst, dSl_scr, dSl_str, dIx_tup, dIx_lst, dIx_str, dIn, dNotInS_tup, dNotInS_lst, dEq, dNe, dIsN, dNotN, dMin2, dRev_lst, dJoin_lst, dJoin_tup, oraGet_left, oraGet_seed, oraGet_spot, oraGet_cells, oraPut_left, oraPut_seed, oraPut_spot, Option.map, Option.or, Option.bind, Option.isSome_some, Option.isSome_none, id, List.map_cons, List.map_nil, List.length_cons, List.length_nil, List.length_map, List.length_append, List.replicate, List.cons_append, List.nil_append, List.append_assoc, List.getElem?_cons_zero, List.getElem?_cons_succ, List.set_cons_zero, List.set_cons_succ, List.getD_cons_zero, List.getD_cons_succ, decide_true, decide_false, if_true, if_false, ite_true, ite_false, ↓reduceIte, reduceCtorEq, Nat.reduceAdd, Nat.reduceSub, Nat.reduceLT, Nat.reduceLeDiff, Nat.reduceEqDiff, Nat.zero_add, true_and, and_true, Bool.not_true, Bool.not_false, imp_self, Bool.true_and, Bool.and_true, Bool.false_eq_true, decide_eq_true_eq, forall_const, implies_true, List.mem_cons, List.not_mem_nil, or_false, forall_eq_or_imp, forall_eq, false_implies, eq_self, eqB_int, Int.cast_ofNat_Int, Int.natCast_add, Int.natCast_one, Int.reduceAdd, Int.reduceSub, Int.reduceLT, Int.reduceLE, Int.reduceEq, Int.reduceNeg, Bool.and_false, Bool.false_and, Bool.or_true, Bool.true_or, Bool.or_false, Bool.false_or]
    · simp only [World_init_f1, sSeq, sIf, bE, bR, bS, cTest, cOp, cOra, sOraP, oraPd, cC, cCall, cCons, cNil, cTup, cLst, cStar, itemsD_tup, itemsD_lst, cUn, cSl, cPart, cNoPart, cNot, cAnd, cOr, cChain, cAndV, cOrV, cNotV, cIf, cYes_ap, sSet, sRet, sRetN, sPass, sDrop, sPar, osCons, osNil, oIm, oLst, oList, setS, cVar, oR, gR, gd, fnD, fnR, fnC, cFn, cMk, cM1, cGive, cOpO, cOpOL, cCallO, cPopAt, popD, sApp, appD, sRem, ownL, sIfW, ifW, sTgt, tgName_ap, tgTup_ap, tgsCons_ap, tgsNil_ap, tgStar_ap, cSeqI, seqD_tup, seqD_lst, seqD_str, cRng1, rngD, cEnum, seqE_tup, seqE_lst, sFor, cLc, Env.set, Env.wipe, Env.back, wipeS, backS, iSeq, iEnd, iEndS, iTwo, iTwoS, isSelf, fnI, bSeq, bRet, fnB, cCallV, cMeth, sMatch, sBeg, sBegPar, sForF, env0, scO, DL.scal, atD_ins, isC_ins, dAdd, dSub, dMod, dMul, dFdiv, dPow, dLt, dLe, dGt, dGe, onI, onIc, addS, addT, addL, dInt, dLen_tup, dLen_lst, dLen_scr, dLen_str, dTuple_tup, dTuple_lst, dList_tup, dList_lst, dSl_tup, dSl_lst, dSl_scr, dSl_str, dIx_tup, dIx_lst, dIx_str, dIn, dNotInS_tup, dNotInS_lst, dEq, dNe, dIsN, dNotN, dMin2, dRev_lst, dJoin_lst, dJoin_tup, oraGet_left, oraGet_seed, oraGet_spot, oraGet_cells, oraPut_left, oraPut_seed, oraPut_spot, Option.map, Option.or, Option.bind, Option.isSome_some, Option.isSome_none, id, List.map_cons, List.map_nil, List.length_cons, List.length_nil, List.length_map, List.length_append, List.replicate, List.cons_append, List.nil_append, List.append_assoc, List.getElem?_cons_zero, List.getElem?_cons_succ, List.set_cons_zero, List.set_cons_succ, List.getD_cons_zero, List.getD_cons_succ, decide_true, decide_false, if_true, if_false, ite_true, ite_false, ↓reduceIte, reduceCtorEq, Nat.reduceAdd, Nat.reduceSub, Nat.reduceLT, Nat.reduceLeDiff, Nat.reduceEqDiff, Nat.zero_add, true_and, and_true, Bool.not_true, Bool.not_false, imp_self, Bool.true_and, Bool.and_true, Bool.false_eq_true, decide_eq_true_eq, forall_const, implies_true, List.mem_cons, List.not_mem_nil, or_false, forall_eq_or_imp, forall_eq, false_implies, eq_self, eqB_int, Int.cast_ofNat_Int, Int.natCast_add, Int.natCast_one, Int.reduceAdd, Int.reduceSub, Int.reduceLT, Int.reduceLE, Int.reduceEq, Int.reduceNeg, Bool.and_false, Bool.false_and, Bool.or_true, Bool.true_or, Bool.or_false, Bool.false_or, hw, ed, hin, hno]) P0
  obtain ⟨ρ2, e2, a2, b2, c2, rfl⟩ := forD_same (enc := fun p : List Str × Nat => D.tup [.int (p.2 : Nat), wT p.1]) (g := tgTup 2 (tgsCons (tgName 3) (tgsCons (tgName 5) tgsNil))) (body := World_init_f2) rs.zipIdx P (fun p hp ρ ⟨a, b, c, hρ⟩ => by
    subst hρ
    obtain ⟨x, k⟩ := p
    have hx : rs[k]? = some x := List.mem_zipIdx_iff_getElem?.mp hp
    have hm : x ∈ rs := List.mem_of_getElem? hx
    obtain ⟨d', ed, sd'⟩ := hr.cut k
    have hsd : Sq d' (rD (rs.take k)) := by rw [rD, ← List.map_take] at sd'; exact sd'
    have hin := hsd.inR (okr x hm) fun y hy => okr y (List.mem_of_mem_take hy)
    have hno := nodup_take rnd hx
    have hw := is_rule_yes none hf okf (rr x hm)
    refine ⟨⟨[.im .dr, .im fd, .im rd, .im (.int k), b, .im (wT x)], none⟩, ⟨[.im .dr, .im fd, .im rd, .im (.int k), b, .im (wT x)], none⟩, ?_, ?_, _, _, _, rfl⟩
    · simp only [sSeq, sIf, bE, bR, bS, cTest, cOp, cOra, sOraP, oraPd, cC, cCall, cCons, cNil, cTup, cLst, cStar, itemsD_tup, itemsD_lst, cUn, cSl, cPart, cNoPart, cNot, cAnd, cOr, cChain, cAndV, cOrV, cNotV, cIf, cYes_ap, sSet, sRet, sRetN, sPass, sDrop, sPar, osCons, osNil, oIm, oLst, oList, setS, cVar, oR, gR, gd, fnD, fnR, fnC, cFn, cMk, cM1, cGive, cOpO, cOpOL, cCallO, cPopAt, popD, sApp, appD, sRem, ownL, sIfW, ifW, sTgt, tgName_ap, tgTup_ap, tgsCons_ap, tgsNil_ap, tgStar_ap, cSeqI, seqD_tup, seqD_lst, seqD_str, cRng1, rngD, cEnum, seqE_tup, seqE_lst, sFor, cLc, Env.set, Env.wipe, Env.back, wipeS, backS, iSeq, iEnd, iEndS, iTwo, iTwoS, isSelf, fnI, bSeq, bRet, fnB, cCallV, cMeth, sMatch, sBeg, sBegPar, sForF, env0, scO, DL.scal, atD_ins, isC_ins, dAdd, dSub, dMod, dMul, dFdiv, dPow, dLt, dLe, dGt, dGe, onI, onIc, addS, addT, addL, dInt, dLen_tup, dLen_lst, dLen_scr, dLen_str, dTuple_tup, dTuple_lst, dList_tup, dList_lst, dSl_tup, dSl_lst, dSl_scr, dSl_str, dIx_tup, dIx_lst, dIx_str, dIn, dNotInS_tup, dNotInS_lst, dEq, dNe, dIsN, dNotN, dMin2, dRev_lst, dJoin_lst, dJoin_tup, oraGet_left, oraGet_seed, oraGet_spot, oraGet_cells, oraPut_left, oraPut_seed, oraPut_spot, Option.map, Option.or, Option.bind, Option.isSome_some, Option.isSome_none, id, List.map_cons, List.map_nil, List.length_cons, List.length_nil, List.length_map, List.length_append, List.replicate, List.cons_append, List.nil_append, List.append_assoc, List.getElem?_cons_zero, List.getElem?_cons_succ, List.set_cons_zero, List.set_cons_succ, List.getD_cons_zero, List.getD_cons_succ, decide_true, decide_false, if_true, if_false, ite_true, ite_false, ↓reduceIte, reduceCtorEq, Nat.reduceAdd, Nat.reduceSub, Nat.reduceLT, Nat.reduceLeDiff, Nat.reduceEqDiff, Nat.zero_add, true_and, and_true, Bool.not_true, Bool.not_false, imp_self, Bool.true_and, Bool.and_true, Bool.false_eq_true, decide_eq_true_eq, forall_const, implies_true, List.mem_cons, List.not_mem_nil, or_false, forall_eq_or_imp, forall_eq, false_implies, eq_self, eqB_int, Int.cast_ofNat_Int, Int.natCast_add, Int.natCast_one, Int.reduceAdd, Int.reduceSub, Int.reduceLT, Int.reduceLE, Int.reduceEq, Int.reduceNeg, Bool.and_false, Bool.false_and, Bool.or_true, Bool.true_or, Bool.or_false, Bool.false_or]
    · simp only [World_init_f2, sSeq, sIf, bE, bR, bS, cTest, cOp, cOra, sOraP, oraPd, cC, cCall, cCons, cNil, cTup, cLst, cStar, itemsD_tup, itemsD_lst, cUn, cSl, cPart, cNoPart, cNot, cAnd, cOr, cChain, cAndV, cOrV, cNotV, cIf, cYes_ap, sSet, sRet, sRetN, sPass, sDrop, sPar, osCons, osNil, oIm, oLst, oList, setS, cVar, oR, gR, gd, fnD, fnR, fnC, cFn, cMk, cM1, cGive, cOpO, cOpOL, cCallO, cPopAt, popD, sApp, appD, sRem, ownL, sIfW, ifW, sTgt, tgName_ap, tgTup_ap, tgsCons_ap, tgsNil_ap, tgStar_ap, cSeqI, seqD_tup, seqD_lst, seqD_str, cRng1, rngD, cEnum, seqE_tup, seqE_lst, sFor, cLc, Env.set, Env.wipe, Env.back, wipeS, backS, iSeq, iEnd, iEndS, iTwo, iTwoS, isSelf, fnI, bSeq, bRet, fnB, cCallV, cMeth, sMatch, sBeg, sBegPar, sForF, env0, scO, DL.scal, atD_ins, isC_ins, dAdd, dSub, dMod, dMul, dFdiv, dPow, dLt, dLe, dGt, dGe, onI, onIc, addS, addT, addL, dInt, dLen_tup, dLen_lst, dLen_scr, dLen_str, dTuple_tup, dTuple_lst, dList_tup, dList_lst, dSl_tup, dSl_lst, dSl_scr, dSl_str, dIx_tup, dIx_lst, dIx_str, dIn, dNotInS_tup, dNotInS_lst, dEq, dNe, dIsN, dNotN, dMin2, dRev_lst, dJoin_lst, dJoin_tup, oraGet_left, oraGet_seed, oraGet_spot, oraGet_cells, oraPut_left, oraPut_seed, oraPut_spot, Option.map, Option.or, Option.bind, Option.isSome_some, Option.isSome_none, id, List.map_cons, List.map_nil, List.length_cons, List.length_nil, List.length_map, List.length_append, List.replicate, List.cons_append, List.nil_append, List.append_assoc, List.getElem?_cons_zero, List.getElem?_cons_succ, List.set_cons_zero, List.set_cons_succ, List.getD_cons_zero, List.getD_cons_succ, decide_true, decide_false, if_true, if_false, ite_true, ite_false, ↓reduceIte, reduceCtorEq, Nat.reduceAdd, Nat.reduceSub, Nat.reduceLT, Nat.reduceLeDiff, Nat.reduceEqDiff, Nat.zero_add, true_and, and_true, Bool.not_true, Bool.not_false, imp_self, Bool.true_and, Bool.and_true, Bool.false_eq_true, decide_eq_true_eq, forall_const, implies_true, List.mem_cons, List.not_mem_nil, or_false, forall_eq_or_imp, forall_eq, false_implies, eq_self, eqB_int, Int.cast_ofNat_Int, Int.natCast_add, Int.natCast_one, Int.reduceAdd, Int.reduceSub, Int.reduceLT, Int.reduceLE, Int.reduceEq, Int.reduceNeg, Bool.and_false, Bool.false_and, Bool.or_true, Bool.true_or, Bool.or_false, Bool.false_or, hw, ed, hin, hno]) (ρ := ⟨[.im .dr, .im fd, .im rd, a1, b1, c1], none⟩) ⟨_, _, _, rfl⟩
  have nd2 : NDs [fd, rd] = true := by
    show (ND fd && (ND rd && true)) = true
    rw [hf.nd (NDs_strs _), hr.nd (NDs_rows _)]; rfl
  have nd3 : ND (.tup (sD fs')) = true := by simp only [ND]; exact NDs_strs _
  have nd4 : ND (.tup (rD rs')) = true := by simp only [ND]; exact NDs_rows _
  have g0 : ¬ ((fs.length : Int) = 0) := by omega
  have g4 : ¬ ((4 : Int) < fs.length) := by omega
  have s1 := hf.sorted.trans (dSorted_lstS (by omega) pf af)
  have s2 := hr.sorted.trans (dSorted_lstR rl (fun r h => by rcases isRule_shape (rr r h) with ⟨w, x, rfl, _⟩ | ⟨w, x, y, rfl, _⟩ <;> simp) pr ar)
  simp only [F_World_init, N_World_init, B_World_init, sSeq, sIf, bE, bR, bS, cTest, cOp, cOra, sOraP, oraPd, cC, cCall, cCons, cNil, cTup, cLst, cStar, itemsD_tup, itemsD_lst, cUn, cSl, cPart, cNoPart, cNot, cAnd, cOr, cChain, cAndV, cOrV, cNotV, cIf, cYes_ap, sSet, sRet, sRetN, sPass, sDrop, sPar, osCons, osNil, oIm, oLst, oList, setS, cVar, oR, gR, gd, fnD, fnR, fnC, cFn, cMk, cM1, cGive, cOpO, cOpOL, cCallO, cPopAt, popD, sApp, appD, sRem, ownL, sIfW, ifW, sTgt, tgName_ap, tgTup_ap, tgsCons_ap, tgsNil_ap, tgStar_ap, cSeqI, seqD_tup, seqD_lst, seqD_str, cRng1, rngD, cEnum, seqE_tup, seqE_lst, sFor, cLc, Env.set, Env.wipe, Env.back, wipeS, backS, iSeq, iEnd, iEndS, iTwo, iTwoS, isSelf, fnI, bSeq, bRet, fnB, cCallV, cMeth, sMatch, sBeg, sBegPar, sForF, env0, scO, DL.scal, atD_ins, isC_ins, dAdd, dSub, dMod, dMul, dFdiv, dPow, dLt, dLe, dGt, dGe, onI, onIc, addS, addT, addL, dInt, dLen_tup, dLen_lst, dLen_scr, dLen_str, dTuple_tup, dTuple_lst, dList_tup, dList_lst, dSl_tup, dSl_lst, dSl_scr, dSl_str, dIx_tup, dIx_lst, dIx_str, dIn, dNotInS_tup, dNotInS_lst, dEq, dNe, dIsN, dNotN, dMin2, dRev_lst, dJoin_lst, dJoin_tup, oraGet_left, oraGet_seed, oraGet_spot, oraGet_cells, oraPut_left, oraPut_seed, oraPut_spot, Option.map, Option.or, Option.bind, Option.isSome_some, Option.isSome_none, id, List.map_cons, List.map_nil, List.length_cons, List.length_nil, List.length_map, List.length_append, List.replicate, List.cons_append, List.nil_append, List.append_assoc, List.getElem?_cons_zero, List.getElem?_cons_succ, List.set_cons_zero, List.set_cons_succ, List.getD_cons_zero, List.getD_cons_succ, decide_true, decide_false, if_true, if_false, ite_true, ite_false, ↓reduceIte, reduceCtorEq, Nat.reduceAdd, Nat.reduceSub, Nat.reduceLT, Nat.reduceLeDiff, Nat.reduceEqDiff, Nat.zero_add, true_and, and_true, Bool.not_true, Bool.not_false, imp_self, Bool.true_and, Bool.and_true, Bool.false_eq_true, decide_eq_true_eq, forall_const, implies_true, List.mem_cons, List.not_mem_nil, or_false, forall_eq_or_imp, forall_eq, false_implies, eq_self, eqB_int, Int.cast_ofNat_Int, Int.natCast_add, Int.natCast_one, Int.reduceAdd, Int.reduceSub, Int.reduceLT, Int.reduceLE, Int.reduceEq, Int.reduceNeg, Bool.and_false, Bool.false_and, Bool.or_true, Bool.true_or, Bool.or_false, Bool.false_or, nd2, nd3, nd4, hf.isl, hr.isl, hf.len, hf.enum, hr.enum, enumL_map, g0, g4, e1, e2, s1, s2]
theorem world_eq {a b c d : D} {x y : Bool} (o : Option Ora) (h1 : eqB a c = some x) (h2 : eqB b d = some y) : F_World_eq [.ins "World" [a, b], .ins "World" [c, d]] o = .ok (.bl (x && y)) o := by
  have z1 : is_World "World" = some true := rfl
  have z2 : at_folders "World" = some 0 := rfl
  have z3 : at_rules "World" = some 1 := rfl
  cases x <;> simp only [F_World_eq, N_World_eq, B_World_eq, sSeq, sIf, bE, bR, bS, cTest, cOp, cOra, sOraP, oraPd, cC, cCall, cCons, cNil, cTup, cLst, cStar, itemsD_tup, itemsD_lst, cUn, cSl, cPart, cNoPart, cNot, cAnd, cOr, cChain, cAndV, cOrV, cNotV, cIf, cYes_ap, sSet, sRet, sRetN, sPass, sDrop, sPar, osCons, osNil, oIm, oLst, oList, setS, cVar, oR, gR, gd, fnD, fnR, fnC, cFn, cMk, cM1, cGive, cOpO, cOpOL, cCallO, cPopAt, popD, sApp, appD, sRem, ownL, sIfW, ifW, sTgt, tgName_ap, tgTup_ap, tgsCons_ap, tgsNil_ap, tgStar_ap, cSeqI, seqD_tup, seqD_lst, seqD_str, cRng1, rngD, cEnum, seqE_tup, seqE_lst, sFor, cLc, Env.set, Env.wipe, Env.back, wipeS, backS, iSeq, iEnd, iEndS, iTwo, iTwoS, isSelf, fnI, bSeq, bRet, fnB, cCallV, cMeth, sMatch, sBeg, sBegPar, sForF, env0, scO, DL.scal, atD_ins, isC_ins, dAdd, dSub, dMod, dMul, dFdiv, dPow, dLt, dLe, dGt, dGe, onI, onIc, addS, addT, addL, dInt, dLen_tup, dLen_lst, dLen_scr, dLen_str, dTuple_tup, dTuple_lst, dList_tup, dList_lst, dSl_tup, dSl_lst, dSl_scr, dSl_str, dIx_tup, dIx_lst, dIx_str, dIn, dNotInS_tup, dNotInS_lst, dEq, dNe, dIsN, dNotN, dMin2, dRev_lst, dJoin_lst, dJoin_tup, oraGet_left, oraGet_seed, oraGet_spot, oraGet_cells, oraPut_left, oraPut_seed, oraPut_spot, Option.map, Option.or, Option.bind, Option.isSome_some, Option.isSome_none, id, List.map_cons, List.map_nil, List.length_cons, List.length_nil, List.length_map, List.length_append, List.replicate, List.cons_append, List.nil_append, List.append_assoc, List.getElem?_cons_zero, List.getElem?_cons_succ, List.set_cons_zero, List.set_cons_succ, List.getD_cons_zero, List.getD_cons_succ, decide_true, decide_false, if_true, if_false, ite_true, ite_false, ↓reduceIte, reduceCtorEq, Nat.reduceAdd, Nat.reduceSub, Nat.reduceLT, Nat.reduceLeDiff, Nat.reduceEqDiff, Nat.zero_add, true_and, and_true, Bool.not_true, Bool.not_false, imp_self, Bool.true_and, Bool.and_true, Bool.false_eq_true, decide_eq_true_eq, forall_const, implies_true, List.mem_cons, List.not_mem_nil, or_false, forall_eq_or_imp, forall_eq, false_implies, eq_self, eqB_int, Int.cast_ofNat_Int, Int.natCast_add, Int.natCast_one, Int.reduceAdd, Int.reduceSub, Int.reduceLT, Int.reduceLE, Int.reduceEq, Int.reduceNeg, Bool.and_false, Bool.false_and, Bool.or_true, Bool.true_or, Bool.or_false, Bool.false_or, z1, z2, z3, h1, h2]
/-! ### texts -/
theorem strsOf_strs : ∀ l : List Str, strsOf (sD l) = some l
  | [] => rfl
  | x :: l => by show (strsOf (sD l)).map (x :: ·) = _; rw [strsOf_strs l]; rfl
theorem joinL_strs {a : Str} {l : List Str} (h : (l.map (·.length)).sum + l.length * a.length ≤ 16777216) : joinL a (sD l) = some (.str (Txt.join a l)) := by
  unfold joinL
  rw [strsOf_strs]
  exact gd_yes h
def lineOf (r : List Str) : Str := Txt.join " " r
def textOf (rs : List (List Str)) : Str := Txt.join "\n" (rs.map lineOf)
theorem join_len (a : Str) : ∀ l : List Str, (Str.join a l).length ≤ (l.map (·.length)).sum + l.length * a.length
  | [] => by simp [Str.join, Str.length, Str.empty]
  | [x] => by simp [Str.join]
  | x :: y :: l => by
    have := join_len a (y :: l)
    show (x ++ a ++ Str.join a (y :: l)).length ≤ _
    rw [Str.length_append, Str.length_append]
    simp only [List.map_cons, List.sum_cons, List.length_cons, Nat.succ_mul] at this ⊢
    omega
theorem mem_join (a : Str) {c : Nat} : ∀ {l : List Str}, c ∈ (Str.join a l).cps.toList → c ∈ a.cps.toList ∨ ∃ x ∈ l, c ∈ x.cps.toList
  | [], h => by simp [Str.join, Str.empty] at h
  | [x], h => .inr ⟨x, by simp, h⟩
  | x :: y :: l, h => by
    have h : c ∈ TL.tl (x ++ a ++ Str.join a (y :: l)) := h
    rw [TL.tl_append, TL.tl_append] at h
    rcases List.mem_append.mp h with h | h
    · rcases List.mem_append.mp h with h | h
      · exact .inr ⟨x, by simp, h⟩
      · exact .inl h
    · rcases mem_join a h with h | ⟨z, hz, h⟩
      · exact .inl h
      · exact .inr ⟨z, by simp [hz], h⟩
structure Row (r : List Str) : Prop where
  ne : r ≠ []
  len : r.length ≤ 5
  wd : ∀ x ∈ r, isWord x = true
structure Rows (rs : List (List Str)) : Prop where
  len : rs.length ≤ 100
  row : ∀ r ∈ rs, Row r
theorem sum_le {b : Nat} : ∀ {l : List Nat}, (∀ x ∈ l, x ≤ b) → l.sum ≤ l.length * b
  | [], _ => by simp
  | x :: l, h => by
    have := sum_le (l := l) fun y hy => h y (by simp [hy])
    have := h x (by simp)
    simp only [List.sum_cons, List.length_cons, Nat.succ_mul]
    omega
theorem Row.sum {r : List Str} (h : Row r) : (r.map (·.length)).sum + r.length * (Str.ofString " ").length ≤ 45 := by
  have e : (Str.ofString " ").length = 1 := by decide +kernel
  have := sum_le (b := 8) (l := r.map (·.length)) fun x hx => by
    obtain ⟨y, hy, rfl⟩ := List.mem_map.mp hx
    exact (isWord_len (h.wd y hy)).2
  have := h.len
  rw [e]
  simp only [List.length_map] at *
  omega
theorem Row.lineLen {r : List Str} (h : Row r) : (lineOf r).length ≤ 45 := by
  unfold lineOf
  rw [TL.join_eq]
  exact Nat.le_trans (join_len _ _) h.sum
theorem Rows.sum {rs : List (List Str)} (h : Rows rs) : ((rs.map lineOf).map (·.length)).sum + (rs.map lineOf).length * (Str.ofString "\n").length ≤ 4600 := by
  have e : (Str.ofString "\n").length = 1 := by decide +kernel
  have := sum_le (b := 45) (l := (rs.map lineOf).map (·.length)) fun x hx => by
    obtain ⟨y, hy, rfl⟩ := List.mem_map.mp hx
    obtain ⟨z, hz, rfl⟩ := List.mem_map.mp hy
    exact (h.row z hz).lineLen
  have := h.len
  rw [e]
  simp only [List.length_map] at *
  omega
theorem Rows.textLen {rs : List (List Str)} (h : Rows rs) : (textOf rs).length ≤ 4600 := by
  unfold textOf
  rw [TL.join_eq]
  exact Nat.le_trans (join_len _ _) h.sum
theorem isWord_let {x : Str} (h : isWord x = true) {c : Nat} (hc : c ∈ x.cps.toList) : c ∈ lettersS.cps.toList := by
  unfold isWord at h
  simp only [Bool.and_eq_true, List.all_eq_true] at h
  simpa [isLet] using h.2 c hc
theorem let_lt : ∀ c ∈ lettersS.cps.toList, 97 ≤ c ∧ c ≤ 122 := by decide +kernel
theorem Row.mem {r : List Str} (h : Row r) {c : Nat} (hc : c ∈ (lineOf r).cps.toList) : c = 32 ∨ 97 ≤ c ∧ c ≤ 122 := by
  unfold lineOf at hc
  rw [TL.join_eq] at hc
  rcases mem_join _ hc with h1 | ⟨x, hx, h1⟩
  · have : ∀ c ∈ (Str.ofString " ").cps.toList, c = 32 := by decide +kernel
    exact .inl (this c h1)
  · exact .inr (let_lt c (isWord_let (h.wd x hx) h1))
theorem Rows.mem {rs : List (List Str)} (h : Rows rs) {c : Nat} (hc : c ∈ (textOf rs).cps.toList) : c = 10 ∨ c = 32 ∨ 97 ≤ c ∧ c ≤ 122 := by
  unfold textOf at hc
  rw [TL.join_eq] at hc
  rcases mem_join _ hc with h1 | ⟨x, hx, h1⟩
  · have : ∀ c ∈ (Str.ofString "\n").cps.toList, c = 10 := by decide +kernel
    exact .inl (this c h1)
  · obtain ⟨r, hr, rfl⟩ := List.mem_map.mp hx
    exact .inr ((h.row r hr).mem h1)
theorem okS_of {x : Str} (h : ∀ c ∈ x.cps.toList, c < 0x110000) : okS x := by
  show x.cps.all _ = true
  rw [← Array.all_toList, List.all_eq_true]
  intro c hc
  exact decide_eq_true (h c hc)
theorem Rows.okT {rs : List (List Str)} (h : Rows rs) : okS (textOf rs) := okS_of fun c hc => by
  have := h.mem hc
  omega
theorem Row.ok {r : List Str} (h : Row r) : okW r := fun x hx => isWord_ok (h.wd x hx)
theorem Rows.ok {rs : List (List Str)} (h : Rows rs) : okR rs := fun r hr => (h.row r hr).ok
theorem Row.split {r : List Str} (h : Row r) : Txt.split (lineOf r) " " = r :=
  TL.split_join (s := 32) (S := []) (by decide +kernel) (by decide +kernel) h.ne fun x hx hc => by
    have := let_lt 32 (isWord_let (h.wd x hx) hc)
    omega
theorem Rows.split {rs : List (List Str)} (h : Rows rs) (ne : rs ≠ []) : Txt.split (textOf rs) "\n" = rs.map lineOf :=
  TL.split_join (s := 10) (S := []) (by decide +kernel) (by decide +kernel) (by simpa using ne) fun x hx hc => by
    obtain ⟨r, hr, rfl⟩ := List.mem_map.mp hx
    have := (h.row r hr).mem hc
    omega
theorem text_of {d : D} {rs : List (List Str)} (o : Option Ora) (hd : Sq d (rD rs)) (h : Rows rs) : F_law_text_of [d] o = .ok (.str (textOf rs)) o := by
  have e := lc_map (enc := wT) (f := law_text_of_e1) (i := 1) (ρ := ⟨[.im d, .no], o⟩) (fun r => D.str (lineOf r)) rs (by have := h.len; omega) rfl (fun r hr => by
    have := joinL_strs (Nat.le_trans (h.row r hr).sum (by decide))
    simp only [law_text_of_e1, wT, sSeq, sIf, bE, bR, bS, cTest, cOp, cOra, sOraP, oraPd, cC, cCall, cCons, cNil, cTup, cLst, cStar, itemsD_tup, itemsD_lst, cUn, cSl, cPart, cNoPart, cNot, cAnd, cOr, cChain, cAndV, cOrV, cNotV, cIf, cYes_ap, sSet, sRet, sRetN, sPass, sDrop, sPar, osCons, osNil, oIm, oLst, oList, setS, cVar, oR, gR, gd, fnD, fnR, fnC, cFn, cMk, cM1, cGive, cOpO, cOpOL, cCallO, cPopAt, popD, sApp, appD, sRem, ownL, sIfW, ifW, sTgt, tgName_ap, tgTup_ap, tgsCons_ap, tgsNil_ap, tgStar_ap, cSeqI, seqD_tup, seqD_lst, seqD_str, cRng1, rngD, cEnum, seqE_tup, seqE_lst, sFor, cLc, Env.set, Env.wipe, Env.back, wipeS, backS, iSeq, iEnd, iEndS, iTwo, iTwoS, isSelf, fnI, bSeq, bRet, fnB, cCallV, cMeth, sMatch, sBeg, sBegPar, sForF, env0, scO, DL.scal, atD_ins, isC_ins, dAdd, dSub, dMod, dMul, dFdiv, dPow, dLt, dLe, dGt, dGe, onI, onIc, addS, addT, addL, dInt, dLen_tup, dLen_lst, dLen_scr, dLen_str, dTuple_tup, dTuple_lst, dList_tup, dList_lst, dSl_tup, dSl_lst, dSl_scr, dSl_str, dIx_tup, dIx_lst, dIx_str, dIn, dNotInS_tup, dNotInS_lst, dEq, dNe, dIsN, dNotN, dMin2, dRev_lst, dJoin_lst, dJoin_tup, oraGet_left, oraGet_seed, oraGet_spot, oraGet_cells, oraPut_left, oraPut_seed, oraPut_spot, Option.map, Option.or, Option.bind, Option.isSome_some, Option.isSome_none, id, List.map_cons, List.map_nil, List.length_cons, List.length_nil, List.length_map, List.length_append, List.replicate, List.cons_append, List.nil_append, List.append_assoc, List.getElem?_cons_zero, List.getElem?_cons_succ, List.set_cons_zero, List.set_cons_succ, List.getD_cons_zero, List.getD_cons_succ, decide_true, decide_false, if_true, if_false, ite_true, ite_false, ↓reduceIte, reduceCtorEq, Nat.reduceAdd, Nat.reduceSub, Nat.reduceLT, Nat.reduceLeDiff, Nat.reduceEqDiff, Nat.zero_add, true_and, and_true, Bool.not_true, Bool.not_false, imp_self, Bool.true_and, Bool.and_true, Bool.false_eq_true, decide_eq_true_eq, forall_const, implies_true, List.mem_cons, List.not_mem_nil, or_false, forall_eq_or_imp, forall_eq, false_implies, eq_self, eqB_int, Int.cast_ofNat_Int, Int.natCast_add, Int.natCast_one, Int.reduceAdd, Int.reduceSub, Int.reduceLT, Int.reduceLE, Int.reduceEq, Int.reduceNeg, Bool.and_false, Bool.false_and, Bool.or_true, Bool.true_or, Bool.or_false, Bool.false_or, this, lineOf])
  have e2 := joinL_strs (a := "\n") (l := rs.map lineOf) (Nat.le_trans h.sum (by decide))
  rw [sD, List.map_map] at e2
  have e3 : (D.str ∘ lineOf) = fun r => D.str (lineOf r) := rfl
  rw [e3] at e2
  simp only [F_law_text_of, N_law_text_of, B_law_text_of, sSeq, sIf, bE, bR, bS, cTest, cOp, cOra, sOraP, oraPd, cC, cCall, cCons, cNil, cTup, cLst, cStar, itemsD_tup, itemsD_lst, cUn, cSl, cPart, cNoPart, cNot, cAnd, cOr, cChain, cAndV, cOrV, cNotV, cIf, cYes_ap, sSet, sRet, sRetN, sPass, sDrop, sPar, osCons, osNil, oIm, oLst, oList, setS, cVar, oR, gR, gd, fnD, fnR, fnC, cFn, cMk, cM1, cGive, cOpO, cOpOL, cCallO, cPopAt, popD, sApp, appD, sRem, ownL, sIfW, ifW, sTgt, tgName_ap, tgTup_ap, tgsCons_ap, tgsNil_ap, tgStar_ap, cSeqI, seqD_tup, seqD_lst, seqD_str, cRng1, rngD, cEnum, seqE_tup, seqE_lst, sFor, cLc, Env.set, Env.wipe, Env.back, wipeS, backS, iSeq, iEnd, iEndS, iTwo, iTwoS, isSelf, fnI, bSeq, bRet, fnB, cCallV, cMeth, sMatch, sBeg, sBegPar, sForF, env0, scO, DL.scal, atD_ins, isC_ins, dAdd, dSub, dMod, dMul, dFdiv, dPow, dLt, dLe, dGt, dGe, onI, onIc, addS, addT, addL, dInt, dLen_tup, dLen_lst, dLen_scr, dLen_str, dTuple_tup, dTuple_lst, dList_tup, dList_lst, dSl_tup, dSl_lst, dSl_scr, dSl_str, dIx_tup, dIx_lst, dIx_str, dIn, dNotInS_tup, dNotInS_lst, dEq, dNe, dIsN, dNotN, dMin2, dRev_lst, dJoin_lst, dJoin_tup, oraGet_left, oraGet_seed, oraGet_spot, oraGet_cells, oraPut_left, oraPut_seed, oraPut_spot, Option.map, Option.or, Option.bind, Option.isSome_some, Option.isSome_none, id, List.map_cons, List.map_nil, List.length_cons, List.length_nil, List.length_map, List.length_append, List.replicate, List.cons_append, List.nil_append, List.append_assoc, List.getElem?_cons_zero, List.getElem?_cons_succ, List.set_cons_zero, List.set_cons_succ, List.getD_cons_zero, List.getD_cons_succ, decide_true, decide_false, if_true, if_false, ite_true, ite_false, ↓reduceIte, reduceCtorEq, Nat.reduceAdd, Nat.reduceSub, Nat.reduceLT, Nat.reduceLeDiff, Nat.reduceEqDiff, Nat.zero_add, true_and, and_true, Bool.not_true, Bool.not_false, imp_self, Bool.true_and, Bool.and_true, Bool.false_eq_true, decide_eq_true_eq, forall_const, implies_true, List.mem_cons, List.not_mem_nil, or_false, forall_eq_or_imp, forall_eq, false_implies, eq_self, eqB_int, Int.cast_ofNat_Int, Int.natCast_add, Int.natCast_one, Int.reduceAdd, Int.reduceSub, Int.reduceLT, Int.reduceLE, Int.reduceEq, Int.reduceNeg, Bool.and_false, Bool.false_and, Bool.or_true, Bool.true_or, Bool.or_false, Bool.false_or, hd.seq, e, e2, textOf]
end LW

set_option Elab.async false
set_option linter.all false
set_option maxRecDepth 100000
set_option maxHeartbeats 4000000
namespace LW
open PySem DL
abbrev lD (r : List Str) : D := .lst (sD r)
def W_ (fs : List Str) (rs : List (List Str)) : D := .ins "World" [.tup (sD fs), .tup (rD rs)]
def C_ (w : D) (ss : List (List Str)) : D := .ins "Copier" [.tup (rD ss), w]
theorem at_folders_W : at_folders "World" = some 0 := rfl
theorem at_rules_W : at_rules "World" = some 1 := rfl
theorem at_steps_C : at_steps "Copier" = some 0 := rfl
theorem at_world_C : at_world "Copier" = some 1 := rfl
theorem dJoin_map {a : Str} {α : Type} {f : α → Str} {l : List α} (h : ((l.map f).map (·.length)).sum + (l.map f).length * a.length ≤ 16777216) : joinL a (l.map fun x => D.str (f x)) = some (.str (Txt.join a (l.map f))) := by
  have e2 := joinL_strs (a := a) (l := l.map f) h
  rw [sD, List.map_map] at e2
  exact e2
theorem copier_text {w : D} {ss : List (List Str)} (o : Option Ora) (h : Rows ss) : F_copier_text [C_ w ss] o = .ok (.str (textOf ss)) o := by
  have e := lc_map (enc := wT) (f := copier_text_e1) (i := 1) (ρ := ⟨[.im (C_ w ss), .no], o⟩) (fun r => D.str (lineOf r)) ss (by have := h.len; omega) rfl (fun r hr => by
    have := joinL_strs (Nat.le_trans (h.row r hr).sum (by decide))
    simp only [copier_text_e1, wT, sSeq, sIf, bE, bR, bS, cTest, cOp, cOra, sOraP, oraPd, cC, cCall, cCons, cNil, cTup, cLst, cStar, itemsD_tup, itemsD_lst, cUn, cSl, cPart, cNoPart, cNot, cAnd, cOr, cChain, cAndV, cOrV, cNotV, cIf, cYes_ap, sSet, sRet, sRetN, sPass, sDrop, sPar, osCons, osNil, oIm, oLst, oList, setS, cVar, oR, gR, gd, fnD, fnR, fnC, cFn, cMk, cM1, cGive, cOpO, cOpOL, cCallO, cPopAt, popD, sApp, appD, sRem, ownL, sIfW, ifW, sTgt, tgName_ap, tgTup_ap, tgsCons_ap, tgsNil_ap, tgStar_ap, cSeqI, seqD_tup, seqD_lst, seqD_str, cRng1, rngD, cEnum, seqE_tup, seqE_lst, sFor, cLc, Env.set, Env.wipe, Env.back, wipeS, backS, iSeq, iEnd, iEndS, iTwo, iTwoS, isSelf, fnI, bSeq, bRet, fnB, cCallV, cMeth, sMatch, sBeg, sBegPar, sForF, env0, scO, DL.scal, atD_ins, isC_ins, dAdd, dSub, dMod, dMul, dFdiv, dPow, dLt, dLe, dGt, dGe, onI, onIc, addS, addT, addL, dInt, dLen_tup, dLen_lst, dLen_scr, dLen_str, dTuple_tup, dTuple_lst, dList_tup, dList_lst, dSl_tup, dSl_lst, dSl_scr, dSl_str, dIx_tup, dIx_lst, dIx_str, dIn, dNotInS_tup, dNotInS_lst, dEq, dNe, dIsN, dNotN, dMin2, dRev_lst, dJoin_lst, dJoin_tup, oraGet_left, oraGet_seed, oraGet_spot, oraGet_cells, oraPut_left, oraPut_seed, oraPut_spot, Option.map, Option.or, Option.bind, Option.isSome_some, Option.isSome_none, id, List.map_cons, List.map_nil, List.length_cons, List.length_nil, List.length_map, List.length_append, List.replicate, List.cons_append, List.nil_append, List.append_assoc, List.getElem?_cons_zero, List.getElem?_cons_succ, List.set_cons_zero, List.set_cons_succ, List.getD_cons_zero, List.getD_cons_succ, decide_true, decide_false, if_true, if_false, ite_true, ite_false, ↓reduceIte, reduceCtorEq, Nat.reduceAdd, Nat.reduceSub, Nat.reduceLT, Nat.reduceLeDiff, Nat.reduceEqDiff, Nat.zero_add, true_and, and_true, Bool.not_true, Bool.not_false, imp_self, Bool.true_and, Bool.and_true, Bool.false_eq_true, decide_eq_true_eq, forall_const, implies_true, List.mem_cons, List.not_mem_nil, or_false, forall_eq_or_imp, forall_eq, false_implies, eq_self, eqB_int, Int.cast_ofNat_Int, Int.natCast_add, Int.natCast_one, Int.reduceAdd, Int.reduceSub, Int.reduceLT, Int.reduceLE, Int.reduceEq, Int.reduceNeg, Bool.and_false, Bool.false_and, Bool.or_true, Bool.true_or, Bool.or_false, Bool.false_or, this, lineOf])
  have e2 := dJoin_map (a := "\n") (f := lineOf) (l := ss) (Nat.le_trans h.sum (by decide))
  simp only [C_] at e
  simp only [F_copier_text, N_copier_text, B_copier_text, C_, sSeq, sIf, bE, bR, bS, cTest, cOp, cOra, sOraP, oraPd, cC, cCall, cCons, cNil, cTup, cLst, cStar, itemsD_tup, itemsD_lst, cUn, cSl, cPart, cNoPart, cNot, cAnd, cOr, cChain, cAndV, cOrV, cNotV, cIf, cYes_ap, sSet, sRet, sRetN, sPass, sDrop, sPar, osCons, osNil, oIm, oLst, oList, setS, cVar, oR, gR, gd, fnD, fnR, fnC, cFn, cMk, cM1, cGive, cOpO, cOpOL, cCallO, cPopAt, popD, sApp, appD, sRem, ownL, sIfW, ifW, sTgt, tgName_ap, tgTup_ap, tgsCons_ap, tgsNil_ap, tgStar_ap, cSeqI, seqD_tup, seqD_lst, seqD_str, cRng1, rngD, cEnum, seqE_tup, seqE_lst, sFor, cLc, Env.set, Env.wipe, Env.back, wipeS, backS, iSeq, iEnd, iEndS, iTwo, iTwoS, isSelf, fnI, bSeq, bRet, fnB, cCallV, cMeth, sMatch, sBeg, sBegPar, sForF, env0, scO, DL.scal, atD_ins, isC_ins, dAdd, dSub, dMod, dMul, dFdiv, dPow, dLt, dLe, dGt, dGe, onI, onIc, addS, addT, addL, dInt, dLen_tup, dLen_lst, dLen_scr, dLen_str, dTuple_tup, dTuple_lst, dList_tup, dList_lst, dSl_tup, dSl_lst, dSl_scr, dSl_str, dIx_tup, dIx_lst, dIx_str, dIn, dNotInS_tup, dNotInS_lst, dEq, dNe, dIsN, dNotN, dMin2, dRev_lst, dJoin_lst, dJoin_tup, oraGet_left, oraGet_seed, oraGet_spot, oraGet_cells, oraPut_left, oraPut_seed, oraPut_spot, Option.map, Option.or, Option.bind, Option.isSome_some, Option.isSome_none, id, List.map_cons, List.map_nil, List.length_cons, List.length_nil, List.length_map, List.length_append, List.replicate, List.cons_append, List.nil_append, List.append_assoc, List.getElem?_cons_zero, List.getElem?_cons_succ, List.set_cons_zero, List.set_cons_succ, List.getD_cons_zero, List.getD_cons_succ, decide_true, decide_false, if_true, if_false, ite_true, ite_false, ↓reduceIte, reduceCtorEq, Nat.reduceAdd, Nat.reduceSub, Nat.reduceLT, Nat.reduceLeDiff, Nat.reduceEqDiff, Nat.zero_add, true_and, and_true, Bool.not_true, Bool.not_false, imp_self, Bool.true_and, Bool.and_true, Bool.false_eq_true, decide_eq_true_eq, forall_const, implies_true, List.mem_cons, List.not_mem_nil, or_false, forall_eq_or_imp, forall_eq, false_implies, eq_self, eqB_int, Int.cast_ofNat_Int, Int.natCast_add, Int.natCast_one, Int.reduceAdd, Int.reduceSub, Int.reduceLT, Int.reduceLE, Int.reduceEq, Int.reduceNeg, Bool.and_false, Bool.false_and, Bool.or_true, Bool.true_or, Bool.or_false, Bool.false_or, at_steps_C, e, e2, textOf]
theorem world_text {fs : List Str} {rs : List (List Str)} (o : Option Ora) (h : Rows (("folders" :: fs) :: rs)) : F_world_text [W_ fs rs] o = .ok (.str (textOf (("folders" :: fs) :: rs))) o := by
  have e := lc_map (enc := wT) (f := world_text_e1) (i := 2) (ρ := ⟨[.im (W_ fs rs), .im (.lst (rD (("folders" :: fs) :: rs))), .no], o⟩) (fun r => D.str (lineOf r)) (("folders" :: fs) :: rs) (by have := h.len; omega) rfl (fun r hr => by
    have := joinL_strs (Nat.le_trans (h.row r hr).sum (by decide))
    simp only [world_text_e1, wT, sSeq, sIf, bE, bR, bS, cTest, cOp, cOra, sOraP, oraPd, cC, cCall, cCons, cNil, cTup, cLst, cStar, itemsD_tup, itemsD_lst, cUn, cSl, cPart, cNoPart, cNot, cAnd, cOr, cChain, cAndV, cOrV, cNotV, cIf, cYes_ap, sSet, sRet, sRetN, sPass, sDrop, sPar, osCons, osNil, oIm, oLst, oList, setS, cVar, oR, gR, gd, fnD, fnR, fnC, cFn, cMk, cM1, cGive, cOpO, cOpOL, cCallO, cPopAt, popD, sApp, appD, sRem, ownL, sIfW, ifW, sTgt, tgName_ap, tgTup_ap, tgsCons_ap, tgsNil_ap, tgStar_ap, cSeqI, seqD_tup, seqD_lst, seqD_str, cRng1, rngD, cEnum, seqE_tup, seqE_lst, sFor, cLc, Env.set, Env.wipe, Env.back, wipeS, backS, iSeq, iEnd, iEndS, iTwo, iTwoS, isSelf, fnI, bSeq, bRet, fnB, cCallV, cMeth, sMatch, sBeg, sBegPar, sForF, env0, scO, DL.scal, atD_ins, isC_ins, dAdd, dSub, dMod, dMul, dFdiv, dPow, dLt, dLe, dGt, dGe, onI, onIc, addS, addT, addL, dInt, dLen_tup, dLen_lst, dLen_scr, dLen_str, dTuple_tup, dTuple_lst, dList_tup, dList_lst, dSl_tup, dSl_lst, dSl_scr, dSl_str, dIx_tup, dIx_lst, dIx_str, dIn, dNotInS_tup, dNotInS_lst, dEq, dNe, dIsN, dNotN, dMin2, dRev_lst, dJoin_lst, dJoin_tup, oraGet_left, oraGet_seed, oraGet_spot, oraGet_cells, oraPut_left, oraPut_seed, oraPut_spot, Option.map, Option.or, Option.bind, Option.isSome_some, Option.isSome_none, id, List.map_cons, List.map_nil, List.length_cons, List.length_nil, List.length_map, List.length_append, List.replicate, List.cons_append, List.nil_append, List.append_assoc, List.getElem?_cons_zero, List.getElem?_cons_succ, List.set_cons_zero, List.set_cons_succ, List.getD_cons_zero, List.getD_cons_succ, decide_true, decide_false, if_true, if_false, ite_true, ite_false, ↓reduceIte, reduceCtorEq, Nat.reduceAdd, Nat.reduceSub, Nat.reduceLT, Nat.reduceLeDiff, Nat.reduceEqDiff, Nat.zero_add, true_and, and_true, Bool.not_true, Bool.not_false, imp_self, Bool.true_and, Bool.and_true, Bool.false_eq_true, decide_eq_true_eq, forall_const, implies_true, List.mem_cons, List.not_mem_nil, or_false, forall_eq_or_imp, forall_eq, false_implies, eq_self, eqB_int, Int.cast_ofNat_Int, Int.natCast_add, Int.natCast_one, Int.reduceAdd, Int.reduceSub, Int.reduceLT, Int.reduceLE, Int.reduceEq, Int.reduceNeg, Bool.and_false, Bool.false_and, Bool.or_true, Bool.true_or, Bool.or_false, Bool.false_or, this, lineOf])
  have e2 := dJoin_map (a := "\n") (f := lineOf) (l := ("folders" :: fs) :: rs) (Nat.le_trans h.sum (by decide))
  have l1 := h.len
  have l2 := (h.row _ (List.mem_cons_self ..)).len
  have g1 : sz (fs.length + 1) := by simp at l2; show _ ≤ 100000; omega
  have g2 : sz (rs.length + 1) := by simp at l1; show _ ≤ 100000; omega
  simp only [W_, rD, wT, sD, List.map_cons] at e
  simp only [List.map_cons] at e2
  simp only [F_world_text, N_world_text, B_world_text, W_, sSeq, sIf, bE, bR, bS, cTest, cOp, cOra, sOraP, oraPd, cC, cCall, cCons, cNil, cTup, cLst, cStar, itemsD_tup, itemsD_lst, cUn, cSl, cPart, cNoPart, cNot, cAnd, cOr, cChain, cAndV, cOrV, cNotV, cIf, cYes_ap, sSet, sRet, sRetN, sPass, sDrop, sPar, osCons, osNil, oIm, oLst, oList, setS, cVar, oR, gR, gd, fnD, fnR, fnC, cFn, cMk, cM1, cGive, cOpO, cOpOL, cCallO, cPopAt, popD, sApp, appD, sRem, ownL, sIfW, ifW, sTgt, tgName_ap, tgTup_ap, tgsCons_ap, tgsNil_ap, tgStar_ap, cSeqI, seqD_tup, seqD_lst, seqD_str, cRng1, rngD, cEnum, seqE_tup, seqE_lst, sFor, cLc, Env.set, Env.wipe, Env.back, wipeS, backS, iSeq, iEnd, iEndS, iTwo, iTwoS, isSelf, fnI, bSeq, bRet, fnB, cCallV, cMeth, sMatch, sBeg, sBegPar, sForF, env0, scO, DL.scal, atD_ins, isC_ins, dAdd, dSub, dMod, dMul, dFdiv, dPow, dLt, dLe, dGt, dGe, onI, onIc, addS, addT, addL, dInt, dLen_tup, dLen_lst, dLen_scr, dLen_str, dTuple_tup, dTuple_lst, dList_tup, dList_lst, dSl_tup, dSl_lst, dSl_scr, dSl_str, dIx_tup, dIx_lst, dIx_str, dIn, dNotInS_tup, dNotInS_lst, dEq, dNe, dIsN, dNotN, dMin2, dRev_lst, dJoin_lst, dJoin_tup, oraGet_left, oraGet_seed, oraGet_spot, oraGet_cells, oraPut_left, oraPut_seed, oraPut_spot, Option.map, Option.or, Option.bind, Option.isSome_some, Option.isSome_none, id, List.map_cons, List.map_nil, List.length_cons, List.length_nil, List.length_map, List.length_append, List.replicate, List.cons_append, List.nil_append, List.append_assoc, List.getElem?_cons_zero, List.getElem?_cons_succ, List.set_cons_zero, List.set_cons_succ, List.getD_cons_zero, List.getD_cons_succ, decide_true, decide_false, if_true, if_false, ite_true, ite_false, ↓reduceIte, reduceCtorEq, Nat.reduceAdd, Nat.reduceSub, Nat.reduceLT, Nat.reduceLeDiff, Nat.reduceEqDiff, Nat.zero_add, true_and, and_true, Bool.not_true, Bool.not_false, imp_self, Bool.true_and, Bool.and_true, Bool.false_eq_true, decide_eq_true_eq, forall_const, implies_true, List.mem_cons, List.not_mem_nil, or_false, forall_eq_or_imp, forall_eq, false_implies, eq_self, eqB_int, Int.cast_ofNat_Int, Int.natCast_add, Int.natCast_one, Int.reduceAdd, Int.reduceSub, Int.reduceLT, Int.reduceLE, Int.reduceEq, Int.reduceNeg, Bool.and_false, Bool.false_and, Bool.or_true, Bool.true_or, Bool.or_false, Bool.false_or, sD, rD, at_folders_W, at_rules_W, List.append_nil, g1, g2, e, e2, textOf]
theorem lines_of {rs : List (List Str)} (o : Option Ora) (h : Rows rs) (ne : rs ≠ []) : F_lines_of [.str (textOf rs)] o = .ok (.lst (rs.map lD)) o := by
  have n1 : ((Str.ofString " ").length == 0) = false := by decide +kernel
  have n2 : ((Str.ofString "\n").length == 0) = false := by decide +kernel
  have s1 := h.split ne
  have g1 : sz (textOf rs).length := Nat.le_trans h.textLen (by decide)
  have e := lc_map (enc := fun r => D.str (lineOf r)) (f := lines_of_e1) (i := 1) (ρ := ⟨[.im (.str (textOf rs)), .no], o⟩) lD rs (by have := h.len; omega) rfl (fun r hr => by
    have := (h.row r hr).split
    have g : sz (lineOf r).length := Nat.le_trans (h.row r hr).lineLen (by decide)
    simp only [lines_of_e1, sSeq, sIf, bE, bR, bS, cTest, cOp, cOra, sOraP, oraPd, cC, cCall, cCons, cNil, cTup, cLst, cStar, itemsD_tup, itemsD_lst, cUn, cSl, cPart, cNoPart, cNot, cAnd, cOr, cChain, cAndV, cOrV, cNotV, cIf, cYes_ap, sSet, sRet, sRetN, sPass, sDrop, sPar, osCons, osNil, oIm, oLst, oList, setS, cVar, oR, gR, gd, fnD, fnR, fnC, cFn, cMk, cM1, cGive, cOpO, cOpOL, cCallO, cPopAt, popD, sApp, appD, sRem, ownL, sIfW, ifW, sTgt, tgName_ap, tgTup_ap, tgsCons_ap, tgsNil_ap, tgStar_ap, cSeqI, seqD_tup, seqD_lst, seqD_str, cRng1, rngD, cEnum, seqE_tup, seqE_lst, sFor, cLc, Env.set, Env.wipe, Env.back, wipeS, backS, iSeq, iEnd, iEndS, iTwo, iTwoS, isSelf, fnI, bSeq, bRet, fnB, cCallV, cMeth, sMatch, sBeg, sBegPar, sForF, env0, scO, DL.scal, atD_ins, isC_ins, dAdd, dSub, dMod, dMul, dFdiv, dPow, dLt, dLe, dGt, dGe, onI, onIc, addS, addT, addL, dInt, dLen_tup, dLen_lst, dLen_scr, dLen_str, dTuple_tup, dTuple_lst, dList_tup, dList_lst, dSl_tup, dSl_lst, dSl_scr, dSl_str, dIx_tup, dIx_lst, dIx_str, dIn, dNotInS_tup, dNotInS_lst, dEq, dNe, dIsN, dNotN, dMin2, dRev_lst, dJoin_lst, dJoin_tup, oraGet_left, oraGet_seed, oraGet_spot, oraGet_cells, oraPut_left, oraPut_seed, oraPut_spot, Option.map, Option.or, Option.bind, Option.isSome_some, Option.isSome_none, id, List.map_cons, List.map_nil, List.length_cons, List.length_nil, List.length_map, List.length_append, List.replicate, List.cons_append, List.nil_append, List.append_assoc, List.getElem?_cons_zero, List.getElem?_cons_succ, List.set_cons_zero, List.set_cons_succ, List.getD_cons_zero, List.getD_cons_succ, decide_true, decide_false, if_true, if_false, ite_true, ite_false, ↓reduceIte, reduceCtorEq, Nat.reduceAdd, Nat.reduceSub, Nat.reduceLT, Nat.reduceLeDiff, Nat.reduceEqDiff, Nat.zero_add, true_and, and_true, Bool.not_true, Bool.not_false, imp_self, Bool.true_and, Bool.and_true, Bool.false_eq_true, decide_eq_true_eq, forall_const, implies_true, List.mem_cons, List.not_mem_nil, or_false, forall_eq_or_imp, forall_eq, false_implies, eq_self, eqB_int, Int.cast_ofNat_Int, Int.natCast_add, Int.natCast_one, Int.reduceAdd, Int.reduceSub, Int.reduceLT, Int.reduceLE, Int.reduceEq, Int.reduceNeg, Bool.and_false, Bool.false_and, Bool.or_true, Bool.true_or, Bool.or_false, Bool.false_or, dSplit, n1, g, this, lD, sD])
  have e' : List.map D.str (rs.map lineOf) = rs.map fun r => D.str (lineOf r) := by rw [List.map_map]; rfl
  simp only [F_lines_of, N_lines_of, B_lines_of, sSeq, sIf, bE, bR, bS, cTest, cOp, cOra, sOraP, oraPd, cC, cCall, cCons, cNil, cTup, cLst, cStar, itemsD_tup, itemsD_lst, cUn, cSl, cPart, cNoPart, cNot, cAnd, cOr, cChain, cAndV, cOrV, cNotV, cIf, cYes_ap, sSet, sRet, sRetN, sPass, sDrop, sPar, osCons, osNil, oIm, oLst, oList, setS, cVar, oR, gR, gd, fnD, fnR, fnC, cFn, cMk, cM1, cGive, cOpO, cOpOL, cCallO, cPopAt, popD, sApp, appD, sRem, ownL, sIfW, ifW, sTgt, tgName_ap, tgTup_ap, tgsCons_ap, tgsNil_ap, tgStar_ap, cSeqI, seqD_tup, seqD_lst, seqD_str, cRng1, rngD, cEnum, seqE_tup, seqE_lst, sFor, cLc, Env.set, Env.wipe, Env.back, wipeS, backS, iSeq, iEnd, iEndS, iTwo, iTwoS, isSelf, fnI, bSeq, bRet, fnB, cCallV, cMeth, sMatch, sBeg, sBegPar, sForF, env0, scO, DL.scal, atD_ins, isC_ins, dAdd, dSub, dMod, dMul, dFdiv, dPow, dLt, dLe, dGt, dGe, onI, onIc, addS, addT, addL, dInt, dLen_tup, dLen_lst, dLen_scr, dLen_str, dTuple_tup, dTuple_lst, dList_tup, dList_lst, dSl_tup, dSl_lst, dSl_scr, dSl_str, dIx_tup, dIx_lst, dIx_str, dIn, dNotInS_tup, dNotInS_lst, dEq, dNe, dIsN, dNotN, dMin2, dRev_lst, dJoin_lst, dJoin_tup, oraGet_left, oraGet_seed, oraGet_spot, oraGet_cells, oraPut_left, oraPut_seed, oraPut_spot, Option.map, Option.or, Option.bind, Option.isSome_some, Option.isSome_none, id, List.map_cons, List.map_nil, List.length_cons, List.length_nil, List.length_map, List.length_append, List.replicate, List.cons_append, List.nil_append, List.append_assoc, List.getElem?_cons_zero, List.getElem?_cons_succ, List.set_cons_zero, List.set_cons_succ, List.getD_cons_zero, List.getD_cons_succ, decide_true, decide_false, if_true, if_false, ite_true, ite_false, ↓reduceIte, reduceCtorEq, Nat.reduceAdd, Nat.reduceSub, Nat.reduceLT, Nat.reduceLeDiff, Nat.reduceEqDiff, Nat.zero_add, true_and, and_true, Bool.not_true, Bool.not_false, imp_self, Bool.true_and, Bool.and_true, Bool.false_eq_true, decide_eq_true_eq, forall_const, implies_true, List.mem_cons, List.not_mem_nil, or_false, forall_eq_or_imp, forall_eq, false_implies, eq_self, eqB_int, Int.cast_ofNat_Int, Int.natCast_add, Int.natCast_one, Int.reduceAdd, Int.reduceSub, Int.reduceLT, Int.reduceLE, Int.reduceEq, Int.reduceNeg, Bool.and_false, Bool.false_and, Bool.or_true, Bool.true_or, Bool.or_false, Bool.false_or, isT_str_str, dSplit, n2, g1, s1, e', e]
theorem is_rule_line_yes {fs r : List Str} (o : Option Ora) (ww : ∀ x ∈ fs, isWord x = true) (h : isRule fs r = true) : F_is_rule_line [lD r] o = .ok (.bl true) o := by
  have okf : okW fs := fun x hx => isWord_ok (ww x hx)
  rcases isRule_shape h with ⟨w, x, rfl, h1, h2⟩ | ⟨w, x, y, rfl, h1, h2, h3, _⟩
  · have hw := is_word_str x (Nat.le_trans (isWord_len (ww x h1)).2 (by decide)) o
    rw [ww x h1] at hw
    have e := lc_map (enc := D.str) (f := is_rule_line_e1) (i := 1) (ρ := ⟨[.im (lD [w, x]), .no], o⟩) (fun _ => D.bl true) [x] (by simp) rfl (fun z hz => by
      simp at hz; subst hz
      simp only [is_rule_line_e1, sSeq, sIf, bE, bR, bS, cTest, cOp, cOra, sOraP, oraPd, cC, cCall, cCons, cNil, cTup, cLst, cStar, itemsD_tup, itemsD_lst, cUn, cSl, cPart, cNoPart, cNot, cAnd, cOr, cChain, cAndV, cOrV, cNotV, cIf, cYes_ap, sSet, sRet, sRetN, sPass, sDrop, sPar, osCons, osNil, oIm, oLst, oList, setS, cVar, oR, gR, gd, fnD, fnR, fnC, cFn, cMk, cM1, cGive, cOpO, cOpOL, cCallO, cPopAt, popD, sApp, appD, sRem, ownL, sIfW, ifW, sTgt, tgName_ap, tgTup_ap, tgsCons_ap, tgsNil_ap, tgStar_ap, cSeqI, seqD_tup, seqD_lst, seqD_str, cRng1, rngD, cEnum, seqE_tup, seqE_lst, sFor, cLc, Env.set, Env.wipe, Env.back, wipeS, backS, iSeq, iEnd, iEndS, iTwo, iTwoS, isSelf, fnI, bSeq, bRet, fnB, cCallV, cMeth, sMatch, sBeg, sBegPar, sForF, env0, scO, DL.scal, atD_ins, isC_ins, dAdd, dSub, dMod, dMul, dFdiv, dPow, dLt, dLe, dGt, dGe, onI, onIc, addS, addT, addL, dInt, dLen_tup, dLen_lst, dLen_scr, dLen_str, dTuple_tup, dTuple_lst, dList_tup, dList_lst, dSl_tup, dSl_lst, dSl_scr, dSl_str, dIx_tup, dIx_lst, dIx_str, dIn, dNotInS_tup, dNotInS_lst, dEq, dNe, dIsN, dNotN, dMin2, dRev_lst, dJoin_lst, dJoin_tup, oraGet_left, oraGet_seed, oraGet_spot, oraGet_cells, oraPut_left, oraPut_seed, oraPut_spot, Option.map, Option.or, Option.bind, Option.isSome_some, Option.isSome_none, id, List.map_cons, List.map_nil, List.length_cons, List.length_nil, List.length_map, List.length_append, List.replicate, List.cons_append, List.nil_append, List.append_assoc, List.getElem?_cons_zero, List.getElem?_cons_succ, List.set_cons_zero, List.set_cons_succ, List.getD_cons_zero, List.getD_cons_succ, decide_true, decide_false, if_true, if_false, ite_true, ite_false, ↓reduceIte, reduceCtorEq, Nat.reduceAdd, Nat.reduceSub, Nat.reduceLT, Nat.reduceLeDiff, Nat.reduceEqDiff, Nat.zero_add, true_and, and_true, Bool.not_true, Bool.not_false, imp_self, Bool.true_and, Bool.and_true, Bool.false_eq_true, decide_eq_true_eq, forall_const, implies_true, List.mem_cons, List.not_mem_nil, or_false, forall_eq_or_imp, forall_eq, false_implies, eq_self, eqB_int, Int.cast_ofNat_Int, Int.natCast_add, Int.natCast_one, Int.reduceAdd, Int.reduceSub, Int.reduceLT, Int.reduceLE, Int.reduceEq, Int.reduceNeg, Bool.and_false, Bool.false_and, Bool.or_true, Bool.true_or, Bool.or_false, Bool.false_or, hw])
    have e3 : cutL [D.str w, D.str x] (some 1) none = [D.str x] := rfl
    have e4 : L2.atI [D.str w, D.str x] 0 = some (.str w) := rfl
    have e6 := inB_tupS (okK_ALONE w h2) okK_ALONE
    simp only [lD, sD, List.map_cons, List.map_nil] at e e6
    simp only [F_is_rule_line, N_is_rule_line, B_is_rule_line, lD, sD, sSeq, sIf, bE, bR, bS, cTest, cOp, cOra, sOraP, oraPd, cC, cCall, cCons, cNil, cTup, cLst, cStar, itemsD_tup, itemsD_lst, cUn, cSl, cPart, cNoPart, cNot, cAnd, cOr, cChain, cAndV, cOrV, cNotV, cIf, cYes_ap, sSet, sRet, sRetN, sPass, sDrop, sPar, osCons, osNil, oIm, oLst, oList, setS, cVar, oR, gR, gd, fnD, fnR, fnC, cFn, cMk, cM1, cGive, cOpO, cOpOL, cCallO, cPopAt, popD, sApp, appD, sRem, ownL, sIfW, ifW, sTgt, tgName_ap, tgTup_ap, tgsCons_ap, tgsNil_ap, tgStar_ap, cSeqI, seqD_tup, seqD_lst, seqD_str, cRng1, rngD, cEnum, seqE_tup, seqE_lst, sFor, cLc, Env.set, Env.wipe, Env.back, wipeS, backS, iSeq, iEnd, iEndS, iTwo, iTwoS, isSelf, fnI, bSeq, bRet, fnB, cCallV, cMeth, sMatch, sBeg, sBegPar, sForF, env0, scO, DL.scal, atD_ins, isC_ins, dAdd, dSub, dMod, dMul, dFdiv, dPow, dLt, dLe, dGt, dGe, onI, onIc, addS, addT, addL, dInt, dLen_tup, dLen_lst, dLen_scr, dLen_str, dTuple_tup, dTuple_lst, dList_tup, dList_lst, dSl_tup, dSl_lst, dSl_scr, dSl_str, dIx_tup, dIx_lst, dIx_str, dIn, dNotInS_tup, dNotInS_lst, dEq, dNe, dIsN, dNotN, dMin2, dRev_lst, dJoin_lst, dJoin_tup, oraGet_left, oraGet_seed, oraGet_spot, oraGet_cells, oraPut_left, oraPut_seed, oraPut_spot, Option.map, Option.or, Option.bind, Option.isSome_some, Option.isSome_none, id, List.map_cons, List.map_nil, List.length_cons, List.length_nil, List.length_map, List.length_append, List.replicate, List.cons_append, List.nil_append, List.append_assoc, List.getElem?_cons_zero, List.getElem?_cons_succ, List.set_cons_zero, List.set_cons_succ, List.getD_cons_zero, List.getD_cons_succ, decide_true, decide_false, if_true, if_false, ite_true, ite_false, ↓reduceIte, reduceCtorEq, Nat.reduceAdd, Nat.reduceSub, Nat.reduceLT, Nat.reduceLeDiff, Nat.reduceEqDiff, Nat.zero_add, true_and, and_true, Bool.not_true, Bool.not_false, imp_self, Bool.true_and, Bool.and_true, Bool.false_eq_true, decide_eq_true_eq, forall_const, implies_true, List.mem_cons, List.not_mem_nil, or_false, forall_eq_or_imp, forall_eq, false_implies, eq_self, eqB_int, Int.cast_ofNat_Int, Int.natCast_add, Int.natCast_one, Int.reduceAdd, Int.reduceSub, Int.reduceLT, Int.reduceLE, Int.reduceEq, Int.reduceNeg, Bool.and_false, Bool.false_and, Bool.or_true, Bool.true_or, Bool.or_false, Bool.false_or, e, e3, e4, e6, h2, dAll, blsOf, List.all_cons, List.all_nil]
  · have hw : ∀ z ∈ [x, y], F_is_word [.str z] o = .ok (.bl true) o := fun z hz => by
      have hz' : isWord z = true := by
        simp at hz
        rcases hz with rfl | rfl
        · exact ww _ h1
        · exact ww _ h2
      have := is_word_str z (Nat.le_trans (isWord_len hz').2 (by decide)) o
      rw [hz'] at this
      exact this
    have e := lc_map (enc := D.str) (f := is_rule_line_e1) (i := 1) (ρ := ⟨[.im (lD [w, x, y]), .no], o⟩) (fun _ => D.bl true) [x, y] (by simp) rfl (fun z hz => by
      simp only [is_rule_line_e1, sSeq, sIf, bE, bR, bS, cTest, cOp, cOra, sOraP, oraPd, cC, cCall, cCons, cNil, cTup, cLst, cStar, itemsD_tup, itemsD_lst, cUn, cSl, cPart, cNoPart, cNot, cAnd, cOr, cChain, cAndV, cOrV, cNotV, cIf, cYes_ap, sSet, sRet, sRetN, sPass, sDrop, sPar, osCons, osNil, oIm, oLst, oList, setS, cVar, oR, gR, gd, fnD, fnR, fnC, cFn, cMk, cM1, cGive, cOpO, cOpOL, cCallO, cPopAt, popD, sApp, appD, sRem, ownL, sIfW, ifW, sTgt, tgName_ap, tgTup_ap, tgsCons_ap, tgsNil_ap, tgStar_ap, cSeqI, seqD_tup, seqD_lst, seqD_str, cRng1, rngD, cEnum, seqE_tup, seqE_lst, sFor, cLc, Env.set, Env.wipe, Env.back, wipeS, backS, iSeq, iEnd, iEndS, iTwo, iTwoS, isSelf, fnI, bSeq, bRet, fnB, cCallV, cMeth, sMatch, sBeg, sBegPar, sForF, env0, scO, DL.scal, atD_ins, isC_ins, dAdd, dSub, dMod, dMul, dFdiv, dPow, dLt, dLe, dGt, dGe, onI, onIc, addS, addT, addL, dInt, dLen_tup, dLen_lst, dLen_scr, dLen_str, dTuple_tup, dTuple_lst, dList_tup, dList_lst, dSl_tup, dSl_lst, dSl_scr, dSl_str, dIx_tup, dIx_lst, dIx_str, dIn, dNotInS_tup, dNotInS_lst, dEq, dNe, dIsN, dNotN, dMin2, dRev_lst, dJoin_lst, dJoin_tup, oraGet_left, oraGet_seed, oraGet_spot, oraGet_cells, oraPut_left, oraPut_seed, oraPut_spot, Option.map, Option.or, Option.bind, Option.isSome_some, Option.isSome_none, id, List.map_cons, List.map_nil, List.length_cons, List.length_nil, List.length_map, List.length_append, List.replicate, List.cons_append, List.nil_append, List.append_assoc, List.getElem?_cons_zero, List.getElem?_cons_succ, List.set_cons_zero, List.set_cons_succ, List.getD_cons_zero, List.getD_cons_succ, decide_true, decide_false, if_true, if_false, ite_true, ite_false, ↓reduceIte, reduceCtorEq, Nat.reduceAdd, Nat.reduceSub, Nat.reduceLT, Nat.reduceLeDiff, Nat.reduceEqDiff, Nat.zero_add, true_and, and_true, Bool.not_true, Bool.not_false, imp_self, Bool.true_and, Bool.and_true, Bool.false_eq_true, decide_eq_true_eq, forall_const, implies_true, List.mem_cons, List.not_mem_nil, or_false, forall_eq_or_imp, forall_eq, false_implies, eq_self, eqB_int, Int.cast_ofNat_Int, Int.natCast_add, Int.natCast_one, Int.reduceAdd, Int.reduceSub, Int.reduceLT, Int.reduceLE, Int.reduceEq, Int.reduceNeg, Bool.and_false, Bool.false_and, Bool.or_true, Bool.true_or, Bool.or_false, Bool.false_or, hw z hz])
    have e3 : cutL [D.str w, D.str x, D.str y] (some 1) none = [D.str x, D.str y] := rfl
    have e4 : L2.atI [D.str w, D.str x, D.str y] 0 = some (.str w) := rfl
    have e6 := inB_tupS (okK_PAIRED w h3) okK_PAIRED
    have e7 := inB_tupS (okK_PAIRED w h3) okK_ALONE
    have h4 : w ∉ k_ALONE := by
      have : ∀ w ∈ k_PAIRED, w ∉ k_ALONE := by decide +kernel
      exact this w h3
    simp only [lD, sD, List.map_cons, List.map_nil] at e e6 e7
    simp only [F_is_rule_line, N_is_rule_line, B_is_rule_line, lD, sD, sSeq, sIf, bE, bR, bS, cTest, cOp, cOra, sOraP, oraPd, cC, cCall, cCons, cNil, cTup, cLst, cStar, itemsD_tup, itemsD_lst, cUn, cSl, cPart, cNoPart, cNot, cAnd, cOr, cChain, cAndV, cOrV, cNotV, cIf, cYes_ap, sSet, sRet, sRetN, sPass, sDrop, sPar, osCons, osNil, oIm, oLst, oList, setS, cVar, oR, gR, gd, fnD, fnR, fnC, cFn, cMk, cM1, cGive, cOpO, cOpOL, cCallO, cPopAt, popD, sApp, appD, sRem, ownL, sIfW, ifW, sTgt, tgName_ap, tgTup_ap, tgsCons_ap, tgsNil_ap, tgStar_ap, cSeqI, seqD_tup, seqD_lst, seqD_str, cRng1, rngD, cEnum, seqE_tup, seqE_lst, sFor, cLc, Env.set, Env.wipe, Env.back, wipeS, backS, iSeq, iEnd, iEndS, iTwo, iTwoS, isSelf, fnI, bSeq, bRet, fnB, cCallV, cMeth, sMatch, sBeg, sBegPar, sForF, env0, scO, DL.scal, atD_ins, isC_ins, dAdd, dSub, dMod, dMul, dFdiv, dPow, dLt, dLe, dGt, dGe, onI, onIc, addS, addT, addL, dInt, dLen_tup, dLen_lst, dLen_scr, dLen_str, dTuple_tup, dTuple_lst, dList_tup, dList_lst, dSl_tup, dSl_lst, dSl_scr, dSl_str, dIx_tup, dIx_lst, dIx_str, dIn, dNotInS_tup, dNotInS_lst, dEq, dNe, dIsN, dNotN, dMin2, dRev_lst, dJoin_lst, dJoin_tup, oraGet_left, oraGet_seed, oraGet_spot, oraGet_cells, oraPut_left, oraPut_seed, oraPut_spot, Option.map, Option.or, Option.bind, Option.isSome_some, Option.isSome_none, id, List.map_cons, List.map_nil, List.length_cons, List.length_nil, List.length_map, List.length_append, List.replicate, List.cons_append, List.nil_append, List.append_assoc, List.getElem?_cons_zero, List.getElem?_cons_succ, List.set_cons_zero, List.set_cons_succ, List.getD_cons_zero, List.getD_cons_succ, decide_true, decide_false, if_true, if_false, ite_true, ite_false, ↓reduceIte, reduceCtorEq, Nat.reduceAdd, Nat.reduceSub, Nat.reduceLT, Nat.reduceLeDiff, Nat.reduceEqDiff, Nat.zero_add, true_and, and_true, Bool.not_true, Bool.not_false, imp_self, Bool.true_and, Bool.and_true, Bool.false_eq_true, decide_eq_true_eq, forall_const, implies_true, List.mem_cons, List.not_mem_nil, or_false, forall_eq_or_imp, forall_eq, false_implies, eq_self, eqB_int, Int.cast_ofNat_Int, Int.natCast_add, Int.natCast_one, Int.reduceAdd, Int.reduceSub, Int.reduceLT, Int.reduceLE, Int.reduceEq, Int.reduceNeg, Bool.and_false, Bool.false_and, Bool.or_true, Bool.true_or, Bool.or_false, Bool.false_or, e, e3, e4, e6, e7, h3, h4, dAll, blsOf, List.all_cons, List.all_nil]
theorem tb_rule : tb_need_lines "is_rule_line" = some F_is_rule_line := by unfold tb_need_lines; rw [if_pos rfl]
theorem tb_step : tb_need_lines "is_step_line" = some F_is_step_line := by unfold tb_need_lines; rw [if_neg (by decide +kernel), if_pos rfl]
theorem need_lines {f : Str} {m : Fd} {rs : List (List Str)} {b : Nat} (o : Option Ora) (hm : tb_need_lines f = some m) (h : ∀ k r, rs[k]? = some r → b ≤ k → m [lD r] o = .ok (.bl true) o) : F_need_lines [.lst (rs.map lD), .int (b : Int), .fn f] o = .ok .non o := by
  let P : DL.Env → Prop := fun ρ => ∃ a c, ρ = ⟨[.im (.lst (rs.map lD)), .im (.int b), .im (.fn f), a, c], o⟩
  obtain ⟨ρ1, e1, a1, c1, rfl⟩ := forD_same (enc := fun p : List Str × Nat => D.tup [.int (p.2 : Nat), lD p.1]) (g := tgTup 2 (tgsCons (tgName 3) (tgsCons (tgName 4) tgsNil))) (body := need_lines_f1) rs.zipIdx P (fun p hp ρ ⟨a, c, hρ⟩ => by
    subst hρ
    obtain ⟨x, k⟩ := p
    have hx : rs[k]? = some x := List.mem_zipIdx_iff_getElem?.mp hp
    refine ⟨⟨[.im (.lst (rs.map lD)), .im (.int b), .im (.fn f), .im (.int k), .im (lD x)], o⟩, ⟨[.im (.lst (rs.map lD)), .im (.int b), .im (.fn f), .im (.int k), .im (lD x)], o⟩, ?_, ?_, _, _, rfl⟩
    · simp only [sSeq, sIf, bE, bR, bS, cTest, cOp, cOra, sOraP, oraPd, cC, cCall, cCons, cNil, cTup, cLst, cStar, itemsD_tup, itemsD_lst, cUn, cSl, cPart, cNoPart, cNot, cAnd, cOr, cChain, cAndV, cOrV, cNotV, cIf, cYes_ap, sSet, sRet, sRetN, sPass, sDrop, sPar, osCons, osNil, oIm, oLst, oList, setS, cVar, oR, gR, gd, fnD, fnR, fnC, cFn, cMk, cM1, cGive, cOpO, cOpOL, cCallO, cPopAt, popD, sApp, appD, sRem, ownL, sIfW, ifW, sTgt, tgName_ap, tgTup_ap, tgsCons_ap, tgsNil_ap, tgStar_ap, cSeqI, seqD_tup, seqD_lst, seqD_str, cRng1, rngD, cEnum, seqE_tup, seqE_lst, sFor, cLc, Env.set, Env.wipe, Env.back, wipeS, backS, iSeq, iEnd, iEndS, iTwo, iTwoS, isSelf, fnI, bSeq, bRet, fnB, cCallV, cMeth, sMatch, sBeg, sBegPar, sForF, env0, scO, DL.scal, atD_ins, isC_ins, dAdd, dSub, dMod, dMul, dFdiv, dPow, dLt, dLe, dGt, dGe, onI, onIc, addS, addT, addL, dInt, dLen_tup, dLen_lst, dLen_scr, dLen_str, dTuple_tup, dTuple_lst, dList_tup, dList_lst, dSl_tup, dSl_lst, dSl_scr, dSl_str, dIx_tup, dIx_lst, dIx_str, dIn, dNotInS_tup, dNotInS_lst, dEq, dNe, dIsN, dNotN, dMin2, dRev_lst, dJoin_lst, dJoin_tup, oraGet_left, oraGet_seed, oraGet_spot, oraGet_cells, oraPut_left, oraPut_seed, oraPut_spot, Option.map, Option.or, Option.bind, Option.isSome_some, Option.isSome_none, id, List.map_cons, List.map_nil, List.length_cons, List.length_nil, List.length_map, List.length_append, List.replicate, List.cons_append, List.nil_append, List.append_assoc, List.getElem?_cons_zero, List.getElem?_cons_succ, List.set_cons_zero, List.set_cons_succ, List.getD_cons_zero, List.getD_cons_succ, decide_true, decide_false, if_true, if_false, ite_true, ite_false, ↓reduceIte, reduceCtorEq, Nat.reduceAdd, Nat.reduceSub, Nat.reduceLT, Nat.reduceLeDiff, Nat.reduceEqDiff, Nat.zero_add, true_and, and_true, Bool.not_true, Bool.not_false, imp_self, Bool.true_and, Bool.and_true, Bool.false_eq_true, decide_eq_true_eq, forall_const, implies_true, List.mem_cons, List.not_mem_nil, or_false, forall_eq_or_imp, forall_eq, false_implies, eq_self, eqB_int, Int.cast_ofNat_Int, Int.natCast_add, Int.natCast_one, Int.reduceAdd, Int.reduceSub, Int.reduceLT, Int.reduceLE, Int.reduceEq, Int.reduceNeg, Bool.and_false, Bool.false_and, Bool.or_true, Bool.true_or, Bool.or_false, Bool.false_or]
    · by_cases hk : (b : Int) ≤ k
      · have := h k x hx (by omega)
        simp only [need_lines_f1, sSeq, sIf, bE, bR, bS, cTest, cOp, cOra, sOraP, oraPd, cC, cCall, cCons, cNil, cTup, cLst, cStar, itemsD_tup, itemsD_lst, cUn, cSl, cPart, cNoPart, cNot, cAnd, cOr, cChain, cAndV, cOrV, cNotV, cIf, cYes_ap, sSet, sRet, sRetN, sPass, sDrop, sPar, osCons, osNil, oIm, oLst, oList, setS, cVar, oR, gR, gd, fnD, fnR, fnC, cFn, cMk, cM1, cGive, cOpO, cOpOL, cCallO, cPopAt, popD, sApp, appD, sRem, ownL, sIfW, ifW, sTgt, tgName_ap, tgTup_ap, tgsCons_ap, tgsNil_ap, tgStar_ap, cSeqI, seqD_tup, seqD_lst, seqD_str, cRng1, rngD, cEnum, seqE_tup, seqE_lst, sFor, cLc, Env.set, Env.wipe, Env.back, wipeS, backS, iSeq, iEnd, iEndS, iTwo, iTwoS, isSelf, fnI, bSeq, bRet, fnB, cCallV, cMeth, sMatch, sBeg, sBegPar, sForF, env0, scO, DL.scal, atD_ins, isC_ins, dAdd, dSub, dMod, dMul, dFdiv, dPow, dLt, dLe, dGt, dGe, onI, onIc, addS, addT, addL, dInt, dLen_tup, dLen_lst, dLen_scr, dLen_str, dTuple_tup, dTuple_lst, dList_tup, dList_lst, dSl_tup, dSl_lst, dSl_scr, dSl_str, dIx_tup, dIx_lst, dIx_str, dIn, dNotInS_tup, dNotInS_lst, dEq, dNe, dIsN, dNotN, dMin2, dRev_lst, dJoin_lst, dJoin_tup, oraGet_left, oraGet_seed, oraGet_spot, oraGet_cells, oraPut_left, oraPut_seed, oraPut_spot, Option.map, Option.or, Option.bind, Option.isSome_some, Option.isSome_none, id, List.map_cons, List.map_nil, List.length_cons, List.length_nil, List.length_map, List.length_append, List.replicate, List.cons_append, List.nil_append, List.append_assoc, List.getElem?_cons_zero, List.getElem?_cons_succ, List.set_cons_zero, List.set_cons_succ, List.getD_cons_zero, List.getD_cons_succ, decide_true, decide_false, if_true, if_false, ite_true, ite_false, ↓reduceIte, reduceCtorEq, Nat.reduceAdd, Nat.reduceSub, Nat.reduceLT, Nat.reduceLeDiff, Nat.reduceEqDiff, Nat.zero_add, true_and, and_true, Bool.not_true, Bool.not_false, imp_self, Bool.true_and, Bool.and_true, Bool.false_eq_true, decide_eq_true_eq, forall_const, implies_true, List.mem_cons, List.not_mem_nil, or_false, forall_eq_or_imp, forall_eq, false_implies, eq_self, eqB_int, Int.cast_ofNat_Int, Int.natCast_add, Int.natCast_one, Int.reduceAdd, Int.reduceSub, Int.reduceLT, Int.reduceLE, Int.reduceEq, Int.reduceNeg, Bool.and_false, Bool.false_and, Bool.or_true, Bool.true_or, Bool.or_false, Bool.false_or, hk, hm, this]
      · simp only [need_lines_f1, sSeq, sIf, bE, bR, bS, cTest, cOp, cOra, sOraP, oraPd, cC, cCall, cCons, cNil, cTup, cLst, cStar, itemsD_tup, itemsD_lst, cUn, cSl, cPart, cNoPart, cNot, cAnd, cOr, cChain, cAndV, cOrV, cNotV, cIf, cYes_ap, sSet, sRet, sRetN, sPass, sDrop, sPar, osCons, osNil, oIm, oLst, oList, setS, cVar, oR, gR, gd, fnD, fnR, fnC, cFn, cMk, cM1, cGive, cOpO, cOpOL, cCallO, cPopAt, popD, sApp, appD, sRem, ownL, sIfW, ifW, sTgt, tgName_ap, tgTup_ap, tgsCons_ap, tgsNil_ap, tgStar_ap, cSeqI, seqD_tup, seqD_lst, seqD_str, cRng1, rngD, cEnum, seqE_tup, seqE_lst, sFor, cLc, Env.set, Env.wipe, Env.back, wipeS, backS, iSeq, iEnd, iEndS, iTwo, iTwoS, isSelf, fnI, bSeq, bRet, fnB, cCallV, cMeth, sMatch, sBeg, sBegPar, sForF, env0, scO, DL.scal, atD_ins, isC_ins, dAdd, dSub, dMod, dMul, dFdiv, dPow, dLt, dLe, dGt, dGe, onI, onIc, addS, addT, addL, dInt, dLen_tup, dLen_lst, dLen_scr, dLen_str, dTuple_tup, dTuple_lst, dList_tup, dList_lst, dSl_tup, dSl_lst, dSl_scr, dSl_str, dIx_tup, dIx_lst, dIx_str, dIn, dNotInS_tup, dNotInS_lst, dEq, dNe, dIsN, dNotN, dMin2, dRev_lst, dJoin_lst, dJoin_tup, oraGet_left, oraGet_seed, oraGet_spot, oraGet_cells, oraPut_left, oraPut_seed, oraPut_spot, Option.map, Option.or, Option.bind, Option.isSome_some, Option.isSome_none, id, List.map_cons, List.map_nil, List.length_cons, List.length_nil, List.length_map, List.length_append, List.replicate, List.cons_append, List.nil_append, List.append_assoc, List.getElem?_cons_zero, List.getElem?_cons_succ, List.set_cons_zero, List.set_cons_succ, List.getD_cons_zero, List.getD_cons_succ, decide_true, decide_false, if_true, if_false, ite_true, ite_false, ↓reduceIte, reduceCtorEq, Nat.reduceAdd, Nat.reduceSub, Nat.reduceLT, Nat.reduceLeDiff, Nat.reduceEqDiff, Nat.zero_add, true_and, and_true, Bool.not_true, Bool.not_false, imp_self, Bool.true_and, Bool.and_true, Bool.false_eq_true, decide_eq_true_eq, forall_const, implies_true, List.mem_cons, List.not_mem_nil, or_false, forall_eq_or_imp, forall_eq, false_implies, eq_self, eqB_int, Int.cast_ofNat_Int, Int.natCast_add, Int.natCast_one, Int.reduceAdd, Int.reduceSub, Int.reduceLT, Int.reduceLE, Int.reduceEq, Int.reduceNeg, Bool.and_false, Bool.false_and, Bool.or_true, Bool.true_or, Bool.or_false, Bool.false_or, hk]) (ρ := ⟨[.im (.lst (rs.map lD)), .im (.int b), .im (.fn f), .no, .no], o⟩) ⟨_, _, rfl⟩
  simp only [F_need_lines, N_need_lines, B_need_lines, sSeq, sIf, bE, bR, bS, cTest, cOp, cOra, sOraP, oraPd, cC, cCall, cCons, cNil, cTup, cLst, cStar, itemsD_tup, itemsD_lst, cUn, cSl, cPart, cNoPart, cNot, cAnd, cOr, cChain, cAndV, cOrV, cNotV, cIf, cYes_ap, sSet, sRet, sRetN, sPass, sDrop, sPar, osCons, osNil, oIm, oLst, oList, setS, cVar, oR, gR, gd, fnD, fnR, fnC, cFn, cMk, cM1, cGive, cOpO, cOpOL, cCallO, cPopAt, popD, sApp, appD, sRem, ownL, sIfW, ifW, sTgt, tgName_ap, tgTup_ap, tgsCons_ap, tgsNil_ap, tgStar_ap, cSeqI, seqD_tup, seqD_lst, seqD_str, cRng1, rngD, cEnum, seqE_tup, seqE_lst, sFor, cLc, Env.set, Env.wipe, Env.back, wipeS, backS, iSeq, iEnd, iEndS, iTwo, iTwoS, isSelf, fnI, bSeq, bRet, fnB, cCallV, cMeth, sMatch, sBeg, sBegPar, sForF, env0, scO, DL.scal, atD_ins, isC_ins, dAdd, dSub, dMod, dMul, dFdiv, dPow, dLt, dLe, dGt, dGe, onI, onIc, addS, addT, addL, dInt, dLen_tup, dLen_lst, dLen_scr, dLen_str, dTuple_tup, dTuple_lst, dList_tup, dList_lst, dSl_tup, dSl_lst, dSl_scr, dSl_str, dIx_tup, dIx_lst, dIx_str, dIn, dNotInS_tup, dNotInS_lst, dEq, dNe, dIsN, dNotN, dMin2, dRev_lst, dJoin_lst, dJoin_tup, oraGet_left, oraGet_seed, oraGet_spot, oraGet_cells, oraPut_left, oraPut_seed, oraPut_spot, Option.map, Option.or, Option.bind, Option.isSome_some, Option.isSome_none, id, List.map_cons, List.map_nil, List.length_cons, List.length_nil, List.length_map, List.length_append, List.replicate, List.cons_append, List.nil_append, List.append_assoc, List.getElem?_cons_zero, List.getElem?_cons_succ, List.set_cons_zero, List.set_cons_succ, List.getD_cons_zero, List.getD_cons_succ, decide_true, decide_false, if_true, if_false, ite_true, ite_false, ↓reduceIte, reduceCtorEq, Nat.reduceAdd, Nat.reduceSub, Nat.reduceLT, Nat.reduceLeDiff, Nat.reduceEqDiff, Nat.zero_add, true_and, and_true, Bool.not_true, Bool.not_false, imp_self, Bool.true_and, Bool.and_true, Bool.false_eq_true, decide_eq_true_eq, forall_const, implies_true, List.mem_cons, List.not_mem_nil, or_false, forall_eq_or_imp, forall_eq, false_implies, eq_self, eqB_int, Int.cast_ofNat_Int, Int.natCast_add, Int.natCast_one, Int.reduceAdd, Int.reduceSub, Int.reduceLT, Int.reduceLE, Int.reduceEq, Int.reduceNeg, Bool.and_false, Bool.false_and, Bool.or_true, Bool.true_or, Bool.or_false, Bool.false_or, enumL_map, e1]
theorem read_world {fs fs' : List Str} {rs rs' : List (List Str)} (o : Option Ora) (pf : fs.Perm fs') (af : ascS fs') (pr : rs.Perm rs') (ar : ascR rs') (n1 : fs ≠ []) (n4 : fs.length ≤ 4) (nd : fs.Nodup) (ww : ∀ x ∈ fs, isWord x = true) (rr : ∀ r ∈ rs, isRule fs r = true) (rnd : rs.Nodup) (h : Rows (("folders" :: fs) :: rs)) :
    F_read_world [.str (textOf (("folders" :: fs) :: rs))] o = .ok (W_ fs' rs') o := by
  have hlen : 0 < fs.length := List.length_pos_iff.mpr n1
  have rl : rs.length ≤ 100000 := by have := h.len; simp at this; omega
  have e1 := lines_of o h (by simp)
  have e2 := need_lines (b := 1) (rs := ("folders" :: fs) :: rs) o tb_rule fun k r hk hb => by
    obtain ⟨j, rfl⟩ : ∃ j, k = j + 1 := ⟨k - 1, by omega⟩
    have : r ∈ rs := List.mem_of_getElem? (by simpa using hk)
    exact is_rule_line_yes o ww (rr r this)
  have e3 := lc_map (enc := D.str) (f := read_world_e1) (i := 5) (ρ := ⟨[.im (.str (textOf (("folders" :: fs) :: rs))), .im (.lst (((("folders" : Str) :: fs) :: rs).map lD)), .im (lD ("folders" :: fs)), .im (.lst (rs.map lD)), .no, .no], o⟩) (fun _ => D.bl true) fs (by omega) rfl (fun x hx => by
    have hw := is_word_str x (Nat.le_trans (isWord_len (ww x hx)).2 (by decide)) o
    rw [ww x hx] at hw
    simp only [read_world_e1, sSeq, sIf, bE, bR, bS, cTest, cOp, cOra, sOraP, oraPd, cC, cCall, cCons, cNil, cTup, cLst, cStar, itemsD_tup, itemsD_lst, cUn, cSl, cPart, cNoPart, cNot, cAnd, cOr, cChain, cAndV, cOrV, cNotV, cIf, cYes_ap, sSet, sRet, sRetN, sPass, sDrop, sPar, osCons, osNil, oIm, oLst, oList, setS, cVar, oR, gR, gd, fnD, fnR, fnC, cFn, cMk, cM1, cGive, cOpO, cOpOL, cCallO, cPopAt, popD, sApp, appD, sRem, ownL, sIfW, ifW, sTgt, tgName_ap, tgTup_ap, tgsCons_ap, tgsNil_ap, tgStar_ap, cSeqI, seqD_tup, seqD_lst, seqD_str, cRng1, rngD, cEnum, seqE_tup, seqE_lst, sFor, cLc, Env.set, Env.wipe, Env.back, wipeS, backS, iSeq, iEnd, iEndS, iTwo, iTwoS, isSelf, fnI, bSeq, bRet, fnB, cCallV, cMeth, sMatch, sBeg, sBegPar, sForF, env0, scO, DL.scal, atD_ins, isC_ins, dAdd, dSub, dMod, dMul, dFdiv, dPow, dLt, dLe, dGt, dGe, onI, onIc, addS, addT, addL, dInt, dLen_tup, dLen_lst, dLen_scr, dLen_str, dTuple_tup, dTuple_lst, dList_tup, dList_lst, dSl_tup, dSl_lst, dSl_scr, dSl_str, dIx_tup, dIx_lst, dIx_str, dIn, dNotInS_tup, dNotInS_lst, dEq, dNe, dIsN, dNotN, dMin2, dRev_lst, dJoin_lst, dJoin_tup, oraGet_left, oraGet_seed, oraGet_spot, oraGet_cells, oraPut_left, oraPut_seed, oraPut_spot, Option.map, Option.or, Option.bind, Option.isSome_some, Option.isSome_none, id, List.map_cons, List.map_nil, List.length_cons, List.length_nil, List.length_map, List.length_append, List.replicate, List.cons_append, List.nil_append, List.append_assoc, List.getElem?_cons_zero, List.getElem?_cons_succ, List.set_cons_zero, List.set_cons_succ, List.getD_cons_zero, List.getD_cons_succ, decide_true, decide_false, if_true, if_false, ite_true, ite_false, ↓reduceIte, reduceCtorEq, Nat.reduceAdd, Nat.reduceSub, Nat.reduceLT, Nat.reduceLeDiff, Nat.reduceEqDiff, Nat.zero_add, true_and, and_true, Bool.not_true, Bool.not_false, imp_self, Bool.true_and, Bool.and_true, Bool.false_eq_true, decide_eq_true_eq, forall_const, implies_true, List.mem_cons, List.not_mem_nil, or_false, forall_eq_or_imp, forall_eq, false_implies, eq_self, eqB_int, Int.cast_ofNat_Int, Int.natCast_add, Int.natCast_one, Int.reduceAdd, Int.reduceSub, Int.reduceLT, Int.reduceLE, Int.reduceEq, Int.reduceNeg, Bool.and_false, Bool.false_and, Bool.or_true, Bool.true_or, Bool.or_false, Bool.false_or, hw])
  have e4 := lc_map (enc := lD) (f := read_world_e2) (i := 4) (ρ := ⟨[.im (.str (textOf (("folders" :: fs) :: rs))), .im (.lst (((("folders" : Str) :: fs) :: rs).map lD)), .im (lD ("folders" :: fs)), .im (.lst (rs.map lD)), .no, .no], o⟩) wT rs rl rfl (fun x hx => by
    simp only [read_world_e2, wT, lD, sD, sSeq, sIf, bE, bR, bS, cTest, cOp, cOra, sOraP, oraPd, cC, cCall, cCons, cNil, cTup, cLst, cStar, itemsD_tup, itemsD_lst, cUn, cSl, cPart, cNoPart, cNot, cAnd, cOr, cChain, cAndV, cOrV, cNotV, cIf, cYes_ap, sSet, sRet, sRetN, sPass, sDrop, sPar, osCons, osNil, oIm, oLst, oList, setS, cVar, oR, gR, gd, fnD, fnR, fnC, cFn, cMk, cM1, cGive, cOpO, cOpOL, cCallO, cPopAt, popD, sApp, appD, sRem, ownL, sIfW, ifW, sTgt, tgName_ap, tgTup_ap, tgsCons_ap, tgsNil_ap, tgStar_ap, cSeqI, seqD_tup, seqD_lst, seqD_str, cRng1, rngD, cEnum, seqE_tup, seqE_lst, sFor, cLc, Env.set, Env.wipe, Env.back, wipeS, backS, iSeq, iEnd, iEndS, iTwo, iTwoS, isSelf, fnI, bSeq, bRet, fnB, cCallV, cMeth, sMatch, sBeg, sBegPar, sForF, env0, scO, DL.scal, atD_ins, isC_ins, dAdd, dSub, dMod, dMul, dFdiv, dPow, dLt, dLe, dGt, dGe, onI, onIc, addS, addT, addL, dInt, dLen_tup, dLen_lst, dLen_scr, dLen_str, dTuple_tup, dTuple_lst, dList_tup, dList_lst, dSl_tup, dSl_lst, dSl_scr, dSl_str, dIx_tup, dIx_lst, dIx_str, dIn, dNotInS_tup, dNotInS_lst, dEq, dNe, dIsN, dNotN, dMin2, dRev_lst, dJoin_lst, dJoin_tup, oraGet_left, oraGet_seed, oraGet_spot, oraGet_cells, oraPut_left, oraPut_seed, oraPut_spot, Option.map, Option.or, Option.bind, Option.isSome_some, Option.isSome_none, id, List.map_cons, List.map_nil, List.length_cons, List.length_nil, List.length_map, List.length_append, List.replicate, List.cons_append, List.nil_append, List.append_assoc, List.getElem?_cons_zero, List.getElem?_cons_succ, List.set_cons_zero, List.set_cons_succ, List.getD_cons_zero, List.getD_cons_succ, decide_true, decide_false, if_true, if_false, ite_true, ite_false, ↓reduceIte, reduceCtorEq, Nat.reduceAdd, Nat.reduceSub, Nat.reduceLT, Nat.reduceLeDiff, Nat.reduceEqDiff, Nat.zero_add, true_and, and_true, Bool.not_true, Bool.not_false, imp_self, Bool.true_and, Bool.and_true, Bool.false_eq_true, decide_eq_true_eq, forall_const, implies_true, List.mem_cons, List.not_mem_nil, or_false, forall_eq_or_imp, forall_eq, false_implies, eq_self, eqB_int, Int.cast_ofNat_Int, Int.natCast_add, Int.natCast_one, Int.reduceAdd, Int.reduceSub, Int.reduceLT, Int.reduceLE, Int.reduceEq, Int.reduceNeg, Bool.and_false, Bool.false_and, Bool.or_true, Bool.true_or, Bool.or_false, Bool.false_or])
  have e5 := world_init (fd := .lst (sD fs)) (rd := .lst (rD rs)) o (.lst _) (.lst _) pf af pr ar n1 n4 nd ww rr rnd rl
  have e6 : cutL (D.str "folders" :: sD fs) (some 1) none = sD fs := cutL_drop (D.str "folders" :: sD fs) 1
  have e7 : L2.atI (D.str "folders" :: sD fs) 0 = some (.str "folders") := by
    obtain ⟨x, h1, _, h2⟩ := atI_at (l := D.str "folders" :: sD fs) (i := 0) (by decide) (by simp)
    simp at h2; rw [h1, h2]
  have e8 := eqB_str (a := "folders") (b := "folders") (by decide +kernel) (by decide +kernel)
  have e9 : dAll [.lst (fs.map fun _ => D.bl true)] = some (.bl true) := by rw [dAll_map (fun _ => true)]; simp
  have g1 : sz rs.length := rl
  have g2 : (2 : Int) ≤ fs.length + 1 := by omega
  have g3 : (fs.length : Int) + 1 ≤ 5 := by omega
  simp only [List.map_cons, lD, sD, rD, Int.natCast_one, wT] at e1 e2 e3 e4 e5 e6 e7
  simp only [F_read_world, N_read_world, B_read_world, sSeq, sIf, bE, bR, bS, cTest, cOp, cOra, sOraP, oraPd, cC, cCall, cCons, cNil, cTup, cLst, cStar, itemsD_tup, itemsD_lst, cUn, cSl, cPart, cNoPart, cNot, cAnd, cOr, cChain, cAndV, cOrV, cNotV, cIf, cYes_ap, sSet, sRet, sRetN, sPass, sDrop, sPar, osCons, osNil, oIm, oLst, oList, setS, cVar, oR, gR, gd, fnD, fnR, fnC, cFn, cMk, cM1, cGive, cOpO, cOpOL, cCallO, cPopAt, popD, sApp, appD, sRem, ownL, sIfW, ifW, sTgt, tgName_ap, tgTup_ap, tgsCons_ap, tgsNil_ap, tgStar_ap, cSeqI, seqD_tup, seqD_lst, seqD_str, cRng1, rngD, cEnum, seqE_tup, seqE_lst, sFor, cLc, Env.set, Env.wipe, Env.back, wipeS, backS, iSeq, iEnd, iEndS, iTwo, iTwoS, isSelf, fnI, bSeq, bRet, fnB, cCallV, cMeth, sMatch, sBeg, sBegPar, sForF, env0, scO, DL.scal, atD_ins, isC_ins, dAdd, dSub, dMod, dMul, dFdiv, dPow, dLt, dLe, dGt, dGe, onI, onIc, addS, addT, addL, dInt, dLen_tup, dLen_lst, dLen_scr, dLen_str, dTuple_tup, dTuple_lst, dList_tup, dList_lst, dSl_tup, dSl_lst, dSl_scr, dSl_str, dIx_tup, dIx_lst, dIx_str, dIn, dNotInS_tup, dNotInS_lst, dEq, dNe, dIsN, dNotN, dMin2, dRev_lst, dJoin_lst, dJoin_tup, oraGet_left, oraGet_seed, oraGet_spot, oraGet_cells, oraPut_left, oraPut_seed, oraPut_spot, Option.map, Option.or, Option.bind, Option.isSome_some, Option.isSome_none, id, List.map_cons, List.map_nil, List.length_cons, List.length_nil, List.length_map, List.length_append, List.replicate, List.cons_append, List.nil_append, List.append_assoc, List.getElem?_cons_zero, List.getElem?_cons_succ, List.set_cons_zero, List.set_cons_succ, List.getD_cons_zero, List.getD_cons_succ, decide_true, decide_false, if_true, if_false, ite_true, ite_false, ↓reduceIte, reduceCtorEq, Nat.reduceAdd, Nat.reduceSub, Nat.reduceLT, Nat.reduceLeDiff, Nat.reduceEqDiff, Nat.zero_add, true_and, and_true, Bool.not_true, Bool.not_false, imp_self, Bool.true_and, Bool.and_true, Bool.false_eq_true, decide_eq_true_eq, forall_const, implies_true, List.mem_cons, List.not_mem_nil, or_false, forall_eq_or_imp, forall_eq, false_implies, eq_self, eqB_int, Int.cast_ofNat_Int, Int.natCast_add, Int.natCast_one, Int.reduceAdd, Int.reduceSub, Int.reduceLT, Int.reduceLE, Int.reduceEq, Int.reduceNeg, Bool.and_false, Bool.false_and, Bool.or_true, Bool.true_or, Bool.or_false, Bool.false_or, e1, g1, e7, e8, g2, g3, e6, e3, e9, e2, e4, e5, lD, sD, rD, W_, wT]
end LW

set_option Elab.async false
set_option linter.all false
set_option maxRecDepth 100000
set_option maxHeartbeats 4000000
namespace LW
open PySem DL
/-! ### steps -/
abbrev LH := List Str × List Str
/-- a step that can stand: what is looked at, what is held behind it -/
inductive StepS (fs : List Str) : LH → List Str → LH → Prop
  | tick (s : LH) : StepS fs s ["tick"] s
  | look (s : LH) {x : Str} (hx : x ∈ fs) : StepS fs s ["look", x] (s.1 ++ [x], s.2)
  | check (s : LH) {x : Str} (hx : x ∈ fs) (hl : x ∈ s.1) : StepS fs s ["check", x] s
  | sure (s : LH) {x : Str} (hx : x ∈ fs) (hl : x ∈ s.1) : StepS fs s ["sure", x] s
  | hold (s : LH) {x : Str} (hx : x ∈ fs) (hl : x ∉ s.2) : StepS fs s ["hold", x] (s.1, s.2 ++ [x])
  | free (s : LH) {x : Str} {j : Nat} (hx : x ∈ fs) (hl : x ∈ s.2) (hj : firstAt x s.2 = some j) : StepS fs s ["free", x] (s.1, s.2.eraseIdx j)
/-- steps behind one another -/
inductive RunS (fs : List Str) : LH → List (List Str) → LH → Prop
  | nil (s : LH) : RunS fs s [] s
  | cons {s s1 s2 : LH} {r : List Str} {rs : List (List Str)} (h : StepS fs s r s1) (t : RunS fs s1 rs s2) : RunS fs s (r :: rs) s2
theorem RunS.snoc {fs : List Str} : ∀ {s s1 s2 : LH} {rs : List (List Str)} {r : List Str}, RunS fs s rs s1 → StepS fs s1 r s2 → RunS fs s (rs ++ [r]) s2
  | _, _, _, _, _, .nil _, h => .cons h (.nil _)
  | _, _, _, _, _, .cons h t, h2 => .cons h (t.snoc h2)
def okLH (fs : List Str) (s : LH) : Prop := (∀ x ∈ s.1, x ∈ fs) ∧ ∀ x ∈ s.2, x ∈ fs
theorem StepS.okLH {fs : List Str} {s s1 : LH} {r : List Str} (h : StepS fs s r s1) (k : okLH fs s) : okLH fs s1 := by
  cases h with
  | tick => exact k
  | look hx => exact ⟨fun y hy => by
      rcases List.mem_append.mp hy with h | h
      · exact k.1 y h
      · simp at h; subst h; exact hx, k.2⟩
  | check => exact k
  | sure => exact k
  | hold hx _ => exact ⟨k.1, fun y hy => by
      rcases List.mem_append.mp hy with h | h
      · exact k.2 y h
      · simp at h; subst h; exact hx⟩
  | free _ _ _ => exact ⟨k.1, fun y hy => k.2 y (List.mem_of_mem_eraseIdx hy)⟩
theorem isWord_kw : ∀ w ∈ (["tick", "look", "check", "sure", "hold", "free", "folders", "drop", "make", "link", "move"] : List Str), isWord w = true := by decide +kernel
theorem StepS.row {fs : List Str} (ww : ∀ x ∈ fs, isWord x = true) {s s1 : LH} {r : List Str} (h : StepS fs s r s1) : Row r := by
  cases h with
  | tick => exact ⟨by simp, by simp, fun x hx => by simp at hx; subst hx; exact isWord_kw _ (by simp)⟩
  | look hx => exact ⟨by simp, by simp, fun y hy => by simp at hy; rcases hy with rfl | rfl; exact isWord_kw _ (by simp); exact ww _ hx⟩
  | check hx => exact ⟨by simp, by simp, fun y hy => by simp at hy; rcases hy with rfl | rfl; exact isWord_kw _ (by simp); exact ww _ hx⟩
  | sure hx => exact ⟨by simp, by simp, fun y hy => by simp at hy; rcases hy with rfl | rfl; exact isWord_kw _ (by simp); exact ww _ hx⟩
  | hold hx => exact ⟨by simp, by simp, fun y hy => by simp at hy; rcases hy with rfl | rfl; exact isWord_kw _ (by simp); exact ww _ hx⟩
  | free hx => exact ⟨by simp, by simp, fun y hy => by simp at hy; rcases hy with rfl | rfl; exact isWord_kw _ (by simp); exact ww _ hx⟩
theorem RunS.row {fs : List Str} (ww : ∀ x ∈ fs, isWord x = true) : ∀ {s s1 : LH} {rs : List (List Str)}, RunS fs s rs s1 → ∀ r ∈ rs, Row r
  | _, _, _, .nil _, r, hr => by simp at hr
  | _, _, _, .cons h t, r, hr => by
    rcases List.mem_cons.mp hr with rfl | hr
    · exact h.row ww
    · exact t.row ww r hr
theorem okK_WORDS : okW k_WORDS := by decide +kernel
theorem okK_TICK : okW k_TICK := by decide +kernel
theorem is_step_tick {d : D} (o : Option Ora) : F_is_step [wT ["tick"], d] o = .ok (.bl true) o := by
  have e1 := isT_strs ["tick"] (.im d) o is_step_e1 (fun x hx => by simp only [is_step_e1, sSeq, sIf, bE, bR, bS, cTest, cOp, cOra, sOraP, oraPd, cC, cCall, cCons, cNil, cTup, cLst, cStar, itemsD_tup, itemsD_lst, cUn, cSl, cPart, cNoPart, cNot, cAnd, cOr, cChain, cAndV, cOrV, cNotV, cIf, cYes_ap, sSet, sRet, sRetN, sPass, sDrop, sPar, osCons, osNil, oIm, oLst, oList, setS, cVar, oR, gR, gd, fnD, fnR, fnC, cFn, cMk, cM1, cGive, cOpO, cOpOL, cCallO, cPopAt, popD, sApp, appD, sRem, ownL, sIfW, ifW, sTgt, tgName_ap, tgTup_ap, tgsCons_ap, tgsNil_ap, tgStar_ap, cSeqI, seqD_tup, seqD_lst, seqD_str, cRng1, rngD, cEnum, seqE_tup, seqE_lst, sFor, cLc, Env.set, Env.wipe, Env.back, wipeS, backS, iSeq, iEnd, iEndS, iTwo, iTwoS, isSelf, fnI, bSeq, bRet, fnB, cCallV, cMeth, sMatch, sBeg, sBegPar, sForF, env0, scO, DL.scal, atD_ins, isC_ins, dAdd, dSub, dMod, dMul, dFdiv, dPow, dLt, dLe, dGt, dGe, onI, onIc, addS, addT, addL, dInt, dLen_tup, dLen_lst, dLen_scr, dLen_str, dTuple_tup, dTuple_lst, dList_tup, dList_lst, dSl_tup, dSl_lst, dSl_scr, dSl_str, dIx_tup, dIx_lst, dIx_str, dIn, dNotInS_tup, dNotInS_lst, dEq, dNe, dIsN, dNotN, dMin2, dRev_lst, dJoin_lst, dJoin_tup, oraGet_left, oraGet_seed, oraGet_spot, oraGet_cells, oraPut_left, oraPut_seed, oraPut_spot, Option.map, Option.or, Option.bind, Option.isSome_some, Option.isSome_none, id, List.map_cons, List.map_nil, List.length_cons, List.length_nil, List.length_map, List.length_append, List.replicate, List.cons_append, List.nil_append, List.append_assoc, List.getElem?_cons_zero, List.getElem?_cons_succ, List.set_cons_zero, List.set_cons_succ, List.getD_cons_zero, List.getD_cons_succ, decide_true, decide_false, if_true, if_false, ite_true, ite_false, ↓reduceIte, reduceCtorEq, Nat.reduceAdd, Nat.reduceSub, Nat.reduceLT, Nat.reduceLeDiff, Nat.reduceEqDiff, Nat.zero_add, true_and, and_true, Bool.not_true, Bool.not_false, imp_self, Bool.true_and, Bool.and_true, Bool.false_eq_true, decide_eq_true_eq, forall_const, implies_true, List.mem_cons, List.not_mem_nil, or_false, forall_eq_or_imp, forall_eq, false_implies, eq_self, eqB_int, Int.cast_ofNat_Int, Int.natCast_add, Int.natCast_one, Int.reduceAdd, Int.reduceSub, Int.reduceLT, Int.reduceLE, Int.reduceEq, Int.reduceNeg, Bool.and_false, Bool.false_and, Bool.or_true, Bool.true_or, Bool.or_false, Bool.false_or, isT_str_str]) (by simp)
  have e2 := eqB_tupS (a := ["tick"]) (b := k_TICK) (by decide +kernel) okK_TICK
  have e3 : (["tick"] : List Str) = k_TICK := rfl
  rw [decide_eq_true e3] at e2
  simp only [wT, sD, List.map_cons, List.map_nil] at e1 e2
  simp only [F_is_step, N_is_step, B_is_step, wT, sD, sSeq, sIf, bE, bR, bS, cTest, cOp, cOra, sOraP, oraPd, cC, cCall, cCons, cNil, cTup, cLst, cStar, itemsD_tup, itemsD_lst, cUn, cSl, cPart, cNoPart, cNot, cAnd, cOr, cChain, cAndV, cOrV, cNotV, cIf, cYes_ap, sSet, sRet, sRetN, sPass, sDrop, sPar, osCons, osNil, oIm, oLst, oList, setS, cVar, oR, gR, gd, fnD, fnR, fnC, cFn, cMk, cM1, cGive, cOpO, cOpOL, cCallO, cPopAt, popD, sApp, appD, sRem, ownL, sIfW, ifW, sTgt, tgName_ap, tgTup_ap, tgsCons_ap, tgsNil_ap, tgStar_ap, cSeqI, seqD_tup, seqD_lst, seqD_str, cRng1, rngD, cEnum, seqE_tup, seqE_lst, sFor, cLc, Env.set, Env.wipe, Env.back, wipeS, backS, iSeq, iEnd, iEndS, iTwo, iTwoS, isSelf, fnI, bSeq, bRet, fnB, cCallV, cMeth, sMatch, sBeg, sBegPar, sForF, env0, scO, DL.scal, atD_ins, isC_ins, dAdd, dSub, dMod, dMul, dFdiv, dPow, dLt, dLe, dGt, dGe, onI, onIc, addS, addT, addL, dInt, dLen_tup, dLen_lst, dLen_scr, dLen_str, dTuple_tup, dTuple_lst, dList_tup, dList_lst, dSl_tup, dSl_lst, dSl_scr, dSl_str, dIx_tup, dIx_lst, dIx_str, dIn, dNotInS_tup, dNotInS_lst, dEq, dNe, dIsN, dNotN, dMin2, dRev_lst, dJoin_lst, dJoin_tup, oraGet_left, oraGet_seed, oraGet_spot, oraGet_cells, oraPut_left, oraPut_seed, oraPut_spot, Option.map, Option.or, Option.bind, Option.isSome_some, Option.isSome_none, id, List.map_cons, List.map_nil, List.length_cons, List.length_nil, List.length_map, List.length_append, List.replicate, List.cons_append, List.nil_append, List.append_assoc, List.getElem?_cons_zero, List.getElem?_cons_succ, List.set_cons_zero, List.set_cons_succ, List.getD_cons_zero, List.getD_cons_succ, decide_true, decide_false, if_true, if_false, ite_true, ite_false, ↓reduceIte, reduceCtorEq, Nat.reduceAdd, Nat.reduceSub, Nat.reduceLT, Nat.reduceLeDiff, Nat.reduceEqDiff, Nat.zero_add, true_and, and_true, Bool.not_true, Bool.not_false, imp_self, Bool.true_and, Bool.and_true, Bool.false_eq_true, decide_eq_true_eq, forall_const, implies_true, List.mem_cons, List.not_mem_nil, or_false, forall_eq_or_imp, forall_eq, false_implies, eq_self, eqB_int, Int.cast_ofNat_Int, Int.natCast_add, Int.natCast_one, Int.reduceAdd, Int.reduceSub, Int.reduceLT, Int.reduceLE, Int.reduceEq, Int.reduceNeg, Bool.and_false, Bool.false_and, Bool.or_true, Bool.true_or, Bool.or_false, Bool.false_or, isT_tup_tup, e1, e2, dAll, blsOf, List.all_cons, List.all_nil]
theorem is_step_two {w x : Str} {fs : List Str} {d : D} (o : Option Ora) (hd : Sq d (sD fs)) (hw : w ∈ k_WORDS) (hx : x ∈ fs) (hf : okW fs) : F_is_step [wT [w, x], d] o = .ok (.bl true) o := by
  have e1 := isT_strs [w, x] (.im d) o is_step_e1 (fun x hx => by simp only [is_step_e1, sSeq, sIf, bE, bR, bS, cTest, cOp, cOra, sOraP, oraPd, cC, cCall, cCons, cNil, cTup, cLst, cStar, itemsD_tup, itemsD_lst, cUn, cSl, cPart, cNoPart, cNot, cAnd, cOr, cChain, cAndV, cOrV, cNotV, cIf, cYes_ap, sSet, sRet, sRetN, sPass, sDrop, sPar, osCons, osNil, oIm, oLst, oList, setS, cVar, oR, gR, gd, fnD, fnR, fnC, cFn, cMk, cM1, cGive, cOpO, cOpOL, cCallO, cPopAt, popD, sApp, appD, sRem, ownL, sIfW, ifW, sTgt, tgName_ap, tgTup_ap, tgsCons_ap, tgsNil_ap, tgStar_ap, cSeqI, seqD_tup, seqD_lst, seqD_str, cRng1, rngD, cEnum, seqE_tup, seqE_lst, sFor, cLc, Env.set, Env.wipe, Env.back, wipeS, backS, iSeq, iEnd, iEndS, iTwo, iTwoS, isSelf, fnI, bSeq, bRet, fnB, cCallV, cMeth, sMatch, sBeg, sBegPar, sForF, env0, scO, DL.scal, atD_ins, isC_ins, dAdd, dSub, dMod, dMul, dFdiv, dPow, dLt, dLe, dGt, dGe, onI, onIc, addS, addT, addL, dInt, dLen_tup, dLen_lst, dLen_scr, dLen_str, dTuple_tup, dTuple_lst, dList_tup, dList_lst, dSl_tup, dSl_lst, dSl_scr, dSl_str, dIx_tup, dIx_lst, dIx_str, dIn, dNotInS_tup, dNotInS_lst, dEq, dNe, dIsN, dNotN, dMin2, dRev_lst, dJoin_lst, dJoin_tup, oraGet_left, oraGet_seed, oraGet_spot, oraGet_cells, oraPut_left, oraPut_seed, oraPut_spot, Option.map, Option.or, Option.bind, Option.isSome_some, Option.isSome_none, id, List.map_cons, List.map_nil, List.length_cons, List.length_nil, List.length_map, List.length_append, List.replicate, List.cons_append, List.nil_append, List.append_assoc, List.getElem?_cons_zero, List.getElem?_cons_succ, List.set_cons_zero, List.set_cons_succ, List.getD_cons_zero, List.getD_cons_succ, decide_true, decide_false, if_true, if_false, ite_true, ite_false, ↓reduceIte, reduceCtorEq, Nat.reduceAdd, Nat.reduceSub, Nat.reduceLT, Nat.reduceLeDiff, Nat.reduceEqDiff, Nat.zero_add, true_and, and_true, Bool.not_true, Bool.not_false, imp_self, Bool.true_and, Bool.and_true, Bool.false_eq_true, decide_eq_true_eq, forall_const, implies_true, List.mem_cons, List.not_mem_nil, or_false, forall_eq_or_imp, forall_eq, false_implies, eq_self, eqB_int, Int.cast_ofNat_Int, Int.natCast_add, Int.natCast_one, Int.reduceAdd, Int.reduceSub, Int.reduceLT, Int.reduceLE, Int.reduceEq, Int.reduceNeg, Bool.and_false, Bool.false_and, Bool.or_true, Bool.true_or, Bool.or_false, Bool.false_or, isT_str_str]) (by simp)
  have e2 := eqB_tupS (a := [w, x]) (b := k_TICK) (by
    intro y hy; simp at hy; rcases hy with rfl | rfl
    · exact okK_WORDS _ hw
    · exact hf _ hx) okK_TICK
  have e3 : ¬ ([w, x] : List Str) = k_TICK := by intro h; have := congrArg List.length h; simp [k_TICK] at this
  rw [decide_eq_false e3] at e2
  have e4 : L2.atI [D.str w, D.str x] 0 = some (.str w) := rfl
  have e5 : L2.atI [D.str w, D.str x] 1 = some (.str x) := rfl
  have e6 := inB_tupS (okK_WORDS w hw) okK_WORDS
  have e7 := hd.inS (hf x hx) hf
  simp only [wT, sD, List.map_cons, List.map_nil] at e1 e2 e6
  simp only [F_is_step, N_is_step, B_is_step, wT, sD, sSeq, sIf, bE, bR, bS, cTest, cOp, cOra, sOraP, oraPd, cC, cCall, cCons, cNil, cTup, cLst, cStar, itemsD_tup, itemsD_lst, cUn, cSl, cPart, cNoPart, cNot, cAnd, cOr, cChain, cAndV, cOrV, cNotV, cIf, cYes_ap, sSet, sRet, sRetN, sPass, sDrop, sPar, osCons, osNil, oIm, oLst, oList, setS, cVar, oR, gR, gd, fnD, fnR, fnC, cFn, cMk, cM1, cGive, cOpO, cOpOL, cCallO, cPopAt, popD, sApp, appD, sRem, ownL, sIfW, ifW, sTgt, tgName_ap, tgTup_ap, tgsCons_ap, tgsNil_ap, tgStar_ap, cSeqI, seqD_tup, seqD_lst, seqD_str, cRng1, rngD, cEnum, seqE_tup, seqE_lst, sFor, cLc, Env.set, Env.wipe, Env.back, wipeS, backS, iSeq, iEnd, iEndS, iTwo, iTwoS, isSelf, fnI, bSeq, bRet, fnB, cCallV, cMeth, sMatch, sBeg, sBegPar, sForF, env0, scO, DL.scal, atD_ins, isC_ins, dAdd, dSub, dMod, dMul, dFdiv, dPow, dLt, dLe, dGt, dGe, onI, onIc, addS, addT, addL, dInt, dLen_tup, dLen_lst, dLen_scr, dLen_str, dTuple_tup, dTuple_lst, dList_tup, dList_lst, dSl_tup, dSl_lst, dSl_scr, dSl_str, dIx_tup, dIx_lst, dIx_str, dIn, dNotInS_tup, dNotInS_lst, dEq, dNe, dIsN, dNotN, dMin2, dRev_lst, dJoin_lst, dJoin_tup, oraGet_left, oraGet_seed, oraGet_spot, oraGet_cells, oraPut_left, oraPut_seed, oraPut_spot, Option.map, Option.or, Option.bind, Option.isSome_some, Option.isSome_none, id, List.map_cons, List.map_nil, List.length_cons, List.length_nil, List.length_map, List.length_append, List.replicate, List.cons_append, List.nil_append, List.append_assoc, List.getElem?_cons_zero, List.getElem?_cons_succ, List.set_cons_zero, List.set_cons_succ, List.getD_cons_zero, List.getD_cons_succ, decide_true, decide_false, if_true, if_false, ite_true, ite_false, ↓reduceIte, reduceCtorEq, Nat.reduceAdd, Nat.reduceSub, Nat.reduceLT, Nat.reduceLeDiff, Nat.reduceEqDiff, Nat.zero_add, true_and, and_true, Bool.not_true, Bool.not_false, imp_self, Bool.true_and, Bool.and_true, Bool.false_eq_true, decide_eq_true_eq, forall_const, implies_true, List.mem_cons, List.not_mem_nil, or_false, forall_eq_or_imp, forall_eq, false_implies, eq_self, eqB_int, Int.cast_ofNat_Int, Int.natCast_add, Int.natCast_one, Int.reduceAdd, Int.reduceSub, Int.reduceLT, Int.reduceLE, Int.reduceEq, Int.reduceNeg, Bool.and_false, Bool.false_and, Bool.or_true, Bool.true_or, Bool.or_false, Bool.false_or, isT_tup_tup, e1, e2, e4, e5, e6, e7, hw, hx, dAll, blsOf, List.all_cons, List.all_nil]
theorem StepS.is {fs : List Str} {s s1 : LH} {r : List Str} (o : Option Ora) {d : D} (hd : Sq d (sD fs)) (hf : okW fs) (h : StepS fs s r s1) : F_is_step [wT r, d] o = .ok (.bl true) o := by
  cases h with
  | tick => exact is_step_tick o
  | look hx => exact is_step_two o hd (by decide +kernel) hx hf
  | check hx => exact is_step_two o hd (by decide +kernel) hx hf
  | sure hx => exact is_step_two o hd (by decide +kernel) hx hf
  | hold hx => exact is_step_two o hd (by decide +kernel) hx hf
  | free hx => exact is_step_two o hd (by decide +kernel) hx hf
theorem eqB_strF {a b : Str} (ha : okS a) (hb : okS b) (h : a ≠ b) : eqB (.str a) (.str b) = some false := by rw [eqB_str ha hb, decide_eq_false h]
theorem eqB_strT {a : Str} (ha : okS a) : eqB (.str a) (.str a) = some true := by rw [eqB_str ha ha, decide_eq_true rfl]
theorem q_look : eqB (.str "look") (.str "look") = some true := eqB_strT (by decide +kernel)
theorem q_check : eqB (.str "check") (.str "check") = some true := eqB_strT (by decide +kernel)
theorem q_sure : eqB (.str "sure") (.str "sure") = some true := eqB_strT (by decide +kernel)
theorem q_hold : eqB (.str "hold") (.str "hold") = some true := eqB_strT (by decide +kernel)
theorem q_free : eqB (.str "free") (.str "free") = some true := eqB_strT (by decide +kernel)
theorem q_check_look : eqB (.str "check") (.str "look") = some false := eqB_strF (by decide +kernel) (by decide +kernel) (by decide +kernel)
theorem q_sure_look : eqB (.str "sure") (.str "look") = some false := eqB_strF (by decide +kernel) (by decide +kernel) (by decide +kernel)
theorem q_sure_check : eqB (.str "sure") (.str "check") = some false := eqB_strF (by decide +kernel) (by decide +kernel) (by decide +kernel)
theorem q_sure_hold : eqB (.str "sure") (.str "hold") = some false := eqB_strF (by decide +kernel) (by decide +kernel) (by decide +kernel)
theorem q_sure_free : eqB (.str "sure") (.str "free") = some false := eqB_strF (by decide +kernel) (by decide +kernel) (by decide +kernel)
theorem q_check_hold : eqB (.str "check") (.str "hold") = some false := eqB_strF (by decide +kernel) (by decide +kernel) (by decide +kernel)
theorem q_check_free : eqB (.str "check") (.str "free") = some false := eqB_strF (by decide +kernel) (by decide +kernel) (by decide +kernel)
theorem q_hold_look : eqB (.str "hold") (.str "look") = some false := eqB_strF (by decide +kernel) (by decide +kernel) (by decide +kernel)
theorem q_hold_check : eqB (.str "hold") (.str "check") = some false := eqB_strF (by decide +kernel) (by decide +kernel) (by decide +kernel)
theorem q_hold_sure : eqB (.str "hold") (.str "sure") = some false := eqB_strF (by decide +kernel) (by decide +kernel) (by decide +kernel)
theorem q_free_look : eqB (.str "free") (.str "look") = some false := eqB_strF (by decide +kernel) (by decide +kernel) (by decide +kernel)
theorem q_free_check : eqB (.str "free") (.str "check") = some false := eqB_strF (by decide +kernel) (by decide +kernel) (by decide +kernel)
theorem q_free_sure : eqB (.str "free") (.str "sure") = some false := eqB_strF (by decide +kernel) (by decide +kernel) (by decide +kernel)
theorem q_free_hold : eqB (.str "free") (.str "hold") = some false := eqB_strF (by decide +kernel) (by decide +kernel) (by decide +kernel)
theorem lk_folder : List.lookup ("folder" : Str) [(("folder" : Str), 6)] = some 6 := by decide +kernel
/-- one turn of first_bad -/
theorem first_bad_turn {fs : List Str} {rs : List (List Str)} {s s1 : LH} {r : List Str} {S c : Slot} {k : Nat} {o : Option Ora} (hf : okW fs) (ks : okLH fs s) (hl : s.1.length ≤ 1000 ∧ s.2.length ≤ 1000) (h : StepS fs s r s1) :
    ∃ c', first_bad_f1 ⟨[.im (W_ fs rs), S, .ow (.lst (sD s.1)), .ow (.lst (sD s.2)), .im (.int k), .im (wT r), c], o⟩ = .ok (.nx ⟨[.im (W_ fs rs), S, .ow (.lst (sD s1.1)), .ow (.lst (sD s1.2)), .im (.int k), .im (wT r), c'], o⟩) := by
  have e1 := h.is o (d := .tup (sD fs)) (.tup _) hf
  have okl : okW s.1 := fun y hy => hf y (ks.1 y hy)
  have okh : okW s.2 := fun y hy => hf y (ks.2 y hy)
  have z1 : sz s.1.length := Nat.le_trans hl.1 (by decide)
  have z2 : sz s.2.length := Nat.le_trans hl.2 (by decide)
  cases h with
  | tick =>
    refine ⟨c, ?_⟩
    simp only [wT, sD, List.map_cons, List.map_nil, W_] at e1
    simp only [first_bad_f1, W_, wT, sD, sSeq, sIf, bE, bR, bS, cTest, cOp, cOra, sOraP, oraPd, cC, cCall, cCons, cNil, cTup, cLst, cStar, itemsD_tup, itemsD_lst, cUn, cSl, cPart, cNoPart, cNot, cAnd, cOr, cChain, cAndV, cOrV, cNotV, cIf, cYes_ap, sSet, sRet, sRetN, sPass, sDrop, sPar, osCons, osNil, oIm, oLst, oList, setS, cVar, oR, gR, gd, fnD, fnR, fnC, cFn, cMk, cM1, cGive, cOpO, cOpOL, cCallO, cPopAt, popD, sApp, appD, sRem, ownL, sIfW, ifW, sTgt, tgName_ap, tgTup_ap, tgsCons_ap, tgsNil_ap, tgStar_ap, cSeqI, seqD_tup, seqD_lst, seqD_str, cRng1, rngD, cEnum, seqE_tup, seqE_lst, sFor, cLc, Env.set, Env.wipe, Env.back, wipeS, backS, iSeq, iEnd, iEndS, iTwo, iTwoS, isSelf, fnI, bSeq, bRet, fnB, cCallV, cMeth, sMatch, sBeg, sBegPar, sForF, env0, scO, DL.scal, atD_ins, isC_ins, dAdd, dSub, dMod, dMul, dFdiv, dPow, dLt, dLe, dGt, dGe, onI, onIc, addS, addT, addL, dInt, dLen_tup, dLen_lst, dLen_scr, dLen_str, dTuple_tup, dTuple_lst, dList_tup, dList_lst, dSl_tup, dSl_lst, dSl_scr, dSl_str, dIx_tup, dIx_lst, dIx_str, dIn, dNotInS_tup, dNotInS_lst, dEq, dNe, dIsN, dNotN, dMin2, dRev_lst, dJoin_lst, dJoin_tup, oraGet_left, oraGet_seed, oraGet_spot, oraGet_cells, oraPut_left, oraPut_seed, oraPut_spot, Option.map, Option.or, Option.bind, Option.isSome_some, Option.isSome_none, id, List.map_cons, List.map_nil, List.length_cons, List.length_nil, List.length_map, List.length_append, List.replicate, List.cons_append, List.nil_append, List.append_assoc, List.getElem?_cons_zero, List.getElem?_cons_succ, List.set_cons_zero, List.set_cons_succ, List.getD_cons_zero, List.getD_cons_succ, decide_true, decide_false, if_true, if_false, ite_true, ite_false, ↓reduceIte, reduceCtorEq, Nat.reduceAdd, Nat.reduceSub, Nat.reduceLT, Nat.reduceLeDiff, Nat.reduceEqDiff, Nat.zero_add, true_and, and_true, Bool.not_true, Bool.not_false, imp_self, Bool.true_and, Bool.and_true, Bool.false_eq_true, decide_eq_true_eq, forall_const, implies_true, List.mem_cons, List.not_mem_nil, or_false, forall_eq_or_imp, forall_eq, false_implies, eq_self, eqB_int, Int.cast_ofNat_Int, Int.natCast_add, Int.natCast_one, Int.reduceAdd, Int.reduceSub, Int.reduceLT, Int.reduceLE, Int.reduceEq, Int.reduceNeg, Bool.and_false, Bool.false_and, Bool.or_true, Bool.true_or, Bool.or_false, Bool.false_or, mCase, pSeq, at_folders_W, e1]
  | look hx =>
    rename_i x
    refine ⟨.im (.str x), ?_⟩
    simp only [wT, sD, List.map_cons, List.map_nil, W_] at e1
    simp only [first_bad_f1, W_, wT, sD, sSeq, sIf, bE, bR, bS, cTest, cOp, cOra, sOraP, oraPd, cC, cCall, cCons, cNil, cTup, cLst, cStar, itemsD_tup, itemsD_lst, cUn, cSl, cPart, cNoPart, cNot, cAnd, cOr, cChain, cAndV, cOrV, cNotV, cIf, cYes_ap, sSet, sRet, sRetN, sPass, sDrop, sPar, osCons, osNil, oIm, oLst, oList, setS, cVar, oR, gR, gd, fnD, fnR, fnC, cFn, cMk, cM1, cGive, cOpO, cOpOL, cCallO, cPopAt, popD, sApp, appD, sRem, ownL, sIfW, ifW, sTgt, tgName_ap, tgTup_ap, tgsCons_ap, tgsNil_ap, tgStar_ap, cSeqI, seqD_tup, seqD_lst, seqD_str, cRng1, rngD, cEnum, seqE_tup, seqE_lst, sFor, cLc, Env.set, Env.wipe, Env.back, wipeS, backS, iSeq, iEnd, iEndS, iTwo, iTwoS, isSelf, fnI, bSeq, bRet, fnB, cCallV, cMeth, sMatch, sBeg, sBegPar, sForF, env0, scO, DL.scal, atD_ins, isC_ins, dAdd, dSub, dMod, dMul, dFdiv, dPow, dLt, dLe, dGt, dGe, onI, onIc, addS, addT, addL, dInt, dLen_tup, dLen_lst, dLen_scr, dLen_str, dTuple_tup, dTuple_lst, dList_tup, dList_lst, dSl_tup, dSl_lst, dSl_scr, dSl_str, dIx_tup, dIx_lst, dIx_str, dIn, dNotInS_tup, dNotInS_lst, dEq, dNe, dIsN, dNotN, dMin2, dRev_lst, dJoin_lst, dJoin_tup, oraGet_left, oraGet_seed, oraGet_spot, oraGet_cells, oraPut_left, oraPut_seed, oraPut_spot, Option.map, Option.or, Option.bind, Option.isSome_some, Option.isSome_none, id, List.map_cons, List.map_nil, List.length_cons, List.length_nil, List.length_map, List.length_append, List.replicate, List.cons_append, List.nil_append, List.append_assoc, List.getElem?_cons_zero, List.getElem?_cons_succ, List.set_cons_zero, List.set_cons_succ, List.getD_cons_zero, List.getD_cons_succ, decide_true, decide_false, if_true, if_false, ite_true, ite_false, ↓reduceIte, reduceCtorEq, Nat.reduceAdd, Nat.reduceSub, Nat.reduceLT, Nat.reduceLeDiff, Nat.reduceEqDiff, Nat.zero_add, true_and, and_true, Bool.not_true, Bool.not_false, imp_self, Bool.true_and, Bool.and_true, Bool.false_eq_true, decide_eq_true_eq, forall_const, implies_true, List.mem_cons, List.not_mem_nil, or_false, forall_eq_or_imp, forall_eq, false_implies, eq_self, eqB_int, Int.cast_ofNat_Int, Int.natCast_add, Int.natCast_one, Int.reduceAdd, Int.reduceSub, Int.reduceLT, Int.reduceLE, Int.reduceEq, Int.reduceNeg, Bool.and_false, Bool.false_and, Bool.or_true, Bool.true_or, Bool.or_false, Bool.false_or, mCase, pSeq, psCons, psNil, pVal, pOr, poCons, bindS, lk_folder, at_folders_W, e1, q_look, z1, List.map_append]
  | check hx hl =>
    rename_i x
    refine ⟨.im (.str x), ?_⟩
    have e2 := inB_lstS (hf x hx) okl
    simp only [wT, sD, List.map_cons, List.map_nil, W_] at e1 e2
    simp only [first_bad_f1, W_, wT, sD, sSeq, sIf, bE, bR, bS, cTest, cOp, cOra, sOraP, oraPd, cC, cCall, cCons, cNil, cTup, cLst, cStar, itemsD_tup, itemsD_lst, cUn, cSl, cPart, cNoPart, cNot, cAnd, cOr, cChain, cAndV, cOrV, cNotV, cIf, cYes_ap, sSet, sRet, sRetN, sPass, sDrop, sPar, osCons, osNil, oIm, oLst, oList, setS, cVar, oR, gR, gd, fnD, fnR, fnC, cFn, cMk, cM1, cGive, cOpO, cOpOL, cCallO, cPopAt, popD, sApp, appD, sRem, ownL, sIfW, ifW, sTgt, tgName_ap, tgTup_ap, tgsCons_ap, tgsNil_ap, tgStar_ap, cSeqI, seqD_tup, seqD_lst, seqD_str, cRng1, rngD, cEnum, seqE_tup, seqE_lst, sFor, cLc, Env.set, Env.wipe, Env.back, wipeS, backS, iSeq, iEnd, iEndS, iTwo, iTwoS, isSelf, fnI, bSeq, bRet, fnB, cCallV, cMeth, sMatch, sBeg, sBegPar, sForF, env0, scO, DL.scal, atD_ins, isC_ins, dAdd, dSub, dMod, dMul, dFdiv, dPow, dLt, dLe, dGt, dGe, onI, onIc, addS, addT, addL, dInt, dLen_tup, dLen_lst, dLen_scr, dLen_str, dTuple_tup, dTuple_lst, dList_tup, dList_lst, dSl_tup, dSl_lst, dSl_scr, dSl_str, dIx_tup, dIx_lst, dIx_str, dIn, dNotInS_tup, dNotInS_lst, dEq, dNe, dIsN, dNotN, dMin2, dRev_lst, dJoin_lst, dJoin_tup, oraGet_left, oraGet_seed, oraGet_spot, oraGet_cells, oraPut_left, oraPut_seed, oraPut_spot, Option.map, Option.or, Option.bind, Option.isSome_some, Option.isSome_none, id, List.map_cons, List.map_nil, List.length_cons, List.length_nil, List.length_map, List.length_append, List.replicate, List.cons_append, List.nil_append, List.append_assoc, List.getElem?_cons_zero, List.getElem?_cons_succ, List.set_cons_zero, List.set_cons_succ, List.getD_cons_zero, List.getD_cons_succ, decide_true, decide_false, if_true, if_false, ite_true, ite_false, ↓reduceIte, reduceCtorEq, Nat.reduceAdd, Nat.reduceSub, Nat.reduceLT, Nat.reduceLeDiff, Nat.reduceEqDiff, Nat.zero_add, true_and, and_true, Bool.not_true, Bool.not_false, imp_self, Bool.true_and, Bool.and_true, Bool.false_eq_true, decide_eq_true_eq, forall_const, implies_true, List.mem_cons, List.not_mem_nil, or_false, forall_eq_or_imp, forall_eq, false_implies, eq_self, eqB_int, Int.cast_ofNat_Int, Int.natCast_add, Int.natCast_one, Int.reduceAdd, Int.reduceSub, Int.reduceLT, Int.reduceLE, Int.reduceEq, Int.reduceNeg, Bool.and_false, Bool.false_and, Bool.or_true, Bool.true_or, Bool.or_false, Bool.false_or, mCase, pSeq, psCons, psNil, pVal, pOr, poCons, bindS, lk_folder, at_folders_W, e1, e2, hl, q_check, q_check_look, q_check_hold, q_check_free]
  | sure hx hl =>
    rename_i x
    refine ⟨.im (.str x), ?_⟩
    have e2 := inB_lstS (hf x hx) okl
    simp only [wT, sD, List.map_cons, List.map_nil, W_] at e1 e2
    simp only [first_bad_f1, W_, wT, sD, sSeq, sIf, bE, bR, bS, cTest, cOp, cOra, sOraP, oraPd, cC, cCall, cCons, cNil, cTup, cLst, cStar, itemsD_tup, itemsD_lst, cUn, cSl, cPart, cNoPart, cNot, cAnd, cOr, cChain, cAndV, cOrV, cNotV, cIf, cYes_ap, sSet, sRet, sRetN, sPass, sDrop, sPar, osCons, osNil, oIm, oLst, oList, setS, cVar, oR, gR, gd, fnD, fnR, fnC, cFn, cMk, cM1, cGive, cOpO, cOpOL, cCallO, cPopAt, popD, sApp, appD, sRem, ownL, sIfW, ifW, sTgt, tgName_ap, tgTup_ap, tgsCons_ap, tgsNil_ap, tgStar_ap, cSeqI, seqD_tup, seqD_lst, seqD_str, cRng1, rngD, cEnum, seqE_tup, seqE_lst, sFor, cLc, Env.set, Env.wipe, Env.back, wipeS, backS, iSeq, iEnd, iEndS, iTwo, iTwoS, isSelf, fnI, bSeq, bRet, fnB, cCallV, cMeth, sMatch, sBeg, sBegPar, sForF, env0, scO, DL.scal, atD_ins, isC_ins, dAdd, dSub, dMod, dMul, dFdiv, dPow, dLt, dLe, dGt, dGe, onI, onIc, addS, addT, addL, dInt, dLen_tup, dLen_lst, dLen_scr, dLen_str, dTuple_tup, dTuple_lst, dList_tup, dList_lst, dSl_tup, dSl_lst, dSl_scr, dSl_str, dIx_tup, dIx_lst, dIx_str, dIn, dNotInS_tup, dNotInS_lst, dEq, dNe, dIsN, dNotN, dMin2, dRev_lst, dJoin_lst, dJoin_tup, oraGet_left, oraGet_seed, oraGet_spot, oraGet_cells, oraPut_left, oraPut_seed, oraPut_spot, Option.map, Option.or, Option.bind, Option.isSome_some, Option.isSome_none, id, List.map_cons, List.map_nil, List.length_cons, List.length_nil, List.length_map, List.length_append, List.replicate, List.cons_append, List.nil_append, List.append_assoc, List.getElem?_cons_zero, List.getElem?_cons_succ, List.set_cons_zero, List.set_cons_succ, List.getD_cons_zero, List.getD_cons_succ, decide_true, decide_false, if_true, if_false, ite_true, ite_false, ↓reduceIte, reduceCtorEq, Nat.reduceAdd, Nat.reduceSub, Nat.reduceLT, Nat.reduceLeDiff, Nat.reduceEqDiff, Nat.zero_add, true_and, and_true, Bool.not_true, Bool.not_false, imp_self, Bool.true_and, Bool.and_true, Bool.false_eq_true, decide_eq_true_eq, forall_const, implies_true, List.mem_cons, List.not_mem_nil, or_false, forall_eq_or_imp, forall_eq, false_implies, eq_self, eqB_int, Int.cast_ofNat_Int, Int.natCast_add, Int.natCast_one, Int.reduceAdd, Int.reduceSub, Int.reduceLT, Int.reduceLE, Int.reduceEq, Int.reduceNeg, Bool.and_false, Bool.false_and, Bool.or_true, Bool.true_or, Bool.or_false, Bool.false_or, mCase, pSeq, psCons, psNil, pVal, pOr, poCons, bindS, lk_folder, at_folders_W, e1, e2, hl, q_sure, q_sure_look, q_sure_check, q_sure_hold, q_sure_free]
  | hold hx hl =>
    rename_i x
    refine ⟨.im (.str x), ?_⟩
    have e2 := inB_lstS (hf x hx) okh
    simp only [wT, sD, List.map_cons, List.map_nil, W_] at e1 e2
    simp only [first_bad_f1, W_, wT, sD, sSeq, sIf, bE, bR, bS, cTest, cOp, cOra, sOraP, oraPd, cC, cCall, cCons, cNil, cTup, cLst, cStar, itemsD_tup, itemsD_lst, cUn, cSl, cPart, cNoPart, cNot, cAnd, cOr, cChain, cAndV, cOrV, cNotV, cIf, cYes_ap, sSet, sRet, sRetN, sPass, sDrop, sPar, osCons, osNil, oIm, oLst, oList, setS, cVar, oR, gR, gd, fnD, fnR, fnC, cFn, cMk, cM1, cGive, cOpO, cOpOL, cCallO, cPopAt, popD, sApp, appD, sRem, ownL, sIfW, ifW, sTgt, tgName_ap, tgTup_ap, tgsCons_ap, tgsNil_ap, tgStar_ap, cSeqI, seqD_tup, seqD_lst, seqD_str, cRng1, rngD, cEnum, seqE_tup, seqE_lst, sFor, cLc, Env.set, Env.wipe, Env.back, wipeS, backS, iSeq, iEnd, iEndS, iTwo, iTwoS, isSelf, fnI, bSeq, bRet, fnB, cCallV, cMeth, sMatch, sBeg, sBegPar, sForF, env0, scO, DL.scal, atD_ins, isC_ins, dAdd, dSub, dMod, dMul, dFdiv, dPow, dLt, dLe, dGt, dGe, onI, onIc, addS, addT, addL, dInt, dLen_tup, dLen_lst, dLen_scr, dLen_str, dTuple_tup, dTuple_lst, dList_tup, dList_lst, dSl_tup, dSl_lst, dSl_scr, dSl_str, dIx_tup, dIx_lst, dIx_str, dIn, dNotInS_tup, dNotInS_lst, dEq, dNe, dIsN, dNotN, dMin2, dRev_lst, dJoin_lst, dJoin_tup, oraGet_left, oraGet_seed, oraGet_spot, oraGet_cells, oraPut_left, oraPut_seed, oraPut_spot, Option.map, Option.or, Option.bind, Option.isSome_some, Option.isSome_none, id, List.map_cons, List.map_nil, List.length_cons, List.length_nil, List.length_map, List.length_append, List.replicate, List.cons_append, List.nil_append, List.append_assoc, List.getElem?_cons_zero, List.getElem?_cons_succ, List.set_cons_zero, List.set_cons_succ, List.getD_cons_zero, List.getD_cons_succ, decide_true, decide_false, if_true, if_false, ite_true, ite_false, ↓reduceIte, reduceCtorEq, Nat.reduceAdd, Nat.reduceSub, Nat.reduceLT, Nat.reduceLeDiff, Nat.reduceEqDiff, Nat.zero_add, true_and, and_true, Bool.not_true, Bool.not_false, imp_self, Bool.true_and, Bool.and_true, Bool.false_eq_true, decide_eq_true_eq, forall_const, implies_true, List.mem_cons, List.not_mem_nil, or_false, forall_eq_or_imp, forall_eq, false_implies, eq_self, eqB_int, Int.cast_ofNat_Int, Int.natCast_add, Int.natCast_one, Int.reduceAdd, Int.reduceSub, Int.reduceLT, Int.reduceLE, Int.reduceEq, Int.reduceNeg, Bool.and_false, Bool.false_and, Bool.or_true, Bool.true_or, Bool.or_false, Bool.false_or, mCase, pSeq, psCons, psNil, pVal, pOr, poCons, bindS, lk_folder, at_folders_W, e1, e2, hl, z2, q_hold, q_hold_look, q_hold_check, q_hold_sure, List.map_append]
  | free hx hl hj =>
    rename_i x j
    refine ⟨.im (.str x), ?_⟩
    have e2 := inB_lstS (hf x hx) okh
    have e3 := strsOf_strs s.2
    simp only [wT, sD, List.map_cons, List.map_nil, W_] at e1 e2 e3
    simp only [first_bad_f1, W_, wT, sD, sSeq, sIf, bE, bR, bS, cTest, cOp, cOra, sOraP, oraPd, cC, cCall, cCons, cNil, cTup, cLst, cStar, itemsD_tup, itemsD_lst, cUn, cSl, cPart, cNoPart, cNot, cAnd, cOr, cChain, cAndV, cOrV, cNotV, cIf, cYes_ap, sSet, sRet, sRetN, sPass, sDrop, sPar, osCons, osNil, oIm, oLst, oList, setS, cVar, oR, gR, gd, fnD, fnR, fnC, cFn, cMk, cM1, cGive, cOpO, cOpOL, cCallO, cPopAt, popD, sApp, appD, sRem, ownL, sIfW, ifW, sTgt, tgName_ap, tgTup_ap, tgsCons_ap, tgsNil_ap, tgStar_ap, cSeqI, seqD_tup, seqD_lst, seqD_str, cRng1, rngD, cEnum, seqE_tup, seqE_lst, sFor, cLc, Env.set, Env.wipe, Env.back, wipeS, backS, iSeq, iEnd, iEndS, iTwo, iTwoS, isSelf, fnI, bSeq, bRet, fnB, cCallV, cMeth, sMatch, sBeg, sBegPar, sForF, env0, scO, DL.scal, atD_ins, isC_ins, dAdd, dSub, dMod, dMul, dFdiv, dPow, dLt, dLe, dGt, dGe, onI, onIc, addS, addT, addL, dInt, dLen_tup, dLen_lst, dLen_scr, dLen_str, dTuple_tup, dTuple_lst, dList_tup, dList_lst, dSl_tup, dSl_lst, dSl_scr, dSl_str, dIx_tup, dIx_lst, dIx_str, dIn, dNotInS_tup, dNotInS_lst, dEq, dNe, dIsN, dNotN, dMin2, dRev_lst, dJoin_lst, dJoin_tup, oraGet_left, oraGet_seed, oraGet_spot, oraGet_cells, oraPut_left, oraPut_seed, oraPut_spot, Option.map, Option.or, Option.bind, Option.isSome_some, Option.isSome_none, id, List.map_cons, List.map_nil, List.length_cons, List.length_nil, List.length_map, List.length_append, List.replicate, List.cons_append, List.nil_append, List.append_assoc, List.getElem?_cons_zero, List.getElem?_cons_succ, List.set_cons_zero, List.set_cons_succ, List.getD_cons_zero, List.getD_cons_succ, decide_true, decide_false, if_true, if_false, ite_true, ite_false, ↓reduceIte, reduceCtorEq, Nat.reduceAdd, Nat.reduceSub, Nat.reduceLT, Nat.reduceLeDiff, Nat.reduceEqDiff, Nat.zero_add, true_and, and_true, Bool.not_true, Bool.not_false, imp_self, Bool.true_and, Bool.and_true, Bool.false_eq_true, decide_eq_true_eq, forall_const, implies_true, List.mem_cons, List.not_mem_nil, or_false, forall_eq_or_imp, forall_eq, false_implies, eq_self, eqB_int, Int.cast_ofNat_Int, Int.natCast_add, Int.natCast_one, Int.reduceAdd, Int.reduceSub, Int.reduceLT, Int.reduceLE, Int.reduceEq, Int.reduceNeg, Bool.and_false, Bool.false_and, Bool.or_true, Bool.true_or, Bool.or_false, Bool.false_or, mCase, pSeq, psCons, psNil, pVal, pOr, poCons, bindS, lk_folder, at_folders_W, e1, e2, e3, hl, hj, remD, q_free, q_free_look, q_free_check, q_free_sure, q_free_hold]
end LW

set_option Elab.async false
set_option linter.all false
set_option maxRecDepth 100000
set_option maxHeartbeats 4000000
namespace LW
open PySem DL
theorem StepS.len {fs : List Str} {s s1 : LH} {r : List Str} (h : StepS fs s r s1) : s1.1.length ≤ s.1.length + 1 ∧ s1.2.length ≤ s.2.length + 1 := by
  cases h with
  | tick => exact ⟨by omega, by omega⟩
  | look hx => exact ⟨by simp, by simp⟩
  | check => exact ⟨by omega, by omega⟩
  | sure => exact ⟨by omega, by omega⟩
  | hold hx _ => exact ⟨by simp, by simp⟩
  | free _ _ _ =>
    rename_i x j _ _ _
    refine ⟨by simp, ?_⟩
    have := List.length_eraseIdx_le s.2 j
    show (s.2.eraseIdx j).length ≤ _
    omega
theorem first_bad_run {fs : List Str} {rs0 : List (List Str)} {S : Slot} {o : Option Ora} (hf : okW fs) : ∀ {s s1 : LH} {rs : List (List Str)}, RunS fs s rs s1 → okLH fs s → (s.1.length + rs.length ≤ 1000 ∧ s.2.length + rs.length ≤ 1000) → ∀ (k : Nat) (a b c : Slot), ∃ a' b' c',
    forD (tgTup 2 (tgsCons (tgName 4) (tgsCons (tgName 5) tgsNil))) first_bad_f1 ((rs.zipIdx k).map fun p : List Str × Nat => D.tup [.int (p.2 : Nat), wT p.1]) ⟨[.im (W_ fs rs0), S, .ow (.lst (sD s.1)), .ow (.lst (sD s.2)), a, b, c], o⟩ = .ok (.nx ⟨[.im (W_ fs rs0), S, .ow (.lst (sD s1.1)), .ow (.lst (sD s1.2)), a', b', c'], o⟩)
  | _, _, _, .nil _, _, _, k, a, b, c => ⟨a, b, c, rfl⟩
  | s, s2, _, .cons (s1 := s1) (r := r) (rs := rs) h t, ks, hl, k, a, b, c => by
    simp only [List.length_cons] at hl
    obtain ⟨c', e⟩ := first_bad_turn (rs := rs0) (S := S) (c := c) (k := k) (o := o) hf ks ⟨by omega, by omega⟩ h
    have hs := h.len
    obtain ⟨a2, b2, c2, e2⟩ := first_bad_run (rs0 := rs0) (S := S) (o := o) hf t (h.okLH ks) ⟨by omega, by omega⟩ (k + 1) (.im (.int k)) (.im (wT r)) c'
    refine ⟨a2, b2, c2, ?_⟩
    rw [List.zipIdx_cons, List.map_cons]
    simp only [forD, sSeq, sIf, bE, bR, bS, cTest, cOp, cOra, sOraP, oraPd, cC, cCall, cCons, cNil, cTup, cLst, cStar, itemsD_tup, itemsD_lst, cUn, cSl, cPart, cNoPart, cNot, cAnd, cOr, cChain, cAndV, cOrV, cNotV, cIf, cYes_ap, sSet, sRet, sRetN, sPass, sDrop, sPar, osCons, osNil, oIm, oLst, oList, setS, cVar, oR, gR, gd, fnD, fnR, fnC, cFn, cMk, cM1, cGive, cOpO, cOpOL, cCallO, cPopAt, popD, sApp, appD, sRem, ownL, sIfW, ifW, sTgt, tgName_ap, tgTup_ap, tgsCons_ap, tgsNil_ap, tgStar_ap, cSeqI, seqD_tup, seqD_lst, seqD_str, cRng1, rngD, cEnum, seqE_tup, seqE_lst, sFor, cLc, Env.set, Env.wipe, Env.back, wipeS, backS, iSeq, iEnd, iEndS, iTwo, iTwoS, isSelf, fnI, bSeq, bRet, fnB, cCallV, cMeth, sMatch, sBeg, sBegPar, sForF, env0, scO, DL.scal, atD_ins, isC_ins, dAdd, dSub, dMod, dMul, dFdiv, dPow, dLt, dLe, dGt, dGe, onI, onIc, addS, addT, addL, dInt, dLen_tup, dLen_lst, dLen_scr, dLen_str, dTuple_tup, dTuple_lst, dList_tup, dList_lst, dSl_tup, dSl_lst, dSl_scr, dSl_str, dIx_tup, dIx_lst, dIx_str, dIn, dNotInS_tup, dNotInS_lst, dEq, dNe, dIsN, dNotN, dMin2, dRev_lst, dJoin_lst, dJoin_tup, oraGet_left, oraGet_seed, oraGet_spot, oraGet_cells, oraPut_left, oraPut_seed, oraPut_spot, Option.map, Option.or, Option.bind, Option.isSome_some, Option.isSome_none, id, List.map_cons, List.map_nil, List.length_cons, List.length_nil, List.length_map, List.length_append, List.replicate, List.cons_append, List.nil_append, List.append_assoc, List.getElem?_cons_zero, List.getElem?_cons_succ, List.set_cons_zero, List.set_cons_succ, List.getD_cons_zero, List.getD_cons_succ, decide_true, decide_false, if_true, if_false, ite_true, ite_false, ↓reduceIte, reduceCtorEq, Nat.reduceAdd, Nat.reduceSub, Nat.reduceLT, Nat.reduceLeDiff, Nat.reduceEqDiff, Nat.zero_add, true_and, and_true, Bool.not_true, Bool.not_false, imp_self, Bool.true_and, Bool.and_true, Bool.false_eq_true, decide_eq_true_eq, forall_const, implies_true, List.mem_cons, List.not_mem_nil, or_false, forall_eq_or_imp, forall_eq, false_implies, eq_self, eqB_int, Int.cast_ofNat_Int, Int.natCast_add, Int.natCast_one, Int.reduceAdd, Int.reduceSub, Int.reduceLT, Int.reduceLE, Int.reduceEq, Int.reduceNeg, Bool.and_false, Bool.false_and, Bool.or_true, Bool.true_or, Bool.or_false, Bool.false_or, e]
    exact e2
theorem first_bad {fs : List Str} {rs0 rs : List (List Str)} {d : D} {s1 : LH} (o : Option Ora) (hd : Sq d (rD rs)) (hf : okW fs) (hl : rs.length ≤ 500) (h : RunS fs ([], []) rs s1) : F_first_bad [W_ fs rs0, d] o = .ok .non o := by
  obtain ⟨a, b, c, e⟩ := first_bad_run (rs0 := rs0) (S := .im d) (o := o) hf h ⟨by simp, by simp⟩ ⟨by simp; omega, by simp; omega⟩ 0 .no .no .no
  simp only [List.map_nil] at e
  have z : sz 0 := by decide
  simp only [F_first_bad, N_first_bad, B_first_bad, sSeq, sIf, bE, bR, bS, cTest, cOp, cOra, sOraP, oraPd, cC, cCall, cCons, cNil, cTup, cLst, cStar, itemsD_tup, itemsD_lst, cUn, cSl, cPart, cNoPart, cNot, cAnd, cOr, cChain, cAndV, cOrV, cNotV, cIf, cYes_ap, sSet, sRet, sRetN, sPass, sDrop, sPar, osCons, osNil, oIm, oLst, oList, setS, cVar, oR, gR, gd, fnD, fnR, fnC, cFn, cMk, cM1, cGive, cOpO, cOpOL, cCallO, cPopAt, popD, sApp, appD, sRem, ownL, sIfW, ifW, sTgt, tgName_ap, tgTup_ap, tgsCons_ap, tgsNil_ap, tgStar_ap, cSeqI, seqD_tup, seqD_lst, seqD_str, cRng1, rngD, cEnum, seqE_tup, seqE_lst, sFor, cLc, Env.set, Env.wipe, Env.back, wipeS, backS, iSeq, iEnd, iEndS, iTwo, iTwoS, isSelf, fnI, bSeq, bRet, fnB, cCallV, cMeth, sMatch, sBeg, sBegPar, sForF, env0, scO, DL.scal, atD_ins, isC_ins, dAdd, dSub, dMod, dMul, dFdiv, dPow, dLt, dLe, dGt, dGe, onI, onIc, addS, addT, addL, dInt, dLen_tup, dLen_lst, dLen_scr, dLen_str, dTuple_tup, dTuple_lst, dList_tup, dList_lst, dSl_tup, dSl_lst, dSl_scr, dSl_str, dIx_tup, dIx_lst, dIx_str, dIn, dNotInS_tup, dNotInS_lst, dEq, dNe, dIsN, dNotN, dMin2, dRev_lst, dJoin_lst, dJoin_tup, oraGet_left, oraGet_seed, oraGet_spot, oraGet_cells, oraPut_left, oraPut_seed, oraPut_spot, Option.map, Option.or, Option.bind, Option.isSome_some, Option.isSome_none, id, List.map_cons, List.map_nil, List.length_cons, List.length_nil, List.length_map, List.length_append, List.replicate, List.cons_append, List.nil_append, List.append_assoc, List.getElem?_cons_zero, List.getElem?_cons_succ, List.set_cons_zero, List.set_cons_succ, List.getD_cons_zero, List.getD_cons_succ, decide_true, decide_false, if_true, if_false, ite_true, ite_false, ↓reduceIte, reduceCtorEq, Nat.reduceAdd, Nat.reduceSub, Nat.reduceLT, Nat.reduceLeDiff, Nat.reduceEqDiff, Nat.zero_add, true_and, and_true, Bool.not_true, Bool.not_false, imp_self, Bool.true_and, Bool.and_true, Bool.false_eq_true, decide_eq_true_eq, forall_const, implies_true, List.mem_cons, List.not_mem_nil, or_false, forall_eq_or_imp, forall_eq, false_implies, eq_self, eqB_int, Int.cast_ofNat_Int, Int.natCast_add, Int.natCast_one, Int.reduceAdd, Int.reduceSub, Int.reduceLT, Int.reduceLE, Int.reduceEq, Int.reduceNeg, Bool.and_false, Bool.false_and, Bool.or_true, Bool.true_or, Bool.or_false, Bool.false_or, z, hd.enum, enumL_map, e]
theorem okS_look : okS "look" := by decide +kernel
theorem head_look {r : List Str} (hr : Row r) (k : Nat) : ∃ w, r[0]? = some w ∧ L2.atI (sD r) 0 = some (.str w) ∧ okS w := by
  obtain ⟨w, t, rfl⟩ := List.exists_cons_of_ne_nil hr.ne
  refine ⟨w, rfl, ?_, hr.ok w (by simp)⟩
  obtain ⟨x, h1, _, h2⟩ := atI_at (l := sD (w :: t)) (i := 0) (by decide) (by simp)
  simp at h2
  rw [h1, h2]
def isLook (r : List Str) : Bool := decide (r[0]? = some (Str.ofString "look"))
theorem need_steps {fs : List Str} {rs0 rs : List (List Str)} {d : D} {s1 : LH} (o : Option Ora) (hd : Sq d (rD rs)) (ww : ∀ x ∈ fs, isWord x = true) (ne : rs ≠ []) (hl : rs.length ≤ 16) (h : RunS fs ([], []) rs s1) (hk : rs.any isLook = true) : F_need_steps [W_ fs rs0, d] o = .ok .non o := by
  have hf : okW fs := fun x hx => isWord_ok (ww x hx)
  have e1 := first_bad (rs0 := rs0) o hd hf (by omega) h
  have h0 : 0 < rs.length := List.length_pos_iff.mpr ne
  have g0 : ¬ ((rs.length : Int) = 0) := by omega
  have g4 : ¬ ((16 : Int) < rs.length) := by omega
  have e2 := lc_map (enc := wT) (f := need_steps_e1) (i := 3) (ρ := ⟨[.im (W_ fs rs0), .im d, .im .non, .no], o⟩) (fun r => D.bl (isLook r)) rs (by omega) rfl (fun r hr => by
    obtain ⟨w, hw, e, ok⟩ := head_look (h.row ww r hr) 0
    have q := eqB_str ok okS_look
    simp only [need_steps_e1, sSeq, sIf, bE, bR, bS, cTest, cOp, cOra, sOraP, oraPd, cC, cCall, cCons, cNil, cTup, cLst, cStar, itemsD_tup, itemsD_lst, cUn, cSl, cPart, cNoPart, cNot, cAnd, cOr, cChain, cAndV, cOrV, cNotV, cIf, cYes_ap, sSet, sRet, sRetN, sPass, sDrop, sPar, osCons, osNil, oIm, oLst, oList, setS, cVar, oR, gR, gd, fnD, fnR, fnC, cFn, cMk, cM1, cGive, cOpO, cOpOL, cCallO, cPopAt, popD, sApp, appD, sRem, ownL, sIfW, ifW, sTgt, tgName_ap, tgTup_ap, tgsCons_ap, tgsNil_ap, tgStar_ap, cSeqI, seqD_tup, seqD_lst, seqD_str, cRng1, rngD, cEnum, seqE_tup, seqE_lst, sFor, cLc, Env.set, Env.wipe, Env.back, wipeS, backS, iSeq, iEnd, iEndS, iTwo, iTwoS, isSelf, fnI, bSeq, bRet, fnB, cCallV, cMeth, sMatch, sBeg, sBegPar, sForF, env0, scO, DL.scal, atD_ins, isC_ins, dAdd, dSub, dMod, dMul, dFdiv, dPow, dLt, dLe, dGt, dGe, onI, onIc, addS, addT, addL, dInt, dLen_tup, dLen_lst, dLen_scr, dLen_str, dTuple_tup, dTuple_lst, dList_tup, dList_lst, dSl_tup, dSl_lst, dSl_scr, dSl_str, dIx_tup, dIx_lst, dIx_str, dIn, dNotInS_tup, dNotInS_lst, dEq, dNe, dIsN, dNotN, dMin2, dRev_lst, dJoin_lst, dJoin_tup, oraGet_left, oraGet_seed, oraGet_spot, oraGet_cells, oraPut_left, oraPut_seed, oraPut_spot, Option.map, Option.or, Option.bind, Option.isSome_some, Option.isSome_none, id, List.map_cons, List.map_nil, List.length_cons, List.length_nil, List.length_map, List.length_append, List.replicate, List.cons_append, List.nil_append, List.append_assoc, List.getElem?_cons_zero, List.getElem?_cons_succ, List.set_cons_zero, List.set_cons_succ, List.getD_cons_zero, List.getD_cons_succ, decide_true, decide_false, if_true, if_false, ite_true, ite_false, ↓reduceIte, reduceCtorEq, Nat.reduceAdd, Nat.reduceSub, Nat.reduceLT, Nat.reduceLeDiff, Nat.reduceEqDiff, Nat.zero_add, true_and, and_true, Bool.not_true, Bool.not_false, imp_self, Bool.true_and, Bool.and_true, Bool.false_eq_true, decide_eq_true_eq, forall_const, implies_true, List.mem_cons, List.not_mem_nil, or_false, forall_eq_or_imp, forall_eq, false_implies, eq_self, eqB_int, Int.cast_ofNat_Int, Int.natCast_add, Int.natCast_one, Int.reduceAdd, Int.reduceSub, Int.reduceLT, Int.reduceLE, Int.reduceEq, Int.reduceNeg, Bool.and_false, Bool.false_and, Bool.or_true, Bool.true_or, Bool.or_false, Bool.false_or, wT, e, q, isLook, hw, Option.some.injEq])
  have e3 := dAny_map isLook rs
  rw [hk] at e3
  simp only [F_need_steps, N_need_steps, B_need_steps, sSeq, sIf, bE, bR, bS, cTest, cOp, cOra, sOraP, oraPd, cC, cCall, cCons, cNil, cTup, cLst, cStar, itemsD_tup, itemsD_lst, cUn, cSl, cPart, cNoPart, cNot, cAnd, cOr, cChain, cAndV, cOrV, cNotV, cIf, cYes_ap, sSet, sRet, sRetN, sPass, sDrop, sPar, osCons, osNil, oIm, oLst, oList, setS, cVar, oR, gR, gd, fnD, fnR, fnC, cFn, cMk, cM1, cGive, cOpO, cOpOL, cCallO, cPopAt, popD, sApp, appD, sRem, ownL, sIfW, ifW, sTgt, tgName_ap, tgTup_ap, tgsCons_ap, tgsNil_ap, tgStar_ap, cSeqI, seqD_tup, seqD_lst, seqD_str, cRng1, rngD, cEnum, seqE_tup, seqE_lst, sFor, cLc, Env.set, Env.wipe, Env.back, wipeS, backS, iSeq, iEnd, iEndS, iTwo, iTwoS, isSelf, fnI, bSeq, bRet, fnB, cCallV, cMeth, sMatch, sBeg, sBegPar, sForF, env0, scO, DL.scal, atD_ins, isC_ins, dAdd, dSub, dMod, dMul, dFdiv, dPow, dLt, dLe, dGt, dGe, onI, onIc, addS, addT, addL, dInt, dLen_tup, dLen_lst, dLen_scr, dLen_str, dTuple_tup, dTuple_lst, dList_tup, dList_lst, dSl_tup, dSl_lst, dSl_scr, dSl_str, dIx_tup, dIx_lst, dIx_str, dIn, dNotInS_tup, dNotInS_lst, dEq, dNe, dIsN, dNotN, dMin2, dRev_lst, dJoin_lst, dJoin_tup, oraGet_left, oraGet_seed, oraGet_spot, oraGet_cells, oraPut_left, oraPut_seed, oraPut_spot, Option.map, Option.or, Option.bind, Option.isSome_some, Option.isSome_none, id, List.map_cons, List.map_nil, List.length_cons, List.length_nil, List.length_map, List.length_append, List.replicate, List.cons_append, List.nil_append, List.append_assoc, List.getElem?_cons_zero, List.getElem?_cons_succ, List.set_cons_zero, List.set_cons_succ, List.getD_cons_zero, List.getD_cons_succ, decide_true, decide_false, if_true, if_false, ite_true, ite_false, ↓reduceIte, reduceCtorEq, Nat.reduceAdd, Nat.reduceSub, Nat.reduceLT, Nat.reduceLeDiff, Nat.reduceEqDiff, Nat.zero_add, true_and, and_true, Bool.not_true, Bool.not_false, imp_self, Bool.true_and, Bool.and_true, Bool.false_eq_true, decide_eq_true_eq, forall_const, implies_true, List.mem_cons, List.not_mem_nil, or_false, forall_eq_or_imp, forall_eq, false_implies, eq_self, eqB_int, Int.cast_ofNat_Int, Int.natCast_add, Int.natCast_one, Int.reduceAdd, Int.reduceSub, Int.reduceLT, Int.reduceLE, Int.reduceEq, Int.reduceNeg, Bool.and_false, Bool.false_and, Bool.or_true, Bool.true_or, Bool.or_false, Bool.false_or, hd.isl, hd.len, g0, g4, e1, hd.seq, e2, e3]
theorem ND_W (fs : List Str) (rs : List (List Str)) : ND (W_ fs rs) = true := by
  simp only [W_, ND, NDs, NDs_strs, NDs_rows, Bool.and_self]
theorem copier_init {fs : List Str} {rs0 rs : List (List Str)} {d : D} {s1 : LH} (o : Option Ora) (hd : Sq d (rD rs)) (ww : ∀ x ∈ fs, isWord x = true) (ne : rs ≠ []) (hl : rs.length ≤ 16) (h : RunS fs ([], []) rs s1) (hk : rs.any isLook = true) : F_Copier_init [W_ fs rs0, d] o = .ok (C_ (W_ fs rs0) rs) o := by
  have e1 := need_steps (rs0 := rs0) none hd ww ne hl h hk
  have n1 : NDs [W_ fs rs0, d] = true := by simp only [NDs, ND_W, hd.nd (NDs_rows _), Bool.and_self]
  have n2 : ND (.tup (rD rs)) = true := by simp only [ND]; exact NDs_rows _
  have e2 : dTuple [d] = some (.tup (rD rs)) := by cases hd <;> rfl
  simp only [F_Copier_init, N_Copier_init, B_Copier_init, sSeq, sIf, bE, bR, bS, cTest, cOp, cOra, sOraP, oraPd, cC, cCall, cCons, cNil, cTup, cLst, cStar, itemsD_tup, itemsD_lst, cUn, cSl, cPart, cNoPart, cNot, cAnd, cOr, cChain, cAndV, cOrV, cNotV, cIf, cYes_ap, sSet, sRet, sRetN, sPass, sDrop, sPar, osCons, osNil, oIm, oLst, oList, setS, cVar, oR, gR, gd, fnD, fnR, fnC, cFn, cMk, cM1, cGive, cOpO, cOpOL, cCallO, cPopAt, popD, sApp, appD, sRem, ownL, sIfW, ifW, sTgt, tgName_ap, tgTup_ap, tgsCons_ap, tgsNil_ap, tgStar_ap, cSeqI, seqD_tup, seqD_lst, seqD_str, cRng1, rngD, cEnum, seqE_tup, seqE_lst, sFor, cLc, Env.set, Env.wipe, Env.back, wipeS, backS, iSeq, iEnd, iEndS, iTwo, iTwoS, isSelf, fnI, bSeq, bRet, fnB, cCallV, cMeth, sMatch, sBeg, sBegPar, sForF, env0, scO, DL.scal, atD_ins, isC_ins, dAdd, dSub, dMod, dMul, dFdiv, dPow, dLt, dLe, dGt, dGe, onI, onIc, addS, addT, addL, dInt, dLen_tup, dLen_lst, dLen_scr, dLen_str, dTuple_tup, dTuple_lst, dList_tup, dList_lst, dSl_tup, dSl_lst, dSl_scr, dSl_str, dIx_tup, dIx_lst, dIx_str, dIn, dNotInS_tup, dNotInS_lst, dEq, dNe, dIsN, dNotN, dMin2, dRev_lst, dJoin_lst, dJoin_tup, oraGet_left, oraGet_seed, oraGet_spot, oraGet_cells, oraPut_left, oraPut_seed, oraPut_spot, Option.map, Option.or, Option.bind, Option.isSome_some, Option.isSome_none, id, List.map_cons, List.map_nil, List.length_cons, List.length_nil, List.length_map, List.length_append, List.replicate, List.cons_append, List.nil_append, List.append_assoc, List.getElem?_cons_zero, List.getElem?_cons_succ, List.set_cons_zero, List.set_cons_succ, List.getD_cons_zero, List.getD_cons_succ, decide_true, decide_false, if_true, if_false, ite_true, ite_false, ↓reduceIte, reduceCtorEq, Nat.reduceAdd, Nat.reduceSub, Nat.reduceLT, Nat.reduceLeDiff, Nat.reduceEqDiff, Nat.zero_add, true_and, and_true, Bool.not_true, Bool.not_false, imp_self, Bool.true_and, Bool.and_true, Bool.false_eq_true, decide_eq_true_eq, forall_const, implies_true, List.mem_cons, List.not_mem_nil, or_false, forall_eq_or_imp, forall_eq, false_implies, eq_self, eqB_int, Int.cast_ofNat_Int, Int.natCast_add, Int.natCast_one, Int.reduceAdd, Int.reduceSub, Int.reduceLT, Int.reduceLE, Int.reduceEq, Int.reduceNeg, Bool.and_false, Bool.false_and, Bool.or_true, Bool.true_or, Bool.or_false, Bool.false_or, n1, e1, e2, n2, ND_W, C_]
theorem copier_eq {fs : List Str} {rs ss : List (List Str)} (o : Option Ora) (hf : okW fs) (hr : okR rs) (hs : okR ss) : F_Copier_eq [C_ (W_ fs rs) ss, C_ (W_ fs rs) ss] o = .ok (.bl true) o := by
  have e1 := world_eq none (eqB_tupS hf hf) (eqB_tupR hr hr)
  rw [decide_eq_true rfl, decide_eq_true rfl] at e1
  have e2 := eqB_tupR hs hs
  rw [decide_eq_true rfl] at e2
  have e3 : dEqI "World" F_World_eq (W_ fs rs) (W_ fs rs) = some (.bl true) := by
    show (if (Str.ofString "World") = "World" ∧ (Str.ofString "World") = "World" then (match F_World_eq [W_ fs rs, W_ fs rs] none with
      | .ok d none => some d
      | _ => none) else none) = _
    rw [if_pos ⟨rfl, rfl⟩]
    simp only [W_]
    rw [e1]; rfl
  have z1 : is_Copier "Copier" = some true := by kernel_rfl
  simp only [F_Copier_eq, N_Copier_eq, B_Copier_eq, C_, sSeq, sIf, bE, bR, bS, cTest, cOp, cOra, sOraP, oraPd, cC, cCall, cCons, cNil, cTup, cLst, cStar, itemsD_tup, itemsD_lst, cUn, cSl, cPart, cNoPart, cNot, cAnd, cOr, cChain, cAndV, cOrV, cNotV, cIf, cYes_ap, sSet, sRet, sRetN, sPass, sDrop, sPar, osCons, osNil, oIm, oLst, oList, setS, cVar, oR, gR, gd, fnD, fnR, fnC, cFn, cMk, cM1, cGive, cOpO, cOpOL, cCallO, cPopAt, popD, sApp, appD, sRem, ownL, sIfW, ifW, sTgt, tgName_ap, tgTup_ap, tgsCons_ap, tgsNil_ap, tgStar_ap, cSeqI, seqD_tup, seqD_lst, seqD_str, cRng1, rngD, cEnum, seqE_tup, seqE_lst, sFor, cLc, Env.set, Env.wipe, Env.back, wipeS, backS, iSeq, iEnd, iEndS, iTwo, iTwoS, isSelf, fnI, bSeq, bRet, fnB, cCallV, cMeth, sMatch, sBeg, sBegPar, sForF, env0, scO, DL.scal, atD_ins, isC_ins, dAdd, dSub, dMod, dMul, dFdiv, dPow, dLt, dLe, dGt, dGe, onI, onIc, addS, addT, addL, dInt, dLen_tup, dLen_lst, dLen_scr, dLen_str, dTuple_tup, dTuple_lst, dList_tup, dList_lst, dSl_tup, dSl_lst, dSl_scr, dSl_str, dIx_tup, dIx_lst, dIx_str, dIn, dNotInS_tup, dNotInS_lst, dEq, dNe, dIsN, dNotN, dMin2, dRev_lst, dJoin_lst, dJoin_tup, oraGet_left, oraGet_seed, oraGet_spot, oraGet_cells, oraPut_left, oraPut_seed, oraPut_spot, Option.map, Option.or, Option.bind, Option.isSome_some, Option.isSome_none, id, List.map_cons, List.map_nil, List.length_cons, List.length_nil, List.length_map, List.length_append, List.replicate, List.cons_append, List.nil_append, List.append_assoc, List.getElem?_cons_zero, List.getElem?_cons_succ, List.set_cons_zero, List.set_cons_succ, List.getD_cons_zero, List.getD_cons_succ, decide_true, decide_false, if_true, if_false, ite_true, ite_false, ↓reduceIte, reduceCtorEq, Nat.reduceAdd, Nat.reduceSub, Nat.reduceLT, Nat.reduceLeDiff, Nat.reduceEqDiff, Nat.zero_add, true_and, and_true, Bool.not_true, Bool.not_false, imp_self, Bool.true_and, Bool.and_true, Bool.false_eq_true, decide_eq_true_eq, forall_const, implies_true, List.mem_cons, List.not_mem_nil, or_false, forall_eq_or_imp, forall_eq, false_implies, eq_self, eqB_int, Int.cast_ofNat_Int, Int.natCast_add, Int.natCast_one, Int.reduceAdd, Int.reduceSub, Int.reduceLT, Int.reduceLE, Int.reduceEq, Int.reduceNeg, Bool.and_false, Bool.false_and, Bool.or_true, Bool.true_or, Bool.or_false, Bool.false_or, z1, at_world_C, at_steps_C, e2, e3]
/-! ### reading a copier -/
theorem is_step_line_yes {fs : List Str} {s s1 : LH} {r : List Str} (o : Option Ora) (ww : ∀ x ∈ fs, isWord x = true) (h : StepS fs s r s1) : F_is_step_line [lD r] o = .ok (.bl true) o := by
  have two : ∀ w x : Str, w ∈ k_WORDS → x ∈ fs → F_is_step_line [lD [w, x]] o = .ok (.bl true) o := fun w x hw hx => by
    have h1 := is_word_str x (Nat.le_trans (isWord_len (ww x hx)).2 (by decide)) o
    rw [ww x hx] at h1
    have e2 := eqB_lstS (a := [w, x]) (b := ["tick"]) (by
      intro y hy; simp at hy; rcases hy with rfl | rfl
      · exact okK_WORDS _ hw
      · exact isWord_ok (ww _ hx)) okK_TICK
    have e3 : ¬ ([w, x] : List Str) = [Str.ofString "tick"] := by intro h; have := congrArg List.length h; simp at this
    rw [decide_eq_false e3] at e2
    have e4 : L2.atI [D.str w, D.str x] 0 = some (.str w) := rfl
    have e5 : L2.atI [D.str w, D.str x] 1 = some (.str x) := rfl
    have e6 := inB_tupS (okK_WORDS w hw) okK_WORDS
    have z : sz 1 := by decide
    simp only [sD, List.map_cons, List.map_nil] at e2 e6
    simp only [F_is_step_line, N_is_step_line, B_is_step_line, lD, sD, sSeq, sIf, bE, bR, bS, cTest, cOp, cOra, sOraP, oraPd, cC, cCall, cCons, cNil, cTup, cLst, cStar, itemsD_tup, itemsD_lst, cUn, cSl, cPart, cNoPart, cNot, cAnd, cOr, cChain, cAndV, cOrV, cNotV, cIf, cYes_ap, sSet, sRet, sRetN, sPass, sDrop, sPar, osCons, osNil, oIm, oLst, oList, setS, cVar, oR, gR, gd, fnD, fnR, fnC, cFn, cMk, cM1, cGive, cOpO, cOpOL, cCallO, cPopAt, popD, sApp, appD, sRem, ownL, sIfW, ifW, sTgt, tgName_ap, tgTup_ap, tgsCons_ap, tgsNil_ap, tgStar_ap, cSeqI, seqD_tup, seqD_lst, seqD_str, cRng1, rngD, cEnum, seqE_tup, seqE_lst, sFor, cLc, Env.set, Env.wipe, Env.back, wipeS, backS, iSeq, iEnd, iEndS, iTwo, iTwoS, isSelf, fnI, bSeq, bRet, fnB, cCallV, cMeth, sMatch, sBeg, sBegPar, sForF, env0, scO, DL.scal, atD_ins, isC_ins, dAdd, dSub, dMod, dMul, dFdiv, dPow, dLt, dLe, dGt, dGe, onI, onIc, addS, addT, addL, dInt, dLen_tup, dLen_lst, dLen_scr, dLen_str, dTuple_tup, dTuple_lst, dList_tup, dList_lst, dSl_tup, dSl_lst, dSl_scr, dSl_str, dIx_tup, dIx_lst, dIx_str, dIn, dNotInS_tup, dNotInS_lst, dEq, dNe, dIsN, dNotN, dMin2, dRev_lst, dJoin_lst, dJoin_tup, oraGet_left, oraGet_seed, oraGet_spot, oraGet_cells, oraPut_left, oraPut_seed, oraPut_spot, Option.map, Option.or, Option.bind, Option.isSome_some, Option.isSome_none, id, List.map_cons, List.map_nil, List.length_cons, List.length_nil, List.length_map, List.length_append, List.replicate, List.cons_append, List.nil_append, List.append_assoc, List.getElem?_cons_zero, List.getElem?_cons_succ, List.set_cons_zero, List.set_cons_succ, List.getD_cons_zero, List.getD_cons_succ, decide_true, decide_false, if_true, if_false, ite_true, ite_false, ↓reduceIte, reduceCtorEq, Nat.reduceAdd, Nat.reduceSub, Nat.reduceLT, Nat.reduceLeDiff, Nat.reduceEqDiff, Nat.zero_add, true_and, and_true, Bool.not_true, Bool.not_false, imp_self, Bool.true_and, Bool.and_true, Bool.false_eq_true, decide_eq_true_eq, forall_const, implies_true, List.mem_cons, List.not_mem_nil, or_false, forall_eq_or_imp, forall_eq, false_implies, eq_self, eqB_int, Int.cast_ofNat_Int, Int.natCast_add, Int.natCast_one, Int.reduceAdd, Int.reduceSub, Int.reduceLT, Int.reduceLE, Int.reduceEq, Int.reduceNeg, Bool.and_false, Bool.false_and, Bool.or_true, Bool.true_or, Bool.or_false, Bool.false_or, z, e2, e4, e5, e6, hw, h1]
  cases h with
  | tick =>
    have e2 := eqB_lstS (a := ["tick"]) (b := ["tick"]) okK_TICK okK_TICK
    rw [decide_eq_true rfl] at e2
    have z : sz 1 := by decide
    simp only [sD, List.map_cons, List.map_nil] at e2
    simp only [F_is_step_line, N_is_step_line, B_is_step_line, lD, sD, sSeq, sIf, bE, bR, bS, cTest, cOp, cOra, sOraP, oraPd, cC, cCall, cCons, cNil, cTup, cLst, cStar, itemsD_tup, itemsD_lst, cUn, cSl, cPart, cNoPart, cNot, cAnd, cOr, cChain, cAndV, cOrV, cNotV, cIf, cYes_ap, sSet, sRet, sRetN, sPass, sDrop, sPar, osCons, osNil, oIm, oLst, oList, setS, cVar, oR, gR, gd, fnD, fnR, fnC, cFn, cMk, cM1, cGive, cOpO, cOpOL, cCallO, cPopAt, popD, sApp, appD, sRem, ownL, sIfW, ifW, sTgt, tgName_ap, tgTup_ap, tgsCons_ap, tgsNil_ap, tgStar_ap, cSeqI, seqD_tup, seqD_lst, seqD_str, cRng1, rngD, cEnum, seqE_tup, seqE_lst, sFor, cLc, Env.set, Env.wipe, Env.back, wipeS, backS, iSeq, iEnd, iEndS, iTwo, iTwoS, isSelf, fnI, bSeq, bRet, fnB, cCallV, cMeth, sMatch, sBeg, sBegPar, sForF, env0, scO, DL.scal, atD_ins, isC_ins, dAdd, dSub, dMod, dMul, dFdiv, dPow, dLt, dLe, dGt, dGe, onI, onIc, addS, addT, addL, dInt, dLen_tup, dLen_lst, dLen_scr, dLen_str, dTuple_tup, dTuple_lst, dList_tup, dList_lst, dSl_tup, dSl_lst, dSl_scr, dSl_str, dIx_tup, dIx_lst, dIx_str, dIn, dNotInS_tup, dNotInS_lst, dEq, dNe, dIsN, dNotN, dMin2, dRev_lst, dJoin_lst, dJoin_tup, oraGet_left, oraGet_seed, oraGet_spot, oraGet_cells, oraPut_left, oraPut_seed, oraPut_spot, Option.map, Option.or, Option.bind, Option.isSome_some, Option.isSome_none, id, List.map_cons, List.map_nil, List.length_cons, List.length_nil, List.length_map, List.length_append, List.replicate, List.cons_append, List.nil_append, List.append_assoc, List.getElem?_cons_zero, List.getElem?_cons_succ, List.set_cons_zero, List.set_cons_succ, List.getD_cons_zero, List.getD_cons_succ, decide_true, decide_false, if_true, if_false, ite_true, ite_false, ↓reduceIte, reduceCtorEq, Nat.reduceAdd, Nat.reduceSub, Nat.reduceLT, Nat.reduceLeDiff, Nat.reduceEqDiff, Nat.zero_add, true_and, and_true, Bool.not_true, Bool.not_false, imp_self, Bool.true_and, Bool.and_true, Bool.false_eq_true, decide_eq_true_eq, forall_const, implies_true, List.mem_cons, List.not_mem_nil, or_false, forall_eq_or_imp, forall_eq, false_implies, eq_self, eqB_int, Int.cast_ofNat_Int, Int.natCast_add, Int.natCast_one, Int.reduceAdd, Int.reduceSub, Int.reduceLT, Int.reduceLE, Int.reduceEq, Int.reduceNeg, Bool.and_false, Bool.false_and, Bool.or_true, Bool.true_or, Bool.or_false, Bool.false_or, z, e2]
  | look hx => exact two _ _ (by decide +kernel) hx
  | check hx => exact two _ _ (by decide +kernel) hx
  | sure hx => exact two _ _ (by decide +kernel) hx
  | hold hx => exact two _ _ (by decide +kernel) hx
  | free hx => exact two _ _ (by decide +kernel) hx
theorem RunS.mem {fs : List Str} : ∀ {s s1 : LH} {rs : List (List Str)} {r : List Str}, RunS fs s rs s1 → r ∈ rs → ∃ t t1, StepS fs t r t1
  | _, _, _, _, .nil _, hr => by simp at hr
  | _, _, _, _, .cons h t, hr => by
    rcases List.mem_cons.mp hr with rfl | hr
    · exact ⟨_, _, h⟩
    · exact t.mem hr
theorem read_copier {fs : List Str} {rs0 rs : List (List Str)} {s1 : LH} (o : Option Ora) (ww : ∀ x ∈ fs, isWord x = true) (ne : rs ≠ []) (hl : rs.length ≤ 16) (h : RunS fs ([], []) rs s1) (hk : rs.any isLook = true) : F_read_copier [W_ fs rs0, .str (textOf rs)] o = .ok (C_ (W_ fs rs0) rs) o := by
  have hR : Rows rs := ⟨by omega, h.row ww⟩
  have e1 := lines_of o hR ne
  have e2 := need_lines (b := 0) (rs := rs) o tb_step fun k r hk _ => by
    obtain ⟨t, t1, hs⟩ := h.mem (List.mem_of_getElem? hk)
    exact is_step_line_yes o ww hs
  have e4 := lc_map (enc := lD) (f := read_copier_e1) (i := 3) (ρ := ⟨[.im (W_ fs rs0), .im (.str (textOf rs)), .im (.lst (rs.map lD)), .no], o⟩) wT rs (by omega) rfl (fun x hx => by
    simp only [read_copier_e1, wT, lD, sD, sSeq, sIf, bE, bR, bS, cTest, cOp, cOra, sOraP, oraPd, cC, cCall, cCons, cNil, cTup, cLst, cStar, itemsD_tup, itemsD_lst, cUn, cSl, cPart, cNoPart, cNot, cAnd, cOr, cChain, cAndV, cOrV, cNotV, cIf, cYes_ap, sSet, sRet, sRetN, sPass, sDrop, sPar, osCons, osNil, oIm, oLst, oList, setS, cVar, oR, gR, gd, fnD, fnR, fnC, cFn, cMk, cM1, cGive, cOpO, cOpOL, cCallO, cPopAt, popD, sApp, appD, sRem, ownL, sIfW, ifW, sTgt, tgName_ap, tgTup_ap, tgsCons_ap, tgsNil_ap, tgStar_ap, cSeqI, seqD_tup, seqD_lst, seqD_str, cRng1, rngD, cEnum, seqE_tup, seqE_lst, sFor, cLc, Env.set, Env.wipe, Env.back, wipeS, backS, iSeq, iEnd, iEndS, iTwo, iTwoS, isSelf, fnI, bSeq, bRet, fnB, cCallV, cMeth, sMatch, sBeg, sBegPar, sForF, env0, scO, DL.scal, atD_ins, isC_ins, dAdd, dSub, dMod, dMul, dFdiv, dPow, dLt, dLe, dGt, dGe, onI, onIc, addS, addT, addL, dInt, dLen_tup, dLen_lst, dLen_scr, dLen_str, dTuple_tup, dTuple_lst, dList_tup, dList_lst, dSl_tup, dSl_lst, dSl_scr, dSl_str, dIx_tup, dIx_lst, dIx_str, dIn, dNotInS_tup, dNotInS_lst, dEq, dNe, dIsN, dNotN, dMin2, dRev_lst, dJoin_lst, dJoin_tup, oraGet_left, oraGet_seed, oraGet_spot, oraGet_cells, oraPut_left, oraPut_seed, oraPut_spot, Option.map, Option.or, Option.bind, Option.isSome_some, Option.isSome_none, id, List.map_cons, List.map_nil, List.length_cons, List.length_nil, List.length_map, List.length_append, List.replicate, List.cons_append, List.nil_append, List.append_assoc, List.getElem?_cons_zero, List.getElem?_cons_succ, List.set_cons_zero, List.set_cons_succ, List.getD_cons_zero, List.getD_cons_succ, decide_true, decide_false, if_true, if_false, ite_true, ite_false, ↓reduceIte, reduceCtorEq, Nat.reduceAdd, Nat.reduceSub, Nat.reduceLT, Nat.reduceLeDiff, Nat.reduceEqDiff, Nat.zero_add, true_and, and_true, Bool.not_true, Bool.not_false, imp_self, Bool.true_and, Bool.and_true, Bool.false_eq_true, decide_eq_true_eq, forall_const, implies_true, List.mem_cons, List.not_mem_nil, or_false, forall_eq_or_imp, forall_eq, false_implies, eq_self, eqB_int, Int.cast_ofNat_Int, Int.natCast_add, Int.natCast_one, Int.reduceAdd, Int.reduceSub, Int.reduceLT, Int.reduceLE, Int.reduceEq, Int.reduceNeg, Bool.and_false, Bool.false_and, Bool.or_true, Bool.true_or, Bool.or_false, Bool.false_or])
  have e5 := copier_init (rs0 := rs0) (d := .lst (rD rs)) o (.lst _) ww ne hl h hk
  have e6 : (((0 : Nat) : Int)) = 0 := rfl
  rw [e6] at e2
  simp only [F_read_copier, N_read_copier, B_read_copier, sSeq, sIf, bE, bR, bS, cTest, cOp, cOra, sOraP, oraPd, cC, cCall, cCons, cNil, cTup, cLst, cStar, itemsD_tup, itemsD_lst, cUn, cSl, cPart, cNoPart, cNot, cAnd, cOr, cChain, cAndV, cOrV, cNotV, cIf, cYes_ap, sSet, sRet, sRetN, sPass, sDrop, sPar, osCons, osNil, oIm, oLst, oList, setS, cVar, oR, gR, gd, fnD, fnR, fnC, cFn, cMk, cM1, cGive, cOpO, cOpOL, cCallO, cPopAt, popD, sApp, appD, sRem, ownL, sIfW, ifW, sTgt, tgName_ap, tgTup_ap, tgsCons_ap, tgsNil_ap, tgStar_ap, cSeqI, seqD_tup, seqD_lst, seqD_str, cRng1, rngD, cEnum, seqE_tup, seqE_lst, sFor, cLc, Env.set, Env.wipe, Env.back, wipeS, backS, iSeq, iEnd, iEndS, iTwo, iTwoS, isSelf, fnI, bSeq, bRet, fnB, cCallV, cMeth, sMatch, sBeg, sBegPar, sForF, env0, scO, DL.scal, atD_ins, isC_ins, dAdd, dSub, dMod, dMul, dFdiv, dPow, dLt, dLe, dGt, dGe, onI, onIc, addS, addT, addL, dInt, dLen_tup, dLen_lst, dLen_scr, dLen_str, dTuple_tup, dTuple_lst, dList_tup, dList_lst, dSl_tup, dSl_lst, dSl_scr, dSl_str, dIx_tup, dIx_lst, dIx_str, dIn, dNotInS_tup, dNotInS_lst, dEq, dNe, dIsN, dNotN, dMin2, dRev_lst, dJoin_lst, dJoin_tup, oraGet_left, oraGet_seed, oraGet_spot, oraGet_cells, oraPut_left, oraPut_seed, oraPut_spot, Option.map, Option.or, Option.bind, Option.isSome_some, Option.isSome_none, id, List.map_cons, List.map_nil, List.length_cons, List.length_nil, List.length_map, List.length_append, List.replicate, List.cons_append, List.nil_append, List.append_assoc, List.getElem?_cons_zero, List.getElem?_cons_succ, List.set_cons_zero, List.set_cons_succ, List.getD_cons_zero, List.getD_cons_succ, decide_true, decide_false, if_true, if_false, ite_true, ite_false, ↓reduceIte, reduceCtorEq, Nat.reduceAdd, Nat.reduceSub, Nat.reduceLT, Nat.reduceLeDiff, Nat.reduceEqDiff, Nat.zero_add, true_and, and_true, Bool.not_true, Bool.not_false, imp_self, Bool.true_and, Bool.and_true, Bool.false_eq_true, decide_eq_true_eq, forall_const, implies_true, List.mem_cons, List.not_mem_nil, or_false, forall_eq_or_imp, forall_eq, false_implies, eq_self, eqB_int, Int.cast_ofNat_Int, Int.natCast_add, Int.natCast_one, Int.reduceAdd, Int.reduceSub, Int.reduceLT, Int.reduceLE, Int.reduceEq, Int.reduceNeg, Bool.and_false, Bool.false_and, Bool.or_true, Bool.true_or, Bool.or_false, Bool.false_or, e1, e2, e4, e5, List.append_nil]
end LW

set_option Elab.async false
set_option linter.all false
set_option maxRecDepth 100000
set_option maxHeartbeats 4000000
namespace LW
open PySem DL
theorem okS_mem {x : Str} (h : okS x) : ∀ c ∈ x.cps.toList, c < 0x110000 := by
  have h : x.cps.all (· < 0x110000) = true := h
  rw [← Array.all_toList, List.all_eq_true] at h
  intro c hc
  exact of_decide_eq_true (h c hc)
theorem char_lt (c : Char) : c.toNat < 0x110000 := by
  have := c.valid
  rcases this with h | h
  · have : c.toNat < 0xd800 := h
    omega
  · exact h.2
theorem okS_ofString (s : String) : okS (Str.ofString s) := by
  rw [Str.ofString_eq_toList]
  refine okS_of fun c hc => ?_
  simp only [List.toList_toArray, List.mem_map] at hc
  obtain ⟨a, _, rfl⟩ := hc
  exact char_lt a
theorem okS_app {a b : Str} (ha : okS a) (hb : okS b) : okS (a ++ b) := okS_of fun c hc => by
  have hc : c ∈ TL.tl (a ++ b) := hc
  rw [TL.tl_append] at hc
  rcases List.mem_append.mp hc with h | h
  · exact okS_mem ha c h
  · exact okS_mem hb c h
theorem okS_join {a : Str} {l : List Str} (ha : okS a) (hl : okW l) : okS (Str.join a l) := okS_of fun c hc => by
  rcases mem_join a hc with h | ⟨x, hx, h⟩
  · exact okS_mem ha c h
  · exact okS_mem (hl x hx) c h
theorem reprChar_ok {q c d : Nat} (hq : q < 0x110000) (hc : c < 0x110000) (h : d ∈ Builtin.Str.reprChar q c) : d < 0x110000 := by
  have hex : ∀ w : Nat, d ∈ (List.replicate (w - ((Nat.toDigits 16 c).map Char.toNat).length) 48 ++ (Nat.toDigits 16 c).map Char.toNat) → d < 0x110000 := fun w h => by
    rcases List.mem_append.mp h with h | h
    · have := List.eq_of_mem_replicate h; omega
    · obtain ⟨a, _, rfl⟩ := List.mem_map.mp h
      exact char_lt a
  unfold Builtin.Str.reprChar at h
  dsimp only at h
  repeat' split at h
  all_goals simp only [List.mem_append, List.mem_cons, List.not_mem_nil, or_false] at h
  all_goals first
    | omega
    | (rcases h with h | h
       · omega
       · exact hex _ (List.mem_append.mpr h))
theorem okS_repr {x : Str} (h : okS x) : okS (reprText x) := by
  have hq : reprQuote x < 0x110000 := by unfold reprQuote; split <;> omega
  have key : ∀ (l : List Nat) (acc : Array Nat), (∀ c ∈ l, c < 0x110000) → (∀ c ∈ acc.toList, c < 0x110000) → ∀ c ∈ (l.foldl (fun out c => out ++ (Builtin.Str.reprChar (reprQuote x) c).toArray) acc).toList, c < 0x110000 := by
    intro l
    induction l with
    | nil => intro acc _ h; exact h
    | cons a l ih =>
      intro acc h1 h2
      refine ih _ (fun c hc => h1 c (by simp [hc])) fun c hc => ?_
      simp only [Array.toList_append, List.mem_append] at hc
      rcases hc with h | h
      · exact h2 c h
      · exact reprChar_ok hq (h1 a (by simp)) h
  refine okS_of fun c hc => ?_
  unfold reprText at hc
  simp only [Array.toList_push, List.mem_append, List.mem_cons, List.not_mem_nil, or_false] at hc
  rcases hc with h | h
  · rw [← Array.foldl_toList] at h
    exact key _ _ (okS_mem ‹okS x›) (by simp; exact hq) c h
  · omega
mutual
theorem okS_shown : ∀ {p : PyData}, p.canLay0 = true → okS p.shown
  | .none, _ => by rw [PyData.shown_none]; exact okS_ofString _
  | .bool b, _ => by rw [PyData.shown_bool]; cases b <;> exact okS_ofString _
  | .int i, _ => by rw [PyData.shown_int]; exact okS_ofString _
  | .str x, h => by rw [PyData.shown_str]; exact okS_repr (by simpa [PyData.canLay0] using h)
  | .list xs, h => by
    rw [PyData.shown_list]
    exact okS_app (okS_app (okS_ofString _) (okS_join (okS_ofString _) (okS_shownAll (by simpa [PyData.canLay0] using h)))) (okS_ofString _)
  | .tuple xs, h => by
    rw [PyData.shown_tuple]
    exact okS_app (okS_app (okS_ofString _) (okS_join (okS_ofString _) (okS_shownAll (by simpa [PyData.canLay0] using h)))) (okS_ofString _)
  | .dict _, h => by simp [PyData.canLay0] at h
theorem okS_shownAll : ∀ {xs : List PyData}, PyData.canLayAll0 xs = true → okW (PyData.shownAll xs)
  | [], _ => by rw [PyData.shownAll_nil]; exact fun y hy => absurd hy List.not_mem_nil
  | x :: xs, h => by
    have h : x.canLay0 = true ∧ PyData.canLayAll0 xs = true := by simpa [PyData.canLayAll0] using h
    rw [PyData.shownAll_cons]
    intro y hy
    rcases List.mem_cons.mp hy with rfl | hy
    · exact okS_shown h.1
    · exact okS_shownAll h.2 y hy
end
theorem okS_reprOf {d : D} (h : good d = true) : okS (reprOf d) := by
  obtain ⟨p, h1, h2, _⟩ := good_py h
  unfold reprOf encD
  rw [h1]
  exact okS_shown h2
/-- repr(d) != repr(d) -/
theorem repr_same {d : D} (h : good d = true) : eqB (.str (reprOf d)) (.str (reprOf d)) = some true := eqB_strT (okS_reprOf h)
end LW

set_option Elab.async false
set_option linter.all false
set_option maxRecDepth 100000
set_option maxHeartbeats 4000000
namespace LW
open PySem DL
/-! ### small data -/
theorem goodL_strs : ∀ {l : List Str}, okW l → goodL (sD l) = true
  | [], _ => rfl
  | x :: l, h => by
    show (good (.str x) && goodL (sD l)) = true
    rw [goodL_strs fun y hy => h y (by simp [hy])]
    simp only [good, Bool.and_true]
    exact h x (by simp)
theorem goodL_rows : ∀ {l : List (List Str)}, okR l → goodL (rD l) = true
  | [], _ => rfl
  | r :: l, h => by
    show (good (wT r) && goodL (rD l)) = true
    rw [goodL_rows fun y hy => h y (by simp [hy])]
    simp only [wT, good, Bool.and_true]
    exact goodL_strs (h r (by simp))
theorem wgtL_strs {b : Nat} : ∀ {l : List Str}, (∀ x ∈ l, x.length ≤ b) → wgtL (sD l) ≤ l.length * (b + 1)
  | [], _ => by simp [wgtL]
  | x :: l, h => by
    have h1 := wgtL_strs (l := l) fun y hy => h y (by simp [hy])
    have h2 := h x (by simp)
    have h3 : x.length = x.cps.size := rfl
    simp only [sD, List.map_cons, wgtL, wgt, List.length_cons, Nat.succ_mul] at *
    omega
theorem wgtL_rows : ∀ {l : List (List Str)}, (∀ r ∈ l, Row r) → wgtL (rD l) ≤ l.length * 46
  | [], _ => by simp [wgtL]
  | r :: l, h => by
    have h1 := wgtL_rows (l := l) fun y hy => h y (by simp [hy])
    have h2 := h r (by simp)
    have h3 := wgtL_strs (b := 8) (l := r) fun x hx => (isWord_len (h2.wd x hx)).2
    have h4 := h2.len
    simp only [rD, List.map_cons, wgtL, wT, wgt, List.length_cons, Nat.succ_mul] at *
    omega
theorem dptL_strs : ∀ l : List Str, dptL (sD l) = 0
  | [] => rfl
  | x :: l => by simp only [sD, List.map_cons, dptL, dpt]; have := dptL_strs l; simp only [sD] at this; omega
theorem dptL_rows : ∀ l : List (List Str), dptL (rD l) ≤ 1
  | [] => by simp [dptL]
  | r :: l => by
    simp only [rD, List.map_cons, dptL, wT, dpt]
    have := dptL_rows l
    have := dptL_strs r
    simp only [rD] at *
    omega
/-- two texts -/
theorem repr2 {t : Str} (h : okS t) (hl : t.length ≤ 100000) : dRepr [.lst [.str t, .str t]] = some (.str (reprOf (.lst [.str t, .str t]))) ∧ eqB (.str (reprOf (.lst [.str t, .str t]))) (.str (reprOf (.lst [.str t, .str t]))) = some true := by
  have hg : good (.lst [.str t, .str t]) = true := by simp only [good, goodL, h, Bool.and_self]
  have h3 : t.length = t.cps.size := rfl
  refine ⟨dRepr_good (.inr ⟨_, rfl⟩) hg ?_ ?_, repr_same hg⟩
  · simp only [wgt, wgtL]; omega
  · simp only [dpt, dptL]; decide
/-- a world's fields -/
theorem reprW {fs : List Str} {rs : List (List Str)} (n4 : fs.length ≤ 4) (ww : ∀ x ∈ fs, isWord x = true) (hr : Rows rs) : dRepr [.lst [.tup (sD fs), .tup (rD rs)]] = some (.str (reprOf (.lst [.tup (sD fs), .tup (rD rs)]))) ∧ eqB (.str (reprOf (.lst [.tup (sD fs), .tup (rD rs)]))) (.str (reprOf (.lst [.tup (sD fs), .tup (rD rs)]))) = some true := by
  have hg : good (.lst [.tup (sD fs), .tup (rD rs)]) = true := by simp only [good, goodL, goodL_strs fun x hx => isWord_ok (ww x hx), goodL_rows hr.ok, Bool.and_self]
  refine ⟨dRepr_good (.inr ⟨_, rfl⟩) hg ?_ ?_, repr_same hg⟩
  · have h1 := wgtL_strs (b := 8) (l := fs) fun x hx => (isWord_len (ww x hx)).2
    have h2 := wgtL_rows hr.row
    have h3 := hr.len
    simp only [wgt, wgtL]
    omega
  · have h1 := dptL_strs fs
    have h2 := dptL_rows rs
    simp only [dpt, dptL]
    omega
theorem reprR {rs : List (List Str)} (hr : Rows rs) : dRepr [.tup (rD rs)] = some (.str (reprOf (.tup (rD rs)))) ∧ eqB (.str (reprOf (.tup (rD rs)))) (.str (reprOf (.tup (rD rs)))) = some true := by
  have hg : good (.tup (rD rs)) = true := by simp only [good, goodL_rows hr.ok]
  refine ⟨dRepr_good (.inl ⟨_, rfl⟩) hg ?_ ?_, repr_same hg⟩
  · have h2 := wgtL_rows hr.row
    have h3 := hr.len
    simp only [wgt]
    omega
  · have h2 := dptL_rows rs
    simp only [dpt]
    omega
/-! ### a drawn world -/
structure GoodW (fs : List Str) (rs : List (List Str)) : Prop where
  n1 : fs ≠ []
  n4 : fs.length ≤ 4
  nd : fs.Nodup
  ww : ∀ x ∈ fs, isWord x = true
  af : ascS fs
  rr : ∀ r ∈ rs, isRule fs r = true
  rnd : rs.Nodup
  ar : ascR rs
  rl : rs.length ≤ 90
theorem isRule_congr {fs gs : List Str} (h : ∀ x, x ∈ fs ↔ x ∈ gs) (r : List Str) : isRule fs r = isRule gs r := by
  unfold isRule
  split <;> simp only [h]
theorem isRule_row {fs r : List Str} (ww : ∀ x ∈ fs, isWord x = true) (h : isRule fs r = true) : Row r := by
  have kw : ∀ w, (w ∈ k_ALONE ∨ w ∈ k_PAIRED) → isWord w = true := by
    intro w hw
    refine isWord_kw w ?_
    have h1 : ∀ w ∈ k_ALONE, w ∈ (["tick", "look", "check", "sure", "hold", "free", "folders", "drop", "make", "link", "move"] : List Str) := by decide +kernel
    have h2 : ∀ w ∈ k_PAIRED, w ∈ (["tick", "look", "check", "sure", "hold", "free", "folders", "drop", "make", "link", "move"] : List Str) := by decide +kernel
    exact hw.elim (h1 w) (h2 w)
  rcases isRule_shape h with ⟨w, x, rfl, h1, h2⟩ | ⟨w, x, y, rfl, h1, h2, h3, _⟩
  · refine ⟨by simp, by simp, fun z hz => ?_⟩
    simp at hz
    rcases hz with rfl | rfl
    · exact kw _ (.inl h2)
    · exact ww _ h1
  · refine ⟨by simp, by simp, fun z hz => ?_⟩
    simp at hz
    rcases hz with rfl | rfl | rfl
    · exact kw _ (.inr h3)
    · exact ww _ h1
    · exact ww _ h2
section
variable {fs gs : List Str} {rs qs : List (List Str)}
theorem GoodW.rowsR (g : GoodW fs rs) : Rows rs := ⟨by have := g.rl; omega, fun r hr => isRule_row g.ww (g.rr r hr)⟩
theorem GoodW.rows (g : GoodW fs rs) (pf : gs.Perm fs) (pr : qs.Perm rs) : Rows (("folders" :: gs) :: qs) := by
  refine ⟨?_, fun r hr => ?_⟩
  · have := g.rl
    have := pr.length_eq
    simp only [List.length_cons]; omega
  · rcases List.mem_cons.mp hr with rfl | hr
    · refine ⟨by simp, ?_, fun x hx => ?_⟩
      · have := g.n4
        have := pf.length_eq
        simp only [List.length_cons]; omega
      · rcases List.mem_cons.mp hx with rfl | hx
        · exact isWord_kw _ (by simp)
        · exact g.ww x (pf.mem_iff.mp hx)
    · exact isRule_row g.ww (g.rr r (pr.mem_iff.mp hr))
theorem GoodW.init (g : GoodW fs rs) (o : Option Ora) {fd rd : D} (hf : Sq fd (sD gs)) (hr : Sq rd (rD qs)) (pf : gs.Perm fs) (pr : qs.Perm rs) : F_World_init [fd, rd] o = .ok (W_ fs rs) o :=
  world_init o hf hr pf g.af pr g.ar (fun e => g.n1 (by rw [e] at pf; exact List.nil_perm.mp pf)) (by rw [pf.length_eq]; exact g.n4) (pf.nodup_iff.mpr g.nd) (fun x hx => g.ww x (pf.mem_iff.mp hx))
    (fun r h => by rw [isRule_congr fun x => pf.mem_iff]; exact g.rr r (pr.mem_iff.mp h)) (pr.nodup_iff.mpr g.rnd) (by rw [pr.length_eq]; have := g.rl; omega)
theorem GoodW.read (g : GoodW fs rs) (o : Option Ora) (pf : gs.Perm fs) (pr : qs.Perm rs) : F_read_world [.str (textOf (("folders" :: gs) :: qs))] o = .ok (W_ fs rs) o :=
  read_world o pf g.af pr g.ar (fun e => g.n1 (by rw [e] at pf; exact List.nil_perm.mp pf)) (by rw [pf.length_eq]; exact g.n4) (pf.nodup_iff.mpr g.nd) (fun x hx => g.ww x (pf.mem_iff.mp hx))
    (fun r h => by rw [isRule_congr fun x => pf.mem_iff]; exact g.rr r (pr.mem_iff.mp h)) (pr.nodup_iff.mpr g.rnd) (g.rows pf pr)
theorem GoodW.okf (g : GoodW fs rs) : okW fs := fun x hx => isWord_ok (g.ww x hx)
theorem GoodW.okr (g : GoodW fs rs) : okR rs := g.rowsR.ok
theorem GoodW.eqI (g : GoodW fs rs) : dEqI "World" F_World_eq (W_ fs rs) (W_ fs rs) = some (.bl true) := by
  have e1 := world_eq none (eqB_tupS g.okf g.okf) (eqB_tupR g.okr g.okr)
  rw [decide_eq_true rfl, decide_eq_true rfl] at e1
  show (if (Str.ofString "World") = "World" ∧ (Str.ofString "World") = "World" then (match F_World_eq [W_ fs rs, W_ fs rs] none with
    | .ok d none => some d
    | _ => none) else none) = _
  rw [if_pos ⟨rfl, rfl⟩]
  simp only [W_]
  rw [e1]; rfl
end
end LW

set_option Elab.async false
set_option linter.all false
set_option maxRecDepth 100000
set_option maxHeartbeats 4000000
namespace LW
open PySem DL
theorem rot_perm {α : Type} (l : List α) (k : Nat) : (l.drop k ++ l.take k).Perm l := by
  have := List.perm_append_comm (l₁ := l.drop k) (l₂ := l.take k)
  rwa [List.take_append_drop] at this
theorem cut1a {α : Type} (x : α) (l : List α) : cutL (x :: l) none (some 1) = [x] := cutL_take (x :: l) 1
theorem cut1b {α : Type} (x : α) (l : List α) : cutL (x :: l) (some 1) none = l := cutL_drop (x :: l) 1
theorem is_World_W : is_World "World" = some true := by kernel_rfl
theorem worlds_turn {fs gs : List Str} {rs qs : List (List Str)} (g : GoodW fs rs) (pf : gs.Perm fs) (pr : qs.Perm rs) {o : Option Ora} {a b c e f : Slot} :
    law_worlds_right_f1 ⟨[.im .dr, .im (.tup (sD fs)), .im (.tup (rD rs)), .im (W_ fs rs), .im (.str (textOf (("folders" :: fs) :: rs))), a, b, .im (.str (textOf (("folders" :: gs) :: qs))), c, e, f], o⟩ = .ok (.nx ⟨[.im .dr, .im (.tup (sD fs)), .im (.tup (rD rs)), .im (W_ fs rs), .im (.str (textOf (("folders" :: fs) :: rs))), a, b, .im (.str (textOf (("folders" :: gs) :: qs))), c, e, .im (W_ fs rs)], o⟩) := by
  have e1 := g.read o pf pr
  have h := g.rows (List.Perm.refl fs) (List.Perm.refl rs)
  obtain ⟨r1, r2⟩ := reprW g.n4 g.ww g.rowsR
  have e2 := g.eqI
  have e3 := world_text o h
  have e4 := eqB_strT h.okT
  have z2 : sz 2 := by decide
  simp only [W_] at e1 e2 e3
  simp only [law_worlds_right_f1, W_, sSeq, sIf, bE, bR, bS, cTest, cOp, cOra, sOraP, oraPd, cC, cCall, cCons, cNil, cTup, cLst, cStar, itemsD_tup, itemsD_lst, cUn, cSl, cPart, cNoPart, cNot, cAnd, cOr, cChain, cAndV, cOrV, cNotV, cIf, cYes_ap, sSet, sRet, sRetN, sPass, sDrop, sPar, osCons, osNil, oIm, oLst, oList, setS, cVar, oR, gR, gd, fnD, fnR, fnC, cFn, cMk, cM1, cGive, cOpO, cOpOL, cCallO, cPopAt, popD, sApp, appD, sRem, ownL, sIfW, ifW, sTgt, tgName_ap, tgTup_ap, tgsCons_ap, tgsNil_ap, tgStar_ap, cSeqI, seqD_tup, seqD_lst, seqD_str, cRng1, rngD, cEnum, seqE_tup, seqE_lst, sFor, cLc, Env.set, Env.wipe, Env.back, wipeS, backS, iSeq, iEnd, iEndS, iTwo, iTwoS, isSelf, fnI, bSeq, bRet, fnB, cCallV, cMeth, sMatch, sBeg, sBegPar, sForF, env0, scO, DL.scal, atD_ins, isC_ins, dAdd, dSub, dMod, dMul, dFdiv, dPow, dLt, dLe, dGt, dGe, onI, onIc, addS, addT, addL, dInt, dLen_tup, dLen_lst, dLen_scr, dLen_str, dTuple_tup, dTuple_lst, dList_tup, dList_lst, dSl_tup, dSl_lst, dSl_scr, dSl_str, dIx_tup, dIx_lst, dIx_str, dIn, dNotInS_tup, dNotInS_lst, dEq, dNe, dIsN, dNotN, dMin2, dRev_lst, dJoin_lst, dJoin_tup, oraGet_left, oraGet_seed, oraGet_spot, oraGet_cells, oraPut_left, oraPut_seed, oraPut_spot, Option.map, Option.or, Option.bind, Option.isSome_some, Option.isSome_none, id, List.map_cons, List.map_nil, List.length_cons, List.length_nil, List.length_map, List.length_append, List.replicate, List.cons_append, List.nil_append, List.append_assoc, List.getElem?_cons_zero, List.getElem?_cons_succ, List.set_cons_zero, List.set_cons_succ, List.getD_cons_zero, List.getD_cons_succ, decide_true, decide_false, if_true, if_false, ite_true, ite_false, ↓reduceIte, reduceCtorEq, Nat.reduceAdd, Nat.reduceSub, Nat.reduceLT, Nat.reduceLeDiff, Nat.reduceEqDiff, Nat.zero_add, true_and, and_true, Bool.not_true, Bool.not_false, imp_self, Bool.true_and, Bool.and_true, Bool.false_eq_true, decide_eq_true_eq, forall_const, implies_true, List.mem_cons, List.not_mem_nil, or_false, forall_eq_or_imp, forall_eq, false_implies, eq_self, eqB_int, Int.cast_ofNat_Int, Int.natCast_add, Int.natCast_one, Int.reduceAdd, Int.reduceSub, Int.reduceLT, Int.reduceLE, Int.reduceEq, Int.reduceNeg, Bool.and_false, Bool.false_and, Bool.or_true, Bool.true_or, Bool.or_false, Bool.false_or, e1, e2, e3, e4, r1, r2, is_World_W, at_folders_W, at_rules_W, z2]
theorem worlds_right {n : Nat} {o : Ora} {fs : List Str} {rs : List (List Str)} (k : Ok n o) (hn : n < 2 ^ 39) (g : GoodW fs rs) : ∃ o', F_law_worlds_right [.dr, .tup (sD fs), .tup (rD rs)] (some o) = .ok (.bl true) (some o') ∧ Ok (n + 2) o' := by
  have hl : 0 < fs.length := List.length_pos_iff.mpr g.n1
  have hl4 := g.n4
  have rl := g.rl
  obtain ⟨k1, o1, d1, a1, b1, ok1⟩ := draw (m := fs.length) k (by omega) (by omega) (by omega)
  obtain ⟨k2, o2, d2, a2, b2, ok2⟩ := draw (m := rs.length + 1) ok1 (by omega) (by omega) (by omega)
  refine ⟨o2, ?_, ok2⟩
  obtain ⟨i, rfl⟩ := Int.eq_ofNat_of_zero_le a1
  obtain ⟨j, rfl⟩ := Int.eq_ofNat_of_zero_le a2
  have pF := rot_perm fs i
  have pR := rot_perm rs j
  have pR2 : (rs.drop j ++ rs.take j).reverse.Perm rs := (List.reverse_perm _).trans pR
  have h0 := g.rows (List.Perm.refl fs) (List.Perm.refl rs)
  have h1 := g.rows pF pR
  have h2 := g.rows pF pR2
  have e0 := g.init (some o) (gs := fs.reverse) (qs := rs.reverse) (fd := .lst (sD fs.reverse)) (rd := .lst (rD rs.reverse)) (.lst _) (.lst _) (List.reverse_perm _) (List.reverse_perm _)
  have t0 := text_of (some o) (.lst _) h0
  have t1 := text_of (some o2) (.lst _) h1
  have t2 := text_of (some o2) (.lst _) h2
  have w0 := world_text (some o) h0
  obtain ⟨r1, r2⟩ := repr2 h0.okT (Nat.le_trans h0.textLen (by decide))
  obtain ⟨ρ', f1, ff⟩ := forD_same (enc := fun p : List Str × List (List Str) => D.str (textOf (("folders" :: p.1) :: p.2))) (g := tgName 7) (body := law_worlds_right_f1) [(fs, rs), (fs.drop i ++ fs.take i, rs.drop j ++ rs.take j), (fs.drop i ++ fs.take i, (rs.drop j ++ rs.take j).reverse)]
    (fun ρ => ∃ a b c e f x, ρ = ⟨[.im .dr, .im (.tup (sD fs)), .im (.tup (rD rs)), .im (W_ fs rs), .im (.str (textOf (("folders" :: fs) :: rs))), a, b, x, c, e, f], some o2⟩) (fun p hp ρ ⟨a, b, c, e, f, x, hρ⟩ => by
      subst hρ
      have hp2 : p.1.Perm fs ∧ p.2.Perm rs := by
        simp at hp
        rcases hp with rfl | rfl | rfl
        · exact ⟨List.Perm.refl _, List.Perm.refl _⟩
        · exact ⟨pF, pR⟩
        · exact ⟨pF, by simpa using pR2⟩
      exact ⟨_, _, rfl, worlds_turn g hp2.1 hp2.2, _, _, _, _, _, _, rfl⟩) (ρ := ⟨[.im .dr, .im (.tup (sD fs)), .im (.tup (rD rs)), .im (W_ fs rs), .im (.str (textOf (("folders" :: fs) :: rs))), .im (wT ("folders" :: (fs.drop i ++ fs.take i))), .im (.lst (rD (("folders" :: (fs.drop i ++ fs.take i)) :: (rs.drop j ++ rs.take j)))), .no, .im (.int i), .im (.int j), .no], some o2⟩) ⟨_, _, _, _, _, _, rfl⟩
  obtain ⟨a, b, c, e, f, x, rfl⟩ := ff
  have z1 : sz (fs.length + 1) := by show _ ≤ 100000; omega
  have z2 : sz 2 := by decide
  have z3 : sz 1 := by decide
  have z4 : sz (rs.length + 1) := by show _ ≤ 100000; omega
  have z5 : sz (1 + fs.length) := by show _ ≤ 100000; omega
  have z6 : sz (1 + rs.length) := by show _ ≤ 100000; omega
  have z7 : sz (1 + (fs.length - i)) := by show _ ≤ 100000; omega
  have z8 : sz (fs.length - i + 1 + min i fs.length) := by show _ ≤ 100000; omega
  have z9 : sz (rs.length - j + min j rs.length) := by show _ ≤ 100000; omega
  have z10 : sz (1 + (rs.length - j + min j rs.length)) := by show _ ≤ 100000; omega
  have z11 : sz 3 := by decide
  have z12 : sz (1 + (min j rs.length + (rs.length - j))) := by show _ ≤ 100000; omega
  simp only [W_, rD, sD, wT, List.map_cons, List.map_reverse, List.map_append, List.map_drop, List.map_take, List.map_nil, List.reverse_append] at e0 t0 t1 t2 w0 f1
  simp only [F_law_worlds_right, N_law_worlds_right, B_law_worlds_right, sSeq, sIf, bE, bR, bS, cTest, cOp, cOra, sOraP, oraPd, cC, cCall, cCons, cNil, cTup, cLst, cStar, itemsD_tup, itemsD_lst, cUn, cSl, cPart, cNoPart, cNot, cAnd, cOr, cChain, cAndV, cOrV, cNotV, cIf, cYes_ap, sSet, sRet, sRetN, sPass, sDrop, sPar, osCons, osNil, oIm, oLst, oList, setS, cVar, oR, gR, gd, fnD, fnR, fnC, cFn, cMk, cM1, cGive, cOpO, cOpOL, cCallO, cPopAt, popD, sApp, appD, sRem, ownL, sIfW, ifW, sTgt, tgName_ap, tgTup_ap, tgsCons_ap, tgsNil_ap, tgStar_ap, cSeqI, seqD_tup, seqD_lst, seqD_str, cRng1, rngD, cEnum, seqE_tup, seqE_lst, sFor, cLc, Env.set, Env.wipe, Env.back, wipeS, backS, iSeq, iEnd, iEndS, iTwo, iTwoS, isSelf, fnI, bSeq, bRet, fnB, cCallV, cMeth, sMatch, sBeg, sBegPar, sForF, env0, scO, DL.scal, atD_ins, isC_ins, dAdd, dSub, dMod, dMul, dFdiv, dPow, dLt, dLe, dGt, dGe, onI, onIc, addS, addT, addL, dInt, dLen_tup, dLen_lst, dLen_scr, dLen_str, dTuple_tup, dTuple_lst, dList_tup, dList_lst, dSl_tup, dSl_lst, dSl_scr, dSl_str, dIx_tup, dIx_lst, dIx_str, dIn, dNotInS_tup, dNotInS_lst, dEq, dNe, dIsN, dNotN, dMin2, dRev_lst, dJoin_lst, dJoin_tup, oraGet_left, oraGet_seed, oraGet_spot, oraGet_cells, oraPut_left, oraPut_seed, oraPut_spot, Option.map, Option.or, Option.bind, Option.isSome_some, Option.isSome_none, id, List.map_cons, List.map_nil, List.length_cons, List.length_nil, List.length_map, List.length_append, List.replicate, List.cons_append, List.nil_append, List.append_assoc, List.getElem?_cons_zero, List.getElem?_cons_succ, List.set_cons_zero, List.set_cons_succ, List.getD_cons_zero, List.getD_cons_succ, decide_true, decide_false, if_true, if_false, ite_true, ite_false, ↓reduceIte, reduceCtorEq, Nat.reduceAdd, Nat.reduceSub, Nat.reduceLT, Nat.reduceLeDiff, Nat.reduceEqDiff, Nat.zero_add, true_and, and_true, Bool.not_true, Bool.not_false, imp_self, Bool.true_and, Bool.and_true, Bool.false_eq_true, decide_eq_true_eq, forall_const, implies_true, List.mem_cons, List.not_mem_nil, or_false, forall_eq_or_imp, forall_eq, false_implies, eq_self, eqB_int, Int.cast_ofNat_Int, Int.natCast_add, Int.natCast_one, Int.reduceAdd, Int.reduceSub, Int.reduceLT, Int.reduceLE, Int.reduceEq, Int.reduceNeg, Bool.and_false, Bool.false_and, Bool.or_true, Bool.true_or, Bool.or_false, Bool.false_or, e0, t0, w0, r1, r2, z1, z2, z3, z4, d1, d2, cutL_drop, cutL_take, List.append_nil, List.length_drop, List.length_take, z5, z6, z7, z8, z9, z10, z11, z12, sD, rD, t1, t2, f1, cut1a, cut1b, List.length_reverse, List.reverse_append]
structure GoodC (fs : List Str) (ss : List (List Str)) : Prop where
  ne : ss ≠ []
  len : ss.length ≤ 16
  run : ∃ s1, RunS fs ([], []) ss s1
  look : ss.any isLook = true
theorem is_Copier_C : is_Copier "Copier" = some true := by kernel_rfl
theorem copiers_right {fs : List Str} {rs ss : List (List Str)} (o : Option Ora) (g : GoodW fs rs) (c : GoodC fs ss) : F_law_copiers_right [.tup (sD fs), .tup (rD rs), .tup (rD ss)] o = .ok (.bl true) o := by
  obtain ⟨s1, run⟩ := c.run
  have hR : Rows ss := ⟨by have := c.len; omega, run.row g.ww⟩
  have e0 := g.init o (gs := fs) (qs := rs) (.tup _) (.tup _) (List.Perm.refl _) (List.Perm.refl _)
  have t0 := text_of o (.tup _) hR
  have e1 := copier_init (rs0 := rs) o (.lst _) g.ww c.ne c.len run c.look
  have e2 := copier_text (w := W_ fs rs) o hR
  have e3 := read_copier (rs0 := rs) o g.ww c.ne c.len run c.look
  obtain ⟨r1, r2⟩ := repr2 hR.okT (Nat.le_trans hR.textLen (by decide))
  obtain ⟨r3, r4⟩ := reprR hR
  have e4 := g.eqI
  have e5 := copier_eq (fs := fs) (rs := rs) (ss := ss) none g.okf g.okr hR.ok
  have e6 : dEqI "Copier" F_Copier_eq (C_ (W_ fs rs) ss) (C_ (W_ fs rs) ss) = some (.bl true) := by
    show (if (Str.ofString "Copier") = "Copier" ∧ (Str.ofString "Copier") = "Copier" then (match F_Copier_eq [C_ (W_ fs rs) ss, C_ (W_ fs rs) ss] none with
      | .ok d none => some d
      | _ => none) else none) = _
    rw [if_pos ⟨rfl, rfl⟩, e5]
  have e7 := eqB_strT hR.okT
  have z2 : sz 2 := by decide
  simp only [C_] at e1 e2 e3 e6
  simp only [F_law_copiers_right, N_law_copiers_right, B_law_copiers_right, sSeq, sIf, bE, bR, bS, cTest, cOp, cOra, sOraP, oraPd, cC, cCall, cCons, cNil, cTup, cLst, cStar, itemsD_tup, itemsD_lst, cUn, cSl, cPart, cNoPart, cNot, cAnd, cOr, cChain, cAndV, cOrV, cNotV, cIf, cYes_ap, sSet, sRet, sRetN, sPass, sDrop, sPar, osCons, osNil, oIm, oLst, oList, setS, cVar, oR, gR, gd, fnD, fnR, fnC, cFn, cMk, cM1, cGive, cOpO, cOpOL, cCallO, cPopAt, popD, sApp, appD, sRem, ownL, sIfW, ifW, sTgt, tgName_ap, tgTup_ap, tgsCons_ap, tgsNil_ap, tgStar_ap, cSeqI, seqD_tup, seqD_lst, seqD_str, cRng1, rngD, cEnum, seqE_tup, seqE_lst, sFor, cLc, Env.set, Env.wipe, Env.back, wipeS, backS, iSeq, iEnd, iEndS, iTwo, iTwoS, isSelf, fnI, bSeq, bRet, fnB, cCallV, cMeth, sMatch, sBeg, sBegPar, sForF, env0, scO, DL.scal, atD_ins, isC_ins, dAdd, dSub, dMod, dMul, dFdiv, dPow, dLt, dLe, dGt, dGe, onI, onIc, addS, addT, addL, dInt, dLen_tup, dLen_lst, dLen_scr, dLen_str, dTuple_tup, dTuple_lst, dList_tup, dList_lst, dSl_tup, dSl_lst, dSl_scr, dSl_str, dIx_tup, dIx_lst, dIx_str, dIn, dNotInS_tup, dNotInS_lst, dEq, dNe, dIsN, dNotN, dMin2, dRev_lst, dJoin_lst, dJoin_tup, oraGet_left, oraGet_seed, oraGet_spot, oraGet_cells, oraPut_left, oraPut_seed, oraPut_spot, Option.map, Option.or, Option.bind, Option.isSome_some, Option.isSome_none, id, List.map_cons, List.map_nil, List.length_cons, List.length_nil, List.length_map, List.length_append, List.replicate, List.cons_append, List.nil_append, List.append_assoc, List.getElem?_cons_zero, List.getElem?_cons_succ, List.set_cons_zero, List.set_cons_succ, List.getD_cons_zero, List.getD_cons_succ, decide_true, decide_false, if_true, if_false, ite_true, ite_false, ↓reduceIte, reduceCtorEq, Nat.reduceAdd, Nat.reduceSub, Nat.reduceLT, Nat.reduceLeDiff, Nat.reduceEqDiff, Nat.zero_add, true_and, and_true, Bool.not_true, Bool.not_false, imp_self, Bool.true_and, Bool.and_true, Bool.false_eq_true, decide_eq_true_eq, forall_const, implies_true, List.mem_cons, List.not_mem_nil, or_false, forall_eq_or_imp, forall_eq, false_implies, eq_self, eqB_int, Int.cast_ofNat_Int, Int.natCast_add, Int.natCast_one, Int.reduceAdd, Int.reduceSub, Int.reduceLT, Int.reduceLE, Int.reduceEq, Int.reduceNeg, Bool.and_false, Bool.false_and, Bool.or_true, Bool.true_or, Bool.or_false, Bool.false_or, e0, t0, e1, e2, e3, e4, e6, e7, r1, r2, r3, r4, z2, is_Copier_C, at_steps_C, at_world_C, List.append_nil]
end LW

set_option Elab.async false
set_option linter.all false
set_option maxRecDepth 100000
set_option maxHeartbeats 4000000
namespace LW
open PySem DL
def menuF : List Str := ["a", "b", "ab", "ba", "zz", "q", "abcdefgh", "m"]
theorem menuF_nd : menuF.Nodup := by decide +kernel
theorem menuF_ww : ∀ x ∈ menuF, isWord x = true := by decide +kernel
theorem erase_map {α β : Type} (f : α → β) : ∀ (l : List α) (i : Nat), (l.map f).eraseIdx i = (l.eraseIdx i).map f
  | [], _ => rfl
  | _ :: _, 0 => rfl
  | x :: l, i + 1 => by simp only [List.map_cons, List.eraseIdx_cons_succ, erase_map f l i]
theorem erase_perm {α : Type} : ∀ {l : List α} {i : Nat} {x : α}, l[i]? = some x → (x :: l.eraseIdx i).Perm l
  | [], i, x, h => by simp at h
  | y :: l, 0, x, h => by simp at h; subst h; exact List.Perm.refl _
  | y :: l, i + 1, x, h => by
    simp at h
    exact (List.Perm.swap _ _ _).trans ((erase_perm h).cons y)
theorem folders_turn {n : Nat} {o : Ora} {rest found : List Str} {a b c : Slot} (k : Ok n o) (hn : n < 2 ^ 39) (hr : rest ≠ []) (hl : rest.length ≤ 100) (hf : found.length ≤ 100) :
    ∃ (i : Nat) (x : Str) (o' : Ora), rest[i]? = some x ∧ Ok (n + 1) o' ∧ law_folders_f1 ⟨[.im .dr, a, b, .ow (.lst (sD rest)), .ow (.lst (sD found))], some o⟩ = .ok (.nx ⟨[.im .dr, a, b, .ow (.lst (sD (rest.eraseIdx i))), .ow (.lst (sD (found ++ [x])))], some o'⟩) := by
  have h0 : 0 < rest.length := List.length_pos_iff.mpr hr
  obtain ⟨r, o', e, h1, h2, k'⟩ := draw (m := rest.length) k (by omega) (by omega) (by omega)
  obtain ⟨i, rfl⟩ := Int.eq_ofNat_of_zero_le h1
  have hi : i < rest.length := by omega
  refine ⟨i, rest[i], o', List.getElem?_eq_getElem hi, k', ?_⟩
  have e2 : (sD rest)[i]? = some (.str rest[i]) := by rw [sD, List.getElem?_map, List.getElem?_eq_getElem hi]; rfl
  have z : sz found.length := by show _ ≤ 100000; omega
  have g : (0 : Int) ≤ i ∧ (i : Int) < 100000 := ⟨by omega, by omega⟩
  simp only [sD] at e2
  simp only [law_folders_f1, sSeq, sIf, bE, bR, bS, cTest, cOp, cOra, sOraP, oraPd, cC, cCall, cCons, cNil, cTup, cLst, cStar, itemsD_tup, itemsD_lst, cUn, cSl, cPart, cNoPart, cNot, cAnd, cOr, cChain, cAndV, cOrV, cNotV, cIf, cYes_ap, sSet, sRet, sRetN, sPass, sDrop, sPar, osCons, osNil, oIm, oLst, oList, setS, cVar, oR, gR, gd, fnD, fnR, fnC, cFn, cMk, cM1, cGive, cOpO, cOpOL, cCallO, cPopAt, popD, sApp, appD, sRem, ownL, sIfW, ifW, sTgt, tgName_ap, tgTup_ap, tgsCons_ap, tgsNil_ap, tgStar_ap, cSeqI, seqD_tup, seqD_lst, seqD_str, cRng1, rngD, cEnum, seqE_tup, seqE_lst, sFor, cLc, Env.set, Env.wipe, Env.back, wipeS, backS, iSeq, iEnd, iEndS, iTwo, iTwoS, isSelf, fnI, bSeq, bRet, fnB, cCallV, cMeth, sMatch, sBeg, sBegPar, sForF, env0, scO, DL.scal, atD_ins, isC_ins, dAdd, dSub, dMod, dMul, dFdiv, dPow, dLt, dLe, dGt, dGe, onI, onIc, addS, addT, addL, dInt, dLen_tup, dLen_lst, dLen_scr, dLen_str, dTuple_tup, dTuple_lst, dList_tup, dList_lst, dSl_tup, dSl_lst, dSl_scr, dSl_str, dIx_tup, dIx_lst, dIx_str, dIn, dNotInS_tup, dNotInS_lst, dEq, dNe, dIsN, dNotN, dMin2, dRev_lst, dJoin_lst, dJoin_tup, oraGet_left, oraGet_seed, oraGet_spot, oraGet_cells, oraPut_left, oraPut_seed, oraPut_spot, Option.map, Option.or, Option.bind, Option.isSome_some, Option.isSome_none, id, List.map_cons, List.map_nil, List.length_cons, List.length_nil, List.length_map, List.length_append, List.replicate, List.cons_append, List.nil_append, List.append_assoc, List.getElem?_cons_zero, List.getElem?_cons_succ, List.set_cons_zero, List.set_cons_succ, List.getD_cons_zero, List.getD_cons_succ, decide_true, decide_false, if_true, if_false, ite_true, ite_false, ↓reduceIte, reduceCtorEq, Nat.reduceAdd, Nat.reduceSub, Nat.reduceLT, Nat.reduceLeDiff, Nat.reduceEqDiff, Nat.zero_add, true_and, and_true, Bool.not_true, Bool.not_false, imp_self, Bool.true_and, Bool.and_true, Bool.false_eq_true, decide_eq_true_eq, forall_const, implies_true, List.mem_cons, List.not_mem_nil, or_false, forall_eq_or_imp, forall_eq, false_implies, eq_self, eqB_int, Int.cast_ofNat_Int, Int.natCast_add, Int.natCast_one, Int.reduceAdd, Int.reduceSub, Int.reduceLT, Int.reduceLE, Int.reduceEq, Int.reduceNeg, Bool.and_false, Bool.false_and, Bool.or_true, Bool.true_or, Bool.or_false, Bool.false_or, e, Int.toNat_natCast, e2, g, z, erase_map, sD, List.map_append]
theorem folders {n : Nat} {o : Ora} {m : Int} (k : Ok n o) (hn : n < 2 ^ 38) (hm : 0 < m) (hm4 : m ≤ 4) : ∃ fs o', F_law_folders [.dr, .int m] (some o) = .ok (.tup (sD fs)) (some o') ∧ Ok (n + 10) o' ∧ fs ≠ [] ∧ fs.length ≤ 4 ∧ fs.Nodup ∧ (∀ x ∈ fs, isWord x = true) ∧ ascS fs := by
  obtain ⟨r, o1, e1, h1, h2, k1⟩ := draw (m := m) k (by omega) hm (by omega)
  have hj : (1 + r).toNat ≤ 4 ∧ 1 ≤ (1 + r).toNat := by omega
  obtain ⟨ρ', f1, rest, found, o2, x, rfl, k2, hp, hl⟩ := forD_inv (enc := fun i : Nat => D.int (0 + (i : Nat))) (g := tgName 2) (body := law_folders_f1) (List.range (1 + r).toNat)
    (fun pre ρ => ∃ rest found o' x, ρ = ⟨[.im .dr, .im (.int m), x, .ow (.lst (sD rest)), .ow (.lst (sD found))], some o'⟩ ∧ Ok (n + 1 + pre.length) o' ∧ (rest ++ found).Perm menuF ∧ found.length = pre.length)
    (fun pre y post ρ hall ⟨rest, found, o', x, hρ, k', hp, hl⟩ => by
      subst hρ
      have hlen := congrArg List.length hall
      simp only [List.length_range, List.length_append, List.length_cons] at hlen
      have hpl := hp.length_eq
      have h8 : menuF.length = 8 := rfl
      simp only [List.length_append] at hpl
      have hr : rest ≠ [] := fun e => by rw [e] at hpl; simp at hpl; omega
      obtain ⟨i, z, o3, hz, k3, e3⟩ := folders_turn (rest := rest) (found := found) (a := .im (.int m)) (b := .im (.int (0 + (y : Nat)))) (c := .no) k' (by omega) hr (by omega) (by omega)
      refine ⟨_, _, rfl, e3, rest.eraseIdx i, found ++ [z], o3, _, rfl, ?_, ?_, ?_⟩
      · simp only [List.length_append, List.length_cons, List.length_nil]
        exact k3
      · have p1 := erase_perm hz
        refine List.Perm.trans ?_ hp
        refine List.Perm.trans ?_ (p1.append_right found)
        rw [← List.append_assoc]
        exact List.perm_append_comm
      · simp [hl]) (ρ := ⟨[.im .dr, .im (.int m), .no, .ow (.lst (sD menuF)), .ow (.lst (sD []))], some o1⟩) ⟨menuF, [], o1, .no, rfl, k1, by simp, rfl⟩
  have hrng : (-100000 : Int) ≤ 1 + r ∧ 1 + r ≤ 100000 := ⟨by omega, by omega⟩
  simp only [List.length_range] at hl k2
  obtain ⟨fs, es, pf, af⟩ := dSorted_lstS_ex (l := found) (by omega)
  have nd : found.Nodup := (List.nodup_append.mp (hp.nodup_iff.mpr menuF_nd)).2.1
  refine ⟨fs, o2, ?_, ⟨k2.ne, k2.lo, by have := k2.hi; omega⟩, ?_, ?_, pf.nodup_iff.mpr nd, fun x hx => menuF_ww x (hp.mem_iff.mp (by simp [pf.mem_iff.mp hx])), af⟩
  · simp only [sD, menuF, List.map_cons, List.map_nil] at f1
    have z8 : sz 8 := by decide
    have z0 : sz 0 := by decide
    simp only [F_law_folders, N_law_folders, B_law_folders, sSeq, sIf, bE, bR, bS, cTest, cOp, cOra, sOraP, oraPd, cC, cCall, cCons, cNil, cTup, cLst, cStar, itemsD_tup, itemsD_lst, cUn, cSl, cPart, cNoPart, cNot, cAnd, cOr, cChain, cAndV, cOrV, cNotV, cIf, cYes_ap, sSet, sRet, sRetN, sPass, sDrop, sPar, osCons, osNil, oIm, oLst, oList, setS, cVar, oR, gR, gd, fnD, fnR, fnC, cFn, cMk, cM1, cGive, cOpO, cOpOL, cCallO, cPopAt, popD, sApp, appD, sRem, ownL, sIfW, ifW, sTgt, tgName_ap, tgTup_ap, tgsCons_ap, tgsNil_ap, tgStar_ap, cSeqI, seqD_tup, seqD_lst, seqD_str, cRng1, rngD, cEnum, seqE_tup, seqE_lst, sFor, cLc, Env.set, Env.wipe, Env.back, wipeS, backS, iSeq, iEnd, iEndS, iTwo, iTwoS, isSelf, fnI, bSeq, bRet, fnB, cCallV, cMeth, sMatch, sBeg, sBegPar, sForF, env0, scO, DL.scal, atD_ins, isC_ins, dAdd, dSub, dMod, dMul, dFdiv, dPow, dLt, dLe, dGt, dGe, onI, onIc, addS, addT, addL, dInt, dLen_tup, dLen_lst, dLen_scr, dLen_str, dTuple_tup, dTuple_lst, dList_tup, dList_lst, dSl_tup, dSl_lst, dSl_scr, dSl_str, dIx_tup, dIx_lst, dIx_str, dIn, dNotInS_tup, dNotInS_lst, dEq, dNe, dIsN, dNotN, dMin2, dRev_lst, dJoin_lst, dJoin_tup, oraGet_left, oraGet_seed, oraGet_spot, oraGet_cells, oraPut_left, oraPut_seed, oraPut_spot, Option.map, Option.or, Option.bind, Option.isSome_some, Option.isSome_none, id, List.map_cons, List.map_nil, List.length_cons, List.length_nil, List.length_map, List.length_append, List.replicate, List.cons_append, List.nil_append, List.append_assoc, List.getElem?_cons_zero, List.getElem?_cons_succ, List.set_cons_zero, List.set_cons_succ, List.getD_cons_zero, List.getD_cons_succ, decide_true, decide_false, if_true, if_false, ite_true, ite_false, ↓reduceIte, reduceCtorEq, Nat.reduceAdd, Nat.reduceSub, Nat.reduceLT, Nat.reduceLeDiff, Nat.reduceEqDiff, Nat.zero_add, true_and, and_true, Bool.not_true, Bool.not_false, imp_self, Bool.true_and, Bool.and_true, Bool.false_eq_true, decide_eq_true_eq, forall_const, implies_true, List.mem_cons, List.not_mem_nil, or_false, forall_eq_or_imp, forall_eq, false_implies, eq_self, eqB_int, Int.cast_ofNat_Int, Int.natCast_add, Int.natCast_one, Int.reduceAdd, Int.reduceSub, Int.reduceLT, Int.reduceLE, Int.reduceEq, Int.reduceNeg, Bool.and_false, Bool.false_and, Bool.or_true, Bool.true_or, Bool.or_false, Bool.false_or, e1, z8, z0, hrng, f1, es, sD]
  · intro e; rw [e] at pf; have := pf.length_eq; simp at this; omega
  · have := pf.length_eq; omega
end LW

set_option Elab.async false
set_option linter.all false
set_option maxRecDepth 100000
set_option maxHeartbeats 4000000
namespace LW
open PySem DL
theorem isWord_of {x : Str} (h1 : 1 ≤ x.cps.toList.length) (h2 : x.cps.toList.length ≤ 8) (h3 : ∀ c ∈ x.cps.toList, c ∈ lettersS.cps.toList) : isWord x = true := by
  have hx : x.cps.toList.length = x.length := by simp [Str.length]
  unfold isWord
  simp only [Bool.and_eq_true, decide_eq_true_eq, List.all_eq_true]
  exact ⟨⟨by omega, by omega⟩, fun c hc => by simpa [isLet] using h3 c hc⟩
theorem tl_cutA (x : Str) (k : Nat) : (L2.cutS x none (some (k : Int))).cps.toList = x.cps.toList.take k := by
  have hx : x.length = x.cps.toList.length := by simp [Str.length]
  have := cutL_take x.cps.toList k
  unfold cutL at this
  unfold L2.cutS
  rw [hx]
  simpa using this
theorem tl_cutB (x : Str) (k : Nat) : (L2.cutS x (some (k : Int)) none).cps.toList = x.cps.toList.drop k := by
  have hx : x.length = x.cps.toList.length := by simp [Str.length]
  have := cutL_drop x.cps.toList k
  unfold cutL at this
  unfold L2.cutS
  rw [hx]
  simpa using this
theorem joinL_flat : ∀ l : List (List Nat), TL.joinL [] l = l.flatten
  | [] => rfl
  | [p] => by simp [TL.joinL]
  | p :: q :: r => by
    show p ++ ([] ++ TL.joinL [] (q :: r)) = _
    rw [joinL_flat (q :: r)]; simp
theorem tl_base (cs : List Nat) : (Txt.join "" (cs.map fun c => (⟨#[c]⟩ : Str))).cps.toList = cs := by
  rw [TL.join_eq]
  show TL.tl _ = _
  rw [TL.tl_join]
  have : TL.tl (Str.ofString "") = [] := by decide +kernel
  rw [this, joinL_flat, List.map_map]
  induction cs with
  | nil => rfl
  | cons c cs ih => simp only [List.map_cons, List.flatten_cons, ih]; rfl
def kwL : List Str := ["folders", "make", "drop", "link", "move", "look", "check", "sure", "hold", "free", "tick"]
theorem kwL_ww : ∀ x ∈ kwL, isWord x = true := by decide +kernel
theorem mem_sD {l : List Str} {d : D} (h : d ∈ sD l) : ∃ x ∈ l, d = .str x := by
  obtain ⟨x, hx, rfl⟩ := List.mem_map.mp h
  exact ⟨x, hx, rfl⟩
/-- the state of the drawn names -/
def anyE (way : Int) (base : Str) (found : List Str) (a b c d : Slot) (o : Ora) : DL.Env :=
  ⟨[.im .dr, .im (.int way), .im (.lst (sD kwL)), .im (.str lettersS), .im (.str base), .ow (.lst (sD found)), a, b, c, d], some o⟩
theorem any_turn {n : Nat} {o : Ora} {way : Int} {base : Str} {found : List Str} {a b c d : Slot} (k : Ok n o) (hn : n < 2 ^ 38) (hb : isWord base = true) (hf : ∀ x ∈ found, isWord x = true) (hl : found.length ≤ 100) :
    ∃ (x : Str) (o' : Ora) (b' c' d' : Slot), isWord x = true ∧ Ok (n + 3) o' ∧ law_any_folders_f1 (anyE way base found a b c d o) = .ok (.nx (anyE way base (if x ∈ found then found else found ++ [x]) a b' c' d' o')) := by
  have hb1 := isWord_len hb
  have hbl : base.length = base.cps.toList.length := by simp [Str.length]
  have zb : sz base.length := by show _ ≤ 100000; omega
  obtain ⟨r, o1, e1, h1, h2, k1⟩ := draw (m := base.length) k (by omega) (by omega) (by omega)
  obtain ⟨i, rfl⟩ := Int.eq_ofNat_of_zero_le h1
  have hlet : lettersS.cps.toList ≠ [] := by decide +kernel
  have hlet2 : lettersS.length ≤ 100000 := by decide +kernel
  obtain ⟨ch, o2, e2, hc, k2⟩ := of_str (z := lettersS) k1 (by omega) hlet hlet2
  have hbl' : ∀ c ∈ base.cps.toList, c ∈ lettersS.cps.toList := fun c hc => isWord_let hb hc
  let near : Str := L2.cutS base none (some (i : Int)) ++ ⟨#[ch]⟩ ++ L2.cutS base (some ((i : Int) + 1)) none
  have tn : near.cps.toList = base.cps.toList.take i ++ [ch] ++ base.cps.toList.drop (i + 1) := by
    show TL.tl _ = _
    rw [TL.tl_append, TL.tl_append]
    have e3 := tl_cutA base i
    have e4 := tl_cutB base (i + 1)
    simp only [Int.natCast_add, Int.natCast_one] at e4
    show (L2.cutS base none (some (i : Int))).cps.toList ++ [ch] ++ (L2.cutS base (some ((i : Int) + 1)) none).cps.toList = _
    rw [e3, e4]
  have ln : near.cps.toList.length = base.length := by
    rw [tn]
    simp only [List.length_append, List.length_take, List.length_drop, List.length_cons, List.length_nil]
    omega
  have wn : isWord near = true := isWord_of (by omega) (by omega) fun c hc' => by
    rw [tn] at hc'
    simp only [List.mem_append, List.mem_cons, List.not_mem_nil, or_false] at hc'
    rcases hc' with (h | h) | h
    · exact hbl' c (List.mem_of_mem_take h)
    · rw [h]; exact hc
    · exact hbl' c (List.mem_of_mem_drop h)
  have la : (L2.cutS base none (some (i : Int))).length ≤ 8 := by
    have e3 := tl_cutA base i
    have : (L2.cutS base none (some (i : Int))).length = (L2.cutS base none (some (i : Int))).cps.toList.length := by simp [Str.length]
    rw [this, e3, List.length_take]; omega
  have lb : (L2.cutS base (some ((i : Int) + 1)) none).length ≤ 8 := by
    have e4 := tl_cutB base (i + 1)
    simp only [Int.natCast_add, Int.natCast_one] at e4
    have : (L2.cutS base (some ((i : Int) + 1)) none).length = (L2.cutS base (some ((i : Int) + 1)) none).cps.toList.length := by simp [Str.length]
    rw [this, e4, List.length_drop]; omega
  have l1 : (⟨#[ch]⟩ : Str).length = 1 := rfl
  have z1 : sz ((L2.cutS base none (some (i : Int))).length + (⟨#[ch]⟩ : Str).length) := by show _ ≤ 100000; omega
  have z2 : sz ((L2.cutS base none (some (i : Int)) ++ (⟨#[ch]⟩ : Str)).length + (L2.cutS base (some ((i : Int) + 1)) none).length) := by
    show _ ≤ 100000
    rw [Str.length_append]; omega
  have z3 : sz found.length := by show _ ≤ 100000; omega
  have okf : okW found := fun x hx => isWord_ok (hf x hx)
  by_cases hw : way = 1
  · obtain ⟨x, o3, e5, hx, k3⟩ := of_lst (l := sD kwL) k2 (by omega) (by decide +kernel) (by decide +kernel)
    obtain ⟨y, hy, rfl⟩ := mem_sD hx
    have wx := kwL_ww y hy
    have e6 := inB_lstS (isWord_ok wx) okf
    refine ⟨y, o3, .im (.int i), .im (.str near), .im (.str y), wx, k3, ?_⟩
    by_cases hin : y ∈ found
    · simp only [anyE, law_any_folders_f1, sSeq, sIf, bE, bR, bS, cTest, cOp, cOra, sOraP, oraPd, cC, cCall, cCons, cNil, cTup, cLst, cStar, itemsD_tup, itemsD_lst, cUn, cSl, cPart, cNoPart, cNot, cAnd, cOr, cChain, cAndV, cOrV, cNotV, cIf, cYes_ap, sSet, sRet, sRetN, sPass, sDrop, sPar, osCons, osNil, oIm, oLst, oList, setS, cVar, oR, gR, gd, fnD, fnR, fnC, cFn, cMk, cM1, cGive, cOpO, cOpOL, cCallO, cPopAt, popD, sApp, appD, sRem, ownL, sIfW, ifW, sTgt, tgName_ap, tgTup_ap, tgsCons_ap, tgsNil_ap, tgStar_ap, cSeqI, seqD_tup, seqD_lst, seqD_str, cRng1, rngD, cEnum, seqE_tup, seqE_lst, sFor, cLc, Env.set, Env.wipe, Env.back, wipeS, backS, iSeq, iEnd, iEndS, iTwo, iTwoS, isSelf, fnI, bSeq, bRet, fnB, cCallV, cMeth, sMatch, sBeg, sBegPar, sForF, env0, scO, DL.scal, atD_ins, isC_ins, dAdd, dSub, dMod, dMul, dFdiv, dPow, dLt, dLe, dGt, dGe, onI, onIc, addS, addT, addL, dInt, dLen_tup, dLen_lst, dLen_scr, dLen_str, dTuple_tup, dTuple_lst, dList_tup, dList_lst, dSl_tup, dSl_lst, dSl_scr, dSl_str, dIx_tup, dIx_lst, dIx_str, dIn, dNotInS_tup, dNotInS_lst, dEq, dNe, dIsN, dNotN, dMin2, dRev_lst, dJoin_lst, dJoin_tup, oraGet_left, oraGet_seed, oraGet_spot, oraGet_cells, oraPut_left, oraPut_seed, oraPut_spot, Option.map, Option.or, Option.bind, Option.isSome_some, Option.isSome_none, id, List.map_cons, List.map_nil, List.length_cons, List.length_nil, List.length_map, List.length_append, List.replicate, List.cons_append, List.nil_append, List.append_assoc, List.getElem?_cons_zero, List.getElem?_cons_succ, List.set_cons_zero, List.set_cons_succ, List.getD_cons_zero, List.getD_cons_succ, decide_true, decide_false, if_true, if_false, ite_true, ite_false, ↓reduceIte, reduceCtorEq, Nat.reduceAdd, Nat.reduceSub, Nat.reduceLT, Nat.reduceLeDiff, Nat.reduceEqDiff, Nat.zero_add, true_and, and_true, Bool.not_true, Bool.not_false, imp_self, Bool.true_and, Bool.and_true, Bool.false_eq_true, decide_eq_true_eq, forall_const, implies_true, List.mem_cons, List.not_mem_nil, or_false, forall_eq_or_imp, forall_eq, false_implies, eq_self, eqB_int, Int.cast_ofNat_Int, Int.natCast_add, Int.natCast_one, Int.reduceAdd, Int.reduceSub, Int.reduceLT, Int.reduceLE, Int.reduceEq, Int.reduceNeg, Bool.and_false, Bool.false_and, Bool.or_true, Bool.true_or, Bool.or_false, Bool.false_or, e1, e2, e5, e6, hw, zb, z1, z2, hin, near]
    · simp only [anyE, law_any_folders_f1, sSeq, sIf, bE, bR, bS, cTest, cOp, cOra, sOraP, oraPd, cC, cCall, cCons, cNil, cTup, cLst, cStar, itemsD_tup, itemsD_lst, cUn, cSl, cPart, cNoPart, cNot, cAnd, cOr, cChain, cAndV, cOrV, cNotV, cIf, cYes_ap, sSet, sRet, sRetN, sPass, sDrop, sPar, osCons, osNil, oIm, oLst, oList, setS, cVar, oR, gR, gd, fnD, fnR, fnC, cFn, cMk, cM1, cGive, cOpO, cOpOL, cCallO, cPopAt, popD, sApp, appD, sRem, ownL, sIfW, ifW, sTgt, tgName_ap, tgTup_ap, tgsCons_ap, tgsNil_ap, tgStar_ap, cSeqI, seqD_tup, seqD_lst, seqD_str, cRng1, rngD, cEnum, seqE_tup, seqE_lst, sFor, cLc, Env.set, Env.wipe, Env.back, wipeS, backS, iSeq, iEnd, iEndS, iTwo, iTwoS, isSelf, fnI, bSeq, bRet, fnB, cCallV, cMeth, sMatch, sBeg, sBegPar, sForF, env0, scO, DL.scal, atD_ins, isC_ins, dAdd, dSub, dMod, dMul, dFdiv, dPow, dLt, dLe, dGt, dGe, onI, onIc, addS, addT, addL, dInt, dLen_tup, dLen_lst, dLen_scr, dLen_str, dTuple_tup, dTuple_lst, dList_tup, dList_lst, dSl_tup, dSl_lst, dSl_scr, dSl_str, dIx_tup, dIx_lst, dIx_str, dIn, dNotInS_tup, dNotInS_lst, dEq, dNe, dIsN, dNotN, dMin2, dRev_lst, dJoin_lst, dJoin_tup, oraGet_left, oraGet_seed, oraGet_spot, oraGet_cells, oraPut_left, oraPut_seed, oraPut_spot, Option.map, Option.or, Option.bind, Option.isSome_some, Option.isSome_none, id, List.map_cons, List.map_nil, List.length_cons, List.length_nil, List.length_map, List.length_append, List.replicate, List.cons_append, List.nil_append, List.append_assoc, List.getElem?_cons_zero, List.getElem?_cons_succ, List.set_cons_zero, List.set_cons_succ, List.getD_cons_zero, List.getD_cons_succ, decide_true, decide_false, if_true, if_false, ite_true, ite_false, ↓reduceIte, reduceCtorEq, Nat.reduceAdd, Nat.reduceSub, Nat.reduceLT, Nat.reduceLeDiff, Nat.reduceEqDiff, Nat.zero_add, true_and, and_true, Bool.not_true, Bool.not_false, imp_self, Bool.true_and, Bool.and_true, Bool.false_eq_true, decide_eq_true_eq, forall_const, implies_true, List.mem_cons, List.not_mem_nil, or_false, forall_eq_or_imp, forall_eq, false_implies, eq_self, eqB_int, Int.cast_ofNat_Int, Int.natCast_add, Int.natCast_one, Int.reduceAdd, Int.reduceSub, Int.reduceLT, Int.reduceLE, Int.reduceEq, Int.reduceNeg, Bool.and_false, Bool.false_and, Bool.or_true, Bool.true_or, Bool.or_false, Bool.false_or, e1, e2, e5, e6, hw, zb, z1, z2, z3, hin, sD, List.map_append, near]
  · have e6 := inB_lstS (isWord_ok wn) okf
    refine ⟨near, o2, .im (.int i), .im (.str near), .im (.str near), wn, ⟨k2.ne, k2.lo, by have := k2.hi; omega⟩, ?_⟩
    by_cases hin : near ∈ found
    · simp only [near] at e6 hin ⊢
      simp only [anyE, law_any_folders_f1, sSeq, sIf, bE, bR, bS, cTest, cOp, cOra, sOraP, oraPd, cC, cCall, cCons, cNil, cTup, cLst, cStar, itemsD_tup, itemsD_lst, cUn, cSl, cPart, cNoPart, cNot, cAnd, cOr, cChain, cAndV, cOrV, cNotV, cIf, cYes_ap, sSet, sRet, sRetN, sPass, sDrop, sPar, osCons, osNil, oIm, oLst, oList, setS, cVar, oR, gR, gd, fnD, fnR, fnC, cFn, cMk, cM1, cGive, cOpO, cOpOL, cCallO, cPopAt, popD, sApp, appD, sRem, ownL, sIfW, ifW, sTgt, tgName_ap, tgTup_ap, tgsCons_ap, tgsNil_ap, tgStar_ap, cSeqI, seqD_tup, seqD_lst, seqD_str, cRng1, rngD, cEnum, seqE_tup, seqE_lst, sFor, cLc, Env.set, Env.wipe, Env.back, wipeS, backS, iSeq, iEnd, iEndS, iTwo, iTwoS, isSelf, fnI, bSeq, bRet, fnB, cCallV, cMeth, sMatch, sBeg, sBegPar, sForF, env0, scO, DL.scal, atD_ins, isC_ins, dAdd, dSub, dMod, dMul, dFdiv, dPow, dLt, dLe, dGt, dGe, onI, onIc, addS, addT, addL, dInt, dLen_tup, dLen_lst, dLen_scr, dLen_str, dTuple_tup, dTuple_lst, dList_tup, dList_lst, dSl_tup, dSl_lst, dSl_scr, dSl_str, dIx_tup, dIx_lst, dIx_str, dIn, dNotInS_tup, dNotInS_lst, dEq, dNe, dIsN, dNotN, dMin2, dRev_lst, dJoin_lst, dJoin_tup, oraGet_left, oraGet_seed, oraGet_spot, oraGet_cells, oraPut_left, oraPut_seed, oraPut_spot, Option.map, Option.or, Option.bind, Option.isSome_some, Option.isSome_none, id, List.map_cons, List.map_nil, List.length_cons, List.length_nil, List.length_map, List.length_append, List.replicate, List.cons_append, List.nil_append, List.append_assoc, List.getElem?_cons_zero, List.getElem?_cons_succ, List.set_cons_zero, List.set_cons_succ, List.getD_cons_zero, List.getD_cons_succ, decide_true, decide_false, if_true, if_false, ite_true, ite_false, ↓reduceIte, reduceCtorEq, Nat.reduceAdd, Nat.reduceSub, Nat.reduceLT, Nat.reduceLeDiff, Nat.reduceEqDiff, Nat.zero_add, true_and, and_true, Bool.not_true, Bool.not_false, imp_self, Bool.true_and, Bool.and_true, Bool.false_eq_true, decide_eq_true_eq, forall_const, implies_true, List.mem_cons, List.not_mem_nil, or_false, forall_eq_or_imp, forall_eq, false_implies, eq_self, eqB_int, Int.cast_ofNat_Int, Int.natCast_add, Int.natCast_one, Int.reduceAdd, Int.reduceSub, Int.reduceLT, Int.reduceLE, Int.reduceEq, Int.reduceNeg, Bool.and_false, Bool.false_and, Bool.or_true, Bool.true_or, Bool.or_false, Bool.false_or, e1, e2, e6, hw, zb, z1, z2, hin, near]
    · simp only [near] at e6 hin ⊢
      simp only [anyE, law_any_folders_f1, sSeq, sIf, bE, bR, bS, cTest, cOp, cOra, sOraP, oraPd, cC, cCall, cCons, cNil, cTup, cLst, cStar, itemsD_tup, itemsD_lst, cUn, cSl, cPart, cNoPart, cNot, cAnd, cOr, cChain, cAndV, cOrV, cNotV, cIf, cYes_ap, sSet, sRet, sRetN, sPass, sDrop, sPar, osCons, osNil, oIm, oLst, oList, setS, cVar, oR, gR, gd, fnD, fnR, fnC, cFn, cMk, cM1, cGive, cOpO, cOpOL, cCallO, cPopAt, popD, sApp, appD, sRem, ownL, sIfW, ifW, sTgt, tgName_ap, tgTup_ap, tgsCons_ap, tgsNil_ap, tgStar_ap, cSeqI, seqD_tup, seqD_lst, seqD_str, cRng1, rngD, cEnum, seqE_tup, seqE_lst, sFor, cLc, Env.set, Env.wipe, Env.back, wipeS, backS, iSeq, iEnd, iEndS, iTwo, iTwoS, isSelf, fnI, bSeq, bRet, fnB, cCallV, cMeth, sMatch, sBeg, sBegPar, sForF, env0, scO, DL.scal, atD_ins, isC_ins, dAdd, dSub, dMod, dMul, dFdiv, dPow, dLt, dLe, dGt, dGe, onI, onIc, addS, addT, addL, dInt, dLen_tup, dLen_lst, dLen_scr, dLen_str, dTuple_tup, dTuple_lst, dList_tup, dList_lst, dSl_tup, dSl_lst, dSl_scr, dSl_str, dIx_tup, dIx_lst, dIx_str, dIn, dNotInS_tup, dNotInS_lst, dEq, dNe, dIsN, dNotN, dMin2, dRev_lst, dJoin_lst, dJoin_tup, oraGet_left, oraGet_seed, oraGet_spot, oraGet_cells, oraPut_left, oraPut_seed, oraPut_spot, Option.map, Option.or, Option.bind, Option.isSome_some, Option.isSome_none, id, List.map_cons, List.map_nil, List.length_cons, List.length_nil, List.length_map, List.length_append, List.replicate, List.cons_append, List.nil_append, List.append_assoc, List.getElem?_cons_zero, List.getElem?_cons_succ, List.set_cons_zero, List.set_cons_succ, List.getD_cons_zero, List.getD_cons_succ, decide_true, decide_false, if_true, if_false, ite_true, ite_false, ↓reduceIte, reduceCtorEq, Nat.reduceAdd, Nat.reduceSub, Nat.reduceLT, Nat.reduceLeDiff, Nat.reduceEqDiff, Nat.zero_add, true_and, and_true, Bool.not_true, Bool.not_false, imp_self, Bool.true_and, Bool.and_true, Bool.false_eq_true, decide_eq_true_eq, forall_const, implies_true, List.mem_cons, List.not_mem_nil, or_false, forall_eq_or_imp, forall_eq, false_implies, eq_self, eqB_int, Int.cast_ofNat_Int, Int.natCast_add, Int.natCast_one, Int.reduceAdd, Int.reduceSub, Int.reduceLT, Int.reduceLE, Int.reduceEq, Int.reduceNeg, Bool.and_false, Bool.false_and, Bool.or_true, Bool.true_or, Bool.or_false, Bool.false_or, e1, e2, e6, hw, zb, z1, z2, z3, hin, sD, List.map_append, near]
/-- a drawn word of letters -/
theorem base_draw {n : Nat} {o : Ora} {way : Int} {N : Nat} (k : Ok n o) (hn : n < 2 ^ 38) (hN : N ≤ 8) : ∃ (cs : List Nat) (o' : Ora), lcD (tgName 6) cYes law_any_folders_e1 [6] ((List.range N).map fun i => D.int (0 + (i : Nat))) [] ⟨[.im .dr, .im (.int way), .im (.lst (sD kwL)), .im (.str lettersS), .no, .no, .no, .no, .no, .no], some o⟩ = some (cs.map fun c => D.str ⟨#[c]⟩, ⟨[.im .dr, .im (.int way), .im (.lst (sD kwL)), .im (.str lettersS), .no, .no, .no, .no, .no, .no], some o'⟩) ∧ cs.length = N ∧ (∀ c ∈ cs, c ∈ lettersS.cps.toList) ∧ Ok (n + N) o' := by
  have hlet : lettersS.cps.toList ≠ [] := by decide +kernel
  have hlet2 : lettersS.length ≤ 100000 := by decide +kernel
  obtain ⟨r, ρ', e, cs, o', rfl, hl, hc, rfl, k'⟩ := lc_inv (enc := fun i : Nat => D.int (0 + (i : Nat))) (g := tgName 6) (p := cYes) (f := law_any_folders_e1) (vs := [6]) (List.range N) (by simp; omega)
    (fun pre acc ρ => ∃ (cs : List Nat) (o' : Ora), acc = (cs.map fun c => D.str ⟨#[c]⟩) ∧ cs.length = pre.length ∧ (∀ c ∈ cs, c ∈ lettersS.cps.toList) ∧ ρ = ⟨[.im .dr, .im (.int way), .im (.lst (sD kwL)), .im (.str lettersS), .no, .no, .no, .no, .no, .no], some o'⟩ ∧ Ok (n + pre.length) o')
    (fun pre y post acc ρ hall ⟨cs, o', ha, hl, hc, hρ, k'⟩ => by
      subst hρ ha
      have hlen := congrArg List.length hall
      simp only [List.length_range, List.length_append, List.length_cons] at hlen
      obtain ⟨c, o2, e2, hm, k2⟩ := of_str (z := lettersS) k' (by omega) hlet hlet2
      refine ⟨_, rfl, .inr ⟨_, D.str ⟨#[c]⟩, ⟨[.im .dr, .im (.int way), .im (.lst (sD kwL)), .im (.str lettersS), .no, .no, .im (.int (0 + (y : Nat))), .no, .no, .no], some o2⟩, rfl, ?_, cs ++ [c], o2, by simp, by simp [hl], ?_, rfl, by simp only [List.length_append, List.length_cons, List.length_nil]; exact k2⟩⟩
      · simp only [law_any_folders_e1, sSeq, sIf, bE, bR, bS, cTest, cOp, cOra, sOraP, oraPd, cC, cCall, cCons, cNil, cTup, cLst, cStar, itemsD_tup, itemsD_lst, cUn, cSl, cPart, cNoPart, cNot, cAnd, cOr, cChain, cAndV, cOrV, cNotV, cIf, cYes_ap, sSet, sRet, sRetN, sPass, sDrop, sPar, osCons, osNil, oIm, oLst, oList, setS, cVar, oR, gR, gd, fnD, fnR, fnC, cFn, cMk, cM1, cGive, cOpO, cOpOL, cCallO, cPopAt, popD, sApp, appD, sRem, ownL, sIfW, ifW, sTgt, tgName_ap, tgTup_ap, tgsCons_ap, tgsNil_ap, tgStar_ap, cSeqI, seqD_tup, seqD_lst, seqD_str, cRng1, rngD, cEnum, seqE_tup, seqE_lst, sFor, cLc, Env.set, Env.wipe, Env.back, wipeS, backS, iSeq, iEnd, iEndS, iTwo, iTwoS, isSelf, fnI, bSeq, bRet, fnB, cCallV, cMeth, sMatch, sBeg, sBegPar, sForF, env0, scO, DL.scal, atD_ins, isC_ins, dAdd, dSub, dMod, dMul, dFdiv, dPow, dLt, dLe, dGt, dGe, onI, onIc, addS, addT, addL, dInt, dLen_tup, dLen_lst, dLen_scr, dLen_str, dTuple_tup, dTuple_lst, dList_tup, dList_lst, dSl_tup, dSl_lst, dSl_scr, dSl_str, dIx_tup, dIx_lst, dIx_str, dIn, dNotInS_tup, dNotInS_lst, dEq, dNe, dIsN, dNotN, dMin2, dRev_lst, dJoin_lst, dJoin_tup, oraGet_left, oraGet_seed, oraGet_spot, oraGet_cells, oraPut_left, oraPut_seed, oraPut_spot, Option.map, Option.or, Option.bind, Option.isSome_some, Option.isSome_none, id, List.map_cons, List.map_nil, List.length_cons, List.length_nil, List.length_map, List.length_append, List.replicate, List.cons_append, List.nil_append, List.append_assoc, List.getElem?_cons_zero, List.getElem?_cons_succ, List.set_cons_zero, List.set_cons_succ, List.getD_cons_zero, List.getD_cons_succ, decide_true, decide_false, if_true, if_false, ite_true, ite_false, ↓reduceIte, reduceCtorEq, Nat.reduceAdd, Nat.reduceSub, Nat.reduceLT, Nat.reduceLeDiff, Nat.reduceEqDiff, Nat.zero_add, true_and, and_true, Bool.not_true, Bool.not_false, imp_self, Bool.true_and, Bool.and_true, Bool.false_eq_true, decide_eq_true_eq, forall_const, implies_true, List.mem_cons, List.not_mem_nil, or_false, forall_eq_or_imp, forall_eq, false_implies, eq_self, eqB_int, Int.cast_ofNat_Int, Int.natCast_add, Int.natCast_one, Int.reduceAdd, Int.reduceSub, Int.reduceLT, Int.reduceLE, Int.reduceEq, Int.reduceNeg, Bool.and_false, Bool.false_and, Bool.or_true, Bool.true_or, Bool.or_false, Bool.false_or, e2]
      · intro d hd
        rcases List.mem_append.mp hd with h | h
        · exact hc d h
        · simp at h; rw [h]; exact hm) (ρ := ⟨[.im .dr, .im (.int way), .im (.lst (sD kwL)), .im (.str lettersS), .no, .no, .no, .no, .no, .no], some o⟩) ⟨[], o, rfl, rfl, by simp, rfl, k⟩
  simp only [List.length_range] at hl k'
  exact ⟨cs, o', e, hl, hc, k'⟩
theorem any_folders {n : Nat} {o : Ora} (k : Ok n o) (hn : n < 2 ^ 37) : ∃ fs o', F_law_any_folders [.dr] (some o) = .ok (.tup (sD fs)) (some o') ∧ Ok (n + 40) o' ∧ fs ≠ [] ∧ fs.length ≤ 4 ∧ fs.Nodup ∧ (∀ x ∈ fs, isWord x = true) ∧ ascS fs := by
  obtain ⟨way, o1, e1, h1, h2, k1⟩ := draw (m := 3) k (by omega) (by decide) (by decide)
  by_cases hw : way = 0
  · obtain ⟨fs, o2, e2, k2, r⟩ := folders (m := 4) k1 (by omega) (by decide) (by decide)
    refine ⟨fs, o2, ?_, ⟨k2.ne, k2.lo, by have := k2.hi; omega⟩, r⟩
    subst hw
    simp only [F_law_any_folders, N_law_any_folders, B_law_any_folders, sSeq, sIf, bE, bR, bS, cTest, cOp, cOra, sOraP, oraPd, cC, cCall, cCons, cNil, cTup, cLst, cStar, itemsD_tup, itemsD_lst, cUn, cSl, cPart, cNoPart, cNot, cAnd, cOr, cChain, cAndV, cOrV, cNotV, cIf, cYes_ap, sSet, sRet, sRetN, sPass, sDrop, sPar, osCons, osNil, oIm, oLst, oList, setS, cVar, oR, gR, gd, fnD, fnR, fnC, cFn, cMk, cM1, cGive, cOpO, cOpOL, cCallO, cPopAt, popD, sApp, appD, sRem, ownL, sIfW, ifW, sTgt, tgName_ap, tgTup_ap, tgsCons_ap, tgsNil_ap, tgStar_ap, cSeqI, seqD_tup, seqD_lst, seqD_str, cRng1, rngD, cEnum, seqE_tup, seqE_lst, sFor, cLc, Env.set, Env.wipe, Env.back, wipeS, backS, iSeq, iEnd, iEndS, iTwo, iTwoS, isSelf, fnI, bSeq, bRet, fnB, cCallV, cMeth, sMatch, sBeg, sBegPar, sForF, env0, scO, DL.scal, atD_ins, isC_ins, dAdd, dSub, dMod, dMul, dFdiv, dPow, dLt, dLe, dGt, dGe, onI, onIc, addS, addT, addL, dInt, dLen_tup, dLen_lst, dLen_scr, dLen_str, dTuple_tup, dTuple_lst, dList_tup, dList_lst, dSl_tup, dSl_lst, dSl_scr, dSl_str, dIx_tup, dIx_lst, dIx_str, dIn, dNotInS_tup, dNotInS_lst, dEq, dNe, dIsN, dNotN, dMin2, dRev_lst, dJoin_lst, dJoin_tup, oraGet_left, oraGet_seed, oraGet_spot, oraGet_cells, oraPut_left, oraPut_seed, oraPut_spot, Option.map, Option.or, Option.bind, Option.isSome_some, Option.isSome_none, id, List.map_cons, List.map_nil, List.length_cons, List.length_nil, List.length_map, List.length_append, List.replicate, List.cons_append, List.nil_append, List.append_assoc, List.getElem?_cons_zero, List.getElem?_cons_succ, List.set_cons_zero, List.set_cons_succ, List.getD_cons_zero, List.getD_cons_succ, decide_true, decide_false, if_true, if_false, ite_true, ite_false, ↓reduceIte, reduceCtorEq, Nat.reduceAdd, Nat.reduceSub, Nat.reduceLT, Nat.reduceLeDiff, Nat.reduceEqDiff, Nat.zero_add, true_and, and_true, Bool.not_true, Bool.not_false, imp_self, Bool.true_and, Bool.and_true, Bool.false_eq_true, decide_eq_true_eq, forall_const, implies_true, List.mem_cons, List.not_mem_nil, or_false, forall_eq_or_imp, forall_eq, false_implies, eq_self, eqB_int, Int.cast_ofNat_Int, Int.natCast_add, Int.natCast_one, Int.reduceAdd, Int.reduceSub, Int.reduceLT, Int.reduceLE, Int.reduceEq, Int.reduceNeg, Bool.and_false, Bool.false_and, Bool.or_true, Bool.true_or, Bool.or_false, Bool.false_or, e1, e2]
  · obtain ⟨r, o2, e2, h3, h4, k2⟩ := draw (m := 8) k1 (by omega) (by decide) (by decide)
    obtain ⟨cs, o3, e3, hl, hc, k3⟩ := base_draw (way := way) (N := (1 + r).toNat) k2 (by omega) (by omega)
    have hbase : (Txt.join "" (cs.map fun c => (⟨#[c]⟩ : Str))).cps.toList = cs := tl_base cs
    generalize hB : Txt.join "" (cs.map fun c => (⟨#[c]⟩ : Str)) = base at hbase
    have wb : isWord base = true := isWord_of (by rw [hbase]; omega) (by rw [hbase]; omega) (by rw [hbase]; exact hc)
    have ej : joinL "" (cs.map fun c => D.str ⟨#[c]⟩) = some (.str base) := by
      rw [dJoin_map (a := "") (f := fun c => (⟨#[c]⟩ : Str)) (l := cs), hB]
      have e0 : (Str.ofString "").length = 0 := by decide +kernel
      rw [e0, List.map_map]
      have : (cs.map ((fun x => Str.length x) ∘ fun c => (⟨#[c]⟩ : Str))).sum ≤ 8 := by
        have := sum_le (b := 1) (l := cs.map ((fun x => Str.length x) ∘ fun c => (⟨#[c]⟩ : Str))) fun x hx => by
          obtain ⟨y, _, rfl⟩ := List.mem_map.mp hx
          exact Nat.le_refl 1
        simp only [List.length_map] at this
        omega
      omega
    have gr : (-100000 : Int) ≤ 1 + r ∧ 1 + r ≤ 100000 := ⟨by omega, by omega⟩
    -- the first name
    obtain ⟨x, o4, k4, wx, e4⟩ : ∃ (x : Str) (o4 : Ora), Ok (n + 11) o4 ∧ isWord x = true ∧ ((way = 1 ∧ F_law_of [.dr, .lst (sD kwL)] (some o3) = .ok (.str x) (some o4)) ∨ (¬ way = 1 ∧ x = base ∧ o4 = o3)) := by
      by_cases h : way = 1
      · obtain ⟨x, o4, e5, hx, k4⟩ := of_lst (l := sD kwL) k3 (by omega) (by decide +kernel) (by decide +kernel)
        obtain ⟨y, hy, rfl⟩ := mem_sD hx
        exact ⟨y, o4, ⟨k4.ne, k4.lo, by have := k4.hi; omega⟩, kwL_ww y hy, .inl ⟨h, e5⟩⟩
      · exact ⟨base, o3, ⟨k3.ne, k3.lo, by have := k3.hi; omega⟩, wb, .inr ⟨h, rfl, rfl⟩⟩
    obtain ⟨r5, o5, e5, h5, h6, k5⟩ := draw (m := 4) k4 (by omega) (by decide) (by decide)
    obtain ⟨ρ', f1, found, o6, a, b, c, d, rfl, k6, nd, ww, hl6⟩ := forD_inv (enc := fun i : Nat => D.int (0 + (i : Nat))) (g := tgName 6) (body := law_any_folders_f1) (List.range r5.toNat)
      (fun pre ρ => ∃ found o' a b c d, ρ = anyE way base found a b c d o' ∧ Ok (n + 12 + 3 * pre.length) o' ∧ found.Nodup ∧ (∀ x ∈ found, isWord x = true) ∧ (1 ≤ found.length ∧ found.length ≤ 1 + pre.length))
      (fun pre y post ρ hall ⟨found, o', a, b, c, d, hρ, k', nd, ww, hl⟩ => by
        subst hρ
        have hlen := congrArg List.length hall
        simp only [List.length_range, List.length_append, List.length_cons] at hlen
        obtain ⟨z, o7, b', c', d', wz, k7, e7⟩ := any_turn (way := way) (base := base) (found := found) (a := .im (.int (0 + (y : Nat)))) (b := b) (c := c) (d := d) k' (by omega) wb ww (by omega)
        refine ⟨_, _, rfl, e7, _, o7, _, _, _, _, rfl, ⟨k7.ne, k7.lo, by have := k7.hi; simp; omega⟩, ?_, ?_, ?_⟩
        · split
          · exact nd
          · rename_i hz
            rw [List.nodup_append]
            exact ⟨nd, by simp, fun a ha b hb => by simp at hb; subst hb; intro e; subst e; exact hz ha⟩
        · split
          · exact ww
          · intro a ha
            rcases List.mem_append.mp ha with h | h
            · exact ww a h
            · simp at h; subst h; exact wz
        · split <;> simp <;> omega) (ρ := anyE way base [x] .no .no .no .no o5) ⟨[x], o5, _, _, _, _, rfl, ⟨k5.ne, k5.lo, by have := k5.hi; simp; omega⟩, by simp, by simpa using wx, by simp⟩
    simp only [List.length_range] at hl6 k6
    have gr5 : (-100000 : Int) ≤ r5 ∧ r5 ≤ 100000 := ⟨by omega, by omega⟩
    obtain ⟨fs, es, pf, af⟩ := dSorted_lstS_ex (l := found) (by omega)
    refine ⟨fs, o6, ?_, ⟨k6.ne, k6.lo, by have := k6.hi; omega⟩, ?_, ?_, pf.nodup_iff.mpr nd, fun x hx => ww x (pf.mem_iff.mp hx), af⟩
    · have z11 : sz 11 := by decide
      have z1 : sz 1 := by decide
      simp only [anyE, kwL, lettersS, sD, List.map_cons, List.map_nil] at e3 e4 f1 es
      rcases e4 with ⟨hw1, e4⟩ | ⟨hw1, rfl, rfl⟩
      · subst hw1
        simp only [F_law_any_folders, N_law_any_folders, B_law_any_folders, sSeq, sIf, bE, bR, bS, cTest, cOp, cOra, sOraP, oraPd, cC, cCall, cCons, cNil, cTup, cLst, cStar, itemsD_tup, itemsD_lst, cUn, cSl, cPart, cNoPart, cNot, cAnd, cOr, cChain, cAndV, cOrV, cNotV, cIf, cYes_ap, sSet, sRet, sRetN, sPass, sDrop, sPar, osCons, osNil, oIm, oLst, oList, setS, cVar, oR, gR, gd, fnD, fnR, fnC, cFn, cMk, cM1, cGive, cOpO, cOpOL, cCallO, cPopAt, popD, sApp, appD, sRem, ownL, sIfW, ifW, sTgt, tgName_ap, tgTup_ap, tgsCons_ap, tgsNil_ap, tgStar_ap, cSeqI, seqD_tup, seqD_lst, seqD_str, cRng1, rngD, cEnum, seqE_tup, seqE_lst, sFor, cLc, Env.set, Env.wipe, Env.back, wipeS, backS, iSeq, iEnd, iEndS, iTwo, iTwoS, isSelf, fnI, bSeq, bRet, fnB, cCallV, cMeth, sMatch, sBeg, sBegPar, sForF, env0, scO, DL.scal, atD_ins, isC_ins, dAdd, dSub, dMod, dMul, dFdiv, dPow, dLt, dLe, dGt, dGe, onI, onIc, addS, addT, addL, dInt, dLen_tup, dLen_lst, dLen_scr, dLen_str, dTuple_tup, dTuple_lst, dList_tup, dList_lst, dSl_tup, dSl_lst, dSl_scr, dSl_str, dIx_tup, dIx_lst, dIx_str, dIn, dNotInS_tup, dNotInS_lst, dEq, dNe, dIsN, dNotN, dMin2, dRev_lst, dJoin_lst, dJoin_tup, oraGet_left, oraGet_seed, oraGet_spot, oraGet_cells, oraPut_left, oraPut_seed, oraPut_spot, Option.map, Option.or, Option.bind, Option.isSome_some, Option.isSome_none, id, List.map_cons, List.map_nil, List.length_cons, List.length_nil, List.length_map, List.length_append, List.replicate, List.cons_append, List.nil_append, List.append_assoc, List.getElem?_cons_zero, List.getElem?_cons_succ, List.set_cons_zero, List.set_cons_succ, List.getD_cons_zero, List.getD_cons_succ, decide_true, decide_false, if_true, if_false, ite_true, ite_false, ↓reduceIte, reduceCtorEq, Nat.reduceAdd, Nat.reduceSub, Nat.reduceLT, Nat.reduceLeDiff, Nat.reduceEqDiff, Nat.zero_add, true_and, and_true, Bool.not_true, Bool.not_false, imp_self, Bool.true_and, Bool.and_true, Bool.false_eq_true, decide_eq_true_eq, forall_const, implies_true, List.mem_cons, List.not_mem_nil, or_false, forall_eq_or_imp, forall_eq, false_implies, eq_self, eqB_int, Int.cast_ofNat_Int, Int.natCast_add, Int.natCast_one, Int.reduceAdd, Int.reduceSub, Int.reduceLT, Int.reduceLE, Int.reduceEq, Int.reduceNeg, Bool.and_false, Bool.false_and, Bool.or_true, Bool.true_or, Bool.or_false, Bool.false_or, e1, hw, z11, e2, gr, e3, ej, e4, z1, e5, gr5, f1, es]
      · simp only [F_law_any_folders, N_law_any_folders, B_law_any_folders, sSeq, sIf, bE, bR, bS, cTest, cOp, cOra, sOraP, oraPd, cC, cCall, cCons, cNil, cTup, cLst, cStar, itemsD_tup, itemsD_lst, cUn, cSl, cPart, cNoPart, cNot, cAnd, cOr, cChain, cAndV, cOrV, cNotV, cIf, cYes_ap, sSet, sRet, sRetN, sPass, sDrop, sPar, osCons, osNil, oIm, oLst, oList, setS, cVar, oR, gR, gd, fnD, fnR, fnC, cFn, cMk, cM1, cGive, cOpO, cOpOL, cCallO, cPopAt, popD, sApp, appD, sRem, ownL, sIfW, ifW, sTgt, tgName_ap, tgTup_ap, tgsCons_ap, tgsNil_ap, tgStar_ap, cSeqI, seqD_tup, seqD_lst, seqD_str, cRng1, rngD, cEnum, seqE_tup, seqE_lst, sFor, cLc, Env.set, Env.wipe, Env.back, wipeS, backS, iSeq, iEnd, iEndS, iTwo, iTwoS, isSelf, fnI, bSeq, bRet, fnB, cCallV, cMeth, sMatch, sBeg, sBegPar, sForF, env0, scO, DL.scal, atD_ins, isC_ins, dAdd, dSub, dMod, dMul, dFdiv, dPow, dLt, dLe, dGt, dGe, onI, onIc, addS, addT, addL, dInt, dLen_tup, dLen_lst, dLen_scr, dLen_str, dTuple_tup, dTuple_lst, dList_tup, dList_lst, dSl_tup, dSl_lst, dSl_scr, dSl_str, dIx_tup, dIx_lst, dIx_str, dIn, dNotInS_tup, dNotInS_lst, dEq, dNe, dIsN, dNotN, dMin2, dRev_lst, dJoin_lst, dJoin_tup, oraGet_left, oraGet_seed, oraGet_spot, oraGet_cells, oraPut_left, oraPut_seed, oraPut_spot, Option.map, Option.or, Option.bind, Option.isSome_some, Option.isSome_none, id, List.map_cons, List.map_nil, List.length_cons, List.length_nil, List.length_map, List.length_append, List.replicate, List.cons_append, List.nil_append, List.append_assoc, List.getElem?_cons_zero, List.getElem?_cons_succ, List.set_cons_zero, List.set_cons_succ, List.getD_cons_zero, List.getD_cons_succ, decide_true, decide_false, if_true, if_false, ite_true, ite_false, ↓reduceIte, reduceCtorEq, Nat.reduceAdd, Nat.reduceSub, Nat.reduceLT, Nat.reduceLeDiff, Nat.reduceEqDiff, Nat.zero_add, true_and, and_true, Bool.not_true, Bool.not_false, imp_self, Bool.true_and, Bool.and_true, Bool.false_eq_true, decide_eq_true_eq, forall_const, implies_true, List.mem_cons, List.not_mem_nil, or_false, forall_eq_or_imp, forall_eq, false_implies, eq_self, eqB_int, Int.cast_ofNat_Int, Int.natCast_add, Int.natCast_one, Int.reduceAdd, Int.reduceSub, Int.reduceLT, Int.reduceLE, Int.reduceEq, Int.reduceNeg, Bool.and_false, Bool.false_and, Bool.or_true, Bool.true_or, Bool.or_false, Bool.false_or, e1, hw, hw1, z11, e2, gr, e3, ej, z1, e5, gr5, f1, es]
    · intro e; rw [e] at pf; have := pf.length_eq; simp at this; omega
    · have := pf.length_eq; omega
end LW

set_option Elab.async false
set_option linter.all false
set_option maxRecDepth 100000
set_option maxHeartbeats 4000000
namespace LW
open PySem DL
/-! ### all rules -/
def pairsW (fs : List Str) (w x : Str) : List (List Str) := (fs.filter fun y => !decide (y = x)).map fun y => [w, x, y]
def twos (fs : List Str) (w : Str) : List (List Str) := fs.map fun x => [w, x]
def threes (fs : List Str) (w : Str) : List (List Str) := fs.flatMap fun x => pairsW fs w x
def everyR (fs : List Str) : List (List Str) := twos fs "drop" ++ threes fs "link" ++ threes fs "move" ++ twos fs "make"
theorem mem_pairs {fs r : List Str} {w x : Str} (h : r ∈ pairsW fs w x) : ∃ y ∈ fs, y ≠ x ∧ r = [w, x, y] := by
  obtain ⟨y, hy, rfl⟩ := List.mem_map.mp h
  have := List.mem_filter.mp hy
  exact ⟨y, this.1, by simpa using this.2, rfl⟩
theorem mem_threes {fs r : List Str} {w : Str} (h : r ∈ threes fs w) : ∃ x ∈ fs, ∃ y ∈ fs, y ≠ x ∧ r = [w, x, y] := by
  obtain ⟨x, hx, h⟩ := List.mem_flatMap.mp h
  obtain ⟨y, hy, hn, e⟩ := mem_pairs h
  exact ⟨x, hx, y, hy, hn, e⟩
theorem mem_twos {fs r : List Str} {w : Str} (h : r ∈ twos fs w) : ∃ x ∈ fs, r = [w, x] := by
  obtain ⟨x, hx, rfl⟩ := List.mem_map.mp h
  exact ⟨x, hx, rfl⟩
theorem every_rule {fs r : List Str} (h : r ∈ everyR fs) : isRule fs r = true := by
  unfold everyR at h
  simp only [List.mem_append] at h
  rcases h with ((h | h) | h) | h
  · obtain ⟨x, hx, rfl⟩ := mem_twos h
    have : (Str.ofString "drop") ∈ k_ALONE := by decide +kernel
    simp [isRule, hx, this]
  · obtain ⟨x, hx, y, hy, hn, rfl⟩ := mem_threes h
    have : (Str.ofString "link") ∈ k_PAIRED := by decide +kernel
    simp [isRule, hx, hy, this, Ne.symm hn]
  · obtain ⟨x, hx, y, hy, hn, rfl⟩ := mem_threes h
    have : (Str.ofString "move") ∈ k_PAIRED := by decide +kernel
    simp [isRule, hx, hy, this, Ne.symm hn]
  · obtain ⟨x, hx, rfl⟩ := mem_twos h
    have : (Str.ofString "make") ∈ k_ALONE := by decide +kernel
    simp [isRule, hx, this]
theorem nd_map {α β : Type} {f : α → β} (hf : ∀ a b, f a = f b → a = b) {l : List α} (h : l.Nodup) : (l.map f).Nodup :=
  List.pairwise_map.mpr (h.imp fun n e => n (hf _ _ e))
theorem nd_twos {fs : List Str} (h : fs.Nodup) (w : Str) : (twos fs w).Nodup := nd_map (fun a b e => by simpa using e) h
theorem nd_threes {fs : List Str} (h : fs.Nodup) (w : Str) : (threes fs w).Nodup := by
  unfold threes
  refine List.pairwise_flatMap.mpr ⟨fun x _ => nd_map (fun a b e => by simpa using e) (h.filter _), h.imp fun {a b} n r hr s hs e => ?_⟩
  obtain ⟨y, _, _, rfl⟩ := mem_pairs hr
  obtain ⟨z, _, _, rfl⟩ := mem_pairs hs
  simp at e
  exact n e.1
theorem nd_every {fs : List Str} (h : fs.Nodup) : (everyR fs).Nodup := by
  unfold everyR
  have n1 : (Str.ofString "link") ≠ "move" := by decide +kernel
  have n2 : (Str.ofString "drop") ≠ "make" := by decide +kernel
  refine List.nodup_append.mpr ⟨List.nodup_append.mpr ⟨List.nodup_append.mpr ⟨nd_twos h _, nd_threes h _, ?_⟩, nd_threes h _, ?_⟩, nd_twos h _, ?_⟩
  · intro a ha b hb e
    obtain ⟨x, _, rfl⟩ := mem_twos ha
    obtain ⟨x, _, y, _, _, rfl⟩ := mem_threes hb
    simp at e
  · intro a ha b hb e
    rcases List.mem_append.mp ha with ha | ha
    · obtain ⟨x, _, rfl⟩ := mem_twos ha
      obtain ⟨x, _, y, _, _, rfl⟩ := mem_threes hb
      simp at e
    · obtain ⟨x, _, y, _, _, rfl⟩ := mem_threes ha
      obtain ⟨x, _, y, _, _, rfl⟩ := mem_threes hb
      simp at e
      exact n1 e.1
  · intro a ha b hb e
    obtain ⟨z, _, rfl⟩ := mem_twos hb
    simp only [List.mem_append] at ha
    rcases ha with (ha | ha) | ha
    · obtain ⟨x, _, rfl⟩ := mem_twos ha
      simp at e
      exact n2 e.1
    · obtain ⟨x, _, y, _, _, rfl⟩ := mem_threes ha
      simp at e
    · obtain ⟨x, _, y, _, _, rfl⟩ := mem_threes ha
      simp at e
theorem len_pairs {fs : List Str} (h : fs.Nodup) {w x : Str} (hx : x ∈ fs) : (pairsW fs w x).length = fs.length - 1 := by
  unfold pairsW
  rw [List.length_map]
  have := List.length_erase_of_mem hx
  rw [h.erase_eq_filter] at this
  rw [← this]
  exact congrArg List.length (List.filter_congr fun y _ => by by_cases e : y = x <;> simp [e])
theorem len_flat {α β : Type} {f : α → List β} {b : Nat} : ∀ {l : List α}, (∀ x ∈ l, (f x).length = b) → (l.flatMap f).length = l.length * b
  | [], _ => by simp
  | x :: l, h => by
    rw [List.flatMap_cons, List.length_append, h x (by simp), len_flat fun y hy => h y (by simp [hy]), List.length_cons, Nat.succ_mul]
    omega
theorem len_every {fs : List Str} (h : fs.Nodup) : (everyR fs).length = fs.length + fs.length * (fs.length - 1) + fs.length * (fs.length - 1) + fs.length := by
  unfold everyR
  simp only [List.length_append, twos, List.length_map]
  rw [show (threes fs "link").length = fs.length * (fs.length - 1) from len_flat fun x hx => len_pairs h hx, show (threes fs "move").length = fs.length * (fs.length - 1) from len_flat fun x hx => len_pairs h hx]
theorem len_every_le {fs : List Str} (h : fs.Nodup) (h4 : fs.length ≤ 4) : (everyR fs).length ≤ 32 := by
  rw [len_every h]
  have : fs.length = 0 ∨ fs.length = 1 ∨ fs.length = 2 ∨ fs.length = 3 ∨ fs.length = 4 := by omega
  rcases this with e | e | e | e | e <;> rw [e] <;> decide
/-- the inner loop -/
theorem every_inner {fs : List Str} (hf : okW fs) (hl : fs.length ≤ 4) {w : Str} {acc : List (List Str)} (ha : acc.length ≤ 1000) {a : Slot} {o : Option Ora} :
    ∃ a', law_every_rule_f1 ⟨[.im (.tup (sD fs)), .im (.lst (rD acc)), .im (.str w), a, .no], o⟩ = .ok (.nx ⟨[.im (.tup (sD fs)), .im (.lst (rD (acc ++ threes fs w))), .im (.str w), a', .no], o⟩) := by
  obtain ⟨ρ', f1, a', rfl, _⟩ := forD_inv (enc := D.str) (g := tgName 3) (body := law_every_rule_f2) fs
    (fun pre ρ => ∃ a', ρ = ⟨[.im (.tup (sD fs)), .im (.lst (rD (acc ++ pre.flatMap fun x => pairsW fs w x))), .im (.str w), a', .no], o⟩ ∧ (acc ++ pre.flatMap fun x => pairsW fs w x).length ≤ 1000 + pre.length * 4)
    (fun pre x post ρ hall ⟨a', hρ, hlen⟩ => by
      subst hρ
      have hx : x ∈ fs := by rw [hall]; simp
      have hpre := congrArg List.length hall
      simp only [List.length_append, List.length_cons] at hpre
      have e := lc_pure (enc := D.str) (i := 4) (p := law_every_rule_p2) (f := law_every_rule_e2) (ρ := ⟨[.im (.tup (sD fs)), .im (.lst (rD (acc ++ pre.flatMap fun x => pairsW fs w x))), .im (.str w), .im (.str x), .no], o⟩) (fun y => !decide (y = x)) (fun y => wT [w, x, y]) fs (by omega) rfl (fun y hy => by
        have q := eqB_str (hf y hy) (hf x hx)
        have z : sz 3 := by decide
        refine ⟨?_, fun _ => ?_⟩
        · simp only [law_every_rule_p2, sSeq, sIf, bE, bR, bS, cTest, cOp, cOra, sOraP, oraPd, cC, cCall, cCons, cNil, cTup, cLst, cStar, itemsD_tup, itemsD_lst, cUn, cSl, cPart, cNoPart, cNot, cAnd, cOr, cChain, cAndV, cOrV, cNotV, cIf, cYes_ap, sSet, sRet, sRetN, sPass, sDrop, sPar, osCons, osNil, oIm, oLst, oList, setS, cVar, oR, gR, gd, fnD, fnR, fnC, cFn, cMk, cM1, cGive, cOpO, cOpOL, cCallO, cPopAt, popD, sApp, appD, sRem, ownL, sIfW, ifW, sTgt, tgName_ap, tgTup_ap, tgsCons_ap, tgsNil_ap, tgStar_ap, cSeqI, seqD_tup, seqD_lst, seqD_str, cRng1, rngD, cEnum, seqE_tup, seqE_lst, sFor, cLc, Env.set, Env.wipe, Env.back, wipeS, backS, iSeq, iEnd, iEndS, iTwo, iTwoS, isSelf, fnI, bSeq, bRet, fnB, cCallV, cMeth, sMatch, sBeg, sBegPar, sForF, env0, scO, DL.scal, atD_ins, isC_ins, dAdd, dSub, dMod, dMul, dFdiv, dPow, dLt, dLe, dGt, dGe, onI, onIc, addS, addT, addL, dInt, dLen_tup, dLen_lst, dLen_scr, dLen_str, dTuple_tup, dTuple_lst, dList_tup, dList_lst, dSl_tup, dSl_lst, dSl_scr, dSl_str, dIx_tup, dIx_lst, dIx_str, dIn, dNotInS_tup, dNotInS_lst, dEq, dNe, dIsN, dNotN, dMin2, dRev_lst, dJoin_lst, dJoin_tup, oraGet_left, oraGet_seed, oraGet_spot, oraGet_cells, oraPut_left, oraPut_seed, oraPut_spot, Option.map, Option.or, Option.bind, Option.isSome_some, Option.isSome_none, id, List.map_cons, List.map_nil, List.length_cons, List.length_nil, List.length_map, List.length_append, List.replicate, List.cons_append, List.nil_append, List.append_assoc, List.getElem?_cons_zero, List.getElem?_cons_succ, List.set_cons_zero, List.set_cons_succ, List.getD_cons_zero, List.getD_cons_succ, decide_true, decide_false, if_true, if_false, ite_true, ite_false, ↓reduceIte, reduceCtorEq, Nat.reduceAdd, Nat.reduceSub, Nat.reduceLT, Nat.reduceLeDiff, Nat.reduceEqDiff, Nat.zero_add, true_and, and_true, Bool.not_true, Bool.not_false, imp_self, Bool.true_and, Bool.and_true, Bool.false_eq_true, decide_eq_true_eq, forall_const, implies_true, List.mem_cons, List.not_mem_nil, or_false, forall_eq_or_imp, forall_eq, false_implies, eq_self, eqB_int, Int.cast_ofNat_Int, Int.natCast_add, Int.natCast_one, Int.reduceAdd, Int.reduceSub, Int.reduceLT, Int.reduceLE, Int.reduceEq, Int.reduceNeg, Bool.and_false, Bool.false_and, Bool.or_true, Bool.true_or, Bool.or_false, Bool.false_or, q]
        · simp only [law_every_rule_e2, wT, sSeq, sIf, bE, bR, bS, cTest, cOp, cOra, sOraP, oraPd, cC, cCall, cCons, cNil, cTup, cLst, cStar, itemsD_tup, itemsD_lst, cUn, cSl, cPart, cNoPart, cNot, cAnd, cOr, cChain, cAndV, cOrV, cNotV, cIf, cYes_ap, sSet, sRet, sRetN, sPass, sDrop, sPar, osCons, osNil, oIm, oLst, oList, setS, cVar, oR, gR, gd, fnD, fnR, fnC, cFn, cMk, cM1, cGive, cOpO, cOpOL, cCallO, cPopAt, popD, sApp, appD, sRem, ownL, sIfW, ifW, sTgt, tgName_ap, tgTup_ap, tgsCons_ap, tgsNil_ap, tgStar_ap, cSeqI, seqD_tup, seqD_lst, seqD_str, cRng1, rngD, cEnum, seqE_tup, seqE_lst, sFor, cLc, Env.set, Env.wipe, Env.back, wipeS, backS, iSeq, iEnd, iEndS, iTwo, iTwoS, isSelf, fnI, bSeq, bRet, fnB, cCallV, cMeth, sMatch, sBeg, sBegPar, sForF, env0, scO, DL.scal, atD_ins, isC_ins, dAdd, dSub, dMod, dMul, dFdiv, dPow, dLt, dLe, dGt, dGe, onI, onIc, addS, addT, addL, dInt, dLen_tup, dLen_lst, dLen_scr, dLen_str, dTuple_tup, dTuple_lst, dList_tup, dList_lst, dSl_tup, dSl_lst, dSl_scr, dSl_str, dIx_tup, dIx_lst, dIx_str, dIn, dNotInS_tup, dNotInS_lst, dEq, dNe, dIsN, dNotN, dMin2, dRev_lst, dJoin_lst, dJoin_tup, oraGet_left, oraGet_seed, oraGet_spot, oraGet_cells, oraPut_left, oraPut_seed, oraPut_spot, Option.map, Option.or, Option.bind, Option.isSome_some, Option.isSome_none, id, List.map_cons, List.map_nil, List.length_cons, List.length_nil, List.length_map, List.length_append, List.replicate, List.cons_append, List.nil_append, List.append_assoc, List.getElem?_cons_zero, List.getElem?_cons_succ, List.set_cons_zero, List.set_cons_succ, List.getD_cons_zero, List.getD_cons_succ, decide_true, decide_false, if_true, if_false, ite_true, ite_false, ↓reduceIte, reduceCtorEq, Nat.reduceAdd, Nat.reduceSub, Nat.reduceLT, Nat.reduceLeDiff, Nat.reduceEqDiff, Nat.zero_add, true_and, and_true, Bool.not_true, Bool.not_false, imp_self, Bool.true_and, Bool.and_true, Bool.false_eq_true, decide_eq_true_eq, forall_const, implies_true, List.mem_cons, List.not_mem_nil, or_false, forall_eq_or_imp, forall_eq, false_implies, eq_self, eqB_int, Int.cast_ofNat_Int, Int.natCast_add, Int.natCast_one, Int.reduceAdd, Int.reduceSub, Int.reduceLT, Int.reduceLE, Int.reduceEq, Int.reduceNeg, Bool.and_false, Bool.false_and, Bool.or_true, Bool.true_or, Bool.or_false, Bool.false_or, z])
      have lp : (pairsW fs w x).length ≤ 4 := by unfold pairsW; rw [List.length_map]; exact Nat.le_trans (List.length_filter_le _ _) hl
      have e2 : ((fs.filter fun y => !decide (y = x)).map fun y => wT [w, x, y]) = rD (pairsW fs w x) := by unfold pairsW rD; rw [List.map_map]; rfl
      rw [e2] at e
      have z : sz ((acc ++ pre.flatMap fun x => pairsW fs w x).length + (pairsW fs w x).length) := by show _ ≤ 100000; omega
      refine ⟨⟨[.im (.tup (sD fs)), .im (.lst (rD (acc ++ pre.flatMap fun x => pairsW fs w x))), .im (.str w), .im (.str x), .no], o⟩, ⟨[.im (.tup (sD fs)), .im (.lst (rD (acc ++ (pre ++ [x]).flatMap fun x => pairsW fs w x))), .im (.str w), .im (.str x), .no], o⟩, rfl, ?_, _, rfl, ?_⟩
      · have e3 : (acc ++ (pre ++ [x]).flatMap fun x => pairsW fs w x) = (acc ++ pre.flatMap fun x => pairsW fs w x) ++ pairsW fs w x := by simp
        rw [e3]
        generalize (acc ++ pre.flatMap fun x => pairsW fs w x) = ac at *
        simp only [law_every_rule_f2, sSeq, sIf, bE, bR, bS, cTest, cOp, cOra, sOraP, oraPd, cC, cCall, cCons, cNil, cTup, cLst, cStar, itemsD_tup, itemsD_lst, cUn, cSl, cPart, cNoPart, cNot, cAnd, cOr, cChain, cAndV, cOrV, cNotV, cIf, cYes_ap, sSet, sRet, sRetN, sPass, sDrop, sPar, osCons, osNil, oIm, oLst, oList, setS, cVar, oR, gR, gd, fnD, fnR, fnC, cFn, cMk, cM1, cGive, cOpO, cOpOL, cCallO, cPopAt, popD, sApp, appD, sRem, ownL, sIfW, ifW, sTgt, tgName_ap, tgTup_ap, tgsCons_ap, tgsNil_ap, tgStar_ap, cSeqI, seqD_tup, seqD_lst, seqD_str, cRng1, rngD, cEnum, seqE_tup, seqE_lst, sFor, cLc, Env.set, Env.wipe, Env.back, wipeS, backS, iSeq, iEnd, iEndS, iTwo, iTwoS, isSelf, fnI, bSeq, bRet, fnB, cCallV, cMeth, sMatch, sBeg, sBegPar, sForF, env0, scO, DL.scal, atD_ins, isC_ins, dAdd, dSub, dMod, dMul, dFdiv, dPow, dLt, dLe, dGt, dGe, onI, onIc, addS, addT, addL, dInt, dLen_tup, dLen_lst, dLen_scr, dLen_str, dTuple_tup, dTuple_lst, dList_tup, dList_lst, dSl_tup, dSl_lst, dSl_scr, dSl_str, dIx_tup, dIx_lst, dIx_str, dIn, dNotInS_tup, dNotInS_lst, dEq, dNe, dIsN, dNotN, dMin2, dRev_lst, dJoin_lst, dJoin_tup, oraGet_left, oraGet_seed, oraGet_spot, oraGet_cells, oraPut_left, oraPut_seed, oraPut_spot, Option.map, Option.or, Option.bind, Option.isSome_some, Option.isSome_none, id, List.map_cons, List.map_nil, List.length_cons, List.length_nil, List.length_map, List.length_append, List.replicate, List.cons_append, List.nil_append, List.append_assoc, List.getElem?_cons_zero, List.getElem?_cons_succ, List.set_cons_zero, List.set_cons_succ, List.getD_cons_zero, List.getD_cons_succ, decide_true, decide_false, if_true, if_false, ite_true, ite_false, ↓reduceIte, reduceCtorEq, Nat.reduceAdd, Nat.reduceSub, Nat.reduceLT, Nat.reduceLeDiff, Nat.reduceEqDiff, Nat.zero_add, true_and, and_true, Bool.not_true, Bool.not_false, imp_self, Bool.true_and, Bool.and_true, Bool.false_eq_true, decide_eq_true_eq, forall_const, implies_true, List.mem_cons, List.not_mem_nil, or_false, forall_eq_or_imp, forall_eq, false_implies, eq_self, eqB_int, Int.cast_ofNat_Int, Int.natCast_add, Int.natCast_one, Int.reduceAdd, Int.reduceSub, Int.reduceLT, Int.reduceLE, Int.reduceEq, Int.reduceNeg, Bool.and_false, Bool.false_and, Bool.or_true, Bool.true_or, Bool.or_false, Bool.false_or, e, z, rD, List.map_append]
      · simp only [List.flatMap_append, List.length_append, List.flatMap_cons, List.flatMap_nil, List.append_nil, List.length_cons, List.length_nil] at hlen ⊢
        omega) (ρ := ⟨[.im (.tup (sD fs)), .im (.lst (rD acc)), .im (.str w), a, .no], o⟩) ⟨a, by simp, by simpa using ha⟩
  exact ⟨a', by simp only [law_every_rule_f1, sSeq, sIf, bE, bR, bS, cTest, cOp, cOra, sOraP, oraPd, cC, cCall, cCons, cNil, cTup, cLst, cStar, itemsD_tup, itemsD_lst, cUn, cSl, cPart, cNoPart, cNot, cAnd, cOr, cChain, cAndV, cOrV, cNotV, cIf, cYes_ap, sSet, sRet, sRetN, sPass, sDrop, sPar, osCons, osNil, oIm, oLst, oList, setS, cVar, oR, gR, gd, fnD, fnR, fnC, cFn, cMk, cM1, cGive, cOpO, cOpOL, cCallO, cPopAt, popD, sApp, appD, sRem, ownL, sIfW, ifW, sTgt, tgName_ap, tgTup_ap, tgsCons_ap, tgsNil_ap, tgStar_ap, cSeqI, seqD_tup, seqD_lst, seqD_str, cRng1, rngD, cEnum, seqE_tup, seqE_lst, sFor, cLc, Env.set, Env.wipe, Env.back, wipeS, backS, iSeq, iEnd, iEndS, iTwo, iTwoS, isSelf, fnI, bSeq, bRet, fnB, cCallV, cMeth, sMatch, sBeg, sBegPar, sForF, env0, scO, DL.scal, atD_ins, isC_ins, dAdd, dSub, dMod, dMul, dFdiv, dPow, dLt, dLe, dGt, dGe, onI, onIc, addS, addT, addL, dInt, dLen_tup, dLen_lst, dLen_scr, dLen_str, dTuple_tup, dTuple_lst, dList_tup, dList_lst, dSl_tup, dSl_lst, dSl_scr, dSl_str, dIx_tup, dIx_lst, dIx_str, dIn, dNotInS_tup, dNotInS_lst, dEq, dNe, dIsN, dNotN, dMin2, dRev_lst, dJoin_lst, dJoin_tup, oraGet_left, oraGet_seed, oraGet_spot, oraGet_cells, oraPut_left, oraPut_seed, oraPut_spot, Option.map, Option.or, Option.bind, Option.isSome_some, Option.isSome_none, id, List.map_cons, List.map_nil, List.length_cons, List.length_nil, List.length_map, List.length_append, List.replicate, List.cons_append, List.nil_append, List.append_assoc, List.getElem?_cons_zero, List.getElem?_cons_succ, List.set_cons_zero, List.set_cons_succ, List.getD_cons_zero, List.getD_cons_succ, decide_true, decide_false, if_true, if_false, ite_true, ite_false, ↓reduceIte, reduceCtorEq, Nat.reduceAdd, Nat.reduceSub, Nat.reduceLT, Nat.reduceLeDiff, Nat.reduceEqDiff, Nat.zero_add, true_and, and_true, Bool.not_true, Bool.not_false, imp_self, Bool.true_and, Bool.and_true, Bool.false_eq_true, decide_eq_true_eq, forall_const, implies_true, List.mem_cons, List.not_mem_nil, or_false, forall_eq_or_imp, forall_eq, false_implies, eq_self, eqB_int, Int.cast_ofNat_Int, Int.natCast_add, Int.natCast_one, Int.reduceAdd, Int.reduceSub, Int.reduceLT, Int.reduceLE, Int.reduceEq, Int.reduceNeg, Bool.and_false, Bool.false_and, Bool.or_true, Bool.true_or, Bool.or_false, Bool.false_or, f1]; rfl⟩
theorem every_rule_spec {fs : List Str} (o : Option Ora) (hf : okW fs) (hl : fs.length ≤ 4) (nd : fs.Nodup) : ∃ rs, F_law_every_rule [.tup (sD fs)] o = .ok (.lst (rD rs)) o ∧ rs.Perm (everyR fs) ∧ ascR rs := by
  have z2 : sz 2 := by decide
  have e1 := lc_map (enc := D.str) (i := 3) (f := law_every_rule_e1) (ρ := ⟨[.im (.tup (sD fs)), .no, .no, .no, .no], o⟩) (fun x => wT ["drop", x]) fs (by omega) rfl (fun x hx => by
    simp only [law_every_rule_e1, wT, sSeq, sIf, bE, bR, bS, cTest, cOp, cOra, sOraP, oraPd, cC, cCall, cCons, cNil, cTup, cLst, cStar, itemsD_tup, itemsD_lst, cUn, cSl, cPart, cNoPart, cNot, cAnd, cOr, cChain, cAndV, cOrV, cNotV, cIf, cYes_ap, sSet, sRet, sRetN, sPass, sDrop, sPar, osCons, osNil, oIm, oLst, oList, setS, cVar, oR, gR, gd, fnD, fnR, fnC, cFn, cMk, cM1, cGive, cOpO, cOpOL, cCallO, cPopAt, popD, sApp, appD, sRem, ownL, sIfW, ifW, sTgt, tgName_ap, tgTup_ap, tgsCons_ap, tgsNil_ap, tgStar_ap, cSeqI, seqD_tup, seqD_lst, seqD_str, cRng1, rngD, cEnum, seqE_tup, seqE_lst, sFor, cLc, Env.set, Env.wipe, Env.back, wipeS, backS, iSeq, iEnd, iEndS, iTwo, iTwoS, isSelf, fnI, bSeq, bRet, fnB, cCallV, cMeth, sMatch, sBeg, sBegPar, sForF, env0, scO, DL.scal, atD_ins, isC_ins, dAdd, dSub, dMod, dMul, dFdiv, dPow, dLt, dLe, dGt, dGe, onI, onIc, addS, addT, addL, dInt, dLen_tup, dLen_lst, dLen_scr, dLen_str, dTuple_tup, dTuple_lst, dList_tup, dList_lst, dSl_tup, dSl_lst, dSl_scr, dSl_str, dIx_tup, dIx_lst, dIx_str, dIn, dNotInS_tup, dNotInS_lst, dEq, dNe, dIsN, dNotN, dMin2, dRev_lst, dJoin_lst, dJoin_tup, oraGet_left, oraGet_seed, oraGet_spot, oraGet_cells, oraPut_left, oraPut_seed, oraPut_spot, Option.map, Option.or, Option.bind, Option.isSome_some, Option.isSome_none, id, List.map_cons, List.map_nil, List.length_cons, List.length_nil, List.length_map, List.length_append, List.replicate, List.cons_append, List.nil_append, List.append_assoc, List.getElem?_cons_zero, List.getElem?_cons_succ, List.set_cons_zero, List.set_cons_succ, List.getD_cons_zero, List.getD_cons_succ, decide_true, decide_false, if_true, if_false, ite_true, ite_false, ↓reduceIte, reduceCtorEq, Nat.reduceAdd, Nat.reduceSub, Nat.reduceLT, Nat.reduceLeDiff, Nat.reduceEqDiff, Nat.zero_add, true_and, and_true, Bool.not_true, Bool.not_false, imp_self, Bool.true_and, Bool.and_true, Bool.false_eq_true, decide_eq_true_eq, forall_const, implies_true, List.mem_cons, List.not_mem_nil, or_false, forall_eq_or_imp, forall_eq, false_implies, eq_self, eqB_int, Int.cast_ofNat_Int, Int.natCast_add, Int.natCast_one, Int.reduceAdd, Int.reduceSub, Int.reduceLT, Int.reduceLE, Int.reduceEq, Int.reduceNeg, Bool.and_false, Bool.false_and, Bool.or_true, Bool.true_or, Bool.or_false, Bool.false_or, z2])
  have e1' : (fs.map fun x => wT ["drop", x]) = rD (twos fs "drop") := by unfold twos rD; rw [List.map_map]; rfl
  rw [e1'] at e1
  obtain ⟨a, f1⟩ := every_inner (w := "link") (acc := twos fs "drop") (a := .no) (o := o) hf hl (by unfold twos; rw [List.length_map]; omega)
  have hle := len_every_le nd hl
  unfold everyR at hle
  simp only [List.length_append] at hle
  obtain ⟨a2, f2⟩ := every_inner (w := "move") (acc := twos fs "drop" ++ threes fs "link") (a := a) (o := o) hf hl (by rw [List.length_append]; omega)
  have ff : forD (tgName 2) law_every_rule_f1 [.str "link", .str "move"] ⟨[.im (.tup (sD fs)), .im (.lst (rD (twos fs "drop"))), .no, .no, .no], o⟩ = .ok (.nx ⟨[.im (.tup (sD fs)), .im (.lst (rD (twos fs "drop" ++ threes fs "link" ++ threes fs "move"))), .im (.str "move"), a2, .no], o⟩) := by
    simp only [forD, sSeq, sIf, bE, bR, bS, cTest, cOp, cOra, sOraP, oraPd, cC, cCall, cCons, cNil, cTup, cLst, cStar, itemsD_tup, itemsD_lst, cUn, cSl, cPart, cNoPart, cNot, cAnd, cOr, cChain, cAndV, cOrV, cNotV, cIf, cYes_ap, sSet, sRet, sRetN, sPass, sDrop, sPar, osCons, osNil, oIm, oLst, oList, setS, cVar, oR, gR, gd, fnD, fnR, fnC, cFn, cMk, cM1, cGive, cOpO, cOpOL, cCallO, cPopAt, popD, sApp, appD, sRem, ownL, sIfW, ifW, sTgt, tgName_ap, tgTup_ap, tgsCons_ap, tgsNil_ap, tgStar_ap, cSeqI, seqD_tup, seqD_lst, seqD_str, cRng1, rngD, cEnum, seqE_tup, seqE_lst, sFor, cLc, Env.set, Env.wipe, Env.back, wipeS, backS, iSeq, iEnd, iEndS, iTwo, iTwoS, isSelf, fnI, bSeq, bRet, fnB, cCallV, cMeth, sMatch, sBeg, sBegPar, sForF, env0, scO, DL.scal, atD_ins, isC_ins, dAdd, dSub, dMod, dMul, dFdiv, dPow, dLt, dLe, dGt, dGe, onI, onIc, addS, addT, addL, dInt, dLen_tup, dLen_lst, dLen_scr, dLen_str, dTuple_tup, dTuple_lst, dList_tup, dList_lst, dSl_tup, dSl_lst, dSl_scr, dSl_str, dIx_tup, dIx_lst, dIx_str, dIn, dNotInS_tup, dNotInS_lst, dEq, dNe, dIsN, dNotN, dMin2, dRev_lst, dJoin_lst, dJoin_tup, oraGet_left, oraGet_seed, oraGet_spot, oraGet_cells, oraPut_left, oraPut_seed, oraPut_spot, Option.map, Option.or, Option.bind, Option.isSome_some, Option.isSome_none, id, List.map_cons, List.map_nil, List.length_cons, List.length_nil, List.length_map, List.length_append, List.replicate, List.cons_append, List.nil_append, List.append_assoc, List.getElem?_cons_zero, List.getElem?_cons_succ, List.set_cons_zero, List.set_cons_succ, List.getD_cons_zero, List.getD_cons_succ, decide_true, decide_false, if_true, if_false, ite_true, ite_false, ↓reduceIte, reduceCtorEq, Nat.reduceAdd, Nat.reduceSub, Nat.reduceLT, Nat.reduceLeDiff, Nat.reduceEqDiff, Nat.zero_add, true_and, and_true, Bool.not_true, Bool.not_false, imp_self, Bool.true_and, Bool.and_true, Bool.false_eq_true, decide_eq_true_eq, forall_const, implies_true, List.mem_cons, List.not_mem_nil, or_false, forall_eq_or_imp, forall_eq, false_implies, eq_self, eqB_int, Int.cast_ofNat_Int, Int.natCast_add, Int.natCast_one, Int.reduceAdd, Int.reduceSub, Int.reduceLT, Int.reduceLE, Int.reduceEq, Int.reduceNeg, Bool.and_false, Bool.false_and, Bool.or_true, Bool.true_or, Bool.or_false, Bool.false_or, f1, f2]
  have e3 := lc_map (enc := D.str) (i := 3) (f := law_every_rule_e3) (ρ := ⟨[.im (.tup (sD fs)), .im (.lst (rD (twos fs "drop" ++ threes fs "link" ++ threes fs "move"))), .im (.str "move"), .no, .no], o⟩) (fun x => wT ["make", x]) fs (by omega) rfl (fun x hx => by
    simp only [law_every_rule_e3, wT, sSeq, sIf, bE, bR, bS, cTest, cOp, cOra, sOraP, oraPd, cC, cCall, cCons, cNil, cTup, cLst, cStar, itemsD_tup, itemsD_lst, cUn, cSl, cPart, cNoPart, cNot, cAnd, cOr, cChain, cAndV, cOrV, cNotV, cIf, cYes_ap, sSet, sRet, sRetN, sPass, sDrop, sPar, osCons, osNil, oIm, oLst, oList, setS, cVar, oR, gR, gd, fnD, fnR, fnC, cFn, cMk, cM1, cGive, cOpO, cOpOL, cCallO, cPopAt, popD, sApp, appD, sRem, ownL, sIfW, ifW, sTgt, tgName_ap, tgTup_ap, tgsCons_ap, tgsNil_ap, tgStar_ap, cSeqI, seqD_tup, seqD_lst, seqD_str, cRng1, rngD, cEnum, seqE_tup, seqE_lst, sFor, cLc, Env.set, Env.wipe, Env.back, wipeS, backS, iSeq, iEnd, iEndS, iTwo, iTwoS, isSelf, fnI, bSeq, bRet, fnB, cCallV, cMeth, sMatch, sBeg, sBegPar, sForF, env0, scO, DL.scal, atD_ins, isC_ins, dAdd, dSub, dMod, dMul, dFdiv, dPow, dLt, dLe, dGt, dGe, onI, onIc, addS, addT, addL, dInt, dLen_tup, dLen_lst, dLen_scr, dLen_str, dTuple_tup, dTuple_lst, dList_tup, dList_lst, dSl_tup, dSl_lst, dSl_scr, dSl_str, dIx_tup, dIx_lst, dIx_str, dIn, dNotInS_tup, dNotInS_lst, dEq, dNe, dIsN, dNotN, dMin2, dRev_lst, dJoin_lst, dJoin_tup, oraGet_left, oraGet_seed, oraGet_spot, oraGet_cells, oraPut_left, oraPut_seed, oraPut_spot, Option.map, Option.or, Option.bind, Option.isSome_some, Option.isSome_none, id, List.map_cons, List.map_nil, List.length_cons, List.length_nil, List.length_map, List.length_append, List.replicate, List.cons_append, List.nil_append, List.append_assoc, List.getElem?_cons_zero, List.getElem?_cons_succ, List.set_cons_zero, List.set_cons_succ, List.getD_cons_zero, List.getD_cons_succ, decide_true, decide_false, if_true, if_false, ite_true, ite_false, ↓reduceIte, reduceCtorEq, Nat.reduceAdd, Nat.reduceSub, Nat.reduceLT, Nat.reduceLeDiff, Nat.reduceEqDiff, Nat.zero_add, true_and, and_true, Bool.not_true, Bool.not_false, imp_self, Bool.true_and, Bool.and_true, Bool.false_eq_true, decide_eq_true_eq, forall_const, implies_true, List.mem_cons, List.not_mem_nil, or_false, forall_eq_or_imp, forall_eq, false_implies, eq_self, eqB_int, Int.cast_ofNat_Int, Int.natCast_add, Int.natCast_one, Int.reduceAdd, Int.reduceSub, Int.reduceLT, Int.reduceLE, Int.reduceEq, Int.reduceNeg, Bool.and_false, Bool.false_and, Bool.or_true, Bool.true_or, Bool.or_false, Bool.false_or, z2])
  have e3' : (fs.map fun x => wT ["make", x]) = rD (twos fs "make") := by unfold twos rD; rw [List.map_map]; rfl
  rw [e3'] at e3
  obtain ⟨rs, es, pr, ar⟩ := dSorted_lstR_ex (l := everyR fs) (Nat.le_trans (len_every_le nd hl) (by decide)) (fun r h => by rcases isRule_shape (every_rule h) with ⟨w, x, rfl, _⟩ | ⟨w, x, y, rfl, _⟩ <;> simp)
  refine ⟨rs, ?_, pr, ar⟩
  have z : sz ((twos fs "drop" ++ threes fs "link" ++ threes fs "move").length + (twos fs "make").length) := by show _ ≤ 100000; simp only [List.length_append]; omega
  unfold everyR at es
  generalize (twos fs "drop" ++ threes fs "link" ++ threes fs "move") = ac at *
  simp only [rD, List.map_append] at es
  simp only [F_law_every_rule, N_law_every_rule, B_law_every_rule, sSeq, sIf, bE, bR, bS, cTest, cOp, cOra, sOraP, oraPd, cC, cCall, cCons, cNil, cTup, cLst, cStar, itemsD_tup, itemsD_lst, cUn, cSl, cPart, cNoPart, cNot, cAnd, cOr, cChain, cAndV, cOrV, cNotV, cIf, cYes_ap, sSet, sRet, sRetN, sPass, sDrop, sPar, osCons, osNil, oIm, oLst, oList, setS, cVar, oR, gR, gd, fnD, fnR, fnC, cFn, cMk, cM1, cGive, cOpO, cOpOL, cCallO, cPopAt, popD, sApp, appD, sRem, ownL, sIfW, ifW, sTgt, tgName_ap, tgTup_ap, tgsCons_ap, tgsNil_ap, tgStar_ap, cSeqI, seqD_tup, seqD_lst, seqD_str, cRng1, rngD, cEnum, seqE_tup, seqE_lst, sFor, cLc, Env.set, Env.wipe, Env.back, wipeS, backS, iSeq, iEnd, iEndS, iTwo, iTwoS, isSelf, fnI, bSeq, bRet, fnB, cCallV, cMeth, sMatch, sBeg, sBegPar, sForF, env0, scO, DL.scal, atD_ins, isC_ins, dAdd, dSub, dMod, dMul, dFdiv, dPow, dLt, dLe, dGt, dGe, onI, onIc, addS, addT, addL, dInt, dLen_tup, dLen_lst, dLen_scr, dLen_str, dTuple_tup, dTuple_lst, dList_tup, dList_lst, dSl_tup, dSl_lst, dSl_scr, dSl_str, dIx_tup, dIx_lst, dIx_str, dIn, dNotInS_tup, dNotInS_lst, dEq, dNe, dIsN, dNotN, dMin2, dRev_lst, dJoin_lst, dJoin_tup, oraGet_left, oraGet_seed, oraGet_spot, oraGet_cells, oraPut_left, oraPut_seed, oraPut_spot, Option.map, Option.or, Option.bind, Option.isSome_some, Option.isSome_none, id, List.map_cons, List.map_nil, List.length_cons, List.length_nil, List.length_map, List.length_append, List.replicate, List.cons_append, List.nil_append, List.append_assoc, List.getElem?_cons_zero, List.getElem?_cons_succ, List.set_cons_zero, List.set_cons_succ, List.getD_cons_zero, List.getD_cons_succ, decide_true, decide_false, if_true, if_false, ite_true, ite_false, ↓reduceIte, reduceCtorEq, Nat.reduceAdd, Nat.reduceSub, Nat.reduceLT, Nat.reduceLeDiff, Nat.reduceEqDiff, Nat.zero_add, true_and, and_true, Bool.not_true, Bool.not_false, imp_self, Bool.true_and, Bool.and_true, Bool.false_eq_true, decide_eq_true_eq, forall_const, implies_true, List.mem_cons, List.not_mem_nil, or_false, forall_eq_or_imp, forall_eq, false_implies, eq_self, eqB_int, Int.cast_ofNat_Int, Int.natCast_add, Int.natCast_one, Int.reduceAdd, Int.reduceSub, Int.reduceLT, Int.reduceLE, Int.reduceEq, Int.reduceNeg, Bool.and_false, Bool.false_and, Bool.or_true, Bool.true_or, Bool.or_false, Bool.false_or, e1, ff, z2, e3, z, es, rD]
end LW

set_option Elab.async false
set_option linter.all false
set_option maxRecDepth 100000
set_option maxHeartbeats 4000000
namespace LW
open PySem DL
structure GoodF (fs : List Str) : Prop where
  n1 : fs ≠ []
  n4 : fs.length ≤ 4
  nd : fs.Nodup
  ww : ∀ x ∈ fs, isWord x = true
  af : ascS fs
theorem okS_move : okS "move" := by decide +kernel
theorem GoodF.sub {fs : List Str} (g : GoodF fs) {every rs : List (List Str)} (pr : every.Perm (everyR fs)) (ar : ascR every) (h : rs.Sublist every) : GoodW fs rs where
  n1 := g.n1
  n4 := g.n4
  nd := g.nd
  ww := g.ww
  af := g.af
  rr := fun r hr => every_rule (pr.mem_iff.mp (h.mem hr))
  rnd := h.nodup (pr.nodup_iff.mpr (nd_every g.nd))
  ar := ar.sublist h
  rl := by
    have h1 := h.length_le
    have h2 := pr.length_eq
    have h3 := len_every_le g.nd g.n4
    omega
theorem rules {n : Nat} {o : Ora} {fs : List Str} (k : Ok n o) (hn : n < 2 ^ 37) (g : GoodF fs) : ∃ rs o', F_law_rules [.dr, .tup (sD fs)] (some o) = .ok (.tup (rD rs)) (some o') ∧ Ok (n + 40) o' ∧ GoodW fs rs := by
  obtain ⟨way, o1, e1, h1, h2, k1⟩ := draw (m := 4) k (by omega) (by decide) (by decide)
  have okf : okW fs := fun x hx => isWord_ok (g.ww x hx)
  obtain ⟨every, ee, pr, ar⟩ := every_rule_spec (some o1) okf g.n4 g.nd
  have hlen : every.length ≤ 32 := by rw [pr.length_eq]; exact len_every_le g.nd g.n4
  have e2 := lc_pure (enc := wT) (i := 4) (p := law_rules_p1) (f := law_rules_e1) (ρ := ⟨[.im .dr, .im (.tup (sD fs)), .im (.int way), .no, .no], some o1⟩) (fun r => decide (0 < way) || decide (r[0]? = some (Str.ofString "move"))) wT every (by omega) rfl (fun r hr => by
    have row := isRule_row g.ww (every_rule (pr.mem_iff.mp hr))
    obtain ⟨w, hw, e, ok⟩ := head_look row 0
    have q := eqB_str ok okS_move
    refine ⟨?_, fun _ => ?_⟩
    · by_cases hp : 0 < way
      · simp only [law_rules_p1, sSeq, sIf, bE, bR, bS, cTest, cOp, cOra, sOraP, oraPd, cC, cCall, cCons, cNil, cTup, cLst, cStar, itemsD_tup, itemsD_lst, cUn, cSl, cPart, cNoPart, cNot, cAnd, cOr, cChain, cAndV, cOrV, cNotV, cIf, cYes_ap, sSet, sRet, sRetN, sPass, sDrop, sPar, osCons, osNil, oIm, oLst, oList, setS, cVar, oR, gR, gd, fnD, fnR, fnC, cFn, cMk, cM1, cGive, cOpO, cOpOL, cCallO, cPopAt, popD, sApp, appD, sRem, ownL, sIfW, ifW, sTgt, tgName_ap, tgTup_ap, tgsCons_ap, tgsNil_ap, tgStar_ap, cSeqI, seqD_tup, seqD_lst, seqD_str, cRng1, rngD, cEnum, seqE_tup, seqE_lst, sFor, cLc, Env.set, Env.wipe, Env.back, wipeS, backS, iSeq, iEnd, iEndS, iTwo, iTwoS, isSelf, fnI, bSeq, bRet, fnB, cCallV, cMeth, sMatch, sBeg, sBegPar, sForF, env0, scO, DL.scal, atD_ins, isC_ins, dAdd, dSub, dMod, dMul, dFdiv, dPow, dLt, dLe, dGt, dGe, onI, onIc, addS, addT, addL, dInt, dLen_tup, dLen_lst, dLen_scr, dLen_str, dTuple_tup, dTuple_lst, dList_tup, dList_lst, dSl_tup, dSl_lst, dSl_scr, dSl_str, dIx_tup, dIx_lst, dIx_str, dIn, dNotInS_tup, dNotInS_lst, dEq, dNe, dIsN, dNotN, dMin2, dRev_lst, dJoin_lst, dJoin_tup, oraGet_left, oraGet_seed, oraGet_spot, oraGet_cells, oraPut_left, oraPut_seed, oraPut_spot, Option.map, Option.or, Option.bind, Option.isSome_some, Option.isSome_none, id, List.map_cons, List.map_nil, List.length_cons, List.length_nil, List.length_map, List.length_append, List.replicate, List.cons_append, List.nil_append, List.append_assoc, List.getElem?_cons_zero, List.getElem?_cons_succ, List.set_cons_zero, List.set_cons_succ, List.getD_cons_zero, List.getD_cons_succ, decide_true, decide_false, if_true, if_false, ite_true, ite_false, ↓reduceIte, reduceCtorEq, Nat.reduceAdd, Nat.reduceSub, Nat.reduceLT, Nat.reduceLeDiff, Nat.reduceEqDiff, Nat.zero_add, true_and, and_true, Bool.not_true, Bool.not_false, imp_self, Bool.true_and, Bool.and_true, Bool.false_eq_true, decide_eq_true_eq, forall_const, implies_true, List.mem_cons, List.not_mem_nil, or_false, forall_eq_or_imp, forall_eq, false_implies, eq_self, eqB_int, Int.cast_ofNat_Int, Int.natCast_add, Int.natCast_one, Int.reduceAdd, Int.reduceSub, Int.reduceLT, Int.reduceLE, Int.reduceEq, Int.reduceNeg, Bool.and_false, Bool.false_and, Bool.or_true, Bool.true_or, Bool.or_false, Bool.false_or, hp]
      · simp only [law_rules_p1, sSeq, sIf, bE, bR, bS, cTest, cOp, cOra, sOraP, oraPd, cC, cCall, cCons, cNil, cTup, cLst, cStar, itemsD_tup, itemsD_lst, cUn, cSl, cPart, cNoPart, cNot, cAnd, cOr, cChain, cAndV, cOrV, cNotV, cIf, cYes_ap, sSet, sRet, sRetN, sPass, sDrop, sPar, osCons, osNil, oIm, oLst, oList, setS, cVar, oR, gR, gd, fnD, fnR, fnC, cFn, cMk, cM1, cGive, cOpO, cOpOL, cCallO, cPopAt, popD, sApp, appD, sRem, ownL, sIfW, ifW, sTgt, tgName_ap, tgTup_ap, tgsCons_ap, tgsNil_ap, tgStar_ap, cSeqI, seqD_tup, seqD_lst, seqD_str, cRng1, rngD, cEnum, seqE_tup, seqE_lst, sFor, cLc, Env.set, Env.wipe, Env.back, wipeS, backS, iSeq, iEnd, iEndS, iTwo, iTwoS, isSelf, fnI, bSeq, bRet, fnB, cCallV, cMeth, sMatch, sBeg, sBegPar, sForF, env0, scO, DL.scal, atD_ins, isC_ins, dAdd, dSub, dMod, dMul, dFdiv, dPow, dLt, dLe, dGt, dGe, onI, onIc, addS, addT, addL, dInt, dLen_tup, dLen_lst, dLen_scr, dLen_str, dTuple_tup, dTuple_lst, dList_tup, dList_lst, dSl_tup, dSl_lst, dSl_scr, dSl_str, dIx_tup, dIx_lst, dIx_str, dIn, dNotInS_tup, dNotInS_lst, dEq, dNe, dIsN, dNotN, dMin2, dRev_lst, dJoin_lst, dJoin_tup, oraGet_left, oraGet_seed, oraGet_spot, oraGet_cells, oraPut_left, oraPut_seed, oraPut_spot, Option.map, Option.or, Option.bind, Option.isSome_some, Option.isSome_none, id, List.map_cons, List.map_nil, List.length_cons, List.length_nil, List.length_map, List.length_append, List.replicate, List.cons_append, List.nil_append, List.append_assoc, List.getElem?_cons_zero, List.getElem?_cons_succ, List.set_cons_zero, List.set_cons_succ, List.getD_cons_zero, List.getD_cons_succ, decide_true, decide_false, if_true, if_false, ite_true, ite_false, ↓reduceIte, reduceCtorEq, Nat.reduceAdd, Nat.reduceSub, Nat.reduceLT, Nat.reduceLeDiff, Nat.reduceEqDiff, Nat.zero_add, true_and, and_true, Bool.not_true, Bool.not_false, imp_self, Bool.true_and, Bool.and_true, Bool.false_eq_true, decide_eq_true_eq, forall_const, implies_true, List.mem_cons, List.not_mem_nil, or_false, forall_eq_or_imp, forall_eq, false_implies, eq_self, eqB_int, Int.cast_ofNat_Int, Int.natCast_add, Int.natCast_one, Int.reduceAdd, Int.reduceSub, Int.reduceLT, Int.reduceLE, Int.reduceEq, Int.reduceNeg, Bool.and_false, Bool.false_and, Bool.or_true, Bool.true_or, Bool.or_false, Bool.false_or, hp, wT, e, q, hw, Option.some.injEq]
    · simp only [law_rules_e1, sSeq, sIf, bE, bR, bS, cTest, cOp, cOra, sOraP, oraPd, cC, cCall, cCons, cNil, cTup, cLst, cStar, itemsD_tup, itemsD_lst, cUn, cSl, cPart, cNoPart, cNot, cAnd, cOr, cChain, cAndV, cOrV, cNotV, cIf, cYes_ap, sSet, sRet, sRetN, sPass, sDrop, sPar, osCons, osNil, oIm, oLst, oList, setS, cVar, oR, gR, gd, fnD, fnR, fnC, cFn, cMk, cM1, cGive, cOpO, cOpOL, cCallO, cPopAt, popD, sApp, appD, sRem, ownL, sIfW, ifW, sTgt, tgName_ap, tgTup_ap, tgsCons_ap, tgsNil_ap, tgStar_ap, cSeqI, seqD_tup, seqD_lst, seqD_str, cRng1, rngD, cEnum, seqE_tup, seqE_lst, sFor, cLc, Env.set, Env.wipe, Env.back, wipeS, backS, iSeq, iEnd, iEndS, iTwo, iTwoS, isSelf, fnI, bSeq, bRet, fnB, cCallV, cMeth, sMatch, sBeg, sBegPar, sForF, env0, scO, DL.scal, atD_ins, isC_ins, dAdd, dSub, dMod, dMul, dFdiv, dPow, dLt, dLe, dGt, dGe, onI, onIc, addS, addT, addL, dInt, dLen_tup, dLen_lst, dLen_scr, dLen_str, dTuple_tup, dTuple_lst, dList_tup, dList_lst, dSl_tup, dSl_lst, dSl_scr, dSl_str, dIx_tup, dIx_lst, dIx_str, dIn, dNotInS_tup, dNotInS_lst, dEq, dNe, dIsN, dNotN, dMin2, dRev_lst, dJoin_lst, dJoin_tup, oraGet_left, oraGet_seed, oraGet_spot, oraGet_cells, oraPut_left, oraPut_seed, oraPut_spot, Option.map, Option.or, Option.bind, Option.isSome_some, Option.isSome_none, id, List.map_cons, List.map_nil, List.length_cons, List.length_nil, List.length_map, List.length_append, List.replicate, List.cons_append, List.nil_append, List.append_assoc, List.getElem?_cons_zero, List.getElem?_cons_succ, List.set_cons_zero, List.set_cons_succ, List.getD_cons_zero, List.getD_cons_succ, decide_true, decide_false, if_true, if_false, ite_true, ite_false, ↓reduceIte, reduceCtorEq, Nat.reduceAdd, Nat.reduceSub, Nat.reduceLT, Nat.reduceLeDiff, Nat.reduceEqDiff, Nat.zero_add, true_and, and_true, Bool.not_true, Bool.not_false, imp_self, Bool.true_and, Bool.and_true, Bool.false_eq_true, decide_eq_true_eq, forall_const, implies_true, List.mem_cons, List.not_mem_nil, or_false, forall_eq_or_imp, forall_eq, false_implies, eq_self, eqB_int, Int.cast_ofNat_Int, Int.natCast_add, Int.natCast_one, Int.reduceAdd, Int.reduceSub, Int.reduceLT, Int.reduceLE, Int.reduceEq, Int.reduceNeg, Bool.and_false, Bool.false_and, Bool.or_true, Bool.true_or, Bool.or_false, Bool.false_or])
  generalize hs : every.filter (fun r => decide (0 < way) || decide (r[0]? = some (Str.ofString "move"))) = some1 at e2
  have sub1 : some1.Sublist every := by rw [← hs]; exact List.filter_sublist
  obtain ⟨r, ρ', e3, rs, o3, rfl, sub2, rfl, k3⟩ := lc_inv (enc := wT) (g := tgName 4) (p := law_rules_p2) (f := law_rules_e2) (vs := [4]) some1 (by have := sub1.length_le; omega)
    (fun pre acc ρ => ∃ (rs : List (List Str)) (o' : Ora), acc = rD rs ∧ rs.Sublist pre ∧ ρ = ⟨[.im .dr, .im (.tup (sD fs)), .im (.int way), .im (.lst (rD some1)), .no], some o'⟩ ∧ Ok (n + 1 + pre.length) o')
    (fun pre y post acc ρ hall ⟨rs, o', ha, hsub, hρ, k'⟩ => by
      subst hρ ha
      have hl2 := sub1.length_le
      have hl3 := congrArg List.length hall
      simp only [List.length_append, List.length_cons] at hl3
      obtain ⟨d, o4, e4, h3, h4, k4⟩ := draw (m := 6) k' (by omega) (by decide) (by decide)
      have k5 : Ok (n + 1 + (pre ++ [y]).length) o4 := by simp only [List.length_append, List.length_cons, List.length_nil]; exact k4
      by_cases hd : d < 2 + way
      · refine ⟨_, rfl, .inr ⟨⟨[.im .dr, .im (.tup (sD fs)), .im (.int way), .im (.lst (rD some1)), .im (wT y)], some o4⟩, wT y, ⟨[.im .dr, .im (.tup (sD fs)), .im (.int way), .im (.lst (rD some1)), .im (wT y)], some o4⟩, ?_, rfl, rs ++ [y], o4, by simp, hsub.append (List.Sublist.refl _), rfl, k5⟩⟩
        simp only [law_rules_p2, sSeq, sIf, bE, bR, bS, cTest, cOp, cOra, sOraP, oraPd, cC, cCall, cCons, cNil, cTup, cLst, cStar, itemsD_tup, itemsD_lst, cUn, cSl, cPart, cNoPart, cNot, cAnd, cOr, cChain, cAndV, cOrV, cNotV, cIf, cYes_ap, sSet, sRet, sRetN, sPass, sDrop, sPar, osCons, osNil, oIm, oLst, oList, setS, cVar, oR, gR, gd, fnD, fnR, fnC, cFn, cMk, cM1, cGive, cOpO, cOpOL, cCallO, cPopAt, popD, sApp, appD, sRem, ownL, sIfW, ifW, sTgt, tgName_ap, tgTup_ap, tgsCons_ap, tgsNil_ap, tgStar_ap, cSeqI, seqD_tup, seqD_lst, seqD_str, cRng1, rngD, cEnum, seqE_tup, seqE_lst, sFor, cLc, Env.set, Env.wipe, Env.back, wipeS, backS, iSeq, iEnd, iEndS, iTwo, iTwoS, isSelf, fnI, bSeq, bRet, fnB, cCallV, cMeth, sMatch, sBeg, sBegPar, sForF, env0, scO, DL.scal, atD_ins, isC_ins, dAdd, dSub, dMod, dMul, dFdiv, dPow, dLt, dLe, dGt, dGe, onI, onIc, addS, addT, addL, dInt, dLen_tup, dLen_lst, dLen_scr, dLen_str, dTuple_tup, dTuple_lst, dList_tup, dList_lst, dSl_tup, dSl_lst, dSl_scr, dSl_str, dIx_tup, dIx_lst, dIx_str, dIn, dNotInS_tup, dNotInS_lst, dEq, dNe, dIsN, dNotN, dMin2, dRev_lst, dJoin_lst, dJoin_tup, oraGet_left, oraGet_seed, oraGet_spot, oraGet_cells, oraPut_left, oraPut_seed, oraPut_spot, Option.map, Option.or, Option.bind, Option.isSome_some, Option.isSome_none, id, List.map_cons, List.map_nil, List.length_cons, List.length_nil, List.length_map, List.length_append, List.replicate, List.cons_append, List.nil_append, List.append_assoc, List.getElem?_cons_zero, List.getElem?_cons_succ, List.set_cons_zero, List.set_cons_succ, List.getD_cons_zero, List.getD_cons_succ, decide_true, decide_false, if_true, if_false, ite_true, ite_false, ↓reduceIte, reduceCtorEq, Nat.reduceAdd, Nat.reduceSub, Nat.reduceLT, Nat.reduceLeDiff, Nat.reduceEqDiff, Nat.zero_add, true_and, and_true, Bool.not_true, Bool.not_false, imp_self, Bool.true_and, Bool.and_true, Bool.false_eq_true, decide_eq_true_eq, forall_const, implies_true, List.mem_cons, List.not_mem_nil, or_false, forall_eq_or_imp, forall_eq, false_implies, eq_self, eqB_int, Int.cast_ofNat_Int, Int.natCast_add, Int.natCast_one, Int.reduceAdd, Int.reduceSub, Int.reduceLT, Int.reduceLE, Int.reduceEq, Int.reduceNeg, Bool.and_false, Bool.false_and, Bool.or_true, Bool.true_or, Bool.or_false, Bool.false_or, e4, hd]
      · refine ⟨_, rfl, .inl ⟨⟨[.im .dr, .im (.tup (sD fs)), .im (.int way), .im (.lst (rD some1)), .im (wT y)], some o4⟩, ?_, rs, o4, rfl, hsub.trans (List.sublist_append_left _ _), rfl, k5⟩⟩
        simp only [law_rules_p2, sSeq, sIf, bE, bR, bS, cTest, cOp, cOra, sOraP, oraPd, cC, cCall, cCons, cNil, cTup, cLst, cStar, itemsD_tup, itemsD_lst, cUn, cSl, cPart, cNoPart, cNot, cAnd, cOr, cChain, cAndV, cOrV, cNotV, cIf, cYes_ap, sSet, sRet, sRetN, sPass, sDrop, sPar, osCons, osNil, oIm, oLst, oList, setS, cVar, oR, gR, gd, fnD, fnR, fnC, cFn, cMk, cM1, cGive, cOpO, cOpOL, cCallO, cPopAt, popD, sApp, appD, sRem, ownL, sIfW, ifW, sTgt, tgName_ap, tgTup_ap, tgsCons_ap, tgsNil_ap, tgStar_ap, cSeqI, seqD_tup, seqD_lst, seqD_str, cRng1, rngD, cEnum, seqE_tup, seqE_lst, sFor, cLc, Env.set, Env.wipe, Env.back, wipeS, backS, iSeq, iEnd, iEndS, iTwo, iTwoS, isSelf, fnI, bSeq, bRet, fnB, cCallV, cMeth, sMatch, sBeg, sBegPar, sForF, env0, scO, DL.scal, atD_ins, isC_ins, dAdd, dSub, dMod, dMul, dFdiv, dPow, dLt, dLe, dGt, dGe, onI, onIc, addS, addT, addL, dInt, dLen_tup, dLen_lst, dLen_scr, dLen_str, dTuple_tup, dTuple_lst, dList_tup, dList_lst, dSl_tup, dSl_lst, dSl_scr, dSl_str, dIx_tup, dIx_lst, dIx_str, dIn, dNotInS_tup, dNotInS_lst, dEq, dNe, dIsN, dNotN, dMin2, dRev_lst, dJoin_lst, dJoin_tup, oraGet_left, oraGet_seed, oraGet_spot, oraGet_cells, oraPut_left, oraPut_seed, oraPut_spot, Option.map, Option.or, Option.bind, Option.isSome_some, Option.isSome_none, id, List.map_cons, List.map_nil, List.length_cons, List.length_nil, List.length_map, List.length_append, List.replicate, List.cons_append, List.nil_append, List.append_assoc, List.getElem?_cons_zero, List.getElem?_cons_succ, List.set_cons_zero, List.set_cons_succ, List.getD_cons_zero, List.getD_cons_succ, decide_true, decide_false, if_true, if_false, ite_true, ite_false, ↓reduceIte, reduceCtorEq, Nat.reduceAdd, Nat.reduceSub, Nat.reduceLT, Nat.reduceLeDiff, Nat.reduceEqDiff, Nat.zero_add, true_and, and_true, Bool.not_true, Bool.not_false, imp_self, Bool.true_and, Bool.and_true, Bool.false_eq_true, decide_eq_true_eq, forall_const, implies_true, List.mem_cons, List.not_mem_nil, or_false, forall_eq_or_imp, forall_eq, false_implies, eq_self, eqB_int, Int.cast_ofNat_Int, Int.natCast_add, Int.natCast_one, Int.reduceAdd, Int.reduceSub, Int.reduceLT, Int.reduceLE, Int.reduceEq, Int.reduceNeg, Bool.and_false, Bool.false_and, Bool.or_true, Bool.true_or, Bool.or_false, Bool.false_or, e4, hd]) (ρ := ⟨[.im .dr, .im (.tup (sD fs)), .im (.int way), .im (.lst (rD some1)), .no], some o1⟩) ⟨[], o1, rfl, List.Sublist.refl _, rfl, k1⟩
  have hl2 := sub1.length_le
  refine ⟨rs, o3, ?_, ⟨k3.ne, k3.lo, by have := k3.hi; omega⟩, g.sub pr ar (sub2.trans sub1)⟩
  simp only [F_law_rules, N_law_rules, B_law_rules, sSeq, sIf, bE, bR, bS, cTest, cOp, cOra, sOraP, oraPd, cC, cCall, cCons, cNil, cTup, cLst, cStar, itemsD_tup, itemsD_lst, cUn, cSl, cPart, cNoPart, cNot, cAnd, cOr, cChain, cAndV, cOrV, cNotV, cIf, cYes_ap, sSet, sRet, sRetN, sPass, sDrop, sPar, osCons, osNil, oIm, oLst, oList, setS, cVar, oR, gR, gd, fnD, fnR, fnC, cFn, cMk, cM1, cGive, cOpO, cOpOL, cCallO, cPopAt, popD, sApp, appD, sRem, ownL, sIfW, ifW, sTgt, tgName_ap, tgTup_ap, tgsCons_ap, tgsNil_ap, tgStar_ap, cSeqI, seqD_tup, seqD_lst, seqD_str, cRng1, rngD, cEnum, seqE_tup, seqE_lst, sFor, cLc, Env.set, Env.wipe, Env.back, wipeS, backS, iSeq, iEnd, iEndS, iTwo, iTwoS, isSelf, fnI, bSeq, bRet, fnB, cCallV, cMeth, sMatch, sBeg, sBegPar, sForF, env0, scO, DL.scal, atD_ins, isC_ins, dAdd, dSub, dMod, dMul, dFdiv, dPow, dLt, dLe, dGt, dGe, onI, onIc, addS, addT, addL, dInt, dLen_tup, dLen_lst, dLen_scr, dLen_str, dTuple_tup, dTuple_lst, dList_tup, dList_lst, dSl_tup, dSl_lst, dSl_scr, dSl_str, dIx_tup, dIx_lst, dIx_str, dIn, dNotInS_tup, dNotInS_lst, dEq, dNe, dIsN, dNotN, dMin2, dRev_lst, dJoin_lst, dJoin_tup, oraGet_left, oraGet_seed, oraGet_spot, oraGet_cells, oraPut_left, oraPut_seed, oraPut_spot, Option.map, Option.or, Option.bind, Option.isSome_some, Option.isSome_none, id, List.map_cons, List.map_nil, List.length_cons, List.length_nil, List.length_map, List.length_append, List.replicate, List.cons_append, List.nil_append, List.append_assoc, List.getElem?_cons_zero, List.getElem?_cons_succ, List.set_cons_zero, List.set_cons_succ, List.getD_cons_zero, List.getD_cons_succ, decide_true, decide_false, if_true, if_false, ite_true, ite_false, ↓reduceIte, reduceCtorEq, Nat.reduceAdd, Nat.reduceSub, Nat.reduceLT, Nat.reduceLeDiff, Nat.reduceEqDiff, Nat.zero_add, true_and, and_true, Bool.not_true, Bool.not_false, imp_self, Bool.true_and, Bool.and_true, Bool.false_eq_true, decide_eq_true_eq, forall_const, implies_true, List.mem_cons, List.not_mem_nil, or_false, forall_eq_or_imp, forall_eq, false_implies, eq_self, eqB_int, Int.cast_ofNat_Int, Int.natCast_add, Int.natCast_one, Int.reduceAdd, Int.reduceSub, Int.reduceLT, Int.reduceLE, Int.reduceEq, Int.reduceNeg, Bool.and_false, Bool.false_and, Bool.or_true, Bool.true_or, Bool.or_false, Bool.false_or, e1, ee, e2, e3]
end LW

set_option Elab.async false
set_option linter.all false
set_option maxRecDepth 100000
set_option maxHeartbeats 4000000
namespace LW
open PySem DL
theorem firstAt_mem {x : Str} : ∀ {l : List Str}, x ∈ l → ∃ j, firstAt x l = some j
  | [], h => by simp at h
  | y :: l, h => by
    unfold firstAt
    by_cases e : y = x
    · exact ⟨0, if_pos e⟩
    · rw [if_neg e]
      rcases List.mem_cons.mp h with h | h
      · exact absurd h.symm e
      · obtain ⟨j, hj⟩ := firstAt_mem h
        exact ⟨j + 1, by rw [hj]; rfl⟩
theorem RunS.okLH {fs : List Str} : ∀ {s s1 : LH} {rs : List (List Str)}, RunS fs s rs s1 → LW.okLH fs s → LW.okLH fs s1
  | _, _, _, .nil _, k => k
  | _, _, _, .cons h t, k => t.okLH (h.okLH k)
def stE (fs : List Str) (m : Int) (s : LH) (found : List (List Str)) (a b c : Slot) (o : Ora) : DL.Env :=
  ⟨[.im .dr, .im (.tup (sD fs)), .im (.int m), a, .ow (.lst (sD s.1)), .ow (.lst (sD s.2)), .ow (.lst (rD found)), b, c], some o⟩
theorem steps_turn {n : Nat} {o : Ora} {fs : List Str} {m : Int} {s : LH} {found : List (List Str)} {a b c : Slot} (k : Ok n o) (hn : n < 2 ^ 38) (g : GoodF fs) (ks : okLH fs s) (hl : s.1.length ≤ 100 ∧ s.2.length ≤ 100 ∧ found.length ≤ 100) :
    ∃ (r : List Str) (s1 : LH) (o' : Ora) (b' c' : Slot), StepS fs s r s1 ∧ (s1.1 = s.1 ∨ isLook r = true) ∧ Ok (n + 2) o' ∧ law_steps_f1 (stE fs m s found a b c o) = .ok (.nx (stE fs m s1 (found ++ [r]) a b' c' o')) := by
  have okf : okW fs := fun x hx => isWord_ok (g.ww x hx)
  obtain ⟨way, o1, e1, h1, h2, k1⟩ := draw (m := 11) k (by omega) (by decide) (by decide)
  obtain ⟨d, o2, e2, hd, k2⟩ := of_tup (l := sD fs) k1 (by omega) (by simpa using g.n1) (by have := g.n4; simp; omega)
  obtain ⟨x, hx, rfl⟩ := mem_sD hd
  have okl : okW s.1 := fun y hy => okf y (ks.1 y hy)
  have okh : okW s.2 := fun y hy => okf y (ks.2 y hy)
  have i1 := inB_lstS (okf x hx) okl
  have i2 := inB_lstS (okf x hx) okh
  have z1 : sz s.1.length := by show _ ≤ 100000; omega
  have z2 : sz s.2.length := by show _ ≤ 100000; omega
  have z3 : sz found.length := by show _ ≤ 100000; omega
  have z4 : sz 2 := by decide
  have z5 : sz 1 := by decide
  have z6 : sz 3 := by decide
  have e3 := strsOf_strs s.2
  simp only [sD] at i1 i2 e3
  by_cases w4 : way < 4
  · refine ⟨["look", x], (s.1 ++ [x], s.2), o2, .im (.int way), .im (.str x), .look s hx, .inr (by unfold isLook; simp), k2, ?_⟩
    simp only [stE, law_steps_f1, sSeq, sIf, bE, bR, bS, cTest, cOp, cOra, sOraP, oraPd, cC, cCall, cCons, cNil, cTup, cLst, cStar, itemsD_tup, itemsD_lst, cUn, cSl, cPart, cNoPart, cNot, cAnd, cOr, cChain, cAndV, cOrV, cNotV, cIf, cYes_ap, sSet, sRet, sRetN, sPass, sDrop, sPar, osCons, osNil, oIm, oLst, oList, setS, cVar, oR, gR, gd, fnD, fnR, fnC, cFn, cMk, cM1, cGive, cOpO, cOpOL, cCallO, cPopAt, popD, sApp, appD, sRem, ownL, sIfW, ifW, sTgt, tgName_ap, tgTup_ap, tgsCons_ap, tgsNil_ap, tgStar_ap, cSeqI, seqD_tup, seqD_lst, seqD_str, cRng1, rngD, cEnum, seqE_tup, seqE_lst, sFor, cLc, Env.set, Env.wipe, Env.back, wipeS, backS, iSeq, iEnd, iEndS, iTwo, iTwoS, isSelf, fnI, bSeq, bRet, fnB, cCallV, cMeth, sMatch, sBeg, sBegPar, sForF, env0, scO, DL.scal, atD_ins, isC_ins, dAdd, dSub, dMod, dMul, dFdiv, dPow, dLt, dLe, dGt, dGe, onI, onIc, addS, addT, addL, dInt, dLen_tup, dLen_lst, dLen_scr, dLen_str, dTuple_tup, dTuple_lst, dList_tup, dList_lst, dSl_tup, dSl_lst, dSl_scr, dSl_str, dIx_tup, dIx_lst, dIx_str, dIn, dNotInS_tup, dNotInS_lst, dEq, dNe, dIsN, dNotN, dMin2, dRev_lst, dJoin_lst, dJoin_tup, oraGet_left, oraGet_seed, oraGet_spot, oraGet_cells, oraPut_left, oraPut_seed, oraPut_spot, Option.map, Option.or, Option.bind, Option.isSome_some, Option.isSome_none, id, List.map_cons, List.map_nil, List.length_cons, List.length_nil, List.length_map, List.length_append, List.replicate, List.cons_append, List.nil_append, List.append_assoc, List.getElem?_cons_zero, List.getElem?_cons_succ, List.set_cons_zero, List.set_cons_succ, List.getD_cons_zero, List.getD_cons_succ, decide_true, decide_false, if_true, if_false, ite_true, ite_false, ↓reduceIte, reduceCtorEq, Nat.reduceAdd, Nat.reduceSub, Nat.reduceLT, Nat.reduceLeDiff, Nat.reduceEqDiff, Nat.zero_add, true_and, and_true, Bool.not_true, Bool.not_false, imp_self, Bool.true_and, Bool.and_true, Bool.false_eq_true, decide_eq_true_eq, forall_const, implies_true, List.mem_cons, List.not_mem_nil, or_false, forall_eq_or_imp, forall_eq, false_implies, eq_self, eqB_int, Int.cast_ofNat_Int, Int.natCast_add, Int.natCast_one, Int.reduceAdd, Int.reduceSub, Int.reduceLT, Int.reduceLE, Int.reduceEq, Int.reduceNeg, Bool.and_false, Bool.false_and, Bool.or_true, Bool.true_or, Bool.or_false, Bool.false_or, e1, e2, w4, z1, z2, z3, z4, z5, rD, sD, wT, List.map_append]
  · by_cases w6 : way < 6
    · refine ⟨["tick"], s, o2, .im (.int way), .im (.str x), .tick s, .inl rfl, k2, ?_⟩
      simp only [stE, law_steps_f1, sSeq, sIf, bE, bR, bS, cTest, cOp, cOra, sOraP, oraPd, cC, cCall, cCons, cNil, cTup, cLst, cStar, itemsD_tup, itemsD_lst, cUn, cSl, cPart, cNoPart, cNot, cAnd, cOr, cChain, cAndV, cOrV, cNotV, cIf, cYes_ap, sSet, sRet, sRetN, sPass, sDrop, sPar, osCons, osNil, oIm, oLst, oList, setS, cVar, oR, gR, gd, fnD, fnR, fnC, cFn, cMk, cM1, cGive, cOpO, cOpOL, cCallO, cPopAt, popD, sApp, appD, sRem, ownL, sIfW, ifW, sTgt, tgName_ap, tgTup_ap, tgsCons_ap, tgsNil_ap, tgStar_ap, cSeqI, seqD_tup, seqD_lst, seqD_str, cRng1, rngD, cEnum, seqE_tup, seqE_lst, sFor, cLc, Env.set, Env.wipe, Env.back, wipeS, backS, iSeq, iEnd, iEndS, iTwo, iTwoS, isSelf, fnI, bSeq, bRet, fnB, cCallV, cMeth, sMatch, sBeg, sBegPar, sForF, env0, scO, DL.scal, atD_ins, isC_ins, dAdd, dSub, dMod, dMul, dFdiv, dPow, dLt, dLe, dGt, dGe, onI, onIc, addS, addT, addL, dInt, dLen_tup, dLen_lst, dLen_scr, dLen_str, dTuple_tup, dTuple_lst, dList_tup, dList_lst, dSl_tup, dSl_lst, dSl_scr, dSl_str, dIx_tup, dIx_lst, dIx_str, dIn, dNotInS_tup, dNotInS_lst, dEq, dNe, dIsN, dNotN, dMin2, dRev_lst, dJoin_lst, dJoin_tup, oraGet_left, oraGet_seed, oraGet_spot, oraGet_cells, oraPut_left, oraPut_seed, oraPut_spot, Option.map, Option.or, Option.bind, Option.isSome_some, Option.isSome_none, id, List.map_cons, List.map_nil, List.length_cons, List.length_nil, List.length_map, List.length_append, List.replicate, List.cons_append, List.nil_append, List.append_assoc, List.getElem?_cons_zero, List.getElem?_cons_succ, List.set_cons_zero, List.set_cons_succ, List.getD_cons_zero, List.getD_cons_succ, decide_true, decide_false, if_true, if_false, ite_true, ite_false, ↓reduceIte, reduceCtorEq, Nat.reduceAdd, Nat.reduceSub, Nat.reduceLT, Nat.reduceLeDiff, Nat.reduceEqDiff, Nat.zero_add, true_and, and_true, Bool.not_true, Bool.not_false, imp_self, Bool.true_and, Bool.and_true, Bool.false_eq_true, decide_eq_true_eq, forall_const, implies_true, List.mem_cons, List.not_mem_nil, or_false, forall_eq_or_imp, forall_eq, false_implies, eq_self, eqB_int, Int.cast_ofNat_Int, Int.natCast_add, Int.natCast_one, Int.reduceAdd, Int.reduceSub, Int.reduceLT, Int.reduceLE, Int.reduceEq, Int.reduceNeg, Bool.and_false, Bool.false_and, Bool.or_true, Bool.true_or, Bool.or_false, Bool.false_or, e1, e2, w4, w6, z1, z2, z3, z4, z5, rD, sD, wT, List.map_append]
    · by_cases w9 : way < 9 ∧ x ∈ s.1
      · have hw : way = 6 ∨ way = 7 ∨ way = 8 := by omega
        have hi := w9.2
        have hw9 := w9.1
        rcases hw with rfl | rfl | rfl
        · refine ⟨["check", x], s, o2, .im (.int 6), .im (.str x), .check s hx hi, .inl rfl, k2, ?_⟩
          have q : L2.atI [D.str "check", D.str "sure", D.str "sure"] 0 = some (.str "check") := rfl
          simp only [stE, law_steps_f1, sSeq, sIf, bE, bR, bS, cTest, cOp, cOra, sOraP, oraPd, cC, cCall, cCons, cNil, cTup, cLst, cStar, itemsD_tup, itemsD_lst, cUn, cSl, cPart, cNoPart, cNot, cAnd, cOr, cChain, cAndV, cOrV, cNotV, cIf, cYes_ap, sSet, sRet, sRetN, sPass, sDrop, sPar, osCons, osNil, oIm, oLst, oList, setS, cVar, oR, gR, gd, fnD, fnR, fnC, cFn, cMk, cM1, cGive, cOpO, cOpOL, cCallO, cPopAt, popD, sApp, appD, sRem, ownL, sIfW, ifW, sTgt, tgName_ap, tgTup_ap, tgsCons_ap, tgsNil_ap, tgStar_ap, cSeqI, seqD_tup, seqD_lst, seqD_str, cRng1, rngD, cEnum, seqE_tup, seqE_lst, sFor, cLc, Env.set, Env.wipe, Env.back, wipeS, backS, iSeq, iEnd, iEndS, iTwo, iTwoS, isSelf, fnI, bSeq, bRet, fnB, cCallV, cMeth, sMatch, sBeg, sBegPar, sForF, env0, scO, DL.scal, atD_ins, isC_ins, dAdd, dSub, dMod, dMul, dFdiv, dPow, dLt, dLe, dGt, dGe, onI, onIc, addS, addT, addL, dInt, dLen_tup, dLen_lst, dLen_scr, dLen_str, dTuple_tup, dTuple_lst, dList_tup, dList_lst, dSl_tup, dSl_lst, dSl_scr, dSl_str, dIx_tup, dIx_lst, dIx_str, dIn, dNotInS_tup, dNotInS_lst, dEq, dNe, dIsN, dNotN, dMin2, dRev_lst, dJoin_lst, dJoin_tup, oraGet_left, oraGet_seed, oraGet_spot, oraGet_cells, oraPut_left, oraPut_seed, oraPut_spot, Option.map, Option.or, Option.bind, Option.isSome_some, Option.isSome_none, id, List.map_cons, List.map_nil, List.length_cons, List.length_nil, List.length_map, List.length_append, List.replicate, List.cons_append, List.nil_append, List.append_assoc, List.getElem?_cons_zero, List.getElem?_cons_succ, List.set_cons_zero, List.set_cons_succ, List.getD_cons_zero, List.getD_cons_succ, decide_true, decide_false, if_true, if_false, ite_true, ite_false, ↓reduceIte, reduceCtorEq, Nat.reduceAdd, Nat.reduceSub, Nat.reduceLT, Nat.reduceLeDiff, Nat.reduceEqDiff, Nat.zero_add, true_and, and_true, Bool.not_true, Bool.not_false, imp_self, Bool.true_and, Bool.and_true, Bool.false_eq_true, decide_eq_true_eq, forall_const, implies_true, List.mem_cons, List.not_mem_nil, or_false, forall_eq_or_imp, forall_eq, false_implies, eq_self, eqB_int, Int.cast_ofNat_Int, Int.natCast_add, Int.natCast_one, Int.reduceAdd, Int.reduceSub, Int.reduceLT, Int.reduceLE, Int.reduceEq, Int.reduceNeg, Bool.and_false, Bool.false_and, Bool.or_true, Bool.true_or, Bool.or_false, Bool.false_or, e1, e2, i1, hi, q, z1, z2, z3, z4, z5, z6, rD, sD, wT, List.map_append]
        · refine ⟨["sure", x], s, o2, .im (.int 7), .im (.str x), .sure s hx hi, .inl rfl, k2, ?_⟩
          have q : L2.atI [D.str "check", D.str "sure", D.str "sure"] 1 = some (.str "sure") := rfl
          simp only [stE, law_steps_f1, sSeq, sIf, bE, bR, bS, cTest, cOp, cOra, sOraP, oraPd, cC, cCall, cCons, cNil, cTup, cLst, cStar, itemsD_tup, itemsD_lst, cUn, cSl, cPart, cNoPart, cNot, cAnd, cOr, cChain, cAndV, cOrV, cNotV, cIf, cYes_ap, sSet, sRet, sRetN, sPass, sDrop, sPar, osCons, osNil, oIm, oLst, oList, setS, cVar, oR, gR, gd, fnD, fnR, fnC, cFn, cMk, cM1, cGive, cOpO, cOpOL, cCallO, cPopAt, popD, sApp, appD, sRem, ownL, sIfW, ifW, sTgt, tgName_ap, tgTup_ap, tgsCons_ap, tgsNil_ap, tgStar_ap, cSeqI, seqD_tup, seqD_lst, seqD_str, cRng1, rngD, cEnum, seqE_tup, seqE_lst, sFor, cLc, Env.set, Env.wipe, Env.back, wipeS, backS, iSeq, iEnd, iEndS, iTwo, iTwoS, isSelf, fnI, bSeq, bRet, fnB, cCallV, cMeth, sMatch, sBeg, sBegPar, sForF, env0, scO, DL.scal, atD_ins, isC_ins, dAdd, dSub, dMod, dMul, dFdiv, dPow, dLt, dLe, dGt, dGe, onI, onIc, addS, addT, addL, dInt, dLen_tup, dLen_lst, dLen_scr, dLen_str, dTuple_tup, dTuple_lst, dList_tup, dList_lst, dSl_tup, dSl_lst, dSl_scr, dSl_str, dIx_tup, dIx_lst, dIx_str, dIn, dNotInS_tup, dNotInS_lst, dEq, dNe, dIsN, dNotN, dMin2, dRev_lst, dJoin_lst, dJoin_tup, oraGet_left, oraGet_seed, oraGet_spot, oraGet_cells, oraPut_left, oraPut_seed, oraPut_spot, Option.map, Option.or, Option.bind, Option.isSome_some, Option.isSome_none, id, List.map_cons, List.map_nil, List.length_cons, List.length_nil, List.length_map, List.length_append, List.replicate, List.cons_append, List.nil_append, List.append_assoc, List.getElem?_cons_zero, List.getElem?_cons_succ, List.set_cons_zero, List.set_cons_succ, List.getD_cons_zero, List.getD_cons_succ, decide_true, decide_false, if_true, if_false, ite_true, ite_false, ↓reduceIte, reduceCtorEq, Nat.reduceAdd, Nat.reduceSub, Nat.reduceLT, Nat.reduceLeDiff, Nat.reduceEqDiff, Nat.zero_add, true_and, and_true, Bool.not_true, Bool.not_false, imp_self, Bool.true_and, Bool.and_true, Bool.false_eq_true, decide_eq_true_eq, forall_const, implies_true, List.mem_cons, List.not_mem_nil, or_false, forall_eq_or_imp, forall_eq, false_implies, eq_self, eqB_int, Int.cast_ofNat_Int, Int.natCast_add, Int.natCast_one, Int.reduceAdd, Int.reduceSub, Int.reduceLT, Int.reduceLE, Int.reduceEq, Int.reduceNeg, Bool.and_false, Bool.false_and, Bool.or_true, Bool.true_or, Bool.or_false, Bool.false_or, e1, e2, i1, hi, q, z1, z2, z3, z4, z5, z6, rD, sD, wT, List.map_append]
        · refine ⟨["sure", x], s, o2, .im (.int 8), .im (.str x), .sure s hx hi, .inl rfl, k2, ?_⟩
          have q : L2.atI [D.str "check", D.str "sure", D.str "sure"] 2 = some (.str "sure") := rfl
          simp only [stE, law_steps_f1, sSeq, sIf, bE, bR, bS, cTest, cOp, cOra, sOraP, oraPd, cC, cCall, cCons, cNil, cTup, cLst, cStar, itemsD_tup, itemsD_lst, cUn, cSl, cPart, cNoPart, cNot, cAnd, cOr, cChain, cAndV, cOrV, cNotV, cIf, cYes_ap, sSet, sRet, sRetN, sPass, sDrop, sPar, osCons, osNil, oIm, oLst, oList, setS, cVar, oR, gR, gd, fnD, fnR, fnC, cFn, cMk, cM1, cGive, cOpO, cOpOL, cCallO, cPopAt, popD, sApp, appD, sRem, ownL, sIfW, ifW, sTgt, tgName_ap, tgTup_ap, tgsCons_ap, tgsNil_ap, tgStar_ap, cSeqI, seqD_tup, seqD_lst, seqD_str, cRng1, rngD, cEnum, seqE_tup, seqE_lst, sFor, cLc, Env.set, Env.wipe, Env.back, wipeS, backS, iSeq, iEnd, iEndS, iTwo, iTwoS, isSelf, fnI, bSeq, bRet, fnB, cCallV, cMeth, sMatch, sBeg, sBegPar, sForF, env0, scO, DL.scal, atD_ins, isC_ins, dAdd, dSub, dMod, dMul, dFdiv, dPow, dLt, dLe, dGt, dGe, onI, onIc, addS, addT, addL, dInt, dLen_tup, dLen_lst, dLen_scr, dLen_str, dTuple_tup, dTuple_lst, dList_tup, dList_lst, dSl_tup, dSl_lst, dSl_scr, dSl_str, dIx_tup, dIx_lst, dIx_str, dIn, dNotInS_tup, dNotInS_lst, dEq, dNe, dIsN, dNotN, dMin2, dRev_lst, dJoin_lst, dJoin_tup, oraGet_left, oraGet_seed, oraGet_spot, oraGet_cells, oraPut_left, oraPut_seed, oraPut_spot, Option.map, Option.or, Option.bind, Option.isSome_some, Option.isSome_none, id, List.map_cons, List.map_nil, List.length_cons, List.length_nil, List.length_map, List.length_append, List.replicate, List.cons_append, List.nil_append, List.append_assoc, List.getElem?_cons_zero, List.getElem?_cons_succ, List.set_cons_zero, List.set_cons_succ, List.getD_cons_zero, List.getD_cons_succ, decide_true, decide_false, if_true, if_false, ite_true, ite_false, ↓reduceIte, reduceCtorEq, Nat.reduceAdd, Nat.reduceSub, Nat.reduceLT, Nat.reduceLeDiff, Nat.reduceEqDiff, Nat.zero_add, true_and, and_true, Bool.not_true, Bool.not_false, imp_self, Bool.true_and, Bool.and_true, Bool.false_eq_true, decide_eq_true_eq, forall_const, implies_true, List.mem_cons, List.not_mem_nil, or_false, forall_eq_or_imp, forall_eq, false_implies, eq_self, eqB_int, Int.cast_ofNat_Int, Int.natCast_add, Int.natCast_one, Int.reduceAdd, Int.reduceSub, Int.reduceLT, Int.reduceLE, Int.reduceEq, Int.reduceNeg, Bool.and_false, Bool.false_and, Bool.or_true, Bool.true_or, Bool.or_false, Bool.false_or, e1, e2, i1, hi, q, z1, z2, z3, z4, z5, z6, rD, sD, wT, List.map_append]
      · by_cases hh : x ∈ s.2
        · obtain ⟨j, hj⟩ := firstAt_mem hh
          refine ⟨["free", x], (s.1, s.2.eraseIdx j), o2, .im (.int way), .im (.str x), .free s hx hh hj, .inl rfl, k2, ?_⟩
          by_cases hw9 : way < 9
          · have hi : ¬ x ∈ s.1 := fun h => w9 ⟨hw9, h⟩
            simp only [stE, law_steps_f1, sSeq, sIf, bE, bR, bS, cTest, cOp, cOra, sOraP, oraPd, cC, cCall, cCons, cNil, cTup, cLst, cStar, itemsD_tup, itemsD_lst, cUn, cSl, cPart, cNoPart, cNot, cAnd, cOr, cChain, cAndV, cOrV, cNotV, cIf, cYes_ap, sSet, sRet, sRetN, sPass, sDrop, sPar, osCons, osNil, oIm, oLst, oList, setS, cVar, oR, gR, gd, fnD, fnR, fnC, cFn, cMk, cM1, cGive, cOpO, cOpOL, cCallO, cPopAt, popD, sApp, appD, sRem, ownL, sIfW, ifW, sTgt, tgName_ap, tgTup_ap, tgsCons_ap, tgsNil_ap, tgStar_ap, cSeqI, seqD_tup, seqD_lst, seqD_str, cRng1, rngD, cEnum, seqE_tup, seqE_lst, sFor, cLc, Env.set, Env.wipe, Env.back, wipeS, backS, iSeq, iEnd, iEndS, iTwo, iTwoS, isSelf, fnI, bSeq, bRet, fnB, cCallV, cMeth, sMatch, sBeg, sBegPar, sForF, env0, scO, DL.scal, atD_ins, isC_ins, dAdd, dSub, dMod, dMul, dFdiv, dPow, dLt, dLe, dGt, dGe, onI, onIc, addS, addT, addL, dInt, dLen_tup, dLen_lst, dLen_scr, dLen_str, dTuple_tup, dTuple_lst, dList_tup, dList_lst, dSl_tup, dSl_lst, dSl_scr, dSl_str, dIx_tup, dIx_lst, dIx_str, dIn, dNotInS_tup, dNotInS_lst, dEq, dNe, dIsN, dNotN, dMin2, dRev_lst, dJoin_lst, dJoin_tup, oraGet_left, oraGet_seed, oraGet_spot, oraGet_cells, oraPut_left, oraPut_seed, oraPut_spot, Option.map, Option.or, Option.bind, Option.isSome_some, Option.isSome_none, id, List.map_cons, List.map_nil, List.length_cons, List.length_nil, List.length_map, List.length_append, List.replicate, List.cons_append, List.nil_append, List.append_assoc, List.getElem?_cons_zero, List.getElem?_cons_succ, List.set_cons_zero, List.set_cons_succ, List.getD_cons_zero, List.getD_cons_succ, decide_true, decide_false, if_true, if_false, ite_true, ite_false, ↓reduceIte, reduceCtorEq, Nat.reduceAdd, Nat.reduceSub, Nat.reduceLT, Nat.reduceLeDiff, Nat.reduceEqDiff, Nat.zero_add, true_and, and_true, Bool.not_true, Bool.not_false, imp_self, Bool.true_and, Bool.and_true, Bool.false_eq_true, decide_eq_true_eq, forall_const, implies_true, List.mem_cons, List.not_mem_nil, or_false, forall_eq_or_imp, forall_eq, false_implies, eq_self, eqB_int, Int.cast_ofNat_Int, Int.natCast_add, Int.natCast_one, Int.reduceAdd, Int.reduceSub, Int.reduceLT, Int.reduceLE, Int.reduceEq, Int.reduceNeg, Bool.and_false, Bool.false_and, Bool.or_true, Bool.true_or, Bool.or_false, Bool.false_or, e1, e2, w4, w6, hw9, i1, i2, hi, hh, hj, e3, remD, z1, z2, z3, z4, z5, rD, sD, wT, List.map_append]
          · simp only [stE, law_steps_f1, sSeq, sIf, bE, bR, bS, cTest, cOp, cOra, sOraP, oraPd, cC, cCall, cCons, cNil, cTup, cLst, cStar, itemsD_tup, itemsD_lst, cUn, cSl, cPart, cNoPart, cNot, cAnd, cOr, cChain, cAndV, cOrV, cNotV, cIf, cYes_ap, sSet, sRet, sRetN, sPass, sDrop, sPar, osCons, osNil, oIm, oLst, oList, setS, cVar, oR, gR, gd, fnD, fnR, fnC, cFn, cMk, cM1, cGive, cOpO, cOpOL, cCallO, cPopAt, popD, sApp, appD, sRem, ownL, sIfW, ifW, sTgt, tgName_ap, tgTup_ap, tgsCons_ap, tgsNil_ap, tgStar_ap, cSeqI, seqD_tup, seqD_lst, seqD_str, cRng1, rngD, cEnum, seqE_tup, seqE_lst, sFor, cLc, Env.set, Env.wipe, Env.back, wipeS, backS, iSeq, iEnd, iEndS, iTwo, iTwoS, isSelf, fnI, bSeq, bRet, fnB, cCallV, cMeth, sMatch, sBeg, sBegPar, sForF, env0, scO, DL.scal, atD_ins, isC_ins, dAdd, dSub, dMod, dMul, dFdiv, dPow, dLt, dLe, dGt, dGe, onI, onIc, addS, addT, addL, dInt, dLen_tup, dLen_lst, dLen_scr, dLen_str, dTuple_tup, dTuple_lst, dList_tup, dList_lst, dSl_tup, dSl_lst, dSl_scr, dSl_str, dIx_tup, dIx_lst, dIx_str, dIn, dNotInS_tup, dNotInS_lst, dEq, dNe, dIsN, dNotN, dMin2, dRev_lst, dJoin_lst, dJoin_tup, oraGet_left, oraGet_seed, oraGet_spot, oraGet_cells, oraPut_left, oraPut_seed, oraPut_spot, Option.map, Option.or, Option.bind, Option.isSome_some, Option.isSome_none, id, List.map_cons, List.map_nil, List.length_cons, List.length_nil, List.length_map, List.length_append, List.replicate, List.cons_append, List.nil_append, List.append_assoc, List.getElem?_cons_zero, List.getElem?_cons_succ, List.set_cons_zero, List.set_cons_succ, List.getD_cons_zero, List.getD_cons_succ, decide_true, decide_false, if_true, if_false, ite_true, ite_false, ↓reduceIte, reduceCtorEq, Nat.reduceAdd, Nat.reduceSub, Nat.reduceLT, Nat.reduceLeDiff, Nat.reduceEqDiff, Nat.zero_add, true_and, and_true, Bool.not_true, Bool.not_false, imp_self, Bool.true_and, Bool.and_true, Bool.false_eq_true, decide_eq_true_eq, forall_const, implies_true, List.mem_cons, List.not_mem_nil, or_false, forall_eq_or_imp, forall_eq, false_implies, eq_self, eqB_int, Int.cast_ofNat_Int, Int.natCast_add, Int.natCast_one, Int.reduceAdd, Int.reduceSub, Int.reduceLT, Int.reduceLE, Int.reduceEq, Int.reduceNeg, Bool.and_false, Bool.false_and, Bool.or_true, Bool.true_or, Bool.or_false, Bool.false_or, e1, e2, w4, w6, hw9, i1, i2, hh, hj, e3, remD, z1, z2, z3, z4, z5, rD, sD, wT, List.map_append]
        · refine ⟨["hold", x], (s.1, s.2 ++ [x]), o2, .im (.int way), .im (.str x), .hold s hx hh, .inl rfl, k2, ?_⟩
          by_cases hw9 : way < 9
          · have hi : ¬ x ∈ s.1 := fun h => w9 ⟨hw9, h⟩
            simp only [stE, law_steps_f1, sSeq, sIf, bE, bR, bS, cTest, cOp, cOra, sOraP, oraPd, cC, cCall, cCons, cNil, cTup, cLst, cStar, itemsD_tup, itemsD_lst, cUn, cSl, cPart, cNoPart, cNot, cAnd, cOr, cChain, cAndV, cOrV, cNotV, cIf, cYes_ap, sSet, sRet, sRetN, sPass, sDrop, sPar, osCons, osNil, oIm, oLst, oList, setS, cVar, oR, gR, gd, fnD, fnR, fnC, cFn, cMk, cM1, cGive, cOpO, cOpOL, cCallO, cPopAt, popD, sApp, appD, sRem, ownL, sIfW, ifW, sTgt, tgName_ap, tgTup_ap, tgsCons_ap, tgsNil_ap, tgStar_ap, cSeqI, seqD_tup, seqD_lst, seqD_str, cRng1, rngD, cEnum, seqE_tup, seqE_lst, sFor, cLc, Env.set, Env.wipe, Env.back, wipeS, backS, iSeq, iEnd, iEndS, iTwo, iTwoS, isSelf, fnI, bSeq, bRet, fnB, cCallV, cMeth, sMatch, sBeg, sBegPar, sForF, env0, scO, DL.scal, atD_ins, isC_ins, dAdd, dSub, dMod, dMul, dFdiv, dPow, dLt, dLe, dGt, dGe, onI, onIc, addS, addT, addL, dInt, dLen_tup, dLen_lst, dLen_scr, dLen_str, dTuple_tup, dTuple_lst, dList_tup, dList_lst, dSl_tup, dSl_lst, dSl_scr, dSl_str, dIx_tup, dIx_lst, dIx_str, dIn, dNotInS_tup, dNotInS_lst, dEq, dNe, dIsN, dNotN, dMin2, dRev_lst, dJoin_lst, dJoin_tup, oraGet_left, oraGet_seed, oraGet_spot, oraGet_cells, oraPut_left, oraPut_seed, oraPut_spot, Option.map, Option.or, Option.bind, Option.isSome_some, Option.isSome_none, id, List.map_cons, List.map_nil, List.length_cons, List.length_nil, List.length_map, List.length_append, List.replicate, List.cons_append, List.nil_append, List.append_assoc, List.getElem?_cons_zero, List.getElem?_cons_succ, List.set_cons_zero, List.set_cons_succ, List.getD_cons_zero, List.getD_cons_succ, decide_true, decide_false, if_true, if_false, ite_true, ite_false, ↓reduceIte, reduceCtorEq, Nat.reduceAdd, Nat.reduceSub, Nat.reduceLT, Nat.reduceLeDiff, Nat.reduceEqDiff, Nat.zero_add, true_and, and_true, Bool.not_true, Bool.not_false, imp_self, Bool.true_and, Bool.and_true, Bool.false_eq_true, decide_eq_true_eq, forall_const, implies_true, List.mem_cons, List.not_mem_nil, or_false, forall_eq_or_imp, forall_eq, false_implies, eq_self, eqB_int, Int.cast_ofNat_Int, Int.natCast_add, Int.natCast_one, Int.reduceAdd, Int.reduceSub, Int.reduceLT, Int.reduceLE, Int.reduceEq, Int.reduceNeg, Bool.and_false, Bool.false_and, Bool.or_true, Bool.true_or, Bool.or_false, Bool.false_or, e1, e2, w4, w6, hw9, i1, i2, hi, hh, z1, z2, z3, z4, z5, rD, sD, wT, List.map_append]
          · simp only [stE, law_steps_f1, sSeq, sIf, bE, bR, bS, cTest, cOp, cOra, sOraP, oraPd, cC, cCall, cCons, cNil, cTup, cLst, cStar, itemsD_tup, itemsD_lst, cUn, cSl, cPart, cNoPart, cNot, cAnd, cOr, cChain, cAndV, cOrV, cNotV, cIf, cYes_ap, sSet, sRet, sRetN, sPass, sDrop, sPar, osCons, osNil, oIm, oLst, oList, setS, cVar, oR, gR, gd, fnD, fnR, fnC, cFn, cMk, cM1, cGive, cOpO, cOpOL, cCallO, cPopAt, popD, sApp, appD, sRem, ownL, sIfW, ifW, sTgt, tgName_ap, tgTup_ap, tgsCons_ap, tgsNil_ap, tgStar_ap, cSeqI, seqD_tup, seqD_lst, seqD_str, cRng1, rngD, cEnum, seqE_tup, seqE_lst, sFor, cLc, Env.set, Env.wipe, Env.back, wipeS, backS, iSeq, iEnd, iEndS, iTwo, iTwoS, isSelf, fnI, bSeq, bRet, fnB, cCallV, cMeth, sMatch, sBeg, sBegPar, sForF, env0, scO, DL.scal, atD_ins, isC_ins, dAdd, dSub, dMod, dMul, dFdiv, dPow, dLt, dLe, dGt, dGe, onI, onIc, addS, addT, addL, dInt, dLen_tup, dLen_lst, dLen_scr, dLen_str, dTuple_tup, dTuple_lst, dList_tup, dList_lst, dSl_tup, dSl_lst, dSl_scr, dSl_str, dIx_tup, dIx_lst, dIx_str, dIn, dNotInS_tup, dNotInS_lst, dEq, dNe, dIsN, dNotN, dMin2, dRev_lst, dJoin_lst, dJoin_tup, oraGet_left, oraGet_seed, oraGet_spot, oraGet_cells, oraPut_left, oraPut_seed, oraPut_spot, Option.map, Option.or, Option.bind, Option.isSome_some, Option.isSome_none, id, List.map_cons, List.map_nil, List.length_cons, List.length_nil, List.length_map, List.length_append, List.replicate, List.cons_append, List.nil_append, List.append_assoc, List.getElem?_cons_zero, List.getElem?_cons_succ, List.set_cons_zero, List.set_cons_succ, List.getD_cons_zero, List.getD_cons_succ, decide_true, decide_false, if_true, if_false, ite_true, ite_false, ↓reduceIte, reduceCtorEq, Nat.reduceAdd, Nat.reduceSub, Nat.reduceLT, Nat.reduceLeDiff, Nat.reduceEqDiff, Nat.zero_add, true_and, and_true, Bool.not_true, Bool.not_false, imp_self, Bool.true_and, Bool.and_true, Bool.false_eq_true, decide_eq_true_eq, forall_const, implies_true, List.mem_cons, List.not_mem_nil, or_false, forall_eq_or_imp, forall_eq, false_implies, eq_self, eqB_int, Int.cast_ofNat_Int, Int.natCast_add, Int.natCast_one, Int.reduceAdd, Int.reduceSub, Int.reduceLT, Int.reduceLE, Int.reduceEq, Int.reduceNeg, Bool.and_false, Bool.false_and, Bool.or_true, Bool.true_or, Bool.or_false, Bool.false_or, e1, e2, w4, w6, hw9, i1, i2, hh, z1, z2, z3, z4, z5, rD, sD, wT, List.map_append]
theorem any_snoc {l : List (List Str)} {r : List Str} : (l ++ [r]).any isLook = (l.any isLook || isLook r) := by simp
theorem steps {n : Nat} {o : Ora} {fs : List Str} (k : Ok n o) (hn : n < 2 ^ 37) (g : GoodF fs) : ∃ ss o', F_law_steps [.dr, .tup (sD fs), .int 16] (some o) = .ok (.tup (rD ss)) (some o') ∧ Ok (n + 40) o' ∧ GoodC fs ss := by
  obtain ⟨r, o1, e1, h1, h2, k1⟩ := draw (m := 16) k (by omega) (by decide) (by decide)
  obtain ⟨ρ', f1, found, s, o2, a, b, c, rfl, k2, run, hlk, hl⟩ := forD_inv (enc := fun i : Nat => D.int (0 + (i : Nat))) (g := tgName 3) (body := law_steps_f1) (List.range r.toNat)
    (fun pre ρ => ∃ (found : List (List Str)) (s : LH) (o' : Ora) (a b c : Slot), ρ = stE fs 16 s found a b c o' ∧ Ok (n + 1 + 2 * pre.length) o' ∧ RunS fs ([], []) found s ∧ (s.1 = [] ∨ found.any isLook = true) ∧ (found.length = pre.length ∧ s.1.length ≤ pre.length ∧ s.2.length ≤ pre.length))
    (fun pre y post ρ hall ⟨found, s, o', a, b, c, hρ, k', run, hlk, hl⟩ => by
      subst hρ
      have hlen := congrArg List.length hall
      simp only [List.length_range, List.length_append, List.length_cons] at hlen
      obtain ⟨rr, s1, o3, b', c', st, lk, k3, e3⟩ := steps_turn (m := 16) (found := found) (a := .im (.int (0 + (y : Nat)))) (b := b) (c := c) k' (by omega) g (run.okLH ⟨by simp, by simp⟩) ⟨by omega, by omega, by omega⟩
      have hs := st.len
      refine ⟨_, _, rfl, e3, found ++ [rr], s1, o3, _, _, _, rfl, ⟨k3.ne, k3.lo, by have := k3.hi; simp; omega⟩, run.snoc st, ?_, by simp [hl.1], by simp; omega, by simp; omega⟩
      rw [any_snoc]
      rcases lk with lk | lk
      · rw [lk]
        rcases hlk with h | h
        · exact .inl h
        · exact .inr (by rw [h]; rfl)
      · exact .inr (by rw [lk]; simp)) (ρ := stE fs 16 ([], []) [] .no .no .no o1) ⟨[], ([], []), o1, _, _, _, rfl, by simpa using k1, .nil _, .inl rfl, by simp⟩
  simp only [List.length_range] at hl k2
  have gr : (-100000 : Int) ≤ r ∧ r ≤ 100000 := ⟨by omega, by omega⟩
  have z0 : sz 0 := by decide
  have z1 : sz 1 := by decide
  have z2 : sz 2 := by decide
  have okf : okW fs := fun x hx => isWord_ok (g.ww x hx)
  have okl : okW s.1 := fun y hy => okf y ((run.okLH ⟨by simp, by simp⟩).1 y hy)
  have q := eqB_lstS (b := []) okl (by intro y hy; simp at hy)
  simp only [stE, rD, sD, List.map_nil] at f1 q
  by_cases hs : s.1 = []
  · obtain ⟨d, o3, e3, hd, k3⟩ := of_tup (l := sD fs) k2 (by omega) (by simpa using g.n1) (by have := g.n4; simp; omega)
    obtain ⟨x, hx, rfl⟩ := mem_sD hd
    refine ⟨found ++ [[Str.ofString "look", x]], o3, ?_, ⟨k3.ne, k3.lo, by have := k3.hi; omega⟩, ⟨by simp, by simp; omega, ⟨_, run.snoc (.look s hx)⟩, by rw [any_snoc]; unfold isLook; simp⟩⟩
    have z3 : sz (found.length + 1) := by show _ ≤ 100000; omega
    simp only [sD] at e3
    rw [hs] at q f1
    simp only [List.map_nil] at q f1
    simp only [F_law_steps, N_law_steps, B_law_steps, sSeq, sIf, bE, bR, bS, cTest, cOp, cOra, sOraP, oraPd, cC, cCall, cCons, cNil, cTup, cLst, cStar, itemsD_tup, itemsD_lst, cUn, cSl, cPart, cNoPart, cNot, cAnd, cOr, cChain, cAndV, cOrV, cNotV, cIf, cYes_ap, sSet, sRet, sRetN, sPass, sDrop, sPar, osCons, osNil, oIm, oLst, oList, setS, cVar, oR, gR, gd, fnD, fnR, fnC, cFn, cMk, cM1, cGive, cOpO, cOpOL, cCallO, cPopAt, popD, sApp, appD, sRem, ownL, sIfW, ifW, sTgt, tgName_ap, tgTup_ap, tgsCons_ap, tgsNil_ap, tgStar_ap, cSeqI, seqD_tup, seqD_lst, seqD_str, cRng1, rngD, cEnum, seqE_tup, seqE_lst, sFor, cLc, Env.set, Env.wipe, Env.back, wipeS, backS, iSeq, iEnd, iEndS, iTwo, iTwoS, isSelf, fnI, bSeq, bRet, fnB, cCallV, cMeth, sMatch, sBeg, sBegPar, sForF, env0, scO, DL.scal, atD_ins, isC_ins, dAdd, dSub, dMod, dMul, dFdiv, dPow, dLt, dLe, dGt, dGe, onI, onIc, addS, addT, addL, dInt, dLen_tup, dLen_lst, dLen_scr, dLen_str, dTuple_tup, dTuple_lst, dList_tup, dList_lst, dSl_tup, dSl_lst, dSl_scr, dSl_str, dIx_tup, dIx_lst, dIx_str, dIn, dNotInS_tup, dNotInS_lst, dEq, dNe, dIsN, dNotN, dMin2, dRev_lst, dJoin_lst, dJoin_tup, oraGet_left, oraGet_seed, oraGet_spot, oraGet_cells, oraPut_left, oraPut_seed, oraPut_spot, Option.map, Option.or, Option.bind, Option.isSome_some, Option.isSome_none, id, List.map_cons, List.map_nil, List.length_cons, List.length_nil, List.length_map, List.length_append, List.replicate, List.cons_append, List.nil_append, List.append_assoc, List.getElem?_cons_zero, List.getElem?_cons_succ, List.set_cons_zero, List.set_cons_succ, List.getD_cons_zero, List.getD_cons_succ, decide_true, decide_false, if_true, if_false, ite_true, ite_false, ↓reduceIte, reduceCtorEq, Nat.reduceAdd, Nat.reduceSub, Nat.reduceLT, Nat.reduceLeDiff, Nat.reduceEqDiff, Nat.zero_add, true_and, and_true, Bool.not_true, Bool.not_false, imp_self, Bool.true_and, Bool.and_true, Bool.false_eq_true, decide_eq_true_eq, forall_const, implies_true, List.mem_cons, List.not_mem_nil, or_false, forall_eq_or_imp, forall_eq, false_implies, eq_self, eqB_int, Int.cast_ofNat_Int, Int.natCast_add, Int.natCast_one, Int.reduceAdd, Int.reduceSub, Int.reduceLT, Int.reduceLE, Int.reduceEq, Int.reduceNeg, Bool.and_false, Bool.false_and, Bool.or_true, Bool.true_or, Bool.or_false, Bool.false_or, e1, z0, gr, f1, q, e3, z1, z2, z3, rD, sD, wT, List.map_append]
  · have hk := hlk.resolve_left hs
    refine ⟨found, o2, ?_, ⟨k2.ne, k2.lo, by have := k2.hi; omega⟩, ⟨fun e => by rw [e] at hk; simp at hk, by omega, ⟨_, run⟩, hk⟩⟩
    simp only [F_law_steps, N_law_steps, B_law_steps, sSeq, sIf, bE, bR, bS, cTest, cOp, cOra, sOraP, oraPd, cC, cCall, cCons, cNil, cTup, cLst, cStar, itemsD_tup, itemsD_lst, cUn, cSl, cPart, cNoPart, cNot, cAnd, cOr, cChain, cAndV, cOrV, cNotV, cIf, cYes_ap, sSet, sRet, sRetN, sPass, sDrop, sPar, osCons, osNil, oIm, oLst, oList, setS, cVar, oR, gR, gd, fnD, fnR, fnC, cFn, cMk, cM1, cGive, cOpO, cOpOL, cCallO, cPopAt, popD, sApp, appD, sRem, ownL, sIfW, ifW, sTgt, tgName_ap, tgTup_ap, tgsCons_ap, tgsNil_ap, tgStar_ap, cSeqI, seqD_tup, seqD_lst, seqD_str, cRng1, rngD, cEnum, seqE_tup, seqE_lst, sFor, cLc, Env.set, Env.wipe, Env.back, wipeS, backS, iSeq, iEnd, iEndS, iTwo, iTwoS, isSelf, fnI, bSeq, bRet, fnB, cCallV, cMeth, sMatch, sBeg, sBegPar, sForF, env0, scO, DL.scal, atD_ins, isC_ins, dAdd, dSub, dMod, dMul, dFdiv, dPow, dLt, dLe, dGt, dGe, onI, onIc, addS, addT, addL, dInt, dLen_tup, dLen_lst, dLen_scr, dLen_str, dTuple_tup, dTuple_lst, dList_tup, dList_lst, dSl_tup, dSl_lst, dSl_scr, dSl_str, dIx_tup, dIx_lst, dIx_str, dIn, dNotInS_tup, dNotInS_lst, dEq, dNe, dIsN, dNotN, dMin2, dRev_lst, dJoin_lst, dJoin_tup, oraGet_left, oraGet_seed, oraGet_spot, oraGet_cells, oraPut_left, oraPut_seed, oraPut_spot, Option.map, Option.or, Option.bind, Option.isSome_some, Option.isSome_none, id, List.map_cons, List.map_nil, List.length_cons, List.length_nil, List.length_map, List.length_append, List.replicate, List.cons_append, List.nil_append, List.append_assoc, List.getElem?_cons_zero, List.getElem?_cons_succ, List.set_cons_zero, List.set_cons_succ, List.getD_cons_zero, List.getD_cons_succ, decide_true, decide_false, if_true, if_false, ite_true, ite_false, ↓reduceIte, reduceCtorEq, Nat.reduceAdd, Nat.reduceSub, Nat.reduceLT, Nat.reduceLeDiff, Nat.reduceEqDiff, Nat.zero_add, true_and, and_true, Bool.not_true, Bool.not_false, imp_self, Bool.true_and, Bool.and_true, Bool.false_eq_true, decide_eq_true_eq, forall_const, implies_true, List.mem_cons, List.not_mem_nil, or_false, forall_eq_or_imp, forall_eq, false_implies, eq_self, eqB_int, Int.cast_ofNat_Int, Int.natCast_add, Int.natCast_one, Int.reduceAdd, Int.reduceSub, Int.reduceLT, Int.reduceLE, Int.reduceEq, Int.reduceNeg, Bool.and_false, Bool.false_and, Bool.or_true, Bool.true_or, Bool.or_false, Bool.false_or, e1, z0, gr, f1, q, hs, rD, sD]
end LW

set_option Elab.async false
set_option linter.all false
set_option maxRecDepth 100000
set_option maxHeartbeats 4000000
namespace LW
open PySem DL
abbrev iD (l : List Int) : List D := l.map D.int
theorem toPyL_ints : ∀ l : List Int, toPyL (iD l) = some (l.map PyData.int)
  | [] => rfl
  | x :: l => by
    show (match toPy (.int x), toPyL (iD l) with
      | some p, some ps => some (p :: ps)
      | _, _ => none) = _
    rw [toPyL_ints l]; rfl
theorem canLay_ints : ∀ l : List Int, PyData.canLayAll0 (l.map PyData.int) = true
  | [] => by simp [PyData.canLayAll0]
  | x :: l => by simp [PyData.canLayAll0, PyData.canLay0, canLay_ints l]
theorem depth_ints : ∀ l : List Int, PyData.depthAll (l.map PyData.int) = 0
  | [] => by simp [PyData.depthAll]
  | x :: l => by simp [PyData.depthAll, PyData.depth, depth_ints l]
theorem eqB_ints_nil (l : List Int) : eqB (.lst (iD l)) (.lst []) = some (decide (l = [])) := by
  have h1 : toPy (.lst (iD l)) = some (.list (l.map PyData.int)) := by
    show (toPyL (iD l)).map PyData.list = _
    rw [toPyL_ints]; rfl
  rw [eqB_of h1 (q := .list []) rfl (shaped_of (by simp only [PyData.canLay0, canLay_ints]) (by simp only [PyData.depth, depth_ints]; decide)) (by decide +kernel)]
  cases l with
  | nil => simp [PyData.eqv, PyData.eqvAll]
  | cons a l => simp [PyData.eqv, PyData.eqvAll]
theorem intsOf_ints : ∀ l : List Int, intsOf (iD l) = some l
  | [] => rfl
  | x :: l => by show (intsOf (iD l)).map (x :: ·) = _; rw [intsOf_ints l]; rfl
theorem begun {ns : List Int} {k : Nat} (hl : ns.length ≤ 63) (hk : k ≤ 5) : ∃ o, F_law_begun [.scr (iD ns), .int (k : Int)] = some o ∧ Ok 0 o := by
  let cells := ns.drop k ++ ns.take k
  have hc : cells.length ≤ 126 := by simp only [cells, List.length_append, List.length_drop, List.length_take]; omega
  have g1 : ((0 : Int) ≤ 18 ∧ (18 : Int) ≤ 1000 ∧ (-1000 : Int) < 10 ∧ (10 : Int) < 1000) := by decide
  have e1 := lc_pure (enc := D.int) (i := 5) (p := law_begun_p1) (f := law_begun_e1) (ρ := ⟨[.im (.scr (iD ns)), .im (.int k), .im (.lst (iD cells)), .no, .no, .no], none⟩) (fun c => decide ((10 : Int) ^ (18 : Int).toNat ≤ c)) D.int cells (by omega) rfl (fun c _ => by
    refine ⟨?_, fun _ => rfl⟩
    simp only [law_begun_p1, sSeq, sIf, bE, bR, bS, cTest, cOp, cOra, sOraP, oraPd, cC, cCall, cCons, cNil, cTup, cLst, cStar, itemsD_tup, itemsD_lst, cUn, cSl, cPart, cNoPart, cNot, cAnd, cOr, cChain, cAndV, cOrV, cNotV, cIf, cYes_ap, sSet, sRet, sRetN, sPass, sDrop, sPar, osCons, osNil, oIm, oLst, oList, setS, cVar, oR, gR, gd, fnD, fnR, fnC, cFn, cMk, cM1, cGive, cOpO, cOpOL, cCallO, cPopAt, popD, sApp, appD, sRem, ownL, sIfW, ifW, sTgt, tgName_ap, tgTup_ap, tgsCons_ap, tgsNil_ap, tgStar_ap, cSeqI, seqD_tup, seqD_lst, seqD_str, cRng1, rngD, cEnum, seqE_tup, seqE_lst, sFor, cLc, Env.set, Env.wipe, Env.back, wipeS, backS, iSeq, iEnd, iEndS, iTwo, iTwoS, isSelf, fnI, bSeq, bRet, fnB, cCallV, cMeth, sMatch, sBeg, sBegPar, sForF, env0, scO, DL.scal, atD_ins, isC_ins, dAdd, dSub, dMod, dMul, dFdiv, dPow, dLt, dLe, dGt, dGe, onI, onIc, addS, addT, addL, dInt, dLen_tup, dLen_lst, dLen_scr, dLen_str, dTuple_tup, dTuple_lst, dList_tup, dList_lst, dSl_tup, dSl_lst, dSl_scr, dSl_str, dIx_tup, dIx_lst, dIx_str, dIn, dNotInS_tup, dNotInS_lst, dEq, dNe, dIsN, dNotN, dMin2, dRev_lst, dJoin_lst, dJoin_tup, oraGet_left, oraGet_seed, oraGet_spot, oraGet_cells, oraPut_left, oraPut_seed, oraPut_spot, Option.map, Option.or, Option.bind, Option.isSome_some, Option.isSome_none, id, List.map_cons, List.map_nil, List.length_cons, List.length_nil, List.length_map, List.length_append, List.replicate, List.cons_append, List.nil_append, List.append_assoc, List.getElem?_cons_zero, List.getElem?_cons_succ, List.set_cons_zero, List.set_cons_succ, List.getD_cons_zero, List.getD_cons_succ, decide_true, decide_false, if_true, if_false, ite_true, ite_false, ↓reduceIte, reduceCtorEq, Nat.reduceAdd, Nat.reduceSub, Nat.reduceLT, Nat.reduceLeDiff, Nat.reduceEqDiff, Nat.zero_add, true_and, and_true, Bool.not_true, Bool.not_false, imp_self, Bool.true_and, Bool.and_true, Bool.false_eq_true, decide_eq_true_eq, forall_const, implies_true, List.mem_cons, List.not_mem_nil, or_false, forall_eq_or_imp, forall_eq, false_implies, eq_self, eqB_int, Int.cast_ofNat_Int, Int.natCast_add, Int.natCast_one, Int.reduceAdd, Int.reduceSub, Int.reduceLT, Int.reduceLE, Int.reduceEq, Int.reduceNeg, Bool.and_false, Bool.false_and, Bool.or_true, Bool.true_or, Bool.or_false, Bool.false_or, g1])
  generalize hg : cells.filter (fun c => decide ((10 : Int) ^ (18 : Int).toNat ≤ c)) = great at e1
  obtain ⟨ρ', f1, sd, a, rfl⟩ := forD_same (enc := D.int) (g := tgName 5) (body := law_begun_f1) cells (fun ρ => ∃ (sd : Int) (a : Slot), ρ = ⟨[.im (.scr (iD ns)), .im (.int k), .im (.lst (iD cells)), .im (.lst (iD great)), .im (.int sd), a], none⟩) (fun c _ ρ ⟨sd, a, hρ⟩ => by
    subst hρ
    refine ⟨_, ⟨[.im (.scr (iD ns)), .im (.int k), .im (.lst (iD cells)), .im (.lst (iD great)), .im (.int ((sd * 48271 + c) % 2147483647)), .im (.int c)], none⟩, rfl, ?_, _, _, rfl⟩
    have g2 : (-(2 ^ 64) < (48271 : Int) ∧ (48271 : Int) < 2 ^ 64) := by decide
    have g3 : (0 : Int) < 2147483647 := by decide
    simp only [law_begun_f1, sSeq, sIf, bE, bR, bS, cTest, cOp, cOra, sOraP, oraPd, cC, cCall, cCons, cNil, cTup, cLst, cStar, itemsD_tup, itemsD_lst, cUn, cSl, cPart, cNoPart, cNot, cAnd, cOr, cChain, cAndV, cOrV, cNotV, cIf, cYes_ap, sSet, sRet, sRetN, sPass, sDrop, sPar, osCons, osNil, oIm, oLst, oList, setS, cVar, oR, gR, gd, fnD, fnR, fnC, cFn, cMk, cM1, cGive, cOpO, cOpOL, cCallO, cPopAt, popD, sApp, appD, sRem, ownL, sIfW, ifW, sTgt, tgName_ap, tgTup_ap, tgsCons_ap, tgsNil_ap, tgStar_ap, cSeqI, seqD_tup, seqD_lst, seqD_str, cRng1, rngD, cEnum, seqE_tup, seqE_lst, sFor, cLc, Env.set, Env.wipe, Env.back, wipeS, backS, iSeq, iEnd, iEndS, iTwo, iTwoS, isSelf, fnI, bSeq, bRet, fnB, cCallV, cMeth, sMatch, sBeg, sBegPar, sForF, env0, scO, DL.scal, atD_ins, isC_ins, dAdd, dSub, dMod, dMul, dFdiv, dPow, dLt, dLe, dGt, dGe, onI, onIc, addS, addT, addL, dInt, dLen_tup, dLen_lst, dLen_scr, dLen_str, dTuple_tup, dTuple_lst, dList_tup, dList_lst, dSl_tup, dSl_lst, dSl_scr, dSl_str, dIx_tup, dIx_lst, dIx_str, dIn, dNotInS_tup, dNotInS_lst, dEq, dNe, dIsN, dNotN, dMin2, dRev_lst, dJoin_lst, dJoin_tup, oraGet_left, oraGet_seed, oraGet_spot, oraGet_cells, oraPut_left, oraPut_seed, oraPut_spot, Option.map, Option.or, Option.bind, Option.isSome_some, Option.isSome_none, id, List.map_cons, List.map_nil, List.length_cons, List.length_nil, List.length_map, List.length_append, List.replicate, List.cons_append, List.nil_append, List.append_assoc, List.getElem?_cons_zero, List.getElem?_cons_succ, List.set_cons_zero, List.set_cons_succ, List.getD_cons_zero, List.getD_cons_succ, decide_true, decide_false, if_true, if_false, ite_true, ite_false, ↓reduceIte, reduceCtorEq, Nat.reduceAdd, Nat.reduceSub, Nat.reduceLT, Nat.reduceLeDiff, Nat.reduceEqDiff, Nat.zero_add, true_and, and_true, Bool.not_true, Bool.not_false, imp_self, Bool.true_and, Bool.and_true, Bool.false_eq_true, decide_eq_true_eq, forall_const, implies_true, List.mem_cons, List.not_mem_nil, or_false, forall_eq_or_imp, forall_eq, false_implies, eq_self, eqB_int, Int.cast_ofNat_Int, Int.natCast_add, Int.natCast_one, Int.reduceAdd, Int.reduceSub, Int.reduceLT, Int.reduceLE, Int.reduceEq, Int.reduceNeg, Bool.and_false, Bool.false_and, Bool.or_true, Bool.true_or, Bool.or_false, Bool.false_or, g2, g3, or_true]) (ρ := ⟨[.im (.scr (iD ns)), .im (.int k), .im (.lst (iD cells)), .im (.lst (iD great)), .im (.int (97 + k)), .no], none⟩) ⟨_, _, rfl⟩
  have z1 : sz (ns.length - k + min k ns.length) := by show _ ≤ 100000; omega
  have z0 : sz 0 := by decide
  have z2 : sz 1 := by decide
  have z3 : sz (cells.length + 1) := by show _ ≤ 100000; omega
  have g4 : (-(2 ^ 64) < (31 : Int) ∧ (31 : Int) < 2 ^ 64) := by decide
  have q := eqB_ints_nil great
  have hcut : cutL (iD ns) (some (k : Int)) none ++ cutL (iD ns) none (some (k : Int)) = iD cells := by rw [cutL_drop, cutL_take]; simp only [iD, cells, List.map_append, List.map_drop, List.map_take]
  have hio := intsOf_ints (cells ++ [31 * (k : Int) + 5])
  simp only [iD, List.map_append, List.map_cons, List.map_nil] at hio hcut e1 f1 q
  have hlen : ∀ x : Nat, (cutL (List.map D.int ns) (some (k : Int)) none).length + (cutL (List.map D.int ns) none (some (k : Int))).length ≤ 126 := fun _ => by
    rw [← List.length_append, hcut, List.length_map]; exact hc
  have z4 : sz ((cutL (List.map D.int ns) (some (k : Int)) none).length + (cutL (List.map D.int ns) none (some (k : Int))).length) := Nat.le_trans (hlen 0) (by decide)
  have key : ∀ lft : Int, (great = [] ∧ lft = 0 ∨ L2.atI (List.map D.int great) 0 = some (.int lft) ∧ great ≠ []) → F_law_begun [.scr (iD ns), .int (k : Int)] = some ⟨lft, sd, 0, cells ++ [31 * (k : Int) + 5]⟩ := fun lft h => by
    rcases h with ⟨hge, rfl⟩ | ⟨hat, hne⟩
    · rw [hge] at q e1 f1
      simp only [List.map_nil] at q e1 f1
      simp only [F_law_begun, N_law_begun, B_law_begun, sSeq, sIf, bE, bR, bS, cTest, cOp, cOra, sOraP, oraPd, cC, cCall, cCons, cNil, cTup, cLst, cStar, itemsD_tup, itemsD_lst, cUn, cSl, cPart, cNoPart, cNot, cAnd, cOr, cChain, cAndV, cOrV, cNotV, cIf, cYes_ap, sSet, sRet, sRetN, sPass, sDrop, sPar, osCons, osNil, oIm, oLst, oList, setS, cVar, oR, gR, gd, fnD, fnR, fnC, cFn, cMk, cM1, cGive, cOpO, cOpOL, cCallO, cPopAt, popD, sApp, appD, sRem, ownL, sIfW, ifW, sTgt, tgName_ap, tgTup_ap, tgsCons_ap, tgsNil_ap, tgStar_ap, cSeqI, seqD_tup, seqD_lst, seqD_str, cRng1, rngD, cEnum, seqE_tup, seqE_lst, sFor, cLc, Env.set, Env.wipe, Env.back, wipeS, backS, iSeq, iEnd, iEndS, iTwo, iTwoS, isSelf, fnI, bSeq, bRet, fnB, cCallV, cMeth, sMatch, sBeg, sBegPar, sForF, env0, scO, DL.scal, atD_ins, isC_ins, dAdd, dSub, dMod, dMul, dFdiv, dPow, dLt, dLe, dGt, dGe, onI, onIc, addS, addT, addL, dInt, dLen_tup, dLen_lst, dLen_scr, dLen_str, dTuple_tup, dTuple_lst, dList_tup, dList_lst, dSl_tup, dSl_lst, dSl_scr, dSl_str, dIx_tup, dIx_lst, dIx_str, dIn, dNotInS_tup, dNotInS_lst, dEq, dNe, dIsN, dNotN, dMin2, dRev_lst, dJoin_lst, dJoin_tup, oraGet_left, oraGet_seed, oraGet_spot, oraGet_cells, oraPut_left, oraPut_seed, oraPut_spot, Option.map, Option.or, Option.bind, Option.isSome_some, Option.isSome_none, id, List.map_cons, List.map_nil, List.length_cons, List.length_nil, List.length_map, List.length_append, List.replicate, List.cons_append, List.nil_append, List.append_assoc, List.getElem?_cons_zero, List.getElem?_cons_succ, List.set_cons_zero, List.set_cons_succ, List.getD_cons_zero, List.getD_cons_succ, decide_true, decide_false, if_true, if_false, ite_true, ite_false, ↓reduceIte, reduceCtorEq, Nat.reduceAdd, Nat.reduceSub, Nat.reduceLT, Nat.reduceLeDiff, Nat.reduceEqDiff, Nat.zero_add, true_and, and_true, Bool.not_true, Bool.not_false, imp_self, Bool.true_and, Bool.and_true, Bool.false_eq_true, decide_eq_true_eq, forall_const, implies_true, List.mem_cons, List.not_mem_nil, or_false, forall_eq_or_imp, forall_eq, false_implies, eq_self, eqB_int, Int.cast_ofNat_Int, Int.natCast_add, Int.natCast_one, Int.reduceAdd, Int.reduceSub, Int.reduceLT, Int.reduceLE, Int.reduceEq, Int.reduceNeg, Bool.and_false, Bool.false_and, Bool.or_true, Bool.true_or, Bool.or_false, Bool.false_or, z0, z2, z3, z4, hcut, e1, f1, q, g4, true_or, oraOf, hio, iD]
    · simp only [F_law_begun, N_law_begun, B_law_begun, sSeq, sIf, bE, bR, bS, cTest, cOp, cOra, sOraP, oraPd, cC, cCall, cCons, cNil, cTup, cLst, cStar, itemsD_tup, itemsD_lst, cUn, cSl, cPart, cNoPart, cNot, cAnd, cOr, cChain, cAndV, cOrV, cNotV, cIf, cYes_ap, sSet, sRet, sRetN, sPass, sDrop, sPar, osCons, osNil, oIm, oLst, oList, setS, cVar, oR, gR, gd, fnD, fnR, fnC, cFn, cMk, cM1, cGive, cOpO, cOpOL, cCallO, cPopAt, popD, sApp, appD, sRem, ownL, sIfW, ifW, sTgt, tgName_ap, tgTup_ap, tgsCons_ap, tgsNil_ap, tgStar_ap, cSeqI, seqD_tup, seqD_lst, seqD_str, cRng1, rngD, cEnum, seqE_tup, seqE_lst, sFor, cLc, Env.set, Env.wipe, Env.back, wipeS, backS, iSeq, iEnd, iEndS, iTwo, iTwoS, isSelf, fnI, bSeq, bRet, fnB, cCallV, cMeth, sMatch, sBeg, sBegPar, sForF, env0, scO, DL.scal, atD_ins, isC_ins, dAdd, dSub, dMod, dMul, dFdiv, dPow, dLt, dLe, dGt, dGe, onI, onIc, addS, addT, addL, dInt, dLen_tup, dLen_lst, dLen_scr, dLen_str, dTuple_tup, dTuple_lst, dList_tup, dList_lst, dSl_tup, dSl_lst, dSl_scr, dSl_str, dIx_tup, dIx_lst, dIx_str, dIn, dNotInS_tup, dNotInS_lst, dEq, dNe, dIsN, dNotN, dMin2, dRev_lst, dJoin_lst, dJoin_tup, oraGet_left, oraGet_seed, oraGet_spot, oraGet_cells, oraPut_left, oraPut_seed, oraPut_spot, Option.map, Option.or, Option.bind, Option.isSome_some, Option.isSome_none, id, List.map_cons, List.map_nil, List.length_cons, List.length_nil, List.length_map, List.length_append, List.replicate, List.cons_append, List.nil_append, List.append_assoc, List.getElem?_cons_zero, List.getElem?_cons_succ, List.set_cons_zero, List.set_cons_succ, List.getD_cons_zero, List.getD_cons_succ, decide_true, decide_false, if_true, if_false, ite_true, ite_false, ↓reduceIte, reduceCtorEq, Nat.reduceAdd, Nat.reduceSub, Nat.reduceLT, Nat.reduceLeDiff, Nat.reduceEqDiff, Nat.zero_add, true_and, and_true, Bool.not_true, Bool.not_false, imp_self, Bool.true_and, Bool.and_true, Bool.false_eq_true, decide_eq_true_eq, forall_const, implies_true, List.mem_cons, List.not_mem_nil, or_false, forall_eq_or_imp, forall_eq, false_implies, eq_self, eqB_int, Int.cast_ofNat_Int, Int.natCast_add, Int.natCast_one, Int.reduceAdd, Int.reduceSub, Int.reduceLT, Int.reduceLE, Int.reduceEq, Int.reduceNeg, Bool.and_false, Bool.false_and, Bool.or_true, Bool.true_or, Bool.or_false, Bool.false_or, z0, z2, z3, z4, hcut, e1, f1, q, hne, hat, g4, true_or, oraOf, hio, iD]
  by_cases hge : great = []
  · exact ⟨_, key 0 (.inl ⟨hge, rfl⟩), ⟨by simp, by simp, by simp⟩⟩
  · obtain ⟨x, t, rfl⟩ := List.exists_cons_of_ne_nil hge
    obtain ⟨y, h1, _, h2⟩ := atI_at (l := List.map D.int (x :: t)) (i := 0) (by decide) (by simp)
    simp at h2
    exact ⟨_, key x (.inr ⟨by rw [h1, h2], by simp⟩), ⟨by simp, by simp, by simp⟩⟩
end LW

set_option Elab.async false
set_option linter.all false
set_option maxRecDepth 100000
set_option maxHeartbeats 4000000
namespace LW
open PySem DL
theorem NDs_ints : ∀ l : List Int, NDs (iD l) = true
  | [] => rfl
  | x :: l => by show (ND (.int x) && NDs (iD l)) = true; rw [NDs_ints l]; rfl
theorem redS_scr (ns : List Int) : redS (.im (.scr (iD ns))) = .im (.scr (iD ns)) := by
  show (if ND (.scr (iD ns)) = true then _ else _) = _
  rw [if_pos (by simp only [ND]; exact NDs_ints ns)]
theorem redS_int (i : Int) : redS (.im (.int i)) = .im (.int i) := by
  show (if ND (.int i) = true then Slot.im (.int i) else Slot.no) = _
  exact if_pos rfl
theorem redS_tupS (l : List Str) : redS (.im (.tup (sD l))) = .im (.tup (sD l)) := by
  show (if ND (.tup (sD l)) = true then _ else _) = _
  rw [if_pos (by simp only [ND]; exact NDs_strs l)]
theorem redS_no : redS .no = .no := rfl
theorem law_turn {ns : List Int} {k : Nat} {a5 a6 a7 a8 a9 : Slot} {oo : Option Ora} (hl : ns.length ≤ 63) (hk : k ≤ 5) :
    ∃ b5 b6 b7 b8 b9 o', law_f1 ⟨[.im (.scr (iD ns)), .im (.int (0 + (k : Int))), .no, .no, .no, a5, a6, a7, a8, a9], oo⟩ = .ok (.nx ⟨[.im (.scr (iD ns)), .im (.int (0 + (k : Int))), .no, .no, .no, b5, b6, b7, b8, b9], o'⟩) := by
  obtain ⟨o, e1, k1⟩ := begun (k := k) hl hk
  obtain ⟨fs, o2, e2, k2, n1, n4, nd, ww, af⟩ := any_folders k1 (by decide)
  have g : GoodF fs := ⟨n1, n4, nd, ww, af⟩
  obtain ⟨rs, o3, e3, k3, gw⟩ := rules k2 (by decide) g
  obtain ⟨ss, o4, e4, k4, gc⟩ := steps k3 (by decide) g
  obtain ⟨o5, e5, k5⟩ := worlds_right k4 (by decide) gw
  have e6 := copiers_right (some o5) gw gc
  refine ⟨.im .dr, .im (.tup (sD fs)), redS a7, .im (.tup (rD rs)), .im (.tup (rD ss)), some o5, ?_⟩
  have h0 : (0 : Int) + (k : Int) = k := Int.zero_add _
  rw [h0]
  simp only [law_f1, sSeq, sIf, bE, bR, bS, cTest, cOp, cOra, sOraP, oraPd, cC, cCall, cCons, cNil, cTup, cLst, cStar, itemsD_tup, itemsD_lst, cUn, cSl, cPart, cNoPart, cNot, cAnd, cOr, cChain, cAndV, cOrV, cNotV, cIf, cYes_ap, sSet, sRet, sRetN, sPass, sDrop, sPar, osCons, osNil, oIm, oLst, oList, setS, cVar, oR, gR, gd, fnD, fnR, fnC, cFn, cMk, cM1, cGive, cOpO, cOpOL, cCallO, cPopAt, popD, sApp, appD, sRem, ownL, sIfW, ifW, sTgt, tgName_ap, tgTup_ap, tgsCons_ap, tgsNil_ap, tgStar_ap, cSeqI, seqD_tup, seqD_lst, seqD_str, cRng1, rngD, cEnum, seqE_tup, seqE_lst, sFor, cLc, Env.set, Env.wipe, Env.back, wipeS, backS, iSeq, iEnd, iEndS, iTwo, iTwoS, isSelf, fnI, bSeq, bRet, fnB, cCallV, cMeth, sMatch, sBeg, sBegPar, sForF, env0, scO, DL.scal, atD_ins, isC_ins, dAdd, dSub, dMod, dMul, dFdiv, dPow, dLt, dLe, dGt, dGe, onI, onIc, addS, addT, addL, dInt, dLen_tup, dLen_lst, dLen_scr, dLen_str, dTuple_tup, dTuple_lst, dList_tup, dList_lst, dSl_tup, dSl_lst, dSl_scr, dSl_str, dIx_tup, dIx_lst, dIx_str, dIn, dNotInS_tup, dNotInS_lst, dEq, dNe, dIsN, dNotN, dMin2, dRev_lst, dJoin_lst, dJoin_tup, oraGet_left, oraGet_seed, oraGet_spot, oraGet_cells, oraPut_left, oraPut_seed, oraPut_spot, Option.map, Option.or, Option.bind, Option.isSome_some, Option.isSome_none, id, List.map_cons, List.map_nil, List.length_cons, List.length_nil, List.length_map, List.length_append, List.replicate, List.cons_append, List.nil_append, List.append_assoc, List.getElem?_cons_zero, List.getElem?_cons_succ, List.set_cons_zero, List.set_cons_succ, List.getD_cons_zero, List.getD_cons_succ, decide_true, decide_false, if_true, if_false, ite_true, ite_false, ↓reduceIte, reduceCtorEq, Nat.reduceAdd, Nat.reduceSub, Nat.reduceLT, Nat.reduceLeDiff, Nat.reduceEqDiff, Nat.zero_add, true_and, and_true, Bool.not_true, Bool.not_false, imp_self, Bool.true_and, Bool.and_true, Bool.false_eq_true, decide_eq_true_eq, forall_const, implies_true, List.mem_cons, List.not_mem_nil, or_false, forall_eq_or_imp, forall_eq, false_implies, eq_self, eqB_int, Int.cast_ofNat_Int, Int.natCast_add, Int.natCast_one, Int.reduceAdd, Int.reduceSub, Int.reduceLT, Int.reduceLE, Int.reduceEq, Int.reduceNeg, Bool.and_false, Bool.false_and, Bool.or_true, Bool.true_or, Bool.or_false, Bool.false_or, e1, e2, e3, e4, e5, e6, DL.Env.redr, redS_scr, redS_int, redS_no]
def four : List Str := ["a", "b", "c", "d"]
theorem good_four : GoodF four := ⟨by decide, by decide, by decide +kernel, by decide +kernel, by decide +kernel⟩
theorem good_tick : GoodW ["tick"] [] := ⟨by simp, by simp, by simp, by decide +kernel, by simp, by simp, by simp, by simp, by simp⟩
def longS : List (List Str) := [["look", "d"], ["tick"], ["check", "d"], ["sure", "d"], ["tick"], ["check", "d"], ["sure", "d"], ["tick"], ["check", "d"], ["sure", "d"], ["tick"], ["check", "d"], ["sure", "d"], ["hold", "a"], ["free", "a"], ["look", "b"]]
theorem good_long : GoodC four longS := by
  have d : (Str.ofString "d") ∈ four := by decide +kernel
  have a : (Str.ofString "a") ∈ four := by decide +kernel
  have b : (Str.ofString "b") ∈ four := by decide +kernel
  refine ⟨by simp [longS], by simp [longS], ⟨(["d", "b"], []), ?_⟩, by decide +kernel⟩
  have dd : (Str.ofString "d") ∈ ([] ++ [Str.ofString "d"] : List Str) := by simp
  refine .cons (.look _ d) (.cons (.tick _) (.cons (.check _ d dd) (.cons (.sure _ d dd) (.cons (.tick _) (.cons (.check _ d dd) (.cons (.sure _ d dd) (.cons (.tick _) (.cons (.check _ d dd) (.cons (.sure _ d dd) (.cons (.tick _) (.cons (.check _ d dd) (.cons (.sure _ d dd) (.cons (.hold _ a (by simp)) (.cons (.free (j := 0) _ a (by simp) (by decide +kernel)) (.cons (.look _ b) (.nil _))))))))))))))))
theorem good_ab : GoodW ["a", "b"] [["make", "a"], ["move", "b", "a"]] := ⟨by decide, by decide, by decide +kernel, by decide +kernel, by decide +kernel, by decide +kernel, by decide +kernel, by decide +kernel, by decide⟩
theorem good_ab0 : GoodW ["a", "b"] [] := ⟨by decide, by decide, by decide +kernel, by decide +kernel, by decide +kernel, by decide +kernel, by decide +kernel, by decide +kernel, by decide⟩
def shortS : List (List Str) := [["tick"], ["look", "b"], ["sure", "b"]]
theorem good_short : GoodC ["a", "b"] shortS := by
  have b : (Str.ofString "b") ∈ (["a", "b"] : List Str) := by decide +kernel
  refine ⟨by simp [shortS], by simp [shortS], ⟨(["b"], []), ?_⟩, by decide +kernel⟩
  exact .cons (.tick _) (.cons (.look _ b) (.cons (.sure _ b (by simp)) (.nil _)))
theorem text1 : textOf [["folders", "b", "a"], ["move", "b", "a"], ["make", "a"]] = "folders b a\nmove b a\nmake a" := by decide +kernel
theorem text2 : textOf [["folders", "a", "b"]] = "folders a b" := by decide +kernel
theorem text3 : textOf [["folders", "a", "b"], ["make", "a"], ["move", "b", "a"]] = "folders a b\nmake a\nmove b a" := by decide +kernel
theorem text4 : textOf shortS = "tick\nlook b\nsure b" := by decide +kernel
theorem NDs_fun (f : Nat → Int) : ∀ l : List Nat, NDs (l.map fun i => D.int (f i)) = true
  | [] => rfl
  | x :: l => by show (ND (.int (f x)) && NDs (l.map fun i => D.int (f i))) = true; rw [NDs_fun f l]; rfl
theorem plain : ∀ ns : List Int, ns.length ≤ 63 → lawD N_law.length B_law [.scr (ns.map D.int)] none = .ok (.bl true) none := by
  intro ns hl
  let J : Int := 1 + (if (5 : Int) < ns.length then 5 else (ns.length : Int))
  have hJ : 1 ≤ J ∧ J ≤ 6 := by simp only [J]; split <;> omega
  obtain ⟨ρ1, f1, a1, a5, a6, a7, a8, a9, oo, rfl⟩ := forD_same (enc := fun i : Nat => D.int (0 + (i : Nat))) (g := tgName 1) (body := law_f1) (List.range J.toNat)
    (fun ρ => ∃ (a1 a5 a6 a7 a8 a9 : Slot) (oo : Option Ora), ρ = ⟨[.im (.scr (iD ns)), a1, .no, .no, .no, a5, a6, a7, a8, a9], oo⟩)
    (fun i hi ρ ⟨a1, a5, a6, a7, a8, a9, oo, hρ⟩ => by
      subst hρ
      have hi := List.mem_range.mp hi
      obtain ⟨b5, b6, b7, b8, b9, o', e⟩ := law_turn (ns := ns) (k := i) (a5 := a5) (a6 := a6) (a7 := a7) (a8 := a8) (a9 := a9) (oo := oo) hl (by omega)
      exact ⟨_, _, rfl, e, _, _, _, _, _, _, _, rfl⟩) (ρ := ⟨[.im (.scr (iD ns)), .no, .no, .no, .no, .no, .no, .no, .no, .no], none⟩) ⟨_, _, _, _, _, _, _, rfl⟩
  obtain ⟨o, e1, k1⟩ := begun (k := 0) hl (by decide)
  obtain ⟨every, e2, pr, ar⟩ := every_rule_spec (some o) (fun x hx => isWord_ok (good_four.ww x hx)) good_four.n4 good_four.nd
  have gw := good_four.sub pr ar (List.Sublist.refl every)
  have l32 : every.length = 32 := by rw [pr.length_eq, len_every good_four.nd]; rfl
  obtain ⟨o2, e3, k2⟩ := worlds_right k1 (by decide) gw
  obtain ⟨o3, e4, k3⟩ := worlds_right k2 (by decide) good_tick
  have e5 := copiers_right (some o3) gw good_long
  have e6 := good_ab.read (some o3) (gs := ["b", "a"]) (qs := [["move", "b", "a"], ["make", "a"]]) (by decide +kernel) (by decide +kernel)
  rw [text1] at e6
  obtain ⟨r1, r2⟩ := reprW good_ab.n4 good_ab.ww good_ab.rowsR
  have e7 := good_ab0.init (some o3) (gs := ["b", "a"]) (qs := []) (fd := .lst (sD ["b", "a"])) (rd := .tup []) (.lst _) (.tup _) (by decide +kernel) (List.Perm.refl _)
  have e8 := world_text (some o3) (good_ab0.rows (List.Perm.refl _) (List.Perm.refl _))
  rw [text2] at e8
  have e9 := world_text (some o3) (good_ab.rows (List.Perm.refl _) (List.Perm.refl _))
  rw [text3] at e9
  obtain ⟨s1, run⟩ := good_short.run
  have e10 := copier_init (rs0 := [["make", "a"], ["move", "b", "a"]]) (some o3) (.lst _) good_ab.ww good_short.ne good_short.len run good_short.look
  have e11 := copier_text (w := W_ ["a", "b"] [["make", "a"], ["move", "b", "a"]]) (some o3) (ss := shortS) ⟨by decide, run.row good_ab.ww⟩
  rw [text4] at e11
  have nds := NDs_fun (fun i => 0 + (i : Int)) (List.range J.toNat)
  have gJ : (-100000 : Int) ≤ J ∧ J ≤ 100000 := ⟨by omega, by omega⟩
  have z0 : sz 0 := by decide
  have z1 : sz 1 := by decide
  have z2 : sz 2 := by decide
  have z3 : sz 3 := by decide
  have z4 : sz 4 := by decide
  have z13 : sz 13 := by decide
  have z16 : sz 16 := by decide
  have zz1 : sz (1 + 12) := by decide
  have zz2 : sz (1 + 12 + 3) := by decide
  have rf := redS_tupS four
  have er : dRepT (.tup [wT ["tick"], wT ["check", "d"], wT ["sure", "d"]]) (.int 4) = some (.tup [wT ["tick"], wT ["check", "d"], wT ["sure", "d"], wT ["tick"], wT ["check", "d"], wT ["sure", "d"], wT ["tick"], wT ["check", "d"], wT ["sure", "d"], wT ["tick"], wT ["check", "d"], wT ["sure", "d"]]) := rfl
  have q1 := eqB_strT (a := "folders a b") (by decide +kernel)
  have q2 := eqB_strT (a := "folders a b\nmake a\nmove b a") (by decide +kernel)
  have q3 := eqB_strT (a := "tick\nlook b\nsure b") (by decide +kernel)
  have h00 : ((0 : Nat) : Int) = 0 := rfl
  rw [h00] at e1
  simp only [four, longS, shortS, W_, C_, rD, sD, wT, List.map_cons, List.map_nil] at e2 e3 e4 e5 e6 e7 e8 e9 e10 e11 rf er r1 r2
  simp only [J, iD] at f1 nds gJ e1
  have rsc := redS_scr ns
  simp only [iD] at rsc
  simp only [lawD, N_law, B_law, sSeq, sIf, bE, bR, bS, cTest, cOp, cOra, sOraP, oraPd, cC, cCall, cCons, cNil, cTup, cLst, cStar, itemsD_tup, itemsD_lst, cUn, cSl, cPart, cNoPart, cNot, cAnd, cOr, cChain, cAndV, cOrV, cNotV, cIf, cYes_ap, sSet, sRet, sRetN, sPass, sDrop, sPar, osCons, osNil, oIm, oLst, oList, setS, cVar, oR, gR, gd, fnD, fnR, fnC, cFn, cMk, cM1, cGive, cOpO, cOpOL, cCallO, cPopAt, popD, sApp, appD, sRem, ownL, sIfW, ifW, sTgt, tgName_ap, tgTup_ap, tgsCons_ap, tgsNil_ap, tgStar_ap, cSeqI, seqD_tup, seqD_lst, seqD_str, cRng1, rngD, cEnum, seqE_tup, seqE_lst, sFor, cLc, Env.set, Env.wipe, Env.back, wipeS, backS, iSeq, iEnd, iEndS, iTwo, iTwoS, isSelf, fnI, bSeq, bRet, fnB, cCallV, cMeth, sMatch, sBeg, sBegPar, sForF, env0, scO, DL.scal, atD_ins, isC_ins, dAdd, dSub, dMod, dMul, dFdiv, dPow, dLt, dLe, dGt, dGe, onI, onIc, addS, addT, addL, dInt, dLen_tup, dLen_lst, dLen_scr, dLen_str, dTuple_tup, dTuple_lst, dList_tup, dList_lst, dSl_tup, dSl_lst, dSl_scr, dSl_str, dIx_tup, dIx_lst, dIx_str, dIn, dNotInS_tup, dNotInS_lst, dEq, dNe, dIsN, dNotN, dMin2, dRev_lst, dJoin_lst, dJoin_tup, oraGet_left, oraGet_seed, oraGet_spot, oraGet_cells, oraPut_left, oraPut_seed, oraPut_spot, Option.map, Option.or, Option.bind, Option.isSome_some, Option.isSome_none, id, List.map_cons, List.map_nil, List.length_cons, List.length_nil, List.length_map, List.length_append, List.replicate, List.cons_append, List.nil_append, List.append_assoc, List.getElem?_cons_zero, List.getElem?_cons_succ, List.set_cons_zero, List.set_cons_succ, List.getD_cons_zero, List.getD_cons_succ, decide_true, decide_false, if_true, if_false, ite_true, ite_false, ↓reduceIte, reduceCtorEq, Nat.reduceAdd, Nat.reduceSub, Nat.reduceLT, Nat.reduceLeDiff, Nat.reduceEqDiff, Nat.zero_add, true_and, and_true, Bool.not_true, Bool.not_false, imp_self, Bool.true_and, Bool.and_true, Bool.false_eq_true, decide_eq_true_eq, forall_const, implies_true, List.mem_cons, List.not_mem_nil, or_false, forall_eq_or_imp, forall_eq, false_implies, eq_self, eqB_int, Int.cast_ofNat_Int, Int.natCast_add, Int.natCast_one, Int.reduceAdd, Int.reduceSub, Int.reduceLT, Int.reduceLE, Int.reduceEq, Int.reduceNeg, Bool.and_false, Bool.false_and, Bool.or_true, Bool.true_or, Bool.or_false, Bool.false_or, nds, gJ, f1, z0, z1, z2, z3, z4, z13, z16, zz1, zz2, e1, e2, e3, e4, e5, e6, e7, e8, e9, e10, e11, l32, rf, rsc, redS_no, DL.Env.redr, er, r1, r2, q1, q2, q3, at_folders_W, at_rules_W, dd_World, List.append_nil]
end LW

set_option Elab.async false
set_option linter.all false
set_option maxRecDepth 100000
set_option maxHeartbeats 0
namespace LW
open PySem PySem.Spec PyProof.Rows L2 DL

def dd_law_begun : He.DefD := ⟨("_law_begun", none), "_law_begun", "_law_begun", defArgs s_law_begun, defBody s_law_begun, defScope s_law_begun, [], []⟩
def dd_law_draw : He.DefD := ⟨("_law_draw", none), "_law_draw", "_law_draw", defArgs s_law_draw, defBody s_law_draw, defScope s_law_draw, [], []⟩
def dd_law_folders : He.DefD := ⟨("_law_folders", none), "_law_folders", "_law_folders", defArgs s_law_folders, defBody s_law_folders, defScope s_law_folders, [], []⟩
def dd_law_of : He.DefD := ⟨("_law_of", none), "_law_of", "_law_of", defArgs s_law_of, defBody s_law_of, defScope s_law_of, [], []⟩
def dd_law_any_folders : He.DefD := ⟨("_law_any_folders", none), "_law_any_folders", "_law_any_folders", defArgs s_law_any_folders, defBody s_law_any_folders, defScope s_law_any_folders, [], []⟩
def dd_law_every_rule : He.DefD := ⟨("_law_every_rule", none), "_law_every_rule", "_law_every_rule", defArgs s_law_every_rule, defBody s_law_every_rule, defScope s_law_every_rule, [], []⟩
def dd_law_rules : He.DefD := ⟨("_law_rules", none), "_law_rules", "_law_rules", defArgs s_law_rules, defBody s_law_rules, defScope s_law_rules, [], []⟩
def dd_law_steps : He.DefD := ⟨("_law_steps", none), "_law_steps", "_law_steps", defArgs s_law_steps, defBody s_law_steps, defScope s_law_steps, [], []⟩
def dd_is_list : He.DefD := ⟨("is_list", none), "is_list", "is_list", defArgs s_is_list, defBody s_is_list, defScope s_is_list, [], []⟩
def dd_is_word : He.DefD := ⟨("is_word", none), "is_word", "is_word", defArgs s_is_word, defBody s_is_word, defScope s_is_word, [], []⟩
def dd_is_rule_of : He.DefD := ⟨("is_rule_of", none), "is_rule_of", "is_rule_of", defArgs s_is_rule_of, defBody s_is_rule_of, defScope s_is_rule_of, [], []⟩
def dd_World_init : He.DefD := ⟨("World", some "__init__"), "__init__", "World.__init__", defArgs s_World_init, defBody s_World_init, defScope s_World_init, [.adr ad_World], []⟩
def dd_law_text_of : He.DefD := ⟨("_law_text_of", none), "_law_text_of", "_law_text_of", defArgs s_law_text_of, defBody s_law_text_of, defScope s_law_text_of, [], []⟩
def dd_world_text : He.DefD := ⟨("world_text", none), "world_text", "world_text", defArgs s_world_text, defBody s_world_text, defScope s_world_text, [], []⟩
def dd_lines_of : He.DefD := ⟨("lines_of", none), "lines_of", "lines_of", defArgs s_lines_of, defBody s_lines_of, defScope s_lines_of, [], []⟩
def dd_is_rule_line : He.DefD := ⟨("is_rule_line", none), "is_rule_line", "is_rule_line", defArgs s_is_rule_line, defBody s_is_rule_line, defScope s_is_rule_line, [], []⟩
def dd_is_step_line : He.DefD := ⟨("is_step_line", none), "is_step_line", "is_step_line", defArgs s_is_step_line, defBody s_is_step_line, defScope s_is_step_line, [], []⟩
def dd_need_lines : He.DefD := ⟨("need_lines", none), "need_lines", "need_lines", defArgs s_need_lines, defBody s_need_lines, defScope s_need_lines, [], []⟩
def dd_read_world : He.DefD := ⟨("read_world", none), "read_world", "read_world", defArgs s_read_world, defBody s_read_world, defScope s_read_world, [], []⟩
def dd_World_eq : He.DefD := ⟨("World", some "__eq__"), "__eq__", "World.__eq__", defArgs s_World_eq, defBody s_World_eq, defScope s_World_eq, [], []⟩
def dd_law_worlds_right : He.DefD := ⟨("_law_worlds_right", none), "_law_worlds_right", "_law_worlds_right", defArgs s_law_worlds_right, defBody s_law_worlds_right, defScope s_law_worlds_right, [], []⟩
def dd_is_step : He.DefD := ⟨("is_step", none), "is_step", "is_step", defArgs s_is_step, defBody s_is_step, defScope s_is_step, [], []⟩
def dd_first_bad : He.DefD := ⟨("first_bad", none), "first_bad", "first_bad", defArgs s_first_bad, defBody s_first_bad, defScope s_first_bad, [], []⟩
def dd_need_steps : He.DefD := ⟨("need_steps", none), "need_steps", "need_steps", defArgs s_need_steps, defBody s_need_steps, defScope s_need_steps, [], []⟩
def dd_Copier_init : He.DefD := ⟨("Copier", some "__init__"), "__init__", "Copier.__init__", defArgs s_Copier_init, defBody s_Copier_init, defScope s_Copier_init, [], []⟩
def dd_copier_text : He.DefD := ⟨("copier_text", none), "copier_text", "copier_text", defArgs s_copier_text, defBody s_copier_text, defScope s_copier_text, [], []⟩
def dd_read_copier : He.DefD := ⟨("read_copier", none), "read_copier", "read_copier", defArgs s_read_copier, defBody s_read_copier, defScope s_read_copier, [], []⟩
def dd_Copier_eq : He.DefD := ⟨("Copier", some "__eq__"), "__eq__", "Copier.__eq__", defArgs s_Copier_eq, defBody s_Copier_eq, defScope s_Copier_eq, [], []⟩
def dd_law_copiers_right : He.DefD := ⟨("_law_copiers_right", none), "_law_copiers_right", "_law_copiers_right", defArgs s_law_copiers_right, defBody s_law_copiers_right, defScope s_law_copiers_right, [], []⟩
def dd_law : He.DefD := ⟨("law", none), "law", "law", defArgs s_law, defBody s_law, defScope s_law, [], []⟩
def fa : List He.Fa := [.int "MOST_FOLDERS" 4, .int "MOST_LETTERS" 8, .int "MOST_STEPS" 16, .free "all", .free "any", .free "enumerate", .free "int", .free "isinstance", .free "len", .free "list", .free "min", .free "range", .free "repr", .free "sorted", .free "str", .free "tuple", .str "FOLDERS" "folders", .str "LETTERS" "abcdefghijklmnopqrstuvwxyz", .str "LOOK" "look", .glo "ALONE", .glo "Copier", .glo "PAIRED", .glo "TICK", .glo "WORDS", .glo "World", .glo "_law_any_folders", .glo "_law_begun", .glo "_law_copiers_right", .glo "_law_draw", .glo "_law_every_rule", .glo "_law_folders", .glo "_law_of", .glo "_law_rules", .glo "_law_steps", .glo "_law_text_of", .glo "_law_worlds_right", .glo "copier_text", .glo "first_bad", .glo "is_list", .glo "is_rule_line", .glo "is_rule_of", .glo "is_step", .glo "is_step_line", .glo "is_word", .glo "law", .glo "lines_of", .glo "need_lines", .glo "need_steps", .glo "read_copier", .glo "read_world", .glo "world_text", .mkr "World", .keep "World", .mkr "Copier", .keep "Copier", .meth "World" "__eq__", .meth "Copier" "__eq__"]
def fn : List He.DefD := [dd_law_begun, dd_law_draw, dd_law_folders, dd_law_of, dd_law_any_folders, dd_law_every_rule, dd_law_rules, dd_law_steps, dd_is_list, dd_is_word, dd_is_rule_of, dd_World_init, dd_law_text_of, dd_world_text, dd_lines_of, dd_is_rule_line, dd_is_step_line, dd_need_lines, dd_read_world, dd_World_eq, dd_law_worlds_right, dd_is_step, dd_first_bad, dd_need_steps, dd_Copier_init, dd_copier_text, dd_read_copier, dd_Copier_eq, dd_law_copiers_right, dd_law]
def mrs : List (PySem.W.Frag → Bool) := [fun K => tupT K "ALONE" k_ALONE, fun K => tupT K "PAIRED" k_PAIRED, fun K => tupT K "TICK" k_TICK, fun K => tupT K "WORDS" k_WORDS, fun K => sclsB K "World", fun K => slotB K "World" "folders" 0, fun K => slotB K "World" "rules" 1, fun K => sclsB K "Copier", fun K => slotB K "Copier" "steps" 0, fun K => slotB K "Copier" "world" 1, fun K => kitB2 K "World" "Copier" false, fun K => kitB2 K "Copier" "Copier" true, fun K => othB K "Copier", fun K => kitB2 K "World" "World" true, fun K => kitB2 K "Copier" "World" false, fun K => othB K "World", fun K => tupAtB K (ad_World K) []]
def more (K : PySem.W.Frag) : Bool := mrs.all fun f => f K
theorem FK_of {K : PySem.W.Frag} {h : Heap} {mg : Str → Option Value} (X : K.In h) (G : h.Ns mainGlobals mg) (c : SaysM fa fn more K) : FK K mg where
  i_MOST_FOLDERS := He.int_ok X G (c.d.fact 0 (f := .int "MOST_FOLDERS" 4) rfl)
  i_MOST_LETTERS := He.int_ok X G (c.d.fact 1 (f := .int "MOST_LETTERS" 8) rfl)
  i_MOST_STEPS := He.int_ok X G (c.d.fact 2 (f := .int "MOST_STEPS" 16) rfl)
  n_all := He.free_ok X G (c.d.fact 3 (f := .free "all") rfl)
  n_any := He.free_ok X G (c.d.fact 4 (f := .free "any") rfl)
  n_enumerate := He.free_ok X G (c.d.fact 5 (f := .free "enumerate") rfl)
  n_int := He.free_ok X G (c.d.fact 6 (f := .free "int") rfl)
  n_isinstance := He.free_ok X G (c.d.fact 7 (f := .free "isinstance") rfl)
  n_len := He.free_ok X G (c.d.fact 8 (f := .free "len") rfl)
  n_list := He.free_ok X G (c.d.fact 9 (f := .free "list") rfl)
  n_min := He.free_ok X G (c.d.fact 10 (f := .free "min") rfl)
  n_range := He.free_ok X G (c.d.fact 11 (f := .free "range") rfl)
  n_repr := He.free_ok X G (c.d.fact 12 (f := .free "repr") rfl)
  n_sorted := He.free_ok X G (c.d.fact 13 (f := .free "sorted") rfl)
  n_str := He.free_ok X G (c.d.fact 14 (f := .free "str") rfl)
  n_tuple := He.free_ok X G (c.d.fact 15 (f := .free "tuple") rfl)
  s_FOLDERS := He.str_ok X G (c.d.fact 16 (f := .str "FOLDERS" "folders") rfl)
  s_LETTERS := He.str_ok X G (c.d.fact 17 (f := .str "LETTERS" "abcdefghijklmnopqrstuvwxyz") rfl)
  s_LOOK := He.str_ok X G (c.d.fact 18 (f := .str "LOOK" "look") rfl)
  t_ALONE := (all_at c.mr 0 (f := fun K => tupT K "ALONE" k_ALONE) rfl)
  t_PAIRED := (all_at c.mr 1 (f := fun K => tupT K "PAIRED" k_PAIRED) rfl)
  t_TICK := (all_at c.mr 2 (f := fun K => tupT K "TICK" k_TICK) rfl)
  t_WORDS := (all_at c.mr 3 (f := fun K => tupT K "WORDS" k_WORDS) rfl)
  g_ALONE := (He.glo_ok X G (c.d.fact 19 (f := .glo "ALONE") rfl))
  g_Copier := (He.glo_ok X G (c.d.fact 20 (f := .glo "Copier") rfl))
  g_PAIRED := (He.glo_ok X G (c.d.fact 21 (f := .glo "PAIRED") rfl))
  g_TICK := (He.glo_ok X G (c.d.fact 22 (f := .glo "TICK") rfl))
  g_WORDS := (He.glo_ok X G (c.d.fact 23 (f := .glo "WORDS") rfl))
  g_World := (He.glo_ok X G (c.d.fact 24 (f := .glo "World") rfl))
  g_law_any_folders := (He.glo_ok X G (c.d.fact 25 (f := .glo "_law_any_folders") rfl))
  g_law_begun := (He.glo_ok X G (c.d.fact 26 (f := .glo "_law_begun") rfl))
  g_law_copiers_right := (He.glo_ok X G (c.d.fact 27 (f := .glo "_law_copiers_right") rfl))
  g_law_draw := (He.glo_ok X G (c.d.fact 28 (f := .glo "_law_draw") rfl))
  g_law_every_rule := (He.glo_ok X G (c.d.fact 29 (f := .glo "_law_every_rule") rfl))
  g_law_folders := (He.glo_ok X G (c.d.fact 30 (f := .glo "_law_folders") rfl))
  g_law_of := (He.glo_ok X G (c.d.fact 31 (f := .glo "_law_of") rfl))
  g_law_rules := (He.glo_ok X G (c.d.fact 32 (f := .glo "_law_rules") rfl))
  g_law_steps := (He.glo_ok X G (c.d.fact 33 (f := .glo "_law_steps") rfl))
  g_law_text_of := (He.glo_ok X G (c.d.fact 34 (f := .glo "_law_text_of") rfl))
  g_law_worlds_right := (He.glo_ok X G (c.d.fact 35 (f := .glo "_law_worlds_right") rfl))
  g_copier_text := (He.glo_ok X G (c.d.fact 36 (f := .glo "copier_text") rfl))
  g_first_bad := (He.glo_ok X G (c.d.fact 37 (f := .glo "first_bad") rfl))
  g_is_list := (He.glo_ok X G (c.d.fact 38 (f := .glo "is_list") rfl))
  g_is_rule_line := (He.glo_ok X G (c.d.fact 39 (f := .glo "is_rule_line") rfl))
  g_is_rule_of := (He.glo_ok X G (c.d.fact 40 (f := .glo "is_rule_of") rfl))
  g_is_step := (He.glo_ok X G (c.d.fact 41 (f := .glo "is_step") rfl))
  g_is_step_line := (He.glo_ok X G (c.d.fact 42 (f := .glo "is_step_line") rfl))
  g_is_word := (He.glo_ok X G (c.d.fact 43 (f := .glo "is_word") rfl))
  g_law := (He.glo_ok X G (c.d.fact 44 (f := .glo "law") rfl))
  g_lines_of := (He.glo_ok X G (c.d.fact 45 (f := .glo "lines_of") rfl))
  g_need_lines := (He.glo_ok X G (c.d.fact 46 (f := .glo "need_lines") rfl))
  g_need_steps := (He.glo_ok X G (c.d.fact 47 (f := .glo "need_steps") rfl))
  g_read_copier := (He.glo_ok X G (c.d.fact 48 (f := .glo "read_copier") rfl))
  g_read_world := (He.glo_ok X G (c.d.fact 49 (f := .glo "read_world") rfl))
  g_world_text := (He.glo_ok X G (c.d.fact 50 (f := .glo "world_text") rfl))
  a_folders := fun cc C i h hm => by
    unfold at_folders at h
    split at h
    · rename_i e; subst e; cases h; have z := hm.symm.trans (He.glo_ok X G (c.d.fact 24 (f := .glo "World") rfl)); cases z; exact ⟨(sclsB_ok (all_at c.mr 4 (f := fun K => sclsB K "World") rfl)).1, _, (slotB_ok (all_at c.mr 5 (f := fun K => slotB K "World" "folders" 0) rfl))⟩
    cases h
  a_rules := fun cc C i h hm => by
    unfold at_rules at h
    split at h
    · rename_i e; subst e; cases h; have z := hm.symm.trans (He.glo_ok X G (c.d.fact 24 (f := .glo "World") rfl)); cases z; exact ⟨(sclsB_ok (all_at c.mr 4 (f := fun K => sclsB K "World") rfl)).1, _, (slotB_ok (all_at c.mr 6 (f := fun K => slotB K "World" "rules" 1) rfl))⟩
    cases h
  a_steps := fun cc C i h hm => by
    unfold at_steps at h
    split at h
    · rename_i e; subst e; cases h; have z := hm.symm.trans (He.glo_ok X G (c.d.fact 20 (f := .glo "Copier") rfl)); cases z; exact ⟨(sclsB_ok (all_at c.mr 7 (f := fun K => sclsB K "Copier") rfl)).1, _, (slotB_ok (all_at c.mr 8 (f := fun K => slotB K "Copier" "steps" 0) rfl))⟩
    cases h
  a_world := fun cc C i h hm => by
    unfold at_world at h
    split at h
    · rename_i e; subst e; cases h; have z := hm.symm.trans (He.glo_ok X G (c.d.fact 20 (f := .glo "Copier") rfl)); cases z; exact ⟨(sclsB_ok (all_at c.mr 7 (f := fun K => sclsB K "Copier") rfl)).1, _, (slotB_ok (all_at c.mr 9 (f := fun K => slotB K "Copier" "world" 1) rfl))⟩
    cases h
  z_Copier := fun cc C b h hm => by
    unfold is_Copier at h
    split at h
    · rename_i e; subst e; cases h; have z := hm.symm.trans (He.glo_ok X G (c.d.fact 24 (f := .glo "World") rfl)); cases z; exact ⟨(sclsB_ok (all_at c.mr 4 (f := fun K => sclsB K "World") rfl)).1, (sclsB_ok (all_at c.mr 4 (f := fun K => sclsB K "World") rfl)).2, of_decide_eq_true (all_at c.mr 10 (f := fun K => kitB2 K "World" "Copier" false) rfl)⟩
    split at h
    · rename_i e; subst e; cases h; have z := hm.symm.trans (He.glo_ok X G (c.d.fact 20 (f := .glo "Copier") rfl)); cases z; exact ⟨(sclsB_ok (all_at c.mr 7 (f := fun K => sclsB K "Copier") rfl)).1, (sclsB_ok (all_at c.mr 7 (f := fun K => sclsB K "Copier") rfl)).2, of_decide_eq_true (all_at c.mr 11 (f := fun K => kitB2 K "Copier" "Copier" true) rfl)⟩
    cases h
  o_Copier := othB_ok (all_at c.mr 12 (f := fun K => othB K "Copier") rfl)
  z_World := fun cc C b h hm => by
    unfold is_World at h
    split at h
    · rename_i e; subst e; cases h; have z := hm.symm.trans (He.glo_ok X G (c.d.fact 24 (f := .glo "World") rfl)); cases z; exact ⟨(sclsB_ok (all_at c.mr 4 (f := fun K => sclsB K "World") rfl)).1, (sclsB_ok (all_at c.mr 4 (f := fun K => sclsB K "World") rfl)).2, of_decide_eq_true (all_at c.mr 13 (f := fun K => kitB2 K "World" "World" true) rfl)⟩
    split at h
    · rename_i e; subst e; cases h; have z := hm.symm.trans (He.glo_ok X G (c.d.fact 20 (f := .glo "Copier") rfl)); cases z; exact ⟨(sclsB_ok (all_at c.mr 7 (f := fun K => sclsB K "Copier") rfl)).1, (sclsB_ok (all_at c.mr 7 (f := fun K => sclsB K "Copier") rfl)).2, of_decide_eq_true (all_at c.mr 14 (f := fun K => kitB2 K "Copier" "World" false) rfl)⟩
    cases h
  o_World := othB_ok (all_at c.mr 15 (f := fun K => othB K "World") rfl)
  q_World := fun {C} hm => by
    have z := hm.symm.trans (He.glo_ok X G (c.d.fact 24 (f := .glo "World") rfl)); cases z; exact ⟨(sclsB_ok (all_at c.mr 4 (f := fun K => sclsB K "World") rfl)).1, (slotB_ok (all_at c.mr 5 (f := fun K => slotB K "World" "folders" 0) rfl)), (slotB_ok (all_at c.mr 6 (f := fun K => slotB K "World" "rules" 1) rfl))⟩
  k_World := ⟨He.mkr_ok (c.d.fact 51 (f := .mkr "World") rfl), He.keep_ok (c.d.fact 52 (f := .keep "World") rfl)⟩
  e_World := fun F => tupAtB_ok (vs := []) (all_at c.mr 16 (f := fun K => tupAtB K (ad_World K) []) rfl) F
  q_Copier := fun {C} hm => by
    have z := hm.symm.trans (He.glo_ok X G (c.d.fact 20 (f := .glo "Copier") rfl)); cases z; exact ⟨(sclsB_ok (all_at c.mr 7 (f := fun K => sclsB K "Copier") rfl)).1, (slotB_ok (all_at c.mr 8 (f := fun K => slotB K "Copier" "steps" 0) rfl)), (slotB_ok (all_at c.mr 9 (f := fun K => slotB K "Copier" "world" 1) rfl))⟩
  k_Copier := ⟨He.mkr_ok (c.d.fact 53 (f := .mkr "Copier") rfl), He.keep_ok (c.d.fact 54 (f := .keep "Copier") rfl)⟩
  d_law_begun := c.d.def_ 0 (d := dd_law_begun) rfl
  d_law_draw := c.d.def_ 1 (d := dd_law_draw) rfl
  d_law_folders := c.d.def_ 2 (d := dd_law_folders) rfl
  d_law_of := c.d.def_ 3 (d := dd_law_of) rfl
  d_law_any_folders := c.d.def_ 4 (d := dd_law_any_folders) rfl
  d_law_every_rule := c.d.def_ 5 (d := dd_law_every_rule) rfl
  d_law_rules := c.d.def_ 6 (d := dd_law_rules) rfl
  d_law_steps := c.d.def_ 7 (d := dd_law_steps) rfl
  d_is_list := c.d.def_ 8 (d := dd_is_list) rfl
  d_is_word := c.d.def_ 9 (d := dd_is_word) rfl
  d_is_rule_of := c.d.def_ 10 (d := dd_is_rule_of) rfl
  d_World_init := c.d.def_ 11 (d := dd_World_init) rfl
  d_law_text_of := c.d.def_ 12 (d := dd_law_text_of) rfl
  d_world_text := c.d.def_ 13 (d := dd_world_text) rfl
  d_lines_of := c.d.def_ 14 (d := dd_lines_of) rfl
  d_is_rule_line := c.d.def_ 15 (d := dd_is_rule_line) rfl
  d_is_step_line := c.d.def_ 16 (d := dd_is_step_line) rfl
  d_need_lines := c.d.def_ 17 (d := dd_need_lines) rfl
  d_read_world := c.d.def_ 18 (d := dd_read_world) rfl
  m_World_eq := ⟨(sclsB_ok (all_at c.mr 4 (f := fun K => sclsB K "World") rfl)).1, He.meth_ok (c.d.fact 55 (f := .meth "World" "__eq__") rfl)⟩
  d_World_eq := c.d.def_ 19 (d := dd_World_eq) rfl
  d_law_worlds_right := c.d.def_ 20 (d := dd_law_worlds_right) rfl
  d_is_step := c.d.def_ 21 (d := dd_is_step) rfl
  d_first_bad := c.d.def_ 22 (d := dd_first_bad) rfl
  d_need_steps := c.d.def_ 23 (d := dd_need_steps) rfl
  d_Copier_init := c.d.def_ 24 (d := dd_Copier_init) rfl
  d_copier_text := c.d.def_ 25 (d := dd_copier_text) rfl
  d_read_copier := c.d.def_ 26 (d := dd_read_copier) rfl
  m_Copier_eq := ⟨(sclsB_ok (all_at c.mr 7 (f := fun K => sclsB K "Copier") rfl)).1, He.meth_ok (c.d.fact 56 (f := .meth "Copier" "__eq__") rfl)⟩
  d_Copier_eq := c.d.def_ 27 (d := dd_Copier_eq) rfl
  d_law_copiers_right := c.d.def_ 28 (d := dd_law_copiers_right) rfl
  d_law := c.d.def_ 29 (d := dd_law) rfl
def names0 : List PySem.Str := ["_wall", "CopyError", "BadWorld", "BadCopier", "BadNumber", "BadText", "TooGreat", "MOST_FOLDERS", "MOST_LETTERS", "LETTERS", "ALONE", "PAIRED", "is_integer", "is_among", "is_list", "is_word", "is_rule_of", "World", "MOST_STEPS", "LOOK", "CHECK", "SURE", "HOLD", "FREE", "TICK", "WORDS", "is_step", "first_bad", "need_steps", "Copier"]
def names1 : List PySem.Str := ["FOLDERS", "world_text", "copier_text", "lines_of", "is_rule_line", "is_step_line", "need_lines", "read_world", "read_copier", "_law_begun", "_law_draw", "_law_of", "_law_folders", "_law_every_rule", "_law_rules", "_law_steps", "_law_any_folders", "_law_text_of", "_law_worlds_right", "_law_copiers_right"]
def names : List PySem.Str := names0 ++ names1
abbrev R : PySem.W.OpenRow := PySem.W.OpenLaw.row PySem.Challenge.rw_walkcopy_k35_whole_texts
abbrev hk : PySem.W.Hook := hookM 5 fa fn more
def ob (s : PySem.W.SharedT) : AlM := obsMG 5 fa fn more (HandSHeadRun.getT s)
theorem ob_eq (s : PySem.W.SharedT) : ob s = hk.obs s.abs := obsMG_eq (HandSHeadRun.getT_eq s)
theorem run (w : World) : HandSHeadRun.RunEq R (PySem.W.view R.prog [55]) hk ob 20000 names w := by
  intro os
  kernel_rfl
end LW

set_option Elab.async false
set_option linter.all false
set_option maxRecDepth 100000
set_option maxHeartbeats 0
namespace LW
open PySem PySem.Spec PyProof.Rows L2 DL

theorem law_all {P : Program} {w : World} {K : PySem.W.Frag} {mg : Str → Option Value} {B : Heap} (c : FK K mg) : ∃ fd, FunD K "law" "law" (defArgs s_law) (defBody s_law) (defScope s_law) [] [] (He.fAd K ("law", none)) fd ∧ FnG P w K mg B (L2.CX P w) 8 (He.fAd K ("law", none)) fd ["_law_script"] (spLaw K mg (lawD N_law.length B_law)) := by
  have H_law_begun := D_law_begun (P := P) (w := w) (B := B) c 
  have H_law_draw := D_law_draw (P := P) (w := w) (B := B) c 
  have H_law_folders := D_law_folders (P := P) (w := w) (B := B) c H_law_draw
  have H_law_of := D_law_of (P := P) (w := w) (B := B) c H_law_draw
  have H_law_any_folders := D_law_any_folders (P := P) (w := w) (B := B) c H_law_draw H_law_folders H_law_of
  have H_law_every_rule := D_law_every_rule (P := P) (w := w) (B := B) c 
  have H_law_rules := D_law_rules (P := P) (w := w) (B := B) c H_law_draw H_law_every_rule
  have H_law_steps := D_law_steps (P := P) (w := w) (B := B) c H_law_draw H_law_of
  have H_is_list := D_is_list (P := P) (w := w) (B := B) c 
  have H_is_word := D_is_word (P := P) (w := w) (B := B) c 
  have H_is_rule_of := D_is_rule_of (P := P) (w := w) (B := B) c 
  have C0_World := C0_World (P := P) (w := w) (B := B) c H_is_list H_is_word H_is_rule_of
  have C1_World := C1_World (P := P) (w := w) (B := B) c H_is_list H_is_word H_is_rule_of
  have H_law_text_of := D_law_text_of (P := P) (w := w) (B := B) c 
  have H_world_text := D_world_text (P := P) (w := w) (B := B) c 
  have H_lines_of := D_lines_of (P := P) (w := w) (B := B) c 
  have H_is_rule_line := D_is_rule_line (P := P) (w := w) (B := B) c H_is_word
  have H_is_step_line := D_is_step_line (P := P) (w := w) (B := B) c H_is_word
  have H_need_lines := D_need_lines (P := P) (w := w) (B := B) c H_is_rule_line H_is_step_line
  have H_read_world := D_read_world (P := P) (w := w) (B := B) c H_lines_of H_is_word H_need_lines C0_World C1_World
  have H_World_eq := D_World_eq (P := P) (w := w) (B := B) c 
  have H_law_worlds_right := D_law_worlds_right (P := P) (w := w) (B := B) c C0_World C1_World H_law_text_of H_world_text H_law_draw H_read_world H_World_eq
  have H_is_step := D_is_step (P := P) (w := w) (B := B) c 
  have H_first_bad := D_first_bad (P := P) (w := w) (B := B) c H_is_step
  have H_need_steps := D_need_steps (P := P) (w := w) (B := B) c H_is_list H_first_bad
  have C0_Copier := C0_Copier (P := P) (w := w) (B := B) c H_need_steps
  have H_copier_text := D_copier_text (P := P) (w := w) (B := B) c 
  have H_read_copier := D_read_copier (P := P) (w := w) (B := B) c H_lines_of H_need_lines C0_Copier
  have H_Copier_eq := D_Copier_eq (P := P) (w := w) (B := B) c H_World_eq
  have H_law_copiers_right := D_law_copiers_right (P := P) (w := w) (B := B) c C0_World C1_World H_law_text_of C0_Copier H_copier_text H_read_copier H_World_eq H_Copier_eq
  obtain ⟨fd, FD⟩ := c.d_law
  exact ⟨fd, FD, D_law (P := P) (w := w) (B := B) c H_law_begun H_law_any_folders H_law_rules H_law_steps H_law_worlds_right H_law_copiers_right H_law_every_rule H_read_world C0_World C1_World H_world_text C0_Copier H_copier_text FD⟩
theorem facts {P : Program} {w : World} {K : PySem.W.Frag} {h : Heap} {mg : Str → Option Value} {f : Addr} (X : K.In h) (G : h.Ns mainGlobals mg) (hfa : mg ("law" : Str) = some (.ref f)) (c : SaysM fa fn more K) :
    ∃ fd : FuncData, (∀ (s : Shared) (v : Value), BindsTo s fd ⟨[v], []⟩ [("_law_script", v)]) ∧ ∀ base : Heap, FnG P w K mg base (L2.CX P w) 8 f fd ["_law_script"] (spLaw K mg (lawD N_law.length B_law)) := by
  have k := FK_of X G c
  obtain ⟨fd, FD⟩ := k.d_law
  have e := hfa.symm.trans k.g_law
  cases e
  have b := FunD.bindsA (ps := ["_law_script"]) FD fun _ _ _ _ _ _ us hl => match us, hl with | [_], _ => rfl
  refine ⟨fd, fun s v => b s [v] rfl, fun base => ?_⟩
  obtain ⟨fd2, FD2, h2⟩ := law_all (P := P) (w := w) (B := base) k
  have e2 : fd2 = fd := funD_uniq FD2 FD
  rw [e2] at h2
  exact h2
/-- what is left: the plain law -/
def Plain : Prop := ∀ ns : List Int, ns.length ≤ 63 → lawD N_law.length B_law [.scr (ns.map D.int)] none = .ok (.bl true) none
end LW
open PySem PySem.W PySem.Calls PyProof.Rows
theorem LW.holds_of (plain : LW.Plain) : PySem.Challenge.rw_walkcopy_k35_whole_texts.Holds := by
  w_on; o_law
  refine HandSHeadRun.head_any (r := OpenLaw.row PySem.Challenge.rw_walkcopy_k35_whole_texts) (q := view (OpenLaw.row PySem.Challenge.rw_walkcopy_k35_whole_texts).prog [55]) (H := LW.hk) (ob := LW.ob) (M := 20000) (loose := LW.names) (d := HandSHeadRun.topDef (OpenLaw.row PySem.Challenge.rw_walkcopy_k35_whole_texts).prog 55) (kwd := []) LW.ob_eq
    (by kernel_rfl) (fun s => by kernel_rfl) LW.run (by kernel_rfl) (by kernel_rfl) (by kernel_rfl) (by rfl) (by first | assumption | decide +kernel) (by decide +kernel) ⟨rfl, rfl, rfl, rfl, rfl, by decide +kernel⟩ ?hw ?hc
  case hw => w_witness2
  case hc =>
    refine DL.walkG (l := PySem.Challenge.rw_walkcopy_k35_whole_texts) (n := 63) (k := 8) (x := "_law_script") rfl (by decide) (by kernel_rfl) ⟨rfl, by decide, by decide⟩ ?F
    intro w mg fa h Y G hmg0
    obtain ⟨K, KX, c⟩ := Y
    have hmg : mg ("law" : PySem.Str) = some (.ref fa) := by
      have e : (HandSHeadRun.topDef (OpenLaw.row PySem.Challenge.rw_walkcopy_k35_whole_texts).prog 55).name = ("law" : PySem.Str) := by kernel_rfl
      rw [← e]
      exact hmg0
    obtain ⟨fd, hb, hF⟩ := LW.facts (P := (PySem.Challenge.rw_walkcopy_k35_whole_texts).prog) (w := w) KX G hmg c
    exact ⟨K, fd, DL.spLaw K mg (DL.lawD LW.N_law.length LW.B_law), KX, hb, fun H a ns hl hS => ⟨a, ns, rfl, hS, plain ns hl, fun _ => rfl⟩, fun B _ _ => hF B⟩

theorem PySem.Challenge.cw_walkcopy_k35_whole_texts_holds : PySem.Challenge.rw_walkcopy_k35_whole_texts.Holds := by
  exact LW.holds_of LW.plain
