import PyProof.Rows.All
import Wide.All
import OpenK.AllK
import Wide.FinOn
import HandS.ForMost
import HandS.ForExc
import HandS.Lambda
import HandS.IsInst
import HandS.Deep
import HandS.Wide
import HandS.TupAny
import HandS.TupMul
import HandS.TupLe
import HandS.Style
import KE.SortData
import KE.DataMinMax
import PyProof.ListStr
import HandS.Defaults
import HandS.CallSlots
import HandS.ExcCtx
import HandS.Sort
import HandS.Flow
import HandS.HotCalls
import HandS.ExcIs
import HandS.TupSets
import HandS.HeadHook1
import HandS.HeadHook2
import HandS.HeadWalk
import HandS.Head2
import PyProof.Rows.RuleIs
import KE.LtSeq
import KE.KSortAsk
import KE.KSortTup
import HandS.CallLocal
import HandS.Zip0
import PyProof.EnumIter
import KE.GoesMore
import KE.GoesRaise
import HandS.Dict
import KE.GoesEnum
import PySem.Challenge.RW_nearhalves_k05_webs_and_rows_listed
section
set_option Elab.async false
set_option linter.all false
set_option maxRecDepth 100000
set_option maxHeartbeats 4000000
/-! DL, part 1: data, representation, canonical readings. -/
namespace DL
open PySem PySem.Spec PyProof.Rows L2

abbrev St := L2.St
/-! ### data -/
inductive Dat where
  | non | bl (b : Bool) | int (i : Int) | str (x : Str) | ty (n : String)
  | tup (xs : List Dat) | lst (xs : List Dat)
  | ref (a : Addr)
/-- what stands at an address that may change -/
inductive MO where
  | lst (xs : List Dat)
  | ins (C : Addr) (fs : List (Str × Dat))
  | dct (kvs : List (Key × Dat))
abbrev DSt := List (Option Dat)
abbrev DM := Addr → Option MO
def dupd (M : DM) (a : Addr) (o : MO) : DM := fun b => if b = a then some o else M b
def ddel (M : DM) (a : Addr) : DM := fun b => if b = a then none else M b
theorem dupd_same {M : DM} {a : Addr} {o : MO} : dupd M a o a = some o := if_pos rfl
theorem dupd_ne {M : DM} {a b : Addr} {o : MO} (h : b ≠ a) : dupd M a o b = M b := if_neg h
theorem ddel_same {M : DM} {a : Addr} : ddel M a a = none := if_pos rfl
theorem ddel_ne {M : DM} {a b : Addr} (h : b ≠ a) : ddel M a b = M b := if_neg h
theorem dupd_dupd {M : DM} {a : Addr} {o u : MO} : dupd (dupd M a o) a u = dupd M a u := by
  funext b; unfold dupd; split <;> rfl

/-! ### results -/
inductive R (α : Type) where
  | ok (a : α) | exc (c : Value) | bad
namespace R
def bind {α β : Type} (x : R α) (f : α → R β) : R β := match x with
  | .ok a => f a
  | .exc c => .exc c
  | .bad => .bad
instance : Monad R where
  pure := .ok
  bind := bind
def wp {α : Type} (x : R α) (Q : α → Prop) (E : Value → Prop) : Prop := match x with
  | .ok a => Q a
  | .exc c => E c
  | .bad => False
end R
@[simp] theorem R.ok_bind {α β : Type} (a : α) (f : α → R β) : (R.ok a >>= f) = f a := rfl
@[simp] theorem R.exc_bind {α β : Type} (c : Value) (f : α → R β) : (R.exc c >>= f) = .exc c := rfl
@[simp] theorem R.bad_bind {α β : Type} (f : α → R β) : (R.bad >>= f) = .bad := rfl
@[simp] theorem R.pure_eq {α : Type} (a : α) : (pure a : R α) = .ok a := rfl
@[simp] theorem R.wp_ok {α : Type} (a : α) (Q : α → Prop) (E : Value → Prop) : (R.ok a).wp Q E = Q a := rfl
@[simp] theorem R.wp_exc {α : Type} (c : Value) (Q : α → Prop) (E : Value → Prop) : (R.exc c : R α).wp Q E = E c := rfl
@[simp] theorem R.wp_bad {α : Type} (Q : α → Prop) (E : Value → Prop) : (R.bad : R α).wp Q E = False := rfl

/-! ### data stand in a heap -/
mutual
inductive Rep (K : PySem.W.Frag) (G : Hp) : V → Dat → Prop
  | non : Rep K G .non .non
  | bl (b : Bool) : Rep K G (.bl b) (.bl b)
  | int (i : Int) : Rep K G (.int i) (.int i)
  | str (x : Str) : Rep K G (.str x) (.str x)
  | ty (n : String) : Rep K G (.ty n) (.ty n)
  | tup {a : Addr} {vs : List V} {ds : List Dat} : Rd G a (.tup vs) → ds.length ≤ sizeLine → RepL K G vs ds → Rep K G (.ref a) (.tup ds)
  | lst {a : Addr} {vs : List V} {ds : List Dat} : Rd G a (.lst vs) → ds.length ≤ sizeLine → RepL K G vs ds → Rep K G (.ref a) (.lst ds)
  | ref (a : Addr) : Rep K G (.ref a) (.ref a)
inductive RepL (K : PySem.W.Frag) (G : Hp) : List V → List Dat → Prop
  | nil : RepL K G [] []
  | cons {v : V} {vs : List V} {d : Dat} {ds : List Dat} : Rep K G v d → RepL K G vs ds → RepL K G (v :: vs) (d :: ds)
end
abbrev Sub (G G' : Hp) : Prop := ∀ a o, G a = some o → G' a = some o
section
variable {K : PySem.W.Frag} {G G' : Hp}
theorem rd_mono (s : Sub G G') {a : Addr} {o : HO} (h : Rd G a o) : Rd G' a o := by
  rcases h with h | ⟨o, h⟩
  · exact .inl (s _ _ h)
  · exact .inr ⟨o, s _ _ h⟩
theorem sqL_mono (s : Sub G G') {a : Addr} {vs : List V} (h : Rd G a (.lst vs)) : SqL K G' a vs := .inl (rd_mono s h)
theorem sqT_mono (s : Sub G G') {a : Addr} {vs : List V} (h : Rd G a (.tup vs)) : SqT K G' a vs := .inl (rd_mono s h)
mutual
theorem Rep.mono (s : Sub G G') : ∀ {v : V} {d : Dat}, Rep K G v d → Rep K G' v d
  | _, _, .non => .non
  | _, _, .bl b => .bl b
  | _, _, .int i => .int i
  | _, _, .str x => .str x
  | _, _, .ty n => .ty n
  | _, _, .tup h l r => .tup (rd_mono s h) l (RepL.mono s r)
  | _, _, .lst h l r => .lst (rd_mono s h) l (RepL.mono s r)
  | _, _, .ref a => .ref a
theorem RepL.mono (s : Sub G G') : ∀ {vs : List V} {ds : List Dat}, RepL K G vs ds → RepL K G' vs ds
  | _, _, .nil => .nil
  | _, _, .cons h t => .cons (Rep.mono s h) (RepL.mono s t)
end
theorem RepL.length : ∀ {vs : List V} {ds : List Dat}, RepL K G vs ds → vs.length = ds.length
  | _, _, .nil => rfl
  | _, _, .cons _ t => by rw [List.length_cons, List.length_cons, RepL.length t]
theorem RepL.get : ∀ {vs : List V} {ds : List Dat} {i : Nat} {d : Dat}, RepL K G vs ds → ds[i]? = some d → ∃ v, vs[i]? = some v ∧ Rep K G v d
  | _, _, _, _, .nil, e => by simp at e
  | _, _, 0, _, .cons h _, e => by simp at e; subst e; exact ⟨_, rfl, h⟩
  | _, _, i + 1, d, .cons _ t, e => by
    obtain ⟨v, h1, h2⟩ := RepL.get (i := i) (d := d) t (by simpa using e)
    exact ⟨v, by simpa using h1, h2⟩
theorem RepL.get' : ∀ {vs : List V} {ds : List Dat} {i : Nat} {v : V}, RepL K G vs ds → vs[i]? = some v → ∃ d, ds[i]? = some d ∧ Rep K G v d
  | _, _, _, _, .nil, e => by simp at e
  | _, _, 0, _, .cons h _, e => by simp at e; subst e; exact ⟨_, rfl, h⟩
  | _, _, i + 1, v, .cons _ t, e => by
    obtain ⟨d, h1, h2⟩ := RepL.get' (i := i) (v := v) t (by simpa using e)
    exact ⟨d, by simpa using h1, h2⟩
theorem RepL.append : ∀ {vs us : List V} {ds es : List Dat}, RepL K G vs ds → RepL K G us es → RepL K G (vs ++ us) (ds ++ es)
  | _, _, _, _, .nil, s => s
  | _, _, _, _, .cons h t, s => .cons h (RepL.append t s)
theorem RepL.take : ∀ {vs : List V} {ds : List Dat} (n : Nat), RepL K G vs ds → RepL K G (vs.take n) (ds.take n)
  | _, _, 0, _ => .nil
  | _, _, _ + 1, .nil => .nil
  | _, _, n + 1, .cons h t => .cons h (RepL.take n t)
theorem RepL.drop : ∀ {vs : List V} {ds : List Dat} (n : Nat), RepL K G vs ds → RepL K G (vs.drop n) (ds.drop n)
  | _, _, 0, h => h
  | _, _, _ + 1, .nil => .nil
  | _, _, n + 1, .cons _ t => RepL.drop n t
theorem RepL.reverse {vs : List V} {ds : List Dat} (h : RepL K G vs ds) : RepL K G vs.reverse ds.reverse := by
  induction vs generalizing ds with
  | nil => cases h; exact .nil
  | cons v vs ih =>
    cases h with
    | cons h t =>
      rw [List.reverse_cons, List.reverse_cons]
      exact (ih t).append (.cons h .nil)
theorem RepL.set {v : V} {d : Dat} (h : Rep K G v d) : ∀ {vs : List V} {ds : List Dat} (i : Nat), RepL K G vs ds → RepL K G (vs.set i v) (ds.set i d)
  | _, _, _, .nil => .nil
  | _, _, 0, .cons _ t => .cons h t
  | _, _, i + 1, .cons q t => .cons q (RepL.set h i t)
end

/-! ### what holds of the heap -/
/-- an object that may change -/
def MRep (K : PySem.W.Frag) (H G : Hp) (a : Addr) : MO → Prop
  | .lst ds => ∃ vs, H a = some (.lst vs) ∧ ds.length ≤ sizeLine ∧ RepL K G vs ds
  | .ins C fs => ∃ dx vs, H a = some (.ins C dx vs) ∧ Paired (fun (p : Str × V) (q : Str × Dat) => p.1 = q.1 ∧ Rep K G p.2 q.2) vs fs
  | .dct kvs => ∃ vs, H a = some (.dK vs) ∧ kvs.length ≤ sizeLine ∧ Paired (fun (p : Key × V) (q : Key × Dat) => p.1 = q.1 ∧ Rep K G p.2 q.2) vs kvs
structure Hld (K : PySem.W.Frag) (T : List (Addr × Str)) (H G : Hp) (M : DM) : Prop where
  sub : Sub G H
  nt : ∀ a ps, G a ≠ some (.tbl ps)
  mem : ∀ a m, M a = some m → MRep K H G a m
  off : ∀ a m, M a = some m → G a = none
  tab : LamX.Tabs T H
/-- what a step may do: all that is not in M stays, but for the tables -/
structure Tr (H G : Hp) (M : DM) (H' G' : Hp) (M' : DM) : Prop where
  g : Sub G G'
  k : ∀ a o, H a = some o → M a = none → (∀ ps, o ≠ .tbl ps) → H' a = some o ∧ M' a = none ∧ (G a = none → G' a = none)
theorem Tr.refl (H G : Hp) (M : DM) : Tr H G M H G M := ⟨fun _ _ h => h, fun _ _ h n _ => ⟨h, n, fun g => g⟩⟩
theorem Tr.trans {H G H1 G1 H2 G2 : Hp} {M M1 M2 : DM} (a : Tr H G M H1 G1 M1) (b : Tr H1 G1 M1 H2 G2 M2) : Tr H G M H2 G2 M2 :=
  ⟨fun x o h => b.g x o (a.g x o h), fun x o h n t => let ⟨h1, n1, g1⟩ := a.k x o h n t; let ⟨h2, n2, g2⟩ := b.k x o h1 n1 t; ⟨h2, n2, fun g => g2 (g1 g)⟩⟩
/-- the slots -/
structure RS (K : PySem.W.Frag) (G : Hp) (σ : St) (ρ : DSt) : Prop where
  len : σ.length = ρ.length
  at_ : ∀ (i : Nat) (d : Dat), ρ[i]? = some (some d) → ∃ v, σ[i]? = some (some v) ∧ Rep K G v d
section
variable {K : PySem.W.Frag} {T : List (Addr × Str)} {H G G' : Hp} {M : DM} {σ : St} {ρ : DSt}
theorem RS.mono (s : Sub G G') (r : RS K G σ ρ) : RS K G' σ ρ := ⟨r.len, fun i d e => let ⟨v, h1, h2⟩ := r.at_ i d e; ⟨v, h1, h2.mono s⟩⟩
theorem RS.set {v : V} {d : Dat} (r : RS K G σ ρ) (h : Rep K G v d) (i : Nat) : RS K G (σ.set i (some v)) (ρ.set i (some d)) := by
  refine ⟨by simpa using r.len, fun j e q => ?_⟩
  by_cases hj : j = i
  · subst hj
    by_cases hl : j < ρ.length
    · rw [List.getElem?_set_self hl] at q
      cases q
      exact ⟨v, by rw [List.getElem?_set_self (by rw [r.len]; exact hl)], h⟩
    · rw [List.getElem?_eq_none (by simpa using hl)] at q; cases q
  · rw [List.getElem?_set_ne (Ne.symm hj)] at q
    obtain ⟨u, h1, h2⟩ := r.at_ j e q
    exact ⟨u, by rw [List.getElem?_set_ne (Ne.symm hj)]; exact h1, h2⟩
/-- a slot forgotten -/
theorem RS.forget (r : RS K G σ ρ) (i : Nat) (w : Option V) : RS K G (σ.set i w) (ρ.set i none) := by
  refine ⟨by simpa using r.len, fun j e q => ?_⟩
  by_cases hj : j = i
  · subst hj
    by_cases hl : j < ρ.length
    · rw [List.getElem?_set_self hl] at q; cases q
    · rw [List.getElem?_eq_none (by simpa using hl)] at q; cases q
  · rw [List.getElem?_set_ne (Ne.symm hj)] at q
    obtain ⟨u, h1, h2⟩ := r.at_ j e q
    exact ⟨u, by rw [List.getElem?_set_ne (Ne.symm hj)]; exact h1, h2⟩
theorem Hld.free (h : Hld K T H G M) {p : Addr} (n : H p = none) : G p = none ∧ M p = none := by
  constructor
  · cases e : G p with
    | none => rfl
    | some o => rw [h.sub p o e] at n; cases n
  · cases e : M p with
    | none => rfl
    | some m =>
      have := h.mem p m e
      cases m with
      | lst ds => obtain ⟨vs, q, _⟩ := this; rw [q] at n; cases n
      | ins C fs => obtain ⟨dx, vs, q, _⟩ := this; rw [q] at n; cases n
      | dct kvs => obtain ⟨vs, q, _⟩ := this; rw [q] at n; cases n
theorem MRep.mono {H' : Hp} (s : Sub G G') {a : Addr} (e : H' a = H a) : ∀ {m : MO}, MRep K H G a m → MRep K H' G' a m
  | .lst ds, ⟨vs, q, l, r⟩ => ⟨vs, e.trans q, l, r.mono s⟩
  | .ins C fs, ⟨dx, vs, q, r⟩ => ⟨dx, vs, e.trans q, Paired.mapP r fun _ _ z => ⟨z.1, z.2.mono s⟩⟩
  | .dct kvs, ⟨vs, q, l, r⟩ => ⟨vs, e.trans q, l, Paired.mapP r fun _ _ z => ⟨z.1, z.2.mono s⟩⟩
theorem sub_upd {o : HO} {p : Addr} (n : G p = none) : Sub G (upd G p o) := fun a u e => by
  rw [upd_ne (ne_of_none e n)]; exact e
/-- a new frozen object -/
theorem Hld.laid (h : Hld K T H G M) {p : Addr} {o : HO} (n : H p = none) (nt : ∀ ps, o ≠ .tbl ps) : Hld K T (upd H p o) (upd G p o) M ∧ Tr H G M (upd H p o) (upd G p o) M := by
  obtain ⟨g, m⟩ := h.free n
  refine ⟨⟨fun a u e => ?_, fun a ps e => ?_, fun a u e => ?_, fun a u e => ?_, h.tab.ext (sub_upd n)⟩, ⟨sub_upd g, fun a u e q _ => ⟨sub_upd n a u e, q, fun z => by rw [upd_ne (ne_of_none e n)]; exact z⟩⟩⟩
  · by_cases hp : a = p
    · subst hp; rw [upd_same] at e ⊢; exact e
    · rw [upd_ne hp] at e ⊢; exact h.sub a u e
  · by_cases hp : a = p
    · subst hp; rw [upd_same] at e; exact nt ps (Option.some.inj e)
    · rw [upd_ne hp] at e; exact h.nt a ps e
  · have hp : a ≠ p := fun z => by rw [z, m] at e; cases e
    exact (h.mem a u e).mono (sub_upd g) (upd_ne hp)
  · have hp : a ≠ p := fun z => by rw [z, m] at e; cases e
    rw [upd_ne hp]; exact h.off a u e
/-- a new object that may change -/
theorem Hld.newM (h : Hld K T H G M) {p : Addr} {vs : List V} {ds : List Dat} (n : H p = none) (l : ds.length ≤ sizeLine) (r : RepL K G vs ds) :
    Hld K T (upd H p (.lst vs)) G (dupd M p (.lst ds)) ∧ Tr H G M (upd H p (.lst vs)) G (dupd M p (.lst ds)) := by
  obtain ⟨g, m⟩ := h.free n
  refine ⟨⟨fun a u e => sub_upd n a u (h.sub a u e), h.nt, fun a u e => ?_, fun a u e => ?_, h.tab.ext (sub_upd n)⟩, ⟨fun _ _ e => e, fun a u e q _ => ?_⟩⟩
  · by_cases hp : a = p
    · subst hp; rw [dupd_same] at e; cases e; exact ⟨vs, upd_same, l, r⟩
    · rw [dupd_ne hp] at e; exact (h.mem a u e).mono (fun _ _ z => z) (upd_ne hp)
  · by_cases hp : a = p
    · subst hp; exact g
    · rw [dupd_ne hp] at e; exact h.off a u e
  · have hp : a ≠ p := ne_of_none e n
    rw [upd_ne hp, dupd_ne hp]; exact ⟨e, q, fun z => z⟩
/-- a list that may change is written -/
theorem Hld.setM (h : Hld K T H G M) {p : Addr} {vs : List V} {ds es : List Dat} (e0 : M p = some (.lst es)) (l : ds.length ≤ sizeLine) (r : RepL K G vs ds) :
    Hld K T (upd H p (.lst vs)) G (dupd M p (.lst ds)) ∧ Tr H G M (upd H p (.lst vs)) G (dupd M p (.lst ds)) := by
  have g := h.off p _ e0
  obtain ⟨ws, hp0, _⟩ := h.mem p _ e0
  refine ⟨⟨fun a u e => ?_, h.nt, fun a u e => ?_, fun a u e => ?_, fun q hq => ?_⟩, ⟨fun _ _ e => e, fun a u e q _ => ?_⟩⟩
  · have hp : a ≠ p := ne_of_none e g
    rw [upd_ne hp]; exact h.sub a u e
  · by_cases hp : a = p
    · subst hp; rw [dupd_same] at e; cases e; exact ⟨vs, upd_same, l, r⟩
    · rw [dupd_ne hp] at e; exact (h.mem a u e).mono (fun _ _ z => z) (upd_ne hp)
  · by_cases hp : a = p
    · subst hp; exact g
    · rw [dupd_ne hp] at e; exact h.off a u e
  · obtain ⟨ps, a1, a2, a3⟩ := h.tab q hq
    have n1 : q.1 ≠ p := fun z => by rw [z, hp0] at a1; cases a1
    refine ⟨ps, by rw [upd_ne n1]; exact a1, a2, fun pos cv hc => ?_⟩
    obtain ⟨c, e1, e2⟩ := a3 pos cv hc
    have n2 : c ≠ p := fun z => by rw [z, hp0] at e2; cases e2
    exact ⟨c, e1, by rw [upd_ne n2]; exact e2⟩
  · have hp : a ≠ p := fun z => by rw [z, e0] at q; cases q
    rw [upd_ne hp, dupd_ne hp]; exact ⟨e, q, fun z => z⟩
/-- a list that may change is frozen -/
theorem Hld.frz (h : Hld K T H G M) {p : Addr} {ds : List Dat} (e0 : M p = some (.lst ds)) :
    ∃ G', Hld K T H G' (ddel M p) ∧ Tr H G M H G' (ddel M p) ∧ Rep K G' (.ref p) (.lst ds) := by
  have g := h.off p _ e0
  obtain ⟨vs, hp0, l, r⟩ := h.mem p _ e0
  refine ⟨upd G p (.lst vs), ⟨fun a u e => ?_, fun a ps e => ?_, fun a u e => ?_, fun a u e => ?_, h.tab⟩, ⟨sub_upd g, fun a u e q _ => ⟨e, ?_, fun z => ?_⟩⟩, .lst (.inl upd_same) l (r.mono (sub_upd g))⟩
  · by_cases hp : a = p
    · subst hp; rw [upd_same] at e; cases e; exact hp0
    · rw [upd_ne hp] at e; exact h.sub a u e
  · by_cases hp : a = p
    · subst hp; rw [upd_same] at e; cases e
    · rw [upd_ne hp] at e; exact h.nt a ps e
  · by_cases hp : a = p
    · subst hp; rw [ddel_same] at e; cases e
    · rw [ddel_ne hp] at e; exact (h.mem a u e).mono (sub_upd g) rfl
  · by_cases hp : a = p
    · subst hp; rw [ddel_same] at e; cases e
    · rw [ddel_ne hp] at e; rw [upd_ne hp]; exact h.off a u e
  · by_cases hp : a = p
    · subst hp; exact ddel_same
    · rw [ddel_ne hp]; exact q
  · have hp : a ≠ p := fun z => by rw [z, e0] at q; cases q
    rw [upd_ne hp]; exact z
end

/-! ### readings over data -/
abbrev DQ := Dat → DM → Prop
abbrev DX := Value → DM → Prop
abbrev DTE := DSt → DM → DQ → DX → Prop
abbrev DTT := DSt → DM → (Bool → DM → Prop) → DX → Prop
abbrev DTA := DSt → DM → (List Dat → DM → Prop) → DX → Prop
structure DEnds where
  nx : DSt → DM → Prop
  rt : DQ
  bk : DSt → DM → Prop := fun _ _ => False
  ct : DSt → DM → Prop := fun _ _ => False
  ex : Value → DSt → DM → Prop := fun _ _ _ => False
abbrev DTS := DEnds → DSt → DM → Prop
/-- the dict of an exception: none, but where a class makes its own -/
def Dd (K : PySem.W.Frag) (c : Value) (dd : Option Addr) : Prop := dd = none ∨ ∃ C f, c = .ref C ∧ PySem.W.findIn K (.ref C) "__init__" = some (some (.ref f))
section
variable (K : PySem.W.Frag) (T : List (Addr × Str))
def cE (W : WX) (d : DTE) : TE := fun σ H Q => ∃ (G : Hp) (M : DM) (ρ : DSt) (QD : DQ) (ED : DX), Hld K T H G M ∧ RS K G σ ρ ∧ d ρ M QD ED ∧
  (∀ v H' G' M' x, Tr H G M H' G' M' → Hld K T H' G' M' → Rep K G' v x → QD x M' → Q v H') ∧
  (∀ c dd H' G' M', Tr H G M H' G' M' → Hld K T H' G' M' → ED c M' → Dd K c dd → W c dd σ H')
def cT (W : WX) (d : DTT) : TT := fun σ H Q => ∃ (G : Hp) (M : DM) (ρ : DSt) (QD : Bool → DM → Prop) (ED : DX), Hld K T H G M ∧ RS K G σ ρ ∧ d ρ M QD ED ∧
  (∀ b H' G' M', Tr H G M H' G' M' → Hld K T H' G' M' → QD b M' → Q b H') ∧
  (∀ c dd H' G' M', Tr H G M H' G' M' → Hld K T H' G' M' → ED c M' → Dd K c dd → W c dd σ H')
def cA (W : WX) (d : DTA) : TA := fun σ H Q => ∃ (G : Hp) (M : DM) (ρ : DSt) (QD : List Dat → DM → Prop) (ED : DX), Hld K T H G M ∧ RS K G σ ρ ∧ d ρ M QD ED ∧
  (∀ vs H' G' M' xs, Tr H G M H' G' M' → Hld K T H' G' M' → RepL K G' vs xs → QD xs M' → Q vs H') ∧
  (∀ c dd H' G' M', Tr H G M H' G' M' → Hld K T H' G' M' → ED c M' → Dd K c dd → W c dd σ H')
def cS (W : WX) (d : DTS) : TS := fun D σ H => ∃ (G : Hp) (M : DM) (ρ : DSt) (DD : DEnds), Hld K T H G M ∧ RS K G σ ρ ∧ d DD ρ M ∧
  (∀ σ' H' G' M' ρ', Tr H G M H' G' M' → Hld K T H' G' M' → RS K G' σ' ρ' → DD.nx ρ' M' → D.nx σ' H') ∧
  (∀ v H' G' M' x, Tr H G M H' G' M' → Hld K T H' G' M' → Rep K G' v x → DD.rt x M' → D.rt v H') ∧
  (∀ σ' H' G' M' ρ', Tr H G M H' G' M' → Hld K T H' G' M' → RS K G' σ' ρ' → DD.bk ρ' M' → D.bk σ' H') ∧
  (∀ σ' H' G' M' ρ', Tr H G M H' G' M' → Hld K T H' G' M' → RS K G' σ' ρ' → DD.ct ρ' M' → D.ct σ' H') ∧
  (∀ c dd σ' H' G' M' ρ', Tr H G M H' G' M' → Hld K T H' G' M' → RS K G' σ' ρ' → DD.ex c ρ' M' → Dd K c dd → W c dd σ' H')
end
/-! ### weaker readings -/
theorem PE.weak {X : Cx} {e : Expr} {t t' : TE} (h : PE X e t) (i : ∀ σ H Q, t' σ H Q → t σ H Q) : PE X e t' := ⟨fun pins s σ H Q I q => h.run pins s σ H Q I (i σ H Q q)⟩
theorem PT.weak {X : Cx} {e : Expr} {t t' : TT} (h : PT X e t) (i : ∀ σ H Q, t' σ H Q → t σ H Q) : PT X e t' := ⟨fun pins s σ H Q I q => h.run pins s σ H Q I (i σ H Q q)⟩
theorem PW.weak {X : Cx} {e : Expr} {t t' : TT} (h : PW X e t) (i : ∀ σ H Q, t' σ H Q → t σ H Q) : PW X e t' := ⟨fun wh pins s σ H Q I q => h.run wh pins s σ H Q I (i σ H Q q)⟩
theorem PA.weak {X : Cx} {e : List Expr} {t t' : TA} (h : PA X e t) (i : ∀ σ H Q, t' σ H Q → t σ H Q) : PA X e t' := ⟨fun pos pins s σ H Q I q => h.run pos pins s σ H Q I (i σ H Q q)⟩
theorem PS.weak {X : Cx} {e : Stmt} {t t' : TS} (h : PS X e t) (i : ∀ D σ H, t' D σ H → t D σ H) : PS X e t' := ⟨fun pins s σ H D I q => h.run pins s σ H D I (i D σ H q)⟩
theorem PSs.weak {X : Cx} {e : List Stmt} {t t' : TS} (h : PSs X e t) (i : ∀ D σ H, t' D σ H → t D σ H) : PSs X e t' := ⟨fun pins s σ H D I q => h.run pins s σ H D I (i D σ H q)⟩
theorem OpR.weak {X : Cx} {f : Value → Value → Sem Value} {r r' : R2} (h : OpR X f r) (i : ∀ x y H Q, r' x y H Q → r x y H Q) : OpR X f r' := fun pins s σ H x y v u Q I rx ry q => h pins s σ H x y v u Q I rx ry (i x y H Q q)

/-! ### the judgements over data -/
abbrev DE (X : Cx) (T : List (Addr × Str)) (W : WX) (d : DTE) (e : Expr) : Prop := PE X e (cE X.K T W d)
abbrev DT (X : Cx) (T : List (Addr × Str)) (W : WX) (d : DTT) (e : Expr) : Prop := PT X e (cT X.K T W d)
abbrev DW (X : Cx) (T : List (Addr × Str)) (W : WX) (d : DTT) (e : Expr) : Prop := PW X e (cT X.K T W d)
abbrev DA (X : Cx) (T : List (Addr × Str)) (W : WX) (d : DTA) (es : List Expr) : Prop := PA X es (cA X.K T W d)
abbrev DS (X : Cx) (T : List (Addr × Str)) (W : WX) (d : DTS) (st : Stmt) : Prop := PS X st (cS X.K T W d)
abbrev DSs (X : Cx) (T : List (Addr × Str)) (W : WX) (d : DTS) (st : List Stmt) : Prop := PSs X st (cS X.K T W d)
end DL

end
section
set_option Elab.async false
set_option linter.all false
set_option maxRecDepth 100000
set_option maxHeartbeats 4000000
/-! DL, part 2: expressions. -/
namespace DL
open PySem PySem.Spec PyProof.Rows L2

theorem R.wp_bind {α β : Type} (x : R α) (f : α → R β) (Q : β → Prop) (E : Value → Prop) : (x >>= f).wp Q E = x.wp (fun a => (f a).wp Q E) E := by cases x <;> rfl
def R.of {α : Type} : Option α → R α
  | some a => .ok a
  | none => .bad
@[simp] theorem R.of_some {α : Type} (a : α) : R.of (some a) = .ok a := rfl
@[simp] theorem R.of_none {α : Type} : R.of (none : Option α) = .bad := rfl

/-! ### pure readings -/
abbrev FE := DSt → R Dat
abbrev FT := DSt → R Bool
abbrev FA := DSt → R (List Dat)
def pur (f : FE) : DTE := fun ρ M Q E => (f ρ).wp (fun x => Q x M) (fun c => E c M)
def purT (f : FT) : DTT := fun ρ M Q E => (f ρ).wp (fun x => Q x M) (fun c => E c M)
def purA (f : FA) : DTA := fun ρ M Q E => (f ρ).wp (fun x => Q x M) (fun c => E c M)

section
variable {X : Cx} {T : List (Addr × Str)} {W : WX}

/-! ### canonical readings in chains -/
theorem cE_mk {σ : St} {H G : Hp} {M : DM} {ρ : DSt} {Q : VK} {K : PySem.W.Frag} {d : DTE} (h : Hld K T H G M) (r : RS K G σ ρ) (QD : DQ) (ED : DX) (hd : d ρ M QD ED)
    (kq : ∀ v H' G' M' x, Tr H G M H' G' M' → Hld K T H' G' M' → Rep K G' v x → QD x M' → Q v H')
    (ke : ∀ c dd H' G' M', Tr H G M H' G' M' → Hld K T H' G' M' → ED c M' → Dd K c dd → W c dd σ H') : cE K T W d σ H Q := ⟨G, M, ρ, QD, ED, h, r, hd, kq, ke⟩

/-! ### names, constants -/
def dVar (i : Nat) : DTE := fun ρ M Q _ => ∃ d, ρ[i]? = some (some d) ∧ Q d M
def fVar (i : Nat) : FE := fun ρ => match ρ[i]? with
  | some (some d) => .ok d
  | _ => .bad
theorem dVar_pur (i : Nat) : dVar i = pur (fVar i) := by
  funext ρ M Q E
  unfold dVar pur fVar
  apply propext
  constructor
  · rintro ⟨d, e, q⟩; rw [e]; exact q
  · intro h
    split at h
    · rename_i d e; exact ⟨d, e, h⟩
    · exact h.elim
theorem dp_var (i : Nat) {x : Str} {pos : Pos} (hN : X.N[i]? = some x := by rfl) (hv : Vis X.env.scope x := by first | exact Or.inl rfl | exact Or.inr (Or.inl rfl) | exact Or.inr (Or.inr rfl)) (hd : (x == ("__debug__" : Str)) = false := by decide)
    (hcd : (x == ("__classdict__" : Str)) = false := by decide) : DE X T W (pur (fVar i)) (.Name x pos) := by
  rw [← dVar_pur]
  refine PE.weak (pe_var (i := i) hN hv hd hcd) fun σ H Q ⟨G, M, ρ, QD, ED, h, r, ⟨d, e, q⟩, kq, ke⟩ => ?_
  obtain ⟨v, e1, r1⟩ := r.at_ i d e
  exact ⟨v, e1, kq v H G M d (Tr.refl ..) h r1 q⟩
def fC (d : Dat) : FE := fun _ => .ok d
theorem dp_c {e : Expr} {v : V} {d : Dat} (h : PE X e (tC v)) (r : ∀ G, Rep X.K G v d) : DE X T W (pur (fC d)) e :=
  PE.weak h fun σ H Q ⟨G, M, ρ, QD, ED, h, _, q, kq, _⟩ => kq v H G M d (Tr.refl ..) h (r G) q
theorem dp_int {i : Int} {j pos} : DE X T W (pur (fC (.int i))) (.Constant (.int i) j pos) := dp_c pe_int fun _ => .int i
theorem dp_bl {b : Bool} {j pos} : DE X T W (pur (fC (.bl b))) (.Constant (.bool b) j pos) := dp_c pe_bl fun _ => .bl b
theorem dp_non {j pos} : DE X T W (pur (fC .non)) (.Constant .none j pos) := dp_c pe_non fun _ => .non
theorem dp_str {x : Str} {j pos} : DE X T W (pur (fC (.str x))) (.Constant (.str x) j pos) := dp_c pe_str fun _ => .str x
/-- a module's int -/
theorem dp_gint {x : Str} {i : Int} {pos : Pos} (hm : ∃ t, X.mg x = some (.int i t)) (hg : Gl X x := by rfl) (hd : (x == ("__debug__" : Str)) = false := by decide) : DE X T W (pur (fC (.int i))) (.Name x pos) :=
  let ⟨t, hm⟩ := hm; dp_c (pe_glob hg hm (show RelV (.int i) (.int i t) from ⟨t, rfl⟩) hd) fun _ => .int i
/-- a module's class, def -/
theorem dp_gref {x : Str} {a : Addr} {pos : Pos} (hm : X.mg x = some (.ref a)) (hg : Gl X x := by rfl) (hd : (x == ("__debug__" : Str)) = false := by decide) : DE X T W (pur (fC (.ref a))) (.Name x pos) :=
  dp_c (pe_glob hg hm (show RelV (.ref a) (.ref a) from rfl) hd) fun _ => .ref a
theorem dp_gty {x : Str} {n : String} {pos : Pos} (hm : X.mg x = none) (hv : bootBuiltins x = some (.type n)) (hg : Gl X x := by rfl) (hn : x ≠ "__name__" := by decide) (hd : (x == ("__debug__" : Str)) = false := by decide) : DE X T W (pur (fC (.ty n))) (.Name x pos) :=
  dp_c (pe_bltn hg hm hv (show RelV (.ty n) (.type n) from rfl) hn hd) fun _ => .ty n

/-! ### operations on two values -/
def cO (K : PySem.W.Frag) (T : List (Addr × Str)) (o : Dat → Dat → Option Dat) : R2 := fun x y H Q => ∃ (G : Hp) (M : DM) (dx dy z : Dat), Hld K T H G M ∧ Rep K G x dx ∧ Rep K G y dy ∧ o dx dy = some z ∧
  ∀ v H' G', Tr H G M H' G' M → Hld K T H' G' M → Rep K G' v z → Q v H'
abbrev OD (X : Cx) (T : List (Addr × Str)) (f : Value → Value → Sem Value) (o : Dat → Dat → Option Dat) : Prop := OpR X f (cO X.K T o)
def dOp2 (o : Dat → Dat → Option Dat) (da db : DTE) : DTE := fun ρ M Q E => da ρ M (fun x M1 => db ρ M1 (fun y M2 => (R.of (o x y)).wp (fun z => Q z M2) (fun c => E c M2)) E) E
def fOp2 (o : Dat → Dat → Option Dat) (f g : FE) : FE := fun ρ => do let x ← f ρ; let y ← g ρ; R.of (o x y)
theorem dOp2_pur (o : Dat → Dat → Option Dat) (f g : FE) : dOp2 o (pur f) (pur g) = pur (fOp2 o f g) := by
  funext ρ M Q E; simp only [dOp2, pur, fOp2, R.wp_bind]
variable {a b c : Expr} {da db dc : DTE} {fa fb fc : FE} {pos : Pos} {o o' : Dat → Dat → Option Dat}
theorem op2_imp {σ : St} {H : Hp} {Q : VK} (h : cE X.K T W (dOp2 o da db) σ H Q) : tOp (cO X.K T o) (cE X.K T W da) (cE X.K T W db) σ H Q := by
  obtain ⟨G, M, ρ, QD, ED, h, r, hd, kq, ke⟩ := h
  refine cE_mk h r _ ED hd (fun x H1 G1 M1 dx t1 h1 r1 q1 => ?_) ke
  refine cE_mk h1 (r.mono t1.g) _ ED q1 (fun y H2 G2 M2 dy t2 h2 r2 q2 => ?_) fun c dd H' G' M' t => ke c dd H' G' M' (t1.trans t)
  cases e : o dx dy with
  | none => rw [e] at q2; exact q2.elim
  | some z =>
    rw [e] at q2
    exact ⟨G2, M2, dx, dy, z, h2, r1.mono t2.g, r2, e, fun v H' G' t3 h3 r3 => kq v H' G' M2 z (t1.trans (t2.trans t3)) h3 r3 q2⟩
theorem de_op {op : Operator} (ho : OD X T (binaryOp op) o) (ha : DE X T W da a) (hb : DE X T W db b) : DE X T W (dOp2 o da db) (.BinOp a op b pos) :=
  PE.weak (pe_op ho ha hb) fun _ _ _ h => op2_imp h
theorem dp_op {op : Operator} (ho : OD X T (binaryOp op) o) (ha : DE X T W (pur fa) a) (hb : DE X T W (pur fb) b) : DE X T W (pur (fOp2 o fa fb)) (.BinOp a op b pos) := by
  rw [← dOp2_pur]; exact de_op ho ha hb
theorem de_cmp {op : CmpOp} (ho : OD X T (compareOp op) o) (ha : DE X T W da a) (hb : DE X T W db b) (hm : behindInMarks op b = false := by first | exact nomark _ | with_unfolding_all rfl) : DE X T W (dOp2 o da db) (.Compare a [op] [b] pos) :=
  PE.weak (pe_cmpR ho ha hb hm) fun _ _ _ h => op2_imp h
theorem dp_cmp {op : CmpOp} (ho : OD X T (compareOp op) o) (ha : DE X T W (pur fa) a) (hb : DE X T W (pur fb) b) (hm : behindInMarks op b = false := by first | exact nomark _ | with_unfolding_all rfl) : DE X T W (pur (fOp2 o fa fb)) (.Compare a [op] [b] pos) := by
  rw [← dOp2_pur]; exact de_cmp ho ha hb hm
/-- a op b op' c -/
def dCh (o o' : Dat → Dat → Option Dat) (da db dc : DTE) : DTE := fun ρ M Q E => da ρ M (fun x M1 => db ρ M1 (fun y M2 => (R.of (o x y)).wp (fun z => match z with
  | .bl true => dc ρ M2 (fun w M3 => (R.of (o' y w)).wp (fun z => Q z M3) (fun c => E c M3)) E
  | .bl false => Q (.bl false) M2
  | _ => False) (fun c => E c M2)) E) E
def fCh (o o' : Dat → Dat → Option Dat) (f g h : FE) : FE := fun ρ => do
  let x ← f ρ; let y ← g ρ
  match ← R.of (o x y) with
  | .bl true => do let w ← h ρ; R.of (o' y w)
  | .bl false => .ok (.bl false)
  | _ => .bad
theorem dCh_pur (o o' : Dat → Dat → Option Dat) (f g h : FE) : dCh o o' (pur f) (pur g) (pur h) = pur (fCh o o' f g h) := by
  funext ρ M Q E
  simp only [dCh, pur, fCh, R.wp_bind]
  congr 1; funext x; congr 1; funext y; congr 1; funext z
  split <;> simp only [R.wp_bind, R.wp_ok, R.wp_bad]
theorem ch_imp {σ : St} {H : Hp} {Q : VK} (h : cE X.K T W (dCh o o' da db dc) σ H Q) : tChain (cO X.K T o) (cO X.K T o') (cE X.K T W da) (cE X.K T W db) (cE X.K T W dc) σ H Q := by
  obtain ⟨G, M, ρ, QD, ED, h, r, hd, kq, ke⟩ := h
  refine cE_mk h r _ ED hd (fun x H1 G1 M1 dx t1 h1 r1 q1 => ?_) ke
  refine cE_mk h1 (r.mono t1.g) _ ED q1 (fun y H2 G2 M2 dy t2 h2 r2 q2 => ?_) fun c dd H' G' M' t => ke c dd H' G' M' (t1.trans t)
  cases e : o dx dy with
  | none => rw [e] at q2; exact q2.elim
  | some z =>
    rw [e] at q2
    refine ⟨G2, M2, dx, dy, z, h2, r1.mono t2.g, r2, e, fun v H3 G3 t3 h3 r3 => ?_⟩
    have t13 := t1.trans (t2.trans t3)
    simp only [R.of_some, R.wp_ok] at q2
    split at q2
    · cases r3
      refine ⟨true, rfl, ?_⟩
      rw [if_pos rfl]
      refine cE_mk h3 (r.mono t13.g) _ ED q2 (fun w' H4 G4 M4 dw t4 h4 r4 q4 => ?_) fun c dd H' G' M' t => ke c dd H' G' M' (t13.trans t)
      cases e' : o' dy dw with
      | none => rw [e'] at q4; exact q4.elim
      | some z' =>
        rw [e'] at q4
        exact ⟨G4, M4, dy, dw, z', h4, (r2.mono t3.g).mono t4.g, r4, e', fun v H' G' t5 h5 r5 => kq v H' G' M4 z' (t13.trans (t4.trans t5)) h5 r5 q4⟩
    · cases r3
      refine ⟨false, rfl, ?_⟩
      rw [if_neg Bool.false_ne_true]
      exact kq _ H3 G3 M2 _ t13 h3 (.bl false) q2
    · exact q2.elim
theorem de_ch {op op' : CmpOp} (ho : OD X T (compareOp op) o) (ho' : OD X T (compareOp op') o') (ha : DE X T W da a) (hb : DE X T W db b) (hc : DE X T W dc c) (hm : lastMarks [op, op'] [b, c] = false := by with_unfolding_all rfl) :
    DE X T W (dCh o o' da db dc) (.Compare a [op, op'] [b, c] pos) := PE.weak (pe_chain ho ho' ha hb hc hm) fun _ _ _ h => ch_imp h
theorem dp_ch {op op' : CmpOp} (ho : OD X T (compareOp op) o) (ho' : OD X T (compareOp op') o') (ha : DE X T W (pur fa) a) (hb : DE X T W (pur fb) b) (hc : DE X T W (pur fc) c) (hm : lastMarks [op, op'] [b, c] = false := by with_unfolding_all rfl) :
    DE X T W (pur (fCh o o' fa fb fc)) (.Compare a [op, op'] [b, c] pos) := by rw [← dCh_pur]; exact de_ch ho ho' ha hb hc hm

/-! ### operations on one value -/
def cU (K : PySem.W.Frag) (T : List (Addr × Str)) (o : Dat → Option Dat) : V → Hp → VK → Prop := fun x H Q => ∃ (G : Hp) (M : DM) (dx z : Dat), Hld K T H G M ∧ Rep K G x dx ∧ o dx = some z ∧
  ∀ v H' G', Tr H G M H' G' M → Hld K T H' G' M → Rep K G' v z → Q v H'
def dOp1 (o : Dat → Option Dat) (da : DTE) : DTE := fun ρ M Q E => da ρ M (fun x M1 => (R.of (o x)).wp (fun z => Q z M1) (fun c => E c M1)) E
def fOp1 (o : Dat → Option Dat) (f : FE) : FE := fun ρ => do let x ← f ρ; R.of (o x)
theorem dOp1_pur (o : Dat → Option Dat) (f : FE) : dOp1 o (pur f) = pur (fOp1 o f) := by
  funext ρ M Q E; simp only [dOp1, pur, fOp1, R.wp_bind]
variable {u u' : Dat → Option Dat}
theorem op1_imp {σ : St} {H : Hp} {Q : VK} (h : cE X.K T W (dOp1 u da) σ H Q) : tUn (cU X.K T u) (cE X.K T W da) σ H Q := by
  obtain ⟨G, M, ρ, QD, ED, h, r, hd, kq, ke⟩ := h
  refine cE_mk h r _ ED hd (fun x H1 G1 M1 dx t1 h1 r1 q1 => ?_) ke
  cases e : u dx with
  | none => rw [e] at q1; exact q1.elim
  | some z =>
    rw [e] at q1
    exact ⟨G1, M1, dx, z, h1, r1, e, fun v H' G' t3 h3 r3 => kq v H' G' M1 z (t1.trans t3) h3 r3 q1⟩
theorem de_un {op : UnaryOp} (ho : UnR X (unaryOp op) (cU X.K T u)) (ha : DE X T W da a) : DE X T W (dOp1 u da) (.UnaryOp op a pos) :=
  PE.weak (pe_un ho ha) fun _ _ _ h => op1_imp h
theorem dp_un {op : UnaryOp} (ho : UnR X (unaryOp op) (cU X.K T u)) (ha : DE X T W (pur fa) a) : DE X T W (pur (fOp1 u fa)) (.UnaryOp op a pos) := by
  rw [← dOp1_pur]; exact de_un ho ha

/-! ### tests -/
def oTru : Dat → Option Bool
  | .non => some false
  | .bl b => some b
  | .int i => some (i != 0)
  | .lst xs => some (!xs.isEmpty)
  | .tup xs => some (!xs.isEmpty)
  | _ => none
theorem oTru_ok {K : PySem.W.Frag} {G H : Hp} (s : Sub G H) {x : V} {d : Dat} {k : Bool} (r : Rep K G x d) (e : oTru d = some k) : TruV K x H k := by
  cases r with
  | non => cases e; rfl
  | bl b => cases e; rfl
  | int i => cases e; rfl
  | str x => cases e
  | ty n => cases e
  | ref a => cases e
  | tup h _ l =>
    cases e
    refine .inr (.inl ⟨_, sqT_mono s h, ?_⟩)
    cases l <;> rfl
  | lst h _ l =>
    cases e
    refine .inl ⟨_, sqL_mono s h, ?_⟩
    cases l <;> rfl
def dTest (d : DTE) : DTT := fun ρ M Q E => d ρ M (fun x M' => match x with
  | .bl b => Q b M'
  | _ => False) E
def fTest (f : FE) : FT := fun ρ => do
  match ← f ρ with
  | .bl b => .ok b
  | _ => .bad
theorem dTest_pur (f : FE) : dTest (pur f) = purT (fTest f) := by
  funext ρ M Q E
  simp only [dTest, pur, purT, fTest, R.wp_bind]
  congr 1; funext x
  cases x <;> rfl
def dTru (d : DTE) : DTT := fun ρ M Q E => d ρ M (fun x M' => (R.of (oTru x)).wp (fun b => Q b M') (fun c => E c M')) E
def fTru (f : FE) : FT := fun ρ => do let x ← f ρ; R.of (oTru x)
theorem dTru_pur (f : FE) : dTru (pur f) = purT (fTru f) := by
  funext ρ M Q E; simp only [dTru, pur, purT, fTru, R.wp_bind]
theorem test_imp {t : TE} (i : ∀ σ H Q, cE X.K T W da σ H Q → t σ H Q) {σ : St} {H : Hp} {Q : Bool → Hp → Prop} (h : cT X.K T W (dTest da) σ H Q) : tTest t σ H Q := by
  obtain ⟨G, M, ρ, QD, ED, h, r, hd, kq, ke⟩ := h
  refine i σ H _ (cE_mk h r _ ED hd (fun x H1 G1 M1 dx t1 h1 r1 q1 => ?_) ke)
  cases r1 with
  | bl b => exact ⟨b, rfl, kq b H1 G1 M1 t1 h1 q1⟩
  | _ => exact q1.elim
theorem dt_cmp {op : CmpOp} (ho : OD X T (compareOp op) o) (ha : DE X T W da a) (hb : DE X T W db b) (hm : behindInMarks op b = false := by first | exact nomark _ | with_unfolding_all rfl) : DT X T W (dTest (dOp2 o da db)) (.Compare a [op] [b] pos) :=
  PT.weak (pt_cmpR ho ha hb hm) fun _ _ _ h => test_imp (fun _ _ _ h => op2_imp h) h
theorem dpt_cmp {op : CmpOp} (ho : OD X T (compareOp op) o) (ha : DE X T W (pur fa) a) (hb : DE X T W (pur fb) b) (hm : behindInMarks op b = false := by first | exact nomark _ | with_unfolding_all rfl) : DT X T W (purT (fTest (fOp2 o fa fb))) (.Compare a [op] [b] pos) := by
  rw [← dTest_pur, ← dOp2_pur]; exact dt_cmp ho ha hb hm
theorem dt_ch {op op' : CmpOp} (ho : OD X T (compareOp op) o) (ho' : OD X T (compareOp op') o') (ha : DE X T W da a) (hb : DE X T W db b) (hc : DE X T W dc c) (hm : lastMarks [op, op'] [b, c] = false := by with_unfolding_all rfl) :
    DT X T W (dTest (dCh o o' da db dc)) (.Compare a [op, op'] [b, c] pos) := PT.weak (pt_chain ho ho' ha hb hc hm) fun _ _ _ h => test_imp (fun _ _ _ h => ch_imp h) h
theorem dpt_ch {op op' : CmpOp} (ho : OD X T (compareOp op) o) (ho' : OD X T (compareOp op') o') (ha : DE X T W (pur fa) a) (hb : DE X T W (pur fb) b) (hc : DE X T W (pur fc) c) (hm : lastMarks [op, op'] [b, c] = false := by with_unfolding_all rfl) :
    DT X T W (purT (fTest (fCh o o' fa fb fc))) (.Compare a [op, op'] [b, c] pos) := by rw [← dTest_pur, ← dCh_pur]; exact dt_ch ho ho' ha hb hc hm
theorem dt_tru (ha : DE X T W da a) (he : ∀ whole, isTrue a X.env whole = (do let v ← whole; standAt a.pos; holding [v] (truthy v)) := by intro _; rfl) : DT X T W (dTru da) a := by
  refine PT.weak (pt_truth ha he) fun σ H Q ⟨G, M, ρ, QD, ED, h, r, hd, kq, ke⟩ => ?_
  refine cE_mk h r _ ED hd (fun x H1 G1 M1 dx t1 h1 r1 q1 => ?_) ke
  cases e : oTru dx with
  | none => rw [e] at q1; exact q1.elim
  | some k =>
    rw [e] at q1
    exact ⟨k, oTru_ok h1.sub r1 e, kq k H1 G1 M1 t1 h1 q1⟩
theorem dpt_tru (ha : DE X T W (pur fa) a) (he : ∀ whole, isTrue a X.env whole = (do let v ← whole; standAt a.pos; holding [v] (truthy v)) := by intro _; rfl) : DT X T W (purT (fTru fa)) a := by
  rw [← dTru_pur]; exact dt_tru ha he

variable {ta tb tc : DTT} {ga gb gc : FT} {rest : List Expr}
def dAnd (t u : DTT) : DTT := fun ρ M Q E => t ρ M (fun c M1 => if c = true then u ρ M1 Q E else Q false M1) E
def dOr (t u : DTT) : DTT := fun ρ M Q E => t ρ M (fun c M1 => if c = true then Q true M1 else u ρ M1 Q E) E
def dNot (t : DTT) : DTT := fun ρ M Q E => t ρ M (fun c M1 => Q (!c) M1) E
def fAnd (f g : FT) : FT := fun ρ => do if (← f ρ) = true then g ρ else .ok false
def fOr (f g : FT) : FT := fun ρ => do if (← f ρ) = true then .ok true else g ρ
def fNot (f : FT) : FT := fun ρ => do let c ← f ρ; .ok (!c)
theorem R.wp_ite {α : Type} {c : Prop} [Decidable c] (x y : R α) (Q : α → Prop) (E : Value → Prop) : (if c then x else y).wp Q E = if c then x.wp Q E else y.wp Q E := by split <;> rfl
theorem dAnd_pur (f g : FT) : dAnd (purT f) (purT g) = purT (fAnd f g) := by
  funext ρ M Q E; simp only [dAnd, purT, fAnd, R.wp_bind, R.wp_ite, R.wp_ok]
theorem dOr_pur (f g : FT) : dOr (purT f) (purT g) = purT (fOr f g) := by
  funext ρ M Q E; simp only [dOr, purT, fOr, R.wp_bind, R.wp_ite, R.wp_ok]
theorem dNot_pur (f : FT) : dNot (purT f) = purT (fNot f) := by
  funext ρ M Q E; simp only [dNot, purT, fNot, R.wp_bind, R.wp_ok]
theorem cT_mk {σ : St} {H G : Hp} {M : DM} {ρ : DSt} {Q : Bool → Hp → Prop} {K : PySem.W.Frag} {d : DTT} (h : Hld K T H G M) (r : RS K G σ ρ) (QD : Bool → DM → Prop) (ED : DX) (hd : d ρ M QD ED)
    (kq : ∀ b H' G' M', Tr H G M H' G' M' → Hld K T H' G' M' → QD b M' → Q b H')
    (ke : ∀ c dd H' G' M', Tr H G M H' G' M' → Hld K T H' G' M' → ED c M' → Dd K c dd → W c dd σ H') : cT K T W d σ H Q := ⟨G, M, ρ, QD, ED, h, r, hd, kq, ke⟩
theorem and_imp {σ : St} {H : Hp} {Q : Bool → Hp → Prop} (h : cT X.K T W (dAnd ta tb) σ H Q) : tAnd (cT X.K T W ta) (cT X.K T W tb) σ H Q := by
  obtain ⟨G, M, ρ, QD, ED, h, r, hd, kq, ke⟩ := h
  refine cT_mk h r _ ED hd (fun c H1 G1 M1 t1 h1 q1 => ?_) ke
  cases c with
  | true => exact cT_mk h1 (r.mono t1.g) QD ED q1 (fun b H' G' M' t => kq b H' G' M' (t1.trans t)) fun c dd H' G' M' t => ke c dd H' G' M' (t1.trans t)
  | false => exact kq false H1 G1 M1 t1 h1 q1
theorem or_imp {σ : St} {H : Hp} {Q : Bool → Hp → Prop} (h : cT X.K T W (dOr ta tb) σ H Q) : tOr (cT X.K T W ta) (cT X.K T W tb) σ H Q := by
  obtain ⟨G, M, ρ, QD, ED, h, r, hd, kq, ke⟩ := h
  refine cT_mk h r _ ED hd (fun c H1 G1 M1 t1 h1 q1 => ?_) ke
  cases c with
  | true => exact kq true H1 G1 M1 t1 h1 q1
  | false => exact cT_mk h1 (r.mono t1.g) QD ED q1 (fun b H' G' M' t => kq b H' G' M' (t1.trans t)) fun c dd H' G' M' t => ke c dd H' G' M' (t1.trans t)
theorem dw_and1 (ha : DT X T W ta a) : DW X T W ta (.BoolOp .And [a] pos) := pw_and1 ha
theorem dw_or1 (ha : DT X T W ta a) : DW X T W ta (.BoolOp .Or [a] pos) := pw_or1 ha
theorem dw_and (ha : DT X T W ta a) (hb : DW X T W tb (.BoolOp .And (b :: rest) pos)) : DW X T W (dAnd ta tb) (.BoolOp .And (a :: b :: rest) pos) := PW.weak (pw_and ha hb) fun _ _ _ h => and_imp h
theorem dw_or (ha : DT X T W ta a) (hb : DW X T W tb (.BoolOp .Or (b :: rest) pos)) : DW X T W (dOr ta tb) (.BoolOp .Or (a :: b :: rest) pos) := PW.weak (pw_or ha hb) fun _ _ _ h => or_imp h
theorem dpw_and (ha : DT X T W (purT ga) a) (hb : DW X T W (purT gb) (.BoolOp .And (b :: rest) pos)) : DW X T W (purT (fAnd ga gb)) (.BoolOp .And (a :: b :: rest) pos) := by rw [← dAnd_pur]; exact dw_and ha hb
theorem dpw_or (ha : DT X T W (purT ga) a) (hb : DW X T W (purT gb) (.BoolOp .Or (b :: rest) pos)) : DW X T W (purT (fOr ga gb)) (.BoolOp .Or (a :: b :: rest) pos) := by rw [← dOr_pur]; exact dw_or ha hb
theorem dt_of (h : DW X T W ta a) : DT X T W ta a := PW.pt h
theorem dt_not (ha : DT X T W ta a) : DT X T W (dNot ta) (.UnaryOp .Not a pos) :=
  PT.weak (pt_not ha) fun _ _ _ ⟨G, M, ρ, QD, ED, h, r, hd, kq, ke⟩ => ⟨G, M, ρ, _, ED, h, r, hd, fun b H' G' M' t h' q => kq (!b) H' G' M' t h' q, ke⟩
theorem dpt_not (ha : DT X T W (purT ga) a) : DT X T W (purT (fNot ga)) (.UnaryOp .Not a pos) := by rw [← dNot_pur]; exact dt_not ha
/-! ### and, or of bools as values; not -/
def dAndV (da db : DTE) : DTE := fun ρ M Q E => da ρ M (fun x M1 => match x with
  | .bl true => db ρ M1 Q E
  | .bl false => Q (.bl false) M1
  | _ => False) E
def fAndV (f g : FE) : FE := fun ρ => do
  match ← f ρ with
  | .bl true => g ρ
  | .bl false => .ok (.bl false)
  | _ => .bad
def dOrV (da db : DTE) : DTE := fun ρ M Q E => da ρ M (fun x M1 => match x with
  | .bl true => Q (.bl true) M1
  | .bl false => db ρ M1 Q E
  | _ => False) E
def fOrV (f g : FE) : FE := fun ρ => do
  match ← f ρ with
  | .bl true => .ok (.bl true)
  | .bl false => g ρ
  | _ => .bad
theorem dAndV_pur (f g : FE) : dAndV (pur f) (pur g) = pur (fAndV f g) := by
  funext ρ M Q E
  simp only [dAndV, pur, fAndV, R.wp_bind]
  congr 1; funext x
  split <;> rfl
theorem dOrV_pur (f g : FE) : dOrV (pur f) (pur g) = pur (fOrV f g) := by
  funext ρ M Q E
  simp only [dOrV, pur, fOrV, R.wp_bind]
  congr 1; funext x
  split <;> rfl
theorem de_and (ha : DE X T W da a) (hb : DE X T W db (.BoolOp .And (b :: rest) pos)) : DE X T W (dAndV da db) (.BoolOp .And (a :: b :: rest) pos) := by
  refine PE.weak (pe_and ha hb) fun σ H Q ⟨G, M, ρ, QD, ED, h, r, hd, kq, ke⟩ => ?_
  refine cE_mk h r _ ED hd (fun x H1 G1 M1 dx t1 h1 r1 q1 => ?_) ke
  cases r1 with
  | bl k =>
    refine ⟨k, rfl, ?_⟩
    cases k with
    | true => exact cE_mk h1 (r.mono t1.g) QD ED q1 (fun b H' G' M' x t => kq b H' G' M' x (t1.trans t)) fun c dd H' G' M' t => ke c dd H' G' M' (t1.trans t)
    | false => exact kq _ H1 G1 M1 _ t1 h1 (.bl false) q1
  | _ => exact q1.elim
theorem de_or (ha : DE X T W da a) (hb : DE X T W db (.BoolOp .Or (b :: rest) pos)) : DE X T W (dOrV da db) (.BoolOp .Or (a :: b :: rest) pos) := by
  refine PE.weak (pe_or ha hb) fun σ H Q ⟨G, M, ρ, QD, ED, h, r, hd, kq, ke⟩ => ?_
  refine cE_mk h r _ ED hd (fun x H1 G1 M1 dx t1 h1 r1 q1 => ?_) ke
  cases r1 with
  | bl k =>
    refine ⟨k, rfl, ?_⟩
    cases k with
    | false => exact cE_mk h1 (r.mono t1.g) QD ED q1 (fun b H' G' M' x t => kq b H' G' M' x (t1.trans t)) fun c dd H' G' M' t => ke c dd H' G' M' (t1.trans t)
    | true => exact kq _ H1 G1 M1 _ t1 h1 (.bl true) q1
  | _ => exact q1.elim
theorem de_one {op} (h : DE X T W da a) : DE X T W da (.BoolOp op [a] pos) := pe_one h
theorem dp_and (ha : DE X T W (pur fa) a) (hb : DE X T W (pur fb) (.BoolOp .And (b :: rest) pos)) : DE X T W (pur (fAndV fa fb)) (.BoolOp .And (a :: b :: rest) pos) := by rw [← dAndV_pur]; exact de_and ha hb
theorem dp_or (ha : DE X T W (pur fa) a) (hb : DE X T W (pur fb) (.BoolOp .Or (b :: rest) pos)) : DE X T W (pur (fOrV fa fb)) (.BoolOp .Or (a :: b :: rest) pos) := by rw [← dOrV_pur]; exact de_or ha hb
/-! ### a if t else b -/
def dIf (t : DTT) (da db : DTE) : DTE := fun ρ M Q E => t ρ M (fun c M1 => if c = true then da ρ M1 Q E else db ρ M1 Q E) E
def fIf (t : FT) (f g : FE) : FE := fun ρ => do if (← t ρ) = true then f ρ else g ρ
theorem dIf_pur (t : FT) (f g : FE) : dIf (purT t) (pur f) (pur g) = pur (fIf t f g) := by
  funext ρ M Q E; simp only [dIf, purT, pur, fIf, R.wp_bind, R.wp_ite]
theorem de_if (ht : DT X T W tc c) (ha : DE X T W da a) (hb : DE X T W db b) : DE X T W (dIf tc da db) (.IfExp c a b pos) := by
  refine PE.weak (pe_ifExp ht ha hb) fun σ H Q ⟨G, M, ρ, QD, ED, h, r, hd, kq, ke⟩ => ?_
  refine cT_mk h r _ ED hd (fun c H1 G1 M1 t1 h1 q1 => ?_) ke
  cases c with
  | true => exact cE_mk h1 (r.mono t1.g) QD ED q1 (fun b H' G' M' x t => kq b H' G' M' x (t1.trans t)) fun c dd H' G' M' t => ke c dd H' G' M' (t1.trans t)
  | false => exact cE_mk h1 (r.mono t1.g) QD ED q1 (fun b H' G' M' x t => kq b H' G' M' x (t1.trans t)) fun c dd H' G' M' t => ke c dd H' G' M' (t1.trans t)
theorem dp_if (ht : DT X T W (purT gc) c) (ha : DE X T W (pur fa) a) (hb : DE X T W (pur fb) b) : DE X T W (pur (fIf gc fa fb)) (.IfExp c a b pos) := by rw [← dIf_pur]; exact de_if ht ha hb

/-! ### argument lists, displays -/
variable {es : List Expr} {dl : DTA} {fl : FA}
def dNil : DTA := fun _ M Q _ => Q [] M
def dCons (d : DTE) (l : DTA) : DTA := fun ρ M Q E => d ρ M (fun x M1 => l ρ M1 (fun xs M2 => Q (x :: xs) M2) E) E
def fNil : FA := fun _ => .ok []
def fCons (f : FE) (l : FA) : FA := fun ρ => do let x ← f ρ; let xs ← l ρ; .ok (x :: xs)
theorem dNil_pur : dNil = purA fNil := rfl
theorem dCons_pur (f : FE) (l : FA) : dCons (pur f) (purA l) = purA (fCons f l) := by
  funext ρ M Q E; simp only [dCons, pur, purA, fCons, R.wp_bind, R.wp_ok]
theorem cA_mk {σ : St} {H G : Hp} {M : DM} {ρ : DSt} {Q : List V → Hp → Prop} {K : PySem.W.Frag} {d : DTA} (h : Hld K T H G M) (r : RS K G σ ρ) (QD : List Dat → DM → Prop) (ED : DX) (hd : d ρ M QD ED)
    (kq : ∀ vs H' G' M' xs, Tr H G M H' G' M' → Hld K T H' G' M' → RepL K G' vs xs → QD xs M' → Q vs H')
    (ke : ∀ c dd H' G' M', Tr H G M H' G' M' → Hld K T H' G' M' → ED c M' → Dd K c dd → W c dd σ H') : cA K T W d σ H Q := ⟨G, M, ρ, QD, ED, h, r, hd, kq, ke⟩
theorem da_nil : DA X T W (purA fNil) [] :=
  PA.weak pa_nil fun σ H Q ⟨G, M, ρ, QD, ED, h, r, q, kq, ke⟩ => kq [] H G M [] (Tr.refl ..) h .nil q
theorem da_cons (ha : DE X T W da a) (hl : DA X T W dl es) (hs : starEach (a :: es) X.env = (false, eval a X.env) :: starEach es X.env := by rfl) : DA X T W (dCons da dl) (a :: es) := by
  refine PA.weak (pa_cons ha hl hs) fun σ H Q ⟨G, M, ρ, QD, ED, h, r, hd, kq, ke⟩ => ?_
  refine cE_mk h r _ ED hd (fun x H1 G1 M1 dx t1 h1 r1 q1 => ?_) ke
  exact cA_mk h1 (r.mono t1.g) _ ED q1 (fun vs H2 G2 M2 xs t2 h2 r2 q2 => kq _ H2 G2 M2 _ (t1.trans t2) h2 (.cons (r1.mono t2.g) r2) q2) fun c dd H' G' M' t => ke c dd H' G' M' (t1.trans t)
theorem dap_cons (ha : DE X T W (pur fa) a) (hl : DA X T W (purA fl) es) (hs : starEach (a :: es) X.env = (false, eval a X.env) :: starEach es X.env := by rfl) : DA X T W (purA (fCons fa fl)) (a :: es) := by
  rw [← dCons_pur]; exact da_cons ha hl hs
theorem Hld.newT {K : PySem.W.Frag} {H G : Hp} {M : DM} (h : Hld K T H G M) {p : Addr} {vs : List V} {ds : List Dat} (n : H p = none) (l : ds.length ≤ sizeLine) (r : RepL K G vs ds) :
    ∃ G', Tr H G M (upd H p (.tup vs)) G' M ∧ Hld K T (upd H p (.tup vs)) G' M ∧ Rep K G' (.ref p) (.tup ds) := by
  obtain ⟨a, b⟩ := h.laid (o := .tup vs) n (fun ps q => nomatch q)
  exact ⟨_, b, a, .tup (.inl upd_same) l (r.mono b.g)⟩
theorem Hld.newL {K : PySem.W.Frag} {H G : Hp} {M : DM} (h : Hld K T H G M) {p : Addr} {vs : List V} {ds : List Dat} (n : H p = none) (l : ds.length ≤ sizeLine) (r : RepL K G vs ds) :
    ∃ G', Tr H G M (upd H p (.lst vs)) G' M ∧ Hld K T (upd H p (.lst vs)) G' M ∧ Rep K G' (.ref p) (.lst ds) := by
  obtain ⟨a, b⟩ := h.laid (o := .lst vs) n (fun ps q => nomatch q)
  exact ⟨_, b, a, .lst (.inl upd_same) l (r.mono b.g)⟩
def dTup (l : DTA) : DTE := fun ρ M Q E => l ρ M (fun xs M1 => xs.length ≤ sizeLine ∧ Q (.tup xs) M1) E
def dLst (l : DTA) : DTE := fun ρ M Q E => l ρ M (fun xs M1 => xs.length ≤ sizeLine ∧ Q (.lst xs) M1) E
def fTup (l : FA) : FE := fun ρ => do let xs ← l ρ; if xs.length ≤ sizeLine then .ok (.tup xs) else .bad
def fLst (l : FA) : FE := fun ρ => do let xs ← l ρ; if xs.length ≤ sizeLine then .ok (.lst xs) else .bad
theorem ite_and {c p : Prop} [Decidable c] : (if c then p else False) = (c ∧ p) := by by_cases h : c <;> simp [h]
theorem dTup_pur (l : FA) : dTup (purA l) = pur (fTup l) := by
  funext ρ M Q E; simp only [dTup, pur, purA, fTup, R.wp_bind, R.wp_ite, R.wp_ok, R.wp_bad, ite_and]
theorem dLst_pur (l : FA) : dLst (purA l) = pur (fLst l) := by
  funext ρ M Q E; simp only [dLst, pur, purA, fLst, R.wp_bind, R.wp_ite, R.wp_ok, R.wp_bad, ite_and]
theorem de_tup {x1} (hl : DA X T W dl es) : DE X T W (dTup dl) (.Tuple es x1 pos) := by
  refine PE.weak (pe_tup hl) fun σ H Q ⟨G, M, ρ, QD, ED, h, r, hd, kq, ke⟩ => ?_
  refine cA_mk h r _ ED hd (fun vs H1 G1 M1 xs t1 h1 r1 q1 => ⟨by rw [r1.length]; exact q1.1, fun p hp => ?_⟩) ke
  obtain ⟨G', t2, h2, r2⟩ := h1.newT hp q1.1 r1
  exact kq _ _ G' M1 _ (t1.trans t2) h2 r2 q1.2
theorem de_lst (hl : DA X T W dl es) : DE X T W (dLst dl) (.List es pos) := by
  refine PE.weak (pe_lst hl) fun σ H Q ⟨G, M, ρ, QD, ED, h, r, hd, kq, ke⟩ => ?_
  refine cA_mk h r _ ED hd (fun vs H1 G1 M1 xs t1 h1 r1 q1 => ⟨by rw [r1.length]; exact q1.1, fun p hp => ?_⟩) ke
  obtain ⟨G', t2, h2, r2⟩ := h1.newL hp q1.1 r1
  exact kq _ _ G' M1 _ (t1.trans t2) h2 r2 q1.2
theorem dp_tup {x1} (hl : DA X T W (purA fl) es) : DE X T W (pur (fTup fl)) (.Tuple es x1 pos) := by rw [← dTup_pur]; exact de_tup hl
theorem dp_lst (hl : DA X T W (purA fl) es) : DE X T W (pur (fLst fl)) (.List es pos) := by rw [← dLst_pur]; exact de_lst hl
/-- a list that may change -/
def dLstM (l : DTA) : DTE := fun ρ M Q E => l ρ M (fun xs M1 => xs.length ≤ sizeLine ∧ ∀ p, M1 p = none → Q (.ref p) (dupd M1 p (.lst xs))) E
theorem de_lstM (hl : DA X T W dl es) : DE X T W (dLstM dl) (.List es pos) := by
  refine PE.weak (pe_lst hl) fun σ H Q ⟨G, M, ρ, QD, ED, h, r, hd, kq, ke⟩ => ?_
  refine cA_mk h r _ ED hd (fun vs H1 G1 M1 xs t1 h1 r1 q1 => ⟨by rw [r1.length]; exact q1.1, fun p hp => ?_⟩) ke
  obtain ⟨h2, t2⟩ := h1.newM hp q1.1 r1
  exact kq _ _ G1 _ _ (t1.trans t2) h2 (.ref p) (q1.2 p (h1.free hp).2)

/-! ### calls of values by values -/
def cC (K : PySem.W.Frag) (T : List (Addr × Str)) (o : List Dat → Option Dat) : List V → Hp → VK → Prop := fun vs H Q => ∃ (G : Hp) (M : DM) (ds : List Dat) (z : Dat), Hld K T H G M ∧ RepL K G vs ds ∧ o ds = some z ∧
  ∀ v H' G', Tr H G M H' G' M → Hld K T H' G' M → Rep K G' v z → Q v H'
abbrev CD (X : Cx) (T : List (Addr × Str)) (f : Value) (o : List Dat → Option Dat) : Prop := CallR X f (cC X.K T o)
def dCB (o : List Dat → Option Dat) (l : DTA) : DTE := fun ρ M Q E => l ρ M (fun xs M1 => (R.of (o xs)).wp (fun z => Q z M1) (fun c => E c M1)) E
def fCB (o : List Dat → Option Dat) (l : FA) : FE := fun ρ => do let xs ← l ρ; R.of (o xs)
theorem dCB_pur (o : List Dat → Option Dat) (l : FA) : dCB o (purA l) = pur (fCB o l) := by
  funext ρ M Q E; simp only [dCB, pur, purA, fCB, R.wp_bind]
variable {w : List Dat → Option Dat}
theorem cb_imp {σ : St} {H : Hp} {Q : VK} (h : cE X.K T W (dCB w dl) σ H Q) : tCB (cC X.K T w) (cA X.K T W dl) σ H Q := by
  obtain ⟨G, M, ρ, QD, ED, h, r, hd, kq, ke⟩ := h
  refine cA_mk h r _ ED hd (fun vs H1 G1 M1 xs t1 h1 r1 q1 => ?_) ke
  cases e : w xs with
  | none => rw [e] at q1; exact q1.elim
  | some z =>
    rw [e] at q1
    exact ⟨G1, M1, xs, z, h1, r1, e, fun v H' G' t3 h3 r3 => kq v H' G' M1 z (t1.trans t3) h3 r3 q1⟩
theorem de_callB {id : String} {x : Str} {e : Expr} {p : Pos} (hc : CD X T (.builtin id) w) (hm : X.mg x = none) (ha : DA X T W dl (e :: es)) (hv : bootBuiltins x = some (.builtin id) := by decide +kernel) (hg : Gl X x := by rfl)
    (hn : x ≠ "__name__" := by decide) (hdb : (x == ("__debug__" : Str)) = false := by decide)
    (hs : starEach (e :: es) X.env = (false, eval e X.env) :: starEach es X.env := by rfl) (hpl : (backTo pos (starEach es X.env)).any (·.1) = false := by rfl) : DE X T W (dCB w dl) (.Call (.Name x p) (e :: es) [] pos) :=
  PE.weak (pe_callB hc hg hm hv ha hn hdb hs hpl) fun _ _ _ h => cb_imp h
theorem dp_callB {id : String} {x : Str} {e : Expr} {p : Pos} (hc : CD X T (.builtin id) w) (hm : X.mg x = none) (ha : DA X T W (purA fl) (e :: es)) (hv : bootBuiltins x = some (.builtin id) := by decide +kernel) (hg : Gl X x := by rfl)
    (hn : x ≠ "__name__" := by decide) (hdb : (x == ("__debug__" : Str)) = false := by decide)
    (hs : starEach (e :: es) X.env = (false, eval e X.env) :: starEach es X.env := by rfl) (hpl : (backTo pos (starEach es X.env)).any (·.1) = false := by rfl) : DE X T W (pur (fCB w fl)) (.Call (.Name x p) (e :: es) [] pos) := by
  rw [← dCB_pur]; exact de_callB hc hm ha hv hg hn hdb hs hpl
theorem de_callTy {Ty : String} {x : Str} {e : Expr} {p : Pos} (hc : CD X T (.type Ty) w) (hm : X.mg x = none) (ha : DA X T W dl (e :: es)) (hv : bootBuiltins x = some (.type Ty) := by decide +kernel) (hg : Gl X x := by rfl)
    (hn : x ≠ "__name__" := by decide) (hdb : (x == ("__debug__" : Str)) = false := by decide)
    (hs : starEach (e :: es) X.env = (false, eval e X.env) :: starEach es X.env := by rfl) (hpl : (backTo pos (starEach es X.env)).any (·.1) = false := by rfl) : DE X T W (dCB w dl) (.Call (.Name x p) (e :: es) [] pos) :=
  PE.weak (pe_callTy hc hg hm hv ha hn hdb hs hpl) fun _ _ _ h => cb_imp h
theorem dp_callTy {Ty : String} {x : Str} {e : Expr} {p : Pos} (hc : CD X T (.type Ty) w) (hm : X.mg x = none) (ha : DA X T W (purA fl) (e :: es)) (hv : bootBuiltins x = some (.type Ty) := by decide +kernel) (hg : Gl X x := by rfl)
    (hn : x ≠ "__name__" := by decide) (hdb : (x == ("__debug__" : Str)) = false := by decide)
    (hs : starEach (e :: es) X.env = (false, eval e X.env) :: starEach es X.env := by rfl) (hpl : (backTo pos (starEach es X.env)).any (·.1) = false := by rfl) : DE X T W (pur (fCB w fl)) (.Call (.Name x p) (e :: es) [] pos) := by
  rw [← dCB_pur]; exact de_callTy hc hm ha hv hg hn hdb hs hpl
end
end DL

end
section
set_option Elab.async false
set_option linter.all false
set_option maxRecDepth 100000
set_option maxHeartbeats 4000000
/-! DL, part 3: operations on values. -/
namespace DL
open PySem PySem.Spec PyProof.Rows L2

/-! ### equality of data -/
mutual
def deq : Dat → Dat → Bool
  | .non, .non => true
  | .bl a, .bl b => a == b
  | .bl a, .int j => (if a then 1 else 0) == j
  | .int i, .bl b => i == (if b then 1 else 0)
  | .int i, .int j => i == j
  | .str x, .str y => x == y
  | .lst xs, .lst ys => deqL xs ys
  | .tup xs, .tup ys => deqL xs ys
  | _, _ => false
def deqL : List Dat → List Dat → Bool
  | [], [] => true
  | x :: xs, y :: ys => deq x y && deqL xs ys
  | _, _ => false
end
/-- plain data, at most n deep -/
def dok : Nat → Dat → Bool
  | _, .non => true
  | _, .bl _ => true
  | _, .int _ => true
  | _, .str x => PyData.strOk x
  | n + 1, .tup xs => xs.all (dok n)
  | n + 1, .lst xs => xs.all (dok n)
  | _, _ => false
mutual
def py : Dat → PyData
  | .non => .none
  | .bl b => .bool b
  | .int i => .int i
  | .str x => .str x
  | .tup xs => .tuple (pyL xs)
  | .lst xs => .list (pyL xs)
  | .ty _ => .none
  | .ref _ => .none
def pyL : List Dat → List PyData
  | [] => []
  | x :: xs => py x :: pyL xs
end
mutual
theorem dok_py : ∀ (n : Nat) (d : Dat), dok n d = true → (py d).canLay0 = true ∧ (py d).depth ≤ n
  | n, .non, _ => by cases n <;> exact ⟨by simp [py, PyData.canLay0], by simp [py, PyData.depth]⟩
  | n, .bl b, _ => by cases n <;> exact ⟨by simp [py, PyData.canLay0], by simp [py, PyData.depth]⟩
  | n, .int i, _ => by cases n <;> exact ⟨by simp [py, PyData.canLay0], by simp [py, PyData.depth]⟩
  | n, .str x, h => by
    have h' : PyData.strOk x = true := by cases n <;> simpa [dok] using h
    exact ⟨by simp [py, PyData.canLay0, h'], by simp [py, PyData.depth]⟩
  | 0, .tup xs, h => by simp [dok] at h
  | 0, .lst xs, h => by simp [dok] at h
  | n + 1, .tup xs, h => by
    obtain ⟨a, b⟩ := dokL_py n xs (by simpa [dok] using h)
    exact ⟨by simp [py, PyData.canLay0, a], by simp only [py, PyData.depth]; omega⟩
  | n + 1, .lst xs, h => by
    obtain ⟨a, b⟩ := dokL_py n xs (by simpa [dok] using h)
    exact ⟨by simp [py, PyData.canLay0, a], by simp only [py, PyData.depth]; omega⟩
  | n, .ty m, h => by cases n <;> simp [dok] at h
  | n, .ref a, h => by cases n <;> simp [dok] at h
theorem dokL_py : ∀ (n : Nat) (xs : List Dat), (∀ x ∈ xs, dok n x = true) → PyData.canLayAll0 (pyL xs) = true ∧ PyData.depthAll (pyL xs) ≤ n
  | n, [], _ => ⟨by simp [pyL, PyData.canLayAll0], by simp [pyL, PyData.depthAll]⟩
  | n, x :: xs, h => by
    obtain ⟨a, b⟩ := dok_py n x (h x List.mem_cons_self)
    obtain ⟨c, d⟩ := dokL_py n xs fun y hy => h y (List.mem_cons_of_mem _ hy)
    exact ⟨by simp [pyL, PyData.canLayAll0, a, c], by simp only [pyL, PyData.depthAll]; omega⟩
end
mutual
theorem eqv_py : ∀ (n : Nat) (d e : Dat), dok n d = true → dok n e = true → PyData.eqv (py d) (py e) = deq d e
  | n, d, e, h, h' => by
    cases n with
    | zero => cases d <;> cases e <;> first | (simp [dok] at h; done) | (simp [dok] at h'; done) | simp [py, PyData.eqv, deq]
    | succ n =>
      cases d <;> cases e <;> first
        | (simp [dok] at h; done)
        | (simp [dok] at h'; done)
        | (simp [py, PyData.eqv, deq]; done)
        | (simp only [py, PyData.eqv, deq]
           exact eqvL_py n _ _ (by simpa [dok] using h) (by simpa [dok] using h'))
theorem eqvL_py : ∀ (n : Nat) (xs ys : List Dat), (∀ x ∈ xs, dok n x = true) → (∀ y ∈ ys, dok n y = true) → PyData.eqvAll (pyL xs) (pyL ys) = deqL xs ys
  | n, [], [], _, _ => by simp [pyL, PyData.eqvAll, deqL]
  | n, [], y :: ys, _, _ => by simp [pyL, PyData.eqvAll, deqL]
  | n, x :: xs, [], _, _ => by simp [pyL, PyData.eqvAll, deqL]
  | n, x :: xs, y :: ys, h, h' => by
    have a := eqv_py n x y (h x List.mem_cons_self) (h' y List.mem_cons_self)
    have b := eqvL_py n xs ys (fun z hz => h z (List.mem_cons_of_mem _ hz)) fun z hz => h' z (List.mem_cons_of_mem _ hz)
    simp [pyL, PyData.eqvAll, deqL, a, b]
end
theorem dok_shaped {d : Dat} (h : dok 60 d = true) : SeqAt.shaped (py d) = true := by
  obtain ⟨a, b⟩ := dok_py 60 d h
  exact Bool.and_eq_true_iff.mpr ⟨a, decide_eq_true (by omega)⟩
mutual
theorem Rep.dp {K : PySem.W.Frag} {G H : Hp} (s : Sub G H) : ∀ (n : Nat) {v : V} {d : Dat}, Rep K G v d → dok n d = true → Dp K H v (py d)
  | n, _, _, .non, _ => by simp only [py]; exact .non
  | n, _, _, .bl b, _ => by simp only [py]; exact .bl b
  | n, _, _, .int i, _ => by simp only [py]; exact .int i
  | n, _, _, .str x, _ => by simp only [py]; exact .str x
  | n, _, _, .ty m, h => by cases n <;> simp [dok] at h
  | n, _, _, .ref a, h => by cases n <;> simp [dok] at h
  | 0, _, _, .tup _ _ _, h => by simp [dok] at h
  | 0, _, _, .lst _ _ _, h => by simp [dok] at h
  | n + 1, _, _, .tup hr _ l, h => by
    simp only [py]; exact .tup (sqT_mono s hr) (RepL.dp s n l (by simpa [dok] using h))
  | n + 1, _, _, .lst hr _ l, h => by
    simp only [py]; exact .lst (sqL_mono s hr) (RepL.dp s n l (by simpa [dok] using h))
theorem RepL.dp {K : PySem.W.Frag} {G H : Hp} (s : Sub G H) : ∀ (n : Nat) {vs : List V} {ds : List Dat}, RepL K G vs ds → (∀ d ∈ ds, dok n d = true) → DpAll K H vs (pyL ds)
  | n, _, _, .nil, _ => by simp only [pyL]; exact .nil
  | n, _, _, .cons r t, h => by
    simp only [pyL]
    exact .cons (Rep.dp s n r (h _ List.mem_cons_self)) (RepL.dp s n t fun z hz => h z (List.mem_cons_of_mem _ hz))
end

/-! ### the operations -/
def bI (b : Bool) : Int := if b then 1 else 0
def oAdd : Dat → Dat → Option Dat
  | .int i, .int j => some (.int (i + j))
  | .bl b, .int j => some (.int (bI b + j))
  | .str x, .str y => if x.length + y.length ≤ sizeLine then some (.str (x ++ y)) else none
  | .lst xs, .lst ys => if xs.length + ys.length ≤ sizeLine then some (.lst (xs ++ ys)) else none
  | .tup xs, .tup ys => if xs.length + ys.length ≤ sizeLine then some (.tup (xs ++ ys)) else none
  | _, _ => none
def oSub : Dat → Dat → Option Dat
  | .int i, .int j => some (.int (i - j))
  | .bl b, .int j => some (.int (bI b - j))
  | _, _ => none
def mulOk (i j : Int) : Bool := decide (i.natAbs < 2 ^ 64) || decide (j.natAbs < 2 ^ 64) || decide (i.natAbs.log2 + j.natAbs.log2 < 1000000)
def oMul : Dat → Dat → Option Dat
  | .int i, .int j => if mulOk i j then some (.int (i * j)) else none
  | .lst xs, .int k => if -(2 ^ 63) ≤ k ∧ k < 2 ^ 63 ∧ xs.length * k.toNat ≤ sizeLine then some (.lst (List.replicate k.toNat xs).flatten) else none
  | .tup xs, .int k => if xs ≠ [] ∧ 2 ≤ k ∧ k ≤ 1000 ∧ xs.length ≤ 1000 then some (.tup (List.replicate k.toNat xs).flatten) else none
  | _, _ => none
def oFdiv : Dat → Dat → Option Dat
  | .int i, .int j => if 0 < j ∧ j.natAbs.log2 < 9000 then some (.int (i / j)) else none
  | _, _ => none
def oMod : Dat → Dat → Option Dat
  | .int i, .int j => if 0 < j then some (.int (i % j)) else none
  | _, _ => none
def oPow : Dat → Dat → Option Dat
  | .int i, .int j => if 0 ≤ j ∧ j ≤ 1000000 ∧ i.natAbs < 2 ^ 64 then some (.int (i ^ j.toNat)) else none
  | _, _ => none
def oNeg : Dat → Option Dat
  | .int i => some (.int (-i))
  | _ => none
/-- ints of data -/
def dints : List Dat → Option (List Int)
  | [] => some []
  | .int i :: r => (dints r).map (i :: ·)
  | _ :: _ => none
theorem dints_map (ns : List Int) : dints (ns.map .int) = some ns := by
  induction ns with
  | nil => rfl
  | cons n r ih => simp [dints, ih]
theorem dints_some : ∀ {ds : List Dat} {ns : List Int}, dints ds = some ns → ds = ns.map .int
  | [], ns, h => by simp [dints] at h; subst h; rfl
  | .int i :: r, ns, h => by
    simp only [dints, Option.map_eq_some_iff] at h
    obtain ⟨m, hm, rfl⟩ := h
    rw [dints_some hm]; rfl
  | .non :: _, _, h => by simp [dints] at h
  | .bl _ :: _, _, h => by simp [dints] at h
  | .str _ :: _, _, h => by simp [dints] at h
  | .ty _ :: _, _, h => by simp [dints] at h
  | .tup _ :: _, _, h => by simp [dints] at h
  | .lst _ :: _, _, h => by simp [dints] at h
  | .ref _ :: _, _, h => by simp [dints] at h
theorem RepL.dints {K : PySem.W.Frag} {G : Hp} : ∀ {ns : List Int} {vs : List V}, RepL K G vs (ns.map .int) → vs = ns.map V.int
  | [], _, .nil => rfl
  | n :: ns, _, .cons r t => by
    cases r
    rw [RepL.dints t]; rfl
theorem RepL.of_dints {K : PySem.W.Frag} {G : Hp} : ∀ ns : List Int, RepL K G (ns.map V.int) (ns.map .int)
  | [] => .nil
  | n :: ns => .cons (.int n) (RepL.of_dints ns)
def cmpO (p : Int → Int → Bool) : Dat → Dat → Option Dat
  | .int i, .int j => some (.bl (p i j))
  | _, _ => none
def oLt : Dat → Dat → Option Dat
  | .int i, .int j => some (.bl (decide (i < j)))
  | .tup xs, .tup ys => (dints xs).bind fun ns => (dints ys).map fun ms => .bl (HT.lexLt ns ms)
  | _, _ => none
def oLe := cmpO fun i j => decide (i ≤ j)
def oGt := cmpO fun i j => decide (j < i)
def oGe := cmpO fun i j => decide (j ≤ i)
def oEq (a b : Dat) : Option Dat := if dok 60 a && dok 60 b then some (.bl (deq a b)) else none
def oNe (a b : Dat) : Option Dat := if dok 60 a && dok 60 b then some (.bl (!deq a b)) else none
def oIs : Dat → Dat → Option Dat
  | .bl a, .bl b => some (.bl (decide (a = b)))
  | .non, .non => some (.bl true)
  | _, .non => some (.bl false)
  | .non, .bl _ => some (.bl false)
  | _, _ => none
def oIsNot (a b : Dat) : Option Dat := match oIs a b with
  | some (.bl k) => some (.bl (!k))
  | _ => none
def oIn (x c : Dat) : Option Dat := match c with
  | .lst xs => if dok 60 x && dok 60 c then some (.bl (xs.any fun z => deq z x)) else none
  | .tup xs => if dok 60 x && dok 60 c then some (.bl (xs.any fun z => deq z x)) else none
  | _ => none
def oNotIn (x c : Dat) : Option Dat := match oIn x c with
  | some (.bl k) => some (.bl (!k))
  | _ => none

section
variable {X : Cx} {T : List (Addr × Str)}
/-- the start of each proof -/
theorem od_of {f : Value → Value → Sem Value} {o : Dat → Dat → Option Dat}
    (h : ∀ (pins : List (Addr × Obj)) (s : Shared) (σ : St) (H : Hp) (x y : V) (v u : Value) (Q : VK) (G : Hp) (M : DM) (dx dy z : Dat), Inv X pins σ H s → RelV x v → RelV y u → Hld X.K T H G M → Rep X.K G x dx → Rep X.K G y dy → o dx dy = some z →
      (∀ v H' G', Tr H G M H' G' M → Hld X.K T H' G' M → Rep X.K G' v z → Q v H') → wpAny (model X.prog X.w) X.A (f v u) (EP X pins σ Q) X.xe s) : OD X T f o :=
  fun pins s σ H x y v u Q I rx ry ⟨G, M, dx, dy, z, hh, r1, r2, e, kq⟩ => h pins s σ H x y v u Q G M dx dy z I rx ry hh r1 r2 e kq
/-- two lists one behind the other -/
theorem op_catL : OpR X (binaryOp .Add) (fun x y H Q => ∃ l b xs zs, x = .ref l ∧ y = .ref b ∧ Rd H l (.lst xs) ∧ Rd H b (.lst zs) ∧ xs.length + zs.length ≤ sizeLine ∧ ∀ p, H p = none → Q (.ref p) (upd H p (.lst (xs ++ zs)))) := by
  intro pins s σ H x y v u Q I rx ry h
  obtain ⟨l, b, xs, zs, rfl, rfl, hH, hB, hz, q⟩ := h
  cases rx
  cases ry
  obtain ⟨z, its, n, r, e⟩ := hH.ok I.hok
  obtain ⟨z2, its2, n2, r2, e2⟩ := hB.ok I.hok
  have hl := r.length
  have hl2 := r2.length
  refine PySem.P.add_list e e2 ?_ (by rw [List.size_toArray, List.size_toArray]; omega)
  have ea : its.toArray ++ its2.toArray = (its ++ its2).toArray := by simp
  rw [ea]
  exact ⟨.ref _, _, I.lnew (t' := s.toks) (r.append r2) (by rw [List.length_append]; omega), rfl, q _ I.fresh⟩
theorem od_add : OD X T (binaryOp .Add) oAdd := by
  refine od_of fun pins s σ H x y v u Q G M dx dy z I rx ry hh r1 r2 e kq => ?_
  cases r1 <;> cases r2 <;> first | (cases e; done) | skip
  case bl.int b j =>
    cases e
    cases rx
    obtain ⟨t, rfl⟩ := ry
    exact IntBool.add_bool_int ⟨.int _, H, I.tok _, ⟨_, rfl⟩, kq _ H G (Tr.refl ..) hh (.int _)⟩
  case int.int i j =>
    cases e
    exact op_add pins s σ H _ _ v u Q I rx ry ⟨i, j, rfl, rfl, kq _ H G (Tr.refl ..) hh (.int _)⟩
  case str.str a b =>
    simp only [oAdd] at e
    split at e
    · rename_i hl
      cases e
      exact op_add_str pins s σ H _ _ v u Q I rx ry ⟨a, b, rfl, rfl, hl, kq _ H G (Tr.refl ..) hh (.str _)⟩
    · cases e
  case tup.tup a vs ds ha hl r a' vs' ds' ha' hl' r' =>
    simp only [oAdd] at e
    split at e
    · rename_i hz
      cases e
      have e1 := r.length
      have e2 := r'.length
      refine op_catA pins s σ H _ _ v u Q I rx ry ⟨a, a', vs, vs', rfl, rfl, sqT_mono hh.sub ha, sqT_mono hh.sub ha', by omega, fun h0 => ?_, fun h0 h1 => ?_, fun h0 h1 p hp => ?_⟩
      · subst h0
        cases r
        exact kq _ H G (Tr.refl ..) hh (.tup ha' hl' r')
      · subst h1
        cases r'
        rw [List.append_nil] at kq
        exact kq _ H G (Tr.refl ..) hh (.tup ha hl r)
      · obtain ⟨G', t2, h2, r3⟩ := hh.newT (ds := ds ++ ds') hp (by rw [List.length_append]; exact hz) (r.append r')
        exact kq _ _ G' t2 h2 r3
    · cases e
  case lst.lst a vs ds ha hl r a' vs' ds' ha' hl' r' =>
    simp only [oAdd] at e
    split at e
    · rename_i hz
      cases e
      have e1 := r.length
      have e2 := r'.length
      refine op_catL pins s σ H _ _ v u Q I rx ry ⟨a, a', vs, vs', rfl, rfl, rd_mono hh.sub ha, rd_mono hh.sub ha', by omega, fun p hp => ?_⟩
      obtain ⟨G', t2, h2, r3⟩ := hh.newL (ds := ds ++ ds') hp (by rw [List.length_append]; exact hz) (r.append r')
      exact kq _ _ G' t2 h2 r3
    · cases e
theorem od_sub : OD X T (binaryOp .Sub) oSub := by
  refine od_of fun pins s σ H x y v u Q G M dx dy z I rx ry hh r1 r2 e kq => ?_
  cases r1 <;> cases r2 <;> first | (cases e; done) | skip
  case bl.int b j =>
    cases e
    cases rx
    obtain ⟨t, rfl⟩ := ry
    exact IntBool.sub_bool_int ⟨.int _, H, I.tok _, ⟨_, rfl⟩, kq _ H G (Tr.refl ..) hh (.int _)⟩
  case int.int i j =>
    cases e
    exact op_sub pins s σ H _ _ v u Q I rx ry ⟨i, j, rfl, rfl, kq _ H G (Tr.refl ..) hh (.int _)⟩
theorem flat_rep {K : PySem.W.Frag} {G : Hp} {vs : List V} {ds : List Dat} (r : RepL K G vs ds) : ∀ k : Nat, RepL K G (List.replicate k vs).flatten (List.replicate k ds).flatten
  | 0 => .nil
  | k + 1 => by rw [List.replicate_succ, List.replicate_succ, List.flatten_cons, List.flatten_cons]; exact r.append (flat_rep r k)
theorem op_repL : OpR X (binaryOp .Mult) (fun x y H Q => ∃ l k xs, x = .ref l ∧ y = .int k ∧ Rd H l (.lst xs) ∧ -(2 ^ 63) ≤ k ∧ k < 2 ^ 63 ∧ xs.length * k.toNat ≤ sizeLine ∧
    ∀ p, H p = none → Q (.ref p) (upd H p (.lst (List.replicate k.toNat xs).flatten))) := by
  intro pins s σ H x y v u Q I rx ry h
  obtain ⟨l, k, xs, rfl, rfl, hH, h1, h2, hz, q⟩ := h
  rcases hH with hH | ⟨ob, hH⟩
  · exact op_rep pins s σ H _ _ v u Q I rx ry ⟨l, k, xs, rfl, rfl, hH, h1, h2, hz, q⟩
  · cases rx
    obtain ⟨t, rfl⟩ := ry
    obtain ⟨z, its, n, r, e⟩ := (show Rd H l (.lst xs) from .inr ⟨ob, hH⟩).ok I.hok
    have hl := r.length
    have hlen : its.toArray.size * k.toNat ≤ sizeLine := by rw [List.size_toArray, ← hl]; exact hz
    have hcap : ¬ its.toArray.size * k.toNat > (2 ^ 63 - 1) / 8 := by
      have : (sizeLine : Nat) ≤ (2 ^ 63 - 1) / 8 := by decide
      omega
    have hfit : ¬ (!Builtin.List.listFitsIndex k) = true := by
      rw [fitsIndex_both h1 h2]
      exact Bool.false_ne_true
    have hlong : ¬ Builtin.List.listTooLong (its.toArray.size * k.toNat) = true := by
      rw [notLongL hlen]
      exact Bool.false_ne_true
    have hnew : List.foldl (fun x1 x2 => x1 ++ x2) #[] (List.replicate (if its.toArray.isEmpty = true then 0 else k.toNat) its.toArray) = (List.replicate k.toNat its).flatten.toArray := by
      have f0 : ∀ m : Nat, List.foldl (fun x1 x2 => x1 ++ x2) #[] (List.replicate m its.toArray) = (List.replicate m its).flatten.toArray := fun m => by
        have := foldl_rep its m []
        rw [List.nil_append] at this
        exact this
      rw [f0]
      cases its with
      | nil => simp
      | cons a r' => rw [if_neg (by simp)]
    refine wpAny_binaryOp_repeat_ref (T := "list") (U := "int") (by decide) ⟨_, e, rfl⟩ (fun s' => typeIs_int s' k t) noFill_list_mul F.fills_int_mul F.slot_int_rmul repeat_list F.slot_int_index.lookup
      (call_meets F.slot_int_rmul (typeIs_int s k t) F.entry_int_rmul (F.args_int_rmul_2 _ _) (int___rmul___int_list k t l its.toArray n)
        ⟨e, rfl, ⟨_, e, rfl⟩, call_meets F.slot_list_mul ⟨_, e, rfl⟩ F.entry_list_mul (F.args_list_mul_2 _ _) (AutoListH.list___mul___list_int_3 l its.toArray n k t hfit hcap hlong) ⟨e, ?_⟩⟩)
    rw [hnew]
    exact ⟨.ref _, _, I.lnew (t' := s.toks) (r.rep k.toNat) (by rw [PyProof.Rows.lm_len_rep_flat, Nat.mul_comm]; exact hz), rfl, q _ I.fresh⟩
theorem od_mul : OD X T (binaryOp .Mult) oMul := by
  refine od_of fun pins s σ H x y v u Q G M dx dy z I rx ry hh r1 r2 e kq => ?_
  cases r1 <;> cases r2 <;> first | (cases e; done) | skip
  case int.int i j =>
    simp only [oMul, mulOk, Bool.or_eq_true, decide_eq_true_eq] at e
    split at e
    · rename_i hc
      cases e
      rcases hc with (hc | hc) | hc
      · exact op_mul pins s σ H _ _ v u Q I rx ry ⟨i, j, rfl, rfl, .inl (by omega), kq _ H G (Tr.refl ..) hh (.int _)⟩
      · exact op_mul pins s σ H _ _ v u Q I rx ry ⟨i, j, rfl, rfl, .inr (by omega), kq _ H G (Tr.refl ..) hh (.int _)⟩
      · exact op_mulW pins s σ H _ _ v u Q I rx ry ⟨i, j, rfl, rfl, hc, kq _ H G (Tr.refl ..) hh (.int _)⟩
    · cases e
  case tup.int a vs ds ha hl r k =>
    simp only [oMul] at e
    split at e
    · rename_i hc
      cases e
      obtain ⟨h0, h1, h2, h3⟩ := hc
      have e1 := r.length
      refine op_repT pins s σ H _ _ v u Q I rx ry ⟨a, k, vs, rfl, rfl, sqT_mono hh.sub ha, fun q => h0 (List.eq_nil_of_length_eq_zero (by rw [← e1, q]; rfl)), h1, h2, by omega, fun p hp => ?_⟩
      obtain ⟨G', t2, h4, r3⟩ := hh.newT hp (by
        rw [PyProof.Rows.lm_len_rep_flat, sizeLine_eq]
        have a1 : k.toNat * ds.length ≤ 1000 * 1000 := Nat.mul_le_mul (by omega) h3
        omega) (flat_rep r k.toNat)
      exact kq _ _ G' t2 h4 r3
    · cases e
  case lst.int a vs ds ha hl r k =>
    simp only [oMul] at e
    split at e
    · rename_i hc
      cases e
      obtain ⟨h1, h2, h3⟩ := hc
      have e1 := r.length
      have hrd := rd_mono hh.sub ha
      refine op_repL pins s σ H _ _ v u Q I rx ry ⟨a, k, vs, rfl, rfl, hrd, h1, h2, by rw [e1]; exact h3, fun p hp => ?_⟩
      obtain ⟨G', t2, h4, r3⟩ := hh.newL hp (by rw [PyProof.Rows.lm_len_rep_flat, Nat.mul_comm]; exact h3) (flat_rep r k.toNat)
      exact kq _ _ G' t2 h4 r3
    · cases e
theorem od_fdiv : OD X T (binaryOp .FloorDiv) oFdiv := by
  refine od_of fun pins s σ H x y v u Q G M dx dy z I rx ry hh r1 r2 e kq => ?_
  cases r1 <;> cases r2 <;> first | (cases e; done) | skip
  case int.int i j =>
    simp only [oFdiv] at e
    split at e
    · rename_i hc
      cases e
      exact op_fdivW pins s σ H _ _ v u Q I rx ry ⟨i, j, rfl, rfl, hc, kq _ H G (Tr.refl ..) hh (.int _)⟩
    · cases e
theorem od_mod : OD X T (binaryOp .Mod) oMod := by
  refine od_of fun pins s σ H x y v u Q G M dx dy z I rx ry hh r1 r2 e kq => ?_
  cases r1 <;> cases r2 <;> first | (cases e; done) | skip
  case int.int i j =>
    simp only [oMod] at e
    split at e
    · rename_i hc
      cases e
      exact op_mod pins s σ H _ _ v u Q I rx ry ⟨i, j, rfl, rfl, hc, kq _ H G (Tr.refl ..) hh (.int _)⟩
    · cases e
theorem od_pow : OD X T (binaryOp .Pow) oPow := by
  refine od_of fun pins s σ H x y v u Q G M dx dy z I rx ry hh r1 r2 e kq => ?_
  cases r1 <;> cases r2 <;> first | (cases e; done) | skip
  case int.int i j =>
    simp only [oPow] at e
    split at e
    · rename_i hc
      cases e
      exact op_pow pins s σ H _ _ v u Q I rx ry ⟨i, j, rfl, rfl, hc, kq _ H G (Tr.refl ..) hh (.int _)⟩
    · cases e
theorem ud_neg : UnR X (unaryOp .USub) (cU X.K T oNeg) := by
  intro pins s σ H x v Q I rx ⟨G, M, dx, z, hh, r1, e, kq⟩
  cases r1 <;> first | (cases e; done) | skip
  cases e
  exact un_neg pins s σ H _ v Q I rx ⟨_, rfl, kq _ H G (Tr.refl ..) hh (.int _)⟩
theorem od_cmpI {f : Value → Value → Sem Value} {p : Int → Int → Bool} (h : OpR X f (rI0 fun i j => .bl (p i j))) : OD X T f (cmpO p) := by
  refine od_of fun pins s σ H x y v u Q G M dx dy z I rx ry hh r1 r2 e kq => ?_
  cases r1 <;> cases r2 <;> first | (cases e; done) | skip
  case int.int i j =>
    cases e
    exact h pins s σ H _ _ v u Q I rx ry ⟨i, j, rfl, rfl, kq _ H G (Tr.refl ..) hh (.bl _)⟩
theorem od_le : OD X T (compareOp .LtE) oLe := od_cmpI op_le
theorem od_gt : OD X T (compareOp .Gt) oGt := od_cmpI op_gt
theorem od_ge : OD X T (compareOp .GtE) oGe := od_cmpI op_ge
theorem od_lt (hu : X.A.units < cLine) : OD X T (compareOp .Lt) oLt := by
  refine od_of fun pins s σ H x y v u Q G M dx dy z I rx ry hh r1 r2 e kq => ?_
  cases r1 <;> cases r2 <;> first | (cases e; done) | skip
  case int.int i j =>
    cases e
    exact op_lt pins s σ H _ _ v u Q I rx ry ⟨i, j, rfl, rfl, kq _ H G (Tr.refl ..) hh (.bl _)⟩
  case tup.tup a vs ds ha hl r a' vs' ds' ha' hl' r' =>
    simp only [oLt, Option.bind_eq_some_iff, Option.map_eq_some_iff] at e
    obtain ⟨ns, h1, ms, h2, rfl⟩ := e
    have e1 := dints_some h1
    have e2 := dints_some h2
    subst e1 e2
    have e3 := RepL.dints r
    have e4 := RepL.dints r'
    subst e3 e4
    exact op_ltT hu pins s σ H _ _ v u Q I rx ry ⟨a, a', ns, ms, rfl, rfl, sqT_mono hh.sub ha, sqT_mono hh.sub ha', kq _ H G (Tr.refl ..) hh (.bl _)⟩
theorem od_eq (hu : X.A.units + 64 < cLine) : OD X T (compareOp .Eq) oEq := by
  refine od_of fun pins s σ H x y v u Q G M dx dy z I rx ry hh r1 r2 e kq => ?_
  simp only [oEq, Bool.and_eq_true] at e
  split at e
  · rename_i hc
    cases e
    refine op_eqD hu pins s σ H _ _ v u Q I rx ry ⟨py dx, py dy, r1.dp hh.sub 60 hc.1, r2.dp hh.sub 60 hc.2, dok_shaped hc.1, dok_shaped hc.2, ?_⟩
    rw [eqv_py 60 _ _ hc.1 hc.2]
    exact kq _ H G (Tr.refl ..) hh (.bl _)
  · cases e
theorem od_ne (hu : X.A.units + 64 < cLine) : OD X T (compareOp .NotEq) oNe := by
  refine od_of fun pins s σ H x y v u Q G M dx dy z I rx ry hh r1 r2 e kq => ?_
  simp only [oNe, Bool.and_eq_true] at e
  split at e
  · rename_i hc
    cases e
    refine op_neD hu pins s σ H _ _ v u Q I rx ry ⟨py dx, py dy, r1.dp hh.sub 60 hc.1, r2.dp hh.sub 60 hc.2, dok_shaped hc.1, dok_shaped hc.2, ?_⟩
    rw [eqv_py 60 _ _ hc.1 hc.2]
    exact kq _ H G (Tr.refl ..) hh (.bl _)
  · cases e
/-- in, not in, over a list or a tuple of data -/
def rInT (K : PySem.W.Frag) (neg : Bool) : R2 := fun x y H Q => ∃ d ds, Dp K H x d ∧ Dp K H y (.tuple ds) ∧ SeqAt.shaped d = true ∧ SeqAt.shaped (.tuple ds) = true ∧ Q (.bl (if neg then !ds.any fun z => PyData.eqv z d else ds.any fun z => PyData.eqv z d)) H
theorem op_inT (hu : X.A.units + 65 < cLine) : OpR X (compareOp .In) (rInT X.K false) := by
  intro pins s σ H x y v u Q I rx ry h
  obtain ⟨d, ds, hd, he, sd, se, q⟩ := h
  obtain ⟨as, r1⟩ := Dp.reads I d x v hd rx
  obtain ⟨bs, r2⟩ := Dp.reads I (.tuple ds) y u he ry
  exact SeqAt.in_tuple_reads r2 r1 (SeqAt.canLay_of_shaped se) (SeqAt.canLay_of_shaped sd) (room_in_shaped sd hu) ⟨.bl _, H, I, rfl, q⟩
theorem op_notInT (hu : X.A.units + 65 < cLine) : OpR X (compareOp .NotIn) (rInT X.K true) := by
  intro pins s σ H x y v u Q I rx ry h
  obtain ⟨d, ds, hd, he, sd, se, q⟩ := h
  obtain ⟨as, r1⟩ := Dp.reads I d x v hd rx
  obtain ⟨bs, r2⟩ := Dp.reads I (.tuple ds) y u he ry
  exact SeqAt.notIn_tuple_reads r2 r1 (SeqAt.canLay_of_shaped se) (SeqAt.canLay_of_shaped sd) (room_in_shaped sd hu) ⟨.bl _, H, I, rfl, q⟩
theorem any_py {x : Dat} (hx : dok 60 x = true) : ∀ xs : List Dat, (∀ z ∈ xs, dok 60 z = true) → ((pyL xs).any fun z => PyData.eqv z (py x)) = xs.any fun z => deq z x
  | [], _ => rfl
  | z :: zs, h => by
    simp only [pyL, List.any_cons]
    rw [eqv_py 60 _ _ (h z List.mem_cons_self) hx, any_py hx zs fun w hw => h w (List.mem_cons_of_mem _ hw)]
theorem dok_mono : ∀ (n : Nat) (d : Dat), dok n d = true → dok (n + 1) d = true := by
  intro n
  induction n with
  | zero => intro d h; cases d <;> first | rfl | (simp [dok] at h; done) | (simpa [dok] using h)
  | succ n ih =>
    intro d h
    cases d <;> first
      | rfl
      | (simp [dok] at h; done)
      | (simp only [dok, List.all_eq_true] at h ⊢
         exact fun x hx => ih x (h x hx))
      | (simpa [dok] using h)
theorem dok_items {xs : List Dat} (h : dok 60 (.tup xs) = true ∨ dok 60 (.lst xs) = true) : ∀ z ∈ xs, dok 60 z = true := fun z hz => by
  rcases h with h | h
  · simp only [dok, List.all_eq_true] at h; exact dok_mono 59 z (h z hz)
  · simp only [dok, List.all_eq_true] at h; exact dok_mono 59 z (h z hz)
theorem od_in (hu : X.A.units + 65 < cLine) : OD X T (compareOp .In) oIn := by
  refine od_of fun pins s σ H x y v u Q G M dx dy z I rx ry hh r1 r2 e kq => ?_
  have rr := r2
  cases r2 <;> first | (cases e; done) | skip
  case tup a vs ds ha hl r =>
    simp only [oIn, Bool.and_eq_true] at e
    split at e
    · rename_i hc
      cases e
      refine op_inT hu pins s σ H _ _ v u Q I rx ry ⟨py dx, pyL ds, r1.dp hh.sub 60 hc.1, by have := rr.dp hh.sub 60 hc.2; simpa [py] using this, dok_shaped hc.1, by have := dok_shaped hc.2; simpa [py] using this, ?_⟩
      rw [any_py hc.1 ds (dok_items (.inl hc.2))]
      exact kq _ H G (Tr.refl ..) hh (.bl _)
    · cases e
  case lst a vs ds ha hl r =>
    simp only [oIn, Bool.and_eq_true] at e
    split at e
    · rename_i hc
      cases e
      refine op_inD hu pins s σ H _ _ v u Q I rx ry ⟨py dx, pyL ds, r1.dp hh.sub 60 hc.1, by have := rr.dp hh.sub 60 hc.2; simpa [py] using this, dok_shaped hc.1, by have := dok_shaped hc.2; simpa [py] using this, ?_⟩
      rw [any_py hc.1 ds (dok_items (.inr hc.2))]
      exact kq _ H G (Tr.refl ..) hh (.bl _)
    · cases e
theorem od_notIn (hu : X.A.units + 65 < cLine) : OD X T (compareOp .NotIn) oNotIn := by
  refine od_of fun pins s σ H x y v u Q G M dx dy z I rx ry hh r1 r2 e kq => ?_
  have rr := r2
  cases r2 <;> first | (cases e; done) | skip
  case tup a vs ds ha hl r =>
    simp only [oNotIn, oIn, Bool.and_eq_true] at e
    by_cases hc : dok 60 dx = true ∧ dok 60 (.tup ds) = true
    · rw [if_pos hc] at e
      cases e
      refine op_notInT hu pins s σ H _ _ v u Q I rx ry ⟨py dx, pyL ds, r1.dp hh.sub 60 hc.1, by have := rr.dp hh.sub 60 hc.2; simpa [py] using this, dok_shaped hc.1, by have := dok_shaped hc.2; simpa [py] using this, ?_⟩
      rw [any_py hc.1 ds (dok_items (.inl hc.2))]
      exact kq _ H G (Tr.refl ..) hh (.bl _)
    · rw [if_neg hc] at e; cases e
  case lst a vs ds ha hl r =>
    simp only [oNotIn, oIn, Bool.and_eq_true] at e
    by_cases hc : dok 60 dx = true ∧ dok 60 (.lst ds) = true
    · rw [if_pos hc] at e
      cases e
      refine op_notInD hu pins s σ H _ _ v u Q I rx ry ⟨py dx, pyL ds, r1.dp hh.sub 60 hc.1, by have := rr.dp hh.sub 60 hc.2; simpa [py] using this, dok_shaped hc.1, by have := dok_shaped hc.2; simpa [py] using this, ?_⟩
      rw [any_py hc.1 ds (dok_items (.inr hc.2))]
      exact kq _ H G (Tr.refl ..) hh (.bl _)
    · rw [if_neg hc] at e; cases e
end
end DL

end
section
set_option Elab.async false
set_option linter.all false
set_option maxRecDepth 100000
set_option maxHeartbeats 4000000
/-! DL, part 4: subscripts, slices, methods, built-in calls. -/
namespace DL
open PySem PySem.Spec PyProof.Rows L2

section
variable {X : Cx} {T : List (Addr × Str)} {W : WX} {a b c e : Expr} {da db dc : DTE} {fa fb fc : FE} {es : List Expr} {dl : DTA} {fl : FA} {pos : Pos}
/-! ### an item -/
def oIx : Dat → Dat → Option Dat
  | .tup xs, .int i => atI xs i
  | .lst xs, .int i => atI xs i
  | .str x, .int i => if x.length ≤ sizeLine then (atI x.cps.toList i).map fun c => .str ⟨#[c]⟩ else none
  | _, _ => none
theorem RepL.atI {K : PySem.W.Frag} {G : Hp} {vs : List V} {ds : List Dat} {i : Int} {d : Dat} (r : RepL K G vs ds) (h : atI ds i = some d) : ∃ v, L2.atI vs i = some v ∧ Rep K G v d := by
  unfold L2.atI at h ⊢
  rw [r.length]
  cases e : ixN ds.length i with
  | none => rw [e] at h; cases h
  | some j =>
    rw [e] at h
    exact r.get (i := j) h
theorem xd_ix : IxR X (cO X.K T oIx) := by
  intro value slice pins s σ H x y v u Q I rx ry ⟨G, M, dx, dy, z, hh, r1, r2, e, kq⟩ hs
  cases r1 <;> cases r2 <;> first | (cases e; done) | skip
  case str.int x i =>
    simp only [oIx] at e
    split at e
    · rename_i hl
      obtain ⟨c, hc, rfl⟩ := Option.map_eq_some_iff.mp e
      exact ix_str value slice pins s σ H _ _ v u Q I rx ry ⟨x, i, c, rfl, rfl, hl, hc, kq _ H G (Tr.refl ..) hh (.str _)⟩ hs
    · cases e
  case tup.int a vs ds ha hl r i =>
    obtain ⟨w, hw, rw_⟩ := r.atI (show atI ds i = some z from e)
    exact ix_tup value slice pins s σ H _ _ v u Q I rx ry ⟨a, vs, i, w, rfl, rfl, sqT_mono hh.sub ha, hw, kq _ H G (Tr.refl ..) hh rw_⟩ hs
  case lst.int a vs ds ha hl r i =>
    obtain ⟨w, hw, rw_⟩ := r.atI (show atI ds i = some z from e)
    exact ix_list value slice pins s σ H _ _ v u Q I rx ry ⟨a, vs, i, w, rfl, rfl, sqL_mono hh.sub ha, hw, kq _ H G (Tr.refl ..) hh rw_⟩ hs
theorem de_ix (ha : DE X T W da a) (hb : DE X T W db b) (hs : PlainIx b := by exact fun _ _ => rfl) : DE X T W (dOp2 oIx da db) (.Subscript a b pos) := PE.weak (pe_ix xd_ix ha hb hs) fun _ _ _ h => op2_imp h
theorem dp_ix (ha : DE X T W (pur fa) a) (hb : DE X T W (pur fb) b) (hs : PlainIx b := by exact fun _ _ => rfl) : DE X T W (pur (fOp2 oIx fa fb)) (.Subscript a b pos) := by rw [← dOp2_pur]; exact de_ix ha hb hs
/-- an item of a list that may change -/
def dIxM (da db : DTE) : DTE := fun ρ M Q E => da ρ M (fun x M1 => db ρ M1 (fun y M2 => ∃ p ds i d, x = .ref p ∧ y = .int i ∧ M2 p = some (.lst ds) ∧ atI ds i = some d ∧ Q d M2) E) E
theorem de_ixM (ha : DE X T W da a) (hb : DE X T W db b) (hs : PlainIx b := by exact fun _ _ => rfl) : DE X T W (dIxM da db) (.Subscript a b pos) := by
  refine PE.weak (pe_ix ix_list ha hb hs) fun σ H Q ⟨G, M, ρ, QD, ED, h, r, hd, kq, ke⟩ => ?_
  refine cE_mk h r _ ED hd (fun x H1 G1 M1 dx t1 h1 r1 q1 => ?_) ke
  refine cE_mk h1 (r.mono t1.g) _ ED q1 (fun y H2 G2 M2 dy t2 h2 r2 q2 => ?_) fun c dd H' G' M' t => ke c dd H' G' M' (t1.trans t)
  obtain ⟨p, ds, i, d, rfl, rfl, hm, hd, q⟩ := q2
  cases r1
  cases r2
  obtain ⟨vs, hp, hl, rl⟩ := h2.mem p _ hm
  obtain ⟨w, hw, rw_⟩ := rl.atI hd
  exact ⟨p, vs, i, w, rfl, rfl, .inl (.inl hp), hw, kq _ H2 G2 M2 d (t1.trans t2) h2 rw_ q⟩

/-! ### slices -/
def cutD (xs : List Dat) (lo hi : Option Int) : List Dat := (xs.drop (HT.sIx xs.length 0 lo)).take (HT.sIx xs.length xs.length hi - HT.sIx xs.length 0 lo)
theorem cutD_length (xs : List Dat) (lo hi : Option Int) : (cutD xs lo hi).length ≤ xs.length := by
  unfold cutD
  rw [List.length_take, List.length_drop]
  omega
def oSl (x : Dat) (lo hi : Option Int) : Option Dat := match x with
  | .lst xs => some (.lst (cutD xs lo hi))
  | .tup xs => some (.tup (cutD xs lo hi))
  | .str z => if z.length ≤ sizeLine then some (.str (cutS z lo hi)) else none
  | _ => none
abbrev DTO := DSt → DM → (Option Int → DM → Prop) → DX → Prop
abbrev FO := DSt → R (Option Int)
def purO (f : FO) : DTO := fun ρ M Q E => (f ρ).wp (fun x => Q x M) (fun c => E c M)
def cOp (K : PySem.W.Frag) (T : List (Addr × Str)) (W : WX) (d : DTO) : TO := fun σ H Q => ∃ (G : Hp) (M : DM) (ρ : DSt) (QD : Option Int → DM → Prop) (ED : DX), Hld K T H G M ∧ RS K G σ ρ ∧ d ρ M QD ED ∧
  (∀ o H' G' M', Tr H G M H' G' M' → Hld K T H' G' M' → QD o M' → Q o H') ∧
  (∀ c dd H' G' M', Tr H G M H' G' M' → Hld K T H' G' M' → ED c M' → Dd K c dd → W c dd σ H')
abbrev DO (X : Cx) (T : List (Addr × Str)) (W : WX) (d : DTO) (e : Option Expr) : Prop := PO X e (cOp X.K T W d)
def fNoPart : FO := fun _ => .ok none
def fPart (f : FE) : FO := fun ρ => do
  match ← f ρ with
  | .int i => .ok (some i)
  | _ => .bad
def dPart (d : DTE) : DTO := fun ρ M Q E => d ρ M (fun x M1 => match x with
  | .int i => Q (some i) M1
  | _ => False) E
theorem dPart_pur (f : FE) : dPart (pur f) = purO (fPart f) := by
  funext ρ M Q E
  simp only [dPart, pur, purO, fPart, R.wp_bind]
  congr 1; funext x
  cases x <;> rfl
theorem PO.weak {e : Option Expr} {t t' : TO} (h : PO X e t) (i : ∀ σ H Q, t' σ H Q → t σ H Q) : PO X e t' := ⟨fun pins s σ H Q I q => h.run pins s σ H Q I (i σ H Q q)⟩
theorem do_none : DO X T W (purO fNoPart) none := PO.weak po_none fun σ H Q ⟨G, M, ρ, QD, ED, h, r, q, kq, ke⟩ => kq none H G M (Tr.refl ..) h q
theorem do_some (ha : DE X T W da a) : DO X T W (dPart da) (some a) := PO.weak (po_some ha) fun σ H Q ⟨G, M, ρ, QD, ED, h, r, hd, kq, ke⟩ => by
  refine cE_mk h r _ ED hd (fun x H1 G1 M1 dx t1 h1 r1 q1 => ?_) ke
  cases r1 with
  | int i => exact ⟨i, rfl, kq _ H1 G1 M1 t1 h1 q1⟩
  | _ => exact q1.elim
theorem dop_some (ha : DE X T W (pur fa) a) : DO X T W (purO (fPart fa)) (some a) := by rw [← dPart_pur]; exact do_some ha
variable {lo hi : Option Expr} {dlo dhi : DTO} {flo fhi : FO}
def dSl (d : DTE) (l u : DTO) : DTE := fun ρ M Q E => d ρ M (fun x M1 => l ρ M1 (fun i M2 => u ρ M2 (fun j M3 => (R.of (oSl x i j)).wp (fun z => Q z M3) (fun c => E c M3)) E) E) E
def fSl (f : FE) (l u : FO) : FE := fun ρ => do let x ← f ρ; let i ← l ρ; let j ← u ρ; R.of (oSl x i j)
theorem dSl_pur (f : FE) (l u : FO) : dSl (pur f) (purO l) (purO u) = pur (fSl f l u) := by
  funext ρ M Q E; simp only [dSl, pur, purO, fSl, R.wp_bind]
theorem cutV_rep {K : PySem.W.Frag} {G : Hp} {vs : List V} {ds : List Dat} (r : RepL K G vs ds) (i j : Option Int) : RepL K G (cutV vs i j) (cutD ds i j) := by
  unfold cutV cutD
  rw [r.length]
  exact (r.drop _).take _
def cSl (K : PySem.W.Frag) (T : List (Addr × Str)) : V → Option Int → Option Int → Hp → VK → Prop := fun x lo hi H Q => ∃ (G : Hp) (M : DM) (dx z : Dat), Hld K T H G M ∧ Rep K G x dx ∧ oSl dx lo hi = some z ∧
  ∀ v H' G', Tr H G M H' G' M → Hld K T H' G' M → Rep K G' v z → Q v H'
theorem sd_sl : SlR X (cSl X.K T) := by
  intro pins s σ H x v vl vu lo hi sl Q I rx hs pl pu ⟨G, M, dx, z, hh, r1, e, kq⟩
  cases r1 <;> first | (cases e; done) | skip
  case str x =>
    simp only [oSl] at e
    split at e
    · rename_i hl
      cases e
      exact sl_str pins s σ H _ v vl vu lo hi sl Q I rx hs pl pu ⟨x, rfl, hl, kq _ H G (Tr.refl ..) hh (.str _)⟩
    · cases e
  case tup a vs ds ha hl r =>
    cases e
    refine sl_tupA pins s σ H _ v vl vu lo hi sl Q I rx hs pl pu ⟨a, vs, rfl, sqT_mono hh.sub ha, fun hw => ?_, fun hw p hp => ?_⟩
    · have e1 : cutD ds lo hi = ds := by
        unfold cutD
        rw [r.length] at hw
        rw [hw.1, hw.2]; simp
      rw [e1] at kq
      exact kq _ H G (Tr.refl ..) hh (.tup ha hl r)
    · obtain ⟨G', t2, h2, r3⟩ := hh.newT hp (Nat.le_trans (cutD_length ds lo hi) hl) (cutV_rep r lo hi)
      exact kq _ _ G' t2 h2 r3
  case lst a vs ds ha hl r =>
    cases e
    refine sl_list pins s σ H _ v vl vu lo hi sl Q I rx hs pl pu ⟨a, vs, rfl, sqL_mono hh.sub ha, fun p hp => ?_⟩
    obtain ⟨G', t2, h2, r3⟩ := hh.newL hp (Nat.le_trans (cutD_length ds lo hi) hl) (cutV_rep r lo hi)
    exact kq _ _ G' t2 h2 r3
theorem de_sl {p2 : Pos} (ha : DE X T W da a) (hl : DO X T W dlo lo) (hh : DO X T W dhi hi) : DE X T W (dSl da dlo dhi) (.Subscript a (.Slice lo hi none p2) pos) := by
  refine PE.weak (pe_slice (sd_sl (T := T)) ha hl hh) fun σ H Q ⟨G, M, ρ, QD, ED, h, r, hd, kq, ke⟩ => ?_
  refine cE_mk h r _ ED hd (fun x H1 G1 M1 dx t1 h1 r1 q1 => ?_) ke
  refine ⟨G1, M1, ρ, _, ED, h1, r.mono t1.g, q1, fun i H2 G2 M2 t2 h2 q2 => ?_, fun c dd H' G' M' t => ke c dd H' G' M' (t1.trans t)⟩
  refine ⟨G2, M2, ρ, _, ED, h2, (r.mono t1.g).mono t2.g, q2, fun j H3 G3 M3 t3 h3 q3 => ?_, fun c dd H' G' M' t => ke c dd H' G' M' (t1.trans (t2.trans t))⟩
  cases e : oSl dx i j with
  | none => rw [e] at q3; exact q3.elim
  | some z =>
    rw [e] at q3
    exact ⟨G3, M3, dx, z, h3, (r1.mono t2.g).mono t3.g, e, fun v H' G' t4 h4 r4 => kq v H' G' M3 z (t1.trans (t2.trans (t3.trans t4))) h4 r4 q3⟩
theorem dp_sl {p2 : Pos} (ha : DE X T W (pur fa) a) (hl : DO X T W (purO flo) lo) (hh : DO X T W (purO fhi) hi) : DE X T W (pur (fSl fa flo fhi)) (.Subscript a (.Slice lo hi none p2) pos) := by rw [← dSl_pur]; exact de_sl ha hl hh

/-! ### backwards -/
theorem sliceApplied_rev {prog : Program} {w : World} {A : Around} {E : Value → Shared → Prop} {s : Shared} {sl : Addr} {t : Tok} {n : Nat} {Q : Int × Int × Nat → Shared → Prop} (hs : s.heap.IsSliceOf sl .none .none (.int (-1) t))
    (h : Q ((n : Int) - 1, -1, n) s) : wpAny (model prog w) A (Builtin.Slice.sliceApplied (.ref sl) (pure (n : Int))) Q E s := by
  obtain ⟨os, hos, hcs, hds⟩ := id hs
  unfold Builtin.Slice.sliceApplied Builtin.Slice.sliceFields
  refine wpAny_bind (wpAny_bind (wpAny_field hos hds (x := .none) rfl (wpAny_bind (wpAny_field hos hds (x := .none) rfl (wpAny_bind (wpAny_field hos hds (x := .int (-1) t) rfl (wpAny_pure ?_)))))))
  refine wpAny_bind (PyProof.Rows.slicePart_int ?_)
  show wpAny _ _ (if ((-1 : Int) == 0) = true then _ else _) _ _ s
  rw [if_neg (by decide)]
  refine wpAny_bind (PyProof.Rows.slicePart_none (wpAny_bind (PyProof.Rows.slicePart_none (wpAny_bind (wpAny_pure ?_)))))
  have e : Builtin.Slice.sliceAdjust none none (-1) (n : Int) = ((n : Int) - 1, -1) := rfl
  show wpAny _ _ (match Builtin.Slice.sliceAdjust none none (-1) (n : Int) with | (lo, hi) => pure (lo, (-1 : Int), Builtin.Slice.slicePlaces lo hi (-1))) _ _ s
  rw [e]
  have e2 : Builtin.Slice.slicePlaces ((n : Int) - 1) (-1) (-1) = n := by
    unfold Builtin.Slice.slicePlaces
    rw [if_neg (by decide)]
    by_cases hn : ((n : Int) - 1) > -1
    · rw [if_pos hn]
      have : ((n : Int) - 1 - -1 - 1) / (- -1) + 1 = n := by
        have e3 : ((n : Int) - 1 - -1 - 1) = (n : Int) - 1 := by omega
        rw [e3, show (- (-1) : Int) = 1 from rfl, Int.ediv_one]
        omega
      rw [this]
      omega
    · rw [if_neg hn]
      omega
  show wpAny _ _ (pure ((n : Int) - 1, (-1 : Int), Builtin.Slice.slicePlaces ((n : Int) - 1) (-1) (-1))) _ _ s
  rw [e2]
  exact wpAny_pure h
theorem fm_congr {α β : Type} {f g : α → Option β} : ∀ (l : List α), (∀ a ∈ l, f a = g a) → l.filterMap f = l.filterMap g
  | [], _ => rfl
  | a :: l, h => by
    rw [List.filterMap_cons, List.filterMap_cons, h a List.mem_cons_self, fm_congr l fun b hb => h b (List.mem_cons_of_mem _ hb)]
theorem pick_rev (xs : List Value) : ((List.range xs.length).filterMap fun (m : Nat) => xs.toArray[(((xs.length : Int) - 1) + (m : Int) * (-1)).toNat]?) = xs.reverse := by
  have e : ∀ m ∈ List.range xs.length, xs.toArray[(((xs.length : Int) - 1) + (m : Int) * (-1)).toNat]? = xs.reverse[m]? := by
    intro m hm
    have hm' := List.mem_range.mp hm
    have : (((xs.length : Int) - 1) + (m : Int) * (-1)).toNat = xs.length - 1 - m := by omega
    rw [this, List.getElem?_reverse hm']
    simp
  have e2 : ((List.range xs.length).filterMap fun (m : Nat) => xs.toArray[(((xs.length : Int) - 1) + (m : Int) * (-1)).toNat]?) = (List.range xs.length).filterMap fun m => xs.reverse[m]? := fm_congr _ e
  rw [e2]
  have e3 : ∀ ys : List Value, (List.range ys.length).filterMap (fun m => ys[m]?) = ys := by
    intro ys
    induction ys with
    | nil => rfl
    | cons y ys ih =>
      rw [List.length_cons, List.range_succ_eq_map, List.filterMap_cons]
      simp only [List.getElem?_cons_zero, List.filterMap_map]
      congr 1
  have := e3 xs.reverse
  rwa [List.length_reverse] at this
theorem getItem_tuple_rev {prog : Program} {w : World} {A : Around} {E : Value → Shared → Prop} {s : Shared} {t sl : Addr} {items : List Value} {tk : Tok} {Q : Value → Shared → Prop} (ht : IsTup s.heap t items.toArray) (hs : s.heap.IsSliceOf sl .none .none (.int (-1) tk))
    (h : Q (.ref s.heap.objs.size) { s with heap := s.heap.push { cls := .type "tuple", data := .seq items.reverse.toArray } }) (hsz : items.length ≤ sizeLine) : wpAny (model prog w) A (getItem (.ref t) (.ref sl)) Q E s := by
  have htake : sizeOk (.seq items.reverse.toArray) := by
    show items.reverse.toArray.size ≤ sizeLine
    rw [List.size_toArray, List.length_reverse]
    exact hsz
  obtain ⟨os, hos, hcs, hds⟩ := id hs
  have hTs : s.TypeIs (.ref sl) "slice" := ⟨os, hos, hcs⟩
  unfold getItem
  try with_reducible refine wpAny_holding ?_
  first | refine wpAny_bind (wpAny_pure ?_) | skip
  refine wpAny_bind (wpAny_sequenceKey ht.typeIs (by decide) ?_)
  refine wpAny_bind (wpAny_callSpecial?_slot (name := Str.ofString "__getitem__") ht.typeIs PyProof.Rows.slot_tuple_getitem
    (wpAny_call_entry PyProof.Rows.slot_tuple_getitem ht.typeIs entry_tuple_getitem ?_ (args_tuple_getitem _ _)))
  show wpAny _ _ (Builtin.Tuple.tupleItemsOf (.ref t) >>= _) _ _ s
  refine wpAny_bind (tupleItemsOf_ ht ?_)
  refine wpAny_bind (wpAny_typeOf hTs ?_)
  rw [if_pos (by decide)]
  have esz : items.toArray.size = items.length := by simp
  rw [esz]
  refine wpAny_bind (sliceApplied_rev hs ?_)
  have hno : ¬ ((((items.length : Int) - 1) == 0 && (-1 : Int) == 1 && items.length == items.length) = true) := by
    intro q
    rw [Bool.and_eq_true, Bool.and_eq_true] at q
    exact absurd q.1.2 (by decide)
  show wpAny _ _ (if (((items.length : Int) - 1) == 0 && (-1 : Int) == 1 && items.length == items.length) = true then _ else _) _ _ s
  rw [if_neg hno, pick_rev]
  first
    | exact wpAny_bind (m := Builtin.Tuple.tupleExact _) (wpAny_newObj_type (wpAny_pure ⟨_, rfl, wpAny_pure h⟩) htake)
    | exact wpAny_bind (m := Builtin.Tuple.tupleExact _) (wpAny_newObj_type (wpAny_bind (wpAny_pure (wpAny_pure ⟨_, rfl, wpAny_pure h⟩))) htake)
    | exact wpAny_bind (wpAny_bind (m := Builtin.Tuple.tupleExact _) (wpAny_newObj_type (wpAny_pure (wpAny_pure ⟨_, rfl, wpAny_pure h⟩)) htake))
    | exact wpAny_bind (wpAny_bind (m := Builtin.Tuple.tupleExact _) (wpAny_newObj_type (wpAny_pure ⟨_, rfl, wpAny_pure h⟩) htake))
def oRev : Dat → Option Dat
  | .lst xs => some (.lst xs.reverse)
  | .tup xs => some (.tup xs.reverse)
  | _ => none
theorem de_rev {k : Nat} {p1 p2 p3 : Pos} (ha : DE X T W da a) : DE X T W (dOp1 oRev da) (.Subscript a (.Slice none none (some (.UnaryOp .USub (.Constant (.int 1) k p1) p2)) p3) pos) := by
  refine ⟨fun pins s σ H Q I h => ?_⟩
  have h' := op1_imp h
  refine Subscript_ (thn (ha.run pins s σ H _ I h') fun v s1 ⟨x, H1, I1, r1, q1⟩ => ?_)
  obtain ⟨G, M, dx, z, hh, rp, eo, kq⟩ := q1
  have hst : PO X (some (.UnaryOp .USub (.Constant (.int 1) k p1) p2)) (tPart (tUn (rU fun i => .int (-i)) (tC (.int 1)))) := po_some (pe_un un_neg pe_int)
  refine wpAny_Slice (thn (po_none.run pins s1 σ H1 (fun o H2 => o = none ∧ H2 = H1) I1 ⟨rfl, rfl⟩) fun vl s2 ⟨l, H2, I2, pl, el, e2⟩ => ?_)
  subst el e2
  refine thn (po_none.run pins s2 σ H2 (fun o H3 => o = none ∧ H3 = H2) I2 ⟨rfl, rfl⟩) fun vu s3 ⟨u, H3, I3, pu, eu, e3⟩ => ?_
  subst eu e3
  refine thn (hst.run pins s3 σ H3 (fun o H4 => o = some (-1) ∧ H4 = H3) I3 ⟨1, rfl, -1, rfl, rfl, rfl⟩) fun vs s4 ⟨o, H4, I4, ps, eo', e4⟩ => ?_
  subst eo' e4
  have I5 : Inv X pins σ H4 { s4 with heap := s4.heap.push { cls := .type "slice", data := .fields #[vl, vu, vs] } } := I4.kept (t' := s4.toks) fun b ob q => Heap.get?_push_of_some _ q
  cases rp <;> first | (cases eo; done) | skip
  case lst a' ws ds hr hl rl =>
    cases eo
    cases r1
    obtain ⟨its, r, ht, hz⟩ := I5.list (sqL_mono hh.sub hr)
    have hlen := r.length
    show wpAny (model X.prog X.w) X.A (subscriptTail a (.Slice none none (some (.UnaryOp .USub (.Constant (.int 1) k p1) p2)) p3) (.ref a') (.ref s4.heap.objs.size)) (EP X pins σ Q) X.xe { s4 with heap := s4.heap.push { cls := .type "slice", data := .fields #[vl, vu, vs] } }
    refine tail_any (ops := [.ref a', .ref s4.heap.objs.size]) ht.isList.typeIs (PySem.slot_list_getitem.lookup) ?_ (by with_unfolding_all rfl)
    refine wpAny_getItem_list_slice ht.isList (Heap.IsSliceOf.new _ vl vu vs) pl pu ps (by decide) ?_ (by rw [List.size_toArray]; omega)
    rw [PySem.W.krv_pick]
    have hp := I5.hok.fresh (Nat.le_refl _)
    obtain ⟨G', t2, h2, r3⟩ := hh.newL (ds := ds.reverse) hp (by rw [List.length_reverse]; exact hl) rl.reverse
    refine ⟨.ref _, _, I5.laid (t' := s4.toks) (o := .lst ws.reverse) (fun b ob q => Heap.get?_push_of_some _ q) (Nat.le_refl _) ?_, rfl, kq _ _ G' t2 h2 r3⟩
    exact ⟨by rw [List.length_reverse]; exact hz, _, 0, r.reverse, Heap.get?_push_size _ rfl⟩
  case tup a' ws ds hr hl rl =>
    cases eo
    cases r1
    obtain ⟨its, r, ht, hz⟩ := I5.tuple (sqT_mono hh.sub hr)
    have hlen := r.length
    cases pl
    cases pu
    cases ps with
    | int i t =>
    show wpAny (model X.prog X.w) X.A (subscriptTail a (.Slice none none (some (.UnaryOp .USub (.Constant (.int 1) k p1) p2)) p3) (.ref a') (.ref s4.heap.objs.size)) (EP X pins σ Q) X.xe _
    refine tail_any (ops := [.ref a', .ref s4.heap.objs.size]) ht.typeIs (PyProof.Rows.slot_tuple_getitem.lookup) ?_ (by with_unfolding_all rfl)
    refine getItem_tuple_rev ht (Heap.IsSliceOf.new _ _ _ _) ?_ (by omega)
    have hp := I5.hok.fresh (Nat.le_refl _)
    obtain ⟨G', t2, h2, r3⟩ := hh.newT (ds := ds.reverse) hp (by rw [List.length_reverse]; exact hl) rl.reverse
    refine ⟨.ref _, _, I5.laid (t' := s4.toks) (o := .tup ws.reverse) (fun b ob q => Heap.get?_push_of_some _ q) (Nat.le_refl _) ?_, rfl, kq _ _ G' t2 h2 r3⟩
    exact ⟨by rw [List.length_reverse]; exact hz, _, r.reverse, IsTup.new _ _⟩
theorem dp_rev {k : Nat} {p1 p2 p3 : Pos} (ha : DE X T W (pur fa) a) : DE X T W (pur (fOp1 oRev fa)) (.Subscript a (.Slice none none (some (.UnaryOp .USub (.Constant (.int 1) k p1) p2)) p3) pos) := by
  rw [← dOp1_pur]; exact de_rev ha

/-! ### built-in calls -/
theorem cd_of {f : Value} {o : List Dat → Option Dat}
    (h : ∀ (pins : List (Addr × Obj)) (s : Shared) (σ : St) (H : Hp) (xs : List V) (us : List Value) (Q : VK) (G : Hp) (M : DM) (ds : List Dat) (z : Dat), Inv X pins σ H s → Vals xs us → Hld X.K T H G M → RepL X.K G xs ds → o ds = some z →
      (∀ v H' G', Tr H G M H' G' M → Hld X.K T H' G' M → Rep X.K G' v z → Q v H') → wpAny (model X.prog X.w) X.A (call f us) (EP X pins σ Q) X.xe s) : CD X T f o :=
  fun pins s σ H xs us Q I rx ⟨G, M, ds, z, hh, r, e, kq⟩ => h pins s σ H xs us Q G M ds z I rx hh r e kq
def oLen : List Dat → Option Dat
  | [.lst xs] => some (.int xs.length)
  | [.tup xs] => some (.int xs.length)
  | [.str x] => if x.length ≤ sizeLine then some (.int x.length) else none
  | _ => none
theorem one_case {K : PySem.W.Frag} {G : Hp} {xs : List V} {d : Dat} (r : RepL K G xs [d]) : ∃ v, xs = [v] ∧ Rep K G v d := by
  cases r with
  | cons h t => cases t; exact ⟨_, rfl, h⟩
theorem two_case {K : PySem.W.Frag} {G : Hp} {xs : List V} {d e : Dat} (r : RepL K G xs [d, e]) : ∃ v u, xs = [v, u] ∧ Rep K G v d ∧ Rep K G u e := by
  cases r with
  | cons h t => obtain ⟨u, rfl, h2⟩ := one_case t; exact ⟨_, _, rfl, h, h2⟩
theorem cd_len : CD X T (.builtin "len") oLen := by
  refine cd_of fun pins s σ H xs us Q G M ds z I rx hh r e kq => ?_
  unfold oLen at e
  split at e
  · cases e
    obtain ⟨v, rfl, rv⟩ := one_case r
    cases rv with
    | lst ha hl rl => exact call_len pins s σ H _ us Q I rx ⟨_, _, rfl, .inl ⟨_, sqL_mono hh.sub ha, rl.length.symm⟩, kq _ H G (Tr.refl ..) hh (.int _)⟩
  · cases e
    obtain ⟨v, rfl, rv⟩ := one_case r
    cases rv with
    | tup ha hl rl => exact call_len pins s σ H _ us Q I rx ⟨_, _, rfl, .inr ⟨_, sqT_mono hh.sub ha, rl.length.symm⟩, kq _ H G (Tr.refl ..) hh (.int _)⟩
  · split at e
    · rename_i hl
      cases e
      obtain ⟨v, rfl, rv⟩ := one_case r
      cases rv
      exact call_len pins s σ H _ us Q I rx ⟨_, _, rfl, ⟨hl, rfl⟩, kq _ H G (Tr.refl ..) hh (.int _)⟩
    · cases e
  · cases e
def oInt : List Dat → Option Dat
  | [.int i] => some (.int i)
  | [.bl b] => some (.int (bI b))
  | [.str x] => if x.length ≤ 640 then (PySem.intText? x).map .int else none
  | _ => none
theorem cd_int : CD X T (.type "int") oInt := by
  refine cd_of fun pins s σ H xs us Q G M ds z I rx hh r e kq => ?_
  unfold oInt at e
  split at e
  · cases e
    obtain ⟨v, rfl, rv⟩ := one_case r
    cases rv
    exact call_int1 pins s σ H _ us Q I rx (.inl ⟨_, rfl, kq _ H G (Tr.refl ..) hh (.int _)⟩)
  · cases e
    obtain ⟨v, rfl, rv⟩ := one_case r
    cases rv
    exact call_int1 pins s σ H _ us Q I rx (.inr ⟨_, rfl, kq _ H G (Tr.refl ..) hh (.int _)⟩)
  · split at e
    · rename_i hl
      obtain ⟨n, hn, rfl⟩ := Option.map_eq_some_iff.mp e
      obtain ⟨v, rfl, rv⟩ := one_case r
      cases rv
      exact call_int_str pins s σ H _ us Q I rx ⟨_, n, rfl, hn, hl, kq _ H G (Tr.refl ..) hh (.int _)⟩
    · cases e
  · cases e
def oTuple : List Dat → Option Dat
  | [.lst xs] => some (.tup xs)
  | [.tup xs] => some (.tup xs)
  | _ => none
theorem cd_tuple : CD X T (.type "tuple") oTuple := by
  refine cd_of fun pins s σ H xs us Q G M ds z I rx hh r e kq => ?_
  unfold oTuple at e
  split at e
  · cases e
    obtain ⟨v, rfl, rv⟩ := one_case r
    cases rv with
    | lst ha hl rl =>
      refine call_tuple_of pins s σ H _ us Q I rx ⟨_, _, rfl, .inl ⟨sqL_mono hh.sub ha, fun p hp => ?_⟩⟩
      obtain ⟨G', t2, h2, r3⟩ := hh.newT hp hl rl
      exact kq _ _ G' t2 h2 r3
  · cases e
    obtain ⟨v, rfl, rv⟩ := one_case r
    cases rv with
    | tup ha hl rl => exact call_tuple_of pins s σ H _ us Q I rx ⟨_, _, rfl, .inr ⟨sqT_mono hh.sub ha, kq _ H G (Tr.refl ..) hh (.tup ha hl rl)⟩⟩
  · cases e
def signs (x : Str) : List Dat := x.cps.toList.map fun c => .str ⟨#[c]⟩
def oList : List Dat → Option Dat
  | [.lst xs] => some (.lst xs)
  | [.tup xs] => some (.lst xs)
  | _ => none
theorem cd_list : CD X T (.type "list") oList := by
  refine cd_of fun pins s σ H xs us Q G M ds z I rx hh r e kq => ?_
  unfold oList at e
  split at e
  · cases e
    obtain ⟨v, rfl, rv⟩ := one_case r
    cases rv with
    | lst ha hl rl =>
      refine call_list_of pins s σ H _ us Q I rx ⟨_, _, rfl, .inl (sqL_mono hh.sub ha), fun p hp => ?_⟩
      obtain ⟨G', t2, h2, r3⟩ := hh.newL hp hl rl
      exact kq _ _ G' t2 h2 r3
  · cases e
    obtain ⟨v, rfl, rv⟩ := one_case r
    cases rv with
    | tup ha hl rl =>
      refine call_list_of pins s σ H _ us Q I rx ⟨_, _, rfl, .inr (sqT_mono hh.sub ha), fun p hp => ?_⟩
      obtain ⟨G', t2, h2, r3⟩ := hh.newL hp hl rl
      exact kq _ _ G' t2 h2 r3
  · cases e
/-- sum of ints -/
def oSum : List Dat → Option Dat
  | [.lst xs] => (dints xs).map fun ns => .int ns.sum
  | [.tup xs] => (dints xs).map fun ns => .int ns.sum
  | _ => none
theorem sum_tuple_raw {prog : Program} {w : World} {A : Around} {E : Value → Shared → Prop} {s : Shared} {l : Addr} {its : List Value} {ns : List Int} {Q : Value → Shared → Prop} (hh : A.handled = none) (hl : s.heap.IsTuple l its.toArray) (hi : IntsAre its ns)
    (h : ∀ h' tk t', (∀ b o, s.heap.get? b = some o → h'.get? b = some o) → Q (.int ns.sum t') { s with heap := h', toks := tk }) : wpAny (model prog w) A (call (.builtin "sum") [.ref l]) Q E s := by
  obtain ⟨xs, e⟩ := hi.allInts.items
  have hn : numsOf (intItems xs).toList = ns := by rw [← e]; exact hi.numsOf
  rw [nums_intItems] at hn
  rw [e] at hl
  have hlt : l < s.heap.objs.size := by obtain ⟨_, e, _⟩ := hl; exact Heap.lt_size e
  refine PySem.call_sum_walkG (wpAny_pyIter_tuple hl ?_)
  refine ⟨_, _, _, _, _, _, numAt xs, rfl, Walks.tuple (A := A.in1) hh _ l (Nat.ne_of_lt hlt) (intItems xs), ⟨⟨_, Heap.get?_push_size _ rfl, rfl, rfl⟩, hl.push _⟩, fun b hb => ?_, (fun _ _ => intItems_at), fun h' tk t' hk => ?_⟩
  · show b < (s.heap.push _).objs.size
    rw [Heap.size_push]
    rcases List.mem_cons.mp hb with rfl | hb
    · exact Nat.lt_succ_self _
    · rcases List.mem_cons.mp hb with rfl | hb
      · exact Nat.lt_succ_of_lt hlt
      · cases hb
  · have := h h' tk t' (fun b o e => hk b o (fun hm => by
      have e1 : b = s.heap.objs.size := List.mem_singleton.mp hm
      have e2 := Heap.lt_size e
      rw [e1] at e2
      exact absurd e2 (Nat.lt_irrefl _)) (Heap.get?_push_of_some _ e))
    have e2 : preSum (numAt xs) (intItems xs).size = ns.sum := by
      rw [preSum_eq, List.take_of_length_le (by simp [intItems]), hn]
    rw [e2]
    exact this
theorem cd_sum (hc : X.calm = true) : CD X T (.builtin "sum") oSum := by
  refine cd_of fun pins s σ H xs us Q G M ds z I rx hh r e kq => ?_
  unfold oSum at e
  split at e
  · obtain ⟨ns, hn, rfl⟩ := Option.map_eq_some_iff.mp e
    obtain ⟨v, rfl, rv⟩ := one_case r
    cases rv with
    | lst ha hl rl =>
      have e1 := dints_some hn
      subst e1
      have e3 := RepL.dints rl
      subst e3
      exact cr_sum hc pins s σ H _ us Q I rx ⟨_, ns, rfl, sqL_mono hh.sub ha, kq _ H G (Tr.refl ..) hh (.int _)⟩
  · obtain ⟨ns, hn, rfl⟩ := Option.map_eq_some_iff.mp e
    obtain ⟨v, rfl, rv⟩ := one_case r
    cases rv with
    | tup ha hl rl =>
      have e1 := dints_some hn
      subst e1
      have e3 := RepL.dints rl
      subst e3
      rw [Vals.ref1 rx]
      obtain ⟨its, ri, ht, hz⟩ := I.tuple (sqT_mono (K := X.K) hh.sub ha)
      refine sum_tuple_raw (I.ok.hd hc) ht ri.ints fun h' tk t' k => ?_
      exact ⟨.int _, H, I.kept (t' := tk) k, ⟨_, rfl⟩, kq _ H G (Tr.refl ..) hh (.int _)⟩
  · cases e
/-- all of bools -/
def bools : List Dat → Option (List Bool)
  | [] => some []
  | .bl b :: r => (bools r).map (b :: ·)
  | _ :: _ => none
theorem bools_map (ns : List Bool) : bools (ns.map .bl) = some ns := by
  induction ns with
  | nil => rfl
  | cons n r ih => simp [bools, ih]
theorem bools_some : ∀ {ds : List Dat} {ns : List Bool}, bools ds = some ns → ds = ns.map .bl
  | [], ns, h => by simp [bools] at h; subst h; rfl
  | .bl i :: r, ns, h => by
    simp only [bools, Option.map_eq_some_iff] at h
    obtain ⟨m, hm, rfl⟩ := h
    rw [bools_some hm]; rfl
  | .non :: _, _, h => by simp [bools] at h
  | .int _ :: _, _, h => by simp [bools] at h
  | .str _ :: _, _, h => by simp [bools] at h
  | .ty _ :: _, _, h => by simp [bools] at h
  | .tup _ :: _, _, h => by simp [bools] at h
  | .lst _ :: _, _, h => by simp [bools] at h
  | .ref _ :: _, _, h => by simp [bools] at h
theorem RepL.bools {K : PySem.W.Frag} {G : Hp} : ∀ {ns : List Bool} {vs : List V}, RepL K G vs (ns.map .bl) → vs = ns.map V.bl
  | [], _, .nil => rfl
  | n :: ns, _, .cons r t => by
    cases r
    rw [RepL.bools t]; rfl
def oAll : List Dat → Option Dat
  | [.lst xs] => (bools xs).map fun ns => .bl (ns.all id)
  | _ => none
theorem cd_all (hc : X.calm = true) : CD X T (.builtin "all") oAll := by
  refine cd_of fun pins s σ H xs us Q G M ds z I rx hh r e kq => ?_
  unfold oAll at e
  split at e
  · obtain ⟨ns, hn, rfl⟩ := Option.map_eq_some_iff.mp e
    obtain ⟨v, rfl, rv⟩ := one_case r
    cases rv with
    | lst ha hl rl =>
      have e1 := bools_some hn
      subst e1
      have e3 := RepL.bools rl
      subst e3
      exact cr_all hc pins s σ H _ us Q I rx ⟨_, ns, rfl, sqL_mono hh.sub ha, kq _ H G (Tr.refl ..) hh (.bl _)⟩
  · cases e
/-- min, max of two ints -/
def oMin2 : List Dat → Option Dat
  | [.int i, .int j] => some (.int (if j < i then j else i))
  | _ => none
def oMax2 : List Dat → Option Dat
  | [.int i, .int j] => some (.int (if j > i then j else i))
  | _ => none
theorem cd_min2 (hc : X.calm = true) : CD X T (.builtin "min") oMin2 := by
  refine cd_of fun pins s σ H xs us Q G M ds z I rx hh r e kq => ?_
  unfold oMin2 at e
  split at e
  · cases e
    obtain ⟨v, u, rfl, rv, ru⟩ := two_case r
    cases rv
    cases ru
    exact call_min2 hc pins s σ H _ us Q I rx ⟨_, _, rfl, kq _ H G (Tr.refl ..) hh (.int _)⟩
  · cases e
theorem cd_max2 (hc : X.calm = true) : CD X T (.builtin "max") oMax2 := by
  refine cd_of fun pins s σ H xs us Q G M ds z I rx hh r e kq => ?_
  unfold oMax2 at e
  split at e
  · cases e
    obtain ⟨v, u, rfl, rv, ru⟩ := two_case r
    cases rv
    cases ru
    exact call_max2 hc pins s σ H _ us Q I rx ⟨_, _, rfl, kq _ H G (Tr.refl ..) hh (.int _)⟩
  · cases e
/-- isinstance(x, T), T a built-in type -/
def tyOf : Dat → Option String
  | .non => some "NoneType"
  | .bl _ => some "bool"
  | .int _ => some "int"
  | .str _ => some "str"
  | .tup _ => some "tuple"
  | .lst _ => some "list"
  | _ => none
def oIsi : List Dat → Option Dat
  | [x, .ty n] => (tyOf x).bind fun m => (kitB m n).map .bl
  | _ => none
theorem tyX_of {K : PySem.W.Frag} {G H : Hp} (s : Sub G H) {v : V} {d : Dat} {m : String} (r : Rep K G v d) (e : tyOf d = some m) : TyX K H v (.type m) := by
  cases r <;> first | (cases e; done) | skip
  · cases e; exact .base .non
  · cases e; exact .base (.bl _)
  · cases e; exact .base (.int _)
  · cases e; exact .base (.str _)
  · rename_i ha _ _
    cases e
    rcases rd_mono s ha with h | ⟨o, h⟩
    · exact .base (.tup h)
    · exact .fTuple h
  · rename_i ha _ _
    cases e
    rcases rd_mono s ha with h | ⟨o, h⟩
    · exact .base (.lst h)
    · exact .base (.frz h)
theorem cd_isi : CD X T (.builtin "isinstance") oIsi := by
  refine cd_of fun pins s σ H xs us Q G M ds z I rx hh r e kq => ?_
  unfold oIsi at e
  split at e
  · obtain ⟨m, hm, e⟩ := Option.bind_eq_some_iff.mp e
    obtain ⟨b, hb, rfl⟩ := Option.map_eq_some_iff.mp e
    obtain ⟨v, u, rfl, rv, ru⟩ := two_case r
    cases ru
    exact call_isi pins s σ H _ us Q I rx ⟨v, _, _, _, b, rfl, .ty _, tyX_of hh.sub rv hm, kit_ty hb, kq _ H G (Tr.refl ..) hh (.bl _)⟩
  · cases e
/-- str of an int, of a bool -/
def oStr : List Dat → Option Dat
  | [.int i] => if i.natAbs.log2 < 1920 then some (.str (toString i)) else none
  | [.bl b] => some (.str (if b then "True" else "False"))
  | _ => none
theorem cd_str : CD X T (.type "str") oStr := by
  refine cd_of fun pins s σ H xs us Q G M ds z I rx hh r e kq => ?_
  unfold oStr at e
  split at e
  · split at e
    · rename_i hl
      cases e
      obtain ⟨v, rfl, rv⟩ := one_case r
      cases rv
      exact call_str_int pins s σ H _ us Q I rx ⟨_, rfl, hl, kq _ H G (Tr.refl ..) hh (.str _)⟩
    · cases e
  · cases e
    obtain ⟨v, rfl, rv⟩ := one_case r
    cases rv
    obtain ⟨u, rfl, ru⟩ := rx.one
    cases ru
    exact PySem.P.str_of_bool ⟨.str _, H, I.tok _, ⟨_, rfl⟩, kq _ H G (Tr.refl ..) hh (.str _)⟩
  · cases e

/-! ### methods of texts -/
def oSplit : Dat → Dat → Option Dat
  | .str a, .str b => if (b.length == 0) = false ∧ a.length + 2 ≤ sizeLine ∧ (Txt.split a b).length ≤ sizeLine then some (.lst ((Txt.split a b).map .str)) else none
  | _, _ => none
theorem RepL.of_strs {K : PySem.W.Frag} {G : Hp} : ∀ ns : List Str, RepL K G (ns.map V.str) (ns.map .str)
  | [] => .nil
  | n :: ns => .cons (.str n) (RepL.of_strs ns)
/-- a method of a text with one argument -/
def dM1 (o : Dat → Dat → Option Dat) (da db : DTE) : DTE := fun ρ M Q E => da ρ M (fun x M1 => match x with
  | .str a => db ρ M1 (fun y M2 => (R.of (o (.str a) y)).wp (fun z => Q z M2) (fun c => E c M2)) E
  | _ => False) E
def fM1 (o : Dat → Dat → Option Dat) (f g : FE) : FE := fun ρ => do
  match ← f ρ with
  | .str a => do let y ← g ρ; R.of (o (.str a) y)
  | _ => .bad
theorem dM1_pur (o : Dat → Dat → Option Dat) (f g : FE) : dM1 o (pur f) (pur g) = pur (fM1 o f g) := by
  funext ρ M Q E
  simp only [dM1, pur, fM1, R.wp_bind]
  congr 1; funext x
  cases x <;> simp only [R.wp_bind, R.wp_bad]
variable {o : Dat → Dat → Option Dat}
theorem m1_imp {r : V → List V → Hp → VK → Prop} (hr : ∀ x y H Q, cO X.K T o x y H Q → r x [y] H Q) {σ : St} {H : Hp} {Q : VK} (h : cE X.K T W (dM1 o da db) σ H Q) : tM1 r (cE X.K T W da) (cE X.K T W db) σ H Q := by
  obtain ⟨G, M, ρ, QD, ED, h, r, hd, kq, ke⟩ := h
  refine cE_mk h r _ ED hd (fun x H1 G1 M1 dx t1 h1 r1 q1 => ?_) ke
  have r1' := r1
  cases r1 <;> first | exact q1.elim | skip
  rename_i a
  refine ⟨⟨a, rfl⟩, ?_⟩
  refine cE_mk h1 (r.mono t1.g) _ ED q1 (fun y H2 G2 M2 dy t2 h2 r2 q2 => hr _ _ _ _ ?_) fun c dd H' G' M' t => ke c dd H' G' M' (t1.trans t)
  cases e : o (.str a) dy with
  | none => rw [e] at q2; exact q2.elim
  | some z =>
    rw [e] at q2
    exact ⟨G2, M2, _, dy, z, h2, .str a, r2, e, fun v H' G' t3 h3 r3 => kq v H' G' M2 z (t1.trans (t2.trans t3)) h3 r3 q2⟩
theorem de_split {apos : Pos} (ha : DE X T W da a) (hb : DE X T W db b) (hs : starEach [b] X.env = [(false, eval b X.env)] := by rfl) (hbase : attributeBase a "split" X.env (eval a X.env) = eval a X.env := by rfl) (hline : (apos.endLine == pos.line) = true := by rfl) :
    DE X T W (dM1 oSplit da db) (.Call (.Attribute a "split" apos) [b] [] pos) := by
  refine PE.weak (pe_split ha hb hs hbase hline) fun σ H Q h => m1_imp (fun x y H Q h' => ?_) h
  obtain ⟨G, M, dx, dy, z, hh, r1, r2, e, kq⟩ := h'
  cases r1 <;> cases r2 <;> first | (cases e; done) | skip
  rename_i a b
  simp only [oSplit] at e
  split at e
  · rename_i hc
    cases e
    refine ⟨a, b, rfl, rfl, hc.1, hc.2.1, fun p hp => ?_⟩
    obtain ⟨G', t2, h2, r3⟩ := hh.newL hp (by rw [List.length_map]; exact hc.2.2) (RepL.of_strs _)
    exact kq _ _ G' t2 h2 r3
  · cases e
theorem dp_split {apos : Pos} (ha : DE X T W (pur fa) a) (hb : DE X T W (pur fb) b) (hs : starEach [b] X.env = [(false, eval b X.env)] := by rfl) (hbase : attributeBase a "split" X.env (eval a X.env) = eval a X.env := by rfl) (hline : (apos.endLine == pos.line) = true := by rfl) :
    DE X T W (pur (fM1 oSplit fa fb)) (.Call (.Attribute a "split" apos) [b] [] pos) := by rw [← dM1_pur]; exact de_split ha hb hs hbase hline
def dstrs : List Dat → Option (List Str)
  | [] => some []
  | .str b :: r => (dstrs r).map (b :: ·)
  | _ :: _ => none
theorem dstrs_map (ns : List Str) : dstrs (ns.map .str) = some ns := by
  induction ns with
  | nil => rfl
  | cons n r ih => simp [dstrs, ih]
theorem dstrs_some : ∀ {ds : List Dat} {ns : List Str}, dstrs ds = some ns → ds = ns.map .str
  | [], ns, h => by simp [dstrs] at h; subst h; rfl
  | .str i :: r, ns, h => by
    simp only [dstrs, Option.map_eq_some_iff] at h
    obtain ⟨m, hm, rfl⟩ := h
    rw [dstrs_some hm]; rfl
  | .non :: _, _, h => by simp [dstrs] at h
  | .int _ :: _, _, h => by simp [dstrs] at h
  | .bl _ :: _, _, h => by simp [dstrs] at h
  | .ty _ :: _, _, h => by simp [dstrs] at h
  | .tup _ :: _, _, h => by simp [dstrs] at h
  | .lst _ :: _, _, h => by simp [dstrs] at h
  | .ref _ :: _, _, h => by simp [dstrs] at h
theorem RepL.dstrs {K : PySem.W.Frag} {G : Hp} : ∀ {ns : List Str} {vs : List V}, RepL K G vs (ns.map .str) → vs = ns.map V.str
  | [], _, .nil => rfl
  | n :: ns, _, .cons r t => by
    cases r
    rw [RepL.dstrs t]; rfl
def oJoin : Dat → Dat → Option Dat
  | .str a, .lst xs => (dstrs xs).bind fun ys => if (ys.map (·.length)).sum + ys.length * a.length ≤ 16777216 then some (.str (Txt.join a ys)) else none
  | _, _ => none
theorem de_join {apos : Pos} (ha : DE X T W da a) (hb : DE X T W db b) (hs : starEach [b] X.env = [(false, eval b X.env)] := by rfl) (hbase : attributeBase a "join" X.env (eval a X.env) = eval a X.env := by rfl) (hline : (apos.endLine == pos.line) = true := by rfl) :
    DE X T W (dM1 oJoin da db) (.Call (.Attribute a "join" apos) [b] [] pos) := by
  refine PE.weak (pe_join ha hb hs hbase hline) fun σ H Q h => m1_imp (fun x y H Q h' => ?_) h
  obtain ⟨G, M, dx, dy, z, hh, r1, r2, e, kq⟩ := h'
  cases r1 <;> cases r2 <;> first | (cases e; done) | skip
  case str.lst a' p vs ds ha' hl rl =>
    simp only [oJoin] at e
    obtain ⟨ys, hy, e⟩ := Option.bind_eq_some_iff.mp e
    split at e
    · rename_i hc
      cases e
      have e1 := dstrs_some hy
      subst e1
      have e2 := RepL.dstrs rl
      subst e2
      exact ⟨_, p, ys, rfl, rfl, .inl (sqL_mono hh.sub ha'), hc, kq _ H G (Tr.refl ..) hh (.str _)⟩
    · cases e
theorem dp_join {apos : Pos} (ha : DE X T W (pur fa) a) (hb : DE X T W (pur fb) b) (hs : starEach [b] X.env = [(false, eval b X.env)] := by rfl) (hbase : attributeBase a "join" X.env (eval a X.env) = eval a X.env := by rfl) (hline : (apos.endLine == pos.line) = true := by rfl) :
    DE X T W (pur (fM1 oJoin fa fb)) (.Call (.Attribute a "join" apos) [b] [] pos) := by rw [← dM1_pur]; exact de_join ha hb hs hbase hline
end
end DL

end
section
set_option Elab.async false
set_option linter.all false
set_option maxRecDepth 100000
set_option maxHeartbeats 4000000
/-! DL, part 5: statements, loops, comprehensions, calls, defs. -/
namespace DL
open PySem PySem.Spec PyProof.Rows L2

/-! ### pure statements -/
inductive Fl where
  | nx (ρ : DSt) | rt (x : Dat) | bk (ρ : DSt) | ct (ρ : DSt)
abbrev FS := DSt → R Fl
def DEnds.fl (D : DEnds) (M : DM) : Fl → Prop
  | .nx ρ => D.nx ρ M
  | .rt x => D.rt x M
  | .bk ρ => D.bk ρ M
  | .ct ρ => D.ct ρ M
def purS (f : FS) : DTS := fun D ρ M => (f ρ).wp (fun fl => D.fl M fl) (fun c => ∀ ρ', D.ex c ρ' M)

section
variable {X : Cx} {T : List (Addr × Str)} {W : WX}
theorem cS_weak {K : PySem.W.Frag} {d d' : DTS} (i : ∀ D ρ M, d' D ρ M → d D ρ M) {D : Ends} {σ : St} {H : Hp} (h : cS K T W d' D σ H) : cS K T W d D σ H := by
  obtain ⟨G, M, ρ, DD, hh, r, hd, k⟩ := h
  exact ⟨G, M, ρ, DD, hh, r, i DD ρ M hd, k⟩
theorem ds_weak {d d' : DTS} {st : Stmt} (h : DS X T W d st) (i : ∀ D ρ M, d' D ρ M → d D ρ M) : DS X T W d' st := PS.weak h fun _ _ _ q => cS_weak i q
theorem dss_weak {d d' : DTS} {st : List Stmt} (h : DSs X T W d st) (i : ∀ D ρ M, d' D ρ M → d D ρ M) : DSs X T W d' st := PSs.weak h fun _ _ _ q => cS_weak i q
variable {st : Stmt} {rest : List Stmt} {d d' : DTS} {f f' : FS} {e a b c : Expr} {de da db : DTE} {fe fa fb : FE} {pos : Pos}

/-! ### blocks -/
def dNext : DTS := fun D ρ M => D.nx ρ M
def fNext : FS := fun ρ => .ok (.nx ρ)
theorem cS_self {K : PySem.W.Frag} {σ : St} {H G : Hp} {M : DM} {ρ : DSt} {D : Ends} {DD : DEnds} {d : DTS} (h : Hld K T H G M) (r : RS K G σ ρ) (hd : d DD ρ M)
    (k1 : ∀ σ' H' G' M' ρ', Tr H G M H' G' M' → Hld K T H' G' M' → RS K G' σ' ρ' → DD.nx ρ' M' → D.nx σ' H')
    (k2 : ∀ v H' G' M' x, Tr H G M H' G' M' → Hld K T H' G' M' → Rep K G' v x → DD.rt x M' → D.rt v H')
    (k3 : ∀ σ' H' G' M' ρ', Tr H G M H' G' M' → Hld K T H' G' M' → RS K G' σ' ρ' → DD.bk ρ' M' → D.bk σ' H')
    (k4 : ∀ σ' H' G' M' ρ', Tr H G M H' G' M' → Hld K T H' G' M' → RS K G' σ' ρ' → DD.ct ρ' M' → D.ct σ' H')
    (k5 : ∀ c dd σ' H' G' M' ρ', Tr H G M H' G' M' → Hld K T H' G' M' → RS K G' σ' ρ' → DD.ex c ρ' M' → Dd K c dd → W c dd σ' H') : cS K T W d D σ H := ⟨G, M, ρ, DD, h, r, hd, k1, k2, k3, k4, k5⟩
theorem dss_nil : DSs X T W dNext [] := PSs.weak pss_nil fun D σ H ⟨G, M, ρ, DD, hh, r, hd, k1, _⟩ => k1 σ H G M ρ (Tr.refl ..) hh r hd
theorem dsps_nil : DSs X T W (purS fNext) [] := dss_nil
def dSeq (d d' : DTS) : DTS := fun D ρ M => d { D with nx := d' D } ρ M
def fSeq (f f' : FS) : FS := fun ρ => do
  match ← f ρ with
  | .nx ρ' => f' ρ'
  | o => .ok o
theorem dss_cons (h1 : DS X T W d st) (h2 : DSs X T W d' rest) : DSs X T W (dSeq d d') (st :: rest) := by
  refine PSs.weak (pss_cons h1 h2) fun D σ H ⟨G, M, ρ, DD, hh, r, hd, k1, k2, k3, k4, k5⟩ => ?_
  refine cS_self hh r hd (fun σ' H' G' M' ρ' t h' r' q => ?_) k2 k3 k4 k5
  exact cS_self h' r' q (fun σ2 H2 G2 M2 ρ2 t2 => k1 σ2 H2 G2 M2 ρ2 (t.trans t2)) (fun v H2 G2 M2 x t2 => k2 v H2 G2 M2 x (t.trans t2))
    (fun σ2 H2 G2 M2 ρ2 t2 => k3 σ2 H2 G2 M2 ρ2 (t.trans t2)) (fun σ2 H2 G2 M2 ρ2 t2 => k4 σ2 H2 G2 M2 ρ2 (t.trans t2)) fun c dd σ2 H2 G2 M2 ρ2 t2 => k5 c dd σ2 H2 G2 M2 ρ2 (t.trans t2)
theorem fSeq_imp (f f' : FS) (D : DEnds) (ρ : DSt) (M : DM) (h : purS (fSeq f f') D ρ M) : dSeq (purS f) (purS f') D ρ M := by
  simp only [purS, fSeq, dSeq, R.wp_bind] at h ⊢
  cases e : f ρ with
  | ok fl =>
    rw [e] at h
    cases fl <;> exact h
  | exc c => rw [e] at h; exact h
  | bad => rw [e] at h; exact h
theorem dsps_cons (h1 : DS X T W (purS f) st) (h2 : DSs X T W (purS f') rest) : DSs X T W (purS (fSeq f f')) (st :: rest) := dss_weak (dss_cons h1 h2) (fSeq_imp f f')
theorem dss_one (h1 : DS X T W d st) : DSs X T W d [st] := pss_one h1
/-- behind a return nothing is read -/
theorem ds_pass : DS X T W (purS fNext) (.Pass pos) := PS.weak ps_pass fun D σ H ⟨G, M, ρ, DD, hh, r, hd, k1, _⟩ => k1 σ H G M ρ (Tr.refl ..) hh r hd

/-! ### small statements -/
def dRet (de : DTE) : DTS := fun D ρ M => de ρ M D.rt (fun c M1 => D.ex c ρ M1)
def fRet (fe : FE) : FS := fun ρ => do let x ← fe ρ; .ok (.rt x)
theorem ds_ret (he : DE X T W de e) : DS X T W (dRet de) (.Return (some e) pos) := by
  refine PS.weak (ps_ret he) fun D σ H ⟨G, M, ρ, DD, hh, r, hd, k1, k2, k3, k4, k5⟩ => ?_
  exact cE_mk hh r _ _ hd (fun v H' G' M' x t h' r' q => k2 v H' G' M' x t h' r' q) fun c dd H' G' M' t h' q => k5 c dd σ H' G' M' ρ t h' (r.mono t.g) q
theorem wp_exs {α : Type} {x : R α} {Q : α → Prop} {E E' : Value → Prop} (h : x.wp Q E) (i : ∀ c, E c → E' c) : x.wp Q E' := by
  cases x <;> first | exact h | exact i _ h
theorem dsp_ret (he : DE X T W (pur fe) e) : DS X T W (purS (fRet fe)) (.Return (some e) pos) := ds_weak (ds_ret he) fun D ρ M h => by
  simp only [purS, fRet, R.wp_bind] at h
  exact wp_exs h fun c q => q ρ
def fRetN : FS := fun _ => .ok (.rt .non)
theorem dsp_retN : DS X T W (purS fRetN) (.Return none pos) := PS.weak ps_retN fun D σ H ⟨G, M, ρ, DD, hh, r, hd, k1, k2, _⟩ => k2 _ H G M _ (Tr.refl ..) hh .non hd
def dExpr (de : DTE) : DTS := fun D ρ M => de ρ M (fun _ M1 => D.nx ρ M1) (fun c M1 => D.ex c ρ M1)
def fExpr (fe : FE) : FS := fun ρ => do let _ ← fe ρ; .ok (.nx ρ)
theorem ds_expr (he : DE X T W de e) (hs : swapsWith e none pos.line X.env = pure false := by rfl) : DS X T W (dExpr de) (.Expr e pos) := by
  refine PS.weak (ps_expr he hs) fun D σ H ⟨G, M, ρ, DD, hh, r, hd, k1, k2, k3, k4, k5⟩ => ?_
  exact cE_mk hh r _ _ hd (fun v H' G' M' x t h' r' q => k1 σ H' G' M' ρ t h' (r.mono t.g) q) fun c dd H' G' M' t h' q => k5 c dd σ H' G' M' ρ t h' (r.mono t.g) q
theorem dsp_expr (he : DE X T W (pur fe) e) (hs : swapsWith e none pos.line X.env = pure false := by rfl) : DS X T W (purS (fExpr fe)) (.Expr e pos) := ds_weak (ds_expr he hs) fun D ρ M h => by
  simp only [purS, fExpr, R.wp_bind] at h
  exact wp_exs h fun c q => q ρ
def dSet (i : Nat) (de : DTE) : DTS := fun D ρ M => de ρ M (fun x M1 => D.nx (ρ.set i (some x)) M1) (fun c M1 => D.ex c ρ M1)
def fSet (i : Nat) (fe : FE) : FS := fun ρ => do let x ← fe ρ; .ok (.nx (ρ.set i (some x)))
theorem set_imp {i : Nat} {t : TE} (ht : ∀ σ H Q, cE X.K T W de σ H Q → t σ H Q) {D : Ends} {σ : St} {H : Hp} (h : cS X.K T W (dSet i de) D σ H) : tAsg t (gName i) D σ H := by
  obtain ⟨G, M, ρ, DD, hh, r, hd, k1, k2, k3, k4, k5⟩ := h
  refine ht σ H _ (cE_mk hh r _ _ hd (fun v H' G' M' x t h' r' q => ?_) fun c dd H' G' M' t h' q => k5 c dd σ H' G' M' ρ t h' (r.mono t.g) q)
  exact k1 _ H' G' M' _ t h' ((r.mono t.g).set r' i) q
theorem ds_set {i : Nat} {x : Str} {pos' : Pos} (hN : X.N.Nodup) (he : DE X T W de e) (hi : X.N[i]? = some x := by rfl) (hx : Loc X.env.scope x := by first | exact Or.inl rfl | exact Or.inr rfl)
    (hs : swapsWith e (some (.Name x pos')) pos.line X.env = pure false := by rfl) (hf : X.fn x = true ∨ X.env.scope.names.lookup x = some .local := by first | exact .inl rfl | exact .inr rfl) : DS X T W (dSet i de) (.Assign [.Name x pos'] e pos) :=
  PS.weak (ps_set hN hi hx he hs hf) fun _ _ _ h => set_imp (fun _ _ _ q => q) h
theorem fSet_imp (i : Nat) (fe : FE) (D : DEnds) (ρ : DSt) (M : DM) (h : purS (fSet i fe) D ρ M) : dSet i (pur fe) D ρ M := by
  simp only [purS, fSet, R.wp_bind] at h
  exact wp_exs h fun c q => q ρ
theorem dsp_set {i : Nat} {x : Str} {pos' : Pos} (hN : X.N.Nodup) (he : DE X T W (pur fe) e) (hi : X.N[i]? = some x := by rfl) (hx : Loc X.env.scope x := by first | exact Or.inl rfl | exact Or.inr rfl)
    (hs : swapsWith e (some (.Name x pos')) pos.line X.env = pure false := by rfl) (hf : X.fn x = true ∨ X.env.scope.names.lookup x = some .local := by first | exact .inl rfl | exact .inr rfl) : DS X T W (purS (fSet i fe)) (.Assign [.Name x pos'] e pos) :=
  ds_weak (ds_set hN he hi hx hs hf) (fSet_imp i fe)
/-- a, b = e1, e2 -/
def dPar (i j : Nat) (l : DTA) : DTS := fun D ρ M => l ρ M (fun xs M1 => match xs with
  | [x, y] => D.nx ((ρ.set i (some x)).set j (some y)) M1
  | _ => False) (fun c M1 => D.ex c ρ M1)
def fPar (i j : Nat) (l : FA) : FS := fun ρ => do
  match ← l ρ with
  | [x, y] => .ok (.nx ((ρ.set i (some x)).set j (some y)))
  | _ => .bad
theorem ds_par {i j : Nat} {x y : Str} {l : DTA} {px py pt : Pos} {kt k2 pt2} (hc : X.calm = true) (hN : X.N.Nodup) (hl : DA X T W l [a, b]) (hi : X.N[i]? = some x := by rfl) (hj : X.N[j]? = some y := by rfl) (hij : i ≠ j := by decide)
    (hx : X.env.scope.names.lookup x = some .local := by rfl) (hy : X.env.scope.names.lookup y = some .local := by rfl)
    (hw : swappedStores [.Tuple [.Name x px, .Name y py] kt pt] (.Tuple [a, b] k2 pt2) X.env = pure (some [x, y]) := by rfl)
    (hs : swapsWithSole [.Tuple [.Name x px, .Name y py] kt pt] (.Tuple [a, b] k2 pt2) pos.line X.env = pure false := by rfl) :
    DS X T W (dPar i j l) (.Assign [.Tuple [.Name x px, .Name y py] kt pt] (.Tuple [a, b] k2 pt2) pos) := by
  refine PS.weak (ps_par hc hN hi hj hij hx hy hl hw hs) fun D σ H ⟨G, M, ρ, DD, hh, r, hd, k1, k2, k3, k4, k5⟩ => ?_
  refine cA_mk hh r _ _ hd (fun vs H' G' M' xs t h' r' q => ?_) fun c dd H' G' M' t h' q => k5 c dd σ H' G' M' ρ t h' (r.mono t.g) q
  split at q
  · cases r' with
    | cons rx rr =>
      obtain ⟨w, rfl, ry⟩ := one_case rr
      exact ⟨_, w, rfl, k1 _ H' G' M' _ t h' (((r.mono t.g).set rx i).set ry j) q⟩
  · exact q.elim
theorem dsp_par {i j : Nat} {x y : Str} {l : FA} {px py pt : Pos} {kt k2 pt2} (hc : X.calm = true) (hN : X.N.Nodup) (hl : DA X T W (purA l) [a, b]) (hi : X.N[i]? = some x := by rfl) (hj : X.N[j]? = some y := by rfl) (hij : i ≠ j := by decide)
    (hx : X.env.scope.names.lookup x = some .local := by rfl) (hy : X.env.scope.names.lookup y = some .local := by rfl)
    (hw : swappedStores [.Tuple [.Name x px, .Name y py] kt pt] (.Tuple [a, b] k2 pt2) X.env = pure (some [x, y]) := by rfl)
    (hs : swapsWithSole [.Tuple [.Name x px, .Name y py] kt pt] (.Tuple [a, b] k2 pt2) pos.line X.env = pure false := by rfl) :
    DS X T W (purS (fPar i j l)) (.Assign [.Tuple [.Name x px, .Name y py] kt pt] (.Tuple [a, b] k2 pt2) pos) := ds_weak (ds_par hc hN hl hi hj hij hx hy hw hs) fun D ρ M h => by
  simp only [purS, fPar, R.wp_bind] at h
  simp only [dPar, purA]
  cases e : l ρ with
  | ok xs =>
    rw [e] at h
    match xs, h with
    | [x, y], h => exact h
    | [], h => exact h.elim
    | [_], h => exact h.elim
    | _ :: _ :: _ :: _, h => exact h.elim
  | exc c => rw [e] at h; exact h ρ
  | bad => rw [e] at h; exact h

/-! ### if -/
def dIfS (t : DTT) (d d' : DTS) : DTS := fun D ρ M => t ρ M (fun k M1 => if k = true then d D ρ M1 else d' D ρ M1) (fun c M1 => D.ex c ρ M1)
def fIfS (t : FT) (f f' : FS) : FS := fun ρ => do if (← t ρ) = true then f ρ else f' ρ
variable {tc : DTT} {gc : FT} {p q : List Stmt}
theorem ds_if (hc : DT X T W tc c) (ha : DSs X T W d p) (hb : DSs X T W d' q) : DS X T W (dIfS tc d d') (.If c p q pos) := by
  refine PS.weak (ps_if hc ha hb) fun D σ H ⟨G, M, ρ, DD, hh, r, hd, k1, k2, k3, k4, k5⟩ => ?_
  refine cT_mk hh r _ _ hd (fun k H' G' M' t h' q => ?_) fun c dd H' G' M' t h' q => k5 c dd σ H' G' M' ρ t h' (r.mono t.g) q
  cases k with
  | true =>
    exact cS_self h' (r.mono t.g) q (fun σ2 H2 G2 M2 ρ2 t2 => k1 σ2 H2 G2 M2 ρ2 (t.trans t2)) (fun v H2 G2 M2 x t2 => k2 v H2 G2 M2 x (t.trans t2))
      (fun σ2 H2 G2 M2 ρ2 t2 => k3 σ2 H2 G2 M2 ρ2 (t.trans t2)) (fun σ2 H2 G2 M2 ρ2 t2 => k4 σ2 H2 G2 M2 ρ2 (t.trans t2)) fun c dd σ2 H2 G2 M2 ρ2 t2 => k5 c dd σ2 H2 G2 M2 ρ2 (t.trans t2)
  | false =>
    exact cS_self h' (r.mono t.g) q (fun σ2 H2 G2 M2 ρ2 t2 => k1 σ2 H2 G2 M2 ρ2 (t.trans t2)) (fun v H2 G2 M2 x t2 => k2 v H2 G2 M2 x (t.trans t2))
      (fun σ2 H2 G2 M2 ρ2 t2 => k3 σ2 H2 G2 M2 ρ2 (t.trans t2)) (fun σ2 H2 G2 M2 ρ2 t2 => k4 σ2 H2 G2 M2 ρ2 (t.trans t2)) fun c dd σ2 H2 G2 M2 ρ2 t2 => k5 c dd σ2 H2 G2 M2 ρ2 (t.trans t2)
theorem dsp_if (hc : DT X T W (purT gc) c) (ha : DSs X T W (purS f) p) (hb : DSs X T W (purS f') q) : DS X T W (purS (fIfS gc f f')) (.If c p q pos) := ds_weak (ds_if hc ha hb) fun D ρ M h => by
  simp only [purS, fIfS, R.wp_bind] at h
  simp only [dIfS, purT]
  cases e : gc ρ with
  | ok k =>
    rw [e] at h
    cases k <;> exact h
  | exc c => rw [e] at h; exact h ρ
  | bad => rw [e] at h; exact h

/-! ### targets -/
abbrev DGt := Dat → DSt → Option DSt
def cG (K : PySem.W.Frag) (T : List (Addr × Str)) (is : List Nat) (g : DGt) : TG := fun v σ H Q => ∃ (G : Hp) (M : DM) (ρ ρ' : DSt) (d : Dat), Hld K T H G M ∧ RS K G σ ρ ∧ Rep K G v d ∧ g d ρ = some ρ' ∧
  ∀ σ', σ'.length = σ.length → (∀ k, k ∉ is → σ'[k]? = σ[k]?) → RS K G σ' ρ' → Q σ' H
abbrev DG (X : Cx) (T : List (Addr × Str)) (is : List Nat) (g : DGt) (tg : Expr) : Prop := PG X tg (cG X.K T is g)
theorem PG.weak {tg : Expr} {t t' : TG} (h : PG X tg t) (i : ∀ v σ H Q, t' v σ H Q → t v σ H Q) : PG X tg t' := ⟨fun pins s σ H v u Q I r q => h.run pins s σ H v u Q I r (i v σ H Q q)⟩
def gOne (i : Nat) : DGt := fun d ρ => some (ρ.set i (some d))
theorem dg_name {i : Nat} {x : Str} (hN : X.N.Nodup) (hi : X.N[i]? = some x := by rfl) (hx : Loc X.env.scope x := by first | exact Or.inl rfl | exact Or.inr rfl) (hf : X.fn x = true ∨ X.env.scope.names.lookup x = some .local := by first | exact .inl rfl | exact .inr rfl) :
    DG X T [i] (gOne i) (.Name x pos) :=
  PG.weak (pg_name hN hi hx hf) fun v σ H Q ⟨G, M, ρ, ρ', d, hh, r, rv, e, k⟩ => by
    cases e
    exact k _ (by simp) (fun j hj => by rw [List.getElem?_set_ne]; intro e; exact hj (by rw [e]; exact List.mem_singleton.mpr rfl)) (r.set rv i)
/-- (i, j) = a pair -/
def gTwo (i j : Nat) : DGt := fun d ρ => match d with
  | .tup [x, y] => some ((ρ.set i (some x)).set j (some y))
  | _ => none
theorem dg_two {i j : Nat} {x y : Str} {p1 p2 : Pos} {k : Nat} (hc : X.calm = true) (hN : X.N.Nodup) (hi : X.N[i]? = some x := by rfl) (hj : X.N[j]? = some y := by rfl) (hx : Loc X.env.scope x := by first | exact Or.inl rfl | exact Or.inr rfl) (hy : Loc X.env.scope y := by first | exact Or.inl rfl | exact Or.inr rfl)
    (hf : X.fn x = true ∨ X.env.scope.names.lookup x = some .local := by first | exact .inl rfl | exact .inr rfl) (hf2 : X.fn y = true ∨ X.env.scope.names.lookup y = some .local := by first | exact .inl rfl | exact .inr rfl) :
    DG X T [i, j] (gTwo i j) (.Tuple [.Name x p1, .Name y p2] k pos) := by
  refine PG.weak (pg_tup (n := 2) hc (pgs_cons (pg_name hN hi hx hf) (pgs_cons (pg_name hN hj hy hf2) pgs_nil))) fun v σ H Q ⟨G, M, ρ, ρ', d, hh, r, rv, e, k⟩ => ?_
  unfold gTwo at e
  split at e
  · cases e
    cases rv with
    | tup ha hl rl =>
      obtain ⟨u, w, rfl, ru, rw_⟩ := two_case rl
      refine ⟨_, _, rfl, sqT_mono hh.sub ha, rfl, u, [w], rfl, w, [], rfl, rfl, ?_⟩
      exact k _ (by simp) (fun m hm => by
        have h1 : i ≠ m := fun e => hm (by rw [e]; simp)
        have h2 : j ≠ m := fun e => hm (by rw [e]; simp)
        rw [List.getElem?_set_ne h2, List.getElem?_set_ne h1]) ((r.set ru i).set rw_ j)
  · cases e
/-- a tuple assigned to two names -/
def dSet2 (i j : Nat) (de : DTE) : DTS := fun D ρ M => de ρ M (fun x M1 => match gTwo i j x ρ with
  | some ρ' => D.nx ρ' M1
  | none => False) (fun c M1 => D.ex c ρ M1)
def fSet2 (i j : Nat) (fe : FE) : FS := fun ρ => do
  let x ← fe ρ
  match gTwo i j x ρ with
  | some ρ' => .ok (.nx ρ')
  | none => .bad
theorem ds_asg2 {i j : Nat} {tg : Expr} (he : DE X T W de e) (hg : DG X T [i, j] (gTwo i j) tg) (hs : swapsWithSole [tg] e pos.line X.env = pure false := by rfl) (hw : swappedStores [tg] e X.env = pure none := by rfl)
    (h1 : (assignEach [tg] X.env).map (·.2) = [assign tg X.env] := by rfl) : DS X T W (dSet2 i j de) (.Assign [tg] e pos) := by
  refine PS.weak (ps_asg he hg hs hw h1) fun D σ H ⟨G, M, ρ, DD, hh, r, hd, k1, k2, k3, k4, k5⟩ => ?_
  refine cE_mk hh r _ _ hd (fun v H' G' M' x t h' r' q => ?_) fun c dd H' G' M' t h' q => k5 c dd σ H' G' M' ρ t h' (r.mono t.g) q
  cases e : gTwo i j x ρ with
  | none => rw [e] at q; exact q.elim
  | some ρ' =>
    rw [e] at q
    exact ⟨G', M', ρ, ρ', x, h', r.mono t.g, r', e, fun σ' _ _ r2 => k1 σ' H' G' M' ρ' t h' r2 q⟩
theorem dsp_asg2 {i j : Nat} {tg : Expr} (he : DE X T W (pur fe) e) (hg : DG X T [i, j] (gTwo i j) tg) (hs : swapsWithSole [tg] e pos.line X.env = pure false := by rfl) (hw : swappedStores [tg] e X.env = pure none := by rfl)
    (h1 : (assignEach [tg] X.env).map (·.2) = [assign tg X.env] := by rfl) : DS X T W (purS (fSet2 i j fe)) (.Assign [tg] e pos) := ds_weak (ds_asg2 he hg hs hw h1) fun D ρ M h => by
  simp only [purS, fSet2, R.wp_bind] at h
  simp only [dSet2, pur]
  cases e : fe ρ with
  | ok x =>
    rw [e] at h
    simp only [R.wp_ok] at h ⊢
    cases e2 : gTwo i j x ρ with
    | none => rw [e2] at h; exact h
    | some ρ' => rw [e2] at h; exact h
  | exc c => rw [e] at h; exact h ρ
  | bad => rw [e] at h; exact h

/-! ### what is walked -/
structure ItOf (K : PySem.W.Frag) (T : List (Addr × Str)) (J : It) (G' : Hp) (xs : List Dat) : Prop where
  len : xs.length ≤ sizeLine
  go : ∀ i H2 G2 M2, i < xs.length → Sub G' G2 → Hld K T H2 G2 M2 → J.go i H2
  stop : ∀ i H2 G2 M2, xs.length ≤ i → Sub G' G2 → Hld K T H2 G2 M2 → J.stop i H2
  yld : ∀ i H2 G2 M2 x H3 d, xs[i]? = some d → Sub G' G2 → Hld K T H2 G2 M2 → J.yld i H2 x H3 → ∃ G3, Tr H2 G2 M2 H3 G3 M2 ∧ Hld K T H3 G3 M2 ∧ Rep K G3 x d
def cI (K : PySem.W.Frag) (T : List (Addr × Str)) (W : WX) (di : DTA) : TI := fun σ H R => ∃ (G : Hp) (M : DM) (ρ : DSt) (QD : List Dat → DM → Prop) (ED : DX), Hld K T H G M ∧ RS K G σ ρ ∧ di ρ M QD ED ∧
  (∀ J H' G' M' xs, Tr H G M H' G' M' → Hld K T H' G' M' → ItOf K T J G' xs → QD xs M' → R J H') ∧
  (∀ c dd H' G' M', Tr H G M H' G' M' → Hld K T H' G' M' → ED c M' → Dd K c dd → W c dd σ H')
abbrev DI (X : Cx) (T : List (Addr × Str)) (W : WX) (di : DTA) (tg it : Expr) : Prop := PI X tg it (cI X.K T W di)
theorem PI.weak {tg it : Expr} {t t' : TI} (h : PI X tg it t) (i : ∀ σ H R, t' σ H R → t σ H R) : PI X tg it t' := ⟨fun pins s σ H R I q => h.run pins s σ H R I (i σ H R q)⟩
/-- a list or a tuple -/
def oSeq : Dat → Option (List Dat)
  | .lst xs => some xs
  | .tup xs => some xs
  | _ => none
def dSeqI (de : DTE) : DTA := fun ρ M Q E => de ρ M (fun x M1 => (R.of (oSeq x)).wp (fun xs => Q xs M1) (fun c => E c M1)) E
def fSeqI (fe : FE) : FA := fun ρ => do let x ← fe ρ; R.of (oSeq x)
theorem dSeqI_pur (fe : FE) : dSeqI (pur fe) = purA (fSeqI fe) := by
  funext ρ M Q E; simp only [dSeqI, pur, purA, fSeqI, R.wp_bind]
theorem ItOf.list {K : PySem.W.Frag} {a : Addr} {G' : Hp} {vs : List V} {ds : List Dat} (h : Rd G' a (.lst vs)) (hl : ds.length ≤ sizeLine) (r : RepL K G' vs ds) (uniq : ∀ H2 G2 M2, Sub G' G2 → Hld K T H2 G2 M2 → ∀ xs, SqL K H2 a xs → xs = vs → True) : ItOf K T (Itl K a) G' ds where
  len := hl
  go := fun i H2 G2 M2 hi s h2 => by
    obtain ⟨d, hd⟩ : ∃ d, ds[i]? = some d := ⟨_, List.getElem?_eq_getElem hi⟩
    obtain ⟨v, hv, _⟩ := r.get hd
    exact ⟨vs, v, sqL_mono h2.sub (rd_mono s h), hv⟩
  stop := fun i H2 G2 M2 hi s h2 => ⟨vs, sqL_mono h2.sub (rd_mono s h), by rw [r.length]; exact hi⟩
  yld := fun i H2 G2 M2 x H3 d hd s h2 y => by
    obtain ⟨e, y⟩ := y
    subst e
    obtain ⟨v, hv, rv⟩ := r.get hd
    have := y vs (sqL_mono h2.sub (rd_mono s h))
    rw [hv] at this
    cases this
    exact ⟨G2, Tr.refl .., h2, rv.mono s⟩
theorem ItOf.tuple {K : PySem.W.Frag} {a : Addr} {G' : Hp} {vs : List V} {ds : List Dat} (h : Rd G' a (.tup vs)) (hl : ds.length ≤ sizeLine) (r : RepL K G' vs ds) : ItOf K T (Itt K a) G' ds where
  len := hl
  go := fun i H2 G2 M2 hi s h2 => by
    obtain ⟨d, hd⟩ : ∃ d, ds[i]? = some d := ⟨_, List.getElem?_eq_getElem hi⟩
    obtain ⟨v, hv, _⟩ := r.get hd
    exact ⟨vs, v, sqT_mono h2.sub (rd_mono s h), hv⟩
  stop := fun i H2 G2 M2 hi s h2 => ⟨vs, sqT_mono h2.sub (rd_mono s h), by rw [r.length]; exact hi⟩
  yld := fun i H2 G2 M2 x H3 d hd s h2 y => by
    obtain ⟨e, y⟩ := y
    subst e
    obtain ⟨v, hv, rv⟩ := r.get hd
    have := y vs (sqT_mono h2.sub (rd_mono s h))
    rw [hv] at this
    cases this
    exact ⟨G2, Tr.refl .., h2, rv.mono s⟩
theorem di_seq {tg it : Expr} (he : DE X T W de it) : DI X T W (dSeqI de) tg it := by
  refine ⟨fun pins s σ H R I ⟨G, M, ρ, QD, ED, hh, r, hd, kq, ke⟩ => ?_⟩
  refine thn (he.run pins s σ H (fun v H1 => (∃ a, v = .ref a ∧ (∃ vs, SqL X.K H1 a vs) ∧ R (Itl X.K a) H1) ∨ (∃ a, v = .ref a ∧ (∃ vs, SqT X.K H1 a vs) ∧ R (Itt X.K a) H1)) I (cE_mk hh r _ ED hd (fun v H1 G1 M1 x t h1 r1 q => ?_) ke)) fun v s1 ⟨x, H1, I1, r1, q1⟩ => ?_
  · cases r1 <;> first | exact q.elim | skip
    · rename_i ha hl rl
      exact .inr ⟨_, rfl, ⟨_, sqT_mono h1.sub ha⟩, kq _ H1 G1 M1 _ t h1 (ItOf.tuple ha hl rl) q⟩
    · rename_i ha hl rl
      exact .inl ⟨_, rfl, ⟨_, sqL_mono h1.sub ha⟩, kq _ H1 G1 M1 _ t h1 (ItOf.list ha hl rl fun _ _ _ _ _ _ _ _ => trivial) q⟩
  · rcases q1 with ⟨a, e, ⟨xs, hq⟩, q⟩ | ⟨a, e, ⟨xs, hq⟩, q⟩
    · subst e
      cases r1
      obtain ⟨its, rv, p, hz⟩ := I1.list hq
      refine wpAny_pyIter_list p.isList ?_
      refine ⟨s1.heap.objs.size, [s1.heap.objs.size], _, _, H1, rfl, I1.kept (t' := s1.toks) fun b o e => Heap.get?_push_of_some _ e, turn_list a _, ⟨_, Heap.get?_push_size _ rfl, rfl, rfl⟩, fun b hb => ?_, q⟩
      have e : b = s1.heap.objs.size := by simpa using hb
      subst e
      exact I1.fpOk (Nat.le_refl _) (I1.hok.fresh (Nat.le_refl _))
    · subst e
      cases r1
      obtain ⟨its, rv, p, hz⟩ := I1.tuple hq
      refine wpAny_pyIter_tuple (show s1.heap.IsTuple a its.toArray from p) ?_
      refine ⟨s1.heap.objs.size, [s1.heap.objs.size], _, _, H1, rfl, I1.kept (t' := s1.toks) fun b o e => Heap.get?_push_of_some _ e, turn_tuple a _, ⟨_, Heap.get?_push_size _ rfl, rfl, rfl⟩, fun b hb => ?_, q⟩
      have e : b = s1.heap.objs.size := by simpa using hb
      subst e
      exact I1.fpOk (Nat.le_refl _) (I1.hok.fresh (Nat.le_refl _))
theorem dip_seq {tg it : Expr} (he : DE X T W (pur fe) it) : DI X T W (purA (fSeqI fe)) tg it := by rw [← dSeqI_pur]; exact di_seq he
/-- range(..) -/
def ran (lo : Int) (n : Nat) : List Dat := (List.range n).map fun (k : Nat) => .int (lo + k)
theorem ran_length (lo : Int) (n : Nat) : (ran lo n).length = n := by simp [ran]
def oRng1 : List Dat → Option (List Dat)
  | [.int j] => if -(2 ^ 62) ≤ j ∧ j.toNat ≤ sizeLine then some (ran 0 j.toNat) else none
  | _ => none
def oRng2 : List Dat → Option (List Dat)
  | [.int i, .int j] => if -(2 ^ 62) ≤ i ∧ i < 2 ^ 62 ∧ -(2 ^ 62) ≤ j ∧ j < 2 ^ 62 ∧ (j - i).toNat ≤ sizeLine then some (ran i (j - i).toNat) else none
  | _ => none
def dIt (o : List Dat → Option (List Dat)) (l : DTA) : DTA := fun ρ M Q E => l ρ M (fun xs M1 => (R.of (o xs)).wp (fun xs => Q xs M1) (fun c => E c M1)) E
def fIt (o : List Dat → Option (List Dat)) (l : FA) : FA := fun ρ => do let x ← l ρ; R.of (o x)
theorem dIt_pur (o : List Dat → Option (List Dat)) (l : FA) : dIt o (purA l) = purA (fIt o l) := by
  funext ρ M Q E; simp only [dIt, purA, fIt, R.wp_bind]
theorem ItOf.range {K : PySem.W.Frag} {G' : Hp} (lo : Int) (n : Nat) (hn : n ≤ sizeLine) : ItOf K T (Itr lo n) G' (ran lo n) where
  len := by rw [ran_length]; exact hn
  go := fun i H2 G2 M2 hi s h2 => by rw [ran_length] at hi; exact hi
  stop := fun i H2 G2 M2 hi s h2 => by rw [ran_length] at hi; exact hi
  yld := fun i H2 G2 M2 x H3 d hd s h2 y => by
    obtain ⟨e, y⟩ := y
    subst e
    subst y
    have hi : i < n := by
      have := (List.getElem?_eq_some_iff.mp hd).1
      rwa [ran_length] at this
    have e2 : d = .int (lo + i) := by
      unfold ran at hd
      rw [List.getElem?_map, List.getElem?_range hi] at hd
      exact (Option.some.inj hd).symm
    subst e2
    exact ⟨G2, Tr.refl .., h2, .int _⟩
variable {l : DTA} {fl : FA}
theorem di_range1 {tg : Expr} {p2 : Pos} (hm : X.mg "range" = none) (hl : DA X T W l [a]) (hg : Gl X "range" := by rfl) (hs : starEach [a] X.env = [(false, eval a X.env)] := by rfl) : DI X T W (dIt oRng1 l) tg (.Call (.Name "range" p2) [a] [] pos) := by
  refine PI.weak (pi_range1 hg hm hl hs) fun σ H R ⟨G, M, ρ, QD, ED, hh, r, hd, kq, ke⟩ => ?_
  refine cA_mk hh r _ ED hd (fun vs H' G' M' xs t h' r' q => ?_) ke
  cases e : oRng1 xs with
  | none => rw [e] at q; exact q.elim
  | some ys =>
    rw [e] at q
    unfold oRng1 at e
    split at e
    · split at e
      · rename_i hz
        cases e
        obtain ⟨v, rfl, rv⟩ := one_case r'
        cases rv
        have hsl := sizeLine_eq
        exact ⟨_, rfl, hz.1, by omega, kq _ H' G' M' _ t h' (ItOf.range 0 _ hz.2) q⟩
      · cases e
    · cases e
theorem di_range2 {tg : Expr} {p2 : Pos} (hm : X.mg "range" = none) (hl : DA X T W l [a, b]) (hg : Gl X "range" := by rfl) (hs : starEach [a, b] X.env = [(false, eval a X.env), (false, eval b X.env)] := by rfl) (hs2 : starEach [b] X.env = [(false, eval b X.env)] := by rfl) : DI X T W (dIt oRng2 l) tg (.Call (.Name "range" p2) [a, b] [] pos) := by
  refine PI.weak (pi_range2 hg hm hl hs hs2) fun σ H R ⟨G, M, ρ, QD, ED, hh, r, hd, kq, ke⟩ => ?_
  refine cA_mk hh r _ ED hd (fun vs H' G' M' xs t h' r' q => ?_) ke
  cases e : oRng2 xs with
  | none => rw [e] at q; exact q.elim
  | some ys =>
    rw [e] at q
    unfold oRng2 at e
    split at e
    · split at e
      · rename_i hz
        cases e
        obtain ⟨v, u, rfl, rv, ru⟩ := two_case r'
        cases rv
        cases ru
        obtain ⟨z1, z2, z3, z4, z5⟩ := hz
        exact ⟨_, _, rfl, ⟨z1, z2, z3, z4⟩, kq _ H' G' M' _ t h' (ItOf.range _ _ z5) q⟩
      · cases e
    · cases e
theorem dip_range1 {tg : Expr} {p2 : Pos} (hm : X.mg "range" = none) (hl : DA X T W (purA fl) [a]) (hg : Gl X "range" := by rfl) (hs : starEach [a] X.env = [(false, eval a X.env)] := by rfl) : DI X T W (purA (fIt oRng1 fl)) tg (.Call (.Name "range" p2) [a] [] pos) := by
  rw [← dIt_pur]; exact di_range1 hm hl hg hs
theorem dip_range2 {tg : Expr} {p2 : Pos} (hm : X.mg "range" = none) (hl : DA X T W (purA fl) [a, b]) (hg : Gl X "range" := by rfl) (hs : starEach [a, b] X.env = [(false, eval a X.env), (false, eval b X.env)] := by rfl) (hs2 : starEach [b] X.env = [(false, eval b X.env)] := by rfl) : DI X T W (purA (fIt oRng2 fl)) tg (.Call (.Name "range" p2) [a, b] [] pos) := by
  rw [← dIt_pur]; exact di_range2 hm hl hg hs hs2
/-- zip of two lists -/
def oZip : List Dat → Option (List Dat)
  | [.lst xs, .lst ys] => some ((xs.zip ys).map fun p => .tup [p.1, p.2])
  | _ => none
theorem pair_new {K : PySem.W.Frag} {H2 G2 : Hp} {M2 : DM} {x y : V} {dx dy : Dat} {p : Addr} (h2 : Hld K T H2 G2 M2) (hp : H2 p = none) (rx : Rep K G2 x dx) (ry : Rep K G2 y dy) :
    ∃ G3, Tr H2 G2 M2 (upd H2 p (.tup [x, y])) G3 M2 ∧ Hld K T (upd H2 p (.tup [x, y])) G3 M2 ∧ Rep K G3 (.ref p) (.tup [dx, dy]) :=
  h2.newT hp (by show 2 ≤ sizeLine; rw [sizeLine_eq]; decide) (.cons rx (.cons ry .nil))
theorem zip_at {xs ys : List Dat} {i : Nat} {d : Dat} (h : ((xs.zip ys).map fun p => Dat.tup [p.1, p.2])[i]? = some d) : ∃ x y, xs[i]? = some x ∧ ys[i]? = some y ∧ d = .tup [x, y] := by
  rw [List.getElem?_map] at h
  obtain ⟨p, hp, rfl⟩ := Option.map_eq_some_iff.mp h
  have := List.getElem?_zip_eq_some.mp hp
  exact ⟨p.1, p.2, this.1, this.2, rfl⟩
theorem ItOf.zip {K : PySem.W.Frag} {a b : Addr} {G' : Hp} {vs us : List V} {ds es : List Dat} (h : Rd G' a (.lst vs)) (h' : Rd G' b (.lst us)) (hl : ds.length ≤ sizeLine) (r : RepL K G' vs ds) (r' : RepL K G' us es) : ItOf K T (Itz K a b) G' ((ds.zip es).map fun p => .tup [p.1, p.2]) where
  len := by rw [List.length_map, List.length_zip]; omega
  go := fun i H2 G2 M2 hi s h2 => by
    rw [List.length_map, List.length_zip] at hi
    obtain ⟨v, hv, _⟩ := r.get (i := i) (List.getElem?_eq_getElem (by omega))
    obtain ⟨u, hu, _⟩ := r'.get (i := i) (List.getElem?_eq_getElem (by omega))
    exact ⟨vs, us, v, u, sqL_mono h2.sub (rd_mono s h), sqL_mono h2.sub (rd_mono s h'), hv, hu⟩
  stop := fun i H2 G2 M2 hi s h2 => by
    rw [List.length_map, List.length_zip] at hi
    exact ⟨vs, us, sqL_mono h2.sub (rd_mono s h), sqL_mono h2.sub (rd_mono s h'), by rw [r.length, r'.length]; omega⟩
  yld := fun i H2 G2 M2 x H3 d hd s h2 y => by
    obtain ⟨p, v, u, rfl, hp, rfl, y1, y2⟩ := y
    obtain ⟨dx, dy, e1, e2, rfl⟩ := zip_at hd
    obtain ⟨v', hv, rv⟩ := r.get e1
    obtain ⟨u', hu, ru⟩ := r'.get e2
    have a1 := y1 vs (sqL_mono h2.sub (rd_mono s h))
    have a2 := y2 us (sqL_mono h2.sub (rd_mono s h'))
    rw [hv] at a1
    rw [hu] at a2
    cases a1
    cases a2
    exact pair_new h2 hp (rv.mono s) (ru.mono s)
theorem di_zip {p2 tpos : Pos} {elts : List Expr} {kk : Nat} (hm : X.mg "zip" = none) (hl : DA X T W l [a, b]) (hg : Gl X "zip" := by rfl) (hs : starEach [a, b] X.env = (false, eval a X.env) :: starEach [b] X.env := by rfl) (hpl : (backTo pos (starEach [b] X.env)).any (·.1) = false := by rfl) :
    DI X T W (dIt oZip l) (.Tuple elts kk tpos) (.Call (.Name "zip" p2) [a, b] [] pos) := by
  refine PI.weak (pi_zip hg hm hl hs hpl) fun σ H R ⟨G, M, ρ, QD, ED, hh, r, hd, kq, ke⟩ => ?_
  refine cA_mk hh r _ ED hd (fun vs H' G' M' xs t h' r' q => ?_) ke
  cases e : oZip xs with
  | none => rw [e] at q; exact q.elim
  | some ys =>
    rw [e] at q
    unfold oZip at e
    split at e
    · cases e
      obtain ⟨v, u, rfl, rv, ru⟩ := two_case r'
      cases rv
      cases ru
      rename_i ha hla rla _ _ hb hlb rlb
      exact ⟨_, _, _, _, rfl, sqL_mono h'.sub ha, sqL_mono h'.sub hb, kq _ H' G' M' _ t h' (ItOf.zip ha hb hla rla rlb) q⟩
    · cases e
theorem dip_zip {p2 tpos : Pos} {elts : List Expr} {kk : Nat} (hm : X.mg "zip" = none) (hl : DA X T W (purA fl) [a, b]) (hg : Gl X "zip" := by rfl) (hs : starEach [a, b] X.env = (false, eval a X.env) :: starEach [b] X.env := by rfl) (hpl : (backTo pos (starEach [b] X.env)).any (·.1) = false := by rfl) :
    DI X T W (purA (fIt oZip fl)) (.Tuple elts kk tpos) (.Call (.Name "zip" p2) [a, b] [] pos) := by rw [← dIt_pur]; exact di_zip hm hl hg hs hpl
/-- enumerate of a list -/
def oEnum : List Dat → Option (List Dat)
  | [.lst xs] => some ((xs.zipIdx).map fun p => .tup [.int (p.2 : Nat), p.1])
  | _ => none
theorem enum_at {xs : List Dat} {i : Nat} {d : Dat} (h : ((xs.zipIdx).map fun p => Dat.tup [.int (p.2 : Nat), p.1])[i]? = some d) : ∃ x, xs[i]? = some x ∧ d = .tup [.int (i : Nat), x] := by
  rw [List.getElem?_map, List.getElem?_zipIdx] at h
  obtain ⟨p, hp, rfl⟩ := Option.map_eq_some_iff.mp h
  obtain ⟨x, hx, rfl⟩ := Option.map_eq_some_iff.mp hp
  exact ⟨x, hx, by simp⟩
theorem ItOf.enum {K : PySem.W.Frag} {a : Addr} {G' : Hp} {vs : List V} {ds : List Dat} (h : Rd G' a (.lst vs)) (hl : ds.length ≤ sizeLine) (r : RepL K G' vs ds) : ItOf K T (Ite K a) G' ((ds.zipIdx).map fun p => .tup [.int (p.2 : Nat), p.1]) where
  len := by rw [List.length_map, List.length_zipIdx]; exact hl
  go := fun i H2 G2 M2 hi s h2 => by
    rw [List.length_map, List.length_zipIdx] at hi
    obtain ⟨v, hv, _⟩ := r.get (i := i) (List.getElem?_eq_getElem hi)
    exact ⟨vs, v, sqL_mono h2.sub (rd_mono s h), hv⟩
  stop := fun i H2 G2 M2 hi s h2 => by
    rw [List.length_map, List.length_zipIdx] at hi
    exact ⟨vs, sqL_mono h2.sub (rd_mono s h), by rw [r.length]; exact hi⟩
  yld := fun i H2 G2 M2 x H3 d hd s h2 y => by
    obtain ⟨p, v, rfl, hp, rfl, y1⟩ := y
    obtain ⟨dx, e1, rfl⟩ := enum_at hd
    obtain ⟨v', hv, rv⟩ := r.get e1
    have a1 := y1 vs (sqL_mono h2.sub (rd_mono s h))
    rw [hv] at a1
    cases a1
    exact pair_new h2 hp (.int _) (rv.mono s)
theorem di_enum {p2 tpos : Pos} {elts : List Expr} {kk : Nat} (hm : X.mg "enumerate" = none) (hl : DA X T W l [a]) (hg : Gl X "enumerate" := by rfl) (hs : starEach [a] X.env = [(false, eval a X.env)] := by rfl) :
    DI X T W (dIt oEnum l) (.Tuple elts kk tpos) (.Call (.Name "enumerate" p2) [a] [] pos) := by
  refine PI.weak (pi_enum hg hm hl hs) fun σ H R ⟨G, M, ρ, QD, ED, hh, r, hd, kq, ke⟩ => ?_
  refine cA_mk hh r _ ED hd (fun vs H' G' M' xs t h' r' q => ?_) ke
  cases e : oEnum xs with
  | none => rw [e] at q; exact q.elim
  | some ys =>
    rw [e] at q
    unfold oEnum at e
    split at e
    · cases e
      obtain ⟨v, rfl, rv⟩ := one_case r'
      cases rv
      rename_i ha hla rla
      exact ⟨_, _, rfl, sqL_mono h'.sub ha, kq _ H' G' M' _ t h' (ItOf.enum ha hla rla) q⟩
    · cases e
theorem dip_enum {p2 tpos : Pos} {elts : List Expr} {kk : Nat} (hm : X.mg "enumerate" = none) (hl : DA X T W (purA fl) [a]) (hg : Gl X "enumerate" := by rfl) (hs : starEach [a] X.env = [(false, eval a X.env)] := by rfl) :
    DI X T W (purA (fIt oEnum fl)) (.Tuple elts kk tpos) (.Call (.Name "enumerate" p2) [a] [] pos) := by rw [← dIt_pur]; exact di_enum hm hl hg hs

/-! ### for -/
def dForL (g : DGt) (body : DTS) (D : DEnds) : List Dat → DSt → DM → Prop
  | [], ρ, M => D.nx ρ M
  | x :: xs, ρ, M => match g x ρ with
    | some ρ1 => body { D with nx := dForL g body D xs, ct := dForL g body D xs, bk := D.nx } ρ1 M
    | none => False
def dFor (di : DTA) (g : DGt) (body : DTS) : DTS := fun D ρ M => di ρ M (fun xs M1 => dForL g body D xs ρ M1) (fun c M1 => D.ex c ρ M1)
def fForL (g : DGt) (body : FS) : List Dat → DSt → R Fl
  | [], ρ => .ok (.nx ρ)
  | x :: xs, ρ => match g x ρ with
    | some ρ1 => do
      match ← body ρ1 with
      | .nx ρ2 => fForL g body xs ρ2
      | .ct ρ2 => fForL g body xs ρ2
      | .bk ρ2 => .ok (.nx ρ2)
      | .rt x => .ok (.rt x)
    | none => .bad
def fFor (fi : FA) (g : DGt) (body : FS) : FS := fun ρ => do let xs ← fi ρ; fForL g body xs ρ
theorem ds_for {is : List Nat} {g : DGt} {di : DTA} {tg it : Expr} {body : List Stmt} (hp : PassesOwn (model X.prog X.w) X.A X.env X.xe) (hc : X.calm = true) (hi : DI X T W di tg it) (hg : DG X T is g tg) (hb : DSs X T W d body)
    (hs : ∀ x, foldedSetIterable it X.env x = pure x := by intro _; rfl) : DS X T W (dFor di g d) (.For tg it body [] pos) := by
  refine PS.weak (ps_for hp hc hi hg hb hs) fun D σ H ⟨G, M, ρ, DD, hh, r, hd, k1, k2, k3, k4, k5⟩ => ?_
  refine ⟨G, M, ρ, _, _, hh, r, hd, fun J H1 G1 M1 xs t1 h1 it1 q1 => ?_, fun c dd H' G' M' t h' q => k5 c dd σ H' G' M' ρ t h' (r.mono t.g) q⟩
  refine ⟨fun i m σ2 H2 => m = xs.length - i ∧ i ≤ xs.length ∧ ∃ G2 M2 ρ2, Tr H G M H2 G2 M2 ∧ Sub G1 G2 ∧ Hld X.K T H2 G2 M2 ∧ RS X.K G2 σ2 ρ2 ∧ dForL g d DD (xs.drop i) ρ2 M2, ⟨_, rfl, Nat.zero_le _, G1, M1, ρ, t1, fun _ _ e => e, h1, r.mono t1.g, q1⟩, ?_⟩
  rintro i m σ2 H2 ⟨rfl, hi, G2, M2, ρ2, t2, s2, h2, r2, q2⟩
  by_cases hlt : i < xs.length
  · refine .inr ⟨it1.go i H2 G2 M2 hlt s2 h2, fun σ' H' => ∃ G3 M3 ρ3, Tr H G M H' G3 M3 ∧ Sub G1 G3 ∧ Hld X.K T H' G3 M3 ∧ RS X.K G3 σ' ρ3 ∧ dForL g d DD (xs.drop (i + 1)) ρ3 M3, fun σ' H' hN => ⟨xs.length - (i + 1), by omega, rfl, hlt, hN⟩, fun x H3 y => ?_⟩
    have hx : xs[i]? = some xs[i] := List.getElem?_eq_getElem hlt
    obtain ⟨G3, t3, h3, r3⟩ := it1.yld i H2 G2 M2 x H3 _ hx s2 h2 y
    rw [List.drop_eq_getElem_cons hlt] at q2
    unfold dForL at q2
    cases e : g xs[i] ρ2 with
    | none => rw [e] at q2; exact q2.elim
    | some ρ3 =>
      rw [e] at q2
      refine ⟨G3, M2, ρ2, ρ3, _, h3, r2.mono t3.g, r3, e, fun σ' _ _ r4 => ?_⟩
      have t23 := t2.trans t3
      refine cS_self h3 r4 q2 (fun σ5 H5 G5 M5 ρ5 t5 h5 r5 q5 => ⟨G5, M5, ρ5, t23.trans t5, fun a o z => t5.g a o (t3.g a o (s2 a o z)), h5, r5, q5⟩) (fun v H5 G5 M5 x t5 => k2 v H5 G5 M5 x (t23.trans t5))
        (fun σ5 H5 G5 M5 ρ5 t5 => k1 σ5 H5 G5 M5 ρ5 (t23.trans t5)) (fun σ5 H5 G5 M5 ρ5 t5 h5 r5 q5 => ⟨G5, M5, ρ5, t23.trans t5, fun a o z => t5.g a o (t3.g a o (s2 a o z)), h5, r5, q5⟩) fun c dd σ5 H5 G5 M5 ρ5 t5 => k5 c dd σ5 H5 G5 M5 ρ5 (t23.trans t5)
  · have e : i = xs.length := by omega
    subst e
    rw [List.drop_length] at q2
    exact .inl ⟨it1.stop _ H2 G2 M2 (Nat.le_refl _) s2 h2, k1 σ2 H2 G2 M2 ρ2 t2 h2 r2 q2⟩
theorem fForL_imp (g : DGt) (f : FS) (D : DEnds) (M : DM) : ∀ (xs : List Dat) (ρ : DSt), (fForL g f xs ρ).wp (fun fl => D.fl M fl) (fun c => ∀ ρ', D.ex c ρ' M) → dForL g (purS f) D xs ρ M
  | [], ρ, h => h
  | x :: xs, ρ, h => by
    unfold fForL at h
    unfold dForL
    cases e : g x ρ with
    | none => rw [e] at h; exact h
    | some ρ1 =>
      rw [e] at h
      simp only [R.wp_bind] at h
      simp only [purS]
      cases e2 : f ρ1 with
      | ok fl =>
        rw [e2] at h
        cases fl with
        | nx ρ2 => exact fForL_imp g f D M xs ρ2 h
        | ct ρ2 => exact fForL_imp g f D M xs ρ2 h
        | bk ρ2 => exact h
        | rt y => exact h
      | exc c => rw [e2] at h; exact h
      | bad => rw [e2] at h; exact h
theorem dsp_for {is : List Nat} {g : DGt} {fi : FA} {tg it : Expr} {body : List Stmt} (hp : PassesOwn (model X.prog X.w) X.A X.env X.xe) (hc : X.calm = true) (hi : DI X T W (purA fi) tg it) (hg : DG X T is g tg) (hb : DSs X T W (purS f) body)
    (hs : ∀ x, foldedSetIterable it X.env x = pure x := by intro _; rfl) : DS X T W (purS (fFor fi g f)) (.For tg it body [] pos) := ds_weak (ds_for hp hc hi hg hb hs) fun D ρ M h => by
  simp only [purS, fFor, R.wp_bind] at h
  simp only [dFor, purA]
  cases e : fi ρ with
  | ok xs => rw [e] at h; exact fForL_imp g f D M xs ρ h
  | exc c => rw [e] at h; exact h ρ
  | bad => rw [e] at h; exact h
end
end DL

end
section
set_option Elab.async false
set_option linter.all false
set_option maxRecDepth 100000
set_option maxHeartbeats 4000000
/-! DL, part 6: comprehensions, calls, defs. -/
namespace DL
open PySem PySem.Spec PyProof.Rows L2

/-! ### slots of a block's own names -/
def wipeD (ρ : DSt) : List Nat → DSt
  | [] => ρ
  | v :: vs => (wipeD ρ vs).set v none
theorem RS.wipe {K : PySem.W.Frag} {G : Hp} {σ : St} {ρ : DSt} (r : RS K G σ ρ) : ∀ vs, RS K G (L2.wipe σ vs) (wipeD ρ vs)
  | [] => r
  | v :: vs => (RS.wipe r vs).forget v none
theorem wipe_get (σ : St) (k : Nat) : ∀ vs, (L2.wipe σ vs)[k]? = if k ∈ vs then (if k < σ.length then some none else none) else σ[k]?
  | [] => by simp [L2.wipe]
  | v :: vs => by
    unfold L2.wipe
    by_cases hk : v = k
    · subst hk
      rw [if_pos (List.mem_cons_self ..), List.getElem?_set]
      simp [wipe_length]
    · rw [List.getElem?_set_ne hk, wipe_get σ k vs]
      have : (k ∈ v :: vs) ↔ k ∈ vs := by
        rw [List.mem_cons]
        exact ⟨fun h => h.resolve_left fun e => hk e.symm, .inr⟩
      simp only [this]
theorem wipe_agree {σ σ' : St} {vs : List Nat} (hl : σ'.length = σ.length) (h : ∀ k, k ∉ vs → σ'[k]? = σ[k]?) : L2.wipe σ' vs = L2.wipe σ vs := by
  apply List.ext_getElem?
  intro k
  rw [wipe_get, wipe_get, hl]
  by_cases hk : k ∈ vs
  · rw [if_pos hk, if_pos hk]
  · rw [if_neg hk, if_neg hk]; exact h k hk
theorem wipe_wipe (σ : St) (vs : List Nat) : L2.wipe (L2.wipe σ vs) vs = L2.wipe σ vs := wipe_agree (wipe_length σ vs) fun k hk => by rw [wipe_get, if_neg hk]

/-! ### a list being made: tracked, but not yet seen -/
section
variable {K : PySem.W.Frag} {T : List (Addr × Str)} {H G : Hp} {M : DM} {D : Addr}
theorem Hld.hidden (h : Hld K T H G M) {vs : List V} (n : H D = none) : Hld K T (upd H D (.lst vs)) G M := by
  obtain ⟨g, m⟩ := h.free n
  refine ⟨fun a o e => ?_, h.nt, fun a o e => ?_, h.off, h.tab.ext (sub_upd n)⟩
  · rw [upd_ne (fun z => by rw [z, g] at e; cases e)]; exact h.sub a o e
  · exact (h.mem a o e).mono (fun _ _ z => z) (upd_ne fun z => by rw [z, m] at e; cases e)
theorem Hld.hid (h : Hld K T H G M) {vs ws : List V} (e0 : H D = some (.lst vs)) (g : G D = none) (m : M D = none) : Hld K T (upd H D (.lst ws)) G M := by
  refine ⟨fun a o e => ?_, h.nt, fun a o e => ?_, h.off, fun q hq => ?_⟩
  · rw [upd_ne (fun z => by rw [z, g] at e; cases e)]; exact h.sub a o e
  · exact (h.mem a o e).mono (fun _ _ z => z) (upd_ne fun z => by rw [z, m] at e; cases e)
  · obtain ⟨ps, a1, a2, a3⟩ := h.tab q hq
    have n1 : q.1 ≠ D := fun z => by rw [z, e0] at a1; cases a1
    refine ⟨ps, by rw [upd_ne n1]; exact a1, a2, fun pos cv hc => ?_⟩
    obtain ⟨c, e1, e2⟩ := a3 pos cv hc
    have n2 : c ≠ D := fun z => by rw [z, e0] at e2; cases e2
    exact ⟨c, e1, by rw [upd_ne n2]; exact e2⟩
theorem Tr.hid {H0 G0 : Hp} {M0 : DM} {o : HO} (t : Tr H0 G0 M0 H G M) (n : H0 D = none) : Tr H0 G0 M0 (upd H D o) G M :=
  ⟨t.g, fun a u e m nt => let ⟨h1, h2, h3⟩ := t.k a u e m nt; ⟨by rw [upd_ne (ne_of_none e n)]; exact h1, h2, h3⟩⟩
/-- .. shown: as a value, or as a list that may change -/
theorem Hld.showL (h : Hld K T H G M) {vs : List V} {ds : List Dat} (e0 : H D = some (.lst vs)) (g : G D = none) (m : M D = none) (l : ds.length ≤ sizeLine) (r : RepL K G vs ds) {H0 G0 : Hp} {M0 : DM} (t : Tr H0 G0 M0 H G M) (n : H0 D = none) :
    ∃ G', Hld K T H G' M ∧ Tr H0 G0 M0 H G' M ∧ Rep K G' (.ref D) (.lst ds) := by
  refine ⟨upd G D (.lst vs), ⟨fun a u e => ?_, fun a ps e => ?_, fun a u e => (h.mem a u e).mono (sub_upd g) rfl, fun a u e => ?_, h.tab⟩, ⟨fun a o e => sub_upd g a o (t.g a o e), fun a u e q nt => ?_⟩, .lst (.inl upd_same) l (r.mono (sub_upd g))⟩
  · by_cases hp : a = D
    · subst hp; rw [upd_same] at e; cases e; exact e0
    · rw [upd_ne hp] at e; exact h.sub a u e
  · by_cases hp : a = D
    · subst hp; rw [upd_same] at e; cases e
    · rw [upd_ne hp] at e; exact h.nt a ps e
  · rw [upd_ne (fun z => by rw [z, m] at e; cases e)]; exact h.off a u e
  · obtain ⟨h1, h2, h3⟩ := t.k a u e q nt
    exact ⟨h1, h2, fun z => by rw [upd_ne (ne_of_none e n)]; exact h3 z⟩
theorem Hld.showM (h : Hld K T H G M) {vs : List V} {ds : List Dat} (e0 : H D = some (.lst vs)) (g : G D = none) (m : M D = none) (l : ds.length ≤ sizeLine) (r : RepL K G vs ds) {H0 G0 : Hp} {M0 : DM} (t : Tr H0 G0 M0 H G M) (n : H0 D = none) :
    Hld K T H G (dupd M D (.lst ds)) ∧ Tr H0 G0 M0 H G (dupd M D (.lst ds)) := by
  refine ⟨⟨h.sub, h.nt, fun a u e => ?_, fun a u e => ?_, h.tab⟩, ⟨t.g, fun a u e q nt => ?_⟩⟩
  · by_cases hp : a = D
    · subst hp; rw [dupd_same] at e; cases e; exact ⟨vs, e0, l, r⟩
    · rw [dupd_ne hp] at e; exact h.mem a u e
  · by_cases hp : a = D
    · subst hp; exact g
    · rw [dupd_ne hp] at e; exact h.off a u e
  · obtain ⟨h1, h2, h3⟩ := t.k a u e q nt
    exact ⟨h1, by rw [dupd_ne (ne_of_none e n)]; exact h2, h3⟩
end

/-! ### comprehensions -/
abbrev W0 : WX := fun _ _ _ _ => False
abbrev DTs (X : Cx) (T : List (Addr × Str)) (W : WX) (d : DTT) (ifs : List Expr) : Prop := PTs X ifs (cT X.K T W d)
theorem PTs.weak {X : Cx} {e : List Expr} {t t' : TT} (h : PTs X e t) (i : ∀ σ H Q, t' σ H Q → t σ H Q) : PTs X e t' := ⟨fun pins s σ H Q I q => h.run pins s σ H Q I (i σ H Q q)⟩
def fYes : FT := fun _ => .ok true
def dLcL (g : DGt) (t : DTT) (de : DTE) (ρ : DSt) : List Dat → DM → (List Dat → DM → Prop) → Prop
  | [], M, Kf => Kf [] M
  | x :: xs, M, Kf => match g x ρ with
    | some ρ1 => t ρ1 M (fun b M1 => if b = true then de ρ1 M1 (fun y M2 => dLcL g t de ρ xs M2 (fun ys => Kf (y :: ys))) (fun _ _ => False) else dLcL g t de ρ xs M1 Kf) (fun _ _ => False)
    | none => False
def dLc (di : DTA) (g : DGt) (t : DTT) (de : DTE) (vs : List Nat) : DTE := fun ρ M Q E => di ρ M (fun xs M1 => dLcL g t de (wipeD ρ vs) xs M1 (fun ys M2 => Q (.lst ys) M2)) E
/-- .. a list that may change -/
def dLcM (di : DTA) (g : DGt) (t : DTT) (de : DTE) (vs : List Nat) : DTE := fun ρ M Q E => di ρ M (fun xs M1 => dLcL g t de (wipeD ρ vs) xs M1 (fun ys M2 => ∀ p, M2 p = none → Q (.ref p) (dupd M2 p (.lst ys)))) E
def fLcL (g : DGt) (t : FT) (f : FE) (ρ : DSt) : List Dat → R (List Dat)
  | [] => .ok []
  | x :: xs => match g x ρ with
    | some ρ1 => do
      if (← t ρ1) = true then
        let y ← f ρ1
        let ys ← fLcL g t f ρ xs
        .ok (y :: ys)
      else fLcL g t f ρ xs
    | none => .bad
def R.calm {α : Type} (x : R α) : R α := match x with
  | .ok a => .ok a
  | _ => .bad
def fLc (fi : FA) (g : DGt) (t : FT) (f : FE) (vs : List Nat) : FE := fun ρ => do let xs ← fi ρ; let ys ← (fLcL g t f (wipeD ρ vs) xs).calm; .ok (.lst ys)
theorem calm_wp {α : Type} (x : R α) (Q : α → Prop) (E : Value → Prop) : x.calm.wp Q E = x.wp Q fun _ => False := by cases x <;> rfl
theorem fLcL_imp (g : DGt) (t : FT) (f : FE) (ρ : DSt) : ∀ (xs : List Dat) (M : DM) (Kf : List Dat → DM → Prop), (fLcL g t f ρ xs).wp (fun ys => Kf ys M) (fun _ => False) → dLcL g (purT t) (pur f) ρ xs M Kf
  | [], M, Kf, h => h
  | x :: xs, M, Kf, h => by
    unfold fLcL at h
    unfold dLcL
    cases e : g x ρ with
    | none => rw [e] at h; exact h
    | some ρ1 =>
      rw [e] at h
      simp only [R.wp_bind] at h
      simp only [purT]
      cases e2 : t ρ1 with
      | ok b =>
        rw [e2] at h
        cases b with
        | false => exact fLcL_imp g t f ρ xs M Kf h
        | true =>
          simp only [R.wp_ok, if_true, R.wp_bind] at h ⊢
          simp only [pur]
          cases e3 : f ρ1 with
          | ok y =>
            rw [e3] at h
            exact fLcL_imp g t f ρ xs M _ h
          | exc c => rw [e3] at h; exact h
          | bad => rw [e3] at h; exact h
      | exc c => rw [e2] at h; exact h
      | bad => rw [e2] at h; exact h
section
variable {X : Cx} {T : List (Addr × Str)} {W : WX}
theorem dts_nil : DTs X T W (purT fYes) [] := PTs.weak pts_nil fun σ H Q ⟨G, M, ρ, QD, ED, h, r, hd, kq, ke⟩ => kq true H G M (Tr.refl ..) h hd
theorem dts_one {d : DTT} {c : Expr} (h : DT X T W d c) : DTs X T W d [c] := pts_one h
theorem lc_imp {K : PySem.W.Frag} {is vs : List Nat} {g : DGt} {di : DTA} {dt : DTT} {de : DTE} {σ : St} {H G : Hp} {M : DM} {ρ : DSt} {Q : VK} {Kf : List Dat → DM → Prop} {ED : DX} (hsub : ∀ k ∈ is, k ∈ vs) (hh : Hld K T H G M) (r : RS K G σ ρ)
    (hd : di ρ M (fun xs M1 => dLcL g dt de (wipeD ρ vs) xs M1 Kf) ED) (ke : ∀ c dd H' G' M', Tr H G M H' G' M' → Hld K T H' G' M' → ED c M' → Dd K c dd → W c dd σ H')
    (fin : ∀ D ys ws H' G' M' H0 G0 M0, Tr H G M H0 G0 M0 → H0 D = none → Tr H0 G0 M0 H' G' M' → Hld K T H' G' M' → H' D = some (.lst ws) → G' D = none → M' D = none → RepL K G' ws ys → ys.length ≤ sizeLine → Kf ys M' → Q (.ref D) H') :
    tLc (cI K T W di) (cG K T is g) (cT K T W0 dt) (cE K T W0 de) vs σ H Q := by
  refine ⟨G, M, ρ, _, ED, hh, r, hd, fun J H1 G1 M1 xs t1 h1 it1 q1 => ?_, ke⟩
  intro D hD
  have gD := (h1.free hD).1
  have mD := (h1.free hD).2
  refine ⟨fun i m H2 => m = xs.length - i ∧ i ≤ xs.length ∧ ∃ G2 M2 pre ws, Tr H1 G1 M1 H2 G2 M2 ∧ Hld K T H2 G2 M2 ∧ H2 D = some (.lst ws) ∧ G2 D = none ∧ M2 D = none ∧ RepL K G2 ws pre ∧ pre.length ≤ i ∧ dLcL g dt de (wipeD ρ vs) (xs.drop i) M2 (fun ys => Kf (pre ++ ys)),
    ⟨_, rfl, Nat.zero_le _, G1, M1, [], [], (Tr.refl ..).hid hD, h1.hidden hD, upd_same, gD, mD, .nil, Nat.le_refl _, q1⟩, ?_⟩
  rintro i m H2 ⟨rfl, hi, G2, M2, pre, ws, t2, h2, e2, g2, m2, r2, l2, q2⟩
  by_cases hlt : i < xs.length
  · refine .inr ⟨it1.go i H2 G2 M2 hlt t2.g h2, fun H' => ∃ G3 M3 pre ws, Tr H1 G1 M1 H' G3 M3 ∧ Hld K T H' G3 M3 ∧ H' D = some (.lst ws) ∧ G3 D = none ∧ M3 D = none ∧ RepL K G3 ws pre ∧ pre.length ≤ i + 1 ∧ dLcL g dt de (wipeD ρ vs) (xs.drop (i + 1)) M3 (fun ys => Kf (pre ++ ys)),
      fun H' hN => ⟨xs.length - (i + 1), by omega, rfl, hlt, hN⟩, fun x H3 y => ?_⟩
    have hx : xs[i]? = some xs[i] := List.getElem?_eq_getElem hlt
    obtain ⟨G3, t3, h3, r3⟩ := it1.yld i H2 G2 M2 x H3 _ hx t2.g h2 y
    rw [List.drop_eq_getElem_cons hlt] at q2
    unfold dLcL at q2
    have s13 : Sub G1 G3 := fun a o z => t3.g a o (t2.g a o z)
    cases e : g xs[i] (wipeD ρ vs) with
    | none => rw [e] at q2; exact q2.elim
    | some ρ3 =>
      rw [e] at q2
      have rw3 : RS K G3 (L2.wipe σ vs) (wipeD ρ vs) := ((r.mono t1.g).mono s13).wipe vs
      refine ⟨G3, M2, wipeD ρ vs, ρ3, _, h3, rw3, r3, e, fun σ2 hl2 ha2 rr2 => ⟨?_, ?_⟩⟩
      · rw [wipe_agree hl2 fun k hk => ha2 k fun z => hk (hsub k z), wipe_wipe]
      obtain ⟨a3, b3, c3⟩ := t3.k D _ e2 m2 (fun ps z => nomatch z)
      refine ⟨G3, M2, ρ3, _, _, h3, rr2, q2, fun b H4 G4 M4 t4 h4 q4 => ?_, fun _ _ _ _ _ _ _ z => z.elim⟩
      obtain ⟨a4, b4, c4⟩ := t4.k D _ a3 b3 (fun ps z => nomatch z)
      have t24 := t2.trans (t3.trans t4)
      cases b with
      | false =>
        rw [if_neg Bool.false_ne_true] at q4 ⊢
        exact ⟨G4, M4, pre, ws, t24, h4, a4, c4 (c3 g2), b4, r2.mono fun a o z => t4.g a o (t3.g a o z), by omega, q4⟩
      | true =>
        rw [if_pos rfl] at q4 ⊢
        refine ⟨G4, M4, ρ3, _, _, h4, rr2.mono t4.g, q4, fun v H5 G5 M5 x5 t5 h5 r5 q5 => ?_, fun _ _ _ _ _ _ _ z => z.elim⟩
        obtain ⟨a5, b5, c5⟩ := t5.k D _ a4 b4 (fun ps z => nomatch z)
        have rws := r2.mono fun a o z => t5.g a o (t4.g a o (t3.g a o z))
        have hlen := it1.len
        refine ⟨ws, a5, by rw [r2.length]; omega, G5, M5, pre ++ [x5], ws ++ [v], (t24.trans t5).hid hD, h5.hid a5 (c5 (c4 (c3 g2))) b5, upd_same, c5 (c4 (c3 g2)), b5, rws.append (.cons r5 .nil), by simp; omega, ?_⟩
        simpa [List.append_assoc] using q5
  · have e : i = xs.length := by omega
    subst e
    rw [List.drop_length] at q2
    have hlen := it1.len
    refine .inl ⟨it1.stop _ H2 G2 M2 (Nat.le_refl _) t2.g h2, fin D (pre ++ []) ws H2 G2 M2 H1 G1 M1 t1 hD t2 h2 e2 g2 m2 (by simpa using r2) (by simp; omega) q2⟩
theorem lcV_imp {K : PySem.W.Frag} {is vs : List Nat} {g : DGt} {di : DTA} {dt : DTT} {de : DTE} {σ : St} {H : Hp} {Q : VK} (hsub : ∀ k ∈ is, k ∈ vs) (h : cE K T W (dLc di g dt de vs) σ H Q) : tLc (cI K T W di) (cG K T is g) (cT K T W0 dt) (cE K T W0 de) vs σ H Q := by
  obtain ⟨G, M, ρ, QD, ED, hh, r, hd, kq, ke⟩ := h
  refine lc_imp hsub hh r hd ke fun D ys ws H' G' M' H0 G0 M0 t0 n0 t' h' e1 e2 e3 rr l q => ?_
  obtain ⟨G2, h2, t2, r2⟩ := h'.showL e1 e2 e3 l rr t' n0
  exact kq _ H' G2 M' _ (t0.trans t2) h2 r2 q
theorem lcM_imp {K : PySem.W.Frag} {is vs : List Nat} {g : DGt} {di : DTA} {dt : DTT} {de : DTE} {σ : St} {H : Hp} {Q : VK} (hsub : ∀ k ∈ is, k ∈ vs) (h : cE K T W (dLcM di g dt de vs) σ H Q) : tLc (cI K T W di) (cG K T is g) (cT K T W0 dt) (cE K T W0 de) vs σ H Q := by
  obtain ⟨G, M, ρ, QD, ED, hh, r, hd, kq, ke⟩ := h
  refine lc_imp hsub hh r hd ke fun D ys ws H' G' M' H0 G0 M0 t0 n0 t' h' e1 e2 e3 rr l q => ?_
  obtain ⟨h2, t2⟩ := h'.showM e1 e2 e3 l rr t' n0
  exact kq _ H' G' _ _ (t0.trans t2) h2 (.ref D) (q D e3)
variable {elt tg iter : Expr} {ifs : List Expr} {scope : Scope} {own : List (Str × Nat)} {pos : Pos} {di : DTA} {dt : DTT} {de : DTE} {is : List Nat} {g : DGt} {fi : FA} {ft : FT} {fe : FE}
abbrev Blk (X : Cx) (scope : Scope) (P : Cx → Prop) : Prop := ∀ (s : Shared) (H : Hp) (C : Addr) (cl : List (Str × Addr)) (fp : List Addr), P (X.blk s H scope (compEnvC scope cl C X.env) fp)
theorem de_lc (hc : X.calm = true) (hN : X.N.Nodup) (hi : DI X T W di tg iter) (ok : BlkOk X.N X.env.scope scope own) (hg : Blk X scope fun Y => DG Y T is g tg) (ht : Blk X scope fun Y => DTs Y T W0 dt ifs) (he : Blk X scope fun Y => DE Y T W0 de elt)
    (hsub : ∀ k ∈ is, k ∈ own.map (·.2)) (hs : ∀ x, foldedSetIterable iter X.env x = pure x := by intro _; rfl) : DE X T W (dLc di g dt de (own.map (·.2))) (.ListComp elt [⟨tg, iter, ifs, 0⟩] scope pos) :=
  PE.weak (pe_lc hc hN hi ok hg ht he hs) fun _ _ _ h => lcV_imp hsub h
theorem de_lcM (hc : X.calm = true) (hN : X.N.Nodup) (hi : DI X T W di tg iter) (ok : BlkOk X.N X.env.scope scope own) (hg : Blk X scope fun Y => DG Y T is g tg) (ht : Blk X scope fun Y => DTs Y T W0 dt ifs) (he : Blk X scope fun Y => DE Y T W0 de elt)
    (hsub : ∀ k ∈ is, k ∈ own.map (·.2)) (hs : ∀ x, foldedSetIterable iter X.env x = pure x := by intro _; rfl) : DE X T W (dLcM di g dt de (own.map (·.2))) (.ListComp elt [⟨tg, iter, ifs, 0⟩] scope pos) :=
  PE.weak (pe_lc hc hN hi ok hg ht he hs) fun _ _ _ h => lcM_imp hsub h
theorem fLc_imp (fi : FA) (g : DGt) (ft : FT) (fe : FE) (vs : List Nat) (ρ : DSt) (M : DM) (Q : DQ) (E : DX) (h : pur (fLc fi g ft fe vs) ρ M Q E) : dLc (purA fi) g (purT ft) (pur fe) vs ρ M Q E := by
  simp only [pur, fLc, R.wp_bind, calm_wp] at h
  simp only [dLc, purA]
  cases e : fi ρ with
  | ok xs => rw [e] at h; exact fLcL_imp g ft fe _ xs M _ h
  | exc c => rw [e] at h; exact h
  | bad => rw [e] at h; exact h
theorem cE_weak {K : PySem.W.Frag} {d d' : DTE} (i : ∀ ρ M Q E, d' ρ M Q E → d ρ M Q E) {σ : St} {H : Hp} {Q : VK} (h : cE K T W d' σ H Q) : cE K T W d σ H Q := by
  obtain ⟨G, M, ρ, QD, ED, hh, r, hd, k⟩ := h
  exact ⟨G, M, ρ, QD, ED, hh, r, i _ _ _ _ hd, k⟩
theorem de_weak {d d' : DTE} {e : Expr} (h : DE X T W d e) (i : ∀ ρ M Q E, d' ρ M Q E → d ρ M Q E) : DE X T W d' e := PE.weak h fun _ _ _ q => cE_weak i q
theorem dp_lc (hc : X.calm = true) (hN : X.N.Nodup) (hi : DI X T W (purA fi) tg iter) (ok : BlkOk X.N X.env.scope scope own) (hg : Blk X scope fun Y => DG Y T is g tg) (ht : Blk X scope fun Y => DTs Y T W0 (purT ft) ifs) (he : Blk X scope fun Y => DE Y T W0 (pur fe) elt)
    (hsub : ∀ k ∈ is, k ∈ own.map (·.2)) (hs : ∀ x, foldedSetIterable iter X.env x = pure x := by intro _; rfl) : DE X T W (pur (fLc fi g ft fe (own.map (·.2)))) (.ListComp elt [⟨tg, iter, ifs, 0⟩] scope pos) :=
  de_weak (de_lc hc hN hi ok hg ht he hsub hs) (fLc_imp fi g ft fe _)
/-- name = [..] on one line -/
theorem ds_setLc {i : Nat} {y : Str} {py spos : Pos} (hc : X.calm = true) (hN : X.N.Nodup) (hi : DI X T W di tg iter) (ok : BlkOk X.N X.env.scope scope own) (hg : Blk X scope fun Y => DG Y T is g tg) (ht : Blk X scope fun Y => DTs Y T W0 dt ifs) (he : Blk X scope fun Y => DE Y T W0 de elt)
    (hsub : ∀ k ∈ is, k ∈ own.map (·.2)) (hsw : swapsWith (.ListComp elt [⟨tg, iter, ifs, 0⟩] scope pos) (some (.Name y py)) spos.line X.env = pure true) (hy : X.N[i]? = some y := by rfl) (hyl : X.env.scope.names.lookup y = some .local := by rfl) (hs : ∀ x, foldedSetIterable iter X.env x = pure x := by intro _; rfl) :
    DS X T W (dSet i (dLc di g dt de (own.map (·.2)))) (.Assign [.Name y py] (.ListComp elt [⟨tg, iter, ifs, 0⟩] scope pos) spos) :=
  PS.weak (ps_setLc hc hN hy hyl hsw hi ok hg ht he hs) fun _ _ _ h => set_imp (fun _ _ _ q => lcV_imp hsub q) h
theorem dsp_setLc {i : Nat} {y : Str} {py spos : Pos} (hc : X.calm = true) (hN : X.N.Nodup) (hi : DI X T W (purA fi) tg iter) (ok : BlkOk X.N X.env.scope scope own) (hg : Blk X scope fun Y => DG Y T is g tg) (ht : Blk X scope fun Y => DTs Y T W0 (purT ft) ifs) (he : Blk X scope fun Y => DE Y T W0 (pur fe) elt)
    (hsub : ∀ k ∈ is, k ∈ own.map (·.2)) (hsw : swapsWith (.ListComp elt [⟨tg, iter, ifs, 0⟩] scope pos) (some (.Name y py)) spos.line X.env = pure true) (hy : X.N[i]? = some y := by rfl) (hyl : X.env.scope.names.lookup y = some .local := by rfl) (hs : ∀ x, foldedSetIterable iter X.env x = pure x := by intro _; rfl) :
    DS X T W (purS (fSet i (fLc fi g ft fe (own.map (·.2))))) (.Assign [.Name y py] (.ListComp elt [⟨tg, iter, ifs, 0⟩] scope pos) spos) :=
  ds_weak (ds_setLc hc hN hi ok hg ht he hsub hsw hy hyl hs) fun D ρ M h => fLc_imp fi g ft fe _ ρ M _ _ (fSet_imp i _ D ρ M h)
theorem ds_setLcM {i : Nat} {y : Str} {py spos : Pos} (hc : X.calm = true) (hN : X.N.Nodup) (hi : DI X T W di tg iter) (ok : BlkOk X.N X.env.scope scope own) (hg : Blk X scope fun Y => DG Y T is g tg) (ht : Blk X scope fun Y => DTs Y T W0 dt ifs) (he : Blk X scope fun Y => DE Y T W0 de elt)
    (hsub : ∀ k ∈ is, k ∈ own.map (·.2)) (hsw : swapsWith (.ListComp elt [⟨tg, iter, ifs, 0⟩] scope pos) (some (.Name y py)) spos.line X.env = pure true) (hy : X.N[i]? = some y := by rfl) (hyl : X.env.scope.names.lookup y = some .local := by rfl) (hs : ∀ x, foldedSetIterable iter X.env x = pure x := by intro _; rfl) :
    DS X T W (dSet i (dLcM di g dt de (own.map (·.2)))) (.Assign [.Name y py] (.ListComp elt [⟨tg, iter, ifs, 0⟩] scope pos) spos) :=
  PS.weak (ps_setLc hc hN hy hyl hsw hi ok hg ht he hs) fun _ _ _ h => set_imp (fun _ _ _ q => lcM_imp hsub q) h

/-! ### calls of the program's own defs -/
abbrev DSp := List Dat → DM → DQ → DX → Prop
def spOf (K : PySem.W.Frag) (T : List (Addr × Str)) (n : Nat) (dsp : DSp) : Sp := fun vs H Q E => vs.length = n ∧ ∃ (G : Hp) (M : DM) (ds : List Dat) (QD : DQ) (ED : DX), Hld K T H G M ∧ RepL K G vs ds ∧ dsp ds M QD ED ∧
  (∀ v H' G' M' x, Tr H G M H' G' M' → Hld K T H' G' M' → Rep K G' v x → QD x M' → Q v H') ∧
  (∀ c dd H' G' M', Tr H G M H' G' M' → Hld K T H' G' M' → ED c M' → Dd K c dd → E c dd H')
/-- a def that may be called by its name -/
structure Cal (P : Program) (w : World) (K : PySem.W.Frag) (mg : Str → Option Value) (base : Heap) (T : List (Addr × Str)) (k : Nat) (x : Str) (n : Nat) (dsp : DSp) : Prop where
  ex : ∃ (f : Addr) (fd : FuncData) (ps : List Str), FnOk P w K mg base (L2N.CX P w) k f fd ps (spOf K T n dsp) ∧ mg x = some (.ref f) ∧ PySem.W.keepIn K (.ref f) = true ∧ L2.Binds K fd ps []
abbrev Call (X : Cx) (T : List (Addr × Str)) (k : Nat) (x : Str) (n : Nat) (dsp : DSp) : Prop := Cal X.prog X.w X.K X.mg X.base T k x n dsp
def dCall (n : Nat) (dsp : DSp) (l : DTA) : DTE := fun ρ M Q E => l ρ M (fun xs M1 => xs.length = n ∧ dsp xs M1 Q E) E
variable {k n : Nat} {x : Str} {dsp : DSp} {dl : DTA} {e : Expr} {es : List Expr} {p : Pos}
theorem callS_imp {σ : St} {H : Hp} {Q : VK} (h : cE X.K T W (dCall n dsp dl) σ H Q) : tCallS (spOf X.K T n dsp) (WE W) (cA X.K T W dl) σ H Q := by
  obtain ⟨G, M, ρ, QD, ED, hh, r, hd, kq, ke⟩ := h
  refine cA_mk hh r _ ED hd (fun vs H1 G1 M1 xs t1 h1 r1 q1 => ?_) ke
  exact ⟨by rw [r1.length]; exact q1.1, G1, M1, xs, QD, ED, h1, r1, q1.2, fun v H' G' M' x t => kq v H' G' M' x (t1.trans t), fun c dd H' G' M' t => ke c dd H' G' M' (t1.trans t)⟩
theorem de_call (tk : L2N.Takes X W) (hr : Room k X.A) (F : Call X T k x n dsp) (ha : DA X T W dl (e :: es)) (hg : Gl X x := by rfl) (hdb : (x == ("__debug__" : Str)) = false := by decide)
    (he : starEach (e :: es) X.env = (false, eval e X.env) :: starEach es X.env := by rfl) (hpl : (backTo pos (starEach es X.env)).any (·.1) = false := by rfl) : DE X T W (dCall n dsp dl) (.Call (.Name x p) (e :: es) [] pos) := by
  obtain ⟨f, fd, ps, F, hm, hk, hb⟩ := F.ex
  exact PE.weak (pe_callS F hr hg hm hk hb (fun σ => L2N.passAt tk σ) ha hdb he hpl) fun _ _ _ h => callS_imp h
theorem de_call0 (tk : L2N.Takes X W) (hr : Room k X.A) (F : Call X T k x 0 dsp) (hg : Gl X x := by rfl) (hdb : (x == ("__debug__" : Str)) = false := by decide) : DE X T W (dCall 0 dsp dNil) (.Call (.Name x p) [] [] pos) := by
  obtain ⟨f, fd, ps, F, hm, hk, hb⟩ := F.ex
  refine ⟨fun pins s σ H Q I ⟨G, M, ρ, QD, ED, hh, r, hd, kq, ke⟩ => ?_⟩
  refine wpAny_Call_Name_kw (ld_glob I hg hm ?_ hdb)
  exact PySem.W.callWith_K0 I.kIn hk (run_fnS (us := []) (E := WE W) F hr hb (L2N.passAt tk σ) I .nil ⟨rfl, G, M, [], QD, ED, hh, .nil, hd.2, kq, ke⟩)
def purSp (f : List Dat → R Dat) : DSp := fun ds M Q E => (f ds).wp (fun x => Q x M) (fun c => E c M)
def fCall (n : Nat) (f : List Dat → R Dat) (l : FA) : FE := fun ρ => do let xs ← l ρ; if xs.length = n then f xs else .bad
theorem dCall_pur (n : Nat) (f : List Dat → R Dat) (l : FA) : dCall n (purSp f) (purA l) = pur (fCall n f l) := by
  funext ρ M Q E; simp only [dCall, purSp, purA, pur, fCall, R.wp_bind, R.wp_ite, R.wp_bad, ite_and]
variable {fl : FA} {f : List Dat → R Dat}
theorem dp_call (tk : L2N.Takes X W) (hr : Room k X.A) (F : Call X T k x n (purSp f)) (ha : DA X T W (purA fl) (e :: es)) (hg : Gl X x := by rfl) (hdb : (x == ("__debug__" : Str)) = false := by decide)
    (he : starEach (e :: es) X.env = (false, eval e X.env) :: starEach es X.env := by rfl) (hpl : (backTo pos (starEach es X.env)).any (·.1) = false := by rfl) : DE X T W (pur (fCall n f fl)) (.Call (.Name x p) (e :: es) [] pos) := by
  rw [← dCall_pur]; exact de_call tk hr F ha hg hdb he hpl
/-- a promise for another -/
theorem Cal.imp {P : Program} {w : World} {K : PySem.W.Frag} {mg : Str → Option Value} {base : Heap} {dsp dsp' : DSp} (c : Cal P w K mg base T k x n dsp) (h : ∀ ds M Q E, ds.length = n → dsp' ds M Q E → dsp ds M Q E) : Cal P w K mg base T k x n dsp' := by
  obtain ⟨f, fd, ps, F, r⟩ := c.ex
  refine ⟨f, fd, ps, F.imp fun vs H Q E ⟨l, G, M, ds, QD, ED, hh, rr, q, z⟩ => ⟨l, G, M, ds, QD, ED, hh, rr, h _ _ _ _ (by rw [← rr.length]; exact l) q, z⟩, r⟩
theorem Cal.mono {P : Program} {w : World} {K : PySem.W.Frag} {mg : Str → Option Value} {base : Heap} {dsp : DSp} {j : Nat} (c : Cal P w K mg base T k x n dsp) (h : k ≤ j) : Cal P w K mg base T j x n dsp := by
  obtain ⟨f, fd, ps, F, r⟩ := c.ex
  exact ⟨f, fd, ps, F.mono h, r⟩
end

theorem tk0 {X : Cx} : L2N.Takes X W0 := fun _ _ ⟨_, _, _, _, _, _, _, _, _, _, _, _, _, _, _, _, z⟩ => z.elim
/-! ### defs -/
def startD (N : List Str) (ds : List Dat) : DSt := ds.map some ++ List.replicate (N.length - ds.length) none
theorem rs_start {K : PySem.W.Frag} {G : Hp} {N : List Str} {vs : List V} {ds : List Dat} (r : RepL K G vs ds) : RS K G (L2.start N vs) (startD N ds) := by
  refine ⟨by simp [L2.start, startD, r.length], fun i d e => ?_⟩
  unfold startD at e
  by_cases hi : i < ds.length
  · rw [List.getElem?_append_left (by simpa using hi), List.getElem?_map] at e
    obtain ⟨d', h1, h2⟩ := Option.map_eq_some_iff.mp e
    cases h2
    obtain ⟨v, hv, rv⟩ := r.get h1
    refine ⟨v, ?_, rv⟩
    unfold L2.start
    rw [List.getElem?_append_left (by simpa [r.length] using hi), List.getElem?_map, hv]
    rfl
  · rw [List.getElem?_append_right (by simpa using hi), List.getElem?_replicate] at e
    split at e <;> cases e
abbrev WD (E : XK) : WX := fun cls d _ H => E cls d H
section
variable {P : Program} {w : World} {K : PySem.W.Frag} {mg : Str → Option Value} {base : Heap} {T : List (Addr × Str)}
/-- what a body's reading makes of a def -/
def dDef (N : List Str) (d : DTS) : DSp := fun ds M Q E => d { nx := fun _ M' => Q .non M', rt := Q, ex := fun c _ M' => E c M' } (startD N ds) M
theorem sp_run {n : Nat} {N : List Str} {d : DTS} {vs : List V} {H : Hp} {Q : VK} {E : XK} (h : spOf K T n (dDef N d) vs H Q E) : cS K T (WD E) d { nx := fun _ H' => Q .non H', rt := Q } (L2.start N vs) H := by
  obtain ⟨_, G, M, ds, QD, ED, hh, rr, hd, kq, ke⟩ := h
  exact ⟨G, M, startD N ds, _, hh, rs_start rr, hd, fun σ' H' G' M' ρ' t h' _ q => kq _ H' G' M' _ t h' .non q, kq, fun _ _ _ _ _ _ _ _ z => z, fun _ _ _ _ _ _ _ _ z => z, fun c dd σ' H' G' M' ρ' t h' _ q => ke c dd H' G' M' t h' q⟩
/-- pure bodies -/
def fDef (N : List Str) (f : FS) : List Dat → R Dat := fun ds => do
  match ← f (startD N ds) with
  | .nx _ => .ok .non
  | .rt x => .ok x
  | _ => .bad
theorem fDef_imp (N : List Str) (f : FS) (ds : List Dat) (M : DM) (Q : DQ) (E : DX) (h : purSp (fDef N f) ds M Q E) : dDef N (purS f) ds M Q E := by
  simp only [purSp, fDef, R.wp_bind] at h
  simp only [dDef, purS]
  cases e : f (startD N ds) with
  | ok fl => rw [e] at h; cases fl <;> first | exact h | exact h.elim
  | exc c => rw [e] at h; exact fun _ => h
  | bad => rw [e] at h; exact h
end

/-! ### raise -/
section
variable {X : Cx} {T : List (Addr × Str)} {W : WX}
def dRaise (C : Addr) : DTS := fun D ρ M => D.ex (.ref C) ρ M
def fRaise (C : Addr) : FS := fun _ => .exc (.ref C)
theorem ds_raise {C : Addr} {bmB : List Value} {B newId initId : String} {x m : Str} {j : Nat} {p p2 p3 pos : Pos} (hc : X.calm = true) (tk : L2N.Takes X W) (F : ExcBaseFacts B newId initId bmB) (q : PySem.W.excIn X.K C bmB newId = true) (gC : X.mg x = some (.ref C)) (kC : PySem.W.keepIn X.K (.ref C) = true)
    (h1 : PySem.W.subIn X.K (.ref C) (.type "BaseException") = some true) (h2 : PySem.W.typeIn X.K (.ref C) = some (.type "type")) (hg : Gl X x := by rfl) (hdb : (x == ("__debug__" : Str)) = false := by decide) :
    DS X T W (dRaise C) (.Raise (some (.Call (.Name x p) [.Constant (.str m) j p2] [] p3)) none pos) := by
  refine PS.weak (L2N.ps_raise hc tk (L2N.pmk_own F q gC kC (raises_own h1 h2) hg hdb)) fun D σ H ⟨G, M, ρ, DD, hh, r, hd, k1, k2, k3, k4, k5⟩ => ?_
  exact k5 _ _ σ H G M ρ (Tr.refl ..) hh r hd (.inl rfl)
theorem dsp_raise {C : Addr} {bmB : List Value} {B newId initId : String} {x m : Str} {j : Nat} {p p2 p3 pos : Pos} (hc : X.calm = true) (tk : L2N.Takes X W) (F : ExcBaseFacts B newId initId bmB) (q : PySem.W.excIn X.K C bmB newId = true) (gC : X.mg x = some (.ref C)) (kC : PySem.W.keepIn X.K (.ref C) = true)
    (h1 : PySem.W.subIn X.K (.ref C) (.type "BaseException") = some true) (h2 : PySem.W.typeIn X.K (.ref C) = some (.type "type")) (hg : Gl X x := by rfl) (hdb : (x == ("__debug__" : Str)) = false := by decide) :
    DS X T W (purS (fRaise C)) (.Raise (some (.Call (.Name x p) [.Constant (.str m) j p2] [] p3)) none pos) := ds_weak (ds_raise hc tk F q gC kC h1 h2 hg hdb) fun D ρ M h => h ρ
end
end DL

end
section
set_option Elab.async false
set_option linter.all false
set_option maxRecDepth 100000
set_option maxHeartbeats 4000000
/-! DL, part 7: two clauses, append, stores, freezing, sorted, not. -/
namespace DL
open PySem PySem.Spec PyProof.Rows L2

/-! ### a comprehension of two clauses -/
def dLc2L (g : DGt) (t : DTT) (di1 : DTA) (g1 : DGt) (t1 : DTT) (de : DTE) (vs1 : List Nat) (ρ : DSt) : List Dat → Nat → DM → (List Dat → DM → Prop) → Prop
  | [], _, M, Kf => Kf [] M
  | x :: xs, n, M, Kf => match g x ρ with
    | some ρ1 => t ρ1 M (fun b M1 => if b = true then di1 ρ1 M1 (fun ys M2 => n + ys.length ≤ sizeLine ∧ dLcL g1 t1 de (wipeD ρ1 vs1) ys M2 (fun zs M3 => dLc2L g t di1 g1 t1 de vs1 ρ xs (n + zs.length) M3 (fun ws => Kf (zs ++ ws)))) (fun _ _ => False)
      else dLc2L g t di1 g1 t1 de vs1 ρ xs n M1 Kf) (fun _ _ => False)
    | none => False
def dLc2 (di : DTA) (g : DGt) (t : DTT) (di1 : DTA) (g1 : DGt) (t1 : DTT) (de : DTE) (vs vs1 : List Nat) : DTE :=
  fun ρ M Q E => di ρ M (fun xs M1 => dLc2L g t di1 g1 t1 de vs1 (wipeD ρ vs) xs 0 M1 (fun ys M2 => Q (.lst ys) M2)) E
def fLc2L (g : DGt) (t : FT) (fi1 : FA) (g1 : DGt) (t1 : FT) (f : FE) (vs1 : List Nat) (ρ : DSt) : List Dat → Nat → R (List Dat)
  | [], _ => .ok []
  | x :: xs, n => match g x ρ with
    | some ρ1 => do
      if (← t ρ1) = true then
        let ys ← fi1 ρ1
        if n + ys.length ≤ sizeLine then
          let zs ← fLcL g1 t1 f (wipeD ρ1 vs1) ys
          let ws ← fLc2L g t fi1 g1 t1 f vs1 ρ xs (n + zs.length)
          .ok (zs ++ ws)
        else .bad
      else fLc2L g t fi1 g1 t1 f vs1 ρ xs n
    | none => .bad
def fLc2 (fi : FA) (g : DGt) (t : FT) (fi1 : FA) (g1 : DGt) (t1 : FT) (f : FE) (vs vs1 : List Nat) : FE := fun ρ => do let xs ← fi ρ; let ys ← (fLc2L g t fi1 g1 t1 f vs1 (wipeD ρ vs) xs 0).calm; .ok (.lst ys)
theorem fLc2L_imp (g : DGt) (t : FT) (fi1 : FA) (g1 : DGt) (t1 : FT) (f : FE) (vs1 : List Nat) (ρ : DSt) : ∀ (xs : List Dat) (n : Nat) (M : DM) (Kf : List Dat → DM → Prop), (fLc2L g t fi1 g1 t1 f vs1 ρ xs n).wp (fun ys => Kf ys M) (fun _ => False) →
    dLc2L g (purT t) (purA fi1) g1 (purT t1) (pur f) vs1 ρ xs n M Kf
  | [], n, M, Kf, h => h
  | x :: xs, n, M, Kf, h => by
    unfold fLc2L at h
    unfold dLc2L
    cases e : g x ρ with
    | none => rw [e] at h; exact h
    | some ρ1 =>
      rw [e] at h
      simp only [R.wp_bind] at h
      simp only [purT]
      cases e2 : t ρ1 with
      | ok b =>
        rw [e2] at h
        cases b with
        | false => exact fLc2L_imp g t fi1 g1 t1 f vs1 ρ xs n M Kf h
        | true =>
          simp only [R.wp_ok, if_true, R.wp_bind] at h ⊢
          simp only [purA]
          cases e3 : fi1 ρ1 with
          | ok ys =>
            rw [e3] at h
            simp only [R.wp_ok] at h ⊢
            by_cases hz : n + ys.length ≤ sizeLine
            · rw [if_pos hz] at h
              refine ⟨hz, fLcL_imp g1 t1 f _ ys M _ ?_⟩
              simp only [R.wp_bind] at h
              cases e4 : fLcL g1 t1 f (wipeD ρ1 vs1) ys with
              | ok zs =>
                rw [e4] at h
                exact fLc2L_imp g t fi1 g1 t1 f vs1 ρ xs _ M _ h
              | exc c => rw [e4] at h; exact h
              | bad => rw [e4] at h; exact h
            · rw [if_neg hz] at h; exact h.elim
          | exc c => rw [e3] at h; exact h
          | bad => rw [e3] at h; exact h
      | exc c => rw [e2] at h; exact h
      | bad => rw [e2] at h; exact h
section
variable {X : Cx} {T : List (Addr × Str)} {W : WX}
theorem lc2_imp {K : PySem.W.Frag} {is is1 vs vs1 : List Nat} {g g1 : DGt} {di di1 : DTA} {dt dt1 : DTT} {de : DTE} {σ : St} {H : Hp} {Q : VK} (hsub : ∀ k ∈ is, k ∈ vs) (hsub1 : ∀ k ∈ is1, k ∈ vs1) (h : cE K T W (dLc2 di g dt di1 g1 dt1 de vs vs1) σ H Q) :
    tLc2 (cI K T W di) (cG K T is g) (cT K T W0 dt) (cI K T W0 di1) (cG K T is1 g1) (cT K T W0 dt1) (cE K T W0 de) vs vs1 σ H Q := by
  obtain ⟨G, M, ρ, QD, ED, hh, r, hd, kq, ke⟩ := h
  refine ⟨G, M, ρ, _, ED, hh, r, hd, fun J H1 G1 M1 xs t1 h1 it1 q1 => ?_, ke⟩
  intro D hD
  have gD := (h1.free hD).1
  have mD := (h1.free hD).2
  refine ⟨fun i m H2 => m = xs.length - i ∧ i ≤ xs.length ∧ ∃ G2 M2 pre ws, Tr H1 G1 M1 H2 G2 M2 ∧ Hld K T H2 G2 M2 ∧ H2 D = some (.lst ws) ∧ G2 D = none ∧ M2 D = none ∧ RepL K G2 ws pre ∧ pre.length ≤ sizeLine ∧ dLc2L g dt di1 g1 dt1 de vs1 (wipeD ρ vs) (xs.drop i) pre.length M2 (fun ys M3 => QD (.lst (pre ++ ys)) M3),
    ⟨_, rfl, Nat.zero_le _, G1, M1, [], [], (Tr.refl ..).hid hD, h1.hidden hD, upd_same, gD, mD, .nil, Nat.zero_le _, q1⟩, ?_⟩
  rintro i m H2 ⟨rfl, hi, G2, M2, pre, ws, t2, h2, e2, g2, m2, r2, l2, q2⟩
  by_cases hlt : i < xs.length
  · refine .inr ⟨it1.go i H2 G2 M2 hlt t2.g h2, fun H' => ∃ G3 M3 pre ws, Tr H1 G1 M1 H' G3 M3 ∧ Hld K T H' G3 M3 ∧ H' D = some (.lst ws) ∧ G3 D = none ∧ M3 D = none ∧ RepL K G3 ws pre ∧ pre.length ≤ sizeLine ∧ dLc2L g dt di1 g1 dt1 de vs1 (wipeD ρ vs) (xs.drop (i + 1)) pre.length M3 (fun ys M4 => QD (.lst (pre ++ ys)) M4),
      fun H' hN => ⟨xs.length - (i + 1), by omega, rfl, hlt, hN⟩, fun x H3 y => ?_⟩
    have hx : xs[i]? = some xs[i] := List.getElem?_eq_getElem hlt
    obtain ⟨G3, t3, h3, r3⟩ := it1.yld i H2 G2 M2 x H3 _ hx t2.g h2 y
    rw [List.drop_eq_getElem_cons hlt] at q2
    unfold dLc2L at q2
    have s13 : Sub G1 G3 := fun a o z => t3.g a o (t2.g a o z)
    cases e : g xs[i] (wipeD ρ vs) with
    | none => rw [e] at q2; exact q2.elim
    | some ρ3 =>
      rw [e] at q2
      have rw3 : RS K G3 (L2.wipe σ vs) (wipeD ρ vs) := ((r.mono t1.g).mono s13).wipe vs
      refine ⟨G3, M2, wipeD ρ vs, ρ3, _, h3, rw3, r3, e, fun σ2 hl2 ha2 rr2 => ⟨?_, ?_⟩⟩
      · rw [wipe_agree hl2 fun k hk => ha2 k fun z => hk (hsub k z), wipe_wipe]
      obtain ⟨a3, b3, c3⟩ := t3.k D _ e2 m2 (fun ps z => nomatch z)
      refine ⟨G3, M2, ρ3, _, _, h3, rr2, q2, fun b H4 G4 M4 t4 h4 q4 => ?_, fun _ _ _ _ _ _ _ z => z.elim⟩
      obtain ⟨a4, b4, c4⟩ := t4.k D _ a3 b3 (fun ps z => nomatch z)
      have t24 := t2.trans (t3.trans t4)
      have r4 := r2.mono fun a o z => t4.g a o (t3.g a o z)
      cases b with
      | false =>
        rw [if_neg Bool.false_ne_true] at q4 ⊢
        exact ⟨G4, M4, pre, ws, t24, h4, a4, c4 (c3 g2), b4, r4, l2, q4⟩
      | true =>
        rw [if_pos rfl] at q4 ⊢
        refine ⟨G4, M4, ρ3, _, _, h4, rr2.mono t4.g, q4, fun J1 H5 G5 M5 ys t5 h5 it5 q5 => ?_, fun _ _ _ _ _ _ _ z => z.elim⟩
        obtain ⟨a5, b5, c5⟩ := t5.k D _ a4 b4 (fun ps z => nomatch z)
        have t25 := t24.trans t5
        have r5 := r4.mono t5.g
        have g5 := c5 (c4 (c3 g2))
        have s35 : Sub G3 G5 := fun a o z => t5.g a o (t4.g a o z)
        refine ⟨fun j k H6 => k = ys.length - j ∧ j ≤ ys.length ∧ ∃ G6 M6 pre' ws, Tr H1 G1 M1 H6 G6 M6 ∧ Sub G5 G6 ∧ Hld K T H6 G6 M6 ∧ H6 D = some (.lst ws) ∧ G6 D = none ∧ M6 D = none ∧ RepL K G6 ws (pre ++ pre') ∧ pre'.length ≤ j ∧
            dLcL g1 dt1 de (wipeD ρ3 vs1) (ys.drop j) M6 (fun zs M7 => dLc2L g dt di1 g1 dt1 de vs1 (wipeD ρ vs) (xs.drop (i + 1)) (pre.length + (pre' ++ zs).length) M7 (fun ws M8 => QD (.lst (pre ++ ((pre' ++ zs) ++ ws))) M8)),
          ⟨_, rfl, Nat.zero_le _, G5, M5, [], ws, t25, fun _ _ z => z, h5, a5, g5, b5, by rw [List.append_nil]; exact r5, Nat.le_refl _, q5.2⟩, ?_⟩
        rintro j k H6 ⟨rfl, hj, G6, M6, pre', ws6, t6, s6, h6, a6, g6, m6, r6, l6, q6⟩
        have hzz := q5.1
        by_cases hlt1 : j < ys.length
        · refine .inr ⟨it5.go j H6 G6 M6 hlt1 s6 h6, fun H' => ∃ G7 M7 pre' ws, Tr H1 G1 M1 H' G7 M7 ∧ Sub G5 G7 ∧ Hld K T H' G7 M7 ∧ H' D = some (.lst ws) ∧ G7 D = none ∧ M7 D = none ∧ RepL K G7 ws (pre ++ pre') ∧ pre'.length ≤ j + 1 ∧
              dLcL g1 dt1 de (wipeD ρ3 vs1) (ys.drop (j + 1)) M7 (fun zs M7 => dLc2L g dt di1 g1 dt1 de vs1 (wipeD ρ vs) (xs.drop (i + 1)) (pre.length + (pre' ++ zs).length) M7 (fun ws M8 => QD (.lst (pre ++ ((pre' ++ zs) ++ ws))) M8)),
            fun H' hN => ⟨ys.length - (j + 1), by omega, rfl, hlt1, hN⟩, fun x7 H7 y7 => ?_⟩
          have hy : ys[j]? = some ys[j] := List.getElem?_eq_getElem hlt1
          obtain ⟨G7, t7, h7, r7⟩ := it5.yld j H6 G6 M6 x7 H7 _ hy s6 h6 y7
          rw [List.drop_eq_getElem_cons hlt1] at q6
          unfold dLcL at q6
          cases e7 : g1 ys[j] (wipeD ρ3 vs1) with
          | none => rw [e7] at q6; exact q6.elim
          | some ρ7 =>
            rw [e7] at q6
            have s57 : Sub G5 G7 := fun a o z => t7.g a o (s6 a o z)
            have rw7 : RS K G7 (L2.wipe σ2 vs1) (wipeD ρ3 vs1) := (rr2.mono fun a o z => s57 a o (s35 a o z)).wipe vs1
            refine ⟨G7, M6, wipeD ρ3 vs1, ρ7, _, h7, rw7, r7, e7, fun σ3 hl3 ha3 rr3 => ⟨?_, ?_⟩⟩
            · rw [wipe_agree hl3 fun k hk => ha3 k fun z => hk (hsub1 k z), wipe_wipe]
            obtain ⟨a7, b7, c7⟩ := t7.k D _ a6 m6 (fun ps z => nomatch z)
            refine ⟨G7, M6, ρ7, _, _, h7, rr3, q6, fun b H8 G8 M8 t8 h8 q8 => ?_, fun _ _ _ _ _ _ _ z => z.elim⟩
            obtain ⟨a8, b8, c8⟩ := t8.k D _ a7 b7 (fun ps z => nomatch z)
            have t68 := t6.trans (t7.trans t8)
            have s58 : Sub G5 G8 := fun a o z => t8.g a o (s57 a o z)
            have r8 := r6.mono fun a o z => t8.g a o (t7.g a o z)
            cases b with
            | false =>
              rw [if_neg Bool.false_ne_true] at q8 ⊢
              exact ⟨G8, M8, pre', ws6, t68, s58, h8, a8, c8 (c7 g6), b8, r8, by omega, q8⟩
            | true =>
              rw [if_pos rfl] at q8 ⊢
              refine ⟨G8, M8, ρ7, _, _, h8, rr3.mono t8.g, q8, fun v H9 G9 M9 x9 t9 h9 r9 q9 => ?_, fun _ _ _ _ _ _ _ z => z.elim⟩
              obtain ⟨a9, b9, c9⟩ := t9.k D _ a8 b8 (fun ps z => nomatch z)
              have g9 := c9 (c8 (c7 g6))
              have ll := r6.length
              rw [List.length_append] at ll
              refine ⟨ws6, a9, by omega, G9, M9, pre' ++ [x9], ws6 ++ [v], (t68.trans t9).hid hD, fun a o z => t9.g a o (s58 a o z), h9.hid a9 g9 b9, upd_same, g9, b9, by
                rw [← List.append_assoc]; exact (r8.mono t9.g).append (.cons r9 .nil), by simp; omega, ?_⟩
              simpa [List.append_assoc] using q9
        · have ej : j = ys.length := by omega
          subst ej
          rw [List.drop_length] at q6
          unfold dLcL at q6
          refine .inl ⟨it5.stop _ H6 G6 M6 (Nat.le_refl _) s6 h6, G6, M6, pre ++ pre', ws6, t6, h6, a6, g6, m6, r6, by rw [List.length_append]; omega, ?_⟩
          rw [List.length_append]
          simpa [List.append_assoc] using q6
  · have e : i = xs.length := by omega
    subst e
    rw [List.drop_length] at q2
    unfold dLc2L at q2
    rw [List.append_nil] at q2
    obtain ⟨G3, h3, t3, r3⟩ := h2.showL e2 g2 m2 l2 r2 t2 hD
    exact .inl ⟨it1.stop _ H2 G2 M2 (Nat.le_refl _) t2.g h2, kq _ H2 G3 M2 _ (t1.trans t3) h3 r3 q2⟩
variable {elt tg iter tg1 iter1 : Expr} {ifs ifs1 : List Expr} {scope : Scope} {own : List (Str × Nat)} {pos : Pos} {di di1 : DTA} {dt dt1 : DTT} {de : DTE} {is is1 vs1 : List Nat} {g g1 : DGt} {fi fi1 : FA} {ft ft1 : FT} {fe : FE}
theorem de_lc2 (hc : X.calm = true) (hN : X.N.Nodup) (hi : DI X T W di tg iter) (ok : BlkOk X.N X.env.scope scope own) (hv : ∀ i ∈ vs1, i ∈ own.map (·.2)) (hg : Blk X scope fun Y => DG Y T is g tg) (ht : Blk X scope fun Y => DTs Y T W0 dt ifs)
    (hi1 : Blk X scope fun Y => DI Y T W0 di1 tg1 iter1) (hg1 : Blk X scope fun Y => DG Y T is1 g1 tg1) (ht1 : Blk X scope fun Y => DTs Y T W0 dt1 ifs1) (he : Blk X scope fun Y => DE Y T W0 de elt)
    (hsub : ∀ k ∈ is, k ∈ own.map (·.2)) (hsub1 : ∀ k ∈ is1, k ∈ vs1) (hs : ∀ x, foldedSetIterable iter X.env x = pure x := by intro _; rfl) (hs1 : ∀ env x, foldedSetIterable iter1 env x = pure x := by intro _ _; rfl) :
    DE X T W (dLc2 di g dt di1 g1 dt1 de (own.map (·.2)) vs1) (.ListComp elt [⟨tg, iter, ifs, 0⟩, ⟨tg1, iter1, ifs1, 0⟩] scope pos) :=
  PE.weak (pe_lc2 hc hN hi ok hv hg ht hi1 hg1 ht1 he hs hs1) fun _ _ _ h => lc2_imp hsub hsub1 h
theorem fLc2_imp (fi : FA) (g : DGt) (ft : FT) (fi1 : FA) (g1 : DGt) (ft1 : FT) (fe : FE) (vs vs1 : List Nat) (ρ : DSt) (M : DM) (Q : DQ) (E : DX) (h : pur (fLc2 fi g ft fi1 g1 ft1 fe vs vs1) ρ M Q E) : dLc2 (purA fi) g (purT ft) (purA fi1) g1 (purT ft1) (pur fe) vs vs1 ρ M Q E := by
  simp only [pur, fLc2, R.wp_bind, calm_wp] at h
  simp only [dLc2, purA]
  cases e : fi ρ with
  | ok xs => rw [e] at h; exact fLc2L_imp g ft fi1 g1 ft1 fe vs1 _ xs 0 M _ h
  | exc c => rw [e] at h; exact h
  | bad => rw [e] at h; exact h
theorem dp_lc2 (hc : X.calm = true) (hN : X.N.Nodup) (hi : DI X T W (purA fi) tg iter) (ok : BlkOk X.N X.env.scope scope own) (hv : ∀ i ∈ vs1, i ∈ own.map (·.2)) (hg : Blk X scope fun Y => DG Y T is g tg) (ht : Blk X scope fun Y => DTs Y T W0 (purT ft) ifs)
    (hi1 : Blk X scope fun Y => DI Y T W0 (purA fi1) tg1 iter1) (hg1 : Blk X scope fun Y => DG Y T is1 g1 tg1) (ht1 : Blk X scope fun Y => DTs Y T W0 (purT ft1) ifs1) (he : Blk X scope fun Y => DE Y T W0 (pur fe) elt)
    (hsub : ∀ k ∈ is, k ∈ own.map (·.2)) (hsub1 : ∀ k ∈ is1, k ∈ vs1) (hs : ∀ x, foldedSetIterable iter X.env x = pure x := by intro _; rfl) (hs1 : ∀ env x, foldedSetIterable iter1 env x = pure x := by intro _ _; rfl) :
    DE X T W (pur (fLc2 fi g ft fi1 g1 ft1 fe (own.map (·.2)) vs1)) (.ListComp elt [⟨tg, iter, ifs, 0⟩, ⟨tg1, iter1, ifs1, 0⟩] scope pos) :=
  de_weak (de_lc2 hc hN hi ok hv hg ht hi1 hg1 ht1 he hsub hsub1 hs hs1) (fLc2_imp fi g ft fi1 g1 ft1 fe _ _)

/-! ### not, as a value -/
def oNot (d : Dat) : Option Dat := (oTru d).map fun b => .bl (!b)
theorem de_not {a : Expr} {da : DTE} (ha : DE X T W da a) : DE X T W (dOp1 oNot da) (.UnaryOp .Not a pos) := by
  refine PE.weak (pe_notT ha) fun σ H Q ⟨G, M, ρ, QD, ED, hh, r, hd, kq, ke⟩ => ?_
  refine cE_mk hh r _ ED hd (fun x H1 G1 M1 dx t1 h1 r1 q1 => ?_) ke
  unfold oNot at q1
  cases e : oTru dx with
  | none => rw [e] at q1; exact q1.elim
  | some k =>
    rw [e] at q1
    exact ⟨k, oTru_ok h1.sub r1 e, kq _ H1 G1 M1 _ t1 h1 (.bl _) q1⟩
theorem dp_not {a : Expr} {fa : FE} (ha : DE X T W (pur fa) a) : DE X T W (pur (fOp1 oNot fa)) (.UnaryOp .Not a pos) := by rw [← dOp1_pur]; exact de_not ha

/-! ### lists that change -/
def dApp (do_ de : DTE) : DTE := fun ρ M Q E => do_ ρ M (fun o M1 => ∃ p ds', o = .ref p ∧ M1 p = some (.lst ds') ∧ de ρ M1 (fun x M2 => ∃ ds, M2 p = some (.lst ds) ∧ ds.length < sizeLine ∧ Q .non (dupd M2 p (.lst (ds ++ [x])))) E) E
theorem de_append {o e : Expr} {do_ de : DTE} {apos cpos : Pos} (ho : DE X T W do_ o) (he : DE X T W de e)
    (hs : starEach [e] X.env = (false, eval e X.env) :: starEach [] X.env := by rfl) (hbase : attributeBase o "append" X.env (eval o X.env) = eval o X.env := by rfl)
    (hfew : ((backTo cpos (starEach [e] X.env)).all (fun x => !x.1) && (backToKw cpos (keywordEach [] X.env)).all (fun x => x.1.isSome)
      && decide ([e].length + ([] : List Keyword).length + (if ([] : List Keyword).isEmpty then 0 else 1) < 30)) = true := by rfl)
    (hline : (apos.endLine == cpos.line) = true := by rfl) (hplain : (backTo cpos (starEach [] X.env)).any (·.1) = false := by rfl) :
    DE X T W (dApp do_ de) (.Call (.Attribute o "append" apos) [e] [] cpos) := by
  refine PE.weak (pe_bm PySem.F.plainAttrs_list PySem.F.slot_list_append PySem.F.type_list_append mt_append ho (pa_cons he pa_nil hs) hbase hfew hline hs hplain) fun σ H Q ⟨G, M, ρ, QD, ED, hh, r, hd, kq, ke⟩ => ?_
  refine cE_mk hh r _ ED hd (fun o H1 G1 M1 dx t1 h1 r1 q1 => ?_) ke
  obtain ⟨p, ds', rfl, e1, q1⟩ := q1
  cases r1
  obtain ⟨vs', a1, _, _⟩ := h1.mem p _ e1
  refine ⟨.inl ⟨rfl, vs', .inl (.inl a1)⟩, ?_⟩
  refine cE_mk h1 (r.mono t1.g) _ ED q1 (fun x H2 G2 M2 dy t2 h2 r2 q2 => ?_) fun c dd H' G' M' t => ke c dd H' G' M' (t1.trans t)
  obtain ⟨ds, e2, l2, q2⟩ := q2
  obtain ⟨vs, a2, _, rr⟩ := h2.mem p _ e2
  obtain ⟨h3, t3⟩ := h2.setM e2 (ds := ds ++ [dy]) (vs := vs ++ [x]) (by simp; omega) (rr.append (.cons r2 .nil))
  exact ⟨p, vs, x, rfl, rfl, a2, by rw [rr.length]; exact l2, kq _ _ G2 _ _ (t1.trans (t2.trans t3)) h3 .non q2⟩
/-- o[i] = e -/
def dStore (do_ di de : DTE) : DTS := fun D ρ M => de ρ M (fun x M1 => do_ ρ M1 (fun o M2 => di ρ M2 (fun i M3 => ∃ p ds k j, o = .ref p ∧ i = .int k ∧ M3 p = some (.lst ds) ∧ ixN ds.length k = some j ∧ D.nx ρ (dupd M3 p (.lst (ds.set j x)))) (fun c M3 => D.ex c ρ M3)) (fun c M2 => D.ex c ρ M2)) (fun c M1 => D.ex c ρ M1)
theorem ds_store {o i e : Expr} {do_ di de : DTE} {pos p2 : Pos} (he : DE X T W de e) (ho : DE X T W do_ o) (hi : DE X T W di i) (hs : swapsWithSole [.Subscript o i p2] e pos.line X.env = pure false := by rfl) (hw : swappedStores [.Subscript o i p2] e X.env = pure none := by rfl)
    (h1 : (assignEach [.Subscript o i p2] X.env).map (·.2) = [assign (.Subscript o i p2) X.env] := by rfl)
    (ha : ∀ v, assign (.Subscript o i p2) X.env v = (do
      let ov ← holding [v] (eval o X.env)
      let iv ← holding [v, ov] (eval i X.env)
      standAt p2
      holding [v, ov, iv] (setItem ov iv v)
      release [v, ov, iv] []) := by intro _; rfl) : DS X T W (dStore do_ di de) (.Assign [.Subscript o i p2] e pos) := by
  refine PS.weak (ps_asg he (pg_sub ho hi set_list ha) hs hw h1) fun D σ H ⟨G, M, ρ, DD, hh, r, hd, k1, k2, k3, k4, k5⟩ => ?_
  refine cE_mk hh r _ _ hd (fun x H1 G1 M1 dx t1 h1 r1 q1 => ?_) fun c dd H' G' M' t h' q => k5 c dd σ H' G' M' ρ t h' (r.mono t.g) q
  refine cE_mk h1 (r.mono t1.g) _ _ q1 (fun y H2 G2 M2 dy t2 h2 r2 q2 => ?_) fun c dd H' G' M' t h' q => k5 c dd σ H' G' M' ρ (t1.trans t) h' (r.mono (t1.trans t).g) q
  have t12 := t1.trans t2
  refine cE_mk h2 (r.mono t12.g) _ _ q2 (fun z H3 G3 M3 dz t3 h3 r3 q3 => ?_) fun c dd H' G' M' t h' q => k5 c dd σ H' G' M' ρ (t12.trans t) h' (r.mono (t12.trans t).g) q
  obtain ⟨p, ds, k, j, rfl, rfl, e3, hj, q3⟩ := q3
  cases r2
  cases r3
  obtain ⟨vs, a3, l3, rr⟩ := h3.mem p _ e3
  have t23 : Sub G1 G3 := fun a o z => t3.g a o (t2.g a o z)
  obtain ⟨h4, t4⟩ := h3.setM e3 (ds := ds.set j dx) (vs := vs.set j x) (by simpa using l3) (rr.set (r1.mono t23) j)
  have t14 := t12.trans (t3.trans t4)
  exact ⟨p, vs, k, j, rfl, rfl, a3, by rw [rr.length]; exact hj, k1 σ _ G3 _ ρ t14 h4 (r.mono t14.g) q3⟩
/-- a list that changes no more is a value -/
def dFrz (i : Nat) (d : DTS) : DTS := fun D ρ M => ∃ p ds, ρ[i]? = some (some (.ref p)) ∧ M p = some (.lst ds) ∧ d D (ρ.set i (some (.lst ds))) (ddel M p)
theorem rs_frz {K : PySem.W.Frag} {G G' : Hp} {σ : St} {ρ : DSt} {i : Nat} {p : Addr} {ds : List Dat} (r : RS K G σ ρ) (s : Sub G G') (e : ρ[i]? = some (some (.ref p))) (h : Rep K G' (.ref p) (.lst ds)) : RS K G' σ (ρ.set i (some (.lst ds))) := by
  obtain ⟨v, hv, rv⟩ := r.at_ i _ e
  cases rv
  have q := (r.mono s).set h i
  have e2 : σ.set i (some (.ref p)) = σ := by
    apply List.ext_getElem?
    intro k
    by_cases hk : i = k
    · subst hk
      rw [hv, List.getElem?_set_self (List.getElem?_eq_some_iff.mp hv).1]
    · rw [List.getElem?_set_ne hk]
  rw [e2] at q
  exact q
theorem dss_frz {i : Nat} {d : DTS} {st : List Stmt} (h : DSs X T W d st) : DSs X T W (dFrz i d) st := by
  refine PSs.weak h fun D σ H ⟨G, M, ρ, DD, hh, r, ⟨p, ds, e1, e2, hd⟩, k1, k2, k3, k4, k5⟩ => ?_
  obtain ⟨G', h', t', rp⟩ := hh.frz e2
  exact cS_self h' (rs_frz r t'.g e1 rp) hd (fun σ2 H2 G2 M2 ρ2 t2 => k1 σ2 H2 G2 M2 ρ2 (t'.trans t2)) (fun v H2 G2 M2 x t2 => k2 v H2 G2 M2 x (t'.trans t2))
    (fun σ2 H2 G2 M2 ρ2 t2 => k3 σ2 H2 G2 M2 ρ2 (t'.trans t2)) (fun σ2 H2 G2 M2 ρ2 t2 => k4 σ2 H2 G2 M2 ρ2 (t'.trans t2)) fun c dd σ2 H2 G2 M2 ρ2 t2 => k5 c dd σ2 H2 G2 M2 ρ2 (t'.trans t2)

/-! ### sorted -/
def isI : Dat → Bool
  | .int _ => true
  | _ => false
def isRow : Dat → Bool
  | .tup (x :: xs) => (x :: xs).all isI
  | _ => false
def leD : Dat → Dat → Bool := PySem.W.dataLe false py
def oSorted : List Dat → Option Dat
  | [.lst xs] => if xs.all isI || xs.all isRow then some (.lst (xs.mergeSort leD)) else none
  | _ => none
theorem isI_int {d : Dat} (h : isI d = true) : ∃ i, d = .int i := by cases d <;> first | exact ⟨_, rfl⟩ | cases h
theorem all_ints : ∀ {xs : List Dat}, xs.all isI = true → ∃ ns : List Int, xs = ns.map .int
  | [], _ => ⟨[], rfl⟩
  | x :: xs, h => by
    rw [List.all_cons, Bool.and_eq_true] at h
    obtain ⟨i, rfl⟩ := isI_int h.1
    obtain ⟨ns, rfl⟩ := all_ints h.2
    exact ⟨i :: ns, rfl⟩
theorem isRow_tup {d : Dat} (h : isRow d = true) : ∃ (n : Int) (ns : List Int), d = .tup ((n :: ns).map .int) := by
  cases d with
  | tup xs =>
    cases xs with
    | nil => cases h
    | cons x xs =>
      obtain ⟨ns, e⟩ := all_ints (xs := x :: xs) h
      cases ns with
      | nil => cases e
      | cons n ns => exact ⟨n, ns, by rw [e]⟩
  | _ => cases h
theorem pyL_ints (ns : List Int) : pyL (ns.map .int) = ns.map .int := by
  induction ns with
  | nil => rfl
  | cons n ns ih => simp [pyL, py, ih]
theorem each_rep {K : PySem.W.Frag} {G : Hp} : ∀ {vs : List V} {ds : List Dat} {us : List Value}, RepL K G vs ds → Vals vs us → PySem.W.EachIs (fun v d => ∃ x, RelV x v ∧ Rep K G x d) us ds
  | _, _, _, .nil, .nil => .nil
  | _, _, _, .cons r t, .cons a b => .cons ⟨_, a, r⟩ (each_rep t b)
theorem rep_each {K : PySem.W.Frag} {G : Hp} : ∀ {ds : List Dat} {us : List Value}, PySem.W.EachIs (fun v d => ∃ x, RelV x v ∧ Rep K G x d) us ds → ∃ vs, Vals vs us ∧ RepL K G vs ds
  | _, _, .nil => ⟨[], .nil, .nil⟩
  | _, _, .cons ⟨x, a, r⟩ t => by
    obtain ⟨vs, h1, h2⟩ := rep_each t
    exact ⟨x :: vs, .cons a h1, .cons r h2⟩
theorem each_reads {pins : List (Addr × Obj)} {σ : St} {H G : Hp} {s : Shared} (I : Inv X pins σ H s) (sb : Sub G H) {n : Nat} : ∀ {vs : List V} {ds : List Dat} {us : List Value}, RepL X.K G vs ds → Vals vs us → (∀ d ∈ ds, dok n d = true) → PySem.W.EachIs (fun v d => ∃ as, Reads s.heap v (py d) as) us ds
  | _, _, _, .nil, .nil, _ => .nil
  | _, _, _, .cons r t, .cons a b, h => .cons (Dp.reads I _ _ _ (r.dp sb n (h _ List.mem_cons_self)) a) (each_reads I sb t b fun d hd => h d (List.mem_cons_of_mem _ hd))
theorem dok_row {d : Dat} (h : isI d = true ∨ isRow d = true) : dok 1 d = true := by
  rcases h with h | h
  · obtain ⟨i, rfl⟩ := isI_int h; rfl
  · obtain ⟨n, ns, rfl⟩ := isRow_tup h
    simp [dok]
theorem cd_sorted (hu : X.A.units + 4 < cLine) : CD X T (.builtin "sorted") oSorted := by
  intro pins s σ H vs us Q I r ⟨G, M, ds, z, hh, rr, e, kq⟩
  unfold oSorted at e
  split at e
  · split at e
    · rename_i xs hc
      cases e
      obtain ⟨v, rfl, rv⟩ := one_case rr
      rw [Bool.or_eq_true] at hc
      have hrow : ∀ d ∈ xs, isI d = true ∨ isRow d = true := fun d hd => hc.elim (fun h => .inl (List.all_eq_true.mp h d hd)) fun h => .inr (List.all_eq_true.mp h d hd)
      have hdk : ∀ d ∈ xs, dok 1 d = true := fun d hd => dok_row (hrow d hd)
      cases rv with
      | lst ha hl rl =>
        rw [Vals.ref1 r]
        obtain ⟨its, rv, pl, hz⟩ := I.list (sqL_mono hh.sub ha)
        have hal : PySem.W.AllAlike (xs.map py) := by
          intro d hd d' hd'
          obtain ⟨b, hb, rfl⟩ := List.mem_map.mp hd
          obtain ⟨b', hb', rfl⟩ := List.mem_map.mp hd'
          rcases hc with hc | hc
          · obtain ⟨i, rfl⟩ := isI_int (List.all_eq_true.mp hc b hb)
            obtain ⟨j, rfl⟩ := isI_int (List.all_eq_true.mp hc b' hb')
            simp [py, PySem.W.alike]
          · obtain ⟨n, ns, rfl⟩ := isRow_tup (List.all_eq_true.mp hc b hb)
            obtain ⟨m, ms, rfl⟩ := isRow_tup (List.all_eq_true.mp hc b' hb')
            simp only [py, pyL_ints, PySem.W.alike]
            exact PySem.W.alike_ints _ _
        have hk : PySem.W.Sortable (xs.map py) := by
          rcases hc with hc | hc
          · refine .inr fun d hd => ?_
            obtain ⟨b, hb, rfl⟩ := List.mem_map.mp hd
            obtain ⟨i, rfl⟩ := isI_int (List.all_eq_true.mp hc b hb)
            exact ⟨by simp [py], fun xs => by simp [py]⟩
          · refine .inl fun d hd => ?_
            obtain ⟨b, hb, rfl⟩ := List.mem_map.mp hd
            obtain ⟨n, ns, rfl⟩ := isRow_tup (List.all_eq_true.mp hc b hb)
            exact ⟨.int n, ns.map .int, by simp only [py, pyL_ints]; rfl⟩
        have el := rl.length
        have ev := rv.length
        refine PySem.W.sorted_data (R := fun v d => ∃ x, RelV x v ∧ Rep X.K G x d) pl.isList (each_rep rl rv) (each_reads I hh.sub rl rv hdk) hal hk hl (fun b hb => ?_) fun out hlen eo => ?_
        · have := (dok_py 1 b (hdk b hb)).2
          omega
        · obtain ⟨vs', a1, a2⟩ := rep_each eo
          obtain ⟨ep, he'⟩ := PyProof.Rows.sortedAll_at s.heap its out.toArray
          have hl' : (xs.mergeSort leD).length ≤ sizeLine := by rw [List.length_mergeSort]; exact hl
          have hf : H (s.heap.objs.size + 1) = none := I.hok.fresh (Nat.le_succ _)
          obtain ⟨G', t2, h2, r2⟩ := hh.newL hf hl' a2
          exact ⟨.ref _, upd H (s.heap.objs.size + 1) (.lst vs'), I.laid (t' := s.toks) (fun _ _ => PyProof.Rows.sortedAll_old) (Nat.le_succ _) ⟨by rw [a2.length]; exact hl', out, ep, a1, he'⟩, rfl, kq _ _ G' t2 h2 r2⟩
    · cases e
  · cases e
end
end DL

end
section
set_option Elab.async false
set_option linter.all false
set_option maxRecDepth 100000
set_option maxHeartbeats 4000000
/-! DL, part 8: defs by facts, room, is. -/
namespace DL
open PySem PySem.Spec PyProof.Rows L2
abbrev FnP (K : PySem.W.Frag) (x : Str) (st : Stmt) (f : Addr) (fd : FuncData) : Prop := FunD K x x (L2.defArgs st) (L2.defBody st) (L2.defScope st) [] [] f fd
theorem uR {k : Nat} {A : Around} (r : Room k A) : A.units < cLine := by have := r.un; omega
theorem uR4 {k : Nat} {A : Around} (r : Room k A) : A.units + 4 < cLine := by have := r.un; omega
theorem uR64 {k : Nat} {A : Around} (r : Room k A) : A.units + 64 < cLine := by have := r.un; omega
theorem uR65 {k : Nat} {A : Around} (r : Room k A) : A.units + 65 < cLine := by have := r.un; omega
/-- what an own exception class of one base chain says -/
structure ExcX (K : PySem.W.Frag) (mg : Str → Option Value) (bmB : List Value) (newId : String) (x : Str) (C : Addr) : Prop where
  q : PySem.W.excIn K C bmB newId = true
  g : mg x = some (.ref C)
  k : PySem.W.keepIn K (.ref C) = true
  b : PySem.W.subIn K (.ref C) (.type "BaseException") = some true
  t : PySem.W.typeIn K (.ref C) = some (.type "type")
section
variable {P : Program} {w : World} {K : PySem.W.Frag} {mg : Str → Option Value} {base : Heap} {T : List (Addr × Str)}
theorem fn_dp {x : Str} {st : Stmt} {f : Addr} {fd : FuncData} {N ps : List Str} {k : Nat} {d : DTS} (F : FnP K x st f fd) (S : FnScope N ps (L2.defScope st))
    (hbody : ∀ (cdv : Value) (A : Around) (outer : List Env) (s : Shared) (H : Hp) (E : XK), Room k (A.deeper (envOfC x (L2.defScope st) s.heap.objs.size f cdv)) →
      DSs (cxOf (L2N.CX P w) P w K mg base N x (L2.defScope st) f cdv A outer s H E) T (WD E) d (L2.defBody st)) : FnOk P w K mg base (L2N.CX P w) (k + 1) f fd ps (spOf K T ps.length (dDef N d)) :=
  F.ok S (fun vs H Q E h => h.1) fun cdv A outer s H vs Q E hr h => ⟨_, hbody cdv A outer s H E hr, sp_run h⟩
theorem cal_dp {x : Str} {st : Stmt} {f : Addr} {fd : FuncData} {N ps : List Str} {k n : Nat} {d : DTS} (hm : mg x = some (.ref f)) (F : FnP K x st f fd)
    (hb : ∀ (kV doc pm : Value) (an : Option Addr) (cdv ct : Value) (us : List Value), us.length = ps.length → bindArgs (PySem.W.fnOf x x (L2.defArgs st) (L2.defBody st) (L2.defScope st) .none kV doc pm an cdv ct) ⟨us, []⟩ = pure (ps.zip us)) (S : FnScope N ps (L2.defScope st)) (hn : ps.length = n)
    (hbody : ∀ (cdv : Value) (A : Around) (outer : List Env) (s : Shared) (H : Hp) (E : XK), Room k (A.deeper (envOfC x (L2.defScope st) s.heap.objs.size f cdv)) →
      DSs (cxOf (L2N.CX P w) P w K mg base N x (L2.defScope st) f cdv A outer s H E) T (WD E) d (L2.defBody st)) : Cal P w K mg base T (k + 1) x n (dDef N d) := by
  subst hn
  exact ⟨f, fd, ps, fn_dp F S hbody, hm, F.kp, F.bindsN hb⟩
theorem cal_pure {x : Str} {N : List Str} {k n : Nat} {f : FS} (c : Cal P w K mg base T k x n (dDef N (purS f))) : Cal P w K mg base T k x n (purSp (fDef N f)) := c.imp fun ds M Q E _ h => fDef_imp _ _ ds M Q E h
end
section
variable {X : Cx} {T : List (Addr × Str)}
def isN : Dat → Bool
  | .non => true
  | _ => false
def oIsN : Dat → Dat → Option Dat
  | x, .non => some (.bl (isN x))
  | _, _ => none
def oIsNotN : Dat → Dat → Option Dat
  | x, .non => some (.bl (!isN x))
  | _, _ => none
theorem isN_ok {K : PySem.W.Frag} {G : Hp} {x : V} {d : Dat} (r : Rep K G x d) : decide (x = V.non) = isN d := by cases r <;> simp [isN]
theorem od_is : OD X T (compareOp .Is) oIsN := by
  refine od_of fun pins s σ H x y v u Q G M dx dy z I rx ry hh r1 r2 e kq => ?_
  have ey : dy = .non := by unfold oIsN at e; split at e <;> first | rfl | cases e
  subst ey
  cases r2
  cases e
  refine op_isN pins s σ H x .non v u Q I rx ry ⟨rfl, ?_⟩
  rw [isN_ok r1]
  exact kq _ H G (Tr.refl ..) hh (.bl _)
theorem od_isNot : OD X T (compareOp .IsNot) oIsNotN := by
  refine od_of fun pins s σ H x y v u Q G M dx dy z I rx ry hh r1 r2 e kq => ?_
  have ey : dy = .non := by unfold oIsNotN at e; split at e <;> first | rfl | cases e
  subst ey
  cases r2
  cases e
  refine op_notN pins s σ H x .non v u Q I rx ry ⟨rfl, ?_⟩
  rw [isN_ok r1]
  exact kq _ H G (Tr.refl ..) hh (.bl _)
end
end DL

end
section
set_option Elab.async false
set_option linter.all false
set_option maxRecDepth 100000
set_option maxHeartbeats 4000000
/-! DL, part 9: while an exception is handled: ends of iterators, unpacking, comprehensions. -/
namespace DLH
open PySem PySem.Spec PyProof.Rows L2 HotX
section
variable {prog : Program} {w : World} {A : Around} {E : Value → Shared → Prop} {s : Shared}
theorem hot_upd {x1 a : Addr} {h : Heap} {f : Obj → Obj} (hot : HotAt A x1 h) (ne : a ≠ x1) : HotAt A x1 (h.update a f) := by
  obtain ⟨e, o, vs, g, d, c⟩ := hot
  exact ⟨e, o, vs, (Heap.get?_update_other _ _ ne).trans g, d, c⟩
theorem hot_ext {x1 a : Addr} {h h' : Heap} (hot : HotAt A x1 h) (k : Heap.ExtBut a h h') (ne : x1 ≠ a) : HotAt A x1 h' := by
  obtain ⟨e, o, vs, g, d, c⟩ := hot
  exact ⟨e, o, vs, k _ _ ne g, d, c⟩
theorem ref_nn (a : Addr) : ¬ ((Value.ref a == Value.none) = true) := Bool.false_ne_true
/-- a StopIteration raised here -/
theorem stop_hot {α : Type} {x1 : Addr} {Q : α → Shared → Prop} (hot : HotAt A x1 s.heap) (hE : ∀ h' e, (∀ b o, s.heap.get? b = some o → h'.get? b = some o) → (∃ o, h'.get? e = some o ∧ o.cls = .type "StopIteration") → E (.ref e) { s with heap := h' }) :
    wpAny (model prog w) A ((newExc (.type "StopIteration") [] >>= fun e => raiseNew e) : Sem α) Q E s := by
  obtain ⟨hh, o1, vs1, g1, d1, c1⟩ := hot
  refine wpAny_bind ?_
  simp only [newExc, newTuple]
  refine wpAny_bind (wpAny_newObj_type ?_ (by size_fits))
  refine wpAny_bind (m := firstArgMember _ _) (wpAny_of_eq (a := Value.none) (by first | rfl | (simp only [firstArgMember]; rfl)) ?_)
  refine wpAny_newObj_type ?_ (by size_fits)
  have g2 := Heap.get?_push_of_some { cls := .type "tuple", data := .seq #[] } g1
  refine raiseNew_hot ⟨hh, o1, vs1, Heap.get?_push_of_some _ g2, d1, c1⟩ (Nat.ne_of_lt (Heap.lt_size g2)) (Heap.get?_push_size _ rfl) rfl (by first | (simp; done) | (simp; omega) | (simp only [Array.size_append]; simp; omega)) (hE _ _ (fun b o e => ?_) ⟨_, Heap.get?_update_self _ (Heap.get?_push_size _ rfl) rfl, rfl⟩)
  have e2 := Heap.get?_push_of_some { cls := .type "tuple", data := .seq #[] } e
  exact (Heap.get?_update_other _ _ (Nat.ne_of_gt (Heap.lt_size e2))).trans (Heap.get?_push_of_some _ e2)
theorem nextOf_end {it l x1 : Addr} {i : Nat} {items : Array Value} {Q : Value → Shared → Prop} (hot : HotAt A x1 s.heap) (ne : it ≠ x1) (hit : s.heap.IsListIter it l i) (hl : s.heap.IsList l items) (hx : items[i]? = none)
    (hE : ∀ h' e, Heap.ExtBut it s.heap h' → (∃ o, h'.get? e = some o ∧ o.cls = .type "StopIteration") → E (.ref e) { s with heap := h' }) : wpAny (model prog w) A (Builtin.SmallTypes.nextOf (.ref it)) Q E s := by
  obtain ⟨oi, gi, ci, di⟩ := id hit
  obtain ⟨ol, gl, _, nl, dl⟩ := hl
  unfold Builtin.SmallTypes.nextOf
  refine wpAny_bind (wpAny_callSpecial?_slot (name := Str.ofString "__next__") hit.typeIs slot_listiter_next (wpAny_call_entry slot_listiter_next hit.typeIs entry_listiter_next ?_ (args_listiter_next _)))
  show wpAny _ _ (field (.ref it) 0 >>= _) _ _ s
  refine wpAny_bind (wpAny_field gi di (x := .ref l) rfl ?_)
  show wpAny _ _ (if (Value.ref l == Value.none) = true then _ else _) _ _ s
  rw [if_neg (ref_nn _)]
  show wpAny _ _ (field (.ref it) 1 >>= _) _ _ s
  refine wpAny_bind (wpAny_field gi di (x := .int i 0) rfl ?_)
  show wpAny _ _ (seqItems? (.ref l) >>= _) _ _ s
  refine wpAny_bind (wpAny_seqItems gl dl ?_)
  simp only [Int.toNat_natCast, hx]
  refine wpAny_bind (wpAny_rule (wpAny_bind (wpAny_setField gi di (by simp) ?_)))
  show wpAny _ _ (newExc (.type "StopIteration") [] >>= _) _ _ _
  refine stop_hot (hot_upd hot ne) fun h' e k he => hE h' e (fun b o hb q => k b o ((Heap.get?_update_other _ _ (Ne.symm hb)).trans q)) he
/-- zip at its end: the first list is through -/
theorem zip_end {z TI TO i1 i2 l1 l2 x1 : Addr} {k1 : Nat} {xs : Array Value} {a b : Value} {Q : Option Value → Shared → Prop} (hot : HotAt A x1 s.heap) (nz : z ≠ x1) (n1 : i1 ≠ x1) (D : ZipApart z TI TO i1 i2 l1 l2)
    (hz : IsZip s.heap z TI TO .none) (hTI : IsPair s.heap TI (.ref i1) (.ref i2)) (hTO : IsPair s.heap TO a b) (g1 : s.heap.IsListIter i1 l1 k1) (hl1 : s.heap.IsList l1 xs) (hx : xs[k1]? = none)
    (hQ : ∀ h', (∀ c o, c ≠ z → c ≠ i1 → s.heap.get? c = some o → h'.get? c = some o) → Q none { s with heap := h' }) : wpAny (model prog w) A (pyNext (.ref z)) Q E s := by
  have ty : s.TypeIs (.ref z) "zip" := ⟨_, hz, rfl⟩
  unfold pyNext
  refine wpAny_bind (wpAny_attempt (wpAny_callSpecial?_slot (name := Str.ofString "__next__") ty F.slot_zip_next (wpAny_call_entry F.slot_zip_next ty F.entry_zip_next ?_ (F.args_zip_next_1 _))))
  show wpAny _ _ (field (.ref z) 2 >>= _) _ _ _
  refine wpAny_bind (wpAny_field hz rfl (x := .bool false) rfl ?_)
  show wpAny _ _ (field (.ref z) 3 >>= _) _ _ _
  refine wpAny_bind (wpAny_field hz rfl (x := .ref TI) rfl (wpAny_bind (wpAny_seqItems hTI rfl ?_)))
  show wpAny _ _ (Builtin.SmallTypes.ownedTupleIsFree (.ref z) >>= _) _ _ _
  refine wpAny_bind ?_
  unfold Builtin.SmallTypes.ownedTupleIsFree
  refine wpAny_bind (wpAny_field hz rfl (x := .none) rfl (wpAny_pure ?_))
  simp only [if_true]
  refine wpAny_bind (wpAny_rule (wpAny_bind (wpAny_field hz rfl (x := .ref TO) rfl (wpAny_bind (wpAny_setField_rec hz (by simp) fun hA zA sA => wpAny_bind ?_)))))
  replace zA : IsZip hA z TI TO .ellipsis := zA
  simp only [List.zipIdx_cons, List.zipIdx_nil, List.forIn_cons, List.forIn_nil]
  refine wpAny_bind (wpAny_bind (wpAny_onRaise ?_))
  show wpAny _ _ (Builtin.SmallTypes.nextOf (.ref i1) >>= _) _ _ _
  refine wpAny_bind (nextOf_end (hot_ext hot sA.extBut (Ne.symm nz)) n1 (g1.extBut sA.extBut D.i1z) (hl1.extBut sA.extBut D.l1z) hx fun hB e sB ⟨oe, ge, ce⟩ => ?_)
  have zB : IsZip hB z TI TO .ellipsis := sB _ _ D.i1z.symm zA
  have ez : e ≠ z := fun q => by subst q; rw [zB] at ge; cases ge; simp at ce
  refine wpAny_setField_rec zB (by simp) fun hC _ sC => ?_
  refine wpAny_bind (wpAny_isInstance (T := "StopIteration") (b := true) ⟨oe, sC.extBut _ _ ez ge, ce⟩ isSubtype_stop ?_)
  exact wpAny_pure (hQ _ fun c o c1 c2 q => sC.extBut _ _ c1 (sB _ _ c2 (sA.extBut _ _ c1 q)))
/-- a tuple's iterator at its end -/
theorem tup_end {it t x1 : Addr} {i : Nat} {items : Array Value} {Q : Option Value → Shared → Prop} (hot : HotAt A x1 s.heap) (ne : it ≠ x1) (hit : IsTupIter s.heap it t i) (ht : IsTup s.heap t items) (hx : items[i]? = none)
    (hQ : ∀ h', Heap.ExtBut it s.heap h' → Q none { s with heap := h' }) : wpAny (model prog w) A (pyNext (.ref it)) Q E s := by
  obtain ⟨oi, gi, ci, di⟩ := id hit
  obtain ⟨ol, gl, _, nl, dl⟩ := ht
  unfold pyNext
  refine wpAny_bind (wpAny_attempt (wpAny_callSpecial?_slot (name := Str.ofString "__next__") hit.typeIs slot_tupleiter_next (wpAny_call_entry slot_tupleiter_next hit.typeIs entry_tupleiter_next ?_ (args_tupleiter_next _))))
  show wpAny _ _ (field (.ref it) 0 >>= _) _ _ s
  refine wpAny_bind (wpAny_field gi di (x := .ref t) rfl ?_)
  show wpAny _ _ (if (Value.ref t == Value.none) = true then _ else _) _ _ s
  rw [if_neg (ref_nn _)]
  show wpAny _ _ (field (.ref it) 1 >>= _) _ _ s
  refine wpAny_bind (wpAny_field gi di (x := .int i 0) rfl ?_)
  show wpAny _ _ (seqItems? (.ref t) >>= _) _ _ s
  refine wpAny_bind (wpAny_seqItems gl dl ?_)
  simp only [Int.toNat_natCast, hx]
  refine wpAny_bind (wpAny_rule (wpAny_bind (wpAny_setField gi di (by simp) ?_)))
  show wpAny _ _ (newExc (.type "StopIteration") [] >>= _) _ _ _
  refine stop_hot (hot_upd hot ne) fun h' e k he => ?_
  obtain ⟨oe, ge, ce⟩ := he
  refine wpAny_bind (wpAny_isInstance (T := "StopIteration") (b := true) ⟨oe, ge, ce⟩ isSubtype_stop ?_)
  exact wpAny_pure (hQ _ fun b o hb q => k b o ((Heap.get?_update_other _ _ (Ne.symm hb)).trans q))
theorem unpack_hot {t x1 : Addr} {items : Array Value} {targets : List (Bool × (Value → Sem Unit))} {Q : Unit → Shared → Prop} (hot : HotAt A x1 s.heap) (ht : IsTup s.heap t items) (hn : targets.length = items.size) (hstar : targets.findIdx? (·.1) = none)
    (h : ∀ h', Heap.ExtBut s.heap.objs.size s.heap h' → wpAny (model prog w) A (assignInOrder (targets.map (·.2)) items.toList) Q E { s with heap := h' }) : wpAny (model prog w) A (unpack (.ref t) targets) Q E s := by
  have lt : t ≠ s.heap.objs.size := by obtain ⟨o, g, _⟩ := ht; exact Nat.ne_of_lt (Heap.lt_size g)
  have lx : s.heap.objs.size ≠ x1 := by obtain ⟨_, o, _, g, _⟩ := hot; exact Nat.ne_of_gt (Heap.lt_size g)
  unfold unpack
  rw [hn, hstar]
  refine wpAny_bind (wpAny_holding ?_)
  unfold unpackItems
  refine wpAny_bind ?_
  unfold notIterableAtAll
  refine wpAny_bind (wpAny_specialOf ht.typeIs slot_tuple_iter.lookup (wpAny_pure ?_))
  simp only [Bool.false_eq_true, if_false]
  refine wpAny_bind (wpAny_holding (iter_tuple ht (wpAny_bind (wpAny_holding (draw_tuple lt items.size 0 _ _ ⟨_, Heap.get?_push_size _ rfl, rfl, rfl⟩ (ht.push _) (by omega) fun h1 it1 s1 => ?_)))))
  rw [List.drop_zero, List.take_of_length_le (show items.toList.length ≤ items.size by simp), if_neg (by simp)]
  have hp : HotAt A x1 (s.heap.push { cls := .type "tuple_iterator", data := .fields #[.ref t, .int 0 0] }) := by
    obtain ⟨e, o, vs, g, d, c⟩ := hot
    exact ⟨e, o, vs, Heap.get?_push_of_some _ g, d, c⟩
  refine wpAny_bind (wpAny_holding (tup_end (hot_ext hp s1.extBut (Ne.symm lx)) lx it1 ((ht.push _).extBut s1.extBut lt) (by simp) fun h2 e2 => ?_))
  simp only [Option.isSome_none, Bool.false_eq_true, if_false]
  exact wpAny_pure (h h2 fun b o hb q => e2 b o hb (s1.extBut b o hb (Heap.get?_push_of_some _ q)))
end
section
variable {X : Cx}
/-- (a, b, ..) = a tuple, while an exception is handled -/
theorem pg_tupH {es : List Expr} {k : Nat} {t : TGs} {n : Nat} {pos : Pos} (h : PGs X es t) (hn : (assignEach es X.env).length = n := by rfl) (hst : (assignEach es X.env).findIdx? (·.1) = none := by rfl)
    {pins : List (Addr × Obj)} {s : Shared} {σ : L2.St} {H : Hp} {v : V} {u : Value} {Q : L2.St → Hp → Prop} (I : Inv X pins σ H s) (r : RelV v u) (hw : gTup X.K n t v σ H Q) {x1 : Addr} (hot : HotAt X.A x1 s.heap) :
    wpAny (model X.prog X.w) X.A (assign (.Tuple es k pos) X.env u) (fun _ s' => ∃ σ' H', Inv X pins σ' H' s' ∧ Q σ' H') X.xe s := by
  obtain ⟨a, xs, rfl, hq, hl, hw⟩ := hw
  cases r
  obtain ⟨its, rv, ht, hz⟩ := I.tuple hq
  rw [assign_Tuple]
  refine wpAny_bind (wpAny_standAt (unpack_hot hot ht (by simp [hn, ← hl, rv.length]) hst fun h' hx => ?_))
  exact h.run pins _ σ H xs _ Q (I.kept (t' := s.toks) fun b o e => hx b o (Nat.ne_of_lt (Heap.lt_size e)) e) (by simpa using rv) hw
end
end DLH

end
section
set_option Elab.async false
set_option linter.all false
set_option maxRecDepth 100000
set_option maxHeartbeats 4000000
/-! DL, part 10: comprehensions while an exception is handled. -/
namespace DLH
open PySem PySem.Spec PyProof.Rows L2 HotX
/-- zip of two lists, the first one not longer -/
def Itz1 (K : PySem.W.Frag) (a b : Addr) : It := { Itz K a b with stop := fun i H => ∃ xs : List V, SqL K H a xs ∧ xs.length ≤ i }
structure TurnZ (P : Program) (w : World) (K : PySem.W.Frag) (tg : Expr) (J : It) (fp : List Addr) (it : Addr) (tn : Nat → Heap → Prop) : Prop where
  obj : ∀ i h, tn i h → ∀ b ∈ fp, ∃ o, h.get? b = some o ∧ ∀ v, o.data ≠ .cell v
  keep : ∀ i h h', tn i h → (∀ b ∈ fp, ∀ o, h.get? b = some o → h'.get? b = some o) → tn i h'
  item : ∀ (X : Cx), X.prog = P → X.w = w → X.K = K → ∀ (i : Nat) (pins : List (Addr × Obj)) (s : Shared) (σ : L2.St) (H : Hp) (E : Value → Shared → Prop), Inv X pins σ H s → (∀ b ∈ fp, FpOk X pins H b) → tn i s.heap → J.go i H →
    wpAny (model P w) X.A (pyNext (.ref it)) (fun r s1 => ∃ u, r = some u ∧ wpAny (model P w) X.A (letOwnedTupleGo tg (.ref it) u) (fun _ s2 => ∃ x H', Inv X pins σ H' s2 ∧ RelV x u ∧ J.yld i H x H' ∧ tn (i + 1) s2.heap ∧ ∀ b ∈ fp, H' b = none) E s1) E s
  done : ∀ (X : Cx), X.prog = P → X.w = w → X.K = K → ∀ (i : Nat) (pins : List (Addr × Obj)) (s : Shared) (σ : L2.St) (H : Hp) (E : Value → Shared → Prop) (x1 : Addr), HotAt X.A x1 s.heap → x1 ∉ fp → Inv X pins σ H s → (∀ b ∈ fp, FpOk X pins H b) → tn i s.heap → J.stop i H →
    wpAny (model P w) X.A (pyNext (.ref it)) (fun r s1 => r = none ∧ Inv X pins σ H s1) E s
  self : ∀ (A : Around) (i : Nat) (s : Shared) (Q : Value → Shared → Prop) (E : Value → Shared → Prop), tn i s.heap → Q (.ref it) s → wpAny (model P w) A (pyIter (.ref it)) Q E s
theorem turnZ {P : Program} {w : World} {K : PySem.W.Frag} {elts : List Expr} {kk : Nat} {tpos : Pos} {a b z TI TO i1 i2 : Addr} (D : ZipApart z TI TO i1 i2 a b) :
    TurnZ P w K (.Tuple elts kk tpos) (Itz1 K a b) [z, TI, TO, i1, i2] z (fun i h => IsZip h z TI TO .none ∧ IsPair h TI (.ref i1) (.ref i2) ∧ (∃ x y, IsPair h TO x y) ∧ h.IsListIter i1 a i ∧ h.IsListIter i2 b i) where
  obj := (turn_zip (P := P) (w := w) (K := K) (elts := elts) (kk := kk) (tpos := tpos) D).obj
  keep := (turn_zip (P := P) (w := w) (K := K) (elts := elts) (kk := kk) (tpos := tpos) D).keep
  self := (turn_zip (P := P) (w := w) (K := K) (elts := elts) (kk := kk) (tpos := tpos) D).self
  done := by
    intro X hP hw hK i pins s σ H E x1 hot hx I hf st hg
    subst hP hw hK
    obtain ⟨hz, hTI, ⟨x0, y0, hTO⟩, g1, g2⟩ := st
    obtain ⟨xs, hq, hend⟩ := hg
    obtain ⟨its, rv, p, _⟩ := I.list hq
    have ll := rv.length
    have he : its.toArray[i]? = none := by simp; omega
    refine zip_end (k1 := i) hot (fun e => hx (by rw [← e]; simp)) (fun e => hx (by rw [← e]; simp)) D hz hTI hTO g1 p.isList he fun h' hk => ⟨rfl, I.turnedL (t' := s.toks) (ch := [z, TI, TO, i1, i2]) (fun c o hb q => hk c o (fun e => hb (by simp [e])) (fun e => hb (by simp [e])) q) hf⟩
  item := by
    intro X hP hw hK i pins s σ H E I hf st hg
    subst hP hw hK
    obtain ⟨hz, hTI, ⟨x0, y0, hTO⟩, g1, g2⟩ := st
    obtain ⟨xs, ys, x, y, qx, qy, ex, ey⟩ := hg
    obtain ⟨itx, rx, px, _⟩ := I.list qx
    obtain ⟨ity, ry, py, _⟩ := I.list qy
    obtain ⟨u, eu, ru⟩ := rx.get ex
    obtain ⟨v, ev, rv⟩ := ry.get ey
    have zl : z < s.heap.objs.size := Heap.lt_size hz
    have lts : ∀ c ∈ [z, TI, TO, i1, i2], c < s.heap.objs.size := fun c hc => by
      obtain ⟨o, e, _⟩ := (turn_zip (P := X.prog) (w := X.w) (K := X.K) (elts := elts) (kk := kk) (tpos := tpos) D).obj i s.heap ⟨hz, hTI, ⟨x0, y0, hTO⟩, g1, g2⟩ c hc
      exact Heap.lt_size e
    refine wpAny_pyNext_zip_item D hz hTI hTO g1 g2 px.isList py.isList (x := u) (y := v) (by simpa using eu) (by simpa using ev) fun h1 zA TA gA1 gA2 pT sz hk => ⟨_, rfl, ?_⟩
    refine wpAny_letOwnedTupleGo_zip (s := { s with heap := h1 }) zA fun h2 zB sb => ?_
    have tB : h2.get? s.heap.objs.size = some { cls := .type "tuple", data := .seq #[u, v] } := (sb.2 _ (Nat.ne_of_gt zl)).trans pT
    have nw : H s.heap.objs.size = none := I.hok.fresh (Nat.le_refl _)
    have bk : ∀ c o, c ∉ [z, TI, TO, i1, i2] → s.heap.get? c = some o → h2.get? c = some o := fun c o hb q =>
      (sb.2 c fun e => hb (by simp [e])).trans (hk c o (fun e => hb (by simp [e])) (fun e => hb (by simp [e])) (fun e => hb (by simp [e])) (fun e => hb (by simp [e])) q)
    have two : 2 ≤ sizeLine := by decide
    have J2 : Inv X pins σ (upd H s.heap.objs.size (.tup [x, y])) { s with heap := h2 } :=
      I.turnedNew (t' := s.toks) (ch := [z, TI, TO, i1, i2]) bk hf (Nat.le_refl _) ⟨two, [u, v], .cons ru (.cons rv .nil), ⟨_, tB, rfl, _, rfl⟩⟩
    refine ⟨.ref s.heap.objs.size, upd H s.heap.objs.size (.tup [x, y]), J2, rfl, ⟨_, x, y, rfl, nw, rfl, fun l q => by rw [I.list_inj q qx]; exact ex, fun l q => by rw [I.list_inj q qy]; exact ey⟩, ⟨zB, (sb.2 _ D.TIz).trans (hk _ _ D.TIz D.TITO D.TIi1 D.TIi2 hTI), ⟨_, _, (sb.2 _ D.TOz).trans TA⟩, gA1.at fun o q => (sb.2 _ D.i1z).trans q, gA2.at fun o q => (sb.2 _ D.i2z).trans q⟩, fun c hc => ?_⟩
    · rw [upd_ne (Nat.ne_of_lt (lts c hc))]; exact (hf c hc).1
def PIEZ (X : Cx) (pins : List (Addr × Obj)) (σ : L2.St) (tg : Expr) (R : It → Hp → Prop) (itv : Value) (s2 : Shared) : Prop :=
  ∃ (it : Addr) (fp : List Addr) (tn : Nat → Heap → Prop) (J : It) (H' : Hp), itv = .ref it ∧ Inv X pins σ H' s2 ∧ TurnZ X.prog X.w X.K tg J fp it tn ∧ tn 0 s2.heap ∧ (∀ b ∈ fp, FpOk X pins H' b) ∧ R J H'
structure PIZ (X : Cx) (tg iter : Expr) (wi : TI) : Prop where
  run : ∀ (pins : List (Addr × Obj)) (s : Shared) (σ : L2.St) (H : Hp) (R : It → Hp → Prop), Inv X pins σ H s → wi σ H R →
    wpAny (model X.prog X.w) X.A (eval iter X.env) (fun v s1 => wpAny (model X.prog X.w) X.A (pyIter v) (PIEZ X pins σ tg R) X.xe s1) X.xe s
/-- a target, while an exception is handled -/
structure PGZ (X : Cx) (tg : Expr) (g : TG) : Prop where
  run : ∀ (pins : List (Addr × Obj)) (s : Shared) (σ : L2.St) (H : Hp) (v : V) (u : Value) (Q : L2.St → Hp → Prop) (x1 : Addr), HotAt X.A x1 s.heap → Inv X pins σ H s → RelV v u → g v σ H Q →
    wpAny (model X.prog X.w) X.A (assign tg X.env u) (fun _ s' => ∃ σ' H', Inv X pins σ' H' s' ∧ Q σ' H') X.xe s
section
variable {X : Cx}
def iZip1 (K : PySem.W.Frag) (ta : TA) : TI := fun σ H R => ta σ H fun vs H1 => ∃ a b xs ys, vs = [.ref a, .ref b] ∧ SqL K H1 a xs ∧ SqL K H1 b ys ∧ R (Itz1 K a b) H1
theorem pi_zipZ {e e2 : Expr} {ta : TA} {p pos tpos : Pos} {elts : List Expr} {kk : Nat} (hg : Gl X "zip") (hm : X.mg "zip" = none) (ha : PA X [e, e2] ta)
    (hs : starEach [e, e2] X.env = (false, eval e X.env) :: starEach [e2] X.env := by rfl) (hpl : (backTo pos (starEach [e2] X.env)).any (·.1) = false := by rfl) :
    PIZ X (.Tuple elts kk tpos) (.Call (.Name "zip" p) [e, e2] [] pos) (iZip1 X.K ta) := by
  refine ⟨fun pins s σ H R I h => Call_ (ld_blt I hg hm PyProof.Rows.boot_zip (PyProof.Rows.callWith_type1 (thn (ha.run pos pins s σ H _ I h) fun us s1 ⟨vs, H1, I1, r1, a, b, xs, ys, ex, hqx, hqy, q⟩ => ?_) hs hpl))⟩
  subst ex
  obtain ⟨u, v, rfl, ru, rv⟩ : ∃ u v, us = [u, v] ∧ RelV (.ref a) u ∧ RelV (.ref b) v := by
    cases r1 with
    | cons r rr =>
      cases rr with
      | cons r' rr => cases rr; exact ⟨_, _, rfl, r, r'⟩
  cases ru
  cases rv
  obtain ⟨itx, rx, p1, _⟩ := I1.list hqx
  obtain ⟨ity, ry, p2, _⟩ := I1.list hqy
  refine call_zip_2 p1.isList p2.isList fun h' hz hTI hTO h1 h2 hsz hk => wpAny_pyIter_zip hz ⟨s1.heap.objs.size + 4, [s1.heap.objs.size + 4, s1.heap.objs.size + 2, s1.heap.objs.size + 3, s1.heap.objs.size, s1.heap.objs.size + 1], _, _, H1, rfl, I1.kept (t' := s1.toks) hk,
    turnZ (PySem.W.ktu_apart s1.heap.objs.size a b p1.lt p2.lt), ⟨hz, hTI, ⟨_, _, hTO⟩, h1, h2⟩, fun c hc => ?_, q⟩
  have hle : s1.heap.objs.size ≤ c := by
    have e : c = s1.heap.objs.size + 4 ∨ c = s1.heap.objs.size + 2 ∨ c = s1.heap.objs.size + 3 ∨ c = s1.heap.objs.size ∨ c = s1.heap.objs.size + 1 := by simpa using hc
    rcases e with e | e | e | e | e <;> rw [e] <;> omega
  exact I1.fpOk hle (I1.hok.fresh hle)
/-- the comprehension -/
theorem pe_lcZ {elt tg iter : Expr} {ifs : List Expr} {scope : Scope} {own : List (Str × Nat)} {pos : Pos} {wi : TI} {g : TG} {tt : TT} {te : TE} (hc : L2H.HotC X) (hN : X.N.Nodup) (hi : PIZ X tg iter wi) (ok : BlkOk X.N X.env.scope scope own)
    (hg : ∀ (s : Shared) (H : Hp) (C : Addr) (cl : List (Str × Addr)) (fp : List Addr), PGZ (X.blk s H scope (compEnvC scope cl C X.env) fp) tg g) (ht : ∀ (s : Shared) (H : Hp) (C : Addr) (cl : List (Str × Addr)) (fp : List Addr), PTs (X.blk s H scope (compEnvC scope cl C X.env) fp) ifs tt)
    (he : ∀ (s : Shared) (H : Hp) (C : Addr) (cl : List (Str × Addr)) (fp : List Addr), PE (X.blk s H scope (compEnvC scope cl C X.env) fp) elt te) (hs : ∀ x, foldedSetIterable iter X.env x = pure x := by intro _; rfl) :
    PE X (.ListComp elt [⟨tg, iter, ifs, 0⟩] scope pos) (tLc wi g tt te (own.map (·.2))) := by
  obtain ⟨p, ⟨ph, pv, pd, pc⟩, pm⟩ := hc
  refine ⟨fun pins s σ H Q I h => ?_⟩
  have caps : ∀ y ∈ scope.names, y.2 = .free → ∃ c, X.env.cells.lookup y.1 = some c := fun y hy e => (ok.free y hy e).elim (fun k => I.ok.has _ (.inl k)) fun k => I.ok.has _ (.inr k)
  rw [eval_ListComp]
  refine wpAny_comprehension_free (use := none) rfl hs (closure_ok caps) ok.kind (fun y hy e => by rw [ok.uniq y hy, e]) (thn (hi.run pins s σ H _ I h) fun xv sA hA => thn hA fun itv sB hB => ?_)
  obtain ⟨it, fp, tn, J, HB, rfl, IB, T, tB, fB, q⟩ := hB
  refine wpAny_newObj_type (newEnv_comp ?_) (by show 0 ≤ sizeLine; decide)
  obtain ⟨W, ⟨m0, w0⟩, turn⟩ := q sB.heap.objs.size (IB.hok.fresh (Nat.le_refl _))
  generalize eC : ({ sB with heap := sB.heap.push { cls := .type "list", data := .seq ([] : List Value).toArray } } : Shared) = sC
  have hC : sC.heap = sB.heap.push { cls := .type "list", data := .seq ([] : List Value).toArray } := by rw [← eC]
  have IC : Inv X pins σ (upd HB sB.heap.objs.size (.lst [])) sC := by
    rw [← eC]
    exact IB.laid (t' := sB.toks) (fun b o e => Heap.get?_push_of_some _ e) (Nat.le_refl _) ⟨Nat.zero_le _, [], 0, .nil, Heap.get?_push_size _ rfl⟩
  have lts : ∀ b ∈ fp, b < sB.heap.objs.size := fun b hb => let ⟨o, e, _⟩ := T.obj _ _ tB b hb; Heap.lt_size e
  have fC : ∀ b ∈ fp, FpOk X pins (upd HB sB.heap.objs.size (.lst [])) b ∧ b < sC.heap.objs.size := fun b hb => by
    refine ⟨⟨?_, (fB b hb).2⟩, ?_⟩
    · rw [upd_ne (Nat.ne_of_lt (lts b hb))]; exact (fB b hb).1
    · rw [hC, Heap.size_push]; exact Nat.lt_succ_of_lt (lts b hb)
  have tC : tn 0 sC.heap := T.keep _ _ _ tB fun b _ o e => by rw [hC]; exact Heap.get?_push_of_some _ e
  generalize eH : upd HB sB.heap.objs.size (.lst []) = HC at IC fC w0
  have ID := block_start IC ok hN fC
  generalize ecl : cellsFrom (sC.heap.objs.size + 1) scope.names (cloFrom X.env.cells scope.names []) = cl at ID
  have pg := hg sC HC sC.heap.objs.size cl fp
  have pt := ht sC HC sC.heap.objs.size cl fp
  have pe := he sC HC sC.heap.objs.size cl fp
  have PC := IC.pin p (List.mem_append_left _ pm)
  show codeAny _ _ (.compStart (.ListComp elt [⟨tg, iter, ifs, 0⟩] scope pos) 0 (.ref it) (.ref sB.heap.objs.size) (compEnvC scope cl sC.heap.objs.size X.env))
    (compPost (model X.prog X.w) X.A X.xe none _ (.ref sB.heap.objs.size) sC.heap.objs.size) { sC with heap := pushCells (sC.heap.push { cls := .type "dict", data := .dict #[] }) scope.names }
  generalize eE : compEnvC scope cl sC.heap.objs.size X.env = ce at ID pg pt pe ⊢
  have eL : ce.locals = sC.heap.objs.size := by subst eE; rfl
  generalize eS : ({ sC with heap := pushCells (sC.heap.push { cls := .type "dict", data := .dict #[] }) scope.names } : Shared) = sD at ID ⊢
  have up : ∀ b o, sC.heap.get? b = some o → sD.heap.get? b = some o := fun b o e => by rw [← eS]; exact pushCells_keeps _ _ _ _ (Heap.get?_push_of_some _ e)
  have tD : tn 0 sD.heap := T.keep _ _ _ tC fun b _ o e => up b o e
  have nst : p.1 ∉ frs X.stack := fun hm => (List.mem_cons.mp (IC.stkSub p.1 hm)).elim PC.2.2.1 PC.2.2.2.1
  -- the handled exception stays in sight
  have ID' : Inv (X.blk sC HC scope ce fp) [p] (wipe σ (own.map (·.2))) HC sD := ID.pins_of fun q hq => by
    have e : q = p := by simpa using hq
    subst e
    refine ⟨up _ _ PC.1, PC.2.1, fun z => ?_, nst, PC.2.2.2.2⟩
    have z : q.1 = ce.locals := z
    have l := Heap.lt_size PC.1
    rw [z, eL] at l
    exact absurd l (Nat.lt_irrefl _)
  have hotI : ∀ {pl : List (Addr × Obj)} {σ' : L2.St} {H' : Hp} {s' : Shared}, Inv (X.blk sC HC scope ce fp) ([p] ++ pl) σ' H' s' → HotAt (X.blk sC HC scope ce fp).A p.1 s'.heap := fun {pl σ' H' s'} I' =>
    ⟨ph, p.2, pv, (I'.pin p (List.mem_append_right _ (List.mem_append_left _ (List.mem_singleton.mpr rfl)))).1, pd, pc⟩
  have pfp : p.1 ∉ fp := fun hb => (fB p.1 hb).2.2.2.2.2 p (List.mem_append_left _ pm) rfl
  have stat : ∀ {σ' : L2.St} {H' : Hp} {s' : Shared}, Inv (X.blk sC HC scope ce fp) [p] σ' H' s' → (∀ b ∈ fp, H' b = none) → ∀ b ∈ fp, FpOk (X.blk sC HC scope ce fp) [p] H' b := fun {σ' H' s'} I' hn b hb =>
    ⟨hn b hb, (I'.ok.exf b hb).1, I'.ok.exfs b hb, .inl hb, fun x c e => (I'.ok.exf b hb).2 x c e, fun q hq z => pfp (by
      have e : q = p := by simpa using (show q ∈ ([] : List (Addr × Obj)) ++ [p] from hq)
      rw [← e, z]; exact hb)⟩
  refine codeAny_compStart_list ?loop (T.self X.A 0 _ _ _ tD ?loop)
  refine compLoop_any (fun n s' => ∃ i H', Inv (X.blk sC HC scope ce fp) [p] (wipe σ (own.map (·.2))) H' s' ∧ tn i s'.heap ∧ (∀ b ∈ fp, H' b = none) ∧ W i n H') ?_ m0 ⟨0, HC, ID', tD, fun b hb => (fC b hb).1.1, w0⟩
  rintro n s5 ⟨i, H5, I5, t5, n5, w5⟩
  rcases turn i n H5 w5 with ⟨stop, qq⟩ | ⟨go, Nx, hNx, step⟩
  · refine thnF (T.done (X.blk sC HC scope ce fp) rfl rfl rfl i [p] s5 _ H5 (fun _ _ => False) p.1 (hotI (pl := []) I5) pfp I5 (stat I5 n5) t5 stop) fun r s6 ⟨hr, I6⟩ => ?_
    subst hr
    have I7 : Inv X pins σ H5 s6 := IC.call' (ch := fp) I6.os I6.base I6.hok I6.bare fun b hb => ⟨(fC b hb).1.2.2.2.1, (fC b hb).1.2.1, (fC b hb).1.2.2.2.2.1, (fC b hb).1.2.2.2.2.2⟩
    have nC : H5 sC.heap.objs.size = none := eL ▸ (show H5 ce.locals = none from I6.free)
    obtain ⟨m, hn, _⟩ := I6.loc
    have hn : s6.heap.Ns sC.heap.objs.size m := eL ▸ (show s6.heap.Ns ce.locals m from hn)
    obtain ⟨f0, f1, f2, f3, f4, f5⟩ := IC.fpOk (H' := H5) (Nat.le_refl _) nC
    exact ⟨m, hn, fun h'' sb => ⟨.ref sB.heap.objs.size, H5, I7.turned (t' := s6.toks) (fun b o hb e => (sb.2 b hb).trans e) f0 f1 f3 f4 f5, rfl, qq⟩⟩
  · refine thnF (T.item (X.blk sC HC scope ce fp) rfl rfl rfl i [p] s5 _ H5 (fun _ _ => False) I5 (stat I5 n5) t5 go) fun r s6 ⟨u, hr, h6⟩ => ?_
    subst hr
    refine thnF h6 fun _ s7 ⟨x, H7, I7, r7, y7, t7, n7⟩ => ?_
    have I7' := I7.pinned (stat I7 n7) (T.obj _ _ t7)
    refine thnF (pg.run _ s7 _ H7 x u _ p.1 (hotI I7') I7' r7 (step x H7 y7)) fun _ s8 ⟨σ8, H8, I8, hw8, q8⟩ => ?_
    refine thnF (pt.run _ s8 σ8 H8 _ I8 q8) fun b s9 ⟨H9, I9, q9⟩ => ?_
    have fin : ∀ {s' : Shared} {H' : Hp}, Inv (X.blk sC HC scope ce fp) ([p] ++ pinsAt fp s7.heap) σ8 H' s' → Nx H' → ∃ m, m < n ∧ ∃ i H', Inv (X.blk sC HC scope ce fp) [p] (wipe σ (own.map (·.2))) H' s' ∧ tn i s'.heap ∧ (∀ b ∈ fp, H' b = none) ∧ W i m H' := fun {s' H'} I' nx => by
      obtain ⟨m', hm, w'⟩ := hNx H' nx
      have pn' : ∀ b ∈ fp, ∀ o, s7.heap.get? b = some o → s'.heap.get? b = some o ∧ H' b = none := fun b hb o e =>
        let z := I'.pin (b, o) (List.mem_append_right _ (List.mem_append_right _ (mem_pinsAt hb e)))
        ⟨z.1, z.2.1⟩
      have l8 : (wipe σ (own.map (·.2))).length = σ8.length := by rw [← hw8, wipe_length]
      refine ⟨m', hm, i + 1, H', (I'.unpinned (pins := [p])).weak l8 (fun j v e => ?_), T.keep _ _ _ t7 fun b hb o e => (pn' b hb o e).1, fun b hb => ?_, w'⟩
      · rw [← hw8] at e
        exact (wipe_some e).1
      · obtain ⟨o, e, _⟩ := T.obj _ _ t7 b hb
        exact (pn' b hb o e).2
    cases b with
    | false =>
      simp only [Bool.false_eq_true, if_false] at q9 ⊢
      exact fin I9 q9
    | true =>
      simp only [if_true] at q9 ⊢
      refine thnF (pe.run _ s9 σ8 H9 _ I9 q9) fun z sE ⟨yv, HE, IE, rE, acc, eD, lD, nx⟩ => ?_
      exact app_ok (X := X.blk sC HC scope ce fp) IE eD lD rE fun sF IF => fin IF nx
end
end DLH

end
section
set_option Elab.async false
set_option linter.all false
set_option maxRecDepth 100000
set_option maxHeartbeats 4000000
/-! DL, part 11: the names of a caught error; a lambda handed to a def that catches. -/
namespace DL
open PySem PySem.Spec PyProof.Rows L2

/-! ### comprehensions while an exception is handled -/
section
variable {X : Cx} {T : List (Addr × Str)} {W : WX}
theorem two_imp {K : PySem.W.Frag} {i j : Nat} {v : V} {σ : L2.St} {H : Hp} {Q : L2.St → Hp → Prop} (h : cG K T [i, j] (gTwo i j) v σ H Q) : gTup K 2 (gCons (gName i) (gCons (gName j) gNil)) v σ H Q := by
  obtain ⟨G, M, ρ, ρ', d, hh, r, rv, e, k⟩ := h
  unfold gTwo at e
  split at e
  · cases e
    cases rv with
    | tup ha hl rl =>
      obtain ⟨u, w, rfl, ru, rw_⟩ := two_case rl
      refine ⟨_, _, rfl, sqT_mono hh.sub ha, rfl, u, [w], rfl, w, [], rfl, rfl, k _ (by simp) (fun m hm => ?_) ((r.set ru i).set rw_ j)⟩
      have h1 : i ≠ m := fun e => hm (by rw [e]; simp)
      have h2 : j ≠ m := fun e => hm (by rw [e]; simp)
      rw [List.getElem?_set_ne h2, List.getElem?_set_ne h1]
  · cases e
theorem dg_twoZ {i j : Nat} {x y : Str} {p1 p2 pos : Pos} {k : Nat} (hN : X.N.Nodup) (hi : X.N[i]? = some x := by rfl) (hj : X.N[j]? = some y := by rfl) (hx : Loc X.env.scope x := by first | exact Or.inl rfl | exact Or.inr rfl) (hy : Loc X.env.scope y := by first | exact Or.inl rfl | exact Or.inr rfl)
    (hf : X.fn x = true ∨ X.env.scope.names.lookup x = some .local := by first | exact .inl rfl | exact .inr rfl) (hf2 : X.fn y = true ∨ X.env.scope.names.lookup y = some .local := by first | exact .inl rfl | exact .inr rfl) :
    DLH.PGZ X (.Tuple [.Name x p1, .Name y p2] k pos) (cG X.K T [i, j] (gTwo i j)) :=
  ⟨fun pins s σ H v u Q x1 hot I r h => DLH.pg_tupH (n := 2) (pgs_cons (pg_name hN hi hx hf) (pgs_cons (pg_name hN hj hy hf2) pgs_nil)) rfl rfl I r (two_imp h) hot⟩
def oZipZ : List Dat → Option (List Dat)
  | [.lst xs, .lst ys] => if xs.length ≤ ys.length then some ((xs.zip ys).map fun p => .tup [p.1, p.2]) else none
  | _ => none
theorem ItOf.zipZ {K : PySem.W.Frag} {a b : Addr} {G' : Hp} {vs us : List V} {ds es : List Dat} (h : Rd G' a (.lst vs)) (h' : Rd G' b (.lst us)) (hl : ds.length ≤ sizeLine) (r : RepL K G' vs ds) (r' : RepL K G' us es) (hz : ds.length ≤ es.length) :
    ItOf K T (DLH.Itz1 K a b) G' ((ds.zip es).map fun p => .tup [p.1, p.2]) where
  len := (ItOf.zip (T := T) h h' hl r r').len
  go := (ItOf.zip (T := T) h h' hl r r').go
  yld := (ItOf.zip (T := T) h h' hl r r').yld
  stop := fun i H2 G2 M2 hi s h2 => by
    rw [List.length_map, List.length_zip] at hi
    exact ⟨vs, sqL_mono h2.sub (rd_mono s h), by rw [r.length]; omega⟩
variable {a b : Expr} {pos : Pos} {l : DTA} {fl : FA}
abbrev DIZ (X : Cx) (T : List (Addr × Str)) (W : WX) (di : DTA) (tg it : Expr) : Prop := DLH.PIZ X tg it (cI X.K T W di)
theorem di_zipZ {p2 tpos : Pos} {elts : List Expr} {kk : Nat} (hm : X.mg "zip" = none) (hl : DA X T W l [a, b]) (hg : Gl X "zip" := by rfl) (hs : starEach [a, b] X.env = (false, eval a X.env) :: starEach [b] X.env := by rfl) (hpl : (backTo pos (starEach [b] X.env)).any (·.1) = false := by rfl) :
    DIZ X T W (dIt oZipZ l) (.Tuple elts kk tpos) (.Call (.Name "zip" p2) [a, b] [] pos) := by
  refine ⟨fun pins s σ H R I ⟨G, M, ρ, QD, ED, hh, r, hd, kq, ke⟩ => (DLH.pi_zipZ hg hm hl hs hpl).run pins s σ H R I (cA_mk hh r _ ED hd (fun vs H' G' M' xs t h' r' q => ?_) ke)⟩
  cases e : oZipZ xs with
  | none => rw [e] at q; exact q.elim
  | some ys =>
    rw [e] at q
    unfold oZipZ at e
    split at e
    · split at e
      · rename_i hz
        cases e
        obtain ⟨v, u, rfl, rv, ru⟩ := two_case r'
        cases rv
        cases ru
        rename_i ha hla rla _ _ hb hlb rlb
        exact ⟨_, _, _, _, rfl, sqL_mono h'.sub ha, sqL_mono h'.sub hb, kq _ H' G' M' _ t h' (ItOf.zipZ ha hb hla rla rlb hz) q⟩
      · cases e
    · cases e
theorem dip_zipZ {p2 tpos : Pos} {elts : List Expr} {kk : Nat} (hm : X.mg "zip" = none) (hl : DA X T W (purA fl) [a, b]) (hg : Gl X "zip" := by rfl) (hs : starEach [a, b] X.env = (false, eval a X.env) :: starEach [b] X.env := by rfl) (hpl : (backTo pos (starEach [b] X.env)).any (·.1) = false := by rfl) :
    DIZ X T W (purA (fIt oZipZ fl)) (.Tuple elts kk tpos) (.Call (.Name "zip" p2) [a, b] [] pos) := by rw [← dIt_pur]; exact di_zipZ hm hl hg hs hpl
variable {elt tg iter : Expr} {ifs : List Expr} {scope : Scope} {own : List (Str × Nat)} {is : List Nat} {g : DGt} {fi : FA} {ft : FT} {fe : FE}
theorem dp_lcZ (hc : L2H.HotC X) (hN : X.N.Nodup) (hi : DIZ X T W (purA fi) tg iter) (ok : BlkOk X.N X.env.scope scope own) (hg : Blk X scope fun Y => DLH.PGZ Y tg (cG Y.K T is g)) (ht : Blk X scope fun Y => DTs Y T W0 (purT ft) ifs) (he : Blk X scope fun Y => DE Y T W0 (pur fe) elt)
    (hsub : ∀ k ∈ is, k ∈ own.map (·.2)) (hs : ∀ x, foldedSetIterable iter X.env x = pure x := by intro _; rfl) : DE X T W (pur (fLc fi g ft fe (own.map (·.2)))) (.ListComp elt [⟨tg, iter, ifs, 0⟩] scope pos) :=
  de_weak (PE.weak (DLH.pe_lcZ hc hN hi ok hg ht he hs) fun _ _ _ h => lcV_imp hsub h) (fLc_imp fi g ft fe _)

/-! ### isinstance of the exception in sight -/
def oIsE (K : PySem.W.Frag) (D a : Addr) : List Dat → Option Dat
  | [.ref x, .ref c] => if x = a then (PySem.W.kitOne K (.ref D) (.ref c)).map .bl else none
  | [.ref x, .ty n] => if x = a then (PySem.W.kitOne K (.ref D) (.type n)).map .bl else none
  | _ => none
theorem isE_run {a D : Addr} {oe : Obj} {cv : Value} {b : Bool} {pins : List (Addr × Obj)} {s : Shared} {σ : L2.St} {H : Hp} {Q : VK} (C : ExcC X.K D) (hm : (a, oe) ∈ X.pn) (h1 : oe.cls = .ref D) (h2 : oe.dict = none) (hf : ∃ vs, oe.data = .fields vs) (I : Inv X pins σ H s)
    (e : PySem.W.kitOne X.K (.ref D) cv = some b) (q : Q (.bl b) H) : wpAny (model X.prog X.w) X.A (call (.builtin "isinstance") [.ref a, cv]) (EP X pins σ Q) X.xe s := by
  obtain ⟨g, _⟩ := I.pin (a, oe) (List.mem_append_left _ hm)
  obtain ⟨vs, hv⟩ := hf
  have J : PySem.W.InstAt s.heap a oe D none := by
    obtain ⟨oc, od, oda, osl⟩ := oe
    dsimp only at h1 h2 hv
    subst h1 h2 hv
    exact ⟨g, rfl, rfl, trivial⟩
  exact PySem.W.kia_one (PySem.W.handS_kitx_exc C.hg C.hk C.hs C.hd C.ha C.hn C.ht C.hm) I.kIn J e (fun z => nomatch z) fun tk => ⟨.bl b, H, I.kept (t' := tk) fun _ _ z => z, rfl, q⟩
theorem cd_isE {a D : Addr} {oe : Obj} (C : ExcC X.K D) (hm : (a, oe) ∈ X.pn) (h1 : oe.cls = .ref D) (h2 : oe.dict = none) (hf : ∃ vs, oe.data = .fields vs) : CD X T (.builtin "isinstance") (oIsE X.K D a) := by
  refine cd_of fun pins s σ H xs us Q G M ds z I rx hh r e kq => ?_
  unfold oIsE at e
  split at e
  all_goals first
    | (cases e; done)
    | (split at e
       · rename_i hx
         obtain ⟨b, eb, rfl⟩ := Option.map_eq_some_iff.mp e
         obtain ⟨v, u, rfl, rv, ru⟩ := two_case r
         cases rv
         cases ru
         subst hx
         cases rx with
         | cons r1 rr =>
           cases rr with
           | cons r2 rr =>
             cases rr
             cases r1
             cases r2
             exact isE_run C hm h1 h2 hf I eb (kq _ H G (Tr.refl ..) hh (.bl b))
       · cases e)
end

/-! ### a def called in an except suite, with the exception -/
section
variable {P : Program} {w : World} {K : PySem.W.Frag} {mg : Str → Option Value} {base : Heap} {T : List (Addr × Str)} {k : Nat} {f : Addr} {fd : FuncData} {ps : List Str}
abbrev CN : CXT := fun _ _ _ _ _ _ => False
abbrev EN : XK := fun _ _ _ => False
/-- p: the exception that is handled, of the class D -/
structure Pz (A : Around) (p : Addr × Obj) (D : Addr) : Prop where
  hot : L2H.Hot1 A p
  cls : p.2.cls = .ref D
  dict : p.2.dict = none
structure FnZ (P : Program) (w : World) (K : PySem.W.Frag) (mg : Str → Option Value) (base : Heap) (k : Nat) (f : Addr) (fd : FuncData) (ps : List Str) (sp : Addr → Addr → List V → Hp → VK → Prop) : Prop where
  len : ∀ a D vs H Q, sp a D vs H Q → vs.length = ps.length
  run : ∀ (A : Around) (outer : List Env) (s : Shared) (H : Hp) (args : Args) (us : List Value) (vs : List V) (Q : VK) (p : Addr × Obj) (D : Addr), L2H.RoomH k A → Pz A p D → L2H.PinOk outer H s p → Env0 P w K mg base A outer s H → BindsTo s fd args (ps.zip us) → Vals vs us →
    sp p.1 D vs H Q → codeAny (model P w) A (.call (.ref f) args) (CR CN outer P w H s Q EN) s
theorem fnZ_of {x : Str} {st : Stmt} {N : List Str} {sp : Addr → Addr → List V → Hp → VK → Prop} (F : FnP K x st f fd) (S : FnScope N ps (L2.defScope st)) (len : ∀ a D vs H Q, sp a D vs H Q → vs.length = ps.length)
    (hbody : ∀ (cdv : Value) (A : Around) (outer : List Env) (s : Shared) (H : Hp) (vs : List V) (Q : VK) (p : Addr × Obj) (D : Addr), Pz A p D → L2H.RoomH k (A.deeper (envOfC x (L2.defScope st) s.heap.objs.size f cdv)) → sp p.1 D vs H Q →
      ∃ t, PSs (L2H.cxH CN P w K mg base N x (L2.defScope st) f cdv A outer s H EN p) (L2.defBody st) t ∧ t { nx := fun _ H' => Q .non H', rt := Q } (L2.start N vs) H) : FnZ P w K mg base (k + 1) f fd ps sp := by
  obtain ⟨oc, od, dV, kV, doc, pm, an, cdv, ct, osl, rfl, lk, hcd, _, _⟩ := F.ex
  refine ⟨len, fun A outer s H args us vs Q p D hr z pin e0 hb r h => ?_⟩
  have hl := len _ _ _ _ _ h
  have KX : K.In s.heap := e0.mod.kin.keeps fun b o e => (e0.bs b o e).1
  have hk : ∀ y ∈ ps.zip us, (L2.defScope st).names.lookup y.1 = some .local ∨ ((L2.defScope st).names.lookup y.1 = some .cell ∧ ((cellsFrom (s.heap.objs.size + 1) (L2.defScope st).names []).lookup y.1).isSome = true) := fun ⟨n, v⟩ hy =>
    (S.par n (List.of_mem_zip hy).1).elim .inl fun q => .inr ⟨q, PySem.W.cellsFrom_some _ _ _ (.inl q)⟩
  refine codeAny_call_function hr.depth (KX _ _ lk) rfl S.co S.gen rfl (PySem.W.codeRec_of KX hcd) (hb _ _ _ _ (wpAny_newFunctionEnv_cells S.kind hk fun env he s1 x1 => ?_))
  subst he
  refine ⟨(e0.mod.nolimit.keeps fun b o e => (e0.bs b o e).1).keeps x1.toInCall.keep, codeAny_func ?_⟩
  obtain ⟨t, ht, hq⟩ := hbody cdv A outer s H vs Q p D z (hr.deeper _) h
  refine wpAny_mono (ht.run [] s1 (L2.start N vs) H _ (L2H.inv_startH S pin e0 hl r x1) hq) (fun fl s' q => ?_) fun e s' q => q
  cases fl with
  | ret u => obtain ⟨v, σ', H', J, rv, q⟩ := q; exact ⟨v, H', J.os, J.bare, J.base, J.hok, rv, q⟩
  | next => obtain ⟨σ', H', J, q⟩ := q; exact ⟨V.non, H', J.os, J.bare, J.base, J.hok, rfl, q⟩
  | brk => obtain ⟨_, _, _, q⟩ := q; exact q.elim
  | cont => obtain ⟨_, _, _, q⟩ := q; exact q.elim
/-- the promise of a def that looks at the exception: F tells the text -/
def spZ (K : PySem.W.Frag) (T : List (Addr × Str)) (F : (List Dat → Option Dat) → List Dat → R Dat) : Addr → Addr → List V → Hp → VK → Prop := fun a D vs H Q => vs = [.ref a] ∧ ExcC K D ∧ ∃ (G : Hp) (M : DM) (z : Dat), Hld K T H G M ∧ F (oIsE K D a) [.ref a] = .ok z ∧
  ∀ v H' G', Tr H G M H' G' M → Hld K T H' G' M → Rep K G' v z → Q v H'
structure CalZ (P : Program) (w : World) (K : PySem.W.Frag) (mg : Str → Option Value) (base : Heap) (T : List (Addr × Str)) (k : Nat) (x : Str) (F : (List Dat → Option Dat) → List Dat → R Dat) : Prop where
  ex : ∃ (f : Addr) (fd : FuncData) (y : Str), FnZ P w K mg base k f fd [y] (spZ K T F) ∧ mg x = some (.ref f) ∧ PySem.W.keepIn K (.ref f) = true ∧ L2.Binds K fd [y] []
theorem calZ_dp {x y : Str} {st : Stmt} {N : List Str} {fF : (List Dat → Option Dat) → FS} (hm : mg x = some (.ref f)) (F : FnP K x st f fd)
    (hb : ∀ (kV doc pm : Value) (an : Option Addr) (cdv ct : Value) (us : List Value), us.length = [y].length → bindArgs (PySem.W.fnOf x x (L2.defArgs st) (L2.defBody st) (L2.defScope st) .none kV doc pm an cdv ct) ⟨us, []⟩ = pure ([y].zip us)) (S : FnScope N [y] (L2.defScope st))
    (hbody : ∀ (cdv : Value) (A : Around) (outer : List Env) (s : Shared) (H : Hp) (p : Addr × Obj) (D : Addr), Pz A p D → ExcC K D → L2H.RoomH k (A.deeper (envOfC x (L2.defScope st) s.heap.objs.size f cdv)) →
      DSs (L2H.cxH CN P w K mg base N x (L2.defScope st) f cdv A outer s H EN p) T W0 (purS (fF (oIsE K D p.1))) (L2.defBody st)) : CalZ P w K mg base T (k + 1) x fun o => fDef N (fF o) := by
  refine ⟨f, fd, y, fnZ_of F S (fun a D vs H Q h => by rw [h.1]; rfl) fun cdv A outer s H vs Q p D z hr h => ?_, hm, F.kp, F.bindsN hb⟩
  obtain ⟨rfl, C, G, M, zz, hh, e, kq⟩ := h
  refine ⟨_, hbody cdv A outer s H p D z C hr, ?_⟩
  have hd : dDef N (purS (fF (oIsE K D p.1))) [.ref p.1] M (fun x M' => x = zz ∧ M' = M) (fun _ _ => False) := fDef_imp _ _ _ _ _ _ (by
    have e' : fDef N (fF (oIsE K D p.1)) [.ref p.1] = .ok zz := e
    show R.wp _ _ _
    rw [e']; exact ⟨rfl, rfl⟩)
  refine ⟨G, M, startD N [.ref p.1], _, hh, rs_start (.cons (.ref _) .nil), hd, fun σ' H' G' M' ρ' t h' _ q => ?_, fun v H' G' M' x t h' r q => ?_, fun _ _ _ _ _ _ _ _ z => z, fun _ _ _ _ _ _ _ _ z => z, fun c dd σ' H' G' M' ρ' t h' _ q _ => q⟩
  · obtain ⟨e1, e2⟩ := q
    rw [e2] at t h'
    exact kq _ H' G' t h' (by rw [← e1]; exact .non)
  · obtain ⟨e1, e2⟩ := q
    rw [e2] at t h'
    rw [e1] at r
    exact kq _ H' G' t h' r
end
/-- f(e) in the suite -/
theorem pe_callZ {X : Cx} {T : List (Addr × Str)} {k i : Nat} {x y : Str} {p : Addr × Obj} {D : Addr} {p1 p2 pos : Pos} {F : (List Dat → Option Dat) → List Dat → R Dat} (c : CalZ X.prog X.w X.K X.mg X.base T k x F) (hr : L2H.RoomH k X.A) (z : Pz X.A p D) (hp : p ∈ X.pn)
    (hN : X.N[i]? = some y := by rfl) (hv : Vis X.env.scope y := by first | exact Or.inl rfl | exact Or.inr (Or.inl rfl) | exact Or.inr (Or.inr rfl)) (hd : (y == ("__debug__" : Str)) = false := by decide) (hcd : (y == ("__classdict__" : Str)) = false := by decide)
    (hg : Gl X x := by rfl) (hdb : (x == ("__debug__" : Str)) = false := by decide) (he : starEach [.Name y p1] X.env = (false, eval (.Name y p1) X.env) :: starEach [] X.env := by rfl) (hpl : (backTo pos (starEach [] X.env)).any (·.1) = false := by rfl) :
    PE X (.Call (.Name x p2) [.Name y p1] [] pos) (fun σ H Q => σ[i]? = some (some (.ref p.1)) ∧ spZ X.K T F p.1 D [.ref p.1] H Q) := by
  obtain ⟨f, fd, yy, Fz, hm, hk, hb⟩ := c.ex
  refine ⟨fun pins s σ H Q I ⟨h1, h2⟩ => ?_⟩
  refine wpAny_Call_Name_kw (ld_glob I hg hm ?_ hdb)
  have ha : PA X [.Name y p1] (tCons (tVar i) tNil) := pa_cons (pe_var hN hv hd hcd) pa_nil he
  refine PySem.W.callWith_K (h₀ := X.base) I.ok.mod.kin hk (thn (ha.run pos pins s σ H (fun vs H1 => vs = [V.ref p.1] ∧ H1 = H) I ⟨.ref p.1, h1, rfl, rfl⟩) fun us s1 ⟨vs, H1, I1, r, e1, e2⟩ => ⟨I1.kIn, ?_⟩) he hpl
  subst e1
  rw [e2] at I1
  have b := hb s1 us I1.kIn (by rw [List.append_nil, ← r.length]; rfl)
  rw [List.append_nil] at b
  have P1 := I1.pin p (List.mem_append_left _ hp)
  have hpin : L2H.PinOk X.stack H s1 p := ⟨P1.1, P1.2.1, fun hm => (List.mem_cons.mp (I1.stkSub p.1 hm)).elim P1.2.2.1 P1.2.2.2.1, P1.2.2.2.2⟩
  refine wpAny_call (codeAny_mono (Fz.run X.A X.stack s1 H ⟨us, []⟩ us [.ref p.1] Q p D hr z hpin I1.env0 b r h2) fun rr s' q => ?_)
  cases rr with
  | error e => exact (show False from q).elim
  | ok fl =>
    cases fl with
    | ret u => exact I1.after q
    | next => exact False.elim q
    | brk => exact False.elim q
    | cont => exact False.elim q
end DL

end
section
set_option Elab.async false
set_option linter.all false
set_option maxRecDepth 100000
set_option maxHeartbeats 4000000
/-! DL, part 12: x(lambda: e), x a def that catches and tells the error's names. -/
namespace DL
open PySem PySem.Spec PyProof.Rows L2
/-- the lambda's body, entered at s -/
abbrev lamN (X : Cx) (A : Around) (outer : List Env) (s : Shared) (H : Hp) (E : XK) (scope : Scope) (f c' : Addr) : Cx :=
  (LamX.lamCx X A outer s H E scope f c').wish fun e s' => wpAny (model X.prog X.w) (A.deeper (LamX.lamEnv X scope s.heap.objs.size f c')) (leaving (LamX.lamEnv X scope s.heap.objs.size f c') e)
    (fun _ s'' => L2N.CX X.prog X.w outer H s E e s'') (fun e' s'' => L2N.CX X.prog X.w outer H s E e' s'') s'
section
variable {X : Cx} {pins : List (Addr × Obj)} {σ : L2.St} {H : Hp} {s : Shared}
/-- what is known of a lambda that was made at s -/
structure LamAt (X : Cx) (pins : List (Addr × Obj)) (σ : L2.St) (H : Hp) (s : Shared) (params : Arguments) (body : Expr) (scope : Scope) (f c' : Addr) (pm ctv : Value) : Prop where
  inv : Inv X pins σ H s
  sc : LamX.LamS X.env.scope scope
  obj : s.heap.get? f = some (PySem.W.kla_obj "<lambda>" (X.env.qual ++ "<lambda>") params body scope (cloFrom X.env.cells scope.names []) pm c' ctv)
  fr0 : H f = none
  fr1 : f ∉ frs X.stack
  bind : bindArgs (PySem.W.kla_fn "<lambda>" (X.env.qual ++ "<lambda>") params body scope (cloFrom X.env.cells scope.names []) pm (.ref c') ctv) ⟨[], []⟩ = pure []
theorem actN {Ng : List Str} {qg a : Str} {sg : Scope} {g f c' : Addr} {cdg pm ctv : Value} {params : Arguments} {body : Expr} {scope : Scope} {k i : Nat} {pn : List (Addr × Obj)} {xe : Value → Shared → Prop} {W : WX} {E : XK} {tb : TE} {p1 p2 : Pos} (L : LamAt X pins σ H s params body scope f c' pm ctv)
    (tk : L2N.Takes ((cxOf CN X.prog X.w X.K X.mg X.base Ng qg sg g cdg X.A X.stack s H EN).nox.tr pn xe) W) (hW : ∀ cls d σ' H', E cls d H' → W cls d σ' H') (hr : Room (k + 1) (X.A.deeper (envOfC qg sg s.heap.objs.size g cdg)))
    (hbody : ∀ (A : Around) (outer : List Env) (s : Shared) (H : Hp), Room k (A.deeper (LamX.lamEnv X scope s.heap.objs.size f c')) → PE (lamN X A outer s H E scope f c') body tb)
    (hN : Ng[i]? = some a) (hv : Vis sg a) (hd : (a == ("__debug__" : Str)) = false) (hcd : (a == ("__classdict__" : Str)) = false) :
    PE ((cxOf CN X.prog X.w X.K X.mg X.base Ng qg sg g cdg X.A X.stack s H EN).nox.tr pn xe) (.Call (.Name a p1) [] [] p2) fun σZ HZ Q => σZ[i]? = some (some (.ref f)) ∧ HZ c' = some (LamX.CodeO c' (X.env.qual ++ "<lambda>")) ∧ tb σ HZ Q := by
  refine ⟨fun pinsZ sZ σZ HZ Q IZ ⟨h1, h2, h3⟩ => ?_⟩
  refine wpAny_Call_Name_kw (thn ((pe_var (pos := p1) (i := i) hN hv hd hcd).run pinsZ sZ σZ HZ (fun v H1 => v = .ref f ∧ H1 = HZ) IZ ⟨.ref f, h1, rfl, rfl⟩) fun u s1 ⟨v, H1, I1, r1, q1, q2⟩ => ?_)
  subst q1
  rw [q2] at I1
  cases r1
  have of1 := I1.base.keep f _ L.obj L.fr0 L.fr1 fun z => nomatch (show f ∈ ([] : List Addr) from z)
  have run : codeAny (model X.prog X.w) (X.A.deeper (envOfC qg sg s.heap.objs.size g cdg)) (.call (.ref f) ⟨[], []⟩) (CR (L2N.CX X.prog X.w) (envOfC qg sg s.heap.objs.size g cdg :: X.stack) X.prog X.w HZ s1 Q E) s1 := by
    obtain ⟨⟨oc, vs, t, e1, e2, e3⟩, _, _⟩ := I1.hok c' _ h2
    refine PySem.W.kla_callFunE hr.depth of1 rfl L.sc.co L.sc.gen rfl ⟨c', oc, vs, t, rfl, e1, e2, e3⟩ ?_
    rw [L.bind]
    refine wpAny_pure (wpAny_newFunctionEnv (fun y hy => (L.sc.own y hy).2) (fun y hy => absurd hy (by simp)) (fun hN hns hsb => ⟨I1.nolimit.fresh _ hsb, ?_⟩) L.sc.kind)
    show codeAny _ _ (.expr body (LamX.lamEnv X scope s1.heap.objs.size f c')) _ _
    have J := LamX.lam_start2 (E := E) (f := f) (c' := c') (tk := s1.toks + ([] : List (Str × Value)).length) L.inv L.sc I1.env0 hr.hd I1.base hns fun b o e => hsb.extBut b o (Nat.ne_of_lt (Heap.lt_size e)) (Heap.get?_push_of_some _ e)
    refine PySem.W.kla_codeExpr (wpAny_mono ((hbody _ _ s1 HZ (hr.deeper _)).run [] _ _ HZ Q (J.wish _) h3) (fun v s' ⟨x, H', J', rv, q⟩ => ?_) fun e s' q => q)
    exact ⟨x, H', J'.os, J'.bare, J'.base, J'.hok, rv, q⟩
  refine PySem.W.callWith_F0 ⟨_, _, _, _, of1⟩ (wpAny_call (codeAny_mono run fun r s' q => ?_))
  cases r with
  | error e => exact L2N.passes_call tk hW pinsZ σZ HZ s1 e s' I1 q
  | ok fl =>
    cases fl with
    | ret u => exact I1.after q
    | next => exact False.elim q
    | brk => exact False.elim q
    | cont => exact False.elim q
end

/-- the text for an error, or for none -/
def dErr (r : Str) (nm : Value → Option Str) (db : DTE) : DTE := fun ρ M Q _ => db ρ M (fun _ M1 => Q (.str r) M1) (fun c M1 => ∃ z, nm c = some z ∧ Q (.str z) M1)
/-- nm tells the classes' names rightly -/
def NamesOk (K : PySem.W.Frag) (CS : Addr) (F : (List Dat → Option Dat) → List Dat → R Dat) (nm : Value → Option Str) : Prop := ∀ c z, nm c = some z →
  ∃ C, c = .ref C ∧ PySem.W.exmOne K c (.ref CS) = some true ∧ ExcC K C ∧ (∀ f, PySem.W.findIn K (.ref C) "__init__" ≠ some (some (.ref f))) ∧ ∀ a, F (oIsE K C a) [.ref a] = .ok (.str z)
theorem Hld.tabs {K : PySem.W.Frag} {T : List (Addr × Str)} {H H1 G : Hp} {M : DM} (h : Hld K T H G M) (e : LamX.ExtN H H1) (t : LamX.Tabs T H1) : Hld K T H1 G M ∧ Tr H G M H1 G M := by
  refine ⟨⟨fun a o q => e a o (h.sub a o q) fun ps z => h.nt a ps (by rw [q, z]), h.nt, fun a o q => ?_, h.off, t⟩, ⟨fun _ _ z => z, fun a o q m n => ⟨e a o q n, m, fun z => z⟩⟩⟩
  have hm := h.mem a o q
  cases o with
  | lst ds =>
    obtain ⟨vs, q1, l, r⟩ := hm
    exact ⟨vs, e a _ q1 (fun ps z => nomatch z), l, r⟩
  | ins C fs =>
    obtain ⟨dx, vs, q1, r⟩ := hm
    exact ⟨dx, vs, e a _ q1 (fun ps z => nomatch z), r⟩
  | dct kvs =>
    obtain ⟨vs, q1, l, r⟩ := hm
    exact ⟨vs, e a _ q1 (fun ps z => nomatch z), l, r⟩
theorem de_err {X : Cx} {T : List (Addr × Str)} {W : WX} {x z a n ex r : Str} {stg : Stmt} {fg c P CS : Addr} {fdg : FuncData} {F : (List Dat → Option Dat) → List Dat → R Dat} {nm : Value → Option Str} {k j : Nat} {params : Arguments} {body : Expr} {scope : Scope} {db : DTE} {p lpos pos : Pos}
    {p1 p2 p3 p4 p5 p6 p7 p8 p9 pA pB pC : Pos} (hm : X.mg x = some (.ref fg)) (Fg : FnP X.K x stg fg fdg)
    (hbg : L2.defBody stg = [.Try [.Expr (.Call (.Name a p1) [] [] p2) p3] [.ExceptHandler (some (.Name ex p4)) (some n) [.Return (some (.Call (.Name z p5) [.Name n p6] [] p7)) p8] p9] [] [] pA, .Return (some (.Constant (.str r) j pB)) pC])
    (hb : ∀ (kV doc pm : Value) (an : Option Addr) (cdv ct : Value) (us : List Value), us.length = [a].length → bindArgs (PySem.W.fnOf x x (L2.defArgs stg) (L2.defBody stg) (L2.defScope stg) .none kV doc pm an cdv ct) ⟨us, []⟩ = pure ([a].zip us))
    (Sg : FnScope [a, n] [a] (L2.defScope stg)) (hva : Vis (L2.defScope stg) a) (hln : (L2.defScope stg).names.lookup n = some .local) (hgx : (L2.defScope stg).names.lookup ex = some .globalImplicit) (hgz : (L2.defScope stg).names.lookup z = some .globalImplicit)
    (hnex : (ex == ("__debug__" : Str)) = false ∧ (a == ("__debug__" : Str)) = false ∧ (a == ("__classdict__" : Str)) = false ∧ (n == ("__debug__" : Str)) = false ∧ (n == ("__classdict__" : Str)) = false ∧ (z == ("__debug__" : Str)) = false)
    (hmx : X.mg ex = some (.ref CS)) (cz : CalZ X.prog X.w X.K X.mg X.base T k z F) (nmOk : NamesOk X.K CS F nm)
    (TB : LamX.TabB X.base X.mg c P) (hcode : X.env.code = .ref c) (hmT : (P, X.env.qual ++ "<lambda>") ∈ T) (hu : ∀ p ∈ T, p.1 = P → p.2 = X.env.qual ++ "<lambda>") (hr : Room (k + 2) X.A) (L : LamX.LamS X.env.scope scope) (hdef : defaultsOf params X.env = ([], []))
    (hbind : ∀ (q : Str) (cl : List (Str × Addr)) (pm cv ctv : Value), bindArgs (PySem.W.kla_fn "<lambda>" q params body scope cl pm cv ctv) ⟨[], []⟩ = pure [])
    (hbody : ∀ (A : Around) (outer : List Env) (s : Shared) (H : Hp) (E : XK) (f c' : Addr), Room k (A.deeper (LamX.lamEnv X scope s.heap.objs.size f c')) → DE (lamN X A outer s H E scope f c') T (WD E) db body)
    (hg : Gl X x := by rfl) (hdb : (x == ("__debug__" : Str)) = false := by decide) : DE X T W (dErr r nm db) (.Call (.Name x p) [.Lambda params body scope lpos] [] pos) := by
  obtain ⟨n1, n2, n3, n4, n5, n6⟩ := hnex
  have bnd := Fg.bindsN hb
  obtain ⟨oc, od, dV, kV, doc, pm, an, cdv, ct, osl, rfl, lk, hcd, _, _⟩ := Fg.ex
  refine ⟨fun pins s σ H Q I ⟨G, M, ρ, QD, ED, hh, rs, hd, kq, ke⟩ => ?_⟩
  refine wpAny_Call_Name_kw (ld_glob I hg hm ?_ hdb)
  refine PySem.W.callWith_K (h₀ := X.base) I.ok.mod.kin Fg.kp ?_ (by rfl) (by rfl)
  show wpAny _ _ (spliced ((false, eval (.Lambda params body scope lpos) X.env) :: backTo pos (starEach [] X.env))) _ _ s
  refine Calls.spliced_cons (LamX.lam_make2 I TB hcode hmT hu hh.tab hdef (L.has I.ok) fun f c' pm' ctv H1 s' I1 eN T1 hf hfn hfr hco => Calls.spliced_nil ⟨I1.kIn, ?_⟩)
  obtain ⟨h1, t1⟩ := hh.tabs eN T1
  have LA : LamAt X pins σ H1 s' params body scope f c' pm' ctv := ⟨I1, L, hf, hfn, hfr, hbind _ _ _ _ _⟩
  refine wpAny_call (codeAny_mono (R := CR CN X.stack X.prog X.w H1 s' Q EN) ?_ fun rr s2 q => ?_)
  · refine LamX.run_ofS (N := [a, n]) (ps := [a]) (us := [.ref f]) (vs := [.ref f]) lk hcd Sg hr I1.env0 (bnd s' [.ref f] I1.kIn rfl) (.cons rfl .nil) rfl fun hr' => ?_
    rw [hbg]
    have hgx' : Gl (cxOf CN X.prog X.w X.K X.mg X.base [a, n] x (L2.defScope stg) fg cdv X.A X.stack s' H1 EN).nox ex := hgx
    have hgz' : Gl (cxOf CN X.prog X.w X.K X.mg X.base [a, n] x (L2.defScope stg) fg cdv X.A X.stack s' H1 EN).nox z := hgz
    have key := pss_cons (L2N.ps_try_as (pos := pA) (np := p4) (pos' := p9) (X := (cxOf CN X.prog X.w X.K X.mg X.base [a, n] x (L2.defScope stg) fg cdv X.A X.stack s' H1 EN).nox) (x := ex) (n := n) (c := .ref CS) (i := 1) (body := [.Expr (.Call (.Name a p1) [] [] p2) p3])
        (b₀ := .Return (some (.Call (.Name z p5) [.Name n p6] [] p7)) p8) (suite := [])
        (tb := fun W D σZ HZ => ∃ Ech : XK, (∀ cls d σ' H', Ech cls d H' → W cls d σ' H') ∧ σZ[0]? = some (some (.ref f)) ∧ HZ c' = some (LamX.CodeO c' (X.env.qual ++ "<lambda>")) ∧ cE X.K T (WD Ech) db σ HZ fun _ H' => D.nx σZ H')
        (ts := fun aa cls d D σ' H' => d = none ∧ ∃ C, cls = .ref C ∧ (σ'.length = 2 → σ'[1]? = some (some (.ref aa))) ∧ spZ X.K T F aa C [.ref aa] H' D.rt) (Wout := W0)
        rfl rfl Sg.nd rfl hln ⟨hgx', n1, .inl hmx⟩ tk0
        (fun W' pn xe tk _ => ⟨fun pi s2 σ2 H2 D I2 ⟨Ech, hW, e1, e2, e3⟩ => (pss_one (ps_expr (actN (i := 0) (pn := pn) (xe := xe) LA tk hW hr' (fun A outer s H hr2 => hbody A outer s H Ech f c' hr2) rfl hva n2 n3))).run pi s2 σ2 H2 D I2 ⟨e1, e2, e3⟩⟩)
        (fun aa oe cls d pn hz hfl => ⟨fun pi s2 σ2 H2 D I2 ⟨ed, C, ec, e1, e2⟩ => by
          subst ed ec
          obtain ⟨vs, hv⟩ := hfl
          have hrk := hr'.mono (Nat.le_succ k)
          exact (pss_one (ps_ret (pe_callZ (X := (cxOf CN X.prog X.w X.K X.mg X.base [a, n] x (L2.defScope stg) fg cdv X.A X.stack s' H1 EN).nox.suite aa ((aa, oe) :: pn)) (i := 1) (p := (aa, oe)) (D := C) cz ⟨hrk.dp, hrk.un⟩ ⟨⟨rfl, vs, hv, hz.2.2 vs hv⟩, hz.1, hz.2.1⟩ (List.mem_cons_self ..) rfl (.inl hln) n4 n5 hgz' n6))).run pi s2 σ2 H2 D I2 ⟨e1 I2.len, e2⟩⟩))
      (pss_one (ps_ret (pos := pC) (pe_str (x := r) (j := j) (pos := pB))))
    refine ⟨_, key.nox, fun cls d H' => ∃ (C : Addr) (zz : Str) (G' : Hp) (M' : DM), cls = .ref C ∧ d = none ∧ PySem.W.exmOne X.K cls (.ref CS) = some true ∧ ExcC X.K C ∧ (∀ a, F (oIsE X.K C a) [.ref a] = .ok (.str zz)) ∧ Hld X.K T H' G' M' ∧ Tr H G M H' G' M' ∧ QD (.str zz) M', ?_, rfl, hco, ?_⟩
    · rintro cls d σ' H' ⟨C, zz, G', M', ec, ed, em, eC, eF, h', t', q⟩
      refine ⟨true, em, fun _ aa _ => ⟨ed, C, ec, fun hl => ?_, rfl, eC, G', M', .str zz, h', eF aa, fun v H'' G'' t'' h'' r'' => kq v H'' G'' M' _ (t'.trans t'') h'' r'' q⟩, fun z => nomatch z⟩
      rw [List.length_set] at hl
      rw [List.getElem?_set_self (by omega)]
    · refine cE_mk h1 (rs.mono t1.g) _ _ hd (fun v H' G' M' y t h' r' q => kq (.str r) H' G' M' _ (t1.trans t) h' (.str r) q) fun c dd H' G' M' t h' q hdd => ?_
      obtain ⟨zz, e, q⟩ := q
      obtain ⟨C, ec, em, eC, eN, eF⟩ := nmOk c zz e
      refine ⟨C, zz, G', M', ec, ?_, em, eC, eF, h', t1.trans t, q⟩
      rcases hdd with z | ⟨C', f', ec', z⟩
      · exact z
      · rw [ec] at ec'; cases ec'; exact absurd z (eN f')
  · cases rr with
    | error e => exact (show False from q).elim
    | ok fl =>
      cases fl with
      | ret u => exact I1.after q
      | next => exact False.elim q
      | brk => exact False.elim q
      | cont => exact False.elim q
end DL

end
section
set_option Elab.async false
set_option linter.all false
set_option maxRecDepth 100000
set_option maxHeartbeats 4000000
/-! DL, part 13: sorted(set(..)) of a tuple of tuples of ints; texts of bools. -/
namespace DLS
open PySem PySem.Spec PyProof.Rows L2
section
variable {P : Program} {w : World} {A : Around} {E : Value → Shared → Prop} {s : Shared}
abbrev setO (w : World) : Obj := { cls := .type "set", dict := none, data := .set #[] 0 (.fresh 0 0 (!w.params.followText "set-order")) }
abbrev itO (l : Addr) : Obj := { cls := .type "tuple_iterator", data := .fields #[.ref l, .int 0 0] }
/-- set(t), t a tuple of tuples of ints -/
theorem set_of_tuple {l : Addr} {items : Array Value} (ks : List (Addr × List Int)) {Q : Value → Shared → Prop} (hh : A.handled = none) (hl : s.heap.IsTuple l items) (hit : items.toList = ks.map fun p => Value.ref p.1) (hk : ∀ p ∈ ks, IsT P w s.heap p.2 p.1)
    (hfew : ks.length < 64) (hu : A.units + 3 < cLine)
    (h : ∀ (h' : Heap) (tk : Nat) L es ep t, SetTR P w h' s.heap.objs.size L es ep t → Got ks ks.length L → (∀ b o, s.heap.get? b = some o → h'.get? b = some o) → Q (.ref s.heap.objs.size) { s with heap := h', toks := tk }) : wpAny (model P w) A (call (.type "set") [.ref l]) Q E s := by
  have len : items.size = ks.length := by
    have q := congrArg List.length hit
    rwa [Array.length_toList, List.length_map] at q
  obtain ⟨c, tl, f0⟩ := F.called_set.mro
  have f1 := F.called_set.made
  have f2 := F.called_set.sub
  refine wpAny_call (codeAny_of_tree ?_)
  show wpAny _ _ (callAny (.type "set") _) _ _ _
  refine wpAny_pure ⟨Code.quiet_builtin _ (by decide +kernel), codeAny_builtin F.entry_type_call ?_⟩
  rw [Around.under_plain (weight_type_call_type "set" [.ref l] []) rfl]
  have f3 := F.called_set.notType
  have f4 := F.called_set.canCreate
  have f5 := F.typeCall_set_1 (.ref l)
  repeat (any_goals (first | assumption | wp_step))
  refine codeAny_mono (code_set_led1 (.ref l) (E := E) (Q₁ := fun obj s1 => obj = .ref s.heap.objs.size ∧ s1 = { s with heap := s.heap.push (setO w) }) ⟨rfl, rfl⟩) fun r s1 hr => ?_
  cases r with
  | error e => exact hr
  | ok fl =>
    cases fl with
    | ret obj =>
      obtain ⟨rfl, rfl⟩ := hr
      have gS : (s.heap.push (setO w)).get? s.heap.objs.size = some (setO w) := Heap.get?_push_size _ rfl
      have tS : Shared.TypeIs { s with heap := s.heap.push (setO w) } (.ref s.heap.objs.size) "set" := ⟨_, gS, rfl⟩
      have f6 := F.called_set.init.lookup
      have f7 := F.called_set.init.bind (.ref s.heap.objs.size)
      repeat (any_goals (first | assumption | wp_step))
      refine codeAny_mono (codeAny_call_builtin (R := wants (fun r s2 => r = .none ∧ ∃ h' tk L es ep t, s2 = { s with heap := h', toks := tk } ∧ SetTR P w h' s.heap.objs.size L es ep t ∧ Got ks ks.length L ∧ (∀ b o, s.heap.get? b = some o → h'.get? b = some o)) E) F.called_set.init.plain F.entry_set_init (check_set_init_1 tS ?_)) fun r2 s2 hr2 => ?_
      · obtain ⟨ol, gl, cl, nl, dl⟩ := hl
        obtain ⟨ocls, odict, odata, oslots⟩ := ol
        simp only at cl dl
        subst cl; subst dl
        have gl' : (s.heap.push (setO w)).get? l = some { cls := .type "tuple", dict := odict, data := .seq items nl, slots := oslots } := Heap.get?_push_of_some _ gl
        have f8 := F.sub_tuple_set
        have f9 := F.sub_tuple_frozenset
        have ne : (Value.type "tuple" == Value.type "dict") = false := by decide
        have tl1 : (s.heap.push (setO w)).IsTuple l items := ⟨_, gl', rfl, nl, rfl⟩
        unfold Builtin.«set.__init__» noKeywords Builtin.Frozenset.updateFrom
        generalize eP : pyIter = PI
        wp_walk
        subst eP
        refine wpAny_pyIter_tuple tl1 (wpAny_bind (wpAny_runValue ?_))
        have lS : l < s.heap.objs.size := Heap.lt_size gl
        have h3 : A.in1.in1.in1.handled = none := by simp [hh]
        have nI : l ≠ (s.heap.push (setO w)).objs.size := by
          rw [Heap.size_push]; exact Nat.ne_of_lt (Nat.lt_succ_of_lt lS)
        have nS : s.heap.objs.size ∉ [(s.heap.push (setO w)).objs.size, l] := by
          rw [Heap.size_push]
          simp only [List.mem_cons, List.mem_singleton, List.not_mem_nil, or_false, not_or]
          exact ⟨Nat.ne_of_lt (Nat.lt_succ_self _), Nat.ne_of_gt lS⟩
        have vals : ∀ (i : Nat) (v : Value), items[i]? = some v → ∃ p, ks[i]? = some p ∧ v = .ref p.1 := fun i v hv => by
          have q : items.toList[i]? = some v := by rw [Array.getElem?_toList]; exact hv
          rw [hit, List.getElem?_map] at q
          obtain ⟨p, e1, e2⟩ := Option.map_eq_some_iff.mp q
          exact ⟨p, e1, e2.symm⟩
        have none_of : ∀ b, s.heap.objs.size ≤ b → s.heap.get? b = none := fun b hb => by
          cases q : s.heap.get? b with
          | none => rfl
          | some o => exact absurd (Nat.lt_of_lt_of_le (Heap.lt_size q) hb) (Nat.lt_irrefl _)
        refine set_update_tups ((Walks.tuple h3 _ l nI items).toS) s.heap.objs.size nS ks len hfew vals s.heap hk (none_of _ (Nat.le_refl _)) (fun b hb => none_of b (by
            rw [List.mem_singleton.mp hb, Heap.size_push]; exact Nat.le_succ _)) hu (items.size - 0) 0 _ (by omega) (Nat.zero_le _) ⟨⟨_, Heap.get?_push_size _ rfl, rfl, rfl⟩, (tl1.push _)⟩
          (fun b o e => Heap.get?_push_of_some _ (Heap.get?_push_of_some _ e)) ⟨[], #[], 0, _, setTR_fresh (show ((s.heap.push (setO w)).push (itO l)).get? s.heap.objs.size = some (setO w) from Heap.get?_push_of_some _ gS), Got.zero ks⟩ ?_
        intro s' L es ep t hm hS' g' hkp
        obtain ⟨h', g2, d', tk', os'⟩ := s'
        obtain rfl : g2 = s.gens := hm.gens
        obtain rfl : d' = s.drawn := hm.drawn
        obtain rfl : os' = s.os := hm.os
        show wpAny _ _ _ _ _ _
        refine wpAny_pure ?_
        show wpAny _ _ (ret Value.none) _ _ _
        rw [len] at g'
        exact wpAny_pure ⟨rfl, h', tk', L, es, ep, t, rfl, hS', g', hkp⟩
      · cases r2 with
        | error e => exact hr2
        | ok fl2 =>
          cases fl2 with
          | ret r =>
            obtain ⟨rfl, h', tk, L, es, ep, t, rfl, hS', g', hk'⟩ := hr2
            repeat (any_goals (first | assumption | wp_step))
            exact h _ _ _ _ _ _ hS' g' hk'
          | _ => exact hr2.elim
    | _ => exact hr.elim
end
end DLS

end
section
set_option Elab.async false
set_option linter.all false
set_option maxRecDepth 100000
set_option maxHeartbeats 4000000
/-! DL, part 14: sorted(set(..)). -/
namespace DL
open PySem PySem.Spec PyProof.Rows L2
/-! ### pairs in order, each once -/
abbrev II := Int × Int
def cod (p : II) : Int := p.1 * 64 + p.2
def insP (x : II) : List II → List II
  | [] => [x]
  | y :: ys => if x = y then y :: ys else if cod x < cod y then x :: y :: ys else y :: insP x ys
def sortP : List II → List II
  | [] => []
  | x :: xs => insP x (sortP xs)
def okP (p : II) : Bool := decide (0 ≤ p.1) && decide (p.1 < 64) && decide (0 ≤ p.2) && decide (p.2 < 64)
theorem cod_inj {p q : II} (hp : okP p = true) (hq : okP q = true) (h : cod p = cod q) : p = q := by
  obtain ⟨a, b⟩ := p
  obtain ⟨c, d⟩ := q
  simp only [okP, Bool.and_eq_true, decide_eq_true_eq, cod] at hp hq h
  have : a = c := by omega
  have : b = d := by omega
  simp [*]
theorem mem_insP {x y : II} : ∀ {l : List II}, y ∈ insP x l ↔ y = x ∨ y ∈ l
  | [] => by simp [insP]
  | z :: l => by
    unfold insP
    split
    · rename_i h; subst h; simp
    · split
      · simp
      · simp only [List.mem_cons, mem_insP (l := l)]
        constructor
        · rintro (h | h | h) <;> simp [h]
        · rintro (h | h | h) <;> simp [h]
theorem mem_sortP {y : II} : ∀ {l : List II}, y ∈ sortP l ↔ y ∈ l
  | [] => Iff.rfl
  | x :: l => by unfold sortP; rw [mem_insP, mem_sortP (l := l), List.mem_cons]
theorem insP_sorted {x : II} (hx : okP x = true) : ∀ {l : List II}, (∀ y ∈ l, okP y = true) → l.Pairwise (fun p q => cod p < cod q) → (insP x l).Pairwise fun p q => cod p < cod q
  | [], _, _ => by simp [insP]
  | y :: l, hl, h => by
    unfold insP
    obtain ⟨h1, h2⟩ := List.pairwise_cons.mp h
    split
    · exact h
    · rename_i ne
      split
      · rename_i lt
        refine List.pairwise_cons.mpr ⟨fun z hz => ?_, h⟩
        rcases List.mem_cons.mp hz with e | e
        · rw [e]; exact lt
        · exact Int.lt_trans lt (h1 z e)
      · rename_i nlt
        refine List.pairwise_cons.mpr ⟨fun z hz => ?_, insP_sorted hx (fun z hz => hl z (List.mem_cons_of_mem _ hz)) h2⟩
        rcases mem_insP.mp hz with e | e
        · rw [e]
          have : cod y ≠ cod x := fun e => ne (cod_inj hx (hl y List.mem_cons_self) e.symm)
          omega
        · exact h1 z e
theorem sortP_sorted : ∀ {l : List II}, (∀ y ∈ l, okP y = true) → (sortP l).Pairwise fun p q => cod p < cod q
  | [], _ => List.Pairwise.nil
  | x :: l, h => insP_sorted (h x List.mem_cons_self) (fun y hy => h y (List.mem_cons_of_mem _ (mem_sortP.mp hy))) (sortP_sorted fun y hy => h y (List.mem_cons_of_mem _ hy))
/-- the one list in order with these items -/
theorem sorted_uniq : ∀ {l m : List II}, l.Pairwise (fun p q => cod p < cod q) → m.Pairwise (fun p q => cod p < cod q) → (∀ x, x ∈ l ↔ x ∈ m) → l = m
  | [], [], _, _, _ => rfl
  | [], y :: m, _, _, h => absurd ((h y).mpr List.mem_cons_self) (by simp)
  | x :: l, [], _, _, h => absurd ((h x).mp List.mem_cons_self) (by simp)
  | x :: l, y :: m, h1, h2, h => by
    obtain ⟨a1, a2⟩ := List.pairwise_cons.mp h1
    obtain ⟨b1, b2⟩ := List.pairwise_cons.mp h2
    have e : x = y := by
      rcases List.mem_cons.mp ((h x).mp List.mem_cons_self) with e | e
      · exact e
      · rcases List.mem_cons.mp ((h y).mpr List.mem_cons_self) with f | f
        · exact f.symm
        · have := b1 x e
          have := a1 y f
          omega
    subst e
    rw [sorted_uniq a2 b2 fun z => ?_]
    constructor
    · intro hz
      rcases List.mem_cons.mp ((h z).mp (List.mem_cons_of_mem _ hz)) with e | e
      · rw [e] at hz; exact absurd (a1 _ hz) (Int.lt_irrefl _)
      · exact e
    · intro hz
      rcases List.mem_cons.mp ((h z).mpr (List.mem_cons_of_mem _ hz)) with e | e
      · rw [e] at hz; exact absurd (b1 _ hz) (Int.lt_irrefl _)
      · exact e
def dpr (p : II) : Dat := .tup [.int p.1, .int p.2]
/-- pairs of data -/
def dprs : List Dat → Option (List II)
  | [] => some []
  | .tup [.int a, .int b] :: r => (dprs r).map ((a, b) :: ·)
  | _ :: _ => none
theorem dprs_map : ∀ l : List II, dprs (l.map dpr) = some l
  | [] => rfl
  | p :: l => by simp [dprs, dpr, dprs_map l]
theorem dprs_some : ∀ {ds : List Dat} {l : List II}, dprs ds = some l → ds = l.map dpr
  | [], l, h => by simp [dprs] at h; subst h; rfl
  | d :: ds, l, h => by
    unfold dprs at h
    split at h
    · rename_i e; cases e
    · rename_i a b r e
      cases e
      obtain ⟨m, hm, rfl⟩ := Option.map_eq_some_iff.mp h
      rw [dprs_some hm]; rfl
    · cases h
def oSortSet : List Dat → Option Dat
  | [.tup xs] => (dprs xs).bind fun ps => if ps.all okP ∧ ps.length < 64 then some (.lst ((sortP ps).map dpr)) else none
  | _ => none
section
variable {K : PySem.W.Frag} {T : List (Addr × Str)} {H G : Hp} {M : DM}
/-- a new object that nobody looks at -/
theorem Hld.junk (h : Hld K T H G M) {D : Addr} {o : HO} (n : H D = none) : Hld K T (upd H D o) G M ∧ Tr H G M (upd H D o) G M := by
  obtain ⟨g, m⟩ := h.free n
  refine ⟨⟨fun a u e => ?_, h.nt, fun a u e => ?_, h.off, h.tab.ext (sub_upd n)⟩, ⟨fun _ _ z => z, fun a u e q nt => ⟨by rw [upd_ne (ne_of_none e n)]; exact e, q, fun z => z⟩⟩⟩
  · rw [upd_ne (fun z => by rw [z, g] at e; cases e)]; exact h.sub a u e
  · exact (h.mem a u e).mono (fun _ _ z => z) (upd_ne fun z => by rw [z, m] at e; cases e)
end
/-- addresses of the tuples -/
theorem rows_at {K : PySem.W.Frag} {G : Hp} : ∀ {ps : List II} {vs : List V}, RepL K G vs (ps.map dpr) → ∃ ks : List (Addr × List Int), vs = ks.map (fun p => V.ref p.1) ∧ ks.map (·.2) = ps.map (fun p => [p.1, p.2]) ∧ ∀ k ∈ ks, Rd G k.1 (.tup (k.2.map V.int))
  | [], _, .nil => ⟨[], rfl, rfl, fun k hk => by cases hk⟩
  | p :: ps, _, .cons r t => by
    obtain ⟨ks, h1, h2, h3⟩ := rows_at t
    unfold dpr at r
    cases r with
    | tup ha hl rl =>
      rename_i a vs
      have e := RepL.dints (ns := [p.1, p.2]) rl
      subst e
      refine ⟨(a, [p.1, p.2]) :: ks, by rw [h1]; rfl, by rw [List.map_cons, h2]; rfl, fun k hk => ?_⟩
      rcases List.mem_cons.mp hk with e | e
      · rw [e]; exact ha
      · exact h3 k e
theorem rows_rep {K : PySem.W.Frag} {G : Hp} : ∀ {ks : List (Addr × List Int)} {ps : List II}, ks.map (·.2) = ps.map (fun p => [p.1, p.2]) → (∀ k ∈ ks, Rd G k.1 (.tup (k.2.map V.int))) → RepL K G (ks.map fun p => V.ref p.1) (ps.map dpr)
  | [], [], _, _ => .nil
  | [], _ :: _, h, _ => by cases h
  | _ :: _, [], h, _ => by cases h
  | k :: ks, p :: ps, h, g => by
    rw [List.map_cons, List.map_cons] at h
    injection h with h1 h2
    have gk := g k List.mem_cons_self
    rw [h1] at gk
    exact .cons (.tup gk (by show 2 ≤ sizeLine; rw [sizeLine_eq]; decide) (.cons (.int _) (.cons (.int _) .nil))) (rows_rep h2 fun k hk => g k (List.mem_cons_of_mem _ hk))
theorem cod_code (p : II) : TS.code 64 [p.1, p.2] = cod p := code_pair p.1 p.2
section
variable {X : Cx} {T : List (Addr × Str)} {W : WX}
theorem setT_run {pins : List (Addr × Obj)} {σ : L2.St} {H : Hp} {s : Shared} {l : Addr} {ks : List (Addr × List Int)} {us : List Value} {Q : VK} (hc : X.calm = true) (hu : X.A.units + 64 < cLine) (I : Inv X pins σ H s) (r : Vals [V.ref l] us) (hl : SqT X.K H l (ks.map fun p => V.ref p.1))
    (hk : ∀ p ∈ ks, SqT X.K H p.1 (p.2.map V.int)) (hf : ks.length < 64) (q : ∀ a L, H a = none → (∀ p ∈ L, p ∈ ks) → (∀ p ∈ ks, p.2 ∈ L.map (·.2)) → Q (.ref a) (upd H a (SetTO X.prog X.w a L))) :
    wpAny (model X.prog X.w) X.A (call (.type "set") us) (EP X pins σ Q) X.xe s := by
  rw [Vals.ref1 r]
  obtain ⟨its, rv, pl, hz⟩ := I.tuple hl
  have hn : H s.heap.objs.size = none := I.hok.fresh (Nat.le_refl _)
  refine DLS.set_of_tuple (P := X.prog) (w := X.w) ks (I.ok.hd hc) (show s.heap.IsTuple l its.toArray from pl) (by simpa using refs_of_vals rv) (fun p hp => L2.Inv.isT I (hk p hp)) hf (by omega) fun h' tk L es ep t R g k => ?_
  refine ⟨.ref s.heap.objs.size, upd H s.heap.objs.size (SetTO X.prog X.w s.heap.objs.size L), I.laid (t' := tk) k (Nat.le_refl _) (setTO_new R.t0), rfl, q _ L hn (fun p hp => List.mem_of_mem_take (g.sub p hp)) fun p hp => g.all p (by rw [List.take_length]; exact hp)⟩
theorem de_sortSet {e : Expr} {da : DTE} {p1 p2 p3 p4 : Pos} (hc : X.calm = true) (hu : X.A.units + 64 < cLine) (hm : X.mg "sorted" = none) (hm2 : X.mg "set" = none) (ha : DE X T W da e) (hg : Gl X "sorted" := by rfl) (hg2 : Gl X "set" := by rfl)
    (hs : starEach [e] X.env = (false, eval e X.env) :: starEach [] X.env := by rfl) (hs2 : starEach [.Call (.Name "set" p1) [e] [] p2] X.env = (false, eval (.Call (.Name "set" p1) [e] [] p2) X.env) :: starEach [] X.env := by rfl)
    (hpl : (backTo p2 (starEach [] X.env)).any (·.1) = false := by rfl) (hpl2 : (backTo p4 (starEach [] X.env)).any (·.1) = false := by rfl) :
    DE X T W (dCB oSortSet (dCons da dNil)) (.Call (.Name "sorted" p3) [.Call (.Name "set" p1) [e] [] p2] [] p4) := by
  refine ⟨fun pins s σ H Q I ⟨G, M, ρ, QD, ED, hh, r, hd, kq, ke⟩ => ?_⟩
  refine wpAny_Call_Name_kw (ld_blt I hg hm (show bootBuiltins "sorted" = some (.builtin "sorted") by decide +kernel) ?_ (by decide) (by decide))
  refine PyProof.Rows.callWith_builtin1 ?_ hs2 hpl2
  have hset : PE X (.Call (.Name "set" p1) [e] [] p2) fun σ' H' Q' => σ' = σ ∧ H' = H ∧ ∀ a L (ks : List (Addr × List Int)) (ps : List II) H1 G1 M1, Tr H G M H1 G1 M1 → Hld X.K T H1 G1 M1 → H1 a = none → ks.map (·.2) = ps.map (fun p => [p.1, p.2]) → (∀ k ∈ ks, Rd G1 k.1 (.tup (k.2.map V.int))) →
      ps.all okP = true → (∀ p ∈ L, p ∈ ks) → (∀ p ∈ ks, p.2 ∈ L.map (·.2)) → QD (.lst ((sortP ps).map dpr)) M1 → Q' (.ref a) (upd H1 a (SetTO X.prog X.w a L)) := by
    refine ⟨fun pins2 s2 σ2 H2 Q2 I2 ⟨e1, e2, q⟩ => ?_⟩
    subst e1 e2
    refine wpAny_Call_Name_kw (ld_blt I2 hg2 hm2 PyProof.Rows.boot_set ?_ (by decide) (by decide))
    refine PyProof.Rows.callWith_type1 (thn ((da_cons ha da_nil hs).run p2 pins2 s2 σ2 H2 (fun vs H1 => ∃ G1 M1 xs, Tr H2 G M H1 G1 M1 ∧ Hld X.K T H1 G1 M1 ∧ RepL X.K G1 vs xs ∧ (R.of (oSortSet xs)).wp (fun z => QD z M1) fun c => ED c M1) I2
      (cA_mk hh r _ ED hd (fun vs H' G' M' xs t h' r' q' => ⟨G', M', xs, t, h', r', q'⟩) ke)) fun us s1 ⟨vs, H1, I1, r1, G1, M1, xs, t1, h1, rx, qx⟩ => ?_) hs hpl
    cases eo : oSortSet xs with
    | none => rw [eo] at qx; exact qx.elim
    | some z =>
      rw [eo] at qx
      unfold oSortSet at eo
      split at eo
      · rename_i ys
        obtain ⟨ps, ep, eo⟩ := Option.bind_eq_some_iff.mp eo
        split at eo
        · rename_i hps
          cases eo
          obtain ⟨v, rfl, rv⟩ := one_case rx
          have ey := dprs_some ep
          subst ey
          cases rv with
          | tup hA hl rl =>
            obtain ⟨ks, k1, k2, k3⟩ := rows_at rl
            subst k1
            have hlen : ks.length = ps.length := by simpa using congrArg List.length k2
            exact setT_run hc hu I1 r1 (sqT_mono h1.sub hA) (fun p hp => sqT_mono h1.sub (k3 p hp)) (by omega) fun a L ha1 s1 s2 => q a L ks ps H1 G1 M1 t1 h1 ha1 k2 k3 hps.1 s1 s2 qx
        · cases eo
      · cases eo
  refine thn ((pa_cons hset pa_nil hs2).run p4 pins s σ H (fun vs H' => ∃ a L, vs = [V.ref a] ∧ ∃ (ks : List (Addr × List Int)) (ps : List II) (H1 G1 : Hp) (M1 : DM), Tr H G M H1 G1 M1 ∧ Hld X.K T H1 G1 M1 ∧ H1 a = none ∧ ks.map (·.2) = ps.map (fun p => [p.1, p.2]) ∧
      (∀ k ∈ ks, Rd G1 k.1 (.tup (k.2.map V.int))) ∧ ps.all okP = true ∧ (∀ p ∈ L, p ∈ ks) ∧ (∀ p ∈ ks, p.2 ∈ L.map (·.2)) ∧ QD (.lst ((sortP ps).map dpr)) M1 ∧ H' = upd H1 a (SetTO X.prog X.w a L)) I
    ⟨rfl, rfl, fun a L ks ps H1 G1 M1 t1 h1 h2 h3 h4 h5 h6 h7 h8 => ⟨a, L, rfl, ks, ps, H1, G1, M1, t1, h1, h2, h3, h4, h5, h6, h7, h8, rfl⟩⟩) fun us s1 ⟨vs, H', I1, r1, a, L, ev, ks, ps, H1, G1, M1, t1, h1, n1, k2, k3, hps, sub, all, qd, eH⟩ => ?_
  subst ev eH
  obtain ⟨h2, t2⟩ := h1.junk (o := SetTO X.prog X.w a L) n1
  have okL : ∀ p ∈ L, ∃ u ∈ ps, p.2 = [u.1, u.2] := fun p hp => by
    have : p.2 ∈ ps.map (fun p => [p.1, p.2]) := by rw [← k2]; exact List.mem_map_of_mem (sub p hp)
    obtain ⟨u, hu, e⟩ := List.mem_map.mp this
    exact ⟨u, hu, e.symm⟩
  have okps : ∀ u ∈ ps, okP u = true := fun u hu => List.all_eq_true.mp hps u hu
  refine cr_sortedT hc pins s1 σ _ _ us Q I1 r1 ⟨a, L, 2, 64, rfl, upd_same, fun p hp => sqT_mono h2.sub (k3 p (sub p hp)), by decide, fun p hp => ?_, fun L' p pm nd few pw np => ?_⟩
  · obtain ⟨u, hu, e⟩ := okL p hp
    have o := okps u hu
    simp only [okP, Bool.and_eq_true, decide_eq_true_eq] at o
    rw [e]
    refine ⟨rfl, ?_⟩
    intro x hx
    rcases List.mem_cons.mp hx with e | hx
    · rw [e]; omega
    · rw [List.mem_singleton.mp hx]; omega
  · -- the list as pairs
    have okL' : ∀ q ∈ L', ∃ u ∈ ps, q.2 = [u.1, u.2] := fun q hq => okL q (pm.mem_iff.mp hq)
    obtain ⟨us', hus⟩ : ∃ us' : List II, L'.map (·.2) = us'.map (fun p => [p.1, p.2]) ∧ ∀ u ∈ us', u ∈ ps := by
      clear pm nd few pw
      induction L' with
      | nil => exact ⟨[], rfl, fun u hu => by cases hu⟩
      | cons q L' ih =>
        obtain ⟨us', e, m⟩ := ih fun q hq => okL' q (List.mem_cons_of_mem _ hq)
        obtain ⟨u, hu, e2⟩ := okL' q List.mem_cons_self
        refine ⟨u :: us', by rw [List.map_cons, List.map_cons, e, e2], fun v hv => ?_⟩
        rcases List.mem_cons.mp hv with e | e
        · rw [e]; exact hu
        · exact m v e
    obtain ⟨hus, hmem⟩ := hus
    have pw1 : (L'.map (·.2)).Pairwise fun x y => TS.code 64 x ≤ TS.code 64 y := by rw [List.pairwise_map]; exact pw
    rw [hus, List.pairwise_map] at pw1
    have nd1 : us'.Nodup := by
      rw [hus] at nd
      exact nodup_of_map nd
    have pw2 : us'.Pairwise fun p q => cod p < cod q := by
      have both := pw1.and nd1
      refine both.imp_of_mem fun {x y} hx hy ⟨h1, h2⟩ => ?_
      rw [cod_code, cod_code] at h1
      have : cod x ≠ cod y := fun e => h2 (cod_inj (okps x (hmem x hx)) (okps y (hmem y hy)) e)
      omega
    have same : us' = sortP ps := sorted_uniq pw2 (sortP_sorted okps) fun u => by
      rw [mem_sortP]
      refine ⟨hmem u, fun hu => ?_⟩
      have m1 : [u.1, u.2] ∈ ks.map (·.2) := by rw [k2]; exact List.mem_map.mpr ⟨u, hu, rfl⟩
      obtain ⟨k, hk, ek⟩ := List.mem_map.mp m1
      have m2 := all k hk
      rw [ek] at m2
      have m3 : [u.1, u.2] ∈ L'.map (·.2) := (pm.map (·.2)).mem_iff.mpr m2
      rw [hus] at m3
      obtain ⟨v, hv, e⟩ := List.mem_map.mp m3
      have : v = u := by
        injection e with e1 e2
        injection e2 with e2 _
        exact Prod.ext e1 e2
      rw [← this]; exact hv
    have hl' : ((sortP ps).map dpr).length ≤ sizeLine := by
      rw [← same, List.length_map]
      have : us'.length = L'.length := by simpa using (congrArg List.length hus).symm
      rw [this, sizeLine_eq]; omega
    rw [same] at hus
    obtain ⟨G', t3, h3, r3⟩ := h2.newL np hl' (rows_rep hus fun k hk => k3 k (sub k (pm.mem_iff.mp hk)))
    exact kq _ _ G' M1 _ (t1.trans (t2.trans t3)) h3 r3 qd
theorem dp_sortSet {e : Expr} {fa : FE} {p1 p2 p3 p4 : Pos} (hc : X.calm = true) (hu : X.A.units + 64 < cLine) (hm : X.mg "sorted" = none) (hm2 : X.mg "set" = none) (ha : DE X T W (pur fa) e) (hg : Gl X "sorted" := by rfl) (hg2 : Gl X "set" := by rfl)
    (hs : starEach [e] X.env = (false, eval e X.env) :: starEach [] X.env := by rfl) (hs2 : starEach [.Call (.Name "set" p1) [e] [] p2] X.env = (false, eval (.Call (.Name "set" p1) [e] [] p2) X.env) :: starEach [] X.env := by rfl)
    (hpl : (backTo p2 (starEach [] X.env)).any (·.1) = false := by rfl) (hpl2 : (backTo p4 (starEach [] X.env)).any (·.1) = false := by rfl) :
    DE X T W (pur (fCB oSortSet (fCons fa fNil))) (.Call (.Name "sorted" p3) [.Call (.Name "set" p1) [e] [] p2] [] p4) := by
  rw [← dCB_pur, ← dCons_pur, ← dNil_pur]; exact de_sortSet hc hu hm hm2 ha hg hg2 hs hs2 hpl hpl2
end
end DL

end
section
set_option Elab.async false
set_option linter.all false
set_option maxRecDepth 100000
set_option maxHeartbeats 4000000
/-! DL, part 15: defs that make lambdas; the text of an error, for a pure body. -/
namespace DL
open PySem PySem.Spec PyProof.Rows L2
section
variable {P : Program} {w : World} {K : PySem.W.Frag} {mg : Str → Option Value} {base : Heap} {T : List (Addr × Str)}
/-- a def whose code object is known -/
theorem cal_dpC {x : Str} {st : Stmt} {f c : Addr} {fd : FuncData} {N ps : List Str} {k n : Nat} {d : DTS} (hm : mg x = some (.ref f)) (F : FnP K x st f fd) (hcode : fd.code = .ref c)
    (hb : ∀ (kV doc pm : Value) (an : Option Addr) (cdv ct : Value) (us : List Value), us.length = ps.length → bindArgs (PySem.W.fnOf x x (L2.defArgs st) (L2.defBody st) (L2.defScope st) .none kV doc pm an cdv ct) ⟨us, []⟩ = pure (ps.zip us)) (S : FnScope N ps (L2.defScope st)) (hn : ps.length = n)
    (hbody : ∀ (A : Around) (outer : List Env) (s : Shared) (H : Hp) (E : XK), Room k (A.deeper (envOfC x (L2.defScope st) s.heap.objs.size f (.ref c))) →
      DSs (cxOf (L2N.CX P w) P w K mg base N x (L2.defScope st) f (.ref c) A outer s H E) T (WD E) d (L2.defBody st)) : Cal P w K mg base T (k + 1) x n (dDef N d) := by
  subst hn
  refine ⟨f, fd, ps, ?_, hm, F.kp, F.bindsN hb⟩
  obtain ⟨oc, od, dV, kV, doc, pm, an, cdv, ct, osl, rfl, lk, hcd, _, _⟩ := F.ex
  obtain rfl : cdv = .ref c := hcode
  exact fn_of lk hcd S (fun vs H Q E h => h.1) fun A outer s H vs Q E hr h => ⟨_, hbody A outer s H E hr, sp_run h⟩
end
def fErr (r : Str) (nm : Value → Option Str) (f : FE) : FE := fun ρ => match f ρ with
  | .ok _ => .ok (.str r)
  | .exc c => R.of ((nm c).map .str)
  | .bad => .bad
theorem dErr_pur (r : Str) (nm : Value → Option Str) (f : FE) : dErr r nm (pur f) = pur (fErr r nm f) := by
  funext ρ M Q E
  simp only [dErr, pur, fErr]
  cases f ρ with
  | ok x => rfl
  | exc c =>
    cases e : nm c with
    | none => simp [e]
    | some z => simp [e]
  | bad => rfl
/-- what a def that makes lambdas knows: its code object c, the table P -/
structure LamF (base : Heap) (mg : Str → Option Value) (T : List (Addr × Str)) (fd : FuncData) (q : Str) (c P : Addr) : Prop where
  code : fd.code = .ref c
  tab : LamX.TabB base mg c P
  mem : (P, q) ∈ T
  uni : ∀ p ∈ T, p.1 = P → p.2 = q
theorem dp_err {X : Cx} {T : List (Addr × Str)} {W : WX} {x z a n ex r : Str} {stg : Stmt} {fg c P CS : Addr} {fdg fd : FuncData} {q : Str} {F : (List Dat → Option Dat) → List Dat → R Dat} {nm : Value → Option Str} {k j : Nat} {params : Arguments} {body : Expr} {scope : Scope} {fb : FE} {p lpos pos : Pos}
    {p1 p2 p3 p4 p5 p6 p7 p8 p9 pA pB pC : Pos} (hm : X.mg x = some (.ref fg)) (Fg : FnP X.K x stg fg fdg)
    (hbg : L2.defBody stg = [.Try [.Expr (.Call (.Name a p1) [] [] p2) p3] [.ExceptHandler (some (.Name ex p4)) (some n) [.Return (some (.Call (.Name z p5) [.Name n p6] [] p7)) p8] p9] [] [] pA, .Return (some (.Constant (.str r) j pB)) pC])
    (hb : ∀ (kV doc pm : Value) (an : Option Addr) (cdv ct : Value) (us : List Value), us.length = [a].length → bindArgs (PySem.W.fnOf x x (L2.defArgs stg) (L2.defBody stg) (L2.defScope stg) .none kV doc pm an cdv ct) ⟨us, []⟩ = pure ([a].zip us))
    (Sg : FnScope [a, n] [a] (L2.defScope stg)) (hva : Vis (L2.defScope stg) a) (hln : (L2.defScope stg).names.lookup n = some .local) (hgx : (L2.defScope stg).names.lookup ex = some .globalImplicit) (hgz : (L2.defScope stg).names.lookup z = some .globalImplicit)
    (hnex : (ex == ("__debug__" : Str)) = false ∧ (a == ("__debug__" : Str)) = false ∧ (a == ("__classdict__" : Str)) = false ∧ (n == ("__debug__" : Str)) = false ∧ (n == ("__classdict__" : Str)) = false ∧ (z == ("__debug__" : Str)) = false)
    (hmx : X.mg ex = some (.ref CS)) (cz : CalZ X.prog X.w X.K X.mg X.base T k z F) (nmOk : NamesOk X.K CS F nm) (lf : LamF X.base X.mg T fd q c P) (hcode : X.env.code = .ref c) (hq : X.env.qual ++ "<lambda>" = q) (hr : Room (k + 2) X.A) (L : LamX.LamS X.env.scope scope) (hdef : defaultsOf params X.env = ([], []))
    (hbind : ∀ (q : Str) (cl : List (Str × Addr)) (pm cv ctv : Value), bindArgs (PySem.W.kla_fn "<lambda>" q params body scope cl pm cv ctv) ⟨[], []⟩ = pure [])
    (hbody : ∀ (A : Around) (outer : List Env) (s : Shared) (H : Hp) (E : XK) (f c' : Addr), Room k (A.deeper (LamX.lamEnv X scope s.heap.objs.size f c')) → DE (lamN X A outer s H E scope f c') T (WD E) (pur fb) body)
    (hg : Gl X x := by rfl) (hdb : (x == ("__debug__" : Str)) = false := by decide) : DE X T W (pur (fErr r nm fb)) (.Call (.Name x p) [.Lambda params body scope lpos] [] pos) := by
  rw [← dErr_pur]
  exact de_err hm Fg hbg hb Sg hva hln hgx hgz hnex hmx cz nmOk lf.tab hcode (by rw [hq]; exact lf.mem) (by rw [hq]; exact lf.uni) hr L hdef hbind hbody hg hdb
end DL

end
section
set_option Elab.async false
set_option linter.all false
set_option maxRecDepth 100000
set_option maxHeartbeats 4000000
/-! DL, part 16: what the head tells: defs, names, classes of errors, code objects. -/
namespace HK
open PySem PySem.Spec PyProof.Rows L2 He
/-! ### errors -/
def excCB (K : PySem.W.Frag) (D : Addr) : Bool :=
  decide (PySem.W.findIn K (.ref D) "__getattribute__" = some (some (.builtin "BaseException.__getattribute__"))) && (decide (PySem.W.findIn K (.ref D) "__getattr__" = some none) && (decide (PySem.W.subIn K (.ref D) (.type "BaseException") = some true) && (PySem.W.hasDictIn K D &&
    (decide (PySem.W.findIn K (.ref D) "__class__" = some (some (.builtin "object.__class__"))) && (decide (PySem.W.specialIn K (.builtin "object.__class__") "__get__" = some (some (.builtin "getset_descriptor.__get__"))) && (decide (PySem.W.takesIn K (.builtin "object.__class__") = some true) &&
      decide (PySem.W.mroIn K D (.type "object") = some true)))))))
theorem excCB_ok {K : PySem.W.Frag} {D : Addr} (h : excCB K D = true) : ExcC K D := by
  obtain ⟨h1, h⟩ := ba h
  obtain ⟨h2, h⟩ := ba h
  obtain ⟨h3, h⟩ := ba h
  obtain ⟨h4, h⟩ := ba h
  obtain ⟨h5, h⟩ := ba h
  obtain ⟨h6, h⟩ := ba h
  obtain ⟨h7, h8⟩ := ba h
  exact ⟨of_decide_eq_true h1, of_decide_eq_true h2, of_decide_eq_true h3, h4, of_decide_eq_true h5, of_decide_eq_true h6, of_decide_eq_true h7, of_decide_eq_true h8⟩
def noInitB (K : PySem.W.Frag) (D : Addr) : Bool := match PySem.W.findIn K (.ref D) "__init__" with
  | some (some (.ref _)) => false
  | _ => true
theorem noInitB_ok {K : PySem.W.Frag} {D : Addr} (h : noInitB K D = true) (f : Addr) : PySem.W.findIn K (.ref D) "__init__" ≠ some (some (.ref f)) := fun z => by
  unfold noInitB at h
  rw [z] at h
  cases h
/-- isinstance of an error of the class x, asked for each of these classes, and for ValueError -/
def kitB (K : PySem.W.Frag) (x : Str) (ys : List (Str × Bool)) : Bool := (ys.all fun y => decide (PySem.W.kitOne K (.ref (ga K x)) (.ref (ga K y.1)) = some y.2)) && decide (PySem.W.kitOne K (.ref (ga K x)) (.type "ValueError") = some true)
theorem kitB_ok {K : PySem.W.Frag} {x : Str} {ys : List (Str × Bool)} (h : kitB K x ys = true) : (∀ y ∈ ys, PySem.W.kitOne K (.ref (ga K x)) (.ref (ga K y.1)) = some y.2) ∧ PySem.W.kitOne K (.ref (ga K x)) (.type "ValueError") = some true := by
  obtain ⟨h1, h2⟩ := ba h
  exact ⟨fun y hy => of_decide_eq_true (List.all_eq_true.mp h1 y hy), of_decide_eq_true h2⟩
/-! ### code objects and their tables -/
def cAt (K : PySem.W.Frag) (x : Str) : Addr := match K.lookup (ga K x) with
  | some ⟨_, _, .func fd, _⟩ => (match fd.code with
    | .ref c => c
    | _ => 0)
  | _ => 0
def pAt (K K2 : PySem.W.Frag) (x : Str) : Addr := match K2.lookup (cAt K x) with
  | some ⟨_, _, .fields vs, _⟩ => (match (vs[11]? : Option Value) with
    | some (.ref P) => P
    | _ => 0)
  | _ => 0
def codB (K : PySem.W.Frag) (x : Str) : Bool := match K.lookup (ga K x) with
  | some ⟨_, _, .func fd, _⟩ => decide (fd.code = .ref (cAt K x))
  | _ => false
def isS : Value → Bool
  | .str _ _ => true
  | _ => false
def isIn : Value → Bool
  | .int _ _ => true
  | _ => false
def isBo : Value → Bool
  | .bool _ => true
  | _ => false
def hdB (K2 : PySem.W.Frag) (c P : Addr) : Bool := match K2.lookup c with
  | some ⟨oc, _, .fields vs, _⟩ => decide (oc = .type "code") && (decide (vs[11]? = some (.ref P)) && (decide (vs.getD 11 .none = .ref P) && (isS (vs.getD 18 .none) && (isIn (vs.getD 7 .none) && (isBo (vs.getD 9 .none) && (isIn (vs.getD 10 .none) && decide (c ≠ P)))))))
  | _ => false
theorem hdB_ok {K2 : PySem.W.Frag} {c P : Addr} {h : Heap} (X : K2.In h) (e : hdB K2 c P = true) : PySem.W.CodeHd h c P := by
  unfold hdB at e
  cases q : K2.lookup c with
  | none => rw [q] at e; cases e
  | some o =>
    obtain ⟨oc, od, dt, os⟩ := o
    rw [q] at e
    cases dt with
    | fields vs =>
      obtain ⟨h1, e⟩ := ba (show (decide (oc = .type "code") && (decide (vs[11]? = some (.ref P)) && (decide (vs.getD 11 .none = .ref P) && (isS (vs.getD 18 .none) && (isIn (vs.getD 7 .none) && (isBo (vs.getD 9 .none) && (isIn (vs.getD 10 .none) && decide (c ≠ P)))))))) = true from e)
      obtain ⟨h2, e⟩ := ba e
      obtain ⟨h3, e⟩ := ba e
      obtain ⟨h4, e⟩ := ba e
      obtain ⟨h5, e⟩ := ba e
      obtain ⟨h6, e⟩ := ba e
      obtain ⟨h7, h8⟩ := ba e
      have s1 : ∃ f t, vs.getD 18 .none = .str f t := by cases q2 : vs.getD 18 .none <;> first | exact ⟨_, _, rfl⟩ | (rw [q2] at h4; cases h4)
      have s2 : ∃ f t, vs.getD 7 .none = .int f t := by cases q2 : vs.getD 7 .none <;> first | exact ⟨_, _, rfl⟩ | (rw [q2] at h5; cases h5)
      have s3 : ∃ f, vs.getD 9 .none = .bool f := by cases q2 : vs.getD 9 .none <;> first | exact ⟨_, rfl⟩ | (rw [q2] at h6; cases h6)
      have s4 : ∃ f t, vs.getD 10 .none = .int f t := by cases q2 : vs.getD 10 .none <;> first | exact ⟨_, _, rfl⟩ | (rw [q2] at h7; cases h7)
      obtain ⟨f1, t1, s1⟩ := s1
      obtain ⟨f2, t2, s2⟩ := s2
      obtain ⟨f3, s3⟩ := s3
      obtain ⟨f4, t4, s4⟩ := s4
      exact ⟨_, vs, f1, t1, f2, t2, f3, f4, t4, X _ _ q, of_decide_eq_true h1, rfl, of_decide_eq_true h2, of_decide_eq_true h3, s1, s2, s3, s4, of_decide_eq_true h8⟩
    | _ => cases e
/-- the table: empty, not in K -/
def isTab : Option Obj → Bool
  | some ⟨.none, none, .fields vs, os⟩ => vs.isEmpty && os.isEmpty
  | _ => false
theorem isTab_ok {o : Option Obj} (h : isTab o = true) : o = some { cls := .none, data := .fields #[] } := by
  unfold isTab at h
  split at h
  · rename_i vs os
    obtain ⟨h1, h2⟩ := ba h
    have e1 : vs = #[] := Array.isEmpty_iff.mp h1
    have e2 : os = #[] := Array.isEmpty_iff.mp h2
    rw [e1, e2]
  · cases h
def tabB (K K2 : PySem.W.Frag) (P : Addr) : Bool := (K.lookup P).isNone && isTab (K2.lookup P)
theorem mem_lk {α : Type} : ∀ {K : List (Addr × α)} {a : Addr} {o : α}, K.lookup a = some o → (a, o) ∈ K
  | [], _, _, h => by cases h
  | (b, u) :: K, a, o, h => by
    rw [List.lookup_cons] at h
    cases q : (a == b) with
    | true =>
      rw [q] at h
      cases h
      rw [beq_iff_eq.mp q]
      exact List.mem_cons_self
    | false =>
      rw [q] at h
      exact List.mem_cons_of_mem _ (mem_lk h)
def lamB (K K2 : PySem.W.Frag) (x : Str) : Bool := codB K x && (hdB K2 (cAt K x) (pAt K K2 x) && (tabB K K2 (pAt K K2 x) && decide (mainGlobals ≠ pAt K K2 x)))
def noLst (K : PySem.W.Frag) : Bool := K.all fun p => !(p.2.cls == .type "list")
theorem noLst_ok {K : PySem.W.Frag} (h : noLst K = true) {H : Hp} {a : Addr} {xs : List V} (s : SqL K H a xs) : Rd H a (.lst xs) := by
  rcases s with s | ⟨o, its, n, e, c, _⟩
  · exact s
  · have m := List.all_eq_true.mp h (a, o) (mem_lk e)
    have m : (!(o.cls == .type "list")) = true := m
    rw [c] at m
    exact absurd m (by decide)
theorem codB_ok {K : PySem.W.Frag} {x : Str} {st : Stmt} {fd : FuncData} (h : codB K x = true) (F : DL.FnP K x st (ga K x) fd) : fd.code = .ref (cAt K x) := by
  obtain ⟨oc, od, dV, kV, doc, pm, an, cdv, ct, osl, rfl, lk, _⟩ := F.ex
  unfold codB at h
  rw [lk] at h
  exact of_decide_eq_true h
/-! ### the hook -/
def keepO (g : Addr → Option Obj) (a : Addr) : Bool := match g a with
  | some o => !(o.cls == .none) && !(o.cls == .type "list")
  | none => false
def k1 (n : Nat) (g : Addr → Option Obj) : PySem.W.Frag := frG g ((asD g n).filter (keepO g))
def k2 (n : Nat) (g : Addr → Option Obj) : PySem.W.Frag := frG g (asD g n)
abbrev AlX : Type := AlD × Bool
def obsX (n : Nat) (fa : List Fa) (fn : List DefD) (ex : PySem.W.Frag → PySem.W.Frag → Bool) (g : Addr → Option Obj) : AlX := (obsD fa fn (k1 n g), ex (k1 n g) (k2 n g))
def hookX (n : Nat) (fa : List Fa) (fn : List DefD) (ex : PySem.W.Frag → PySem.W.Frag → Bool) : PySem.W.Hook where
  α := AlX
  obs := fun s => obsX n fa fn ex s.heap.get?
  val := fun _ => (valD fn, true)
  says := fun _ h => ∃ K K2 : PySem.W.Frag, K.In h ∧ K2.In h ∧ SaysD fa fn K ∧ ex K K2 = true
  of := fun _ _ e => ⟨_, _, frG_in, frG_in, congrArg Prod.fst e, congrArg Prod.snd e⟩
  keeps := fun _ _ _ ⟨K, K2, hK, hK2, c⟩ k => ⟨K, K2, PySem.W.Frag.In.keeps hK k, PySem.W.Frag.In.keeps hK2 k, c⟩
theorem obsX_eq {n : Nat} {fa : List Fa} {fn : List DefD} {ex : PySem.W.Frag → PySem.W.Frag → Bool} {g : Addr → Option Obj} {s : Shared} (h : ∀ a, g a = s.heap.get? a) : obsX n fa fn ex g = (hookX n fa fn ex).obs s := by
  have e : g = s.heap.get? := funext h
  rw [e] <;> rfl
end HK

end
section
set_option Elab.async false
set_option linter.all false
set_option maxRecDepth 100000
set_option maxHeartbeats 4000000
/-! DL, part 17: to compute with the readings. -/
namespace DL
open PySem PySem.Spec PyProof.Rows L2
/-! ### one step each -/
variable (ρ : DSt)
@[simp] theorem e_seq (f g : FS) : fSeq f g ρ = (f ρ >>= fun fl => match fl with
  | .nx ρ' => g ρ'
  | o => .ok o) := rfl
@[simp] theorem e_next : fNext ρ = .ok (.nx ρ) := rfl
@[simp] theorem e_ifS (t : FT) (f g : FS) : fIfS t f g ρ = (t ρ >>= fun b => if b = true then f ρ else g ρ) := rfl
@[simp] theorem e_ret (f : FE) : fRet f ρ = (f ρ >>= fun x => .ok (.rt x)) := rfl
@[simp] theorem e_raise (C : Addr) : fRaise C ρ = .exc (.ref C) := rfl
@[simp] theorem e_set (i : Nat) (f : FE) : fSet i f ρ = (f ρ >>= fun x => .ok (.nx (ρ.set i (some x)))) := rfl
@[simp] theorem e_expr (f : FE) : fExpr f ρ = (f ρ >>= fun _ => .ok (.nx ρ)) := rfl
@[simp] theorem e_op2 (o : Dat → Dat → Option Dat) (f g : FE) : fOp2 o f g ρ = (f ρ >>= fun x => g ρ >>= fun y => R.of (o x y)) := rfl
@[simp] theorem e_op1 (o : Dat → Option Dat) (f : FE) : fOp1 o f ρ = (f ρ >>= fun x => R.of (o x)) := rfl
@[simp] theorem e_cb (o : List Dat → Option Dat) (l : FA) : fCB o l ρ = (l ρ >>= fun xs => R.of (o xs)) := rfl
@[simp] theorem e_cons (f : FE) (l : FA) : fCons f l ρ = (f ρ >>= fun x => l ρ >>= fun xs => .ok (x :: xs)) := rfl
@[simp] theorem e_nil : fNil ρ = .ok [] := rfl
@[simp] theorem e_c (d : Dat) : fC d ρ = .ok d := rfl
theorem e_var {ρ : DSt} {i : Nat} {d : Dat} (h : ρ[i]? = some (some d)) : fVar i ρ = .ok d := by unfold fVar; rw [h]
@[simp] theorem e_var0 (d : Dat) (r : DSt) : fVar 0 (some d :: r) = .ok d := rfl
@[simp] theorem e_varS (i : Nat) (d : Option Dat) (r : DSt) : fVar (i + 1) (d :: r) = fVar i r := by unfold fVar; rfl
@[simp] theorem e_and (f g : FT) : fAnd f g ρ = (f ρ >>= fun b => if b = true then g ρ else .ok false) := rfl
@[simp] theorem e_or (f g : FT) : fOr f g ρ = (f ρ >>= fun b => if b = true then .ok true else g ρ) := rfl
@[simp] theorem e_not (f : FT) : fNot f ρ = (f ρ >>= fun b => .ok (!b)) := rfl
@[simp] theorem e_tru (f : FE) : fTru f ρ = (f ρ >>= fun x => R.of (oTru x)) := rfl
@[simp] theorem e_test (f : FE) : fTest f ρ = (f ρ >>= fun x => match x with
  | .bl b => .ok b
  | _ => .bad) := rfl
@[simp] theorem e_andV (f g : FE) : fAndV f g ρ = (f ρ >>= fun x => match x with
  | .bl true => g ρ
  | .bl false => .ok (.bl false)
  | _ => .bad) := rfl
@[simp] theorem e_orV (f g : FE) : fOrV f g ρ = (f ρ >>= fun x => match x with
  | .bl true => .ok (.bl true)
  | .bl false => g ρ
  | _ => .bad) := rfl
@[simp] theorem e_ch (o o' : Dat → Dat → Option Dat) (f g h : FE) : fCh o o' f g h ρ = (f ρ >>= fun x => g ρ >>= fun y => R.of (o x y) >>= fun z => match z with
  | .bl true => h ρ >>= fun w => R.of (o' y w)
  | .bl false => .ok (.bl false)
  | _ => .bad) := rfl
@[simp] theorem e_call (n : Nat) (f : List Dat → R Dat) (l : FA) : fCall n f l ρ = (l ρ >>= fun xs => if xs.length = n then f xs else .bad) := rfl
@[simp] theorem e_if (t : FT) (f g : FE) : fIf t f g ρ = (t ρ >>= fun b => if b = true then f ρ else g ρ) := rfl
@[simp] theorem e_tup (l : FA) : fTup l ρ = (l ρ >>= fun xs => if xs.length ≤ sizeLine then .ok (.tup xs) else .bad) := rfl
@[simp] theorem e_lst (l : FA) : fLst l ρ = (l ρ >>= fun xs => if xs.length ≤ sizeLine then .ok (.lst xs) else .bad) := rfl
@[simp] theorem e_it (o : List Dat → Option (List Dat)) (l : FA) : fIt o l ρ = (l ρ >>= fun x => R.of (o x)) := rfl
@[simp] theorem e_seqI (f : FE) : fSeqI f ρ = (f ρ >>= fun x => R.of (oSeq x)) := rfl
@[simp] theorem e_yes : fYes ρ = .ok true := rfl
@[simp] theorem e_part (f : FE) : fPart f ρ = (f ρ >>= fun x => match x with
  | .int i => .ok (some i)
  | _ => .bad) := rfl
@[simp] theorem e_noPart : fNoPart ρ = .ok none := rfl
@[simp] theorem e_sl (f : FE) (l u : FO) : fSl f l u ρ = (f ρ >>= fun x => l ρ >>= fun i => u ρ >>= fun j => R.of (oSl x i j)) := rfl
@[simp] theorem e_lc (fi : FA) (g : DGt) (t : FT) (f : FE) (vs : List Nat) : fLc fi g t f vs ρ = (fi ρ >>= fun xs => (fLcL g t f (wipeD ρ vs) xs).calm >>= fun ys => .ok (.lst ys)) := rfl
@[simp] theorem e_err (r : Str) (nm : Value → Option Str) (f : FE) : fErr r nm f ρ = match f ρ with
  | .ok _ => .ok (.str r)
  | .exc c => R.of ((nm c).map .str)
  | .bad => .bad := rfl
@[simp] theorem calm_ok {α : Type} (a : α) : (R.ok a).calm = .ok a := rfl
@[simp] theorem wipe_nil : wipeD ρ [] = ρ := rfl
@[simp] theorem wipe_cons (v : Nat) (vs : List Nat) : wipeD ρ (v :: vs) = (wipeD ρ vs).set v none := rfl
@[simp] theorem tru_bl (b : Bool) : oTru (.bl b) = some b := rfl
@[simp] theorem len_tup (xs : List Dat) : oLen [.tup xs] = some (.int xs.length) := rfl
@[simp] theorem len_lst (xs : List Dat) : oLen [.lst xs] = some (.int xs.length) := rfl
@[simp] theorem seq_tup (xs : List Dat) : oSeq (.tup xs) = some xs := rfl
@[simp] theorem seq_lst (xs : List Dat) : oSeq (.lst xs) = some xs := rfl
@[simp] theorem not_bl (b : Bool) : oNot (.bl b) = some (.bl (!b)) := rfl
@[simp] theorem le_ii (i j : Int) : oLe (.int i) (.int j) = some (.bl (decide (i ≤ j))) := rfl
@[simp] theorem lt_ii (i j : Int) : oLt (.int i) (.int j) = some (.bl (decide (i < j))) := rfl
@[simp] theorem add_ii (i j : Int) : oAdd (.int i) (.int j) = some (.int (i + j)) := rfl
@[simp] theorem sub_ii (i j : Int) : oSub (.int i) (.int j) = some (.int (i - j)) := rfl
theorem def_eq (N : List Str) (f : FS) (ds : List Dat) : fDef N f ds = (f (startD N ds) >>= fun fl => match fl with
  | .nx _ => .ok .non
  | .rt x => .ok x
  | _ => .bad) := rfl
/-! ### isinstance -/
def isiT (x : Dat) (n : String) : Bool := match x, n with
  | .non, _ => false
  | .bl _, "bool" => true
  | .bl _, "int" => true
  | .int _, "int" => true
  | .str _, "str" => true
  | .tup _, "tuple" => true
  | .lst _, "list" => true
  | _, _ => false
def tyK (n : String) : Prop := n = "int" ∨ n = "bool" ∨ n = "tuple" ∨ n = "list" ∨ n = "str"
def plain : Dat → Bool
  | .ty _ => false
  | .ref _ => false
  | _ => true
theorem oIsi_eq {x : Dat} (h : plain x = true) {n : String} (hn : tyK n) : oIsi [x, .ty n] = some (.bl (isiT x n)) := by
  unfold oIsi
  rcases hn with rfl | rfl | rfl | rfl | rfl <;> cases x <;> first | (cases h; done) | (simp only [tyOf, Option.bind_some]; first | rfl | (rw [show ∀ a b r, L2.kitB a b = some r → (L2.kitB a b).map Dat.bl = some (.bl r) from fun a b r h => by rw [h]; rfl]; rfl) | (simp [isiT]; rfl) | decide +kernel)
/-! ### comprehensions, loops -/
theorem lc_eq {i : Nat} {t : FT} {f : FE} {ρ : DSt} (p : Dat → Bool) (h : Dat → Dat) : ∀ {xs : List Dat}, (∀ x ∈ xs, t (ρ.set i (some x)) = .ok (p x)) → (∀ x ∈ xs, p x = true → f (ρ.set i (some x)) = .ok (h x)) → fLcL (gOne i) t f ρ xs = .ok ((xs.filter p).map h)
  | [], _, _ => rfl
  | x :: xs, ht, hf => by
    have ih := lc_eq p h (xs := xs) (fun y hy => ht y (List.mem_cons_of_mem _ hy)) fun y hy => hf y (List.mem_cons_of_mem _ hy)
    unfold fLcL
    simp only [gOne, ht x List.mem_cons_self, R.ok_bind]
    cases e : p x with
    | false => simp [List.filter_cons, e, ih]
    | true => simp [List.filter_cons, e, ih, hf x List.mem_cons_self e]
theorem lc_all {i : Nat} {f : FE} {ρ : DSt} (h : Dat → Dat) {xs : List Dat} (hf : ∀ x ∈ xs, f (ρ.set i (some x)) = .ok (h x)) : fLcL (gOne i) fYes f ρ xs = .ok (xs.map h) := by
  rw [lc_eq (fun _ => true) h (fun x _ => rfl) fun x hx _ => hf x hx, List.filter_eq_self.mpr fun _ _ => rfl]
theorem bools_all {α : Type} (g : α → Bool) (xs : List α) : bools (xs.map fun x => Dat.bl (g x)) = some (xs.map g) := by
  have := bools_map (xs.map g)
  simpa [List.map_map, Function.comp_def] using this
end DL

end
section
set_option Elab.async false
set_option linter.all false
set_option maxRecDepth 100000
set_option maxHeartbeats 4000000
/-! DL, part 18: the end. -/
namespace DL
open PySem PySem.Spec PyProof.Rows L2
section
variable {P : Program} {w : World} {K : PySem.W.Frag} {mg : Str → Option Value} {base : Heap} {T : List (Addr × Str)}
/-- a def whose code object is known, told of this very object -/
theorem fn_dpC {x : Str} {st : Stmt} {f c : Addr} {fd : FuncData} {N ps : List Str} {k n : Nat} {d : DTS} (F : FnP K x st f fd) (hcode : fd.code = .ref c) (S : FnScope N ps (L2.defScope st)) (hn : ps.length = n)
    (hbody : ∀ (A : Around) (outer : List Env) (s : Shared) (H : Hp) (E : XK), Room k (A.deeper (envOfC x (L2.defScope st) s.heap.objs.size f (.ref c))) →
      DSs (cxOf (L2N.CX P w) P w K mg base N x (L2.defScope st) f (.ref c) A outer s H E) T (WD E) d (L2.defBody st)) : FnOk P w K mg base (L2N.CX P w) (k + 1) f fd ps (spOf K T n (dDef N d)) := by
  subst hn
  obtain ⟨oc, od, dV, kV, doc, pm, an, cdv, ct, osl, rfl, lk, hcd, _, _⟩ := F.ex
  obtain rfl : cdv = .ref c := hcode
  exact fn_of lk hcd S (fun vs H Q E h => h.1) fun A outer s H vs Q E hr h => ⟨_, hbody A outer s H E hr, sp_run h⟩
theorem fn_dpN {x : Str} {st : Stmt} {f : Addr} {fd : FuncData} {N ps : List Str} {k n : Nat} {d : DTS} (F : FnP K x st f fd) (S : FnScope N ps (L2.defScope st)) (hn : ps.length = n)
    (hbody : ∀ (cdv : Value) (A : Around) (outer : List Env) (s : Shared) (H : Hp) (E : XK), Room k (A.deeper (envOfC x (L2.defScope st) s.heap.objs.size f cdv)) →
      DSs (cxOf (L2N.CX P w) P w K mg base N x (L2.defScope st) f cdv A outer s H E) T (WD E) d (L2.defBody st)) : FnOk P w K mg base (L2N.CX P w) (k + 1) f fd ps (spOf K T n (dDef N d)) := by
  subst hn
  exact fn_dp F S hbody
theorem FnOk.dimp {CX : CXT} {k n : Nat} {f : Addr} {fd : FuncData} {ps : List Str} {dsp dsp' : DSp} (F : FnOk P w K mg base CX k f fd ps (spOf K T n dsp)) (h : ∀ ds M Q E, dsp' ds M Q E → dsp ds M Q E) : FnOk P w K mg base CX k f fd ps (spOf K T n dsp') :=
  F.imp fun vs H Q E ⟨l, G, M, ds, QD, ED, hh, rr, q, z⟩ => ⟨l, G, M, ds, QD, ED, hh, rr, h _ _ _ _ q, z⟩
theorem fn_pure {CX : CXT} {N : List Str} {k n : Nat} {f : Addr} {fd : FuncData} {ps : List Str} {g : FS} (F : FnOk P w K mg base CX k f fd ps (spOf K T n (dDef N (purS g)))) : FnOk P w K mg base CX k f fd ps (spOf K T n (purSp (fDef N g))) :=
  FnOk.dimp F fun ds M Q E h => fDef_imp _ _ ds M Q E h
/-- a def that is not called -/
theorem cal_no {x : Str} {st : Stmt} {f : Addr} {fd : FuncData} {ps : List Str} {k n : Nat} (hm : mg x = some (.ref f)) (F : FnP K x st f fd)
    (hb : ∀ (kV doc pm : Value) (an : Option Addr) (cdv ct : Value) (us : List Value), us.length = ps.length → bindArgs (PySem.W.fnOf x x (L2.defArgs st) (L2.defBody st) (L2.defScope st) .none kV doc pm an cdv ct) ⟨us, []⟩ = pure (ps.zip us)) : Cal P w K mg base T k x n (fun _ _ _ _ => False) :=
  ⟨f, fd, ps, ⟨fun vs H Q E ⟨_, _, _, _, _, _, _, _, q, _⟩ => q.elim, fun A outer s H args us vs Q E hr he hb hv ⟨_, _, _, _, _, _, _, _, q, _⟩ => q.elim⟩, hm, F.kp, F.bindsN hb⟩
end
theorem law_at {l : PySem.W.OpenLaw} {w : World} {K K2 : PySem.W.Frag} {k n : Nat} {x : Str} {mg : Str → Option Value} {fa : Addr} {h : Heap} {fd : FuncData} {cs : List (Addr × Addr)} {T : List (Addr × Str)} {dsp : DSp}
    (X2 : K2.In h) (hno : HK.noLst K = true) (hcs : ∀ p ∈ cs, HK.tabB K K2 p.2 = true ∧ HK.hdB K2 p.1 p.2 = true) (hT : ∀ p ∈ T, ∃ c, (c, p.1) ∈ cs) (hn : n ≤ sizeLine) (hb : ∀ (s : Shared) (u : Value), BindsTo s fd ⟨[u], []⟩ [(x, u)])
    (hd : ∀ ns : List Int, ns.length ≤ n → ∀ M : DM, dsp [.lst (ns.map .int)] M (fun v _ => v = .bl true) (fun _ _ => False))
    (hF : ∀ base : Heap, K.In base → base.Ns mainGlobals mg → (∀ p ∈ cs, LamX.TabB base mg p.1 p.2) → FnOk l.prog w K mg base (L2N.CX l.prog w) k fa fd [x] (spOf K T 1 dsp)) : LamX.LawAtS l w K (L2N.CX l.prog w) k n x mg fa h := by
  refine ⟨fd, cs, spOf K T 1 dsp, fun p hp => ?_, fun p hp => ?_, fun p hp => HK.hdB_ok X2 (hcs p hp).2, hb, fun H a ns hl _ hH hS => ?_, hF⟩
  · obtain ⟨h1, h2⟩ := He.ba (hcs p hp).1
    exact X2 _ _ (HK.isTab_ok h2)
  · obtain ⟨h1, h2⟩ := He.ba (hcs p hp).1
    exact Option.isNone_iff_eq_none.mp h1
  · have hR := HK.noLst_ok hno hS
    have hl' : (ns.map Dat.int).length ≤ sizeLine := by rw [List.length_map]; omega
    have hG : Rd (fun b => if b = a then H a else none) a (.lst (ns.map V.int)) := by
      unfold Rd
      simp only [if_pos]
      exact hR
    refine ⟨rfl, fun b => if b = a then H a else none, fun _ => none, [.lst (ns.map .int)], fun v _ => v = .bl true, fun _ _ => False, ⟨fun b o hb => ?_, fun b ps hb => ?_, fun b m hb => (by cases hb), fun b m hb => (by cases hb), fun p hp => ?_⟩, .cons (.lst hG hl' (RepL.of_dints ns)) .nil, hd ns hl _, fun v H' G' M' x t h' r q => ?_, fun c dd H' G' M' t h' q => q.elim⟩
    · skip
      split at hb
      · rename_i e; rw [e]; exact hb
      · cases hb
    · skip
      split at hb
      · rcases hR with r | ⟨o, r⟩ <;> rw [r] at hb <;> cases hb
      · cases hb
    · obtain ⟨c, hc⟩ := hT p hp
      exact LamX.TabS.nil (hH _ hc)
    · have q : x = .bl true := q
      subst q
      cases r
      rfl
end DL

end
section
set_option Elab.async false
set_option linter.all false
set_option maxRecDepth 100000
set_option maxHeartbeats 4000000
/-! DL, part 19: min, max, is a bool. -/
namespace DL
open PySem PySem.Spec PyProof.Rows L2
theorem foldl_min_le : ∀ (ns : List Int) (n : Int), ns.foldl min n ≤ n ∧ ∀ y ∈ ns, ns.foldl min n ≤ y
  | [], n => ⟨Int.le_refl _, fun y hy => by cases hy⟩
  | m :: ns, n => by
    obtain ⟨h1, h2⟩ := foldl_min_le ns (min n m)
    rw [List.foldl_cons]
    refine ⟨by omega, fun y hy => ?_⟩
    rcases List.mem_cons.mp hy with e | e
    · rw [e]; omega
    · exact h2 y e
theorem foldl_min_mem : ∀ (ns : List Int) (n : Int), ns.foldl min n = n ∨ ns.foldl min n ∈ ns
  | [], n => .inl rfl
  | m :: ns, n => by
    rw [List.foldl_cons]
    rcases foldl_min_mem ns (min n m) with h | h
    · by_cases c : n ≤ m
      · left; rw [h]; omega
      · right; rw [h, show min n m = m by omega]; exact List.mem_cons_self
    · right; exact List.mem_cons_of_mem _ h
theorem foldl_max_le : ∀ (ns : List Int) (n : Int), n ≤ ns.foldl max n ∧ ∀ y ∈ ns, y ≤ ns.foldl max n
  | [], n => ⟨Int.le_refl _, fun y hy => by cases hy⟩
  | m :: ns, n => by
    obtain ⟨h1, h2⟩ := foldl_max_le ns (max n m)
    rw [List.foldl_cons]
    refine ⟨by omega, fun y hy => ?_⟩
    rcases List.mem_cons.mp hy with e | e
    · rw [e]; omega
    · exact h2 y e
theorem foldl_max_mem : ∀ (ns : List Int) (n : Int), ns.foldl max n = n ∨ ns.foldl max n ∈ ns
  | [], n => .inl rfl
  | m :: ns, n => by
    rw [List.foldl_cons]
    rcases foldl_max_mem ns (max n m) with h | h
    · by_cases c : m ≤ n
      · left; rw [h]; omega
      · right; rw [h, show max n m = m by omega]; exact List.mem_cons_self
    · right; exact List.mem_cons_of_mem _ h
def oMin : List Dat → Option Dat
  | [.lst xs] => (dints xs).bind fun ns => match ns with
    | [] => none
    | n :: r => some (.int (r.foldl min n))
  | [.int i, .int j] => some (.int (min i j))
  | _ => none
def oMax : List Dat → Option Dat
  | [.lst xs] => (dints xs).bind fun ns => match ns with
    | [] => none
    | n :: r => some (.int (r.foldl max n))
  | [.int i, .int j] => some (.int (max i j))
  | _ => none
section
variable {X : Cx} {T : List (Addr × Str)}
theorem cd_min (hc : X.calm = true) : CD X T (.builtin "min") oMin := by
  refine cd_of fun pins s σ H xs us Q G M ds z I rx hh r e kq => ?_
  unfold oMin at e
  split at e
  · obtain ⟨ns, hn, e2⟩ := Option.bind_eq_some_iff.mp e
    obtain ⟨v, rfl, rv⟩ := one_case r
    cases rv with
    | lst ha hl rl =>
      have e1 := dints_some hn
      subst e1
      have e3 := RepL.dints rl
      subst e3
      cases ns with
      | nil => cases e2
      | cons n t =>
        have e4 := Option.some.inj e2
        subst e4
        refine cr_min hc pins s σ H _ us Q I rx ⟨_, n :: t, rfl, sqL_mono hh.sub ha, by simp, fun m hm hy => ?_⟩
        have hh2 : m = t.foldl min n := by
          obtain ⟨h1, h2⟩ := foldl_min_le t n
          have a1 : t.foldl min n ≤ m := by
            rcases List.mem_cons.mp hm with e | e
            · rw [e]; exact h1
            · exact h2 m e
          have a2 : m ≤ t.foldl min n := by
            rcases foldl_min_mem t n with e | e
            · rw [e]; exact hy n List.mem_cons_self
            · exact hy _ (List.mem_cons_of_mem _ e)
          omega
        rw [hh2]
        exact kq _ H G (Tr.refl ..) hh (.int _)
  · rename_i i j
    cases e
    obtain ⟨v, u, rfl, rv, ru⟩ := two_case r
    cases rv
    cases ru
    refine call_min2 hc pins s σ H _ us Q I rx ⟨_, _, rfl, ?_⟩
    have e : (if j < i then j else i) = min i j := by split <;> omega
    rw [e]
    exact kq _ H G (Tr.refl ..) hh (.int _)
  · cases e
theorem cd_max (hc : X.calm = true) : CD X T (.builtin "max") oMax := by
  refine cd_of fun pins s σ H xs us Q G M ds z I rx hh r e kq => ?_
  unfold oMax at e
  split at e
  · obtain ⟨ns, hn, e2⟩ := Option.bind_eq_some_iff.mp e
    obtain ⟨v, rfl, rv⟩ := one_case r
    cases rv with
    | lst ha hl rl =>
      have e1 := dints_some hn
      subst e1
      have e3 := RepL.dints rl
      subst e3
      cases ns with
      | nil => cases e2
      | cons n t =>
        have e4 := Option.some.inj e2
        subst e4
        refine cr_max hc pins s σ H _ us Q I rx ⟨_, n :: t, rfl, sqL_mono hh.sub ha, by simp, fun m hm hy => ?_⟩
        have hh2 : m = t.foldl max n := by
          obtain ⟨h1, h2⟩ := foldl_max_le t n
          have a1 : m ≤ t.foldl max n := by
            rcases List.mem_cons.mp hm with e | e
            · rw [e]; exact h1
            · exact h2 m e
          have a2 : t.foldl max n ≤ m := by
            rcases foldl_max_mem t n with e | e
            · rw [e]; exact hy n List.mem_cons_self
            · exact hy _ (List.mem_cons_of_mem _ e)
          omega
        rw [hh2]
        exact kq _ H G (Tr.refl ..) hh (.int _)
  · rename_i i j
    cases e
    obtain ⟨v, u, rfl, rv, ru⟩ := two_case r
    cases rv
    cases ru
    refine call_max2 hc pins s σ H _ us Q I rx ⟨_, _, rfl, ?_⟩
    have e : (if j > i then j else i) = max i j := by split <;> omega
    rw [e]
    exact kq _ H G (Tr.refl ..) hh (.int _)
  · cases e
/-! ### is True, is not True -/
def oIsB : Dat → Dat → Option Dat
  | .bl a, .bl b => some (.bl (a == b))
  | _, _ => none
def oIsNotB : Dat → Dat → Option Dat
  | .bl a, .bl b => some (.bl (a != b))
  | _, _ => none
theorem od_isB : OD X T (compareOp .Is) oIsB := by
  refine od_of fun pins s σ H x y v u Q G M dx dy z I rx ry hh r1 r2 e kq => ?_
  unfold oIsB at e
  split at e
  · cases e
    cases r1
    cases r2
    cases rx
    cases ry
    exact is_bool (fin_bl I (kq _ H G (Tr.refl ..) hh (.bl _)) rfl)
  · cases e
theorem od_isNotB : OD X T (compareOp .IsNot) oIsNotB := by
  refine od_of fun pins s σ H x y v u Q G M dx dy z I rx ry hh r1 r2 e kq => ?_
  unfold oIsNotB at e
  split at e
  · cases e
    cases r1
    cases r2
    cases rx
    cases ry
    exact isnot_bool (fin_bl I (kq _ H G (Tr.refl ..) hh (.bl _)) rfl)
  · cases e
end
end DL

end
section
set_option Elab.async false
set_option linter.all false
set_option maxRecDepth 100000
set_option maxHeartbeats 4000000
/-! DL, part 20: sorted of tuples of ints, an empty one first. -/
namespace DL
open PySem PySem.Spec PyProof.Rows L2
open PySem.W (Looks copyHeap)
section
variable {prog : Program} {w : World} {A : Around} {E : Value → Shared → Prop} {s : Shared}
theorem oneLt_tup {xs ys : List PyData} {a b : Value} {as bs : List Addr} {Q : Bool → Shared → Prop} (ra : Reads s.heap a (.tuple xs) as) (rb : Reads s.heap b (.tuple ys) bs) (h : PySem.W.alike (.tuple xs) (.tuple ys) = true)
    (hu : A.units + min (PyData.tuple xs).depth (PyData.tuple ys).depth < cLine) (hq : Q (PySem.W.dataLt (.tuple xs) (.tuple ys)) s) : wpAny (model prog w) A (oneLt' true a b) Q E s := by
  have hal : PySem.W.alikeAll xs ys = true := by simpa [PySem.W.alike] using h
  cases ra with
  | @tuple l o vs n _ as1 h1 h2 h3 h4 =>
    cases rb with
    | @tuple l' o' vs' n' _ bs1 k1 k2 k3 k4 =>
      have n1 : vs.size = xs.length := by simpa using SeqAt.ReadsAll.length _ _ _ h4
      have n2 : vs'.size = ys.length := by simpa using SeqAt.ReadsAll.length _ _ _ k4
      rw [PySem.W.dataLt_tuple, ← PySem.W.firstLt_toks xs ys hal, ← n1, ← n2] at hq
      rw [oneLt'_eq]
      simp only [if_true]
      refine wpAny_bind (wpAny_cRoomFor (SeqAt.room_here hu) ?_)
      have he := fun j (j1 : j < vs.size) (j2 : j < vs'.size) => PySem.W.eqAt_alikeAll xs ys A.in1 s vs.toList vs'.toList _ _ h4 k4 hal (SeqAt.room_in hu) j (by simpa using j1) (by simpa using j2)
      have hr := fun j (j1 : j < vs.size) (j2 : j < vs'.size) hj => PySem.W.rcLt_alikeAll xs ys A.in1 s vs.toList vs'.toList _ _ h4 k4 hal (SeqAt.room_in hu) j (by simpa using j1) (by simpa using j2) hj
      obtain ⟨oc, od, odt, osl⟩ := o
      obtain ⟨oc', od', odt', osl'⟩ := o'
      simp only at h2 h3 k2 k3
      subst h2 h3 k2 k3
      refine wpAny_bind (wpAny_callSpecialIfBound?_slot (T := "tuple") ⟨_, h1, rfl⟩ F.slot_tuple_lt (call_meets F.slot_tuple_lt ⟨_, h1, rfl⟩ F.entry_tuple_lt (F.args_tuple_lt_2 _ _)
        (SeqAt.tuple_ltAt l l' vs vs' n n' od od' osl osl' (SeqAt.pairEq xs ys) fun j => PySem.W.dataLt (xs.getD j .none) (ys.getD j .none)) ⟨h1, k1, fun j j1 j2 => by simpa using he j j1 j2, fun j j1 j2 hj => by simpa using hr j j1 j2 hj, ?_⟩))
      exact wpAny_truthy_bool hq
theorem firsts_emp {M : Model} : ∀ (vs : List Value) (ds : List PyData) {Q : List (Option Value) → Shared → Prop}, PySem.W.EachIs (fun v d => ∃ as, Reads s.heap v d as) vs ds → (∀ d ∈ ds, ∃ xs, d = .tuple xs) →
    (∀ fs : List (Option Value), fs.length = vs.length → ((∃ r, ds = .tuple [] :: r) → ∃ r', fs = none :: r') → Q fs s) → wpAny M A (vs.mapM firstOfTuple') Q E s
  | _, _, _, .nil, _, h => by
    rw [List.mapM_nil]
    exact wpAny_pure (h [] rfl fun ⟨_, e⟩ => by cases e)
  | _, _, Q, .cons (a := v) (b := d) (as := vs) (bs := ds) ⟨as, r⟩ t, ht, h => by
    obtain ⟨xs, rfl⟩ := ht d List.mem_cons_self
    rw [List.mapM_cons]
    refine wpAny_bind ?_
    rw [PySem.W.kas_first_eq]
    refine wpAny_bind (Looks.here (PySem.W.looks_reads r) ?_)
    rw [if_neg (show ¬ (PySem.W.dataType (PyData.tuple xs) != Value.type "tuple") = true from by simp [PySem.W.dataType])]
    cases r with
    | @tuple l o its n _ _ h1 h2 h3 h4 =>
      refine wpAny_bind (listItems_at h1 h3 (wpAny_pure ?_))
      refine wpAny_bind (firsts_emp vs ds t (fun d hd => ht d (List.mem_cons_of_mem _ hd)) fun fs hl _ => wpAny_pure (h _ (by rw [List.length_cons, List.length_cons, hl]) fun ⟨r, e⟩ => ⟨fs, ?_⟩))
      cases e
      have n1 : its.size = 0 := by simpa using SeqAt.ReadsAll.length _ _ _ h4
      rw [Array.getElem?_eq_none (by omega)]
theorem sorts_emp {vs : List Value} {ds : List PyData} {r0 : List PyData} (e : PySem.W.EachIs (fun v d => ∃ as, Reads s.heap v d as) vs ds) (hal : PySem.W.AllAlike ds) (ht : ∀ d ∈ ds, ∃ xs, d = .tuple xs) (h0 : ds = .tuple [] :: r0) (hu : ∀ d, d ∈ ds → A.units + d.depth < cLine) :
    PySem.W.SortsAt prog w A s (PySem.W.dataKind s.heap ds) vs := by
  refine ⟨fun v hv => ?_, oneType', ?_, fun h2 E Q hq => ?_⟩
  · obtain ⟨d, hd, as, r⟩ := e.left v hv
    exact ⟨_, PySem.W.dataKind_some hal hd r⟩
  · intro E x y a b Q ha hb hq
    obtain ⟨d, as, hd, ra, rfl⟩ := PySem.W.dataKind_inv ha
    obtain ⟨d', as', hd', rb, rfl⟩ := PySem.W.dataKind_inv hb
    obtain ⟨xs, rfl⟩ := ht d hd
    obtain ⟨ys, rfl⟩ := ht d' hd'
    rw [keyLt'_oneType]
    exact oneLt_tup ra rb (hal _ hd _ hd') (Nat.lt_of_le_of_lt (Nat.add_le_add_left (Nat.min_le_left _ _) _) (hu _ hd)) hq
  · have hT : ∀ v ∈ vs, Looks (model prog w) s.heap (typeOf v) (.type "tuple") := fun v hv => by
      obtain ⟨d, hd, as, r⟩ := e.left v hv
      obtain ⟨xs, rfl⟩ := ht d hd
      exact PySem.W.looks_reads r
    rw [keyKind'_eq, List.mapM_toArray, map_eq_pure_bind]
    refine wpAny_bind (wpAny_bind (firsts_emp _ _ e ht fun fs hl hn => wpAny_pure ?_))
    obtain ⟨r', rfl⟩ := hn ⟨_, h0⟩
    rw [if_neg (by simp), if_neg (by simp)]
    rw [oneTypeOnly'_eq, List.mapM_toArray, map_eq_pure_bind]
    refine wpAny_bind (wpAny_bind (wpAny_bind (PySem.W.kas_mapM (r := Value.type "tuple") _ (fun v hv Q' hq => (hT v hv).here hq) (wpAny_pure ?_))))
    obtain ⟨v0, vr, rfl⟩ : ∃ v0 vr, vs = v0 :: vr := by
      cases vs with
      | nil => simp at h2
      | cons a b => exact ⟨a, b, rfl⟩
    have hall : ((List.map (fun _ => Value.type "tuple") (v0 :: vr)).toArray.all fun x => x == Value.type "tuple") = true := by
      simp only [List.all_toArray, List.all_map, List.all_eq_true]
      intro _ _
      rfl
    have h0' : (List.map (fun _ => Value.type "tuple") (v0 :: vr)).toArray[0]? = some (Value.type "tuple") := by simp
    rw [h0']
    simp only [hall, if_true]
    exact wpAny_pure (wpAny_pure hq)
theorem sorted_emp {β : Type} {R : Value → β → Prop} {enc : β → PyData} {vs : List Value} {bs : List β} {l : Addr} {r0 : List PyData} {Q : Value → Shared → Prop} (hl : s.heap.IsList l vs.toArray) (e : PySem.W.EachIs R vs bs) (er : PySem.W.EachIs (fun v b => ∃ as, Reads s.heap v (enc b) as) vs bs)
    (hal : PySem.W.AllAlike (bs.map enc)) (ht : ∀ b ∈ bs, ∃ xs, enc b = .tuple xs) (h0 : bs.map enc = .tuple [] :: r0) (hL : bs.length ≤ sizeLine) (hu : ∀ b, b ∈ bs → A.units + 2 + (enc b).depth < cLine)
    (h : ∀ out, out.length = bs.length → PySem.W.EachIs R out (bs.mergeSort (PySem.W.dataLe false enc)) → Q (.ref (s.heap.objs.size + 1)) { s with heap := sortedAll s.heap vs (List.toArray out) }) :
    wpAny (model prog w) A (call (.builtin "sorted") [.ref l]) Q E s := by
  have er' : PySem.W.EachIs (fun v b => ∃ as, Reads (PySem.W.sortingHeap (copyHeap s.heap vs) (s.heap.objs.size + 1) vs) v (enc b) as) vs bs := er.mono fun _ _ ⟨as, r⟩ => ⟨as, PyProof.Rows.Reads.keeps (fun _ _ => PySem.W.sorting_copy_old) r⟩
  have e2 := PySem.W.each_map (R := fun v d => ∃ as, Reads (PySem.W.sortingHeap (copyHeap s.heap vs) (s.heap.objs.size + 1) vs) v d as) enc er'
  have S := sorts_emp (prog := prog) (w := w) (A := A.in1.in1) (s := { s with heap := PySem.W.sortingHeap (copyHeap s.heap vs) (s.heap.objs.size + 1) vs }) e2 hal (fun d hd => by
    obtain ⟨b, hb, rfl⟩ := List.mem_map.mp hd
    exact ht b hb) h0 (PySem.W.bound_map hu)
  exact PySem.W.sorted_vals hl S (by rw [e.length]; exact hL) (h _ (by rw [PySem.W.sortVals_length false rfl]; exact e.length) (PySem.W.sortVals_data false e er' hal))
end
def isRow0 : Dat → Bool
  | .tup xs => xs.all isI
  | _ => false
def oSortE : List Dat → Option Dat
  | [.lst xs] => if xs.all isI || xs.all isRow then some (.lst (xs.mergeSort leD)) else match xs with
    | .tup [] :: r => if r.all isRow0 then some (.lst (xs.mergeSort leD)) else none
    | _ => none
  | _ => none
theorem isRow0_tup {d : Dat} (h : isRow0 d = true) : ∃ ns : List Int, d = .tup (ns.map .int) := by
  cases d with
  | tup xs =>
    obtain ⟨ns, e⟩ := all_ints (xs := xs) h
    exact ⟨ns, by rw [e]⟩
  | _ => cases h
section
variable {X : Cx} {T : List (Addr × Str)}
theorem cd_sortE (hu : X.A.units + 4 < cLine) : CD X T (.builtin "sorted") oSortE := by
  intro pins s σ H vs us Q I r ⟨G, M, ds, z, hh, rr, e, kq⟩
  unfold oSortE at e
  split at e
  · rename_i xs
    split at e
    · rename_i hc
      cases e
      exact cd_sorted hu pins s σ H vs us Q I r ⟨G, M, [.lst xs], _, hh, rr, by simp only [oSorted]; rw [if_pos hc], kq⟩
    · split at e
      · rename_i r0 hno
        split at e
        · rename_i hc
          cases e
          obtain ⟨v, rfl, rv⟩ := one_case rr
          have hrow : ∀ d ∈ (Dat.tup [] :: r0), ∃ ns : List Int, d = .tup (ns.map .int) := fun d hd => by
            rcases List.mem_cons.mp hd with e | e
            · exact ⟨[], e⟩
            · exact isRow0_tup (List.all_eq_true.mp hc d e)
          have hdk : ∀ d ∈ (Dat.tup [] :: r0), dok 1 d = true := fun d hd => by
            obtain ⟨ns, rfl⟩ := hrow d hd
            simp [dok]
          cases rv with
          | lst ha hl rl =>
            rw [Vals.ref1 r]
            obtain ⟨its, rv, pl, hz⟩ := I.list (sqL_mono hh.sub ha)
            have hal : PySem.W.AllAlike ((Dat.tup [] :: r0).map py) := by
              intro d hd d' hd'
              obtain ⟨b, hb, rfl⟩ := List.mem_map.mp hd
              obtain ⟨b', hb', rfl⟩ := List.mem_map.mp hd'
              obtain ⟨ns, rfl⟩ := hrow b hb
              obtain ⟨ms, rfl⟩ := hrow b' hb'
              simp only [py, pyL_ints, PySem.W.alike]
              exact PySem.W.alike_ints _ _
            have el := rl.length
            have ev := rv.length
            refine sorted_emp (R := fun v d => ∃ x, RelV x v ∧ Rep X.K G x d) (enc := py) (r0 := r0.map py) pl.isList (each_rep rl rv) (each_reads I hh.sub rl rv hdk) hal (fun b hb => ?_) rfl hl (fun b hb => ?_) fun out hlen eo => ?_
            · obtain ⟨ns, rfl⟩ := hrow b hb
              exact ⟨_, rfl⟩
            · have := (dok_py 1 b (hdk b hb)).2
              omega
            · obtain ⟨vs', a1, a2⟩ := rep_each eo
              obtain ⟨ep, he'⟩ := PyProof.Rows.sortedAll_at s.heap its out.toArray
              have hl' : ((Dat.tup [] :: r0).mergeSort leD).length ≤ sizeLine := by rw [List.length_mergeSort]; exact hl
              have hf : H (s.heap.objs.size + 1) = none := I.hok.fresh (Nat.le_succ _)
              obtain ⟨G', t2, h2, r2⟩ := hh.newL hf hl' a2
              exact ⟨.ref _, upd H (s.heap.objs.size + 1) (.lst vs'), I.laid (t' := s.toks) (fun _ _ => PyProof.Rows.sortedAll_old) (Nat.le_succ _) ⟨by rw [a2.length]; exact hl', out, ep, a1, he'⟩, rfl, kq _ _ G' t2 h2 r2⟩
        · cases e
      · cases e
  · cases e
end
end DL

end
section
set_option Elab.async false
set_option linter.all false
set_option maxRecDepth 100000
set_option maxHeartbeats 4000000
/-! DL, part 21: a local name that holds a def, called. -/
namespace DL
open PySem PySem.Spec PyProof.Rows L2
/-- a def, told of by its address -/
structure CalA (P : Program) (w : World) (K : PySem.W.Frag) (mg : Str → Option Value) (base : Heap) (T : List (Addr × Str)) (k : Nat) (f : Addr) (n : Nat) (dsp : DSp) : Prop where
  ex : ∃ (fd : FuncData) (ps : List Str), FnOk P w K mg base (L2N.CX P w) k f fd ps (spOf K T n dsp) ∧ PySem.W.keepIn K (.ref f) = true ∧ L2.Binds K fd ps []
theorem Cal.at_ {P : Program} {w : World} {K : PySem.W.Frag} {mg : Str → Option Value} {base : Heap} {T : List (Addr × Str)} {k n : Nat} {x : Str} {dsp : DSp} {f : Addr} (c : Cal P w K mg base T k x n dsp) (h : mg x = some (.ref f)) : CalA P w K mg base T k f n dsp := by
  obtain ⟨f', fd, ps, F, hm, hk, hb⟩ := c.ex
  rw [h] at hm
  cases hm
  exact ⟨fd, ps, F, hk, hb⟩
def dCallL (i n : Nat) (tab : Addr → Option DSp) (l : DTA) : DTE := fun ρ M Q E => ∃ a dsp, ρ[i]? = some (some (.ref a)) ∧ tab a = some dsp ∧ l ρ M (fun xs M1 => xs.length = n ∧ dsp xs M1 Q E) E
def fCallL (i n : Nat) (tab : Addr → Option (List Dat → R Dat)) (l : FA) : FE := fun ρ => match ρ[i]? with
  | some (some (.ref a)) => match tab a with
    | some g => do let xs ← l ρ; if xs.length = n then g xs else .bad
    | none => .bad
  | _ => .bad
section
variable {X : Cx} {T : List (Addr × Str)} {W : WX} {i n k : Nat} {x : Str} {dl : DTA} {fl : FA} {e : Expr} {es : List Expr} {p pos : Pos}
theorem de_callL {tab : Addr → Option DSp} (tk : L2N.Takes X W) (hr : Room k X.A) (A : ∀ f d, tab f = some d → CalA X.prog X.w X.K X.mg X.base T k f n d) (ha : DA X T W dl (e :: es)) (hN : X.N[i]? = some x := by rfl) (hv : Vis X.env.scope x := by first | exact Or.inl rfl | exact Or.inr (Or.inl rfl) | exact Or.inr (Or.inr rfl)) (hdb : (x == ("__debug__" : Str)) = false := by decide) (hcd : (x == ("__classdict__" : Str)) = false := by decide)
    (he : starEach (e :: es) X.env = (false, eval e X.env) :: starEach es X.env := by rfl) (hpl : (backTo pos (starEach es X.env)).any (·.1) = false := by rfl) : DE X T W (dCallL i n tab dl) (.Call (.Name x p) (e :: es) [] pos) := by
  refine ⟨fun pins s σ H Q I ⟨G, M, ρ, QD, ED, hh, r, ⟨a, d, h1, h2, hd⟩, kq, ke⟩ => ?_⟩
  obtain ⟨fd, ps, F, hk, hb⟩ := (A a d h2).ex
  obtain ⟨v, hs, rv⟩ := r.at_ i _ h1
  cases rv
  refine wpAny_Call_Name_kw (thn ((pe_var (pos := p) hN hv hdb hcd).run pins s σ H (fun v H1 => v = .ref a ∧ H1 = H) I ⟨.ref a, hs, rfl, rfl⟩) fun u s1 ⟨v, H1, I1, r1, q1⟩ => ?_)
  obtain ⟨rfl, rfl⟩ := q1
  cases r1
  have hA := callS_imp (X := X) (T := T) (W := W) (n := n) (dsp := d) (dl := dl) (σ := σ) (H := H1) (Q := Q) ⟨G, M, ρ, QD, ED, hh, r, hd, kq, ke⟩
  refine PySem.W.callWith_K (h₀ := X.base) I.ok.mod.kin hk (thn (ha.run pos pins s1 σ _ _ I1 hA) fun us s2 ⟨vs, H2, I2, r, q⟩ => ⟨I2.kIn, ?_⟩) he hpl
  exact run_fnS F hr hb (L2N.passAt tk σ) I2 r q
theorem fCallL_imp (tab : Addr → Option (List Dat → R Dat)) (fl : FA) (ρ : DSt) (M : DM) (Q : DQ) (E : DX) (h : pur (fCallL i n tab fl) ρ M Q E) : dCallL i n (fun a => (tab a).map purSp) (purA fl) ρ M Q E := by
  unfold pur fCallL at h
  split at h
  · rename_i a e
    split at h
    · rename_i g e2
      refine ⟨a, purSp g, e, by show (tab a).map purSp = _; rw [e2]; rfl, ?_⟩
      have : (fl ρ >>= fun xs => if xs.length = n then g xs else .bad).wp (fun x => Q x M) (fun c => E c M) := h
      simp only [R.wp_bind, R.wp_ite, R.wp_bad, ite_and] at this
      exact this
    · exact absurd h (by simp)
  · exact absurd h (by simp)
theorem dp_callL {tab : Addr → Option (List Dat → R Dat)} (tk : L2N.Takes X W) (hr : Room k X.A) (A : ∀ f g, tab f = some g → CalA X.prog X.w X.K X.mg X.base T k f n (purSp g)) (ha : DA X T W (purA fl) (e :: es)) (hN : X.N[i]? = some x := by rfl) (hv : Vis X.env.scope x := by first | exact Or.inl rfl | exact Or.inr (Or.inl rfl) | exact Or.inr (Or.inr rfl)) (hdb : (x == ("__debug__" : Str)) = false := by decide) (hcd : (x == ("__classdict__" : Str)) = false := by decide)
    (he : starEach (e :: es) X.env = (false, eval e X.env) :: starEach es X.env := by rfl) (hpl : (backTo pos (starEach es X.env)).any (·.1) = false := by rfl) : DE X T W (pur (fCallL i n tab fl)) (.Call (.Name x p) (e :: es) [] pos) := by
  refine PE.weak (de_callL (tab := fun a => (tab a).map purSp) tk hr (fun f d hd => ?_) ha hN hv hdb hcd he hpl) fun σ H Q ⟨G, M, ρ, QD, ED, hh, r, hd, kq, ke⟩ => ⟨G, M, ρ, QD, ED, hh, r, fCallL_imp tab fl ρ M QD ED hd, kq, ke⟩
  obtain ⟨g, hg, rfl⟩ := Option.map_eq_some_iff.mp hd
  exact A f g hg
end
/-- a table of defs -/
def tabOf (L : List (Addr × (List Dat → R Dat))) (a : Addr) : Option (List Dat → R Dat) := (L.find? fun p => p.1 == a).map (·.2)
section
variable {P : Program} {w : World} {K : PySem.W.Frag} {mg : Str → Option Value} {base : Heap} {T : List (Addr × Str)} {k n : Nat}
abbrev TabC (P : Program) (w : World) (K : PySem.W.Frag) (mg : Str → Option Value) (base : Heap) (T : List (Addr × Str)) (k n : Nat) (L : List (Addr × (List Dat → R Dat))) : Prop := ∀ p ∈ L, CalA P w K mg base T k p.1 n (purSp p.2)
theorem tab_nil : TabC P w K mg base T k n [] := fun p hp => by cases hp
theorem tab_cons {x : Str} {f : Addr} {g : List Dat → R Dat} {L : List (Addr × (List Dat → R Dat))} (c : Cal P w K mg base T k x n (purSp g)) (h : mg x = some (.ref f)) (t : TabC P w K mg base T k n L) : TabC P w K mg base T k n ((f, g) :: L) := fun p hp => by
  rcases List.mem_cons.mp hp with rfl | hp
  · exact c.at_ h
  · exact t p hp
theorem tab_ok {L : List (Addr × (List Dat → R Dat))} (h : TabC P w K mg base T k n L) (f : Addr) (g : List Dat → R Dat) (e : tabOf L f = some g) : CalA P w K mg base T k f n (purSp g) := by
  unfold tabOf at e
  rw [Option.map_eq_some_iff] at e
  obtain ⟨p, h1, rfl⟩ := e
  have h2 := List.find?_some h1
  have h3 := List.mem_of_find?_eq_some h1
  rw [beq_iff_eq] at h2
  subst h2
  exact h p h3
end
end DL

end
section
set_option Elab.async false
set_option linter.all false
set_option maxRecDepth 100000
set_option maxHeartbeats 4000000
/-! DL, part 22: zip of a list and a tuple (two sources of any kind). -/
namespace DLZ
open PySem PySem.Spec PyProof.Rows L2
open PySem.Sem (wp)
/-- a source that zip draws from: the iterator it over l, whose items are xs -/
structure Src (it l : Addr) (xs : Array Value) (J : Nat → Heap → Prop) (L : Heap → Prop) : Prop where
  next : ∀ {prog : Program} {w : World} {A : Around} {E : Value → Shared → Prop} {s : Shared} {i : Nat} {x : Value} {Q : Value → Shared → Prop}, J i s.heap → L s.heap → xs[i]? = some x →
    (∀ h', J (i + 1) h' → Heap.SameBut it s.heap h' → Q x { s with heap := h' }) → wpAny (model prog w) A (Builtin.SmallTypes.nextOf (.ref it)) Q E s
  stop : ∀ {prog : Program} {w : World} {A : Around} {E : Value → Shared → Prop} {s : Shared} {i : Nat} {Q : Value → Shared → Prop}, A.handled = none → J i s.heap → L s.heap → xs[i]? = none →
    (∀ h' e, Heap.ExtBut it s.heap h' → (∃ o, h'.get? e = some o ∧ o.cls = .type "StopIteration") → E (.ref e) { s with heap := h' }) → wpAny (model prog w) A (Builtin.SmallTypes.nextOf (.ref it)) Q E s
  jat : ∀ {i : Nat} {h h' : Heap}, J i h → (∀ o, h.get? it = some o → h'.get? it = some o) → J i h'
  lat : ∀ {h h' : Heap}, L h → (∀ o, h.get? l = some o → h'.get? l = some o) → L h'
  obj : ∀ {i : Nat} {h : Heap}, J i h → ∃ o, h.get? it = some o ∧ ∀ v, o.data ≠ .cell v
theorem src_list (it l : Addr) (xs : Array Value) : Src it l xs (fun i h => h.IsListIter it l i) (fun h => h.IsList l xs) where
  next := fun a b c d => wpAny_nextOf_list_item a b c d
  stop := fun a b c d e => wpAny_nextOf_list_end a b c d e
  jat := fun a e => a.at e
  lat := fun ⟨o, e, r⟩ k => ⟨o, k o e, r⟩
  obj := fun ⟨o, e, _, d⟩ => ⟨o, e, fun v q => by rw [d] at q; cases q⟩
theorem src_tup (it l : Addr) (xs : Array Value) : Src it l xs (fun i h => h.IsTupleIter it l i) (fun h => h.IsTuple l xs) where
  next := fun a b c d => RZ.nextOf_tuple_item a b c d
  stop := fun a b c d e => RZ.nextOf_tuple_end a b c d e
  jat := fun a e => a.at e
  lat := fun ⟨o, e, r⟩ k => ⟨o, k o e, r⟩
  obj := fun ⟨o, e, _, d⟩ => ⟨o, e, fun v q => by rw [d] at q; cases q⟩
section
variable {prog : Program} {w : World} {A : Around} {E : Value → Shared → Prop} {s : Shared} {z TI TO i1 i2 l1 l2 : Addr} {k1 k2 : Nat} {xs ys : Array Value} {x y a b : Value} {J1 J2 : Nat → Heap → Prop} {L1 L2 : Heap → Prop}
theorem sub_to {c d : Addr} {h h' : Heap} (e : Heap.SameBut c h h') (n : d ≠ c) : ∀ o, h.get? d = some o → h'.get? d = some o := fun o q => e.extBut d o n q
theorem both_item (S1 : Src i1 l1 xs J1 L1) (S2 : Src i2 l2 ys J2 L2) {Q : Value → Shared → Prop} (D : ZipApart z TI TO i1 i2 l1 l2)
    (hz : IsZip s.heap z TI TO .none) (ti : IsPair s.heap TI (.ref i1) (.ref i2)) (to : IsPair s.heap TO a b) (j1 : J1 k1 s.heap) (j2 : J2 k2 s.heap) (e1 : L1 s.heap) (e2 : L2 s.heap) (hx : xs[k1]? = some x) (hy : ys[k2]? = some y)
    (q : ∀ h', IsZip h' z TI TO (rawInt s.heap.objs.size) → IsPair h' TO x y → J1 (k1 + 1) h' → J2 (k2 + 1) h' → IsPair h' s.heap.objs.size x y → h'.objs.size = s.heap.objs.size + 1 →
      (∀ c o, c ≠ z → c ≠ TO → c ≠ i1 → c ≠ i2 → s.heap.get? c = some o → h'.get? c = some o) → Q (.ref s.heap.objs.size) { s with heap := h' }) :
    wpAny (model prog w) A (Builtin.«zip.__next__» ⟨[.ref z], []⟩) (fun r t => ∃ v, r = .done (.ret v) ∧ Q v t) E s := by
  show wpAny _ _ (field (.ref z) 2 >>= _) _ _ _
  apply wpAny_bind; apply wpAny_field hz rfl (x := .bool false) rfl
  show wpAny _ _ (field (.ref z) 3 >>= _) _ _ _
  apply wpAny_bind; apply wpAny_field hz rfl (x := .ref TI) rfl
  apply wpAny_bind; apply wpAny_seqItems ti rfl
  show wpAny _ _ (Builtin.SmallTypes.ownedTupleIsFree (.ref z) >>= _) _ _ _
  apply wpAny_bind
  unfold Builtin.SmallTypes.ownedTupleIsFree
  apply wpAny_bind; apply wpAny_field hz rfl (x := .none) rfl; apply wpAny_pure
  simp only [if_true]
  apply wpAny_bind; apply wpAny_rule
  apply wpAny_bind; apply wpAny_field hz rfl (x := .ref TO) rfl
  refine wpAny_bind (wpAny_setField_rec hz (by simp) fun ha za sa => ?_)
  have za : IsZip ha z TI TO .ellipsis := za
  apply wpAny_bind
  simp only [List.zipIdx_cons, List.zipIdx_nil, List.forIn_cons, List.forIn_nil]
  apply wpAny_bind; apply wpAny_bind; apply wpAny_onRaise
  show wpAny _ _ (Builtin.SmallTypes.nextOf (.ref i1) >>= _) _ _ _
  refine wpAny_bind (S1.next (S1.jat j1 (sub_to sa D.i1z)) (S1.lat e1 (sub_to sa D.l1z)) hx fun hb jb sb => wpAny_pure ?_)
  have tb : IsPair hb TO a b := sub_to sb D.TOi1 _ (sub_to sa D.TOz _ to)
  apply wpAny_bind; apply wpAny_seqItems tb rfl
  refine wpAny_bind (wpAny_updateSeq_pair tb fun hc tc sc => ?_)
  have tc : IsPair hc TO x b := tc
  apply wpAny_bind; apply wpAny_letGo; apply wpAny_pure
  apply wpAny_bind; apply wpAny_bind; apply wpAny_onRaise
  show wpAny _ _ (Builtin.SmallTypes.nextOf (.ref i2) >>= _) _ _ _
  have up2 : ∀ o, s.heap.get? i2 = some o → hc.get? i2 = some o := fun o r => sub_to sc D.TOi2.symm _ (sub_to sb D.i12.symm _ (sub_to sa D.i2z _ r))
  have upl : ∀ o, s.heap.get? l2 = some o → hc.get? l2 = some o := fun o r => sub_to sc D.l2TO _ (sub_to sb D.l2i1 _ (sub_to sa D.l2z _ r))
  refine wpAny_bind (S2.next (S2.jat j2 up2) (S2.lat e2 upl) hy fun hd jd sd => wpAny_pure ?_)
  have td : IsPair hd TO x b := sub_to sd D.TOi2 _ tc
  apply wpAny_bind; apply wpAny_seqItems td rfl
  refine wpAny_bind (wpAny_updateSeq_pair td fun he te se => ?_)
  have te : IsPair he TO x y := te
  apply wpAny_bind; apply wpAny_letGo; apply wpAny_pure; apply wpAny_pure
  apply wpAny_bind; apply wpAny_seqItems te rfl
  refine wpAny_bind (wpAny_newTuple ?_)
  have size : he.objs.size = s.heap.objs.size := by rw [se.1, sd.1, sc.1, sb.1, sa.1]
  have ze : IsZip he z TI TO .ellipsis := sub_to se D.TOz.symm _ (sub_to sd D.i2z.symm _ (sub_to sc D.TOz.symm _ (sub_to sb D.i1z.symm _ za)))
  have old : ∀ c o, c ≠ z → c ≠ TO → c ≠ i1 → c ≠ i2 → s.heap.get? c = some o → he.get? c = some o := fun c o n1 n2 n3 n4 r => sub_to se n2 _ (sub_to sd n4 _ (sub_to sc n2 _ (sub_to sb n3 _ (sub_to sa n1 _ r))))
  have j1e : J1 (k1 + 1) he := S1.jat jb fun o r => sub_to se D.TOi1.symm _ (sub_to sd D.i12 _ (sub_to sc D.TOi1.symm _ r))
  have j2e : J2 (k2 + 1) he := S2.jat jd fun o r => sub_to se D.TOi2.symm _ r
  have ltz : z < he.objs.size := Heap.lt_size ze
  show wpAny _ _ (Builtin.SmallTypes.ownedTupleHandOut (.ref z) (.ref he.objs.size) >>= _) _ _ _
  apply wpAny_bind
  unfold Builtin.SmallTypes.ownedTupleHandOut
  have zf : IsZip (he.push { cls := .type "tuple", data := .seq #[x, y] }) z TI TO .ellipsis := Heap.get?_push_of_some _ ze
  refine wpAny_bind (wpAny_setField_rec zf (by simp) fun hg zg sg => ?_)
  have zg : IsZip hg z TI TO (rawInt he.objs.size) := zg
  refine wpAny_setField_rec zg (by simp) fun hh zh sh => ?_
  have zh : IsZip hh z TI TO (rawInt he.objs.size) := zh
  have up : ∀ c o, c ≠ z → he.get? c = some o → hh.get? c = some o := fun c o n r => sub_to sh n _ (sub_to sg n _ (Heap.get?_push_of_some _ r))
  have nz : he.objs.size ≠ z := Nat.ne_of_gt ltz
  have tn : IsPair hh he.objs.size x y := sub_to sh nz _ (sub_to sg nz _ (Heap.get?_push_size _ rfl))
  have sz2 : hh.objs.size = he.objs.size + 1 := by rw [sh.1, sg.1, Heap.size_push]
  rw [size] at zh tn sz2
  refine wpAny_pure ⟨_, rfl, ?_⟩
  show Q (.ref he.objs.size) _
  rw [size]
  exact q hh zh (up _ _ D.TOz te) (S1.jat j1e fun o r => up _ o D.i1z r) (S2.jat j2e fun o r => up _ o D.i2z r) tn sz2 fun c o n1 n2 n3 n4 r => up c o n1 (old c o n1 n2 n3 n4 r)
theorem both_end (S1 : Src i1 l1 xs J1 L1) (S2 : Src i2 l2 ys J2 L2) {Q : Fin → Shared → Prop} (hh : A.handled = none) (D : ZipApart z TI TO i1 i2 l1 l2)
    (hz : IsZip s.heap z TI TO .none) (ti : IsPair s.heap TI (.ref i1) (.ref i2)) (to : IsPair s.heap TO a b) (j1 : J1 k1 s.heap) (j2 : J2 k2 s.heap) (e1 : L1 s.heap) (e2 : L2 s.heap) (hend : xs[k1]? = none ∨ ys[k2]? = none)
    (q : ∀ h' e, (∀ c o, c ≠ z → c ≠ TO → c ≠ i1 → c ≠ i2 → s.heap.get? c = some o → h'.get? c = some o) → (∃ o, h'.get? e = some o ∧ o.cls = .type "StopIteration") → E (.ref e) { s with heap := h' }) :
    wpAny (model prog w) A (Builtin.«zip.__next__» ⟨[.ref z], []⟩) Q E s := by
  show wpAny _ _ (field (.ref z) 2 >>= _) _ _ _
  apply wpAny_bind; apply wpAny_field hz rfl (x := .bool false) rfl
  show wpAny _ _ (field (.ref z) 3 >>= _) _ _ _
  apply wpAny_bind; apply wpAny_field hz rfl (x := .ref TI) rfl
  apply wpAny_bind; apply wpAny_seqItems ti rfl
  show wpAny _ _ (Builtin.SmallTypes.ownedTupleIsFree (.ref z) >>= _) _ _ _
  apply wpAny_bind
  unfold Builtin.SmallTypes.ownedTupleIsFree
  apply wpAny_bind; apply wpAny_field hz rfl (x := .none) rfl; apply wpAny_pure
  simp only [if_true]
  apply wpAny_bind; apply wpAny_rule
  apply wpAny_bind; apply wpAny_field hz rfl (x := .ref TO) rfl
  refine wpAny_bind (wpAny_setField_rec hz (by simp) fun ha za sa => ?_)
  have za : IsZip ha z TI TO .ellipsis := za
  apply wpAny_bind
  simp only [List.zipIdx_cons, List.zipIdx_nil, List.forIn_cons, List.forIn_nil]
  apply wpAny_bind; apply wpAny_bind; apply wpAny_onRaise
  show wpAny _ _ (Builtin.SmallTypes.nextOf (.ref i1) >>= _) _ _ _
  cases hx : xs[k1]? with
  | none =>
    refine wpAny_bind (S1.stop hh (S1.jat j1 (sub_to sa D.i1z)) (S1.lat e1 (sub_to sa D.l1z)) hx fun hb e sb ⟨oe, ge, ce⟩ => ?_)
    have zb : IsZip hb z TI TO .ellipsis := sb _ _ D.i1z.symm za
    have ne : e ≠ z := fun r => by subst r; rw [zb] at ge; cases ge; simp at ce
    refine wpAny_setField_rec zb (by simp) fun hc _ sc => ?_
    exact q hc e (fun c o n1 _ n3 _ r => sub_to sc n1 _ (sb _ _ n3 (sub_to sa n1 _ r))) ⟨oe, sub_to sc ne _ ge, ce⟩
  | some x =>
    have hy : ys[k2]? = none := hend.resolve_left fun r => by rw [hx] at r; cases r
    refine wpAny_bind (S1.next (S1.jat j1 (sub_to sa D.i1z)) (S1.lat e1 (sub_to sa D.l1z)) hx fun hb jb sb => wpAny_pure ?_)
    have tb : IsPair hb TO a b := sub_to sb D.TOi1 _ (sub_to sa D.TOz _ to)
    apply wpAny_bind; apply wpAny_seqItems tb rfl
    refine wpAny_bind (wpAny_updateSeq_pair tb fun hc tc sc => ?_)
    apply wpAny_bind; apply wpAny_letGo; apply wpAny_pure
    apply wpAny_bind; apply wpAny_bind; apply wpAny_onRaise
    show wpAny _ _ (Builtin.SmallTypes.nextOf (.ref i2) >>= _) _ _ _
    have up2 : ∀ o, s.heap.get? i2 = some o → hc.get? i2 = some o := fun o r => sub_to sc D.TOi2.symm _ (sub_to sb D.i12.symm _ (sub_to sa D.i2z _ r))
    have upl : ∀ o, s.heap.get? l2 = some o → hc.get? l2 = some o := fun o r => sub_to sc D.l2TO _ (sub_to sb D.l2i1 _ (sub_to sa D.l2z _ r))
    refine wpAny_bind (S2.stop hh (S2.jat j2 up2) (S2.lat e2 upl) hy fun hd e sd ⟨oe, ge, ce⟩ => ?_)
    have zd : IsZip hd z TI TO .ellipsis := sd _ _ D.i2z.symm (sub_to sc D.TOz.symm _ (sub_to sb D.i1z.symm _ za))
    have ne : e ≠ z := fun r => by subst r; rw [zd] at ge; cases ge; simp at ce
    refine wpAny_setField_rec zd (by simp) fun he _ se => ?_
    exact q he e (fun c o n1 n2 n3 n4 r => sub_to se n1 _ (sd _ _ n4 (sub_to sc n2 _ (sub_to sb n3 _ (sub_to sa n1 _ r))))) ⟨oe, sub_to se ne _ ge, ce⟩
end
end DLZ

end
section
set_option Elab.async false
set_option linter.all false
set_option maxRecDepth 100000
set_option maxHeartbeats 4000000
/-! DL, part 23: zip of a list and a tuple, and of two tuples: the rule. -/
namespace DLZ
open PySem PySem.Spec PyProof.Rows L2
section
variable {prog : Program} {w : World} {A : Around} {E : Value → Shared → Prop} {s : Shared} {z TI TO i1 i2 l1 l2 : Addr} {k1 k2 : Nat} {xs ys : Array Value} {x y a b : Value} {J1 J2 : Nat → Heap → Prop} {L1 L2 : Heap → Prop}
theorem next_item (S1 : Src i1 l1 xs J1 L1) (S2 : Src i2 l2 ys J2 L2) {Q : Option Value → Shared → Prop} (D : ZipApart z TI TO i1 i2 l1 l2)
    (hz : IsZip s.heap z TI TO .none) (ti : IsPair s.heap TI (.ref i1) (.ref i2)) (to : IsPair s.heap TO a b) (j1 : J1 k1 s.heap) (j2 : J2 k2 s.heap) (e1 : L1 s.heap) (e2 : L2 s.heap) (hx : xs[k1]? = some x) (hy : ys[k2]? = some y)
    (q : ∀ h', IsZip h' z TI TO (rawInt s.heap.objs.size) → IsPair h' TO x y → J1 (k1 + 1) h' → J2 (k2 + 1) h' → IsPair h' s.heap.objs.size x y → h'.objs.size = s.heap.objs.size + 1 →
      (∀ c o, c ≠ z → c ≠ TO → c ≠ i1 → c ≠ i2 → s.heap.get? c = some o → h'.get? c = some o) → Q (some (.ref s.heap.objs.size)) { s with heap := h' }) :
    wpAny (model prog w) A (pyNext (.ref z)) Q E s := by
  have ty : s.TypeIs (.ref z) "zip" := ⟨_, hz, rfl⟩
  unfold pyNext
  apply wpAny_bind
  apply wpAny_attempt
  refine wpAny_callSpecial?_slot (name := Str.ofString "__next__") ty F.slot_zip_next (wpAny_call_entry F.slot_zip_next ty F.entry_zip_next ?_ (F.args_zip_next_1 _))
  exact both_item S1 S2 D hz ti to j1 j2 e1 e2 hx hy fun h' p1 p2 p3 p4 p5 p6 p7 => wpAny_pure (q h' p1 p2 p3 p4 p5 p6 p7)
theorem next_end (S1 : Src i1 l1 xs J1 L1) (S2 : Src i2 l2 ys J2 L2) {Q : Option Value → Shared → Prop} (hh : A.handled = none) (D : ZipApart z TI TO i1 i2 l1 l2)
    (hz : IsZip s.heap z TI TO .none) (ti : IsPair s.heap TI (.ref i1) (.ref i2)) (to : IsPair s.heap TO a b) (j1 : J1 k1 s.heap) (j2 : J2 k2 s.heap) (e1 : L1 s.heap) (e2 : L2 s.heap) (hend : xs[k1]? = none ∨ ys[k2]? = none)
    (q : ∀ h', (∀ c o, c ≠ z → c ≠ TO → c ≠ i1 → c ≠ i2 → s.heap.get? c = some o → h'.get? c = some o) → Q none { s with heap := h' }) : wpAny (model prog w) A (pyNext (.ref z)) Q E s := by
  have ty : s.TypeIs (.ref z) "zip" := ⟨_, hz, rfl⟩
  unfold pyNext
  apply wpAny_bind
  apply wpAny_attempt
  refine wpAny_callSpecial?_slot (name := Str.ofString "__next__") ty F.slot_zip_next (wpAny_call_entry F.slot_zip_next ty F.entry_zip_next ?_ (F.args_zip_next_1 _))
  refine both_end S1 S2 hh D hz ti to j1 j2 e1 e2 hend fun h' e k ⟨o, ho, hc⟩ => ?_
  exact wpAny_bind (wpAny_isInstance (T := "StopIteration") (b := true) ⟨o, ho, hc⟩ isSubtype_stop (wpAny_pure (q _ k)))
end
abbrev mH1 (h : Heap) (l1 : Addr) : Heap := h.push { cls := .type "list_iterator", data := .fields #[.ref l1, .int 0 0] }
abbrev mH2 (h : Heap) (l1 l2 : Addr) : Heap := (mH1 h l1).push { cls := .type "tuple_iterator", data := .fields #[.ref l2, .int 0 0] }
abbrev mH3 (h : Heap) (l1 l2 : Addr) : Heap := (mH2 h l1 l2).push { cls := .type "tuple", data := .seq #[.ref h.objs.size, .ref (mH1 h l1).objs.size] }
abbrev mH4 (h : Heap) (l1 l2 : Addr) : Heap := (mH3 h l1 l2).push { cls := .type "tuple", data := .seq #[.none, .none] }
abbrev mH5 (h : Heap) (l1 l2 : Addr) : Heap := (mH4 h l1 l2).push { cls := .type "zip", data := .fields #[.none, .bool false, .bool false, .ref (mH2 h l1 l2).objs.size, .ref (mH3 h l1 l2).objs.size] }
theorem meets_mixed (l1 l2 : Addr) (xs ys : Array Value) :
    Meets (Builtin.«zip.__new__» ⟨[.type "zip", .ref l1, .ref l2], []⟩) (fun _ R s => s.heap.IsList l1 xs ∧ s.heap.IsTuple l2 ys ∧ R (.ok (.ret (.ref (mH4 s.heap l1 l2).objs.size))) { s with heap := mH5 s.heap l1 l2 }) :=
  .of_wp fun prog w A R s h => by
    obtain ⟨hp, g, d, tk, os⟩ := s
    obtain ⟨a1, a2, h⟩ := h
    have sub := sub_zip
    have p1 : Heap.IsList (Shared.heap ⟨hp, g, d, tk, os⟩) l1 xs := a1
    have p2 : Heap.IsTuple (Shared.heap ⟨hp.push { cls := .type "list_iterator", data := .fields #[.ref l1, .int 0 0] }, g, d, tk, os⟩) l2 ys := Heap.IsTuple.push a2 _
    wp_walk using wpAny_pyIter_list p1, wpAny_pyIter_tuple p2
    exact ⟨_, rfl, h⟩
section
variable {prog : Program} {w : World} {A : Around} {E : Value → Shared → Prop} {s : Shared}
theorem call_mixed {l1 l2 : Addr} {xs ys : Array Value} {Q : Value → Shared → Prop} (a1 : s.heap.IsList l1 xs) (a2 : s.heap.IsTuple l2 ys)
    (h : ∀ h', IsZip h' (s.heap.objs.size + 4) (s.heap.objs.size + 2) (s.heap.objs.size + 3) .none → IsPair h' (s.heap.objs.size + 2) (.ref s.heap.objs.size) (.ref (s.heap.objs.size + 1)) →
      IsPair h' (s.heap.objs.size + 3) .none .none → h'.IsListIter s.heap.objs.size l1 0 → h'.IsTupleIter (s.heap.objs.size + 1) l2 0 → (∀ c o, s.heap.get? c = some o → h'.get? c = some o) → Q (.ref (s.heap.objs.size + 4)) { s with heap := h' }) :
    wpAny (model prog w) A (call (.type "zip") [.ref l1, .ref l2]) Q E s := by
  refine callType_new F.called_zip (by decide) (F.typeCall_zip_2 _ _) (F.newCall_zip_2 _ _) (fun obj => F.args_object_init_3 obj _ _) F.entry_zip_new (meets_mixed l1 l2 xs ys) ⟨a1, a2, ?_⟩
  have n1 : (mH1 s.heap l1).objs.size = s.heap.objs.size + 1 := Heap.size_push ..
  have n2 : (mH2 s.heap l1 l2).objs.size = s.heap.objs.size + 2 := by rw [Heap.size_push, n1]
  have n3 : (mH3 s.heap l1 l2).objs.size = s.heap.objs.size + 3 := by rw [Heap.size_push, n2]
  have n4 : (mH4 s.heap l1 l2).objs.size = s.heap.objs.size + 4 := by rw [Heap.size_push, n3]
  have more : ∀ {h : Heap} {c : Addr} {o u : Obj}, h.get? c = some o → (h.push u).get? c = some o := fun e => Heap.get?_push_of_some _ e
  have o5 : (mH5 s.heap l1 l2).get? (mH4 s.heap l1 l2).objs.size = some _ := Heap.get?_push_size _ rfl
  have o4 : (mH5 s.heap l1 l2).get? (mH3 s.heap l1 l2).objs.size = some _ := more (Heap.get?_push_size _ rfl)
  have o3 : (mH5 s.heap l1 l2).get? (mH2 s.heap l1 l2).objs.size = some _ := more (more (Heap.get?_push_size _ rfl))
  have o2 : (mH5 s.heap l1 l2).get? (mH1 s.heap l1).objs.size = some _ := more (more (more (Heap.get?_push_size _ rfl)))
  have o1 : (mH5 s.heap l1 l2).get? s.heap.objs.size = some _ := more (more (more (more (Heap.get?_push_size _ rfl))))
  show _ ∧ _
  rw [n2, n3, n4] at o5
  rw [n1, n2] at o3
  rw [n3] at o4
  rw [n1] at o2
  rw [n4]
  exact ⟨⟨_, o5, rfl⟩, h _ o5 o3 o4 ⟨_, o1, rfl, rfl⟩ ⟨_, o2, rfl, rfl⟩ fun c o e => more (more (more (more (more e))))⟩
end
/-- the list at a, the tuple at b -/
def Itm (K : PySem.W.Frag) (a b : Addr) : It :=
  ⟨fun i H => ∃ (xs ys : List V) (x y : V), SqL K H a xs ∧ SqT K H b ys ∧ xs[i]? = some x ∧ ys[i]? = some y,
    fun i H v H' => ∃ T x y, v = .ref T ∧ H T = none ∧ H' = upd H T (.tup [x, y]) ∧ (∀ xs, SqL K H a xs → xs[i]? = some x) ∧ ∀ ys, SqT K H b ys → ys[i]? = some y,
    fun i H => ∃ xs ys : List V, SqL K H a xs ∧ SqT K H b ys ∧ (xs.length ≤ i ∨ ys.length ≤ i)⟩
theorem turn_mixed {P : Program} {w : World} {K : PySem.W.Frag} {elts : List Expr} {kk : Nat} {tpos : Pos} {a b z TI TO i1 i2 : Addr} (D : ZipApart z TI TO i1 i2 a b) :
    Turn P w K (.Tuple elts kk tpos) (Itm K a b) [z, TI, TO, i1, i2] z (fun i h => IsZip h z TI TO .none ∧ IsPair h TI (.ref i1) (.ref i2) ∧ (∃ x y, IsPair h TO x y) ∧ h.IsListIter i1 a i ∧ h.IsTupleIter i2 b i) where
  mem := List.mem_cons_self
  obj := fun i h ⟨p1, p2, ⟨x, y, p3⟩, p4, p5⟩ c hc => by
    simp only [List.mem_cons, List.mem_nil_iff, or_false] at hc
    rcases hc with rfl | rfl | rfl | rfl | rfl
    · exact ⟨_, p1, fun v q => nomatch q⟩
    · exact ⟨_, p2, fun v q => nomatch q⟩
    · exact ⟨_, p3, fun v q => nomatch q⟩
    · exact (src_list c a #[]).obj p4
    · exact (src_tup c b #[]).obj p5
  keep := fun i h h' ⟨p1, p2, ⟨x, y, p3⟩, p4, p5⟩ k => ⟨k z (by simp) _ p1, k TI (by simp) _ p2, ⟨x, y, k TO (by simp) _ p3⟩, p4.at fun o q => k i1 (by simp) o q, p5.at fun o q => k i2 (by simp) o q⟩
  item := by
    intro X e1 e2 e3 hc i pins s σ H E I hf st hg
    subst e1 e2 e3
    obtain ⟨p1, p2, ⟨x0, y0, p3⟩, p4, p5⟩ := st
    obtain ⟨xs, ys, x, y, qx, qy, hx, hy⟩ := hg
    obtain ⟨us, rx, lx, _⟩ := I.list qx
    obtain ⟨vs, ry, ly, _⟩ := I.tuple qy
    obtain ⟨u, hu, ru⟩ := rx.get hx
    obtain ⟨v, hv, rv⟩ := ry.get hy
    have zl : z < s.heap.objs.size := Heap.lt_size p1
    refine next_item (src_list i1 a us.toArray) (src_tup i2 b vs.toArray) D p1 p2 p3 p4 p5 lx.isList ly (x := u) (y := v) (by simpa using hu) (by simpa using hv) fun h' z1 t1 j1 j2 tn sz k => ?_
    refine ⟨_, rfl, wpAny_letOwnedTupleGo_zip (s := { s with heap := h' }) z1 fun g z2 sb => ?_⟩
    have tg : g.get? s.heap.objs.size = some { cls := .type "tuple", data := .seq #[u, v] } := (sb.2 _ (Nat.ne_of_gt zl)).trans tn
    have ok : ObjOk X.prog X.w (upd H s.heap.objs.size (.tup [x, y])) g s.heap.objs.size (.tup [x, y]) := ⟨by show 2 ≤ sizeLine; decide, [u, v], .cons ru (.cons rv .nil), ⟨_, tg, rfl, _, rfl⟩⟩
    have off : ∀ c, c ∉ [z, TI, TO, i1, i2] → c ≠ z ∧ c ≠ TO ∧ c ≠ i1 ∧ c ≠ i2 := fun c hc => by
      simp only [List.mem_cons, List.mem_nil_iff, or_false, not_or] at hc
      exact ⟨hc.1, hc.2.2.1, hc.2.2.2.1, hc.2.2.2.2⟩
    have J : Inv X pins σ (upd H s.heap.objs.size (.tup [x, y])) { s with heap := g } :=
      I.turnedNew (t' := s.toks) (ch := [z, TI, TO, i1, i2]) (fun c o hb q => (sb.2 c (off c hb).1).trans (k c o (off c hb).1 (off c hb).2.1 (off c hb).2.2.1 (off c hb).2.2.2 q)) hf (Nat.le_refl _) ok
    refine ⟨.ref s.heap.objs.size, _, J, rfl, ⟨_, x, y, rfl, I.hok.fresh (Nat.le_refl _), rfl, fun l hl => by rw [I.list_inj hl qx]; exact hx, fun l hl => by rw [I.tuple_inj hl qy]; exact hy⟩, ⟨z2, ?_, ⟨u, v, ?_⟩, ?_, ?_⟩, fun c hcm => ?_⟩
    · exact (sb.2 _ D.TIz).trans (k _ _ D.TIz D.TITO D.TIi1 D.TIi2 p2)
    · exact (sb.2 _ D.TOz).trans t1
    · exact j1.at fun o q => (sb.2 _ D.i1z).trans q
    · exact j2.at fun o q => (sb.2 _ D.i2z).trans q
    · have lt : c < s.heap.objs.size := by
        have m := hcm
        simp only [List.mem_cons, List.mem_nil_iff, or_false] at m
        rcases m with rfl | rfl | rfl | rfl | rfl
        · exact zl
        · exact Heap.lt_size p2
        · exact Heap.lt_size p3
        · exact p4.elim fun _ q => Heap.lt_size q.1
        · exact p5.elim fun _ q => Heap.lt_size q.1
      rw [upd_ne (Nat.ne_of_lt lt)]
      exact (hf c hcm).1
  done := by
    intro X e1 e2 e3 hc i pins s σ H E I hf st hg
    subst e1 e2 e3
    obtain ⟨p1, p2, ⟨x0, y0, p3⟩, p4, p5⟩ := st
    obtain ⟨xs, ys, qx, qy, hend⟩ := hg
    obtain ⟨us, rx, lx, _⟩ := I.list qx
    obtain ⟨vs, ry, ly, _⟩ := I.tuple qy
    have m1 := rx.length
    have m2 := ry.length
    refine next_end (src_list i1 a us.toArray) (src_tup i2 b vs.toArray) (I.ok.hd hc) D p1 p2 p3 p4 p5 lx.isList ly ?_ fun h' k => ⟨rfl, I.turnedL (t' := s.toks) (ch := [z, TI, TO, i1, i2]) (fun c o hb q => ?_) hf⟩
    · rcases hend with q | q
      · left; simp; omega
      · right; simp; omega
    · simp only [List.mem_cons, List.mem_nil_iff, or_false, not_or] at hb
      exact k c o hb.1 hb.2.2.1 hb.2.2.2.1 hb.2.2.2.2 q
  self := fun A i s Q E st h => wpAny_pyIter_zip st.1 h
def iMix (K : PySem.W.Frag) (ta : TA) : TI := fun σ H R => ta σ H fun vs H1 => ∃ a b xs ys, vs = [.ref a, .ref b] ∧ SqL K H1 a xs ∧ SqT K H1 b ys ∧ R (Itm K a b) H1
theorem pi_mixed {X : Cx} {e e2 : Expr} {ta : TA} {p pos tpos : Pos} {elts : List Expr} {kk : Nat} (hg : Gl X "zip") (hm : X.mg "zip" = none) (ha : PA X [e, e2] ta)
    (hs : starEach [e, e2] X.env = (false, eval e X.env) :: starEach [e2] X.env := by rfl) (hpl : (backTo pos (starEach [e2] X.env)).any (·.1) = false := by rfl) :
    PI X (.Tuple elts kk tpos) (.Call (.Name "zip" p) [e, e2] [] pos) (iMix X.K ta) := by
  refine ⟨fun pins s σ H R I h => ?_⟩
  refine Call_ (ld_blt I hg hm PyProof.Rows.boot_zip (PyProof.Rows.callWith_type1 (thn (ha.run pos pins s σ H _ I h) fun us s1 ⟨vs, H1, I1, r1, a, b, xs, ys, ex, qx, qy, q⟩ => ?_) hs hpl))
  subst ex
  obtain ⟨v1, v2, rfl, r, r'⟩ := vals2 r1
  cases r
  cases r'
  obtain ⟨us, _, lx, _⟩ := I1.list qx
  obtain ⟨ws, _, ly, _⟩ := I1.tuple qy
  have lyl : b < s1.heap.objs.size := by obtain ⟨o, ho, _⟩ := id ly; exact Heap.lt_size ho
  refine call_mixed lx.isList (show s1.heap.IsTuple b ws.toArray from ly) fun h' hz hTI hTO h1 h2 hk => wpAny_pyIter_zip hz ?_
  have I2 : Inv X pins σ H1 { s1 with heap := h' } := I1.kept (t' := s1.toks) hk
  refine ⟨s1.heap.objs.size + 4, [s1.heap.objs.size + 4, s1.heap.objs.size + 2, s1.heap.objs.size + 3, s1.heap.objs.size, s1.heap.objs.size + 1], _, _, H1, rfl, I2, turn_mixed (PySem.W.ktu_apart s1.heap.objs.size a b lx.lt lyl), ⟨hz, hTI, ⟨_, _, hTO⟩, h1, h2⟩, fun c hcm => ?_, q⟩
  have le : s1.heap.objs.size ≤ c := by
    simp only [List.mem_cons, List.mem_nil_iff, or_false] at hcm
    rcases hcm with rfl | rfl | rfl | rfl | rfl <;> omega
  exact I1.fpOk le (I1.hok.fresh le)
end DLZ
namespace DL
open PySem PySem.Spec PyProof.Rows L2
theorem ItOf.mixed {K : PySem.W.Frag} {T : List (Addr × Str)} {a b : Addr} {G' : Hp} {vs us : List V} {ds es : List Dat} (h : Rd G' a (.lst vs)) (h' : Rd G' b (.tup us)) (hl : ds.length ≤ sizeLine) (r : RepL K G' vs ds) (r' : RepL K G' us es) : ItOf K T (DLZ.Itm K a b) G' ((ds.zip es).map fun p => .tup [p.1, p.2]) where
  len := by rw [List.length_map, List.length_zip]; omega
  go := fun i H2 G2 M2 hi s h2 => by
    rw [List.length_map, List.length_zip] at hi
    obtain ⟨v, hv, _⟩ := r.get (i := i) (List.getElem?_eq_getElem (by omega))
    obtain ⟨u, hu, _⟩ := r'.get (i := i) (List.getElem?_eq_getElem (by omega))
    exact ⟨vs, us, v, u, sqL_mono h2.sub (rd_mono s h), sqT_mono h2.sub (rd_mono s h'), hv, hu⟩
  stop := fun i H2 G2 M2 hi s h2 => by
    rw [List.length_map, List.length_zip] at hi
    exact ⟨vs, us, sqL_mono h2.sub (rd_mono s h), sqT_mono h2.sub (rd_mono s h'), by rw [r.length, r'.length]; omega⟩
  yld := fun i H2 G2 M2 x H3 d hd s h2 y => by
    obtain ⟨p, v, u, rfl, hp, rfl, y1, y2⟩ := y
    obtain ⟨dx, dy, e1, e2, rfl⟩ := zip_at hd
    obtain ⟨v', hv, rv⟩ := r.get e1
    obtain ⟨u', hu, ru⟩ := r'.get e2
    have a1 := y1 vs (sqL_mono h2.sub (rd_mono s h))
    have a2 := y2 us (sqT_mono h2.sub (rd_mono s h'))
    rw [hv] at a1
    rw [hu] at a2
    cases a1
    cases a2
    exact pair_new h2 hp (rv.mono s) (ru.mono s)
/-- zip of a list and a tuple -/
def oZipM : List Dat → Option (List Dat)
  | [.lst xs, .tup ys] => some ((xs.zip ys).map fun p => .tup [p.1, p.2])
  | _ => none
section
variable {X : Cx} {T : List (Addr × Str)} {W : WX} {a b : Expr} {pos : Pos} {l : DTA} {fl : FA}
theorem di_zipM {p2 tpos : Pos} {elts : List Expr} {kk : Nat} (hm : X.mg "zip" = none) (hl : DA X T W l [a, b]) (hg : Gl X "zip" := by rfl) (hs : starEach [a, b] X.env = (false, eval a X.env) :: starEach [b] X.env := by rfl) (hpl : (backTo pos (starEach [b] X.env)).any (·.1) = false := by rfl) :
    DI X T W (dIt oZipM l) (.Tuple elts kk tpos) (.Call (.Name "zip" p2) [a, b] [] pos) := by
  refine PI.weak (DLZ.pi_mixed hg hm hl hs hpl) fun σ H R ⟨G, M, ρ, QD, ED, hh, r, hd, kq, ke⟩ => ?_
  refine cA_mk hh r _ ED hd (fun vs H' G' M' xs t h' r' q => ?_) ke
  cases e : oZipM xs with
  | none => rw [e] at q; exact q.elim
  | some ys =>
    rw [e] at q
    unfold oZipM at e
    split at e
    · cases e
      obtain ⟨v, u, rfl, rv, ru⟩ := two_case r'
      cases rv
      cases ru
      rename_i ha hla rla _ _ hb hlb rlb
      exact ⟨_, _, _, _, rfl, sqL_mono h'.sub ha, sqT_mono h'.sub hb, kq _ H' G' M' _ t h' (ItOf.mixed ha hb hla rla rlb) q⟩
    · cases e
theorem dip_zipM {p2 tpos : Pos} {elts : List Expr} {kk : Nat} (hm : X.mg "zip" = none) (hl : DA X T W (purA fl) [a, b]) (hg : Gl X "zip" := by rfl) (hs : starEach [a, b] X.env = (false, eval a X.env) :: starEach [b] X.env := by rfl) (hpl : (backTo pos (starEach [b] X.env)).any (·.1) = false := by rfl) :
    DI X T W (purA (fIt oZipM fl)) (.Tuple elts kk tpos) (.Call (.Name "zip" p2) [a, b] [] pos) := by
  rw [← dIt_pur]; exact di_zipM hm hl hg hs hpl
end
end DL

end
section
set_option Elab.async false
set_option linter.all false
set_option maxRecDepth 100000
set_option maxHeartbeats 4000000
/-! DL, part 24: a tuple times any small number. -/
namespace DL
open PySem PySem.Spec PyProof.Rows L2
theorem mul_same (l : Addr) (items : Array Value) (n : Nat) (dd : Option Addr) (sl : Array (Option Value)) (x : Int) (u : Tok) (c0 : (decide (x < -(2 ^ 63)) || decide (x ≥ 2 ^ 63)) = false) (c1 : (items.isEmpty || x == 1) = true) :
    Meets (Builtin.«tuple.__mul__» ⟨[.ref l, .int x u], []⟩) (fun _ R s => s.heap.get? l = some { cls := .type "tuple", dict := dd, data := .seq items n, slots := sl } ∧ R (.ok (.ret (Value.ref l))) s) :=
  .of_wp fun prog w A R s h => by
    obtain ⟨hp, g, d, tk, os⟩ := s
    obtain ⟨hl, h⟩ := h
    have f1 := AutoSeq1.idx_int
    wp_walk using wpAny_loadPart' hl
    repeat (first
      | (refine wpAny_ite_false (decide_eq_false (by rw [c0]; exact Bool.false_ne_true)) ?_; wp_walk using wpAny_loadPart' hl)
      | (refine wpAny_ite_true (decide_eq_true c1) ?_; wp_walk using wpAny_loadPart' hl))
    exact ⟨_, rfl, h⟩
theorem mul_none (l : Addr) (items : Array Value) (n : Nat) (dd : Option Addr) (sl : Array (Option Value)) (x : Int) (u : Tok) (c0 : (decide (x < -(2 ^ 63)) || decide (x ≥ 2 ^ 63)) = false) (c1 : (items.isEmpty || x == 1) = false) (c2 : (decide (x ≤ 0) || items.isEmpty) = true) :
    Meets (Builtin.«tuple.__mul__» ⟨[.ref l, .int x u], []⟩) (fun _ R s => s.heap.get? l = some { cls := .type "tuple", dict := dd, data := .seq items n, slots := sl } ∧ R (.ok (.ret (Value.ref s.heap.objs.size))) { s with heap := s.heap.push { cls := Value.type "tuple", data := Data.seq #[] }, toks := s.toks }) :=
  .of_wp fun prog w A R s h => by
    obtain ⟨hp, g, d, tk, os⟩ := s
    obtain ⟨hl, h⟩ := h
    have f1 := AutoSeq1.idx_int
    wp_walk using wpAny_loadPart' hl
    repeat (first
      | (refine wpAny_ite_false (decide_eq_false (by rw [c0]; exact Bool.false_ne_true)) ?_; wp_walk using wpAny_loadPart' hl)
      | (refine wpAny_ite_false (decide_eq_false (by rw [c1]; exact Bool.false_ne_true)) ?_; wp_walk using wpAny_loadPart' hl)
      | (refine wpAny_ite_true (decide_eq_true c2) ?_; wp_walk using wpAny_loadPart' hl))
    exact ⟨_, rfl, h⟩
section
variable {X : Cx} {T : List (Addr × Str)}
theorem op_same : OpR X (binaryOp .Mult) (fun x y H Q => ∃ l k xs, x = .ref l ∧ y = .int k ∧ SqT X.K H l xs ∧ (xs = [] ∨ k = 1) ∧ -1000 ≤ k ∧ k ≤ 1000 ∧ Q (.ref l) H) := by
  intro pins s σ H x y v u Q I rx ry h
  obtain ⟨l, k, xs, rfl, rfl, hT, hne, h1, h2, q⟩ := h
  cases rx
  obtain ⟨t, rfl⟩ := ry
  obtain ⟨its, r, ⟨⟨cls, dd, data, sl⟩, ho, hc, n, hd⟩, hs⟩ := I.tuple hT
  simp only at hc hd
  subst hc hd
  have c0 : (decide (k < -(2 ^ 63)) || decide (k ≥ 2 ^ 63)) = false := by
    rw [decide_eq_false (by omega), decide_eq_false (by omega)] <;> rfl
  have c1 : (its.toArray.isEmpty || k == 1) = true := by
    rcases hne with e | e
    · have : its = [] := List.eq_nil_of_length_eq_zero (by rw [← r.length, e]; rfl)
      subst this; rfl
    · subst e; simp
  exact wpAny_binaryOp_repeat_ref (T := "tuple") (U := "int") (by decide) ⟨_, ho, rfl⟩ (fun s' => typeIs_int s' k t) noFill_tuple_mul F.fills_int_mul F.slot_int_rmul repeat_tuple F.slot_int_index.lookup
    (call_meets F.slot_int_rmul (typeIs_int s k t) F.entry_int_rmul (F.args_int_rmul_2 _ _) (int_rmul_tuple k t l its.toArray n dd sl)
      ⟨ho, rfl, ⟨_, ho, rfl⟩, call_meets F.slot_tuple_mul ⟨_, ho, rfl⟩ F.entry_tuple_mul (F.args_tuple_mul_2 _ _) (mul_same l its.toArray n dd sl k t c0 c1) ⟨ho, .ref l, H, I, rfl, q⟩⟩)
theorem op_none : OpR X (binaryOp .Mult) (fun x y H Q => ∃ l k xs, x = .ref l ∧ y = .int k ∧ SqT X.K H l xs ∧ xs ≠ [] ∧ -1000 ≤ k ∧ k ≤ 0 ∧ ∀ p, H p = none → Q (.ref p) (upd H p (.tup []))) := by
  intro pins s σ H x y v u Q I rx ry h
  obtain ⟨l, k, xs, rfl, rfl, hT, hne, h1, h2, q⟩ := h
  cases rx
  obtain ⟨t, rfl⟩ := ry
  obtain ⟨its, r, ⟨⟨cls, dd, data, sl⟩, ho, hc, n, hd⟩, hs⟩ := I.tuple hT
  simp only at hc hd
  subst hc hd
  have hn : its.toArray.isEmpty = false := by
    cases its with
    | nil => exact absurd (List.eq_nil_of_length_eq_zero r.length) hne
    | cons a b => rfl
  have c0 : (decide (k < -(2 ^ 63)) || decide (k ≥ 2 ^ 63)) = false := by
    rw [decide_eq_false (by omega), decide_eq_false (by omega)] <;> rfl
  have c1 : (its.toArray.isEmpty || k == 1) = false := by
    rw [hn, Bool.false_or]; exact beq_eq_false_iff_ne.mpr (by omega)
  have c2 : (decide (k ≤ 0) || its.toArray.isEmpty) = true := by rw [decide_eq_true h2]; rfl
  refine wpAny_binaryOp_repeat_ref (T := "tuple") (U := "int") (by decide) ⟨_, ho, rfl⟩ (fun s' => typeIs_int s' k t) noFill_tuple_mul F.fills_int_mul F.slot_int_rmul repeat_tuple F.slot_int_index.lookup
    (call_meets F.slot_int_rmul (typeIs_int s k t) F.entry_int_rmul (F.args_int_rmul_2 _ _) (int_rmul_tuple k t l its.toArray n dd sl)
      ⟨ho, rfl, ⟨_, ho, rfl⟩, call_meets F.slot_tuple_mul ⟨_, ho, rfl⟩ F.entry_tuple_mul (F.args_tuple_mul_2 _ _) (mul_none l its.toArray n dd sl k t c0 c1 c2) ⟨ho, ?_⟩⟩)
  refine ⟨.ref s.heap.objs.size, _, I.laid (t' := s.toks) (o := .tup []) (fun b ob q => Heap.get?_push_of_some _ q) (Nat.le_refl _) ?_, rfl, q _ (I.hok.fresh (Nat.le_refl _))⟩
  exact ⟨Nat.zero_le _, [], .nil, IsTup.new _ _⟩
def oMulT (a b : Dat) : Option Dat := match a, b with
  | .tup xs, .int k => if 0 ≤ k ∧ k ≤ 1000 ∧ xs.length ≤ 1000 then some (.tup (List.replicate k.toNat xs).flatten) else none
  | a, b => oMul a b
@[simp] theorem mulT_int (i : Int) (b : Dat) : oMulT (.int i) b = oMul (.int i) b := rfl
@[simp] theorem mulT_lst (xs : List Dat) (b : Dat) : oMulT (.lst xs) b = oMul (.lst xs) b := rfl
theorem od_mulT : OD X T (binaryOp .Mult) oMulT := by
  refine od_of fun pins s σ H x y v u Q G M dx dy z I rx ry hh r1 r2 e kq => ?_
  have back : oMul dx dy = some z → wpAny (model X.prog X.w) X.A (binaryOp .Mult v u) (EP X pins σ Q) X.xe s := fun e' => od_mul pins s σ H x y v u Q I rx ry ⟨G, M, dx, dy, z, hh, r1, r2, e', kq⟩
  unfold oMulT at e
  split at e
  · rename_i xs k
    split at e
    · rename_i hc
      cases e
      obtain ⟨h0, h1, h2⟩ := hc
      cases r2
      cases r1 with
      | tup ha hl r =>
        rename_i a vs
        have e1 := r.length
        by_cases c : xs = [] ∨ k = 1
        · refine op_same pins s σ H _ _ v u Q I rx ry ⟨a, k, vs, rfl, rfl, sqT_mono hh.sub ha, ?_, by omega, h1, kq _ H G (Tr.refl ..) hh ?_⟩
          · rcases c with c | c
            · left; exact List.eq_nil_of_length_eq_zero (by rw [e1, c]; rfl)
            · exact .inr c
          · have : (List.replicate k.toNat xs).flatten = xs := by
              rcases c with c | c
              · subst c; induction k.toNat with
                | zero => rfl
                | succ m ih => simp [List.replicate_succ]
              · subst c; simp
            rw [this]
            exact .tup ha hl r
        · rw [not_or] at c
          by_cases d : k = 0
          · subst d
            refine op_none pins s σ H _ _ v u Q I rx ry ⟨a, 0, vs, rfl, rfl, sqT_mono hh.sub ha, fun q => c.1 (List.eq_nil_of_length_eq_zero (by rw [← e1, q]; rfl)), by omega, by omega, fun p hp => ?_⟩
            obtain ⟨G', t2, h4, r3⟩ := hh.newT hp (vs := []) (ds := []) (Nat.zero_le _) .nil
            exact kq _ _ G' t2 h4 r3
          · refine back ?_
            simp only [oMul]
            rw [if_pos ⟨c.1, by omega, h1, h2⟩]
    · cases e
  · exact back e
end
end DL

end
section
set_option Elab.async false
set_option linter.all false
set_option maxRecDepth 100000
set_option maxHeartbeats 4000000
/-! DL, part 25: sorted and min of tuples of any alike data. -/
namespace DL
open PySem PySem.Spec PyProof.Rows L2
def alikeD (xs : List Dat) : Bool := xs.all fun a => xs.all fun b => PySem.W.alike (py a) (py b)
def neTup : Dat → Bool
  | .tup (_ :: _) => true
  | _ => false
def tupsOk (xs : List Dat) : Bool := xs.all (dok 3) && (xs.all neTup && alikeD xs)
def oSortG : List Dat → Option Dat
  | [.lst xs] => if tupsOk xs then some (.lst (xs.mergeSort leD)) else oSortE [.lst xs]
  | l => oSortE l
theorem neTup_py {d : Dat} (h : neTup d = true) : ∃ x r, py d = .tuple (x :: r) := by
  unfold neTup at h
  split at h
  · exact ⟨_, _, by simp only [py, pyL]; rfl⟩
  · cases h
theorem alikeD_ok {xs : List Dat} (h : alikeD xs = true) : PySem.W.AllAlike (xs.map py) := by
  intro d hd d' hd'
  obtain ⟨a, ha, rfl⟩ := List.mem_map.mp hd
  obtain ⟨b, hb, rfl⟩ := List.mem_map.mp hd'
  exact List.all_eq_true.mp (List.all_eq_true.mp h a ha) b hb
theorem pyL_map : ∀ xs : List Dat, pyL xs = xs.map py
  | [] => rfl
  | x :: xs => by simp only [pyL, List.map_cons, pyL_map xs]
mutual
theorem py_inj : ∀ (n : Nat) (d e : Dat), dok n d = true → dok n e = true → py d = py e → d = e
  | n, d, e, h, h', q => by
    cases n with
    | zero => cases d <;> cases e <;> first | (simp [dok] at h; done) | (simp [dok] at h'; done) | (simp [py] at q; done) | (simp [py] at q; subst q; rfl) | rfl
    | succ n =>
      cases d <;> cases e <;> first | (simp [dok] at h; done) | (simp [dok] at h'; done) | (simp [py] at q; done) | (simp [py] at q; subst q; rfl) | rfl | (simp only [py, PyData.tuple.injEq, PyData.list.injEq] at q; rw [pyL_inj n _ _ (by simpa [dok] using h) (by simpa [dok] using h') q])
theorem pyL_inj : ∀ (n : Nat) (xs ys : List Dat), (∀ x ∈ xs, dok n x = true) → (∀ y ∈ ys, dok n y = true) → pyL xs = pyL ys → xs = ys
  | n, [], [], _, _, _ => rfl
  | n, [], _ :: _, _, _, q => by simp [pyL] at q
  | n, _ :: _, [], _, _, q => by simp [pyL] at q
  | n, x :: xs, y :: ys, h, h', q => by
    simp only [pyL, List.cons.injEq] at q
    rw [py_inj n x y (h x List.mem_cons_self) (h' y List.mem_cons_self) q.1, pyL_inj n xs ys (fun z hz => h z (List.mem_cons_of_mem _ hz)) (fun z hz => h' z (List.mem_cons_of_mem _ hz)) q.2]
end
def ltD (a b : Dat) : Bool := PySem.W.dataLt (py a) (py b)
def minD (x : Dat) (xs : List Dat) : Dat := xs.foldl (fun a y => if ltD y a then y else a) x
def oMinG : List Dat → Option Dat
  | [.lst (x :: xs)] => if tupsOk (x :: xs) then some (minD x xs) else oMin [.lst (x :: xs)]
  | l => oMin l
theorem minD_mem : ∀ (xs : List Dat) (x : Dat), minD x xs ∈ x :: xs
  | [], x => List.mem_cons_self
  | y :: xs, x => by
    show xs.foldl (fun a y => if ltD y a then y else a) (if ltD y x then y else x) ∈ _
    have h := minD_mem xs (if ltD y x then y else x)
    unfold minD at h
    rcases List.mem_cons.mp h with e | e
    · rw [e]; split
      · exact List.mem_cons_of_mem _ List.mem_cons_self
      · exact List.mem_cons_self
    · exact List.mem_cons_of_mem _ (List.mem_cons_of_mem _ e)
theorem minD_py : ∀ (xs : List Dat) (x : Dat), py (minD x xs) = PySem.W.minD (py x) (xs.map py)
  | [], x => rfl
  | y :: xs, x => by
    have h := minD_py xs (if ltD y x then y else x)
    unfold minD PySem.W.minD at *
    rw [List.map_cons, List.foldl_cons, List.foldl_cons, h]
    congr 1
    unfold ltD
    split <;> rfl
theorem pyL_readsAll {X : Cx} {pins : List (Addr × Obj)} {σ : L2.St} {H G : Hp} {s : Shared} (I : Inv X pins σ H s) (sb : Sub G H) {n : Nat} : ∀ {vs : List V} {ds : List Dat} {us : List Value}, RepL X.K G vs ds → Vals vs us → (∀ d ∈ ds, dok n d = true) → ∃ as, ReadsAll s.heap us (ds.map py) as
  | _, _, _, .nil, .nil, _ => ⟨[], .nil⟩
  | _, _, _, .cons r t, .cons a b, h => by
    obtain ⟨as, h1⟩ := Dp.reads I _ _ _ (r.dp sb n (h _ List.mem_cons_self)) a
    obtain ⟨bs, h2⟩ := pyL_readsAll I sb t b fun d hd => h d (List.mem_cons_of_mem _ hd)
    exact ⟨as ++ bs, .cons h1 h2⟩
theorem depth_all : ∀ (xs : List Dat) (n : Nat), (∀ d ∈ xs, dok n d = true) → PyData.depthAll (xs.map py) ≤ n := fun xs n h => by
  rw [← pyL_map]; exact (dokL_py n xs h).2
theorem vals_back {xs : List V} {us : List Value} {i : Nat} {u : Value} (r : Vals xs us) (h : us[i]? = some u) : ∃ x, xs[i]? = some x ∧ L2.RelV x u := by
  have hl := r.length
  have hi : i < us.length := by
    rcases Nat.lt_or_ge i us.length with c | c
    · exact c
    · rw [List.getElem?_eq_none c] at h; cases h
  obtain ⟨u', h1, h2⟩ := Vals.get r (List.getElem?_eq_getElem (l := xs) (i := i) (by omega))
  rw [h] at h1
  cases h1
  exact ⟨_, List.getElem?_eq_getElem (by omega), h2⟩
section
variable {X : Cx} {T : List (Addr × Str)}
theorem cd_sortG (hu : X.A.units + 64 < cLine) : CD X T (.builtin "sorted") oSortG := by
  intro pins s σ H vs us Q I r ⟨G, M, ds, z, hh, rr, e, kq⟩
  have back : oSortE ds = some z → wpAny (model X.prog X.w) X.A (call (.builtin "sorted") us) (EP X pins σ Q) X.xe s := fun e' => cd_sortE (by omega) pins s σ H vs us Q I r ⟨G, M, ds, z, hh, rr, e', kq⟩
  unfold oSortG at e
  split at e
  · rename_i xs
    split at e
    · rename_i hc
      cases e
      simp only [tupsOk, Bool.and_eq_true, List.all_eq_true] at hc
      obtain ⟨hdk, hne, hal⟩ := hc
      obtain ⟨v, rfl, rv⟩ := one_case rr
      cases rv with
      | lst ha hl rl =>
        rw [Vals.ref1 r]
        obtain ⟨its, rv, pl, hz⟩ := I.list (sqL_mono hh.sub ha)
        have hk : PySem.W.Sortable (xs.map py) := .inl fun d hd => by
          obtain ⟨b, hb, rfl⟩ := List.mem_map.mp hd
          exact neTup_py (hne b hb)
        refine PySem.W.sorted_data (R := fun v d => ∃ x, RelV x v ∧ Rep X.K G x d) pl.isList (each_rep rl rv) (each_reads I hh.sub rl rv hdk) (alikeD_ok hal) hk hl (fun b hb => ?_) fun out hlen eo => ?_
        · have := (dok_py 3 b (hdk b hb)).2
          omega
        · obtain ⟨ws, a1, a2⟩ := rep_each eo
          obtain ⟨ep, he'⟩ := PyProof.Rows.sortedAll_at s.heap its out.toArray
          have hl' : (xs.mergeSort leD).length ≤ sizeLine := by rw [List.length_mergeSort]; exact hl
          have hf : H (s.heap.objs.size + 1) = none := I.hok.fresh (Nat.le_succ _)
          obtain ⟨G', t2, h2, r2⟩ := hh.newL hf hl' a2
          exact ⟨.ref _, upd H (s.heap.objs.size + 1) (.lst ws), I.laid (t' := s.toks) (fun _ _ => PyProof.Rows.sortedAll_old) (Nat.le_succ _) ⟨by rw [a2.length]; exact hl', out, ep, a1, he'⟩, rfl, kq _ _ G' t2 h2 r2⟩
    · exact back e
  · exact back e
theorem cd_minG (hc : X.calm = true) (hu : X.A.units + 64 < cLine) : CD X T (.builtin "min") oMinG := by
  intro pins s σ H vs us Q I r ⟨G, M, ds, z, hh, rr, e, kq⟩
  have back : oMin ds = some z → wpAny (model X.prog X.w) X.A (call (.builtin "min") us) (EP X pins σ Q) X.xe s := fun e' => cd_min hc pins s σ H vs us Q I r ⟨G, M, ds, z, hh, rr, e', kq⟩
  unfold oMinG at e
  split at e
  · rename_i x xs
    split at e
    · rename_i hk
      cases e
      simp only [tupsOk, Bool.and_eq_true, List.all_eq_true] at hk
      obtain ⟨hdk, hne, hal⟩ := hk
      obtain ⟨v, rfl, rv⟩ := one_case rr
      cases rv with
      | lst ha hl rl =>
        rw [Vals.ref1 r]
        obtain ⟨its, rv, pl, hz⟩ := I.list (sqL_mono hh.sub ha)
        obtain ⟨as, ra⟩ := pyL_readsAll I hh.sub rl rv hdk
        have all : PySem.W.AllAlike ((x :: xs).map py) := alikeD_ok hal
        have mp := minD_py xs x
        refine PySem.W.min_list_data (x := py x) (xs := xs.map py) (I.ok.hd hc) pl.isList (by simpa using ra) ⟨all, fun d hd => ?_⟩ ?_ fun i v h' tk bs hi rv' hk => ?_
        · rw [← List.map_cons] at hd
          obtain ⟨b, hb, rfl⟩ := List.mem_map.mp hd
          obtain ⟨y, r, e⟩ := neTup_py (hne b hb)
          rw [e]; exact fun q => nomatch q
        · have := depth_all (x :: xs) 3 hdk
          rw [List.map_cons] at this
          omega
        · have hi' : its[i]? = some v := by simpa using hi
          obtain ⟨V, hV, rV⟩ := vals_back rv hi'
          obtain ⟨d, hd, rd⟩ := rl.get' hV
          have dm : d ∈ x :: xs := List.mem_of_getElem? hd
          have mm := minD_mem xs x
          have I2 : Inv X pins σ H { s with heap := h', toks := tk } := I.kept (t' := tk) hk
          obtain ⟨cs, r1⟩ := Dp.reads I2 _ _ _ (rd.dp hh.sub 3 (hdk d dm)) rV
          have e := PySem.W.alike_unique _ _ _ _ _ (all _ (List.mem_map.mpr ⟨d, dm, rfl⟩) _ (List.mem_map.mpr ⟨_, mm, rfl⟩)) r1 (mp ▸ rv')
          have e2 := py_inj 3 _ _ (hdk d dm) (hdk _ mm) e
          exact ⟨V, H, I2, rV, kq V H G (Tr.refl ..) hh (e2 ▸ rd)⟩
    · exact back e
  · exact back e
end
end DL

end
section
set_option Elab.async false
set_option linter.all false
set_option maxRecDepth 100000
set_option maxHeartbeats 4000000
/-! DL, part 26: dicts that change; their keys are numbers and texts. -/
namespace DL
open PySem PySem.Spec PyProof.Rows L2

def valD (kvs : List (Key × Dat)) (k : Key) : Option Dat := (kvs.find? fun kv => decide (kv.1 = k)).map (·.2)
def putD (kvs : List (Key × Dat)) (k : Key) (d : Dat) : List (Key × Dat) :=
  if (kvs.any fun kv => decide (kv.1 = k)) = true then kvs.map (fun kv => if kv.1 = k then (kv.1, d) else kv) else kvs ++ [(k, d)]
def keyD : Dat → Option Key
  | .int i => some (.inl i)
  | .str x => some (.inr x)
  | _ => none
section
variable {K : PySem.W.Frag} {G H : Hp} {T : List (Addr × Str)} {M : DM}
abbrev DRep (K : PySem.W.Frag) (G : Hp) (vs : List (Key × V)) (kvs : List (Key × Dat)) : Prop := Paired (fun (p : Key × V) (q : Key × Dat) => p.1 = q.1 ∧ Rep K G p.2 q.2) vs kvs
theorem DRep.len : ∀ {vs : List (Key × V)} {kvs : List (Key × Dat)}, DRep K G vs kvs → vs.length = kvs.length
  | _, _, .nil => rfl
  | _, _, .cons _ t => by rw [List.length_cons, List.length_cons, DRep.len t]
theorem DRep.val {k : Key} : ∀ {vs : List (Key × V)} {kvs : List (Key × Dat)}, DRep K G vs kvs → ((valV vs k).isSome = (valD kvs k).isSome ∧ ∀ d, valD kvs k = some d → ∃ v, valV vs k = some v ∧ Rep K G v d)
  | _, _, .nil => ⟨rfl, fun d e => by cases e⟩
  | p :: _, q :: _, .cons h t => by
    obtain ⟨h1, h2⟩ := h
    by_cases e : p.1 = k
    · have e' : q.1 = k := h1.symm.trans e
      have b : ∀ r, valD (q :: r) k = some q.2 := fun r => by simp [valD, List.find?_cons, e']
      rw [valV_pos e, b]
      exact ⟨rfl, fun d z => by cases z; exact ⟨_, rfl, h2⟩⟩
    · have e' : ¬ q.1 = k := fun z => e (h1.trans z)
      have b : ∀ r, valD (q :: r) k = valD r k := fun r => by simp [valD, List.find?_cons, e']
      rw [valV_neg e, b]
      exact DRep.val t
theorem DRep.any {k : Key} : ∀ {vs : List (Key × V)} {kvs : List (Key × Dat)}, DRep K G vs kvs → (vs.any fun kv => decide (kv.1 = k)) = kvs.any fun kv => decide (kv.1 = k)
  | _, _, .nil => rfl
  | _, _, .cons h t => by rw [List.any_cons, List.any_cons, DRep.any t, h.1]
theorem DRep.repl {k : Key} {v : V} {d : Dat} (r : Rep K G v d) : ∀ {vs : List (Key × V)} {kvs : List (Key × Dat)}, DRep K G vs kvs →
    DRep K G (vs.map fun kv => if kv.1 = k then (kv.1, v) else kv) (kvs.map fun kv => if kv.1 = k then (kv.1, d) else kv)
  | _, _, .nil => .nil
  | p :: _, q :: _, .cons h t => by
    rw [List.map_cons, List.map_cons]
    refine .cons ?_ (DRep.repl r t)
    obtain ⟨h1, h2⟩ := h
    by_cases e : p.1 = k
    · rw [if_pos e, if_pos (h1.symm.trans e)]; exact ⟨h1, r⟩
    · rw [if_neg e, if_neg (fun z => e (h1.trans z))]; exact ⟨h1, h2⟩
theorem DRep.snoc {k : Key} {v : V} {d : Dat} (r : Rep K G v d) : ∀ {vs : List (Key × V)} {kvs : List (Key × Dat)}, DRep K G vs kvs → DRep K G (vs ++ [(k, v)]) (kvs ++ [(k, d)])
  | _, _, .nil => .cons ⟨rfl, r⟩ .nil
  | _, _, .cons h t => .cons h (DRep.snoc r t)
theorem DRep.put {k : Key} {v : V} {d : Dat} (r : Rep K G v d) {vs : List (Key × V)} {kvs : List (Key × Dat)} (h : DRep K G vs kvs) : DRep K G (putK vs k v) (putD kvs k d) := by
  unfold putK putD
  rw [h.any]
  split
  · exact h.repl r
  · exact h.snoc r
theorem length_putD (kvs : List (Key × Dat)) (k : Key) (d : Dat) : (putD kvs k d).length ≤ kvs.length + 1 := by
  unfold putD
  split
  · rw [List.length_map]; omega
  · rw [List.length_append, List.length_cons, List.length_nil]; omega
theorem keyD_rep {v : V} {d : Dat} {k : Key} (e : keyD d = some k) (r : Rep K G v d) : v = kV k := by
  cases r <;> simp only [keyD] at e <;> cases e <;> rfl
theorem Hld.newD (h : Hld K T H G M) {p : Addr} (n : H p = none) :
    Hld K T (upd H p (.dK [])) G (dupd M p (.dct [])) ∧ Tr H G M (upd H p (.dK [])) G (dupd M p (.dct [])) := by
  obtain ⟨g, m⟩ := h.free n
  refine ⟨⟨fun a u e => sub_upd n a u (h.sub a u e), h.nt, fun a u e => ?_, fun a u e => ?_, h.tab.ext (sub_upd n)⟩, ⟨fun _ _ e => e, fun a u e q _ => ?_⟩⟩
  · by_cases hp : a = p
    · subst hp; rw [dupd_same] at e; cases e; exact ⟨[], upd_same, Nat.zero_le _, .nil⟩
    · rw [dupd_ne hp] at e; exact (h.mem a u e).mono (fun _ _ z => z) (upd_ne hp)
  · by_cases hp : a = p
    · subst hp; exact g
    · rw [dupd_ne hp] at e; exact h.off a u e
  · have hp : a ≠ p := ne_of_none e n
    rw [upd_ne hp, dupd_ne hp]; exact ⟨e, q, fun z => z⟩
theorem Hld.setD (h : Hld K T H G M) {p : Addr} {vs : List (Key × V)} {kvs es : List (Key × Dat)} (e0 : M p = some (.dct es)) (l : kvs.length ≤ sizeLine) (r : DRep K G vs kvs) :
    Hld K T (upd H p (.dK vs)) G (dupd M p (.dct kvs)) ∧ Tr H G M (upd H p (.dK vs)) G (dupd M p (.dct kvs)) := by
  have g := h.off p _ e0
  obtain ⟨ws, hp0, _⟩ := h.mem p _ e0
  refine ⟨⟨fun a u e => ?_, h.nt, fun a u e => ?_, fun a u e => ?_, fun q hq => ?_⟩, ⟨fun _ _ e => e, fun a u e q _ => ?_⟩⟩
  · have hp : a ≠ p := ne_of_none e g
    rw [upd_ne hp]; exact h.sub a u e
  · by_cases hp : a = p
    · subst hp; rw [dupd_same] at e; cases e; exact ⟨vs, upd_same, l, r⟩
    · rw [dupd_ne hp] at e; exact (h.mem a u e).mono (fun _ _ z => z) (upd_ne hp)
  · by_cases hp : a = p
    · subst hp; exact g
    · rw [dupd_ne hp] at e; exact h.off a u e
  · obtain ⟨ps, a1, a2, a3⟩ := h.tab q hq
    have n1 : q.1 ≠ p := fun z => by rw [z, hp0] at a1; cases a1
    refine ⟨ps, by rw [upd_ne n1]; exact a1, a2, fun pos cv hc => ?_⟩
    obtain ⟨c, e1, e2⟩ := a3 pos cv hc
    have n2 : c ≠ p := fun z => by rw [z, hp0] at e2; cases e2
    exact ⟨c, e1, by rw [upd_ne n2]; exact e2⟩
  · have hp : a ≠ p := fun z => by rw [z, e0] at q; cases q
    rw [upd_ne hp, dupd_ne hp]; exact ⟨e, q, fun z => z⟩
end
section
variable {X : Cx} {T : List (Addr × Str)} {W : WX} {da db dv : DTE} {a b : Expr} {pos : Pos}
theorem uR1 {k : Nat} {A : Around} (r : Room k A) : A.units + 1 < cLine := by have := r.un; omega
def dDicN : DTE := fun _ M Q _ => ∀ p, M p = none → Q (.ref p) (dupd M p (.dct []))
theorem de_dicN : DE X T W dDicN (.Dict [] [] pos) := PE.weak pe_dnewK fun σ H Q ⟨G, M, ρ, QD, ED, h, r, hd, kq, ke⟩ => by
  intro p hp
  obtain ⟨h2, t2⟩ := h.newD hp
  exact kq _ _ G _ _ t2 h2 (.ref p) (hd p (h.free hp).2)
/-- a[b] -/
def dDicG (da db : DTE) : DTE := fun ρ M Q E => da ρ M (fun x M1 => db ρ M1 (fun y M2 => ∃ p kvs k v, x = .ref p ∧ keyD y = some k ∧ M2 p = some (.dct kvs) ∧ valD kvs k = some v ∧ Q v M2) E) E
theorem de_dicG (hu : X.A.units + 1 < cLine) (ha : DE X T W da a) (hb : DE X T W db b) (hs : NoSl b := by exact fun _ _ => rfl) : DE X T W (dDicG da db) (.Subscript a b pos) := by
  refine PE.weak (pe_dget hu ha hb hs) fun σ H Q ⟨G, M, ρ, QD, ED, h, r, hd, kq, ke⟩ => ?_
  refine cE_mk h r _ ED hd (fun x H1 G1 M1 dx t1 h1 r1 q1 => ?_) ke
  refine cE_mk h1 (r.mono t1.g) _ ED q1 (fun y H2 G2 M2 dy t2 h2 r2 q2 => ?_) fun c dd H' G' M' t => ke c dd H' G' M' (t1.trans t)
  obtain ⟨p, kvs, k, v, rfl, ek, hm, hv, q⟩ := q2
  cases r1
  have ey := keyD_rep ek r2
  subst ey
  obtain ⟨vs, hp, hl, rl⟩ := h2.mem p _ hm
  obtain ⟨w, hw, rw_⟩ := (DRep.val rl).2 _ hv
  exact ⟨p, w, rfl, .inl ⟨vs, k, .inl hp, rfl, hw.symm⟩, kq _ H2 G2 M2 v (t1.trans t2) h2 rw_ q⟩
/-- a in b, a not in b -/
def dDicI (neg : Bool) (da db : DTE) : DTE := fun ρ M Q E => da ρ M (fun y M1 => db ρ M1 (fun x M2 => ∃ p kvs k, x = .ref p ∧ keyD y = some k ∧ M2 p = some (.dct kvs) ∧ Q (.bl (xor neg (valD kvs k).isSome)) M2) E) E
theorem dicI_imp (neg : Bool) {σ : St} {H : Hp} {Q : VK} (h : cE X.K T W (dDicI neg da db) σ H Q) : cE X.K T W da σ H fun y H1 => cE X.K T W db σ H1 fun x H2 => ∃ p o, x = .ref p ∧ DGet H2 p y o ∧ Q (.bl (xor neg o.isSome)) H2 := by
  obtain ⟨G, M, ρ, QD, ED, h, r, hd, kq, ke⟩ := h
  refine cE_mk h r _ ED hd (fun y H1 G1 M1 dy t1 h1 r1 q1 => ?_) ke
  refine cE_mk h1 (r.mono t1.g) _ ED q1 (fun x H2 G2 M2 dx t2 h2 r2 q2 => ?_) fun c dd H' G' M' t => ke c dd H' G' M' (t1.trans t)
  obtain ⟨p, kvs, k, rfl, ek, hm, q⟩ := q2
  cases r2
  have ey := keyD_rep ek r1
  subst ey
  obtain ⟨vs, hp, hl, rl⟩ := h2.mem p _ hm
  refine ⟨p, valV vs k, rfl, .inl ⟨vs, k, .inl hp, rfl, rfl⟩, kq _ H2 G2 M2 (.bl (xor neg (valD kvs k).isSome)) (t1.trans t2) h2 ?_ q⟩
  rw [(DRep.val rl).1]
  exact .bl _
theorem de_dicI (hu : X.A.units + 1 < cLine) (ha : DE X T W da a) (hb : DE X T W db b) (h1 : behindInMarks .In b = false := by first | exact nobehind _ (by decide) (by decide) | rfl) : DE X T W (dDicI false da db) (.Compare a [.In] [b] pos) :=
  PE.weak (pe_cmp (pc_din hu ha hb) h1) fun σ H Q h => by
    have := dicI_imp false h
    simpa only [tDIn, Bool.false_xor] using this
theorem de_dicNI (hu : X.A.units + 1 < cLine) (ha : DE X T W da a) (hb : DE X T W db b) (h1 : behindInMarks .NotIn b = false := by first | exact nobehind _ (by decide) (by decide) | rfl) : DE X T W (dDicI true da db) (.Compare a [.NotIn] [b] pos) :=
  PE.weak (pe_cmp (pc_dnotin hu ha hb) h1) fun σ H Q h => by
    have := dicI_imp true h
    simpa only [tDNotIn, Bool.true_xor] using this
theorem dt_dicI (hu : X.A.units + 1 < cLine) (ha : DE X T W da a) (hb : DE X T W db b) (h1 : behindInMarks .In b = false := by first | exact nobehind _ (by decide) (by decide) | rfl) : DT X T W (dTest (dDicI false da db)) (.Compare a [.In] [b] pos) :=
  PT.weak (pt_cmp (pc_din hu ha hb) h1) fun σ H Q h => by
    have h' : tTest (cE X.K T W (dDicI false da db)) σ H Q := test_imp (fun _ _ _ z => z) h
    have := dicI_imp false h'
    simpa only [tB, tDIn, Bool.false_xor] using this
theorem dt_dicNI (hu : X.A.units + 1 < cLine) (ha : DE X T W da a) (hb : DE X T W db b) (h1 : behindInMarks .NotIn b = false := by first | exact nobehind _ (by decide) (by decide) | rfl) : DT X T W (dTest (dDicI true da db)) (.Compare a [.NotIn] [b] pos) :=
  PT.weak (pt_cmp (pc_dnotin hu ha hb) h1) fun σ H Q h => by
    have h' : tTest (cE X.K T W (dDicI true da db)) σ H Q := test_imp (fun _ _ _ z => z) h
    have := dicI_imp true h'
    simpa only [tB, tDNotIn, Bool.true_xor] using this
/-- a[b] = e -/
def dDicS (do_ di de : DTE) : DTS := fun D ρ M => de ρ M (fun x M1 => do_ ρ M1 (fun o M2 => di ρ M2 (fun i M3 => ∃ p kvs k, o = .ref p ∧ keyD i = some k ∧ M3 p = some (.dct kvs) ∧ kvs.length < sizeLine ∧ D.nx ρ (dupd M3 p (.dct (putD kvs k x)))) (fun c M3 => D.ex c ρ M3)) (fun c M2 => D.ex c ρ M2)) (fun c M1 => D.ex c ρ M1)
theorem ds_dicS {o i e : Expr} {do_ di de : DTE} {pos p2 : Pos} (hu : X.A.units + 1 < cLine) (ho : DE X T W do_ o) (hi : DE X T W di i) (he : DE X T W de e) (hs : swapsWith e (some (.Subscript o i p2)) pos.line X.env = pure false := by rfl) : DS X T W (dDicS do_ di de) (.Assign [.Subscript o i p2] e pos) := by
  refine PS.weak (ps_dput hu ho hi he hs) fun D σ H ⟨G, M, ρ, DD, hh, r, hd, k1, k2, k3, k4, k5⟩ => ?_
  refine cE_mk hh r _ _ hd (fun x H1 G1 M1 dx t1 h1 r1 q1 => ?_) fun c dd H' G' M' t h' q => k5 c dd σ H' G' M' ρ t h' (r.mono t.g) q
  refine cE_mk h1 (r.mono t1.g) _ _ q1 (fun y H2 G2 M2 dy t2 h2 r2 q2 => ?_) fun c dd H' G' M' t h' q => k5 c dd σ H' G' M' ρ (t1.trans t) h' (r.mono (t1.trans t).g) q
  have t12 := t1.trans t2
  refine cE_mk h2 (r.mono t12.g) _ _ q2 (fun z H3 G3 M3 dz t3 h3 r3 q3 => ?_) fun c dd H' G' M' t h' q => k5 c dd σ H' G' M' ρ (t12.trans t) h' (r.mono (t12.trans t).g) q
  obtain ⟨p, kvs, k, rfl, ek, e3, hl, q3⟩ := q3
  cases r2
  have ey := keyD_rep ek r3
  subst ey
  obtain ⟨vs, a3, l3, rr⟩ := h3.mem p _ e3
  have t23 : Sub G1 G3 := fun a o z => t3.g a o (t2.g a o z)
  obtain ⟨h4, t4⟩ := h3.setD e3 (kvs := putD kvs k dx) (vs := putK vs k x) (Nat.le_trans (length_putD ..) hl) (DRep.put (r1.mono t23) rr)
  have t14 := t12.trans (t3.trans t4)
  exact ⟨p, _, rfl, .inl ⟨vs, k, a3, rfl, by rw [DRep.len rr]; exact hl, rfl⟩, k1 σ _ G3 _ ρ t14 h4 (r.mono t14.g) q3⟩
end
end DL

end
section
set_option Elab.async false
set_option linter.all false
set_option maxRecDepth 100000
set_option maxHeartbeats 4000000
/-! DL, part 27: the list of a text's signs; a list's pairs, sorted without doubles. -/
namespace DLT
open PySem PySem.Spec PyProof.Rows L2
section
variable {prog : Program} {w : World} {A : Around} {E : Value → Shared → Prop} {s : Shared}
theorem hint_str {x : Str} {t : Tok} {Q : Bool → Shared → Prop} (h : Q false s) : wpAny (model prog w) A (Builtin.List.listLengthHint (.str x t)) Q E s := by
  have hT : s.TypeIs (.str x t) "str" := typeIs_str s x t
  unfold Builtin.List.listLengthHint
  refine wpAny_bind (wpAny_specialOf hT PySem.F.slot_str_len.lookup ?_)
  generalize hid : ("str.__len__" : String) = id0
  wp_delta
  rw [show splitId id0 = some ("str", "__len__") from by subst hid; decide +kernel]
  subst hid
  refine wpAny_bind (wpAny_isInstance (T := "str") (b := true) hT (by rw [isSubtype_type]; kernel_rfl) ?_)
  refine wpAny_ite_split (fun hab => absurd hab (by decide)) (fun _ => ?_)
  refine wpAny_ite_split (fun _ => ?_) (fun hab => absurd (by decide +kernel) hab)
  refine wpAny_bind (wpAny_typeOf hT ?_)
  exact wpAny_pure h
theorem walksS (hh : A.handled = none) (I : Addr) (x : Str) (t : Tok) : Walks prog w A I [I] [I] x.cps.size (SignAt x) (fun i h => h.IsStrIter I (strIterType x) x t i) := by
  cases ha : x.cps.all (· < 128)
  · simp only [strIterType, ha, Bool.false_eq_true, if_false]
    exact .strWide hh I x t
  · simp only [strIterType, ha, if_true]
    exact .strAscii hh I x t
theorem extend_str {R : Result → Shared → Prop} (hh : A.handled = none) (x : Str) (t : Tok) (S : Addr) (res : Value) (c₀ : Nat) (hS : s.heap.get? S = some { cls := .type "list", data := .seq #[] c₀ })
    (hR : ∀ h' tk acc' c', (∀ b o, b ≠ S → s.heap.get? b = some o → h'.get? b = some o) → h'.get? S = some { cls := .type "list", dict := none, data := .seq acc' c', slots := #[] } →
      ItemsOf (SignAt x) acc' x.cps.size → R (.ok (.ret res)) { s with heap := h', toks := tk }) (hn : x.cps.size ≤ sizeLine) :
    wpAny (model prog w) A.in1 (Builtin.List.listExtendWith (.ref S) (.str x t) res)
      (fun fin s' => match fin with | .done f => R (.ok f) s' | .again c' => c'.quiet = true ∧ codeAny (model prog w) A c' R s') (fun e s' => R (.error e) s') s := by
  have hSI : S ≠ s.heap.objs.size := Nat.ne_of_lt (Heap.lt_size hS)
  have hSf : S ∉ [s.heap.objs.size] := fun hm => hSI (List.mem_singleton.mp hm)
  unfold Builtin.List.listExtendWith
  refine wpAny_bind (wpAny_typeOf (T := "str") (v := .str x t) (typeIs_str s x t) ?_)
  have h1 : Builtin.List.listSameRef (.ref S) (.str x t) = false := rfl
  have h2 : (Value.type "str" == Value.type "list") = false := by decide
  have h3 : (Value.type "str" == Value.type "tuple") = false := by decide
  simp only [h1, h2, h3, Bool.or_false, Bool.false_eq_true, if_false]
  refine wpAny_bind (wpAny_pyIter_strU ?_)
  refine wpAny_bind (wpAny_holding (hint_str ?_))
  rw [if_neg (by first | decide | decide +kernel)]
  have W := walksS (prog := prog) (w := w) (A := A.in1) hh s.heap.objs.size x t
  have hst : (s.heap.push { cls := .type (strIterType x), data := .fields #[.str x t, .int 0 0] }).IsStrIter s.heap.objs.size (strIterType x) x t 0 := ⟨_, Heap.get?_push_size _ rfl, rfl, rfl⟩
  refine wpAny_pure ⟨plainId_quiet PySem.F.plain_extend_loop _, codeAny_extend_loopS W.toS hn _ hSf _ x.cps.size 0 _ _ _ rfl (Nat.zero_le _) hst (Heap.get?_push_of_some _ hS) (ItemsOf.nil _) fun s' acc' c' hm hS' hacc => ?_⟩
  rw [Moved.eq_with hm]
  refine hR s'.heap s'.toks acc' c' (fun b ob hb e => hm.heap b ob (fun hmem => ?_) (Heap.get?_push_of_some _ e)) hS' hacc
  rcases List.mem_cons.mp hmem with e' | hmem
  · exact hb e'
  · exact absurd (Heap.lt_size e) (by rw [List.mem_singleton.mp hmem]; exact Nat.lt_irrefl _)
theorem list_init_str {R : Result → Shared → Prop} (hh : A.handled = none) (x : Str) (t : Tok) (S : Addr) (hS : s.heap.get? S = some { cls := .type "list", data := .seq #[] })
    (hR : ∀ h' tk acc' c', (∀ b o, b ≠ S → s.heap.get? b = some o → h'.get? b = some o) → h'.get? S = some { cls := .type "list", dict := none, data := .seq acc' c', slots := #[] } →
      ItemsOf (SignAt x) acc' x.cps.size → R (.ok (.ret .none)) { s with heap := h', toks := tk }) (hn : x.cps.size ≤ sizeLine) :
    wpAny (model prog w) A.in1 (Builtin.«list.__init__» ⟨[.ref S, .str x t], []⟩)
      (fun fin s' => match fin with | .done f => R (.ok f) s' | .again c' => c'.quiet = true ∧ codeAny (model prog w) A c' R s') (fun e s' => R (.error e) s') s := by
  show wpAny _ _ (do let old ← Builtin.List.listItems (.ref S); Builtin.List.listUpdate (.ref S) (fun _ => #[]); letGo old.toList.reverse; Builtin.List.listExtendWith (.ref S) (.str x t) .none) _ _ s
  refine wpAny_bind ?_
  unfold Builtin.List.listItems
  refine wpAny_bind (wpAny_seqItems hS rfl (wpAny_pure ?_))
  show wpAny _ _ (updateSeq S (fun _ => #[]) >>= fun _ => letGo (#[] : Array Value).toList.reverse >>= fun _ => Builtin.List.listExtendWith (.ref S) (.str x t) .none) _ _ s
  refine wpAny_bind (wpAny_updateSeq hS rfl ?_)
  have hS₂ := Heap.get?_update_self (Obj.mapSeq (fun _ => (#[] : Array Value))) hS rfl
  have oth : ∀ b o, b ≠ S → s.heap.get? b = some o → (s.heap.update S (Obj.mapSeq (fun _ => (#[] : Array Value)))).get? b = some o :=
    fun b o hb e => (Heap.get?_update_other _ _ (Ne.symm hb)).trans e
  refine wpAny_bind (wpAny_letGo ?_)
  refine extend_str hh x t S .none _ hS₂ (fun h' tk acc' c' hk hS' hacc => ?_) hn
  exact hR h' tk acc' c' (fun b o hb e => hk b o hb (oth b o hb e)) hS' hacc
theorem call_list_str {x : Str} {t : Tok} {Q : Value → Shared → Prop} (hh : A.handled = none) (hn : x.cps.size ≤ sizeLine)
    (hQ : ∀ h' tk acc' c', (∀ b o, s.heap.get? b = some o → h'.get? b = some o) →
      h'.get? s.heap.objs.size = some { cls := .type "list", dict := none, data := .seq acc' c', slots := #[] } → ItemsOf (SignAt x) acc' x.cps.size → Q (.ref s.heap.objs.size) { s with heap := h', toks := tk }) :
    wpAny (model prog w) A (call (.type "list") [.str x t]) Q E s := by
  refine callType_codes (Q₁ := fun obj s₁ => obj = .ref s.heap.objs.size ∧ s₁ = { s with heap := s.heap.push { cls := .type "list", data := .seq #[] } }) PySem.F.called_list (PySem.F.typeCall_list_1 _) PySem.F.entry_list_init
    (code_list_new _ ⟨rfl, rfl⟩) fun obj s₁ h₁ => ?_
  obtain ⟨rfl, rfl⟩ := h₁
  have hS : (s.heap.push { cls := .type "list", data := .seq #[] }).get? s.heap.objs.size = some { cls := .type "list", data := .seq #[] } := Heap.get?_push_size _ rfl
  refine ⟨⟨_, hS, rfl⟩, PySem.F.args_list_init_2 _ _, list_init_str (A := A.in1) hh x t _ hS (fun h' tk acc' c' hk hS' hacc => ?_) hn⟩
  exact ⟨rfl, hQ h' tk acc' c' (fun b o e => hk b o (Nat.ne_of_lt (Heap.lt_size e)) (Heap.get?_push_of_some _ e)) hS' hacc⟩
end
end DLT
namespace DL
open PySem PySem.Spec PyProof.Rows L2
def sgnL (x : Str) : List Str := x.cps.toList.map fun c => ⟨#[c]⟩
theorem RepL.strs {K : PySem.W.Frag} {G : Hp} : ∀ ns : List Str, RepL K G (ns.map V.str) (ns.map Dat.str)
  | [] => .nil
  | n :: ns => .cons (.str n) (RepL.strs ns)
def oListS : List Dat → Option Dat
  | [.lst xs] => some (.lst xs)
  | [.tup xs] => some (.lst xs)
  | [.str x] => if x.cps.size ≤ sizeLine then some (.lst ((sgnL x).map .str)) else none
  | _ => none
section
variable {X : Cx} {T : List (Addr × Str)} {W : WX}
theorem cd_listS (hc : X.calm = true) : CD X T (.type "list") oListS := by
  refine cd_of fun pins s σ H xs us Q G M ds z I rx hh r e kq => ?_
  unfold oListS at e
  split at e
  · exact cd_list pins s σ H xs us Q I rx ⟨G, M, _, z, hh, r, e, kq⟩
  · exact cd_list pins s σ H xs us Q I rx ⟨G, M, _, z, hh, r, e, kq⟩
  · rename_i x
    split at e
    · rename_i hz
      cases e
      obtain ⟨v, rfl, rv⟩ := one_case r
      cases rv
      obtain ⟨u, rfl, ru⟩ := vals1 rx
      obtain ⟨t, rfl⟩ := ru
      refine DLT.call_list_str (I.ok.hd hc) hz fun h' tk acc c' hk e hi => ?_
      have hn : H s.heap.objs.size = none := I.hok.fresh (Nat.le_refl _)
      have hl : ((sgnL x).map Dat.str).length ≤ sizeLine := by simpa [sgnL] using hz
      obtain ⟨G', t2, h2, r3⟩ := hh.newL hn hl (RepL.strs (sgnL x))
      refine ⟨.ref s.heap.objs.size, upd H s.heap.objs.size (.lst ((sgnL x).map V.str)), I.laid hk (Nat.le_refl _) ⟨by simpa [sgnL] using hz, acc.toList, c', ?_, by rw [Array.toArray_toList]; exact e⟩, rfl, kq _ _ G' t2 h2 r3⟩
      refine vals_of_idx _ _ (by simp [sgnL, hi.1]) fun j u hj => ?_
      obtain ⟨c, t', hc, rfl⟩ := hi.2 j u (by rw [← Array.getElem?_toList]; exact hj)
      exact ⟨.str ⟨#[c]⟩, by simp [sgnL, hc], ⟨_, rfl⟩⟩
    · cases e
  · cases e
def oSortSetL : List Dat → Option Dat
  | [.lst xs] => (dprs xs).bind fun ps => if ps.all okP ∧ ps.length < 64 then some (.lst ((sortP ps).map dpr)) else none
  | _ => none
theorem de_sortSetL {e : Expr} {da : DTE} {p1 p2 p3 p4 : Pos} (hc : X.calm = true) (hu : X.A.units + 64 < cLine) (hm : X.mg "sorted" = none) (hm2 : X.mg "set" = none) (ha : DE X T W da e) (hg : Gl X "sorted" := by rfl) (hg2 : Gl X "set" := by rfl)
    (hs : starEach [e] X.env = (false, eval e X.env) :: starEach [] X.env := by rfl) (hs2 : starEach [.Call (.Name "set" p1) [e] [] p2] X.env = (false, eval (.Call (.Name "set" p1) [e] [] p2) X.env) :: starEach [] X.env := by rfl)
    (hpl : (backTo p2 (starEach [] X.env)).any (·.1) = false := by rfl) (hpl2 : (backTo p4 (starEach [] X.env)).any (·.1) = false := by rfl) :
    DE X T W (dCB oSortSetL (dCons da dNil)) (.Call (.Name "sorted" p3) [.Call (.Name "set" p1) [e] [] p2] [] p4) := by
  refine ⟨fun pins s σ H Q I ⟨G, M, ρ, QD, ED, hh, r, hd, kq, ke⟩ => ?_⟩
  refine wpAny_Call_Name_kw (ld_blt I hg hm (show bootBuiltins "sorted" = some (.builtin "sorted") by decide +kernel) ?_ (by decide) (by decide))
  refine PyProof.Rows.callWith_builtin1 ?_ hs2 hpl2
  have hset : PE X (.Call (.Name "set" p1) [e] [] p2) fun σ' H' Q' => σ' = σ ∧ H' = H ∧ ∀ a L (ks : List (Addr × List Int)) (ps : List II) H1 G1 M1, Tr H G M H1 G1 M1 → Hld X.K T H1 G1 M1 → H1 a = none → ks.map (·.2) = ps.map (fun p => [p.1, p.2]) → (∀ k ∈ ks, Rd G1 k.1 (.tup (k.2.map V.int))) →
      ps.all okP = true → (∀ p ∈ L, p ∈ ks) → (∀ p ∈ ks, p.2 ∈ L.map (·.2)) → QD (.lst ((sortP ps).map dpr)) M1 → Q' (.ref a) (upd H1 a (SetTO X.prog X.w a L)) := by
    refine ⟨fun pins2 s2 σ2 H2 Q2 I2 ⟨e1, e2, q⟩ => ?_⟩
    subst e1 e2
    refine wpAny_Call_Name_kw (ld_blt I2 hg2 hm2 PyProof.Rows.boot_set ?_ (by decide) (by decide))
    refine PyProof.Rows.callWith_type1 (thn ((da_cons ha da_nil hs).run p2 pins2 s2 σ2 H2 (fun vs H1 => ∃ G1 M1 xs, Tr H2 G M H1 G1 M1 ∧ Hld X.K T H1 G1 M1 ∧ RepL X.K G1 vs xs ∧ (R.of (oSortSetL xs)).wp (fun z => QD z M1) fun c => ED c M1) I2
      (cA_mk hh r _ ED hd (fun vs H' G' M' xs t h' r' q' => ⟨G', M', xs, t, h', r', q'⟩) ke)) fun us s1 ⟨vs, H1, I1, r1, G1, M1, xs, t1, h1, rx, qx⟩ => ?_) hs hpl
    cases eo : oSortSetL xs with
    | none => rw [eo] at qx; exact qx.elim
    | some z =>
      rw [eo] at qx
      unfold oSortSetL at eo
      split at eo
      · rename_i ys
        obtain ⟨ps, ep, eo⟩ := Option.bind_eq_some_iff.mp eo
        split at eo
        · rename_i hps
          cases eo
          obtain ⟨v, rfl, rv⟩ := one_case rx
          have ey := dprs_some ep
          subst ey
          cases rv with
          | lst hA hl rl =>
            obtain ⟨ks, k1, k2, k3⟩ := rows_at rl
            subst k1
            have hlen : ks.length = ps.length := by simpa using congrArg List.length k2
            exact cr_setOfT hc hu pins2 s1 σ2 H1 _ us _ I1 r1 ⟨_, ks, rfl, sqL_mono h1.sub hA, fun p hp => sqT_mono h1.sub (k3 p hp), by omega, fun a L ha1 s1 s2 => q a L ks ps H1 G1 M1 t1 h1 ha1 k2 k3 hps.1 s1 s2 qx⟩
        · cases eo
      · cases eo
  refine thn ((pa_cons hset pa_nil hs2).run p4 pins s σ H (fun vs H' => ∃ a L, vs = [V.ref a] ∧ ∃ (ks : List (Addr × List Int)) (ps : List II) (H1 G1 : Hp) (M1 : DM), Tr H G M H1 G1 M1 ∧ Hld X.K T H1 G1 M1 ∧ H1 a = none ∧ ks.map (·.2) = ps.map (fun p => [p.1, p.2]) ∧
      (∀ k ∈ ks, Rd G1 k.1 (.tup (k.2.map V.int))) ∧ ps.all okP = true ∧ (∀ p ∈ L, p ∈ ks) ∧ (∀ p ∈ ks, p.2 ∈ L.map (·.2)) ∧ QD (.lst ((sortP ps).map dpr)) M1 ∧ H' = upd H1 a (SetTO X.prog X.w a L)) I
    ⟨rfl, rfl, fun a L ks ps H1 G1 M1 t1 h1 h2 h3 h4 h5 h6 h7 h8 => ⟨a, L, rfl, ks, ps, H1, G1, M1, t1, h1, h2, h3, h4, h5, h6, h7, h8, rfl⟩⟩) fun us s1 ⟨vs, H', I1, r1, a, L, ev, ks, ps, H1, G1, M1, t1, h1, n1, k2, k3, hps, sub, all, qd, eH⟩ => ?_
  subst ev eH
  obtain ⟨h2, t2⟩ := h1.junk (o := SetTO X.prog X.w a L) n1
  have okL : ∀ p ∈ L, ∃ u ∈ ps, p.2 = [u.1, u.2] := fun p hp => by
    have : p.2 ∈ ps.map (fun p => [p.1, p.2]) := by rw [← k2]; exact List.mem_map_of_mem (sub p hp)
    obtain ⟨u, hu, e⟩ := List.mem_map.mp this
    exact ⟨u, hu, e.symm⟩
  have okps : ∀ u ∈ ps, okP u = true := fun u hu => List.all_eq_true.mp hps u hu
  refine cr_sortedT hc pins s1 σ _ _ us Q I1 r1 ⟨a, L, 2, 64, rfl, upd_same, fun p hp => sqT_mono h2.sub (k3 p (sub p hp)), by decide, fun p hp => ?_, fun L' p pm nd few pw np => ?_⟩
  · obtain ⟨u, hu, e⟩ := okL p hp
    have o := okps u hu
    simp only [okP, Bool.and_eq_true, decide_eq_true_eq] at o
    rw [e]
    refine ⟨rfl, ?_⟩
    intro x hx
    rcases List.mem_cons.mp hx with e | hx
    · rw [e]; omega
    · rw [List.mem_singleton.mp hx]; omega
  · -- the list as pairs
    have okL' : ∀ q ∈ L', ∃ u ∈ ps, q.2 = [u.1, u.2] := fun q hq => okL q (pm.mem_iff.mp hq)
    obtain ⟨us', hus⟩ : ∃ us' : List II, L'.map (·.2) = us'.map (fun p => [p.1, p.2]) ∧ ∀ u ∈ us', u ∈ ps := by
      clear pm nd few pw
      induction L' with
      | nil => exact ⟨[], rfl, fun u hu => by cases hu⟩
      | cons q L' ih =>
        obtain ⟨us', e, m⟩ := ih fun q hq => okL' q (List.mem_cons_of_mem _ hq)
        obtain ⟨u, hu, e2⟩ := okL' q List.mem_cons_self
        refine ⟨u :: us', by rw [List.map_cons, List.map_cons, e, e2], fun v hv => ?_⟩
        rcases List.mem_cons.mp hv with e | e
        · rw [e]; exact hu
        · exact m v e
    obtain ⟨hus, hmem⟩ := hus
    have pw1 : (L'.map (·.2)).Pairwise fun x y => TS.code 64 x ≤ TS.code 64 y := by rw [List.pairwise_map]; exact pw
    rw [hus, List.pairwise_map] at pw1
    have nd1 : us'.Nodup := by
      rw [hus] at nd
      exact nodup_of_map nd
    have pw2 : us'.Pairwise fun p q => cod p < cod q := by
      have both := pw1.and nd1
      refine both.imp_of_mem fun {x y} hx hy ⟨h1, h2⟩ => ?_
      rw [cod_code, cod_code] at h1
      have : cod x ≠ cod y := fun e => h2 (cod_inj (okps x (hmem x hx)) (okps y (hmem y hy)) e)
      omega
    have same : us' = sortP ps := sorted_uniq pw2 (sortP_sorted okps) fun u => by
      rw [mem_sortP]
      refine ⟨hmem u, fun hu => ?_⟩
      have m1 : [u.1, u.2] ∈ ks.map (·.2) := by rw [k2]; exact List.mem_map.mpr ⟨u, hu, rfl⟩
      obtain ⟨k, hk, ek⟩ := List.mem_map.mp m1
      have m2 := all k hk
      rw [ek] at m2
      have m3 : [u.1, u.2] ∈ L'.map (·.2) := (pm.map (·.2)).mem_iff.mpr m2
      rw [hus] at m3
      obtain ⟨v, hv, e⟩ := List.mem_map.mp m3
      have : v = u := by
        injection e with e1 e2
        injection e2 with e2 _
        exact Prod.ext e1 e2
      rw [← this]; exact hv
    have hl' : ((sortP ps).map dpr).length ≤ sizeLine := by
      rw [← same, List.length_map]
      have : us'.length = L'.length := by simpa using (congrArg List.length hus).symm
      rw [this, sizeLine_eq]; omega
    rw [same] at hus
    obtain ⟨G', t3, h3, r3⟩ := h2.newL np hl' (rows_rep hus fun k hk => k3 k (sub k (pm.mem_iff.mp hk)))
    exact kq _ _ G' M1 _ (t1.trans (t2.trans t3)) h3 r3 qd
theorem dp_sortSetL {e : Expr} {fa : FE} {p1 p2 p3 p4 : Pos} (hc : X.calm = true) (hu : X.A.units + 64 < cLine) (hm : X.mg "sorted" = none) (hm2 : X.mg "set" = none) (ha : DE X T W (pur fa) e) (hg : Gl X "sorted" := by rfl) (hg2 : Gl X "set" := by rfl)
    (hs : starEach [e] X.env = (false, eval e X.env) :: starEach [] X.env := by rfl) (hs2 : starEach [.Call (.Name "set" p1) [e] [] p2] X.env = (false, eval (.Call (.Name "set" p1) [e] [] p2) X.env) :: starEach [] X.env := by rfl)
    (hpl : (backTo p2 (starEach [] X.env)).any (·.1) = false := by rfl) (hpl2 : (backTo p4 (starEach [] X.env)).any (·.1) = false := by rfl) :
    DE X T W (pur (fCB oSortSetL (fCons fa fNil))) (.Call (.Name "sorted" p3) [.Call (.Name "set" p1) [e] [] p2] [] p4) := by
  rw [← dCB_pur, ← dCons_pur, ← dNil_pur]; exact de_sortSetL hc hu hm hm2 ha hg hg2 hs hs2 hpl hpl2
end
end DL

end
section
set_option Elab.async false
set_option linter.all false
set_option maxRecDepth 100000
set_option maxHeartbeats 4000000
/-! DL, part 28: a comprehension whose element may raise. -/
namespace DLX
open PySem PySem.Spec PyProof.Rows L2
section
variable {M : Model} {A : Around} {E : Value → Shared → Prop} {s : Shared} {Z : Obj → Prop} {base : Heap} {env ce : Env} {outer l : List Env} {L C e : Addr}
theorem looks_flZ {fl : Value} {Q : Unit → Shared → Prop} (hZ : PXN.Steady1 Z) (hfr : A.frames = some (env :: outer)) (hf : env.frame = some L) (hfl : base.StaysIn s.heap ∧ base.get? e = none ∧ s.heap.FunFrames base (env :: outer) ∧ HandSPX.TracedZ s.heap base e Z fl) (hn : (fl == rawInt L) = false)
    (hQ : ∀ h', HandSPX.HeldZ base (env :: outer) e Z L h' → s.heap.UpToSlots h' → Q () { s with heap := h' }) : wpAny M A (noteFrame (.ref e) env) Q E s := by
  obtain ⟨hkb, hen, hl, oe, vs, T, oT, ts, he, hz, hd, h1, hnT, hTe, hT, hdT, h3⟩ := hfl
  unfold noteFrame
  simp only [hf]
  refine wpAny_bind (wpAny_field he hd h1 ?_)
  rw [if_pos (show (Value.ref T != Value.none) = true from by simp)]
  refine wpAny_bind (wpAny_field hT hdT h3 ?_)
  rw [if_neg (show ¬ ((fl == rawInt L) = true) from by simp [hn])]
  refine wpAny_bind (wpAny_setField hT hdT (Array.getElem?_eq_some_iff.mp h3).1 ?_)
  have other : ∀ b, b ≠ T → (s.heap.update T (Obj.mapFields (·.setIfInBounds 3 Value.none))).get? b = s.heap.get? b := fun b hb => Heap.get?_update_other _ _ (Ne.symm hb)
  have noRecord : ∀ b o, s.heap.get? b = some o → (∀ vs, o.data ≠ .fields vs) → b ≠ T := fun b o hb hnf q => by
    rw [q, hT] at hb; injection hb with hb; subst hb; exact hnf ts hdT
  refine PXN.wpAny_entryZ hZ hfr (hl.of_keeps fun b o hb hnf => ⟨o, (other b (noRecord b o hb hnf)).trans hb, rfl⟩) hf ((other e (Ne.symm hTe)).trans he)
    (fun b o hbo => (other b fun q => by rw [q, hnT] at hbo; cases hbo).trans (hkb b o hbo)) hen hd (Array.getElem?_eq_some_iff.mp h1).1 hz fun h' hN => ?_
  obtain ⟨x1, x2, x3, x4⟩ := hN
  exact hQ h' ⟨x1, hen, x2, x3⟩ fun b o hb hnf => x4 b o ((other b (noRecord b o hb hnf)).trans hb) hnf
theorem sky_note {a : Addr} {Q : Unit → Shared → Prop} (hZ : PXN.Steady1 Z) (hfr : A.frames = some (env :: outer)) (hcf : ce.frame = env.frame) (hf : env.frame = some L) (hne : C ≠ L) (x : L2.Sky base (env :: outer) a Z C s.heap)
    (hQ : ∀ h', HandSPX.HeldZ base (env :: outer) a Z L h' → s.heap.UpToSlots h' → Q () { s with heap := h' }) : wpAny M A (noteFrame (.ref a) ce) Q E s := by
  rw [noteFrame_env _ hcf]
  rcases x with ⟨hB, hn, hl, oe, vs, he, hz, hd, h1⟩ | ⟨f1, f2, f3, f4⟩ | ⟨f1, f2, f3, f4⟩
  · exact PXN.look_newZ hZ hfr hl hf he hB hn hd h1 hz hQ
  · exact looks_flZ hZ hfr hf ⟨f1, f2, f3, f4⟩ (by simp [rawInt]) hQ
  · refine looks_flZ hZ hfr hf ⟨f1, f2, f3, f4⟩ ?_ hQ
    have : (C : Int) ≠ (L : Int) := fun z => hne (by exact_mod_cast z)
    simp [rawInt]
    omega
theorem funFrames_base {h B B2 : Heap} (k : ∀ b, B.get? b = none → B2.get? b = none) : ∀ {l : List Env}, h.FunFrames B l → h.FunFrames B2 l
  | [], _ => trivial
  | _ :: _, ⟨hk, ⟨L', o, hf, hb, r⟩, hr⟩ => ⟨hk, ⟨L', o, hf, k _ hb, r⟩, funFrames_base k hr⟩
end
/-- what the element's context wishes of an exception -/
abbrev xeC (X : Cx) (ce : Env) : Value → Shared → Prop := notedBy (model X.prog X.w) X.A ce (CompFails (model X.prog X.w) X.A X.xe ce)
theorem takes_blk {X : Cx} {W : L2.WX} {pins : List (Addr × Obj)} {σ : L2.St} {H3 : Hp} {s3 : Shared} {scope : Scope} {ce : Env} {fp : List Addr} (tk : L2N.Takes X W) (hs : X.stack = X.env :: X.outer) (hf : X.env.frame = some X.env.locals)
    (I3 : Inv X pins σ H3 s3) (f3 : ∀ b ∈ fp, FpOk X pins H3 b) (cL : ce.locals = s3.heap.objs.size) (cF : ce.frame = X.env.frame) :
    L2N.Takes ((X.blk s3 H3 scope ce fp).wish (xeC X ce)) (fun c d _ H => W c d σ H) := by
  intro u s' ⟨a, B, sI, pins', σ', H', cls, d, e, I', nb, up, sky, na, os, ag, w⟩
  subst e
  have hfr : X.A.frames = some (X.env :: X.outer) := by rw [← hs]; exact I3.ok.frames
  have sky' : L2.Sky B (X.env :: X.outer) a (L2N.Zn cls d) ce.locals s'.heap := by rw [← hs]; exact sky
  have hne : ce.locals ≠ X.env.locals := by rw [cL]; exact Nat.ne_of_gt I3.lt
  show wpAny _ _ (noteFrame (.ref a) ce) _ _ s'
  refine sky_note L2N.Zn.steady hfr cF hf hne sky' fun h1 held up1 => ?_
  obtain ⟨m, hn, _⟩ := I'.loc
  have hn : sI.heap.Ns ce.locals m := hn
  have hn1 : h1.Ns ce.locals m := (hn.upToSlots up).upToSlots up1
  refine ⟨m, hn1, fun h2 m2 hn2 hs2 => ?_⟩
  obtain ⟨g1, g2, g3, oe, vs, T, oT, ts, he, hz, hd, hv1, hnT, hTe, hT, hdT, hv3⟩ := held
  have notC : ∀ {b : Addr} {o : Obj} {ws : Array Value}, h1.get? b = some o → o.data = .fields ws → b ≠ ce.locals := fun {b o ws} hb hdb z => by
    obtain ⟨o', es, ep, ho, hd', _⟩ := hn1
    rw [z, ho] at hb
    cases hb
    rw [hd'] at hdb; cases hdb
  have ea := notC he hd
  have eT := notC hT hdT
  have he2 : h2.get? a = some oe := (hs2.2 a ea).trans he
  have hT2 : h2.get? T = some oT := (hs2.2 T eT).trans hT
  have hB2 : ∀ b o, (PySem.W.hideAll B [ce.locals]).get? b = some o → B.get? b = some o ∧ b ≠ ce.locals := fun b o e => ⟨PySem.W.of_hideAll _ e, fun z => by
    rw [z, PySem.W.hideAll_none _ (List.mem_singleton.mpr rfl)] at e; cases e⟩
  have nB2 : ∀ b, B.get? b = none → (PySem.W.hideAll B [ce.locals]).get? b = none := fun b q => by
    cases z : (PySem.W.hideAll B [ce.locals]).get? b with
    | none => rfl
    | some o => rw [(hB2 b o z).1] at q; cases q
  have st2 : (PySem.W.hideAll B [ce.locals]).StaysIn h2 := fun b o e => (hs2.2 b (hB2 b o e).2).trans (g1 b o (hB2 b o e).1)
  have ff2 : h2.FunFrames (PySem.W.hideAll B [ce.locals]) (X.env :: X.outer) := funFrames_base nB2 (Heap.FunFrames.sameBut hs2 hn2 g3)
  have tr2 : HandSPX.TracedZ h2 (PySem.W.hideAll B [ce.locals]) a (L2N.Zn cls d) (rawInt X.env.locals) := ⟨oe, vs, T, oT, ts, he2, hz, hd, hv1, nB2 _ hnT, hTe, hT2, hdT, hv3⟩
  have nC : H' ce.locals = none := I'.free
  have fC : FpOk X pins H' ce.locals := I3.fpOk (Nat.le_of_eq cL.symm) nC
  have I6 : Inv X pins σ H' sI := I3.call' (ch := fp) I'.os I'.base I'.hok I'.bare fun b hb => ⟨(f3 b hb).2.2.2.1, (f3 b hb).2.1, (f3 b hb).2.2.2.2.1, (f3 b hb).2.2.2.2.2⟩
  obtain ⟨f0, f1, f2, f4, f5, f6⟩ := fC
  have I7 : Inv X pins σ H' { sI with heap := PySem.W.hideAll sI.heap [ce.locals], toks := sI.toks } :=
    I6.turned (k := fun b o hb e => PySem.W.hideAll_get _ e (fun z => hb (List.mem_singleton.mp z))) f0 f1 f4 f5 f6
  unfold PySem.passOn
  refine wpAny_bind (wpAny_field he2 hd hv1 ?_)
  rw [if_neg (show ¬ ((Value.ref T == Value.none) = true) from by simp)]
  rw [cF, hf]
  refine wpAny_bind (HandSPX.setFlight_anyZ (fr := some X.env.locals) st2 ff2 tr2 fun h3 b3 k3 t3 u3 => ?_)
  refine wpAny_throw (tk _ _ ⟨a, PySem.W.hideAll B [ce.locals], _, pins, σ, H', cls, d, rfl, I7, fun b o e hb => ?_, fun b o e hnf => ?_, .inr (.inr ?_), na, os, ag, w⟩)
  · have e1 := PySem.W.of_hideAll _ e
    have n1 : b ≠ ce.locals := fun z => by rw [z, PySem.W.hideAll_none _ (List.mem_singleton.mpr rfl)] at e; cases e
    exact PySem.W.hideAll_get _ (nb b o e1 hb) fun z => n1 (List.mem_singleton.mp z)
  · have e1 := PySem.W.of_hideAll _ e
    have n1 : b ≠ ce.locals := fun z => by rw [z, PySem.W.hideAll_none _ (List.mem_singleton.mpr rfl)] at e; cases e
    obtain ⟨sl, e2⟩ := up b o e1 hnf
    obtain ⟨sl2, e3⟩ := up1 b _ e2 hnf
    have e4 : h2.get? b = some _ := (hs2.2 b n1).trans e3
    obtain ⟨sl3, e5⟩ := u3 b _ e4 hnf
    exact ⟨sl3, e5⟩
  · rw [hs]
    exact ⟨b3, nB2 _ g2, k3, t3⟩
/-- a comprehension; its element may raise -/
theorem lc_coreE {X : Cx} {W : L2.WX} {pins : List (Addr × Obj)} {s : Shared} {σ : L2.St} {H : Hp} {Q : VK} {elt tg iter : Expr} {ifs : List Expr} {scope : Scope} {own : List (Str × Nat)} {pos pos' : Pos} {wi : TI} {g : TG} {tt : TT} {te : TE} {Qf : Value → Shared → Prop}
    (tk : L2N.Takes X W) (hst : X.stack = X.env :: X.outer) (hfe : X.env.frame = some X.env.locals)
    (hc : X.calm = true) (hN : X.N.Nodup) (I : Inv X pins σ H s) (hi : PI X tg iter wi) (ok : BlkOk X.N X.env.scope scope own)
    (hg : ∀ (s : Shared) (H : Hp) (C : Addr) (cl : List (Str × Addr)) (fp : List Addr), PG (X.blk s H scope (compEnvC scope cl C X.env) fp) tg g) (ht : ∀ (s : Shared) (H : Hp) (C : Addr) (cl : List (Str × Addr)) (fp : List Addr), PTs (X.blk s H scope (compEnvC scope cl C X.env) fp) ifs tt)
    (he : ∀ (s : Shared) (H : Hp) (C : Addr) (cl : List (Str × Addr)) (fp : List Addr) (xe : Value → Shared → Prop), L2N.Takes ((X.blk s H scope (compEnvC scope cl C X.env) fp).wish xe) (fun c d _ H' => W c d σ H') → PE ((X.blk s H scope (compEnvC scope cl C X.env) fp).wish xe) elt te) (hs : ∀ x, foldedSetIterable iter X.env x = pure x)
    (h : tLc wi g tt te (own.map (·.2)) σ H Q)
    (hRR : ∀ D ce s' m H', Inv X pins σ H' s' → Q (.ref D) H' → s'.heap.Ns ce.locals m → FpOk X pins H' ce.locals → compEnds (model X.prog X.w) X.A X.xe none Qf (.ref D) ce (.ok .next) s') :
    wpAny (model X.prog X.w) X.A (comprehension (.ListComp elt [⟨tg, iter, ifs, 0⟩] scope pos) scope X.env pos' (newList []) false (eval iter X.env) none) Qf X.xe s := by
  have hfree : ∀ y ∈ scope.names, y.2 = .free → ∃ c, X.env.cells.lookup y.1 = some c := fun y hy e => by
    rcases ok.free y hy e with k | k
    · exact I.ok.has _ (.inl k)
    · exact I.ok.has _ (.inr k)
  refine comprehension_at (use := none) rfl hs (closure_ok hfree) ok.kind (fun y hy e => by rw [ok.uniq y hy, e])
    (thn (hi.run pins s σ H _ I h) fun xv s1 hx => thn hx fun itv s2 h2 => ?_)
  obtain ⟨it, fp, tn, J, H2, e, I2, T, st2, f2, q⟩ := h2
  subst e
  refine wpAny_newObj_type (newEnv_comp ?_) (by show 0 ≤ sizeLine; decide)
  generalize hD : s2.heap.objs.size = D
  have hDn : H2 D = none := I2.hok.fresh (Nat.le_of_eq hD)
  obtain ⟨W', ⟨m0, w0⟩, turn⟩ := q D hDn
  generalize hs3 : ({ s2 with heap := s2.heap.push { cls := .type "list", data := .seq ([] : List Value).toArray } } : Shared) = s3
  have I3 : Inv X pins σ (upd H2 D (.lst [])) s3 := by
    rw [← hs3]
    refine I2.laid (t' := s2.toks) (fun b o e => Heap.get?_push_of_some _ e) (Nat.le_of_eq hD) ⟨Nat.zero_le _, [], 0, .nil, ?_⟩
    rw [← hD]
    exact Heap.get?_push_size _ rfl
  have h3 : s3.heap = s2.heap.push { cls := .type "list", data := .seq ([] : List Value).toArray } := by rw [← hs3]
  have sz : ∀ b ∈ fp, b < s2.heap.objs.size := fun b hb => by
    obtain ⟨o, e, _⟩ := T.obj _ _ st2 b hb
    exact Heap.lt_size e
  have f3 : ∀ b ∈ fp, FpOk X pins (upd H2 D (.lst [])) b ∧ b < s3.heap.objs.size := fun b hb => by
    have hlt := sz b hb
    refine ⟨⟨?_, (f2 b hb).2⟩, by rw [h3, Heap.size_push]; exact Nat.lt_succ_of_lt hlt⟩
    rw [upd_ne (by rw [← hD]; exact Nat.ne_of_lt hlt)]
    exact (f2 b hb).1
  have st3 : tn 0 s3.heap := T.keep _ _ _ st2 fun b _ o e => by rw [h3]; exact Heap.get?_push_of_some _ e
  have I4 := block_start I3 ok hN f3
  have pg := hg s3 (upd H2 D (.lst [])) s3.heap.objs.size (cellsFrom (s3.heap.objs.size + 1) scope.names (cloFrom X.env.cells scope.names [])) fp
  have pt := ht s3 (upd H2 D (.lst [])) s3.heap.objs.size (cellsFrom (s3.heap.objs.size + 1) scope.names (cloFrom X.env.cells scope.names [])) fp
  have pe := he s3 (upd H2 D (.lst [])) s3.heap.objs.size (cellsFrom (s3.heap.objs.size + 1) scope.names (cloFrom X.env.cells scope.names [])) fp _
    (takes_blk (ce := compEnvC scope (cellsFrom (s3.heap.objs.size + 1) scope.names (cloFrom X.env.cells scope.names [])) s3.heap.objs.size X.env) tk hst hfe I3 (fun b hb => (f3 b hb).1) rfl rfl)
  show codeAny _ _ (.compStart (.ListComp elt [⟨tg, iter, ifs, 0⟩] scope pos) 0 (.ref it) (.ref D) (compEnvC scope (cellsFrom (s3.heap.objs.size + 1) scope.names (cloFrom X.env.cells scope.names [])) s3.heap.objs.size X.env)) (compEnds (model X.prog X.w) X.A X.xe none Qf (.ref D) (compEnvC scope (cellsFrom (s3.heap.objs.size + 1) scope.names (cloFrom X.env.cells scope.names [])) s3.heap.objs.size X.env)) { s3 with heap := pushCells (s3.heap.push { cls := .type "dict", data := .dict #[] }) scope.names }
  have nfp : ∀ b ∈ fp, (upd H2 D (.lst [])) b = none := fun b hb => (f3 b hb).1.1
  generalize hce : compEnvC scope (cellsFrom (s3.heap.objs.size + 1) scope.names (cloFrom X.env.cells scope.names [])) s3.heap.objs.size X.env = ce at I4 pg pt pe ⊢
  have cL : ce.locals = s3.heap.objs.size := by subst hce; rfl
  generalize hH3 : upd H2 D (.lst []) = H3 at I3 I4 pg pt pe w0 nfp f3
  generalize hs4 : ({ s3 with heap := pushCells (s3.heap.push { cls := .type "dict", data := .dict #[] }) scope.names } : Shared) = s4 at I4 ⊢
  have st4 : tn 0 s4.heap := T.keep _ _ _ st3 fun b _ o e => by rw [← hs4]; exact pushCells_keeps _ _ _ _ (Heap.get?_push_of_some _ e)
  have stat : ∀ {σ' : L2.St} {H' : Hp} {s' : Shared}, Inv (X.blk s3 H3 scope ce fp) [] σ' H' s' → (∀ b ∈ fp, H' b = none) → ∀ b ∈ fp, FpOk (X.blk s3 H3 scope ce fp) [] H' b := fun {σ' H' s'} I' hn b hb =>
    ⟨hn b hb, (I'.ok.exf b hb).1, I'.ok.exfs b hb, .inl hb, fun x c e => (I'.ok.exf b hb).2 x c e, fun p hp => absurd (show p ∈ ([] : List (Addr × Obj)) ++ [] from hp) (by simp)⟩
  have loop : codeAny (model X.prog X.w) X.A (.compLoop (.ListComp elt [⟨tg, iter, ifs, 0⟩] scope pos) 0 (.ref it) (.ref D) ce) (compEnds (model X.prog X.w) X.A X.xe none Qf (.ref D) ce) s4 := by
    refine compLoop_any (fun n s' => ∃ i H', Inv (X.blk s3 H3 scope ce fp) [] (wipe σ (own.map (·.2))) H' s' ∧ tn i s'.heap ∧ (∀ b ∈ fp, H' b = none) ∧ W' i n H') ?_ m0 ⟨0, H3, I4, st4, nfp, w0⟩
    rintro n s5 ⟨i, H5, I5, st5, n5, w5⟩
    rcases turn i n H5 w5 with ⟨stop, qq⟩ | ⟨go, Nx, hNx, step⟩
    · have td := T.done (X.blk s3 H3 scope ce fp) rfl rfl rfl hc i [] s5 _ H5 (fun _ _ => False) I5 (stat I5 n5) st5 stop
      refine thnF td fun r s6 ⟨hr, I6⟩ => ?_
      subst hr
      have I7 : Inv X pins σ H5 s6 := I3.call' (ch := fp) I6.os I6.base I6.hok I6.bare fun b hb => ⟨(f3 b hb).1.2.2.2.1, (f3 b hb).1.2.1, (f3 b hb).1.2.2.2.2.1, (f3 b hb).1.2.2.2.2.2⟩
      have nC : H5 ce.locals = none := I6.free
      obtain ⟨m, hn, _⟩ := I6.loc
      have hn : s6.heap.Ns ce.locals m := hn
      exact hRR D ce s6 m H5 I7 qq hn (I3.fpOk (Nat.le_of_eq cL.symm) nC)
    · have ti := T.item (X.blk s3 H3 scope ce fp) rfl rfl rfl hc i [] s5 _ H5 (fun _ _ => False) I5 (stat I5 n5) st5 go
      refine thnF ti fun r s6 ⟨u, hr, h6⟩ => ?_
      subst hr
      refine thnF h6 fun _ s7 ⟨x, H7, I7, r7, y7, st7, n7⟩ => ?_
      have I7' := I7.pinned (stat I7 n7) (T.obj _ _ st7)
      refine thnF (pg.run _ s7 _ H7 x u _ I7' r7 (step x H7 y7)) fun _ s8 ⟨σ8, H8, I8, hw8, q8⟩ => ?_
      refine thnF (pt.run _ s8 σ8 H8 _ I8 q8) fun b s9 ⟨H9, I9, q9⟩ => ?_
      have fin : ∀ {s' : Shared} {H' : Hp}, Inv (X.blk s3 H3 scope ce fp) ([] ++ pinsAt fp s7.heap) σ8 H' s' → Nx H' → ∃ m, m < n ∧ ∃ i H', Inv (X.blk s3 H3 scope ce fp) [] (wipe σ (own.map (·.2))) H' s' ∧ tn i s'.heap ∧ (∀ b ∈ fp, H' b = none) ∧ W' i m H' := fun {s' H'} I' nx => by
        obtain ⟨m', hm, w'⟩ := hNx H' nx
        have pin' : ∀ b ∈ fp, ∀ o, s7.heap.get? b = some o → s'.heap.get? b = some o ∧ H' b = none := fun b hb o e =>
          let z := I'.pin (b, o) (List.mem_append_right _ (List.mem_append_right _ (mem_pinsAt hb e)))
          ⟨z.1, z.2.1⟩
        have hl : (wipe σ (own.map (·.2))).length = σ8.length := by rw [← hw8, wipe_length]
        refine ⟨m', hm, i + 1, H', (I'.unpinned (pins := [])).weak hl (fun j v e => ?_), T.keep _ _ _ st7 fun b hb o e => (pin' b hb o e).1, fun b hb => ?_, w'⟩
        · rw [← hw8] at e
          exact (wipe_some e).1
        · obtain ⟨o, e, _⟩ := T.obj _ _ st7 b hb
          exact (pin' b hb o e).2
      cases b with
      | false =>
        simp only [Bool.false_eq_true, if_false] at q9 ⊢
        exact fin I9 q9
      | true =>
        simp only [if_true] at q9 ⊢
        refine wpAny_mono (pe.run _ s9 σ8 H9 _ (I9.wish _) q9) (fun z s10 ⟨yv, H10, I10, r10, acc, hD10, hz10, nx⟩ => ?_) fun e s' z => z
        exact app_ok (X := X.blk s3 H3 scope ce fp) I10.unwish hD10 hz10 r10 fun s11 I11 => fin I11 nx
  exact codeAny_compStart_list loop (T.self X.A 0 _ _ _ st4 loop)
end DLX

end
section
set_option Elab.async false
set_option linter.all false
set_option maxRecDepth 100000
set_option maxHeartbeats 4000000
/-! DL, part 29: a comprehension whose element may raise, over data. -/
namespace DL
open PySem PySem.Spec PyProof.Rows L2
theorem pe_lcE {X : Cx} {W : L2.WX} {elt tg iter : Expr} {ifs : List Expr} {scope : Scope} {own : List (Str × Nat)} {pos : Pos} {wi : TI} {g : TG} {tt : TT} {te : L2.St → TE}
    (tk : L2N.Takes X W) (hst : X.stack = X.env :: X.outer) (hfe : X.env.frame = some X.env.locals) (hc : X.calm = true) (hN : X.N.Nodup) (hi : PI X tg iter wi) (ok : BlkOk X.N X.env.scope scope own)
    (hg : ∀ (s : Shared) (H : Hp) (C : Addr) (cl : List (Str × Addr)) (fp : List Addr), PG (X.blk s H scope (compEnvC scope cl C X.env) fp) tg g) (ht : ∀ (s : Shared) (H : Hp) (C : Addr) (cl : List (Str × Addr)) (fp : List Addr), PTs (X.blk s H scope (compEnvC scope cl C X.env) fp) ifs tt)
    (he : ∀ (σ : L2.St) (s : Shared) (H : Hp) (C : Addr) (cl : List (Str × Addr)) (fp : List Addr) (xe : Value → Shared → Prop), L2N.Takes ((X.blk s H scope (compEnvC scope cl C X.env) fp).wish xe) (fun c d _ H' => W c d σ H') → PE ((X.blk s H scope (compEnvC scope cl C X.env) fp).wish xe) elt (te σ)) (hs : ∀ x, foldedSetIterable iter X.env x = pure x := by intro _; rfl) :
    PE X (.ListComp elt [⟨tg, iter, ifs, 0⟩] scope pos) (fun σ H Q => tLc wi g tt (te σ) (own.map (·.2)) σ H Q) := by
  refine ⟨fun pins s σ H Q I h => ?_⟩
  rw [eval_ListComp]
  refine DLX.lc_coreE tk hst hfe hc hN I hi ok hg ht (he σ) hs h fun D ce s' m H' I' q hn f => ⟨m, hn, fun h'' sb => ?_⟩
  obtain ⟨f0, f1, f2, f3, f4, f5⟩ := f
  exact ⟨.ref D, H', I'.turned (t' := s'.toks) (fun b o hb e => (sb.2 b hb).trans e) f0 f1 f3 f4 f5, rfl, q⟩
def dLcLX (g : DGt) (t : DTT) (de : DTE) (E : DX) (ρ : DSt) : List Dat → DM → (List Dat → DM → Prop) → Prop
  | [], M, Kf => Kf [] M
  | x :: xs, M, Kf => match g x ρ with
    | some ρ1 => t ρ1 M (fun b M1 => if b = true then de ρ1 M1 (fun y M2 => dLcLX g t de E ρ xs M2 (fun ys => Kf (y :: ys))) E else dLcLX g t de E ρ xs M1 Kf) (fun _ _ => False)
    | none => False
def dLcX (di : DTA) (g : DGt) (t : DTT) (de : DTE) (vs : List Nat) : DTE := fun ρ M Q E => di ρ M (fun xs M1 => dLcLX g t de E (wipeD ρ vs) xs M1 (fun ys M2 => Q (.lst ys) M2)) E
def fLcLX (g : DGt) (f : FE) (ρ : DSt) : List Dat → R (List Dat)
  | [] => .ok []
  | x :: xs => match g x ρ with
    | some ρ1 => do
      let y ← f ρ1
      let ys ← fLcLX g f ρ xs
      .ok (y :: ys)
    | none => .bad
def fLcX (fi : FA) (g : DGt) (f : FE) (vs : List Nat) : FE := fun ρ => do let xs ← fi ρ; let ys ← fLcLX g f (wipeD ρ vs) xs; .ok (.lst ys)
@[simp] theorem e_lcX (fi : FA) (g : DGt) (f : FE) (vs : List Nat) {ρ : DSt} : fLcX fi g f vs ρ = (fi ρ >>= fun xs => fLcLX g f (wipeD ρ vs) xs >>= fun ys => .ok (.lst ys)) := rfl
theorem fLcLX_imp (g : DGt) (f : FE) (E : DX) (ρ : DSt) : ∀ (xs : List Dat) (M : DM) (Kf : List Dat → DM → Prop), (fLcLX g f ρ xs).wp (fun ys => Kf ys M) (fun c => E c M) → dLcLX g (purT fYes) (pur f) E ρ xs M Kf
  | [], M, Kf, h => h
  | x :: xs, M, Kf, h => by
    unfold fLcLX at h
    unfold dLcLX
    cases e : g x ρ with
    | none => rw [e] at h; exact h
    | some ρ1 =>
      rw [e] at h
      simp only [R.wp_bind] at h
      simp only [purT, fYes, R.wp_ok, if_true, pur]
      cases e3 : f ρ1 with
      | ok y =>
        rw [e3] at h
        exact fLcLX_imp g f E ρ xs M _ h
      | exc c => rw [e3] at h; exact h
      | bad => rw [e3] at h; exact h
section
variable {X : Cx} {T : List (Addr × Str)} {W : WX}
theorem lcX_imp0 {K : PySem.W.Frag} {is vs : List Nat} {g : DGt} {di : DTA} {dt : DTT} {de : DTE} {σ : St} {H G : Hp} {M : DM} {ρ : DSt} {Q : VK} {Kf : List Dat → DM → Prop} {ED : DX} (hsub : ∀ k ∈ is, k ∈ vs) (hh : Hld K T H G M) (r : RS K G σ ρ)
    (hd : di ρ M (fun xs M1 => dLcLX g dt de ED (wipeD ρ vs) xs M1 Kf) ED) (ke : ∀ c dd H' G' M', Tr H G M H' G' M' → Hld K T H' G' M' → ED c M' → Dd K c dd → W c dd σ H')
    (fin : ∀ D ys ws H' G' M' H0 G0 M0, Tr H G M H0 G0 M0 → H0 D = none → Tr H0 G0 M0 H' G' M' → Hld K T H' G' M' → H' D = some (.lst ws) → G' D = none → M' D = none → RepL K G' ws ys → ys.length ≤ sizeLine → Kf ys M' → Q (.ref D) H') :
    tLc (cI K T W di) (cG K T is g) (cT K T W0 dt) (cE K T (fun c dd _ H' => W c dd σ H') de) vs σ H Q := by
  refine ⟨G, M, ρ, _, ED, hh, r, hd, fun J H1 G1 M1 xs t1 h1 it1 q1 => ?_, ke⟩
  intro D hD
  have gD := (h1.free hD).1
  have mD := (h1.free hD).2
  refine ⟨fun i m H2 => m = xs.length - i ∧ i ≤ xs.length ∧ ∃ G2 M2 pre ws, Tr H1 G1 M1 H2 G2 M2 ∧ Hld K T H2 G2 M2 ∧ H2 D = some (.lst ws) ∧ G2 D = none ∧ M2 D = none ∧ RepL K G2 ws pre ∧ pre.length ≤ i ∧ dLcLX g dt de ED (wipeD ρ vs) (xs.drop i) M2 (fun ys => Kf (pre ++ ys)),
    ⟨_, rfl, Nat.zero_le _, G1, M1, [], [], (Tr.refl ..).hid hD, h1.hidden hD, upd_same, gD, mD, .nil, Nat.le_refl _, q1⟩, ?_⟩
  rintro i m H2 ⟨rfl, hi, G2, M2, pre, ws, t2, h2, e2, g2, m2, r2, l2, q2⟩
  by_cases hlt : i < xs.length
  · refine .inr ⟨it1.go i H2 G2 M2 hlt t2.g h2, fun H' => ∃ G3 M3 pre ws, Tr H1 G1 M1 H' G3 M3 ∧ Hld K T H' G3 M3 ∧ H' D = some (.lst ws) ∧ G3 D = none ∧ M3 D = none ∧ RepL K G3 ws pre ∧ pre.length ≤ i + 1 ∧ dLcLX g dt de ED (wipeD ρ vs) (xs.drop (i + 1)) M3 (fun ys => Kf (pre ++ ys)),
      fun H' hN => ⟨xs.length - (i + 1), by omega, rfl, hlt, hN⟩, fun x H3 y => ?_⟩
    have hx : xs[i]? = some xs[i] := List.getElem?_eq_getElem hlt
    obtain ⟨G3, t3, h3, r3⟩ := it1.yld i H2 G2 M2 x H3 _ hx t2.g h2 y
    rw [List.drop_eq_getElem_cons hlt] at q2
    unfold dLcLX at q2
    have s13 : Sub G1 G3 := fun a o z => t3.g a o (t2.g a o z)
    cases e : g xs[i] (wipeD ρ vs) with
    | none => rw [e] at q2; exact q2.elim
    | some ρ3 =>
      rw [e] at q2
      have rw3 : RS K G3 (L2.wipe σ vs) (wipeD ρ vs) := ((r.mono t1.g).mono s13).wipe vs
      refine ⟨G3, M2, wipeD ρ vs, ρ3, _, h3, rw3, r3, e, fun σ2 hl2 ha2 rr2 => ⟨?_, ?_⟩⟩
      · rw [wipe_agree hl2 fun k hk => ha2 k fun z => hk (hsub k z), wipe_wipe]
      obtain ⟨a3, b3, c3⟩ := t3.k D _ e2 m2 (fun ps z => nomatch z)
      refine ⟨G3, M2, ρ3, _, _, h3, rr2, q2, fun b H4 G4 M4 t4 h4 q4 => ?_, fun _ _ _ _ _ _ _ z => z.elim⟩
      obtain ⟨a4, b4, c4⟩ := t4.k D _ a3 b3 (fun ps z => nomatch z)
      have t24 := t2.trans (t3.trans t4)
      cases b with
      | false =>
        rw [if_neg Bool.false_ne_true] at q4 ⊢
        exact ⟨G4, M4, pre, ws, t24, h4, a4, c4 (c3 g2), b4, r2.mono fun a o z => t4.g a o (t3.g a o z), by omega, q4⟩
      | true =>
        rw [if_pos rfl] at q4 ⊢
        refine ⟨G4, M4, ρ3, _, _, h4, rr2.mono t4.g, q4, fun v H5 G5 M5 x5 t5 h5 r5 q5 => ?_, fun c dd H' G' M' t h' z => ke c dd H' G' M' (t1.trans (t24.trans t)) h' z⟩
        obtain ⟨a5, b5, c5⟩ := t5.k D _ a4 b4 (fun ps z => nomatch z)
        have rws := r2.mono fun a o z => t5.g a o (t4.g a o (t3.g a o z))
        have hlen := it1.len
        refine ⟨ws, a5, by rw [r2.length]; omega, G5, M5, pre ++ [x5], ws ++ [v], (t24.trans t5).hid hD, h5.hid a5 (c5 (c4 (c3 g2))) b5, upd_same, c5 (c4 (c3 g2)), b5, rws.append (.cons r5 .nil), by simp; omega, ?_⟩
        simpa [List.append_assoc] using q5
  · have e : i = xs.length := by omega
    subst e
    rw [List.drop_length] at q2
    have hlen := it1.len
    refine .inl ⟨it1.stop _ H2 G2 M2 (Nat.le_refl _) t2.g h2, fin D (pre ++ []) ws H2 G2 M2 H1 G1 M1 t1 hD t2 h2 e2 g2 m2 (by simpa using r2) (by simp; omega) q2⟩
theorem lcX_imp {K : PySem.W.Frag} {is vs : List Nat} {g : DGt} {di : DTA} {dt : DTT} {de : DTE} {σ : St} {H : Hp} {Q : VK} (hsub : ∀ k ∈ is, k ∈ vs) (h : cE K T W (dLcX di g dt de vs) σ H Q) : tLc (cI K T W di) (cG K T is g) (cT K T W0 dt) (cE K T (fun c dd _ H' => W c dd σ H') de) vs σ H Q := by
  obtain ⟨G, M, ρ, QD, ED, hh, r, hd, kq, ke⟩ := h
  refine lcX_imp0 hsub hh r hd ke fun D ys ws H' G' M' H0 G0 M0 t0 n0 t' h' e1 e2 e3 rr l q => ?_
  obtain ⟨G2, h2, t2, r2⟩ := h'.showL e1 e2 e3 l rr t' n0
  exact kq _ H' G2 M' _ (t0.trans t2) h2 r2 q
theorem fLcX_imp (fi : FA) (g : DGt) (fe : FE) (vs : List Nat) (ρ : DSt) (M : DM) (Q : DQ) (E : DX) (h : pur (fLcX fi g fe vs) ρ M Q E) : dLcX (purA fi) g (purT fYes) (pur fe) vs ρ M Q E := by
  simp only [pur, fLcX, R.wp_bind] at h
  simp only [dLcX, purA]
  cases e : fi ρ with
  | ok xs => rw [e] at h; exact fLcLX_imp g fe E _ xs M _ h
  | exc c => rw [e] at h; exact h
  | bad => rw [e] at h; exact h
variable {elt tg iter : Expr} {ifs : List Expr} {scope : Scope} {own : List (Str × Nat)} {pos : Pos} {di : DTA} {dt : DTT} {de : DTE} {is : List Nat} {g : DGt} {fi : FA} {ft : FT} {fe : FE}
theorem dp_lcX (tk : L2N.Takes X W) (hst : X.stack = X.env :: X.outer) (hfe : X.env.frame = some X.env.locals) (hc : X.calm = true) (hN : X.N.Nodup) (hi : DI X T W (purA fi) tg iter) (ok : BlkOk X.N X.env.scope scope own) (hg : Blk X scope fun Y => DG Y T is g tg)
    (he : ∀ (σ : St) (s : Shared) (H : Hp) (C : Addr) (cl : List (Str × Addr)) (fp : List Addr) (xe : Value → Shared → Prop), L2N.Takes ((X.blk s H scope (compEnvC scope cl C X.env) fp).wish xe) (fun c d _ H' => W c d σ H') →
      DE ((X.blk s H scope (compEnvC scope cl C X.env) fp).wish xe) T (fun c d _ H' => W c d σ H') (pur fe) elt)
    (hsub : ∀ k ∈ is, k ∈ own.map (·.2)) (hs : ∀ x, foldedSetIterable iter X.env x = pure x := by intro _; rfl) : DE X T W (pur (fLcX fi g fe (own.map (·.2)))) (.ListComp elt [⟨tg, iter, [], 0⟩] scope pos) :=
  de_weak (PE.weak (pe_lcE tk hst hfe hc hN hi ok hg (fun s H C cl fp => dts_nil) he hs) fun _ _ _ h => lcX_imp hsub h) (fLcX_imp fi g fe _)
end
end DL

end
section
set_option Elab.async false
set_option linter.all false
set_option maxRecDepth 100000
set_option maxHeartbeats 4000000
/-! DL, part 30: while, with so many turns at most. -/
namespace DL
open PySem PySem.Spec PyProof.Rows L2
def fWhile (ft : FT) (fb : FS) : Nat → FS
  | 0 => fun _ => .bad
  | n + 1 => fun ρ => do
    if (← ft ρ) = true then
      match ← fb ρ with
      | .nx ρ' => fWhile ft fb n ρ'
      | .ct ρ' => fWhile ft fb n ρ'
      | .bk ρ' => .ok (.nx ρ')
      | .rt x => .ok (.rt x)
    else .ok (.nx ρ)
section
variable {X : Cx} {T : List (Addr × Str)} {W : WX}
theorem dsp_while {n : Nat} {ft : FT} {fb : FS} {c : Expr} {body : List Stmt} {pos : Pos} (hp : PassesOwn (model X.prog X.w) X.A X.env X.xe) (hc : DT X T W (purT ft) c) (hb : DSs X T W (purS fb) body) : DS X T W (purS (fWhile ft fb n)) (.While c body [] pos) := by
  refine PS.weak (ps_while hp hc hb) fun D σ H h => ⟨fun m σ H => cS X.K T W (purS (fWhile ft fb m)) D σ H, ⟨n, h⟩, fun m σ H hm => ?_⟩
  obtain ⟨G, M, ρ, DD, hh, r, hd, k1, k2, k3, k4, k5⟩ := hm
  cases m with
  | zero => exact (show False from hd).elim
  | succ m =>
    unfold purS fWhile at hd
    simp only [R.wp_bind] at hd
    cases et : ft ρ with
    | bad => rw [et] at hd; exact (show False from hd).elim
    | exc e =>
      rw [et] at hd
      refine ⟨G, M, ρ, fun _ _ => False, fun c' M' => c' = e ∧ M' = M, hh, r, ?_, fun _ _ _ _ _ _ z => z.elim, fun c' dd H' G' M' t h' z hdd => ?_⟩
      · unfold purT; rw [et]; exact ⟨rfl, rfl⟩
      · obtain ⟨e1, e2⟩ := z
        subst e1 e2
        exact k5 _ dd σ H' G' _ ρ t h' (r.mono t.g) ((show ∀ ρ', DD.ex _ ρ' _ from hd) ρ) hdd
    | ok b =>
      rw [et] at hd
      refine ⟨G, M, ρ, fun b' M' => b' = b ∧ M' = M, fun _ _ => False, hh, r, ?_, fun b' H1 G1 M1 t1 h1 z => ?_, fun _ _ _ _ _ _ _ z => z.elim⟩
      · unfold purT; rw [et]; exact ⟨rfl, rfl⟩
      · obtain ⟨e1, e2⟩ := z
        subst e1 e2
        cases b' with
        | false =>
          rw [if_neg Bool.false_ne_true]
          simp only [R.wp_ok, Bool.false_eq_true, if_false] at hd
          exact k1 σ H1 G1 _ ρ t1 h1 (r.mono t1.g) hd
        | true =>
          rw [if_pos rfl]
          simp only [R.wp_ok, if_true, R.wp_bind] at hd
          refine ⟨fun σ' H' => cS X.K T W (purS (fWhile ft fb m)) D σ' H', fun σ' H' z => ⟨m, Nat.lt_succ_self m, z⟩, ?_⟩
          refine ⟨G1, _, ρ, { nx := fun ρ' M' => purS (fWhile ft fb m) DD ρ' M', ct := fun ρ' M' => purS (fWhile ft fb m) DD ρ' M', bk := DD.nx, rt := DD.rt, ex := DD.ex }, h1, r.mono t1.g, ?_, fun σ' H' G' M' ρ' t h' r' q => ?_, fun v H' G' M' x t h' rv q => ?_, fun σ' H' G' M' ρ' t h' r' q => ?_, fun σ' H' G' M' ρ' t h' r' q => ?_, fun c dd σ' H' G' M' ρ' t h' r' q hdd => ?_⟩
          · unfold purS
            cases eb : fb ρ with
            | bad => rw [eb] at hd; exact hd
            | exc e => rw [eb] at hd; exact hd
            | ok fl =>
              rw [eb] at hd
              cases fl <;> exact hd
          · have tt := t1.trans t
            exact ⟨G', M', ρ', DD, h', r', q, fun a b c d e f g i j => k1 a b c d e (tt.trans f) g i j, fun a b c d e f g i j => k2 a b c d e (tt.trans f) g i j, fun a b c d e f g i j => k3 a b c d e (tt.trans f) g i j, fun a b c d e f g i j => k4 a b c d e (tt.trans f) g i j, fun a b c d e f l g i j k => k5 a b c d e f l (tt.trans g) i j k⟩
          · exact k2 v H' G' M' x (t1.trans t) h' rv q
          · exact k1 σ' H' G' M' ρ' (t1.trans t) h' r' q
          · have tt := t1.trans t
            exact ⟨G', M', ρ', DD, h', r', q, fun a b c d e f g i j => k1 a b c d e (tt.trans f) g i j, fun a b c d e f g i j => k2 a b c d e (tt.trans f) g i j, fun a b c d e f g i j => k3 a b c d e (tt.trans f) g i j, fun a b c d e f g i j => k4 a b c d e (tt.trans f) g i j, fun a b c d e f l g i j k => k5 a b c d e f l (tt.trans g) i j k⟩
          · exact k5 c dd σ' H' G' M' ρ' (t1.trans t) h' r' q hdd
end
end DL

end
section
set_option Elab.async false
set_option linter.all false
set_option maxRecDepth 100000
set_option maxHeartbeats 4000000
/-! DL, part 31: how many different ints a tuple has. -/
namespace DLI
open PySem PySem.Spec PyProof.Rows L2
section
variable {P : Program} {w : World} {A : Around} {E : Value → Shared → Prop} {s : Shared}
abbrev setI (w : World) : Obj := { cls := .type "set", dict := none, data := .set #[] 0 (.fresh 0 0 (!w.params.followText "set-order")) }
abbrev itI (l : Addr) : Obj := { cls := .type "tuple_iterator", data := .fields #[.ref l, .int 0 0] }
/-- set(t), t a tuple of ints -/
theorem set_of_tupI {l : Addr} {items : Array Value} {ns : List Int} {Q : Value → Shared → Prop} (hh : A.handled = none) (hl : s.heap.IsTuple l items) (hi : IntsAre items.toList ns) (hb : items.size + 1 < scanBound)
    (h : ∀ (h' : Heap) (tk : Nat), h'.SetOf (intKind P w) s.heap.objs.size (fun k' => (firstMet (fun i => ns.getD i 0) items.size).any (· == k')) (firstMet (fun i => ns.getD i 0) items.size).length → (∀ b o, b < s.heap.objs.size → s.heap.get? b = some o → h'.get? b = some o) → Q (.ref s.heap.objs.size) { s with heap := h', toks := tk }) : wpAny (model P w) A (call (.type "set") [.ref l]) Q E s := by
  obtain ⟨c, tl, f0⟩ := F.called_set.mro
  have f1 := F.called_set.made
  have f2 := F.called_set.sub
  refine wpAny_call (codeAny_of_tree ?_)
  show wpAny _ _ (callAny (.type "set") _) _ _ _
  refine wpAny_pure ⟨Code.quiet_builtin _ (by decide +kernel), codeAny_builtin F.entry_type_call ?_⟩
  rw [Around.under_plain (weight_type_call_type "set" [.ref l] []) rfl]
  have f3 := F.called_set.notType
  have f4 := F.called_set.canCreate
  have f5 := F.typeCall_set_1 (.ref l)
  repeat (any_goals (first | assumption | wp_step))
  refine codeAny_mono (code_set_led1 (.ref l) (E := E) (Q₁ := fun obj s1 => obj = .ref s.heap.objs.size ∧ s1 = { s with heap := s.heap.push (setI w) }) ⟨rfl, rfl⟩) fun r s1 hr => ?_
  cases r with
  | error e => exact hr
  | ok fl =>
    cases fl with
    | ret obj =>
      obtain ⟨rfl, rfl⟩ := hr
      have gS : (s.heap.push (setI w)).get? s.heap.objs.size = some (setI w) := Heap.get?_push_size _ rfl
      have tS : Shared.TypeIs { s with heap := s.heap.push (setI w) } (.ref s.heap.objs.size) "set" := ⟨_, gS, rfl⟩
      have f6 := F.called_set.init.lookup
      have f7 := F.called_set.init.bind (.ref s.heap.objs.size)
      repeat (any_goals (first | assumption | wp_step))
      refine codeAny_mono (codeAny_call_builtin (R := wants (fun r s2 => r = .none ∧ ∃ h' tk, s2 = { s with heap := h', toks := tk } ∧ h'.SetOf (intKind P w) s.heap.objs.size (fun k' => (firstMet (fun i => ns.getD i 0) items.size).any (· == k')) (firstMet (fun i => ns.getD i 0) items.size).length ∧ (∀ b o, b < s.heap.objs.size → s.heap.get? b = some o → h'.get? b = some o)) E) F.called_set.init.plain F.entry_set_init (check_set_init_1 tS ?_)) fun r2 s2 hr2 => ?_
      · obtain ⟨ol, gl, cl, nl, dl⟩ := hl
        obtain ⟨ocls, odict, odata, oslots⟩ := ol
        simp only at cl dl
        subst cl; subst dl
        have gl' : (s.heap.push (setI w)).get? l = some { cls := .type "tuple", dict := odict, data := .seq items nl, slots := oslots } := Heap.get?_push_of_some _ gl
        have f8 := F.sub_tuple_set
        have f9 := F.sub_tuple_frozenset
        have ne : (Value.type "tuple" == Value.type "dict") = false := by decide
        have tl1 : (s.heap.push (setI w)).IsTuple l items := ⟨_, gl', rfl, nl, rfl⟩
        unfold Builtin.«set.__init__» noKeywords Builtin.Frozenset.updateFrom
        generalize eP : pyIter = PI
        wp_walk
        subst eP
        refine wpAny_pyIter_tuple tl1 (wpAny_bind (wpAny_runValue ?_))
        have lS : l < s.heap.objs.size := Heap.lt_size gl
        have h3 : A.in1.in1.in1.handled = none := by simp [hh]
        have nI : l ≠ (s.heap.push (setI w)).objs.size := by
          rw [Heap.size_push]; exact Nat.ne_of_lt (Nat.lt_succ_of_lt lS)
        have nS : s.heap.objs.size ∉ [(s.heap.push (setI w)).objs.size, l] := by
          rw [Heap.size_push]
          simp only [List.mem_cons, List.mem_singleton, List.not_mem_nil, or_false, not_or]
          exact ⟨Nat.ne_of_lt (Nat.lt_succ_self _), Nat.ne_of_gt lS⟩
        have vals : ∀ (i : Nat) (v : Value), items[i]? = some v → ∃ t, v = .int ((fun i => ns.getD i 0) i) t := fun i v hv => IntsAre.int_at hi i v (by rw [Array.getElem?_toList]; exact hv)
        refine codeAny_set_update_loopS ((Walks.tuple h3 _ l nI items).toS) s.heap.objs.size nS (fun i => ns.getD i 0) vals hb (items.size - 0) 0 _ (by omega) (Nat.zero_le _) ⟨⟨_, Heap.get?_push_size _ rfl, rfl, rfl⟩, (tl1.push _)⟩ ?_ ?_
        · have g0 : ((s.heap.push (setI w)).push (itI l)).get? s.heap.objs.size = some (setI w) := Heap.get?_push_of_some _ gS
          exact SetOf_congr ((setObjOf_fresh (knd := intKind P w) _).setOf g0 (by unfold scanBound; omega)) (fun _ => rfl) rfl
        · intro s' hm hS'
          obtain ⟨h', g2, d', tk', os'⟩ := s'
          obtain rfl : g2 = s.gens := hm.gens
          obtain rfl : d' = s.drawn := hm.drawn
          obtain rfl : os' = s.os := hm.os
          show wpAny _ _ _ _ _ _
          refine wpAny_pure ?_
          show wpAny _ _ (ret Value.none) _ _ _
          refine wpAny_pure ⟨rfl, h', tk', rfl, hS', fun b o hb e => hm.heap b o (fun z => ?_) (Heap.get?_push_of_some _ (Heap.get?_push_of_some _ e))⟩
          rcases List.mem_cons.mp z with z | z
          · exact Nat.ne_of_lt hb z
          · rw [List.mem_singleton.mp z, Heap.size_push] at hb
            exact absurd hb (Nat.not_lt.mpr (Nat.le_succ _))
      · cases r2 with
        | error e => exact hr2
        | ok fl2 =>
          cases fl2 with
          | ret r =>
            obtain ⟨rfl, h', tk, rfl, hS', hk'⟩ := hr2
            repeat (any_goals (first | assumption | wp_step))
            exact h _ _ hS' hk'
          | _ => exact hr2.elim
    | _ => exact hr.elim
end
end DLI

end
section
set_option Elab.async false
set_option linter.all false
set_option maxRecDepth 100000
set_option maxHeartbeats 4000000
/-! DL, part 32: len(set(t)), t a tuple of ints. -/
namespace DL
open PySem PySem.Spec PyProof.Rows L2
def kindsI (ns : List Int) : Nat := (firstMet (fun i => ns.getD i 0) ns.length).length
def oLenSet : List Dat → Option Dat
  | [.tup xs] => (dints xs).bind fun ns => if ns.length < 64 then some (.int (kindsI ns)) else none
  | _ => none
section
variable {X : Cx} {T : List (Addr × Str)} {W : WX} {da : DTE} {fa : FE} {a : Expr}
theorem de_lenSet {p p2 q pos : Pos} (hc : X.calm = true) (hm : X.mg "len" = none) (hm2 : X.mg "set" = none) (ha : DE X T W da a) (hg : Gl X "len" := by rfl) (hg2 : Gl X "set" := by rfl)
    (na : starEach [a] X.env = (false, eval a X.env) :: starEach [] X.env := by rfl) : DE X T W (dCB oLenSet (dCons da dNil)) (.Call (.Name "len" p) [.Call (.Name "set" p2) [a] [] q] [] pos) := by
  refine ⟨fun pins s σ H Q I ⟨G, M, ρ, QD, ED, hh, r, hd, kq, ke⟩ => ?_⟩
  refine Call_ (ld_blt I hg hm PySem.boot_len ?_)
  refine PyProof.Rows.callWith_builtin1 (PyProof.Rows.args_cons ?_ rfl) rfl rfl
  refine Call_ (ld_blt I hg2 hm2 PyProof.Rows.boot_set ?_)
  refine PyProof.Rows.callWith_type1 (PyProof.Rows.args_cons (thn (ha.run pins s σ H (fun x H1 => ∃ G1 M1 dx, Tr H G M H1 G1 M1 ∧ Hld X.K T H1 G1 M1 ∧ Rep X.K G1 x dx ∧ (R.of (oLenSet [dx])).wp (fun z => QD z M1) fun c => ED c M1) I
    (cE_mk hh r _ ED hd (fun x H1 G1 M1 dx t1 h1 r1 q1 => ⟨G1, M1, dx, t1, h1, r1, q1⟩) ke)) fun v s1 ⟨x, H1, I1, r1, G1, M1, dx, t1, h1, rx, q1⟩ => PyProof.Rows.args_nil ?_) na) na rfl
  cases eo : oLenSet [dx] with
  | none => rw [eo] at q1; exact q1.elim
  | some z =>
    rw [eo] at q1
    unfold oLenSet at eo
    split at eo
    · rename_i xs e
      cases e
      obtain ⟨ns, en, eo⟩ := Option.bind_eq_some_iff.mp eo
      split at eo
      · rename_i hlt
        cases eo
        have ex := dints_some en
        subst ex
        cases rx with
        | tup hA hl rl =>
          have e2 := RepL.dints rl
          subst e2
          cases r1
          obtain ⟨its, rv, pl, hz⟩ := I1.tuple (sqT_mono h1.sub hA)
          have hl' : its.toArray.size = ns.length := by rw [List.size_toArray, ← rv.length, List.length_map]
          refine DLI.set_of_tupI (I1.ok.hd hc) pl (ns := ns) (by simpa using rv.ints) (by unfold scanBound; omega) fun h' tk hS hk => ?_
          rw [hl'] at hS
          refine PyProof.Rows.args_nil ?_
          obtain ⟨o, es, ep, t, ho, hex, hd', _, _, _, hf, hn⟩ := hS
          have I2 : Inv X pins σ H1 { s1 with heap := h', toks := tk } := I1.kept fun b o e => hk b o (Heap.lt_size e) e
          have hle := firstMet_length_le (fun i => ns.getD i 0) ns.length
          refine call_len_set ho hex hd' hf (by rw [hn] <;> omega) ⟨.int (kindsI ns), H1, I2.tok _, ⟨_, by rw [hn]; rfl⟩, kq _ H1 G1 M1 _ t1 h1 (.int _) q1⟩
      · cases eo
    · cases eo
theorem dp_lenSet {p p2 q pos : Pos} (hc : X.calm = true) (hm : X.mg "len" = none) (hm2 : X.mg "set" = none) (ha : DE X T W (pur fa) a) (hg : Gl X "len" := by rfl) (hg2 : Gl X "set" := by rfl)
    (na : starEach [a] X.env = (false, eval a X.env) :: starEach [] X.env := by rfl) : DE X T W (pur (fCB oLenSet (fCons fa fNil))) (.Call (.Name "len" p) [.Call (.Name "set" p2) [a] [] q] [] pos) := by
  rw [← dCB_pur, ← dCons_pur, ← dNil_pur]; exact de_lenSet hc hm hm2 ha hg hg2 na
end
end DL

end
section
set_option Elab.async false
set_option linter.all false
set_option maxRecDepth 100000
set_option maxHeartbeats 4000000
/-! DL, part 33: sorted(t), t a tuple. -/
namespace DLT
open PySem PySem.Spec PyProof.Rows L2
section
variable {prog : Program} {w : World} {A : Around} {E : Value → Shared → Prop} {s : Shared}
theorem collect_tup {l : Addr} {vs : List Value} {Q : List Value → Shared → Prop} (hl : s.heap.IsTuple l vs.toArray)
    (h : Q vs { s with heap := (s.heap.push (seqObj "list" #[] 0)).update s.heap.objs.size (Obj.mapSeq (· ++ vs.toArray)) }) (hsz : vs.length ≤ sizeLine := by size_fits) :
    wpAny (model prog w) A (collect (.ref l)) Q E s := by
  obtain ⟨o, ho, hc, n, hd⟩ := id hl
  unfold collect
  refine wpAny_bind (wpAny_runValue (codeAny_builtin entry_proto_collect' ?_))
  show wpAny _ _ (do again (.builtin "list.__iadd__" ⟨[← newList [], .ref l], []⟩)) _ _ s
  refine wpAny_bind (wpAny_newList (wpAny_pure ⟨Code.quiet_builtin _ (by decide +kernel), codeAny_builtin entry_list_iadd' ?_⟩))
  show wpAny _ _ (Builtin.List.listExtendWith (.ref s.heap.objs.size) (.ref l) (.ref s.heap.objs.size)) _ _ { s with heap := s.heap.push (seqObj "list" #[] 0) }
  unfold Builtin.List.listExtendWith
  have ho' : (s.heap.push (seqObj "list" #[] 0)).get? l = some o := Heap.get?_push_of_some _ ho
  refine wpAny_bind (wpAny_typeOf (T := "tuple") ⟨o, ho', hc⟩ ?_)
  have ht : (Value.type "tuple" == Value.type "tuple") = true := by rfl
  rw [if_pos (by rw [ht]; simp)]
  refine wpAny_bind (listItems_at ho' hd ?_)
  refine wpAny_bind (listItems_at (xs := #[]) (n := 0) (Heap.get?_push_size _ rfl) rfl ?_)
  rw [if_neg (by simp)]
  refine wpAny_bind (listUpdate_at (xs := #[]) (n := 0) (Heap.get?_push_size _ rfl) rfl ?_ (Nat.zero_le _) (by show (#[] ++ vs.toArray).size ≤ sizeLine + 1; simp only [Array.size_append, List.size_toArray, List.length_nil]; omega))
  refine wpAny_pure ?_
  show wpAny (model prog w) A (do
      let o ← load s.heap.objs.size
      match o.data with
      | .seq xs _ => pure xs.toList
      | _ => unsupported "internal:collect") Q E { s with heap := (s.heap.push (seqObj "list" #[] 0)).update s.heap.objs.size (Obj.mapSeq (· ++ vs.toArray)) }
  refine wpAny_bind (wpAny_load (get?_update_seq (Heap.get?_push_size _ rfl) _) ?_)
  show wpAny _ _ (pure ((#[] : Array Value) ++ vs.toArray).toList) Q E _
  rw [show ((#[] : Array Value) ++ vs.toArray).toList = vs by simp]
  exact wpAny_pure h
end
end DLT
namespace DLT2
open PySem PySem.Spec PyProof.Rows PySem.W
section
variable {prog : Program} {w : World} {A : Around} {E : Value → Shared → Prop} {s : Shared} {β : Type} {vs : List Value} {bs : List β} {enc : β → PyData} {R : Value → β → Prop} {κ : KeyKind}
theorem sorted_of {l : Addr} {vs : List Value} {kw : List (PySem.Str × Value)} {Q : Value → Shared → Prop} (hl : s.heap.IsTuple l vs.toArray) (hL : vs.length ≤ sizeLine) (ha1 : argsOk "sorted" ⟨[.ref l], kw⟩) (ha2 : ∀ x, argsOk "list.sort" ⟨[.ref x], kw⟩)
    (body : ∀ E' : Value → Shared → Prop, wpAny (model prog w) A.in1.in1 (Builtin.«list.sort» ⟨[.ref (s.heap.objs.size + 1)], kw⟩) (fun f s' => f = .done (.ret .none) ∧ Q (.ref (s.heap.objs.size + 1)) s') E' { s with heap := copyHeap s.heap vs }) :
    wpAny (model prog w) A (call (.builtin "sorted") [.ref l] kw) Q E s := by
  refine call_function_entry_kw kind_sorted plain_sorted entry_sorted ha1 ?_
  unfold Builtin.«sorted»
  refine wpAny_bind (m := checkCount "sorted" 1 1 _) (wpAny_pure ?_)
  refine wpAny_bind (DLT.collect_tup hl ?_ hL)
  refine wpAny_bind (wpAny_newList ?_ hL)
  have hsz : ((s.heap.push (seqObj "list" #[] 0)).update s.heap.objs.size (Obj.mapSeq (· ++ vs.toArray))).objs.size = s.heap.objs.size + 1 := by
    rw [Heap.size_update, size_push']
  show wpAny _ _ _ _ _ { s with heap := copyHeap s.heap vs }
  rw [hsz]
  refine wpAny_bind (wpAny_holding (wpAny_call_entry_kw slot_list_sort ⟨_, copyHeap_at s.heap vs, rfl⟩ entry_list_sort ?body (ha2 _)))
  case body =>
    show wpAny (model prog w) A.in1.in1 (Builtin.«list.sort» ⟨[.ref (s.heap.objs.size + 1)], kw⟩) _ _ _
    refine wpAny_mono (body _) (fun f s' hf => ?_) fun _ _ e => e
    obtain ⟨rfl, hq⟩ := hf
    exact ⟨_, rfl, wpAny_pure ⟨_, rfl, hq⟩⟩
theorem sorted_vals {l : Addr} {vs : List Value} {Q : Value → Shared → Prop} (hl : s.heap.IsTuple l vs.toArray) (S : SortsAt prog w A.in1.in1 { s with heap := sortingHeap (copyHeap s.heap vs) (s.heap.objs.size + 1) vs } κ vs) (hL : vs.length ≤ sizeLine)
    (h : Q (.ref (s.heap.objs.size + 1)) { s with heap := sortedAll s.heap vs (sortVals κ false vs vs).toArray }) : wpAny (model prog w) A (call (.builtin "sorted") [.ref l]) Q E s :=
  sorted_of hl hL (args_sorted1 _) (fun _ => args_list_sort _) fun _ => list_sort_vals (s := { s with heap := copyHeap s.heap vs }) (copyHeap_at s.heap vs) S hL ⟨rfl, h⟩
theorem sorted_data {l : Addr} {Q : Value → Shared → Prop} (hl : s.heap.IsTuple l vs.toArray) (e : EachIs R vs bs) (er : EachIs (fun v b => ∃ as, Reads s.heap v (enc b) as) vs bs) (hal : AllAlike (bs.map enc)) (hk : Sortable (bs.map enc)) (hL : bs.length ≤ sizeLine)
    (hu : ∀ b, b ∈ bs → A.units + 2 + (enc b).depth < cLine) (h : ∀ out, out.length = bs.length → EachIs R out (bs.mergeSort (dataLe false enc)) → Q (.ref (s.heap.objs.size + 1)) { s with heap := sortedAll s.heap vs (List.toArray out) }) :
    wpAny (model prog w) A (call (.builtin "sorted") [.ref l]) Q E s := by
  have er' : EachIs (fun v b => ∃ as, Reads (sortingHeap (copyHeap s.heap vs) (s.heap.objs.size + 1) vs) v (enc b) as) vs bs := er.mono fun _ _ ⟨as, r⟩ => ⟨as, PyProof.Rows.Reads.keeps (fun _ _ => sorting_copy_old) r⟩
  exact sorted_vals hl (SortsAt.data (s := { s with heap := sortingHeap (copyHeap s.heap vs) (s.heap.objs.size + 1) vs }) (each_map (R := fun v d => ∃ as, Reads (sortingHeap (copyHeap s.heap vs) (s.heap.objs.size + 1) vs) v d as) enc er') hal hk (bound_map hu)) (by rw [e.length]; exact hL)
    (h _ (by rw [sortVals_length false rfl]; exact e.length) (sortVals_data false e er' hal))
end
end DLT2
namespace DL
open PySem PySem.Spec PyProof.Rows L2
/-- sorted of a list, and of a tuple of ints or rows -/
def oSortT : List Dat → Option Dat
  | [.tup xs] => if xs.all isI || xs.all isRow then some (.lst (xs.mergeSort leD)) else none
  | l => oSortG l
section
variable {X : Cx} {T : List (Addr × Str)}
theorem cd_sortT (hu : X.A.units + 64 < cLine) : CD X T (.builtin "sorted") oSortT := by
  intro pins s σ H vs us Q I r ⟨G, M, ds, z, hh, rr, e, kq⟩
  unfold oSortT at e
  split at e
  · split at e
    · rename_i xs hc
      cases e
      obtain ⟨v, rfl, rv⟩ := one_case rr
      rw [Bool.or_eq_true] at hc
      have hrow : ∀ d ∈ xs, isI d = true ∨ isRow d = true := fun d hd => hc.elim (fun h => .inl (List.all_eq_true.mp h d hd)) fun h => .inr (List.all_eq_true.mp h d hd)
      have hdk : ∀ d ∈ xs, dok 1 d = true := fun d hd => dok_row (hrow d hd)
      cases rv with
      | tup ha hl rl =>
        rw [Vals.ref1 r]
        obtain ⟨its, rv, pl, hz⟩ := I.tuple (sqT_mono hh.sub ha)
        have hal : PySem.W.AllAlike (xs.map py) := by
          intro d hd d' hd'
          obtain ⟨b, hb, rfl⟩ := List.mem_map.mp hd
          obtain ⟨b', hb', rfl⟩ := List.mem_map.mp hd'
          rcases hc with hc | hc
          · obtain ⟨i, rfl⟩ := isI_int (List.all_eq_true.mp hc b hb)
            obtain ⟨j, rfl⟩ := isI_int (List.all_eq_true.mp hc b' hb')
            simp [py, PySem.W.alike]
          · obtain ⟨n, ns, rfl⟩ := isRow_tup (List.all_eq_true.mp hc b hb)
            obtain ⟨m, ms, rfl⟩ := isRow_tup (List.all_eq_true.mp hc b' hb')
            simp only [py, pyL_ints, PySem.W.alike]
            exact PySem.W.alike_ints _ _
        have hk : PySem.W.Sortable (xs.map py) := by
          rcases hc with hc | hc
          · refine .inr fun d hd => ?_
            obtain ⟨b, hb, rfl⟩ := List.mem_map.mp hd
            obtain ⟨i, rfl⟩ := isI_int (List.all_eq_true.mp hc b hb)
            exact ⟨by simp [py], fun xs => by simp [py]⟩
          · refine .inl fun d hd => ?_
            obtain ⟨b, hb, rfl⟩ := List.mem_map.mp hd
            obtain ⟨n, ns, rfl⟩ := isRow_tup (List.all_eq_true.mp hc b hb)
            exact ⟨.int n, ns.map .int, by simp only [py, pyL_ints]; rfl⟩
        have el := rl.length
        have ev := rv.length
        refine DLT2.sorted_data (R := fun v d => ∃ x, RelV x v ∧ Rep X.K G x d) pl (each_rep rl rv) (each_reads I hh.sub rl rv hdk) hal hk hl (fun b hb => ?_) fun out hlen eo => ?_
        · have := (dok_py 1 b (hdk b hb)).2
          omega
        · obtain ⟨vs', a1, a2⟩ := rep_each eo
          obtain ⟨ep, he'⟩ := PyProof.Rows.sortedAll_at s.heap its out.toArray
          have hl' : (xs.mergeSort leD).length ≤ sizeLine := by rw [List.length_mergeSort]; exact hl
          have hf : H (s.heap.objs.size + 1) = none := I.hok.fresh (Nat.le_succ _)
          obtain ⟨G', t2, h2, r2⟩ := hh.newL hf hl' a2
          exact ⟨.ref _, upd H (s.heap.objs.size + 1) (.lst vs'), I.laid (t' := s.toks) (fun _ _ => PyProof.Rows.sortedAll_old) (Nat.le_succ _) ⟨by rw [a2.length]; exact hl', out, ep, a1, he'⟩, rfl, kq _ _ G' t2 h2 r2⟩
    · cases e
  · exact cd_sortG hu pins s σ H vs us Q I r ⟨G, M, ds, z, hh, rr, e, kq⟩
end
end DL

end
section
set_option Elab.async false
set_option linter.all false
set_option maxRecDepth 100000
set_option maxHeartbeats 4000000
/-! DL, part 34: a comprehension of two clauses given to a name; dict(list of pairs). -/
namespace DL
open PySem PySem.Spec PyProof.Rows L2
section
variable {X : Cx} {T : List (Addr × Str)} {W : WX}
variable {elt tg iter tg1 iter1 : Expr} {ifs ifs1 : List Expr} {scope : Scope} {own : List (Str × Nat)} {pos : Pos} {di di1 : DTA} {dt dt1 : DTT} {de : DTE} {is is1 vs1 : List Nat} {g g1 : DGt} {fi fi1 : FA} {ft ft1 : FT} {fe : FE}
theorem ds_setLc2 {i : Nat} {y : Str} {py spos : Pos} (hc : X.calm = true) (hN : X.N.Nodup) (hi : DI X T W di tg iter) (ok : BlkOk X.N X.env.scope scope own) (hv : ∀ i ∈ vs1, i ∈ own.map (·.2)) (hg : Blk X scope fun Y => DG Y T is g tg) (ht : Blk X scope fun Y => DTs Y T W0 dt ifs)
    (hi1 : Blk X scope fun Y => DI Y T W0 di1 tg1 iter1) (hg1 : Blk X scope fun Y => DG Y T is1 g1 tg1) (ht1 : Blk X scope fun Y => DTs Y T W0 dt1 ifs1) (he : Blk X scope fun Y => DE Y T W0 de elt)
    (hsub : ∀ k ∈ is, k ∈ own.map (·.2)) (hsub1 : ∀ k ∈ is1, k ∈ vs1) (hsw : swapsWith (.ListComp elt [⟨tg, iter, ifs, 0⟩, ⟨tg1, iter1, ifs1, 0⟩] scope pos) (some (.Name y py)) spos.line X.env = pure true) (hy : X.N[i]? = some y := by rfl) (hyl : X.env.scope.names.lookup y = some .local := by rfl) (hs : ∀ x, foldedSetIterable iter X.env x = pure x := by intro _; rfl) (hs1 : ∀ env x, foldedSetIterable iter1 env x = pure x := by intro _ _; rfl) :
    DS X T W (dSet i (dLc2 di g dt di1 g1 dt1 de (own.map (·.2)) vs1)) (.Assign [.Name y py] (.ListComp elt [⟨tg, iter, ifs, 0⟩, ⟨tg1, iter1, ifs1, 0⟩] scope pos) spos) :=
  PS.weak (ps_setLc2 hc hN hy hyl hsw hi ok hv hg ht hi1 hg1 ht1 he hs hs1) fun _ _ _ h => set_imp (fun _ _ _ q => lc2_imp hsub hsub1 q) h
theorem dsp_setLc2 {i : Nat} {y : Str} {py spos : Pos} (hc : X.calm = true) (hN : X.N.Nodup) (hi : DI X T W (purA fi) tg iter) (ok : BlkOk X.N X.env.scope scope own) (hv : ∀ i ∈ vs1, i ∈ own.map (·.2)) (hg : Blk X scope fun Y => DG Y T is g tg) (ht : Blk X scope fun Y => DTs Y T W0 (purT ft) ifs)
    (hi1 : Blk X scope fun Y => DI Y T W0 (purA fi1) tg1 iter1) (hg1 : Blk X scope fun Y => DG Y T is1 g1 tg1) (ht1 : Blk X scope fun Y => DTs Y T W0 (purT ft1) ifs1) (he : Blk X scope fun Y => DE Y T W0 (pur fe) elt)
    (hsub : ∀ k ∈ is, k ∈ own.map (·.2)) (hsub1 : ∀ k ∈ is1, k ∈ vs1) (hsw : swapsWith (.ListComp elt [⟨tg, iter, ifs, 0⟩, ⟨tg1, iter1, ifs1, 0⟩] scope pos) (some (.Name y py)) spos.line X.env = pure true) (hy : X.N[i]? = some y := by rfl) (hyl : X.env.scope.names.lookup y = some .local := by rfl) (hs : ∀ x, foldedSetIterable iter X.env x = pure x := by intro _; rfl) (hs1 : ∀ env x, foldedSetIterable iter1 env x = pure x := by intro _ _; rfl) :
    DS X T W (purS (fSet i (fLc2 fi g ft fi1 g1 ft1 fe (own.map (·.2)) vs1))) (.Assign [.Name y py] (.ListComp elt [⟨tg, iter, ifs, 0⟩, ⟨tg1, iter1, ifs1, 0⟩] scope pos) spos) :=
  ds_weak (ds_setLc2 hc hN hi ok hv hg ht hi1 hg1 ht1 he hsub hsub1 hsw hy hyl hs hs1) fun D ρ M h => fLc2_imp fi g ft fi1 g1 ft1 fe _ _ ρ M _ _ (fSet_imp i _ D ρ M h)
end
/-! ### dict(list of pairs) -/
def pairD : Dat → Option (Key × Dat)
  | .tup [k, v] => (keyD k).map fun q => (q, v)
  | _ => none
def pairsD : List Dat → Option (List (Key × Dat))
  | [] => some []
  | d :: ds => (pairD d).bind fun p => (pairsD ds).map fun ps => p :: ps
def mergeD (acc : List (Key × Dat)) (more : List (Key × Dat)) : List (Key × Dat) := more.foldl (fun acc kv => putD acc kv.1 kv.2) acc
def dDict (l : DTA) : DTE := fun ρ M Q E => l ρ M (fun xs M1 => ∃ ds kvs, xs = [.lst ds] ∧ pairsD ds = some kvs ∧ ∀ p, M1 p = none → Q (.ref p) (dupd M1 p (.dct (mergeD [] kvs)))) E
section
variable {K : PySem.W.Frag} {G H : Hp} {T : List (Addr × Str)} {M : DM}
theorem pairs_rep (sb : Sub G H) : ∀ {ds : List Dat} {ws : List V} {kvs : List (Key × Dat)}, RepL K G ws ds → pairsD ds = some kvs → ∃ (ps : List Addr) (vs : List (Key × V)), ws = ps.map V.ref ∧ Paired (fun p (kv : Key × V) => SqT K H p [kV kv.1, kv.2]) ps vs ∧ DRep K G vs kvs ∧ kvs.length = ds.length
  | [], _, _, .nil, e => by cases e; exact ⟨[], [], rfl, .nil, .nil, rfl⟩
  | d :: ds, _, _, .cons r t, e => by
    unfold pairsD at e
    obtain ⟨q, eq, e⟩ := Option.bind_eq_some_iff.mp e
    obtain ⟨kvs', e', rfl⟩ := Option.map_eq_some_iff.mp e
    obtain ⟨ps, vs, h1, h2, h3, h4⟩ := pairs_rep sb t e'
    unfold pairD at eq
    split at eq
    · rename_i k v
      obtain ⟨ky, ek, rfl⟩ := Option.map_eq_some_iff.mp eq
      cases r with
      | tup ha hl rl =>
        rename_i a ws'
        cases rl with
        | cons r1 t1 =>
          cases t1 with
          | @cons v2 _ _ _ r2 t2 =>
            cases t2
            have e1 := keyD_rep ek r1
            subst e1
            exact ⟨a :: ps, (ky, v2) :: vs, by rw [h1]; rfl, .cons (sqT_mono sb ha) h2, .cons ⟨rfl, r2⟩ h3, by rw [List.length_cons, List.length_cons, h4]⟩
    · cases eq
theorem DRep.nil' : DRep K G [] [] := .nil
theorem DRep.merge : ∀ {ms : List (Key × V)} {mk : List (Key × Dat)} {vs : List (Key × V)} {kvs : List (Key × Dat)}, DRep K G ms mk → DRep K G vs kvs → DRep K G (mergeK vs ms) (mergeD kvs mk)
  | _, _, _, _, .nil, h => h
  | _, _, _, _, .cons a t, h => by
    unfold mergeK mergeD
    rw [List.foldl_cons, List.foldl_cons, a.1]
    exact DRep.merge t (DRep.put a.2 h)
theorem length_mergeD : ∀ (mk kvs : List (Key × Dat)), (mergeD kvs mk).length ≤ kvs.length + mk.length
  | [], kvs => by simp [mergeD]
  | m :: mk, kvs => by
    have h := length_mergeD mk (putD kvs m.1 m.2)
    have g := length_putD kvs m.1 m.2
    unfold mergeD at h ⊢
    rw [List.foldl_cons, List.length_cons]
    omega
theorem Hld.newDs (h : Hld K T H G M) {p : Addr} (n : H p = none) {vs : List (Key × V)} {kvs : List (Key × Dat)} (l : kvs.length ≤ sizeLine) (r : DRep K G vs kvs) :
    Hld K T (upd H p (.dK vs)) G (dupd M p (.dct kvs)) ∧ Tr H G M (upd H p (.dK vs)) G (dupd M p (.dct kvs)) := by
  obtain ⟨g, m⟩ := h.free n
  refine ⟨⟨fun a u e => sub_upd n a u (h.sub a u e), h.nt, fun a u e => ?_, fun a u e => ?_, h.tab.ext (sub_upd n)⟩, ⟨fun _ _ e => e, fun a u e q _ => ?_⟩⟩
  · by_cases hp : a = p
    · subst hp; rw [dupd_same] at e; cases e; exact ⟨vs, upd_same, l, r⟩
    · rw [dupd_ne hp] at e; exact (h.mem a u e).mono (fun _ _ z => z) (upd_ne hp)
  · by_cases hp : a = p
    · subst hp; exact g
    · rw [dupd_ne hp] at e; exact h.off a u e
  · have hp : a ≠ p := ne_of_none e n
    rw [upd_ne hp, dupd_ne hp]; exact ⟨e, q, fun z => z⟩
end
section
variable {X : Cx} {T : List (Addr × Str)} {W : WX} {dl : DTA} {e : Expr} {es : List Expr} {pos : Pos}
theorem de_dict {x : Str} {p : Pos} (hc : X.calm = true) (hm : X.mg x = none) (ha : DA X T W dl (e :: es)) (hv : bootBuiltins x = some (.type "dict") := by decide +kernel) (hg : Gl X x := by rfl)
    (hn : x ≠ "__name__" := by decide) (hdb : (x == ("__debug__" : Str)) = false := by decide)
    (hs : starEach (e :: es) X.env = (false, eval e X.env) :: starEach es X.env := by rfl) (hpl : (backTo pos (starEach es X.env)).any (·.1) = false := by rfl) : DE X T W (dDict dl) (.Call (.Name x p) (e :: es) [] pos) := by
  refine PE.weak (pe_callTy (call_dictP hc) hg hm hv ha hn hdb hs hpl) fun σ H Q ⟨G, M, ρ, QD, ED, h, r, hd, kq, ke⟩ => ?_
  refine cA_mk h r _ ED hd (fun vs H1 G1 M1 xs t1 h1 r1 q1 => ?_) ke
  obtain ⟨ds, kvs, rfl, ep, q⟩ := q1
  cases r1 with
  | cons ra rt =>
    cases rt
    cases ra with
    | lst ha hl rl =>
      rename_i a ws
      obtain ⟨ps, vs', rfl, h2, h3, h4⟩ := pairs_rep h1.sub rl ep
      refine ⟨a, ps, vs', rfl, sqL_mono h1.sub ha, h2, fun p hp => ?_⟩
      have hm := DRep.merge h3 (DRep.nil' (K := X.K) (G := G1))
      have hz : (mergeD [] kvs).length ≤ sizeLine := by
        have := length_mergeD kvs []
        simp at this
        omega
      obtain ⟨h5, t5⟩ := h1.newDs hp hz hm
      exact kq _ _ G1 _ _ (t1.trans t5) h5 (.ref p) (q p (h1.free hp).2)
end
end DL

end
section
set_option Elab.async false
set_option linter.all false
set_option maxRecDepth 100000
set_option maxHeartbeats 4000000
/-! DL, part 35: max of a tuple, enumerate of a tuple. -/
namespace DLE
open PySem PySem.Spec PyProof.Rows
open AutoSeq1 (wpAny_loadPart')
theorem meets_enumerate_newT (l : Addr) (items : Array Value) (n : Nat) (dct : Option Addr) (sl : Array (Option Value)) :
    Meets (Builtin.«enumerate.__new__» ⟨[.type "enumerate", .ref l], []⟩) (fun _ R s => s.heap.get? l = some { cls := .type "tuple", dict := dct, data := .seq items n, slots := sl } ∧
      R (.ok (.ret (.ref (s.heap.push { cls := .type "tuple_iterator", data := .fields #[.ref l, .int 0 0] }).objs.size)))
        { s with heap := (s.heap.push { cls := .type "tuple_iterator", data := .fields #[.ref l, .int 0 0] }).push { cls := .type "enumerate", data := .fields #[.none, .bool false, .ref s.heap.objs.size, rawInt 0, .none, .none] } }) :=
  .of_wp fun prog w A R s h => by
    obtain ⟨hp, g, d, tk, os⟩ := s; obtain ⟨hl, h⟩ := h
    have hsub := sub_enumerate
    have hL : Heap.IsTuple (Shared.heap ⟨hp, g, d, tk, os⟩) l items := ⟨_, hl, rfl, n, rfl⟩
    wp_walk using wpAny_loadPart' hl
    refine wpAny_stack_any fun st => wpAny_pure ?_
    split
    · rename_i c _ _ _ _ _
      cases (c == Value.type "enumerate")
      · wp_walk using wpAny_loadPart' hl, wpAny_pyIter_tuple hL
        exact ⟨_, rfl, h⟩
      · wp_walk using wpAny_loadPart' hl, wpAny_pyIter_tuple hL
        exact ⟨_, rfl, h⟩
    · wp_walk using wpAny_loadPart' hl, wpAny_pyIter_tuple hL
      exact ⟨_, rfl, h⟩
section
variable {prog : Program} {w : World} {A : Around} {E : Value → Shared → Prop} {s : Shared}
theorem call_enumerate_tuple {l : Addr} {items : Array Value} {Q : Value → Shared → Prop} (hL : s.heap.IsTuple l items)
    (h : ∀ h', IsEnum h' (s.heap.objs.size + 1) s.heap.objs.size 0 .none → h'.IsTupleIter s.heap.objs.size l 0 → h'.objs.size = s.heap.objs.size + 2 →
      (∀ b o, s.heap.get? b = some o → h'.get? b = some o) → Q (.ref (s.heap.objs.size + 1)) { s with heap := h' }) :
    wpAny (model prog w) A (call (.type "enumerate") [.ref l]) Q E s := by
  obtain ⟨⟨c, dct, dt, sl⟩, hl, hc, n, hd⟩ := hL
  replace hc : c = .type "tuple" := hc
  replace hd : dt = .seq items n := hd
  subst hc hd
  refine callType_new F.called_enumerate (by decide) (F.typeCall_enumerate_1 _) (F.newCall_enumerate_1 _) (fun obj => F.args_object_init_2 obj _) F.entry_enumerate_new
    (meets_enumerate_newT l items n dct sl) ⟨hl, ?_⟩
  have hz : (s.heap.push { cls := .type "tuple_iterator", data := .fields #[.ref l, .int 0 0] }).objs.size = s.heap.objs.size + 1 := Heap.size_push ..
  show _ ∧ _
  rw [hz]
  have he : IsEnum ((s.heap.push { cls := .type "tuple_iterator", data := .fields #[.ref l, .int 0 0] }).push
      { cls := .type "enumerate", data := .fields #[.none, .bool false, .ref s.heap.objs.size, rawInt 0, .none, .none] }) (s.heap.objs.size + 1) s.heap.objs.size 0 .none := by
    have := Heap.get?_push_size (s.heap.push { cls := .type "tuple_iterator", data := .fields #[.ref l, .int 0 0] })
      (o := { cls := .type "enumerate", data := .fields #[.none, .bool false, .ref s.heap.objs.size, rawInt 0, .none, .none] }) rfl
    rw [hz] at this; exact this
  refine ⟨⟨_, he, rfl⟩, h _ he ⟨_, Heap.get?_push_of_some _ (Heap.get?_push_size _ rfl), rfl, rfl⟩ (by rw [Heap.size_push, hz]) fun b o x => Heap.get?_push_of_some _ (Heap.get?_push_of_some _ x)⟩
end
end DLE
namespace DL
open PySem PySem.Spec PyProof.Rows L2
def oMaxT : List Dat → Option Dat
  | [.tup xs] => (dints xs).bind fun ns => match ns with
    | [] => none
    | n :: r => some (.int (r.foldl max n))
  | l => oMax l
section
variable {X : Cx} {T : List (Addr × Str)}
theorem cd_maxT (hc : X.calm = true) (hu : X.A.units + 64 < cLine) : CD X T (.builtin "max") oMaxT := by
  intro pins s σ H vs us Q I r ⟨G, M, ds, z, hh, rr, e, kq⟩
  unfold oMaxT at e
  split at e
  · rename_i xs
    obtain ⟨ns, en, e5⟩ := Option.bind_eq_some_iff.mp e
    have ex := dints_some en
    subst ex
    cases ns with
    | nil => cases e5
    | cons n t =>
      have e4 := Option.some.inj e5
      subst e4
      obtain ⟨v, rfl, rv⟩ := one_case rr
      cases rv with
      | tup ha hl rl =>
        rw [Vals.ref1 r]
        obtain ⟨its, rv, pl, hz⟩ := I.tuple (sqT_mono hh.sub ha)
        have hdk : ∀ d ∈ ((n :: t).map Dat.int), dok 3 d = true := fun d hd => by
          obtain ⟨i, _, rfl⟩ := List.mem_map.mp hd
          rfl
        obtain ⟨as, ra⟩ := pyL_readsAll I hh.sub rl rv hdk
        have ep : ((n :: t).map Dat.int).map py = PyData.int n :: t.map PyData.int := by rw [List.map_map]; rfl
        rw [ep] at ra
        have hall : PySem.W.AllAlike (PyData.int n :: t.map PyData.int) := by
          intro d hd d' hd'
          rw [← List.map_cons] at hd hd'
          obtain ⟨i, _, rfl⟩ := List.mem_map.mp hd
          obtain ⟨j, _, rfl⟩ := List.mem_map.mp hd'
          simp [PySem.W.alike]
        refine PySem.W.max_tuple_data (x := PyData.int n) (xs := t.map PyData.int) (I.ok.hd hc) pl (by simpa using ra) ⟨hall, fun d hd => ?_⟩ ?_ fun i v h' tk bs hi rv' hk => ?_
        · rw [← List.map_cons] at hd
          obtain ⟨j, _, rfl⟩ := List.mem_map.mp hd
          exact fun q => nomatch q
        · have := depth_all ((n :: t).map Dat.int) 3 hdk
          rw [ep] at this
          omega
        · have hi' : its[i]? = some v := by simpa using hi
          obtain ⟨V, hV, rV⟩ := vals_back rv hi'
          obtain ⟨d, hd, rd⟩ := rl.get' hV
          have dm : d ∈ (n :: t).map Dat.int := List.mem_of_getElem? hd
          obtain ⟨j, hj, rfl⟩ := List.mem_map.mp dm
          have I2 : Inv X pins σ H { s with heap := h', toks := tk } := I.kept (t' := tk) hk
          obtain ⟨cs, r1⟩ := Dp.reads I2 _ _ _ (rd.dp hh.sub 3 (hdk _ dm)) rV
          rw [PySem.W.maxD_ints] at rv'
          have e := PySem.W.alike_unique _ _ _ _ _ (by simp [py, PySem.W.alike]) r1 rv'
          have e2 : j = t.foldl max n := by simpa [py] using e
          rw [e2] at rd
          exact ⟨V, H, I2, rV, kq V H G (Tr.refl ..) hh rd⟩
  · exact cd_max hc pins s σ H vs us Q I r ⟨G, M, ds, z, hh, rr, e, kq⟩
end
/-! ### enumerate of a tuple -/
def IteT (K : PySem.W.Frag) (a : Addr) : It :=
  ⟨fun i H => ∃ (xs : List V) (x : V), SqT K H a xs ∧ xs[i]? = some x, fun i H v H' => ∃ T x, v = .ref T ∧ H T = none ∧ H' = upd H T (.tup [.int (i : Nat), x]) ∧ ∀ xs, SqT K H a xs → xs[i]? = some x, fun i H => ∃ xs : List V, SqT K H a xs ∧ xs.length ≤ i⟩
theorem turn_enumT {P : Program} {w : World} {K : PySem.W.Frag} {elts : List Expr} {kk : Nat} {tpos : Pos} (a e it : Addr) :
    Turn P w K (.Tuple elts kk tpos) (IteT K a) [e, it] e (fun i h => (∃ old, IsEnum h e it ((i : Nat) : Int) old) ∧ h.IsTupleIter it a i ∧ e ≠ it ∧ a ≠ e ∧ a ≠ it) where
  mem := by simp
  obj := fun i h st b hb => by
    obtain ⟨⟨old, he⟩, ⟨o, ho, hc, hd⟩, _⟩ := st
    have e' : b = e ∨ b = it := by simpa using hb
    rcases e' with z | z
    · rw [z]; exact ⟨_, he, fun v q => nomatch q⟩
    · rw [z]; exact ⟨o, ho, fun v q => by rw [hd] at q; cases q⟩
  keep := fun i h h' st k => let ⟨⟨old, he⟩, hi, hne⟩ := st; ⟨⟨old, k e (by simp) _ he⟩, hi.at fun o q => k it (by simp) o q, hne⟩
  item := by
    intro X hP hw hK hc i pins s σ H E I hf st hg
    subst hP hw hK
    obtain ⟨⟨old, he⟩, hit, hne, hae, hai⟩ := st
    obtain ⟨xs, x, hq, hx⟩ := hg
    obtain ⟨its, rv, p, hz⟩ := I.tuple hq
    obtain ⟨u, hu, ru⟩ := rv.get hx
    have hel : e < s.heap.objs.size := Heap.lt_size he
    have hil : it < s.heap.objs.size := by obtain ⟨_, q, _⟩ := hit; exact Heap.lt_size q
    have hlt : i < its.toArray.size := by
      rcases Nat.lt_or_ge i its.length with z | z
      · simpa using z
      · rw [List.getElem?_eq_none z] at hu; cases hu
    refine PySem.wpAny_pyNext_enum_itemC (n := its.toArray.size) (P := fun i v => its.toArray[i]? = some v) (St := fun i h => h.IsTupleIter it a i ∧ h.IsTuple a its.toArray) (PySem.Draws.tuple (A := X.A.in1) (I.ok.hd hc) it a hai its.toArray) he ⟨hit, p⟩ hlt hne (by simp [hne, Ne.symm hae]) fun u' h' tk hP' ho hst' hT hsz hk => ?_
    have eu : u' = u := by
      have : its.toArray[i]? = some u := by simpa using hu
      rw [this] at hP'
      exact (Option.some.inj hP').symm
    subst eu
    obtain ⟨hit', _⟩ := hst'
    refine ⟨_, rfl, wpAny_letOwnedTupleGo_enum (s := { s with heap := h', toks := tk + 1 }) ho fun h'' he' sb => ?_⟩
    have hT2 : h''.get? s.heap.objs.size = some { cls := .type "tuple", data := .seq #[.int i tk, u'] } := (sb.2 _ (Nat.ne_of_gt hel)).trans hT
    have new : ObjOk X.prog X.w (upd H s.heap.objs.size (.tup [.int (i : Nat), x])) h'' s.heap.objs.size (.tup [.int (i : Nat), x]) :=
      ⟨by show 2 ≤ sizeLine; decide, [.int i tk, u'], .cons ⟨_, rfl⟩ (.cons ru .nil), ⟨_, hT2, rfl, _, rfl⟩⟩
    have I1 : Inv X pins σ (upd H s.heap.objs.size (.tup [.int (i : Nat), x])) { s with heap := h'', toks := tk + 1 } :=
      I.turnedNew (ch := [e, it]) (fun b ob hb q => (sb.2 b (fun z => hb (by simp [z]))).trans (hk b ob (fun z => hb (by simp [z])) (fun z => hb (by simp [z])) q)) hf (Nat.le_refl _) new
    refine ⟨.ref s.heap.objs.size, _, I1, rfl, ⟨_, x, rfl, I.hok.fresh (Nat.le_refl _), rfl, fun ys hy => by rw [I.tuple_inj hy hq]; exact hx⟩, ⟨⟨u', ?_⟩, hit'.at fun o q => (sb.2 it (Ne.symm hne)).trans q, hne, hae, hai⟩, fun b hb => ?_⟩
    · have e1 : ((i + 1 : Nat) : Int) = (i : Int) + 1 := by omega
      rw [e1]; exact he'
    · have hb' : b < s.heap.objs.size := by
        have e' : b = e ∨ b = it := by simpa using hb
        rcases e' with z | z
        · rw [z]; exact hel
        · rw [z]; exact hil
      rw [upd_ne (Nat.ne_of_lt hb')]
      exact (hf b hb).1
  done := by
    intro X hP hw hK hc i pins s σ H E I hf st hg
    subst hP hw hK
    obtain ⟨⟨old, he⟩, hit, hne, hae, hai⟩ := st
    obtain ⟨xs, hq, hx⟩ := hg
    obtain ⟨its, rv, p, hz⟩ := I.tuple hq
    obtain ⟨f0, f1, f2, f3, f4, f5⟩ := hf it (by simp)
    have hl := rv.length
    have hT : s.TypeIs (.ref e) "enumerate" := ⟨_, he, rfl⟩
    unfold pyNext
    refine wpAny_bind (wpAny_attempt (wpAny_callSpecial?_slot (name := Str.ofString "__next__") hT F.slot_enumerate_next
      (wpAny_call_entry F.slot_enumerate_next hT F.entry_enumerate_next ?_ (F.args_enumerate_next_1 _))))
    show wpAny _ _ (field (.ref e) 2 >>= _) _ _ _
    refine wpAny_bind (wpAny_field he rfl (x := .ref it) rfl ?_)
    refine wpAny_bind (wpAny_nextOf_tuple_end (I.ok.hd hc) hit p (by simp; omega) fun h' x he' hx' => ?_)
    obtain ⟨o, ho, hc⟩ := hx'
    refine wpAny_bind (wpAny_isInstance (T := "StopIteration") (b := true) ⟨o, ho, hc⟩ isSubtype_stop ?_)
    exact wpAny_pure ⟨rfl, I.turned (t' := s.toks) (fun b o hb q => he' b o hb q) f0 f1 f3 f4 f5⟩
  self := fun A i s Q E st h => let ⟨⟨_, he⟩, _⟩ := st; wpAny_pyIter_enum he h
def iEnumT (K : PySem.W.Frag) (ta : TA) : TI := fun σ H R => ta σ H fun vs H1 => ∃ a xs, vs = [.ref a] ∧ SqT K H1 a xs ∧ R (IteT K a) H1
theorem pi_enumT {X : Cx} {e : Expr} {ta : TA} {p pos tpos : Pos} {elts : List Expr} {kk : Nat} (hg : Gl X "enumerate") (hm : X.mg "enumerate" = none) (ha : PA X [e] ta) (hs : starEach [e] X.env = [(false, eval e X.env)] := by rfl) :
    PI X (.Tuple elts kk tpos) (.Call (.Name "enumerate" p) [e] [] pos) (iEnumT X.K ta) := by
  refine ⟨fun pins s σ H R I h => ?_⟩
  refine Call_ (ld_blt I hg hm boot_enumerate (PyProof.Rows.callWith_type1 (thn (ha.run pos pins s σ H _ I h) fun us s1 ⟨vs, H1, I1, r1, q1⟩ => ?_) hs rfl))
  obtain ⟨a, xs, ex, hq, q⟩ := q1
  subst ex
  cases r1 with
  | cons r rr =>
    cases rr
    cases r
    obtain ⟨its, rv, p', hz⟩ := I1.tuple hq
    have hal : a < s1.heap.objs.size := by obtain ⟨_, q, _⟩ := p'; exact Heap.lt_size q
    refine DLE.call_enumerate_tuple p' fun h' he hit hsz hk => wpAny_pyIter_enum he ?_
    have I2 : Inv X pins σ H1 { s1 with heap := h' } := I1.kept (t' := s1.toks) hk
    refine ⟨s1.heap.objs.size + 1, [s1.heap.objs.size + 1, s1.heap.objs.size], _, _, H1, rfl, I2, turn_enumT a (s1.heap.objs.size + 1) s1.heap.objs.size, ⟨⟨.none, he⟩, hit, Nat.succ_ne_self _, Nat.ne_of_lt (Nat.lt_succ_of_lt hal), Nat.ne_of_lt hal⟩, fun b hb => ?_, q⟩
    have e' : b = s1.heap.objs.size + 1 ∨ b = s1.heap.objs.size := by simpa using hb
    have hle : s1.heap.objs.size ≤ b := by
      rcases e' with z | z
      · rw [z]; exact Nat.le_add_right _ _
      · rw [z]; exact Nat.le_refl _
    exact I1.fpOk hle (I1.hok.fresh hle)
def oEnumT : List Dat → Option (List Dat)
  | [.tup xs] => some ((xs.zipIdx).map fun p => .tup [.int (p.2 : Nat), p.1])
  | _ => none
section
variable {X : Cx} {T : List (Addr × Str)} {W : WX} {l : DTA} {fl : FA} {a : Expr} {pos : Pos}
theorem ItOf.enumT {K : PySem.W.Frag} {a : Addr} {G' : Hp} {vs : List V} {ds : List Dat} (h : Rd G' a (.tup vs)) (hl : ds.length ≤ sizeLine) (r : RepL K G' vs ds) : ItOf K T (IteT K a) G' ((ds.zipIdx).map fun p => .tup [.int (p.2 : Nat), p.1]) where
  len := by rw [List.length_map, List.length_zipIdx]; exact hl
  go := fun i H2 G2 M2 hi s h2 => by
    rw [List.length_map, List.length_zipIdx] at hi
    obtain ⟨v, hv, _⟩ := r.get (i := i) (List.getElem?_eq_getElem hi)
    exact ⟨vs, v, sqT_mono h2.sub (rd_mono s h), hv⟩
  stop := fun i H2 G2 M2 hi s h2 => by
    rw [List.length_map, List.length_zipIdx] at hi
    exact ⟨vs, sqT_mono h2.sub (rd_mono s h), by rw [r.length]; exact hi⟩
  yld := fun i H2 G2 M2 x H3 d hd s h2 y => by
    obtain ⟨p, v, rfl, hp, rfl, y1⟩ := y
    obtain ⟨dx, e1, rfl⟩ := enum_at hd
    obtain ⟨v', hv, rv⟩ := r.get e1
    have a1 := y1 vs (sqT_mono h2.sub (rd_mono s h))
    rw [hv] at a1
    cases a1
    exact pair_new h2 hp (.int _) (rv.mono s)
theorem di_enumT {p2 tpos : Pos} {elts : List Expr} {kk : Nat} (hm : X.mg "enumerate" = none) (hl : DA X T W l [a]) (hg : Gl X "enumerate" := by rfl) (hs : starEach [a] X.env = [(false, eval a X.env)] := by rfl) :
    DI X T W (dIt oEnumT l) (.Tuple elts kk tpos) (.Call (.Name "enumerate" p2) [a] [] pos) := by
  refine PI.weak (pi_enumT hg hm hl hs) fun σ H R ⟨G, M, ρ, QD, ED, hh, r, hd, kq, ke⟩ => ?_
  refine cA_mk hh r _ ED hd (fun vs H' G' M' xs t h' r' q => ?_) ke
  cases e : oEnumT xs with
  | none => rw [e] at q; exact q.elim
  | some ys =>
    rw [e] at q
    unfold oEnumT at e
    split at e
    · cases e
      obtain ⟨v, rfl, rv⟩ := one_case r'
      cases rv
      rename_i ha hla rla
      exact ⟨_, _, rfl, sqT_mono h'.sub ha, kq _ H' G' M' _ t h' (ItOf.enumT ha hla rla) q⟩
    · cases e
theorem dip_enumT {p2 tpos : Pos} {elts : List Expr} {kk : Nat} (hm : X.mg "enumerate" = none) (hl : DA X T W (purA fl) [a]) (hg : Gl X "enumerate" := by rfl) (hs : starEach [a] X.env = [(false, eval a X.env)] := by rfl) :
    DI X T W (purA (fIt oEnumT fl)) (.Tuple elts kk tpos) (.Call (.Name "enumerate" p2) [a] [] pos) := by rw [← dIt_pur]; exact di_enumT hm hl hg hs
end
end DL

end
section
set_option Elab.async false
set_option linter.all false
set_option maxRecDepth 100000
set_option maxHeartbeats 4000000
/-! Webs by plain lists. -/
namespace NH
open DL
def prs (p : Nat) : List II := (List.range p).flatMap fun (a : Nat) => ((List.range p).filter fun (b : Nat) => decide (a < b)).map fun (b : Nat) => ((a : Int), (b : Int))
theorem mem_prs {p : Nat} {x : II} : x ∈ prs p ↔ 0 ≤ x.1 ∧ x.1 < x.2 ∧ x.2 < p := by
  obtain ⟨a, b⟩ := x
  simp only [prs, List.mem_flatMap, List.mem_range, List.mem_map, List.mem_filter, decide_eq_true_eq, Prod.mk.injEq]
  constructor
  · rintro ⟨i, hi, j, ⟨hj, h⟩, rfl, rfl⟩
    omega
  · rintro ⟨h1, h2, h3⟩
    exact ⟨a.toNat, by omega, b.toNat, ⟨by omega, by omega⟩, by omega, by omega⟩
theorem prs_chain : ∀ p : Nat, p ≤ 7 → (prs p).Pairwise fun x y => cod x < cod y := by
  intro p hp
  match p, hp with
  | 0, _ => decide
  | 1, _ => decide
  | 2, _ => decide
  | 3, _ => decide
  | 4, _ => decide
  | 5, _ => decide
  | 6, _ => decide
  | 7, _ => decide
theorem prs_len : ∀ p : Nat, p ≤ 7 → (prs p).length ≤ 21 := by
  intro p hp
  match p, hp with
  | 0, _ => decide
  | 1, _ => decide
  | 2, _ => decide
  | 3, _ => decide
  | 4, _ => decide
  | 5, _ => decide
  | 6, _ => decide
  | 7, _ => decide
def hasI (i : Int) (x : II) : Bool := decide (x.1 = i) || decide (x.2 = i)
def cnt (i : Int) (ps : List II) : Nat := (ps.filter (hasI i)).length
/-- sides as predicates -/
def sg (S : Int → Bool) (i : Int) : Int := if S i then 1 else -1
def sumR (f : Int → Int) : Nat → Int
  | 0 => 0
  | p + 1 => sumR f p + f p
theorem sumR_add (f g : Int → Int) : ∀ p, sumR (fun i => f i + g i) p = sumR f p + sumR g p
  | 0 => rfl
  | p + 1 => by simp only [sumR, sumR_add f g p]; omega
theorem sumR_zero {f : Int → Int} : ∀ p : Nat, (∀ i : Int, 0 ≤ i → i < p → f i = 0) → sumR f p = 0
  | 0, _ => rfl
  | p + 1, h => by
    simp only [sumR]
    rw [sumR_zero p fun i h1 h2 => h i h1 (by omega), h p (by omega) (by omega)]
    rfl
theorem sumR_at (f : Int → Int) {a : Int} (h0 : 0 ≤ a) : ∀ p : Nat, a < p → sumR (fun i => if a = i then f i else 0) p = f a
  | 0, h => by omega
  | p + 1, h => by
    simp only [sumR]
    by_cases e : a = p
    · rw [sumR_zero p fun i h1 h2 => if_neg (by omega), if_pos e, e]; omega
    · rw [sumR_at f h0 p (by omega), if_neg e]; omega
theorem sumR_congr {f g : Int → Int} : ∀ p : Nat, (∀ i : Int, 0 ≤ i → i < p → f i = g i) → sumR f p = sumR g p
  | 0, _ => rfl
  | p + 1, h => by
    simp only [sumR]
    rw [sumR_congr p fun i h1 h2 => h i h1 (by omega), h p (by omega) (by omega)]
/-- each tie counts at both its places -/
theorem sum_cnt (f : Int → Int) {p : Nat} : ∀ {ps : List II}, (∀ x ∈ ps, 0 ≤ x.1 ∧ x.1 < x.2 ∧ x.2 < p) → sumR (fun i => f i * (cnt i ps : Int)) p = (ps.map fun x => f x.1 + f x.2).sum
  | [], _ => by
    simp only [List.map_nil, List.sum_nil]
    exact sumR_zero p fun i _ _ => by simp [cnt]
  | x :: ps, h => by
    have ih := sum_cnt f (p := p) (ps := ps) fun y hy => h y (List.mem_cons_of_mem _ hy)
    obtain ⟨h1, h2, h3⟩ := h x List.mem_cons_self
    rw [List.map_cons, List.sum_cons, ← ih]
    have e : sumR (fun i => f i * (cnt i (x :: ps) : Int)) p = sumR (fun i => ((if x.1 = i then f i else 0) + (if x.2 = i then f i else 0)) + f i * (cnt i ps : Int)) p := by
      refine sumR_congr p fun i _ _ => ?_
      have c : (cnt i (x :: ps) : Int) = (if x.1 = i then 1 else 0) + (if x.2 = i then 1 else 0) + cnt i ps := by
        unfold cnt hasI
        rw [List.filter_cons]
        by_cases e1 : x.1 = i
        · have e2 : ¬ x.2 = i := by omega
          simp [e1, e2]; omega
        · by_cases e2 : x.2 = i
          · simp [e1, e2]; omega
          · simp [e1, e2]
      rw [c]
      split <;> split <;> simp [Int.mul_add] <;> omega
    rw [e, sumR_add, sumR_add, sumR_at f h1 p (by omega), sumR_at f (by omega) p h3]
end NH

end
section
set_option Elab.async false
set_option linter.all false
set_option maxRecDepth 100000
set_option maxHeartbeats 4000000
namespace NH
open DL
def bothB (S : Int → Bool) (x : II) : Bool := S x.1 && S x.2
def noneB (S : Int → Bool) (x : II) : Bool := !S x.1 && !S x.2
theorem sg_sum (S : Int → Bool) : ∀ ps : List II, (ps.map fun x => sg S x.1 + sg S x.2).sum = 2 * ((ps.filter (bothB S)).length : Int) - 2 * ((ps.filter (noneB S)).length : Int)
  | [] => rfl
  | x :: ps => by
    rw [List.map_cons, List.sum_cons, sg_sum S ps, List.filter_cons, List.filter_cons]
    unfold sg bothB noneB
    cases S x.1 <;> cases S x.2 <;> simp <;> omega
theorem filter_mem {ps : List II} : ∀ {L : List II}, ps.Sublist L → L.Nodup → L.filter (fun x => decide (x ∈ ps)) = ps := by
  intro L h
  induction h with
  | slnil => intro _; rfl
  | @cons l1 l2 a h ih =>
    intro hn
    obtain ⟨h1, h2⟩ := List.nodup_cons.mp hn
    rw [List.filter_cons, if_neg (by simpa using fun z => h1 (h.mem z)), ih h2]
  | @cons_cons l1 l2 a h ih =>
    intro hn
    obtain ⟨h1, h2⟩ := List.nodup_cons.mp hn
    rw [List.filter_cons, if_pos (by simp)]
    congr 1
    rw [← ih h2]
    apply List.filter_congr
    intro x hx
    have : x ≠ a := fun e => h1 (e ▸ hx)
    rw [ih h2]
    simp [this]
theorem filter_split {α : Type} (P Q : α → Bool) : ∀ L : List α, (L.filter P).length = (L.filter fun x => P x && Q x).length + (L.filter fun x => P x && !Q x).length
  | [] => rfl
  | x :: L => by
    have ih := filter_split P Q L
    simp only [List.filter_cons]
    cases P x <;> cases Q x <;> simp <;> omega
theorem prs_nodup {p : Nat} (hp : p ≤ 7) : (prs p).Nodup := (prs_chain p hp).imp fun h e => by rw [e] at h; omega
theorem put_len {p : Nat} (hp : p ≤ 7) {ps : List II} (hs : ps.Sublist (prs p)) (P : II → Bool) : ((prs p).filter fun x => P x && !decide (x ∈ ps)).length + (ps.filter P).length = ((prs p).filter P).length := by
  rw [filter_split P (fun x => decide (x ∈ ps)) (prs p)]
  have e : (prs p).filter (fun x => P x && decide (x ∈ ps)) = ps.filter P := by
    rw [← List.filter_filter, filter_mem hs (prs_nodup hp)]
  rw [e]; omega
/-- a side of seven places by its bits -/
def bitS (b0 b1 b2 b3 b4 b5 b6 : Bool) (i : Int) : Bool := [b0, b1, b2, b3, b4, b5, b6].getD i.toNat false
def one (S : Int → Bool) (i : Int) : Int := if S i then 1 else 0
theorem bit_pairs : ∀ p : Fin 8, ∀ b0 b1 b2 b3 b4 b5 b6 : Bool, 2 * (((prs p).filter (bothB (bitS b0 b1 b2 b3 b4 b5 b6))).length : Int) = sumR (one (bitS b0 b1 b2 b3 b4 b5 b6)) p * (sumR (one (bitS b0 b1 b2 b3 b4 b5 b6)) p - 1) := by decide +kernel
theorem bit_all (S : Int → Bool) {i : Int} (h0 : 0 ≤ i) (h : i < 7) : bitS (S 0) (S 1) (S 2) (S 3) (S 4) (S 5) (S 6) i = S i := by
  have : i = 0 ∨ i = 1 ∨ i = 2 ∨ i = 3 ∨ i = 4 ∨ i = 5 ∨ i = 6 := by omega
  rcases this with rfl | rfl | rfl | rfl | rfl | rfl | rfl <;> rfl
theorem pairs_len (S : Int → Bool) {p : Nat} (hp : p ≤ 7) : 2 * (((prs p).filter (bothB S)).length : Int) = sumR (one S) p * (sumR (one S) p - 1) := by
  have h := bit_pairs ⟨p, by omega⟩ (S 0) (S 1) (S 2) (S 3) (S 4) (S 5) (S 6)
  have e1 : (prs p).filter (bothB (bitS (S 0) (S 1) (S 2) (S 3) (S 4) (S 5) (S 6))) = (prs p).filter (bothB S) := by
    apply List.filter_congr
    intro x hx
    have := mem_prs.mp hx
    unfold bothB
    rw [bit_all S (by omega) (by omega), bit_all S (by omega) (by omega)]
  have e2 : sumR (one (bitS (S 0) (S 1) (S 2) (S 3) (S 4) (S 5) (S 6))) p = sumR (one S) p := sumR_congr p fun i h1 h2 => by
    unfold one; rw [bit_all S h1 (by omega)]
  rw [e1, e2] at h
  exact h
/-- how far a side is -/
def farN (p : Nat) (ps : List II) (S : Int → Bool) : Nat := ((prs p).filter fun x => bothB S x && !decide (x ∈ ps)).length + (ps.filter (noneB S)).length
theorem far_deg {p : Nat} (hp : p ≤ 7) {ps : List II} (hs : ps.Sublist (prs p)) (S : Int → Bool) : 2 * (farN p ps S : Int) = sumR (one S) p * (sumR (one S) p - 1) - sumR (fun i => sg S i * (cnt i ps : Int)) p := by
  rw [sum_cnt (sg S) fun x hx => mem_prs.mp (hs.mem hx), sg_sum, ← pairs_len S hp]
  have := put_len hp hs (bothB S)
  unfold farN
  omega
end NH

end
section
set_option Elab.async false
set_option linter.all false
set_option maxRecDepth 100000
set_option maxHeartbeats 4000000
/-! Rows of degrees, sides as lists. -/
namespace NH
open DL
def leI (a b : Int) : Bool := decide (a ≤ b)
def srt (l : List Int) : List Int := l.mergeSort leI
theorem srt_perm (l : List Int) : (srt l).Perm l := List.mergeSort_perm _ _
theorem srt_pw (l : List Int) : (srt l).Pairwise fun a b => a ≤ b := by
  have h := List.pairwise_mergeSort (le := leI) (fun a b c h1 h2 => by simp only [leI, decide_eq_true_eq] at *; omega) (fun a b => by simp only [leI, Bool.or_eq_true, decide_eq_true_eq]; omega) l
  exact h.imp fun h => by simpa [leI] using h
def Fall (l : List Int) : Prop := l.Pairwise fun a b => b ≤ a
def frow (l : List Int) : List Int := (srt l).reverse
theorem fall_frow (l : List Int) : Fall (frow l) := List.pairwise_reverse.mpr (srt_pw l)
theorem frow_perm (l : List Int) : (frow l).Perm l := (List.reverse_perm _).trans (srt_perm l)
theorem frow_len (l : List Int) : (frow l).length = l.length := (frow_perm l).length_eq
theorem fall_uniq {l m : List Int} (h : Fall l) (g : Fall m) (p : l.Perm m) : l = m :=
  List.Perm.eq_of_pairwise (le := fun a b => b ≤ a) (fun a b _ _ h1 h2 => by omega) h g p
theorem frow_of {l m : List Int} (g : Fall m) (p : m.Perm l) : frow l = m := fall_uniq (fall_frow l) g ((frow_perm l).trans p.symm)
theorem sum_perm {l m : List Int} (p : l.Perm m) : l.sum = m.sum := by
  induction p with
  | nil => rfl
  | cons x _ ih => simp [ih]
  | swap x y l => simp only [List.sum_cons]; omega
  | trans _ _ a b => exact a.trans b
/-! ### least of some numbers -/
def minL : List Int → Int
  | [] => 0
  | n :: r => r.foldl min n
theorem fmin_le : ∀ (r : List Int) (n : Int), r.foldl min n ≤ n ∧ ∀ y ∈ r, r.foldl min n ≤ y
  | [], n => ⟨Int.le_refl _, fun y hy => by cases hy⟩
  | m :: r, n => by
    obtain ⟨h1, h2⟩ := fmin_le r (min n m)
    rw [List.foldl_cons]
    refine ⟨by omega, fun y hy => ?_⟩
    rcases List.mem_cons.mp hy with e | e
    · omega
    · exact h2 y e
theorem fmin_mem : ∀ (r : List Int) (n : Int), r.foldl min n = n ∨ r.foldl min n ∈ r
  | [], n => .inl rfl
  | m :: r, n => by
    rw [List.foldl_cons]
    rcases fmin_mem r (min n m) with h | h
    · by_cases c : n ≤ m
      · left; omega
      · right; rw [h, show min n m = m by omega]; exact List.mem_cons_self
    · right; exact List.mem_cons_of_mem _ h
theorem minL_le {l : List Int} {x : Int} (h : x ∈ l) : minL l ≤ x := by
  cases l with
  | nil => cases h
  | cons n r =>
    rcases List.mem_cons.mp h with e | e
    · rw [e]; exact (fmin_le r n).1
    · exact (fmin_le r n).2 x e
theorem minL_mem {l : List Int} (h : l ≠ []) : minL l ∈ l := by
  cases l with
  | nil => exact absurd rfl h
  | cons n r =>
    rcases fmin_mem r n with e | e
    · show r.foldl min n ∈ n :: r
      rw [e]; exact List.mem_cons_self
    · exact List.mem_cons_of_mem _ e
theorem minL_of {l : List Int} {v : Int} (h : v ∈ l) (g : ∀ x ∈ l, v ≤ x) : minL l = v := by
  have h1 := minL_le h
  have h2 := g _ (minL_mem (l := l) (fun e => by rw [e] at h; cases h))
  omega
/-! ### the greatest ones -/
theorem sum_max (c : Int) : ∀ l : List Int, l.sum ≤ (l.map fun x => max (x - c) 0).sum + c * l.length
  | [] => by simp
  | x :: l => by
    have := sum_max c l
    simp only [List.sum_cons, List.map_cons, List.length_cons]
    have e : c * ((l.length + 1 : Nat) : Int) = c * l.length + c := by rw [Int.natCast_add, Int.mul_add]; simp
    omega
theorem sum_ge {c : Int} : ∀ {l : List Int}, (∀ x ∈ l, c ≤ x) → l.sum = (l.map fun x => max (x - c) 0).sum + c * l.length
  | [], _ => by simp
  | x :: l, h => by
    have := sum_ge (l := l) fun y hy => h y (List.mem_cons_of_mem _ hy)
    have := h x List.mem_cons_self
    simp only [List.sum_cons, List.map_cons, List.length_cons]
    have e : c * ((l.length + 1 : Nat) : Int) = c * l.length + c := by rw [Int.natCast_add, Int.mul_add]; simp
    omega
theorem sum_lt0 {c : Int} : ∀ {l : List Int}, (∀ x ∈ l, x ≤ c) → (l.map fun x => max (x - c) 0).sum = 0
  | [], _ => rfl
  | x :: l, h => by
    have := sum_lt0 (l := l) fun y hy => h y (List.mem_cons_of_mem _ hy)
    have := h x List.mem_cons_self
    simp only [List.sum_cons, List.map_cons]
    omega
theorem sum_max_nn (c : Int) : ∀ l : List Int, 0 ≤ (l.map fun x => max (x - c) 0).sum
  | [] => by simp
  | x :: l => by have := sum_max_nn c l; simp only [List.sum_cons, List.map_cons]; omega
theorem fall_cut : ∀ {l : List Int}, Fall l → ∀ m, m ≤ l.length → ∃ c, (∀ x ∈ l.take m, c ≤ x) ∧ ∀ x ∈ l.drop m, x ≤ c
  | [], _, m, _ => ⟨0, by simp, by simp⟩
  | x :: l, h, 0, _ => ⟨x, by simp, fun y hy => by
    rcases List.mem_cons.mp (by simpa using hy) with e | e
    · omega
    · exact (List.pairwise_cons.mp h).1 y e⟩
  | x :: l, h, m + 1, hm => by
    obtain ⟨h1, h2⟩ := List.pairwise_cons.mp h
    by_cases hl : m = 0
    · subst hl
      exact ⟨x, by simp, by simpa using h1⟩
    · obtain ⟨c, g1, g2⟩ := fall_cut (l := l) h2 m (by simpa using hm)
      refine ⟨c, fun y hy => ?_, by simpa using g2⟩
      rcases List.mem_cons.mp (by simpa using hy) with e | e
      · have : l.take m ≠ [] := by simp at hm; intro e; rw [List.take_eq_nil_iff] at e; rcases e with e | e; exact hl e; rw [e] at hm; simp at hm; omega
        obtain ⟨z, r, ez⟩ := List.exists_cons_of_ne_nil this
        have hz : z ∈ l.take m := ez ▸ List.mem_cons_self
        have := g1 z hz
        have := h1 z (List.mem_of_mem_take hz)
        omega
      · exact g1 y e
theorem top_sum {l t r : List Int} (h : Fall l) (hp : (t ++ r).Perm l) : t.sum ≤ (l.take t.length).sum := by
  have hl : t.length ≤ l.length := by rw [← hp.length_eq, List.length_append]; omega
  obtain ⟨c, h1, h2⟩ := fall_cut h t.length hl
  have a := sum_max c t
  have b := sum_ge h1
  have d := sum_lt0 h2
  have e : ((t ++ r).map fun x => max (x - c) 0).sum = (l.map fun x => max (x - c) 0).sum := sum_perm (hp.map _)
  have f : (l.map fun x => max (x - c) 0).sum = ((l.take t.length).map fun x => max (x - c) 0).sum + ((l.drop t.length).map fun x => max (x - c) 0).sum := by
    rw [← List.sum_append, ← List.map_append, List.take_append_drop]
  rw [List.map_append, List.sum_append] at e
  have := sum_max_nn c r
  rw [List.length_take, Nat.min_eq_left hl] at b
  omega
/-! ### places, sides -/
def places (p : Nat) : List Int := (List.range p).map fun (i : Nat) => (i : Int)
theorem mem_places {p : Nat} {i : Int} : i ∈ places p ↔ 0 ≤ i ∧ i < p := by
  simp only [places, List.mem_map, List.mem_range]
  constructor
  · rintro ⟨a, h, rfl⟩; omega
  · rintro ⟨h1, h2⟩; exact ⟨i.toNat, by omega, by omega⟩
theorem places_nodup (p : Nat) : (places p).Nodup := by
  unfold places
  rw [List.nodup_iff_pairwise_ne, List.pairwise_map]
  exact List.nodup_range.imp fun h e => h (by omega)
theorem places_len (p : Nat) : (places p).length = p := by simp [places]
theorem sumR_eq (f : Int → Int) : ∀ p : Nat, sumR f p = ((places p).map f).sum
  | 0 => rfl
  | p + 1 => by
    have : places (p + 1) = places p ++ [(p : Int)] := by simp [places, List.range_succ]
    rw [this, List.map_append, List.sum_append, ← sumR_eq f p]; simp [sumR]
/-- a side -/
structure Sd (p : Nat) (s : List Int) : Prop where
  asc : s.Pairwise (· < ·)
  mem : ∀ i ∈ s, 0 ≤ i ∧ i < p
theorem Sd.nodup {p : Nat} {s : List Int} (h : Sd p s) : s.Nodup := h.asc.imp fun h e => by omega
def inS (s : List Int) (i : Int) : Bool := decide (i ∈ s)
def rest (p : Nat) (s : List Int) : List Int := (places p).filter fun i => !inS s i
theorem rest_perm {p : Nat} {s : List Int} (hn : s.Nodup) (hm : ∀ i ∈ s, 0 ≤ i ∧ i < p) : (s ++ rest p s).Perm (places p) := by
  refine (List.perm_ext_iff_of_nodup (List.nodup_append.mpr ⟨hn, (places_nodup p).filter _, fun a ha b hb e => ?_⟩) (places_nodup p)).mpr fun i => ?_
  · subst e
    simp [rest, inS] at hb
    exact hb.2 ha
  · simp only [List.mem_append, rest, List.mem_filter, inS, mem_places]
    constructor
    · rintro (h | h)
      · exact hm i h
      · exact h.1
    · intro h
      by_cases c : i ∈ s
      · exact .inl c
      · exact .inr ⟨h, by simpa using c⟩
theorem sumR_in (f : Int → Int) {p : Nat} : ∀ {s : List Int}, s.Nodup → (∀ i ∈ s, 0 ≤ i ∧ i < p) → sumR (fun i => if i ∈ s then f i else 0) p = (s.map f).sum
  | [], _, _ => by simp only [List.map_nil, List.sum_nil]; exact sumR_zero p fun i _ _ => by simp
  | x :: s, hn, hm => by
    obtain ⟨h1, h2⟩ := List.nodup_cons.mp hn
    have ih := sumR_in f h2 fun i hi => hm i (List.mem_cons_of_mem _ hi)
    obtain ⟨a, b⟩ := hm x List.mem_cons_self
    have e : sumR (fun i => if i ∈ x :: s then f i else 0) p = sumR (fun i => (if x = i then f i else 0) + (if i ∈ s then f i else 0)) p := by
      refine sumR_congr p fun i _ _ => ?_
      by_cases c : x = i
      · subst c; simp [h1]
      · have c' : ¬ i = x := fun e => c e.symm
        by_cases d : i ∈ s <;> simp [c, c', d]
    rw [e, sumR_add, ih, sumR_at f a p b]
    simp
def degs (p : Nat) (ps : List II) : List Int := (places p).map fun i => (cnt i ps : Int)
theorem degs_len (p : Nat) (ps : List II) : (degs p ps).length = p := by simp [degs, places]
/-- how far a side is -/
def farS (p : Nat) (ps : List II) (s : List Int) : Nat := farN p ps (inS s)
theorem far_len {p : Nat} (hp : p ≤ 7) {ps : List II} (hs : ps.Sublist (prs p)) {s : List Int} (hn : s.Nodup) (hm : ∀ i ∈ s, 0 ≤ i ∧ i < p) :
    2 * (farS p ps s : Int) = s.length * (s.length - 1) + (degs p ps).sum - 2 * (s.map fun i => (cnt i ps : Int)).sum := by
  have h := far_deg hp hs (inS s)
  have e1 : sumR (one (inS s)) p = s.length := by
    have := sumR_in (fun _ => 1) hn hm
    have c : sumR (one (inS s)) p = sumR (fun i => if i ∈ s then 1 else 0) p := sumR_congr p fun i _ _ => by simp [one, inS]
    rw [c, this]
    clear c this h hm hn
    induction s with
    | nil => rfl
    | cons x s ih => simp only [List.map_cons, List.sum_cons, ih, List.length_cons]; omega
  have e2 : sumR (fun i => sg (inS s) i * (cnt i ps : Int)) p = 2 * (s.map fun i => (cnt i ps : Int)).sum - (degs p ps).sum := by
    have a := sumR_in (fun i => 2 * (cnt i ps : Int)) hn hm
    have b : sumR (fun i => (cnt i ps : Int)) p = (degs p ps).sum := sumR_eq _ p
    have c : sumR (fun i => sg (inS s) i * (cnt i ps : Int) + (cnt i ps : Int)) p = sumR (fun i => if i ∈ s then 2 * (cnt i ps : Int) else 0) p := sumR_congr p fun i _ _ => by
      by_cases c : i ∈ s
      · simp [sg, inS, c]; omega
      · simp [sg, inS, c]; omega
    rw [sumR_add] at c
    have d : (s.map fun i => 2 * (cnt i ps : Int)).sum = 2 * (s.map fun i => (cnt i ps : Int)).sum := by
      clear a b c h e1 hn hm
      induction s with
      | nil => rfl
      | cons x s ih => simp only [List.map_cons, List.sum_cons, ih]; omega
    omega
  unfold farS
  rw [e1, e2] at h
  omega
/-! ### by degrees -/
def byDeg (row : List Int) (m : Nat) : Int := ((m : Int) * (m - 1) + (row.drop m).sum - (row.take m).sum) / 2
def leastBy (row : List Int) : Int := minL ((List.range (row.length + 1)).map (byDeg row))
theorem two_by {p : Nat} {ps : List II} (m : Nat) : (m : Int) * (m - 1) + ((frow (degs p ps)).drop m).sum - ((frow (degs p ps)).take m).sum = m * (m - 1) + (degs p ps).sum - 2 * ((frow (degs p ps)).take m).sum := by
  have := sum_perm (frow_perm (degs p ps))
  have e : ((frow (degs p ps)).take m).sum + ((frow (degs p ps)).drop m).sum = (frow (degs p ps)).sum := by rw [← List.sum_append, List.take_append_drop]
  omega
theorem by_le {p : Nat} (hp : p ≤ 7) {ps : List II} (hs : ps.Sublist (prs p)) {s : List Int} (hn : s.Nodup) (hm : ∀ i ∈ s, 0 ≤ i ∧ i < p) : byDeg (frow (degs p ps)) s.length ≤ farS p ps s := by
  have h := far_len hp hs hn hm
  have t := top_sum (l := frow (degs p ps)) (t := s.map fun i => (cnt i ps : Int)) (r := (rest p s).map fun i => (cnt i ps : Int)) (fall_frow _) (by
    rw [← List.map_append]
    exact ((rest_perm hn hm).map _).trans (frow_perm _).symm)
  rw [List.length_map] at t
  unfold byDeg
  rw [two_by]
  omega
/-- the places, those of the greatest degrees first -/
def byD (p : Nat) (ps : List II) : List Int := (places p).mergeSort fun a b => decide (cnt b ps ≤ cnt a ps)
theorem byD_perm (p : Nat) (ps : List II) : (byD p ps).Perm (places p) := List.mergeSort_perm _ _
theorem byD_row (p : Nat) (ps : List II) : (byD p ps).map (fun i => (cnt i ps : Int)) = frow (degs p ps) := by
  refine (frow_of ?_ ((byD_perm p ps).map _)).symm
  unfold Fall
  rw [List.pairwise_map]
  have h := List.pairwise_mergeSort (le := fun a b => decide (cnt b ps ≤ cnt a ps)) (fun a b c h1 h2 => by simp only [decide_eq_true_eq] at *; omega) (fun a b => by simp only [Bool.or_eq_true, decide_eq_true_eq]; omega) (places p)
  exact h.imp fun h => by simp only [decide_eq_true_eq] at h; omega
theorem by_ex {p : Nat} (hp : p ≤ 7) {ps : List II} (hs : ps.Sublist (prs p)) {m : Nat} (hm : m ≤ p) : ∃ s, Sd p s ∧ s.length = m ∧ byDeg (frow (degs p ps)) m = farS p ps s := by
  let t := (byD p ps).take m
  have ht : t.length = m := by simp only [t, List.length_take, (byD_perm p ps).length_eq, places_len]; omega
  have hn : t.Nodup := ((byD_perm p ps).symm.nodup (places_nodup p)).sublist (List.take_sublist _ _)
  have hm' : ∀ i ∈ t, 0 ≤ i ∧ i < p := fun i hi => mem_places.mp ((byD_perm p ps).mem_iff.mp (List.mem_of_mem_take hi))
  let s := (places p).filter fun i => inS t i
  have sp : s.Perm t := (List.perm_ext_iff_of_nodup ((places_nodup p).filter _) hn).mpr fun i => by
    simp only [s, List.mem_filter, mem_places, inS, decide_eq_true_eq]
    exact ⟨fun h => h.2, fun h => ⟨hm' i h, h⟩⟩
  have hs' : Sd p s := ⟨(by
    have : (places p).Pairwise (· < ·) := by
      unfold places
      rw [List.pairwise_map]
      exact List.pairwise_lt_range.imp fun h => by omega
    exact this.filter _), fun i hi => mem_places.mp (List.mem_filter.mp hi).1⟩
  refine ⟨s, hs', sp.length_eq.trans ht, ?_⟩
  have h := far_len hp hs hs'.nodup hs'.mem
  have e : (s.map fun i => (cnt i ps : Int)).sum = ((frow (degs p ps)).take m).sum := by
    rw [sum_perm (sp.map _), ← byD_row, ← List.map_take]
  rw [sp.length_eq, ht, e] at h
  unfold byDeg
  rw [two_by]
  omega
end NH

end
section
set_option Elab.async false
set_option linter.all false
set_option maxRecDepth 100000
set_option maxHeartbeats 4000000
/-! All sides, nearest ones, flips. -/
namespace NH
open DL
/-! ### all sides -/
def sub : Nat → Nat → List (List Int)
  | _, 0 => [[]]
  | i, n + 1 => [] :: ((sub (i + 1) n).map ((i : Int) :: ·) ++ (sub (i + 1) n).tail)
theorem sub_head : ∀ i n : Nat, ∃ r, sub i n = [] :: r
  | _, 0 => ⟨[], rfl⟩
  | i, n + 1 => ⟨_, rfl⟩
theorem mem_sub : ∀ (n i : Nat) (s : List Int), s ∈ sub i n ↔ s.Pairwise (· < ·) ∧ ∀ x ∈ s, (i : Int) ≤ x ∧ x < i + n
  | 0, i, s => by
    simp only [sub, List.mem_singleton]
    constructor
    · rintro rfl; exact ⟨List.Pairwise.nil, fun x hx => by cases hx⟩
    · rintro ⟨_, h⟩
      cases s with
      | nil => rfl
      | cons x s => have := h x List.mem_cons_self; omega
  | n + 1, i, s => by
    obtain ⟨r, hr⟩ := sub_head (i + 1) n
    have ih := mem_sub n (i + 1)
    have ht : ∀ t, t ∈ (sub (i + 1) n).tail ∨ t = [] ↔ t ∈ sub (i + 1) n := fun t => by
      rw [hr]; simp only [List.tail_cons, List.mem_cons]; exact or_comm
    simp only [sub, List.mem_cons, List.mem_append, List.mem_map]
    cases s with
    | nil => simp
    | cons x s =>
      have c := ht (x :: s)
      simp only [reduceCtorEq, or_false] at c
      rw [c, ih (x :: s)]
      constructor
      · rintro (h | ⟨t, h, e⟩ | h)
        · cases h
        · injection e with e1 e2
          subst e1 e2
          obtain ⟨a, b⟩ := (ih t).mp h
          refine ⟨List.pairwise_cons.mpr ⟨fun y hy => by have := b y hy; omega, a⟩, fun y hy => ?_⟩
          rcases List.mem_cons.mp hy with e | e
          · omega
          · have := b y e; omega
        · exact ⟨h.1, fun y hy => by have := h.2 y hy; omega⟩
      · rintro ⟨a, b⟩
        obtain ⟨a1, a2⟩ := List.pairwise_cons.mp a
        have hx := b x List.mem_cons_self
        by_cases e : x = i
        · refine .inr (.inl ⟨s, (ih s).mpr ⟨a2, fun y hy => ?_⟩, by rw [e]⟩)
          have := a1 y hy
          have := b y (List.mem_cons_of_mem _ hy)
          omega
        · refine .inr (.inr ⟨a, fun y hy => ?_⟩)
          rcases List.mem_cons.mp hy with e2 | e2
          · have := b y hy; omega
          · have := a1 y e2; have := b y hy; omega
def sidesL (p : Nat) : List (List Int) := sub 0 p
theorem mem_sides {p : Nat} {s : List Int} : s ∈ sidesL p ↔ Sd p s := by
  unfold sidesL
  rw [mem_sub]
  constructor
  · rintro ⟨a, b⟩; exact ⟨a, fun x hx => by have := b x hx; omega⟩
  · rintro ⟨a, b⟩; exact ⟨a, fun x hx => by have := b x hx; omega⟩
theorem sides_ne (p : Nat) : sidesL p ≠ [] := by
  obtain ⟨r, h⟩ := sub_head 0 p
  unfold sidesL
  rw [h]; simp
/-! ### webs by what is in them -/
def inP (ps : List II) (x : II) : Bool := decide (x ∈ ps)
theorem web_filter {p : Nat} (hp : p ≤ 7) {ps : List II} (hs : ps.Sublist (prs p)) : (prs p).filter (inP ps) = ps := filter_mem hs (prs_nodup hp)
theorem inP_filter {p : Nat} {A : II → Bool} {x : II} (h : x ∈ prs p) : inP ((prs p).filter A) x = A x := by
  unfold inP
  cases e : A x with
  | true => simp [h, e]
  | false => simp [h, e]
def badB (A : II → Bool) (S : Int → Bool) (x : II) : Bool := (bothB S x && !A x) || (noneB S x && A x)
theorem both_none (S : Int → Bool) (x : II) : (bothB S x && noneB S x) = false := by unfold bothB noneB; cases S x.1 <;> cases S x.2 <;> rfl
theorem farN_bad {p : Nat} (hp : p ≤ 7) {ps : List II} (hs : ps.Sublist (prs p)) (S : Int → Bool) : farN p ps S = ((prs p).filter (badB (inP ps) S)).length := by
  unfold farN
  have e : ps.filter (noneB S) = (prs p).filter (fun x => noneB S x && inP ps x) := by
    rw [← List.filter_filter, web_filter hp hs]
  rw [e]
  generalize prs p = L
  induction L with
  | nil => rfl
  | cons x L ih =>
    have := both_none S x
    have e2 : badB (inP ps) S x = ((bothB S x && !decide (x ∈ ps)) || (noneB S x && inP ps x)) := rfl
    simp only [List.filter_cons, e2]
    unfold inP at ih ⊢
    by_cases h3 : x ∈ ps
    · cases h1 : bothB S x <;> cases h2 : noneB S x <;> simp [h1, h2, h3] at this ih ⊢ <;> omega
    · cases h1 : bothB S x <;> cases h2 : noneB S x <;> simp [h1, h2, h3] at this ih ⊢ <;> omega
theorem farN_congr {p : Nat} {ps : List II} (hm : ∀ x ∈ ps, 0 ≤ x.1 ∧ x.1 < x.2 ∧ x.2 < p) {S S' : Int → Bool} (h : ∀ i : Int, 0 ≤ i → i < p → S i = S' i) : farN p ps S = farN p ps S' := by
  unfold farN
  have e1 : (prs p).filter (fun x => bothB S x && !decide (x ∈ ps)) = (prs p).filter (fun x => bothB S' x && !decide (x ∈ ps)) := by
    apply List.filter_congr
    intro x hx
    have := mem_prs.mp hx
    unfold bothB
    rw [h x.1 (by omega) (by omega), h x.2 (by omega) (by omega)]
  have e2 : ps.filter (noneB S) = ps.filter (noneB S') := by
    apply List.filter_congr
    intro x hx
    have := hm x hx
    unfold noneB
    rw [h x.1 (by omega) (by omega), h x.2 (by omega) (by omega)]
  rw [e1, e2]
theorem places_asc (p : Nat) : (places p).Pairwise (· < ·) := by
  unfold places
  rw [List.pairwise_map]
  exact List.pairwise_lt_range.imp fun h => by omega
/-- the side with these places -/
def sdOf (p : Nat) (S : Int → Bool) : List Int := (places p).filter S
theorem sdOf_sd (p : Nat) (S : Int → Bool) : Sd p (sdOf p S) := ⟨(places_asc p).filter _, fun i hi => mem_places.mp (List.mem_filter.mp hi).1⟩
theorem sdOf_in {p : Nat} {S : Int → Bool} {i : Int} (h0 : 0 ≤ i) (h : i < p) : inS (sdOf p S) i = S i := by
  unfold inS sdOf
  cases e : S i with
  | true => simp [mem_places, e, h0, h]
  | false => simp [e]
/-! ### the least one -/
def few (p : Nat) (ps : List II) : Int := minL ((sidesL p).map fun s => (farS p ps s : Int))
section
variable {p : Nat} {ps : List II}
theorem web_mem (hs : ps.Sublist (prs p)) : ∀ x ∈ ps, 0 ≤ x.1 ∧ x.1 < x.2 ∧ x.2 < p := fun x hx => mem_prs.mp (hs.mem hx)
theorem few_le {s : List Int} (h : Sd p s) : few p ps ≤ farS p ps s := minL_le (List.mem_map.mpr ⟨s, mem_sides.mpr h, rfl⟩)
theorem few_leS (hs : ps.Sublist (prs p)) (S : Int → Bool) : few p ps ≤ farN p ps S := by
  have h := few_le (ps := ps) (sdOf_sd p S)
  unfold farS at h
  rwa [farN_congr (web_mem hs) fun i h0 h1 => sdOf_in (S := S) h0 h1] at h
theorem few_ex (p : Nat) (ps : List II) : ∃ s, Sd p s ∧ few p ps = farS p ps s := by
  have h := minL_mem (l := (sidesL p).map fun s => (farS p ps s : Int)) (by simp [sides_ne])
  obtain ⟨s, h1, h2⟩ := List.mem_map.mp h
  exact ⟨s, mem_sides.mp h1, h2.symm⟩
theorem few_nn : 0 ≤ few p ps := by
  obtain ⟨s, _, h⟩ := few_ex p ps
  omega
theorem few_row (hp : p ≤ 7) (hs : ps.Sublist (prs p)) : leastBy (frow (degs p ps)) = few p ps := by
  unfold leastBy
  rw [frow_len, degs_len]
  refine minL_of ?_ fun x hx => ?_
  · obtain ⟨s, h1, h2⟩ := few_ex p ps
    have hl : s.length ≤ p := by
      have := (rest_perm h1.nodup h1.mem).length_eq
      rw [places_len, List.length_append] at this
      omega
    obtain ⟨t, t1, t2, t3⟩ := by_ex hp hs hl
    have a := by_le hp hs h1.nodup h1.mem
    have b := few_le (ps := ps) t1
    refine List.mem_map.mpr ⟨s.length, List.mem_range.mpr (by omega), ?_⟩
    omega
  · obtain ⟨m, hm, rfl⟩ := List.mem_map.mp hx
    obtain ⟨t, t1, t2, t3⟩ := by_ex hp hs (m := m) (by have := List.mem_range.mp hm; omega)
    rw [t3]
    exact few_le t1
/-- what the program asks of a nearest side -/
theorem near_iff (hp : p ≤ 7) (hs : ps.Sublist (prs p)) {s : List Int} (h : Sd p s) : ((s.length : Int) * (s.length - 1) + (degs p ps).sum - 2 * (s.map fun i => (cnt i ps : Int)).sum = 2 * few p ps) ↔ (farS p ps s : Int) = few p ps := by
  have := far_len hp hs h.nodup h.mem
  omega
/-- the places of a nearest side have no smaller degrees -/
theorem near_deg (hp : p ≤ 7) (hs : ps.Sublist (prs p)) {s : List Int} (h : Sd p s) (hf : (farS p ps s : Int) = few p ps) {i j : Int} (hi : j ∈ s) (hj : i ∉ s) (h0 : 0 ≤ i) (h1 : i < p) : cnt i ps ≤ cnt j ps := by
  have hn : (i :: s.erase j).Nodup := List.nodup_cons.mpr ⟨fun e => hj (List.mem_of_mem_erase e), h.nodup.erase j⟩
  have hm : ∀ x ∈ i :: s.erase j, 0 ≤ x ∧ x < p := fun x hx => by
    rcases List.mem_cons.mp hx with e | e
    · omega
    · exact h.mem x (List.mem_of_mem_erase e)
  have a := far_len hp hs hn hm
  have b := far_len hp hs h.nodup h.mem
  have c := few_leS hs (inS (i :: s.erase j))
  have pe := (List.perm_cons_erase hi)
  have d := sum_perm (pe.map fun i => (cnt i ps : Int))
  have e := pe.length_eq
  simp only [List.map_cons, List.sum_cons, List.length_cons] at a d e
  unfold farS at *
  rw [← e] at a
  omega
end
/-! ### flips -/
theorem filter_at {L : List II} (hn : L.Nodup) {y : II} (hy : y ∈ L) {P Q : II → Bool} (h : ∀ x, x ≠ y → P x = Q x) : (L.filter P).length + (if Q y then 1 else 0) = (L.filter Q).length + (if P y then 1 else 0) := by
  induction L with
  | nil => cases hy
  | cons x L ih =>
    obtain ⟨h1, h2⟩ := List.nodup_cons.mp hn
    simp only [List.filter_cons]
    by_cases e : x = y
    · subst e
      have c : L.filter P = L.filter Q := List.filter_congr fun z hz => h z fun e => h1 (e ▸ hz)
      rw [c]
      cases P x <;> cases Q x <;> simp
    · have := ih h2 (by rcases List.mem_cons.mp hy with e' | e'; exact absurd e'.symm e; exact e')
      rw [h x e]
      cases Q x <;> simp <;> omega
def flipA (ps : List II) (y x : II) : Bool := if x = y then !inP ps y else inP ps x
def flipF (p : Nat) (ps : List II) (y : II) : List II := (prs p).filter (flipA ps y)
theorem flipF_sub (p : Nat) (ps : List II) (y : II) : (flipF p ps y).Sublist (prs p) := List.filter_sublist
section
variable {p : Nat} {ps : List II}
theorem far_flip (hp : p ≤ 7) (hs : ps.Sublist (prs p)) {y : II} (hy : y ∈ prs p) (S : Int → Bool) :
    (farN p (flipF p ps y) S : Int) = farN p ps S + (if badB (inP ps) S y then -1 else if bothB S y || noneB S y then 1 else 0) := by
  rw [farN_bad hp hs, farN_bad hp (flipF_sub p ps y)]
  have e : (prs p).filter (badB (inP (flipF p ps y)) S) = (prs p).filter (badB (flipA ps y) S) := by
    apply List.filter_congr
    intro x hx
    unfold badB flipF
    rw [inP_filter hx]
  rw [e]
  have f := filter_at (prs_nodup hp) hy (P := badB (flipA ps y) S) (Q := badB (inP ps) S) fun x hx => by
    unfold badB flipA
    rw [if_neg hx]
  have g : badB (flipA ps y) S y = (bothB S y && inP ps y || noneB S y && !inP ps y) := by
    unfold badB flipA
    rw [if_pos rfl]
    cases inP ps y <;> rfl
  rw [g] at f
  have b := both_none S y
  unfold badB at f ⊢
  cases h1 : bothB S y <;> cases h2 : noneB S y <;> rw [h1, h2] at b <;> cases h3 : inP ps y <;> simp [h1, h2, h3] at b f ⊢ <;> omega
theorem few_flip (hp : p ≤ 7) (hs : ps.Sublist (prs p)) {y : II} (hy : y ∈ prs p) : few p ps - 1 ≤ few p (flipF p ps y) ∧ few p (flipF p ps y) ≤ few p ps + 1 := by
  constructor
  · obtain ⟨s, h1, h2⟩ := few_ex p (flipF p ps y)
    have a := few_le (ps := ps) h1
    have b := far_flip hp hs hy (inS s)
    unfold farS at *
    rw [h2, b]
    split
    · omega
    · split <;> omega
  · obtain ⟨s, h1, h2⟩ := few_ex p ps
    have a := few_le (ps := flipF p ps y) h1
    have b := far_flip hp hs hy (inS s)
    unfold farS at *
    rw [b] at a
    split at a
    · omega
    · split at a <;> omega
theorem few_nearer (hp : p ≤ 7) (hs : ps.Sublist (prs p)) : 0 < few p ps ↔ ∃ y ∈ prs p, few p (flipF p ps y) < few p ps := by
  constructor
  · intro h
    obtain ⟨s, h1, h2⟩ := few_ex p ps
    have b : 0 < ((prs p).filter (badB (inP ps) (inS s))).length := by
      rw [← farN_bad hp hs]
      unfold farS at h2
      omega
    obtain ⟨y, hy⟩ := List.exists_mem_of_length_pos b
    obtain ⟨y1, y2⟩ := List.mem_filter.mp hy
    refine ⟨y, y1, ?_⟩
    have a := few_le (ps := flipF p ps y) h1
    have c := far_flip hp hs y1 (inS s)
    rw [if_pos y2] at c
    unfold farS at *
    omega
  · rintro ⟨y, _, h⟩
    have := few_nn (p := p) (ps := flipF p ps y)
    omega
end
end NH

end
section
set_option Elab.async false
set_option linter.all false
set_option maxRecDepth 100000
set_option maxHeartbeats 4000000
/-! Sorted ties, sorted sides, webs behind changes. -/
namespace NH
open DL
def lePr (x y : II) : Bool := decide (x.1 < y.1 ∨ (x.1 = y.1 ∧ x.2 ≤ y.2))
def srtP (l : List II) : List II := l.mergeSort lePr
theorem prs_lex {p : Nat} (hp : p ≤ 7) : (prs p).Pairwise fun x y => x.1 < y.1 ∨ (x.1 = y.1 ∧ x.2 < y.2) := by
  refine (prs_chain p hp).imp_of_mem fun {x y} hx hy h => ?_
  have a := mem_prs.mp hx
  have b := mem_prs.mp hy
  unfold cod at h
  omega
theorem srtP_perm (l : List II) : (srtP l).Perm l := List.mergeSort_perm _ _
theorem srtP_of {p : Nat} (hp : p ≤ 7) {l m : List II} (hs : m.Sublist (prs p)) (h : l.Perm m) : srtP l = m := by
  refine List.Perm.eq_of_pairwise (le := fun a b => lePr a b = true) (fun a b _ _ h1 h2 => ?_) ?_ ?_ ((srtP_perm l).trans h)
  · simp only [lePr, decide_eq_true_eq] at h1 h2
    exact Prod.ext (by omega) (by omega)
  · exact List.pairwise_mergeSort (fun a b c h1 h2 => by simp only [lePr, decide_eq_true_eq] at *; omega) (fun a b => by simp only [lePr, Bool.or_eq_true, decide_eq_true_eq]; omega) l
  · exact ((prs_lex hp).sublist hs).imp fun h => by simp only [lePr, decide_eq_true_eq]; omega
section
variable {p : Nat} {ps : List II}
theorem web_nodup (hp : p ≤ 7) (hs : ps.Sublist (prs p)) : ps.Nodup := (prs_nodup hp).sublist hs
def offP (ps : List II) (y : II) : List II := ps.filter fun x => !decide (x = y)
theorem flip_perm (hp : p ≤ 7) (hs : ps.Sublist (prs p)) {y : II} (hy : y ∈ prs p) : (offP ps y ++ if y ∈ ps then [] else [y]).Perm (flipF p ps y) := by
  refine (List.perm_ext_iff_of_nodup (List.nodup_append.mpr ⟨(web_nodup hp hs).filter _, by split <;> simp, fun a ha b hb e => ?_⟩) ((prs_nodup hp).sublist (flipF_sub p ps y))).mpr fun x => ?_
  · subst e
    split at hb
    · cases hb
    · have := List.mem_singleton.mp hb
      subst this
      simp [offP] at ha
  · simp only [List.mem_append, offP, flipF, List.mem_filter, flipA]
    constructor
    · rintro (h | h)
      · have c : x ≠ y := by simpa using h.2
        exact ⟨hs.mem h.1, by rw [if_neg c]; simpa [inP] using h.1⟩
      · split at h
        · cases h
        · have := List.mem_singleton.mp h
          subst this
          exact ⟨hy, by rw [if_pos rfl]; simpa [inP]⟩
    · rintro ⟨h1, h2⟩
      by_cases c : x = y
      · subst c
        rw [if_pos rfl] at h2
        have h2' : x ∉ ps := by simpa [inP] using h2
        right; rw [if_neg h2']; exact List.mem_singleton.mpr rfl
      · rw [if_neg c] at h2
        exact .inl ⟨by simpa [inP] using h2, by simpa using c⟩
theorem off_len {y : II} : ((offP ps y).length = ps.length) ↔ y ∉ ps := by
  unfold offP
  rw [List.length_filter_eq_length_iff]
  constructor
  · intro h hy; have := h y hy; simp at this
  · intro h x hx; simp; intro e; exact h (e ▸ hx)
theorem flip_srt (hp : p ≤ 7) (hs : ps.Sublist (prs p)) {y : II} (hy : y ∈ prs p) : srtP (offP ps y ++ if y ∈ ps then [] else [y]) = flipF p ps y := srtP_of hp (flipF_sub p ps y) (flip_perm hp hs hy)
/-! ### behind changes -/
def putL (p : Nat) (ps : List II) (S : Int → Bool) : List II := (prs p).filter fun x => bothB S x && !inP ps x
def strL (ps : List II) (S : Int → Bool) : List II := ps.filter (noneB S)
theorem farN_len (S : Int → Bool) : farN p ps S = (putL p ps S).length + (strL ps S).length := rfl
def behA (ps : List II) (S : Int → Bool) (x : II) : Bool := bothB S x || (inP ps x && !noneB S x)
def behL (p : Nat) (ps : List II) (S : Int → Bool) : List II := (prs p).filter (behA ps S)
theorem behL_sub (p : Nat) (ps : List II) (S : Int → Bool) : (behL p ps S).Sublist (prs p) := List.filter_sublist
def keptL (ps : List II) (S : Int → Bool) : List II := ps.filter fun x => !inP (strL ps S) x
theorem beh_perm (hp : p ≤ 7) (hs : ps.Sublist (prs p)) (S : Int → Bool) : (keptL ps S ++ putL p ps S).Perm (behL p ps S) := by
  refine (List.perm_ext_iff_of_nodup (List.nodup_append.mpr ⟨(web_nodup hp hs).filter _, (prs_nodup hp).filter _, fun a ha b hb e => ?_⟩) ((prs_nodup hp).sublist (behL_sub p ps S))).mpr fun x => ?_
  · subst e
    simp [keptL, putL, inP] at ha hb
    exact hb.2.2 ha.1
  · simp only [List.mem_append, keptL, putL, strL, behL, List.mem_filter, behA, inP]
    have b := both_none S x
    have m : x ∈ ps → x ∈ prs p := fun h => hs.mem h
    constructor
    · rintro (⟨h1, h2⟩ | ⟨h1, h2⟩)
      · exact ⟨m h1, by simp [h1] at h2 ⊢; exact .inr h2⟩
      · exact ⟨h1, by simp at h2 ⊢; exact .inl h2.1⟩
    · rintro ⟨h1, h2⟩
      by_cases c : x ∈ ps
      · left
        refine ⟨c, ?_⟩
        cases h3 : bothB S x <;> cases h4 : noneB S x <;> simp [h3, h4, c] at b h2 ⊢
      · right
        refine ⟨h1, ?_⟩
        cases h3 : bothB S x <;> cases h4 : noneB S x <;> simp [h3, h4, c] at b h2 ⊢
theorem beh_srt (hp : p ≤ 7) (hs : ps.Sublist (prs p)) (S : Int → Bool) : srtP (keptL ps S ++ putL p ps S) = behL p ps S := srtP_of hp (behL_sub p ps S) (beh_perm hp hs S)
theorem beh_put (S : Int → Bool) : putL p (behL p ps S) S = [] := by
  unfold putL
  rw [List.filter_eq_nil_iff]
  intro x hx
  rw [show inP (behL p ps S) x = behA ps S x from inP_filter hx]
  unfold behA
  cases bothB S x <;> simp
theorem beh_str (S : Int → Bool) : strL (behL p ps S) S = [] := by
  unfold strL
  rw [List.filter_eq_nil_iff]
  intro x hx
  have h := (List.mem_filter.mp hx).2
  have b := both_none S x
  unfold behA at h
  cases h3 : bothB S x <;> cases h4 : noneB S x <;> simp [h3, h4] at b h ⊢
theorem beh_few (s : List Int) (h : Sd p s) : few p (behL p ps (inS s)) = 0 := by
  have a := few_le (ps := behL p ps (inS s)) h
  have b := few_nn (p := p) (ps := behL p ps (inS s))
  have c : farS p (behL p ps (inS s)) s = 0 := by
    unfold farS
    rw [farN_len, beh_put, beh_str]; rfl
  omega
end
/-! ### sides in order -/
def leSd (a b : List Int) : Bool := !decide (b < a)
def srtS (l : List (List Int)) : List (List Int) := l.mergeSort leSd
theorem leSd_le {a b : List Int} : leSd a b = true ↔ a ≤ b := by
  unfold leSd
  rw [Bool.not_eq_true', decide_eq_false_iff_not]
  exact List.not_lt
theorem srtS_perm (l : List (List Int)) : (srtS l).Perm l := List.mergeSort_perm _ _
theorem srtS_pw (l : List (List Int)) : (srtS l).Pairwise fun a b => leSd a b = true :=
  List.pairwise_mergeSort (le := leSd) (fun a b c h1 h2 => leSd_le.mpr (List.le_trans (leSd_le.mp h1) (leSd_le.mp h2))) (fun a b => by
    have h : a ≤ b ∨ b ≤ a := List.le_total a b
    rw [Bool.or_eq_true]
    rcases h with h | h
    · exact .inl (leSd_le.mpr h)
    · exact .inr (leSd_le.mpr h)) l
theorem srtS_of {l m : List (List Int)} (hm : m.Pairwise (· < ·)) (h : l.Perm m) : srtS l = m :=
  List.Perm.eq_of_pairwise (le := fun a b => leSd a b = true) (fun a b _ _ h1 h2 => List.le_antisymm (leSd_le.mp h1) (leSd_le.mp h2)) (srtS_pw l) (hm.imp fun h => leSd_le.mpr (List.le_of_lt h)) ((srtS_perm l).trans h)
theorem sub_asc : ∀ (n i : Nat), (sub i n).Pairwise (· < ·)
  | 0, i => by simp [sub]
  | n + 1, i => by
    obtain ⟨r, hr⟩ := sub_head (i + 1) n
    have ih := sub_asc n (i + 1)
    unfold sub
    refine List.pairwise_cons.mpr ⟨fun s hs => ?_, List.pairwise_append.mpr ⟨?_, ?_, fun a ha b hb => ?_⟩⟩
    · have : s ≠ [] := by
        rcases List.mem_append.mp hs with h | h
        · obtain ⟨t, _, rfl⟩ := List.mem_map.mp h; simp
        · rw [hr] at h ih
          have := (List.pairwise_cons.mp ih).1 s h
          intro e; subst e; exact List.lt_irrefl _ this
      obtain ⟨x, s', rfl⟩ := List.exists_cons_of_ne_nil this
      exact List.nil_lt_cons x s'
    · rw [List.pairwise_map]
      exact ih.imp fun h => List.cons_lt_cons_iff.mpr (.inr ⟨rfl, h⟩)
    · rw [hr] at ih ⊢; exact (List.pairwise_cons.mp ih).2
    · obtain ⟨t, _, rfl⟩ := List.mem_map.mp ha
      have hb' : b ∈ sub (i + 1) n := List.mem_of_mem_tail hb
      have : b ≠ [] := by
        rw [hr] at hb ih
        have := (List.pairwise_cons.mp ih).1 b hb
        intro e; subst e; exact List.lt_irrefl _ this
      obtain ⟨x, s', rfl⟩ := List.exists_cons_of_ne_nil this
      have := ((mem_sub n (i + 1) _).mp hb').2 x List.mem_cons_self
      exact List.cons_lt_cons_iff.mpr (.inl (by omega))
theorem sides_asc (p : Nat) : (sidesL p).Pairwise (· < ·) := sub_asc p 0
/-- as the program makes them -/
def grow : Nat → List (List Int)
  | 0 => [[]]
  | p + 1 => grow p ++ (grow p).map fun s => s ++ [(p : Int)]
theorem grow_mem : ∀ (p : Nat) (s : List Int), s ∈ grow p ↔ Sd p s
  | 0, s => by
    simp only [grow, List.mem_singleton]
    constructor
    · rintro rfl; exact ⟨List.Pairwise.nil, fun x hx => by cases hx⟩
    · rintro ⟨_, h⟩
      cases s with
      | nil => rfl
      | cons x s => have := h x List.mem_cons_self; omega
  | p + 1, s => by
    simp only [grow, List.mem_append, List.mem_map, grow_mem p]
    constructor
    · rintro (⟨a, b⟩ | ⟨t, ⟨a, b⟩, rfl⟩)
      · exact ⟨a, fun x hx => by have := b x hx; omega⟩
      · refine ⟨List.pairwise_append.mpr ⟨a, by simp, fun x hx y hy => ?_⟩, fun x hx => ?_⟩
        · rw [List.mem_singleton.mp hy]; exact (b x hx).2
        · rcases List.mem_append.mp hx with e | e
          · have := b x e; omega
          · rw [List.mem_singleton.mp e]; omega
    · rintro ⟨a, b⟩
      rcases List.eq_nil_or_concat s with rfl | ⟨t, x, rfl⟩
      · left; exact ⟨a, fun x hx => by cases hx⟩
      · rw [List.concat_eq_append] at *
        obtain ⟨a1, a2, a3⟩ := List.pairwise_append.mp a
        have hx := b x (by simp)
        by_cases e : x = p
        · right
          refine ⟨t, ⟨a1, fun y hy => ?_⟩, by rw [e]⟩
          have := a3 y hy x (by simp)
          have := b y (by simp [hy])
          omega
        · left
          refine ⟨a, fun y hy => ?_⟩
          rcases List.mem_append.mp hy with h | h
          · have := a3 y h x (by simp)
            have := b y hy
            omega
          · rw [List.mem_singleton.mp h]; omega
theorem grow_nodup : ∀ p : Nat, (grow p).Nodup
  | 0 => by simp [grow]
  | p + 1 => by
    unfold grow
    refine List.nodup_append.mpr ⟨grow_nodup p, ?_, fun a ha b hb e => ?_⟩
    · rw [List.nodup_iff_pairwise_ne, List.pairwise_map]
      exact (grow_nodup p).imp fun h e => h (List.append_cancel_right e)
    · subst e
      obtain ⟨t, _, rfl⟩ := List.mem_map.mp hb
      have := ((grow_mem p _).mp ha).mem (p : Int) (by simp)
      omega
theorem srt_sides {p : Nat} {l : List (List Int)} (hn : l.Nodup) (hm : ∀ s, s ∈ l ↔ Sd p s) : srtS l = sidesL p :=
  srtS_of (sides_asc p) ((List.perm_ext_iff_of_nodup hn (List.nodup_iff_pairwise_ne.mpr ((sides_asc p).imp fun {a b} h e => by subst e; exact List.lt_irrefl a h))).mpr fun s => (hm s).trans mem_sides.symm)
end NH

end
section
set_option Elab.async false
set_option linter.all false
set_option maxRecDepth 100000
set_option maxHeartbeats 4000000
/-! Rows: which falling numbers are degrees. -/
namespace NH
open DL
/-! ### the inequalities -/
def egK (row : List Int) (k : Nat) : Bool := decide ((row.take k).sum ≤ (k : Int) * (k - 1) + ((row.drop k).map fun x => min x (k : Int)).sum)
def egB (row : List Int) : Bool := decide (row.sum % 2 = 0) && (List.range row.length).all fun k => egK row (k + 1)
def crossB (S : Int → Bool) (x : II) : Bool := (S x.1 && !S x.2) || (!S x.1 && S x.2)
theorem bit_cross : ∀ p : Fin 8, ∀ j : Fin 7, ∀ b0 b1 b2 b3 b4 b5 b6 : Bool, bitS b0 b1 b2 b3 b4 b5 b6 (j : Nat) = false → (cnt (j : Nat) ((prs p).filter (crossB (bitS b0 b1 b2 b3 b4 b5 b6))) : Int) ≤ sumR (one (bitS b0 b1 b2 b3 b4 b5 b6)) p := by decide +kernel
theorem cross_len (S : Int → Bool) {p : Nat} (hp : p ≤ 7) {j : Int} (j0 : 0 ≤ j) (j1 : j < p) (hj : S j = false) : (cnt j ((prs p).filter (crossB S)) : Int) ≤ sumR (one S) p := by
  have h := bit_cross ⟨p, by omega⟩ ⟨j.toNat, by omega⟩ (S 0) (S 1) (S 2) (S 3) (S 4) (S 5) (S 6)
  simp only at h
  have ej : ((j.toNat : Nat) : Int) = j := by omega
  rw [ej, bit_all S j0 (by omega)] at h
  have h := h hj
  have e1 : (prs p).filter (crossB (bitS (S 0) (S 1) (S 2) (S 3) (S 4) (S 5) (S 6))) = (prs p).filter (crossB S) := by
    apply List.filter_congr
    intro x hx
    have := mem_prs.mp hx
    unfold crossB
    rw [bit_all S (by omega) (by omega), bit_all S (by omega) (by omega)]
  have e2 : sumR (one (bitS (S 0) (S 1) (S 2) (S 3) (S 4) (S 5) (S 6))) p = sumR (one S) p := sumR_congr p fun i h1 h2 => by
    unfold one; rw [bit_all S h1 (by omega)]
  rw [e1, e2] at h
  exact h
theorem one_sum (S : Int → Bool) : ∀ ps : List II, (ps.map fun x => one S x.1 + one S x.2).sum = 2 * ((ps.filter (bothB S)).length : Int) + ((ps.filter (crossB S)).length : Int)
  | [] => rfl
  | x :: ps => by
    rw [List.map_cons, List.sum_cons, one_sum S ps, List.filter_cons, List.filter_cons]
    unfold one bothB crossB
    cases S x.1 <;> cases S x.2 <;> simp <;> omega
theorem sumR_le {f g : Int → Int} : ∀ p : Nat, (∀ i : Int, 0 ≤ i → i < p → f i ≤ g i) → sumR f p ≤ sumR g p
  | 0, _ => Int.le_refl _
  | p + 1, h => by
    simp only [sumR]
    have := sumR_le p fun i h1 h2 => h i h1 (by omega)
    have := h p (by omega) (by omega)
    omega
theorem sum_le_filter {ps : List II} {A B : II → Bool} : (ps.filter fun x => A x && B x).length ≤ (ps.filter A).length := by
  induction ps with
  | nil => simp
  | cons x ps ih => simp only [List.filter_cons]; cases A x <;> cases B x <;> simp <;> omega
/-- the inequality of a side -/
theorem side_ineq {p : Nat} (hp : p ≤ 7) {ps : List II} (hs : ps.Sublist (prs p)) (S : Int → Bool) :
    sumR (fun i => one S i * (cnt i ps : Int)) p ≤ sumR (one S) p * (sumR (one S) p - 1) + sumR (fun i => (1 - one S i) * min (cnt i ps : Int) (sumR (one S) p)) p := by
  rw [sum_cnt (one S) fun x hx => mem_prs.mp (hs.mem hx), one_sum, ← pairs_len S hp]
  have h1 : (ps.filter (bothB S)).length ≤ ((prs p).filter (bothB S)).length := (hs.filter _).length_le
  have h2 : ((ps.filter (crossB S)).length : Int) ≤ sumR (fun i => (1 - one S i) * min (cnt i ps : Int) (sumR (one S) p)) p := by
    have hm : ∀ x ∈ ps.filter (crossB S), 0 ≤ x.1 ∧ x.1 < x.2 ∧ x.2 < p := fun x hx => mem_prs.mp (hs.mem (List.mem_filter.mp hx).1)
    have a := sum_cnt (fun i => 1 - one S i) hm
    have b : ((ps.filter (crossB S)).map fun x => (1 - one S x.1) + (1 - one S x.2)).sum = ((ps.filter (crossB S)).length : Int) := by
      clear a hm h1 hs
      induction ps with
      | nil => rfl
      | cons x ps ih =>
        rw [List.filter_cons]
        by_cases c : crossB S x = true
        · rw [if_pos c, List.map_cons, List.sum_cons, ih, List.length_cons]
          unfold crossB at c
          unfold one
          cases h1 : S x.1 <;> cases h2 : S x.2 <;> simp [h1, h2] at c ⊢ <;> omega
        · rw [if_neg c, ih]
    rw [← b, ← a]
    refine sumR_le p fun i i0 i1 => ?_
    cases e : S i with
    | true => simp [one, e]
    | false =>
      have c1 : (cnt i (ps.filter (crossB S)) : Int) ≤ cnt i ps := by
        have := ((List.filter_sublist (p := crossB S) (l := ps)).filter (hasI i)).length_le
        unfold cnt
        omega
      have c2 : (cnt i (ps.filter (crossB S)) : Int) ≤ cnt i ((prs p).filter (crossB S)) := by
        have := ((hs.filter (crossB S)).filter (hasI i)).length_le
        unfold cnt
        omega
      have c3 := cross_len S hp i0 i1 e
      simp only [one, e, Bool.false_eq_true, if_false]
      omega
  omega
theorem sum_deg {p : Nat} {ps : List II} (hs : ps.Sublist (prs p)) : (degs p ps).sum = 2 * (ps.length : Int) := by
  have a := sum_cnt (fun _ => 1) (fun x hx => mem_prs.mp (hs.mem hx))
  unfold degs
  rw [← sumR_eq]
  have b : sumR (fun i => (cnt i ps : Int)) p = sumR (fun i => 1 * (cnt i ps : Int)) p := sumR_congr p fun i _ _ => by omega
  rw [b, a]
  clear a b hs
  induction ps with
  | nil => rfl
  | cons x ps ih => rw [List.map_cons, List.sum_cons, ih, List.length_cons]; omega
theorem sum_1s : ∀ s : List Int, (s.map fun _ => (1 : Int)).sum = s.length
  | [] => rfl
  | x :: s => by simp only [List.map_cons, List.sum_cons, sum_1s s, List.length_cons]; omega
theorem sum_in_split {t r : List Int} {p : Nat} (hp : (t ++ r).Perm (places p)) (g : Int → Int) : sumR (fun i => if i ∈ t then 0 else g i) p = (r.map g).sum := by
  have hn : (t ++ r).Nodup := hp.symm.nodup (places_nodup p)
  have hd := (List.nodup_append.mp hn).2.2
  rw [sumR_eq, sum_perm (hp.symm.map _), List.map_append, List.sum_append]
  have a : (t.map fun i => if i ∈ t then 0 else g i).sum = 0 := by
    have : (t.map fun i => if i ∈ t then 0 else g i) = t.map fun _ => 0 := List.map_congr_left fun i hi => by simp [hi]
    rw [this]
    clear this hd hn hp
    induction t with
    | nil => rfl
    | cons x t ih => simpa using ih
  have b : (r.map fun i => if i ∈ t then 0 else g i) = r.map g := List.map_congr_left fun i hi => by
    have : ¬ i ∈ t := fun h => hd i h i hi rfl
    simp [this]
  rw [a, b]; omega
/-- the row of a web passes -/
theorem eg_web {p : Nat} (hp : p ≤ 7) {ps : List II} (hs : ps.Sublist (prs p)) : egB (frow (degs p ps)) = true := by
  unfold egB
  rw [Bool.and_eq_true]
  constructor
  · rw [sum_perm (frow_perm _), sum_deg hs]
    simp
  · rw [List.all_eq_true]
    intro k hk
    rw [frow_len, degs_len, List.mem_range] at hk
    unfold egK
    rw [decide_eq_true_eq, ← byD_row, ← List.map_take, ← List.map_drop, List.map_map]
    have hperm : ((byD p ps).take (k + 1) ++ (byD p ps).drop (k + 1)).Perm (places p) := by rw [List.take_append_drop]; exact byD_perm p ps
    have hlen : ((byD p ps).take (k + 1)).length = k + 1 := by rw [List.length_take, (byD_perm p ps).length_eq, places_len]; omega
    generalize (byD p ps).take (k + 1) = t at hperm hlen
    generalize (byD p ps).drop (k + 1) = r at hperm
    have hn : (t ++ r).Nodup := hperm.symm.nodup (places_nodup p)
    obtain ⟨tn, _, _⟩ := List.nodup_append.mp hn
    have tm : ∀ i ∈ t, 0 ≤ i ∧ i < p := fun i hi => mem_places.mp (hperm.mem_iff.mp (List.mem_append_left _ hi))
    have main := side_ineq hp hs (inS t)
    have o1 : sumR (one (inS t)) p = ((k + 1 : Nat) : Int) := by
      have := sumR_in (fun _ => 1) tn tm
      have c : sumR (one (inS t)) p = sumR (fun i => if i ∈ t then 1 else 0) p := sumR_congr p fun i _ _ => by simp [one, inS]
      rw [c, this, ← hlen, sum_1s]
    have o2 : sumR (fun i => one (inS t) i * (cnt i ps : Int)) p = (t.map fun i => (cnt i ps : Int)).sum := by
      rw [← sumR_in (fun i => (cnt i ps : Int)) tn tm]
      refine sumR_congr p fun i _ _ => ?_
      by_cases c : i ∈ t <;> simp [one, inS, c]
    have o3 : sumR (fun i => (1 - one (inS t) i) * min (cnt i ps : Int) ((k + 1 : Nat) : Int)) p = (r.map fun i => min (cnt i ps : Int) ((k + 1 : Nat) : Int)).sum := by
      rw [← sum_in_split hperm]
      refine sumR_congr p fun i _ _ => ?_
      by_cases c : i ∈ t <;> simp [one, inS, c]
    rw [o1, o2, o3] at main
    exact main
/-! ### laying off -/
def insF (x : Int) : List Int → List Int
  | [] => [x]
  | y :: l => if y ≤ x then x :: y :: l else y :: insF x l
def fsort : List Int → List Int
  | [] => []
  | x :: l => insF x (fsort l)
theorem insF_perm (x : Int) : ∀ l : List Int, (insF x l).Perm (x :: l)
  | [] => List.Perm.refl _
  | y :: l => by
    unfold insF
    split
    · exact List.Perm.refl _
    · exact ((insF_perm x l).cons y).trans (List.Perm.swap x y l)
theorem insF_fall (x : Int) : ∀ {l : List Int}, Fall l → Fall (insF x l)
  | [], _ => List.pairwise_singleton _ _
  | y :: l, h => by
    obtain ⟨h1, h2⟩ := List.pairwise_cons.mp h
    unfold insF
    split
    · rename_i c
      refine List.pairwise_cons.mpr ⟨fun z hz => ?_, h⟩
      rcases List.mem_cons.mp hz with e | e
      · omega
      · have := h1 z e; omega
    · rename_i c
      refine List.pairwise_cons.mpr ⟨fun z hz => ?_, insF_fall x h2⟩
      rcases List.mem_cons.mp ((insF_perm x l).mem_iff.mp hz) with e | e
      · omega
      · exact h1 z e
theorem fsort_perm : ∀ l : List Int, (fsort l).Perm l
  | [] => List.Perm.refl _
  | x :: l => (insF_perm x (fsort l)).trans ((fsort_perm l).cons x)
theorem fsort_fall : ∀ l : List Int, Fall (fsort l)
  | [] => List.Pairwise.nil
  | x :: l => insF_fall x (fsort_fall l)
theorem frow_fsort (l : List Int) : frow l = fsort l := frow_of (fsort_fall l) (fsort_perm l)
/-- one turn of laying off -/
def layN (x : Int) (rest : List Int) : List Int := fsort ((rest.take x.toNat).map (· - 1) ++ rest.drop x.toNat)
def layB : Nat → List Int → Bool
  | _, [] => true
  | 0, _ => false
  | n + 1, x :: rest => if x ≤ 0 then true else if (rest.length : Int) < x ∨ rest.getD (x.toNat - 1) 0 = 0 then false else layB n (layN x rest)
/-- all falling lists of so many numbers up to one -/
def falls : Nat → Nat → List (List Int)
  | 0, _ => [[]]
  | n + 1, t => (List.range (t + 1)).flatMap fun v => (falls n v).map fun l => (v : Int) :: l
theorem mem_falls : ∀ (n t : Nat) {l : List Int}, Fall l → l.length = n → (∀ x ∈ l, 0 ≤ x ∧ x ≤ t) → l ∈ falls n t
  | 0, t, l, _, hl, _ => by
    rw [List.length_eq_zero_iff] at hl
    subst hl
    exact List.mem_singleton.mpr rfl
  | n + 1, t, l, hf, hl, hm => by
    rcases l with _ | ⟨x, l⟩
    · cases hl
    · obtain ⟨h1, h2⟩ := List.pairwise_cons.mp hf
      have hx := hm x List.mem_cons_self
      simp only [falls, List.mem_flatMap, List.mem_range, List.mem_map]
      refine ⟨x.toNat, by omega, l, mem_falls n x.toNat h2 (by simpa using hl) fun y hy => ?_, by rw [show ((x.toNat : Nat) : Int) = x by omega]⟩
      have := h1 y hy
      have := hm y (List.mem_cons_of_mem _ hy)
      omega
theorem eg_lay_all : ∀ n : Fin 8, (falls n (n - 1)).all (fun l => egB l == layB 8 l) = true := by decide +kernel
theorem eg_lay {l : List Int} (hf : Fall l) (hl : l.length ≤ 7) (h0 : l ≠ []) (hm : ∀ x ∈ l, 0 ≤ x ∧ x < l.length) : egB l = layB 8 l := by
  have hp : 0 < l.length := List.length_pos_iff.mpr h0
  have h := List.all_eq_true.mp (eg_lay_all ⟨l.length, by omega⟩) l (mem_falls l.length (l.length - 1) hf rfl fun x hx => by have := hm x hx; omega)
  simpa using h
/-- too great a first one -/
theorem lay_great {x : Int} {l : List Int} {n : Nat} (h : (l.length : Int) < x) : layB (n + 1) (x :: l) = false := by
  unfold layB
  rw [if_neg (by omega), if_pos (.inl h)]
end NH

end
section
set_option Elab.async false
set_option linter.all false
set_option maxRecDepth 100000
set_option maxHeartbeats 4000000
/-! A web of a row. -/
namespace NH
open DL
/-! ### sorted pairs -/
theorem lePr_trans (a b c : II) (h1 : lePr a b = true) (h2 : lePr b c = true) : lePr a c = true := by
  simp only [lePr, decide_eq_true_eq] at *; omega
theorem lePr_total (a b : II) : (lePr a b || lePr b a) = true := by
  simp only [lePr, Bool.or_eq_true, decide_eq_true_eq]; omega
theorem lePr_anti {a b : II} (h1 : lePr a b = true) (h2 : lePr b a = true) : a = b := by
  simp only [lePr, decide_eq_true_eq] at *
  exact Prod.ext (by omega) (by omega)
theorem srtP_pw (l : List II) : (srtP l).Pairwise fun a b => lePr a b = true := List.pairwise_mergeSort lePr_trans lePr_total l
theorem srtP_uniq {l m : List II} (hm : m.Pairwise fun a b => lePr a b = true) (h : l.Perm m) : srtP l = m :=
  List.Perm.eq_of_pairwise (le := fun a b => lePr a b = true) (fun a b _ _ h1 h2 => lePr_anti h1 h2) (srtP_pw l) hm ((srtP_perm l).trans h)
def insQ (x : II) : List II → List II
  | [] => [x]
  | y :: l => if lePr x y = true then x :: y :: l else y :: insQ x l
def psort : List II → List II
  | [] => []
  | x :: l => insQ x (psort l)
theorem insQ_perm (x : II) : ∀ l : List II, (insQ x l).Perm (x :: l)
  | [] => List.Perm.refl _
  | y :: l => by
    unfold insQ
    split
    · exact List.Perm.refl _
    · exact ((insQ_perm x l).cons y).trans (List.Perm.swap x y l)
theorem insQ_pw (x : II) : ∀ {l : List II}, (l.Pairwise fun a b => lePr a b = true) → (insQ x l).Pairwise fun a b => lePr a b = true
  | [], _ => List.pairwise_singleton _ _
  | y :: l, h => by
    obtain ⟨h1, h2⟩ := List.pairwise_cons.mp h
    unfold insQ
    split
    · rename_i c
      refine List.pairwise_cons.mpr ⟨fun z hz => ?_, h⟩
      rcases List.mem_cons.mp hz with e | e
      · rw [e]; exact c
      · exact lePr_trans _ _ _ c (h1 z e)
    · rename_i c
      refine List.pairwise_cons.mpr ⟨fun z hz => ?_, insQ_pw x h2⟩
      rcases List.mem_cons.mp ((insQ_perm x l).mem_iff.mp hz) with e | e
      · have := lePr_total x y
        rw [e]
        simpa [c] using this
      · exact h1 z e
theorem psort_perm : ∀ l : List II, (psort l).Perm l
  | [] => List.Perm.refl _
  | x :: l => (insQ_perm x (psort l)).trans ((psort_perm l).cons x)
theorem psort_pw : ∀ l : List II, (psort l).Pairwise fun a b => lePr a b = true
  | [] => List.Pairwise.nil
  | x :: l => insQ_pw x (psort_pw l)
theorem srtP_psort (l : List II) : srtP l = psort l := srtP_uniq (psort_pw l) (psort_perm l).symm
/-! ### the turns -/
def enumL (l : List Int) : List II := (List.range l.length).map fun (i : Nat) => ((i : Int), l.getD i 0)
def ordL (left : List Int) : List Int := (psort ((enumL left).map fun x => (-x.2, x.1))).map (·.2)
def nearI (left : List Int) : List Int := ((ordL left).drop 1).take (gJ left ((ordL left).headD 0)).toNat
where gJ (ns : List Int) (k : Int) : Int := ns.getD k.toNat 0
def leftN (left : List Int) : List Int := (enumL left).map fun x => if x.1 = (ordL left).headD 0 then 0 else x.2 - (if x.1 ∈ nearI left then 1 else 0)
def tiesN (left : List Int) (ts : List II) : List II := ts ++ (nearI left).map fun o => (min ((ordL left).headD 0) o, max ((ordL left).headD 0) o)
def anyN : Nat → List Int → List II → List II
  | 0, _, ts => ts
  | n + 1, left, ts => anyN n (leftN left) (tiesN left ts)
def anyT (row : List Int) : List II := psort (anyN row.length row [])
theorem any_all : ∀ n : Fin 8, (falls n (n - 1)).all (fun l => !egB l || ((anyT l).isSublist (prs n) && (degs n (anyT l) == l))) = true := by decide +kernel
/-- a row: falling numbers below their number that pass -/
structure Rw (row : List Int) : Prop where
  ne : row ≠ []
  le : row.length ≤ 7
  fall : Fall row
  mem : ∀ x ∈ row, 0 ≤ x ∧ x < row.length
  eg : egB row = true
theorem Rw.web {row : List Int} (h : Rw row) : (anyT row).Sublist (prs row.length) ∧ degs row.length (anyT row) = row := by
  have hp : 0 < row.length := List.length_pos_iff.mpr h.ne
  have a := List.all_eq_true.mp (any_all ⟨row.length, by have := h.le; omega⟩) row (mem_falls row.length (row.length - 1) h.fall rfl fun x hx => by have := h.mem x hx; omega)
  simp only [h.eg, Bool.not_true, Bool.false_or, Bool.and_eq_true, beq_iff_eq] at a
  exact ⟨List.isSublist_iff_sublist.mp a.1, a.2⟩
theorem frow_fall {l : List Int} (h : Fall l) : frow l = l := frow_of h (List.Perm.refl _)
theorem cnt_lt {p : Nat} (hp : p ≤ 7) {ps : List II} (hs : ps.Sublist (prs p)) {i : Int} (i0 : 0 ≤ i) (i1 : i < p) : (cnt i ps : Int) < p := by
  have h : ∀ p : Fin 8, ∀ i : Fin 7, (i : Nat) < (p : Nat) → cnt ((i : Nat) : Int) (prs p) < (p : Nat) := by decide
  have a := h ⟨p, by omega⟩ ⟨i.toNat, by omega⟩ (by show i.toNat < p; omega)
  have b := (hs.filter (hasI i)).length_le
  simp only at a
  rw [show ((i.toNat : Nat) : Int) = i by omega] at a
  unfold cnt at *
  omega
/-- the row of a web is one -/
theorem rw_web {p : Nat} {ps : List II} (h1 : 1 ≤ p) (hp : p ≤ 7) (hs : ps.Sublist (prs p)) : Rw (frow (degs p ps)) where
  ne := fun e => by have := congrArg List.length e; rw [frow_len, degs_len] at this; simp at this; omega
  le := by rw [frow_len, degs_len]; exact hp
  fall := fall_frow _
  mem := fun x hx => by
    rw [(frow_perm _).mem_iff] at hx
    obtain ⟨i, hi, rfl⟩ := List.mem_map.mp hx
    obtain ⟨i0, i1⟩ := mem_places.mp hi
    have := cnt_lt hp hs i0 i1
    rw [frow_len, degs_len]
    omega
  eg := eg_web hp hs
end NH

end
section
set_option Elab.async false
set_option linter.all false
set_option maxRecDepth 100000
set_option maxHeartbeats 4000000
/-! All webs of so many places, those with a row; all rows. -/
namespace NH
open DL
def growS (f : List (List II)) (x : II) : List (List II) := f ++ f.map (· ++ [x])
def growT (L : List II) : List (List II) := L.foldl growS [[]]
theorem growS_len : ∀ (L : List II) (acc : List (List II)), (L.foldl growS acc).length = acc.length * 2 ^ L.length
  | [], acc => by simp
  | x :: L, acc => by
    rw [List.foldl_cons, growS_len L, List.length_cons, Nat.pow_succ]
    simp only [growS, List.length_append, List.length_map]
    rw [← Nat.two_mul, Nat.mul_comm 2 acc.length, Nat.mul_assoc, Nat.mul_comm 2]
theorem growT_len (L : List II) : (growT L).length = 2 ^ L.length := by
  unfold growT; rw [growS_len]; simp
theorem growS_sub : ∀ (L pre : List II) (acc : List (List II)), (∀ t ∈ acc, t.Sublist pre) → ∀ t ∈ L.foldl growS acc, t.Sublist (pre ++ L)
  | [], pre, acc, h, t, ht => by rw [List.append_nil]; exact h t ht
  | x :: L, pre, acc, h, t, ht => by
    have := growS_sub L (pre ++ [x]) (growS acc x) (fun u hu => by
      rcases List.mem_append.mp hu with h1 | h1
      · exact (h u h1).trans (List.sublist_append_left pre [x])
      · obtain ⟨v, hv, rfl⟩ := List.mem_map.mp h1
        exact (h v hv).append (List.Sublist.refl _)) t ht
    rw [List.append_assoc] at this
    exact this
theorem growT_sub {L t : List II} (h : t ∈ growT L) : t.Sublist L := by
  have := growS_sub L [] [[]] (fun t ht => by rw [List.mem_singleton.mp ht]; exact List.Sublist.refl _) t h
  exact this
/-! ### as the program makes those with a row -/
def okW (row : List Int) (t : List II) : Bool := (List.range row.length).all fun i => decide ((cnt (i : Int) t : Int) ≤ row.getD i 0)
def progS (row : List Int) (f : List (List II)) (x : II) : List (List II) := f ++ (f.filter fun t => okW row (t ++ [x])).map (· ++ [x])
def progT (row : List Int) (L : List II) : List (List II) := L.foldl (progS row) [[]]
theorem cnt_snoc (i : Int) (t : List II) (x : II) : cnt i (t ++ [x]) = cnt i t + (if hasI i x = true then 1 else 0) := by
  unfold cnt
  rw [List.filter_append, List.length_append, List.filter_cons]
  cases hasI i x <;> rfl
theorem okW_iff {row : List Int} {t : List II} : okW row t = true ↔ ∀ i : Nat, i < row.length → (cnt (i : Int) t : Int) ≤ row.getD i 0 := by
  simp [okW, List.all_eq_true]
theorem okW_mono {row : List Int} {t : List II} {x : II} (h : okW row (t ++ [x]) = true) : okW row t = true := by
  rw [okW_iff] at h ⊢
  intro i hi
  have := h i hi
  rw [cnt_snoc] at this
  split at this <;> omega
theorem prog_filter (row : List Int) : ∀ (L : List II) (acc : List (List II)), L.foldl (progS row) (acc.filter (okW row)) = (L.foldl growS acc).filter (okW row)
  | [], acc => rfl
  | x :: L, acc => by
    rw [List.foldl_cons, List.foldl_cons, ← prog_filter row L]
    congr 1
    unfold progS growS
    rw [List.filter_append, List.filter_map, List.filter_filter]
    congr 2
    refine List.filter_congr fun t _ => ?_
    cases h : okW row (t ++ [x]) with
    | true => rw [okW_mono h]; simp [h]
    | false => simp [h]
theorem progT_eq {row : List Int} (h : ∀ x ∈ row, 0 ≤ x) (L : List II) : progT row L = (growT L).filter (okW row) := by
  have e : okW row [] = true := okW_iff.mpr fun i hi => by
    have := h _ (List.getElem_mem hi)
    simp [cnt, hi, this]
  have := prog_filter row L [[]]
  rw [List.filter_cons, if_pos e] at this
  exact this
theorem progT_le {row : List Int} (h : ∀ x ∈ row, 0 ≤ x) (L : List II) : (progT row L).length ≤ 2 ^ L.length := by
  rw [progT_eq h, ← growT_len]; exact List.length_filter_le _ _
def leftOf (row : List Int) (t : List II) : List Int := (List.range row.length).map fun i => row.getD i 0 - (cnt (i : Int) t : Int)
theorem leftOf_len (row : List Int) (t : List II) : (leftOf row t).length = row.length := by simp [leftOf]
theorem leftOf_at {row : List Int} {t : List II} {i : Nat} (h : i < row.length) : (leftOf row t).getD i 0 = row.getD i 0 - (cnt (i : Int) t : Int) := by simp [leftOf, h]
theorem okW_next {row : List Int} {t : List II} {x : II} (h : okW row t = true) (h0 : 0 ≤ x.1) (h1 : x.1 < x.2) (h2 : x.2 < row.length) :
    okW row (t ++ [x]) = decide (0 < min ((leftOf row t).getD x.1.toNat 0) ((leftOf row t).getD x.2.toNat 0)) := by
  rw [leftOf_at (by omega), leftOf_at (by omega), show ((x.1.toNat : Nat) : Int) = x.1 by omega, show ((x.2.toNat : Nat) : Int) = x.2 by omega]
  rw [okW_iff] at h
  rw [Bool.eq_iff_iff, okW_iff, decide_eq_true_eq]
  constructor
  · intro g
    have a := g x.1.toNat (by omega)
    have b := g x.2.toNat (by omega)
    rw [cnt_snoc, show ((x.1.toNat : Nat) : Int) = x.1 by omega, if_pos (by simp [hasI])] at a
    rw [cnt_snoc, show ((x.2.toNat : Nat) : Int) = x.2 by omega, if_pos (by simp [hasI])] at b
    omega
  · intro g i hi
    have c := h i hi
    rw [cnt_snoc]
    by_cases e1 : x.1 = i
    · have : x.1.toNat = i := by omega
      rw [this, e1] at g
      split <;> omega
    · by_cases e2 : x.2 = i
      · have : x.2.toNat = i := by omega
        rw [this, e2] at g
        split <;> omega
      · rw [if_neg (by simp [hasI, e1, e2])]; omega
def maxL : List Int → Int
  | [] => 0
  | n :: r => r.foldl max n
theorem fmax_le : ∀ (r : List Int) (n : Int), n ≤ r.foldl max n ∧ ∀ y ∈ r, y ≤ r.foldl max n
  | [], n => ⟨Int.le_refl _, fun y hy => by cases hy⟩
  | m :: r, n => by
    obtain ⟨h1, h2⟩ := fmax_le r (max n m)
    rw [List.foldl_cons]
    refine ⟨by omega, fun y hy => ?_⟩
    rcases List.mem_cons.mp hy with e | e
    · omega
    · exact h2 y e
theorem fmax_mem : ∀ (r : List Int) (n : Int), r.foldl max n = n ∨ r.foldl max n ∈ r
  | [], n => .inl rfl
  | m :: r, n => by
    rw [List.foldl_cons]
    rcases fmax_mem r (max n m) with h | h
    · by_cases c : m ≤ n
      · left; omega
      · right; rw [h, show max n m = m by omega]; exact List.mem_cons_self
    · right; exact List.mem_cons_of_mem _ h
theorem maxL_zero {l : List Int} (h : ∀ x ∈ l, 0 ≤ x) : maxL l = 0 ↔ ∀ x ∈ l, x = 0 := by
  cases l with
  | nil => simp [maxL]
  | cons n r =>
    obtain ⟨a, b⟩ := fmax_le r n
    constructor
    · intro e x hx
      have h0 := h x hx
      have e' : r.foldl max n = 0 := e
      rcases List.mem_cons.mp hx with q | q
      · omega
      · have := b x q; omega
    · intro e
      show r.foldl max n = 0
      rcases fmax_mem r n with q | q
      · rw [q]; exact e n List.mem_cons_self
      · exact e _ (List.mem_cons_of_mem _ q)
def hasR (row : List Int) (t : List II) : Bool := decide (degs row.length t = row)
theorem degs_get {p : Nat} {t : List II} {i : Nat} (h : i < p) : (degs p t).getD i 0 = cnt (i : Int) t := by simp [degs, places, h]
theorem hasR_iff {row : List Int} {t : List II} : hasR row t = true ↔ ∀ i : Nat, i < row.length → (cnt (i : Int) t : Int) = row.getD i 0 := by
  unfold hasR
  rw [decide_eq_true_eq]
  constructor
  · intro e i hi
    rw [← degs_get hi, e]
  · intro h
    refine List.ext_getElem (degs_len _ _) fun i h1 h2 => ?_
    have a := h i h2
    rw [← degs_get h2] at a
    simpa [h1, h2] using a
theorem last_eq {row : List Int} {t : List II} (h : okW row t = true) : decide (maxL (leftOf row t) = 0) = hasR row t := by
  rw [okW_iff] at h
  have h0 : ∀ x ∈ leftOf row t, 0 ≤ x := fun x hx => by
    obtain ⟨i, hi, rfl⟩ := List.mem_map.mp hx
    have := h i (List.mem_range.mp hi)
    omega
  rw [Bool.eq_iff_iff, decide_eq_true_eq, maxL_zero h0, hasR_iff]
  constructor
  · intro g i hi
    have := g _ (List.mem_map.mpr ⟨i, List.mem_range.mpr hi, rfl⟩)
    omega
  · intro g x hx
    obtain ⟨i, hi, rfl⟩ := List.mem_map.mp hx
    have := g i (List.mem_range.mp hi)
    omega
theorem hasR_ok {row : List Int} {t : List II} (h : hasR row t = true) : okW row t = true :=
  okW_iff.mpr fun i hi => by rw [hasR_iff.mp h i hi]; exact Int.le_refl _
/-- all webs with a row, by their ties -/
def wfL (row : List Int) : List (List II) := (growT (prs row.length)).filter (hasR row)
theorem prog_last {row : List Int} (h : ∀ x ∈ row, 0 ≤ x) : (progT row (prs row.length)).filter (fun t => decide (maxL (leftOf row t) = 0)) = wfL row := by
  rw [progT_eq h, List.filter_filter]
  unfold wfL
  refine List.filter_congr fun t _ => ?_
  cases e : okW row t with
  | true => rw [last_eq e]; simp
  | false =>
    cases e2 : hasR row t with
    | true => rw [hasR_ok e2] at e; cases e
    | false => simp
theorem wfL_sub {row : List Int} {t : List II} (h : t ∈ wfL row) : t.Sublist (prs row.length) := growT_sub (List.mem_filter.mp h).1
theorem wfL_len (row : List Int) (h : row.length ≤ 5) : (wfL row).length ≤ 1024 := by
  have hp : ∀ p : Fin 6, (prs p).length ≤ 10 := by decide
  have := hp ⟨row.length, by omega⟩
  refine Nat.le_trans (List.length_filter_le _ _) ?_
  rw [growT_len]
  exact Nat.pow_le_pow_right (by decide) this
/-! ### rows -/
theorem of_falls : ∀ (n t : Nat) {l : List Int}, l ∈ falls n t → Fall l ∧ l.length = n ∧ ∀ x ∈ l, 0 ≤ x ∧ x ≤ t
  | 0, t, l, h => by
    rw [List.mem_singleton.mp h]
    exact ⟨List.Pairwise.nil, rfl, fun x hx => by cases hx⟩
  | n + 1, t, l, h => by
    simp only [falls, List.mem_flatMap, List.mem_range, List.mem_map] at h
    obtain ⟨v, hv, r, hr, rfl⟩ := h
    obtain ⟨a, b, c⟩ := of_falls n v hr
    refine ⟨List.pairwise_cons.mpr ⟨fun x hx => (c x hx).2, a⟩, by rw [List.length_cons, b], fun x hx => ?_⟩
    rcases List.mem_cons.mp hx with e | e
    · omega
    · have := c x e; omega
theorem falls_asc : ∀ (n t : Nat), (falls n t).Pairwise (· < ·)
  | 0, t => List.pairwise_singleton _ _
  | n + 1, t => by
    unfold falls
    rw [List.pairwise_flatMap]
    refine ⟨fun v _ => ?_, ?_⟩
    · rw [List.pairwise_map]
      exact (falls_asc n v).imp fun h => List.cons_lt_cons_iff.mpr (.inr ⟨rfl, h⟩)
    · refine List.pairwise_lt_range.imp fun h x hx y hy => ?_
      obtain ⟨a, _, rfl⟩ := List.mem_map.mp hx
      obtain ⟨b, _, rfl⟩ := List.mem_map.mp hy
      exact List.cons_lt_cons_iff.mpr (.inl (by omega))
def nxP (p : Nat) (r : List Int) : Nat := match r.getLast? with
  | none => p
  | some x => (x + 1).toNat
def rowsP (p : Nat) : Nat → List (List Int)
  | 0 => [[]]
  | k + 1 => (rowsP p k).flatMap fun r => (places (nxP p r)).map fun o => r ++ [o]
def nxL (top : Int) (r : List Int) : Nat := (minL (top :: r) + 1).toNat
def rowsL (top : Int) : Nat → List (List Int)
  | 0 => [[]]
  | k + 1 => (rowsL top k).flatMap fun r => (places (nxL top r)).map fun o => r ++ [o]
theorem rows_all : ∀ p : Fin 7, rowsP p p = falls p (p - 1) ∧ (rowsL ((p : Nat) - 1) p = falls p (p - 1) ∨ (p : Nat) = 0) := by decide +kernel
theorem rowsP_eq {p : Nat} (h : p ≤ 6) : rowsP p p = falls p (p - 1) := (rows_all ⟨p, by omega⟩).1
theorem rowsL_eq {p : Nat} (h1 : 1 ≤ p) (h : p ≤ 6) : rowsL ((p : Int) - 1) p = falls p (p - 1) := (rows_all ⟨p, by omega⟩).2.resolve_right (by show ¬ p = 0; omega)
theorem rows_lens : ∀ p : Fin 7, ∀ k : Fin 7, (rowsP p k).length ≤ 5000 ∧ (rowsL ((p : Nat) - 1) k).length ≤ 5000 := by decide +kernel
theorem falls_len {p : Nat} (h : p ≤ 6) : (falls p (p - 1)).length ≤ 500 := by
  have : ∀ p : Fin 7, (falls p (p - 1)).length ≤ 500 := by decide +kernel
  exact this ⟨p, by omega⟩
theorem rowsP_in (p : Nat) : ∀ (k : Nat) (r : List Int), r ∈ rowsP p k → r.length = k ∧ ∀ x ∈ r, 0 ≤ x ∧ x < p
  | 0, r, h => by rw [List.mem_singleton.mp h]; exact ⟨rfl, fun x hx => by cases hx⟩
  | k + 1, r, h => by
    simp only [rowsP, List.mem_flatMap, List.mem_map] at h
    obtain ⟨q, hq, o, ho, rfl⟩ := h
    obtain ⟨a, b⟩ := rowsP_in p k q hq
    obtain ⟨o0, o1⟩ := mem_places.mp ho
    have hn : nxP p q ≤ p := by
      unfold nxP
      cases e : q.getLast? with
      | none => exact Nat.le_refl _
      | some x =>
        have := b x (List.mem_of_getLast? e)
        show (x + 1).toNat ≤ p
        omega
    refine ⟨by rw [List.length_append, a]; rfl, fun x hx => ?_⟩
    rcases List.mem_append.mp hx with e | e
    · exact b x e
    · rw [List.mem_singleton.mp e]; omega
theorem rowsL_in (top : Int) (ht : 0 ≤ top) : ∀ (k : Nat) (r : List Int), r ∈ rowsL top k → r.length = k ∧ ∀ x ∈ r, 0 ≤ x ∧ x ≤ top
  | 0, r, h => by rw [List.mem_singleton.mp h]; exact ⟨rfl, fun x hx => by cases hx⟩
  | k + 1, r, h => by
    simp only [rowsL, List.mem_flatMap, List.mem_map] at h
    obtain ⟨q, hq, o, ho, rfl⟩ := h
    obtain ⟨a, b⟩ := rowsL_in top ht k q hq
    obtain ⟨o0, o1⟩ := mem_places.mp ho
    have hn : minL (top :: q) ≤ top := minL_le List.mem_cons_self
    have h0 : 0 ≤ minL (top :: q) := by
      rcases List.mem_cons.mp (minL_mem (l := top :: q) (by simp)) with e | e
      · omega
      · exact (b _ e).1
    unfold nxL at o1
    refine ⟨by rw [List.length_append, a]; rfl, fun x hx => ?_⟩
    rcases List.mem_append.mp hx with e | e
    · exact b x e
    · rw [List.mem_singleton.mp e]; omega
end NH

end
section
set_option Elab.async false
set_option linter.all false
set_option maxRecDepth 100000
set_option maxHeartbeats 4000000
/-! Readings of comprehensions and loops over mapped lists. -/
namespace DL
open PySem PySem.Spec PyProof.Rows L2
theorem lc_map {α : Type} {g : DGt} {t : FT} {f : FE} {ρ : DSt} (enc : α → Dat) (gs : α → DSt) (p : α → Bool) (h : α → Dat) : ∀ {L : List α}, (∀ x ∈ L, g (enc x) ρ = some (gs x) ∧ t (gs x) = .ok (p x) ∧ (p x = true → f (gs x) = .ok (h x))) →
    fLcL g t f ρ (L.map enc) = .ok ((L.filter p).map h)
  | [], _ => rfl
  | x :: L, hx => by
    have ih := lc_map (g := g) (t := t) (f := f) (ρ := ρ) enc gs p h (L := L) fun y hy => hx y (List.mem_cons_of_mem _ hy)
    obtain ⟨h1, h2, h3⟩ := hx x List.mem_cons_self
    rw [List.map_cons]
    unfold fLcL
    simp only [h1, h2, R.ok_bind]
    cases e : p x with
    | false => simp [List.filter_cons, e, ih]
    | true => simp [List.filter_cons, e, ih, h3 e]
theorem lc_mapA {α : Type} {g : DGt} {f : FE} {ρ : DSt} (enc : α → Dat) (gs : α → DSt) (h : α → Dat) {L : List α} (hx : ∀ x ∈ L, g (enc x) ρ = some (gs x) ∧ f (gs x) = .ok (h x)) :
    fLcL g fYes f ρ (L.map enc) = .ok (L.map h) := by
  have := lc_map (t := fYes) enc gs (fun _ => true) h (L := L) fun x hx' => ⟨(hx x hx').1, rfl, fun _ => (hx x hx').2⟩
  rw [List.filter_eq_self.mpr fun _ _ => rfl] at this
  exact this
theorem forL_inv {g : DGt} {body : DTS} {D : DEnds} {I : DSt → DM → Prop} : ∀ (xs : List Dat) (ρ : DSt) (M : DM), (∀ x ∈ xs, ∀ ρ M, I ρ M → ∃ ρ1, g x ρ = some ρ1 ∧ ∀ D' : DEnds, D'.rt = D.rt → (∀ ρ M, I ρ M → D'.nx ρ M) → body D' ρ1 M) → I ρ M → (∀ ρ M, I ρ M → D.nx ρ M) → dForL g body D xs ρ M
  | [], ρ, M, _, h, k => k ρ M h
  | x :: xs, ρ, M, hb, h, k => by
    obtain ⟨ρ1, e, b⟩ := hb x List.mem_cons_self ρ M h
    unfold dForL
    rw [e]
    exact b _ rfl fun ρ' M' h' => forL_inv (I := I) xs ρ' M' (fun y hy => hb y (List.mem_cons_of_mem _ hy)) h' k
/-- the invariant knows what has been gone through -/
theorem forL_map {α : Type} {g : DGt} {body : DTS} {D : DEnds} (enc : α → Dat) {I : List α → DSt → DM → Prop} (L : List α) {ρ : DSt} {M : DM}
    (hb : ∀ (l : List α) (x : α) (r : List α), L = l ++ x :: r → ∀ ρ M, I l ρ M → ∃ ρ1, g (enc x) ρ = some ρ1 ∧ ∀ D' : DEnds, D'.rt = D.rt → (∀ ρ M, I (l ++ [x]) ρ M → D'.nx ρ M) → body D' ρ1 M)
    (h : I [] ρ M) (k : ∀ ρ M, I L ρ M → D.nx ρ M) : dForL g body D (L.map enc) ρ M := by
  have go : ∀ (r l : List α), L = l ++ r → ∀ ρ M, I l ρ M → dForL g body D (r.map enc) ρ M := by
    intro r
    induction r with
    | nil => intro l e ρ M hI; rw [List.append_nil] at e; exact k ρ M (e ▸ hI)
    | cons x r ih =>
      intro l e ρ M hI
      obtain ⟨ρ1, e1, b⟩ := hb l x r e ρ M hI
      rw [List.map_cons]
      unfold dForL
      rw [e1]
      exact b _ rfl fun ρ' M' h' => ih (l ++ [x]) (by rw [e, List.append_assoc]; rfl) ρ' M' h'
  exact go L [] rfl ρ M h
theorem ran_eq (n : Nat) : ran 0 n = (List.range n).map fun (k : Nat) => Dat.int (k : Int) := by simp [ran]
theorem forF_inv {g : DGt} {body : FS} {I : DSt → Prop} : ∀ (xs : List Dat) (ρ : DSt), (∀ x ∈ xs, ∀ ρ, I ρ → ∃ ρ1, g x ρ = some ρ1 ∧ ∃ ρ2, body ρ1 = .ok (.nx ρ2) ∧ I ρ2) → I ρ → ∃ ρ', fForL g body xs ρ = .ok (.nx ρ') ∧ I ρ'
  | [], ρ, _, h => ⟨ρ, rfl, h⟩
  | x :: xs, ρ, hb, h => by
    obtain ⟨ρ1, e, ρ2, e2, h2⟩ := hb x List.mem_cons_self ρ h
    obtain ⟨ρ', f1, f2⟩ := forF_inv (g := g) (body := body) (I := I) xs ρ2 (fun y hy => hb y (List.mem_cons_of_mem _ hy)) h2
    refine ⟨ρ', ?_, f2⟩
    unfold fForL
    simp only [e, e2, R.ok_bind]
    exact f1
end DL

end
section
set_option Elab.async false
set_option linter.all false
set_option maxRecDepth 100000
set_option maxHeartbeats 4000000
/-! sorted, typed. -/
namespace NH
open PySem PySem.Spec PyProof.Rows L2 DL
theorem leD_int (i j : Int) : leD (.int i) (.int j) = leI i j := congrFun (congrFun (PySem.W.dataLe_int (fun x : Int => x)) i) j
theorem leD_dpr (x y : II) : leD (dpr x) (dpr y) = lePr x y := congrFun (congrFun (PySem.W.dataLe_ii (fun x : II => x.1) (fun x : II => x.2)) x) y
/-- a side -/
def sd (s : List Int) : Dat := .tup (s.map .int)
theorem leD_sd (s t : List Int) : leD (sd s) (sd t) = leSd s t := by
  show (!PySem.W.dataLt (.tuple (pyL (t.map .int))) (.tuple (pyL (s.map .int)))) = _
  rw [pyL_ints, pyL_ints, PySem.W.dataLt_tuple]
  exact congrArg (!·) (PySem.W.dataLt_ints t s)
theorem sort_ints (l : List Int) : (l.map Dat.int).mergeSort leD = (srt l).map .int := (List.map_mergeSort fun a _ b _ => (leD_int a b).symm).symm
theorem sort_prs (l : List II) : (l.map dpr).mergeSort leD = (srtP l).map dpr := (List.map_mergeSort fun a _ b _ => (leD_dpr a b).symm).symm
theorem sort_sds (l : List (List Int)) : (l.map sd).mergeSort leD = (srtS l).map sd := (List.map_mergeSort fun a _ b _ => (leD_sd a b).symm).symm
theorem all_isI (l : List Int) : (l.map Dat.int).all isI = true := by simp [isI]
theorem all_row (l : List II) : (l.map dpr).all isRow = true := by simp [isRow, dpr, isI]
theorem oSort_ints (l : List Int) : oSortE [.lst (l.map Dat.int)] = some (.lst ((srt l).map .int)) := by
  simp only [oSortE, all_isI, Bool.true_or, if_true, sort_ints]
theorem oSort_prs (l : List II) : oSortE [.lst (l.map dpr)] = some (.lst ((srtP l).map dpr)) := by
  simp only [oSortE, all_row, Bool.or_true, if_true, sort_prs]
theorem oSort_sds (l : List (List Int)) : oSortE [.lst (([] :: l).map sd)] = some (.lst ((srtS ([] :: l)).map sd)) := by
  have h : (l.map sd).all isRow0 = true := by simp [isRow0, sd, isI]
  rw [← sort_sds]
  have e : (([] :: l).map sd) = Dat.tup [] :: l.map sd := rfl
  rw [e]
  unfold oSortE
  simp only [h, if_true, ite_self]
end NH

end
section
set_option Elab.async false
set_option linter.all false
set_option maxRecDepth 100000
set_option maxHeartbeats 4000000
/-! Facts that all laws use: values, ties, webs, the drum. -/
namespace NH
open PySem PySem.Spec PyProof.Rows L2 DL
/-! ### plain facts -/
theorem dok_plain {n : Nat} {d : Dat} (h : dok n d = true) : plain d = true := by cases n <;> cases d <;> first | rfl | (simp [dok] at h)
theorem dok_tup {n : Nat} {xs : List Dat} (h : dok (n + 1) (.tup xs) = true) : ∀ x ∈ xs, dok n x = true := by simpa [dok] using h
theorem at_nat {xs : List Dat} {k : Nat} (h : k < xs.length) : atI xs (k : Int) = some xs[k] := by
  unfold L2.atI ixN
  rw [if_pos (by omega), if_pos (by omega)]
  simp [h]
theorem ix_nat {xs : List Dat} {k : Nat} (h : k < xs.length) : oIx (.tup xs) (.int (k : Int)) = some xs[k] := at_nat h
theorem ix_natL {xs : List Dat} {k : Nat} (h : k < xs.length) : oIx (.lst xs) (.int (k : Int)) = some xs[k] := at_nat h
@[simp] theorem ix0 (a : Dat) (r : List Dat) : oIx (.tup (a :: r)) (.int 0) = some a := at_nat (xs := a :: r) (k := 0) (by simp)
@[simp] theorem ix1 (a b : Dat) (r : List Dat) : oIx (.tup (a :: b :: r)) (.int 1) = some b := at_nat (xs := a :: b :: r) (k := 1) (by simp)
@[simp] theorem neI (i j : Int) : oNe (.int i) (.int j) = some (.bl (!decide (i = j))) := by
  unfold oNe
  simp [dok, deq]
  by_cases h : i = j <;> simp [h]
@[simp] theorem eqI (i j : Int) : oEq (.int i) (.int j) = some (.bl (decide (i = j))) := by
  unfold oEq
  simp [dok, deq]
  by_cases h : i = j <;> simp [h]
/-! ### webs -/
def wholeB (v : Dat) (lo hi : Int) : Bool := match v with
  | .int i => decide (lo ≤ i) && decide (i ≤ hi)
  | _ => false
def tieB (p : Int) (v : Dat) : Bool := match v with
  | .tup [.int a, .int b] => decide (0 ≤ a) && decide (a ≤ p - 1) && (decide (a + 1 ≤ b) && decide (b ≤ p - 1))
  | _ => false
/-! ### all pairs -/
/-! ### what a web is -/
def chainB : List II → Bool
  | a :: b :: r => decide (cod a < cod b) && chainB (b :: r)
  | _ => true
theorem chain_pw : ∀ {ps : List II}, chainB ps = true ↔ ps.Pairwise fun p q => cod p < cod q
  | [] => by simp [chainB]
  | [a] => by simp [chainB]
  | a :: b :: r => by
    have ih := chain_pw (ps := b :: r)
    unfold chainB
    rw [Bool.and_eq_true, decide_eq_true_eq, ih, List.pairwise_cons (a := a)]
    constructor
    · rintro ⟨h1, h2⟩
      refine ⟨fun x hx => ?_, h2⟩
      rcases List.mem_cons.mp hx with e | e
      · rw [e]; exact h1
      · exact Int.lt_trans h1 ((List.pairwise_cons.mp h2).1 x e)
    · rintro ⟨h1, h2⟩
      exact ⟨h1 b List.mem_cons_self, h2⟩
theorem lex_cod {x y : II} (hx : okP x = true) (hy : okP y = true) : HT.lexLt [x.1, x.2] [y.1, y.2] = decide (cod x < cod y) := by
  obtain ⟨a, b⟩ := x
  obtain ⟨c, d⟩ := y
  simp only [okP, Bool.and_eq_true, decide_eq_true_eq] at hx hy
  simp only [HT.lexLt, cod]
  by_cases h1 : a = c
  · by_cases h2 : b < d
    · simp [h1, h2]
      try omega
    · simp [h1, h2]
      try omega
  · by_cases h2 : a < c
    · simp [h1, h2]
      exact decide_eq_true (by omega)
    · simp [h1, h2]
      exact decide_eq_false (by omega)
theorem lt_dpr {x y : II} (hx : okP x = true) (hy : okP y = true) : oLt (dpr x) (dpr y) = some (.bl (decide (cod x < cod y))) := by
  rw [← lex_cod hx hy]; rfl
theorem range_chain : ∀ (ps : List II), ((List.range (ps.length - 1)).map fun k => decide (cod (ps.getD k (0, 0)) < cod (ps.getD (k + 1) (0, 0)))).all id = chainB ps
  | [] => rfl
  | [a] => rfl
  | a :: b :: r => by
    have ih := range_chain (b :: r)
    rw [show (a :: b :: r).length - 1 = ((b :: r).length - 1) + 1 by simp, List.range_succ_eq_map]
    simp only [List.map_cons, List.map_map, List.all_cons, Function.comp_def] at ih ⊢
    unfold chainB
    rw [← ih]
    simp
/-! ### values of bounded depth and width -/
def fit : Nat → Dat → Bool
  | _, .non => true
  | _, .bl _ => true
  | _, .int _ => true
  | _, .str x => PyData.strOk x
  | n + 1, .tup xs => decide (xs.length ≤ 50) && xs.all (fit n)
  | n + 1, .lst xs => decide (xs.length ≤ 50) && xs.all (fit n)
  | _, _ => false
theorem fit_dok : ∀ (n : Nat) (d : Dat), fit n d = true → dok n d = true := by
  intro n
  induction n with
  | zero => intro d h; cases d <;> first | rfl | (simp [fit] at h; done) | (simpa [fit, dok] using h)
  | succ n ih =>
    intro d h
    cases d <;> first
      | rfl
      | (simp [fit] at h; done)
      | (simp only [fit, Bool.and_eq_true, List.all_eq_true, dok] at h ⊢; exact fun x hx => ih x (h.2 x hx))
      | (simpa [fit, dok] using h)
theorem fit_tup {n : Nat} {xs : List Dat} (h : fit (n + 1) (.tup xs) = true) : xs.length ≤ 50 ∧ ∀ x ∈ xs, fit n x = true := by simpa [fit] using h
theorem fit_mono : ∀ (n : Nat) (d : Dat), fit n d = true → fit (n + 1) d = true := by
  intro n
  induction n with
  | zero => intro d h; cases d <;> first | rfl | (simp [fit] at h; done) | (simpa [fit] using h)
  | succ n ih =>
    intro d h
    cases d <;> first
      | rfl
      | (simp [fit] at h; done)
      | (simp only [fit, Bool.and_eq_true, List.all_eq_true] at h ⊢; exact ⟨h.1, fun x hx => ih x (h.2 x hx)⟩)
      | (simpa [fit] using h)
theorem fit_le {n m : Nat} {d : Dat} (h : fit n d = true) (l : n ≤ m) : fit m d = true := by
  induction l with
  | refl => exact h
  | step _ ih => exact fit_mono _ _ ih
/-! ### fits_web -/
def chainD (ts : List Dat) : Bool := match dprs ts with
  | some ps => chainB ps
  | none => false
def webB (v : Dat) : Bool := match v with
  | .tup [.int p, .tup ts] => decide (1 ≤ p) && decide (p ≤ 7) && (ts.all (tieB p) && chainD ts)
  | _ => false
theorem ties_pairs {p : Int} : ∀ {ts : List Dat}, ts.all (tieB p) = true → ∃ ps : List II, ts = ps.map dpr ∧ ∀ x ∈ ps, 0 ≤ x.1 ∧ x.1 < x.2 ∧ x.2 < p
  | [], _ => ⟨[], rfl, fun x hx => by cases hx⟩
  | t :: ts, h => by
    rw [List.all_cons, Bool.and_eq_true] at h
    obtain ⟨ps, e, hp⟩ := ties_pairs h.2
    have h1 := h.1
    unfold tieB at h1
    split at h1
    · rename_i a b
      simp only [Bool.and_eq_true, decide_eq_true_eq] at h1
      refine ⟨(a, b) :: ps, by rw [e]; rfl, fun x hx => ?_⟩
      rcases List.mem_cons.mp hx with e | e
      · rw [e]; exact ⟨h1.1.1, by simp only; omega, by simp only; omega⟩
      · exact hp x e
    · cases h1
theorem ok_of {p : Int} (hp : p ≤ 7) {x : II} (h : 0 ≤ x.1 ∧ x.1 < x.2 ∧ x.2 < p) : okP x = true := by
  simp only [okP, Bool.and_eq_true, decide_eq_true_eq]; omega
theorem chain_eval {ps : List II} (hl : ps.length ≤ 50) (ho : ∀ x ∈ ps, okP x = true) (p : Dat) : fLcL (gOne 1) fYes (fOp2 oLt (fOp2 oIx (fOp2 oIx (fVar 0) (fC (.int 1))) (fVar 1)) (fOp2 oIx (fOp2 oIx (fVar 0) (fC (.int 1))) (fOp2 oAdd (fVar 1) (fC (.int 1)))))
    [some (.tup [p, .tup (ps.map dpr)]), none, none] (ran 0 (ps.length - 1)) = .ok ((List.range (ps.length - 1)).map fun k => Dat.bl (decide (cod (ps.getD k (0, 0)) < cod (ps.getD (k + 1) (0, 0))))) := by
  rw [lc_all (fun d => match d with
    | .int i => Dat.bl (decide (cod (ps.getD i.toNat (0, 0)) < cod (ps.getD (i.toNat + 1) (0, 0))))
    | _ => .non) fun x hx => ?_]
  · simp [ran, List.map_map, Function.comp_def]
  · unfold ran at hx
    obtain ⟨k, hk, rfl⟩ := List.mem_map.mp hx
    have hk := List.mem_range.mp hk
    have h1 : k < ps.length := by omega
    have h2 : k + 1 < ps.length := by omega
    have e1 : oIx (.tup (ps.map dpr)) (.int (k : Int)) = some (dpr ps[k]) := by
      rw [ix_nat (by simpa using h1)]; simp
    have e2 : oIx (.tup (ps.map dpr)) (.int ((k : Int) + 1)) = some (dpr ps[k + 1]) := by
      have := ix_nat (xs := ps.map dpr) (k := k + 1) (by simpa using h2)
      rw [show ((k + 1 : Nat) : Int) = (k : Int) + 1 by omega] at this
      rw [this]; simp
    have e3 := lt_dpr (ho ps[k] (List.getElem_mem h1)) (ho ps[k + 1] (List.getElem_mem h2))
    simp [e1, e2, e3, h1, h2]
theorem all_map {α : Type} (g : α → Bool) (xs : List α) : oAll [.lst (xs.map fun x => Dat.bl (g x))] = some (.bl (xs.all g)) := by
  unfold oAll
  simp only [bools_all, Option.map_some, List.all_map, Function.comp_def]
  rfl
theorem pS {f : FS} {D : DEnds} {ρ : DSt} {M : DM} {fl : Fl} (h : f ρ = .ok fl) (q : D.fl M fl) : purS f D ρ M := by unfold purS; rw [h]; exact q
theorem pE {f : FE} {ρ : DSt} {M : DM} {Q : DQ} {E : DX} {x : Dat} (h : f ρ = .ok x) (q : Q x M) : pur f ρ M Q E := by unfold pur; rw [h]; exact q
theorem pT {f : FT} {ρ : DSt} {M : DM} {Q : Bool → DM → Prop} {E : DX} {x : Bool} (h : f ρ = .ok x) (q : Q x M) : purT f ρ M Q E := by unfold purT; rw [h]; exact q
theorem pA {f : FA} {ρ : DSt} {M : DM} {Q : List Dat → DM → Prop} {E : DX} {x : List Dat} (h : f ρ = .ok x) (q : Q x M) : purA f ρ M Q E := by unfold purA; rw [h]; exact q
@[simp] theorem at0 (x : Dat) (r : List Dat) : L2.atI (x :: r) 0 = some x := at_nat (xs := x :: r) (k := 0) (by simp)
@[simp] theorem at1 (x y : Dat) (r : List Dat) : L2.atI (x :: y :: r) 1 = some y := at_nat (xs := x :: y :: r) (k := 1) (by simp)
@[simp] theorem ixn0 (n : Nat) : ixN (n + 1) 0 = some 0 := by unfold ixN; rw [if_pos (by decide), if_pos (by omega)]; rfl
@[simp] theorem ixn1 (n : Nat) : ixN (n + 1 + 1) 1 = some 1 := by unfold ixN; rw [if_pos (by decide), if_pos (by omega)]; rfl
/-! ### the drum -/
def Drum (M : DM) (a : Addr) : Prop := ∃ g b : Int, M a = some (.lst [.int g, .int b]) ∧ 0 ≤ g ∧ 0 ≤ b ∧ b < 2 ^ 40
theorem mod_ok {i j : Int} (h : 0 < j) : oMod (.int i) (.int j) = some (.int (i % j)) := by simp [oMod, h]
theorem fdiv_ok {i j : Int} (h : 0 < j) (h2 : j < 2 ^ 40) : oFdiv (.int i) (.int j) = some (.int (i / j)) := by
  have : j.natAbs.log2 < 9000 := by
    have : j.natAbs < 2 ^ 40 := by omega
    have := Nat.log2_lt (n := j.natAbs) (k := 40) (by omega)
    omega
  simp [oFdiv, h, this]
theorem mul_ok {i j : Int} (h : j.natAbs < 2 ^ 64) : oMul (.int i) (.int j) = some (.int (i * j)) := by
  have : mulOk i j = true := by simp [mulOk, h]
  simp [oMul, this]
theorem int_ok (i : Int) : oInt [.int i] = some (.int i) := rfl
abbrev NoE : DX := fun _ _ => False
theorem sub_map {l : List Dat} {ps : List II} (h : l.Sublist (ps.map dpr)) : ∃ qs : List II, l = qs.map dpr ∧ qs.Sublist ps := by
  obtain ⟨qs, h1, h2⟩ := List.sublist_map_iff.mp h
  exact ⟨qs, h2, h1⟩
def w1 : Dat := .tup [.int 4, .tup [.tup [.int 0, .int 1], .tup [.int 1, .int 2], .tup [.int 2, .int 3]]]
def w2 : Dat := .tup [.int 4, .tup [.tup [.int 0, .int 1], .tup [.int 2, .int 3]]]
def w3 : Dat := .tup [.int 4, .tup [.tup [.int 0, .int 1], .tup [.int 0, .int 2], .tup [.int 1, .int 2], .tup [.int 1, .int 3]]]
def w4 : Dat := .tup [.int 1, .tup []]
def w5 : Dat := .tup [.int 5, .tup [.tup [.int 0, .int 1], .tup [.int 0, .int 4], .tup [.int 1, .int 2], .tup [.int 2, .int 3], .tup [.int 3, .int 4]]]
theorem deqL_dpr : ∀ (l m : List II), deqL (l.map dpr) (m.map dpr) = decide (l = m)
  | [], [] => by simp [deqL]
  | [], _ :: _ => by simp [deqL]
  | _ :: _, [] => by simp [deqL]
  | (a, b) :: l, (c, d) :: m => by
    simp only [List.map_cons, deqL, deqL_dpr l m]
    simp [dpr, deq, deqL]
    rw [Bool.eq_iff_iff]
    simp [Prod.ext_iff]
theorem deqL_refl {xs : List Dat} (h : ∀ x ∈ xs, deq x x = true) : deqL xs xs = true := by
  induction xs with
  | nil => rfl
  | cons x xs ih => simp only [deqL, Bool.and_eq_true]; exact ⟨h x List.mem_cons_self, ih fun y hy => h y (List.mem_cons_of_mem _ hy)⟩
theorem deq_refl : ∀ (n : Nat) (d : Dat), dok n d = true → deq d d = true := by
  intro n
  induction n with
  | zero => intro d h; cases d <;> first | (simp [deq]; done) | (simp [dok] at h)
  | succ n ih =>
    intro d h
    cases d with
    | tup xs => simp only [dok, List.all_eq_true] at h; simp only [deq]; exact deqL_refl fun x hx => ih x (h x hx)
    | lst xs => simp only [dok, List.all_eq_true] at h; simp only [deq]; exact deqL_refl fun x hx => ih x (h x hx)
    | ty n => simp [dok] at h
    | ref a => simp [dok] at h
    | _ => simp [deq]
theorem ne_self {d : Dat} (h : dok 60 d = true) : oNe d d = some (.bl false) := by unfold oNe; rw [h, deq_refl 60 d h]; rfl
theorem eq_self {d : Dat} (h : dok 60 d = true) : oEq d d = some (.bl true) := by unfold oEq; rw [h, deq_refl 60 d h]; rfl
abbrev mkW (p : Nat) (ps : List II) : Dat := .tup [.int p, .tup (ps.map dpr)]
/-- a web, taken apart -/
structure IsW (p : Nat) (ps : List II) : Prop where
  lo : 1 ≤ p
  hi : p ≤ 7
  mem : ∀ x ∈ ps, 0 ≤ x.1 ∧ x.1 < x.2 ∧ x.2 < p
  ch : chainB ps = true
theorem web_of {v : Dat} (h : webB v = true) : ∃ p ps, v = mkW p ps ∧ IsW p ps := by
  unfold webB at h
  split at h
  · rename_i p ts
    simp only [Bool.and_eq_true, decide_eq_true_eq] at h
    obtain ⟨⟨h1, h2⟩, h3, h4⟩ := h
    obtain ⟨q, rfl⟩ : ∃ q : Nat, p = q := ⟨p.toNat, by omega⟩
    obtain ⟨ps, rfl, hp⟩ := ties_pairs h3
    refine ⟨q, ps, rfl, by omega, by omega, hp, ?_⟩
    unfold chainD at h4
    rw [dprs_map] at h4
    exact h4
  · cases h
theorem tie_dpr {p : Nat} {x : II} : tieB p (dpr x) = true ↔ 0 ≤ x.1 ∧ x.1 < x.2 ∧ x.2 < p := by
  simp only [tieB, dpr, Bool.and_eq_true, decide_eq_true_eq]; omega
theorem IsW.web {p : Nat} {ps : List II} (h : IsW p ps) : webB (mkW p ps) = true := by
  have h1 : (ps.map dpr).all (tieB p) = true := by
    rw [List.all_map, List.all_eq_true]; exact fun x hx => tie_dpr.mpr (h.mem x hx)
  have h2 : chainD (ps.map dpr) = true := by unfold chainD; rw [dprs_map]; exact h.ch
  have a := h.lo
  have b := h.hi
  simp only [webB, h1, h2, Bool.and_true, Bool.and_eq_true, decide_eq_true_eq]
  omega
theorem in_dpr (i : Int) (x : II) : oIn (.int i) (dpr x) = some (.bl (hasI i x)) := by
  obtain ⟨a, b⟩ := x
  have e : oIn (.int i) (dpr (a, b)) = if dok 60 (.int i) && dok 60 (dpr (a, b)) then some (.bl ([Dat.int a, .int b].any fun z => deq z (.int i))) else none := rfl
  rw [e, show dok 60 (.int i) = true from rfl, show dok 60 (dpr (a, b)) = true from rfl]
  simp [deq, hasI]
  rw [Bool.eq_iff_iff]; simp
theorem sum_bI (f : II → Bool) : ∀ ps : List II, (ps.map fun x => bI (f x)).sum = ((ps.filter f).length : Int)
  | [] => rfl
  | x :: ps => by
    have ih := sum_bI f ps
    rw [List.map_cons, List.sum_cons, ih, List.filter_cons]
    cases f x <;> simp [bI]; omega
theorem osum_bI (f : II → Bool) (ps : List II) : oSum [.lst (ps.map fun x => Dat.int (bI (f x)))] = some (.int (ps.filter f).length) := by
  have := DL.dints_map (ps.map fun x => bI (f x))
  rw [List.map_map] at this
  simp only [oSum]
  rw [show (ps.map fun x => Dat.int (bI (f x))) = ps.map (Dat.int ∘ fun x => bI (f x)) from rfl, this, Option.map_some, sum_bI]
def hI (i : Int) : Dat → Dat
  | .tup [.int a, .int b] => .int (bI (hasI i (a, b)))
  | _ => .non
def pI (i : Int) : Dat → Bool
  | .tup [.int a, .int b] => hasI i (a, b)
  | _ => false
theorem rng_ok {n : Nat} (h : n ≤ 100) : oRng1 [.int n] = some (ran 0 n) := by
  simp only [oRng1]
  rw [if_pos ⟨by omega, by rw [sizeLine_eq]; omega⟩]
  simp
theorem ran0 (n : Nat) : ran 0 n = (List.range n).map fun (k : Nat) => Dat.int (k : Int) := by simp [ran]
@[simp] theorem hI_dpr (i : Int) (x : II) : hI i (dpr x) = .int (bI (hasI i x)) := rfl
@[simp] theorem pI_dpr (i : Int) (x : II) : pI i (dpr x) = hasI i x := rfl
@[simp] theorem int_bl (b : Bool) : oInt [.bl b] = some (.int (bI b)) := rfl
theorem deq_dpr (x y : II) : deq (dpr x) (dpr y) = decide (x = y) := by
  obtain ⟨a, b⟩ := x
  obtain ⟨c, d⟩ := y
  simp [dpr, deq, deqL]
  rw [Bool.eq_iff_iff]
  simp [Prod.ext_iff]
theorem any_ps (x : II) (ps : List II) : ((ps.map dpr).any fun z => deq z (dpr x)) = inP ps x := by
  rw [List.any_map, Bool.eq_iff_iff, List.any_eq_true, inP, decide_eq_true_eq]
  constructor
  · rintro ⟨y, hy, h⟩
    have h : deq (dpr y) (dpr x) = true := h
    rw [deq_dpr, decide_eq_true_eq] at h
    exact h ▸ hy
  · intro h; exact ⟨x, h, by show deq (dpr x) (dpr x) = true; rw [deq_dpr]; simp⟩
@[simp] theorem dok_dpr (x : II) : dok 60 (dpr x) = true := rfl
@[simp] theorem dok_psT (ps : List II) : dok 60 (.tup (ps.map dpr)) = true := by simp [dok, dpr]
@[simp] theorem dok_psL (ps : List II) : dok 60 (.lst (ps.map dpr)) = true := by simp [dok, dpr]
@[simp] theorem in_psT (x : II) (ps : List II) : oIn (dpr x) (.tup (ps.map dpr)) = some (.bl (inP ps x)) := by
  simp only [oIn, dok_dpr, dok_psT, Bool.and_self, if_true, any_ps]
@[simp] theorem in_psL (x : II) (ps : List II) : oIn (dpr x) (.lst (ps.map dpr)) = some (.bl (inP ps x)) := by
  simp only [oIn, dok_dpr, dok_psL, Bool.and_self, if_true, any_ps]
@[simp] theorem notIn_psT (x : II) (ps : List II) : oNotIn (dpr x) (.tup (ps.map dpr)) = some (.bl (!inP ps x)) := by simp [oNotIn]
@[simp] theorem notIn_psL (x : II) (ps : List II) : oNotIn (dpr x) (.lst (ps.map dpr)) = some (.bl (!inP ps x)) := by simp [oNotIn]
theorem dpr_fold (x : II) : Dat.tup [.int x.1, .int x.2] = dpr x := rfl
@[simp] theorem two_dpr (i j : Nat) (x : II) (ρ : DSt) : gTwo i j (dpr x) ρ = some ((ρ.set i (some (.int x.1))).set j (some (.int x.2))) := rfl
theorem any_ints (i : Int) (s : List Int) : ((s.map Dat.int).any fun z => deq z (.int i)) = inS s i := by
  rw [List.any_map, Bool.eq_iff_iff, List.any_eq_true, inS, decide_eq_true_eq]
  constructor
  · rintro ⟨y, hy, h⟩
    have h : (y == i) = true := h
    exact (beq_iff_eq.mp h) ▸ hy
  · intro h; exact ⟨i, h, by show (i == i) = true; simp⟩
@[simp] theorem dok_intsT (s : List Int) : dok 60 (.tup (s.map Dat.int)) = true := by simp [dok]
@[simp] theorem dok_intsL (s : List Int) : dok 60 (.lst (s.map Dat.int)) = true := by simp [dok]
@[simp] theorem in_sd (i : Int) (s : List Int) : oIn (.int i) (sd s) = some (.bl (inS s i)) := by
  show oIn (.int i) (.tup (s.map Dat.int)) = _
  simp only [oIn, dok_intsT, any_ints, show dok 60 (.int i) = true from rfl, Bool.and_self, if_true]
@[simp] theorem notIn_sd (i : Int) (s : List Int) : oNotIn (.int i) (sd s) = some (.bl (!inS s i)) := by simp [oNotIn]
@[simp] theorem sum_ints (l : List Int) : oSum [.lst (l.map Dat.int)] = some (.int l.sum) := by simp [oSum, DL.dints_map]
@[simp] theorem sum_intsT (l : List Int) : oSum [.tup (l.map Dat.int)] = some (.int l.sum) := by simp [oSum, DL.dints_map]
theorem min_ints {l : List Int} (h : l ≠ []) : oMin [.lst (l.map Dat.int)] = some (.int (minL l)) := by
  cases l with
  | nil => exact absurd rfl h
  | cons n r =>
    have e := DL.dints_map (n :: r)
    simp only [oMin, e, Option.bind_some, minL]
@[simp] theorem len_sd (s : List Int) : oLen [sd s] = some (.int s.length) := by show oLen [.tup (s.map Dat.int)] = _; simp
@[simp] theorem dok_sd (s : List Int) : dok 60 (sd s) = true := dok_intsT s
@[simp] theorem tup_ok (xs : List Dat) : oTuple [.lst xs] = some (.tup xs) := rfl
@[simp] theorem lst_ok (xs : List Dat) : oList [.tup xs] = some (.lst xs) := rfl
@[simp] theorem tupT_ok (xs : List Dat) : oTuple [.tup xs] = some (.tup xs) := rfl
theorem ran_places (n : Nat) : ran 0 n = (places n).map Dat.int := by simp [ran, places]
theorem sz (n : Nat) (h : n ≤ 10000) : n ≤ sizeLine := by rw [sizeLine_eq]; omega
theorem rngP {n : Nat} (h : n ≤ 10000) : oRng1 [.int n] = some ((places n).map Dat.int) := by
  rw [← ran_places]
  simp only [oRng1]
  rw [if_pos ⟨by omega, by rw [sizeLine_eq]; omega⟩]
  simp
theorem rngI {i : Int} (h : i ≤ 10000) (h0 : -1 ≤ i) : oRng1 [.int i] = some ((places i.toNat).map Dat.int) := by
  rw [← ran_places]
  simp only [oRng1]
  rw [if_pos ⟨by omega, by rw [sizeLine_eq]; omega⟩]
theorem cut_take {xs : List Dat} {k : Nat} (h : k ≤ xs.length) : DL.cutD xs none (some (k : Int)) = xs.take k := by
  have e1 : HT.sIx xs.length 0 none = 0 := rfl
  have e2 : HT.sIx xs.length xs.length (some (k : Int)) = k := by
    have : ¬ ((k : Int) < 0) := by omega
    simp [HT.sIx, this]; omega
  simp [DL.cutD, e1, e2]
theorem cut_drop {xs : List Dat} {k : Nat} (h : k ≤ xs.length) : DL.cutD xs (some (k : Int)) none = xs.drop k := by
  have e1 : HT.sIx xs.length 0 (some (k : Int)) = k := by
    have : ¬ ((k : Int) < 0) := by omega
    simp [HT.sIx, this]; omega
  have e2 : HT.sIx xs.length xs.length none = xs.length := rfl
  simp only [DL.cutD, e1, e2]
  rw [List.take_of_length_le (by rw [List.length_drop]; omega)]
/-! ### a web -/
structure Wb (p : Nat) (ps : List II) : Prop where
  lo : 1 ≤ p
  hi : p ≤ 7
  sub : ps.Sublist (prs p)
theorem Wb.len {p : Nat} {ps : List II} (h : Wb p ps) : ps.length ≤ 21 := Nat.le_trans h.sub.length_le (prs_len p h.hi)
theorem Wb.isw {p : Nat} {ps : List II} (h : Wb p ps) : IsW p ps := ⟨h.lo, h.hi, web_mem h.sub, chain_pw.mpr ((prs_chain p h.hi).sublist h.sub)⟩
theorem fit_dpr (n : Nat) (x : II) : fit (n + 1) (dpr x) = true := by simp [fit, dpr]
theorem fit_mkW {p : Nat} {ps : List II} (n : Nat) (h : ps.length ≤ 50) : fit (n + 3) (mkW p ps) = true := by
  have h1 : (ps.map dpr).all (fit (n + 1)) = true := by simp [fit_dpr]
  simp [mkW, fit, h, fit_dpr]
theorem Wb.fit {p : Nat} {ps : List II} (h : Wb p ps) : fit 50 (mkW p ps) = true := fit_mkW 47 (by have := h.len; omega)
theorem dok_mk (n p : Nat) (ps : List II) : dok (n + 3) (mkW p ps) = true := by simp [mkW, dok, dpr]
@[simp] theorem ixW0 (p : Nat) (ps : List II) : oIx (mkW p ps) (.int 0) = some (.int p) := ix0 _ _
@[simp] theorem ixW1 (p : Nat) (ps : List II) : oIx (mkW p ps) (.int 1) = some (.tup (ps.map dpr)) := ix1 _ _ _
@[simp] theorem dok_mkW (p : Nat) (ps : List II) : dok 60 (mkW p ps) = true := dok_mk 57 p ps
/-! ### the drum -/
def Fr (a : Addr) (M M' : DM) : Prop := ∀ b, b ≠ a → M' b = M b
theorem Fr.refl (a : Addr) (M : DM) : Fr a M M := fun _ _ => rfl
theorem Fr.trans {a : Addr} {M M1 M2 : DM} (h : Fr a M M1) (g : Fr a M1 M2) : Fr a M M2 := fun b hb => (g b hb).trans (h b hb)
def spRoll : DSp := fun ds M Q _ => ∃ (a : Addr) (n : Int), ds = [.ref a, .int n] ∧ 0 < n ∧ n < 2 ^ 40 ∧ Drum M a ∧ ∀ (k : Int) (M' : DM), 0 ≤ k → k < n → Drum M' a → Fr a M M' → Q (.int k) M'
def spDrum : DSp := fun ds M Q _ => ∃ cell t : Int, ds = [.int cell, .int t] ∧ 0 ≤ t ∧ t ≤ 1000 ∧ ∀ (p : Addr) (M' : DM), M p = none → Drum M' p → Fr p M M' → Q (.ref p) M'
def spSome : DSp := fun ds M Q _ => ∃ (a : Addr) (xs : List Dat), ds = [.ref a, .lst xs] ∧ xs ≠ [] ∧ xs.length ≤ 1000 ∧ Drum M a ∧ ∀ (x : Dat) (M' : DM), x ∈ xs → Drum M' a → Fr a M M' → Q x M'
def spWeb : DSp := fun ds M Q _ => ∃ (a : Addr) (top : Nat), ds = [.ref a, .int top] ∧ 1 ≤ top ∧ top ≤ 7 ∧ Drum M a ∧ ∀ (p : Nat) (ps : List II) (M' : DM), Wb p ps → p ≤ top → Drum M' a → Fr a M M' → Q (mkW p ps) M'
theorem lcL_sub {i : Nat} {t : DTT} {f : DTE} {ρ : DSt} {a : Addr} : ∀ (xs : List Dat) (M : DM) (Kf : List Dat → DM → Prop), Drum M a → (∀ x ∈ xs, ∀ (M : DM) (Q : Bool → DM → Prop), Drum M a → (∀ b M', Drum M' a → Fr a M M' → Q b M') → t (ρ.set i (some x)) M Q NoE) →
    (∀ x ∈ xs, ∀ (M : DM) (Q : DQ), Q x M → f (ρ.set i (some x)) M Q NoE) → (∀ ys M', ys.Sublist xs → Drum M' a → Fr a M M' → Kf ys M') → dLcL (gOne i) t f ρ xs M Kf
  | [], M, Kf, hD, _, _, k => k [] M (List.Sublist.refl _) hD (Fr.refl _ _)
  | x :: xs, M, Kf, hD, ht, hf, k => by
    unfold dLcL
    refine ht x List.mem_cons_self M _ hD fun b M' hD' hF' => ?_
    cases b with
    | false =>
      exact lcL_sub xs M' Kf hD' (fun y hy => ht y (List.mem_cons_of_mem _ hy)) (fun y hy => hf y (List.mem_cons_of_mem _ hy)) fun ys M2 hs hd hF => k ys M2 (hs.cons _) hd (hF'.trans hF)
    | true =>
      refine hf x List.mem_cons_self M' _ (lcL_sub xs M' _ hD' (fun y hy => ht y (List.mem_cons_of_mem _ hy)) (fun y hy => hf y (List.mem_cons_of_mem _ hy)) fun ys M2 hs hd hF => k (x :: ys) M2 (hs.cons₂ _) hd (hF'.trans hF))
/-- webs that are written in the laws -/
def wsL : List (Nat × List II) := [(4, [(0, 1), (1, 2), (2, 3)]), (4, [(0, 1), (2, 3)]), (4, [(0, 1), (0, 2), (1, 2), (1, 3)]), (1, []), (5, [(0, 1), (0, 4), (1, 2), (2, 3), (3, 4)])]
theorem wb_mk (p : Nat) (ps : List II) (h : decide (1 ≤ p) && decide (p ≤ 7) && ps.isSublist (prs p) = true) : Wb p ps := by
  simp only [Bool.and_eq_true, decide_eq_true_eq] at h
  exact ⟨h.1.1, h.1.2, List.isSublist_iff_sublist.mp h.2⟩
theorem wsL_wb : ∀ v ∈ wsL, Wb v.1 v.2 := by
  intro v hv
  simp only [wsL, List.mem_cons, List.mem_nil_iff, or_false] at hv
  rcases hv with rfl | rfl | rfl | rfl | rfl <;> exact wb_mk _ _ (by decide)
theorem lc_m {α : Type} {g : DGt} {t : FT} {f : FE} {ρ : DSt} (enc : α → Dat) (p : α → Bool) (h : α → Dat) : ∀ {L : List α} (hx : ∀ x ∈ L, ∃ ρ1, g (enc x) ρ = some ρ1 ∧ t ρ1 = .ok (p x) ∧ (p x = true → f ρ1 = .ok (h x))), fLcL g t f ρ (L.map enc) = .ok ((L.filter p).map h)
  | [], _ => rfl
  | x :: L, hx => by
    have ih := lc_m (g := g) (t := t) (f := f) (ρ := ρ) enc p h (L := L) fun y hy => hx y (List.mem_cons_of_mem _ hy)
    obtain ⟨ρ1, h1, h2, h3⟩ := hx x List.mem_cons_self
    rw [List.map_cons]
    unfold fLcL
    simp only [h1, h2, R.ok_bind]
    cases e : p x with
    | false => simp [List.filter_cons, e, ih]
    | true => simp [List.filter_cons, e, ih, h3 e]
theorem lc_mA {α : Type} {g : DGt} {f : FE} {ρ : DSt} (enc : α → Dat) (h : α → Dat) {L : List α} (hx : ∀ x ∈ L, ∃ ρ1, g (enc x) ρ = some ρ1 ∧ f ρ1 = .ok (h x)) : fLcL g fYes f ρ (L.map enc) = .ok (L.map h) := by
  have := lc_m (t := fYes) enc (fun _ => true) h (L := L) fun x hx' => (hx x hx').elim fun ρ1 e => ⟨ρ1, e.1, rfl, fun _ => e.2⟩
  rw [List.filter_eq_self.mpr fun _ _ => rfl] at this
  exact this
/-- slots that are read by number -/
theorem e_varG (i : Nat) (ρ : DSt) : fVar i ρ = match ρ[i]? with
  | some (some d) => .ok d
  | _ => .bad := rfl
end NH

end
section
set_option Elab.async false
set_option linter.all false
set_option maxRecDepth 100000
set_option maxHeartbeats 4000000
/-! Facts on sides, rows, loops. -/
namespace NH
open PySem PySem.Spec PyProof.Rows L2 DL
/-! ### chains of ints -/
def chR (r : Int → Int → Bool) : List Int → Bool
  | a :: b :: t => r a b && chR r (b :: t)
  | _ => true
theorem chR_range (r : Int → Int → Bool) : ∀ ns : List Int, ((List.range (ns.length - 1)).map fun k => r (ns.getD k 0) (ns.getD (k + 1) 0)).all id = chR r ns
  | [] => rfl
  | [a] => rfl
  | a :: b :: t => by
    have ih := chR_range r (b :: t)
    rw [show (a :: b :: t).length - 1 = ((b :: t).length - 1) + 1 by simp, List.range_succ_eq_map]
    simp only [List.map_cons, List.map_map, List.all_cons, Function.comp_def] at ih ⊢
    unfold chR
    rw [← ih]
    simp
theorem chR_pw {r : Int → Int → Bool} (tr : ∀ a b c, r a b = true → r b c = true → r a c = true) : ∀ {ns : List Int}, chR r ns = true ↔ ns.Pairwise fun a b => r a b = true
  | [] => by simp [chR]
  | [a] => by simp [chR]
  | a :: b :: t => by
    have ih := chR_pw tr (ns := b :: t)
    unfold chR
    rw [Bool.and_eq_true, ih, List.pairwise_cons (a := a)]
    constructor
    · rintro ⟨h1, h2⟩
      refine ⟨fun x hx => ?_, h2⟩
      rcases List.mem_cons.mp hx with e | e
      · rw [e]; exact h1
      · exact tr _ _ _ h1 ((List.pairwise_cons.mp h2).1 x e)
    · rintro ⟨h1, h2⟩
      exact ⟨h1 b List.mem_cons_self, h2⟩
/-- the item at k -/
def gI (ns : List Int) (k : Int) : Int := ns.getD k.toNat 0
theorem ixI {ns : List Int} {k : Int} (h0 : 0 ≤ k) (h : k < ns.length) : oIx (.tup (ns.map Dat.int)) (.int k) = some (.int (gI ns k)) := by
  obtain ⟨j, rfl⟩ : ∃ j : Nat, k = j := ⟨k.toNat, by omega⟩
  have hj : j < ns.length := by omega
  rw [ix_nat (by simpa using hj)]
  simp [hj, gI]
theorem ixIL {ns : List Int} {k : Int} (h0 : 0 ≤ k) (h : k < ns.length) : oIx (.lst (ns.map Dat.int)) (.int k) = some (.int (gI ns k)) := ixI h0 h
theorem places_map {β : Type} (n : Nat) (g : Nat → β) : (places n).map (fun k => g k.toNat) = (List.range n).map g := by
  simp [places, List.map_map, Function.comp_def]
theorem chR_places (r : Int → Int → Bool) (ns : List Int) : ((places (ns.length - 1)).all fun k => r (gI ns k) (gI ns (k + 1))) = chR r ns := by
  rw [← chR_range r ns, List.all_map, places, List.all_map]
  rfl
@[simp] theorem e_set2 (i j : Nat) (f : FE) (ρ : DSt) : fSet2 i j f ρ = (f ρ >>= fun x => match gTwo i j x ρ with
  | some ρ' => .ok (.nx ρ')
  | none => .bad) := rfl
@[simp] theorem e_par (i j : Nat) (l : FA) (ρ : DSt) : fPar i j l ρ = (l ρ >>= fun xs => match xs with
  | [x, y] => .ok (.nx ((ρ.set i (some x)).set j (some y)))
  | _ => .bad) := rfl
@[simp] theorem e_for (fi : FA) (g : DGt) (body : FS) (ρ : DSt) : fFor fi g body ρ = (fi ρ >>= fun xs => fForL g body xs ρ) := rfl
@[simp] theorem two_tup (i j : Nat) (x y : Dat) (ρ : DSt) : gTwo i j (.tup [x, y]) ρ = some ((ρ.set i (some x)).set j (some y)) := rfl
theorem whole_ints {lo hi : Int} : ∀ {xs : List Dat}, xs.all (fun x => wholeB x lo hi) = true → ∃ ns : List Int, xs = ns.map .int ∧ ∀ i ∈ ns, lo ≤ i ∧ i ≤ hi
  | [], _ => ⟨[], rfl, fun i hi => by cases hi⟩
  | x :: xs, h => by
    rw [List.all_cons, Bool.and_eq_true] at h
    obtain ⟨ns, e, hn⟩ := whole_ints h.2
    have h1 := h.1
    unfold wholeB at h1
    split at h1
    · rename_i i
      simp only [Bool.and_eq_true, decide_eq_true_eq] at h1
      refine ⟨i :: ns, by rw [e]; rfl, fun j hj => ?_⟩
      rcases List.mem_cons.mp hj with e | e
      · rw [e]; exact h1
      · exact hn j e
    · cases h1
/-! ### sides -/
def ltI (a b : Int) : Bool := decide (a < b)
def sideB (p : Nat) (v : Dat) : Bool := match v with
  | .tup xs => xs.all (fun x => wholeB x 0 ((p : Int) - 1)) && (match dints xs with
    | some ns => chR ltI ns
    | none => false)
  | _ => false
theorem Sd.side {p : Nat} {s : List Int} (h : Sd p s) : sideB p (sd s) = true := by
  have h1 : (s.map Dat.int).all (fun x => wholeB x 0 ((p : Int) - 1)) = true := by
    rw [List.all_map, List.all_eq_true]
    intro i hi
    have := h.mem i hi
    simp [wholeB]; omega
  have h2 : chR ltI s = true := (chR_pw fun a b c h1 h2 => by simp only [ltI, decide_eq_true_eq] at *; omega).mpr (h.asc.imp fun h => by simpa [ltI] using h)
  simp only [sideB, sd, h1, DL.dints_map, h2, Bool.and_self]
theorem Sd.len {p : Nat} {s : List Int} (h : Sd p s) : s.length ≤ p := by
  have := (rest_perm h.nodup h.mem).length_eq
  rw [places_len, List.length_append] at this
  omega
theorem fit_sd (n : Nat) {s : List Int} (h : s.length ≤ 50) : fit (n + 1) (sd s) = true := by simp [sd, fit, h]
/-! ### loops that end well -/
theorem forF_st {α σ : Type} {g : DGt} {body : FS} (enc : α → Dat) (St : σ → DSt → Prop) (step : σ → α → σ) : ∀ (L : List α) (s : σ) (ρ : DSt), (∀ x ∈ L, ∀ s ρ, St s ρ → ∃ ρ1 ρ2, g (enc x) ρ = some ρ1 ∧ body ρ1 = .ok (.nx ρ2) ∧ St (step s x) ρ2) → St s ρ → ∃ ρ', fForL g body (L.map enc) ρ = .ok (.nx ρ') ∧ St (L.foldl step s) ρ'
  | [], s, ρ, _, h => ⟨ρ, rfl, h⟩
  | x :: L, s, ρ, hb, h => by
    obtain ⟨ρ1, ρ2, e1, e2, e3⟩ := hb x List.mem_cons_self s ρ h
    obtain ⟨ρ', f1, f2⟩ := forF_st enc St step L (step s x) ρ2 (fun y hy => hb y (List.mem_cons_of_mem _ hy)) e3
    refine ⟨ρ', ?_, f2⟩
    rw [List.map_cons]
    unfold fForL
    simp only [e1, e2, R.ok_bind]
    exact f1
/-- .. with what has been gone through -/
theorem forF_pre {α : Type} {g : DGt} {body : FS} (enc : α → Dat) (I : List α → DSt → Prop) (L : List α) (ρ : DSt) (hb : ∀ (l : List α) (x : α) (r : List α), L = l ++ x :: r → ∀ ρ, I l ρ → ∃ ρ1 ρ2, g (enc x) ρ = some ρ1 ∧ body ρ1 = .ok (.nx ρ2) ∧ I (l ++ [x]) ρ2) (h : I [] ρ) : ∃ ρ', fForL g body (L.map enc) ρ = .ok (.nx ρ') ∧ I L ρ' := by
  have go : ∀ (r l : List α), L = l ++ r → ∀ ρ, I l ρ → ∃ ρ', fForL g body (r.map enc) ρ = .ok (.nx ρ') ∧ I L ρ' := by
    intro r
    induction r with
    | nil => intro l e ρ hI; rw [List.append_nil] at e; exact ⟨ρ, rfl, e ▸ hI⟩
    | cons x r ih =>
      intro l e ρ hI
      obtain ⟨ρ1, ρ2, e1, e2, e3⟩ := hb l x r e ρ hI
      obtain ⟨ρ', f1, f2⟩ := ih (l ++ [x]) (by rw [e, List.append_assoc]; rfl) ρ2 e3
      refine ⟨ρ', ?_, f2⟩
      rw [List.map_cons]
      unfold fForL
      simp only [e1, e2, R.ok_bind]
      exact f1
  exact go L [] rfl ρ h
theorem ddel_dupd {M : DM} {p : Addr} {o : MO} (h : M p = none) : ddel (dupd M p o) p = M := by
  funext b
  by_cases e : b = p
  · rw [e, ddel_same, h]
  · rw [ddel_ne e, dupd_ne e]
/-- specs that tell one value and change nothing -/
def spR (P : List Dat → Dat → Prop) : DSp := fun ds M Q _ => ∃ x, P ds x ∧ Q x M
theorem oAdd_lst {α : Type} (e : α → Dat) (l m : List α) (h : l.length + m.length ≤ 10000) : oAdd (.lst (l.map e)) (.lst (m.map e)) = some (.lst ((l ++ m).map e)) := by
  simp only [oAdd, List.length_map]
  rw [if_pos (by rw [sizeLine_eq]; omega), List.map_append]
theorem oAdd_tup {α : Type} (e : α → Dat) (l m : List α) (h : l.length + m.length ≤ 10000) : oAdd (.tup (l.map e)) (.tup (m.map e)) = some (.tup ((l ++ m).map e)) := by
  simp only [oAdd, List.length_map]
  rw [if_pos (by rw [sizeLine_eq]; omega), List.map_append]
theorem grow_len : ∀ p : Nat, (grow p).length = 2 ^ p
  | 0 => rfl
  | p + 1 => by simp [grow, grow_len p, Nat.pow_succ]; omega
theorem grow_head : ∀ p : Nat, ∃ r, grow p = [] :: r
  | 0 => ⟨[], rfl⟩
  | p + 1 => by
    obtain ⟨r, h⟩ := grow_head p
    exact ⟨_, by unfold grow; rw [h]; rfl⟩
theorem srt_grow (p : Nat) : srtS (grow p) = sidesL p := srt_sides (grow_nodup p) (grow_mem p)
theorem ints_nil : ([] : List Int).map Dat.int = [] := rfl
end NH

end
section
set_option Elab.async false
set_option linter.all false
set_option maxRecDepth 100000
set_option maxHeartbeats 4000000
/-! Facts on the laws' own sides and changes. -/
namespace NH
open PySem PySem.Spec PyProof.Rows L2 DL
def pws : List Int := [1, 2, 4, 8, 16, 32, 64]
def bits (c : Int) : List Int := (places 7).filter fun a => decide (c / gI pws a % 2 = 1)
theorem pws_ok : ∀ a ∈ places 7, 0 < gI pws a ∧ gI pws a < 2 ^ 40 := by decide
theorem ix_pws {a : Int} (h : a ∈ places 7) : oIx (.lst [.int 1, .int 2, .int 4, .int 8, .int 16, .int 32, .int 64]) (.int a) = some (.int (gI pws a)) := by
  obtain ⟨h0, h1⟩ := mem_places.mp h
  exact ixIL (ns := pws) h0 h1
def okC (p : Nat) (c : Int) : Bool := match (bits c).getLast? with
  | none => true
  | some x => decide (x < p)
theorem codes : ∀ p : Fin 8, ((places 128).filter (okC p)).map bits = grow p := by decide +kernel
theorem eq_nil (s : List Int) : oEq (.lst (s.map Dat.int)) (.lst []) = some (.bl s.isEmpty) := by
  have h : dok 60 (.lst (s.map Dat.int)) = true := dok_intsL s
  unfold oEq
  rw [h]
  cases s <;> rfl
theorem ix_last {s : List Int} {x : Int} (h : s.getLast? = some x) : oIx (.lst (s.map Dat.int)) (.int (-1)) = some (.int x) := by
  have hne : s ≠ [] := by rintro rfl; cases h
  have hl : 0 < s.length := List.length_pos_iff.mpr hne
  have e : (s.map Dat.int)[s.length - 1]? = some (.int x) := by
    rw [List.getElem?_map, ← List.getLast?_eq_getElem?, h]; rfl
  show L2.atI _ _ = _
  unfold L2.atI ixN
  rw [if_neg (by decide), List.length_map, if_pos (by omega)]
  show (s.map Dat.int)[(-1 + (s.length : Int)).toNat]? = _
  rw [show (-1 + (s.length : Int)).toNat = s.length - 1 by omega]
  exact e
theorem str_filter {p : Nat} {ps : List II} (hp : p ≤ 7) (hs : ps.Sublist (prs p)) (S : Int → Bool) : (prs p).filter (fun x => noneB S x && inP ps x) = strL ps S := by
  unfold strL
  rw [← List.filter_filter, web_filter hp hs]
theorem two_off {M M0 : DM} {p q : Addr} (hp : M0 p = none) (hq : M0 q = none) (h : ∀ b, b ≠ p → b ≠ q → M b = M0 b) : ddel (ddel M p) q = M0 := by
  funext b
  by_cases e : b = q
  · rw [e, ddel_same, hq]
  · rw [ddel_ne e]
    by_cases e' : b = p
    · rw [e', ddel_same, hp]
    · rw [ddel_ne e', h b e' e]
theorem one_off {M M0 : DM} {p : Addr} (hp : M0 p = none) (h : ∀ b, b ≠ p → M b = M0 b) : ddel M p = M0 := by
  funext b
  by_cases e : b = p
  · rw [e, ddel_same, hp]
  · rw [ddel_ne e, h b e]
def chD (p : Nat) (ps : List II) (s : List Int) : Dat := .tup [.tup ((putL p ps (inS s)).map dpr), .tup ((strL ps (inS s)).map dpr)]
@[simp] theorem ixC0 (p : Nat) (ps : List II) (s : List Int) : oIx (chD p ps s) (.int 0) = some (.tup ((putL p ps (inS s)).map dpr)) := ix0 _ _
@[simp] theorem ixC1 (p : Nat) (ps : List II) (s : List Int) : oIx (chD p ps s) (.int 1) = some (.tup ((strL ps (inS s)).map dpr)) := ix1 _ _ _
theorem ne_ch (p : Nat) (ps : List II) (s : List Int) : oNe (chD p ps s) (chD p ps s) = some (.bl false) := ne_self (by simp [chD, dok, dpr])
theorem ne_mkW (p : Nat) (ps : List II) : oNe (mkW p ps) (mkW p ps) = some (.bl false) := ne_self (dok_mkW p ps)
theorem eq_mkW (p : Nat) (ps : List II) : oEq (mkW p ps) (mkW p ps) = some (.bl true) := eq_self (dok_mkW p ps)
theorem two_ch (i j : Nat) (p : Nat) (ps : List II) (s : List Int) (ρ : DSt) : gTwo i j (chD p ps s) ρ = some ((ρ.set i (some (.tup ((putL p ps (inS s)).map dpr)))).set j (some (.tup ((strL ps (inS s)).map dpr)))) := rfl
def spSides : DSp := spR fun ds x => ∃ p : Nat, ds = [.int p] ∧ p ≤ 7 ∧ x = .lst ((sidesL p).map sd)
def spChanges : DSp := spR fun ds x => ∃ p ps s, ds = [mkW p ps, sd s] ∧ Wb p ps ∧ x = chD p ps s
end NH

end
section
set_option Elab.async false
set_option linter.all false
set_option maxRecDepth 100000
set_option maxHeartbeats 4000000
/-! One step each. -/
namespace NH
open PySem PySem.Spec PyProof.Rows L2 DL
/-- the value in a slot -/
def gt (ρ : DSt) (i : Nat) : Option Dat := match ρ[i]? with
  | some x => x
  | none => none
theorem e_varT (i : Nat) (ρ : DSt) : fVar i ρ = match gt ρ i with
  | some d => .ok d
  | none => .bad := by
  unfold fVar gt
  cases ρ[i]? with
  | none => rfl
  | some x => cases x <;> rfl
@[simp] theorem gt_set (ρ : DSt) (i j : Nat) (v : Option Dat) : gt (ρ.set j v) i = if j = i then (if i < ρ.length then v else none) else gt ρ i := by
  unfold gt
  rw [List.getElem?_set]
  by_cases h : j = i
  · subst h
    by_cases h2 : j < ρ.length <;> simp [h2]
  · simp [h]
@[simp] theorem gt_zero (x : Option Dat) (r : DSt) : gt (x :: r) 0 = x := rfl
@[simp] theorem gt_succ (x : Option Dat) (r : DSt) (i : Nat) : gt (x :: r) (i + 1) = gt r i := rfl
theorem gt_some {ρ : DSt} {i : Nat} {d : Dat} (h : gt ρ i = some d) : ρ[i]? = some (some d) := by
  unfold gt at h
  split at h
  · rename_i e; rw [e, h]
  · cases h
section
variable {D : DEnds} {ρ ρ' : DSt} {M : DM} {i j n : Nat} {t : FT} {f g : FS} {e o : FE} {l : FA} {d d' : DTS} {x y : Dat} {xs ds : List Dat} {q : Addr} {b : Bool} {sp : DSp} {tg : DGt} {body : DTS}
theorem sSeq (h : d { D with nx := d' D } ρ M) : dSeq d d' D ρ M := h
theorem sNext (h : D.nx ρ M) : purS fNext D ρ M := h
theorem sNx (h : f ρ = .ok (.nx ρ')) (k : D.nx ρ' M) : purS f D ρ M := by unfold purS; rw [h]; exact k
theorem sSet (h : e ρ = .ok x) (k : D.nx (ρ.set i (some x)) M) : purS (fSet i e) D ρ M := sNx (by simp [h]) k
theorem sFSeq (h : f ρ = .ok (.nx ρ')) (k : purS g D ρ' M) : purS (fSeq f g) D ρ M := by
  unfold purS at *
  rw [e_seq, h]
  exact k
theorem sGuard (h : t ρ = .ok false) (k : D.nx ρ M) : purS (fIfS t f fNext) D ρ M := sNx (by simp [h]) k
theorem sFGuard (h : t ρ = .ok false) (k : purS g D ρ M) : purS (fSeq (fIfS t f fNext) g) D ρ M := sFSeq (by simp [h]) k
theorem sFSet (h : e ρ = .ok x) (k : purS g D (ρ.set i (some x)) M) : purS (fSeq (fSet i e) g) D ρ M := sFSeq (by simp [h]) k
theorem sIf (h : t ρ = .ok b) (k : if b = true then d D ρ M else d' D ρ M) : dIfS (purT t) d d' D ρ M := by
  unfold dIfS
  exact pT h k
theorem sIfY (h : t ρ = .ok true) (k : d D ρ M) : dIfS (purT t) d d' D ρ M := sIf h (by rw [if_pos rfl]; exact k)
theorem sIfN (h : t ρ = .ok false) (k : d' D ρ M) : dIfS (purT t) d d' D ρ M := sIf h (by rw [if_neg Bool.false_ne_true]; exact k)
theorem sApp (h1 : o ρ = .ok (.ref q)) (h2 : M q = some (.lst ds)) (h3 : e ρ = .ok x) (h4 : ds.length < sizeLine) (k : D.nx ρ (dupd M q (.lst (ds ++ [x])))) : dExpr (dApp (pur o) (pur e)) D ρ M := by
  unfold dExpr dApp
  exact pE h1 ⟨q, ds, rfl, h2, pE h3 ⟨ds, h2, h4, k⟩⟩
theorem sCall (h : l ρ = .ok xs) (hn : xs.length = n) (k : sp xs M (fun x M1 => D.nx (ρ.set i (some x)) M1) (fun c M1 => D.ex c ρ M1)) : dSet i (dCall n sp (purA l)) D ρ M := by
  unfold dSet dCall
  exact pA h ⟨hn, k⟩
theorem sFor (h : l ρ = .ok xs) (k : dForL tg body D xs ρ M) : dFor (purA l) tg body D ρ M := by
  unfold dFor
  exact pA h k
theorem sLstM (h : l ρ = .ok xs) (hn : xs.length ≤ sizeLine) (k : ∀ p, M p = none → D.nx (ρ.set i (some (.ref p))) (dupd M p (.lst xs))) : dSet i (dLstM (purA l)) D ρ M := by
  unfold dSet dLstM
  exact pA h ⟨hn, k⟩
theorem sFrz (h : gt ρ i = some (.ref q)) (h2 : M q = some (.lst ds)) (k : d D (ρ.set i (some (.lst ds))) (ddel M q)) : dFrz i d D ρ M := ⟨q, ds, gt_some h, h2, k⟩
theorem sRet (h : e ρ = .ok x) (k : D.rt x M) : purS (fRet e) D ρ M := by unfold purS; rw [e_ret, h]; exact k
theorem sRt (h : f ρ = .ok (.rt x)) (k : D.rt x M) : purS f D ρ M := by unfold purS; rw [h]; exact k
theorem sSet2 (h : e ρ = .ok (.tup [x, y])) (k : D.nx ((ρ.set i (some x)).set j (some y)) M) : purS (fSet2 i j e) D ρ M := sNx (by simp [h]) k
theorem sFSet2 (h : e ρ = .ok (.tup [x, y])) (k : purS g D ((ρ.set i (some x)).set j (some y)) M) : purS (fSeq (fSet2 i j e) g) D ρ M := sFSeq (by simp [h]) k
theorem sCall2 (h : l ρ = .ok xs) (hn : xs.length = n) (k : sp xs M (fun x M1 => match gTwo i j x ρ with
  | some ρ' => D.nx ρ' M1
  | none => False) (fun c M1 => D.ex c ρ M1)) : dSet2 i j (dCall n sp (purA l)) D ρ M := by
  unfold dSet2 dCall
  exact pA h ⟨hn, k⟩
theorem sRetC (h : l ρ = .ok xs) (hn : xs.length = n) (k : sp xs M (fun x M1 => D.rt x M1) (fun c M1 => D.ex c ρ M1)) : dRet (dCall n sp (purA l)) D ρ M := by
  unfold dRet dCall
  exact pA h ⟨hn, k⟩
end
end NH

end
section
set_option Elab.async false
set_option linter.all false
set_option maxRecDepth 100000
set_option maxHeartbeats 4000000
/-! Texts of errors. -/
namespace NH
open PySem PySem.Spec PyProof.Rows L2 DL
theorem strOk_of (s : String) : PyData.strOk (Str.ofString s) = true := by
  unfold PyData.strOk
  rw [Str.ofString_eq_toList, ← Array.all_toList]
  refine List.all_eq_true.mpr fun c hc => decide_eq_true ?_
  obtain ⟨ch, _, rfl⟩ := List.mem_map.mp hc
  have h := ch.valid
  show ch.val.toNat < 0x110000
  rcases h with h | h
  · have : ch.val.toNat < 0xd800 := h
    omega
  · have : ch.val.toNat < 0x110000 := h.2
    omega
theorem mulL (x : Dat) (k : Nat) (h : k ≤ 1000) : oMul (.lst [x]) (.int k) = some (.lst (List.replicate k x)) := by
  have hs := sz 1000 (by decide)
  simp only [oMul]
  rw [if_pos ⟨by omega, by omega, by simp; omega⟩]
  simp
theorem dok_rep {s : Str} (h : PyData.strOk s = true) (k : Nat) : dok 60 (.lst (List.replicate k (.str s))) = true := by
  simp only [dok, List.all_eq_true]
  intro x hx
  rw [(List.mem_replicate.mp hx).2]
  exact h
theorem ne_rep {s : Str} (h : PyData.strOk s = true) (k : Nat) : oNe (.lst (List.replicate k (.str s))) (.lst (List.replicate k (.str s))) = some (.bl false) := ne_self (dok_rep h k)
theorem ne_list {x : Dat} (h : dok 59 x = true) (k : Nat) : oNe (.lst (List.replicate k x)) (.lst (List.replicate k x)) = some (.bl false) := by
  refine ne_self ?_
  simp only [dok, List.all_eq_true]
  intro y hy
  rw [(List.mem_replicate.mp hy).2]
  exact h
theorem sum_ones : ∀ s : List Int, (s.map fun _ => (1 : Int)).sum = s.length
  | [] => rfl
  | x :: s => by simp only [List.map_cons, List.sum_cons, sum_ones s, List.length_cons]; omega
theorem sumR_one {p : Nat} {s : List Int} (h : Sd p s) : sumR (one (inS s)) p = s.length := by
  have := sumR_in (fun _ => 1) h.nodup h.mem
  have c : sumR (one (inS s)) p = sumR (fun i => if i ∈ s then 1 else 0) p := sumR_congr p fun i _ _ => by simp [one, inS]
  rw [c, this, sum_ones]
theorem far_sg {p : Nat} {ps : List II} (hw : Wb p ps) {s : List Int} (h : Sd p s) : 2 * (farS p ps s : Int) = s.length * (s.length - 1) - ((places p).map fun i => sg (inS s) i * (cnt i ps : Int)).sum := by
  have f := far_deg hw.hi hw.sub (inS s)
  rw [sumR_one h, sumR_eq] at f
  exact f
theorem gI_degs {p : Nat} {ps : List II} {i : Int} (i0 : 0 ≤ i) (i1 : i < p) : gI (degs p ps) i = cnt i ps := by
  obtain ⟨j, rfl⟩ : ∃ j : Nat, i = j := ⟨i.toNat, by omega⟩
  have hj : j < p := by omega
  simp [gI, degs, places, hj]
theorem mul2 (z : Int) : oMul (.int 2) (.int z) = some (.int (2 * z)) := by
  simp only [oMul]; rw [if_pos (by simp [mulOk])]
theorem negI (z : Int) : oNeg (.int z) = some (.int (-z)) := rfl
/-- the names of errors -/
def lab : List (Str × Str) := [("InvalidWeb", "web value"), ("InvalidSide", "side value"), ("InvalidTie", "tie value"), ("InvalidRow", "row value"), ("InvalidKinds", "kinds value"), ("InvalidNumber", "number value"), ("InvalidPrices", "prices value"), ("InvalidIndex", "index value"), ("InvalidPlace", "place value"), ("InvalidText", "text value"), ("Unlike", "unlike value"), ("NothingToUndo", "undo value"), ("TooMany", "many value")]
def NmOk (cs : Str → Addr) (rs : List (Str × Str)) (nm : Value → Option Str) : Prop := ∀ p ∈ rs, nm (.ref (cs p.1)) = some p.2
section
variable {nm : Value → Option Str} {ρ : DSt} {f : FE} {r z : Str} {c : Value} {x : Dat}
theorem err_exc (h : f ρ = .exc c) (h2 : nm c = some z) : fErr r nm f ρ = .ok (.str z) := by simp [h, h2]
theorem err_ok (h : f ρ = .ok x) : fErr r nm f ρ = .ok (.str r) := by simp [h]
end
/-- three texts of errors in a list -/
theorem three {nm : Value → Option Str} {f1 f2 f3 : FE} {i : Nat} {r z : Str} {c : Value} {ρ : DSt} {D : DEnds} {M : DM} {rest : FS} (hz : PyData.strOk z = true) (hn : nm c = some z) (hi : i < ρ.length) (h1 : f1 ρ = .exc c) (h2 : ∀ x, f2 (ρ.set i x) = .exc c) (h3 : ∀ x, f3 (ρ.set i x) = .exc c)
    (k : D.nx (ρ.set i (some (.lst (List.replicate 3 (.str z))))) M) : dSeq (dSet i (dLstM (purA (fCons (fErr r nm f1) fNil)))) (dSeq (dExpr (dApp (pur (fVar i)) (pur (fErr r nm f2)))) (dSeq (dExpr (dApp (pur (fVar i)) (pur (fErr r nm f3)))) (dFrz i (purS (fIfS (fTest (fOp2 oNe (fVar i) (fOp2 oMul (fLst (fCons (fC (.str z)) fNil)) (fC (.int 3))))) rest fNext))))) D ρ M := by
  have z1 := sz 1 (by decide)
  have z3 := sz 3 (by decide)
  refine sSeq (sLstM (xs := [.str z]) (by simp [h1, hn]) z1 fun p hp => ?_)
  refine sSeq (sApp (q := p) (ds := [.str z]) (x := .str z) (by simp [e_varT, hi]) dupd_same (err_exc (h2 _) hn) (by simp; omega) ?_)
  refine sSeq (sApp (q := p) (ds := [.str z, .str z]) (x := .str z) (by simp [e_varT, hi]) dupd_same (err_exc (h3 _) hn) (by simp; omega) ?_)
  refine sFrz (q := p) (ds := [.str z, .str z, .str z]) (by simp [hi]) dupd_same ?_
  rw [dupd_dupd, dupd_dupd, ddel_dupd hp]
  have m : oMul (.lst [.str z]) (.int 3) = some (.lst (List.replicate 3 (.str z))) := mulL (.str z) 3 (by decide)
  have e : oNe (.lst [.str z, .str z, .str z]) (.lst (List.replicate 3 (.str z))) = some (.bl false) := ne_rep hz 3
  refine sGuard (by simp only [e_test, e_op2, e_varT, gt_set, e_lst, e_cons, e_c, e_nil, R.ok_bind, List.length_cons, List.length_nil, if_pos z1, m, R.of_some, List.length_set, hi, if_true]; rw [e]; rfl) ?_
  rw [List.set_set]
  exact k
def spLaw : DSp := fun ds _ Q _ => ∃ xs : List Dat, ds = [.lst xs] ∧ (∀ x ∈ xs, isI x = true) ∧ 1 + xs.length ≤ sizeLine ∧ ∀ M', Q (.bl true) M'
theorem mem_cut {xs : List Dat} {lo hi : Option Int} {x : Dat} (h : x ∈ DL.cutD xs lo hi) : x ∈ xs := by
  unfold DL.cutD at h
  first | exact List.mem_of_mem_take (List.mem_of_mem_drop h) | exact List.mem_of_mem_drop (List.mem_of_mem_take h)
theorem sd_mk (p : Nat) (s : List Int) (h : chR ltI s && s.all (fun i => decide (0 ≤ i) && decide (i < (p : Int))) = true) : Sd p s := by
  simp only [Bool.and_eq_true, List.all_eq_true, decide_eq_true_eq] at h
  exact ⟨((chR_pw fun a b c h1 h2 => by simp only [ltI, decide_eq_true_eq] at *; omega).mp h.1).imp fun h => by simpa [ltI] using h, h.2⟩
end NH

end
section
set_option Elab.async false
set_option linter.all false
set_option maxRecDepth 100000
set_option maxHeartbeats 4000000
/-! Nearest sides, words, flips. -/
namespace NH
open PySem PySem.Spec PyProof.Rows L2 DL
theorem dlc_m {α : Type} {g : DGt} {t : DTT} {f : DTE} {ρ : DSt} {M : DM} (enc : α → Dat) (p : α → Bool) (h : α → Dat) : ∀ {L : List α} {Kf : List Dat → DM → Prop} (hx : ∀ x ∈ L, ∃ ρ1, g (enc x) ρ = some ρ1 ∧ (∀ Q : Bool → DM → Prop, Q (p x) M → t ρ1 M Q fun _ _ => False) ∧ (p x = true → ∀ Q : DQ, Q (h x) M → f ρ1 M Q fun _ _ => False)), Kf ((L.filter p).map h) M → dLcL g t f ρ (L.map enc) M Kf
  | [], Kf, _, k => k
  | x :: L, Kf, hx, k => by
    obtain ⟨ρ1, h1, h2, h3⟩ := hx x List.mem_cons_self
    rw [List.map_cons]
    unfold dLcL
    simp only [h1]
    refine h2 _ ?_
    cases e : p x with
    | false =>
      simp only [Bool.false_eq_true, if_false]
      exact dlc_m enc p h (fun y hy => hx y (List.mem_cons_of_mem _ hy)) (by simpa [List.filter_cons, e] using k)
    | true =>
      simp only [if_true]
      exact h3 e _ (dlc_m (Kf := fun ys => Kf (h x :: ys)) enc p h (fun y hy => hx y (List.mem_cons_of_mem _ hy)) (by simpa [List.filter_cons, e] using k))
/-! ### nearest sides -/
def nearL (p : Nat) (ps : List II) : List (List Int) := (sidesL p).filter fun s => decide ((farS p ps s : Int) = few p ps)
theorem near_ne (p : Nat) (ps : List II) : nearL p ps ≠ [] := by
  obtain ⟨s, h1, h2⟩ := few_ex p ps
  exact List.ne_nil_of_mem (List.mem_filter.mpr ⟨mem_sides.mpr h1, by simpa using h2.symm⟩)
theorem sides_len (p : Nat) : (sidesL p).length = 2 ^ p := by
  rw [← srt_grow p]; exact (srtS_perm (grow p)).length_eq.trans (grow_len p)
theorem sides_le {p : Nat} (h : p ≤ 7) : (sidesL p).length ≤ 128 := by
  rw [sides_len]; exact Nat.pow_le_pow_right (by decide) h
theorem near_le {p : Nat} (h : p ≤ 7) (ps : List II) : (nearL p ps).length ≤ 128 := Nat.le_trans (List.length_filter_le _ _) (sides_le h)
theorem mem_near {p : Nat} {ps : List II} {s : List Int} : s ∈ nearL p ps ↔ Sd p s ∧ (farS p ps s : Int) = few p ps := by
  simp [nearL, mem_sides]
/-! ### words -/
def wd (m n : Nat) : Str := if m = n then "sure" else if m = 0 then "barred" else "open"
def wordsL (p : Nat) (L : List (List Int)) : List Str := (places p).map fun i => wd (L.filter fun s => inS s i).length L.length
theorem places_at {p : Nat} {l r : List Int} {x : Int} (h : places p = l ++ x :: r) : x = l.length ∧ l.length < p := by
  have e : (places p)[l.length]? = some x := by rw [h]; simp
  unfold places at e
  rw [List.getElem?_map] at e
  have hl : l.length < p := by
    have := congrArg List.length h
    rw [places_len, List.length_append, List.length_cons] at this
    omega
  simp [hl] at e
  exact ⟨e.symm, hl⟩
theorem places_pre {p : Nat} {l r : List Int} (h : places p = l ++ r) : l = places l.length := by
  have hl : l.length ≤ p := by
    have := congrArg List.length h
    rw [places_len, List.length_append] at this
    omega
  have e : l = (places p).take l.length := by rw [h]; simp
  rw [e]
  simp [places, ← List.map_take, List.take_range, Nat.min_eq_left hl]
def spFlipped : DSp := spR fun ds x => ∃ p ps y, ds = [mkW p ps, dpr y] ∧ Wb p ps ∧ y ∈ prs p ∧ x = mkW p (flipF p ps y)
def spFar : DSp := spR fun ds x => ∃ p ps s, ds = [mkW p ps, sd s] ∧ Wb p ps ∧ x = .int (farS p ps s)
def spFewest : DSp := spR fun ds x => ∃ p ps, ds = [mkW p ps] ∧ Wb p ps ∧ x = .int (few p ps)
def spWords : DSp := spR fun ds x => ∃ p ps L, ds = [mkW p ps, .lst (L.map sd)] ∧ p ≤ 7 ∧ L.length ≤ 200 ∧ x = .lst ((wordsL p L).map .str)
theorem flipF_wb {p : Nat} {ps : List II} (h : Wb p ps) (y : II) : Wb p (flipF p ps y) := ⟨h.lo, h.hi, flipF_sub p ps y⟩
theorem ne_dpr (x y : II) : oNe (dpr x) (dpr y) = some (.bl (!decide (x = y))) := by
  unfold oNe
  rw [dok_dpr, dok_dpr, deq_dpr]; rfl
theorem few_le21 {p : Nat} {ps : List II} (h : Wb p ps) : few p ps ≤ 100 := by
  have a := few_leS h.sub (fun _ => false)
  have b : farN p ps (fun _ => false) ≤ 42 := by
    rw [farN_len]
    have l1 : (putL p ps (fun _ => false)).length ≤ 21 := Nat.le_trans (List.length_filter_le _ _) (prs_len p h.hi)
    have l2 : (strL ps (fun _ => false)).length ≤ 21 := Nat.le_trans (List.length_filter_le _ _) h.len
    omega
  omega
theorem cnt_le {p : Nat} {ps : List II} (h : Wb p ps) (i : Int) : cnt i ps ≤ 21 := Nat.le_trans (List.length_filter_le _ _) h.len
theorem dok_ints {n : Nat} (l : List Int) : dok (n + 1) (.lst (l.map Dat.int)) = true := by simp [dok]
theorem dok_sdsL (L : List (List Int)) : dok 60 (.lst (L.map sd)) = true := by simp [dok, sd]
theorem dok_strs {L : List Str} (h : ∀ s ∈ L, PyData.strOk s = true) : dok 60 (.lst (L.map .str)) = true := by
  simp only [dok, List.all_eq_true]
  intro x hx
  obtain ⟨s, hs, rfl⟩ := List.mem_map.mp hx
  exact h s hs
theorem wd_ok (m n : Nat) : PyData.strOk (wd m n) = true := by
  unfold wd
  split
  · exact strOk_of _
  · split <;> exact strOk_of _
theorem words_ok (p : Nat) (L : List (List Int)) : ∀ s ∈ wordsL p L, PyData.strOk s = true := fun s hs => by
  obtain ⟨i, _, rfl⟩ := List.mem_map.mp hs
  exact wd_ok _ _
theorem deq_ints : ∀ s t : List Int, deqL (s.map Dat.int) (t.map Dat.int) = decide (s = t)
  | [], [] => by simp [deqL]
  | [], _ :: _ => by simp [deqL]
  | _ :: _, [] => by simp [deqL]
  | a :: s, b :: t => by
    simp only [List.map_cons, deqL, deq_ints s t, deq]
    rw [Bool.eq_iff_iff]; simp
theorem deq_sd (s t : List Int) : deq (sd s) (sd t) = decide (s = t) := deq_ints s t
theorem in_sds (s : List Int) (L : List (List Int)) : oIn (sd s) (.lst (L.map sd)) = some (.bl (decide (s ∈ L))) := by
  simp only [oIn, dok_sd, dok_sdsL, Bool.and_self, if_true]
  congr 2
  rw [List.any_map, Bool.eq_iff_iff, List.any_eq_true, decide_eq_true_eq]
  constructor
  · rintro ⟨y, hy, h⟩
    have h : deq (sd y) (sd s) = true := h
    rw [deq_sd, decide_eq_true_eq] at h
    exact h ▸ hy
  · intro h; exact ⟨s, h, by show deq (sd s) (sd s) = true; rw [deq_sd]; simp⟩
theorem notIn_sds (s : List Int) (L : List (List Int)) : oNotIn (sd s) (.lst (L.map sd)) = some (.bl (!decide (s ∈ L))) := by
  simp only [oNotIn, in_sds]
theorem ne_nilP (l : List II) : oNe (.lst (l.map dpr)) (.lst []) = some (.bl (!l.isEmpty)) := by
  have h : dok 60 (.lst (l.map dpr)) = true := dok_psL l
  unfold oNe
  rw [h]
  cases l <;> rfl
theorem notIn3 {v b : Int} (h : v = b - 1 ∨ v = b ∨ v = b + 1) : oNotIn (.int v) (.tup [.int (b - 1), .int b, .int (b + 1)]) = some (.bl false) := by
  refine (notIn_sd v [b - 1, b, b + 1]).trans ?_
  have : v ∈ [b - 1, b, b + 1] := by simp; omega
  simp only [inS, this, decide_true, Bool.not_true]
theorem tab_find {L : List (Addr × (List Dat → R Dat))} {a : Addr} (h : a ∈ L.map (·.1)) : ∃ g, DL.tabOf L a = some g ∧ ∃ b, (b, g) ∈ L := by
  obtain ⟨p, hp, rfl⟩ := List.mem_map.mp h
  cases e : L.find? (fun q => q.1 == p.1) with
  | none => exact absurd (List.find?_eq_none.mp e p hp) (by simp)
  | some q => exact ⟨q.2, by unfold DL.tabOf; rw [e]; rfl, q.1, List.mem_of_find?_eq_some e⟩
theorem sLcM {D : DEnds} {ρ : DSt} {M : DM} {i : Nat} {fi : FA} {g : DGt} {t : FT} {f : FE} {vs : List Nat} {xs ys : List Dat} (h : fi ρ = .ok xs) (lc : fLcL g t f (wipeD ρ vs) xs = .ok ys) (k : ∀ q, M q = none → D.nx (ρ.set i (some (.ref q))) (dupd M q (.lst ys))) : dSet i (dLcM (purA fi) g (purT t) (pur f) vs) D ρ M := by
  unfold dSet dLcM
  refine pA h ?_
  refine fLcL_imp g t f _ xs M _ ?_
  rw [lc]
  exact k
end NH

end
section
set_option Elab.async false
set_option linter.all false
set_option maxRecDepth 100000
set_option maxHeartbeats 4000000
/-! sorted and min of pairs of a number and a side; prices. -/
namespace NH
open PySem PySem.Spec PyProof.Rows L2 DL
theorem oSortG_of {xs : List Dat} (h : oSortE [.lst xs] = some (.lst (xs.mergeSort leD))) : oSortG [.lst xs] = some (.lst (xs.mergeSort leD)) := by
  simp only [oSortG]
  split
  · rfl
  · exact h
theorem oSortG_ints (l : List Int) : oSortG [.lst (l.map Dat.int)] = some (.lst ((srt l).map .int)) := by
  rw [← sort_ints]; exact oSortG_of (by rw [oSort_ints, sort_ints])
theorem oSortG_prs (l : List II) : oSortG [.lst (l.map dpr)] = some (.lst ((srtP l).map dpr)) := by
  rw [← sort_prs]; exact oSortG_of (by rw [oSort_prs, sort_prs])
theorem oSortG_sds (l : List (List Int)) : oSortG [.lst (([] :: l).map sd)] = some (.lst ((srtS ([] :: l)).map sd)) := by
  rw [← sort_sds]; exact oSortG_of (by rw [oSort_sds, sort_sds])
theorem minG_ints {l : List Int} (h : l ≠ []) : oMinG [.lst (l.map Dat.int)] = some (.int (minL l)) := by
  have m := min_ints h
  cases l with
  | nil => exact absurd rfl h
  | cons n r =>
    rw [List.map_cons] at m ⊢
    simp only [oMinG]
    rw [if_neg (by simp [tupsOk, neTup])]
    exact m
/-! ### a cost and a side -/
abbrev CS := Int × List Int
def dcs (x : CS) : Dat := .tup [.int x.1, sd x.2]
def ltCS (x y : CS) : Bool := decide (x.1 < y.1 ∨ (x.1 = y.1 ∧ x.2 < y.2))
theorem py_sd (s : List Int) : py (sd s) = .tuple (s.map .int) := by simp only [sd, py, pyL_ints]
theorem alike_sd (s t : List Int) : PySem.W.alike (py (sd s)) (py (sd t)) = true := by
  rw [py_sd, py_sd]; simp only [PySem.W.alike]; exact PySem.W.alike_ints _ _
theorem py_dcs (x : CS) : py (dcs x) = .tuple [.int x.1, .tuple (x.2.map .int)] := by
  show PyData.tuple [.int x.1, py (sd x.2)] = _
  rw [py_sd]
theorem alike_dcs (x y : CS) : PySem.W.alike (py (dcs x)) (py (dcs y)) = true := by
  rw [py_dcs, py_dcs]
  have := PySem.W.alike_ints x.2 y.2
  simp only [PySem.W.alike, PySem.W.alikeAll, this, Bool.and_self]
theorem lt_dcs (x y : CS) : ltD (dcs x) (dcs y) = ltCS x y := by
  unfold ltD ltCS
  rw [py_dcs, py_dcs]
  have a := alike_sd x.2 y.2
  rw [py_sd, py_sd] at a
  rw [PySem.W.dataLt_pair (by simp [PySem.W.alike]) a, PySem.W.dataLt_int]
  have e : PySem.W.dataLt (.tuple (x.2.map .int)) (.tuple (y.2.map .int)) = decide (x.2 < y.2) := by
    rw [PySem.W.dataLt_tuple]; exact PySem.W.dataLt_ints _ _
  rw [e]
  have q : PyData.eqv (.int x.1) (.int y.1) = decide (x.1 = y.1) := by
    simp only [PyData.eqv]; rw [Bool.eq_iff_iff]; simp
  rw [q]
  by_cases h : x.1 = y.1
  · have q2 : PyData.eqv (.tuple (x.2.map .int)) (.tuple (y.2.map .int)) = decide (x.2 = y.2) := by
      have := eqv_py 60 (sd x.2) (sd y.2) (dok_sd _) (dok_sd _)
      rw [py_sd, py_sd, deq_sd] at this
      exact this
    rw [q2]
    by_cases h2 : x.2 = y.2
    · simp [h, h2, List.lt_irrefl]
    · simp [h, h2]
  · simp [h]
theorem tups_dcs (L : List CS) : tupsOk (L.map dcs) = true := by
  unfold tupsOk
  rw [Bool.and_eq_true, Bool.and_eq_true]
  refine ⟨?_, ?_, ?_⟩
  · rw [List.all_map, List.all_eq_true]; intro x _; simp [dcs, dok, sd]
  · rw [List.all_map, List.all_eq_true]; intro x _; rfl
  · unfold alikeD
    rw [List.all_map, List.all_eq_true]
    intro x _
    show (L.map dcs).all _ = true
    rw [List.all_map, List.all_eq_true]
    intro y _
    exact alike_dcs x y
/-- the first of the least -/
def minC (x : CS) (L : List CS) : CS := L.foldl (fun a y => if ltCS y a then y else a) x
theorem minD_dcs : ∀ (L : List CS) (x : CS), DL.minD (dcs x) (L.map dcs) = dcs (minC x L)
  | [], x => rfl
  | y :: L, x => by
    have h := minD_dcs L (if ltCS y x then y else x)
    unfold DL.minD minC at *
    rw [List.map_cons, List.foldl_cons, List.foldl_cons, lt_dcs, ← h]
    congr 1
    split <;> rfl
theorem minG_dcs (x : CS) (L : List CS) : oMinG [.lst ((x :: L).map dcs)] = some (dcs (minC x L)) := by
  have t := tups_dcs (x :: L)
  rw [List.map_cons] at t ⊢
  simp only [oMinG]
  rw [if_pos t, minD_dcs]
def leCS (x y : CS) : Bool := !ltCS y x
def srtC (L : List CS) : List CS := L.mergeSort leCS
theorem leD_dcs (x y : CS) : leD (dcs x) (dcs y) = leCS x y := congrArg (!·) (lt_dcs y x)
theorem sortG_dcs (L : List CS) : oSortG [.lst (L.map dcs)] = some (.lst ((srtC L).map dcs)) := by
  simp only [oSortG]
  rw [if_pos (tups_dcs L)]
  congr 2
  exact (List.map_mergeSort fun a _ b _ => (leD_dcs a b).symm).symm
theorem ltCS_iff {x y : CS} : ltCS x y = true ↔ x.1 < y.1 ∨ (x.1 = y.1 ∧ x.2 < y.2) := by simp [ltCS]
theorem leCS_iff {x y : CS} : leCS x y = true ↔ x.1 < y.1 ∨ (x.1 = y.1 ∧ x.2 ≤ y.2) := by
  unfold leCS
  rw [Bool.not_eq_true', ← Bool.not_eq_true, ltCS_iff]
  have h : ¬ (y.2 < x.2) ↔ x.2 ≤ y.2 := List.not_lt
  rw [← h]
  constructor
  · intro g
    rcases Int.lt_trichotomy x.1 y.1 with c | c | c
    · exact .inl c
    · exact .inr ⟨c, fun q => g (.inr ⟨c.symm, q⟩)⟩
    · exact absurd (.inl c) g
  · rintro (c | ⟨c, d⟩) (e | ⟨e, f⟩)
    · omega
    · omega
    · omega
    · exact d f
theorem leCS_trans (a b c : CS) (h1 : leCS a b = true) (h2 : leCS b c = true) : leCS a c = true := by
  rw [leCS_iff] at *
  rcases h1 with h1 | ⟨h1, h3⟩ <;> rcases h2 with h2 | ⟨h2, h4⟩
  · left; omega
  · left; omega
  · left; omega
  · right; exact ⟨by omega, List.le_trans h3 h4⟩
theorem leCS_total (a b : CS) : (leCS a b || leCS b a) = true := by
  rw [Bool.or_eq_true, leCS_iff, leCS_iff]
  rcases Int.lt_trichotomy a.1 b.1 with c | c | c
  · exact .inl (.inl c)
  · have h : a.2 ≤ b.2 ∨ b.2 ≤ a.2 := List.le_total _ _
    rcases h with h | h
    · exact .inl (.inr ⟨c, h⟩)
    · exact .inr (.inr ⟨c.symm, h⟩)
  · exact .inr (.inl c)
theorem leCS_anti {a b : CS} (h1 : leCS a b = true) (h2 : leCS b a = true) : a = b := by
  rw [leCS_iff] at *
  rcases h1 with h1 | ⟨h1, h3⟩ <;> rcases h2 with h2 | ⟨h2, h4⟩
  · omega
  · omega
  · omega
  · exact Prod.ext h1 (List.le_antisymm h3 h4)
theorem minC_le : ∀ (L : List CS) (x y : CS), y ∈ x :: L → leCS (minC x L) y = true
  | [], x, y, h => by
    rw [List.mem_singleton.mp h]
    have := leCS_total x x
    show leCS x x = true
    simpa using this
  | z :: L, x, y, h => by
    show leCS (L.foldl _ (if ltCS z x then z else x)) y = true
    have ih := fun (y : CS) h => minC_le L (if ltCS z x then z else x) y h
    unfold minC at ih
    have tt : ∀ a : CS, leCS a a = true := fun a => by have := leCS_total a a; simpa using this
    have s : leCS (if ltCS z x then z else x) x = true ∧ leCS (if ltCS z x then z else x) z = true := by
      cases c : ltCS z x with
      | true =>
        simp only [if_true]
        refine ⟨?_, tt z⟩
        have := leCS_total z x
        rw [Bool.or_eq_true] at this
        rcases this with q | q
        · exact q
        · unfold leCS at q; rw [c] at q; cases q
      | false =>
        simp only [Bool.false_eq_true, if_false]
        exact ⟨tt x, by unfold leCS; rw [c]; rfl⟩
    have b := ih _ List.mem_cons_self
    rcases List.mem_cons.mp h with rfl | h
    · exact leCS_trans _ _ _ b s.1
    · rcases List.mem_cons.mp h with rfl | h
      · exact leCS_trans _ _ _ b s.2
      · exact ih y (List.mem_cons_of_mem _ h)
theorem minC_mem : ∀ (L : List CS) (x : CS), minC x L ∈ x :: L
  | [], x => List.mem_cons_self
  | y :: L, x => by
    show L.foldl _ (if ltCS y x then y else x) ∈ _
    have h := minC_mem L (if ltCS y x then y else x)
    unfold minC at h
    rcases List.mem_cons.mp h with e | e
    · rw [e]; split
      · exact List.mem_cons_of_mem _ List.mem_cons_self
      · exact List.mem_cons_self
    · exact List.mem_cons_of_mem _ (List.mem_cons_of_mem _ e)
/-- the head of the sorted list is the least -/
theorem srtC_head (x : CS) (L : List CS) : ∃ r, srtC (x :: L) = minC x L :: r := by
  have pe : (srtC (x :: L)).Perm (x :: L) := List.mergeSort_perm _ _
  have pw : (srtC (x :: L)).Pairwise fun a b => leCS a b = true := List.pairwise_mergeSort (le := leCS) leCS_trans leCS_total _
  cases e : srtC (x :: L) with
  | nil => have := pe.length_eq; rw [e] at this; simp at this
  | cons h r =>
    refine ⟨r, ?_⟩
    have hm : h ∈ x :: L := pe.mem_iff.mp (by rw [e]; exact List.mem_cons_self)
    have a := minC_le L x h hm
    have mm : minC x L ∈ h :: r := by rw [← e]; exact pe.mem_iff.mpr (minC_mem L x)
    rcases List.mem_cons.mp mm with q | q
    · rw [q]
    · rw [e] at pw
      have b := (List.pairwise_cons.mp pw).1 _ q
      rw [leCS_anti a b]
/-! ### prices -/
def FARC : Int := 1000000000000000000000000000000
def priceB (p : Nat) (v : Dat) : Bool := match v with
  | .tup xs => decide (xs.length = p * (p - 1) / 2) && xs.all (fun x => wholeB x 0 FARC)
  | _ => false
/-- what changes cost -/
def costN (p : Nat) (ps : List II) (s : List Int) (pr : List Int) : Int := ((((prs p).zip pr).filter fun x => inP (putL p ps (inS s)) x.1 || inP (strL ps (inS s)) x.1).map (·.2)).sum
theorem prs_cnt : ∀ p : Nat, p ≤ 7 → (prs p).length = p * (p - 1) / 2 := by
  intro p hp
  match p, hp with
  | 0, _ => decide
  | 1, _ => decide
  | 2, _ => decide
  | 3, _ => decide
  | 4, _ => decide
  | 5, _ => decide
  | 6, _ => decide
  | 7, _ => decide
/-- prices that are given -/
structure Pr (p : Nat) (pr : List Int) : Prop where
  len : pr.length = (prs p).length
  nn : ∀ x ∈ pr, 0 ≤ x ∧ x ≤ FARC
theorem Pr.ok {p : Nat} {pr : List Int} (hp : p ≤ 7) (h : Pr p pr) : priceB p (.tup (pr.map .int)) = true := by
  simp only [priceB, List.length_map, h.len, prs_cnt p hp, decide_true, Bool.true_and, List.all_map, List.all_eq_true]
  intro x hx
  have := h.nn x hx
  simp [wholeB, this]
/-- all of one price: how far the side is -/
theorem cost_same {p : Nat} {ps : List II} (hp : p ≤ 7) (hs : ps.Sublist (prs p)) (s : List Int) (c : Int) {n : Nat} (hn : n = (prs p).length) : costN p ps s (List.replicate n c) = c * (farS p ps s : Int) := by
  have e1 : ((prs p).filter fun x => inP (putL p ps (inS s)) x || inP (strL ps (inS s)) x).length = farS p ps s := by
    unfold farS
    rw [farN_bad hp hs]
    congr 1
    apply List.filter_congr
    intro x hx
    unfold putL strL inP badB
    simp only [List.mem_filter]
    have : x ∈ ps ↔ inP ps x = true := by simp [inP]
    rw [Bool.eq_iff_iff]
    simp [hx, inP, and_comm]
  have e2 : ∀ (L : List II) (P : II → Bool), (((L.zip (List.replicate L.length c)).filter fun x => P x.1).map (·.2)).sum = c * ((L.filter P).length : Int) := by
    intro L P
    induction L with
    | nil => simp
    | cons x L ih =>
      rw [List.length_cons, List.replicate_succ, List.zip_cons_cons, List.filter_cons, List.filter_cons]
      cases h : P x with
      | true => simp [h, ih, Int.mul_add]; omega
      | false => simpa [h] using ih
  unfold costN
  rw [hn, e2 (prs p) (fun x => inP (putL p ps (inS s)) x || inP (strL ps (inS s)) x), e1]
end NH

end
section
set_option Elab.async false
set_option linter.all false
set_option maxRecDepth 100000
set_option maxHeartbeats 4000000
/-! Prices: facts for loops and comprehensions. -/
namespace NH
open PySem PySem.Spec PyProof.Rows L2 DL
theorem dlc_roll {a : Addr} {g : DGt} {f : DTE} {ρ : DSt} (P : Dat → Prop) : ∀ (xs : List Dat) (M : DM) (Kf : List Dat → DM → Prop), Drum M a → (∀ x ∈ xs, ∃ ρ1, g x ρ = some ρ1 ∧ ∀ (M : DM) (Q : DQ), Drum M a → (∀ y M', P y → Drum M' a → Fr a M M' → Q y M') → f ρ1 M Q NoE) →
    (∀ ys M', ys.length = xs.length → (∀ y ∈ ys, P y) → Drum M' a → Fr a M M' → Kf ys M') → dLcL g (purT fYes) f ρ xs M Kf
  | [], M, Kf, hD, _, k => k [] M rfl (fun y hy => by cases hy) hD (Fr.refl _ _)
  | x :: xs, M, Kf, hD, hf, k => by
    obtain ⟨ρ1, h1, h2⟩ := hf x List.mem_cons_self
    unfold dLcL
    simp only [h1]
    refine pT (x := true) rfl ?_
    simp only [if_true]
    refine h2 M _ hD fun y M1 hy hD1 hF1 => ?_
    refine dlc_roll (a := a) P xs M1 (fun ys => Kf (y :: ys)) hD1 (fun z hz => hf z (List.mem_cons_of_mem _ hz)) fun ys M2 hl hp hD2 hF2 => ?_
    refine k (y :: ys) M2 (by simp [hl]) (fun z hz => ?_) hD2 (hF1.trans hF2)
    rcases List.mem_cons.mp hz with e | e
    · rw [e]; exact hy
    · exact hp z e
theorem ints_of {Q : Int → Prop} : ∀ {ys : List Dat}, (∀ y ∈ ys, ∃ v, y = .int v ∧ Q v) → ∃ ns : List Int, ys = ns.map .int ∧ ∀ v ∈ ns, Q v
  | [], _ => ⟨[], rfl, fun v hv => by cases hv⟩
  | y :: ys, h => by
    obtain ⟨ns, e, hn⟩ := ints_of (ys := ys) fun z hz => h z (List.mem_cons_of_mem _ hz)
    obtain ⟨v, rfl, hv⟩ := h y List.mem_cons_self
    refine ⟨v :: ns, by rw [e]; rfl, fun w hw => ?_⟩
    rcases List.mem_cons.mp hw with r | r
    · rw [r]; exact hv
    · exact hn w r
/-- a tie and its price -/
def dtp (x : II × Int) : Dat := .tup [dpr x.1, .int x.2]
theorem zipM_eq (L : List II) (M : List Int) : oZipM [.lst (L.map dpr), .tup (M.map .int)] = some ((L.zip M).map dtp) := by
  simp only [oZipM]
  congr 1
  induction L generalizing M with
  | nil => rfl
  | cons x L ih =>
    cases M with
    | nil => rfl
    | cons y M => simp only [List.map_cons, List.zip_cons_cons, List.cons.injEq]; exact ⟨rfl, ih M⟩
@[simp] theorem two_dtp (i j : Nat) (x : II × Int) (ρ : DSt) : gTwo i j (dtp x) ρ = some ((ρ.set i (some (dpr x.1))).set j (some (.int x.2))) := rfl
theorem inP_app (a b : List II) (x : II) : inP (a ++ b) x = (inP a x || inP b x) := by
  unfold inP
  rw [Bool.eq_iff_iff]
  simp
theorem half_p : ∀ p : Fin 8, ((p : Nat) : Int) * (((p : Nat) : Int) - 1) / 2 = ((((p : Nat) * ((p : Nat) - 1) / 2 : Nat)) : Int) := by decide
theorem half_eq {p : Nat} (h : p ≤ 7) : (p : Int) * ((p : Int) - 1) / 2 = ((p * (p - 1) / 2 : Nat) : Int) := half_p ⟨p, by omega⟩
def spCost : DSp := spR fun ds x => ∃ p ps s pr, ds = [mkW p ps, sd s, .tup (pr.map .int)] ∧ Wb p ps ∧ pr.length = (prs p).length ∧ x = .int (costN p ps s pr)
def costL (p : Nat) (ps : List II) (pr : List Int) : List CS := (sidesL p).map fun s => (costN p ps s pr, s)
theorem costL_ne (p : Nat) (ps : List II) (pr : List Int) : ∃ x L, costL p ps pr = x :: L := by
  obtain ⟨s, r, e⟩ := List.exists_cons_of_ne_nil (sides_ne p)
  exact ⟨_, _, by unfold costL; rw [e]; rfl⟩
/-- all prices the same -/
theorem minC_same {p : Nat} {ps : List II} (hw : Wb p ps) (c : Int) (hc : 0 ≤ c) {x : CS} {L : List CS} (e : costL p ps (List.replicate (prs p).length c) = x :: L) : (minC x L).1 = c * few p ps := by
  have mm := minC_mem L x
  rw [← e] at mm
  obtain ⟨s, hs, h1⟩ := List.mem_map.mp mm
  have cs := cost_same hw.hi hw.sub s c (n := (prs p).length) rfl
  have f1 : (minC x L).1 = c * (farS p ps s : Int) := by rw [← h1, ← cs]
  have l1 := few_le (ps := ps) (mem_sides.mp hs)
  obtain ⟨t, ht, hf⟩ := few_ex p ps
  have mt : ((costN p ps t (List.replicate (prs p).length c), t) : CS) ∈ x :: L := by
    rw [← e]; exact List.mem_map.mpr ⟨t, mem_sides.mpr ht, rfl⟩
  have l2 := minC_le L x _ mt
  rw [leCS_iff] at l2
  have ct := cost_same hw.hi hw.sub t c (n := (prs p).length) rfl
  have l3 : (minC x L).1 ≤ c * few p ps := by
    rw [hf, ← ct]
    rcases l2 with q | q
    · exact Int.le_of_lt q
    · exact Int.le_of_eq q.1
  have l4 : c * few p ps ≤ c * (farS p ps s : Int) := Int.mul_le_mul_of_nonneg_left l1 hc
  omega
theorem ne_nilT {d : Dat} (h : dok 60 d = true) : oNe d (.tup []) = some (.bl (!deq d (.tup []))) := by
  unfold oNe
  rw [h]; rfl
end NH

end
section
set_option Elab.async false
set_option linter.all false
set_option maxRecDepth 100000
set_option maxHeartbeats 4000000
/-! Texts of webs: written, read. -/
namespace NH
open PySem PySem.Spec PyProof.Rows L2 DL TL
@[simp] theorem e_m1 (o : Dat → Dat → Option Dat) (f g : FE) (ρ : DSt) : fM1 o f g ρ = (f ρ >>= fun x => match x with
  | .str a => g ρ >>= fun y => R.of (o (.str a) y)
  | _ => .bad) := rfl
/-- a short text of signs that there are -/
def tx (n : Nat) (x : Str) : Prop := (tl x).length ≤ n ∧ ∀ c ∈ tl x, c < 0x110000
theorem tl_len (x : Str) : (tl x).length = x.length := by simp [tl, Str.length]
theorem tx.len {n : Nat} {x : Str} (h : tx n x) : x.length ≤ n := by rw [← tl_len]; exact h.1
theorem tx.ok {n : Nat} {x : Str} (h : tx n x) : PyData.strOk x = true := by
  unfold PyData.strOk
  rw [← Array.all_toList]
  exact List.all_eq_true.mpr fun c hc => decide_eq_true (h.2 c hc)
theorem tx.mono {n m : Nat} {x : Str} (h : tx n x) (l : n ≤ m) : tx m x := ⟨Nat.le_trans h.1 l, h.2⟩
theorem tx_of (n : Nat) (s : String) (h : s.toList.length ≤ n) : tx n (Str.ofString s) := by
  refine ⟨by rw [tl_ofString]; simpa using h, fun c hc => ?_⟩
  have := strOk_of s
  unfold PyData.strOk at this
  rw [← Array.all_toList] at this
  exact of_decide_eq_true (List.all_eq_true.mp this c hc)
theorem mem_joinL {S : List Nat} {c : Nat} : ∀ {L : List (List Nat)}, c ∈ joinL S L → c ∈ S ∨ ∃ p ∈ L, c ∈ p
  | [], h => by cases h
  | [p], h => .inr ⟨p, List.mem_singleton.mpr rfl, h⟩
  | p :: q :: r, h => by
    rcases List.mem_append.mp (show c ∈ p ++ (S ++ joinL S (q :: r)) from h) with h | h
    · exact .inr ⟨p, List.mem_cons_self, h⟩
    · rcases List.mem_append.mp h with h | h
      · exact .inl h
      · rcases mem_joinL h with h | ⟨z, hz, h⟩
        · exact .inl h
        · exact .inr ⟨z, List.mem_cons_of_mem _ hz, h⟩
theorem joinL_mem {S : List Nat} {c : Nat} {p : List Nat} : ∀ {L : List (List Nat)}, p ∈ L → c ∈ p → c ∈ joinL S L
  | [], h, _ => by cases h
  | [q], h, hc => by rw [List.mem_singleton.mp h] at hc; exact hc
  | q :: z :: r, h, hc => by
    show c ∈ q ++ (S ++ joinL S (z :: r))
    rcases List.mem_cons.mp h with e | h
    · rw [e] at hc; exact List.mem_append_left _ hc
    · exact List.mem_append_right _ (List.mem_append_right _ (joinL_mem h hc))
abbrev bl : Str := " "
theorem tl_bl : tl bl = [32] := by decide +kernel
theorem bl_len : bl.length = 1 := by decide +kernel
theorem join_tx {n : Nat} {ws : List Str} (h : (ws.map (·.length)).sum + ws.length ≤ n) (hc : ∀ w ∈ ws, ∀ c ∈ tl w, c < 0x110000) : tx n (Txt.join bl ws) := by
  rw [join_eq]
  refine ⟨?_, fun c h => ?_⟩
  · rw [tl_len]
    refine Nat.le_trans (StrLaws.join_length_le bl ws) ?_
    rw [bl_len]
    omega
  · rw [tl_join] at h
    rcases mem_joinL h with h | ⟨p, hp, h⟩
    · rw [tl_bl] at h
      rw [List.mem_singleton.mp h]
      decide
    · obtain ⟨w, hw, rfl⟩ := List.mem_map.mp hp
      exact hc w hw c h
/-- the words of a text -/
structure Wds (n : Nat) (x : Str) (ws : List Str) : Prop where
  eq : Txt.split x bl = ws
  w : (ws.map (·.length)).sum + ws.length ≤ n + 1
  ch : ∀ w ∈ ws, ∀ c ∈ tl w, c < 0x110000
  ne : ws ≠ []
theorem tx.words {n : Nat} {x : Str} (h : tx n x) : Wds n x (Txt.split x bl) := by
  refine ⟨rfl, ?_, fun w hw c hc => ?_, fun e => ?_⟩
  · refine Nat.le_trans (split_weight x bl (by rw [bl_len]; exact Nat.le_refl 1)) ?_
    have := h.len
    omega
  · have j := StrLaws.join_split x bl
    refine h.2 c ?_
    rw [← j, tl_join]
    exact joinL_mem (List.mem_map_of_mem hw) hc
  · have := split_pos x bl
    rw [e] at this
    exact absurd this (by decide)
theorem sum_sub {l m : List Nat} (h : l.Sublist m) : l.sum ≤ m.sum := by
  induction h with
  | slnil => exact Nat.le_refl _
  | cons a _ ih => simp only [List.sum_cons]; omega
  | cons_cons a _ ih => simp only [List.sum_cons]; omega
theorem Wds.sub {n : Nat} {x : Str} {ws vs : List Str} (h : Wds n x ws) (s : vs.Sublist ws) : (vs.map (·.length)).sum + vs.length ≤ n + 1 ∧ ∀ w ∈ vs, ∀ c ∈ tl w, c < 0x110000 := by
  refine ⟨?_, fun w hw => h.ch w (s.subset hw)⟩
  have := sum_sub (s.map (·.length))
  have := s.length_le
  have := h.w
  omega
theorem Wds.len {n : Nat} {x : Str} {ws : List Str} (h : Wds n x ws) : ws.length ≤ n + 1 := by have := h.w; omega
theorem Wds.one {n : Nat} {x : Str} {ws : List Str} (h : Wds n x ws) {w : Str} (hw : w ∈ ws) : tx n w := by
  have := (h.sub (List.singleton_sublist.mpr hw)).1
  refine ⟨?_, h.ch w hw⟩
  rw [tl_len]
  simp at this
  omega
/-! ### signs -/
def wN (c : Nat) : Str := ⟨#[c]⟩
def wP (x : II) : Str := ⟨#[48 + x.1.toNat, 45, 48 + x.2.toNat]⟩
theorem tl_wN (c : Nat) : tl (wN c) = [c] := rfl
theorem tl_wP (x : II) : tl (wP x) = [48 + x.1.toNat, 45, 48 + x.2.toNat] := rfl
theorem dig_eq : ∀ i : Fin 8, Str.ofString (toString ((i : Nat) : Int)) = wN (48 + (i : Nat)) := by decide +kernel
theorem dig_of {i : Int} (h0 : 0 ≤ i) (h : i ≤ 7) : Str.ofString (toString i) = wN (48 + i.toNat) := by
  have := dig_eq ⟨i.toNat, by omega⟩
  rw [show ((i.toNat : Nat) : Int) = i by omega] at this
  exact this
theorem ostr_dig {i : Int} (h0 : 0 ≤ i) (h : i ≤ 7) : oStr [.int i] = some (.str (wN (48 + i.toNat))) := by
  have l : i.natAbs.log2 < 1920 := by
    have : i.natAbs.log2 ≤ i.natAbs := Nat.log2_le_self _
    omega
  simp only [oStr]
  rw [if_pos l]
  exact congrArg (fun z => some (Dat.str z)) (dig_of h0 h)
theorem txt_dig : ∀ i : Fin 10, PySem.intText? (wN (48 + (i : Nat))) = some ((i : Nat) : Int) := by decide +kernel
theorem int_dig {n : Nat} (h : n < 10) : oInt [.str (wN (48 + n))] = some (.int (n : Int)) := by
  simp only [oInt]
  rw [if_pos (show (wN (48 + n)).length ≤ 640 by show 1 ≤ 640; decide), txt_dig ⟨n, h⟩]
  rfl
/-! ### reading -/
def dgt (lo hi : Nat) (w : Str) : Option Nat := match tl w with
  | [c] => if 48 + lo ≤ c ∧ c ≤ 48 + hi then some (c - 48) else none
  | _ => none
def tieW (w : Str) : Option II := match tl w with
  | [a, b, c] => if b = 45 ∧ (48 ≤ a ∧ a ≤ 54) ∧ 48 ≤ c ∧ c ≤ 54 then some (((a - 48 : Nat) : Int), ((c - 48 : Nat) : Int)) else none
  | _ => none
def tiesW : List Str → Option (List II)
  | [] => some []
  | w :: r => match tieW w with
    | none => none
    | some x => (tiesW r).map (x :: ·)
def fitsB (p : Nat) (x : II) : Bool := decide (0 ≤ x.1) && decide (x.1 < x.2) && decide (x.2 < p)
def readW : List Str → Option (Nat × List II)
  | [] => none
  | h :: r => match dgt 1 7 h with
    | none => none
    | some p => match tiesW r with
      | none => none
      | some xs => if xs.all (fitsB p) && chainB xs then some (p, xs) else none
def readS (x : Str) : Option (Nat × List II) := readW (Txt.split x bl)
def textW (p : Nat) (ps : List II) : Str := Txt.join bl (wN (48 + p) :: ps.map wP)
theorem dgt_some {lo hi : Nat} {w : Str} {p : Nat} (h : dgt lo hi w = some p) : lo ≤ p ∧ p ≤ hi ∧ w = wN (48 + p) := by
  unfold dgt at h
  split at h
  · rename_i c e
    split at h
    · rename_i hc
      cases h
      refine ⟨by omega, by omega, ext_tl ?_⟩
      rw [e, tl_wN, show 48 + (c - 48) = c by omega]
    · cases h
  · cases h
theorem tie_some {w : Str} {x : II} (h : tieW w = some x) : (0 ≤ x.1 ∧ x.1 ≤ 6) ∧ (0 ≤ x.2 ∧ x.2 ≤ 6) ∧ w = wP x := by
  unfold tieW at h
  split at h
  · rename_i a b c e
    split at h
    · rename_i hc
      cases h
      refine ⟨by simp; omega, by simp; omega, ext_tl ?_⟩
      rw [e, tl_wP]
      simp
      omega
    · cases h
  · cases h
theorem tie_wP {x : II} (h1 : 0 ≤ x.1 ∧ x.1 ≤ 6) (h2 : 0 ≤ x.2 ∧ x.2 ≤ 6) : tieW (wP x) = some x := by
  unfold tieW
  rw [tl_wP]
  simp only
  rw [if_pos ⟨trivial, by omega, by omega⟩]
  congr 1
  exact Prod.ext (by simp; omega) (by simp; omega)
theorem ties_some : ∀ {ws : List Str} {xs : List II}, tiesW ws = some xs → ws = xs.map wP ∧ ∀ x ∈ xs, (0 ≤ x.1 ∧ x.1 ≤ 6) ∧ 0 ≤ x.2 ∧ x.2 ≤ 6
  | [], xs, h => by cases h; exact ⟨rfl, fun x hx => by cases hx⟩
  | w :: r, xs, h => by
    unfold tiesW at h
    split at h
    · cases h
    · rename_i x e
      obtain ⟨ys, e2, rfl⟩ := Option.map_eq_some_iff.mp h
      obtain ⟨h1, h2, h3⟩ := tie_some e
      obtain ⟨r1, r2⟩ := ties_some e2
      refine ⟨by rw [List.map_cons, ← h3, ← r1], fun y hy => ?_⟩
      rcases List.mem_cons.mp hy with e | hy
      · rw [e]; exact ⟨h1, h2⟩
      · exact r2 y hy
theorem ties_wP : ∀ {xs : List II}, (∀ x ∈ xs, (0 ≤ x.1 ∧ x.1 ≤ 6) ∧ 0 ≤ x.2 ∧ x.2 ≤ 6) → tiesW (xs.map wP) = some xs
  | [], _ => rfl
  | x :: r, h => by
    have hx := h x List.mem_cons_self
    unfold tiesW
    rw [List.map_cons]
    simp only [tie_wP hx.1 hx.2, ties_wP fun y hy => h y (List.mem_cons_of_mem _ hy), Option.map_some]
theorem fits_prs {p : Nat} (hp : p ≤ 7) {x : II} : fitsB p x = true ↔ x ∈ prs p := by
  rw [mem_prs]
  simp [fitsB, and_assoc]
theorem read_web_text {p : Nat} {ps : List II} (h : Wb p ps) : readS (textW p ps) = some (p, ps) := by
  have bd : ∀ x ∈ ps, x ∈ prs p := fun x hx => h.sub.subset hx
  have b6 : ∀ x ∈ ps, (0 ≤ x.1 ∧ x.1 ≤ 6) ∧ 0 ≤ x.2 ∧ x.2 ≤ 6 := fun x hx => by
    have := mem_prs.mp (bd x hx)
    have := h.hi
    omega
  have free : ∀ w ∈ wN (48 + p) :: ps.map wP, 32 ∉ tl w := fun w hw => by
    rcases List.mem_cons.mp hw with e | hw
    · rw [e, tl_wN]; simp; omega
    · obtain ⟨x, hx, rfl⟩ := List.mem_map.mp hw
      rw [tl_wP]; simp; omega
  unfold readS textW
  rw [split_join tl_bl (by decide +kernel) (by simp) free]
  have d : dgt 1 7 (wN (48 + p)) = some p := by
    unfold dgt
    rw [tl_wN]
    simp only
    have := h.lo
    have := h.hi
    rw [if_pos ⟨by omega, by omega⟩]
    congr 1
    omega
  have al : ps.all (fitsB p) = true := List.all_eq_true.mpr fun x hx => (fits_prs h.hi).mpr (bd x hx)
  have ch : chainB ps = true := h.isw.ch
  simp [readW, d, ties_wP b6, al, ch]
theorem text_tx {p : Nat} {ps : List II} (h : Wb p ps) : tx 86 (textW p ps) := by
  have b6 : ∀ x ∈ ps, (0 ≤ x.1 ∧ x.1 ≤ 6) ∧ 0 ≤ x.2 ∧ x.2 ≤ 6 := fun x hx => by
    have := mem_prs.mp (h.sub.subset hx)
    have := h.hi
    omega
  refine join_tx ?_ fun w hw c hc => ?_
  · have s : ∀ l : List II, ((l.map wP).map (·.length)).sum = 3 * l.length := fun l => by
      induction l with
      | nil => rfl
      | cons x l ih =>
        rw [List.map_cons, List.map_cons, List.sum_cons, ih, List.length_cons]
        have : (wP x).length = 3 := rfl
        omega
    have := h.len
    have e : (wN (48 + p)).length = 1 := rfl
    rw [List.map_cons, List.sum_cons, s, List.length_cons, List.length_map, e]
    omega
  · have := h.hi
    rcases List.mem_cons.mp hw with e | hw
    · rw [e, tl_wN] at hc
      rw [List.mem_singleton.mp hc]
      omega
    · obtain ⟨x, hx, rfl⟩ := List.mem_map.mp hw
      have := b6 x hx
      rw [tl_wP] at hc
      simp at hc
      omega
/-! ### what is done with texts -/
theorem ne_str {x y : Str} (hx : PyData.strOk x = true) (hy : PyData.strOk y = true) : oNe (.str x) (.str y) = some (.bl (!decide (x = y))) := by
  have e : (x == y) = decide (x = y) := by by_cases h : x = y <;> simp [h]
  simp [oNe, dok, hx, hy, deq, e]
theorem notIn_strs {x : Str} {L : List Str} (hx : PyData.strOk x = true) (hL : ∀ s ∈ L, PyData.strOk s = true) : oNotIn (.str x) (.lst (L.map .str)) = some (.bl (!decide (x ∈ L))) := by
  have d : dok 60 (.lst (L.map Dat.str)) = true := dok_strs hL
  have e : ((L.map Dat.str).any fun z => deq z (.str x)) = decide (x ∈ L) := by
    rw [List.any_map]
    induction L with
    | nil => rfl
    | cons y r ih =>
      rw [List.any_cons, ih (fun s hs => hL s (List.mem_cons_of_mem _ hs)) (dok_strs fun s hs => hL s (List.mem_cons_of_mem _ hs))]
      by_cases h : y = x
      · subst h; simp [deq]
      · have h' : ¬ x = y := fun z => h z.symm
        have : (y == x) = false := by simp [h]
        simp [deq, this, h']
  have dx : dok 60 (.str x) = true := hx
  simp [oNotIn, oIn, dx, d, e]
def D7 : List Str := [wN 49, wN 50, wN 51, wN 52, wN 53, wN 54, wN 55]
def D6 : List Str := [wN 48, wN 49, wN 50, wN 51, wN 52, wN 53, wN 54]
theorem D7_ok : ∀ s ∈ D7, PyData.strOk s = true := by decide +kernel
theorem D6_ok : ∀ s ∈ D6, PyData.strOk s = true := by decide +kernel
theorem wN_inj {a b : Nat} : wN a = wN b ↔ a = b := ⟨fun h => by have := congrArg tl h; simpa [tl_wN] using this, fun h => by rw [h]⟩
theorem mem_D6 (a : Nat) : wN a ∈ D6 ↔ 48 ≤ a ∧ a ≤ 54 := by
  simp only [D6, List.mem_cons, List.not_mem_nil, or_false, wN_inj]
  omega
theorem mem_D7 (h : Str) : h ∈ D7 ↔ (dgt 1 7 h).isSome = true := by
  constructor
  · intro m
    simp only [D7, List.mem_cons, List.not_mem_nil, or_false] at m
    rcases m with e | e | e | e | e | e | e <;> (rw [e]; decide +kernel)
  · intro m
    obtain ⟨p, e⟩ := Option.isSome_iff_exists.mp m
    obtain ⟨h1, h2, h3⟩ := dgt_some e
    rw [h3]
    have : p = 1 ∨ p = 2 ∨ p = 3 ∨ p = 4 ∨ p = 5 ∨ p = 6 ∨ p = 7 := by omega
    rcases this with e | e | e | e | e | e | e <;> (subst e; decide +kernel)
theorem cat1 (a : Nat) : oAdd (.str (wN a)) (.str "-") = some (.str ⟨#[a, 45]⟩) := by
  simp only [oAdd]
  rw [if_pos (show (wN a).length + ("-" : Str).length ≤ sizeLine by rw [show ("-" : Str).length = 1 by decide +kernel]; show 1 + 1 ≤ sizeLine; decide)]
  refine congrArg (fun z => some (Dat.str z)) (ext_tl ?_)
  rw [tl_append, tl_wN, show tl ("-" : Str) = [45] by decide +kernel]
  rfl
theorem cat2 (a b : Nat) : oAdd (.str ⟨#[a, 45]⟩) (.str (wN b)) = some (.str ⟨#[a, 45, b]⟩) := by
  simp only [oAdd]
  rw [if_pos (show (⟨#[a, 45]⟩ : Str).length + (wN b).length ≤ sizeLine by show 2 + 1 ≤ sizeLine; decide)]
  refine congrArg (fun z => some (Dat.str z)) (ext_tl ?_)
  rw [tl_append, tl_wN]
  rfl
theorem join_words {ws : List Str} (h : (ws.map (·.length)).sum + ws.length ≤ 1000) : oJoin (.str " ") (.lst (ws.map .str)) = some (.str (Txt.join bl ws)) := by
  simp only [oJoin, dstrs_map, Option.bind_some]
  rw [if_pos]
  rw [show (" " : Str).length = 1 from bl_len]
  omega
theorem split_words {n : Nat} {x : Str} (h : tx n x) (hn : n ≤ 1000) : oSplit (.str x) (.str " ") = some (.lst ((Txt.split x bl).map .str)) := by
  have := h.len
  have w : (Txt.split x (Str.ofString " ")).length ≤ n + 1 := h.words.len
  simp only [oSplit]
  rw [if_pos]
  refine ⟨by rw [show (" " : Str).length = 1 from bl_len]; rfl, ?_, ?_⟩ <;> (rw [sizeLine_eq]; omega)
theorem ix_word {x : Str} {i c : Nat} (h : (tl x)[i]? = some c) (hl : (tl x).length ≤ 1000) : oIx (.str x) (.int (i : Int)) = some (.str (wN c)) := by
  have hx : x.length ≤ sizeLine := by rw [← tl_len, sizeLine_eq]; omega
  have hi : i < (tl x).length := (List.getElem?_eq_some_iff.mp h).1
  have a : atI x.cps.toList (i : Int) = some c := by
    have e : ixN (tl x).length (i : Int) = some i := by simp [ixN]; omega
    show atI (tl x) (i : Int) = some c
    unfold atI
    rw [e]
    exact h
  simp only [oIx]
  rw [if_pos hx, a]
  rfl
end NH

end
section
set_option Elab.async false
set_option linter.all false
set_option maxRecDepth 100000
set_option maxHeartbeats 4000000
/-! Texts of webs: the table of the ties' words; texts that are bent. -/
namespace NH
open PySem PySem.Spec PyProof.Rows L2 DL TL
def dicL (l : List II) : List (Key × Dat) := l.foldl (fun kvs x => putD kvs (.inr (wP x)) (dpr x)) []
theorem dic_snoc (l : List II) (x : II) : dicL (l ++ [x]) = putD (dicL l) (.inr (wP x)) (dpr x) := by simp [dicL]
theorem dic_len : ∀ p : Nat, p ≤ 7 → dicL (prs p) = (prs p).map fun x => (.inr (wP x), dpr x) := fun p hp => by
  match p, hp with
  | 0, _ => rfl
  | 1, _ => rfl
  | 2, _ => rfl
  | 3, _ => rfl
  | 4, _ => rfl
  | 5, _ => rfl
  | 6, _ => rfl
  | 7, _ => rfl
theorem dic_le (l : List II) : (dicL l).length ≤ l.length := by
  unfold dicL
  have go : ∀ (l : List II) (acc : List (Key × Dat)), (l.foldl (fun kvs x => putD kvs (.inr (wP x)) (dpr x)) acc).length ≤ acc.length + l.length := fun l => by
    induction l with
    | nil => intro acc; exact Nat.le_refl _
    | cons x l ih =>
      intro acc
      have h1 := ih (putD acc (.inr (wP x)) (dpr x))
      have h2 := length_putD acc (.inr (wP x)) (dpr x)
      simp only [List.foldl_cons, List.length_cons]
      omega
  simpa using go l []
/-- whether a word stands in the table -/
def inT (p : Nat) (w : Str) : Bool := match tieW w with
  | some x => fitsB p x
  | none => false
theorem dic_find (w : Str) : ∀ L : List II, valD (L.map fun x => (.inr (wP x), dpr x)) (.inr w) = (L.find? fun x => decide (wP x = w)).map dpr
  | [] => rfl
  | x :: L => by
    have ih := dic_find w L
    unfold valD at ih ⊢
    rw [List.map_cons, List.find?_cons, List.find?_cons]
    by_cases h : wP x = w
    · simp [h]
    · have h' : ¬ ((Sum.inr (wP x) : Key) = .inr w) := fun z => h (Sum.inr.inj z)
      simp only [decide_eq_false h', decide_eq_false h]
      exact ih
theorem dic_val {p : Nat} (hp : p ≤ 7) (w : Str) : valD (dicL (prs p)) (.inr w) = if inT p w = true then (tieW w).map dpr else none := by
  rw [dic_len p hp, dic_find]
  have b6 : ∀ x ∈ prs p, (0 ≤ x.1 ∧ x.1 ≤ 6) ∧ 0 ≤ x.2 ∧ x.2 ≤ 6 := fun x hx => by
    have := mem_prs.mp hx
    omega
  cases e : (prs p).find? fun x => decide (wP x = w) with
  | some x =>
    have hx := List.mem_of_find?_eq_some e
    have hw : wP x = w := of_decide_eq_true (List.find?_some (p := fun x => decide (wP x = w)) e)
    have t := tie_wP (b6 x hx).1 (b6 x hx).2
    rw [hw] at t
    have : inT p w = true := by unfold inT; rw [t]; exact (fits_prs hp).mpr hx
    rw [if_pos this, t]
  | none =>
    have hn := List.find?_eq_none.mp e
    by_cases h : inT p w = true
    · unfold inT at h
      cases t : tieW w with
      | none => rw [t] at h; cases h
      | some x =>
        rw [t] at h
        have hx := (fits_prs hp).mp h
        exact absurd (decide_eq_true (tie_some t).2.2.symm) (hn x hx)
    · rw [if_neg h]; rfl
/-- all words in the table -/
theorem ties_all {p : Nat} : ∀ {ws : List Str}, (∀ w ∈ ws, inT p w = true) → ∃ xs, tiesW ws = some xs ∧ xs.all (fitsB p) = true ∧ ws = xs.map wP
  | [], _ => ⟨[], rfl, rfl, rfl⟩
  | w :: r, h => by
    obtain ⟨xs, h1, h2, h3⟩ := ties_all (p := p) (ws := r) fun z hz => h z (List.mem_cons_of_mem _ hz)
    have hw := h w List.mem_cons_self
    unfold inT at hw
    cases t : tieW w with
    | none => rw [t] at hw; cases hw
    | some x =>
      rw [t] at hw
      refine ⟨x :: xs, by unfold tiesW; rw [t]; simp [h1], by simp [List.all_cons, h2, show fitsB p x = true from hw], ?_⟩
      rw [List.map_cons, ← h3, ← (tie_some t).2.2]
theorem ties_not {p : Nat} : ∀ {ws : List Str} {w : Str}, w ∈ ws → inT p w = false → ∀ xs, tiesW ws = some xs → xs.all (fitsB p) = false
  | [], w, h, _, _, _ => by cases h
  | v :: r, w, h, hw, xs, e => by
    unfold tiesW at e
    cases t : tieW v with
    | none => rw [t] at e; cases e
    | some x =>
      rw [t] at e
      obtain ⟨ys, e2, rfl⟩ := Option.map_eq_some_iff.mp e
      rw [List.all_cons]
      rcases List.mem_cons.mp h with z | z
      · subst z
        unfold inT at hw
        rw [t] at hw
        simp [show fitsB p x = false from hw]
      · rw [ties_not z hw ys e2, Bool.and_false]
theorem sorted_chain {xs : List II} (h : ∀ x ∈ xs, okP x = true) : xs = sortP xs ↔ chainB xs = true := by
  rw [chain_pw]
  constructor
  · intro e
    rw [e]
    exact sortP_sorted h
  · intro pw
    exact sorted_uniq pw (sortP_sorted h) fun x => mem_sortP.symm
theorem ne_nilS (L : List Str) (h : ∀ s ∈ L, PyData.strOk s = true) : oNe (.lst (L.map .str)) (.lst []) = some (.bl (!L.isEmpty)) := by
  have d : dok 60 (.lst (L.map Dat.str)) = true := dok_strs h
  have d0 : dok 60 (.lst []) = true := rfl
  simp only [oNe, d, d0, Bool.and_self, if_true]
  cases L <;> simp [deq, deqL]
def rdD : Option (Nat × List II) → Dat
  | some (p, ps) => mkW p ps
  | none => .non
/-- all that stood stands -/
def Keeps (M M' : DM) : Prop := ∀ a, M a ≠ none → M' a = M a
theorem Keeps.refl (M : DM) : Keeps M M := fun _ _ => rfl
theorem Keeps.drum {M M' : DM} (k : Keeps M M') {a : Addr} (d : Drum M a) : Drum M' a := by
  obtain ⟨g, b, e, r⟩ := d
  exact ⟨g, b, by rw [k a (by rw [e]; exact fun z => by cases z)]; exact e, r⟩
def spRead : DSp := fun ds M Q _ => ∃ x, ds = [.str x] ∧ tx 90 x ∧ ∀ M', Keeps M M' → Q (rdD (readS x)) M'
def spSpoilt : DSp := fun ds M Q _ => ∃ a x n, ds = [.ref a, .str x] ∧ tx n x ∧ n ≤ 88 ∧ Drum M a ∧ ∀ y M', tx (n + 1) y → Drum M' a → Fr a M M' → Q (.str y) M'
/-! ### pieces of texts -/
theorem sl_take {x : Str} {k : Nat} (h : k ≤ (tl x).length) (hl : (tl x).length ≤ 1000) : oSl (.str x) none (some (k : Int)) = some (.str ⟨((tl x).take k).toArray⟩) := by
  have l : x.length ≤ sizeLine := by rw [← tl_len, sizeLine_eq]; omega
  have e : HT.sIx x.length x.length (some (k : Int)) = k := by
    have : ¬ ((k : Int) < 0) := by omega
    rw [tl_len] at h
    simp [HT.sIx, this]
    omega
  simp only [oSl]
  rw [if_pos l]
  refine congrArg (fun z => some (Dat.str z)) ?_
  unfold cutS
  rw [e]
  rfl
theorem sl_drop {x : Str} {k : Nat} (hl : (tl x).length ≤ 1000) : oSl (.str x) (some (k : Int)) none = some (.str ⟨((tl x).drop k).toArray⟩) := by
  have l : x.length ≤ sizeLine := by rw [← tl_len, sizeLine_eq]; omega
  have e : HT.sIx x.length 0 (some (k : Int)) = min k x.length := by
    have : ¬ ((k : Int) < 0) := by omega
    simp [HT.sIx, this]
  simp only [oSl]
  rw [if_pos l]
  refine congrArg (fun z => some (Dat.str z)) (ext_tl ?_)
  unfold cutS
  rw [e]
  show ((tl x).drop (min k x.length)).take (x.length - min k x.length) = (tl x).drop k
  rw [← tl_len]
  by_cases hk : k ≤ (tl x).length
  · rw [Nat.min_eq_left hk, List.take_of_length_le (by rw [List.length_drop]; omega)]
  · rw [Nat.min_eq_right (by omega), List.drop_of_length_le (Nat.le_refl _), List.drop_of_length_le (by omega)]
    simp
theorem add_str {x y : Str} (h : (tl x).length + (tl y).length ≤ 2000) : oAdd (.str x) (.str y) = some (.str (x ++ y)) := by
  simp only [oAdd]
  rw [if_pos]
  rw [tl_len, tl_len] at h
  rw [sizeLine_eq]
  omega
theorem tx_app {n m : Nat} {x y : Str} (h : tx n x) (g : tx m y) : tx (n + m) (x ++ y) := by
  refine ⟨?_, fun c hc => ?_⟩
  · rw [tl_append, List.length_append]
    have := h.1
    have := g.1
    omega
  · rw [tl_append] at hc
    rcases List.mem_append.mp hc with z | z
    · exact h.2 c z
    · exact g.2 c z
theorem tx_take {n : Nat} {x : Str} (h : tx n x) (k : Nat) : tx k (⟨((tl x).take k).toArray⟩ : Str) := ⟨by show ((tl x).take k).length ≤ k; rw [List.length_take]; omega, fun c hc => h.2 c (List.mem_of_mem_take hc)⟩
theorem tx_drop {n : Nat} {x : Str} (h : tx n x) (k : Nat) : tx (n - k) (⟨((tl x).drop k).toArray⟩ : Str) := ⟨by
  show ((tl x).drop k).length ≤ n - k
  rw [List.length_drop]
  have := h.1
  omega, fun c hc => h.2 c (List.mem_of_mem_drop hc)⟩
def S8 : List Str := [" ", "0", "1", "6", "7", "-", "\n", "a"]
def S5 : List Str := ["0", "2", "5", "8", " "]
theorem S8_tx : ∀ s ∈ S8, tx 1 s := fun s hs => by
  simp only [S8, List.mem_cons, List.not_mem_nil, or_false] at hs
  rcases hs with e | e | e | e | e | e | e | e <;> (rw [e]; exact tx_of 1 _ (by decide))
theorem S5_tx : ∀ s ∈ S5, tx 1 s := fun s hs => by
  simp only [S5, List.mem_cons, List.not_mem_nil, or_false] at hs
  rcases hs with e | e | e | e | e <;> (rw [e]; exact tx_of 1 _ (by decide))
theorem sum_rev (l : List Nat) : l.reverse.sum = l.sum := by
  induction l with
  | nil => rfl
  | cons x l ih => rw [List.reverse_cons, List.sum_append, ih]; simp; omega
end NH

end
section
set_option Elab.async false
set_option linter.all false
set_option maxRecDepth 100000
set_option maxHeartbeats 4000000
/-! Facts on rows. -/
namespace NH
open PySem PySem.Spec PyProof.Rows L2 DL
theorem oSortT_ints (l : List Int) : oSortT [.lst (l.map Dat.int)] = some (.lst ((srt l).map .int)) := oSortG_ints l
theorem oSortT_prs (l : List II) : oSortT [.lst (l.map dpr)] = some (.lst ((srtP l).map dpr)) := oSortG_prs l
theorem oSortT_sds (l : List (List Int)) : oSortT [.lst (([] :: l).map sd)] = some (.lst ((srtS ([] :: l)).map sd)) := oSortG_sds l
theorem oSortT_tup (l : List Int) : oSortT [.tup (l.map Dat.int)] = some (.lst ((srt l).map .int)) := by
  simp only [oSortT, all_isI, Bool.true_or, if_true, sort_ints]
/-- a loop of guards -/
theorem forF_guard {α : Type} {g : DGt} {body : FS} {r : Dat} (enc : α → Dat) (I : DSt → Prop) (test : α → Bool) : ∀ (L : List α) (ρ : DSt), (∀ x ∈ L, ∀ ρ, I ρ → ∃ ρ1, g (enc x) ρ = some ρ1 ∧ ((test x = true → ∃ ρ2, body ρ1 = .ok (.nx ρ2) ∧ I ρ2) ∧ (test x = false → body ρ1 = .ok (.rt r)))) → I ρ →
    (L.all test = true → ∃ ρ', fForL g body (L.map enc) ρ = .ok (.nx ρ') ∧ I ρ') ∧ (L.all test = false → fForL g body (L.map enc) ρ = .ok (.rt r))
  | [], ρ, _, h => ⟨fun _ => ⟨ρ, rfl, h⟩, fun e => by cases e⟩
  | x :: L, ρ, hb, h => by
    obtain ⟨ρ1, e1, b1, b2⟩ := hb x List.mem_cons_self ρ h
    rw [List.map_cons]
    unfold fForL
    simp only [e1]
    cases e : test x with
    | false => simp [List.all_cons, e, b2 e]
    | true =>
      obtain ⟨ρ2, c1, c2⟩ := b1 e
      obtain ⟨i1, i2⟩ := forF_guard enc I test L ρ2 (fun y hy => hb y (List.mem_cons_of_mem _ hy)) c2
      simp only [c1, R.ok_bind, List.all_cons, e, Bool.true_and]
      exact ⟨i1, i2⟩
def geI (a b : Int) : Bool := decide (b ≤ a)
theorem geI_fall {ns : List Int} : chR geI ns = true ↔ Fall ns := by
  rw [chR_pw fun a b c h1 h2 => by simp only [geI, decide_eq_true_eq] at *; omega]
  unfold Fall geI
  simp only [decide_eq_true_eq]
/-- a row of at most so many items -/
def rowB (m : Nat) (v : Dat) : Bool := match v with
  | .tup xs => decide (1 ≤ xs.length) && decide (xs.length ≤ m) && xs.all (fun x => wholeB x 0 ((xs.length : Int) - 1)) && (match dints xs with
    | some ns => chR geI ns && egB ns
    | none => false)
  | _ => false
theorem row_ints {xs : List Dat} (h : xs.all (fun x => wholeB x 0 ((xs.length : Int) - 1)) = true) : ∃ ns : List Int, xs = ns.map .int ∧ ∀ i ∈ ns, 0 ≤ i ∧ i < ns.length := by
  obtain ⟨ns, rfl, hn⟩ := whole_ints h
  refine ⟨ns, rfl, fun i hi => ?_⟩
  have := hn i hi
  rw [List.length_map] at this
  omega
theorem row_rw {m : Nat} (hm : m ≤ 7) {v : Dat} (h : rowB m v = true) : ∃ row : List Int, v = .tup (row.map .int) ∧ Rw row ∧ row.length ≤ m := by
  unfold rowB at h
  split at h
  · rename_i xs
    simp only [Bool.and_eq_true, decide_eq_true_eq] at h
    obtain ⟨⟨⟨h1, h2⟩, h3⟩, h4⟩ := h
    obtain ⟨ns, rfl, hn⟩ := row_ints h3
    rw [List.length_map] at h1 h2
    simp only [DL.dints_map, Bool.and_eq_true] at h4
    exact ⟨ns, rfl, ⟨fun e => by rw [e] at h1; simp at h1, by omega, geI_fall.mp h4.1, hn, h4.2⟩, h2⟩
  · cases h
theorem rw_row {row : List Int} (h : Rw row) {m : Nat} (hm : row.length ≤ m) : rowB m (.tup (row.map .int)) = true := by
  have hp : 0 < row.length := List.length_pos_iff.mpr h.ne
  have h3 : (row.map Dat.int).all (fun x => wholeB x 0 ((row.length : Int) - 1)) = true := by
    rw [List.all_map, List.all_eq_true]
    intro i hi
    have := h.mem i hi
    simp [wholeB]; omega
  simp only [rowB, List.length_map, h3, DL.dints_map, geI_fall.mpr h.fall, h.eg, Bool.and_true, Bool.and_eq_true, decide_eq_true_eq]
  omega
/-- a list of this length and its items -/
theorem get_map (l : List Int) (i : Nat) (h : i < l.length) : (l.map Dat.int)[i]? = some (.int (l.getD i 0)) := by
  rw [List.getElem?_map, List.getElem?_eq_getElem h]
  simp [h]
def dneg (x : II) : II := (-x.2, x.1)
theorem enum_eq (l : List Int) : oEnum [.lst (l.map Dat.int)] = some ((enumL l).map dpr) := by
  simp only [oEnum]
  congr 1
  refine List.ext_getElem (by simp [enumL]) fun i h1 h2 => ?_
  have hi : i < l.length := by simpa using h1
  simp [enumL, dpr, hi]
theorem enumL_len (l : List Int) : (enumL l).length = l.length := by simp [enumL]
theorem mem_enumL {l : List Int} {x : II} : x ∈ enumL l → 0 ≤ x.1 ∧ x.1 < l.length ∧ x.2 = l.getD x.1.toNat 0 := by
  intro h
  obtain ⟨i, hi, rfl⟩ := List.mem_map.mp h
  have := List.mem_range.mp hi
  exact ⟨by simp, by simp; omega, by simp⟩
theorem ordL_len (l : List Int) : (ordL l).length = l.length := by
  simp [ordL, (psort_perm _).length_eq, enumL_len]
theorem mem_ordL {l : List Int} {i : Int} (h : i ∈ ordL l) : 0 ≤ i ∧ i < l.length := by
  obtain ⟨x, hx, rfl⟩ := List.mem_map.mp h
  rw [(psort_perm _).mem_iff] at hx
  obtain ⟨y, hy, rfl⟩ := List.mem_map.mp hx
  have := mem_enumL hy
  exact ⟨this.1, this.2.1⟩
theorem leftN_len (l : List Int) : (leftN l).length = l.length := by simp [leftN, enumL_len]
theorem cut_1k {xs : List Dat} {k : Int} (hk : 0 ≤ k) : DL.cutD xs (some 1) (some (1 + k)) = (xs.drop 1).take k.toNat := by
  obtain ⟨j, rfl⟩ : ∃ j : Nat, k = j := ⟨k.toNat, by omega⟩
  rcases xs with _ | ⟨x, xs⟩
  · simp [DL.cutD]
  · unfold DL.cutD
    rw [show (1 : Int) + (j : Int) = ((1 + j : Nat) : Int) by omega, show (some (1 : Int)) = some ((1 : Nat) : Int) from rfl, HT.sIx_nat, HT.sIx_nat, List.length_cons, show min 1 (xs.length + 1) = 1 by omega, Int.toNat_natCast]
    show xs.take _ = xs.take _
    by_cases c : j ≤ xs.length
    · rw [show min (1 + j) (xs.length + 1) - 1 = j by omega]
    · rw [List.take_of_length_le (by omega), List.take_of_length_le (by omega)]
end NH

end
section
set_option Elab.async false
set_option linter.all false
set_option maxRecDepth 100000
set_option maxHeartbeats 4000000
/-! A web of a row: the turns over data. -/
namespace NH
open PySem PySem.Spec PyProof.Rows L2 DL
theorem mem_en {l : List Int} {i : Nat} (h : i < l.length) : ((i : Int), l.getD i 0) ∈ enumL l := List.mem_map.mpr ⟨i, List.mem_range.mpr h, rfl⟩
theorem ordL_head {left : List Int} (h : 0 < left.length) : 0 ≤ (ordL left).headD 0 ∧ (ordL left).headD 0 < left.length := by
  have hl := ordL_len left
  have hm : ∀ i ∈ ordL left, 0 ≤ i ∧ i < left.length := fun i hi => mem_ordL hi
  generalize ordL left = L at hl hm
  cases L with
  | nil => simp at hl; omega
  | cons a r => exact hm a List.mem_cons_self
theorem ordL_max {left : List Int} (h : 0 < left.length) (hx : ∃ x ∈ left, 0 ≤ x) : 0 ≤ gI left ((ordL left).headD 0) := by
  obtain ⟨x, hm, h0⟩ := hx
  obtain ⟨j, hj, rfl⟩ := List.mem_iff_getElem.mp hm
  have hz : (-(left.getD j 0), (j : Int)) ∈ psort ((enumL left).map fun x => (-x.2, x.1)) := (psort_perm _).mem_iff.mpr (List.mem_map.mpr ⟨_, mem_en hj, rfl⟩)
  have pw := psort_pw ((enumL left).map fun x => (-x.2, x.1))
  have hin : ∀ y ∈ psort ((enumL left).map fun x => (-x.2, x.1)), y.1 = - gI left y.2 := fun y hy => by
    obtain ⟨z, hz, rfl⟩ := List.mem_map.mp ((psort_perm _).mem_iff.mp hy)
    obtain ⟨_, _, e⟩ := mem_enumL hz
    show -z.2 = -gI left z.1
    rw [e]; rfl
  unfold ordL
  generalize psort ((enumL left).map fun x => (-x.2, x.1)) = L at hz pw hin
  cases L with
  | nil => cases hz
  | cons y r =>
    show 0 ≤ gI left y.2
    have e1 := hin y List.mem_cons_self
    have e2 : y.1 ≤ -(left.getD j 0) := by
      rcases List.mem_cons.mp hz with e | e
      · rw [← e]; exact Int.le_refl _
      · have := (List.pairwise_cons.mp pw).1 _ e
        simp only [lePr, decide_eq_true_eq] at this
        omega
    have e3 : left.getD j 0 = left[j] := by simp [hj]
    omega
theorem leftN_pos {left : List Int} (h : 0 < left.length) : ∃ x ∈ leftN left, 0 ≤ x := by
  obtain ⟨f0, f1⟩ := ordL_head h
  refine ⟨0, ?_, Int.le_refl _⟩
  unfold leftN
  refine List.mem_map.mpr ⟨_, mem_en (i := ((ordL left).headD 0).toNat) (by omega), ?_⟩
  rw [if_pos (by show (((ordL left).headD 0).toNat : Int) = _; omega)]
theorem nearI_le {left : List Int} (h : left.length ≤ 7) : (nearI left).length ≤ 7 := by
  unfold nearI; rw [List.length_take, List.length_drop, ordL_len]; omega
theorem tiesN_len (left : List Int) (ts : List II) : (tiesN left ts).length = ts.length + (nearI left).length := by simp [tiesN]
theorem any_fold : ∀ (L : List Int) (left : List Int) (ts : List II), (L.foldl (fun (s : List Int × List II) _ => (leftN s.1, tiesN s.1 s.2)) (left, ts)).2 = anyN L.length left ts
  | [], _, _ => rfl
  | _ :: L, left, ts => by rw [List.foldl_cons, any_fold L]; rfl
theorem in_intsL (i : Int) (s : List Int) : oIn (.int i) (.lst (s.map Dat.int)) = some (.bl (inS s i)) := by
  simp only [oIn, dok_intsL, any_ints, show dok 60 (.int i) = true from rfl, Bool.and_self, if_true]
theorem seqN {f g : FS} {ρ ρ' : DSt} {x : R Fl} (h : f ρ = .ok (.nx ρ')) (k : g ρ' = x) : fSeq f g ρ = x := by rw [e_seq, h]; exact k
theorem setN {i : Nat} {e : FE} {ρ : DSt} {x : Dat} (h : e ρ = .ok x) : fSet i e ρ = .ok (.nx (ρ.set i (some x))) := by rw [e_set, h]; rfl
theorem forN {l : FA} {g : DGt} {body : FS} {ρ : DSt} {xs : List Dat} {r : R Fl} (h : l ρ = .ok xs) (k : fForL g body xs ρ = r) : fFor l g body ρ = r := by rw [e_for, h]; exact k
theorem order_ev {left : List Int} {ρ : DSt} (hl : ρ.length = 11) (h2 : gt ρ 2 = some (.lst (left.map .int))) :
    fLc (fSeqI (fCB oSortT (fCons (fLc (fIt oEnum (fCons (fVar 2) fNil)) (gTwo 9 10) fYes (fTup (fCons (fOp1 oNeg (fVar 10)) (fCons (fVar 9) fNil))) [9, 10]) fNil))) (gTwo 8 9) fYes (fVar 9) [8, 9] ρ = .ok (.lst ((ordL left).map .int)) := by
  have z2 := sz 2 (by decide)
  have v2 : fVar 2 ρ = .ok (.lst (left.map .int)) := by rw [e_varT, h2]
  have l1 : fLcL (gTwo 9 10) fYes (fTup (fCons (fOp1 oNeg (fVar 10)) (fCons (fVar 9) fNil))) (wipeD ρ [9, 10]) ((enumL left).map dpr) = .ok (((enumL left).map fun x => (-x.2, x.1)).map dpr) := by
    rw [lc_mA (h := fun x => dpr (-x.2, x.1))]
    · rw [List.map_map]; rfl
    · intro x hx
      exact ⟨_, rfl, by simp [e_varT, hl, negI, z2, dpr]⟩
  have s1 := oSortT_prs ((enumL left).map fun x => (-x.2, x.1))
  rw [srtP_psort] at s1
  have l2 : fLcL (gTwo 8 9) fYes (fVar 9) (wipeD ρ [8, 9]) ((psort ((enumL left).map fun x => (-x.2, x.1))).map dpr) = .ok ((ordL left).map .int) := by
    rw [lc_mA (h := fun x => Dat.int x.2)]
    · unfold ordL; rw [List.map_map]; rfl
    · intro x hx
      exact ⟨_, rfl, by simp [e_varT, hl]⟩
  simp only [e_lc, e_seqI, e_cb, e_cons, e_it, v2, e_nil, R.ok_bind, enum_eq, R.of_some, l1, calm_ok, s1, seq_lst, l2]
theorem near_ev {left : List Int} (h0 : 0 ≤ gI left ((ordL left).headD 0)) : DL.cutD ((ordL left).map Dat.int) (some 1) (some (1 + gI left ((ordL left).headD 0))) = (nearI left).map .int := by
  rw [cut_1k h0]
  unfold nearI
  rw [List.map_take, List.map_drop]
  rfl
theorem head_ev {left : List Int} (h : 0 < left.length) : oIx (.lst ((ordL left).map Dat.int)) (.int 0) = some (.int ((ordL left).headD 0)) := by
  have hl := ordL_len left
  rw [ixIL (ns := ordL left) (k := 0) (by decide) (by omega)]
  unfold gI
  cases ordL left with
  | nil => rfl
  | cons a r => rfl
def anyBody : FS := (fSeq (fSet 4 (fLc (fSeqI (fCB oSortT (fCons (fLc (fIt oEnum (fCons (fVar 2) fNil)) (gTwo 9 10) fYes (fTup (fCons (fOp1 oNeg (fVar 10)) (fCons (fVar 9) fNil))) [9, 10]) fNil))) (gTwo 8 9) fYes (fVar 9) [8, 9])) (fSeq (fSet 5 (fOp2 oIx (fVar 4) (fC (.int 0)))) (fSeq (fFor (fSeqI (fSl (fVar 4) (fPart (fC (.int 1))) (fPart (fOp2 oAdd (fC (.int 1)) (fOp2 oIx (fVar 2) (fVar 5)))))) (gOne 6) (fSet 3 (fOp2 oAdd (fVar 3) (fLst (fCons (fTup (fCons (fCB oMin2 (fCons (fVar 5) (fCons (fVar 6) fNil))) (fCons (fCB oMax2 (fCons (fVar 5) (fCons (fVar 6) fNil))) fNil))) fNil))))) (fSeq (fSet 7 (fSl (fVar 4) (fPart (fC (.int 1))) (fPart (fOp2 oAdd (fC (.int 1)) (fOp2 oIx (fVar 2) (fVar 5)))))) (fSet 2 (fLc (fIt oEnum (fCons (fVar 2) fNil)) (gTwo 9 10) fYes (fIf (fTest (fOp2 oEq (fVar 9) (fVar 5))) (fC (.int 0)) (fOp2 oSub (fVar 10) (fCB oInt (fCons (fOp2 oIn (fVar 9) (fVar 7)) fNil)))) [9, 10]))))))
theorem anyBody_ev {left : List Int} {ts : List II} {r0 : Dat} {ρ : DSt} (hl : ρ.length = 11) (h0 : gt ρ 0 = some r0) (h2 : gt ρ 2 = some (.lst (left.map .int))) (h3 : gt ρ 3 = some (.lst (ts.map dpr))) (hn : 0 < left.length) (hn7 : left.length ≤ 7) (ht : ts.length ≤ 100) (hx : ∃ x ∈ left, 0 ≤ x) :
    ∃ ρ', anyBody ρ = .ok (.nx ρ') ∧ ρ'.length = 11 ∧ gt ρ' 0 = some r0 ∧ gt ρ' 2 = some (.lst ((leftN left).map .int)) ∧ gt ρ' 3 = some (.lst ((tiesN left ts).map dpr)) := by
  have z1 := sz 1 (by decide)
  have z2 := sz 2 (by decide)
  have hd := head_ev hn
  have hf := ordL_head hn
  have hg := ordL_max hn hx
  have hix : oIx (.lst (left.map Dat.int)) (.int ((ordL left).headD 0)) = some (.int (gI left ((ordL left).headD 0))) := ixIL (ns := left) hf.1 hf.2
  have hnr := near_ev hg
  have hnl : (nearI left).length ≤ 7 := nearI_le hn7
  have hT : tiesN left ts = ts ++ (nearI left).map fun o => (min ((ordL left).headD 0) o, max ((ordL left).headD 0) o) := rfl
  have hL : leftN left = (enumL left).map fun x => if x.1 = (ordL left).headD 0 then 0 else x.2 - (if x.1 ∈ nearI left then 1 else 0) := rfl
  have s1 : fSet 4 (fLc (fSeqI (fCB oSortT (fCons (fLc (fIt oEnum (fCons (fVar 2) fNil)) (gTwo 9 10) fYes (fTup (fCons (fOp1 oNeg (fVar 10)) (fCons (fVar 9) fNil))) [9, 10]) fNil))) (gTwo 8 9) fYes (fVar 9) [8, 9]) ρ = .ok (.nx (ρ.set 4 (some (.lst ((ordL left).map .int))))) := setN (order_ev hl h2)
  generalize (ordL left).headD 0 = F at hd hf hg hix hnr hT hL
  have s2 : fSet 5 (fOp2 oIx (fVar 4) (fC (.int 0))) (ρ.set 4 (some (.lst ((ordL left).map .int)))) = .ok (.nx ((ρ.set 4 (some (.lst ((ordL left).map .int)))).set 5 (some (.int F)))) := setN (by simp [e_varT, hl, hd])
  obtain ⟨ρ2, e2⟩ : ∃ ρ2, ρ2 = (ρ.set 4 (some (.lst ((ordL left).map .int)))).set 5 (some (.int F)) := ⟨_, rfl⟩
  rw [← e2] at s2
  have a1 : ∀ ρ1 : DSt, gt ρ1 2 = some (.lst (left.map .int)) → gt ρ1 4 = some (.lst ((ordL left).map .int)) → gt ρ1 5 = some (.int F) → fSl (fVar 4) (fPart (fC (.int 1))) (fPart (fOp2 oAdd (fC (.int 1)) (fOp2 oIx (fVar 2) (fVar 5)))) ρ1 = .ok (.lst ((nearI left).map .int)) := fun ρ1 g2 g4 g5 => by
    simp only [e_sl, e_varT, g2, g4, g5, e_part, e_c, e_op2, R.ok_bind, hix, R.of_some, add_ii, oSl, hnr]
  have b0 : ρ2.length = 11 := by rw [e2]; simp [hl]
  have b2 : gt ρ2 2 = some (.lst (left.map .int)) := by rw [e2]; simp [hl, h2]
  have b3 : gt ρ2 3 = some (.lst (ts.map dpr)) := by rw [e2]; simp [hl, h3]
  have b4 : gt ρ2 4 = some (.lst ((ordL left).map .int)) := by rw [e2]; simp [hl]
  have b5 : gt ρ2 5 = some (.int F) := by rw [e2]; simp [hl]
  have bz : gt ρ2 0 = some r0 := by rw [e2]; simp [hl, h0]
  obtain ⟨ρ3, f1, c0, cz, c2, c3, c4, c5⟩ := forF_pre (g := gOne 6) (body := fSet 3 (fOp2 oAdd (fVar 3) (fLst (fCons (fTup (fCons (fCB oMin2 (fCons (fVar 5) (fCons (fVar 6) fNil))) (fCons (fCB oMax2 (fCons (fVar 5) (fCons (fVar 6) fNil))) fNil))) fNil)))) Dat.int (fun l ρ => ρ.length = 11 ∧ gt ρ 0 = some r0 ∧ gt ρ 2 = some (.lst (left.map .int)) ∧ gt ρ 3 = some (.lst ((ts ++ l.map fun o => (min F o, max F o)).map dpr)) ∧ gt ρ 4 = some (.lst ((ordL left).map .int)) ∧ gt ρ 5 = some (.int F)) (nearI left) ρ2 (fun l x r el ρ hI => by
    obtain ⟨i0, iz, i2, i3, i4, i5⟩ := hI
    have hle : l.length ≤ 7 := by have := congrArg List.length el; simp at this; omega
    have mn : oMin2 [.int F, .int x] = some (.int (min F x)) := by
      simp only [oMin2]
      have : (if x < F then x else F) = min F x := by split <;> omega
      rw [this]
    have mx : oMax2 [.int F, .int x] = some (.int (max F x)) := by
      simp only [oMax2]
      have : (if x > F then x else F) = max F x := by split <;> omega
      rw [this]
    have ad := oAdd_lst dpr (ts ++ l.map fun o => (min F o, max F o)) [(min F x, max F x)] (by simp; omega)
    have ev : fOp2 oAdd (fVar 3) (fLst (fCons (fTup (fCons (fCB oMin2 (fCons (fVar 5) (fCons (fVar 6) fNil))) (fCons (fCB oMax2 (fCons (fVar 5) (fCons (fVar 6) fNil))) fNil))) fNil)) (ρ.set 6 (some (.int x))) = .ok (.lst ((ts ++ (l ++ [x]).map fun o => (min F o, max F o)).map dpr)) := by
      have g3 : gt (ρ.set 6 (some (.int x))) 3 = some (.lst ((ts ++ l.map fun o => (min F o, max F o)).map dpr)) := by simp [i3]
      have g5 : gt (ρ.set 6 (some (.int x))) 5 = some (.int F) := by simp [i5]
      have g6 : gt (ρ.set 6 (some (.int x))) 6 = some (.int x) := by simp [i0]
      simp only [e_op2, e_varT, g3, g5, g6, e_lst, e_cons, e_tup, e_cb, e_nil, R.ok_bind, mn, mx, R.of_some, List.length_cons, List.length_nil, if_pos z1, if_pos z2]
      have ad' : oAdd (.lst ((ts ++ l.map fun o => (min F o, max F o)).map dpr)) (.lst [.tup [.int (min F x), .int (max F x)]]) = some (.lst ((ts ++ (l ++ [x]).map fun o => (min F o, max F o)).map dpr)) := by
        rw [List.map_append (f := fun o => (min F o, max F o)), ← List.append_assoc]
        exact ad
      rw [ad']; rfl
    refine ⟨_, _, rfl, setN ev, ?_, ?_, ?_, ?_, ?_, ?_⟩
    · simp [i0]
    · simp [iz]
    · simp [i2]
    · simp [i0]
    · simp [i4]
    · simp [i5]) ⟨b0, bz, b2, by simpa using b3, b4, b5⟩
  rw [← hT] at c3
  have s3 : fFor (fSeqI (fSl (fVar 4) (fPart (fC (.int 1))) (fPart (fOp2 oAdd (fC (.int 1)) (fOp2 oIx (fVar 2) (fVar 5)))))) (gOne 6) (fSet 3 (fOp2 oAdd (fVar 3) (fLst (fCons (fTup (fCons (fCB oMin2 (fCons (fVar 5) (fCons (fVar 6) fNil))) (fCons (fCB oMax2 (fCons (fVar 5) (fCons (fVar 6) fNil))) fNil))) fNil)))) ρ2 = .ok (.nx ρ3) := forN (xs := (nearI left).map .int) (by simp only [e_seqI, a1 ρ2 b2 b4 b5, R.ok_bind, seq_lst, R.of_some]) f1
  have s4 : fSet 7 (fSl (fVar 4) (fPart (fC (.int 1))) (fPart (fOp2 oAdd (fC (.int 1)) (fOp2 oIx (fVar 2) (fVar 5))))) ρ3 = .ok (.nx (ρ3.set 7 (some (.lst ((nearI left).map .int))))) := setN (a1 ρ3 c2 c4 c5)
  obtain ⟨ρ4, e4⟩ : ∃ ρ4, ρ4 = ρ3.set 7 (some (.lst ((nearI left).map .int))) := ⟨_, rfl⟩
  rw [← e4] at s4
  have d0 : ρ4.length = 11 := by rw [e4]; simp [c0]
  have d2 : gt ρ4 2 = some (.lst (left.map .int)) := by rw [e4]; simp [c2]
  have d5 : gt ρ4 5 = some (.int F) := by rw [e4]; simp [c5]
  have d7 : gt ρ4 7 = some (.lst ((nearI left).map .int)) := by rw [e4]; simp [c0]
  have l5 : fLcL (gTwo 9 10) fYes (fIf (fTest (fOp2 oEq (fVar 9) (fVar 5))) (fC (.int 0)) (fOp2 oSub (fVar 10) (fCB oInt (fCons (fOp2 oIn (fVar 9) (fVar 7)) fNil)))) (wipeD ρ4 [9, 10]) ((enumL left).map dpr) = .ok ((leftN left).map .int) := by
    rw [hL, lc_mA (h := fun x => Dat.int (if x.1 = F then 0 else x.2 - (if x.1 ∈ nearI left then 1 else 0)))]
    · rw [List.map_map]; rfl
    · intro x hx
      refine ⟨_, rfl, ?_⟩
      have g5 : gt (((wipeD ρ4 [9, 10]).set 9 (some (.int x.1))).set 10 (some (.int x.2))) 5 = some (.int F) := by simp [d5]
      have g7 : gt (((wipeD ρ4 [9, 10]).set 9 (some (.int x.1))).set 10 (some (.int x.2))) 7 = some (.lst ((nearI left).map .int)) := by simp [d7]
      have g9 : gt (((wipeD ρ4 [9, 10]).set 9 (some (.int x.1))).set 10 (some (.int x.2))) 9 = some (.int x.1) := by simp [d0]
      have g10 : gt (((wipeD ρ4 [9, 10]).set 9 (some (.int x.1))).set 10 (some (.int x.2))) 10 = some (.int x.2) := by simp [d0]
      simp only [e_if, e_test, e_op2, e_varT, g9, g5, R.ok_bind, eqI, R.of_some]
      by_cases c : x.1 = F
      · simp [c]
      · simp only [c, decide_false, Bool.false_eq_true, if_false, e_op2, e_varT, g10, g9, g7, e_cb, e_cons, e_nil, R.ok_bind, in_intsL, R.of_some, int_bl, sub_ii, bI, inS]
        by_cases c2 : x.1 ∈ nearI left <;> simp [c2]
  have s5 : fSet 2 (fLc (fIt oEnum (fCons (fVar 2) fNil)) (gTwo 9 10) fYes (fIf (fTest (fOp2 oEq (fVar 9) (fVar 5))) (fC (.int 0)) (fOp2 oSub (fVar 10) (fCB oInt (fCons (fOp2 oIn (fVar 9) (fVar 7)) fNil)))) [9, 10]) ρ4 = .ok (.nx (ρ4.set 2 (some (.lst ((leftN left).map .int))))) := setN (by
    have v2 : fVar 2 ρ4 = .ok (.lst (left.map .int)) := by rw [e_varT, d2]
    simp only [e_lc, e_it, e_cons, v2, e_nil, R.ok_bind, enum_eq, R.of_some, l5, calm_ok])
  refine ⟨_, seqN s1 (seqN s2 (seqN s3 (seqN s4 s5))), ?_, ?_, ?_, ?_⟩
  · simp [d0]
  · rw [e4]; simp [cz]
  · simp [d0]
  · rw [e4]; simp [c3]
/-- all turns -/
theorem anyLoop_ev {row : List Int} {r0 : Dat} {ρ : DSt} (hl : ρ.length = 11) (h0 : gt ρ 0 = some r0) (h2 : gt ρ 2 = some (.lst (row.map .int))) (h3 : gt ρ 3 = some (.lst [])) (hn : 0 < row.length) (hn7 : row.length ≤ 7) (hx : ∃ x ∈ row, 0 ≤ x) :
    ∃ ρ', fForL (gOne 1) anyBody ((places row.length).map .int) ρ = .ok (.nx ρ') ∧ gt ρ' 0 = some r0 ∧ gt ρ' 3 = some (.lst ((anyN row.length row []).map dpr)) := by
  obtain ⟨ρ', f1, f2⟩ := forF_pre (g := gOne 1) (body := anyBody) Dat.int (fun l ρ => ρ.length = 11 ∧ gt ρ 0 = some r0 ∧ gt ρ 2 = some (.lst ((l.foldl (fun (s : List Int × List II) _ => (leftN s.1, tiesN s.1 s.2)) (row, [])).1.map .int)) ∧ gt ρ 3 = some (.lst ((l.foldl (fun (s : List Int × List II) _ => (leftN s.1, tiesN s.1 s.2)) (row, [])).2.map dpr)) ∧ (l.foldl (fun (s : List Int × List II) _ => (leftN s.1, tiesN s.1 s.2)) (row, [])).1.length = row.length ∧ (∃ x ∈ (l.foldl (fun (s : List Int × List II) _ => (leftN s.1, tiesN s.1 s.2)) (row, [])).1, 0 ≤ x) ∧ (l.foldl (fun (s : List Int × List II) _ => (leftN s.1, tiesN s.1 s.2)) (row, [])).2.length ≤ 7 * l.length) (places row.length) ρ (fun l x r el ρ hI => by
    obtain ⟨i0, iz, i2, i3, i4, i5, i6⟩ := hI
    have hle : l.length ≤ 7 := by have := congrArg List.length el; simp [places_len] at this; omega
    rw [List.foldl_append, List.foldl_cons, List.foldl_nil]
    generalize l.foldl (fun (s : List Int × List II) _ => (leftN s.1, tiesN s.1 s.2)) (row, []) = s at i2 i3 i4 i5 i6
    obtain ⟨ρ', g1, g2, g3, g4, g5⟩ := anyBody_ev (left := s.1) (ts := s.2) (r0 := r0) (ρ := ρ.set 1 (some (.int x))) (by simp [i0]) (by simp [iz]) (by simp [i2]) (by simp [i3]) (by omega) (by omega) (by omega) i5
    refine ⟨_, ρ', rfl, g1, g2, g3, g4, g5, by rw [leftN_len]; exact i4, leftN_pos (by omega), ?_⟩
    have := nearI_le (left := s.1) (by omega)
    rw [tiesN_len, List.length_append]
    simp
    omega) ⟨hl, h0, by simpa using h2, by simpa using h3, rfl, hx, by simp⟩
  obtain ⟨j0, jz, j2, j3, _⟩ := f2
  refine ⟨ρ', f1, jz, ?_⟩
  rw [any_fold, places_len] at j3
  exact j3
end NH

end
section
set_option Elab.async false
set_option linter.all false
set_option maxRecDepth 100000
set_option maxHeartbeats 4000000
/-! Any values, bent ones. -/
namespace NH
open PySem PySem.Spec PyProof.Rows L2 DL
/-- values of bounded width, ints, depth -/
def gd (W B : Nat) : Nat → Dat → Bool
  | _, .non => true
  | _, .bl _ => true
  | _, .int i => decide (i.natAbs ≤ B)
  | _, .str x => PyData.strOk x
  | n + 1, .tup xs => decide (xs.length ≤ W) && xs.all (gd W B n)
  | n + 1, .lst xs => decide (xs.length ≤ W) && xs.all (gd W B n)
  | _, _ => false
theorem gd_tup {W B n : Nat} {xs : List Dat} : gd W B (n + 1) (.tup xs) = true ↔ xs.length ≤ W ∧ ∀ x ∈ xs, gd W B n x = true := by simp [gd]
theorem gd_lst {W B n : Nat} {xs : List Dat} : gd W B (n + 1) (.lst xs) = true ↔ xs.length ≤ W ∧ ∀ x ∈ xs, gd W B n x = true := by simp [gd]
theorem gd_up {W B W' B' : Nat} (hW : W ≤ W') (hB : B ≤ B') : ∀ (n m : Nat) (d : Dat), n ≤ m → gd W B n d = true → gd W' B' m d = true := by
  intro n
  induction n with
  | zero =>
    intro m d _ h
    cases d <;> first | (simp [gd] at h; done) | (cases m <;> rfl) | (cases m <;> (simp only [gd, decide_eq_true_eq] at h ⊢; omega)) | (cases m <;> simpa [gd] using h)
  | succ n ih =>
    intro m d hm h
    obtain ⟨m, rfl⟩ : ∃ k, m = k + 1 := ⟨m - 1, by omega⟩
    cases d with
    | tup xs => obtain ⟨h1, h2⟩ := gd_tup.mp h; exact gd_tup.mpr ⟨by omega, fun x hx => ih m x (by omega) (h2 x hx)⟩
    | lst xs => obtain ⟨h1, h2⟩ := gd_lst.mp h; exact gd_lst.mpr ⟨by omega, fun x hx => ih m x (by omega) (h2 x hx)⟩
    | int i => simp only [gd, decide_eq_true_eq] at h ⊢; omega
    | str x => simpa [gd] using h
    | non => rfl
    | bl b => rfl
    | ty n => simp [gd] at h
    | ref a => simp [gd] at h
theorem gd_fit {W B : Nat} (hW : W ≤ 50) : ∀ (n : Nat) (d : Dat), gd W B n d = true → fit n d = true := by
  intro n
  induction n with
  | zero => intro d h; cases d <;> first | rfl | (simp [gd] at h; done) | (simpa [fit, gd] using h)
  | succ n ih =>
    intro d h
    cases d with
    | tup xs => obtain ⟨h1, h2⟩ := gd_tup.mp h; simp only [fit, Bool.and_eq_true, decide_eq_true_eq, List.all_eq_true]; exact ⟨by omega, fun x hx => ih x (h2 x hx)⟩
    | lst xs => obtain ⟨h1, h2⟩ := gd_lst.mp h; simp only [fit, Bool.and_eq_true, decide_eq_true_eq, List.all_eq_true]; exact ⟨by omega, fun x hx => ih x (h2 x hx)⟩
    | str x => simpa [fit, gd] using h
    | int i => rfl
    | non => rfl
    | bl b => rfl
    | ty n => simp [gd] at h
    | ref a => simp [gd] at h
/-! ### any value -/
abbrev B0 : Nat := 10 ^ 30
def spOdd (d : Nat) : DSp := fun ds M Q _ => ∃ a : Addr, ds = [.ref a, .int d] ∧ Drum M a ∧ ∀ (v : Dat) (M' : DM), gd 10 B0 (3 + d) v = true → Drum M' a → Fr a M M' → Q v M'
def oddL : List Dat := [.non, .bl true, .bl false, .int 0, .int 1, .int 2, .int 6, .int 7, .int 8, .int (-1), (.int 1000000000000000000000000000000), .str "", .str "0-1", .tup [], .lst [], .tup [.int 0, .int 1], .tup [.int 1, .int 0], .tup [.int 2, .int 2, .int 1, .int 1], .tup [.int 0],
  .tup [.tup [.int 0, .int 1]], .tup [.int 2, .tup [.tup [.int 0, .int 1]]], .tup [.int 3, .tup []], .tup [.tup [.int 1, .int 2]], .tup [.tup [.int 2, .int 3], .tup [.int 1, .int 2]]]
theorem oddL_gd : ∀ x ∈ oddL, gd 10 B0 3 x = true := List.all_eq_true.mp (by decide +kernel)
def spBent (W B n : Nat) : DSp := fun ds M Q _ => ∃ (a : Addr) (v : Dat), ds = [.ref a, v] ∧ gd W B n v = true ∧ Drum M a ∧ ∀ (x : Dat) (M' : DM), gd (W + 1) (B + 1) (n + 4) x = true → Drum M' a → Fr a M M' → Q x M'
def bentNear : DTS := (dSeq (dSet 2 (dLst (dCons (dCall 2 (spOdd 1) (purA (fCons (fVar 0) (fCons (fC (.int 1)) fNil)))) (dCons (dCall 2 (spOdd 1) (purA (fCons (fVar 0) (fCons (fC (.int 1)) fNil)))) (purA fNil))))) (dSeq (purS (fIfS (fTru (fCB oIsi (fCons (fVar 1) (fCons (fC (.ty "int")) fNil)))) (fSet 2 (fOp2 oAdd (fVar 2) (fLst (fCons (fOp2 oAdd (fVar 1) (fC (.int 1))) (fCons (fOp2 oSub (fVar 1) (fC (.int 1))) (fCons (fOp2 oAdd (fVar 1) (fC (.int 1))) (fCons (fOp2 oSub (fVar 1) (fC (.int 1))) (fCons (fOp1 oNot (fVar 1)) (fCons (fCB oStr (fCons (fVar 1) fNil)) fNil))))))))) fNext)) (dRet (dCall 2 spSome (purA (fCons (fVar 0) (fCons (fVar 2) fNil)))))))
def bentRest (p : DSp) : DTS := (dSeq (dPar 3 4 (dCons (dCall 2 spRoll (purA (fCons (fVar 0) (fCons (fCB oLen (fCons (fVar 1) fNil)) fNil)))) (dCons (dCall 2 spRoll (purA (fCons (fVar 0) (fCons (fC (.int 9)) fNil)))) (purA fNil)))) (dSeq (purS (fIfS (fTest (fOp2 oEq (fVar 4) (fC (.int 0)))) (fRet (fOp2 oAdd (fSl (fVar 1) fNoPart (fPart (fVar 3))) (fSl (fVar 1) (fPart (fOp2 oAdd (fVar 3) (fC (.int 1)))) fNoPart))) fNext)) (dSeq (purS (fIfS (fTest (fOp2 oEq (fVar 4) (fC (.int 1)))) (fRet (fOp2 oAdd (fSl (fVar 1) fNoPart (fPart (fOp2 oAdd (fVar 3) (fC (.int 1))))) (fSl (fVar 1) (fPart (fVar 3)) fNoPart))) fNext)) (dSeq (purS (fIfS (fTest (fOp2 oEq (fVar 4) (fC (.int 2)))) (fRet (fOp1 oRev (fVar 1))) fNext)) (dSeq (purS (fIfS (fTest (fOp2 oEq (fVar 4) (fC (.int 3)))) (fRet (fCB oListS (fCons (fVar 1) fNil))) fNext)) (dRet (dOp2 oAdd (dOp2 oAdd (pur (fSl (fVar 1) fNoPart (fPart (fVar 3)))) (dTup (dCons (dCall 2 p (purA (fCons (fVar 0) (fCons (fOp2 oIx (fVar 1) (fVar 3)) fNil)))) (purA fNil)))) (pur (fSl (fVar 1) (fPart (fOp2 oAdd (fVar 3) (fC (.int 1)))) fNoPart)))))))))
theorem near_ok {W B n : Nat} {a : Addr} {v : Dat} {D : DEnds} {M : DM} (hW : 10 ≤ W) (hB : B0 ≤ B) (hB2 : B ≤ B0 + 10) (hv : gd W B n v = true) (hn : n ≤ 40) (hD : Drum M a) (k : ∀ (x : Dat) (M' : DM), gd (W + 1) (B + 1) (n + 4) x = true → Drum M' a → Fr a M M' → D.rt x M') :
    bentNear D [some (.ref a), some v, none, none, none] M := by
  have sz : ∀ n : Nat, n ≤ 100 → n ≤ sizeLine := fun n h => by rw [sizeLine_eq]; omega
  have z2 := sz 2 (by decide)
  have z6 := sz 6 (by decide)
  have z8 := sz 8 (by decide)
  have pv : plain v = true := by cases n <;> cases v <;> first | rfl | (simp [gd] at hv)
  have hi := oIsi_eq pv (n := "int") (.inl rfl)
  have up : ∀ x, gd 10 B0 4 x = true → gd (W + 1) (B + 1) (n + 4) x = true := fun x h => gd_up (by omega) (by omega) 4 _ x (by omega) h
  simp [bentNear, dSeq, dSet, dLst, dCons, dCall, purA]
  refine ⟨a, rfl, hD, fun x1 M1 g1 hD1 hF1 => ⟨a, rfl, hD1, fun x2 M2 g2 hD2 hF2 => ?_⟩⟩
  have hF := hF1.trans hF2
  refine ⟨z2, ?_⟩
  have done : ∀ xs : List Dat, xs ≠ [] → xs.length ≤ 100 → (∀ x ∈ xs, gd (W + 1) (B + 1) (n + 4) x = true) → spSome [.ref a, .lst xs] M2 D.rt (fun c M1 => True) := fun xs h0 h1 hx => ⟨a, xs, rfl, h0, by omega, hD2, fun x M' hm hD' hF' => k x M' (hx x hm) hD' (hF.trans hF')⟩
  have two : ∀ x ∈ [x1, x2], gd (W + 1) (B + 1) (n + 4) x = true := fun x hx => by
    simp only [List.mem_cons, List.mem_nil_iff, or_false] at hx
    rcases hx with rfl | rfl
    · exact up _ g1
    · exact up _ g2
  have base : ∀ E, spSome [.ref a, .lst [x1, x2]] M2 D.rt E := fun E => ⟨a, [x1, x2], rfl, by simp, by simp, hD2, fun x M' hm hD' hF' => k x M' (two x hm) hD' (hF.trans hF')⟩
  have more : ∀ (u1 u2 u3 u4 u5 u6 : Dat) E, (∀ x ∈ [u1, u2, u3, u4, u5, u6], gd (W + 1) (B + 1) (n + 4) x = true) → spSome [.ref a, .lst [x1, x2, u1, u2, u3, u4, u5, u6]] M2 D.rt E := fun u1 u2 u3 u4 u5 u6 E hu => ⟨a, _, rfl, by simp, by simp, hD2, fun x M' hm hD' hF' => k x M' (by
    rcases List.mem_append.mp (show x ∈ [x1, x2] ++ [u1, u2, u3, u4, u5, u6] from hm) with h | h
    · exact two x h
    · exact hu x h) hD' (hF.trans hF')⟩
  cases v with
  | int i =>
    have hb : i.natAbs ≤ B := by simpa [gd] using hv
    have hs : i.natAbs.log2 < 1920 := by
      have : i.natAbs < 2 ^ 200 := by
        have e : (B0 : Nat) = 10 ^ 30 := rfl
        have : (10 : Nat) ^ 30 + 10 < 2 ^ 200 := by decide
        omega
      by_cases z : i.natAbs = 0
      · rw [z]; decide
      · have := (Nat.log2_lt (k := 200) z).mpr this
        omega
    simp [purS, hi, isiT, z6, z8, oAdd, oStr, hs, oNot, oTru, DEnds.fl, dRet, dCall, purA, oSub]
    refine more _ _ _ _ _ _ _ fun x hx => ?_
    simp only [List.mem_cons, List.mem_nil_iff, or_false] at hx
    rcases hx with rfl | rfl | rfl | rfl | rfl | rfl <;> first | rfl | (simp only [gd, decide_eq_true_eq]; omega) | exact strOk_of _
  | bl b =>
    simp [purS, hi, isiT, z6, z8, oAdd, oStr, oNot, oTru, DEnds.fl, dRet, dCall, purA, oSub, bI]
    refine more _ _ _ _ _ _ _ fun x hx => ?_
    simp only [List.mem_cons, List.mem_nil_iff, or_false] at hx
    have hB1 : 1 ≤ B := Nat.le_trans (by decide) hB
    rcases hx with rfl | rfl | rfl | rfl | rfl | rfl <;> first | rfl | (cases b <;> simp only [gd, decide_eq_true_eq] <;> simp <;> omega) | (cases b <;> exact strOk_of _)
  | ty m => cases pv
  | ref m => cases pv
  | _ =>
    simp [purS, hi, isiT, DEnds.fl, dRet, dCall, purA]
    exact base _
theorem rest_ok {W B m : Nat} {a : Addr} {xs : List Dat} {p : DSp} {D : DEnds} {M : DM} {s2 : Option Dat} (hW : 10 ≤ W) (hW2 : W ≤ 40) (hv : gd W B (m + 1) (.tup xs) = true) (h0 : xs ≠ []) (hD : Drum M a) (hp : ∀ ds M Q E, spBent W B m ds M Q E → p ds M Q E)
    (k : ∀ (x : Dat) (M' : DM), gd (W + 1) (B + 1) (m + 1 + 4) x = true → Drum M' a → Fr a M M' → D.rt x M') : bentRest p D [some (.ref a), some (.tup xs), s2, none, none] M := by
  obtain ⟨hl, hx⟩ := gd_tup.mp hv
  have hpos : 0 < xs.length := List.length_pos_iff.mpr h0
  have sz : ∀ n : Nat, n ≤ 100 → n ≤ sizeLine := fun n h => by rw [sizeLine_eq]; omega
  have z1 := sz 1 (by decide)
  have up : ∀ x ∈ xs, gd (W + 1) (B + 1) (m + 4) x = true := fun x h => gd_up (by omega) (by omega) m _ x (by omega) (hx x h)
  have mk : ∀ ys : List Dat, ys.length ≤ W + 1 → (∀ y ∈ ys, gd (W + 1) (B + 1) (m + 4) y = true) → gd (W + 1) (B + 1) (m + 1 + 4) (.tup ys) = true := fun ys h1 h2 => by
    rw [show m + 1 + 4 = (m + 4) + 1 by omega]; exact gd_tup.mpr ⟨h1, h2⟩
  have mkL : ∀ ys : List Dat, ys.length ≤ W + 1 → (∀ y ∈ ys, gd (W + 1) (B + 1) (m + 4) y = true) → gd (W + 1) (B + 1) (m + 1 + 4) (.lst ys) = true := fun ys h1 h2 => by
    rw [show m + 1 + 4 = (m + 4) + 1 by omega]; exact gd_lst.mpr ⟨h1, h2⟩
  simp [bentRest, dSeq, dPar, dCons, dCall, purA]
  refine ⟨a, xs.length, rfl, by omega, by omega, hD, fun at_ M1 a1 a2 hD1 hF1 => ?_⟩
  refine ⟨a, 9, rfl, by decide, by decide, hD1, fun way M2 w1 w2 hD2 hF2 => ?_⟩
  have hF := hF1.trans hF2
  obtain ⟨i, rfl⟩ : ∃ i : Nat, at_ = i := ⟨at_.toNat, by omega⟩
  have hi : i < xs.length := by omega
  have ct := cut_take (xs := xs) (k := i) (by omega)
  have cd1 := cut_drop (xs := xs) (k := i + 1) (by omega)
  have cd := cut_drop (xs := xs) (k := i) (by omega)
  have ct1 := cut_take (xs := xs) (k := i + 1) (by omega)
  rw [show ((i + 1 : Nat) : Int) = (i : Int) + 1 by omega] at cd1 ct1
  have l0 : (xs.take i).length + (xs.drop (i + 1)).length ≤ sizeLine := sz _ (by rw [List.length_take, List.length_drop]; omega)
  have l1 : (xs.take (i + 1)).length + (xs.drop i).length ≤ sizeLine := sz _ (by rw [List.length_take, List.length_drop]; omega)
  by_cases q0 : way = 0
  · simp [purS, q0, eqI, oSl, ct, cd1, oAdd, DEnds.fl]
    rw [if_pos (by simpa using l0)]
    refine k _ M2 (mk _ (by rw [List.length_append, List.length_take, List.length_drop]; omega) fun y hy => ?_) hD2 hF
    rcases List.mem_append.mp hy with h | h
    · exact up y (List.mem_of_mem_take h)
    · exact up y (List.mem_of_mem_drop h)
  · by_cases q1 : way = 1
    · simp [purS, q1, eqI, dSeq, oSl, ct1, cd, oAdd, DEnds.fl]
      rw [if_pos (by simpa using l1)]
      refine k _ M2 (mk _ (by rw [List.length_append, List.length_take, List.length_drop]; omega) fun y hy => ?_) hD2 hF
      rcases List.mem_append.mp hy with h | h
      · exact up y (List.mem_of_mem_take h)
      · exact up y (List.mem_of_mem_drop h)
    · by_cases q2 : way = 2
      · simp [purS, q2, eqI, dSeq, oRev, DEnds.fl]
        exact k _ M2 (mk _ (by rw [List.length_reverse]; omega) fun y hy => up y (List.mem_reverse.mp hy)) hD2 hF
      · by_cases q3 : way = 3
        · simp [purS, q3, eqI, dSeq, oListS, DEnds.fl]
          exact k _ M2 (mkL _ (by omega) up) hD2 hF
        · have ix := ix_nat hi
          simp [purS, q0, q1, q2, q3, eqI, dSeq, DEnds.fl, dRet, dOp2, pur, oSl, ct, cd1, dTup, dCons, dCall, purA, ix]
          refine hp _ _ _ _ ⟨a, xs[i], rfl, hx _ (List.getElem_mem hi), hD2, fun y M3 hy hD3 hF3 => ?_⟩
          have l2 : (xs.take i).length + 1 ≤ sizeLine := sz _ (by rw [List.length_take]; omega)
          have l3 : (xs.take i ++ [y]).length + (xs.drop (i + 1)).length ≤ sizeLine := sz _ (by rw [List.length_append, List.length_take, List.length_drop, List.length_singleton]; omega)
          simp only [oAdd]
          rw [if_pos (by simpa using l2)]
          refine ⟨z1, ?_⟩
          simp only [R.of_some, R.wp_ok]
          rw [if_pos (by simpa using l3)]
          refine k _ M3 (mk _ (by rw [List.length_append, List.length_append, List.length_take, List.length_drop, List.length_singleton]; omega) fun z hz => ?_) hD3 (hF.trans hF3)
          rcases List.mem_append.mp hz with h | h
          · rcases List.mem_append.mp h with h | h
            · exact up z (List.mem_of_mem_take h)
            · rw [List.mem_singleton.mp h]; exact hy
          · exact up z (List.mem_of_mem_drop h)
theorem gd_plain {W B n : Nat} {v : Dat} (hv : gd W B n v = true) : plain v = true := by cases n <;> cases v <;> first | rfl | (simp [gd] at hv)
end NH

end
section
set_option Elab.async false
set_option linter.all false
set_option maxRecDepth 100000
set_option maxHeartbeats 4000000
/-! Ties exchanged; webs of a row. -/
namespace NH
open PySem PySem.Spec PyProof.Rows L2 DL
def mkP (a c : Int) : II := (min a c, max a c)
theorem srt_two (a c : Int) : srt [a, c] = [min a c, max a c] := by
  refine List.Perm.eq_of_pairwise (le := fun a b => a ≤ b) (fun a b _ _ h1 h2 => by omega) (srt_pw _) (List.pairwise_cons.mpr ⟨fun x hx => by rw [List.mem_singleton.mp hx]; omega, List.pairwise_singleton _ _⟩) ((srt_perm _).trans ?_)
  by_cases h : a ≤ c
  · rw [show min a c = a by omega, show max a c = c by omega]
  · rw [show min a c = c by omega, show max a c = a by omega]
    exact List.Perm.swap _ _ _
theorem sort_pair (a c : Int) : oSortT [.tup [.int a, .int c]] = some (.lst [.int (min a c), .int (max a c)]) := by
  have := oSortT_tup [a, c]
  rw [srt_two] at this
  exact this
theorem has_mkP (i a c : Int) : hasI i (mkP a c) = (decide (a = i) || decide (c = i)) := by
  unfold hasI mkP
  by_cases h : a ≤ c
  · simp only [show min a c = a by omega, show max a c = c by omega]
  · simp only [show min a c = c by omega, show max a c = a by omega, Bool.or_comm]
theorem cnt_two (i : Int) (u v : II) : cnt i [u, v] = (if hasI i u = true then 1 else 0) + (if hasI i v = true then 1 else 0) := by
  unfold cnt
  rw [List.filter_cons, List.filter_cons]
  cases hasI i u <;> cases hasI i v <;> rfl
theorem cnt_app (i : Int) (l m : List II) : cnt i (l ++ m) = cnt i l + cnt i m := by unfold cnt; rw [List.filter_append, List.length_append]
theorem cnt_perm {l m : List II} (h : l.Perm m) (i : Int) : cnt i l = cnt i m := (h.filter _).length_eq
theorem kinds4 {a b c d : Int} (h : DL.kindsI [a, b, c, d] = 4) : a ≠ b ∧ a ≠ c ∧ a ≠ d ∧ b ≠ c ∧ b ≠ d ∧ c ≠ d := by
  have e : DL.kindsI [a, b, c, d] = (step_dedup (step_dedup (step_dedup (step_dedup [] a) b) c) d).length := rfl
  rw [e] at h
  refine ⟨?_, ?_, ?_, ?_, ?_, ?_⟩ <;> intro q <;> subst q <;> (simp only [step_dedup] at h; revert h; simp; repeat' split) <;> simp_all
def keptX (ps : List II) (x y : II) : List II := ps.filter fun z => !inP [x, y] z
theorem kept_perm {p : Nat} (hp : p ≤ 7) {ps : List II} (hs : ps.Sublist (prs p)) {x y : II} (hx : x ∈ ps) (hy : y ∈ ps) (hxy : x ≠ y) : (keptX ps x y ++ [x, y]).Perm ps := by
  have nd := web_nodup hp hs
  refine (List.perm_ext_iff_of_nodup (List.nodup_append.mpr ⟨nd.filter _, by simp [hxy], fun a ha b hb e => ?_⟩) nd).mpr fun z => ?_
  · subst e
    simp [keptX, inP] at ha hb
    rcases hb with e | e
    · exact ha.2.1 e
    · exact ha.2.2 e
  · simp only [List.mem_append, keptX, List.mem_filter, inP]
    constructor
    · rintro (h | h)
      · exact h.1
      · simp at h; rcases h with rfl | rfl <;> assumption
    · intro h
      by_cases c : z ∈ [x, y]
      · exact .inr c
      · exact .inl ⟨h, by simpa using c⟩
/-- two ties of a web for two others with the same places -/
theorem exch {p : Nat} {ps : List II} (hw : Wb p ps) {x y u v : II} (hx : x ∈ ps) (hy : y ∈ ps) (hxy : x ≠ y) (hu : u ∈ prs p) (hv : v ∈ prs p) (huv : u ≠ v) (nu : u ∉ ps) (nv : v ∉ ps) (hc : ∀ i, cnt i [u, v] = cnt i [x, y]) :
    ∃ qs, srtP (keptX ps x y ++ [u, v]) = qs ∧ Wb p qs ∧ degs p qs = degs p ps := by
  have hp := hw.hi
  have nd := web_nodup hp hw.sub
  have sub : ((prs p).filter (inP (keptX ps x y ++ [u, v]))).Sublist (prs p) := List.filter_sublist
  have pm : (keptX ps x y ++ [u, v]).Perm ((prs p).filter (inP (keptX ps x y ++ [u, v]))) := by
    refine (List.perm_ext_iff_of_nodup (List.nodup_append.mpr ⟨nd.filter _, by simp [huv], fun a ha b hb e => ?_⟩) ((prs_nodup hp).filter _)).mpr fun z => ?_
    · subst e
      have h1 := (List.mem_filter.mp ha).1
      simp at hb
      rcases hb with rfl | rfl
      · exact nu h1
      · exact nv h1
    · simp only [List.mem_filter, inP, decide_eq_true_eq]
      refine ⟨fun h => ⟨?_, h⟩, fun h => h.2⟩
      rcases List.mem_append.mp h with h | h
      · exact hw.sub.mem (List.mem_filter.mp h).1
      · simp at h; rcases h with rfl | rfl <;> assumption
  refine ⟨_, srtP_of hp sub pm, ⟨hw.lo, hw.hi, sub⟩, ?_⟩
  unfold degs
  refine List.map_congr_left fun i _ => ?_
  rw [← cnt_perm pm i, cnt_app, hc i, ← cnt_app, cnt_perm (kept_perm hp hw.sub hx hy hxy) i]
theorem mkP_prs {p : Nat} {a c : Int} (a0 : 0 ≤ a) (a1 : a < p) (c0 : 0 ≤ c) (c1 : c < p) (h : a ≠ c) : mkP a c ∈ prs p := by
  refine mem_prs.mpr ?_
  unfold mkP
  omega
theorem cnt_mk {a b c d : Int} (h : a ≠ b ∧ a ≠ c ∧ a ≠ d ∧ b ≠ c ∧ b ≠ d ∧ c ≠ d) (i : Int) : cnt i [mkP a c, mkP b d] = cnt i [(a, b), (c, d)] := by
  rw [cnt_two, cnt_two, has_mkP, has_mkP]
  unfold hasI
  simp only [Bool.or_eq_true, decide_eq_true_eq]
  split <;> split <;> split <;> split <;> omega
theorem cnt_mk2 {a b c d : Int} (h : a ≠ b ∧ a ≠ c ∧ a ≠ d ∧ b ≠ c ∧ b ≠ d ∧ c ≠ d) (i : Int) : cnt i [mkP a d, mkP b c] = cnt i [(a, b), (c, d)] := by
  rw [cnt_two, cnt_two, has_mkP, has_mkP]
  unfold hasI
  simp only [Bool.or_eq_true, decide_eq_true_eq]
  split <;> split <;> split <;> split <;> omega
theorem mkP_ne {a b c d : Int} (h : a ≠ b ∧ a ≠ c ∧ a ≠ d ∧ b ≠ c ∧ b ≠ d ∧ c ≠ d) : mkP a c ≠ mkP b d := fun e => by
  unfold mkP at e
  have := congrArg Prod.fst e
  have := congrArg Prod.snd e
  simp only at *
  omega
theorem eq_nilP (l : List II) : oEq (.lst (l.map dpr)) (.lst []) = some (.bl l.isEmpty) := by
  have h : dok 60 (.lst (l.map dpr)) = true := dok_psL l
  unfold oEq
  rw [h]
  cases l <;> rfl
def spExch : DSp := fun ds M Q _ => ∃ (a : Addr) (p : Nat) (ps : List II), ds = [.ref a, mkW p ps] ∧ Wb p ps ∧ Drum M a ∧ ∀ (qs : List II) (M' : DM), Wb p qs → degs p qs = degs p ps → Drum M' a → Fr a M M' → Q (mkW p qs) M'
/-- pairs in order are told by their codes -/
theorem sortP_web {p : Nat} (hp : p ≤ 7) {ps : List II} (hs : ps.Sublist (prs p)) : DL.sortP ps = ps := by
  have ho : ∀ x ∈ ps, okP x = true := fun x hx => by
    have := mem_prs.mp (hs.mem hx)
    simp [okP]; omega
  exact DL.sorted_uniq (DL.sortP_sorted ho) ((prs_chain p hp).sublist hs) fun x => DL.mem_sortP
/-! ### whether a value is a row, the law's way -/
theorem chain_eq {xs : List Int} : chR geI xs = decide (xs = frow xs) := by
  cases e : chR geI xs with
  | true => rw [frow_fall (geI_fall.mp e), decide_eq_true rfl]
  | false => rw [decide_eq_false fun z => by rw [geI_fall.mpr (z ▸ fall_frow xs)] at e; cases e]
def lrowB (v : Dat) : Bool := match v with
  | .tup xs => decide (1 ≤ xs.length) && decide (xs.length ≤ 7) && (match dints xs with
    | some ns => ns.all (fun i => decide (0 ≤ i)) && chR geI ns && layB 8 ns
    | none => false)
  | _ => false
theorem lrow_row (v : Dat) : lrowB v = rowB 7 v := by
  cases v with
  | tup xs =>
    simp only [lrowB, rowB]
    cases e1 : decide (1 ≤ xs.length) with
    | false => rfl
    | true =>
      cases e2 : decide (xs.length ≤ 7) with
      | false => rfl
      | true =>
        simp only [Bool.true_and]
        cases en : dints xs with
        | none => simp
        | some ns =>
          have ex := DL.dints_some en
          subst ex
          have hl : ns.length ≤ 7 := by simpa using e2
          have h1 : 1 ≤ ns.length := by simpa using e1
          simp only [List.length_map]
          cases ef : chR geI ns with
          | false => simp
          | true =>
            have hf := geI_fall.mp ef
            simp only [Bool.and_true, Bool.true_and]
            cases ea : (ns.map Dat.int).all fun x => wholeB x 0 ((ns.length : Int) - 1) with
            | true =>
              obtain ⟨ms, em, hm⟩ := row_ints (xs := ns.map Dat.int) (by rw [List.length_map]; exact ea)
              have : ns = ms := by
                have := congrArg dints em
                rw [DL.dints_map, DL.dints_map] at this
                exact Option.some.inj this
              subst this
              have h0 : (ns.all fun i => decide (0 ≤ i)) = true := List.all_eq_true.mpr fun i hi => by have := hm i hi; simp; omega
              rw [h0, eg_lay hf hl (fun e => by rw [e] at h1; simp at h1) hm]
            | false =>
              cases e0 : ns.all fun i => decide (0 ≤ i) with
              | false => simp
              | true =>
                simp only [Bool.true_and, Bool.false_and]
                rcases ns with _ | ⟨x, l⟩
                · simp at h1
                · refine lay_great (n := 7) ?_
                  have hx : ¬ (∀ i ∈ x :: l, 0 ≤ i ∧ i ≤ ((x :: l).length : Int) - 1) := fun h => by
                    have : ((x :: l).map Dat.int).all (fun x' => wholeB x' 0 (((x :: l).length : Int) - 1)) = true := by
                      rw [List.all_map, List.all_eq_true]
                      intro i hi
                      have := h i hi
                      simp only [Function.comp, wholeB, Bool.and_eq_true, decide_eq_true_eq]
                      exact this
                    rw [this] at ea; cases ea
                  have hp := (List.pairwise_cons.mp hf).1
                  refine Classical.byContradiction fun c => hx fun i hi => ?_
                  have i0 := List.all_eq_true.mp e0 i hi
                  simp only [decide_eq_true_eq] at i0
                  refine ⟨i0, ?_⟩
                  simp only [List.length_cons]
                  rcases List.mem_cons.mp hi with e | e
                  · omega
                  · have := hp i e; omega
  | _ => rfl
def badI (x : Dat) : Bool := match x with
  | .int i => decide (i < 0)
  | _ => true
theorem ne_nilD {L : List Dat} (h : dok 60 (.lst L) = true) : oNe (.lst L) (.lst []) = some (.bl (!L.isEmpty)) := by
  unfold oNe
  rw [h]
  cases L <;> rfl
theorem bad_ints : ∀ ns : List Int, ((ns.map Dat.int).filter badI).isEmpty = ns.all fun i => decide (0 ≤ i)
  | [] => rfl
  | i :: ns => by
    have ih := bad_ints ns
    rw [List.map_cons, List.filter_cons, List.all_cons]
    by_cases c : i < 0
    · have c' : ¬ 0 ≤ i := by omega
      simp [badI, c, c']
    · have c' : 0 ≤ i := by omega
      simp only [badI, c, decide_false, Bool.false_eq_true, if_false, ih, c', decide_true, Bool.true_and]
theorem good_ints : ∀ {xs : List Dat}, (xs.filter badI).isEmpty = true → ∃ ns : List Int, xs = ns.map .int ∧ (ns.all fun i => decide (0 ≤ i)) = true
  | [], _ => ⟨[], rfl, rfl⟩
  | x :: xs, h => by
    rw [List.filter_cons] at h
    cases e : badI x with
    | true => rw [e] at h; simp at h
    | false =>
      rw [e] at h
      obtain ⟨ns, rfl, h0⟩ := good_ints (xs := xs) (by simpa using h)
      cases x with
      | int i =>
        simp only [badI, decide_eq_false_iff_not] at e
        refine ⟨i :: ns, rfl, ?_⟩
        rw [List.all_cons, h0]
        simp; omega
      | _ => simp [badI] at e
end NH

end
section
set_option Elab.async false
set_option linter.all false
set_option maxRecDepth 100000
set_option maxHeartbeats 4000000
/-! More steps. -/
namespace NH
open PySem PySem.Spec PyProof.Rows L2 DL
/-- a test whether a roll is 0 -/
theorem sIfRoll {D : DEnds} {ρ : DSt} {M : DM} {a : Addr} {n : Int} {l : FA} {d d' : DTS} (h : l ρ = .ok [.ref a, .int n]) (h1 : 0 < n) (h2 : n < 2 ^ 40) (hD : Drum M a) (k : ∀ (b : Bool) M', Drum M' a → Fr a M M' → if b = true then d D ρ M' else d' D ρ M') : dIfS (dTest (dOp2 oEq (dCall 2 spRoll (purA l)) (pur (fC (.int 0))))) d d' D ρ M := by
  unfold dIfS dTest dOp2 dCall
  refine pA h ⟨rfl, a, n, rfl, h1, h2, hD, fun j M' j0 j1 hD' hF' => ?_⟩
  refine pE (x := .int 0) rfl ?_
  rw [eqI]
  exact k (decide (j = 0)) M' hD' hF'
/-- two drawn things -/
theorem sTwoSome {D : DEnds} {ρ : DSt} {M : DM} {a : Addr} {i j : Nat} {l : FA} {xs : List Dat} (h : l ρ = .ok [.ref a, .lst xs]) (h0 : xs ≠ []) (h1 : xs.length ≤ 1000) (hD : Drum M a)
    (k : ∀ x y M', x ∈ xs → y ∈ xs → Drum M' a → Fr a M M' → D.nx ((ρ.set i (some x)).set j (some y)) M') : dSet2 i j (dTup (dCons (dCall 2 spSome (purA l)) (dCons (dCall 2 spSome (purA l)) (purA fNil)))) D ρ M := by
  have z2 := sz 2 (by decide)
  unfold dSet2 dTup dCons dCall
  refine pA h ⟨rfl, a, xs, rfl, h0, h1, hD, fun x M1 hx hD1 hF1 => ?_⟩
  refine pA h ⟨rfl, a, xs, rfl, h0, h1, hD1, fun y M2 hy hD2 hF2 => ?_⟩
  refine pA (x := []) rfl ?_
  exact ⟨z2, k x y M2 hx hy hD2 (hF1.trans hF2)⟩
@[simp] theorem ixd0 (x : II) : oIx (dpr x) (.int 0) = some (.int x.1) := ix0 _ _
@[simp] theorem ixd1 (x : II) : oIx (dpr x) (.int 1) = some (.int x.2) := ix1 _ _ _
theorem tup_mkP (a c : Int) : oTuple [.lst [.int (min a c), .int (max a c)]] = some (dpr (mkP a c)) := rfl
theorem len_set (x y : II) : oLenSet [.tup [.int x.1, .int x.2, .int y.1, .int y.2]] = some (.int (DL.kindsI [x.1, x.2, y.1, y.2])) := rfl
theorem rng2_ok {n : Nat} (h : n ≤ 10000) : oRng2 [.int 1, .int ((n : Int) + 1)] = some ((List.range n).map fun (k : Nat) => Dat.int (1 + (k : Int))) := by
  have h1 : ((n : Int) + 1 - 1).toNat = n := by omega
  have h2 := sz n h
  have h3 : (-(2 ^ 62) : Int) ≤ 1 := by decide
  have h4 : (1 : Int) < 2 ^ 62 := by decide
  have h5 : (-(2 ^ 62) : Int) ≤ (n : Int) + 1 := by omega
  have h6 : ((n : Int) + 1) < 2 ^ 62 := by omega
  have h7 : ((n : Int) + 1 - 1).toNat ≤ sizeLine := by rw [h1]; exact h2
  simp only [oRng2]
  rw [if_pos ⟨h3, h4, h5, h6, h7⟩, h1]
  rfl
theorem it_ev {o : List Dat → Option (List Dat)} {l : FA} {ρ : DSt} {xs ys : List Dat} (h : l ρ = .ok xs) (e : o xs = some ys) : fIt o l ρ = .ok ys := by
  rw [e_it, h, R.ok_bind, e, R.of_some]
/-- one turn of the check of a row -/
def iowBody : FS := fIfS (fTest (fOp2 oGt (fCB oSum (fCons (fSl (fVar 0) fNoPart (fPart (fVar 1))) fNil)) (fOp2 oAdd (fOp2 oMulT (fVar 1) (fOp2 oSub (fVar 1) (fC (.int 1)))) (fCB oSum (fCons (fLc (fSeqI (fSl (fVar 0) (fPart (fVar 1)) fNoPart)) (gOne 2) fYes (fCB oMin2 (fCons (fVar 2) (fCons (fVar 1) fNil))) [2]) fNil))))) (fRet (fC (.bl false))) fNext
theorem min2 (x m : Int) : oMin2 [.int x, .int m] = some (.int (min x m)) := by
  have : (if m < x then m else x) = min x m := by split <;> omega
  simp only [oMin2, this]
theorem iow_lc {l : List Int} {m : Int} {ρ : DSt} (h1 : ρ.length = 3) (h2 : gt ρ 1 = some (.int m)) : fLcL (gOne 2) fYes (fCB oMin2 (fCons (fVar 2) (fCons (fVar 1) fNil))) ρ (l.map .int) = .ok ((l.map fun x => min x m).map .int) := by
  rw [lc_mA (h := fun x => Dat.int (min x m))]
  · rw [List.map_map]; rfl
  · intro x hx
    refine ⟨_, rfl, ?_⟩
    have g1 : gt (ρ.set 2 (some (.int x))) 1 = some (.int m) := by rw [gt_set, if_neg (by decide)]; exact h2
    have g2 : gt (ρ.set 2 (some (.int x))) 2 = some (.int x) := by simp [h1]
    simp only [e_cb, e_cons, e_varT, g1, g2, e_nil, R.ok_bind, min2, R.of_some]
theorem iow_ev {row : List Int} {m : Nat} {ρ : DSt} (hm : m ≤ row.length) (hl : row.length ≤ 60) (h1 : ρ.length = 3) (h0 : gt ρ 0 = some (.tup (row.map .int))) (hv : gt ρ 1 = some (.int (m : Int))) : iowBody ρ = if egK row m = true then .ok (.nx ρ) else .ok (.rt (.bl false)) := by
  have e1 : oMulT (.int (m : Int)) (.int ((m : Int) - 1)) = some (.int ((m : Int) * ((m : Int) - 1))) := mul_ok (by omega)
  have e2 : DL.cutD (row.map Dat.int) (some (m : Int)) none = (row.drop m).map .int := by rw [cut_drop (by rw [List.length_map]; omega), List.map_drop]
  have e3 : DL.cutD (row.map Dat.int) none (some (m : Int)) = (row.take m).map .int := by rw [cut_take (by rw [List.length_map]; omega), List.map_take]
  have e6 := sum_intsT (row.take m)
  have e7 := sum_ints ((row.drop m).map fun x => min x (m : Int))
  have v0 : fVar 0 ρ = .ok (.tup (row.map .int)) := by rw [e_varT, h0]
  have v1 : fVar 1 ρ = .ok (.int (m : Int)) := by rw [e_varT, hv]
  have lc := iow_lc (l := row.drop m) (m := (m : Int)) (ρ := wipeD ρ [2]) (by simp [h1]) (by simp [hv])
  have s1 : fSl (fVar 0) fNoPart (fPart (fVar 1)) ρ = .ok (.tup ((row.take m).map .int)) := by
    simp only [e_sl, v0, v1, e_part, e_noPart, R.ok_bind, oSl, e3, R.of_some]
  have s2 : fSl (fVar 0) (fPart (fVar 1)) fNoPart ρ = .ok (.tup ((row.drop m).map .int)) := by
    simp only [e_sl, v0, v1, e_part, e_noPart, R.ok_bind, oSl, e2, R.of_some]
  have gg : ∀ i j : Int, oGt (.int i) (.int j) = some (.bl (decide (j < i))) := fun _ _ => rfl
  have tt : (fTest (fOp2 oGt (fCB oSum (fCons (fSl (fVar 0) fNoPart (fPart (fVar 1))) fNil)) (fOp2 oAdd (fOp2 oMulT (fVar 1) (fOp2 oSub (fVar 1) (fC (.int 1)))) (fCB oSum (fCons (fLc (fSeqI (fSl (fVar 0) (fPart (fVar 1)) fNoPart)) (gOne 2) fYes (fCB oMin2 (fCons (fVar 2) (fCons (fVar 1) fNil))) [2]) fNil))))) ρ = .ok (decide ((m : Int) * ((m : Int) - 1) + ((row.drop m).map fun x => min x (m : Int)).sum < (row.take m).sum)) := by
    simp only [e_test, e_op2, e_cb, e_cons, e_nil, s1, s2, v1, e_c, e_lc, e_seqI, seq_tup, R.ok_bind, R.of_some, e6, sub_ii, e1, lc, calm_ok, e7, add_ii, gg]
  unfold iowBody
  rw [e_ifS, tt, R.ok_bind]
  unfold egK
  by_cases c : (row.take m).sum ≤ (m : Int) * ((m : Int) - 1) + ((row.drop m).map fun x => min x (m : Int)).sum
  · rw [decide_eq_true c, decide_eq_false (by omega), if_neg (by decide), if_pos rfl]; rfl
  · rw [decide_eq_false c, decide_eq_true (by omega), if_pos rfl, if_neg (by decide)]; rfl
theorem iow_loop {row : List Int} (hl : row.length ≤ 60) : (((List.range row.length).all fun k => egK row (k + 1)) = true → ∃ ρ', fForL (gOne 1) iowBody ((List.range row.length).map fun (k : Nat) => Dat.int (1 + (k : Int))) [some (.tup (row.map .int)), none, none] = .ok (.nx ρ')) ∧
    (((List.range row.length).all fun k => egK row (k + 1)) = false → fForL (gOne 1) iowBody ((List.range row.length).map fun (k : Nat) => Dat.int (1 + (k : Int))) [some (.tup (row.map .int)), none, none] = .ok (.rt (.bl false))) := by
  obtain ⟨g1, g2⟩ := forF_guard (g := gOne 1) (body := iowBody) (r := .bl false) (fun (k : Nat) => Dat.int (1 + (k : Int))) (fun ρ => ρ.length = 3 ∧ gt ρ 0 = some (.tup (row.map .int))) (fun k => egK row (k + 1)) (List.range row.length) [some (.tup (row.map .int)), none, none] (fun k hk ρ hI => by
    obtain ⟨h1, h2⟩ := hI
    have hk := List.mem_range.mp hk
    have e0 : (1 + (k : Int)) = ((k + 1 : Nat) : Int) := by omega
    have ev := iow_ev (row := row) (m := k + 1) (ρ := ρ.set 1 (some (.int (1 + (k : Int))))) (by omega) hl (by simp [h1]) (by simp [h2]) (by rw [e0]; simp [h1])
    refine ⟨_, rfl, fun t => ⟨_, by rw [ev, if_pos t], by simp [h1], by simp [h2]⟩, fun t => by rw [ev, if_neg (by rw [t]; decide)]⟩) ⟨rfl, rfl⟩
  exact ⟨fun t => let ⟨ρ', f1, _⟩ := g1 t; ⟨ρ', f1⟩, g2⟩
end NH

end
section
set_option Elab.async false
set_option linter.all false
set_option maxRecDepth 100000
set_option maxHeartbeats 4000000
/-! All webs with a row, all rows: the loops over data. -/
namespace NH
open PySem PySem.Spec PyProof.Rows L2 DL
def tieD (t : List II) : Dat := .tup (t.map dpr)
def encS (row : List Int) (t : List II) : Dat := .tup [tieD t, .tup ((leftOf row t).map .int)]
theorem two_encS (i j : Nat) (row : List Int) (t : List II) (ρ : DSt) : gTwo i j (encS row t) ρ = some ((ρ.set i (some (tieD t))).set j (some (.tup ((leftOf row t).map .int)))) := rfl
theorem ixT {ns : List Int} {k : Int} (h0 : 0 ≤ k) (h : k < ns.length) : oIx (.tup (ns.map Dat.int)) (.int k) = some (.int (ns.getD k.toNat 0)) := ixI h0 h
theorem enumT_eq (l : List Int) : oEnumT [.tup (l.map Dat.int)] = some ((enumL l).map dpr) := enum_eq l
def wfIn : FS := (fIfS (fTest (fOp2 oGt (fCB oMin2 (fCons (fOp2 oIx (fVar 6) (fVar 2)) (fCons (fOp2 oIx (fVar 6) (fVar 3)) fNil))) (fC (.int 0)))) (fSeq (fSet 7 (fLc (fIt oEnumT (fCons (fVar 6) fNil)) (gTwo 8 9) fYes (fOp2 oSub (fVar 9) (fCB oInt (fCons (fOp2 oIn (fVar 8) (fTup (fCons (fVar 2) (fCons (fVar 3) fNil)))) fNil))) [8, 9])) (fSet 4 (fOp2 oAdd (fVar 4) (fLst (fCons (fTup (fCons (fOp2 oAdd (fVar 5) (fTup (fCons (fTup (fCons (fVar 2) (fCons (fVar 3) fNil))) fNil))) (fCons (fCB oTuple (fCons (fVar 7) fNil)) fNil))) fNil))))) fNext)
def wfOut : FS := (fSeq (fSet 4 (fLst fNil)) (fSeq (fFor (fSeqI (fVar 1)) (gTwo 5 6) wfIn) (fSet 1 (fOp2 oAdd (fVar 1) (fVar 4)))))
/-- what stands in the loops -/
structure SW (row : List Int) (x : II) (found : List (List II)) (later : List (List II)) (ρ : DSt) : Prop where
  len : ρ.length = 10
  s0 : gt ρ 0 = some (.tup (row.map .int))
  s1 : gt ρ 1 = some (.lst (found.map (encS row)))
  s2 : gt ρ 2 = some (.int x.1)
  s3 : gt ρ 3 = some (.int x.2)
  s4 : gt ρ 4 = some (.lst (later.map (encS row)))
theorem less_ev {row : List Int} {t : List II} {x : II} {ρ : DSt} (hl : ρ.length = 10) (h2 : gt ρ 2 = some (.int x.1)) (h3 : gt ρ 3 = some (.int x.2)) (h6 : gt ρ 6 = some (.tup ((leftOf row t).map .int))) :
    fLc (fIt oEnumT (fCons (fVar 6) fNil)) (gTwo 8 9) fYes (fOp2 oSub (fVar 9) (fCB oInt (fCons (fOp2 oIn (fVar 8) (fTup (fCons (fVar 2) (fCons (fVar 3) fNil)))) fNil))) [8, 9] ρ = .ok (.lst ((leftOf row (t ++ [x])).map .int)) := by
  have z2 := sz 2 (by decide)
  have v6 : fVar 6 ρ = .ok (.tup ((leftOf row t).map .int)) := by rw [e_varT, h6]
  have lc : fLcL (gTwo 8 9) fYes (fOp2 oSub (fVar 9) (fCB oInt (fCons (fOp2 oIn (fVar 8) (fTup (fCons (fVar 2) (fCons (fVar 3) fNil)))) fNil))) (wipeD ρ [8, 9]) ((enumL (leftOf row t)).map dpr) = .ok ((leftOf row (t ++ [x])).map .int) := by
    rw [lc_mA (h := fun y => Dat.int (y.2 - bI (hasI y.1 x)))]
    · congr 1
      unfold enumL
      rw [leftOf_len, List.map_map]
      unfold leftOf
      rw [List.map_map]
      refine List.map_congr_left fun i hi => ?_
      have hi := List.mem_range.mp hi
      have := leftOf_at (t := t) hi
      unfold leftOf at this
      simp only [Function.comp, cnt_snoc]
      rw [this]
      unfold bI
      split <;> congr 1 <;> omega
    · intro y hy
      refine ⟨_, rfl, ?_⟩
      have w2 : fVar 2 (((wipeD ρ [8, 9]).set 8 (some (.int y.1))).set 9 (some (.int y.2))) = .ok (.int x.1) := by simp [e_varT, h2]
      have w3 : fVar 3 (((wipeD ρ [8, 9]).set 8 (some (.int y.1))).set 9 (some (.int y.2))) = .ok (.int x.2) := by simp [e_varT, h3]
      have w8 : fVar 8 (((wipeD ρ [8, 9]).set 8 (some (.int y.1))).set 9 (some (.int y.2))) = .ok (.int y.1) := by simp [e_varT, hl]
      have w9 : fVar 9 (((wipeD ρ [8, 9]).set 8 (some (.int y.1))).set 9 (some (.int y.2))) = .ok (.int y.2) := by simp [e_varT, hl]
      have hi : oIn (.int y.1) (.tup [.int x.1, .int x.2]) = some (.bl (hasI y.1 x)) := in_dpr y.1 x
      simp only [e_op2, w9, w8, w2, w3, e_cb, e_cons, e_tup, e_nil, R.ok_bind, List.length_cons, List.length_nil, if_pos z2, hi, R.of_some, int_bl, sub_ii]
  rw [e_lc, it_ev (xs := [.tup ((leftOf row t).map .int)]) (by simp only [e_cons, v6, e_nil, R.ok_bind]) (enumT_eq _), R.ok_bind, lc]
  rfl
theorem wfIn_ev {row : List Int} {x : II} {found later : List (List II)} {t : List II} {ρ : DSt} (h : SW row x found later ρ) (h5 : gt ρ 5 = some (tieD t)) (h6 : gt ρ 6 = some (.tup ((leftOf row t).map .int))) (hx0 : 0 ≤ x.1) (hx1 : x.1 < x.2) (hx2 : x.2 < row.length) (ok : okW row t = true) (hl : later.length ≤ 2000) (ht : t.length ≤ 100) :
    ∃ ρ', wfIn ρ = .ok (.nx ρ') ∧ SW row x found (later ++ if okW row (t ++ [x]) = true then [t ++ [x]] else []) ρ' := by
  have z1 := sz 1 (by decide)
  have z2 := sz 2 (by decide)
  have on := okW_next ok hx0 hx1 hx2
  have v6 : fVar 6 ρ = .ok (.tup ((leftOf row t).map .int)) := by rw [e_varT, h6]
  have v2 : fVar 2 ρ = .ok (.int x.1) := by rw [e_varT, h.s2]
  have v3 : fVar 3 ρ = .ok (.int x.2) := by rw [e_varT, h.s3]
  have i2 := ixT (ns := leftOf row t) hx0 (by rw [leftOf_len]; omega)
  have i3 := ixT (ns := leftOf row t) (k := x.2) (by omega) (by rw [leftOf_len]; omega)
  have gg : ∀ i j : Int, oGt (.int i) (.int j) = some (.bl (decide (j < i))) := fun _ _ => rfl
  have tt : (fTest (fOp2 oGt (fCB oMin2 (fCons (fOp2 oIx (fVar 6) (fVar 2)) (fCons (fOp2 oIx (fVar 6) (fVar 3)) fNil))) (fC (.int 0)))) ρ = .ok (okW row (t ++ [x])) := by
    rw [on]
    simp only [e_test, e_op2, e_cb, e_cons, v6, v2, v3, e_nil, e_c, R.ok_bind, i2, i3, R.of_some, min2, gg]
  unfold wfIn
  rw [e_ifS, tt, R.ok_bind]
  cases e : okW row (t ++ [x]) with
  | false =>
    rw [if_neg (by decide), if_neg (by decide), List.append_nil]
    exact ⟨ρ, rfl, h⟩
  | true =>
    rw [if_pos rfl, if_pos rfl]
    have s1 := setN (i := 7) (less_ev (row := row) (t := t) (x := x) h.len h.s2 h.s3 h6)
    obtain ⟨ρ2, e2⟩ : ∃ ρ2, ρ2 = ρ.set 7 (some (.lst ((leftOf row (t ++ [x])).map .int))) := ⟨_, rfl⟩
    rw [← e2] at s1
    have g2 : fVar 2 ρ2 = .ok (.int x.1) := by rw [e2]; simp [e_varT, h.s2]
    have g3 : fVar 3 ρ2 = .ok (.int x.2) := by rw [e2]; simp [e_varT, h.s3]
    have g4 : fVar 4 ρ2 = .ok (.lst (later.map (encS row))) := by rw [e2]; simp [e_varT, h.s4]
    have g5 : fVar 5 ρ2 = .ok (tieD t) := by rw [e2]; simp [e_varT, h5]
    have g7 : fVar 7 ρ2 = .ok (.lst ((leftOf row (t ++ [x])).map .int)) := by rw [e2]; simp [e_varT, h.len]
    have a1 : oAdd (tieD t) (.tup [.tup [.int x.1, .int x.2]]) = some (tieD (t ++ [x])) := oAdd_tup dpr t [x] (by simp; omega)
    have a2 : oAdd (.lst (later.map (encS row))) (.lst [.tup [tieD (t ++ [x]), .tup ((leftOf row (t ++ [x])).map .int)]]) = some (.lst ((later ++ [t ++ [x]]).map (encS row))) := oAdd_lst (encS row) later [t ++ [x]] (by simp; omega)
    have ev : (fOp2 oAdd (fVar 4) (fLst (fCons (fTup (fCons (fOp2 oAdd (fVar 5) (fTup (fCons (fTup (fCons (fVar 2) (fCons (fVar 3) fNil))) fNil))) (fCons (fCB oTuple (fCons (fVar 7) fNil)) fNil))) fNil))) ρ2 = .ok (.lst ((later ++ [t ++ [x]]).map (encS row))) := by
      simp only [e_op2, g4, e_lst, e_cons, e_tup, g5, g2, g3, e_cb, g7, e_nil, R.ok_bind, List.length_cons, List.length_nil, if_pos z1, if_pos z2, a1, R.of_some, tup_ok, a2]
    refine ⟨_, seqN s1 (setN ev), ?_⟩
    subst e2
    exact ⟨by simp [h.len], by simp [h.s0], by simp [h.s1], by simp [h.s2], by simp [h.s3], by simp [h.len]⟩
theorem filter_snoc {α : Type} (p : α → Bool) (l : List α) (x : α) : (l ++ [x]).filter p = l.filter p ++ (if p x = true then [x] else []) := by
  rw [List.filter_append, List.filter_cons]
  cases p x <;> rfl
theorem wfOut_ev {row : List Int} {x : II} {found : List (List II)} {ρ : DSt} (hl : ρ.length = 10) (h0 : gt ρ 0 = some (.tup (row.map .int))) (h1 : gt ρ 1 = some (.lst (found.map (encS row)))) (h2 : gt ρ 2 = some (.int x.1)) (h3 : gt ρ 3 = some (.int x.2))
    (hx0 : 0 ≤ x.1) (hx1 : x.1 < x.2) (hx2 : x.2 < row.length) (ok : ∀ t ∈ found, okW row t = true ∧ t.length ≤ 100) (hf : found.length ≤ 2000) :
    ∃ ρ', wfOut ρ = .ok (.nx ρ') ∧ ρ'.length = 10 ∧ gt ρ' 0 = some (.tup (row.map .int)) ∧ gt ρ' 1 = some (.lst ((progS row found x).map (encS row))) := by
  have z0 := sz 0 (by decide)
  have s1 : fSet 4 (fLst fNil) ρ = .ok (.nx (ρ.set 4 (some (.lst [])))) := setN (by simp [z0])
  obtain ⟨ρ1, e1⟩ : ∃ ρ1, ρ1 = ρ.set 4 (some (.lst [])) := ⟨_, rfl⟩
  rw [← e1] at s1
  have hS : SW row x found [] ρ1 := by subst e1; exact ⟨by simp [hl], by simp [h0], by simp [h1], by simp [h2], by simp [h3], by simp [hl]⟩
  have v1 : fVar 1 ρ1 = .ok (.lst (found.map (encS row))) := by rw [e_varT, hS.s1]
  obtain ⟨ρ2, f1, f2⟩ := forF_pre (g := gTwo 5 6) (body := wfIn) (encS row) (fun l ρ => SW row x found ((l.filter fun t => okW row (t ++ [x])).map (· ++ [x])) ρ) found ρ1 (fun l t r el ρ hI => by
    have ht : t ∈ found := by rw [el]; simp
    have hlen : l.length ≤ found.length := by rw [el, List.length_append]; omega
    have hle : ((l.filter fun t => okW row (t ++ [x])).map (· ++ [x])).length ≤ 2000 := by
      rw [List.length_map]; exact Nat.le_trans (List.length_filter_le _ _) (by omega)
    obtain ⟨ρ', g1, g2⟩ := wfIn_ev (row := row) (x := x) (found := found) (t := t) (ρ := (ρ.set 5 (some (tieD t))).set 6 (some (.tup ((leftOf row t).map .int)))) ⟨by simp [hI.len], by simp [hI.s0], by simp [hI.s1], by simp [hI.s2], by simp [hI.s3], by simp [hI.s4]⟩ (by simp [hI.len]) (by simp [hI.len]) hx0 hx1 hx2 (ok t ht).1 hle (ok t ht).2
    refine ⟨_, ρ', two_encS 5 6 row t ρ, g1, ?_⟩
    rw [filter_snoc, List.map_append]
    cases e : okW row (t ++ [x]) with
    | true => rw [e] at g2; exact g2
    | false => rw [e] at g2; exact g2) hS
  have s2 : fFor (fSeqI (fVar 1)) (gTwo 5 6) wfIn ρ1 = .ok (.nx ρ2) := forN (xs := found.map (encS row)) (by simp only [e_seqI, v1, R.ok_bind, seq_lst, R.of_some]) f1
  have hle : ((found.filter fun t => okW row (t ++ [x])).map (· ++ [x])).length ≤ 2000 := by
    rw [List.length_map]; exact Nat.le_trans (List.length_filter_le _ _) hf
  have ad := oAdd_lst (encS row) found ((found.filter fun t => okW row (t ++ [x])).map (· ++ [x])) (by omega)
  have s3 : fSet 1 (fOp2 oAdd (fVar 1) (fVar 4)) ρ2 = .ok (.nx (ρ2.set 1 (some (.lst ((progS row found x).map (encS row)))))) := setN (by
    simp only [e_op2, e_varT, f2.s1, f2.s4, R.ok_bind, ad, R.of_some]; rfl)
  exact ⟨_, seqN s1 (seqN s2 s3), by simp [f2.len], by simp [f2.s0], by simp [f2.len]⟩
theorem wf_loop {row : List Int} (h0 : ∀ x ∈ row, 0 ≤ x) (hr : row.length ≤ 5) {ρ : DSt} (hl : ρ.length = 10) (s0 : gt ρ 0 = some (.tup (row.map .int))) (s1 : gt ρ 1 = some (.lst [encS row []])) :
    ∃ ρ', fForL (gTwo 2 3) wfOut ((prs row.length).map dpr) ρ = .ok (.nx ρ') ∧ ρ'.length = 10 ∧ gt ρ' 0 = some (.tup (row.map .int)) ∧ gt ρ' 1 = some (.lst ((progT row (prs row.length)).map (encS row))) := by
  have hp : ∀ p : Fin 6, (prs p).length ≤ 10 := by decide
  have hpl := hp ⟨row.length, by omega⟩
  simp only at hpl
  refine forF_pre (g := gTwo 2 3) (body := wfOut) dpr (fun l ρ => ρ.length = 10 ∧ gt ρ 0 = some (.tup (row.map .int)) ∧ gt ρ 1 = some (.lst ((progT row l).map (encS row)))) (prs row.length) ρ (fun l x r el ρ hI => ?_) ⟨hl, s0, s1⟩
  obtain ⟨i0, i1, i2⟩ := hI
  have hx := mem_prs.mp (show x ∈ prs row.length by rw [el]; simp)
  have hll : l.length ≤ 10 := by have := congrArg List.length el; simp at this; omega
  have len : (progT row l).length ≤ 1024 := Nat.le_trans (progT_le h0 l) (Nat.pow_le_pow_right (by decide) hll)
  obtain ⟨ρ', g1, g2, g3, g4⟩ := wfOut_ev (row := row) (x := x) (found := progT row l) (ρ := (ρ.set 2 (some (.int x.1))).set 3 (some (.int x.2))) (by simp [i0]) (by simp [i1]) (by simp [i2]) (by simp [i0]) (by simp [i0]) hx.1 hx.2.1 hx.2.2 (fun t ht => by
    rw [progT_eq h0] at ht
    obtain ⟨a, b⟩ := List.mem_filter.mp ht
    exact ⟨b, Nat.le_trans (growT_sub a).length_le (by omega)⟩) (by omega)
  refine ⟨_, ρ', rfl, g1, g2, g3, ?_⟩
  rw [g4]
  unfold progT
  rw [List.foldl_append]
  rfl
/-! ### sorted webs -/
theorem alike_prs : ∀ s t : List II, PySem.W.alikeAll (pyL (s.map dpr)) (pyL (t.map dpr)) = true
  | [], _ => by simp [pyL, PySem.W.alikeAll]
  | _ :: _, [] => by simp [pyL, PySem.W.alikeAll]
  | x :: s, y :: t => by
    simp only [List.map_cons, pyL, PySem.W.alikeAll, alike_prs s t, Bool.and_true]
    simp [dpr, py, pyL, PySem.W.alike, PySem.W.alikeAll]
theorem tups_webs (n : Nat) (L : List (List II)) : tupsOk (L.map (mkW n)) = true := by
  unfold tupsOk
  simp only [Bool.and_eq_true, List.all_eq_true]
  refine ⟨fun x hx => ?_, fun x hx => ?_, ?_⟩
  · obtain ⟨t, _, rfl⟩ := List.mem_map.mp hx
    exact dok_mk 0 n t
  · obtain ⟨t, _, rfl⟩ := List.mem_map.mp hx
    rfl
  · unfold alikeD
    simp only [List.all_eq_true]
    intro x hx y hy
    obtain ⟨s, _, rfl⟩ := List.mem_map.mp hx
    obtain ⟨t, _, rfl⟩ := List.mem_map.mp hy
    have := alike_prs s t
    simp [mkW, py, pyL, PySem.W.alike, PySem.W.alikeAll, this]
def sW (n : Nat) (L : List (List II)) : List Dat := (L.map (mkW n)).mergeSort leD
theorem oSortT_webs (n : Nat) (L : List (List II)) : oSortT [.lst (L.map (mkW n))] = some (.lst (sW n L)) := by
  simp only [oSortT, oSortG]
  rw [if_pos (tups_webs n L)]
  rfl
theorem sW_dok (n : Nat) (L : List (List II)) : dok 60 (.lst (sW n L)) = true := by
  simp only [dok, List.all_eq_true]
  intro x hx
  unfold sW at hx
  rw [(List.mergeSort_perm _ _).mem_iff] at hx
  obtain ⟨t, _, rfl⟩ := List.mem_map.mp hx
  exact dok_mk 56 n t
theorem sW_len (n : Nat) (L : List (List II)) : (sW n L).length = L.length := by unfold sW; rw [List.length_mergeSort, List.length_map]
theorem maxT_ints {l : List Int} (h : l ≠ []) : oMaxT [.tup (l.map Dat.int)] = some (.int (maxL l)) := by
  cases l with
  | nil => exact absurd rfl h
  | cons n r =>
    simp only [oMaxT, DL.dints_map, Option.bind_some]
    rfl
/-! ### sorted rows -/
theorem oSortT_rows {L : List (List Int)} (h : ∀ s ∈ L, s ≠ []) : oSortT [.lst (L.map sd)] = some (.lst ((srtS L).map sd)) := by
  have hr : (L.map sd).all isRow = true := by
    rw [List.all_eq_true]
    intro x hx
    obtain ⟨s, hs, rfl⟩ := List.mem_map.mp hx
    cases s with
    | nil => exact absurd rfl (h [] hs)
    | cons a s => simp [isRow, sd, isI]
  rw [← sort_sds]
  simp only [oSortT, oSortG, oSortE, hr, Bool.or_true, if_true]
  split <;> rfl
theorem srtS_asc {L : List (List Int)} (h : L.Pairwise (· < ·)) : srtS L = L := srtS_of h (List.Perm.refl _)
/-! ### two clauses -/
theorem lc2_m {α : Type} {g g1 : DGt} {fi1 : FA} {f : FE} {vs1 : List Nat} {ρ : DSt} (enc : α → Dat) (nx : α → List Int) (h : α → Int → Dat) : ∀ (L : List α) (n : Nat), n + (L.flatMap fun r => nx r).length ≤ 10000 → (∀ x ∈ L, ∃ ρ1, g (enc x) ρ = some ρ1 ∧ fi1 ρ1 = .ok ((nx x).map .int) ∧ ∀ o ∈ nx x, ∃ ρ2, g1 (.int o) (wipeD ρ1 vs1) = some ρ2 ∧ f ρ2 = .ok (h x o)) →
    fLc2L g fYes fi1 g1 fYes f vs1 ρ (L.map enc) n = .ok (L.flatMap fun x => (nx x).map (h x))
  | [], _, _, _ => rfl
  | x :: L, n, hn, hx => by
    obtain ⟨ρ1, h1, h2, h3⟩ := hx x List.mem_cons_self
    rw [List.flatMap_cons, List.length_append] at hn
    have ih := lc2_m (g := g) (g1 := g1) (fi1 := fi1) (f := f) (vs1 := vs1) (ρ := ρ) enc nx h L (n + ((nx x).map (h x)).length) (by rw [List.length_map]; omega) fun y hy => hx y (List.mem_cons_of_mem _ hy)
    have lc : fLcL g1 fYes f (wipeD ρ1 vs1) ((nx x).map Dat.int) = .ok ((nx x).map (h x)) := lc_mA Dat.int (h x) h3
    have hs : n + ((nx x).map Dat.int).length ≤ sizeLine := by rw [List.length_map]; exact sz _ (by omega)
    rw [List.map_cons]
    unfold fLc2L
    simp only [h1, e_yes, R.ok_bind, if_true, h2, if_pos hs, lc, ih, List.flatMap_cons]
theorem ix_lastT {s : List Int} {x : Int} (h : s.getLast? = some x) : oIx (sd s) (.int (-1)) = some (.int x) := ix_last h
theorem neT_nil (s : List Int) : oNe (sd s) (.tup []) = some (.bl (!s.isEmpty)) := by
  have h : dok 60 (sd s) = true := dok_sd s
  unfold oNe
  rw [h]
  cases s <;> rfl
theorem add_one_sd {s : List Int} {o : Int} (h : s.length ≤ 1000) : oAdd (sd s) (.tup [.int o]) = some (sd (s ++ [o])) := oAdd_tup Dat.int s [o] (by simp; omega)
end NH

end
section
set_option Elab.async false
set_option linter.all false
set_option maxRecDepth 100000
set_option maxHeartbeats 4000000
namespace Wk05
open PySem PySem.Spec PyProof.Rows L2 DL
open He (veBase)
def top (i : Nat) : Stmt := PySem.Challenge.pw_nearhalves_k05_webs_and_rows_listed.main.body.getD i (.Pass ⟨0, 0, 0, 0⟩)
abbrev s_is_whole : Stmt := top 16
abbrev n_is_whole : List Str := ["value", "low", "high"]
theorem sc_is_whole : FnScope n_is_whole ["value", "low", "high"] (L2.defScope s_is_whole) := ⟨rfl, rfl, rfl, by decide +kernel, rfl, by decide +kernel, by decide +kernel⟩
abbrev s_all_pairs : Stmt := top 17
abbrev n_all_pairs : List Str := ["places", "one", "other"]
theorem sc_all_pairs : FnScope n_all_pairs ["places"] (L2.defScope s_all_pairs) := ⟨rfl, rfl, rfl, by decide +kernel, rfl, by decide +kernel, by decide +kernel⟩
abbrev s_need_number : Stmt := top 18
abbrev n_need_number : List Str := ["value", "low", "high"]
theorem sc_need_number : FnScope n_need_number ["value", "low", "high"] (L2.defScope s_need_number) := ⟨rfl, rfl, rfl, by decide +kernel, rfl, by decide +kernel, by decide +kernel⟩
abbrev s_by_degrees : Stmt := top 20
abbrev n_by_degrees : List Str := ["row", "many"]
theorem sc_by_degrees : FnScope n_by_degrees ["row", "many"] (L2.defScope s_by_degrees) := ⟨rfl, rfl, rfl, by decide +kernel, rfl, by decide +kernel, by decide +kernel⟩
abbrev s_least_by : Stmt := top 21
abbrev n_least_by : List Str := ["row", "many"]
theorem sc_least_by : FnScope n_least_by ["row"] (L2.defScope s_least_by) := ⟨rfl, rfl, rfl, by decide +kernel, rfl, by decide +kernel, by decide +kernel⟩
abbrev s_is_of_web : Stmt := top 23
abbrev n_is_of_web : List Str := ["row", "many", "one"]
theorem sc_is_of_web : FnScope n_is_of_web ["row"] (L2.defScope s_is_of_web) := ⟨rfl, rfl, rfl, by decide +kernel, rfl, by decide +kernel, by decide +kernel⟩
abbrev s_fits_row : Stmt := top 24
abbrev n_fits_row : List Str := ["value", "most", "one", "at"]
theorem sc_fits_row : FnScope n_fits_row ["value", "most"] (L2.defScope s_fits_row) := ⟨rfl, rfl, rfl, by decide +kernel, rfl, by decide +kernel, by decide +kernel⟩
abbrev s_webs_for : Stmt := top 25
abbrev n_webs_for : List Str := ["row", "found", "one", "other", "later", "ties", "left", "less", "place", "many"]
theorem sc_webs_for : FnScope n_webs_for ["row"] (L2.defScope s_webs_for) := ⟨rfl, rfl, rfl, by decide +kernel, rfl, by decide +kernel, by decide +kernel⟩
abbrev s_falling_rows : Stmt := top 26
abbrev n_falling_rows : List Str := ["places", "found", "turn", "row", "one"]
theorem sc_falling_rows : FnScope n_falling_rows ["places"] (L2.defScope s_falling_rows) := ⟨rfl, rfl, rfl, by decide +kernel, rfl, by decide +kernel, by decide +kernel⟩
abbrev s_need_row : Stmt := top 27
abbrev n_need_row : List Str := ["value", "most"]
theorem sc_need_row : FnScope n_need_row ["value", "most"] (L2.defScope s_need_row) := ⟨rfl, rfl, rfl, by decide +kernel, rfl, by decide +kernel, by decide +kernel⟩
abbrev s_webs_with : Stmt := top 28
abbrev n_webs_with : List Str := ["row"]
theorem sc_webs_with : FnScope n_webs_with ["row"] (L2.defScope s_webs_with) := ⟨rfl, rfl, rfl, by decide +kernel, rfl, by decide +kernel, by decide +kernel⟩
abbrev s_rows_with : Stmt := top 29
abbrev n_rows_with : List Str := ["places", "many", "row"]
theorem sc_rows_with : FnScope n_rows_with ["places", "many"] (L2.defScope s_rows_with) := ⟨rfl, rfl, rfl, by decide +kernel, rfl, by decide +kernel, by decide +kernel⟩
abbrev s__law_drum : Stmt := top 31
abbrev n__law_drum : List Str := ["_law_cell", "_law_turn", "_law_great"]
theorem sc__law_drum : FnScope n__law_drum ["_law_cell", "_law_turn"] (L2.defScope s__law_drum) := ⟨rfl, rfl, rfl, by decide +kernel, rfl, by decide +kernel, by decide +kernel⟩
abbrev s__law_roll : Stmt := top 32
abbrev n__law_roll : List Str := ["_law_drum_here", "_law_many", "_law_deep", "_law_found"]
theorem sc__law_roll : FnScope n__law_roll ["_law_drum_here", "_law_many"] (L2.defScope s__law_roll) := ⟨rfl, rfl, rfl, by decide +kernel, rfl, by decide +kernel, by decide +kernel⟩
abbrev s__law_some : Stmt := top 33
abbrev n__law_some : List Str := ["_law_drum_here", "_law_things"]
theorem sc__law_some : FnScope n__law_some ["_law_drum_here", "_law_things"] (L2.defScope s__law_some) := ⟨rfl, rfl, rfl, by decide +kernel, rfl, by decide +kernel, by decide +kernel⟩
abbrev s__law_pairs : Stmt := top 34
abbrev n__law_pairs : List Str := ["_law_places", "_law_found", "_law_one", "_law_other"]
theorem sc__law_pairs : FnScope n__law_pairs ["_law_places"] (L2.defScope s__law_pairs) := ⟨rfl, rfl, rfl, by decide +kernel, rfl, by decide +kernel, by decide +kernel⟩
abbrev s__law_web : Stmt := top 35
abbrev n__law_web : List Str := ["_law_drum_here", "_law_top", "_law_some_here", "_law_places", "_law_thick", "_law_one", "_law_tie_so"]
theorem sc__law_web : FnScope n__law_web ["_law_drum_here", "_law_top"] (L2.defScope s__law_web) := ⟨rfl, rfl, rfl, by decide +kernel, rfl, by decide +kernel, by decide +kernel⟩
abbrev s__law_degrees : Stmt := top 36
abbrev n__law_degrees : List Str := ["_law_web_so", "_law_place", "_law_tie_so"]
theorem sc__law_degrees : FnScope n__law_degrees ["_law_web_so"] (L2.defScope s__law_degrees) := ⟨rfl, rfl, rfl, by decide +kernel, rfl, by decide +kernel, by decide +kernel⟩
abbrev s__law_row : Stmt := top 37
abbrev n__law_row : List Str := ["_law_web_so"]
theorem sc__law_row : FnScope n__law_row ["_law_web_so"] (L2.defScope s__law_row) := ⟨rfl, rfl, rfl, by decide +kernel, rfl, by decide +kernel, by decide +kernel⟩
abbrev s__law_falling : Stmt := top 38
abbrev n__law_falling : List Str := ["_law_many", "_law_top", "_law_found", "_law_turn", "_law_longer", "_law_row_here", "_law_one"]
theorem sc__law_falling : FnScope n__law_falling ["_law_many", "_law_top"] (L2.defScope s__law_falling) := ⟨rfl, rfl, rfl, by decide +kernel, rfl, by decide +kernel, by decide +kernel⟩
abbrev s__law_laid_off : Stmt := top 39
abbrev n__law_laid_off : List Str := ["_law_row_here", "_law_left", "_law_first", "_law_rest", "_law_one"]
theorem sc__law_laid_off : FnScope n__law_laid_off ["_law_row_here"] (L2.defScope s__law_laid_off) := ⟨rfl, rfl, rfl, by decide +kernel, rfl, by decide +kernel, by decide +kernel⟩
abbrev s__law_is_row : Stmt := top 40
abbrev n__law_is_row : List Str := ["_law_value", "_law_one"]
theorem sc__law_is_row : FnScope n__law_is_row ["_law_value"] (L2.defScope s__law_is_row) := ⟨rfl, rfl, rfl, by decide +kernel, rfl, by decide +kernel, by decide +kernel⟩
abbrev s__law_far_by : Stmt := top 41
abbrev n__law_far_by : List Str := ["_law_row_here", "_law_many"]
theorem sc__law_far_by : FnScope n__law_far_by ["_law_row_here", "_law_many"] (L2.defScope s__law_far_by) := ⟨rfl, rfl, rfl, by decide +kernel, rfl, by decide +kernel, by decide +kernel⟩
abbrev s__law_names : Stmt := top 42
abbrev n__law_names : List Str := ["_law_e", "_law_some_here", "_law_labels", "_law_label", "_law_good"]
theorem sc__law_names : FnScope n__law_names ["_law_e"] (L2.defScope s__law_names) := ⟨rfl, rfl, rfl, by decide +kernel, rfl, by decide +kernel, by decide +kernel⟩
abbrev s__law_error : Stmt := top 43
abbrev n__law_error : List Str := ["_law_call", "_law_e"]
theorem sc__law_error : FnScope n__law_error ["_law_call"] (L2.defScope s__law_error) := ⟨rfl, rfl, rfl, by decide +kernel, rfl, by decide +kernel, by decide +kernel⟩
abbrev s__law_all_ties : Stmt := top 44
abbrev n__law_all_ties : List Str := ["_law_places", "_law_found", "_law_tie_so", "_law_ties_so"]
theorem sc__law_all_ties : FnScope n__law_all_ties ["_law_places"] (L2.defScope s__law_all_ties) := ⟨rfl, rfl, rfl, by decide +kernel, rfl, by decide +kernel, by decide +kernel⟩
abbrev s_law : Stmt := top 45
abbrev n_law : List Str := ["_law_script", "_law_table", "_law_rows", "_law_places", "_law_cell", "_law_some_here", "_law_drum_here", "_law_turn", "_law_odd", "_law_found", "_law_row_here", "_law_due", "_law_many", "_law_ties_so", "_law_one", "_law_size"]
theorem sc_law : FnScope n_law ["_law_script"] (L2.defScope s_law) := ⟨rfl, rfl, rfl, by decide +kernel, rfl, by decide +kernel, by decide +kernel⟩
structure Fx (K : PySem.W.Frag) (mg : Str → Option Value) (cs : Str → Addr) : Prop where
  d_is_whole : ∃ f fd, FnP K "is_whole" s_is_whole f fd ∧ mg "is_whole" = some (.ref f)
  d_all_pairs : ∃ f fd, FnP K "all_pairs" s_all_pairs f fd ∧ mg "all_pairs" = some (.ref f)
  d_need_number : ∃ f fd, FnP K "need_number" s_need_number f fd ∧ mg "need_number" = some (.ref f)
  d_by_degrees : ∃ f fd, FnP K "by_degrees" s_by_degrees f fd ∧ mg "by_degrees" = some (.ref f)
  d_least_by : ∃ f fd, FnP K "least_by" s_least_by f fd ∧ mg "least_by" = some (.ref f)
  d_is_of_web : ∃ f fd, FnP K "is_of_web" s_is_of_web f fd ∧ mg "is_of_web" = some (.ref f)
  d_fits_row : ∃ f fd, FnP K "fits_row" s_fits_row f fd ∧ mg "fits_row" = some (.ref f)
  d_webs_for : ∃ f fd, FnP K "webs_for" s_webs_for f fd ∧ mg "webs_for" = some (.ref f)
  d_falling_rows : ∃ f fd, FnP K "falling_rows" s_falling_rows f fd ∧ mg "falling_rows" = some (.ref f)
  d_need_row : ∃ f fd, FnP K "need_row" s_need_row f fd ∧ mg "need_row" = some (.ref f)
  d_webs_with : ∃ f fd, FnP K "webs_with" s_webs_with f fd ∧ mg "webs_with" = some (.ref f)
  d_rows_with : ∃ f fd, FnP K "rows_with" s_rows_with f fd ∧ mg "rows_with" = some (.ref f)
  d__law_drum : ∃ f fd, FnP K "_law_drum" s__law_drum f fd ∧ mg "_law_drum" = some (.ref f)
  d__law_roll : ∃ f fd, FnP K "_law_roll" s__law_roll f fd ∧ mg "_law_roll" = some (.ref f)
  d__law_some : ∃ f fd, FnP K "_law_some" s__law_some f fd ∧ mg "_law_some" = some (.ref f)
  d__law_pairs : ∃ f fd, FnP K "_law_pairs" s__law_pairs f fd ∧ mg "_law_pairs" = some (.ref f)
  d__law_web : ∃ f fd, FnP K "_law_web" s__law_web f fd ∧ mg "_law_web" = some (.ref f)
  d__law_degrees : ∃ f fd, FnP K "_law_degrees" s__law_degrees f fd ∧ mg "_law_degrees" = some (.ref f)
  d__law_row : ∃ f fd, FnP K "_law_row" s__law_row f fd ∧ mg "_law_row" = some (.ref f)
  d__law_falling : ∃ f fd, FnP K "_law_falling" s__law_falling f fd ∧ mg "_law_falling" = some (.ref f)
  d__law_laid_off : ∃ f fd, FnP K "_law_laid_off" s__law_laid_off f fd ∧ mg "_law_laid_off" = some (.ref f)
  d__law_is_row : ∃ f fd, FnP K "_law_is_row" s__law_is_row f fd ∧ mg "_law_is_row" = some (.ref f)
  d__law_far_by : ∃ f fd, FnP K "_law_far_by" s__law_far_by f fd ∧ mg "_law_far_by" = some (.ref f)
  d__law_names : ∃ f fd, FnP K "_law_names" s__law_names f fd ∧ mg "_law_names" = some (.ref f)
  d__law_error : ∃ f fd, FnP K "_law_error" s__law_error f fd ∧ mg "_law_error" = some (.ref f)
  d__law_all_ties : ∃ f fd, FnP K "_law_all_ties" s__law_all_ties f fd ∧ mg "_law_all_ties" = some (.ref f)
  d_law : ∃ f fd, FnP K "law" s_law f fd ∧ mg "law" = some (.ref f)
  m_ValueError : mg "ValueError" = none
  m_all : mg "all" = none
  m_bool : mg "bool" = none
  m_dict : mg "dict" = none
  m_enumerate : mg "enumerate" = none
  m_int : mg "int" = none
  m_isinstance : mg "isinstance" = none
  m_len : mg "len" = none
  m_list : mg "list" = none
  m_max : mg "max" = none
  m_min : mg "min" = none
  m_range : mg "range" = none
  m_sorted : mg "sorted" = none
  m_sum : mg "sum" = none
  m_tuple : mg "tuple" = none
  m_zip : mg "zip" = none
  g_HalfError : mg "HalfError" = some (.ref (cs "HalfError"))
  g_InvalidIndex : mg "InvalidIndex" = some (.ref (cs "InvalidIndex"))
  g_InvalidKinds : mg "InvalidKinds" = some (.ref (cs "InvalidKinds"))
  g_InvalidNumber : mg "InvalidNumber" = some (.ref (cs "InvalidNumber"))
  g_InvalidPlace : mg "InvalidPlace" = some (.ref (cs "InvalidPlace"))
  g_InvalidPrices : mg "InvalidPrices" = some (.ref (cs "InvalidPrices"))
  g_InvalidRow : mg "InvalidRow" = some (.ref (cs "InvalidRow"))
  g_InvalidSide : mg "InvalidSide" = some (.ref (cs "InvalidSide"))
  g_InvalidText : mg "InvalidText" = some (.ref (cs "InvalidText"))
  g_InvalidTie : mg "InvalidTie" = some (.ref (cs "InvalidTie"))
  g_InvalidWeb : mg "InvalidWeb" = some (.ref (cs "InvalidWeb"))
  g_NothingToUndo : mg "NothingToUndo" = some (.ref (cs "NothingToUndo"))
  g_TooMany : mg "TooMany" = some (.ref (cs "TooMany"))
  g_Unlike : mg "Unlike" = some (.ref (cs "Unlike"))
  x_InvalidNumber : ExcX K mg veBase "ValueError.__new__" "InvalidNumber" (cs "InvalidNumber")
  x_InvalidRow : ExcX K mg veBase "ValueError.__new__" "InvalidRow" (cs "InvalidRow")
def F_is_whole (cs : Str → Addr) : List Dat → R Dat := fDef n_is_whole
  (fRet (fAndV (fCB oIsi (fCons (fVar 0) (fCons (fC (.ty "int")) fNil))) (fAndV (fOp1 oNot (fCB oIsi (fCons (fVar 0) (fCons (fC (.ty "bool")) fNil)))) (fCh oLe oLe (fVar 1) (fVar 0) (fVar 2)))))
def F_all_pairs (cs : Str → Addr) : List Dat → R Dat := fDef n_all_pairs
  (fRet (fLc2 (fIt oRng1 (fCons (fVar 0) fNil)) (gOne 1) fYes (fIt oRng2 (fCons (fOp2 oAdd (fVar 1) (fC (.int 1))) (fCons (fVar 0) fNil))) (gOne 2) fYes (fTup (fCons (fVar 1) (fCons (fVar 2) fNil))) [1, 2] [2]))
def F_need_number (cs : Str → Addr) : List Dat → R Dat := fDef n_need_number
  (fIfS (fNot (fTru (fCall 3 (F_is_whole cs) (fCons (fVar 0) (fCons (fVar 1) (fCons (fVar 2) fNil)))))) (fRaise (cs "InvalidNumber")) fNext)
def F_by_degrees (cs : Str → Addr) : List Dat → R Dat := fDef n_by_degrees
  (fRet (fOp2 oFdiv (fOp2 oSub (fOp2 oAdd (fOp2 oMulT (fVar 1) (fOp2 oSub (fVar 1) (fC (.int 1)))) (fCB oSum (fCons (fSl (fVar 0) (fPart (fVar 1)) fNoPart) fNil))) (fCB oSum (fCons (fSl (fVar 0) fNoPart (fPart (fVar 1))) fNil))) (fC (.int 2))))
def F_least_by (cs : Str → Addr) : List Dat → R Dat := fDef n_least_by
  (fRet (fCB oMinG (fCons (fLc (fIt oRng1 (fCons (fOp2 oAdd (fCB oLen (fCons (fVar 0) fNil)) (fC (.int 1))) fNil)) (gOne 1) fYes (fCall 2 (F_by_degrees cs) (fCons (fVar 0) (fCons (fVar 1) fNil))) [1]) fNil)))
def F_is_of_web (cs : Str → Addr) : List Dat → R Dat := fDef n_is_of_web
  (fSeq (fIfS (fTest (fOp2 oEq (fOp2 oMod (fCB oSum (fCons (fVar 0) fNil)) (fC (.int 2))) (fC (.int 1)))) (fRet (fC (.bl false))) fNext) (fSeq (fFor (fIt oRng2 (fCons (fC (.int 1)) (fCons (fOp2 oAdd (fCB oLen (fCons (fVar 0) fNil)) (fC (.int 1))) fNil))) (gOne 1) (fIfS (fTest (fOp2 oGt (fCB oSum (fCons (fSl (fVar 0) fNoPart (fPart (fVar 1))) fNil)) (fOp2 oAdd (fOp2 oMulT (fVar 1) (fOp2 oSub (fVar 1) (fC (.int 1)))) (fCB oSum (fCons (fLc (fSeqI (fSl (fVar 0) (fPart (fVar 1)) fNoPart)) (gOne 2) fYes (fCB oMin2 (fCons (fVar 2) (fCons (fVar 1) fNil))) [2]) fNil))))) (fRet (fC (.bl false))) fNext)) (fRet (fC (.bl true)))))
def F_fits_row (cs : Str → Addr) : List Dat → R Dat := fDef n_fits_row
  (fSeq (fIfS (fOr (fNot (fTru (fCB oIsi (fCons (fVar 0) (fCons (fC (.ty "tuple")) fNil))))) (fNot (fTest (fCh oLe oLe (fC (.int 1)) (fCB oLen (fCons (fVar 0) fNil)) (fVar 1))))) (fRet (fC (.bl false))) fNext) (fSeq (fIfS (fNot (fTru (fCB oAll (fCons (fLc (fSeqI (fVar 0)) (gOne 2) fYes (fCall 3 (F_is_whole cs) (fCons (fVar 2) (fCons (fC (.int 0)) (fCons (fOp2 oSub (fCB oLen (fCons (fVar 0) fNil)) (fC (.int 1))) fNil)))) [2]) fNil)))) (fRet (fC (.bl false))) fNext) (fRet (fAndV (fCB oAll (fCons (fLc (fIt oRng1 (fCons (fOp2 oSub (fCB oLen (fCons (fVar 0) fNil)) (fC (.int 1))) fNil)) (gOne 3) fYes (fOp2 oGe (fOp2 oIx (fVar 0) (fVar 3)) (fOp2 oIx (fVar 0) (fOp2 oAdd (fVar 3) (fC (.int 1))))) [3]) fNil)) (fCall 1 (F_is_of_web cs) (fCons (fVar 0) fNil))))))
def F_webs_for (cs : Str → Addr) : List Dat → R Dat := fDef n_webs_for
  (fSeq (fSet 1 (fLst (fCons (fTup (fCons (fTup fNil) (fCons (fCB oTuple (fCons (fVar 0) fNil)) fNil))) fNil))) (fSeq (fFor (fSeqI (fCall 1 (F_all_pairs cs) (fCons (fCB oLen (fCons (fVar 0) fNil)) fNil))) (gTwo 2 3) (fSeq (fSet 4 (fLst fNil)) (fSeq (fFor (fSeqI (fVar 1)) (gTwo 5 6) (fIfS (fTest (fOp2 oGt (fCB oMin2 (fCons (fOp2 oIx (fVar 6) (fVar 2)) (fCons (fOp2 oIx (fVar 6) (fVar 3)) fNil))) (fC (.int 0)))) (fSeq (fSet 7 (fLc (fIt oEnumT (fCons (fVar 6) fNil)) (gTwo 8 9) fYes (fOp2 oSub (fVar 9) (fCB oInt (fCons (fOp2 oIn (fVar 8) (fTup (fCons (fVar 2) (fCons (fVar 3) fNil)))) fNil))) [8, 9])) (fSet 4 (fOp2 oAdd (fVar 4) (fLst (fCons (fTup (fCons (fOp2 oAdd (fVar 5) (fTup (fCons (fTup (fCons (fVar 2) (fCons (fVar 3) fNil))) fNil))) (fCons (fCB oTuple (fCons (fVar 7) fNil)) fNil))) fNil))))) fNext)) (fSet 1 (fOp2 oAdd (fVar 1) (fVar 4)))))) (fRet (fCB oSortT (fCons (fLc (fSeqI (fVar 1)) (gTwo 5 6) (fTest (fOp2 oEq (fCB oMaxT (fCons (fVar 6) fNil)) (fC (.int 0)))) (fTup (fCons (fCB oLen (fCons (fVar 0) fNil)) (fCons (fVar 5) fNil))) [5, 6]) fNil)))))
def F_falling_rows (cs : Str → Addr) : List Dat → R Dat := fDef n_falling_rows
  (fSeq (fSet 1 (fLst (fCons (fTup fNil) fNil))) (fSeq (fFor (fIt oRng1 (fCons (fVar 0) fNil)) (gOne 2) (fSet 1 (fLc2 (fSeqI (fVar 1)) (gOne 3) fYes (fIt oRng1 (fCons (fIf (fTest (fOp2 oNe (fVar 3) (fTup fNil))) (fOp2 oAdd (fOp2 oIx (fVar 3) (fOp1 oNeg (fC (.int 1)))) (fC (.int 1))) (fVar 0)) fNil)) (gOne 4) fYes (fOp2 oAdd (fVar 3) (fTup (fCons (fVar 4) fNil))) [3, 4] [4]))) (fRet (fLc (fSeqI (fVar 1)) (gOne 3) (fTru (fCall 1 (F_is_of_web cs) (fCons (fVar 3) fNil))) (fVar 3) [3]))))
def F_need_row (cs : Str → Addr) : List Dat → R Dat := fDef n_need_row
  (fIfS (fNot (fTru (fCall 2 (F_fits_row cs) (fCons (fVar 0) (fCons (fVar 1) fNil))))) (fRaise (cs "InvalidRow")) fNext)
def F_webs_with (cs : Str → Addr) : List Dat → R Dat := fDef n_webs_with
  (fSeq (fExpr (fCall 2 (F_need_row cs) (fCons (fVar 0) (fCons (fC (.int 5)) fNil)))) (fRet (fCall 1 (F_webs_for cs) (fCons (fVar 0) fNil))))
def F_rows_with (cs : Str → Addr) : List Dat → R Dat := fDef n_rows_with
  (fSeq (fExpr (fCall 3 (F_need_number cs) (fCons (fVar 0) (fCons (fC (.int 1)) (fCons (fC (.int 6)) fNil))))) (fSeq (fExpr (fCall 3 (F_need_number cs) (fCons (fVar 1) (fCons (fC (.int 0)) (fCons (fC (.int 20)) fNil))))) (fRet (fLc (fSeqI (fCall 1 (F_falling_rows cs) (fCons (fVar 0) fNil))) (gOne 2) (fTest (fOp2 oEq (fCall 1 (F_least_by cs) (fCons (fVar 2) fNil)) (fVar 1))) (fVar 2) [2]))))
def D__law_drum (cs : Str → Addr) : DSp := dDef n__law_drum
  (dSeq (purS (fSet 2 (fIf (fTest (fOp2 oGe (fVar 0) (fOp2 oPow (fC (.int 10)) (fC (.int 18))))) (fOp2 oAdd (fOp2 oFdiv (fVar 0) (fC (.int 7))) (fOp2 oMulT (fC (.int 61)) (fVar 1))) (fC (.int 0))))) (dRet (dLstM (purA (fCons (fVar 2) (fCons (fOp2 oAdd (fOp2 oMod (fCB oInt (fCons (fOp2 oAdd (fOp2 oMulT (fVar 0) (fC (.int 97))) (fOp2 oMulT (fC (.int 1087)) (fVar 1))) fNil)) (fC (.int 2077504273))) (fC (.int 71))) fNil))))))
def D__law_roll (cs : Str → Addr) : DSp := dDef n__law_roll
  (dSeq (dIfS (dTest (dOp2 oGt (dIxM (pur (fVar 0)) (pur (fC (.int 0)))) (pur (fC (.int 0))))) (dSeq (dSet 3 (dOp2 oMod (dCB oInt (dCons (dIxM (pur (fVar 0)) (pur (fC (.int 0)))) (purA fNil))) (pur (fVar 1)))) (dSeq (dStore (pur (fVar 0)) (pur (fC (.int 0))) (dOp2 oFdiv (dIxM (pur (fVar 0)) (pur (fC (.int 0)))) (pur (fVar 1)))) (purS (fRet (fVar 3))))) (purS fNext)) (dSeq (dStore (pur (fVar 0)) (pur (fC (.int 1))) (dOp2 oMod (dCB oInt (dCons (dOp2 oAdd (dOp2 oMulT (dIxM (pur (fVar 0)) (pur (fC (.int 1)))) (pur (fC (.int 30671)))) (pur (fC (.int 8807)))) (purA fNil))) (pur (fC (.int 2147483549))))) (dSeq (dSet 2 (dOp2 oMod (dCB oInt (dCons (dOp2 oMulT (dIxM (pur (fVar 0)) (pur (fC (.int 1)))) (dOp2 oAdd (dIxM (pur (fVar 0)) (pur (fC (.int 1)))) (pur (fC (.int 101))))) (purA fNil))) (pur (fC (.int 2147483587))))) (purS (fRet (fOp2 oMod (fCB oInt (fCons (fOp2 oFdiv (fVar 2) (fC (.int 613))) fNil)) (fVar 1)))))))
def D__law_some (cs : Str → Addr) (p__law_roll : DSp) : DSp := dDef n__law_some
  (dRet (dOp2 oIx (pur (fVar 1)) (dCall 2 p__law_roll (purA (fCons (fVar 0) (fCons (fCB oLen (fCons (fVar 1) fNil)) fNil))))))
def F__law_pairs (cs : Str → Addr) : List Dat → R Dat := fDef n__law_pairs
  (fSeq (fSet 1 (fLst fNil)) (fSeq (fFor (fIt oRng1 (fCons (fVar 0) fNil)) (gOne 2) (fSet 1 (fOp2 oAdd (fVar 1) (fLc (fIt oRng2 (fCons (fOp2 oAdd (fVar 2) (fC (.int 1))) (fCons (fVar 0) fNil))) (gOne 3) fYes (fTup (fCons (fVar 2) (fCons (fVar 3) fNil))) [3])))) (fRet (fVar 1))))
def D__law_web (cs : Str → Addr) (p__law_roll : DSp) (p__law_some : DSp) : DSp := dDef n__law_web
  (dSeq (dIfS (dTest (dOp2 oEq (dCall 2 p__law_roll (purA (fCons (fVar 0) (fCons (fC (.int 7)) fNil)))) (pur (fC (.int 0))))) (dSeq (dSet 2 (dLstM (purA (fCons (fTup (fCons (fC (.int 4)) (fCons (fTup (fCons (fTup (fCons (fC (.int 0)) (fCons (fC (.int 1)) fNil))) (fCons (fTup (fCons (fC (.int 1)) (fCons (fC (.int 2)) fNil))) (fCons (fTup (fCons (fC (.int 2)) (fCons (fC (.int 3)) fNil))) fNil)))) fNil))) (fCons (fTup (fCons (fC (.int 4)) (fCons (fTup (fCons (fTup (fCons (fC (.int 0)) (fCons (fC (.int 1)) fNil))) (fCons (fTup (fCons (fC (.int 2)) (fCons (fC (.int 3)) fNil))) fNil))) fNil))) (fCons (fTup (fCons (fC (.int 4)) (fCons (fTup (fCons (fTup (fCons (fC (.int 0)) (fCons (fC (.int 1)) fNil))) (fCons (fTup (fCons (fC (.int 0)) (fCons (fC (.int 2)) fNil))) (fCons (fTup (fCons (fC (.int 1)) (fCons (fC (.int 2)) fNil))) (fCons (fTup (fCons (fC (.int 1)) (fCons (fC (.int 3)) fNil))) fNil))))) fNil))) (fCons (fTup (fCons (fC (.int 1)) (fCons (fTup fNil) fNil))) fNil))))))) (dSeq (dExpr (dApp (pur (fVar 2)) (pur (fTup (fCons (fC (.int 5)) (fCons (fTup (fCons (fTup (fCons (fC (.int 0)) (fCons (fC (.int 1)) fNil))) (fCons (fTup (fCons (fC (.int 0)) (fCons (fC (.int 4)) fNil))) (fCons (fTup (fCons (fC (.int 1)) (fCons (fC (.int 2)) fNil))) (fCons (fTup (fCons (fC (.int 2)) (fCons (fC (.int 3)) fNil))) (fCons (fTup (fCons (fC (.int 3)) (fCons (fC (.int 4)) fNil))) fNil)))))) fNil)))))) (dFrz 2 (dRet (dCall 2 p__law_some (purA (fCons (fVar 0) (fCons (fLc (fSeqI (fVar 2)) (gOne 5) (fTest (fOp2 oLe (fOp2 oIx (fVar 5) (fC (.int 0))) (fVar 1))) (fVar 5) [5]) fNil)))))))) (purS fNext)) (dSeq (dSet2 3 4 (dTup (dCons (dOp2 oAdd (pur (fC (.int 1))) (dCall 2 p__law_roll (purA (fCons (fVar 0) (fCons (fVar 1) fNil))))) (dCons (dOp2 oAdd (pur (fC (.int 1))) (dCall 2 p__law_roll (purA (fCons (fVar 0) (fCons (fC (.int 5)) fNil))))) (purA fNil))))) (dRet (dTup (dCons (pur (fVar 3)) (dCons (dCB oTuple (dCons (dLc (purA (fSeqI (fCall 1 (F__law_pairs cs) (fCons (fVar 3) fNil)))) (gOne 6) (dTest (dOp2 oLt (dCall 2 p__law_roll (purA (fCons (fVar 0) (fCons (fC (.int 6)) fNil)))) (pur (fVar 4)))) (pur (fVar 6)) [6]) (purA fNil))) (purA fNil)))))))
def F__law_degrees (cs : Str → Addr) : List Dat → R Dat := fDef n__law_degrees
  (fRet (fLc (fIt oRng1 (fCons (fOp2 oIx (fVar 0) (fC (.int 0))) fNil)) (gOne 1) fYes (fCB oLen (fCons (fLc (fSeqI (fOp2 oIx (fVar 0) (fC (.int 1)))) (gOne 2) (fTest (fOp2 oIn (fVar 1) (fVar 2))) (fC (.int 1)) [2]) fNil)) [1]))
def F__law_row (cs : Str → Addr) : List Dat → R Dat := fDef n__law_row
  (fRet (fCB oTuple (fCons (fOp1 oRev (fCB oSortT (fCons (fCall 1 (F__law_degrees cs) (fCons (fVar 0) fNil)) fNil))) fNil)))
def F__law_falling (cs : Str → Addr) : List Dat → R Dat := fDef n__law_falling
  (fSeq (fSet 2 (fLst (fCons (fTup fNil) fNil))) (fSeq (fFor (fIt oRng1 (fCons (fVar 0) fNil)) (gOne 3) (fSeq (fSet 4 (fLst fNil)) (fSeq (fFor (fSeqI (fVar 2)) (gOne 5) (fSet 4 (fOp2 oAdd (fVar 4) (fLc (fIt oRng1 (fCons (fOp2 oAdd (fCB oMinG (fCons (fOp2 oAdd (fLst (fCons (fVar 1) fNil)) (fCB oListS (fCons (fVar 5) fNil))) fNil)) (fC (.int 1))) fNil)) (gOne 6) fYes (fOp2 oAdd (fVar 5) (fTup (fCons (fVar 6) fNil))) [6])))) (fSet 2 (fVar 4))))) (fRet (fCB oSortT (fCons (fVar 2) fNil)))))
def F__law_laid_off (cs : Str → Addr) : List Dat → R Dat := fDef n__law_laid_off
  (fSeq (fSet 1 (fCB oListS (fCons (fVar 0) fNil))) (fSeq (fWhile (fAnd (fTest (fOp2 oNe (fVar 1) (fLst fNil))) (fTest (fOp2 oGt (fOp2 oIx (fVar 1) (fC (.int 0))) (fC (.int 0))))) (fSeq (fPar 2 3 (fCons (fOp2 oIx (fVar 1) (fC (.int 0))) (fCons (fSl (fVar 1) (fPart (fC (.int 1))) fNoPart) fNil))) (fSeq (fIfS (fOr (fTest (fOp2 oGt (fVar 2) (fCB oLen (fCons (fVar 3) fNil)))) (fTest (fOp2 oEq (fOp2 oIx (fVar 3) (fOp2 oSub (fVar 2) (fC (.int 1)))) (fC (.int 0))))) (fRet (fC (.bl false))) fNext) (fSet 1 (fOp1 oRev (fCB oSortT (fCons (fOp2 oAdd (fLc (fSeqI (fSl (fVar 3) fNoPart (fPart (fVar 2)))) (gOne 4) fYes (fOp2 oSub (fVar 4) (fC (.int 1))) [4]) (fSl (fVar 3) (fPart (fVar 2)) fNoPart)) fNil)))))) 64) (fRet (fC (.bl true)))))
def F__law_is_row (cs : Str → Addr) : List Dat → R Dat := fDef n__law_is_row
  (fSeq (fIfS (fOr (fNot (fTru (fCB oIsi (fCons (fVar 0) (fCons (fC (.ty "tuple")) fNil))))) (fNot (fTest (fCh oLe oLe (fC (.int 1)) (fCB oLen (fCons (fVar 0) fNil)) (fC (.int 7)))))) (fRet (fC (.bl false))) fNext) (fSeq (fIfS (fTest (fOp2 oNe (fLc (fSeqI (fVar 0)) (gOne 1) (fOr (fNot (fTru (fCB oIsi (fCons (fVar 1) (fCons (fC (.ty "int")) fNil))))) (fOr (fTru (fCB oIsi (fCons (fVar 1) (fCons (fC (.ty "bool")) fNil)))) (fTest (fOp2 oLt (fVar 1) (fC (.int 0)))))) (fVar 1) [1]) (fLst fNil))) (fRet (fC (.bl false))) fNext) (fRet (fAndV (fOp2 oEq (fCB oListS (fCons (fVar 0) fNil)) (fOp1 oRev (fCB oSortT (fCons (fVar 0) fNil)))) (fCall 1 (F__law_laid_off cs) (fCons (fVar 0) fNil))))))
def F__law_far_by (cs : Str → Addr) : List Dat → R Dat := fDef n__law_far_by
  (fRet (fOp2 oFdiv (fOp2 oAdd (fOp2 oSub (fOp2 oMulT (fVar 1) (fOp2 oSub (fVar 1) (fC (.int 1)))) (fCB oSum (fCons (fSl (fVar 0) fNoPart (fPart (fVar 1))) fNil))) (fCB oSum (fCons (fSl (fVar 0) (fPart (fVar 1)) fNoPart) fNil))) (fC (.int 2))))
def f__law_names (cs : Str → Addr) (isE : List Dat → Option Dat) : FS :=
  (fSeq (fSet 1 (fLst (fCons (fCB isE (fCons (fVar 0) (fCons (fC (.ref (cs "InvalidWeb"))) fNil))) (fCons (fCB isE (fCons (fVar 0) (fCons (fC (.ref (cs "InvalidSide"))) fNil))) (fCons (fCB isE (fCons (fVar 0) (fCons (fC (.ref (cs "InvalidTie"))) fNil))) fNil))))) (fSeq (fSet 1 (fOp2 oAdd (fVar 1) (fLst (fCons (fCB isE (fCons (fVar 0) (fCons (fC (.ref (cs "InvalidRow"))) fNil))) (fCons (fCB isE (fCons (fVar 0) (fCons (fC (.ref (cs "InvalidKinds"))) fNil))) (fCons (fCB isE (fCons (fVar 0) (fCons (fC (.ref (cs "InvalidNumber"))) fNil))) fNil)))))) (fSeq (fSet 1 (fOp2 oAdd (fVar 1) (fLst (fCons (fCB isE (fCons (fVar 0) (fCons (fC (.ref (cs "InvalidPrices"))) fNil))) (fCons (fCB isE (fCons (fVar 0) (fCons (fC (.ref (cs "InvalidIndex"))) fNil))) (fCons (fCB isE (fCons (fVar 0) (fCons (fC (.ref (cs "InvalidPlace"))) fNil))) fNil)))))) (fSeq (fSet 1 (fOp2 oAdd (fVar 1) (fLst (fCons (fCB isE (fCons (fVar 0) (fCons (fC (.ref (cs "InvalidText"))) fNil))) (fCons (fCB isE (fCons (fVar 0) (fCons (fC (.ref (cs "Unlike"))) fNil))) (fCons (fCB isE (fCons (fVar 0) (fCons (fC (.ref (cs "NothingToUndo"))) fNil))) fNil)))))) (fSeq (fSet 1 (fOp2 oAdd (fVar 1) (fLst (fCons (fCB isE (fCons (fVar 0) (fCons (fC (.ref (cs "TooMany"))) fNil))) (fCons (fCB isE (fCons (fVar 0) (fCons (fC (.ty "ValueError")) fNil))) fNil))))) (fSeq (fSet 2 (fC (.str "web side tie row kinds number prices index place text unlike undo many value"))) (fRet (fM1 oJoin (fC (.str " ")) (fLc (fIt oZipZ (fCons (fM1 oSplit (fVar 2) (fC (.str " "))) (fCons (fVar 1) fNil))) (gTwo 3 4) (fTru (fVar 4)) (fVar 3) [3, 4])))))))))
def F__law_names (cs : Str → Addr) : (List Dat → Option Dat) → List Dat → R Dat := fun o => fDef n__law_names (f__law_names cs o)
def F__law_all_ties (cs : Str → Addr) : List Dat → R Dat := fDef n__law_all_ties
  (fSeq (fSet 1 (fLst (fCons (fTup fNil) fNil))) (fSeq (fFor (fSeqI (fCall 1 (F__law_pairs cs) (fCons (fVar 0) fNil))) (gOne 2) (fSet 1 (fOp2 oAdd (fVar 1) (fLc (fSeqI (fVar 1)) (gOne 3) fYes (fOp2 oAdd (fVar 3) (fTup (fCons (fVar 2) fNil))) [3])))) (fRet (fVar 1))))
def b_law_1 (cs : Str → Addr) : DTS :=
  (dSet 1 (dDict (purA (fCons (fLc (fIt oRng2 (fCons (fC (.int 1)) (fCons (fC (.int 6)) fNil))) (gOne 3) fYes (fTup (fCons (fVar 3) (fCons (fCall 1 (F__law_all_ties cs) (fCons (fVar 3) fNil)) fNil))) [3]) fNil))))
def b_law_2 (cs : Str → Addr) : DTS :=
  (dDicS (pur (fVar 2)) (pur (fVar 3)) (pur (fLc (fSeqI (fCall 2 (F__law_falling cs) (fCons (fVar 3) (fCons (fOp2 oSub (fVar 3) (fC (.int 1))) fNil)))) (gOne 10) (fTru (fCall 1 (F__law_is_row cs) (fCons (fVar 10) fNil))) (fVar 10) [10])))
def b_law_3 (cs : Str → Addr) : DTS :=
  (dFor (purA (fIt oRng2 (fCons (fC (.int 1)) (fCons (fC (.int 7)) fNil)))) (gOne 3) (b_law_2 cs))
def b_law_4 (p__law_drum : DSp) : DTS :=
  (dSet 6 (dCall 2 p__law_drum (purA (fCons (fVar 4) (fCons (fC (.int 9)) fNil)))))
def b_law_5 (cs : Str → Addr) (p__law_web : DSp) : DTS :=
  (dSet 10 (dCall 1 (purSp (F__law_row cs)) (dCons (dCall 2 p__law_web (purA (fCons (fVar 6) (fCons (fC (.int 5)) fNil)))) (purA fNil))))
def b_law_6 : DTS :=
  (dSet 5 (dLc (dSeqI (dDicG (pur (fVar 1)) (pur (fCB oLen (fCons (fVar 10) fNil))))) (gOne 13) (purT (fTest (fOp2 oEq (fCB oSum (fCons (fVar 10) fNil)) (fOp2 oMulT (fC (.int 2)) (fCB oLen (fCons (fVar 13) fNil)))))) (pur (fTup (fCons (fCB oLen (fCons (fVar 10) fNil)) (fCons (fVar 13) fNil)))) [13]))
def b_law_7 (cs : Str → Addr) : FS :=
  (fIfS (fTest (fOp2 oNe (fCall 1 (F_webs_with cs) (fCons (fVar 10) fNil)) (fCB oSortT (fCons (fLc (fSeqI (fVar 5)) (gOne 14) (fTest (fOp2 oEq (fCB oTuple (fCons (fCall 1 (F__law_degrees cs) (fCons (fVar 14) fNil)) fNil)) (fVar 10))) (fVar 14) [14]) fNil)))) (fRet (fC (.bl false))) fNext)
def b_law_8 (p__law_roll : DSp) : DTS :=
  (dPar 3 12 (dCons (dOp2 oAdd (pur (fC (.int 1))) (dCall 2 p__law_roll (purA (fCons (fVar 6) (fCons (fC (.int 6)) fNil))))) (dCons (dCall 2 p__law_roll (purA (fCons (fVar 6) (fCons (fC (.int 5)) fNil)))) (purA fNil))))
def b_law_9 (cs : Str → Addr) : DTS :=
  (dIfS (purT (fTest (fOp2 oEq (fCB oMinG (fCons (fLc (fIt oRng1 (fCons (fOp2 oAdd (fVar 3) (fC (.int 1))) fNil)) (gOne 15) fYes (fCall 2 (F__law_far_by cs) (fCons (fVar 10) (fCons (fVar 15) fNil))) [15]) fNil)) (fVar 12)))) (dExpr (dApp (pur (fVar 11)) (pur (fVar 10)))) (purS fNext))
def b_law_10 (cs : Str → Addr) : DTS :=
  (dFor (dSeqI (dDicG (pur (fVar 2)) (pur (fVar 3)))) (gOne 10) (b_law_9 cs))
def b_law_11 (cs : Str → Addr) : FS :=
  (fIfS (fTest (fOp2 oNe (fCall 2 (F_rows_with cs) (fCons (fVar 3) (fCons (fVar 12) fNil))) (fVar 11))) (fRet (fC (.bl false))) fNext)
def b_law_12B (cs : Str → Addr) (p__law_web : DSp) (p__law_roll : DSp) : DTS :=
  (dSeq (b_law_5 cs p__law_web) (dSeq (b_law_6) (dSeq (purS (b_law_7 cs)) (dSeq (b_law_8 p__law_roll) (dSeq (dSet 11 (dLstM (purA fNil))) (dSeq (b_law_10 cs) (dFrz 11 (purS (b_law_11 cs)))))))))
def b_law_13 (cs : Str → Addr) (p__law_web : DSp) (p__law_roll : DSp) : DTS :=
  (dFor (purA (fIt oRng1 (fCons (fC (.int 3)) fNil))) (gOne 7) (b_law_12B cs p__law_web p__law_roll))
def b_law_14 (cs : Str → Addr) (nm : Value → Option Str) : FS :=
  (fIfS (fTest (fOp2 oNe (fErr "" nm (fCall 1 (F_webs_with cs) (fCons (fVar 8) fNil))) (fC (.str "row value")))) (fRet (fC (.bl false))) fNext)
def b_law_15 (cs : Str → Addr) (nm : Value → Option Str) : FS :=
  (fFor (fSeqI (fTup (fCons (fC .non) (fCons (fTup fNil) (fCons (fTup (fCons (fC (.int 1)) fNil)) (fCons (fOp2 oMulT (fTup (fCons (fC (.int 0)) fNil)) (fC (.int 6))) (fCons (fLst (fCons (fC (.int 0)) fNil)) (fCons (fTup (fCons (fC (.int 2)) (fCons (fC (.int 2)) (fCons (fC (.int 2)) (fCons (fC (.int 2)) (fCons (fC (.int 2)) (fCons (fC (.int 0)) fNil))))))) fNil)))))))) (gOne 8) (b_law_14 cs nm))
def b_law_16 (cs : Str → Addr) (nm : Value → Option Str) : FS :=
  (fSet 9 (fLc (fSeqI (fTup (fCons (fC .non) (fCons (fC (.int 0)) (fCons (fC (.int 7)) (fCons (fC (.bl true)) fNil)))))) (gOne 8) fYes (fErr "" nm (fCall 2 (F_rows_with cs) (fCons (fVar 8) (fCons (fC .non) fNil)))) [8]))
def b_law_17 (cs : Str → Addr) (nm : Value → Option Str) : FS :=
  (fSet 9 (fOp2 oAdd (fVar 9) (fLc (fSeqI (fTup (fCons (fC .non) (fCons (fOp1 oNeg (fC (.int 1))) (fCons (fC (.int 21)) (fCons (fC (.bl true)) fNil)))))) (gOne 8) fYes (fErr "" nm (fCall 2 (F_rows_with cs) (fCons (fC (.int 3)) (fCons (fVar 8) fNil)))) [8])))
def b_law_18 : FS :=
  (fIfS (fTest (fOp2 oNe (fVar 9) (fOp2 oMulT (fLst (fCons (fC (.str "number value")) fNil)) (fC (.int 8))))) (fRet (fC (.bl false))) fNext)
def b_law_19B (cs : Str → Addr) (nm : Value → Option Str) (p__law_drum : DSp) (p__law_web : DSp) (p__law_roll : DSp) : DTS :=
  (dSeq (b_law_4 p__law_drum) (dSeq (b_law_13 cs p__law_web p__law_roll) (purS (fSeq (b_law_15 cs nm) (fSeq (b_law_16 cs nm) (fSeq (b_law_17 cs nm) (b_law_18)))))))
def b_law_20 (cs : Str → Addr) (nm : Value → Option Str) (p__law_drum : DSp) (p__law_web : DSp) (p__law_roll : DSp) : DTS :=
  (dFor (purA (fSeqI (fSl (fOp2 oAdd (fLst (fCons (fC (.int 0)) fNil)) (fVar 0)) fNoPart (fPart (fC (.int 6)))))) (gOne 4) (b_law_19B cs nm p__law_drum p__law_web p__law_roll))
def b_law_21 (cs : Str → Addr) : FS :=
  (fIfS (fOr (fTest (fOp2 oNe (fCall 1 (F_webs_with cs) (fCons (fTup (fCons (fC (.int 2)) (fCons (fC (.int 1)) (fCons (fC (.int 1)) fNil)))) fNil)) (fLst (fCons (fTup (fCons (fC (.int 3)) (fCons (fTup (fCons (fTup (fCons (fC (.int 0)) (fCons (fC (.int 1)) fNil))) (fCons (fTup (fCons (fC (.int 0)) (fCons (fC (.int 2)) fNil))) fNil))) fNil))) fNil)))) (fTest (fOp2 oNe (fCB oLen (fCons (fCall 1 (F_webs_with cs) (fCons (fTup (fCons (fC (.int 1)) (fCons (fC (.int 1)) (fCons (fC (.int 1)) (fCons (fC (.int 1)) fNil))))) fNil)) fNil)) (fC (.int 3))))) (fRet (fC (.bl false))) fNext)
def b_law_22 (cs : Str → Addr) : FS :=
  (fSet 5 (fLst (fCons (fCall 2 (F_rows_with cs) (fCons (fC (.int 4)) (fCons (fC (.int 1)) fNil))) (fCons (fCall 2 (F_rows_with cs) (fCons (fC (.int 3)) (fCons (fC (.int 1)) fNil))) (fCons (fCB oLen (fCons (fCall 2 (F_rows_with cs) (fCons (fC (.int 4)) (fCons (fC (.int 0)) fNil))) fNil)) (fCons (fCall 2 (F_rows_with cs) (fCons (fC (.int 5)) (fCons (fC (.int 2)) fNil))) fNil))))))
def b_law_23 : FS :=
  (fIfS (fTest (fOp2 oNe (fVar 5) (fLst (fCons (fLst (fCons (fTup (fCons (fC (.int 1)) (fCons (fC (.int 1)) (fCons (fC (.int 1)) (fCons (fC (.int 1)) fNil))))) (fCons (fTup (fCons (fC (.int 2)) (fCons (fC (.int 2)) (fCons (fC (.int 2)) (fCons (fC (.int 2)) fNil))))) fNil))) (fCons (fLst fNil) (fCons (fC (.int 9)) (fCons (fLst (fCons (fTup (fCons (fC (.int 2)) (fCons (fC (.int 2)) (fCons (fC (.int 2)) (fCons (fC (.int 2)) (fCons (fC (.int 2)) fNil)))))) fNil)) fNil))))))) (fRet (fC (.bl false))) fNext)
def b_law_24 (cs : Str → Addr) : FS :=
  (fRet (fAndV (fOp2 oEq (fCB oLen (fCons (fCall 1 (F_webs_with cs) (fCons (fTup (fCons (fC (.int 2)) (fCons (fC (.int 2)) (fCons (fC (.int 2)) (fCons (fC (.int 2)) (fCons (fC (.int 2)) fNil)))))) fNil)) fNil)) (fC (.int 12))) (fAndV (fOp2 oEq (fCall 2 (F_rows_with cs) (fCons (fC (.int 6)) (fCons (fC (.int 20)) fNil))) (fLst fNil)) (fOp2 oEq (fCall 2 (F_rows_with cs) (fCons (fC (.int 1)) (fCons (fC (.int 0)) fNil))) (fLst (fCons (fTup (fCons (fC (.int 0)) fNil)) fNil))))))
def D_law (cs : Str → Addr) (nm : Value → Option Str) (p__law_drum : DSp) (p__law_web : DSp) (p__law_roll : DSp) : DSp := dDef n_law
  (dSeq (b_law_1 cs) (dSeq (dSet 2 dDicN) (dSeq (b_law_3 cs) (dSeq (b_law_20 cs nm p__law_drum p__law_web p__law_roll) (purS (fSeq (b_law_21 cs) (fSeq (b_law_22 cs) (fSeq (b_law_23) (b_law_24 cs)))))))))
end Wk05

end
section
set_option Elab.async false
set_option linter.all false
set_option maxRecDepth 100000
set_option maxHeartbeats 4000000
namespace Wk05
open PySem PySem.Spec PyProof.Rows L2 DL
open He (veBase)
theorem w_is_whole {P : Program} {w : World} {K : PySem.W.Frag} {mg : Str → Option Value} {base : Heap} {T : List (Addr × Str)} {cs : Str → Addr} {k : Nat} (fx : Fx K mg cs) :
    Cal P w K mg base T (k + 1) "is_whole" 3 (purSp (F_is_whole cs)) := by
  obtain ⟨f, fd, F, hm⟩ := fx.d_is_whole
  refine cal_pure (cal_dp hm F (fun _ _ _ _ _ _ us hl => match us, hl with | [_, _, _], _ => rfl) sc_is_whole rfl fun cdv A outer s H E hr => ?_)
  exact (dss_one (dsp_ret (dp_and (dp_callB cd_isi fx.m_isinstance (dap_cons (dp_var 0) (dap_cons (dp_gty fx.m_int (by decide +kernel)) da_nil))) (dp_and (dp_not (dp_callB cd_isi fx.m_isinstance (dap_cons (dp_var 0) (dap_cons (dp_gty fx.m_bool (by decide +kernel)) da_nil)))) (de_one (dp_ch od_le od_le (dp_var 1) (dp_var 0) (dp_var 2)))))))
theorem w_all_pairs {P : Program} {w : World} {K : PySem.W.Frag} {mg : Str → Option Value} {base : Heap} {T : List (Addr × Str)} {cs : Str → Addr} {k : Nat} (fx : Fx K mg cs) :
    Cal P w K mg base T (k + 1) "all_pairs" 1 (purSp (F_all_pairs cs)) := by
  obtain ⟨f, fd, F, hm⟩ := fx.d_all_pairs
  refine cal_pure (cal_dp hm F (fun _ _ _ _ _ _ us hl => match us, hl with | [_], _ => rfl) sc_all_pairs rfl fun cdv A outer s H E hr => ?_)
  exact (dss_one (dsp_ret (dp_lc2 rfl sc_all_pairs.nd (dip_range1 fx.m_range (dap_cons (dp_var 0) da_nil)) (blkOk_by (own := [("one", 1), ("other", 2)]) (by kernel_rfl)) (vs1 := [2]) (by decide) (fun s H C cl fp => (dg_name sc_all_pairs.nd)) (fun s H C cl fp => dts_nil) (fun s H C cl fp => (dip_range2 fx.m_range (dap_cons (dp_op od_add (dp_var 1) dp_int) (dap_cons (dp_var 0) da_nil)))) (fun s H C cl fp => (dg_name sc_all_pairs.nd)) (fun s H C cl fp => dts_nil) (fun s H C cl fp => (dp_tup (dap_cons (dp_var 1) (dap_cons (dp_var 2) da_nil)))) (by decide) (by decide))))
theorem w_need_number {P : Program} {w : World} {K : PySem.W.Frag} {mg : Str → Option Value} {base : Heap} {T : List (Addr × Str)} {cs : Str → Addr} {k : Nat} (fx : Fx K mg cs) (c_is_whole : Cal P w K mg base T k "is_whole" 3 (purSp (F_is_whole cs))) :
    Cal P w K mg base T (k + 1) "need_number" 3 (purSp (F_need_number cs)) := by
  obtain ⟨f, fd, F, hm⟩ := fx.d_need_number
  refine cal_pure (cal_dp hm F (fun _ _ _ _ _ _ us hl => match us, hl with | [_, _, _], _ => rfl) sc_need_number rfl fun cdv A outer s H E hr => ?_)
  exact (dss_one (dsp_if (dpt_not (dpt_tru (dp_call (L2N.takes_of rfl rfl rfl rfl) hr c_is_whole (dap_cons (dp_var 0) (dap_cons (dp_var 1) (dap_cons (dp_var 2) da_nil))))))
      (dss_one (dsp_raise rfl (L2N.takes_of rfl rfl rfl rfl) PySem.F.excBase_ValueError (fx.x_InvalidNumber).q (fx.x_InvalidNumber).g (fx.x_InvalidNumber).k (fx.x_InvalidNumber).b (fx.x_InvalidNumber).t))
      dsps_nil))
theorem w_by_degrees {P : Program} {w : World} {K : PySem.W.Frag} {mg : Str → Option Value} {base : Heap} {T : List (Addr × Str)} {cs : Str → Addr} {k : Nat} (fx : Fx K mg cs) :
    Cal P w K mg base T (k + 1) "by_degrees" 2 (purSp (F_by_degrees cs)) := by
  obtain ⟨f, fd, F, hm⟩ := fx.d_by_degrees
  refine cal_pure (cal_dp hm F (fun _ _ _ _ _ _ us hl => match us, hl with | [_, _], _ => rfl) sc_by_degrees rfl fun cdv A outer s H E hr => ?_)
  exact (dss_one (dsp_ret (dp_op od_fdiv (dp_op od_sub (dp_op od_add (dp_op od_mulT (dp_var 1) (dp_op od_sub (dp_var 1) dp_int)) (dp_callB (cd_sum rfl) fx.m_sum (dap_cons (dp_sl (dp_var 0) (dop_some (dp_var 1)) do_none) da_nil))) (dp_callB (cd_sum rfl) fx.m_sum (dap_cons (dp_sl (dp_var 0) do_none (dop_some (dp_var 1))) da_nil))) dp_int)))
theorem w_least_by {P : Program} {w : World} {K : PySem.W.Frag} {mg : Str → Option Value} {base : Heap} {T : List (Addr × Str)} {cs : Str → Addr} {k : Nat} (fx : Fx K mg cs) (c_by_degrees : Cal P w K mg base T k "by_degrees" 2 (purSp (F_by_degrees cs))) :
    Cal P w K mg base T (k + 1) "least_by" 1 (purSp (F_least_by cs)) := by
  obtain ⟨f, fd, F, hm⟩ := fx.d_least_by
  refine cal_pure (cal_dp hm F (fun _ _ _ _ _ _ us hl => match us, hl with | [_], _ => rfl) sc_least_by rfl fun cdv A outer s H E hr => ?_)
  exact (dss_one (dsp_ret (dp_callB (cd_minG rfl (uR64 hr)) fx.m_min (dap_cons (dp_lc rfl sc_least_by.nd (dip_range1 fx.m_range (dap_cons (dp_op od_add (dp_callB cd_len fx.m_len (dap_cons (dp_var 0) da_nil)) dp_int) da_nil)) (blkOk_by (own := [("many", 1)]) (by kernel_rfl)) (fun s H C cl fp => (dg_name sc_least_by.nd)) (fun s H C cl fp => dts_nil) (fun s H C cl fp => (dp_call tk0 hr c_by_degrees (dap_cons (dp_var 0) (dap_cons (dp_var 1) da_nil)))) (by decide)) da_nil))))
theorem w_is_of_web {P : Program} {w : World} {K : PySem.W.Frag} {mg : Str → Option Value} {base : Heap} {T : List (Addr × Str)} {cs : Str → Addr} {k : Nat} (fx : Fx K mg cs) :
    Cal P w K mg base T (k + 1) "is_of_web" 1 (purSp (F_is_of_web cs)) := by
  obtain ⟨f, fd, F, hm⟩ := fx.d_is_of_web
  refine cal_pure (cal_dp hm F (fun _ _ _ _ _ _ us hl => match us, hl with | [_], _ => rfl) sc_is_of_web rfl fun cdv A outer s H E hr => ?_)
  exact (dsps_cons (dsp_if (dpt_cmp (od_eq (uR64 hr)) (dp_op od_mod (dp_callB (cd_sum rfl) fx.m_sum (dap_cons (dp_var 0) da_nil)) dp_int) dp_int)
      (dss_one (dsp_ret dp_bl))
      dsps_nil)
      (dsps_cons (dsp_for (passes_of rfl) rfl (dip_range2 fx.m_range (dap_cons dp_int (dap_cons (dp_op od_add (dp_callB cd_len fx.m_len (dap_cons (dp_var 0) da_nil)) dp_int) da_nil))) (dg_name sc_is_of_web.nd)
      (dss_one (dsp_if (dpt_cmp od_gt (dp_callB (cd_sum rfl) fx.m_sum (dap_cons (dp_sl (dp_var 0) do_none (dop_some (dp_var 1))) da_nil)) (dp_op od_add (dp_op od_mulT (dp_var 1) (dp_op od_sub (dp_var 1) dp_int)) (dp_callB (cd_sum rfl) fx.m_sum (dap_cons (dp_lc rfl sc_is_of_web.nd (dip_seq (dp_sl (dp_var 0) (dop_some (dp_var 1)) do_none)) (blkOk_by (own := [("one", 2)]) (by kernel_rfl)) (fun s H C cl fp => (dg_name sc_is_of_web.nd)) (fun s H C cl fp => dts_nil) (fun s H C cl fp => (dp_callB (cd_min2 rfl) fx.m_min (dap_cons (dp_var 2) (dap_cons (dp_var 1) da_nil)))) (by decide)) da_nil))))
      (dss_one (dsp_ret dp_bl))
      dsps_nil)))
      (dss_one (dsp_ret dp_bl))))
theorem w_fits_row {P : Program} {w : World} {K : PySem.W.Frag} {mg : Str → Option Value} {base : Heap} {T : List (Addr × Str)} {cs : Str → Addr} {k : Nat} (fx : Fx K mg cs) (c_is_whole : Cal P w K mg base T k "is_whole" 3 (purSp (F_is_whole cs))) (c_is_of_web : Cal P w K mg base T k "is_of_web" 1 (purSp (F_is_of_web cs))) :
    Cal P w K mg base T (k + 1) "fits_row" 2 (purSp (F_fits_row cs)) := by
  obtain ⟨f, fd, F, hm⟩ := fx.d_fits_row
  refine cal_pure (cal_dp hm F (fun _ _ _ _ _ _ us hl => match us, hl with | [_, _], _ => rfl) sc_fits_row rfl fun cdv A outer s H E hr => ?_)
  exact (dsps_cons (dsp_if (dt_of (dpw_or (dpt_not (dpt_tru (dp_callB cd_isi fx.m_isinstance (dap_cons (dp_var 0) (dap_cons (dp_gty fx.m_tuple (by decide +kernel)) da_nil))))) (dw_or1 (dpt_not (dpt_ch od_le od_le dp_int (dp_callB cd_len fx.m_len (dap_cons (dp_var 0) da_nil)) (dp_var 1))))))
      (dss_one (dsp_ret dp_bl))
      dsps_nil)
      (dsps_cons (dsp_if (dpt_not (dpt_tru (dp_callB (cd_all rfl) fx.m_all (dap_cons (dp_lc rfl sc_fits_row.nd (dip_seq (dp_var 0)) (blkOk_by (own := [("one", 2)]) (by kernel_rfl)) (fun s H C cl fp => (dg_name sc_fits_row.nd)) (fun s H C cl fp => dts_nil) (fun s H C cl fp => (dp_call tk0 hr c_is_whole (dap_cons (dp_var 2) (dap_cons dp_int (dap_cons (dp_op od_sub (dp_callB cd_len fx.m_len (dap_cons (dp_var 0) da_nil)) dp_int) da_nil))))) (by decide)) da_nil))))
      (dss_one (dsp_ret dp_bl))
      dsps_nil)
      (dss_one (dsp_ret (dp_and (dp_callB (cd_all rfl) fx.m_all (dap_cons (dp_lc rfl sc_fits_row.nd (dip_range1 fx.m_range (dap_cons (dp_op od_sub (dp_callB cd_len fx.m_len (dap_cons (dp_var 0) da_nil)) dp_int) da_nil)) (blkOk_by (own := [("at", 3)]) (by kernel_rfl)) (fun s H C cl fp => (dg_name sc_fits_row.nd)) (fun s H C cl fp => dts_nil) (fun s H C cl fp => (dp_cmp od_ge (dp_ix (dp_var 0) (dp_var 3)) (dp_ix (dp_var 0) (dp_op od_add (dp_var 3) dp_int)))) (by decide)) da_nil)) (de_one (dp_call (L2N.takes_of rfl rfl rfl rfl) hr c_is_of_web (dap_cons (dp_var 0) da_nil))))))))
theorem w_webs_for {P : Program} {w : World} {K : PySem.W.Frag} {mg : Str → Option Value} {base : Heap} {T : List (Addr × Str)} {cs : Str → Addr} {k : Nat} (fx : Fx K mg cs) (c_all_pairs : Cal P w K mg base T k "all_pairs" 1 (purSp (F_all_pairs cs))) :
    Cal P w K mg base T (k + 1) "webs_for" 1 (purSp (F_webs_for cs)) := by
  obtain ⟨f, fd, F, hm⟩ := fx.d_webs_for
  refine cal_pure (cal_dp hm F (fun _ _ _ _ _ _ us hl => match us, hl with | [_], _ => rfl) sc_webs_for rfl fun cdv A outer s H E hr => ?_)
  exact (dsps_cons (dsp_set sc_webs_for.nd (dp_lst (dap_cons (dp_tup (dap_cons (dp_tup da_nil) (dap_cons (dp_callTy cd_tuple fx.m_tuple (dap_cons (dp_var 0) da_nil)) da_nil))) da_nil)))
      (dsps_cons (dsp_for (passes_of rfl) rfl (dip_seq (dp_call (L2N.takes_of rfl rfl rfl rfl) hr c_all_pairs (dap_cons (dp_callB cd_len fx.m_len (dap_cons (dp_var 0) da_nil)) da_nil))) (dg_two rfl sc_webs_for.nd)
      (dsps_cons (dsp_set sc_webs_for.nd (dp_lst da_nil))
      (dsps_cons (dsp_for (passes_of rfl) rfl (dip_seq (dp_var 1)) (dg_two rfl sc_webs_for.nd)
      (dss_one (dsp_if (dpt_cmp od_gt (dp_callB (cd_min2 rfl) fx.m_min (dap_cons (dp_ix (dp_var 6) (dp_var 2)) (dap_cons (dp_ix (dp_var 6) (dp_var 3)) da_nil))) dp_int)
      (dsps_cons (dsp_setLc rfl sc_webs_for.nd (dip_enumT fx.m_enumerate (dap_cons (dp_var 6) da_nil)) (blkOk_by (own := [("place", 8), ("many", 9)]) (by kernel_rfl)) (fun s H C cl fp => (dg_two rfl sc_webs_for.nd)) (fun s H C cl fp => dts_nil) (fun s H C cl fp => (dp_op od_sub (dp_var 9) (dp_callTy cd_int fx.m_int (dap_cons (dp_cmp (od_in (uR65 hr)) (dp_var 8) (dp_tup (dap_cons (dp_var 2) (dap_cons (dp_var 3) da_nil)))) da_nil)))) (by decide) (sw_true rfl rfl rfl (by kernel_rfl)))
      (dss_one (dsp_set sc_webs_for.nd (dp_op od_add (dp_var 4) (dp_lst (dap_cons (dp_tup (dap_cons (dp_op od_add (dp_var 5) (dp_tup (dap_cons (dp_tup (dap_cons (dp_var 2) (dap_cons (dp_var 3) da_nil))) da_nil))) (dap_cons (dp_callTy cd_tuple fx.m_tuple (dap_cons (dp_var 7) da_nil)) da_nil))) da_nil))))))
      dsps_nil)))
      (dss_one (dsp_set sc_webs_for.nd (dp_op od_add (dp_var 1) (dp_var 4)))))))
      (dss_one (dsp_ret (dp_callB (cd_sortT (uR64 hr)) fx.m_sorted (dap_cons (dp_lc rfl sc_webs_for.nd (dip_seq (dp_var 1)) (blkOk_by (own := [("ties", 5), ("left", 6)]) (by kernel_rfl)) (fun s H C cl fp => (dg_two rfl sc_webs_for.nd)) (fun s H C cl fp => (dts_one (dpt_cmp (od_eq (uR64 hr)) (dp_callB (cd_maxT rfl (uR64 hr)) fx.m_max (dap_cons (dp_var 6) da_nil)) dp_int))) (fun s H C cl fp => (dp_tup (dap_cons (dp_callB cd_len fx.m_len (dap_cons (dp_var 0) da_nil)) (dap_cons (dp_var 5) da_nil)))) (by decide)) da_nil))))))
theorem w_falling_rows {P : Program} {w : World} {K : PySem.W.Frag} {mg : Str → Option Value} {base : Heap} {T : List (Addr × Str)} {cs : Str → Addr} {k : Nat} (fx : Fx K mg cs) (c_is_of_web : Cal P w K mg base T k "is_of_web" 1 (purSp (F_is_of_web cs))) :
    Cal P w K mg base T (k + 1) "falling_rows" 1 (purSp (F_falling_rows cs)) := by
  obtain ⟨f, fd, F, hm⟩ := fx.d_falling_rows
  refine cal_pure (cal_dp hm F (fun _ _ _ _ _ _ us hl => match us, hl with | [_], _ => rfl) sc_falling_rows rfl fun cdv A outer s H E hr => ?_)
  exact (dsps_cons (dsp_set sc_falling_rows.nd (dp_lst (dap_cons (dp_tup da_nil) da_nil)))
      (dsps_cons (dsp_for (passes_of rfl) rfl (dip_range1 fx.m_range (dap_cons (dp_var 0) da_nil)) (dg_name sc_falling_rows.nd)
      (dss_one (dsp_setLc2 rfl sc_falling_rows.nd (dip_seq (dp_var 1)) (blkOk_by (own := [("row", 3), ("one", 4)]) (by kernel_rfl)) (vs1 := [4]) (by decide) (fun s H C cl fp => (dg_name sc_falling_rows.nd)) (fun s H C cl fp => dts_nil) (fun s H C cl fp => (dip_range1 fx.m_range (dap_cons (dp_if (dpt_cmp (od_ne (uR64 hr)) (dp_var 3) (dp_tup da_nil)) (dp_op od_add (dp_ix (dp_var 3) (dp_un ud_neg dp_int)) dp_int) (dp_var 0)) da_nil))) (fun s H C cl fp => (dg_name sc_falling_rows.nd)) (fun s H C cl fp => dts_nil) (fun s H C cl fp => (dp_op od_add (dp_var 3) (dp_tup (dap_cons (dp_var 4) da_nil)))) (by decide) (by decide) (sw_true rfl rfl rfl (by kernel_rfl)))))
      (dss_one (dsp_ret (dp_lc rfl sc_falling_rows.nd (dip_seq (dp_var 1)) (blkOk_by (own := [("row", 3)]) (by kernel_rfl)) (fun s H C cl fp => (dg_name sc_falling_rows.nd)) (fun s H C cl fp => (dts_one (dpt_tru (dp_call tk0 hr c_is_of_web (dap_cons (dp_var 3) da_nil))))) (fun s H C cl fp => (dp_var 3)) (by decide))))))
theorem w_need_row {P : Program} {w : World} {K : PySem.W.Frag} {mg : Str → Option Value} {base : Heap} {T : List (Addr × Str)} {cs : Str → Addr} {k : Nat} (fx : Fx K mg cs) (c_fits_row : Cal P w K mg base T k "fits_row" 2 (purSp (F_fits_row cs))) :
    Cal P w K mg base T (k + 1) "need_row" 2 (purSp (F_need_row cs)) := by
  obtain ⟨f, fd, F, hm⟩ := fx.d_need_row
  refine cal_pure (cal_dp hm F (fun _ _ _ _ _ _ us hl => match us, hl with | [_, _], _ => rfl) sc_need_row rfl fun cdv A outer s H E hr => ?_)
  exact (dss_one (dsp_if (dpt_not (dpt_tru (dp_call (L2N.takes_of rfl rfl rfl rfl) hr c_fits_row (dap_cons (dp_var 0) (dap_cons (dp_var 1) da_nil)))))
      (dss_one (dsp_raise rfl (L2N.takes_of rfl rfl rfl rfl) PySem.F.excBase_ValueError (fx.x_InvalidRow).q (fx.x_InvalidRow).g (fx.x_InvalidRow).k (fx.x_InvalidRow).b (fx.x_InvalidRow).t))
      dsps_nil))
theorem w_webs_with {P : Program} {w : World} {K : PySem.W.Frag} {mg : Str → Option Value} {base : Heap} {T : List (Addr × Str)} {cs : Str → Addr} {k : Nat} (fx : Fx K mg cs) (c_need_row : Cal P w K mg base T k "need_row" 2 (purSp (F_need_row cs))) (c_webs_for : Cal P w K mg base T k "webs_for" 1 (purSp (F_webs_for cs))) :
    Cal P w K mg base T (k + 1) "webs_with" 1 (purSp (F_webs_with cs)) := by
  obtain ⟨f, fd, F, hm⟩ := fx.d_webs_with
  refine cal_pure (cal_dp hm F (fun _ _ _ _ _ _ us hl => match us, hl with | [_], _ => rfl) sc_webs_with rfl fun cdv A outer s H E hr => ?_)
  exact (dsps_cons (dsp_expr (dp_call (L2N.takes_of rfl rfl rfl rfl) hr c_need_row (dap_cons (dp_var 0) (dap_cons dp_int da_nil))))
      (dss_one (dsp_ret (dp_call (L2N.takes_of rfl rfl rfl rfl) hr c_webs_for (dap_cons (dp_var 0) da_nil)))))
theorem w_rows_with {P : Program} {w : World} {K : PySem.W.Frag} {mg : Str → Option Value} {base : Heap} {T : List (Addr × Str)} {cs : Str → Addr} {k : Nat} (fx : Fx K mg cs) (c_need_number : Cal P w K mg base T k "need_number" 3 (purSp (F_need_number cs))) (c_falling_rows : Cal P w K mg base T k "falling_rows" 1 (purSp (F_falling_rows cs))) (c_least_by : Cal P w K mg base T k "least_by" 1 (purSp (F_least_by cs))) :
    Cal P w K mg base T (k + 1) "rows_with" 2 (purSp (F_rows_with cs)) := by
  obtain ⟨f, fd, F, hm⟩ := fx.d_rows_with
  refine cal_pure (cal_dp hm F (fun _ _ _ _ _ _ us hl => match us, hl with | [_, _], _ => rfl) sc_rows_with rfl fun cdv A outer s H E hr => ?_)
  exact (dsps_cons (dsp_expr (dp_call (L2N.takes_of rfl rfl rfl rfl) hr c_need_number (dap_cons (dp_var 0) (dap_cons dp_int (dap_cons dp_int da_nil)))))
      (dsps_cons (dsp_expr (dp_call (L2N.takes_of rfl rfl rfl rfl) hr c_need_number (dap_cons (dp_var 1) (dap_cons dp_int (dap_cons dp_int da_nil)))))
      (dss_one (dsp_ret (dp_lc rfl sc_rows_with.nd (dip_seq (dp_call (L2N.takes_of rfl rfl rfl rfl) hr c_falling_rows (dap_cons (dp_var 0) da_nil))) (blkOk_by (own := [("row", 2)]) (by kernel_rfl)) (fun s H C cl fp => (dg_name sc_rows_with.nd)) (fun s H C cl fp => (dts_one (dpt_cmp (od_eq (uR64 hr)) (dp_call tk0 hr c_least_by (dap_cons (dp_var 2) da_nil)) (dp_var 1)))) (fun s H C cl fp => (dp_var 2)) (by decide))))))
theorem w__law_drum {P : Program} {w : World} {K : PySem.W.Frag} {mg : Str → Option Value} {base : Heap} {T : List (Addr × Str)} {cs : Str → Addr} {k : Nat} (fx : Fx K mg cs) :
    Cal P w K mg base T (k + 1) "_law_drum" 2 (D__law_drum cs) := by
  obtain ⟨f, fd, F, hm⟩ := fx.d__law_drum
  refine cal_dp hm F (fun _ _ _ _ _ _ us hl => match us, hl with | [_, _], _ => rfl) sc__law_drum rfl fun cdv A outer s H E hr => ?_
  exact (dss_cons (dsp_set sc__law_drum.nd (dp_if (dpt_cmp od_ge (dp_var 0) (dp_op od_pow dp_int dp_int)) (dp_op od_add (dp_op od_fdiv (dp_var 0) dp_int) (dp_op od_mulT dp_int (dp_var 1))) dp_int))
      (dss_one (ds_ret (de_lstM (dap_cons (dp_var 2) (dap_cons (dp_op od_add (dp_op od_mod (dp_callTy cd_int fx.m_int (dap_cons (dp_op od_add (dp_op od_mulT (dp_var 0) dp_int) (dp_op od_mulT dp_int (dp_var 1))) da_nil)) dp_int) dp_int) da_nil))))))
theorem w__law_roll {P : Program} {w : World} {K : PySem.W.Frag} {mg : Str → Option Value} {base : Heap} {T : List (Addr × Str)} {cs : Str → Addr} {k : Nat} (fx : Fx K mg cs) :
    Cal P w K mg base T (k + 1) "_law_roll" 2 (D__law_roll cs) := by
  obtain ⟨f, fd, F, hm⟩ := fx.d__law_roll
  refine cal_dp hm F (fun _ _ _ _ _ _ us hl => match us, hl with | [_, _], _ => rfl) sc__law_roll rfl fun cdv A outer s H E hr => ?_
  exact (dss_cons (ds_if (dt_cmp od_gt (de_ixM (dp_var 0) dp_int) dp_int)
      (dss_cons (ds_set sc__law_roll.nd (de_op od_mod (de_callTy cd_int fx.m_int (da_cons (de_ixM (dp_var 0) dp_int) da_nil)) (dp_var 1)))
      (dss_cons (ds_store (de_op od_fdiv (de_ixM (dp_var 0) dp_int) (dp_var 1)) (dp_var 0) dp_int)
      (dss_one (dsp_ret (dp_var 3)))))
      dsps_nil)
      (dss_cons (ds_store (de_op od_mod (de_callTy cd_int fx.m_int (da_cons (de_op od_add (de_op od_mulT (de_ixM (dp_var 0) dp_int) dp_int) dp_int) da_nil)) dp_int) (dp_var 0) dp_int)
      (dss_cons (ds_set sc__law_roll.nd (de_op od_mod (de_callTy cd_int fx.m_int (da_cons (de_op od_mulT (de_ixM (dp_var 0) dp_int) (de_op od_add (de_ixM (dp_var 0) dp_int) dp_int)) da_nil)) dp_int))
      (dss_one (dsp_ret (dp_op od_mod (dp_callTy cd_int fx.m_int (dap_cons (dp_op od_fdiv (dp_var 2) dp_int) da_nil)) (dp_var 1)))))))
theorem w__law_some {P : Program} {w : World} {K : PySem.W.Frag} {mg : Str → Option Value} {base : Heap} {T : List (Addr × Str)} {cs : Str → Addr} {k : Nat} {p__law_roll : DSp} (fx : Fx K mg cs) (c__law_roll : Cal P w K mg base T k "_law_roll" 2 p__law_roll) :
    Cal P w K mg base T (k + 1) "_law_some" 2 (D__law_some cs p__law_roll) := by
  obtain ⟨f, fd, F, hm⟩ := fx.d__law_some
  refine cal_dp hm F (fun _ _ _ _ _ _ us hl => match us, hl with | [_, _], _ => rfl) sc__law_some rfl fun cdv A outer s H E hr => ?_
  exact (dss_one (ds_ret (de_ix (dp_var 1) (de_call (L2N.takes_of rfl rfl rfl rfl) hr c__law_roll (dap_cons (dp_var 0) (dap_cons (dp_callB cd_len fx.m_len (dap_cons (dp_var 1) da_nil)) da_nil))))))
theorem w__law_pairs {P : Program} {w : World} {K : PySem.W.Frag} {mg : Str → Option Value} {base : Heap} {T : List (Addr × Str)} {cs : Str → Addr} {k : Nat} (fx : Fx K mg cs) :
    Cal P w K mg base T (k + 1) "_law_pairs" 1 (purSp (F__law_pairs cs)) := by
  obtain ⟨f, fd, F, hm⟩ := fx.d__law_pairs
  refine cal_pure (cal_dp hm F (fun _ _ _ _ _ _ us hl => match us, hl with | [_], _ => rfl) sc__law_pairs rfl fun cdv A outer s H E hr => ?_)
  exact (dsps_cons (dsp_set sc__law_pairs.nd (dp_lst da_nil))
      (dsps_cons (dsp_for (passes_of rfl) rfl (dip_range1 fx.m_range (dap_cons (dp_var 0) da_nil)) (dg_name sc__law_pairs.nd)
      (dss_one (dsp_set sc__law_pairs.nd (dp_op od_add (dp_var 1) (dp_lc rfl sc__law_pairs.nd (dip_range2 fx.m_range (dap_cons (dp_op od_add (dp_var 2) dp_int) (dap_cons (dp_var 0) da_nil))) (blkOk_by (own := [("_law_other", 3)]) (by kernel_rfl)) (fun s H C cl fp => (dg_name sc__law_pairs.nd)) (fun s H C cl fp => dts_nil) (fun s H C cl fp => (dp_tup (dap_cons (dp_var 2) (dap_cons (dp_var 3) da_nil)))) (by decide))))))
      (dss_one (dsp_ret (dp_var 1)))))
theorem w__law_web {P : Program} {w : World} {K : PySem.W.Frag} {mg : Str → Option Value} {base : Heap} {T : List (Addr × Str)} {cs : Str → Addr} {k : Nat} {p__law_roll : DSp} {p__law_some : DSp} (fx : Fx K mg cs) (c__law_roll : Cal P w K mg base T k "_law_roll" 2 p__law_roll) (c__law_some : Cal P w K mg base T k "_law_some" 2 p__law_some) (c__law_pairs : Cal P w K mg base T k "_law_pairs" 1 (purSp (F__law_pairs cs))) :
    Cal P w K mg base T (k + 1) "_law_web" 2 (D__law_web cs p__law_roll p__law_some) := by
  obtain ⟨f, fd, F, hm⟩ := fx.d__law_web
  refine cal_dp hm F (fun _ _ _ _ _ _ us hl => match us, hl with | [_, _], _ => rfl) sc__law_web rfl fun cdv A outer s H E hr => ?_
  exact (dss_cons (ds_if (dt_cmp (od_eq (uR64 hr)) (de_call (L2N.takes_of rfl rfl rfl rfl) hr c__law_roll (dap_cons (dp_var 0) (dap_cons dp_int da_nil))) dp_int)
      (dss_cons (ds_set sc__law_web.nd (de_lstM (dap_cons (dp_tup (dap_cons dp_int (dap_cons (dp_tup (dap_cons (dp_tup (dap_cons dp_int (dap_cons dp_int da_nil))) (dap_cons (dp_tup (dap_cons dp_int (dap_cons dp_int da_nil))) (dap_cons (dp_tup (dap_cons dp_int (dap_cons dp_int da_nil))) da_nil)))) da_nil))) (dap_cons (dp_tup (dap_cons dp_int (dap_cons (dp_tup (dap_cons (dp_tup (dap_cons dp_int (dap_cons dp_int da_nil))) (dap_cons (dp_tup (dap_cons dp_int (dap_cons dp_int da_nil))) da_nil))) da_nil))) (dap_cons (dp_tup (dap_cons dp_int (dap_cons (dp_tup (dap_cons (dp_tup (dap_cons dp_int (dap_cons dp_int da_nil))) (dap_cons (dp_tup (dap_cons dp_int (dap_cons dp_int da_nil))) (dap_cons (dp_tup (dap_cons dp_int (dap_cons dp_int da_nil))) (dap_cons (dp_tup (dap_cons dp_int (dap_cons dp_int da_nil))) da_nil))))) da_nil))) (dap_cons (dp_tup (dap_cons dp_int (dap_cons (dp_tup da_nil) da_nil))) da_nil))))))
      (dss_cons (ds_expr (de_append (dp_var 2) (dp_tup (dap_cons dp_int (dap_cons (dp_tup (dap_cons (dp_tup (dap_cons dp_int (dap_cons dp_int da_nil))) (dap_cons (dp_tup (dap_cons dp_int (dap_cons dp_int da_nil))) (dap_cons (dp_tup (dap_cons dp_int (dap_cons dp_int da_nil))) (dap_cons (dp_tup (dap_cons dp_int (dap_cons dp_int da_nil))) (dap_cons (dp_tup (dap_cons dp_int (dap_cons dp_int da_nil))) da_nil)))))) da_nil)))))
      (dss_frz (dss_one (ds_ret (de_call (L2N.takes_of rfl rfl rfl rfl) hr c__law_some (dap_cons (dp_var 0) (dap_cons (dp_lc rfl sc__law_web.nd (dip_seq (dp_var 2)) (blkOk_by (own := [("_law_one", 5)]) (by kernel_rfl)) (fun s H C cl fp => (dg_name sc__law_web.nd)) (fun s H C cl fp => (dts_one (dpt_cmp od_le (dp_ix (dp_var 5) dp_int) (dp_var 1)))) (fun s H C cl fp => (dp_var 5)) (by decide)) da_nil))))))))
      dsps_nil)
      (dss_cons (ds_asg2 (de_tup (da_cons (de_op od_add dp_int (de_call (L2N.takes_of rfl rfl rfl rfl) hr c__law_roll (dap_cons (dp_var 0) (dap_cons (dp_var 1) da_nil)))) (da_cons (de_op od_add dp_int (de_call (L2N.takes_of rfl rfl rfl rfl) hr c__law_roll (dap_cons (dp_var 0) (dap_cons dp_int da_nil)))) da_nil))) (dg_two rfl sc__law_web.nd))
      (dss_one (ds_ret (de_tup (da_cons (dp_var 3) (da_cons (de_callTy cd_tuple fx.m_tuple (da_cons (de_lc rfl sc__law_web.nd (dip_seq (dp_call (L2N.takes_of rfl rfl rfl rfl) hr c__law_pairs (dap_cons (dp_var 3) da_nil))) (blkOk_by (own := [("_law_tie_so", 6)]) (by kernel_rfl)) (fun s H C cl fp => (dg_name sc__law_web.nd)) (fun s H C cl fp => (dts_one (dt_cmp (od_lt (uR hr)) (de_call tk0 hr c__law_roll (dap_cons (dp_var 0) (dap_cons dp_int da_nil))) (dp_var 4)))) (fun s H C cl fp => (dp_var 6)) (by decide)) da_nil)) da_nil)))))))
theorem w__law_degrees {P : Program} {w : World} {K : PySem.W.Frag} {mg : Str → Option Value} {base : Heap} {T : List (Addr × Str)} {cs : Str → Addr} {k : Nat} (fx : Fx K mg cs) :
    Cal P w K mg base T (k + 1) "_law_degrees" 1 (purSp (F__law_degrees cs)) := by
  obtain ⟨f, fd, F, hm⟩ := fx.d__law_degrees
  refine cal_pure (cal_dp hm F (fun _ _ _ _ _ _ us hl => match us, hl with | [_], _ => rfl) sc__law_degrees rfl fun cdv A outer s H E hr => ?_)
  exact (dss_one (dsp_ret (dp_lc rfl sc__law_degrees.nd (dip_range1 fx.m_range (dap_cons (dp_ix (dp_var 0) dp_int) da_nil)) (blkOk_by (own := [("_law_place", 1)]) (by kernel_rfl)) (fun s H C cl fp => (dg_name sc__law_degrees.nd)) (fun s H C cl fp => dts_nil) (fun s H C cl fp => (dp_callB cd_len fx.m_len (dap_cons (dp_lc rfl sc__law_degrees.nd (dip_seq (dp_ix (dp_var 0) dp_int)) (blkOk_by (own := [("_law_tie_so", 2)]) (by kernel_rfl)) (fun s H C cl fp => (dg_name sc__law_degrees.nd)) (fun s H C cl fp => (dts_one (dpt_cmp (od_in (uR65 hr)) (dp_var 1) (dp_var 2)))) (fun s H C cl fp => dp_int) (by decide)) da_nil))) (by decide))))
theorem w__law_row {P : Program} {w : World} {K : PySem.W.Frag} {mg : Str → Option Value} {base : Heap} {T : List (Addr × Str)} {cs : Str → Addr} {k : Nat} (fx : Fx K mg cs) (c__law_degrees : Cal P w K mg base T k "_law_degrees" 1 (purSp (F__law_degrees cs))) :
    Cal P w K mg base T (k + 1) "_law_row" 1 (purSp (F__law_row cs)) := by
  obtain ⟨f, fd, F, hm⟩ := fx.d__law_row
  refine cal_pure (cal_dp hm F (fun _ _ _ _ _ _ us hl => match us, hl with | [_], _ => rfl) sc__law_row rfl fun cdv A outer s H E hr => ?_)
  exact (dss_one (dsp_ret (dp_callTy cd_tuple fx.m_tuple (dap_cons (dp_rev (dp_callB (cd_sortT (uR64 hr)) fx.m_sorted (dap_cons (dp_call (L2N.takes_of rfl rfl rfl rfl) hr c__law_degrees (dap_cons (dp_var 0) da_nil)) da_nil))) da_nil))))
theorem w__law_falling {P : Program} {w : World} {K : PySem.W.Frag} {mg : Str → Option Value} {base : Heap} {T : List (Addr × Str)} {cs : Str → Addr} {k : Nat} (fx : Fx K mg cs) :
    Cal P w K mg base T (k + 1) "_law_falling" 2 (purSp (F__law_falling cs)) := by
  obtain ⟨f, fd, F, hm⟩ := fx.d__law_falling
  refine cal_pure (cal_dp hm F (fun _ _ _ _ _ _ us hl => match us, hl with | [_, _], _ => rfl) sc__law_falling rfl fun cdv A outer s H E hr => ?_)
  exact (dsps_cons (dsp_set sc__law_falling.nd (dp_lst (dap_cons (dp_tup da_nil) da_nil)))
      (dsps_cons (dsp_for (passes_of rfl) rfl (dip_range1 fx.m_range (dap_cons (dp_var 0) da_nil)) (dg_name sc__law_falling.nd)
      (dsps_cons (dsp_set sc__law_falling.nd (dp_lst da_nil))
      (dsps_cons (dsp_for (passes_of rfl) rfl (dip_seq (dp_var 2)) (dg_name sc__law_falling.nd)
      (dss_one (dsp_set sc__law_falling.nd (dp_op od_add (dp_var 4) (dp_lc rfl sc__law_falling.nd (dip_range1 fx.m_range (dap_cons (dp_op od_add (dp_callB (cd_minG rfl (uR64 hr)) fx.m_min (dap_cons (dp_op od_add (dp_lst (dap_cons (dp_var 1) da_nil)) (dp_callTy (cd_listS rfl) fx.m_list (dap_cons (dp_var 5) da_nil))) da_nil)) dp_int) da_nil)) (blkOk_by (own := [("_law_one", 6)]) (by kernel_rfl)) (fun s H C cl fp => (dg_name sc__law_falling.nd)) (fun s H C cl fp => dts_nil) (fun s H C cl fp => (dp_op od_add (dp_var 5) (dp_tup (dap_cons (dp_var 6) da_nil)))) (by decide))))))
      (dss_one (dsp_set sc__law_falling.nd (dp_var 4))))))
      (dss_one (dsp_ret (dp_callB (cd_sortT (uR64 hr)) fx.m_sorted (dap_cons (dp_var 2) da_nil))))))
theorem w__law_laid_off {P : Program} {w : World} {K : PySem.W.Frag} {mg : Str → Option Value} {base : Heap} {T : List (Addr × Str)} {cs : Str → Addr} {k : Nat} (fx : Fx K mg cs) :
    Cal P w K mg base T (k + 1) "_law_laid_off" 1 (purSp (F__law_laid_off cs)) := by
  obtain ⟨f, fd, F, hm⟩ := fx.d__law_laid_off
  refine cal_pure (cal_dp hm F (fun _ _ _ _ _ _ us hl => match us, hl with | [_], _ => rfl) sc__law_laid_off rfl fun cdv A outer s H E hr => ?_)
  exact (dsps_cons (dsp_set sc__law_laid_off.nd (dp_callTy (cd_listS rfl) fx.m_list (dap_cons (dp_var 0) da_nil)))
      (dsps_cons (dsp_while (passes_of rfl) (dt_of (dpw_and (dpt_cmp (od_ne (uR64 hr)) (dp_var 1) (dp_lst da_nil)) (dw_and1 (dpt_cmp od_gt (dp_ix (dp_var 1) dp_int) dp_int))))
      (dsps_cons (dsp_par rfl sc__law_laid_off.nd (dap_cons (dp_ix (dp_var 1) dp_int) (dap_cons (dp_sl (dp_var 1) (dop_some dp_int) do_none) da_nil)))
      (dsps_cons (dsp_if (dt_of (dpw_or (dpt_cmp od_gt (dp_var 2) (dp_callB cd_len fx.m_len (dap_cons (dp_var 3) da_nil))) (dw_or1 (dpt_cmp (od_eq (uR64 hr)) (dp_ix (dp_var 3) (dp_op od_sub (dp_var 2) dp_int)) dp_int))))
      (dss_one (dsp_ret dp_bl))
      dsps_nil)
      (dss_one (dsp_set sc__law_laid_off.nd (dp_rev (dp_callB (cd_sortT (uR64 hr)) fx.m_sorted (dap_cons (dp_op od_add (dp_lc rfl sc__law_laid_off.nd (dip_seq (dp_sl (dp_var 3) do_none (dop_some (dp_var 2)))) (blkOk_by (own := [("_law_one", 4)]) (by kernel_rfl)) (fun s H C cl fp => (dg_name sc__law_laid_off.nd)) (fun s H C cl fp => dts_nil) (fun s H C cl fp => (dp_op od_sub (dp_var 4) dp_int)) (by decide)) (dp_sl (dp_var 3) (dop_some (dp_var 2)) do_none)) da_nil))))))))
      (dss_one (dsp_ret dp_bl))))
theorem w__law_is_row {P : Program} {w : World} {K : PySem.W.Frag} {mg : Str → Option Value} {base : Heap} {T : List (Addr × Str)} {cs : Str → Addr} {k : Nat} (fx : Fx K mg cs) (c__law_laid_off : Cal P w K mg base T k "_law_laid_off" 1 (purSp (F__law_laid_off cs))) :
    Cal P w K mg base T (k + 1) "_law_is_row" 1 (purSp (F__law_is_row cs)) := by
  obtain ⟨f, fd, F, hm⟩ := fx.d__law_is_row
  refine cal_pure (cal_dp hm F (fun _ _ _ _ _ _ us hl => match us, hl with | [_], _ => rfl) sc__law_is_row rfl fun cdv A outer s H E hr => ?_)
  exact (dsps_cons (dsp_if (dt_of (dpw_or (dpt_not (dpt_tru (dp_callB cd_isi fx.m_isinstance (dap_cons (dp_var 0) (dap_cons (dp_gty fx.m_tuple (by decide +kernel)) da_nil))))) (dw_or1 (dpt_not (dpt_ch od_le od_le dp_int (dp_callB cd_len fx.m_len (dap_cons (dp_var 0) da_nil)) dp_int)))))
      (dss_one (dsp_ret dp_bl))
      dsps_nil)
      (dsps_cons (dsp_if (dpt_cmp (od_ne (uR64 hr)) (dp_lc rfl sc__law_is_row.nd (dip_seq (dp_var 0)) (blkOk_by (own := [("_law_one", 1)]) (by kernel_rfl)) (fun s H C cl fp => (dg_name sc__law_is_row.nd)) (fun s H C cl fp => (dts_one (dt_of (dpw_or (dpt_not (dpt_tru (dp_callB cd_isi fx.m_isinstance (dap_cons (dp_var 1) (dap_cons (dp_gty fx.m_int (by decide +kernel)) da_nil))))) (dpw_or (dpt_tru (dp_callB cd_isi fx.m_isinstance (dap_cons (dp_var 1) (dap_cons (dp_gty fx.m_bool (by decide +kernel)) da_nil)))) (dw_or1 (dpt_cmp (od_lt (uR hr)) (dp_var 1) dp_int))))))) (fun s H C cl fp => (dp_var 1)) (by decide)) (dp_lst da_nil))
      (dss_one (dsp_ret dp_bl))
      dsps_nil)
      (dss_one (dsp_ret (dp_and (dp_cmp (od_eq (uR64 hr)) (dp_callTy (cd_listS rfl) fx.m_list (dap_cons (dp_var 0) da_nil)) (dp_rev (dp_callB (cd_sortT (uR64 hr)) fx.m_sorted (dap_cons (dp_var 0) da_nil)))) (de_one (dp_call (L2N.takes_of rfl rfl rfl rfl) hr c__law_laid_off (dap_cons (dp_var 0) da_nil))))))))
theorem w__law_far_by {P : Program} {w : World} {K : PySem.W.Frag} {mg : Str → Option Value} {base : Heap} {T : List (Addr × Str)} {cs : Str → Addr} {k : Nat} (fx : Fx K mg cs) :
    Cal P w K mg base T (k + 1) "_law_far_by" 2 (purSp (F__law_far_by cs)) := by
  obtain ⟨f, fd, F, hm⟩ := fx.d__law_far_by
  refine cal_pure (cal_dp hm F (fun _ _ _ _ _ _ us hl => match us, hl with | [_, _], _ => rfl) sc__law_far_by rfl fun cdv A outer s H E hr => ?_)
  exact (dss_one (dsp_ret (dp_op od_fdiv (dp_op od_add (dp_op od_sub (dp_op od_mulT (dp_var 1) (dp_op od_sub (dp_var 1) dp_int)) (dp_callB (cd_sum rfl) fx.m_sum (dap_cons (dp_sl (dp_var 0) do_none (dop_some (dp_var 1))) da_nil))) (dp_callB (cd_sum rfl) fx.m_sum (dap_cons (dp_sl (dp_var 0) (dop_some (dp_var 1)) do_none) da_nil))) dp_int)))
theorem w__law_names {P : Program} {w : World} {K : PySem.W.Frag} {mg : Str → Option Value} {base : Heap} {T : List (Addr × Str)} {cs : Str → Addr} {k : Nat} (fx : Fx K mg cs) : CalZ P w K mg base T (k + 1) "_law_names" (F__law_names cs) := by
  obtain ⟨f, fd, F, hm⟩ := fx.d__law_names
  refine calZ_dp (fF := f__law_names cs) hm F (fun _ _ _ _ _ _ us hl => match us, hl with | [_], _ => rfl) sc__law_names fun cdv A outer s H p D z C hr => ?_
  have hhot : L2H.HotC (L2H.cxH CN P w K mg base n__law_names "_law_names" (L2.defScope s__law_names) f cdv A outer s H EN p) := ⟨p, z.hot, List.mem_singleton.mpr rfl⟩
  have hisE : CD (L2H.cxH CN P w K mg base n__law_names "_law_names" (L2.defScope s__law_names) f cdv A outer s H EN p) T (.builtin "isinstance") (oIsE K D p.1) := cd_isE (oe := p.2) C (List.mem_singleton.mpr rfl) z.cls z.dict (let ⟨vs, h, _⟩ := z.hot.2; ⟨vs, h⟩)
  exact (dsps_cons (dsp_set sc__law_names.nd (dp_lst (dap_cons (dp_callB hisE fx.m_isinstance (dap_cons (dp_var 0) (dap_cons (dp_gref fx.g_InvalidWeb) da_nil))) (dap_cons (dp_callB hisE fx.m_isinstance (dap_cons (dp_var 0) (dap_cons (dp_gref fx.g_InvalidSide) da_nil))) (dap_cons (dp_callB hisE fx.m_isinstance (dap_cons (dp_var 0) (dap_cons (dp_gref fx.g_InvalidTie) da_nil))) da_nil)))))
      (dsps_cons (dsp_set sc__law_names.nd (dp_op od_add (dp_var 1) (dp_lst (dap_cons (dp_callB hisE fx.m_isinstance (dap_cons (dp_var 0) (dap_cons (dp_gref fx.g_InvalidRow) da_nil))) (dap_cons (dp_callB hisE fx.m_isinstance (dap_cons (dp_var 0) (dap_cons (dp_gref fx.g_InvalidKinds) da_nil))) (dap_cons (dp_callB hisE fx.m_isinstance (dap_cons (dp_var 0) (dap_cons (dp_gref fx.g_InvalidNumber) da_nil))) da_nil))))))
      (dsps_cons (dsp_set sc__law_names.nd (dp_op od_add (dp_var 1) (dp_lst (dap_cons (dp_callB hisE fx.m_isinstance (dap_cons (dp_var 0) (dap_cons (dp_gref fx.g_InvalidPrices) da_nil))) (dap_cons (dp_callB hisE fx.m_isinstance (dap_cons (dp_var 0) (dap_cons (dp_gref fx.g_InvalidIndex) da_nil))) (dap_cons (dp_callB hisE fx.m_isinstance (dap_cons (dp_var 0) (dap_cons (dp_gref fx.g_InvalidPlace) da_nil))) da_nil))))))
      (dsps_cons (dsp_set sc__law_names.nd (dp_op od_add (dp_var 1) (dp_lst (dap_cons (dp_callB hisE fx.m_isinstance (dap_cons (dp_var 0) (dap_cons (dp_gref fx.g_InvalidText) da_nil))) (dap_cons (dp_callB hisE fx.m_isinstance (dap_cons (dp_var 0) (dap_cons (dp_gref fx.g_Unlike) da_nil))) (dap_cons (dp_callB hisE fx.m_isinstance (dap_cons (dp_var 0) (dap_cons (dp_gref fx.g_NothingToUndo) da_nil))) da_nil))))))
      (dsps_cons (dsp_set sc__law_names.nd (dp_op od_add (dp_var 1) (dp_lst (dap_cons (dp_callB hisE fx.m_isinstance (dap_cons (dp_var 0) (dap_cons (dp_gref fx.g_TooMany) da_nil))) (dap_cons (dp_callB hisE fx.m_isinstance (dap_cons (dp_var 0) (dap_cons (dp_gty fx.m_ValueError (by decide +kernel)) da_nil))) da_nil)))))
      (dsps_cons (dsp_set sc__law_names.nd dp_str)
      (dss_one (dsp_ret (dp_join dp_str (dp_lcZ hhot sc__law_names.nd (dip_zipZ fx.m_zip (dap_cons (dp_split (dp_var 2) dp_str) (dap_cons (dp_var 1) da_nil))) (blkOk_by (own := [("_law_label", 3), ("_law_good", 4)]) (by kernel_rfl)) (fun s H C cl fp => (dg_twoZ sc__law_names.nd)) (fun s H C cl fp => (dts_one (dpt_tru (dp_var 4)))) (fun s H C cl fp => (dp_var 3)) (by decide)))))))))))
theorem w__law_all_ties {P : Program} {w : World} {K : PySem.W.Frag} {mg : Str → Option Value} {base : Heap} {T : List (Addr × Str)} {cs : Str → Addr} {k : Nat} (fx : Fx K mg cs) (c__law_pairs : Cal P w K mg base T k "_law_pairs" 1 (purSp (F__law_pairs cs))) :
    Cal P w K mg base T (k + 1) "_law_all_ties" 1 (purSp (F__law_all_ties cs)) := by
  obtain ⟨f, fd, F, hm⟩ := fx.d__law_all_ties
  refine cal_pure (cal_dp hm F (fun _ _ _ _ _ _ us hl => match us, hl with | [_], _ => rfl) sc__law_all_ties rfl fun cdv A outer s H E hr => ?_)
  exact (dsps_cons (dsp_set sc__law_all_ties.nd (dp_lst (dap_cons (dp_tup da_nil) da_nil)))
      (dsps_cons (dsp_for (passes_of rfl) rfl (dip_seq (dp_call (L2N.takes_of rfl rfl rfl rfl) hr c__law_pairs (dap_cons (dp_var 0) da_nil))) (dg_name sc__law_all_ties.nd)
      (dss_one (dsp_set sc__law_all_ties.nd (dp_op od_add (dp_var 1) (dp_lc rfl sc__law_all_ties.nd (dip_seq (dp_var 1)) (blkOk_by (own := [("_law_ties_so", 3)]) (by kernel_rfl)) (fun s H C cl fp => (dg_name sc__law_all_ties.nd)) (fun s H C cl fp => dts_nil) (fun s H C cl fp => (dp_op od_add (dp_var 3) (dp_tup (dap_cons (dp_var 2) da_nil)))) (by decide))))))
      (dss_one (dsp_ret (dp_var 1)))))
theorem w_law {P : Program} {w : World} {K : PySem.W.Frag} {mg : Str → Option Value} {base : Heap} {T : List (Addr × Str)} {cs : Str → Addr} {k : Nat} {p__law_drum : DSp} {p__law_web : DSp} {p__law_roll : DSp} (fx : Fx K mg cs) (c__law_all_ties : Cal P w K mg base T k "_law_all_ties" 1 (purSp (F__law_all_ties cs))) (c__law_falling : Cal P w K mg base T k "_law_falling" 2 (purSp (F__law_falling cs))) (c__law_is_row : Cal P w K mg base T k "_law_is_row" 1 (purSp (F__law_is_row cs))) (c__law_drum : Cal P w K mg base T k "_law_drum" 2 p__law_drum) (c__law_row : Cal P w K mg base T k "_law_row" 1 (purSp (F__law_row cs))) (c__law_web : Cal P w K mg base T k "_law_web" 2 p__law_web) (c_webs_with : Cal P w K mg base T k "webs_with" 1 (purSp (F_webs_with cs))) (c__law_degrees : Cal P w K mg base T k "_law_degrees" 1 (purSp (F__law_degrees cs))) (c__law_roll : Cal P w K mg base T k "_law_roll" 2 p__law_roll) (c__law_far_by : Cal P w K mg base T k "_law_far_by" 2 (purSp (F__law_far_by cs))) (c_rows_with : Cal P w K mg base T k "rows_with" 2 (purSp (F_rows_with cs))) {nm : Value → Option Str} (cz : CalZ P w K mg base T k "_law_names" (F__law_names cs)) (nmOk : NamesOk K (cs "HalfError") (F__law_names cs) nm) {c P0 : Addr} (lf : ∀ f fd, FnP K "law" s_law f fd → mg "law" = some (.ref f) → LamF base mg T fd "law.<locals>.<lambda>" c P0) {f : Addr} {fd : FuncData} (F : FnP K "law" s_law f fd) (hm : mg "law" = some (.ref f)) :
    FnOk P w K mg base (L2N.CX P w) (k + 3) f fd ["_law_script"] (spOf K T 1 (D_law cs nm p__law_drum p__law_web p__law_roll)) := by
  obtain ⟨fe, fde, Fe, hme⟩ := fx.d__law_error
  have lf := lf f fd F hm
  refine fn_dpC F lf.code sc_law rfl fun A outer s H E hr2 => ?_
  have hr : Room k (A.deeper (envOfC "law" (L2.defScope s_law) s.heap.objs.size f (.ref c))) := hr2.mono (by omega)
  exact (dss_cons (ds_set sc_law.nd (de_dict rfl fx.m_dict (dap_cons (dp_lc rfl sc_law.nd (dip_range2 fx.m_range (dap_cons dp_int (dap_cons dp_int da_nil))) (blkOk_by (own := [("_law_places", 3)]) (by kernel_rfl)) (fun s H C cl fp => (dg_name sc_law.nd)) (fun s H C cl fp => dts_nil) (fun s H C cl fp => (dp_tup (dap_cons (dp_var 3) (dap_cons (dp_call tk0 hr c__law_all_ties (dap_cons (dp_var 3) da_nil)) da_nil)))) (by decide)) da_nil)))
      (dss_cons (ds_set sc_law.nd de_dicN)
      (dss_cons (ds_for (passes_of rfl) rfl (dip_range2 fx.m_range (dap_cons dp_int (dap_cons dp_int da_nil))) (dg_name sc_law.nd)
      (dss_one (ds_dicS (uR1 hr) (dp_var 2) (dp_var 3) (dp_lc rfl sc_law.nd (dip_seq (dp_call (L2N.takes_of rfl rfl rfl rfl) hr c__law_falling (dap_cons (dp_var 3) (dap_cons (dp_op od_sub (dp_var 3) dp_int) da_nil)))) (blkOk_by (own := [("_law_row_here", 10)]) (by kernel_rfl)) (fun s H C cl fp => (dg_name sc_law.nd)) (fun s H C cl fp => (dts_one (dpt_tru (dp_call tk0 hr c__law_is_row (dap_cons (dp_var 10) da_nil))))) (fun s H C cl fp => (dp_var 10)) (by decide)))))
      (dss_cons (ds_for (passes_of rfl) rfl (dip_seq (dp_sl (dp_op od_add (dp_lst (dap_cons dp_int da_nil)) (dp_var 0)) do_none (dop_some dp_int))) (dg_name sc_law.nd)
      (dss_cons (ds_set sc_law.nd (de_call (L2N.takes_of rfl rfl rfl rfl) hr c__law_drum (dap_cons (dp_var 4) (dap_cons dp_int da_nil))))
      (dss_cons (ds_for (passes_of rfl) rfl (dip_range1 fx.m_range (dap_cons dp_int da_nil)) (dg_name sc_law.nd)
      (dss_cons (ds_set sc_law.nd (de_call (L2N.takes_of rfl rfl rfl rfl) hr c__law_row (da_cons (de_call (L2N.takes_of rfl rfl rfl rfl) hr c__law_web (dap_cons (dp_var 6) (dap_cons dp_int da_nil))) da_nil)))
      (dss_cons (ds_setLc rfl sc_law.nd (di_seq (de_dicG (uR1 hr) (dp_var 1) (dp_callB cd_len fx.m_len (dap_cons (dp_var 10) da_nil)))) (blkOk_by (own := [("_law_ties_so", 13)]) (by kernel_rfl)) (fun s H C cl fp => (dg_name sc_law.nd)) (fun s H C cl fp => (dts_one (dpt_cmp (od_eq (uR64 hr)) (dp_callB (cd_sum rfl) fx.m_sum (dap_cons (dp_var 10) da_nil)) (dp_op od_mulT dp_int (dp_callB cd_len fx.m_len (dap_cons (dp_var 13) da_nil)))))) (fun s H C cl fp => (dp_tup (dap_cons (dp_callB cd_len fx.m_len (dap_cons (dp_var 10) da_nil)) (dap_cons (dp_var 13) da_nil)))) (by decide) (sw_true rfl rfl rfl (by kernel_rfl)))
      (dss_cons (dsp_if (dpt_cmp (od_ne (uR64 hr)) (dp_call (L2N.takes_of rfl rfl rfl rfl) hr c_webs_with (dap_cons (dp_var 10) da_nil)) (dp_callB (cd_sortT (uR64 hr)) fx.m_sorted (dap_cons (dp_lc rfl sc_law.nd (dip_seq (dp_var 5)) (blkOk_by (own := [("_law_one", 14)]) (by kernel_rfl)) (fun s H C cl fp => (dg_name sc_law.nd)) (fun s H C cl fp => (dts_one (dpt_cmp (od_eq (uR64 hr)) (dp_callTy cd_tuple fx.m_tuple (dap_cons (dp_call tk0 hr c__law_degrees (dap_cons (dp_var 14) da_nil)) da_nil)) (dp_var 10)))) (fun s H C cl fp => (dp_var 14)) (by decide)) da_nil)))
      (dss_one (dsp_ret dp_bl))
      dsps_nil)
      (dss_cons (ds_par rfl sc_law.nd (da_cons (de_op od_add dp_int (de_call (L2N.takes_of rfl rfl rfl rfl) hr c__law_roll (dap_cons (dp_var 6) (dap_cons dp_int da_nil)))) (da_cons (de_call (L2N.takes_of rfl rfl rfl rfl) hr c__law_roll (dap_cons (dp_var 6) (dap_cons dp_int da_nil))) da_nil)))
      (dss_cons (ds_set sc_law.nd (de_lstM da_nil))
      (dss_cons (ds_for (passes_of rfl) rfl (di_seq (de_dicG (uR1 hr) (dp_var 2) (dp_var 3))) (dg_name sc_law.nd)
      (dss_one (ds_if (dpt_cmp (od_eq (uR64 hr)) (dp_callB (cd_minG rfl (uR64 hr)) fx.m_min (dap_cons (dp_lc rfl sc_law.nd (dip_range1 fx.m_range (dap_cons (dp_op od_add (dp_var 3) dp_int) da_nil)) (blkOk_by (own := [("_law_size", 15)]) (by kernel_rfl)) (fun s H C cl fp => (dg_name sc_law.nd)) (fun s H C cl fp => dts_nil) (fun s H C cl fp => (dp_call tk0 hr c__law_far_by (dap_cons (dp_var 10) (dap_cons (dp_var 15) da_nil)))) (by decide)) da_nil)) (dp_var 12))
      (dss_one (ds_expr (de_append (dp_var 11) (dp_var 10))))
      dsps_nil)))
      (dss_frz (dss_one (dsp_if (dpt_cmp (od_ne (uR64 hr)) (dp_call (L2N.takes_of rfl rfl rfl rfl) hr c_rows_with (dap_cons (dp_var 3) (dap_cons (dp_var 12) da_nil))) (dp_var 11))
      (dss_one (dsp_ret dp_bl))
      dsps_nil))))))))))
      (dsps_cons (dsp_for (passes_of rfl) rfl (dip_seq (dp_tup (dap_cons dp_non (dap_cons (dp_tup da_nil) (dap_cons (dp_tup (dap_cons dp_int da_nil)) (dap_cons (dp_op od_mulT (dp_tup (dap_cons dp_int da_nil)) dp_int) (dap_cons (dp_lst (dap_cons dp_int da_nil)) (dap_cons (dp_tup (dap_cons dp_int (dap_cons dp_int (dap_cons dp_int (dap_cons dp_int (dap_cons dp_int (dap_cons dp_int da_nil))))))) da_nil)))))))) (dg_name sc_law.nd)
      (dss_one (dsp_if (dpt_cmp (od_ne (uR64 hr)) (dp_err hme Fe rfl (fun _ _ _ _ _ _ us hl => match us, hl with | [_], _ => rfl) sc__law_error (.inl rfl) rfl rfl rfl (by decide) fx.g_HalfError cz nmOk lf rfl rfl hr2 (LamX.lamS_by (by kernel_rfl)) rfl (fun _ _ _ _ _ => rfl) (fun A outer s H E f c' hr => (dp_call (L2N.takes_of rfl rfl rfl rfl) hr c_webs_with (dap_cons (dp_var 8) da_nil)))) dp_str)
      (dss_one (dsp_ret dp_bl))
      dsps_nil)))
      (dsps_cons (dsp_setLc rfl sc_law.nd (dip_seq (dp_tup (dap_cons dp_non (dap_cons dp_int (dap_cons dp_int (dap_cons dp_bl da_nil)))))) (blkOk_by (own := [("_law_odd", 8)]) (by kernel_rfl)) (fun s H C cl fp => (dg_name sc_law.nd)) (fun s H C cl fp => dts_nil) (fun s H C cl fp => (dp_err hme Fe rfl (fun _ _ _ _ _ _ us hl => match us, hl with | [_], _ => rfl) sc__law_error (.inl rfl) rfl rfl rfl (by decide) fx.g_HalfError cz nmOk lf rfl rfl hr2 (LamX.lamS_by (by kernel_rfl)) rfl (fun _ _ _ _ _ => rfl) (fun A outer s H E f c' hr => (dp_call (L2N.takes_of rfl rfl rfl rfl) hr c_rows_with (dap_cons (dp_var 8) (dap_cons dp_non da_nil)))))) (by decide) (sw_true rfl rfl rfl (by kernel_rfl)))
      (dsps_cons (dsp_set sc_law.nd (dp_op od_add (dp_var 9) (dp_lc rfl sc_law.nd (dip_seq (dp_tup (dap_cons dp_non (dap_cons (dp_un ud_neg dp_int) (dap_cons dp_int (dap_cons dp_bl da_nil)))))) (blkOk_by (own := [("_law_odd", 8)]) (by kernel_rfl)) (fun s H C cl fp => (dg_name sc_law.nd)) (fun s H C cl fp => dts_nil) (fun s H C cl fp => (dp_err hme Fe rfl (fun _ _ _ _ _ _ us hl => match us, hl with | [_], _ => rfl) sc__law_error (.inl rfl) rfl rfl rfl (by decide) fx.g_HalfError cz nmOk lf rfl rfl hr2 (LamX.lamS_by (by kernel_rfl)) rfl (fun _ _ _ _ _ => rfl) (fun A outer s H E f c' hr => (dp_call (L2N.takes_of rfl rfl rfl rfl) hr c_rows_with (dap_cons dp_int (dap_cons (dp_var 8) da_nil)))))) (by decide))))
      (dss_one (dsp_if (dpt_cmp (od_ne (uR64 hr)) (dp_var 9) (dp_op od_mulT (dp_lst (dap_cons dp_str da_nil)) dp_int))
      (dss_one (dsp_ret dp_bl))
      dsps_nil))))))))
      (dsps_cons (dsp_if (dt_of (dpw_or (dpt_cmp (od_ne (uR64 hr)) (dp_call (L2N.takes_of rfl rfl rfl rfl) hr c_webs_with (dap_cons (dp_tup (dap_cons dp_int (dap_cons dp_int (dap_cons dp_int da_nil)))) da_nil)) (dp_lst (dap_cons (dp_tup (dap_cons dp_int (dap_cons (dp_tup (dap_cons (dp_tup (dap_cons dp_int (dap_cons dp_int da_nil))) (dap_cons (dp_tup (dap_cons dp_int (dap_cons dp_int da_nil))) da_nil))) da_nil))) da_nil))) (dw_or1 (dpt_cmp (od_ne (uR64 hr)) (dp_callB cd_len fx.m_len (dap_cons (dp_call (L2N.takes_of rfl rfl rfl rfl) hr c_webs_with (dap_cons (dp_tup (dap_cons dp_int (dap_cons dp_int (dap_cons dp_int (dap_cons dp_int da_nil))))) da_nil)) da_nil)) dp_int))))
      (dss_one (dsp_ret dp_bl))
      dsps_nil)
      (dsps_cons (dsp_set sc_law.nd (dp_lst (dap_cons (dp_call (L2N.takes_of rfl rfl rfl rfl) hr c_rows_with (dap_cons dp_int (dap_cons dp_int da_nil))) (dap_cons (dp_call (L2N.takes_of rfl rfl rfl rfl) hr c_rows_with (dap_cons dp_int (dap_cons dp_int da_nil))) (dap_cons (dp_callB cd_len fx.m_len (dap_cons (dp_call (L2N.takes_of rfl rfl rfl rfl) hr c_rows_with (dap_cons dp_int (dap_cons dp_int da_nil))) da_nil)) (dap_cons (dp_call (L2N.takes_of rfl rfl rfl rfl) hr c_rows_with (dap_cons dp_int (dap_cons dp_int da_nil))) da_nil))))))
      (dsps_cons (dsp_if (dpt_cmp (od_ne (uR64 hr)) (dp_var 5) (dp_lst (dap_cons (dp_lst (dap_cons (dp_tup (dap_cons dp_int (dap_cons dp_int (dap_cons dp_int (dap_cons dp_int da_nil))))) (dap_cons (dp_tup (dap_cons dp_int (dap_cons dp_int (dap_cons dp_int (dap_cons dp_int da_nil))))) da_nil))) (dap_cons (dp_lst da_nil) (dap_cons dp_int (dap_cons (dp_lst (dap_cons (dp_tup (dap_cons dp_int (dap_cons dp_int (dap_cons dp_int (dap_cons dp_int (dap_cons dp_int da_nil)))))) da_nil)) da_nil))))))
      (dss_one (dsp_ret dp_bl))
      dsps_nil)
      (dss_one (dsp_ret (dp_and (dp_cmp (od_eq (uR64 hr)) (dp_callB cd_len fx.m_len (dap_cons (dp_call (L2N.takes_of rfl rfl rfl rfl) hr c_webs_with (dap_cons (dp_tup (dap_cons dp_int (dap_cons dp_int (dap_cons dp_int (dap_cons dp_int (dap_cons dp_int da_nil)))))) da_nil)) da_nil)) dp_int) (dp_and (dp_cmp (od_eq (uR64 hr)) (dp_call (L2N.takes_of rfl rfl rfl rfl) hr c_rows_with (dap_cons dp_int (dap_cons dp_int da_nil))) (dp_lst da_nil)) (de_one (dp_cmp (od_eq (uR64 hr)) (dp_call (L2N.takes_of rfl rfl rfl rfl) hr c_rows_with (dap_cons dp_int (dap_cons dp_int da_nil))) (dp_lst (dap_cons (dp_tup (dap_cons dp_int da_nil)) da_nil)))))))))))))))
end Wk05

end
section
set_option Elab.async false
set_option linter.all false
set_option maxRecDepth 100000
set_option maxHeartbeats 4000000
namespace Wk05
open PySem PySem.Spec PyProof.Rows L2 DL NH
variable {cs : Str → Addr} {nm : Value → Option Str}
theorem whole_eq {v : Dat} (h : plain v = true) (lo hi : Int) : F_is_whole cs [v, .int lo, .int hi] = .ok (.bl (wholeB v lo hi)) := by
  have h1 := oIsi_eq h (n := "int") (.inl rfl)
  have h2 := oIsi_eq h (n := "bool") (.inr (.inl rfl))
  simp [F_is_whole, def_eq, startD, n_is_whole, h1, h2]
  cases v <;> first | (cases h; done) | simp [isiT, wholeB]
  rename_i i
  by_cases h : lo ≤ i <;> simp [h]
theorem pairs_eq : ∀ p : Nat, p ≤ 7 → F_all_pairs cs [.int p] = .ok (.lst ((prs p).map dpr)) := fun p hp => by
  match p, hp with
  | 0, _ => rfl
  | 1, _ => rfl
  | 2, _ => rfl
  | 3, _ => rfl
  | 4, _ => rfl
  | 5, _ => rfl
  | 6, _ => rfl
  | 7, _ => rfl
theorem lpairs_eq : ∀ p : Nat, p ≤ 7 → F__law_pairs cs [.int p] = .ok (.lst ((prs p).map dpr)) := fun p hp => by
  match p, hp with
  | 0, _ => rfl
  | 1, _ => rfl
  | 2, _ => rfl
  | 3, _ => rfl
  | 4, _ => rfl
  | 5, _ => rfl
  | 6, _ => rfl
  | 7, _ => rfl
theorem roll_ok (ds : List Dat) (M : DM) (Q : DQ) (E : DX) (h : spRoll ds M Q E) : D__law_roll cs ds M Q E := by
  obtain ⟨a, n, rfl, h1, h2, ⟨g, b, hM, hg, hb, hb2⟩, k⟩ := h
  by_cases hg0 : 0 < g
  · simp [D__law_roll, dDef, startD, n__law_roll, dSeq, dIfS, dTest, dOp2, dIxM, pur, purA, purS, hM, oGt, cmpO, hg0, dSet, dCB, dCons, int_ok, mod_ok h1, dStore, fdiv_ok h1 h2, DEnds.fl]
    refine k _ _ (Int.emod_nonneg _ (by omega)) (Int.emod_lt_of_pos _ h1) ⟨g / n, b, dupd_same, Int.ediv_nonneg hg (by omega), hb, hb2⟩ fun c hc => dupd_ne hc
  · have e1 : oMod (.int (b * 30671 + 8807)) (.int 2147483549) = some (.int ((b * 30671 + 8807) % 2147483549)) := mod_ok (by decide)
    have hb' : 0 ≤ (b * 30671 + 8807) % 2147483549 ∧ (b * 30671 + 8807) % 2147483549 < 2147483549 := ⟨Int.emod_nonneg _ (by decide), Int.emod_lt_of_pos _ (by decide)⟩
    generalize hbb : (b * 30671 + 8807) % 2147483549 = b1 at e1 hb'
    have m1 : oMul (.int b) (.int 30671) = some (.int (b * 30671)) := mul_ok (by decide)
    have m2 : oMul (.int b1) (.int (b1 + 101)) = some (.int (b1 * (b1 + 101))) := mul_ok (by omega)
    have e2 : oMod (.int (b1 * (b1 + 101))) (.int 2147483587) = some (.int (b1 * (b1 + 101) % 2147483587)) := mod_ok (by decide)
    have e3 : ∀ i, oFdiv (.int i) (.int 613) = some (.int (i / 613)) := fun i => fdiv_ok (by decide) (by decide)
    simp [D__law_roll, dDef, startD, n__law_roll, dSeq, dIfS, dTest, dOp2, dIxM, pur, purA, purS, hM, oGt, cmpO, hg0, dSet, dCB, dCons, int_ok, mod_ok h1, dStore, m1, e1, DEnds.fl, dupd_same, m2, e2, e3]
    refine k _ _ (Int.emod_nonneg _ (by omega)) (Int.emod_lt_of_pos _ h1) ⟨g, b1, dupd_same, hg, hb'.1, by omega⟩ fun c hc => dupd_ne hc
theorem drum_ok (ds : List Dat) (M : DM) (Q : DQ) (E : DX) (h : spDrum ds M Q E) : D__law_drum cs ds M Q E := by
  obtain ⟨c, t, rfl, t0, t1, k⟩ := h
  have e1 : oPow (.int 10) (.int 18) = some (.int 1000000000000000000) := rfl
  have e2 : oFdiv (.int c) (.int 7) = some (.int (c / 7)) := fdiv_ok (by decide) (by decide)
  have e3 : oMul (.int 61) (.int t) = some (.int (61 * t)) := mul_ok (by omega)
  have e4 : oMul (.int c) (.int 97) = some (.int (c * 97)) := mul_ok (by decide)
  have e5 : oMul (.int 1087) (.int t) = some (.int (1087 * t)) := mul_ok (by omega)
  have e6 : oMod (.int (c * 97 + 1087 * t)) (.int 2077504273) = some (.int ((c * 97 + 1087 * t) % 2077504273)) := mod_ok (by decide)
  have hz : 2 ≤ sizeLine := by decide
  have hb : 0 ≤ (c * 97 + 1087 * t) % 2077504273 ∧ (c * 97 + 1087 * t) % 2077504273 < 2077504273 := ⟨Int.emod_nonneg _ (by decide), Int.emod_lt_of_pos _ (by decide)⟩
  by_cases hc : 1000000000000000000 ≤ c
  · simp [D__law_drum, dDef, n__law_drum, startD, dSeq, purS, e1, oGe, cmpO, hc, e2, e3, DEnds.fl, dRet, dLstM, purA, e4, e5, int_ok, e6, hz]
    intro p hp
    refine k p _ hp ⟨_, _, dupd_same, ?_, ?_, ?_⟩ (fun c hc => dupd_ne hc) <;> omega
  · simp [D__law_drum, dDef, n__law_drum, startD, dSeq, purS, e1, oGe, cmpO, hc, e2, e3, DEnds.fl, dRet, dLstM, purA, e4, e5, int_ok, e6, hz]
    intro p hp
    refine k p _ hp ⟨_, _, dupd_same, ?_, ?_, ?_⟩ (fun c hc => dupd_ne hc) <;> omega
theorem some_ok (ds : List Dat) (M : DM) (Q : DQ) (E : DX) (h : spSome ds M Q E) : D__law_some cs spRoll ds M Q E := by
  obtain ⟨a, xs, rfl, h0, hl, hD, k⟩ := h
  have hpos : 0 < xs.length := List.length_pos_iff.mpr h0
  simp [D__law_some, dDef, n__law_some, startD, dRet, dOp2, pur, purA, dCall]
  refine ⟨a, xs.length, rfl, by omega, by omega, hD, fun j M' h1 h2 hD' hF => ?_⟩
  obtain ⟨j, rfl⟩ : ∃ i : Nat, j = i := ⟨j.toNat, by omega⟩
  have hj : j < xs.length := by omega
  rw [ix_natL hj]
  exact k _ M' (List.getElem_mem hj) hD' hF
theorem loop_prs (p : Nat) (hp : p ≤ 7) {a : Addr} {th : Int} {s1 s2 s3 : Option Dat} {Q : List Dat → DM → Prop} {M : DM} (hD : Drum M a) (k : ∀ (ps : List II) M', ps.Sublist (prs p) → Drum M' a → Fr a M M' → Q (ps.map dpr) M') :
    dLcL (gOne 6) (dTest (dOp2 oLt (dCall 2 spRoll (purA (fCons (fVar 0) (fCons (fC (.int 6)) fNil)))) (pur (fVar 4)))) (pur (fVar 6)) [some (.ref a), s1, s2, s3, some (.int th), none, none] ((prs p).map dpr) M Q := by
  refine lcL_sub (a := a) _ M Q hD (fun x _ M Q hD q => ?_) (fun x _ M Q q => ?_) fun ys M' hs hD' hF => ?_
  · simp [dTest, dOp2, dCall, purA, pur]
    exact ⟨a, 6, rfl, by decide, by decide, hD, fun j M' _ _ hD' hF => q _ M' hD' hF⟩
  · exact pE (x := x) (by simp) q
  · obtain ⟨qs, rfl, h⟩ := sub_map hs
    exact k qs M' h hD' hF
theorem web_ok (ds : List Dat) (M : DM) (Q : DQ) (E : DX) (h : spWeb ds M Q E) : D__law_web cs spRoll spSome ds M Q E := by
  obtain ⟨a, top, rfl, top1, top7, hD, k⟩ := h
  have z0 := sz 0 (by decide)
  have z2 := sz 2 (by decide)
  have z3 := sz 3 (by decide)
  have z4 := sz 4 (by decide)
  have z5 := sz 5 (by decide)
  simp [D__law_web, dDef, n__law_web, startD, dSeq, dIfS, dTest, dOp2, dCall, purA, pur, eqI]
  refine ⟨a, 7, rfl, by decide, by decide, hD, fun j M1 h1 h2 hD1 hF1 => ?_⟩
  by_cases hj : j = 0
  · simp [hj, eqI, dSet, dLstM, purA, z0, z2, z3, z4, z5, dSeq, dExpr, dApp, pur, dFrz, dRet, dCall, dupd_same]
    intro p hp
    have hpa : a ≠ p := by
      obtain ⟨g, b, e, _⟩ := hD1
      intro z; rw [z, hp] at e; cases e
    have lc : ∀ s2 : Option Dat, fLcL (gOne 5) (fTest (fOp2 oLe (fOp2 oIx (fVar 5) (fC (.int 0))) (fVar 1))) (fVar 5) [some (.ref a), some (.int top), s2, none, none, none, none] (wsL.map fun w => mkW w.1 w.2) = .ok ((wsL.filter fun w => decide (w.1 ≤ top)).map fun w => mkW w.1 w.2) := fun s2 => by
      exact lc_m (fun w : Nat × List II => mkW w.1 w.2) (fun w => decide (w.1 ≤ top)) (fun w => mkW w.1 w.2) fun w _ => ⟨_, rfl, by simp, fun _ => by simp⟩
    have hne : ((wsL.filter fun w => decide (w.1 ≤ top)).map fun w => mkW w.1 w.2) ≠ [] := by
      have : ((1, []) : Nat × List II) ∈ wsL.filter fun w => decide (w.1 ≤ top) := List.mem_filter.mpr ⟨by simp [wsL], by simpa using top1⟩
      intro e
      rw [List.map_eq_nil_iff] at e
      rw [e] at this
      cases this
    have hle : ((wsL.filter fun w => decide (w.1 ≤ top)).map fun w => mkW w.1 w.2).length ≤ 1000 := by
      rw [List.length_map]
      exact Nat.le_trans (List.length_filter_le _ _) (by decide)
    have hin : ∀ x ∈ ((wsL.filter fun w => decide (w.1 ≤ top)).map fun w => mkW w.1 w.2), ∃ q qs, x = mkW q qs ∧ Wb q qs ∧ q ≤ top := fun x hx => by
      obtain ⟨w, hw, rfl⟩ := List.mem_map.mp hx
      obtain ⟨w1, w2⟩ := List.mem_filter.mp hw
      exact ⟨w.1, w.2, rfl, wsL_wb w w1, by simpa using w2⟩
    generalize ((wsL.filter fun w => decide (w.1 ≤ top)).map fun w => mkW w.1 w.2) = ys at lc hne hle hin
    simp only [wsL, List.map_cons, List.map_nil, mkW, dpr] at lc
    have hfr : ∀ o u, NH.Fr a M1 (ddel (dupd (dupd M1 p o) p u) p) := fun o u b hb => by
      by_cases e : b = p
      · rw [e, ddel_same, hp]
      · rw [ddel_ne e, dupd_ne e, dupd_ne e]
    refine ⟨by omega, ?_⟩
    first | simp only [lc, R.ok_bind, calm_ok, R.wp_ok] | (have lc := lc; simp at lc; simp only [lc, R.ok_bind, calm_ok, R.wp_ok])
    refine ⟨rfl, a, ys, rfl, hne, hle, ?_, fun x M2 hx hD2 hF2 => ?_⟩
    · obtain ⟨g, b, e, r⟩ := hD1
      exact ⟨g, b, by rw [ddel_ne hpa, dupd_ne hpa, dupd_ne hpa]; exact e, r⟩
    · obtain ⟨q, qs, rfl, w1, w2⟩ := hin x hx
      exact k q qs M2 w1 w2 hD2 (hF1.trans ((hfr _ _).trans hF2))
  · simp [hj, eqI, purS, DEnds.fl, dSeq, dSet2, dTup, dCons, dOp2, pur, dCall, purA]
    refine ⟨a, top, rfl, by omega, by omega, hD1, fun k1 M2 a1 a2 hD2 hF2 => ?_⟩
    simp
    refine ⟨a, 5, rfl, by decide, by decide, hD2, fun k2 M3 b1 b2 hD3 hF3 => ?_⟩
    obtain ⟨q, rfl⟩ : ∃ q : Nat, k1 = q := ⟨k1.toNat, by omega⟩
    have lp := lpairs_eq (cs := cs) (q + 1) (by omega)
    rw [show ((q + 1 : Nat) : Int) = 1 + (q : Int) by omega] at lp
    simp [z2, gTwo, dRet, dTup, dCons, pur, dCB, dLc, purA, lp]
    refine loop_prs (q + 1) (by omega) hD3 fun ps M4 hs hD4 hF4 => ?_
    have := k (q + 1) ps M4 ⟨by omega, by omega, hs⟩ (by omega) hD4 (hF1.trans (hF2.trans (hF3.trans hF4)))
    unfold mkW at this
    rw [show ((q + 1 : Nat) : Int) = 1 + (q : Int) by omega] at this
    exact this
/-! ### degrees -/
theorem ldeg_eq {p : Nat} {ps : List II} (hp : p ≤ 7) : F__law_degrees cs [mkW p ps] = .ok (.lst ((degs p ps).map .int)) := by
  simp [F__law_degrees, def_eq, startD, n__law_degrees, rngP (n := p) (by omega)]
  rw [lc_mA (h := fun i => Dat.int (cnt i ps))]
  case hx =>
    intro i hi
    refine ⟨_, rfl, ?_⟩
    simp
    rw [lc_m (p := hasI i) (h := fun x => Dat.int 1)]
    case hx => exact fun x hx => ⟨_, rfl, by simp [in_dpr], fun _ => rfl⟩
    simp [NH.cnt]
  simp [degs]
/-! ### webs that are asked for -/
end Wk05

end
section
set_option Elab.async false
set_option linter.all false
set_option maxRecDepth 100000
set_option maxHeartbeats 4000000
namespace Wk05
open PySem PySem.Spec PyProof.Rows L2 DL NH
variable {cs : Str → Addr} {nm : Value → Option Str}
/-! ### sides -/
/-! ### changes -/
/-! ### by degrees -/
theorem byd_eq {row : List Int} {m : Nat} (h : m ≤ row.length) (hl : row.length ≤ 1000) : F_by_degrees cs [.tup (row.map .int), .int m] = .ok (.int (byDeg row m)) := by
  have e1 : oMul (.int m) (.int ((m : Int) - 1)) = some (.int (m * (m - 1))) := mul_ok (by omega)
  have e2 : DL.cutD (row.map Dat.int) (some (m : Int)) none = (row.drop m).map .int := by rw [cut_drop (by simpa using h), List.map_drop]
  have e3 : DL.cutD (row.map Dat.int) none (some (m : Int)) = (row.take m).map .int := by rw [cut_take (by simpa using h), List.map_take]
  have e4 : ∀ i, oFdiv (.int i) (.int 2) = some (.int (i / 2)) := fun i => fdiv_ok (by decide) (by decide)
  have e5 : oSum [.tup (List.drop m (row.map Dat.int))] = some (.int (row.drop m).sum) := by rw [← List.map_drop]; exact sum_intsT _
  have e6 : oSum [.tup (List.take m (row.map Dat.int))] = some (.int (row.take m).sum) := by rw [← List.map_take]; exact sum_intsT _
  simp [F_by_degrees, def_eq, startD, n_by_degrees, e1, oSl, e2, e3, e4, e5, e6, byDeg]
theorem leastby_eq {row : List Int} (hl : row.length ≤ 1000) : F_least_by cs [.tup (row.map .int)] = .ok (.int (leastBy row)) := by
  have hr := rngP (n := row.length + 1) (by omega)
  rw [show ((row.length + 1 : Nat) : Int) = (row.length : Int) + 1 by omega] at hr
  simp [F_least_by, def_eq, startD, n_least_by, hr]
  rw [lc_mA (h := fun k => Dat.int (byDeg row k.toNat))]
  case hx =>
    intro k hk
    obtain ⟨k0, k1⟩ := mem_places.mp hk
    obtain ⟨j, rfl⟩ : ∃ j : Nat, k = j := ⟨k.toNat, by omega⟩
    exact ⟨_, rfl, by simp [byd_eq (cs := cs) (row := row) (m := j) (by omega) hl]⟩
  have e : (places (row.length + 1)).map (fun k => Dat.int (byDeg row k.toNat)) = ((List.range (row.length + 1)).map (byDeg row)).map Dat.int := by
    rw [places_map (row.length + 1) fun k => Dat.int (byDeg row k), List.map_map]; rfl
  rw [e]
  have m := minG_ints (l := (List.range (row.length + 1)).map (byDeg row)) (by simp)
  generalize ((List.range (row.length + 1)).map (byDeg row)).map Dat.int = L at m
  simp [m, leastBy]
end Wk05

end
section
set_option Elab.async false
set_option linter.all false
set_option maxRecDepth 100000
set_option maxHeartbeats 4000000
namespace Wk05
open PySem PySem.Spec PyProof.Rows L2 DL NH
variable {cs : Str → Addr} {nm : Value → Option Str}
theorem iow_odd {row : List Int} (c : row.sum % 2 = 1) : F_is_of_web cs [.tup (row.map .int)] = .ok (.bl false) := by
  have em : oMod (.int row.sum) (.int 2) = some (.int (row.sum % 2)) := mod_ok (by decide)
  simp [F_is_of_web, def_eq, startD, n_is_of_web, em, c]
theorem iow_def : F_is_of_web cs = fDef n_is_of_web (fSeq (fIfS (fTest (fOp2 oEq (fOp2 oMod (fCB oSum (fCons (fVar 0) fNil)) (fC (.int 2))) (fC (.int 1)))) (fRet (fC (.bl false))) fNext) (fSeq (fFor (fIt oRng2 (fCons (fC (.int 1)) (fCons (fOp2 oAdd (fCB oLen (fCons (fVar 0) fNil)) (fC (.int 1))) fNil))) (gOne 1) iowBody) (fRet (fC (.bl true))))) := rfl
theorem iow_even {row : List Int} (hl : row.length ≤ 60) (c : ¬ row.sum % 2 = 1) : F_is_of_web cs [.tup (row.map .int)] = .ok (.bl ((List.range row.length).all fun k => egK row (k + 1))) := by
  have em : oMod (.int row.sum) (.int 2) = some (.int (row.sum % 2)) := mod_ok (by decide)
  have hr := rng2_ok (n := row.length) (by omega)
  obtain ⟨g1, g2⟩ := iow_loop (row := row) hl
  have s1 : fIfS (fTest (fOp2 oEq (fOp2 oMod (fCB oSum (fCons (fVar 0) fNil)) (fC (.int 2))) (fC (.int 1)))) (fRet (fC (.bl false))) fNext (startD n_is_of_web [.tup (row.map .int)]) = .ok (.nx [some (.tup (row.map .int)), none, none]) := by
    simp [startD, n_is_of_web, em, c]
  have it : fIt oRng2 (fCons (fC (.int 1)) (fCons (fOp2 oAdd (fCB oLen (fCons (fVar 0) fNil)) (fC (.int 1))) fNil)) [some (.tup (row.map .int)), none, none] = .ok ((List.range row.length).map fun (k : Nat) => Dat.int (1 + (k : Int))) := by
    refine it_ev ?_ hr
    simp only [e_cons, e_c, e_op2, e_cb, e_var0, e_nil, R.ok_bind, len_tup, List.length_map, R.of_some, add_ii]
  rw [iow_def, def_eq]
  cases t : (List.range row.length).all fun k => egK row (k + 1) with
  | true =>
    obtain ⟨ρ', f1⟩ := g1 t
    rw [seqN s1 (seqN (forN it f1) rfl)]
    rfl
  | false =>
    have f1 := g2 t
    have f2 := forN (g := gOne 1) it f1
    rw [seqN s1 (by rw [e_seq, f2])]
    rfl
theorem iow_eq {row : List Int} (hl : row.length ≤ 60) : F_is_of_web cs [.tup (row.map .int)] = .ok (.bl (egB row)) := by
  by_cases c : row.sum % 2 = 1
  · rw [iow_odd c]
    unfold egB
    rw [decide_eq_false (show ¬ row.sum % 2 = 0 by omega)]
    rfl
  · rw [iow_even hl c]
    unfold egB
    rw [decide_eq_true (show row.sum % 2 = 0 by omega)]
    rfl
theorem fits_row_eq {v : Dat} {n m : Nat} (h : fit (n + 2) v = true) (hm : m ≤ 50) : F_fits_row cs [v, .int (m : Int)] = .ok (.bl (rowB m v)) := by
  have h1 := oIsi_eq (dok_plain (fit_dok _ _ h)) (n := "tuple") (.inr (.inr (.inl rfl)))
  cases v with
  | tup xs =>
    obtain ⟨hw, hx⟩ := fit_tup h
    have la := lc_all (i := 2) (f := fCall 3 (F_is_whole cs) (fCons (fVar 2) (fCons (fC (.int 0)) (fCons (fOp2 oSub (fCB oLen (fCons (fVar 0) fNil)) (fC (.int 1))) fNil)))) (ρ := [some (.tup xs), some (.int (m : Int)), none, none]) (fun x => Dat.bl (wholeB x 0 ((xs.length : Int) - 1))) (xs := xs) fun x hx' => by
      have := whole_eq (cs := cs) (dok_plain (fit_dok _ _ (hx x hx'))) 0 ((xs.length : Int) - 1)
      simp [this]
    have ba := all_map (fun x => wholeB x 0 ((xs.length : Int) - 1)) xs
    generalize hL1 : (xs.map fun x => Dat.bl (wholeB x 0 ((xs.length : Int) - 1))) = L1 at la ba
    by_cases c1 : (1 : Int) ≤ xs.length
    · by_cases c2 : (xs.length : Int) ≤ m
      · have d1 : decide (1 ≤ xs.length) = true := by simp; omega
        have d2 : decide (xs.length ≤ m) = true := by simp; omega
        cases e : xs.all (fun x => wholeB x 0 ((xs.length : Int) - 1)) with
        | false =>
          rw [e] at ba
          simp [F_fits_row, def_eq, startD, n_fits_row, h1, isiT, c1, c2, la, ba, rowB, e]
        | true =>
          rw [e] at ba
          clear hL1
          obtain ⟨ns, rfl, hn⟩ := row_ints e
          rw [List.length_map] at hw c1 c2 d1 d2
          have sb : rowB m (.tup (ns.map Dat.int)) = (chR geI ns && egB ns) := by simp only [rowB, List.length_map, d1, d2, DL.dints_map, Bool.true_and]; rw [List.length_map] at e; rw [e]; rfl
          have hr := rngI (i := (ns.length : Int) - 1) (by omega) (by omega)
          have io := iow_eq (cs := cs) (row := ns) (by omega)
          rw [sb]
          simp [F_fits_row, def_eq, startD, n_fits_row, h1, isiT, c1, c2, la, ba, hr]
          rw [lc_mA (h := fun k => Dat.bl (geI (gI ns k) (gI ns (k + 1))))]
          case hx =>
            intro k hk
            obtain ⟨k0, k1⟩ := mem_places.mp hk
            refine ⟨_, rfl, ?_⟩
            have a1 := ixI (ns := ns) (k := k) k0 (by omega)
            have a2 := ixI (ns := ns) (k := k + 1) (by omega) (by omega)
            simp [a1, a2, geI, oGe, cmpO]
          have am := all_map (fun k : Int => geI (gI ns k) (gI ns (k + 1))) (places (ns.length - 1))
          rw [chR_places] at am
          have e3 : ((ns.length : Int) - 1).toNat = ns.length - 1 := by omega
          simp only [e3, R.ok_bind, calm_ok, am, R.of_some]
          cases chR geI ns <;> simp [io]
      · have d2 : decide (xs.length ≤ m) = false := by simp; omega
        simp [F_fits_row, def_eq, startD, n_fits_row, h1, isiT, c1, c2, rowB, d2]
    · have d1 : decide (1 ≤ xs.length) = false := decide_eq_false (by omega)
      simp [F_fits_row, def_eq, startD, n_fits_row, h1, isiT, c1, rowB, d1]
  | _ => simp [F_fits_row, def_eq, startD, n_fits_row, h1, isiT, rowB]
theorem need_row_no {v : Dat} {n m : Nat} (h : fit (n + 2) v = true) (hm : m ≤ 50) (e : rowB m v = false) : F_need_row cs [v, .int (m : Int)] = .exc (.ref (cs "InvalidRow")) := by
  simp [F_need_row, def_eq, startD, n_need_row, fits_row_eq (cs := cs) h hm, e]
theorem need_row_yes {row : List Int} {m : Nat} (h : Rw row) (hl : row.length ≤ m) (hm : m ≤ 50) : F_need_row cs [.tup (row.map .int), .int (m : Int)] = .ok .non := by
  have hf : fit (0 + 2) (.tup (row.map Dat.int)) = true := fit_sd 1 (by have := h.le; omega)
  simp [F_need_row, def_eq, startD, n_need_row, fits_row_eq (cs := cs) hf hm, rw_row h hl]
theorem need_num_yes {i lo hi : Int} (h1 : lo ≤ i) (h2 : i ≤ hi) : F_need_number cs [.int i, .int lo, .int hi] = .ok .non := by
  have := whole_eq (cs := cs) (v := .int i) rfl lo hi
  simp [F_need_number, def_eq, startD, n_need_number, this, wholeB, h1, h2]
theorem need_num_no {v : Dat} {lo hi : Int} (h : plain v = true) (e : wholeB v lo hi = false) : F_need_number cs [v, .int lo, .int hi] = .exc (.ref (cs "InvalidNumber")) := by
  have := whole_eq (cs := cs) h lo hi
  simp [F_need_number, def_eq, startD, n_need_number, this, e]
theorem lfb_eq {row : List Int} {m : Nat} (h : m ≤ row.length) (hl : row.length ≤ 1000) : F__law_far_by cs [.tup (row.map .int), .int m] = .ok (.int (byDeg row m)) := by
  have e1 : oMulT (.int m) (.int ((m : Int) - 1)) = some (.int (m * (m - 1))) := mul_ok (by omega)
  have e2 : DL.cutD (row.map Dat.int) (some (m : Int)) none = (row.drop m).map .int := by rw [cut_drop (by simpa using h), List.map_drop]
  have e3 : DL.cutD (row.map Dat.int) none (some (m : Int)) = (row.take m).map .int := by rw [cut_take (by simpa using h), List.map_take]
  have e4 : ∀ i, oFdiv (.int i) (.int 2) = some (.int (i / 2)) := fun i => fdiv_ok (by decide) (by decide)
  have e5 : oSum [.tup (List.drop m (row.map Dat.int))] = some (.int (row.drop m).sum) := by rw [← List.map_drop]; exact sum_intsT _
  have e6 : oSum [.tup (List.take m (row.map Dat.int))] = some (.int (row.take m).sum) := by rw [← List.map_take]; exact sum_intsT _
  have e7 : (m : Int) * (m - 1) - (row.take m).sum + (row.drop m).sum = m * (m - 1) + (row.drop m).sum - (row.take m).sum := by omega
  simp [F__law_far_by, def_eq, startD, n__law_far_by, e1, oSl, e2, e3, e4, e5, e6, byDeg, e7]
theorem lrow_eq {p : Nat} {ps : List II} (hp : p ≤ 7) : F__law_row cs [mkW p ps] = .ok (.tup ((frow (degs p ps)).map .int)) := by
  simp [F__law_row, def_eq, startD, n__law_row, ldeg_eq (cs := cs) hp, oSortT_ints, oRev, frow]
/-! ### the law's own -/
theorem lay_while : ∀ (n m : Nat) (left : List Int) (r0 : Option Dat) (ρ : DSt), left.length ≤ n → left.length ≤ 60 → n < m → ρ.length = 5 → gt ρ 1 = some (.lst (left.map .int)) →
    (NH.layB n left = true → ∃ ρ', fWhile (fAnd (fTest (fOp2 oNe (fVar 1) (fLst fNil))) (fTest (fOp2 oGt (fOp2 oIx (fVar 1) (fC (.int 0))) (fC (.int 0))))) (fSeq (fPar 2 3 (fCons (fOp2 oIx (fVar 1) (fC (.int 0))) (fCons (fSl (fVar 1) (fPart (fC (.int 1))) fNoPart) fNil))) (fSeq (fIfS (fOr (fTest (fOp2 oGt (fVar 2) (fCB oLen (fCons (fVar 3) fNil)))) (fTest (fOp2 oEq (fOp2 oIx (fVar 3) (fOp2 oSub (fVar 2) (fC (.int 1)))) (fC (.int 0))))) (fRet (fC (.bl false))) fNext) (fSet 1 (fOp1 oRev (fCB oSortT (fCons (fOp2 oAdd (fLc (fSeqI (fSl (fVar 3) fNoPart (fPart (fVar 2)))) (gOne 4) fYes (fOp2 oSub (fVar 4) (fC (.int 1))) [4]) (fSl (fVar 3) (fPart (fVar 2)) fNoPart)) fNil)))))) m ρ = .ok (.nx ρ')) ∧
    (NH.layB n left = false → fWhile (fAnd (fTest (fOp2 oNe (fVar 1) (fLst fNil))) (fTest (fOp2 oGt (fOp2 oIx (fVar 1) (fC (.int 0))) (fC (.int 0))))) (fSeq (fPar 2 3 (fCons (fOp2 oIx (fVar 1) (fC (.int 0))) (fCons (fSl (fVar 1) (fPart (fC (.int 1))) fNoPart) fNil))) (fSeq (fIfS (fOr (fTest (fOp2 oGt (fVar 2) (fCB oLen (fCons (fVar 3) fNil)))) (fTest (fOp2 oEq (fOp2 oIx (fVar 3) (fOp2 oSub (fVar 2) (fC (.int 1)))) (fC (.int 0))))) (fRet (fC (.bl false))) fNext) (fSet 1 (fOp1 oRev (fCB oSortT (fCons (fOp2 oAdd (fLc (fSeqI (fSl (fVar 3) fNoPart (fPart (fVar 2)))) (gOne 4) fYes (fOp2 oSub (fVar 4) (fC (.int 1))) [4]) (fSl (fVar 3) (fPart (fVar 2)) fNoPart)) fNil)))))) m ρ = .ok (.rt (.bl false))) := by
  intro n
  induction n with
  | zero =>
    intro m left r0 ρ hl h60 hm h5 h1
    rw [List.length_eq_zero_iff.mp (by omega : left.length = 0)] at h1 ⊢
    obtain ⟨m, rfl⟩ : ∃ k, m = k + 1 := ⟨m - 1, by omega⟩
    refine ⟨fun _ => ⟨ρ, ?_⟩, fun h => by simp [NH.layB] at h⟩
    have z0 := sz 0 (by decide)
    have e := ne_self (d := .lst []) rfl
    unfold fWhile
    simp [e_varT, h1, z0, e]
  | succ n ih =>
    intro m left r0 ρ hl h60 hm h5 h1
    obtain ⟨m, rfl⟩ : ∃ k, m = k + 1 := ⟨m - 1, by omega⟩
    have z0 := sz 0 (by decide)
    rcases left with _ | ⟨x, rest⟩
    · refine ⟨fun _ => ⟨ρ, ?_⟩, fun h => by simp [NH.layB] at h⟩
      have e := ne_self (d := .lst []) rfl
      unfold fWhile
      simp [e_varT, h1, z0, e]
    · have e1 : oNe (.lst ((x :: rest).map Dat.int)) (.lst []) = some (.bl true) := by
        unfold oNe
        rw [dok_intsL]
        rfl
      have e2 : oIx (.lst ((x :: rest).map Dat.int)) (.int 0) = some (.int x) := by
        rw [ixIL (ns := x :: rest) (k := 0) (by decide) (by simp)]; rfl
      have v1 : fVar 1 ρ = .ok (.lst ((x :: rest).map .int)) := by rw [e_varT, h1]
      have gx : oGt (.int x) (.int 0) = some (.bl (decide (0 < x))) := rfl
      by_cases hx : x ≤ 0
      · refine ⟨fun _ => ⟨ρ, ?_⟩, fun h => by rw [NH.layB, if_pos hx] at h; cases h⟩
        have c : decide (0 < x) = false := by simp; omega
        unfold fWhile
        simp only [e_and, e_test, e_op2, v1, e_lst, e_nil, R.ok_bind, List.length_nil, if_pos z0, e1, R.of_some, if_true, e_c, e2, gx, c, Bool.false_eq_true, if_false] <;> rfl
      · have c : decide (0 < x) = true := by simp; omega
        have e3 : DL.cutD ((x :: rest).map Dat.int) (some 1) none = rest.map .int := by
          have := cut_drop (xs := (x :: rest).map Dat.int) (k := 1) (by simp)
          exact this
        have hlen : ((x :: rest).length : Nat) = rest.length + 1 := rfl
        have f1 : (fPar 2 3 (fCons (fOp2 oIx (fVar 1) (fC (.int 0))) (fCons (fSl (fVar 1) (fPart (fC (.int 1))) fNoPart) fNil))) ρ = .ok (.nx ((ρ.set 2 (some (.int x))).set 3 (some (.lst (rest.map .int))))) := by
          simp only [e_par, e_cons, e_op2, v1, e_c, R.ok_bind, e2, R.of_some, e_sl, e_part, e_noPart, oSl, e3, e_nil]
        obtain ⟨ρ2, q2⟩ : ∃ ρ2, ρ2 = (ρ.set 2 (some (.int x))).set 3 (some (.lst (rest.map .int))) := ⟨_, rfl⟩
        rw [← q2] at f1
        have l2 : ρ2.length = 5 := by rw [q2]; simp [h5]
        have g2 : fVar 2 ρ2 = .ok (.int x) := by rw [q2]; simp [e_varT, h5]
        have g3 : fVar 3 ρ2 = .ok (.lst (rest.map .int)) := by rw [q2]; simp [e_varT, h5]
        by_cases bad : (rest.length : Int) < x ∨ rest.getD (x.toNat - 1) 0 = 0
        · have lf : NH.layB (n + 1) (x :: rest) = false := by rw [NH.layB, if_neg hx, if_pos bad]
          refine ⟨fun h => (by rw [lf] at h; cases h), fun _ => ?_⟩
          have t1 : (fOr (fTest (fOp2 oGt (fVar 2) (fCB oLen (fCons (fVar 3) fNil)))) (fTest (fOp2 oEq (fOp2 oIx (fVar 3) (fOp2 oSub (fVar 2) (fC (.int 1)))) (fC (.int 0))))) ρ2 = .ok true := by
            by_cases b1 : (rest.length : Int) < x
            · simp [g2, g3, oGt, cmpO, b1]
            · have b2 := bad.resolve_left b1
              have ix := ixIL (ns := rest) (k := x - 1) (by omega) (by omega)
              have : gI rest (x - 1) = 0 := by unfold gI; rw [show (x - 1).toNat = x.toNat - 1 by omega]; exact b2
              rw [this] at ix
              simp [g2, g3, oGt, cmpO, b1, ix]
          unfold fWhile
          simp only [e_and, e_test, e_op2, v1, e_lst, e_nil, R.ok_bind, List.length_nil, if_pos z0, e1, R.of_some, if_true, e_c, e2, gx, c]
          (rw [seqN f1 (by rw [e_seq, e_ifS, t1])]) <;> rfl
        · have lf : NH.layB (n + 1) (x :: rest) = NH.layB n (layN x rest) := by rw [NH.layB, if_neg hx, if_neg bad]
          rw [lf]
          have b1 : ¬ (rest.length : Int) < x := fun h => bad (.inl h)
          have b2 : ¬ rest.getD (x.toNat - 1) 0 = 0 := fun h => bad (.inr h)
          have ix := ixIL (ns := rest) (k := x - 1) (by omega) (by omega)
          have gn : ¬ gI rest (x - 1) = 0 := by unfold gI; rw [show (x - 1).toNat = x.toNat - 1 by omega]; exact b2
          have t1 : (fOr (fTest (fOp2 oGt (fVar 2) (fCB oLen (fCons (fVar 3) fNil)))) (fTest (fOp2 oEq (fOp2 oIx (fVar 3) (fOp2 oSub (fVar 2) (fC (.int 1)))) (fC (.int 0))))) ρ2 = .ok false := by
            simp [g2, g3, oGt, cmpO, b1, ix, gn]
          obtain ⟨k, rfl⟩ : ∃ k : Nat, x = k := ⟨x.toNat, by omega⟩
          have ct : DL.cutD (rest.map Dat.int) none (some (k : Int)) = (rest.take k).map .int := by rw [cut_take (by simp; omega), List.map_take]
          have cd : DL.cutD (rest.map Dat.int) (some (k : Int)) none = (rest.drop k).map .int := by rw [cut_drop (by simp; omega), List.map_drop]
          have lc : fLcL (gOne 4) fYes (fOp2 oSub (fVar 4) (fC (.int 1))) (wipeD ρ2 [4]) ((rest.take k).map .int) = .ok (((rest.take k).map (· - 1)).map .int) := by
            rw [lc_mA (h := fun y => Dat.int (y - 1))]
            · rw [List.map_map]; rfl
            · intro y hy
              exact ⟨_, rfl, by simp [e_varT, l2]⟩
          have ad := oAdd_lst Dat.int ((rest.take k).map (· - 1)) (rest.drop k) (by rw [List.length_map, List.length_take, List.length_drop]; omega)
          have so := oSortT_ints ((rest.take k).map (· - 1) ++ rest.drop k)
          have lay : layN (k : Int) rest = (srt ((rest.take k).map (· - 1) ++ rest.drop k)).reverse := by
            unfold layN; rw [← frow_fsort]; rfl
          have f3 : fSet 1 (fOp1 oRev (fCB oSortT (fCons (fOp2 oAdd (fLc (fSeqI (fSl (fVar 3) fNoPart (fPart (fVar 2)))) (gOne 4) fYes (fOp2 oSub (fVar 4) (fC (.int 1))) [4]) (fSl (fVar 3) (fPart (fVar 2)) fNoPart)) fNil))) ρ2 = .ok (.nx (ρ2.set 1 (some (.lst ((layN (k : Int) rest).map .int))))) := setN (by
            simp only [e_op1, e_cb, e_cons, e_op2, e_lc, e_seqI, e_sl, g3, g2, e_noPart, e_part, R.ok_bind, oSl, ct, cd, R.of_some, seq_lst, lc, calm_ok, e_nil, ad, so, oRev, lay, List.map_reverse])
          have ll : (layN (k : Int) rest).length = rest.length := by
            rw [lay, List.length_reverse, (srt_perm _).length_eq, List.length_append, List.length_map, List.length_take, List.length_drop]; omega
          obtain ⟨i1, i2⟩ := ih m (layN (k : Int) rest) r0 (ρ2.set 1 (some (.lst ((layN (k : Int) rest).map .int)))) (by rw [ll]; simp at hl; omega) (by rw [ll]; simp at h60; omega) (by omega) (by simp [l2]) (by simp [l2])
          have st : ∀ r, fWhile (fAnd (fTest (fOp2 oNe (fVar 1) (fLst fNil))) (fTest (fOp2 oGt (fOp2 oIx (fVar 1) (fC (.int 0))) (fC (.int 0))))) (fSeq (fPar 2 3 (fCons (fOp2 oIx (fVar 1) (fC (.int 0))) (fCons (fSl (fVar 1) (fPart (fC (.int 1))) fNoPart) fNil))) (fSeq (fIfS (fOr (fTest (fOp2 oGt (fVar 2) (fCB oLen (fCons (fVar 3) fNil)))) (fTest (fOp2 oEq (fOp2 oIx (fVar 3) (fOp2 oSub (fVar 2) (fC (.int 1)))) (fC (.int 0))))) (fRet (fC (.bl false))) fNext) (fSet 1 (fOp1 oRev (fCB oSortT (fCons (fOp2 oAdd (fLc (fSeqI (fSl (fVar 3) fNoPart (fPart (fVar 2)))) (gOne 4) fYes (fOp2 oSub (fVar 4) (fC (.int 1))) [4]) (fSl (fVar 3) (fPart (fVar 2)) fNoPart)) fNil)))))) m (ρ2.set 1 (some (.lst ((layN (k : Int) rest).map .int)))) = r → fWhile (fAnd (fTest (fOp2 oNe (fVar 1) (fLst fNil))) (fTest (fOp2 oGt (fOp2 oIx (fVar 1) (fC (.int 0))) (fC (.int 0))))) (fSeq (fPar 2 3 (fCons (fOp2 oIx (fVar 1) (fC (.int 0))) (fCons (fSl (fVar 1) (fPart (fC (.int 1))) fNoPart) fNil))) (fSeq (fIfS (fOr (fTest (fOp2 oGt (fVar 2) (fCB oLen (fCons (fVar 3) fNil)))) (fTest (fOp2 oEq (fOp2 oIx (fVar 3) (fOp2 oSub (fVar 2) (fC (.int 1)))) (fC (.int 0))))) (fRet (fC (.bl false))) fNext) (fSet 1 (fOp1 oRev (fCB oSortT (fCons (fOp2 oAdd (fLc (fSeqI (fSl (fVar 3) fNoPart (fPart (fVar 2)))) (gOne 4) fYes (fOp2 oSub (fVar 4) (fC (.int 1))) [4]) (fSl (fVar 3) (fPart (fVar 2)) fNoPart)) fNil)))))) (m + 1) ρ = r := fun r hr => by
            rw [fWhile]
            simp only [e_and, e_test, e_op2, v1, e_lst, e_nil, R.ok_bind, List.length_nil, if_pos z0, e1, R.of_some, if_true, e_c, e2, gx, c]
            rw [seqN f1 (seqN (ρ' := ρ2) (by rw [e_ifS, t1]; rfl) f3)]
            exact hr
          refine ⟨fun h => ?_, fun h => st _ (i2 h)⟩
          obtain ⟨ρ', h'⟩ := i1 h
          exact ⟨ρ', st _ h'⟩
theorem laid_eq {ns : List Int} (hl : ns.length ≤ 8) : F__law_laid_off cs [.tup (ns.map .int)] = .ok (.bl (NH.layB 8 ns)) := by
  obtain ⟨w1, w2⟩ := lay_while 8 64 ns none [some (.tup (ns.map .int)), some (.lst (ns.map .int)), none, none, none] hl (by omega) (by decide) rfl rfl
  have s1 : fSet 1 (fCB oListS (fCons (fVar 0) fNil)) [some (.tup (ns.map .int)), none, none, none, none] = .ok (.nx [some (.tup (ns.map .int)), some (.lst (ns.map .int)), none, none, none]) := by simp [oListS]
  unfold F__law_laid_off
  rw [def_eq]
  cases e : NH.layB 8 ns with
  | true =>
    obtain ⟨ρ', h⟩ := w1 e
    (rw [seqN (ρ := startD n__law_laid_off [.tup (ns.map .int)]) s1 (seqN h rfl)]) <;> rfl
  | false =>
    have h := w2 e
    (rw [seqN (ρ := startD n__law_laid_off [.tup (ns.map .int)]) s1 (by rw [e_seq, h])]) <;> rfl
theorem lisrow_eq {v : Dat} {n : Nat} (h : fit (n + 2) v = true) (hn : n ≤ 50) : F__law_is_row cs [v] = .ok (.bl (rowB 7 v)) := by
  rw [← lrow_row]
  have h1 := oIsi_eq (dok_plain (fit_dok _ _ h)) (n := "tuple") (.inr (.inr (.inl rfl)))
  cases v with
  | tup xs =>
    obtain ⟨hw, hx⟩ := fit_tup h
    by_cases c1 : (1 : Int) ≤ xs.length
    · by_cases c2 : (xs.length : Int) ≤ 7
      · have d1 : decide (1 ≤ xs.length) = true := by simp; omega
        have d2 : decide (xs.length ≤ 7) = true := by simp; omega
        have lb := lc_eq (i := 1) (t := fOr (fNot (fTru (fCB oIsi (fCons (fVar 1) (fCons (fC (.ty "int")) fNil))))) (fOr (fTru (fCB oIsi (fCons (fVar 1) (fCons (fC (.ty "bool")) fNil)))) (fTest (fOp2 oLt (fVar 1) (fC (.int 0)))))) (f := fVar 1) (ρ := [some (.tup xs), none]) badI id (xs := xs) (fun x hx' => by
          have px := dok_plain (fit_dok _ _ (hx x hx'))
          have i1 := oIsi_eq px (n := "int") (.inl rfl)
          have i2 := oIsi_eq px (n := "bool") (.inr (.inl rfl))
          simp [i1, i2]
          cases x <;> first | (cases px; done) | simp [isiT, badI]) (fun x hx' _ => by simp)
        rw [List.map_id] at lb
        have dk : dok 60 (.lst (xs.filter badI)) = true := by
          refine fit_dok 60 _ (fit_le (n := n + 2) ?_ (by omega))
          have := List.length_filter_le badI xs
          simp only [fit, Bool.and_eq_true, decide_eq_true_eq, List.all_eq_true]
          exact ⟨by omega, fun x hx' => hx x (List.mem_filter.mp hx').1⟩
        have ne := ne_nilD dk
        cases eb : (xs.filter badI).isEmpty with
        | false =>
          rw [eb] at ne
          have lf : lrowB (.tup xs) = false := by
            simp only [lrowB, d1, d2, Bool.true_and]
            cases en : dints xs with
            | none => rfl
            | some ns =>
              have ex := DL.dints_some en
              subst ex
              rw [bad_ints] at eb
              simp [eb]
          rw [lf]
          simp [F__law_is_row, def_eq, startD, n__law_is_row, h1, isiT, c1, c2, lb, ne]
        | true =>
          rw [eb] at ne
          obtain ⟨ns, rfl, h0⟩ := good_ints eb
          rw [List.length_map] at c1 c2 d1 d2 hw
          have so := oSortT_tup ns
          have la := laid_eq (cs := cs) (ns := ns) (by omega)
          have el : oEq (.lst (ns.map Dat.int)) (.lst ((frow ns).map .int)) = some (.bl (chR geI ns)) := by
            unfold oEq
            rw [dok_intsL, dok_intsL]
            have : deq (.lst (ns.map Dat.int)) (.lst ((frow ns).map .int)) = decide (ns = frow ns) := deq_ints _ _
            rw [this]
            rw [chain_eq]
            rfl
          have rv : oRev (.lst ((srt ns).map Dat.int)) = some (.lst ((frow ns).map .int)) := by simp [oRev, frow]
          have hb : lrowB (.tup (ns.map Dat.int)) = (chR geI ns && NH.layB 8 ns) := by
            simp only [lrowB, List.length_map, d1, d2, Bool.true_and, DL.dints_map]
            rw [h0]; rfl
          rw [hb]
          generalize (ns.map Dat.int).filter badI = X at lb ne
          simp [F__law_is_row, def_eq, startD, n__law_is_row, h1, isiT, c1, c2, lb, ne, so, rv, oListS, el]
          cases chR geI ns <;> simp [la]
      · have d2 : decide (xs.length ≤ 7) = false := by simp; omega
        simp [F__law_is_row, def_eq, startD, n__law_is_row, h1, isiT, c1, c2, lrowB, d2]
    · have d1 : decide (1 ≤ xs.length) = false := decide_eq_false (by omega)
      simp [F__law_is_row, def_eq, startD, n__law_is_row, h1, isiT, c1, lrowB, d1]
  | _ => simp [F__law_is_row, def_eq, startD, n__law_is_row, h1, isiT, lrowB]
end Wk05

end
section
set_option Elab.async false
set_option linter.all false
set_option maxRecDepth 100000
set_option maxHeartbeats 4000000
namespace Wk05
open PySem PySem.Spec PyProof.Rows L2 DL NH
variable {cs : Str → Addr} {nm : Value → Option Str}
theorem wf_eq {row : List Int} (h : Rw row) (h5 : row.length ≤ 5) : F_webs_for cs [.tup (row.map .int)] = .ok (.lst (sW row.length (wfL row))) := by
  have z0 := sz 0 (by decide)
  have z1 := sz 1 (by decide)
  have z2 := sz 2 (by decide)
  have hp : 0 < row.length := List.length_pos_iff.mpr h.ne
  have h0 : ∀ x ∈ row, 0 ≤ x := fun x hx => (h.mem x hx).1
  have e : F_webs_for cs = fDef n_webs_for (fSeq (fSet 1 (fLst (fCons (fTup (fCons (fTup fNil) (fCons (fCB oTuple (fCons (fVar 0) fNil)) fNil))) fNil))) (fSeq (fFor (fSeqI (fCall 1 (F_all_pairs cs) (fCons (fCB oLen (fCons (fVar 0) fNil)) fNil))) (gTwo 2 3) wfOut) (fRet (fCB oSortT (fCons (fLc (fSeqI (fVar 1)) (gTwo 5 6) (fTest (fOp2 oEq (fCB oMaxT (fCons (fVar 6) fNil)) (fC (.int 0)))) (fTup (fCons (fCB oLen (fCons (fVar 0) fNil)) (fCons (fVar 5) fNil))) [5, 6]) fNil))))) := rfl
  have el : leftOf row [] = row := by
    refine List.ext_getElem (leftOf_len _ _) fun i h1 h2 => ?_
    simp [leftOf, NH.cnt, h2]
  have s1 : fSet 1 (fLst (fCons (fTup (fCons (fTup fNil) (fCons (fCB oTuple (fCons (fVar 0) fNil)) fNil))) fNil)) (startD n_webs_for [.tup (row.map .int)]) = .ok (.nx [some (.tup (row.map .int)), some (.lst [encS row []]), none, none, none, none, none, none, none, none]) := by
    unfold encS
    rw [el]
    simp [startD, n_webs_for, z0, z1, z2, tieD]
  obtain ⟨ρ', f1, f2, f3, f4⟩ := wf_loop h0 h5 (ρ := [some (.tup (row.map .int)), some (.lst [encS row []]), none, none, none, none, none, none, none, none]) rfl rfl rfl
  have ap := pairs_eq (cs := cs) row.length (by omega)
  have s2 : fFor (fSeqI (fCall 1 (F_all_pairs cs) (fCons (fCB oLen (fCons (fVar 0) fNil)) fNil))) (gTwo 2 3) wfOut [some (.tup (row.map .int)), some (.lst [encS row []]), none, none, none, none, none, none, none, none] = .ok (.nx ρ') := forN (xs := (prs row.length).map dpr) (by simp [ap]) f1
  have v0 : fVar 0 ρ' = .ok (.tup (row.map .int)) := by rw [e_varT, f3]
  have v1 : fVar 1 ρ' = .ok (.lst ((progT row (prs row.length)).map (encS row))) := by rw [e_varT, f4]
  have lc : fLcL (gTwo 5 6) (fTest (fOp2 oEq (fCB oMaxT (fCons (fVar 6) fNil)) (fC (.int 0)))) (fTup (fCons (fCB oLen (fCons (fVar 0) fNil)) (fCons (fVar 5) fNil))) (wipeD ρ' [5, 6]) ((progT row (prs row.length)).map (encS row)) = .ok ((wfL row).map (mkW row.length)) := by
    rw [lc_m (p := fun t => decide (maxL (leftOf row t) = 0)) (h := mkW row.length)]
    · rw [prog_last h0]
    · intro t ht
      have w0 : fVar 0 (((wipeD ρ' [5, 6]).set 5 (some (tieD t))).set 6 (some (.tup ((leftOf row t).map .int)))) = .ok (.tup (row.map .int)) := by simp [e_varT, f3]
      have w5 : fVar 5 (((wipeD ρ' [5, 6]).set 5 (some (tieD t))).set 6 (some (.tup ((leftOf row t).map .int)))) = .ok (tieD t) := by simp [e_varT, f2]
      have w6 : fVar 6 (((wipeD ρ' [5, 6]).set 5 (some (tieD t))).set 6 (some (.tup ((leftOf row t).map .int)))) = .ok (.tup ((leftOf row t).map .int)) := by simp [e_varT, f2]
      have mx := maxT_ints (l := leftOf row t) (fun e => by have := leftOf_len row t; rw [e, List.length_nil] at this; omega)
      refine ⟨_, two_encS 5 6 row t _, ?_, fun _ => ?_⟩
      · simp only [e_test, e_op2, e_cb, e_cons, w6, e_nil, R.ok_bind, mx, R.of_some, e_c, eqI]
      · simp only [e_tup, e_cons, e_cb, w0, w5, e_nil, R.ok_bind, len_tup, List.length_map, R.of_some, List.length_cons, List.length_nil, if_pos z2]
        rfl
  have so := oSortT_webs row.length (wfL row)
  have s3 : fRet (fCB oSortT (fCons (fLc (fSeqI (fVar 1)) (gTwo 5 6) (fTest (fOp2 oEq (fCB oMaxT (fCons (fVar 6) fNil)) (fC (.int 0)))) (fTup (fCons (fCB oLen (fCons (fVar 0) fNil)) (fCons (fVar 5) fNil))) [5, 6]) fNil)) ρ' = .ok (.rt (.lst (sW row.length (wfL row)))) := by
    simp only [e_ret, e_cb, e_cons, e_lc, e_seqI, v1, R.ok_bind, seq_lst, R.of_some, lc, calm_ok, e_nil, so]
  rw [e, def_eq, seqN s1 (seqN s2 s3)]
  rfl
theorem ww_eq {row : List Int} (h : Rw row) (h5 : row.length ≤ 5) : F_webs_with cs [.tup (row.map .int)] = .ok (.lst (sW row.length (wfL row))) := by
  have a := need_row_yes (cs := cs) h h5 (by decide)
  simp at a
  simp [F_webs_with, def_eq, startD, n_webs_with, a, wf_eq h h5]
theorem ww_bad {v : Dat} {n : Nat} (h : fit (n + 2) v = true) (e : rowB 5 v = false) : F_webs_with cs [v] = .exc (.ref (cs "InvalidRow")) := by
  have a := need_row_no (cs := cs) (m := 5) h (by decide) e
  simp at a
  simp [F_webs_with, def_eq, startD, n_webs_with, a]
/-! ### rows listed -/
theorem fr_step {p k : Nat} (hp : p ≤ 6) (hk : k < p) {ρ : DSt} (hl : ρ.length = 5) (h0 : gt ρ 0 = some (.int p)) (h1 : gt ρ 1 = some (.lst ((rowsP p k).map sd))) :
    fSet 1 (fLc2 (fSeqI (fVar 1)) (gOne 3) fYes (fIt oRng1 (fCons (fIf (fTest (fOp2 oNe (fVar 3) (fTup fNil))) (fOp2 oAdd (fOp2 oIx (fVar 3) (fOp1 oNeg (fC (.int 1)))) (fC (.int 1))) (fVar 0)) fNil)) (gOne 4) fYes (fOp2 oAdd (fVar 3) (fTup (fCons (fVar 4) fNil))) [3, 4] [4]) ρ = .ok (.nx (ρ.set 1 (some (.lst ((rowsP p (k + 1)).map sd))))) := by
  have z0 := sz 0 (by decide)
  have z1 := sz 1 (by decide)
  have v1 : fVar 1 ρ = .ok (.lst ((rowsP p k).map sd)) := by rw [e_varT, h1]
  have len := (rows_lens ⟨p, by omega⟩ ⟨k + 1, by omega⟩).1
  have fl : ((rowsP p k).flatMap fun r => places (nxP p r)).length = (rowsP p (k + 1)).length := by simp [rowsP, List.length_flatMap]
  have lc := lc2_m (g := gOne 3) (g1 := gOne 4) (fi1 := fIt oRng1 (fCons (fIf (fTest (fOp2 oNe (fVar 3) (fTup fNil))) (fOp2 oAdd (fOp2 oIx (fVar 3) (fOp1 oNeg (fC (.int 1)))) (fC (.int 1))) (fVar 0)) fNil)) (f := fOp2 oAdd (fVar 3) (fTup (fCons (fVar 4) fNil))) (vs1 := [4]) (ρ := wipeD ρ [3, 4]) sd (fun r => places (nxP p r)) (fun r o => sd (r ++ [o])) (rowsP p k) 0 (by rw [fl]; simp only at len; omega) (fun r hr => by
    obtain ⟨r1, r2⟩ := rowsP_in p k r hr
    refine ⟨_, rfl, ?_, fun o ho => ⟨_, rfl, ?_⟩⟩
    · have w0 : fVar 0 ((wipeD ρ [3, 4]).set 3 (some (sd r))) = .ok (.int p) := by simp [e_varT, h0]
      have w3 : fVar 3 ((wipeD ρ [3, 4]).set 3 (some (sd r))) = .ok (sd r) := by simp [e_varT, hl]
      refine it_ev (xs := [.int (match r.getLast? with | none => (p : Int) | some x => x + 1)]) ?_ ?_
      · cases e : r.getLast? with
        | none =>
          have er : r = [] := List.getLast?_eq_none_iff.mp e
          have en : r.isEmpty = true := by rw [er]; rfl
          simp only [e_cons, e_if, e_test, e_op2, w3, e_tup, e_nil, R.ok_bind, List.length_nil, if_pos z0, neT_nil, en, R.of_some, Bool.not_true, Bool.false_eq_true, if_false, w0]
        | some x =>
          have en : r.isEmpty = false := by cases r with | nil => cases e | cons _ _ => rfl
          have il := ix_lastT e
          simp only [e_cons, e_if, e_test, e_op2, w3, e_tup, e_nil, R.ok_bind, List.length_nil, if_pos z0, neT_nil, en, R.of_some, Bool.not_false, if_true, e_op1, e_c, negI, il, add_ii]
      · unfold nxP
        cases e : r.getLast? with
        | none => exact rngP (n := p) (by omega)
        | some x =>
          have := r2 x (List.mem_of_getLast? e)
          exact rngI (i := x + 1) (by omega) (by omega)
    · have w3 : fVar 3 ((wipeD ((wipeD ρ [3, 4]).set 3 (some (sd r))) [4]).set 4 (some (.int o))) = .ok (sd r) := by simp [e_varT, hl]
      have w4 : fVar 4 ((wipeD ((wipeD ρ [3, 4]).set 3 (some (sd r))) [4]).set 4 (some (.int o))) = .ok (.int o) := by simp [e_varT, hl]
      simp only [e_op2, w3, e_tup, e_cons, w4, e_nil, R.ok_bind, List.length_cons, List.length_nil, if_pos z1, add_one_sd (s := r) (o := o) (by omega), R.of_some])
  have er : ((rowsP p k).flatMap fun r => (places (nxP p r)).map fun o => sd (r ++ [o])) = (rowsP p (k + 1)).map sd := by
    simp only [rowsP, List.map_flatMap, List.map_map, Function.comp_def]
  rw [er] at lc
  refine setN ?_
  show (fSeqI (fVar 1) ρ >>= fun xs => (fLc2L _ _ _ _ _ _ _ (wipeD ρ [3, 4]) xs 0).calm >>= fun ys => R.ok (Dat.lst ys)) = _
  simp only [e_seqI, v1, R.ok_bind, seq_lst, R.of_some, lc, calm_ok]
theorem fr_eq {p : Nat} (h1 : 1 ≤ p) (hp : p ≤ 6) : F_falling_rows cs [.int p] = .ok (.lst (((falls p (p - 1)).filter egB).map sd)) := by
  have z0 := sz 0 (by decide)
  have z1 := sz 1 (by decide)
  have hr := rngP (n := p) (by omega)
  have e : F_falling_rows cs = fDef n_falling_rows (fSeq (fSet 1 (fLst (fCons (fTup fNil) fNil))) (fSeq (fFor (fIt oRng1 (fCons (fVar 0) fNil)) (gOne 2) (fSet 1 (fLc2 (fSeqI (fVar 1)) (gOne 3) fYes (fIt oRng1 (fCons (fIf (fTest (fOp2 oNe (fVar 3) (fTup fNil))) (fOp2 oAdd (fOp2 oIx (fVar 3) (fOp1 oNeg (fC (.int 1)))) (fC (.int 1))) (fVar 0)) fNil)) (gOne 4) fYes (fOp2 oAdd (fVar 3) (fTup (fCons (fVar 4) fNil))) [3, 4] [4]))) (fRet (fLc (fSeqI (fVar 1)) (gOne 3) (fTru (fCall 1 (F_is_of_web cs) (fCons (fVar 3) fNil))) (fVar 3) [3])))) := rfl
  have s1 : fSet 1 (fLst (fCons (fTup fNil) fNil)) (startD n_falling_rows [.int p]) = .ok (.nx [some (.int p), some (.lst [.tup []]), none, none, none]) := by
    simp [startD, n_falling_rows, z0, z1]
  obtain ⟨ρ', f1, f2, f3, f4⟩ := forF_pre (g := gOne 2) (body := fSet 1 (fLc2 (fSeqI (fVar 1)) (gOne 3) fYes (fIt oRng1 (fCons (fIf (fTest (fOp2 oNe (fVar 3) (fTup fNil))) (fOp2 oAdd (fOp2 oIx (fVar 3) (fOp1 oNeg (fC (.int 1)))) (fC (.int 1))) (fVar 0)) fNil)) (gOne 4) fYes (fOp2 oAdd (fVar 3) (fTup (fCons (fVar 4) fNil))) [3, 4] [4])) Dat.int (fun l ρ => ρ.length = 5 ∧ gt ρ 0 = some (.int p) ∧ gt ρ 1 = some (.lst ((rowsP p l.length).map sd))) (places p) [some (.int p), some (.lst [.tup []]), none, none, none] (fun l x r el ρ hI => by
    obtain ⟨i0, i1, i2⟩ := hI
    have hlt := (places_at el).2
    have st := fr_step hp hlt (ρ := ρ.set 2 (some (.int x))) (by simp [i0]) (by simp [i1]) (by simp [i2])
    refine ⟨_, _, rfl, st, by simp [i0], by simp [i1], ?_⟩
    rw [List.length_append, List.length_singleton]
    simp [i0]) ⟨rfl, rfl, rfl⟩
  rw [places_len, rowsP_eq hp] at f4
  have s2 : fFor (fIt oRng1 (fCons (fVar 0) fNil)) (gOne 2) (fSet 1 (fLc2 (fSeqI (fVar 1)) (gOne 3) fYes (fIt oRng1 (fCons (fIf (fTest (fOp2 oNe (fVar 3) (fTup fNil))) (fOp2 oAdd (fOp2 oIx (fVar 3) (fOp1 oNeg (fC (.int 1)))) (fC (.int 1))) (fVar 0)) fNil)) (gOne 4) fYes (fOp2 oAdd (fVar 3) (fTup (fCons (fVar 4) fNil))) [3, 4] [4])) [some (.int p), some (.lst [.tup []]), none, none, none] = .ok (.nx ρ') := forN (xs := (places p).map .int) (it_ev (xs := [.int p]) (by simp) hr) f1
  have v1 : fVar 1 ρ' = .ok (.lst ((falls p (p - 1)).map sd)) := by rw [e_varT, f4]
  have lc : fLcL (gOne 3) (fTru (fCall 1 (F_is_of_web cs) (fCons (fVar 3) fNil))) (fVar 3) (wipeD ρ' [3]) ((falls p (p - 1)).map sd) = .ok (((falls p (p - 1)).filter egB).map sd) := by
    refine lc_m sd egB sd fun r hr => ?_
    obtain ⟨_, rl, _⟩ := of_falls p (p - 1) hr
    have w3 : fVar 3 ((wipeD ρ' [3]).set 3 (some (sd r))) = .ok (sd r) := by simp [e_varT, f2]
    have io : F_is_of_web cs [sd r] = .ok (.bl (egB r)) := iow_eq (cs := cs) (row := r) (by omega)
    exact ⟨_, rfl, by simp only [e_tru, e_call, e_cons, e_nil, w3, R.ok_bind, List.length_cons, List.length_nil, if_true, io, R.of_some, tru_bl], fun _ => w3⟩
  have s3 : fRet (fLc (fSeqI (fVar 1)) (gOne 3) (fTru (fCall 1 (F_is_of_web cs) (fCons (fVar 3) fNil))) (fVar 3) [3]) ρ' = .ok (.rt (.lst (((falls p (p - 1)).filter egB).map sd))) := by
    simp only [e_ret, e_lc, e_seqI, v1, R.ok_bind, seq_lst, R.of_some, lc, calm_ok]
  rw [e, def_eq, seqN s1 (seqN s2 s3)]
  rfl
def rowsW (p : Nat) (m : Int) : List (List Int) := ((falls p (p - 1)).filter egB).filter fun r => decide (leastBy r = m)
theorem rw_eq {p : Nat} {m : Int} (h1 : 1 ≤ p) (hp : p ≤ 6) (m0 : 0 ≤ m) (m1 : m ≤ 20) : F_rows_with cs [.int p, .int m] = .ok (.lst ((rowsW p m).map sd)) := by
  have a := need_num_yes (cs := cs) (i := p) (lo := 1) (hi := 6) (by omega) (by omega)
  have b := need_num_yes (cs := cs) (i := m) (lo := 0) (hi := 20) m0 m1
  have f := fr_eq (cs := cs) h1 hp
  have lc : fLcL (gOne 2) (fTest (fOp2 oEq (fCall 1 (F_least_by cs) (fCons (fVar 2) fNil)) (fVar 1))) (fVar 2) [some (.int p), some (.int m), none] (((falls p (p - 1)).filter egB).map sd) = .ok ((rowsW p m).map sd) := by
    refine lc_m sd (fun r => decide (leastBy r = m)) sd fun r hr => ?_
    obtain ⟨_, rl, _⟩ := of_falls p (p - 1) (List.mem_filter.mp hr).1
    have lb : F_least_by cs [sd r] = .ok (.int (leastBy r)) := leastby_eq (cs := cs) (row := r) (by omega)
    exact ⟨_, rfl, by simp [lb], fun _ => by simp⟩
  generalize ((falls p (p - 1)).filter egB).map sd = X at f lc
  simp [F_rows_with, def_eq, startD, n_rows_with, a, b, f, lc]
theorem rw_bad1 {v u : Dat} (h : plain v = true) (e : wholeB v 1 6 = false) : F_rows_with cs [v, u] = .exc (.ref (cs "InvalidNumber")) := by
  have a := need_num_no (cs := cs) h e
  simp [F_rows_with, def_eq, startD, n_rows_with, a]
theorem rw_bad2 {p : Nat} {u : Dat} (h1 : 1 ≤ p) (hp : p ≤ 6) (h : plain u = true) (e : wholeB u 0 20 = false) : F_rows_with cs [.int p, u] = .exc (.ref (cs "InvalidNumber")) := by
  have a := need_num_yes (cs := cs) (i := p) (lo := 1) (hi := 6) (by omega) (by omega)
  have b := need_num_no (cs := cs) h e
  simp [F_rows_with, def_eq, startD, n_rows_with, a, b]
/-! ### the law's own -/
theorem rowB_falls {p : Nat} (h1 : 1 ≤ p) (hp : p ≤ 7) {r : List Int} (h : r ∈ falls p (p - 1)) : rowB 7 (sd r) = egB r := by
  obtain ⟨a, b, c⟩ := of_falls p (p - 1) h
  cases e : egB r with
  | true =>
    exact rw_row ⟨fun z => by rw [z] at b; simp at b; omega, by omega, a, fun x hx => by have := c x hx; omega, e⟩ (by omega)
  | false =>
    unfold rowB sd
    simp only [DL.dints_map, e, Bool.and_false]
theorem lat_eq {p : Nat} (hp : p ≤ 5) : F__law_all_ties cs [.int p] = .ok (.lst ((growT (prs p)).map tieD)) := by
  have z0 := sz 0 (by decide)
  have z1 := sz 1 (by decide)
  have hpl : (prs p).length ≤ 10 := by
    have hp' : ∀ p : Fin 6, (prs p).length ≤ 10 := by decide
    exact hp' ⟨p, by omega⟩
  have lp := lpairs_eq (cs := cs) p (by omega)
  have e : F__law_all_ties cs = fDef n__law_all_ties (fSeq (fSet 1 (fLst (fCons (fTup fNil) fNil))) (fSeq (fFor (fSeqI (fCall 1 (F__law_pairs cs) (fCons (fVar 0) fNil))) (gOne 2) (fSet 1 (fOp2 oAdd (fVar 1) (fLc (fSeqI (fVar 1)) (gOne 3) fYes (fOp2 oAdd (fVar 3) (fTup (fCons (fVar 2) fNil))) [3])))) (fRet (fVar 1)))) := rfl
  have s1 : fSet 1 (fLst (fCons (fTup fNil) fNil)) (startD n__law_all_ties [.int p]) = .ok (.nx [some (.int p), some (.lst [.tup []]), none, none]) := by
    simp [startD, n__law_all_ties, z0, z1]
  obtain ⟨ρ', f1, f2, f3⟩ := forF_pre (g := gOne 2) (body := fSet 1 (fOp2 oAdd (fVar 1) (fLc (fSeqI (fVar 1)) (gOne 3) fYes (fOp2 oAdd (fVar 3) (fTup (fCons (fVar 2) fNil))) [3]))) dpr (fun l ρ => ρ.length = 4 ∧ gt ρ 1 = some (.lst ((growT l).map tieD))) (prs p) [some (.int p), some (.lst [.tup []]), none, none] (fun l x r el ρ hI => by
    obtain ⟨i0, i1⟩ := hI
    have hll : l.length ≤ 10 := by have := congrArg List.length el; simp at this; omega
    have gl : (growT l).length ≤ 1024 := by rw [growT_len]; exact Nat.pow_le_pow_right (by decide) hll
    have v1 : fVar 1 (ρ.set 2 (some (dpr x))) = .ok (.lst ((growT l).map tieD)) := by simp [e_varT, i1]
    have lc : fLcL (gOne 3) fYes (fOp2 oAdd (fVar 3) (fTup (fCons (fVar 2) fNil))) (wipeD (ρ.set 2 (some (dpr x))) [3]) ((growT l).map tieD) = .ok (((growT l).map (· ++ [x])).map tieD) := by
      rw [lc_mA (h := fun t => tieD (t ++ [x]))]
      · rw [List.map_map]; rfl
      · intro t ht
        have tl : t.length ≤ 10 := Nat.le_trans (growT_sub ht).length_le hll
        have w2 : fVar 2 ((wipeD (ρ.set 2 (some (dpr x))) [3]).set 3 (some (tieD t))) = .ok (dpr x) := by simp [e_varT, i0]
        have w3 : fVar 3 ((wipeD (ρ.set 2 (some (dpr x))) [3]).set 3 (some (tieD t))) = .ok (tieD t) := by simp [e_varT, i0]
        have ad : oAdd (tieD t) (.tup [dpr x]) = some (tieD (t ++ [x])) := oAdd_tup dpr t [x] (by simp; omega)
        exact ⟨_, rfl, by simp only [e_op2, w3, e_tup, e_cons, w2, e_nil, R.ok_bind, List.length_cons, List.length_nil, if_pos z1, ad, R.of_some]⟩
    have ad := oAdd_lst tieD (growT l) ((growT l).map (· ++ [x])) (by rw [List.length_map]; omega)
    refine ⟨_, _, rfl, setN (x := .lst ((growT (l ++ [x])).map tieD)) ?_, by simp [i0], by simp [i0]⟩
    simp only [e_op2, v1, e_lc, e_seqI, R.ok_bind, seq_lst, R.of_some, lc, calm_ok, ad]
    unfold growT
    rw [List.foldl_append]
    rfl) ⟨rfl, rfl⟩
  have s2 : fFor (fSeqI (fCall 1 (F__law_pairs cs) (fCons (fVar 0) fNil))) (gOne 2) (fSet 1 (fOp2 oAdd (fVar 1) (fLc (fSeqI (fVar 1)) (gOne 3) fYes (fOp2 oAdd (fVar 3) (fTup (fCons (fVar 2) fNil))) [3]))) [some (.int p), some (.lst [.tup []]), none, none] = .ok (.nx ρ') := forN (xs := (prs p).map dpr) (by simp [lp]) f1
  have s3 : fRet (fVar 1) ρ' = .ok (.rt (.lst ((growT (prs p)).map tieD))) := by simp [e_varT, f3]
  rw [e, def_eq, seqN s1 (seqN s2 s3)]
  rfl
theorem lf_in {p : Nat} {r : List Int} {later : List Dat} {ρ : DSt} (h1 : 1 ≤ p) (hp : p ≤ 6) (hr : r.length ≤ 6) (h0 : ∀ x ∈ r, 0 ≤ x ∧ x ≤ (p : Int) - 1) (hl : ρ.length = 7) (s1 : gt ρ 1 = some (.int ((p : Int) - 1))) (s4 : gt ρ 4 = some (.lst later)) (s5 : gt ρ 5 = some (sd r)) (hz : later.length ≤ 6000) :
    fSet 4 (fOp2 oAdd (fVar 4) (fLc (fIt oRng1 (fCons (fOp2 oAdd (fCB oMinG (fCons (fOp2 oAdd (fLst (fCons (fVar 1) fNil)) (fCB oListS (fCons (fVar 5) fNil))) fNil)) (fC (.int 1))) fNil)) (gOne 6) fYes (fOp2 oAdd (fVar 5) (fTup (fCons (fVar 6) fNil))) [6])) ρ = .ok (.nx (ρ.set 4 (some (.lst (later ++ (places (nxL ((p : Int) - 1) r)).map fun o => sd (r ++ [o])))))) := by
  have z1 := sz 1 (by decide)
  have v1 : fVar 1 ρ = .ok (.int ((p : Int) - 1)) := by rw [e_varT, s1]
  have v4 : fVar 4 ρ = .ok (.lst later) := by rw [e_varT, s4]
  have v5 : fVar 5 ρ = .ok (sd r) := by rw [e_varT, s5]
  have a1 : oAdd (.lst [.int ((p : Int) - 1)]) (.lst (r.map .int)) = some (.lst ((((p : Int) - 1) :: r).map .int)) := oAdd_lst Dat.int [(p : Int) - 1] r (by simp; omega)
  have mn := minG_ints (l := ((p : Int) - 1) :: r) (by simp)
  have b1 : minL (((p : Int) - 1) :: r) ≤ (p : Int) - 1 := minL_le List.mem_cons_self
  have b0 : 0 ≤ minL (((p : Int) - 1) :: r) := by
    rcases List.mem_cons.mp (minL_mem (l := ((p : Int) - 1) :: r) (by simp)) with e | e
    · omega
    · exact (h0 _ e).1
  have rg := rngI (i := minL (((p : Int) - 1) :: r) + 1) (by omega) (by omega)
  have it : fIt oRng1 (fCons (fOp2 oAdd (fCB oMinG (fCons (fOp2 oAdd (fLst (fCons (fVar 1) fNil)) (fCB oListS (fCons (fVar 5) fNil))) fNil)) (fC (.int 1))) fNil) ρ = .ok ((places (nxL ((p : Int) - 1) r)).map .int) := by
    refine it_ev (xs := [.int (minL (((p : Int) - 1) :: r) + 1)]) ?_ rg
    have ls : oListS [sd r] = some (.lst (r.map .int)) := rfl
    simp only [e_cons, e_op2, e_cb, e_lst, v1, v5, e_nil, R.ok_bind, List.length_cons, List.length_nil, if_pos z1, ls, R.of_some, a1, mn, e_c, add_ii]
  have lc : fLcL (gOne 6) fYes (fOp2 oAdd (fVar 5) (fTup (fCons (fVar 6) fNil))) (wipeD ρ [6]) ((places (nxL ((p : Int) - 1) r)).map .int) = .ok ((places (nxL ((p : Int) - 1) r)).map fun o => sd (r ++ [o])) := by
    refine lc_mA Dat.int (fun o => sd (r ++ [o])) fun o ho => ?_
    have w5 : fVar 5 ((wipeD ρ [6]).set 6 (some (.int o))) = .ok (sd r) := by simp [e_varT, s5]
    have w6 : fVar 6 ((wipeD ρ [6]).set 6 (some (.int o))) = .ok (.int o) := by simp [e_varT, hl]
    exact ⟨_, rfl, by simp only [e_op2, w5, e_tup, e_cons, w6, e_nil, R.ok_bind, List.length_cons, List.length_nil, if_pos z1, add_one_sd (s := r) (o := o) (by omega), R.of_some]⟩
  have nl : (places (nxL ((p : Int) - 1) r)).length ≤ 6 := by rw [places_len]; unfold nxL; omega
  have ad : oAdd (.lst later) (.lst ((places (nxL ((p : Int) - 1) r)).map fun o => sd (r ++ [o]))) = some (.lst (later ++ (places (nxL ((p : Int) - 1) r)).map fun o => sd (r ++ [o]))) := by
    simp only [oAdd]
    rw [if_pos (sz _ (by rw [List.length_map]; omega))]
  refine setN ?_
  simp only [e_op2, v4, e_lc, it, R.ok_bind, lc, calm_ok, ad, R.of_some]
theorem lfall_eq {p : Nat} (h1 : 1 ≤ p) (hp : p ≤ 6) : F__law_falling cs [.int p, .int ((p : Int) - 1)] = .ok (.lst ((falls p (p - 1)).map sd)) := by
  have z0 := sz 0 (by decide)
  have z1 := sz 1 (by decide)
  have hr := rngP (n := p) (by omega)
  have e : F__law_falling cs = fDef n__law_falling (fSeq (fSet 2 (fLst (fCons (fTup fNil) fNil))) (fSeq (fFor (fIt oRng1 (fCons (fVar 0) fNil)) (gOne 3) (fSeq (fSet 4 (fLst fNil)) (fSeq (fFor (fSeqI (fVar 2)) (gOne 5) (fSet 4 (fOp2 oAdd (fVar 4) (fLc (fIt oRng1 (fCons (fOp2 oAdd (fCB oMinG (fCons (fOp2 oAdd (fLst (fCons (fVar 1) fNil)) (fCB oListS (fCons (fVar 5) fNil))) fNil)) (fC (.int 1))) fNil)) (gOne 6) fYes (fOp2 oAdd (fVar 5) (fTup (fCons (fVar 6) fNil))) [6])))) (fSet 2 (fVar 4))))) (fRet (fCB oSortT (fCons (fVar 2) fNil))))) := rfl
  have s1 : fSet 2 (fLst (fCons (fTup fNil) fNil)) (startD n__law_falling [.int p, .int ((p : Int) - 1)]) = .ok (.nx [some (.int p), some (.int ((p : Int) - 1)), some (.lst [.tup []]), none, none, none, none]) := by
    simp [startD, n__law_falling, z0, z1]
  obtain ⟨ρ', f1, f2, f3, f4⟩ := forF_pre (g := gOne 3) (body := (fSeq (fSet 4 (fLst fNil)) (fSeq (fFor (fSeqI (fVar 2)) (gOne 5) (fSet 4 (fOp2 oAdd (fVar 4) (fLc (fIt oRng1 (fCons (fOp2 oAdd (fCB oMinG (fCons (fOp2 oAdd (fLst (fCons (fVar 1) fNil)) (fCB oListS (fCons (fVar 5) fNil))) fNil)) (fC (.int 1))) fNil)) (gOne 6) fYes (fOp2 oAdd (fVar 5) (fTup (fCons (fVar 6) fNil))) [6])))) (fSet 2 (fVar 4))))) Dat.int (fun l ρ => ρ.length = 7 ∧ gt ρ 1 = some (.int ((p : Int) - 1)) ∧ gt ρ 2 = some (.lst ((rowsL ((p : Int) - 1) l.length).map sd))) (places p) [some (.int p), some (.int ((p : Int) - 1)), some (.lst [.tup []]), none, none, none, none] (fun l x r el ρ hI => by
    obtain ⟨i0, i1, i2⟩ := hI
    have hlt := (places_at el).2
    have len := (rows_lens ⟨p, by omega⟩ ⟨l.length + 1, by omega⟩).2
    simp only at len
    have t1 : fSet 4 (fLst fNil) (ρ.set 3 (some (.int x))) = .ok (.nx ((ρ.set 3 (some (.int x))).set 4 (some (.lst [])))) := setN (by simp [z0])
    obtain ⟨ρ1, e1⟩ : ∃ ρ1, ρ1 = (ρ.set 3 (some (.int x))).set 4 (some (.lst [])) := ⟨_, rfl⟩
    rw [← e1] at t1
    obtain ⟨ρ2, g1, g2, g3, g4⟩ := forF_pre (g := gOne 5) (body := fSet 4 (fOp2 oAdd (fVar 4) (fLc (fIt oRng1 (fCons (fOp2 oAdd (fCB oMinG (fCons (fOp2 oAdd (fLst (fCons (fVar 1) fNil)) (fCB oListS (fCons (fVar 5) fNil))) fNil)) (fC (.int 1))) fNil)) (gOne 6) fYes (fOp2 oAdd (fVar 5) (fTup (fCons (fVar 6) fNil))) [6]))) sd (fun m ρ => ρ.length = 7 ∧ gt ρ 1 = some (.int ((p : Int) - 1)) ∧ gt ρ 4 = some (.lst (m.flatMap fun r => (places (nxL ((p : Int) - 1) r)).map fun o => sd (r ++ [o])))) (rowsL ((p : Int) - 1) l.length) ρ1 (fun m q t em ρ hJ => by
      obtain ⟨j0, j1, j2⟩ := hJ
      obtain ⟨q1, q2⟩ := rowsL_in ((p : Int) - 1) (by omega) l.length q (by rw [em]; simp)
      have zz : (m.flatMap fun r => (places (nxL ((p : Int) - 1) r)).map fun o => sd (r ++ [o])).length ≤ 6000 := by
        have : (rowsL ((p : Int) - 1) (l.length + 1)).length = (m.flatMap fun r => (places (nxL ((p : Int) - 1) r)).map fun o => sd (r ++ [o])).length + ((q :: t).flatMap fun r => (places (nxL ((p : Int) - 1) r)).map fun o => sd (r ++ [o])).length := by
          rw [← List.length_append, ← List.flatMap_append, ← em]
          simp [rowsL, List.length_flatMap]
        omega
      have st := lf_in (p := p) (r := q) (later := m.flatMap fun r => (places (nxL ((p : Int) - 1) r)).map fun o => sd (r ++ [o])) (ρ := ρ.set 5 (some (sd q))) h1 hp (by omega) q2 (by simp [j0]) (by simp [j1]) (by simp [j2]) (by simp [j0]) zz
      refine ⟨_, _, rfl, st, by simp [j0], by simp [j1], ?_⟩
      rw [List.flatMap_append, List.flatMap_cons, List.flatMap_nil, List.append_nil]
      simp [j0]) (by subst e1; exact ⟨by simp [i0], by simp [i1], by simp [i0]⟩)
    have v2 : fVar 2 ρ1 = .ok (.lst ((rowsL ((p : Int) - 1) l.length).map sd)) := by subst e1; simp [e_varT, i2]
    have t2 : fFor (fSeqI (fVar 2)) (gOne 5) (fSet 4 (fOp2 oAdd (fVar 4) (fLc (fIt oRng1 (fCons (fOp2 oAdd (fCB oMinG (fCons (fOp2 oAdd (fLst (fCons (fVar 1) fNil)) (fCB oListS (fCons (fVar 5) fNil))) fNil)) (fC (.int 1))) fNil)) (gOne 6) fYes (fOp2 oAdd (fVar 5) (fTup (fCons (fVar 6) fNil))) [6]))) ρ1 = .ok (.nx ρ2) := forN (xs := (rowsL ((p : Int) - 1) l.length).map sd) (by simp only [e_seqI, v2, R.ok_bind, seq_lst, R.of_some]) g1
    have er : ((rowsL ((p : Int) - 1) l.length).flatMap fun r => (places (nxL ((p : Int) - 1) r)).map fun o => sd (r ++ [o])) = (rowsL ((p : Int) - 1) (l.length + 1)).map sd := by
      simp only [rowsL, List.map_flatMap, List.map_map, Function.comp_def]
    rw [er] at g4
    have t3 : fSet 2 (fVar 4) ρ2 = .ok (.nx (ρ2.set 2 (some (.lst ((rowsL ((p : Int) - 1) (l.length + 1)).map sd))))) := setN (by rw [e_varT, g4])
    refine ⟨_, _, rfl, seqN t1 (seqN t2 t3), by simp [g2], by simp [g3], ?_⟩
    rw [List.length_append, List.length_singleton]
    simp [g2]) ⟨rfl, rfl, rfl⟩
  rw [places_len, rowsL_eq h1 hp] at f4
  have s2 := forN (g := gOne 3) (it_ev (o := oRng1) (l := fCons (fVar 0) fNil) (ρ := [some (.int p), some (.int ((p : Int) - 1)), some (.lst [.tup []]), none, none, none, none]) (xs := [.int p]) (by simp) hr) f1
  have so := oSortT_rows (L := falls p (p - 1)) (fun s hs z => by
    have := (of_falls p (p - 1) hs).2.1
    rw [z] at this; simp at this; omega)
  rw [srtS_asc (falls_asc p (p - 1))] at so
  have s3 : fRet (fCB oSortT (fCons (fVar 2) fNil)) ρ' = .ok (.rt (.lst ((falls p (p - 1)).map sd))) := by
    simp only [e_ret, e_cb, e_cons, e_varT, f4, e_nil, R.ok_bind, so, R.of_some]
  rw [e, def_eq, seqN s1 (seqN s2 s3)]
  rfl
end Wk05

end
section
set_option Elab.async false
set_option linter.all false
set_option maxRecDepth 100000
set_option maxHeartbeats 4000000
namespace Wk05
open PySem PySem.Spec PyProof.Rows L2 DL NH
variable {cs : Str → Addr} {nm : Value → Option Str}
def rs : List (Str × Str) := [("InvalidNumber", "number value"), ("InvalidRow", "row value")]
/-! ### tables by numbers -/
def tabK (f : Int → Dat) (l : List Int) : List (Key × Dat) := l.map fun p => (Sum.inl p, f p)
theorem valD_tab (f : Int → Dat) : ∀ {l : List Int} {n : Int}, n ∈ l → valD (tabK f l) (Sum.inl n) = some (f n)
  | [], _, h => by cases h
  | p :: l, n, h => by
    by_cases e : p = n
    · subst e; simp [tabK, valD, List.find?_cons]
    · have ih := valD_tab f (l := l) (n := n) ((List.mem_cons.mp h).resolve_left fun z => e z.symm)
      have e' : ¬ (Sum.inl p : Key) = Sum.inl n := fun z => e (Sum.inl.inj z)
      unfold valD tabK at *
      rw [List.map_cons, List.find?_cons]
      simp only [e', decide_false]
      exact ih
theorem putD_tab (f : Int → Dat) {l : List Int} {n : Int} (h : n ∉ l) : putD (tabK f l) (Sum.inl n) (f n) = tabK f (l ++ [n]) := by
  have : ((tabK f l).any fun kv => decide (kv.1 = (Sum.inl n : Key))) = false := by
    rw [List.any_eq_false]
    intro kv hkv
    obtain ⟨p, hp, rfl⟩ := List.mem_map.mp hkv
    simp only [decide_eq_true_eq]
    intro z
    exact h (Sum.inl.inj z ▸ hp)
  unfold putD
  rw [this, if_neg (by decide)]
  simp [tabK]
theorem pairs_tab (f : Int → Dat) : ∀ l : List Int, pairsD (l.map fun p => .tup [.int p, f p]) = some (tabK f l)
  | [] => rfl
  | p :: l => by
    have ih := pairs_tab f l
    rw [List.map_cons]
    unfold pairsD
    rw [ih]
    rfl
theorem merge_tab (f : Int → Dat) : ∀ (l m : List Int), (m ++ l).Nodup → mergeD (tabK f m) (tabK f l) = tabK f (m ++ l)
  | [], m, _ => by rw [List.append_nil]; rfl
  | p :: l, m, h => by
    have hn : p ∉ m := fun z => (List.nodup_append.mp h).2.2 p z p List.mem_cons_self rfl
    have e : mergeD (tabK f m) (tabK f (p :: l)) = mergeD (putD (tabK f m) (Sum.inl p) (f p)) (tabK f l) := rfl
    rw [e, putD_tab f hn, merge_tab f l (m ++ [p]) (by rw [List.append_assoc]; exact h), List.append_assoc]
    rfl
def tabF (p : Int) : Dat := .lst ((growT (prs p.toNat)).map tieD)
def rowF (p : Int) : Dat := .lst (((falls p.toNat (p.toNat - 1)).filter egB).map sd)
def n15 : List Int := [1, 2, 3, 4, 5]
def n16 : List Int := [1, 2, 3, 4, 5, 6]
theorem r15 : oRng2 [.int 1, .int 6] = some (n15.map .int) := rng2_ok (n := 5) (by decide)
theorem r16 : oRng2 [.int 1, .int 7] = some (n16.map .int) := rng2_ok (n := 6) (by decide)
/-- what stands: the two tables -/
def Tb (M : DM) (tA rA : Addr) : Prop := M tA = some (.dct (tabK tabF n15)) ∧ M rA = some (.dct (tabK rowF n16))
structure St (a tA rA : Addr) (ρ : DSt) : Prop where
  len : ρ.length = 16
  s1 : gt ρ 1 = some (.ref tA)
  s2 : gt ρ 2 = some (.ref rA)
  s6 : gt ρ 6 = some (.ref a)
theorem tab_ev {ρ : DSt} {M : DM} {D : DEnds} (k : ∀ p, M p = none → D.nx (ρ.set 1 (some (.ref p))) (dupd M p (.dct (tabK tabF n15)))) (hl : ρ.length = 16) : b_law_1 cs D ρ M := by
  have z2 := sz 2 (by decide)
  have lc : fLcL (gOne 3) fYes (fTup (fCons (fVar 3) (fCons (fCall 1 (F__law_all_ties cs) (fCons (fVar 3) fNil)) fNil))) (wipeD ρ [3]) (n15.map .int) = .ok (n15.map fun p => .tup [.int p, tabF p]) := by
    refine lc_mA Dat.int (fun p => .tup [.int p, tabF p]) fun p hp => ?_
    have w3 : fVar 3 ((wipeD ρ [3]).set 3 (some (.int p))) = .ok (.int p) := by simp [e_varT, hl]
    have hq : 0 ≤ p ∧ p ≤ 5 := by
      simp only [n15, List.mem_cons, List.mem_nil_iff, or_false] at hp
      omega
    have la := lat_eq (cs := cs) (p := p.toNat) (by omega)
    rw [show ((p.toNat : Nat) : Int) = p by omega] at la
    exact ⟨_, rfl, by simp only [e_tup, e_cons, w3, e_call, e_nil, R.ok_bind, List.length_cons, List.length_nil, if_true, la, if_pos z2]; rfl⟩
  have it : (fCons (fLc (fIt oRng2 (fCons (fC (.int 1)) (fCons (fC (.int 6)) fNil))) (gOne 3) fYes (fTup (fCons (fVar 3) (fCons (fCall 1 (F__law_all_ties cs) (fCons (fVar 3) fNil)) fNil))) [3]) fNil) ρ = .ok [.lst (n15.map fun p => .tup [.int p, tabF p])] := by
    simp only [e_cons, e_lc, e_it, e_c, e_nil, R.ok_bind, r15, R.of_some, lc, calm_ok]
  unfold b_law_1 dSet dDict
  refine pA it ⟨_, _, rfl, pairs_tab tabF n15, fun p hp => ?_⟩
  have mt := merge_tab tabF n15 [] (by decide)
  rw [show mergeD [] (tabK tabF n15) = tabK tabF n15 from mt]
  exact k p hp
theorem rows_ev {rA : Addr} {ρ : DSt} {M : DM} {D : DEnds} (hl : ρ.length = 16) (h2 : gt ρ 2 = some (.ref rA)) {tA : Addr} (h1 : gt ρ 1 = some (.ref tA)) (hne : tA ≠ rA) (hM : M rA = some (.dct [])) (hT : M tA = some (.dct (tabK tabF n15)))
    {r0 : Dat} (h0 : gt ρ 0 = some r0) (k : ∀ ρ' M', ρ'.length = 16 → gt ρ' 0 = some r0 → gt ρ' 1 = some (.ref tA) → gt ρ' 2 = some (.ref rA) → Tb M' tA rA → D.nx ρ' M') : b_law_3 cs D ρ M := by
  refine sFor (xs := n16.map .int) (by simp [r16]) ?_
  refine forL_map Dat.int (I := fun l ρ M' => ρ.length = 16 ∧ gt ρ 0 = some r0 ∧ gt ρ 1 = some (.ref tA) ∧ gt ρ 2 = some (.ref rA) ∧ M' tA = some (.dct (tabK tabF n15)) ∧ M' rA = some (.dct (tabK rowF l))) n16 (fun l p r el ρ M1 hI => ?_) ⟨hl, h0, h1, h2, hT, hM⟩ fun ρ M1 hI => k ρ M1 hI.1 hI.2.1 hI.2.2.1 hI.2.2.2.1 ⟨hI.2.2.2.2.1, hI.2.2.2.2.2⟩
  obtain ⟨i0, iz, i1, i2, i3, i4⟩ := hI
  have hp : p ∈ n16 := by rw [el]; simp
  have hq : 1 ≤ p ∧ p ≤ 6 := by
    simp only [n16, List.mem_cons, List.mem_nil_iff, or_false] at hp
    omega
  have hn : p ∉ l := fun z => by
    have : n16.Nodup := by decide
    rw [el] at this
    exact (List.nodup_append.mp this).2.2 p z p List.mem_cons_self rfl
  have ll : l.length ≤ 6 := by have := congrArg List.length el; simp [n16] at this; omega
  refine ⟨_, rfl, fun D' _ kn => ?_⟩
  have lf := lfall_eq (cs := cs) (p := p.toNat) (by omega) (by omega)
  rw [show ((p.toNat : Nat) : Int) = p by omega] at lf
  have v3 : fVar 3 (ρ.set 3 (some (.int p))) = .ok (.int p) := by simp [e_varT, i0]
  have v2 : fVar 2 (ρ.set 3 (some (.int p))) = .ok (.ref rA) := by simp [e_varT, i2]
  have lc : fLcL (gOne 10) (fTru (fCall 1 (F__law_is_row cs) (fCons (fVar 10) fNil))) (fVar 10) (wipeD (ρ.set 3 (some (.int p))) [10]) ((falls p.toNat (p.toNat - 1)).map sd) = .ok (((falls p.toNat (p.toNat - 1)).filter egB).map sd) := by
    refine lc_m sd egB sd fun r hr => ?_
    obtain ⟨_, rl, _⟩ := of_falls _ _ hr
    have w10 : fVar 10 ((wipeD (ρ.set 3 (some (.int p))) [10]).set 10 (some (sd r))) = .ok (sd r) := by simp [e_varT, i0]
    have e1 := lisrow_eq (cs := cs) (v := sd r) (n := 0) (fit_sd 1 (by omega)) (by decide)
    rw [rowB_falls (by omega) (by omega) hr] at e1
    exact ⟨_, rfl, by simp only [e_tru, e_call, e_cons, e_nil, w10, R.ok_bind, List.length_cons, List.length_nil, if_true, e1, R.of_some, tru_bl], fun _ => w10⟩
  have ev : fLc (fSeqI (fCall 2 (F__law_falling cs) (fCons (fVar 3) (fCons (fOp2 oSub (fVar 3) (fC (.int 1))) fNil)))) (gOne 10) (fTru (fCall 1 (F__law_is_row cs) (fCons (fVar 10) fNil))) (fVar 10) [10] (ρ.set 3 (some (.int p))) = .ok (rowF p) := by
    simp only [e_lc, e_seqI, e_call, e_cons, v3, e_op2, e_c, e_nil, R.ok_bind, sub_ii, R.of_some, List.length_cons, List.length_nil, if_true, lf, seq_lst, lc, calm_ok]
    rfl
  unfold b_law_2 dDicS
  refine pE ev (pE v2 (pE v3 ⟨rA, tabK rowF l, Sum.inl p, rfl, rfl, i4, by simp [tabK]; have := sz 10 (by decide); omega, ?_⟩))
  rw [putD_tab rowF hn]
  exact kn _ _ ⟨by simp [i0], by simp [iz], by simp [i1], by simp [i2], by rw [dupd_ne hne]; exact i3, dupd_same⟩
theorem turn_body {a tA rA : Addr} {ρ : DSt} {M : DM} {D : DEnds} (h : St a tA rA ρ) (hD : Drum M a) (hT : Tb M tA rA) (n1 : tA ≠ a) (n2 : rA ≠ a)
    (k : ∀ ρ' M', St a tA rA ρ' → Drum M' a → Tb M' tA rA → D.nx ρ' M') : b_law_12B cs spWeb spRoll D ρ M := by
  have hl := h.len
  have z0 := sz 0 (by decide)
  have z2 := sz 2 (by decide)
  refine sSeq ?_
  simp only [b_law_5, dSet, dCall, dCons]
  refine pA (x := [.ref a, .int 5]) (by simp [e_varT, h.s6]) ⟨rfl, a, 5, rfl, by decide, by decide, hD, fun p ps M1 hw hp5 hD1 hF1 => ?_⟩
  refine pA (x := []) rfl ⟨rfl, ?_⟩
  have e1 := lrow_eq (cs := cs) (ps := ps) hw.hi
  have hR := rw_web hw.lo hw.hi hw.sub
  have hlen : (frow (degs p ps)).length = p := by rw [frow_len, degs_len]
  generalize frow (degs p ps) = row at e1 hR hlen
  have h5 : row.length ≤ 5 := by omega
  show (F__law_row cs [mkW p ps]).wp _ _
  rw [e1, R.wp_ok]
  show dSeq _ _ _ (ρ.set 10 (some (.tup (row.map .int)))) M1
  have hT1 : Tb M1 tA rA := ⟨by rw [hF1 tA n1]; exact hT.1, by rw [hF1 rA n2]; exact hT.2⟩
  refine sSeq (d := b_law_6) ?_
  have hpos : 0 < row.length := List.length_pos_iff.mpr hR.ne
  have vt : valD (tabK tabF n15) (Sum.inl (row.length : Int)) = some (.lst ((growT (prs row.length)).map tieD)) := by
    have := valD_tab tabF (l := n15) (n := (row.length : Int)) (by simp only [n15, List.mem_cons, List.mem_nil_iff, or_false]; omega)
    rw [this]; simp [tabF]
  simp only [b_law_6, dSet, dLc, dSeqI, dDicG]
  refine pE (x := .ref tA) (by simp [e_varT, h.s1]) (pE (x := .int row.length) (by simp [e_varT, hl]) ⟨tA, _, _, _, rfl, rfl, hT1.1, vt, ?_⟩)
  simp only [seq_lst, R.of_some, R.wp_ok]
  have m2 : ∀ z : Int, oMulT (.int 2) (.int z) = some (.int (2 * z)) := fun z => mul2 z
  refine dlc_m tieD (fun t => decide (row.sum = 2 * (t.length : Int))) (mkW row.length) (fun t ht => ⟨_, rfl, fun Q hQ => pT (x := decide (row.sum = 2 * (t.length : Int))) ?_ hQ, fun _ Q hQ => pE (x := mkW row.length t) ?_ hQ⟩) ?_
  · have w10 : fVar 10 ((wipeD (ρ.set 10 (some (.tup (row.map .int)))) [13]).set 13 (some (tieD t))) = .ok (.tup (row.map .int)) := by simp [e_varT, hl]
    have w13 : fVar 13 ((wipeD (ρ.set 10 (some (.tup (row.map .int)))) [13]).set 13 (some (tieD t))) = .ok (tieD t) := by simp [e_varT, hl]
    have lt : oLen [tieD t] = some (.int t.length) := by show oLen [.tup (t.map dpr)] = _; simp
    simp only [e_test, e_op2, e_cb, e_cons, w10, w13, e_nil, R.ok_bind, sum_intsT, R.of_some, e_c, lt, m2, eqI]
  · have w10 : fVar 10 ((wipeD (ρ.set 10 (some (.tup (row.map .int)))) [13]).set 13 (some (tieD t))) = .ok (.tup (row.map .int)) := by simp [e_varT, hl]
    have w13 : fVar 13 ((wipeD (ρ.set 10 (some (.tup (row.map .int)))) [13]).set 13 (some (tieD t))) = .ok (tieD t) := by simp [e_varT, hl]
    simp only [e_tup, e_cons, e_cb, w10, w13, e_nil, R.ok_bind, len_tup, List.length_map, R.of_some, List.length_cons, List.length_nil, if_pos z2]
    rfl
  show dSeq _ _ _ ((ρ.set 10 (some (.tup (row.map .int)))).set 5 (some (.lst ((((growT (prs row.length)).filter fun t => decide (row.sum = 2 * (t.length : Int))).map (mkW row.length)))))) M1
  obtain ⟨ρ1, er1⟩ : ∃ ρ1, ρ1 = (ρ.set 10 (some (.tup (row.map .int)))).set 5 (some (.lst ((((growT (prs row.length)).filter fun t => decide (row.sum = 2 * (t.length : Int))).map (mkW row.length))))) := ⟨_, rfl⟩
  rw [← er1]
  have S1 : St a tA rA ρ1 := by subst er1; exact ⟨by simp [hl], by simp [h.s1], by simp [h.s2], by simp [h.s6]⟩
  have v10 : fVar 10 ρ1 = .ok (.tup (row.map .int)) := by subst er1; simp [e_varT, hl]
  have v5 : fVar 5 ρ1 = .ok (.lst ((((growT (prs row.length)).filter fun t => decide (row.sum = 2 * (t.length : Int))).map (mkW row.length)))) := by subst er1; simp [e_varT, hl]
  have ff : ((growT (prs row.length)).filter fun t => decide (row.sum = 2 * (t.length : Int))).filter (hasR row) = wfL row := by
    rw [List.filter_filter]
    unfold wfL
    refine List.filter_congr fun t ht => ?_
    cases e : hasR row t with
    | false => simp
    | true =>
      have sd := sum_deg (growT_sub ht)
      have : degs row.length t = row := by simpa [hasR] using e
      rw [this] at sd
      simp [sd]
  have lc : fLcL (gOne 14) (fTest (fOp2 oEq (fCB oTuple (fCons (fCall 1 (F__law_degrees cs) (fCons (fVar 14) fNil)) fNil)) (fVar 10))) (fVar 14) (wipeD ρ1 [14]) ((((growT (prs row.length)).filter fun t => decide (row.sum = 2 * (t.length : Int))).map (mkW row.length))) = .ok ((wfL row).map (mkW row.length)) := by
    rw [← ff]
    refine lc_m (mkW row.length) (hasR row) (mkW row.length) fun t ht => ?_
    have w10 : fVar 10 ((wipeD ρ1 [14]).set 14 (some (mkW row.length t))) = .ok (.tup (row.map .int)) := by subst er1; simp [e_varT, hl]
    have w14 : fVar 14 ((wipeD ρ1 [14]).set 14 (some (mkW row.length t))) = .ok (mkW row.length t) := by simp [e_varT, S1.len]
    have ld := ldeg_eq (cs := cs) (p := row.length) (ps := t) (by omega)
    have ee : oEq (.tup ((degs row.length t).map Dat.int)) (.tup (row.map .int)) = some (.bl (hasR row t)) := by
      unfold oEq
      rw [dok_intsT, dok_intsT]
      have : deq (.tup ((degs row.length t).map Dat.int)) (.tup (row.map .int)) = decide (degs row.length t = row) := deq_ints _ _
      rw [this]
      rfl
    refine ⟨_, rfl, ?_, fun _ => w14⟩
    simp only [e_test, e_op2, e_cb, e_cons, e_call, w14, w10, e_nil, R.ok_bind, List.length_cons, List.length_nil, if_true, ld, tup_ok, R.of_some, ee]
  have ww := ww_eq (cs := cs) hR h5
  have so := oSortT_webs row.length (wfL row)
  have ne := ne_self (sW_dok row.length (wfL row))
  refine sSeq (d := purS (b_law_7 cs)) (sGuard (by simp only [e_test, e_op2, e_cb, e_cons, e_call, e_lc, e_seqI, v10, v5, e_nil, R.ok_bind, List.length_cons, List.length_nil, if_true, ww, seq_lst, R.of_some, lc, calm_ok, so, ne]) ?_)
  -- rows listed
  refine sSeq (d := b_law_8 spRoll) ?_
  simp only [b_law_8, dPar, dCons, dOp2, dCall]
  refine pE (x := .int 1) rfl ?_
  refine pA (x := [.ref a, .int 6]) (by simp [e_varT, S1.s6]) ⟨rfl, a, 6, rfl, by decide, by decide, hD1, fun q M2 q0 q1 hD2 hF2 => ?_⟩
  simp only [add_ii, R.of_some, R.wp_ok]
  refine pA (x := [.ref a, .int 5]) (by simp [e_varT, S1.s6]) ⟨rfl, a, 5, rfl, by decide, by decide, hD2, fun m M3 m0 m1 hD3 hF3 => ?_⟩
  refine pA (x := []) rfl ?_
  have hF := hF2.trans hF3
  have hT3 : Tb M3 tA rA := ⟨by rw [hF tA n1]; exact hT1.1, by rw [hF rA n2]; exact hT1.2⟩
  show dSeq _ _ _ ((ρ1.set 3 (some (.int (1 + q)))).set 12 (some (.int m))) M3
  obtain ⟨pl, hpl⟩ : ∃ pl : Nat, 1 + q = pl := ⟨(1 + q).toNat, by omega⟩
  rw [hpl]
  have hp1 : 1 ≤ pl := by omega
  have hp6 : pl ≤ 6 := by omega
  refine sSeq (sLstM (xs := []) rfl z0 fun d hd => ?_)
  dsimp only
  have nd1 : tA ≠ d := fun e => by rw [← e, hT3.1] at hd; cases hd
  have nd2 : rA ≠ d := fun e => by rw [← e, hT3.2] at hd; cases hd
  have nda : a ≠ d := fun e => by obtain ⟨g, b, e', _⟩ := hD3; rw [← e, e'] at hd; cases hd
  have vr : valD (tabK rowF n16) (Sum.inl (pl : Int)) = some (.lst (((falls pl (pl - 1)).filter egB).map sd)) := by
    have := valD_tab rowF (l := n16) (n := (pl : Int)) (by simp only [n16, List.mem_cons, List.mem_nil_iff, or_false]; omega)
    rw [this]; simp [rowF]
  refine sSeq (d := b_law_10 cs) ?_
  simp only [b_law_10, dFor, dSeqI, dDicG]
  refine pE (x := .ref rA) (by simp [e_varT, S1.s2]) (pE (x := .int pl) (by simp [e_varT, S1.len]) ⟨rA, _, _, _, rfl, rfl, by rw [dupd_ne nd2]; exact hT3.2, vr, ?_⟩)
  simp only [seq_lst, R.of_some, R.wp_ok]
  have fl := falls_len hp6
  refine forL_map sd (I := fun l ρ M' => St a tA rA ρ ∧ gt ρ 3 = some (.int pl) ∧ gt ρ 12 = some (.int m) ∧ gt ρ 11 = some (.ref d) ∧ M' d = some (.lst ((l.filter fun r => decide (leastBy r = m)).map sd)) ∧ ∀ b, b ≠ d → M' b = M3 b) ((falls pl (pl - 1)).filter egB) (fun l r t el ρ M4 hI => ?_)
    ⟨⟨by simp [S1.len], by simp [S1.s1], by simp [S1.s2], by simp [S1.s6]⟩, by simp [S1.len], by simp [S1.len], by simp [S1.len], dupd_same, fun b hb => dupd_ne hb⟩ fun ρ M4 hI => ?_
  · obtain ⟨hS, g3, g12, g11, hM, hO⟩ := hI
    have hr : r ∈ (falls pl (pl - 1)).filter egB := by rw [el]; simp
    obtain ⟨_, rl, _⟩ := of_falls pl (pl - 1) (List.mem_filter.mp hr).1
    have ll : l.length ≤ 500 := by
      have h1 := congrArg List.length el
      have h2 := List.length_filter_le egB (falls pl (pl - 1))
      rw [List.length_append] at h1
      omega
    refine ⟨_, rfl, fun D' _ kn => ?_⟩
    have rg := rngP (n := pl + 1) (by omega)
    rw [show ((pl + 1 : Nat) : Int) = (pl : Int) + 1 by omega] at rg
    have v3 : fVar 3 (ρ.set 10 (some (sd r))) = .ok (.int pl) := by simp [e_varT, g3]
    have v12 : fVar 12 (ρ.set 10 (some (sd r))) = .ok (.int m) := by simp [e_varT, g12]
    have v10 : fVar 10 (ρ.set 10 (some (sd r))) = .ok (sd r) := by simp [e_varT, hS.len]
    have lcm : fLcL (gOne 15) fYes (fCall 2 (F__law_far_by cs) (fCons (fVar 10) (fCons (fVar 15) fNil))) (wipeD (ρ.set 10 (some (sd r))) [15]) ((places (pl + 1)).map .int) = .ok (((List.range (pl + 1)).map (byDeg r)).map Dat.int) := by
      rw [lc_mA (h := fun k => Dat.int (byDeg r k.toNat))]
      · rw [places_map (pl + 1) fun k => Dat.int (byDeg r k), List.map_map]; rfl
      · intro k hk
        obtain ⟨k0, k1⟩ := mem_places.mp hk
        obtain ⟨j, rfl⟩ : ∃ j : Nat, k = j := ⟨k.toNat, by omega⟩
        have e1 : F__law_far_by cs [sd r, .int j] = .ok (.int (byDeg r j)) := lfb_eq (cs := cs) (row := r) (m := j) (by omega) (by omega)
        have w10 : fVar 10 ((wipeD (ρ.set 10 (some (sd r))) [15]).set 15 (some (.int j))) = .ok (sd r) := by simp [e_varT, hS.len]
        have w15 : fVar 15 ((wipeD (ρ.set 10 (some (sd r))) [15]).set 15 (some (.int j))) = .ok (.int j) := by simp [e_varT, hS.len]
        exact ⟨_, rfl, by simp only [e_call, e_cons, w10, w15, e_nil, R.ok_bind, List.length_cons, List.length_nil, if_true, e1]; rfl⟩
    have mn := minG_ints (l := (List.range (pl + 1)).map (byDeg r)) (by simp)
    have eb : minL ((List.range (pl + 1)).map (byDeg r)) = leastBy r := by unfold leastBy; rw [rl]
    rw [eb] at mn
    have tt : (fTest (fOp2 oEq (fCB oMinG (fCons (fLc (fIt oRng1 (fCons (fOp2 oAdd (fVar 3) (fC (.int 1))) fNil)) (gOne 15) fYes (fCall 2 (F__law_far_by cs) (fCons (fVar 10) (fCons (fVar 15) fNil))) [15]) fNil)) (fVar 12))) (ρ.set 10 (some (sd r))) = .ok (decide (leastBy r = m)) := by
      simp only [e_test, e_op2, e_cb, e_cons, e_lc, e_it, v3, e_c, e_nil, R.ok_bind, add_ii, R.of_some, rg, lcm, calm_ok, mn, v12, eqI]
    refine sIf tt ?_
    by_cases c : leastBy r = m
    · rw [if_pos (decide_eq_true c)]
      refine sApp (q := d) (ds := (l.filter fun r => decide (leastBy r = m)).map sd) (x := sd r) (by simp [e_varT, g11]) hM v10 (by
        rw [List.length_map]
        have := List.length_filter_le (fun r => decide (leastBy r = m)) l
        have := sz 1000 (by decide)
        omega) (kn _ _ ⟨⟨by simp [hS.len], by simp [hS.s1], by simp [hS.s2], by simp [hS.s6]⟩, by simp [g3], by simp [g12], by simp [g11], ?_, fun b hb => by rw [dupd_ne hb]; exact hO b hb⟩)
      rw [dupd_same, filter_snoc, if_pos (decide_eq_true c), List.map_append]
      rfl
    · rw [if_neg (by simpa using c)]
      refine sNext (kn _ _ ⟨⟨by simp [hS.len], by simp [hS.s1], by simp [hS.s2], by simp [hS.s6]⟩, by simp [g3], by simp [g12], by simp [g11], ?_, hO⟩)
      rw [hM, filter_snoc, if_neg (by simpa using c), List.append_nil]
  · obtain ⟨hS, g3, g12, g11, hM, hO⟩ := hI
    refine sFrz (by simpa using g11) hM ?_
    have rw_ := rw_eq (cs := cs) hp1 hp6 m0 (by omega : m ≤ 20)
    have nr := ne_self (d := .lst ((rowsW pl m).map sd)) (dok_sdsL _)
    have v3 : fVar 3 (ρ.set 11 (some (.lst ((rowsW pl m).map sd)))) = .ok (.int pl) := by simp [e_varT, g3]
    have v12 : fVar 12 (ρ.set 11 (some (.lst ((rowsW pl m).map sd)))) = .ok (.int m) := by simp [e_varT, g12]
    have v11 : fVar 11 (ρ.set 11 (some (.lst ((rowsW pl m).map sd)))) = .ok (.lst ((rowsW pl m).map sd)) := by simp [e_varT, hS.len]
    have md : ddel M4 d = M3 := one_off hd hO
    rw [md]
    refine sGuard ?_ (k _ _ ⟨by simp [hS.len], by simp [hS.s1], by simp [hS.s2], by simp [hS.s6]⟩ hD3 hT3)
    show (fTest (fOp2 oNe (fCall 2 (F_rows_with cs) (fCons (fVar 3) (fCons (fVar 12) fNil))) (fVar 11))) (ρ.set 11 (some (.lst ((rowsW pl m).map sd)))) = _
    simp only [e_test, e_op2, e_call, e_cons, v3, v12, v11, e_nil, R.ok_bind, List.length_cons, List.length_nil, if_true, rw_, nr, R.of_some]
def oddR : List Dat := [.non, .tup [], .tup [.int 1], .tup (List.replicate 6 (.int 0)), .lst [.int 0], .tup [.int 2, .int 2, .int 2, .int 2, .int 2, .int 0]]
theorem oddR_bad : ∀ t ∈ oddR, fit 50 t = true ∧ rowB 5 t = false := by
  intro t ht
  simp only [oddR, List.mem_cons, List.mem_nil_iff, or_false] at ht
  rcases ht with rfl | rfl | rfl | rfl | rfl | rfl <;> first | exact ⟨rfl, rfl⟩ | exact ⟨by decide +kernel, by decide +kernel⟩
theorem odd_ev (hN : NmOk cs rs nm) {tA rA : Addr} {ρ : DSt} (hl : ρ.length = 16) (h1 : gt ρ 1 = some (.ref tA)) (h2 : gt ρ 2 = some (.ref rA)) : ∃ ρ', fSeq (b_law_15 cs nm) (fSeq (b_law_16 cs nm) (fSeq (b_law_17 cs nm) (b_law_18))) ρ = .ok (.nx ρ') ∧ ρ'.length = 16 ∧ gt ρ' 1 = some (.ref tA) ∧ gt ρ' 2 = some (.ref rA) := by
  have z0 := sz 0 (by decide)
  have z1 := sz 1 (by decide)
  have z4 := sz 4 (by decide)
  have z6 := sz 6 (by decide)
  have z8 := sz 8 (by decide)
  have hr : nm (.ref (cs "InvalidRow")) = some ("row value" : Str) := hN ("InvalidRow", "row value") (by simp [rs])
  have hn : nm (.ref (cs "InvalidNumber")) = some ("number value" : Str) := hN ("InvalidNumber", "number value") (by simp [rs])
  have ns : oNe (.str "row value") (.str "row value") = some (.bl false) := ne_self (strOk_of _)
  have mu : oMulT (.tup [.int 0]) (.int 6) = some (.tup (List.replicate 6 (.int 0))) := rfl
  obtain ⟨ρ1, f1, f2, f3, f4⟩ := forF_pre (g := gOne 8) (body := b_law_14 cs nm) id (fun _ ρ => ρ.length = 16 ∧ gt ρ 1 = some (.ref tA) ∧ gt ρ 2 = some (.ref rA)) oddR ρ (fun l t r el ρ hI => by
    obtain ⟨t1, t2⟩ := oddR_bad t (by rw [el]; simp)
    have e1 := ww_bad (cs := cs) (n := 48) t1 t2
    exact ⟨_, ρ.set 8 (some t), rfl, by simp [b_law_14, e_varT, hI.1, e1, hr, ns], by simp [hI.1], by simp [hI.2.1], by simp [hI.2.2]⟩) ⟨hl, h1, h2⟩
  rw [List.map_id] at f1
  have s1 : b_law_15 cs nm ρ = .ok (.nx ρ1) := forN (xs := oddR) (by simp [z0, z1, z6, mu, oddR]) f1
  have la : ∀ ρ : DSt, ρ.length = 16 → fLcL (gOne 8) fYes (fErr "" nm (fCall 2 (F_rows_with cs) (fCons (fVar 8) (fCons (fC .non) fNil)))) (wipeD ρ [8]) [.non, .int 0, .int 7, .bl true] = .ok (List.replicate 4 (.str "number value")) := fun ρ hρ => by
    have := lc_all (i := 8) (f := fErr "" nm (fCall 2 (F_rows_with cs) (fCons (fVar 8) (fCons (fC .non) fNil)))) (ρ := wipeD ρ [8]) (fun _ => .str "number value") (xs := [.non, .int 0, .int 7, .bl true]) fun x hx => by
      have w8 : fVar 8 ((wipeD ρ [8]).set 8 (some x)) = .ok x := by simp [e_varT, hρ]
      have b : plain x = true ∧ wholeB x 1 6 = false := by
        simp only [List.mem_cons, List.mem_nil_iff, or_false] at hx
        rcases hx with rfl | rfl | rfl | rfl <;> exact ⟨rfl, rfl⟩
      have e1 := rw_bad1 (cs := cs) (u := .non) b.1 b.2
      simp [w8, e1, hn]
      simp [e_varT, hρ, e1, hn]
    exact this
  have lb : ∀ ρ : DSt, ρ.length = 16 → fLcL (gOne 8) fYes (fErr "" nm (fCall 2 (F_rows_with cs) (fCons (fC (.int 3)) (fCons (fVar 8) fNil)))) (wipeD ρ [8]) [.non, .int (-1), .int 21, .bl true] = .ok (List.replicate 4 (.str "number value")) := fun ρ hρ => by
    have := lc_all (i := 8) (f := fErr "" nm (fCall 2 (F_rows_with cs) (fCons (fC (.int 3)) (fCons (fVar 8) fNil)))) (ρ := wipeD ρ [8]) (fun _ => .str "number value") (xs := [.non, .int (-1), .int 21, .bl true]) fun x hx => by
      have b : plain x = true ∧ wholeB x 0 20 = false := by
        simp only [List.mem_cons, List.mem_nil_iff, or_false] at hx
        rcases hx with rfl | rfl | rfl | rfl <;> exact ⟨rfl, rfl⟩
      have e1 := rw_bad2 (cs := cs) (p := 3) (by decide) (by decide) b.1 b.2
      simp at e1
      simp [e_varT, hρ, e1, hn]
    exact this
  have s2 : b_law_16 cs nm ρ1 = .ok (.nx (ρ1.set 9 (some (.lst (List.replicate 4 (.str "number value")))))) := by
    unfold b_law_16
    have l1 := la ρ1 f2
    exact setN (by simp only [e_lc, e_seqI, e_tup, e_cons, e_c, e_nil, R.ok_bind, List.length_cons, List.length_nil, if_pos z4, seq_tup, R.of_some, l1, calm_ok])
  obtain ⟨ρ2, e2⟩ : ∃ ρ2, ρ2 = ρ1.set 9 (some (.lst (List.replicate 4 (.str "number value")))) := ⟨_, rfl⟩
  rw [← e2] at s2
  have g0 : ρ2.length = 16 := by rw [e2]; simp [f2]
  have v9 : fVar 9 ρ2 = .ok (.lst (List.replicate 4 (.str "number value"))) := by rw [e2]; simp [e_varT, f2]
  have ad : oAdd (.lst (List.replicate 4 (.str "number value"))) (.lst (List.replicate 4 (.str "number value"))) = some (.lst (List.replicate 8 (.str "number value"))) := by
    simp only [oAdd]
    rw [if_pos (by simpa using z8)]
    rfl
  have s3 : b_law_17 cs nm ρ2 = .ok (.nx (ρ2.set 9 (some (.lst (List.replicate 8 (.str "number value")))))) := by
    unfold b_law_17
    have l1 := lb ρ2 g0
    exact setN (by simp only [e_op2, v9, e_lc, e_seqI, e_tup, e_cons, e_c, e_op1, negI, e_nil, R.ok_bind, List.length_cons, List.length_nil, if_pos z4, seq_tup, R.of_some, l1, calm_ok, ad])
  have m8 : oMulT (.lst [.str "number value"]) (.int 8) = some (.lst (List.replicate 8 (.str "number value"))) := mulL (.str "number value") 8 (by decide)
  have n8 : oNe (.lst (List.replicate 8 (.str "number value"))) (.lst (List.replicate 8 (.str "number value"))) = some (.bl false) := ne_rep (strOk_of _) 8
  have s4 : b_law_18 (ρ2.set 9 (some (.lst (List.replicate 8 (.str "number value"))))) = .ok (.nx (ρ2.set 9 (some (.lst (List.replicate 8 (.str "number value")))))) := by
    have w9 : fVar 9 (ρ2.set 9 (some (.lst (List.replicate 8 (.str "number value"))))) = .ok (.lst (List.replicate 8 (.str "number value"))) := by simp [e_varT, g0]
    unfold b_law_18
    simp only [e_ifS, e_test, e_op2, w9, e_lst, e_cons, e_c, e_nil, R.ok_bind, List.length_cons, List.length_nil, if_pos z1, m8, R.of_some, n8]
    rfl
  exact ⟨_, seqN s1 (seqN s2 (seqN s3 s4)), by simp [g0], by rw [e2]; simp [f3], by rw [e2]; simp [f4]⟩
theorem cell_body (hN : NmOk cs rs nm) {tA rA : Addr} {c : Int} {ρ : DSt} {M : DM} {D : DEnds} (hl : ρ.length = 16) (h4 : gt ρ 4 = some (.int c)) (h1 : gt ρ 1 = some (.ref tA)) (h2 : gt ρ 2 = some (.ref rA)) (hT : Tb M tA rA)
    (k : ∀ ρ' M', ρ'.length = 16 → gt ρ' 1 = some (.ref tA) → gt ρ' 2 = some (.ref rA) → Tb M' tA rA → D.nx ρ' M') : b_law_19B cs nm spDrum spWeb spRoll D ρ M := by
  refine sSeq (d := b_law_4 spDrum) (sCall (xs := [.int c, .int 9]) (by simp [e_varT, h4]) rfl ⟨c, 9, rfl, by decide, by decide, fun a M1 ha hD1 hF => ?_⟩)
  have n1 : tA ≠ a := fun e => by rw [← e, hT.1] at ha; cases ha
  have n2 : rA ≠ a := fun e => by rw [← e, hT.2] at ha; cases ha
  have hT1 : Tb M1 tA rA := ⟨by rw [hF tA n1]; exact hT.1, by rw [hF rA n2]; exact hT.2⟩
  have r3 : oRng1 [.int 3] = some ((places 3).map Dat.int) := rngP (n := 3) (by decide)
  refine sSeq (d := b_law_13 cs spWeb spRoll) ?_
  refine sFor (xs := (places 3).map Dat.int) (by simp [r3]) ?_
  refine forL_map Dat.int (I := fun l ρ M' => St a tA rA ρ ∧ Drum M' a ∧ Tb M' tA rA) (places 3) (fun l s r el ρ M2 hI => ?_) ⟨⟨by simp [hl], by simp [h1], by simp [h2], by simp [hl]⟩, hD1, hT1⟩ fun ρ M2 hI => ?_
  · obtain ⟨hS, hD2, hT2⟩ := hI
    refine ⟨_, rfl, fun D' _ kn => ?_⟩
    exact turn_body (a := a) ⟨by simp [hS.len], by simp [hS.s1], by simp [hS.s2], by simp [hS.s6]⟩ hD2 hT2 n1 n2 fun ρ' M' e0 e2 eD => kn _ _ ⟨e0, e2, eD⟩
  · obtain ⟨hS, hD2, hT2⟩ := hI
    obtain ⟨ρ', g1, g2, g3, g4⟩ := odd_ev hN hS.len hS.s1 hS.s2
    exact sNx g1 (k _ _ g2 g3 g4 hT2)
theorem end_ok {ρ : DSt} {M : DM} {D : DEnds} (hl : ρ.length = 16) (k : D.rt (.bl true) M) : purS (fSeq (b_law_21 cs) (fSeq (b_law_22 cs) (fSeq b_law_23 (b_law_24 cs)))) D ρ M := by
  have z0 := sz 0 (by decide)
  have z1 := sz 1 (by decide)
  have z2 := sz 2 (by decide)
  have z3 := sz 3 (by decide)
  have z4 := sz 4 (by decide)
  have z5 := sz 5 (by decide)
  have R1 : Rw [2, 1, 1] := ⟨by decide, by decide, by unfold Fall; decide, by decide, by decide +kernel⟩
  have R2 : Rw [1, 1, 1, 1] := ⟨by decide, by decide, by unfold Fall; decide, by decide, by decide +kernel⟩
  have R3 : Rw [2, 2, 2, 2, 2] := ⟨by decide, by decide, by unfold Fall; decide, by decide, by decide +kernel⟩
  have w1 : F_webs_with cs [.tup [.int 2, .int 1, .int 1]] = .ok (.lst [.tup [.int 3, .tup [.tup [.int 0, .int 1], .tup [.int 0, .int 2]]]]) := by
    have := ww_eq (cs := cs) R1 (by decide)
    have e : wfL [2, 1, 1] = [[(0, 1), (0, 2)]] := by decide +kernel
    have e2 : sW 3 [[(0, 1), (0, 2)]] = [mkW 3 [(0, 1), (0, 2)]] := by simp [sW]
    rw [e] at this
    exact this.trans (congrArg (fun x => R.ok (Dat.lst x)) e2)
  have w2 : ∃ L, F_webs_with cs [.tup [.int 1, .int 1, .int 1, .int 1]] = .ok (.lst L) ∧ L.length = 3 := by
    have := ww_eq (cs := cs) R2 (by decide)
    have e : (wfL [1, 1, 1, 1]).length = 3 := by decide +kernel
    exact ⟨sW 4 (wfL [1, 1, 1, 1]), this, (sW_len 4 _).trans e⟩
  have w3 : ∃ L, F_webs_with cs [.tup [.int 2, .int 2, .int 2, .int 2, .int 2]] = .ok (.lst L) ∧ L.length = 12 := by
    have := ww_eq (cs := cs) R3 (by decide)
    have e : (wfL [2, 2, 2, 2, 2]).length = 12 := by decide +kernel
    exact ⟨sW 5 (wfL [2, 2, 2, 2, 2]), this, (sW_len 5 _).trans e⟩
  obtain ⟨L2, w2, l2⟩ := w2
  obtain ⟨L3, w3, l3⟩ := w3
  have rr : ∀ (p : Nat) (m : Int) (v : List (List Int)), 1 ≤ p → p ≤ 6 → 0 ≤ m → m ≤ 20 → rowsW p m = v → F_rows_with cs [.int p, .int m] = .ok (.lst (v.map sd)) := fun p m v a b c d e => by rw [← e]; exact rw_eq a b c d
  have q1 : F_rows_with cs [.int 4, .int 1] = .ok (.lst [.tup [.int 1, .int 1, .int 1, .int 1], .tup [.int 2, .int 2, .int 2, .int 2]]) := rr 4 1 [[1, 1, 1, 1], [2, 2, 2, 2]] (by decide) (by decide) (by decide) (by decide) (by decide +kernel)
  have q2 : F_rows_with cs [.int 3, .int 1] = .ok (.lst []) := rr 3 1 [] (by decide) (by decide) (by decide) (by decide) (by decide +kernel)
  have q3 : ∃ L, F_rows_with cs [.int 4, .int 0] = .ok (.lst L) ∧ L.length = 9 := ⟨_, rr 4 0 _ (by decide) (by decide) (by decide) (by decide) rfl, by rw [List.length_map]; decide +kernel⟩
  have q4 : F_rows_with cs [.int 5, .int 2] = .ok (.lst [.tup [.int 2, .int 2, .int 2, .int 2, .int 2]]) := rr 5 2 [[2, 2, 2, 2, 2]] (by decide) (by decide) (by decide) (by decide) (by decide +kernel)
  have q5 : F_rows_with cs [.int 6, .int 20] = .ok (.lst []) := rr 6 20 [] (by decide) (by decide) (by decide) (by decide) (by decide +kernel)
  have q6 : F_rows_with cs [.int 1, .int 0] = .ok (.lst [.tup [.int 0]]) := rr 1 0 [[0]] (by decide) (by decide) (by decide) (by decide) (by decide +kernel)
  obtain ⟨L4, q3, l4⟩ := q3
  have n1 : oNe (.lst [.tup [.int 3, .tup [.tup [.int 0, .int 1], .tup [.int 0, .int 2]]]]) (.lst [.tup [.int 3, .tup [.tup [.int 0, .int 1], .tup [.int 0, .int 2]]]]) = some (.bl false) := ne_self rfl
  have n2 : oNe (.lst [.lst [.tup [.int 1, .int 1, .int 1, .int 1], .tup [.int 2, .int 2, .int 2, .int 2]], .lst [], .int 9, .lst [.tup [.int 2, .int 2, .int 2, .int 2, .int 2]]]) (.lst [.lst [.tup [.int 1, .int 1, .int 1, .int 1], .tup [.int 2, .int 2, .int 2, .int 2]], .lst [], .int 9, .lst [.tup [.int 2, .int 2, .int 2, .int 2, .int 2]]]) = some (.bl false) := ne_self rfl
  have n3 : oEq (.lst []) (.lst []) = some (.bl true) := eq_self rfl
  have n4 : oEq (.lst [.tup [.int 0]]) (.lst [.tup [.int 0]]) = some (.bl true) := eq_self rfl
  refine sFGuard (by simp [z1, z2, z3, z4, w1, w2, l2, n1]) ?_
  refine sFSeq (ρ' := ρ.set 5 (some (.lst [.lst [.tup [.int 1, .int 1, .int 1, .int 1], .tup [.int 2, .int 2, .int 2, .int 2]], .lst [], .int 9, .lst [.tup [.int 2, .int 2, .int 2, .int 2, .int 2]]]))) (by simp [b_law_22, z4, q1, q2, q3, l4, q4]) ?_
  refine sFGuard (by simp [e_varT, hl, z0, z1, z2, z4, z5, n2]) ?_
  exact sRet (x := .bl true) (by simp [z0, z1, z5, w3, l3, q5, q6, n3, n4]) k
theorem law_ok (hN : NmOk cs rs nm) (ds : List Dat) (M : DM) (Q : DQ) (E : DX) (h : spLaw ds M Q E) : D_law cs nm spDrum spWeb spRoll ds M Q E := by
  obtain ⟨xs, rfl, hi, hl, k⟩ := h
  have z1 : 1 ≤ sizeLine := by decide
  have ad : oAdd (.lst [.int 0]) (.lst xs) = some (.lst (.int 0 :: xs)) := by
    simp only [oAdd]
    rw [if_pos (by simpa using hl)]
    rfl
  unfold D_law dDef
  refine sSeq (d := b_law_1 cs) (tab_ev (fun tA htA => ?_) rfl)
  refine sSeq ?_
  unfold dSet dDicN
  intro rA hrA
  have hne : tA ≠ rA := fun e => by rw [← e, dupd_same] at hrA; cases hrA
  refine sSeq (d := b_law_3 cs) (rows_ev (tA := tA) (rA := rA) (r0 := .lst xs) rfl rfl rfl hne dupd_same (by rw [dupd_ne hne, dupd_same]) rfl fun ρ M1 r0 r00 r1 r2 hT => ?_)
  refine sSeq (d := b_law_20 cs nm spDrum spWeb spRoll) ?_
  refine sFor (xs := DL.cutD (.int 0 :: xs) none (some 6)) (by
    have v0 : gt ρ 0 = some (.lst xs) := r00
    simp [e_varT, v0, z1, ad, oSl]) ?_
  refine forL_inv (I := fun ρ M => ρ.length = 16 ∧ gt ρ 1 = some (.ref tA) ∧ gt ρ 2 = some (.ref rA) ∧ Tb M tA rA) _ _ _ (fun x hx ρ M2 hI => ?_) ⟨r0, r1, r2, hT⟩ fun ρ M2 hI => ?_
  · obtain ⟨i0, i1, i2, iT⟩ := hI
    have hx' : isI x = true := by
      rcases List.mem_cons.mp (mem_cut hx) with e | e
      · rw [e]; rfl
      · exact hi x e
    obtain ⟨c, rfl⟩ := isI_int hx'
    refine ⟨_, rfl, fun D' _ kn => ?_⟩
    exact cell_body hN (c := c) (by simp [i0]) (by simp [i0]) (by simp [i1]) (by simp [i2]) iT fun ρ' M' h1 h2 h3 h4 => kn ρ' M' ⟨h1, h2, h3, h4⟩
  · exact end_ok hI.1 (k M2)
end Wk05

end
section
set_option Elab.async false
set_option linter.all false
set_option maxRecDepth 100000
set_option maxHeartbeats 0
namespace Hk05
open PySem PySem.Spec PyProof.Rows L2 DL Wk05
def dd (x : Str) (st : Stmt) : He.DefD := ⟨(x, none), x, x, L2.defArgs st, L2.defBody st, L2.defScope st, [], []⟩
def fn : List He.DefD := [dd "is_whole" s_is_whole, dd "all_pairs" s_all_pairs, dd "need_number" s_need_number, dd "by_degrees" s_by_degrees, dd "least_by" s_least_by, dd "is_of_web" s_is_of_web, dd "fits_row" s_fits_row, dd "webs_for" s_webs_for, dd "falling_rows" s_falling_rows, dd "need_row" s_need_row, dd "webs_with" s_webs_with, dd "rows_with" s_rows_with, dd "_law_drum" s__law_drum, dd "_law_roll" s__law_roll, dd "_law_some" s__law_some, dd "_law_pairs" s__law_pairs, dd "_law_web" s__law_web, dd "_law_degrees" s__law_degrees, dd "_law_row" s__law_row, dd "_law_falling" s__law_falling, dd "_law_laid_off" s__law_laid_off, dd "_law_is_row" s__law_is_row, dd "_law_far_by" s__law_far_by, dd "_law_names" s__law_names, dd "_law_error" s__law_error, dd "_law_all_ties" s__law_all_ties, dd "law" s_law]
def fa : List He.Fa := [.glo "is_whole", .glo "all_pairs", .glo "need_number", .glo "by_degrees", .glo "least_by", .glo "is_of_web", .glo "fits_row", .glo "webs_for", .glo "falling_rows", .glo "need_row", .glo "webs_with", .glo "rows_with", .glo "_law_drum", .glo "_law_roll", .glo "_law_some", .glo "_law_pairs", .glo "_law_web", .glo "_law_degrees", .glo "_law_row", .glo "_law_falling", .glo "_law_laid_off", .glo "_law_is_row", .glo "_law_far_by", .glo "_law_names", .glo "_law_error", .glo "_law_all_ties", .glo "law", .free "ValueError", .free "all", .free "bool", .free "dict", .free "enumerate", .free "int", .free "isinstance", .free "len", .free "list", .free "max", .free "min", .free "range", .free "sorted", .free "sum", .free "tuple", .free "zip", .glo "HalfError", .glo "InvalidIndex", .glo "InvalidKinds", .glo "InvalidNumber", .glo "InvalidPlace", .glo "InvalidPrices", .glo "InvalidRow", .glo "InvalidSide", .glo "InvalidText", .glo "InvalidTie", .glo "InvalidWeb", .glo "NothingToUndo", .glo "TooMany", .glo "Unlike", .glo "InvalidNumber", .glo "InvalidRow", .exc "InvalidNumber", .exc "InvalidRow", .exm "InvalidNumber" "HalfError" true, .exm "InvalidRow" "HalfError" true]
def ys (x : Str) : List (Str × Bool) := [("InvalidWeb", x == "InvalidWeb"), ("InvalidSide", x == "InvalidSide"), ("InvalidTie", x == "InvalidTie"), ("InvalidRow", x == "InvalidRow"), ("InvalidKinds", x == "InvalidKinds"), ("InvalidNumber", x == "InvalidNumber"), ("InvalidPrices", x == "InvalidPrices"), ("InvalidIndex", x == "InvalidIndex"), ("InvalidPlace", x == "InvalidPlace"), ("InvalidText", x == "InvalidText"), ("Unlike", x == "Unlike"), ("NothingToUndo", x == "NothingToUndo"), ("TooMany", x == "TooMany")]
def exl (K K2 : PySem.W.Frag) : List Bool := [HK.noLst K,
  HK.lamB K K2 "law",
  HK.excCB K (He.ga K "InvalidNumber"),
  HK.noInitB K (He.ga K "InvalidNumber"),
  HK.kitB K "InvalidNumber" (ys "InvalidNumber"),
  HK.excCB K (He.ga K "InvalidRow"),
  HK.noInitB K (He.ga K "InvalidRow"),
  HK.kitB K "InvalidRow" (ys "InvalidRow")]
def ex (K K2 : PySem.W.Frag) : Bool := (exl K K2).all id
abbrev R : PySem.W.OpenRow := PySem.W.OpenLaw.row PySem.Challenge.rw_nearhalves_k05_webs_and_rows_listed
abbrev hk : PySem.W.Hook := HK.hookX 4 fa fn ex
def ob (s : PySem.W.SharedT) : HK.AlX := HK.obsX 4 fa fn ex (HandSHeadRun.getT s)
theorem ob_eq (s : PySem.W.SharedT) : ob s = hk.obs s.abs := HK.obsX_eq (HandSHeadRun.getT_eq s)
def loose : List Str := (["HalfError", "InvalidWeb", "InvalidSide", "InvalidTie", "InvalidRow", "InvalidKinds", "InvalidNumber", "InvalidPrices", "InvalidIndex", "InvalidPlace", "InvalidText", "Unlike", "NothingToUndo", "TooMany", "is_whole", "all_pairs", "need_number", "by_degrees", "least_by", "is_of_web"] : List Str) ++ (["fits_row", "webs_for", "falling_rows", "need_row", "webs_with", "rows_with", "_law_drum", "_law_roll", "_law_some", "_law_pairs", "_law_web", "_law_degrees", "_law_row", "_law_falling", "_law_laid_off", "_law_is_row", "_law_far_by", "_law_names", "_law_error", "_law_all_ties"] : List Str)
theorem run (w : World) : HandSHeadRun.RunEq R (PySem.W.view R.prog [45]) hk ob 30000 loose w := by
  intro os
  kernel_rfl
section
variable {K K2 : PySem.W.Frag} {h : Heap} {mg : Str → Option Value}
theorem defF {x : Str} {st : Stmt} (X : K.In h) (G : h.Ns mainGlobals mg) (c : He.SaysD fa fn K) (i j : Nat) (h1 : fn[i]? = some (dd x st)) (h2 : fa[j]? = some (.glo x)) : ∃ f fd, FnP K x st f fd ∧ mg x = some (.ref f) := by
  obtain ⟨fd, F⟩ := c.def_ i h1
  exact ⟨_, fd, F, He.glo_ok X G (c.fact j h2)⟩
theorem fx (X : K.In h) (G : h.Ns mainGlobals mg) (c : He.SaysD fa fn K) : Fx K mg (He.ga K) where
  d_is_whole := defF X G c 0 0 rfl rfl
  d_all_pairs := defF X G c 1 1 rfl rfl
  d_need_number := defF X G c 2 2 rfl rfl
  d_by_degrees := defF X G c 3 3 rfl rfl
  d_least_by := defF X G c 4 4 rfl rfl
  d_is_of_web := defF X G c 5 5 rfl rfl
  d_fits_row := defF X G c 6 6 rfl rfl
  d_webs_for := defF X G c 7 7 rfl rfl
  d_falling_rows := defF X G c 8 8 rfl rfl
  d_need_row := defF X G c 9 9 rfl rfl
  d_webs_with := defF X G c 10 10 rfl rfl
  d_rows_with := defF X G c 11 11 rfl rfl
  d__law_drum := defF X G c 12 12 rfl rfl
  d__law_roll := defF X G c 13 13 rfl rfl
  d__law_some := defF X G c 14 14 rfl rfl
  d__law_pairs := defF X G c 15 15 rfl rfl
  d__law_web := defF X G c 16 16 rfl rfl
  d__law_degrees := defF X G c 17 17 rfl rfl
  d__law_row := defF X G c 18 18 rfl rfl
  d__law_falling := defF X G c 19 19 rfl rfl
  d__law_laid_off := defF X G c 20 20 rfl rfl
  d__law_is_row := defF X G c 21 21 rfl rfl
  d__law_far_by := defF X G c 22 22 rfl rfl
  d__law_names := defF X G c 23 23 rfl rfl
  d__law_error := defF X G c 24 24 rfl rfl
  d__law_all_ties := defF X G c 25 25 rfl rfl
  d_law := defF X G c 26 26 rfl rfl
  m_ValueError := He.free_ok X G (c.fact 27 rfl)
  m_all := He.free_ok X G (c.fact 28 rfl)
  m_bool := He.free_ok X G (c.fact 29 rfl)
  m_dict := He.free_ok X G (c.fact 30 rfl)
  m_enumerate := He.free_ok X G (c.fact 31 rfl)
  m_int := He.free_ok X G (c.fact 32 rfl)
  m_isinstance := He.free_ok X G (c.fact 33 rfl)
  m_len := He.free_ok X G (c.fact 34 rfl)
  m_list := He.free_ok X G (c.fact 35 rfl)
  m_max := He.free_ok X G (c.fact 36 rfl)
  m_min := He.free_ok X G (c.fact 37 rfl)
  m_range := He.free_ok X G (c.fact 38 rfl)
  m_sorted := He.free_ok X G (c.fact 39 rfl)
  m_sum := He.free_ok X G (c.fact 40 rfl)
  m_tuple := He.free_ok X G (c.fact 41 rfl)
  m_zip := He.free_ok X G (c.fact 42 rfl)
  g_HalfError := He.glo_ok X G (c.fact 43 rfl)
  g_InvalidIndex := He.glo_ok X G (c.fact 44 rfl)
  g_InvalidKinds := He.glo_ok X G (c.fact 45 rfl)
  g_InvalidNumber := He.glo_ok X G (c.fact 46 rfl)
  g_InvalidPlace := He.glo_ok X G (c.fact 47 rfl)
  g_InvalidPrices := He.glo_ok X G (c.fact 48 rfl)
  g_InvalidRow := He.glo_ok X G (c.fact 49 rfl)
  g_InvalidSide := He.glo_ok X G (c.fact 50 rfl)
  g_InvalidText := He.glo_ok X G (c.fact 51 rfl)
  g_InvalidTie := He.glo_ok X G (c.fact 52 rfl)
  g_InvalidWeb := He.glo_ok X G (c.fact 53 rfl)
  g_NothingToUndo := He.glo_ok X G (c.fact 54 rfl)
  g_TooMany := He.glo_ok X G (c.fact 55 rfl)
  g_Unlike := He.glo_ok X G (c.fact 56 rfl)
  x_InvalidNumber := by
    obtain ⟨e1, e2, e3, e4⟩ := He.exc_ok (c.fact 59 rfl)
    exact ⟨e1, He.glo_ok X G (c.fact 57 rfl), e2, e3, e4⟩
  x_InvalidRow := by
    obtain ⟨e1, e2, e3, e4⟩ := He.exc_ok (c.fact 60 rfl)
    exact ⟨e1, He.glo_ok X G (c.fact 58 rfl), e2, e3, e4⟩
theorem exf (e : ex K K2 = true) (i : Nat) {b : Bool} (h : (exl K K2)[i]? = some b) : b = true := List.all_eq_true.mp e b (List.mem_of_getElem? h)
theorem exm_InvalidNumber (c : He.SaysD fa fn K) : PySem.W.exmOne K (.ref (He.ga K "InvalidNumber")) (.ref (He.ga K "HalfError")) = some true := He.exm_ok (c.fact 61 rfl)
theorem exm_InvalidRow (c : He.SaysD fa fn K) : PySem.W.exmOne K (.ref (He.ga K "InvalidRow")) (.ref (He.ga K "HalfError")) = some true := He.exm_ok (c.fact 62 rfl)
theorem exc_InvalidNumber (e : ex K K2 = true) : ExcC K (He.ga K "InvalidNumber") ∧ (∀ f, PySem.W.findIn K (.ref (He.ga K "InvalidNumber")) "__init__" ≠ some (some (.ref f))) ∧ (∀ y ∈ ys "InvalidNumber", PySem.W.kitOne K (.ref (He.ga K "InvalidNumber")) (.ref (He.ga K y.1)) = some y.2) ∧ PySem.W.kitOne K (.ref (He.ga K "InvalidNumber")) (.type "ValueError") = some true :=
  ⟨HK.excCB_ok (exf e 2 rfl), HK.noInitB_ok (exf e 3 rfl), HK.kitB_ok (exf e 4 rfl)⟩
theorem exc_InvalidRow (e : ex K K2 = true) : ExcC K (He.ga K "InvalidRow") ∧ (∀ f, PySem.W.findIn K (.ref (He.ga K "InvalidRow")) "__init__" ≠ some (some (.ref f))) ∧ (∀ y ∈ ys "InvalidRow", PySem.W.kitOne K (.ref (He.ga K "InvalidRow")) (.ref (He.ga K y.1)) = some y.2) ∧ PySem.W.kitOne K (.ref (He.ga K "InvalidRow")) (.type "ValueError") = some true :=
  ⟨HK.excCB_ok (exf e 5 rfl), HK.noInitB_ok (exf e 6 rfl), HK.kitB_ok (exf e 7 rfl)⟩
end
end Hk05

end
section
set_option Elab.async false
set_option linter.all false
set_option maxRecDepth 100000
set_option maxHeartbeats 0
namespace Wk05
open PySem PySem.Spec PyProof.Rows L2 DL NH
variable {cs : Str → Addr} {nm : Value → Option Str}
def lblS : List Str := ["web", "side", "tie", "row", "kinds", "number", "prices", "index", "place", "text", "unlike", "undo", "many", "value"]
theorem lbl_eq : oSplit (.str "web side tie row kinds number prices index place text unlike undo many value") (.str " ") = some (.lst (lblS.map .str)) := by
  have h1 : Txt.split ("web side tie row kinds number prices index place text unlike undo many value" : Str) (" " : Str) = lblS := by decide +kernel
  have h2 : (("web side tie row kinds number prices index place text unlike undo many value" : Str).length) + 2 ≤ sizeLine := by decide +kernel
  have h3 : ((" " : Str).length == 0) = false := by decide +kernel
  have h4 : lblS.length ≤ sizeLine := by decide
  simp only [oSplit, h1]
  rw [if_pos ⟨h3, h2, h4⟩]
/-- the classes that names asks for, in order -/
def askL (cs : Str → Addr) : List Dat := [.ref (cs "InvalidWeb"), .ref (cs "InvalidSide"), .ref (cs "InvalidTie"), .ref (cs "InvalidRow"), .ref (cs "InvalidKinds"), .ref (cs "InvalidNumber"), .ref (cs "InvalidPrices"), .ref (cs "InvalidIndex"), .ref (cs "InvalidPlace"), .ref (cs "InvalidText"), .ref (cs "Unlike"), .ref (cs "NothingToUndo"), .ref (cs "TooMany"), .ty "ValueError"]
theorem names_eq {E : List Dat → Option Dat} {a : Addr} {b1 b2 b3 b4 b5 b6 b7 b8 b9 b10 b11 b12 b13 b14 : Bool}
    (h1 : E [.ref a, .ref (cs "InvalidWeb")] = some (.bl b1)) (h2 : E [.ref a, .ref (cs "InvalidSide")] = some (.bl b2)) (h3 : E [.ref a, .ref (cs "InvalidTie")] = some (.bl b3)) (h4 : E [.ref a, .ref (cs "InvalidRow")] = some (.bl b4))
    (h5 : E [.ref a, .ref (cs "InvalidKinds")] = some (.bl b5)) (h6 : E [.ref a, .ref (cs "InvalidNumber")] = some (.bl b6)) (h7 : E [.ref a, .ref (cs "InvalidPrices")] = some (.bl b7)) (h8 : E [.ref a, .ref (cs "InvalidIndex")] = some (.bl b8))
    (h9 : E [.ref a, .ref (cs "InvalidPlace")] = some (.bl b9)) (h10 : E [.ref a, .ref (cs "InvalidText")] = some (.bl b10)) (h11 : E [.ref a, .ref (cs "Unlike")] = some (.bl b11)) (h12 : E [.ref a, .ref (cs "NothingToUndo")] = some (.bl b12))
    (h13 : E [.ref a, .ref (cs "TooMany")] = some (.bl b13)) (h14 : E [.ref a, .ty "ValueError"] = some (.bl b14)) {ys : List Dat} {zz : Dat}
    (hr : fLcL (gTwo 3 4) (fTru (fVar 4)) (fVar 3) [some (.ref a), some (.lst ([b1, b2, b3, b4, b5, b6, b7, b8, b9, b10, b11, b12, b13, b14].map .bl)), some (.str "web side tie row kinds number prices index place text unlike undo many value"), none, none]
      (((lblS.map Dat.str).zip ([b1, b2, b3, b4, b5, b6, b7, b8, b9, b10, b11, b12, b13, b14].map Dat.bl)).map fun p => .tup [p.1, p.2]) = .ok ys) (hj : oJoin (.str " ") (.lst ys) = some zz) :
    F__law_names cs E [.ref a] = .ok zz := by
  have z : ∀ n : Nat, n ≤ 100 → n ≤ sizeLine := fun n h => by rw [sizeLine_eq]; omega
  have z2 := z 2 (by decide)
  have z3 := z 3 (by decide)
  have z6 := z 6 (by decide)
  have z9 := z 9 (by decide)
  have z12 := z 12 (by decide)
  have z14 := z 14 (by decide)
  have hz : oZipZ [.lst (lblS.map .str), .lst ([b1, b2, b3, b4, b5, b6, b7, b8, b9, b10, b11, b12, b13, b14].map .bl)] = some (((lblS.map Dat.str).zip ([b1, b2, b3, b4, b5, b6, b7, b8, b9, b10, b11, b12, b13, b14].map Dat.bl)).map fun p => .tup [p.1, p.2]) := by
    simp only [oZipZ]
    rw [if_pos]
    exact Nat.le_refl 14
  simp [F__law_names, f__law_names, def_eq, startD, n__law_names, h1, h2, h3, h4, h5, h6, h7, h8, h9, h10, h11, h12, h13, h14, oAdd, z2, z3, z6, z9, z12, z14, fM1, lbl_eq] at hz hr ⊢
  rw [hz]
  simp [hr, hj]
theorem join_number : oJoin (.str " ") (.lst [.str "number", .str "value"]) = some (.str "number value") := by
  have h1 : Txt.join (" " : Str) ["number", "value"] = ("number value" : Str) := by decide +kernel
  have h2 : (([("number" : Str), "value"].map (·.length)).sum + [("number" : Str), "value"].length * (" " : Str).length ≤ 16777216) := by decide +kernel
  simp only [oJoin, dstrs, Option.map_some, Option.bind_some]
  rw [if_pos h2, h1]
theorem names_InvalidNumber {E : List Dat → Option Dat} {a : Addr} (h : ∀ y ∈ (([("InvalidWeb", false), ("InvalidSide", false), ("InvalidTie", false), ("InvalidRow", false), ("InvalidKinds", false), ("InvalidNumber", true), ("InvalidPrices", false), ("InvalidIndex", false), ("InvalidPlace", false), ("InvalidText", false), ("Unlike", false), ("NothingToUndo", false), ("TooMany", false)] : List (Str × Bool))), E [.ref a, .ref (cs y.1)] = some (.bl y.2))
    (h14 : E [.ref a, .ty "ValueError"] = some (.bl true)) : F__law_names cs E [.ref a] = .ok (.str "number value") := by
  simp only [List.forall_mem_cons] at h
  obtain ⟨h1, h2, h3, h4, h5, h6, h7, h8, h9, h10, h11, h12, h13, _⟩ := h
  exact names_eq h1 h2 h3 h4 h5 h6 h7 h8 h9 h10 h11 h12 h13 h14 rfl join_number
theorem join_row : oJoin (.str " ") (.lst [.str "row", .str "value"]) = some (.str "row value") := by
  have h1 : Txt.join (" " : Str) ["row", "value"] = ("row value" : Str) := by decide +kernel
  have h2 : (([("row" : Str), "value"].map (·.length)).sum + [("row" : Str), "value"].length * (" " : Str).length ≤ 16777216) := by decide +kernel
  simp only [oJoin, dstrs, Option.map_some, Option.bind_some]
  rw [if_pos h2, h1]
theorem names_InvalidRow {E : List Dat → Option Dat} {a : Addr} (h : ∀ y ∈ (([("InvalidWeb", false), ("InvalidSide", false), ("InvalidTie", false), ("InvalidRow", true), ("InvalidKinds", false), ("InvalidNumber", false), ("InvalidPrices", false), ("InvalidIndex", false), ("InvalidPlace", false), ("InvalidText", false), ("Unlike", false), ("NothingToUndo", false), ("TooMany", false)] : List (Str × Bool))), E [.ref a, .ref (cs y.1)] = some (.bl y.2))
    (h14 : E [.ref a, .ty "ValueError"] = some (.bl true)) : F__law_names cs E [.ref a] = .ok (.str "row value") := by
  simp only [List.forall_mem_cons] at h
  obtain ⟨h1, h2, h3, h4, h5, h6, h7, h8, h9, h10, h11, h12, h13, _⟩ := h
  exact names_eq h1 h2 h3 h4 h5 h6 h7 h8 h9 h10 h11 h12 h13 h14 rfl join_row
def rsd : List (Str × Str) := [("InvalidNumber", "number value"), ("InvalidRow", "row value")]
def nmD (cs : Str → Addr) : Value → Option Str
  | .ref a => (rsd.find? fun p => decide (a = cs p.1)).map (·.2)
  | _ => none
section
variable {P : Program} {w : World} {K : PySem.W.Frag} {mg : Str → Option Value} {base : Heap} {T : List (Addr × Str)}
theorem law_fn (fx : Fx K mg cs) (nmOk : NamesOk K (cs "HalfError") (F__law_names cs) nm) (hN : NmOk cs rsd nm) {c_law P_law : Addr} (lf_law : ∀ f fd, FnP K "law" s_law f fd → mg "law" = some (.ref f) → LamF base mg T fd "law.<locals>.<lambda>" c_law P_law) {f : Addr} {fd : FuncData} (F : FnP K "law" s_law f fd) (hm : mg "law" = some (.ref f)) : FnOk P w K mg base (L2N.CX P w) 7 f fd ["_law_script"] (spOf K T 1 spLaw) := by
  have a_is_whole : Cal P w K mg base T 1 "is_whole" 3 _ := w_is_whole (k := 0) fx
  have a_all_pairs : Cal P w K mg base T 1 "all_pairs" 1 _ := w_all_pairs (k := 0) fx
  have a_need_number : Cal P w K mg base T 2 "need_number" 3 _ := w_need_number (k := 1) fx (a_is_whole.mono (by decide))
  have a_by_degrees : Cal P w K mg base T 1 "by_degrees" 2 _ := w_by_degrees (k := 0) fx
  have a_least_by : Cal P w K mg base T 2 "least_by" 1 _ := w_least_by (k := 1) fx (a_by_degrees.mono (by decide))
  have a_is_of_web : Cal P w K mg base T 1 "is_of_web" 1 _ := w_is_of_web (k := 0) fx
  have a_fits_row : Cal P w K mg base T 2 "fits_row" 2 _ := w_fits_row (k := 1) fx (a_is_whole.mono (by decide)) (a_is_of_web.mono (by decide))
  have a_webs_for : Cal P w K mg base T 2 "webs_for" 1 _ := w_webs_for (k := 1) fx (a_all_pairs.mono (by decide))
  have a_falling_rows : Cal P w K mg base T 2 "falling_rows" 1 _ := w_falling_rows (k := 1) fx (a_is_of_web.mono (by decide))
  have a_need_row : Cal P w K mg base T 3 "need_row" 2 _ := w_need_row (k := 2) fx (a_fits_row.mono (by decide))
  have a_webs_with : Cal P w K mg base T 4 "webs_with" 1 _ := w_webs_with (k := 3) fx (a_need_row.mono (by decide)) (a_webs_for.mono (by decide))
  have a_rows_with : Cal P w K mg base T 3 "rows_with" 2 _ := w_rows_with (k := 2) fx (a_need_number.mono (by decide)) (a_falling_rows.mono (by decide)) (a_least_by.mono (by decide))
  have a__law_drum : Cal P w K mg base T 1 "_law_drum" 2 spDrum := (w__law_drum (k := 0) fx).imp fun ds M Q E _ h => drum_ok ds M Q E h
  have a__law_roll : Cal P w K mg base T 1 "_law_roll" 2 spRoll := (w__law_roll (k := 0) fx).imp fun ds M Q E _ h => roll_ok ds M Q E h
  have a__law_some : Cal P w K mg base T 2 "_law_some" 2 spSome := (w__law_some (k := 1) fx (a__law_roll.mono (by decide))).imp fun ds M Q E _ h => some_ok ds M Q E h
  have a__law_pairs : Cal P w K mg base T 1 "_law_pairs" 1 _ := w__law_pairs (k := 0) fx
  have a__law_web : Cal P w K mg base T 3 "_law_web" 2 spWeb := (w__law_web (k := 2) fx (a__law_roll.mono (by decide)) (a__law_some.mono (by decide)) (a__law_pairs.mono (by decide))).imp fun ds M Q E _ h => web_ok ds M Q E h
  have a__law_degrees : Cal P w K mg base T 1 "_law_degrees" 1 _ := w__law_degrees (k := 0) fx
  have a__law_row : Cal P w K mg base T 2 "_law_row" 1 _ := w__law_row (k := 1) fx (a__law_degrees.mono (by decide))
  have a__law_falling : Cal P w K mg base T 1 "_law_falling" 2 _ := w__law_falling (k := 0) fx
  have a__law_laid_off : Cal P w K mg base T 1 "_law_laid_off" 1 _ := w__law_laid_off (k := 0) fx
  have a__law_is_row : Cal P w K mg base T 2 "_law_is_row" 1 _ := w__law_is_row (k := 1) fx (a__law_laid_off.mono (by decide))
  have a__law_far_by : Cal P w K mg base T 1 "_law_far_by" 2 _ := w__law_far_by (k := 0) fx
  have a__law_all_ties : Cal P w K mg base T 2 "_law_all_ties" 1 _ := w__law_all_ties (k := 1) fx (a__law_pairs.mono (by decide))
  have e := w_law (k := 4) fx (a__law_all_ties.mono (by decide)) (a__law_falling.mono (by decide)) (a__law_is_row.mono (by decide)) (a__law_drum.mono (by decide)) (a__law_row.mono (by decide)) (a__law_web.mono (by decide)) (a_webs_with.mono (by decide)) (a__law_degrees.mono (by decide)) (a__law_roll.mono (by decide)) (a__law_far_by.mono (by decide)) (a_rows_with.mono (by decide)) (w__law_names (k := 3) fx) nmOk lf_law F hm
  exact FnOk.dimp e fun ds M Q E h => law_ok hN ds M Q E h
end
end Wk05
namespace Hk05
open PySem PySem.Spec PyProof.Rows L2 DL NH Wk05
section
variable {K K2 : PySem.W.Frag} {h : Heap} {mg : Str → Option Value}
theorem ys_InvalidNumber : ys "InvalidNumber" = ([("InvalidWeb", false), ("InvalidSide", false), ("InvalidTie", false), ("InvalidRow", false), ("InvalidKinds", false), ("InvalidNumber", true), ("InvalidPrices", false), ("InvalidIndex", false), ("InvalidPlace", false), ("InvalidText", false), ("Unlike", false), ("NothingToUndo", false), ("TooMany", false)] : List (Str × Bool)) := by decide +kernel
theorem ys_InvalidRow : ys "InvalidRow" = ([("InvalidWeb", false), ("InvalidSide", false), ("InvalidTie", false), ("InvalidRow", true), ("InvalidKinds", false), ("InvalidNumber", false), ("InvalidPrices", false), ("InvalidIndex", false), ("InvalidPlace", false), ("InvalidText", false), ("Unlike", false), ("NothingToUndo", false), ("TooMany", false)] : List (Str × Bool)) := by decide +kernel
theorem cls_ne {x y : Str} (hx : ∀ z ∈ ys x, PySem.W.kitOne K (.ref (He.ga K x)) (.ref (He.ga K z.1)) = some z.2) (hy : ∀ z ∈ ys y, PySem.W.kitOne K (.ref (He.ga K y)) (.ref (He.ga K z.1)) = some z.2) (h1 : (x, true) ∈ ys x) (h2 : (x, false) ∈ ys y) : He.ga K y ≠ He.ga K x := fun z => by
  have a := hx _ h1
  have b := hy _ h2
  rw [z] at b
  rw [a] at b
  cases b
theorem nmN (e : ex K K2 = true) : NmOk (He.ga K) rsd (nmD (He.ga K)) := by
  intro p hp
  simp only [rsd, List.mem_cons, List.mem_nil_iff, or_false] at hp
  have n0 := (exc_InvalidNumber e).2.2.1
  have n1 := (exc_InvalidRow e).2.2.1
  have d1_0 : He.ga K "InvalidRow" ≠ He.ga K "InvalidNumber" := cls_ne n0 n1 (by rw [ys_InvalidNumber]; simp) (by rw [ys_InvalidRow]; simp)
  rcases hp with rfl | rfl
  · simp [nmD, rsd]
  · simp [nmD, rsd, d1_0]
theorem nmOk (e : ex K K2 = true) (c : He.SaysD fa fn K) : NamesOk K (He.ga K "HalfError") (F__law_names (He.ga K)) (nmD (He.ga K)) := by
  intro v z h
  unfold nmD at h
  split at h
  · rename_i a
    rw [Option.map_eq_some_iff] at h
    obtain ⟨p, h1, rfl⟩ := h
    have h2 := List.find?_some h1
    have h3 := List.mem_of_find?_eq_some h1
    rw [decide_eq_true_eq] at h2
    subst h2
    simp only [rsd, List.mem_cons, List.mem_nil_iff, or_false] at h3
    rcases h3 with rfl | rfl
    · obtain ⟨h1, h2, h3, h4⟩ := exc_InvalidNumber e
      rw [ys_InvalidNumber] at h3
      refine ⟨_, rfl, exm_InvalidNumber c, h1, h2, fun a => names_InvalidNumber (fun y hy => ?_) ?_⟩
      · have := h3 y hy
        simp only [oIsE, if_true, this, Option.map_some]
      · simp only [oIsE, if_true, h4, Option.map_some]
    · obtain ⟨h1, h2, h3, h4⟩ := exc_InvalidRow e
      rw [ys_InvalidRow] at h3
      refine ⟨_, rfl, exm_InvalidRow c, h1, h2, fun a => names_InvalidRow (fun y hy => ?_) ?_⟩
      · have := h3 y hy
        simp only [oIsE, if_true, this, Option.map_some]
      · simp only [oIsE, if_true, h4, Option.map_some]
  · cases h
def csL (K K2 : PySem.W.Frag) : List (Addr × Addr) := [(HK.cAt K "law", HK.pAt K K2 "law")]
def tL (K K2 : PySem.W.Frag) : List (Addr × Str) := [(HK.pAt K K2 "law", "law.<locals>.<lambda>")]
theorem lam_of {x : Str} (e : HK.lamB K K2 x = true) : HK.codB K x = true ∧ HK.hdB K2 (HK.cAt K x) (HK.pAt K K2 x) = true ∧ HK.tabB K K2 (HK.pAt K K2 x) = true := by
  obtain ⟨h1, e⟩ := He.ba e
  obtain ⟨h2, e⟩ := He.ba e
  obtain ⟨h3, _⟩ := He.ba e
  exact ⟨h1, h2, h3⟩
theorem law_all {w : World} {f : Addr} (X : K.In h) (X2 : K2.In h) (G : h.Ns mainGlobals mg) (c : He.SaysD fa fn K) (e : ex K K2 = true) (hmg : mg ("law" : Str) = some (.ref f)) :
    LamX.LawAtS PySem.Challenge.rw_nearhalves_k05_webs_and_rows_listed w K (L2N.CX (PySem.Challenge.rw_nearhalves_k05_webs_and_rows_listed).prog w) 7 63 "_law_script" mg f h := by
  obtain ⟨fd, F⟩ := c.def_ 26 (d := dd "law" s_law) rfl
  have ef := hmg.symm.trans (He.glo_ok X G (c.fact 26 (f := .glo "law") rfl))
  cases ef
  have l0 := lam_of (exf e 1 rfl)
  have b := FunD.bindsA (ps := ["_law_script"]) F fun _ _ _ _ _ _ us hl => match us, hl with | [_], _ => rfl
  refine law_at (K2 := K2) (cs := csL K K2) (T := tL K K2) (dsp := spLaw) X2 (exf e 0 rfl) (fun p hp => ?_) (fun p hp => ?_) (by decide) (fun s v => b s [v] rfl) (fun ns hl M => ⟨ns.map .int, rfl, fun x hx => ?_, ?_, fun M' => rfl⟩) fun base Xb Gb hT => ?_
  · simp only [csL, List.mem_cons, List.mem_nil_iff, or_false] at hp
    rcases hp with rfl
    exact ⟨l0.2.2, l0.2.1⟩
  · simp only [tL, List.mem_cons, List.mem_nil_iff, or_false] at hp
    rcases hp with rfl
    exact ⟨HK.cAt K "law", by simp [csL]⟩
  · obtain ⟨i, _, rfl⟩ := List.mem_map.mp hx
    rfl
  · rw [List.length_map, sizeLine_eq]; omega
  · have gL := He.glo_ok Xb Gb (c.fact 26 (f := .glo "law") rfl)
    refine law_fn (fx Xb Gb c) (nmOk e c) (nmN e) (c_law := HK.cAt K "law") (P_law := HK.pAt K K2 "law") (fun f' fd' F' hm' => ?_) F gL
    · have ef' := hm'.symm.trans (He.glo_ok Xb Gb (c.fact 26 (f := .glo "law") rfl))
      cases ef'
      refine ⟨HK.codB_ok l0.1 F', hT (HK.cAt K "law", HK.pAt K K2 "law") (by simp [csL]), by simp [tL], fun p hp hq => ?_⟩
      simp only [tL, List.mem_cons, List.mem_nil_iff, or_false] at hp
      rcases hp with rfl
      rfl
end
end Hk05
open PySem PySem.W PySem.Calls PyProof.Rows
theorem PySem.Challenge.cw_nearhalves_k05_webs_and_rows_listed_holds : PySem.Challenge.rw_nearhalves_k05_webs_and_rows_listed.Holds := by
  w_on; o_law
  refine HandSHeadRun.head_any (r := OpenLaw.row PySem.Challenge.rw_nearhalves_k05_webs_and_rows_listed) (q := view (OpenLaw.row PySem.Challenge.rw_nearhalves_k05_webs_and_rows_listed).prog [45]) (H := Hk05.hk) (ob := Hk05.ob) (M := 30000) (loose := Hk05.loose) (d := HandSHeadRun.topDef (OpenLaw.row PySem.Challenge.rw_nearhalves_k05_webs_and_rows_listed).prog 45) (kwd := []) Hk05.ob_eq
    (by kernel_rfl) (fun s => by kernel_rfl) Hk05.run (by kernel_rfl) (by kernel_rfl) (by kernel_rfl) (by rfl) (by first | assumption | decide +kernel) (by decide +kernel) ⟨rfl, rfl, rfl, rfl, rfl, by decide +kernel⟩ ?hw ?hc
  case hw => w_witness2
  case hc =>
    refine LamX.walk_ofTsE (l := PySem.Challenge.rw_nearhalves_k05_webs_and_rows_listed) (n := 63) (k := 7) (x := "_law_script") (CX := fun w => L2N.CX (PySem.Challenge.rw_nearhalves_k05_webs_and_rows_listed).prog w) rfl (by decide) (by kernel_rfl) ⟨rfl, by decide, by decide⟩ ?F (fun _ _ _ _ _ z => ?_)
    case F =>
      intro w mg fa h Y G hmg0
      obtain ⟨K, K2, KX, KX2, c, e⟩ := Y
      have hmg : mg ("law" : PySem.Str) = some (.ref fa) := by
        have e : (HandSHeadRun.topDef (OpenLaw.row PySem.Challenge.rw_nearhalves_k05_webs_and_rows_listed).prog 45).name = ("law" : PySem.Str) := by kernel_rfl
        rw [← e]
        exact hmg0
      exact ⟨K, KX, Hk05.law_all KX KX2 G c e hmg⟩
    · obtain ⟨_, _, _, _, _, _, _, _, _, _, _, _, z⟩ := z
      exact z

end
