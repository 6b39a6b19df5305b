import PyProof.Rows.All
import Wide.All
import OpenK.AllK
import Wide.FinOn
import HandS.ForMost
import HandS.ForExc
import HandS.Lambda
import HandS.ExcCtx
import HandS.HotCalls
import HandS.ExcIs
import HandS.EndTab
import HandS.TupSets
import HandS.SetFor
import HandS.Strs
import HandS.Wide
import HandS.IsInst
import HandS.Conv
import HandS.Zip
import HandS.Small
import HandS.TupAny
import HandS.TupMul
import HandS.RevRange
import HandS.CallSlots
import KE.SortData
import KE.KDictKeyed
import PySem.Challenge.RW_fewfigures_k08_figures_told_by_numbers
import KE.KNestM
section DLa
set_option Elab.async false
set_option linter.all false
set_option maxRecDepth 100000
/-! DL: a layer of plain data over the hand layer. Values are trees (D); a def's body is read as a plain function on the slots' data. -/
namespace DL
open PySem PySem.Spec PyProof.Rows L2

/-- data: what a value means, however deep; scr: the script; own: a list, dict, instance that nobody else holds; io: one that the caller holds and this def may change; bor i: what slot i holds -/
inductive D where
  | non | bl (b : Bool) | int (i : Int) | str (x : Str) | ref (a : Addr)
  | tup (xs : List D) | lst (xs : List D) | scr (xs : List D) | dct (kvs : List (D × D)) | ins (C : Addr) (fs : List (Str × D))
  | own (d : D) | io (d : D) | bor (i : Nat)
  deriving Inhabited

abbrev FS := Addr → Prop
mutual
inductive Rep (F : FS) (H : Hp) : D → V → Prop
  | non : Rep F H .non .non
  | bl (b : Bool) : Rep F H (.bl b) (.bl b)
  | int (i : Int) : Rep F H (.int i) (.int i)
  | str (x : Str) : Rep F H (.str x) (.str x)
  | ref (a : Addr) : Rep F H (.ref a) (.ref a)
  | tup {a : Addr} {xs : List D} {vs : List V} : H a = some (.tup vs) → Reps F H xs vs → Rep F H (.tup xs) (.ref a)
  | lst {a : Addr} {xs : List D} {vs : List V} : F a → H a = some (.lst vs) → Reps F H xs vs → Rep F H (.lst xs) (.ref a)
  | scr {a : Addr} {o : Obj} {xs : List D} {vs : List V} : F a → H a = some (.frz o (.lst vs)) → Reps F H xs vs → Rep F H (.scr xs) (.ref a)
  | dct {a : Addr} {kvs : List (D × D)} {ks : List (Key × V)} : F a → H a = some (.dK ks) → RepK F H kvs ks → Rep F H (.dct kvs) (.ref a)
  | dctT {a : Addr} {kvs : List (D × D)} {ks : List (List Key × V)} : F a → H a = some (.dT ks) → RepT F H kvs ks → Rep F H (.dct kvs) (.ref a)
inductive Reps (F : FS) (H : Hp) : List D → List V → Prop
  | nil : Reps F H [] []
  | cons {d : D} {ds : List D} {v : V} {vs : List V} : Rep F H d v → Reps F H ds vs → Reps F H (d :: ds) (v :: vs)
inductive RepK (F : FS) (H : Hp) : List (D × D) → List (Key × V) → Prop
  | nil : RepK F H [] []
  | int {i : Int} {d : D} {kvs : List (D × D)} {v : V} {ks : List (Key × V)} : Rep F H d v → RepK F H kvs ks → RepK F H ((.int i, d) :: kvs) ((.inl i, v) :: ks)
inductive RepT (F : FS) (H : Hp) : List (D × D) → List (List Key × V) → Prop
  | nil : RepT F H [] []
  | tup {is : List Int} {d : D} {kvs : List (D × D)} {v : V} {ks : List (List Key × V)} : Rep F H d v → RepT F H kvs ks → RepT F H ((.tup (is.map D.int), d) :: kvs) ((is.map Sum.inl, v) :: ks)
end

/-- what is frozen, and each tuple, stays -/
structure Stab (F : FS) (H H' : Hp) : Prop where
  tup : ∀ a vs, H a = some (.tup vs) → H' a = some (.tup vs)
  frz : ∀ a o, F a → H a = some o → H' a = some o
structure Le (F : FS) (H : Hp) (F' : FS) (H' : Hp) : Prop where
  sub : ∀ a, F a → F' a
  st : Stab F H H'
theorem Stab.refl {F : FS} {H : Hp} : Stab F H H := ⟨fun _ _ h => h, fun _ _ _ h => h⟩
theorem Le.refl {F : FS} {H : Hp} : Le F H F H := ⟨fun _ h => h, .refl⟩
theorem Le.trans {F F1 F2 : FS} {H H1 H2 : Hp} (p : Le F H F1 H1) (q : Le F1 H1 F2 H2) : Le F H F2 H2 :=
  ⟨fun b h => q.sub b (p.sub b h), fun b vs h => q.st.tup b vs (p.st.tup b vs h), fun b o h e => q.st.frz b o (p.sub b h) (p.st.frz b o h e)⟩
theorem Stab.same {F : FS} {H H' : Hp} (s : Same H H') : Stab F H H' := ⟨fun _ _ h => s _ _ h, fun _ _ _ h => s _ _ h⟩
theorem Le.same {F : FS} {H H' : Hp} (s : Same H H') : Le F H F H' := ⟨fun _ h => h, .same s⟩
section
variable {F F' : FS} {H H' : Hp}
mutual
theorem Rep.le (p : Le F H F' H') : ∀ {d : D} {v : V}, Rep F H d v → Rep F' H' d v
  | _, _, .non => .non
  | _, _, .bl b => .bl b
  | _, _, .int i => .int i
  | _, _, .str x => .str x
  | _, _, .ref a => .ref a
  | _, _, .tup h r => .tup (p.st.tup _ _ h) (Reps.le p r)
  | _, _, .lst f h r => .lst (p.sub _ f) (p.st.frz _ _ f h) (Reps.le p r)
  | _, _, .scr f h r => .scr (p.sub _ f) (p.st.frz _ _ f h) (Reps.le p r)
  | _, _, .dct f h r => .dct (p.sub _ f) (p.st.frz _ _ f h) (RepK.le p r)
  | _, _, .dctT f h r => .dctT (p.sub _ f) (p.st.frz _ _ f h) (RepT.le p r)
theorem Reps.le (p : Le F H F' H') : ∀ {d : List D} {v : List V}, Reps F H d v → Reps F' H' d v
  | _, _, .nil => .nil
  | _, _, .cons r rs => .cons (Rep.le p r) (Reps.le p rs)
theorem RepK.le (p : Le F H F' H') : ∀ {d : List (D × D)} {v : List (Key × V)}, RepK F H d v → RepK F' H' d v
  | _, _, .nil => .nil
  | _, _, .int r rs => .int (Rep.le p r) (RepK.le p rs)
theorem RepT.le (p : Le F H F' H') : ∀ {d : List (D × D)} {v : List (List Key × V)}, RepT F H d v → RepT F' H' d v
  | _, _, .nil => .nil
  | _, _, .tup r rs => .tup (Rep.le p r) (RepT.le p rs)
end
end
end DL

end DLa
section DLb
set_option Elab.async false
set_option linter.all false
set_option autoImplicit false
set_option maxRecDepth 100000
namespace DL
open PySem PySem.Spec PyProof.Rows L2

/-- what a body is entered with: the heap, what was frozen, what it may change, the module's names, what is wanted of errors; T: fresh things that are at hand, in no slot yet -/
structure Gh where
  T : List (D × Addr)
  H0 : Hp
  F0 : FS
  I0 : FS
  mg : Str → Option Value
  E : XK
  tb : List (Addr × Str)

/-- nothing but a table, or nothing -/
def Nw (H : Hp) (a : Addr) : Prop := ∀ o, H a = some o → ∃ ps, o = .tbl ps
theorem Nw.of {H : Hp} {a : Addr} (n : H a = none) : Nw H a := fun o e => by rw [n] at e; cases e
/-- the changeable thing at v -/
def RepM (F : FS) (H : Hp) : D → V → Prop
  | .lst xs, v => ∃ a vs, v = .ref a ∧ H a = some (.lst vs) ∧ Reps F H xs vs
  | .dct kvs, v => ∃ a, v = .ref a ∧ ((∃ ks, H a = some (.dK ks) ∧ RepK F H kvs ks) ∨ (∃ ks, H a = some (.dT ks) ∧ RepT F H kvs ks))
  | .ins C fs, v => ∃ a dx vs, v = .ref a ∧ H a = some (.ins C dx (fs.map (·.1) |>.zip vs)) ∧ Reps F H (fs.map (·.2)) vs
  | _, _ => False
abbrev LS := List (Option D)
def RepS (G : Gh) (F : FS) (H : Hp) : D → V → Prop
  | .own d, v => RepM F H d v ∧ ∃ a, v = .ref a ∧ ¬ F a ∧ Nw G.H0 a
  | .io d, v => RepM F H d v ∧ ∃ a, v = .ref a ∧ ¬ F a ∧ G.I0 a
  | .bor _, _ => False
  | d, v => Rep F H d v
def Chg : D → Prop
  | .own _ => True
  | .io _ => True
  | _ => False
structure Keep (G : Gh) (H : Hp) : Prop where
  all : ∀ a o, G.H0 a = some o → ¬ G.I0 a → (∀ ps, o ≠ .tbl ps) → H a = some o
  dom : ∀ a, Nw H a → Nw G.H0 a
  tabs : LamX.Tabs G.tb H
structure LInv (G : Gh) (F : FS) (ls : LS) (σ : L2.St) (H : Hp) : Prop where
  keep : Keep G H
  slot : ∀ (i : Nat) (d : D), ls[i]? = some (some d) → ∃ v, σ[i]? = some (some v) ∧ RepS G F H d v
  apart : ∀ (i j : Nat) (d d' : D) (v : V), i ≠ j → ls[i]? = some (some d) → ls[j]? = some (some d') → Chg d → Chg d' → σ[i]? = some (some v) → σ[j]? ≠ some (some v)
  there : ∀ a, F a → ¬ Nw H a
  fnew : ∀ a, F a → G.F0 a ∨ Nw G.H0 a
  len : ls.length = σ.length
  pin : ∀ p ∈ G.T, RepM F H p.1 (.ref p.2) ∧ ¬ F p.2 ∧ Nw G.H0 p.2 ∧ ∀ (i : Nat) (d : D), ls[i]? = some (some d) → Chg d → σ[i]? ≠ some (some (.ref p.2))

/-- how a reading ends -/
inductive Res (α : Type) where
  | ok (x : α) | exc (x : Str) | stuck
abbrev RD := Res (D × LS)
abbrev ME := LS → RD
/-- an expression's value, where it has just been made -/
def RepX (G : Gh) (F : FS) (H : Hp) (ls : LS) (σ : L2.St) : D → V → Prop
  | .own d, v => RepM F H d v ∧ (∃ a, v = .ref a ∧ ¬ F a ∧ Nw G.H0 a) ∧ (∀ (i : Nat) (d : D), ls[i]? = some (some d) → Chg d → σ[i]? ≠ some (some v)) ∧ ∀ p ∈ G.T, v ≠ .ref p.2
  | .io _, _ => False
  | .bor i, v => σ[i]? = some (some v) ∧ ∃ d, ls[i]? = some (some d) ∧ Chg d
  | d, v => Rep F H d v
def Out (G : Gh) (r : RD) (F : FS) (σ : L2.St) (H : Hp) (Q : VK) : Prop :=
  match r with
  | .ok (d, ls) => ∀ F' H' v, Le F H F' H' → LInv G F' ls σ H' → RepX G F' H' ls σ d v → Q v H'
  | .exc x => ∀ H' C, Keep G H' → G.mg x = some (.ref C) → G.E (.ref C) none H'
  | .stuck => False
def tOf (G : Gh) (m : ME) : TE := fun σ H Q => ∃ F ls, LInv G F ls σ H ∧ Out G (m ls) F σ H Q
abbrev DE (X : Cx) (G : Gh) (e : Expr) (m : ME) : Prop := PE X e (tOf G m)

section
variable {G : Gh} {F F' : FS} {H H' : Hp} {ls : LS} {σ : L2.St} {Q : VK} {d : D} {v : V}
theorem Out.later {r : RD} (p : Le F H F' H') (o : Out G r F σ H Q) : Out G r F' σ H' Q := by
  cases r with
  | ok x => obtain ⟨d, ls⟩ := x; exact fun F2 H2 v q => o F2 H2 v (p.trans q)
  | exc x => exact o
  | stuck => exact o
theorem Out.mono {r : RD} {Q' : VK} (o : Out G r F σ H Q) (h : ∀ v H, Q v H → Q' v H) : Out G r F σ H Q' := by
  cases r with
  | ok x => obtain ⟨d, ls⟩ := x; exact fun F2 H2 v q i r => h _ _ (o F2 H2 v q i r)
  | exc x => exact o
  | stuck => exact o
def Res.bind {α β : Type} (r : Res α) (f : α → Res β) : Res β := match r with
  | .ok x => f x
  | .exc x => .exc x
  | .stuck => .stuck
theorem Res.bind_ok {α β : Type} (x : α) (f : α → Res β) : (Res.ok x).bind f = f x := rfl
theorem Res.bind_exc {α β : Type} (x : Str) (f : α → Res β) : (Res.exc x : Res α).bind f = .exc x := rfl
theorem Res.bind_stuck {α β : Type} (f : α → Res β) : (Res.stuck : Res α).bind f = .stuck := rfl
/-- first ma, then what follows -/
theorem tOf.first {ma : ME} {f : D × LS → RD} (L : LInv G F ls σ H) (o : Out G ((ma ls).bind f) F σ H Q)
    {Q' : VK} (h : ∀ F1 H1 ls1 d v, Le F H F1 H1 → LInv G F1 ls1 σ H1 → RepX G F1 H1 ls1 σ d v → Out G (f (d, ls1)) F1 σ H1 Q → Q' v H1) : tOf G ma σ H Q' := by
  refine ⟨F, ls, L, ?_⟩
  revert o
  cases ma ls with
  | ok x => obtain ⟨d, ls1⟩ := x; exact fun o F1 H1 v p L1 r => h F1 H1 ls1 d v p L1 r (Out.later p o)
  | exc x => exact fun o => o
  | stuck => exact fun o => o

/-! ### settling a value -/
theorem RepM.le {d : D} {v : V} (p : Le F H F' H') (hv : ∀ a, v = .ref a → H a = H' a) (r : RepM F H d v) : RepM F' H' d v := by
  cases d with
  | lst xs => obtain ⟨a, vs, e, h, q⟩ := r; exact ⟨a, vs, e, by rw [← hv a e]; exact h, q.le p⟩
  | dct kvs =>
    obtain ⟨a, e, h⟩ := r
    rcases h with ⟨ks, h, q⟩ | ⟨ks, h, q⟩
    · exact ⟨a, e, .inl ⟨ks, by rw [← hv a e]; exact h, q.le p⟩⟩
    · exact ⟨a, e, .inr ⟨ks, by rw [← hv a e]; exact h, q.le p⟩⟩
  | ins C fs => obtain ⟨a, dx, vs, e, h, q⟩ := r; exact ⟨a, dx, vs, e, by rw [← hv a e]; exact h, q.le p⟩
  | _ => exact r.elim
/-- what may be frozen -/
def Frz : D → Prop
  | .lst _ => True
  | .dct _ => True
  | _ => False
theorem RepM.frozen {a : Addr} (z : Frz d) (f : F a) (r : RepM F H d (.ref a)) : Rep F H d (.ref a) := by
  cases d with
  | lst xs => obtain ⟨b, vs, e, h, q⟩ := r; cases e; exact .lst f h q
  | dct kvs =>
    obtain ⟨b, e, h⟩ := r
    cases e
    rcases h with ⟨ks, h, q⟩ | ⟨ks, h, q⟩
    · exact .dct f h q
    · exact .dctT f h q
  | _ => exact z.elim
theorem RepM.there {a : Addr} (r : RepM F H d (.ref a)) : H a ≠ none := by
  cases d with
  | lst xs => obtain ⟨b, vs, e, h, q⟩ := r; cases e; rw [h]; simp
  | dct kvs =>
    obtain ⟨b, e, h⟩ := r
    cases e
    rcases h with ⟨ks, h, q⟩ | ⟨ks, h, q⟩ <;> (rw [h]; simp)
  | ins C fs => obtain ⟨b, dx, vs, e, h, q⟩ := r; cases e; rw [h]; simp
  | _ => exact r.elim
theorem RepM.nw {a : Addr} (r : RepM F H d (.ref a)) (n : Nw H a) : False := by
  cases d with
  | lst xs => obtain ⟨b, vs, e, h, q⟩ := r; cases e; obtain ⟨ps, z⟩ := n _ h; cases z
  | dct kvs =>
    obtain ⟨b, e, h⟩ := r
    cases e
    rcases h with ⟨ks, h, q⟩ | ⟨ks, h, q⟩ <;> (obtain ⟨ps, z⟩ := n _ h; cases z)
  | ins C fs => obtain ⟨b, dx, vs, e, h, q⟩ := r; cases e; obtain ⟨ps, z⟩ := n _ h; cases z
  | _ => exact r.elim
def plus (F : FS) (a : Addr) : FS := fun b => F b ∨ b = a
theorem Le.plus {a : Addr} : Le F H (plus F a) H := ⟨fun b h => .inl h, .refl⟩
theorem RepS.le {d : D} {v : V} (p : Le F H F' H') (hv : ∀ a, Chg d → v = .ref a → H a = H' a ∧ ¬ F' a) (r : RepS G F H d v) : RepS G F' H' d v := by
  cases d with
  | own d => obtain ⟨m, a, e, nf, h0⟩ := r; exact ⟨m.le p fun b eb => (hv b trivial eb).1, a, e, (hv a trivial e).2, h0⟩
  | io d => obtain ⟨m, a, e, nf, h0⟩ := r; exact ⟨m.le p fun b eb => (hv b trivial eb).1, a, e, (hv a trivial e).2, h0⟩
  | bor i => exact r.elim
  | non => exact Rep.le p r
  | bl => exact Rep.le p r
  | int => exact Rep.le p r
  | str => exact Rep.le p r
  | ref => exact Rep.le p r
  | tup => exact Rep.le p r
  | lst => exact Rep.le p r
  | scr => exact Rep.le p r
  | dct => exact Rep.le p r
  | ins => cases (show Rep F H _ _ from r)
theorem LInv.freeze {a : Addr} (L : LInv G F ls σ H) (th : ¬ Nw H a) (h0 : Nw G.H0 a) (na : ∀ (i : Nat) (d : D), ls[i]? = some (some d) → Chg d → σ[i]? ≠ some (some (.ref a))) (np : ∀ p ∈ G.T, (V.ref a) ≠ .ref p.2) : LInv G (plus F a) ls σ H where
  keep := L.keep
  slot := fun i d e => by
    obtain ⟨v, h1, h2⟩ := L.slot i d e
    refine ⟨v, h1, h2.le Le.plus fun b c eb => ⟨rfl, fun q => ?_⟩⟩
    rcases q with q | q
    · cases d with
      | own d => obtain ⟨m, a', e', nf, _⟩ := h2; rw [e'] at eb; cases eb; exact nf q
      | io d => obtain ⟨m, a', e', nf, _⟩ := h2; rw [e'] at eb; cases eb; exact nf q
      | _ => exact c.elim
    · subst q eb; exact na i d e c h1
  apart := L.apart
  there := fun b q => by
    rcases q with q | q
    · exact L.there b q
    · subst q; exact th
  fnew := fun b q => by
    rcases q with q | q
    · exact L.fnew b q
    · subst q; exact .inr h0
  len := L.len
  pin := fun p hp => by
    obtain ⟨m, nf, h0, q⟩ := L.pin p hp
    refine ⟨m.le Le.plus fun _ _ => rfl, fun z => ?_, h0, q⟩
    rcases z with z | z
    · exact nf z
    · exact np p hp (by rw [z])
/-- a value that is kept: what was fresh is frozen -/
def stl : D → Option D
  | .own (.lst xs) => some (.lst xs)
  | .own (.dct kvs) => some (.dct kvs)
  | .own _ => none
  | .io _ => none
  | d => some d
/-- a settled value: frozen, or what a slot holds -/
def RepY (F : FS) (H : Hp) (σ : L2.St) : D → V → Prop
  | .own _, _ => False
  | .io _, _ => False
  | .bor i, v => σ[i]? = some (some v)
  | d, v => Rep F H d v
theorem RepY.le {d : D} {v : V} (p : Le F H F' H') (r : RepY F H σ d v) : RepY F' H' σ d v := by
  cases d with
  | own d => exact r.elim
  | io d => exact r.elim
  | bor i => exact r
  | non => exact Rep.le p r
  | bl => exact Rep.le p r
  | int => exact Rep.le p r
  | str => exact Rep.le p r
  | ref => exact Rep.le p r
  | tup => exact Rep.le p r
  | lst => exact Rep.le p r
  | scr => exact Rep.le p r
  | dct => exact Rep.le p r
  | ins => cases (show Rep F H _ _ from r)
theorem settle {d d' : D} (L : LInv G F ls σ H) (r : RepX G F H ls σ d v) (e : stl d = some d') : ∃ F', Le F H F' H ∧ LInv G F' ls σ H ∧ RepY F' H σ d' v := by
  cases d with
  | own d =>
    obtain ⟨m, ⟨a, rfl, nf, h0⟩, na, np⟩ := r
    have fr : LInv G (plus F a) ls σ H := L.freeze m.nw h0 na np
    cases d with
    | lst xs => cases e; exact ⟨_, Le.plus, fr, (m.le Le.plus fun _ _ => rfl).frozen trivial (.inr rfl)⟩
    | dct xs => cases e; exact ⟨_, Le.plus, fr, (m.le Le.plus fun _ _ => rfl).frozen trivial (.inr rfl)⟩
    | _ => cases e
  | io d => exact r.elim
  | bor i => cases e; exact ⟨F, .refl, L, r.1⟩
  | non => cases e; exact ⟨F, .refl, L, r⟩
  | bl => cases e; exact ⟨F, .refl, L, r⟩
  | int => cases e; exact ⟨F, .refl, L, r⟩
  | str => cases e; exact ⟨F, .refl, L, r⟩
  | ref => cases e; exact ⟨F, .refl, L, r⟩
  | tup => cases e; exact ⟨F, .refl, L, r⟩
  | lst => cases e; exact ⟨F, .refl, L, r⟩
  | scr => cases e; exact ⟨F, .refl, L, r⟩
  | dct => cases e; exact ⟨F, .refl, L, r⟩
  | ins => cases (show Rep F H _ _ from r)
/-- what a settled value is, read now -/
def cont : D → Option D
  | .own d => some d
  | .io d => some d
  | .bor _ => none
  | d => some d
def see (ls : LS) : D → Option D
  | .bor i => (ls[i]?).bind fun o => o.bind cont
  | .own _ => none
  | .io _ => none
  | d => some d
/-- what may be read: frozen, or changeable at its place -/
def RepR (F : FS) (H : Hp) (d : D) (v : V) : Prop := Rep F H d v ∨ RepM F H d v
theorem see_rep {d d' : D} (L : LInv G F ls σ H) (r : RepY F H σ d v) (e : see ls d = some d') : RepR F H d' v := by
  cases d with
  | bor i =>
    have e : (ls[i]?).bind (fun o => o.bind cont) = some d' := e
    cases q : ls[i]? with
    | none => rw [q] at e; cases e
    | some o =>
      cases o with
      | none => rw [q] at e; cases e
      | some x =>
        rw [q] at e
        obtain ⟨u, h1, h2⟩ := L.slot i x q
        have r' : σ[i]? = some (some v) := r
        rw [h1] at r'; cases r'
        cases x with
        | own d => cases e; exact .inr h2.1
        | io d => cases e; exact .inr h2.1
        | bor j => cases e
        | non => cases e; exact .inl h2
        | bl => cases e; exact .inl h2
        | int => cases e; exact .inl h2
        | str => cases e; exact .inl h2
        | ref => cases e; exact .inl h2
        | tup => cases e; exact .inl h2
        | lst => cases e; exact .inl h2
        | scr => cases e; exact .inl h2
        | dct => cases e; exact .inl h2
        | ins => cases (show Rep F H _ _ from h2)
  | own d => exact r.elim
  | io d => exact r.elim
  | non => cases e; exact .inl r
  | bl => cases e; exact .inl r
  | int => cases e; exact .inl r
  | str => cases e; exact .inl r
  | ref => cases e; exact .inl r
  | tup => cases e; exact .inl r
  | lst => cases e; exact .inl r
  | scr => cases e; exact .inl r
  | dct => cases e; exact .inl r
  | ins => cases (show Rep F H _ _ from r)

/-! ### what only grows -/
theorem Keep.same (k : Keep G H) (s : Same H H') : Keep G H' := ⟨fun a o e n t => s a o (k.all a o e n t), fun a e => k.dom a fun o h => e o (s a o h), k.tabs.ext s⟩
theorem LInv.same (L : LInv G F ls σ H) (s : Same H H') : LInv G F ls σ H' where
  keep := L.keep.same s
  slot := fun i d e => by
    obtain ⟨v, h1, h2⟩ := L.slot i d e
    refine ⟨v, h1, h2.le (Le.same s) fun b c eb => ?_⟩
    have th : H b ≠ none ∧ ¬ F b := by
      cases d with
      | own d => obtain ⟨m, a', e', nf, _⟩ := h2; rw [e'] at eb; cases eb; rw [e'] at m; exact ⟨m.there, nf⟩
      | io d => obtain ⟨m, a', e', nf, _⟩ := h2; rw [e'] at eb; cases eb; rw [e'] at m; exact ⟨m.there, nf⟩
      | _ => exact c.elim
    cases q : H b with
    | none => exact absurd q th.1
    | some o => exact ⟨(s b o q).symm, th.2⟩
  apart := L.apart
  there := fun a f n => L.there a f fun o h => n o (s a o h)
  fnew := L.fnew
  len := L.len
  pin := fun p hp => by
    obtain ⟨m, nf, h0, q⟩ := L.pin p hp
    refine ⟨m.le (Le.same s) fun b eb => ?_, nf, h0, q⟩
    cases eb
    cases z : H p.2 with
    | none => exact absurd z m.there
    | some o => exact (s _ o z).symm
/-- a new value, of a step that only grows the heap -/
def RepP (F : FS) (H H' : Hp) : D → V → Prop
  | .own d, v => RepM F H' d v ∧ ∃ a, v = .ref a ∧ H a = none
  | .io _, _ => False
  | .bor _, _ => False
  | d, v => Rep F H' d v
def Pur (F : FS) (H : Hp) (d : D) (Q : VK) : Prop := ∀ H' v, Same H H' → RepP F H H' d v → Q v H'
theorem Pur.of (L : LInv G F ls σ H) (o : Out G (.ok (d, ls)) F σ H Q) : Pur F H d Q := fun H' v s r => by
  refine o F H' v (Le.same s) (L.same s) ?_
  cases d with
  | own d =>
    obtain ⟨m, a, e, n⟩ := r
    refine ⟨m, ⟨a, e, fun f => L.there a f (.of n), L.keep.dom a (.of n)⟩, fun i d' e1 c q => ?_, fun p hp z => ?_⟩
    · obtain ⟨u, h1, h2⟩ := L.slot i d' e1
      rw [h1] at q; cases q; subst e
      cases d' with
      | own d => exact h2.1.there n
      | io d => exact h2.1.there n
      | _ => exact c.elim
    · rw [e] at z; cases z
      exact (L.pin p hp).1.there n
  | io d => exact r.elim
  | bor i => exact r.elim
  | non => exact r
  | bl => exact r
  | int => exact r
  | str => exact r
  | ref => exact r
  | tup => exact r
  | lst => exact r
  | scr => exact r
  | dct => exact r
  | ins => exact r
end
end DL

end DLb
section DLc
set_option Elab.async false
set_option linter.all false
set_option autoImplicit false
set_option maxRecDepth 100000
namespace DL
open PySem PySem.Spec PyProof.Rows L2

def opt {α : Type} : Option α → Res α
  | some x => .ok x
  | none => .stuck
theorem opt_some {α : Type} (x : α) : opt (some x) = .ok x := rfl
theorem opt_none {α : Type} : (opt none : Res α) = .stuck := rfl

section
variable {X : Cx} {G : Gh} {e : Expr}
theorem pe_imp {t t' : TE} (h : PE X e t) (w : ∀ σ H Q, t' σ H Q → t σ H Q) : PE X e t' := ⟨fun pins s σ H Q I q => h.run pins s σ H Q I (w σ H Q q)⟩
theorem pt_imp {t t' : TT} (h : PT X e t) (w : ∀ σ H Q, t' σ H Q → t σ H Q) : PT X e t' := ⟨fun pins s σ H Q I q => h.run pins s σ H Q I (w σ H Q q)⟩
theorem pa_imp {es : List Expr} {t t' : TA} (h : PA X es t) (w : ∀ σ H Q, t' σ H Q → t σ H Q) : PA X es t' := ⟨fun pos pins s σ H Q I q => h.run pos pins s σ H Q I (w σ H Q q)⟩
theorem pw_imp {t t' : TT} (h : PW X e t) (w : ∀ σ H Q, t' σ H Q → t σ H Q) : PW X e t' := ⟨fun wh pins s σ H Q I q => h.run wh pins s σ H Q I (w σ H Q q)⟩

/-! ### names and constants -/
def cst (d : D) : ME := fun ls => .ok (d, ls)
def plainD : D → Option V
  | .non => some .non
  | .bl b => some (.bl b)
  | .int i => some (.int i)
  | .str x => some (.str x)
  | .ref a => some (.ref a)
  | _ => none
theorem cst_imp {d : D} {v : V} (h : plainD d = some v) (σ : L2.St) (H : Hp) (Q : VK) (q : tOf G (cst d) σ H Q) : tC v σ H Q := by
  obtain ⟨F, ls, L, o⟩ := q
  refine Pur.of L o H v (Same.refl H) ?_
  cases d <;> cases h <;> constructor
theorem de_int {i : Int} {j pos} : DE X G (.Constant (.int i) j pos) (cst (.int i)) := pe_imp pe_int (cst_imp rfl)
theorem de_bl {b : Bool} {j pos} : DE X G (.Constant (.bool b) j pos) (cst (.bl b)) := pe_imp pe_bl (cst_imp rfl)
theorem de_non {j pos} : DE X G (.Constant .none j pos) (cst .non) := pe_imp pe_non (cst_imp rfl)
theorem de_str {x : Str} {j pos} : DE X G (.Constant (.str x) j pos) (cst (.str x)) := pe_imp pe_str (cst_imp rfl)
/-- a module's constant -/
theorem de_glob {x : Str} {d : D} {v : V} {u : Value} {pos : Pos} (hg : Gl X x) (hm : X.mg x = some u) (r : RelV v u) (hd : plainD d = some v) (hb : (x == ("__debug__" : Str)) = false := by decide) : DE X G (.Name x pos) (cst d) := pe_imp (pe_glob hg hm r hb) (cst_imp hd)

def var (i : Nat) : ME := fun ls => match ls[i]? with
  | some (some (.own _)) => .ok (.bor i, ls)
  | some (some (.io _)) => .ok (.bor i, ls)
  | some (some (.bor _)) => .stuck
  | some (some d) => .ok (d, ls)
  | _ => .stuck
theorem var_imp {i : Nat} (σ : L2.St) (H : Hp) (Q : VK) (q : tOf G (var i) σ H Q) : tVar i σ H Q := by
  obtain ⟨F, ls, L, o⟩ := q
  unfold var at o
  cases e : ls[i]? with
  | none => simp only [e] at o; exact o.elim
  | some z =>
    cases z with
    | none => simp only [e] at o; exact o.elim
    | some d =>
      simp only [e] at o
      obtain ⟨v, h1, h2⟩ := L.slot i d e
      refine ⟨v, h1, ?_⟩
      cases d with
      | own d => exact o F H v .refl L ⟨h1, _, e, trivial⟩
      | io d => exact o F H v .refl L ⟨h1, _, e, trivial⟩
      | bor j => exact o.elim
      | non => exact o F H v .refl L h2
      | bl => exact o F H v .refl L h2
      | int => exact o F H v .refl L h2
      | str => exact o F H v .refl L h2
      | ref => exact o F H v .refl L h2
      | tup => exact o F H v .refl L h2
      | lst => exact o F H v .refl L h2
      | scr => exact o F H v .refl L h2
      | dct => exact o F H v .refl L h2
      | ins => exact o F H v .refl L h2
theorem dv (i : Nat) {x : Str} {pos : Pos} (hN : X.N[i]? = some x := by rfl) (hv : Vis X.env.scope x := by first | exact Or.inl rfl | exact Or.inr (Or.inl rfl) | exact Or.inr (Or.inr rfl)) (hd : (x == ("__debug__" : Str)) = false := by decide)
    (hcd : (x == ("__classdict__" : Str)) = false := by decide) : DE X G (.Name x pos) (var i) := pe_imp (pe_var hN hv hd hcd) (fun σ H Q => var_imp σ H Q)

/-! ### two operands -/
/-- evaluated, settled -/
def val (m : ME) : ME := fun ls => (m ls).bind fun p => (opt (stl p.1)).bind fun x => .ok (x, p.2)
def bin (g : D → D → Option D) (ma mb : ME) : ME := fun ls => (val ma ls).bind fun p => (val mb p.2).bind fun q =>
  (opt (see q.2 p.1)).bind fun x => (opt (see q.2 q.1)).bind fun y => (opt (g x y)).bind fun d => .ok (d, q.2)
def OpD (r : R2) (g : D → D → Option D) : Prop := ∀ (F : FS) (H : Hp) (x y d : D) (v u : V) (Q : VK), RepR F H x v → RepR F H y u → g x y = some d → Pur F H d Q → r v u H Q

theorem tOf.settled {F : FS} {H : Hp} {ls : LS} {σ : L2.St} {Q : VK} {ma : ME} {f : D × LS → RD} (L : LInv G F ls σ H) (o : Out G ((val ma ls).bind f) F σ H Q)
    {Q' : VK} (h : ∀ F1 H1 ls1 d v, Le F H F1 H1 → LInv G F1 ls1 σ H1 → RepY F1 H1 σ d v → Out G (f (d, ls1)) F1 σ H1 Q → Q' v H1) : tOf G ma σ H Q' := by
  have e : (val ma ls).bind f = (ma ls).bind fun p => (opt (stl p.1)).bind fun x => f (x, p.2) := by
    unfold val
    cases ma ls with
    | ok p => show ((opt (stl p.1)).bind fun x => Res.ok (x, p.2)).bind f = (opt (stl p.1)).bind _; cases stl p.1 <;> rfl
    | exc x => rfl
    | stuck => rfl
  rw [e] at o
  refine tOf.first L o fun F1 H1 ls1 d v p L1 r o1 => ?_
  cases q : stl d with
  | none => simp only [q] at o1; exact o1.elim
  | some x =>
    simp only [q] at o1
    obtain ⟨F2, p2, L2, r2⟩ := settle L1 r q
    exact h F2 H1 ls1 x v (p.trans p2) L2 r2 (Out.later p2 o1)
theorem bin_imp {r : R2} {g : D → D → Option D} (hg : OpD r g) {ma mb : ME} (σ : L2.St) (H : Hp) (Q : VK) (q : tOf G (bin g ma mb) σ H Q) : tOp r (tOf G ma) (tOf G mb) σ H Q := by
  obtain ⟨F, ls, L, o⟩ := q
  refine tOf.settled L o fun F1 H1 ls1 d v p L1 r1 o1 => ?_
  refine tOf.settled L1 o1 fun F2 H2 ls2 d2 u p2 L2 r2 o2 => ?_
  dsimp only at o2
  cases e1 : see ls2 d with
  | none => rw [e1] at o2; exact o2.elim
  | some x =>
    cases e2 : see ls2 d2 with
    | none => rw [e1, e2] at o2; exact o2.elim
    | some y =>
      rw [e1, e2] at o2
      simp only [opt_some, Res.bind_ok] at o2
      cases e3 : g x y with
      | none => rw [e3] at o2; exact o2.elim
      | some z =>
        rw [e3] at o2
        exact hg F2 H2 x y z v u Q (see_rep L2 (r1.le p2) e1) (see_rep L2 r2 e2) e3 (Pur.of L2 o2)
theorem de_bin {a b : Expr} {op : Operator} {r : R2} {g : D → D → Option D} {ma mb : ME} {pos : Pos} (ho : OpR X (binaryOp op) r) (hg : OpD r g) (ha : DE X G a ma) (hb : DE X G b mb) : DE X G (.BinOp a op b pos) (bin g ma mb) :=
  pe_imp (pe_op ho ha hb) (bin_imp hg)
theorem de_cmp {a b : Expr} {op : CmpOp} {r : R2} {g : D → D → Option D} {ma mb : ME} {pos : Pos} (ho : OpR X (compareOp op) r) (hg : OpD r g) (ha : DE X G a ma) (hb : DE X G b mb) (hm : behindInMarks op b = false) : DE X G (.Compare a [op] [b] pos) (bin g ma mb) :=
  pe_imp (pe_cmpR ho ha hb hm) (bin_imp hg)
theorem de_ix {a b : Expr} {r : R2} {g : D → D → Option D} {ma mb : ME} {pos : Pos} (hr : IxR X r) (hg : OpD r g) (ha : DE X G a ma) (hb : DE X G b mb) (hs : PlainIx b) : DE X G (.Subscript a b pos) (bin g ma mb) :=
  pe_imp (pe_ix hr ha hb hs) (bin_imp hg)
/-- one operand -/
def un (g : D → Option D) (ma : ME) : ME := fun ls => (val ma ls).bind fun p => (opt (see p.2 p.1)).bind fun x => (opt (g x)).bind fun d => .ok (d, p.2)
def UnD (r : V → Hp → VK → Prop) (g : D → Option D) : Prop := ∀ (F : FS) (H : Hp) (x d : D) (v : V) (Q : VK), RepR F H x v → g x = some d → Pur F H d Q → r v H Q
theorem un_imp {r : V → Hp → VK → Prop} {g : D → Option D} (hg : UnD r g) {ma : ME} (σ : L2.St) (H : Hp) (Q : VK) (q : tOf G (un g ma) σ H Q) : tUn r (tOf G ma) σ H Q := by
  obtain ⟨F, ls, L, o⟩ := q
  refine tOf.settled L o fun F1 H1 ls1 d v p L1 r1 o1 => ?_
  dsimp only at o1
  cases e1 : see ls1 d with
  | none => rw [e1] at o1; exact o1.elim
  | some x =>
    rw [e1] at o1
    simp only [opt_some, Res.bind_ok] at o1
    cases e3 : g x with
    | none => rw [e3] at o1; exact o1.elim
    | some z =>
      rw [e3] at o1
      exact hg F1 H1 x z v Q (see_rep L1 r1 e1) e3 (Pur.of L1 o1)
theorem de_un {a : Expr} {op : UnaryOp} {r : V → Hp → VK → Prop} {g : D → Option D} {ma : ME} {pos : Pos} (ho : UnR X (unaryOp op) r) (hg : UnD r g) (ha : DE X G a ma) : DE X G (.UnaryOp op a pos) (un g ma) :=
  pe_imp (pe_un ho ha) (un_imp hg)

/-! ### tests -/
abbrev MT := LS → Res (Bool × LS)
def OutT (G : Gh) (r : Res (Bool × LS)) (F : FS) (σ : L2.St) (H : Hp) (Q : Bool → Hp → Prop) : Prop :=
  match r with
  | .ok (b, ls) => ∀ F' H', Le F H F' H' → LInv G F' ls σ H' → Q b H'
  | .exc x => ∀ H' C, Keep G H' → G.mg x = some (.ref C) → G.E (.ref C) none H'
  | .stuck => False
def tOfT (G : Gh) (m : MT) : TT := fun σ H Q => ∃ F ls, LInv G F ls σ H ∧ OutT G (m ls) F σ H Q
abbrev DT (X : Cx) (G : Gh) (e : Expr) (m : MT) : Prop := PT X e (tOfT G m)
abbrev DW (X : Cx) (G : Gh) (e : Expr) (m : MT) : Prop := PW X e (tOfT G m)
theorem OutT.later {r : Res (Bool × LS)} {F F' : FS} {H H' : Hp} {σ : L2.St} {Q : Bool → Hp → Prop} (p : Le F H F' H') (o : OutT G r F σ H Q) : OutT G r F' σ H' Q := by
  cases r with
  | ok x => obtain ⟨d, ls⟩ := x; exact fun F2 H2 q => o F2 H2 (p.trans q)
  | exc x => exact o
  | stuck => exact o
def tst (m : ME) : MT := fun ls => (m ls).bind fun p => match p.1 with
  | .bl b => .ok (b, p.2)
  | _ => .stuck
theorem tst_imp {m : ME} {t : TE} (w : ∀ σ H Q, tOf G m σ H Q → t σ H Q) (σ : L2.St) (H : Hp) (Q : Bool → Hp → Prop) (q : tOfT G (tst m) σ H Q) : tTest t σ H Q := by
  obtain ⟨F, ls, L, o⟩ := q
  refine w σ H _ ⟨F, ls, L, ?_⟩
  unfold tst at o
  revert o
  cases m ls with
  | ok x =>
    obtain ⟨d, ls1⟩ := x
    intro o F1 H1 v p L1 r
    cases d with
    | bl b =>
      cases (show Rep F1 H1 (.bl b) v from r)
      exact ⟨b, rfl, o F1 H1 p L1⟩
    | _ => exact o.elim
  | exc x => exact fun o => o
  | stuck => exact fun o => o
/-- an expression as a test -/
theorem dt_val {m : ME} (h : DE X G e m) (he : ∀ whole, isTrue e X.env whole = (do let v ← whole; standAt e.pos; holding [v] (truthy v)) := by intro _; rfl) : DT X G e (tst m) :=
  pt_imp (pt_val h he) (tst_imp fun _ _ _ q => q)
theorem dt_cmp {a b : Expr} {op : CmpOp} {r : R2} {g : D → D → Option D} {ma mb : ME} {pos : Pos} (ho : OpR X (compareOp op) r) (hg : OpD r g) (ha : DE X G a ma) (hb : DE X G b mb) (hm : behindInMarks op b = false) : DT X G (.Compare a [op] [b] pos) (tst (bin g ma mb)) :=
  pt_imp (pt_cmpR ho ha hb hm) (tst_imp (bin_imp hg))
def mNot (a : MT) : MT := fun ls => (a ls).bind fun p => .ok (!p.1, p.2)
def mAnd (a b : MT) : MT := fun ls => (a ls).bind fun p => if p.1 then b p.2 else .ok (false, p.2)
def mOr (a b : MT) : MT := fun ls => (a ls).bind fun p => if p.1 then .ok (true, p.2) else b p.2
theorem tOfT.first {F : FS} {H : Hp} {ls : LS} {σ : L2.St} {ma : MT} {f : Bool × LS → Res (Bool × LS)} {Q Q' : Bool → Hp → Prop} (L : LInv G F ls σ H) (o : OutT G ((ma ls).bind f) F σ H Q)
    (h : ∀ F1 H1 ls1 b, Le F H F1 H1 → LInv G F1 ls1 σ H1 → OutT G (f (b, ls1)) F1 σ H1 Q → Q' b H1) : tOfT G ma σ H Q' := by
  refine ⟨F, ls, L, ?_⟩
  revert o
  cases ma ls with
  | ok x => obtain ⟨d, ls1⟩ := x; exact fun o F1 H1 p L1 => h F1 H1 ls1 d p L1 (OutT.later p o)
  | exc x => exact fun o => o
  | stuck => exact fun o => o
theorem dt_not {a : Expr} {pos : Pos} {ma : MT} (h : DT X G a ma) : DT X G (.UnaryOp .Not a pos) (mNot ma) :=
  pt_imp (pt_not h) fun σ H Q ⟨F, ls, L, o⟩ => tOfT.first L o fun F1 H1 ls1 b p L1 o1 => o1 F1 H1 .refl L1
theorem dw_and1 {a : Expr} {pos : Pos} {ma : MT} (h : DT X G a ma) : DW X G (.BoolOp .And [a] pos) ma := pw_and1 h
theorem dw_or1 {a : Expr} {pos : Pos} {ma : MT} (h : DT X G a ma) : DW X G (.BoolOp .Or [a] pos) ma := pw_or1 h
theorem dw_and {a b : Expr} {rest : List Expr} {pos : Pos} {ma mb : MT} (ha : DT X G a ma) (hb : DW X G (.BoolOp .And (b :: rest) pos) mb) : DW X G (.BoolOp .And (a :: b :: rest) pos) (mAnd ma mb) :=
  pw_imp (pw_and ha hb) fun σ H Q ⟨F, ls, L, o⟩ => tOfT.first L o fun F1 H1 ls1 b p L1 o1 => by
    cases b with
    | true => rw [if_pos rfl]; exact ⟨F1, ls1, L1, o1⟩
    | false => rw [if_neg Bool.false_ne_true]; exact o1 F1 H1 .refl L1
theorem dw_or {a b : Expr} {rest : List Expr} {pos : Pos} {ma mb : MT} (ha : DT X G a ma) (hb : DW X G (.BoolOp .Or (b :: rest) pos) mb) : DW X G (.BoolOp .Or (a :: b :: rest) pos) (mOr ma mb) :=
  pw_imp (pw_or ha hb) fun σ H Q ⟨F, ls, L, o⟩ => tOfT.first L o fun F1 H1 ls1 b p L1 o1 => by
    cases b with
    | true => rw [if_pos rfl]; exact o1 F1 H1 .refl L1
    | false => rw [if_neg Bool.false_ne_true]; exact ⟨F1, ls1, L1, o1⟩
theorem dt_w {m : MT} (h : DW X G e m) : DT X G e m := h.pt
/-- tests first, then a value -/
theorem tOfT.firstE {F : FS} {H : Hp} {ls : LS} {σ : L2.St} {ma : MT} {f : Bool × LS → RD} {Q : VK} {Q' : Bool → Hp → Prop} (L : LInv G F ls σ H) (o : Out G ((ma ls).bind f) F σ H Q)
    (h : ∀ F1 H1 ls1 b, Le F H F1 H1 → LInv G F1 ls1 σ H1 → Out G (f (b, ls1)) F1 σ H1 Q → Q' b H1) : tOfT G ma σ H Q' := by
  refine ⟨F, ls, L, ?_⟩
  revert o
  cases ma ls with
  | ok x => obtain ⟨d, ls1⟩ := x; exact fun o F1 H1 p L1 => h F1 H1 ls1 d p L1 (Out.later p o)
  | exc x => exact fun o => o
  | stuck => exact fun o => o
def ite (t : MT) (a b : ME) : ME := fun ls => (t ls).bind fun p => if p.1 then a p.2 else b p.2
theorem de_if {c a b : Expr} {pos : Pos} {t : MT} {ma mb : ME} (hc : DT X G c t) (ha : DE X G a ma) (hb : DE X G b mb) : DE X G (.IfExp c a b pos) (ite t ma mb) :=
  pe_imp (pe_ifExp hc ha hb) fun σ H Q ⟨F, ls, L, o⟩ => tOfT.firstE L o fun F1 H1 ls1 b p L1 o1 => by
    cases b with
    | true => rw [if_pos rfl]; exact ⟨F1, ls1, L1, o1⟩
    | false => rw [if_neg Bool.false_ne_true]; exact ⟨F1, ls1, L1, o1⟩
/-- and, or, not as values: True, False -/
def vNot (a : ME) : ME := un (fun d => match d with | .bl b => some (.bl (!b)) | _ => none) a
def vAnd (a b : ME) : ME := fun ls => (tst a ls).bind fun p => if p.1 then b p.2 else .ok (.bl false, p.2)
def vOr (a b : ME) : ME := fun ls => (tst a ls).bind fun p => if p.1 then .ok (.bl true, p.2) else b p.2
theorem tst_first {F : FS} {H : Hp} {ls : LS} {σ : L2.St} {ma : ME} {f : Bool × LS → RD} {Q : VK} {Q' : VK} (L : LInv G F ls σ H) (o : Out G ((tst ma ls).bind f) F σ H Q)
    (h : ∀ F1 H1 ls1 b, Le F H F1 H1 → LInv G F1 ls1 σ H1 → Out G (f (b, ls1)) F1 σ H1 Q → Q' (.bl b) H1) : tOf G ma σ H Q' := by
  refine ⟨F, ls, L, ?_⟩
  unfold tst at o
  revert o
  cases ma ls with
  | ok x =>
    obtain ⟨d, ls1⟩ := x
    intro o F1 H1 v p L1 r
    cases d with
    | bl b =>
      cases (show Rep F1 H1 (.bl b) v from r)
      exact h F1 H1 ls1 b p L1 (Out.later p o)
    | _ => exact o.elim
  | exc x => exact fun o => o
  | stuck => exact fun o => o
theorem de_one {a : Expr} {op} {pos : Pos} {m : ME} (h : DE X G a m) : DE X G (.BoolOp op [a] pos) m := pe_one h
theorem de_and {a b : Expr} {rest : List Expr} {pos : Pos} {ma mb : ME} (ha : DE X G a ma) (hb : DE X G (.BoolOp .And (b :: rest) pos) mb) : DE X G (.BoolOp .And (a :: b :: rest) pos) (vAnd ma mb) :=
  pe_imp (pe_and ha hb) fun σ H Q ⟨F, ls, L, o⟩ => tst_first L o fun F1 H1 ls1 b p L1 o1 => ⟨b, rfl, by
    cases b with
    | true => rw [if_pos rfl]; exact ⟨F1, ls1, L1, o1⟩
    | false => rw [if_neg Bool.false_ne_true]; exact o1 F1 H1 _ .refl L1 (Rep.bl false)⟩
theorem de_or {a b : Expr} {rest : List Expr} {pos : Pos} {ma mb : ME} (ha : DE X G a ma) (hb : DE X G (.BoolOp .Or (b :: rest) pos) mb) : DE X G (.BoolOp .Or (a :: b :: rest) pos) (vOr ma mb) :=
  pe_imp (pe_or ha hb) fun σ H Q ⟨F, ls, L, o⟩ => tst_first L o fun F1 H1 ls1 b p L1 o1 => ⟨b, rfl, by
    cases b with
    | true => rw [if_pos rfl]; exact o1 F1 H1 _ .refl L1 (Rep.bl true)
    | false => rw [if_neg Bool.false_ne_true]; exact ⟨F1, ls1, L1, o1⟩⟩
theorem de_not {a : Expr} {pos : Pos} {ma : ME} (h : DE X G a ma) : DE X G (.UnaryOp .Not a pos) (vNot ma) :=
  pe_imp (pe_not h) fun σ H Q ⟨F, ls, L, o⟩ => by
    refine tOf.settled L o fun F1 H1 ls1 d v p L1 r1 o1 => ?_
    dsimp only at o1
    cases e1 : see ls1 d with
    | none => rw [e1] at o1; exact o1.elim
    | some x =>
      rw [e1] at o1
      have rr := see_rep L1 r1 e1
      cases x with
      | bl b =>
        rcases rr with rr | rr
        · cases rr; exact ⟨b, rfl, o1 F1 H1 _ .refl L1 (Rep.bl _)⟩
        · exact rr.elim
      | _ => exact o1.elim
end
end DL

end DLc
section DLd
set_option Elab.async false
set_option linter.all false
set_option autoImplicit false
set_option maxRecDepth 100000
namespace DL
open PySem PySem.Spec PyProof.Rows L2

/-! ### arguments -/
inductive RepYs (F : FS) (H : Hp) (σ : L2.St) : List D → List V → Prop
  | nil : RepYs F H σ [] []
  | cons {d : D} {ds : List D} {v : V} {vs : List V} : RepY F H σ d v → RepYs F H σ ds vs → RepYs F H σ (d :: ds) (v :: vs)
inductive RepRs (F : FS) (H : Hp) : List D → List V → Prop
  | nil : RepRs F H [] []
  | cons {d : D} {ds : List D} {v : V} {vs : List V} : RepR F H d v → RepRs F H ds vs → RepRs F H (d :: ds) (v :: vs)
abbrev MA := LS → Res (List D × LS)
section
variable {X : Cx} {G : Gh} {e : Expr} {es : List Expr} {F F' : FS} {H H' : Hp} {ls : LS} {σ : L2.St}
theorem RepYs.le (p : Le F H F' H') : ∀ {ds : List D} {vs : List V}, RepYs F H σ ds vs → RepYs F' H' σ ds vs
  | _, _, .nil => .nil
  | _, _, .cons r rs => .cons (r.le p) (RepYs.le p rs)
def OutA (G : Gh) (r : Res (List D × LS)) (F : FS) (σ : L2.St) (H : Hp) (Q : List V → Hp → Prop) : Prop :=
  match r with
  | .ok (ds, ls) => ∀ F' H' vs, Le F H F' H' → LInv G F' ls σ H' → RepYs F' H' σ ds vs → Q vs H'
  | .exc x => ∀ H' C, Keep G H' → G.mg x = some (.ref C) → G.E (.ref C) none H'
  | .stuck => False
def tOfA (G : Gh) (m : MA) : TA := fun σ H Q => ∃ F ls, LInv G F ls σ H ∧ OutA G (m ls) F σ H Q
abbrev DA (X : Cx) (G : Gh) (es : List Expr) (m : MA) : Prop := PA X es (tOfA G m)
def aNil : MA := fun ls => .ok ([], ls)
def aCons (m : ME) (ms : MA) : MA := fun ls => (val m ls).bind fun p => (ms p.2).bind fun q => .ok (p.1 :: q.1, q.2)
theorem OutA.later {r : Res (List D × LS)} {Q : List V → Hp → Prop} (p : Le F H F' H') (o : OutA G r F σ H Q) : OutA G r F' σ H' Q := by
  cases r with
  | ok x => obtain ⟨d, ls⟩ := x; exact fun F2 H2 v q => o F2 H2 v (p.trans q)
  | exc x => exact o
  | stuck => exact o
theorem da_nil : DA X G [] aNil := pa_imp pa_nil fun σ H Q ⟨F, ls, L, o⟩ => o F H [] .refl L .nil
/-- the value first, then arguments -/
theorem tOf.settledA {Q : List V → Hp → Prop} {ma : ME} {f : D × LS → Res (List D × LS)} (L : LInv G F ls σ H) (o : OutA G ((val ma ls).bind f) F σ H Q)
    {Q' : VK} (h : ∀ F1 H1 ls1 d v, Le F H F1 H1 → LInv G F1 ls1 σ H1 → RepY F1 H1 σ d v → OutA G (f (d, ls1)) F1 σ H1 Q → Q' v H1) : tOf G ma σ H Q' := by
  refine ⟨F, ls, L, ?_⟩
  have e : (val ma ls).bind f = (ma ls).bind fun p => (opt (stl p.1)).bind fun x => f (x, p.2) := by
    unfold val
    cases ma ls with
    | ok p => show ((opt (stl p.1)).bind fun x => Res.ok (x, p.2)).bind f = (opt (stl p.1)).bind _; cases stl p.1 <;> rfl
    | exc x => rfl
    | stuck => rfl
  rw [e] at o
  revert o
  cases ma ls with
  | ok p =>
    obtain ⟨d, ls1⟩ := p
    intro o F1 H1 v p L1 r
    have o : OutA G ((opt (stl d)).bind fun x => f (x, ls1)) F σ H Q := o
    cases q : stl d with
    | none => rw [q] at o; exact o.elim
    | some x =>
      rw [q] at o
      obtain ⟨F2, p2, L2, r2⟩ := settle L1 r q
      exact h F2 H1 ls1 x v (p.trans p2) L2 r2 (OutA.later (p.trans p2) o)
  | exc x => exact fun o => o
  | stuck => exact fun o => o
theorem tOfA.first {Q Q' : List V → Hp → Prop} {ma : MA} {f : List D × LS → Res (List D × LS)} (L : LInv G F ls σ H) (o : OutA G ((ma ls).bind f) F σ H Q)
    (h : ∀ F1 H1 ls1 ds vs, Le F H F1 H1 → LInv G F1 ls1 σ H1 → RepYs F1 H1 σ ds vs → OutA G (f (ds, ls1)) F1 σ H1 Q → Q' vs H1) : tOfA G ma σ H Q' := by
  refine ⟨F, ls, L, ?_⟩
  revert o
  cases ma ls with
  | ok x => obtain ⟨d, ls1⟩ := x; exact fun o F1 H1 vs p L1 r => h F1 H1 ls1 d vs p L1 r (OutA.later p o)
  | exc x => exact fun o => o
  | stuck => exact fun o => o
theorem tOfA.firstE {Q : VK} {Q' : List V → Hp → Prop} {ma : MA} {f : List D × LS → RD} (L : LInv G F ls σ H) (o : Out G ((ma ls).bind f) F σ H Q)
    (h : ∀ F1 H1 ls1 ds vs, Le F H F1 H1 → LInv G F1 ls1 σ H1 → RepYs F1 H1 σ ds vs → Out G (f (ds, ls1)) F1 σ H1 Q → Q' vs H1) : tOfA G ma σ H Q' := by
  refine ⟨F, ls, L, ?_⟩
  revert o
  cases ma ls with
  | ok x => obtain ⟨d, ls1⟩ := x; exact fun o F1 H1 vs p L1 r => h F1 H1 ls1 d vs p L1 r (Out.later p o)
  | exc x => exact fun o => o
  | stuck => exact fun o => o
theorem da_cons {m : ME} {ms : MA} (h : DE X G e m) (hs : DA X G es ms) (he : starEach (e :: es) X.env = (false, eval e X.env) :: starEach es X.env := by rfl) : DA X G (e :: es) (aCons m ms) :=
  pa_imp (pa_cons h hs he) fun σ H Q ⟨F, ls, L, o⟩ => tOf.settledA L o fun F1 H1 ls1 d v p L1 r1 o1 => by
    refine tOfA.first L1 o1 fun F2 H2 ls2 ds vs p2 L2 r2 o2 => ?_
    exact o2 F2 H2 (v :: vs) .refl L2 (.cons (r1.le p2) r2)

/-! ### built-in calls -/
def sees (ls : LS) : List D → Option (List D)
  | [] => some []
  | d :: ds => (see ls d).bind fun x => (sees ls ds).bind fun xs => some (x :: xs)
theorem sees_rep (L : LInv G F ls σ H) : ∀ {ds xs : List D} {vs : List V}, RepYs F H σ ds vs → sees ls ds = some xs → RepRs F H xs vs
  | [], xs, _, .nil, e => by cases e; exact .nil
  | d :: ds, xs, _, .cons r rs, e => by
    have e : (see ls d).bind (fun x => (sees ls ds).bind fun xs => some (x :: xs)) = some xs := e
    cases e1 : see ls d with
    | none => rw [e1] at e; cases e
    | some x =>
      cases e2 : sees ls ds with
      | none => rw [e1, e2] at e; cases e
      | some ys => rw [e1, e2] at e; cases e; exact .cons (see_rep L r e1) (sees_rep L rs e2)
def CbD (r : List V → Hp → VK → Prop) (g : List D → Option D) : Prop := ∀ (F : FS) (H : Hp) (xs : List D) (d : D) (vs : List V) (Q : VK), RepRs F H xs vs → g xs = some d → Pur F H d Q → r vs H Q
def cb (g : List D → Option D) (ms : MA) : ME := fun ls => (ms ls).bind fun q => (opt (sees q.2 q.1)).bind fun xs => (opt (g xs)).bind fun d => .ok (d, q.2)
theorem cb_imp {r : List V → Hp → VK → Prop} {g : List D → Option D} (hg : CbD r g) {ms : MA} (σ : L2.St) (H : Hp) (Q : VK) (q : tOf G (cb g ms) σ H Q) : tOfA G ms σ H fun vs H1 => r vs H1 Q := by
  obtain ⟨F, ls, L, o⟩ := q
  refine tOfA.firstE L o fun F1 H1 ls1 ds vs p L1 r1 o1 => ?_
  dsimp only at o1
  cases e1 : sees ls1 ds with
  | none => rw [e1] at o1; exact o1.elim
  | some xs =>
    rw [e1] at o1
    simp only [opt_some, Res.bind_ok] at o1
    cases e3 : g xs with
    | none => rw [e3] at o1; exact o1.elim
    | some z =>
      rw [e3] at o1
      exact hg F1 H1 xs z vs Q (sees_rep L1 r1 e1) e3 (Pur.of L1 o1)
theorem de_cb {x : Str} {id : String} {p pos : Pos} {r : List V → Hp → VK → Prop} {g : List D → Option D} {ms : MA} (hc : CallR X (.builtin id) r) (hr : CbD r g) (hg : Gl X x) (hm : X.mg x = none) (hv : bootBuiltins x = some (.builtin id)) (ha : DA X G (e :: es) ms)
    (hn : x ≠ "__name__" := by decide) (hdb : (x == ("__debug__" : Str)) = false := by decide) (he : starEach (e :: es) X.env = (false, eval e X.env) :: starEach es X.env := by rfl) (hpl : (backTo pos (starEach es X.env)).any (·.1) = false := by rfl) :
    DE X G (.Call (.Name x p) (e :: es) [] pos) (cb g ms) := pe_imp (pe_callB hc hg hm hv ha hn hdb he hpl) (cb_imp hr)
theorem de_cty {x : Str} {T : String} {p pos : Pos} {r : List V → Hp → VK → Prop} {g : List D → Option D} {ms : MA} (hc : CallR X (.type T) r) (hr : CbD r g) (hg : Gl X x) (hm : X.mg x = none) (hv : bootBuiltins x = some (.type T)) (ha : DA X G (e :: es) ms)
    (hn : x ≠ "__name__" := by decide) (hdb : (x == ("__debug__" : Str)) = false := by decide) (he : starEach (e :: es) X.env = (false, eval e X.env) :: starEach es X.env := by rfl) (hpl : (backTo pos (starEach es X.env)).any (·.1) = false := by rfl) :
    DE X G (.Call (.Name x p) (e :: es) [] pos) (cb g ms) := pe_imp (pe_callTy hc hg hm hv ha hn hdb he hpl) (cb_imp hr)

/-! ### arguments that are kept: all frozen -/
def frz (ls : LS) : D → Option (D × LS)
  | .bor i => (ls[i]?).bind fun o => o.bind fun d => match d with
    | .own (.lst xs) => some (.lst xs, ls.set i (some (.lst xs)))
    | .own (.dct xs) => some (.dct xs, ls.set i (some (.dct xs)))
    | .own _ => none
    | .io _ => none
    | .bor _ => none
    | d => some (d, ls)
  | .own _ => none
  | .io _ => none
  | d => some (d, ls)
theorem LInv.froze {i : Nat} {d : D} (L : LInv G F ls σ H) (e : ls[i]? = some (some (.own d))) (z : Frz d) : ∃ a, σ[i]? = some (some (.ref a)) ∧ LInv G (plus F a) (ls.set i (some d)) σ H ∧ Rep (plus F a) H d (.ref a) := by
  obtain ⟨v, h1, m, a, rfl, nf, h0⟩ := L.slot i _ e
  have rd : Rep (plus F a) H d (.ref a) := (m.le Le.plus fun _ _ => rfl).frozen z (.inr rfl)
  have il : i < ls.length := by
    have := (List.getElem?_eq_some_iff.mp e).1
    exact this
  refine ⟨a, h1, ⟨L.keep, fun j d' ej => ?_, fun j k d1 d2 v ne e1 e2 c1 c2 hs => ?_, fun b q => ?_, fun b q => ?_, by rw [List.length_set]; exact L.len, fun p hp => ?_⟩, rd⟩
  · by_cases hj : i = j
    · subst hj
      rw [List.getElem?_set_self il] at ej
      cases ej
      refine ⟨_, h1, ?_⟩
      cases d with
      | lst xs => exact rd
      | dct xs => exact rd
      | _ => exact z.elim
    · rw [List.getElem?_set_ne hj] at ej
      obtain ⟨u, g1, g2⟩ := L.slot j d' ej
      refine ⟨u, g1, g2.le Le.plus fun b c eb => ⟨rfl, fun q => ?_⟩⟩
      have nfb : ¬ F b := by
        cases d' with
        | own d => obtain ⟨_, a', e', nf', _⟩ := g2; rw [eb] at e'; cases e'; exact nf'
        | io d => obtain ⟨_, a', e', nf', _⟩ := g2; rw [eb] at e'; cases e'; exact nf'
        | _ => exact c.elim
      rcases q with q | q
      · exact nfb q
      · subst q eb
        exact L.apart i j _ _ _ hj e ej trivial c h1 g1
  · have red : ∀ {k : Nat} {d' : D}, (ls.set i (some d))[k]? = some (some d') → Chg d' → ls[k]? = some (some d') ∧ k ≠ i := fun {k d'} ek c => by
      by_cases hk : i = k
      · subst hk
        rw [List.getElem?_set_self il] at ek
        cases ek
        cases d <;> first | exact z.elim | exact c.elim
      · rw [List.getElem?_set_ne hk] at ek
        exact ⟨ek, fun q => hk q.symm⟩
    exact L.apart j k d1 d2 v ne (red e1 c1).1 (red e2 c2).1 c1 c2 hs
  · rcases q with q | q
    · exact L.there b q
    · subst q; exact m.nw
  · rcases q with q | q
    · exact L.fnew b q
    · subst q; exact .inr h0
  · obtain ⟨m', nf', h0', q⟩ := L.pin p hp
    refine ⟨m'.le Le.plus fun _ _ => rfl, fun z => ?_, h0', fun j d' ej c => ?_⟩
    · rcases z with z | z
      · exact nf' z
      · exact q i _ e trivial (by rw [z]; exact h1)
    · by_cases hj : i = j
      · subst hj
        rw [List.getElem?_set_self il] at ej
        cases ej
        cases d <;> first | exact z.elim | exact c.elim
      · rw [List.getElem?_set_ne hj] at ej
        exact q j d' ej c
theorem frz_ok {d d' : D} {ls' : LS} {v : V} (L : LInv G F ls σ H) (r : RepY F H σ d v) (e : frz ls d = some (d', ls')) : ∃ F', Le F H F' H ∧ LInv G F' ls' σ H ∧ Rep F' H d' v := by
  cases d with
  | bor i =>
    have e : (ls[i]?).bind (fun o => o.bind fun d => match d with
      | .own (.lst xs) => some (D.lst xs, ls.set i (some (.lst xs)))
      | .own (.dct xs) => some (D.dct xs, ls.set i (some (.dct xs)))
      | .own _ => none
      | .io _ => none
      | .bor _ => none
      | d => some (d, ls)) = some (d', ls') := e
    have r : σ[i]? = some (some v) := r
    cases q : ls[i]? with
    | none => rw [q] at e; cases e
    | some o =>
      cases o with
      | none => rw [q] at e; cases e
      | some x =>
        rw [q] at e
        obtain ⟨u, h1, h2⟩ := L.slot i x q
        rw [h1] at r; cases r
        cases x with
        | own d =>
          cases d with
          | lst xs =>
            cases e
            obtain ⟨a, g1, g2, g3⟩ := L.froze q trivial
            rw [h1] at g1; cases g1
            exact ⟨_, Le.plus, g2, g3⟩
          | dct xs =>
            cases e
            obtain ⟨a, g1, g2, g3⟩ := L.froze q trivial
            rw [h1] at g1; cases g1
            exact ⟨_, Le.plus, g2, g3⟩
          | _ => cases e
        | io d => cases e
        | bor j => cases e
        | non => cases e; exact ⟨F, .refl, L, h2⟩
        | bl => cases e; exact ⟨F, .refl, L, h2⟩
        | int => cases e; exact ⟨F, .refl, L, h2⟩
        | str => cases e; exact ⟨F, .refl, L, h2⟩
        | ref => cases e; exact ⟨F, .refl, L, h2⟩
        | tup => cases e; exact ⟨F, .refl, L, h2⟩
        | lst => cases e; exact ⟨F, .refl, L, h2⟩
        | scr => cases e; exact ⟨F, .refl, L, h2⟩
        | dct => cases e; exact ⟨F, .refl, L, h2⟩
        | ins => cases (show Rep F H _ _ from h2)
  | own d => cases e
  | io d => cases e
  | non => cases e; exact ⟨F, .refl, L, r⟩
  | bl => cases e; exact ⟨F, .refl, L, r⟩
  | int => cases e; exact ⟨F, .refl, L, r⟩
  | str => cases e; exact ⟨F, .refl, L, r⟩
  | ref => cases e; exact ⟨F, .refl, L, r⟩
  | tup => cases e; exact ⟨F, .refl, L, r⟩
  | lst => cases e; exact ⟨F, .refl, L, r⟩
  | scr => cases e; exact ⟨F, .refl, L, r⟩
  | dct => cases e; exact ⟨F, .refl, L, r⟩
  | ins => cases (show Rep F H _ _ from r)
def frzs : LS → List D → Option (List D × LS)
  | ls, [] => some ([], ls)
  | ls, d :: ds => (frz ls d).bind fun p => (frzs p.2 ds).bind fun q => some (p.1 :: q.1, q.2)
theorem frzs_ok : ∀ {ds ds' : List D} {F : FS} {ls ls' : LS} {vs : List V}, LInv G F ls σ H → RepYs F H σ ds vs → frzs ls ds = some (ds', ls') → ∃ F', Le F H F' H ∧ LInv G F' ls' σ H ∧ Reps F' H ds' vs
  | [], _, F, ls, _, _, L, .nil, e => by cases e; exact ⟨F, .refl, L, .nil⟩
  | d :: ds, ds', F, ls, ls', _, L, .cons r rs, e => by
    have e : (frz ls d).bind (fun p => (frzs p.2 ds).bind fun q => some (p.1 :: q.1, q.2)) = some (ds', ls') := e
    cases e1 : frz ls d with
    | none => rw [e1] at e; cases e
    | some p =>
      obtain ⟨d1, ls1⟩ := p
      rw [e1] at e
      have e : (frzs ls1 ds).bind (fun q => some (d1 :: q.1, q.2)) = some (ds', ls') := e
      cases e2 : frzs ls1 ds with
      | none => rw [e2] at e; cases e
      | some q =>
        obtain ⟨ds2, ls2⟩ := q
        rw [e2] at e
        cases e
        obtain ⟨F1, p1, L1, r1⟩ := frz_ok L r e1
        obtain ⟨F2, p2, L2, r2⟩ := frzs_ok L1 (rs.le p1) e2
        exact ⟨F2, p1.trans p2, L2, .cons (r1.le p2) r2⟩
/-- the arguments, frozen -/
def fz (ms : MA) : MA := fun ls => (ms ls).bind fun q => opt (frzs q.2 q.1)
theorem tOfA.frozen {Q : VK} {Q' : List V → Hp → Prop} {ms : MA} {f : List D × LS → RD} (L : LInv G F ls σ H) (o : Out G ((fz ms ls).bind f) F σ H Q)
    (h : ∀ F1 H1 ls1 ds vs, Le F H F1 H1 → LInv G F1 ls1 σ H1 → Reps F1 H1 ds vs → Out G (f (ds, ls1)) F1 σ H1 Q → Q' vs H1) : tOfA G ms σ H Q' := by
  have e : (fz ms ls).bind f = (ms ls).bind fun q => (opt (frzs q.2 q.1)).bind f := by
    unfold fz
    cases ms ls <;> rfl
  rw [e] at o
  refine tOfA.firstE L o fun F1 H1 ls1 ds vs p L1 r1 o1 => ?_
  dsimp only at o1
  cases e1 : frzs ls1 ds with
  | none => rw [e1] at o1; exact o1.elim
  | some q =>
    obtain ⟨ds2, ls2⟩ := q
    rw [e1] at o1
    obtain ⟨F2, p2, L2, r2⟩ := frzs_ok L1 r1 e1
    exact h F2 H1 ls2 ds2 vs (p.trans p2) L2 r2 (Out.later p2 o1)
theorem Reps.length {F : FS} {H : Hp} : ∀ {ds : List D} {vs : List V}, Reps F H ds vs → ds.length = vs.length
  | _, _, .nil => rfl
  | _, _, .cons _ r => by rw [List.length_cons, List.length_cons, Reps.length r]
theorem same_upd {H : Hp} {p : Addr} {o : HO} (n : H p = none) : Same H (upd H p o) := fun b u e => by
  rw [upd_ne (ne_of_none e n)]; exact e

/-! ### displays -/
def mTup (ms : MA) : ME := fun ls => (fz ms ls).bind fun q => if q.1.length ≤ sizeLine then .ok (.tup q.1, q.2) else .stuck
def mLst (ms : MA) : ME := fun ls => (fz ms ls).bind fun q => if q.1.length ≤ sizeLine then .ok (.own (.lst q.1), q.2) else .stuck
theorem de_tup {ms : MA} {x1 pos} (h : DA X G es ms) : DE X G (.Tuple es x1 pos) (mTup ms) :=
  pe_imp (pe_tup h) fun σ H Q ⟨F, ls, L, o⟩ => tOfA.frozen L o fun F1 H1 ls1 ds vs p L1 r o1 => by
    dsimp only at o1
    by_cases z : ds.length ≤ sizeLine
    · rw [if_pos z] at o1
      refine ⟨by rw [← r.length]; exact z, fun a n => Pur.of L1 o1 _ _ (same_upd n) ?_⟩
      exact .tup upd_same (r.le (Le.same (same_upd n)))
    · rw [if_neg z] at o1; exact o1.elim
theorem de_lst {ms : MA} {pos} (h : DA X G es ms) : DE X G (.List es pos) (mLst ms) :=
  pe_imp (pe_lst h) fun σ H Q ⟨F, ls, L, o⟩ => tOfA.frozen L o fun F1 H1 ls1 ds vs p L1 r o1 => by
    dsimp only at o1
    by_cases z : ds.length ≤ sizeLine
    · rw [if_pos z] at o1
      refine ⟨by rw [← r.length]; exact z, fun a n => Pur.of L1 o1 _ _ (same_upd n) ?_⟩
      exact ⟨⟨a, vs, rfl, upd_same, r.le (Le.same (same_upd n))⟩, a, rfl, n⟩
    · rw [if_neg z] at o1; exact o1.elim
end
end DL

end DLd
section DLe
set_option Elab.async false
set_option linter.all false
set_option autoImplicit false
set_option maxRecDepth 100000
namespace DL
open PySem PySem.Spec PyProof.Rows L2

/-! ### statements -/
inductive Fl where
  | nx (ls : LS) | rt (d : D) (ls : LS) | bk (ls : LS) | ct (ls : LS) | exc (x : Str) | stuck
abbrev MS := LS → Fl
def OutS (G : Gh) (r : Fl) (F : FS) (H : Hp) (Z : Ends) : Prop :=
  match r with
  | .nx ls => ∀ F' σ' H', Le F H F' H' → LInv G F' ls σ' H' → Z.nx σ' H'
  | .bk ls => ∀ F' σ' H', Le F H F' H' → LInv G F' ls σ' H' → Z.bk σ' H'
  | .ct ls => ∀ F' σ' H', Le F H F' H' → LInv G F' ls σ' H' → Z.ct σ' H'
  | .rt d ls => ∀ F' σ' H' v, Le F H F' H' → LInv G F' ls σ' H' → RepX G F' H' ls σ' d v → Z.rt v H'
  | .exc x => ∀ H' C, Keep G H' → G.mg x = some (.ref C) → G.E (.ref C) none H'
  | .stuck => False
def tOfS (G : Gh) (m : MS) : TS := fun Z σ H => ∃ F ls, LInv G F ls σ H ∧ OutS G (m ls) F H Z
abbrev DS (X : Cx) (G : Gh) (s : Stmt) (m : MS) : Prop := PS X s (tOfS G m)
abbrev DSs (X : Cx) (G : Gh) (s : List Stmt) (m : MS) : Prop := PSs X s (tOfS G m)
def Res.fl {α : Type} (r : Res α) (f : α → Fl) : Fl := match r with
  | .ok x => f x
  | .exc x => .exc x
  | .stuck => .stuck
theorem Res.fl_ok {α : Type} (x : α) (f : α → Fl) : (Res.ok x).fl f = f x := rfl
theorem Res.fl_exc {α : Type} (x : Str) (f : α → Fl) : (Res.exc x : Res α).fl f = .exc x := rfl
theorem Res.fl_stuck {α : Type} (f : α → Fl) : (Res.stuck : Res α).fl f = .stuck := rfl
def Fl.seq (r : Fl) (f : LS → Fl) : Fl := match r with
  | .nx ls => f ls
  | r => r
def nop : MS := .nx
def sq (a b : MS) : MS := fun ls => (a ls).seq b
section
variable {X : Cx} {G : Gh} {e : Expr} {F F' : FS} {H H' : Hp} {ls : LS} {σ σ' : L2.St} {Z : Ends}
theorem ps_imp {s : Stmt} {t t' : TS} (h : PS X s t) (w : ∀ Z σ H, t' Z σ H → t Z σ H) : PS X s t' := ⟨fun pins s σ H Z I q => h.run pins s σ H Z I (w Z σ H q)⟩
theorem pss_imp {s : List Stmt} {t t' : TS} (h : PSs X s t) (w : ∀ Z σ H, t' Z σ H → t Z σ H) : PSs X s t' := ⟨fun pins s σ H Z I q => h.run pins s σ H Z I (w Z σ H q)⟩
theorem OutS.later {r : Fl} (p : Le F H F' H') (o : OutS G r F H Z) : OutS G r F' H' Z := by
  cases r with
  | nx ls => exact fun F2 s2 H2 q => o F2 s2 H2 (p.trans q)
  | bk ls => exact fun F2 s2 H2 q => o F2 s2 H2 (p.trans q)
  | ct ls => exact fun F2 s2 H2 q => o F2 s2 H2 (p.trans q)
  | rt d ls => exact fun F2 s2 H2 v q => o F2 s2 H2 v (p.trans q)
  | exc x => exact o
  | stuck => exact o
theorem dss_nil : DSs X G [] nop := pss_imp pss_nil fun Z σ H ⟨F, ls, L, o⟩ => o F σ H .refl L
theorem dss_cons {s : Stmt} {ss : List Stmt} {a b : MS} (h : DS X G s a) (hs : DSs X G ss b) : DSs X G (s :: ss) (sq a b) :=
  pss_imp (pss_cons h hs) fun Z σ H ⟨F, ls, L, o⟩ => by
    refine ⟨F, ls, L, ?_⟩
    unfold sq at o
    revert o
    cases a ls with
    | nx ls1 => exact fun o F1 s1 H1 p L1 => ⟨F1, ls1, L1, OutS.later p o⟩
    | bk ls => exact fun o => o
    | ct ls => exact fun o => o
    | rt d ls => exact fun o => o
    | exc x => exact fun o => o
    | stuck => exact fun o => o
theorem dss_one {s : Stmt} {a : MS} (h : DS X G s a) : DSs X G [s] a := pss_one h
theorem ds_pass {pos : Pos} : DS X G (.Pass pos) nop := ps_imp ps_pass fun Z σ H ⟨F, ls, L, o⟩ => o F σ H .refl L
theorem ds_break {pos : Pos} : DS X G (.Break pos) .bk := ps_imp ps_break fun Z σ H ⟨F, ls, L, o⟩ => o F σ H .refl L
theorem ds_continue {pos : Pos} : DS X G (.Continue pos) .ct := ps_imp ps_continue fun Z σ H ⟨F, ls, L, o⟩ => o F σ H .refl L
/-- a value first, then what follows as a statement -/
theorem tOf.firstS {ma : ME} {f : D × LS → Fl} (L : LInv G F ls σ H) (o : OutS G ((ma ls).fl f) F H Z)
    {Q' : VK} (h : ∀ F1 H1 ls1 d v, Le F H F1 H1 → LInv G F1 ls1 σ H1 → RepX G F1 H1 ls1 σ d v → OutS G (f (d, ls1)) F1 H1 Z → Q' v H1) : tOf G ma σ H Q' := by
  refine ⟨F, ls, L, ?_⟩
  revert o
  cases ma ls with
  | ok x => obtain ⟨d, ls1⟩ := x; exact fun o F1 H1 v p L1 r => h F1 H1 ls1 d v p L1 r (OutS.later p o)
  | exc x => exact fun o => o
  | stuck => exact fun o => o
theorem tOfT.firstS {ma : MT} {f : Bool × LS → Fl} (L : LInv G F ls σ H) (o : OutS G ((ma ls).fl f) F H Z)
    {Q' : Bool → Hp → Prop} (h : ∀ F1 H1 ls1 b, Le F H F1 H1 → LInv G F1 ls1 σ H1 → OutS G (f (b, ls1)) F1 H1 Z → Q' b H1) : tOfT G ma σ H Q' := by
  refine ⟨F, ls, L, ?_⟩
  revert o
  cases ma ls with
  | ok x => obtain ⟨d, ls1⟩ := x; exact fun o F1 H1 p L1 => h F1 H1 ls1 d p L1 (OutS.later p o)
  | exc x => exact fun o => o
  | stuck => exact fun o => o
def sDrop (m : ME) : MS := fun ls => (m ls).fl fun p => .nx p.2
theorem ds_expr {m : ME} {pos : Pos} (h : DE X G e m) (hs : swapsWith e none pos.line X.env = pure false := by rfl) : DS X G (.Expr e pos) (sDrop m) :=
  ps_imp (ps_expr h hs) fun Z σ H ⟨F, ls, L, o⟩ => tOf.firstS L o fun F1 H1 ls1 d v p L1 r o1 => o1 F1 σ H1 .refl L1
def sRet (m : ME) : MS := fun ls => (m ls).fl fun p => .rt p.1 p.2
theorem ds_ret {m : ME} {pos : Pos} (h : DE X G e m) : DS X G (.Return (some e) pos) (sRet m) :=
  ps_imp (ps_ret h) fun Z σ H ⟨F, ls, L, o⟩ => tOf.firstS L o fun F1 H1 ls1 d v p L1 r o1 => o1 F1 σ H1 v .refl L1 r
def sIf (t : MT) (a b : MS) : MS := fun ls => (t ls).fl fun p => if p.1 then a p.2 else b p.2
theorem ds_if {t : MT} {a b : MS} {sa sb : List Stmt} {pos : Pos} (h : DT X G e t) (ha : DSs X G sa a) (hb : DSs X G sb b) : DS X G (.If e sa sb pos) (sIf t a b) :=
  ps_imp (ps_if h ha hb) fun Z σ H ⟨F, ls, L, o⟩ => tOfT.firstS L o fun F1 H1 ls1 b p L1 o1 => by
    cases b with
    | true => rw [if_pos rfl]; exact ⟨F1, ls1, L1, o1⟩
    | false => rw [if_neg Bool.false_ne_true]; exact ⟨F1, ls1, L1, o1⟩

/-! ### targets -/
/-- a value that is stored: frozen, or fresh -/
def RepZ (G : Gh) (F : FS) (H : Hp) (ls : LS) (σ : L2.St) : D → V → Prop
  | .bor _, _ => False
  | d, v => RepX G F H ls σ d v
abbrev MG := D → LS → Option LS
/-- the slots but ks are as they were -/
def But (ks : List Nat) (σ σ' : L2.St) : Prop := σ'.length = σ.length ∧ ∀ k : Nat, k ∉ ks → σ'[k]? = σ[k]?
theorem But.refl {ks : List Nat} {σ : L2.St} : But ks σ σ := ⟨rfl, fun _ _ => rfl⟩
theorem But.trans {ks ls : List Nat} {σ σ1 σ2 : L2.St} (a : But ks σ σ1) (b : But ls σ1 σ2) : But (ks ++ ls) σ σ2 :=
  ⟨b.1.trans a.1, fun k h => (b.2 k fun z => h (List.mem_append_right _ z)).trans (a.2 k fun z => h (List.mem_append_left _ z))⟩
def tOfG (G : Gh) (g : MG) (ks : List Nat) : TG := fun v σ H Q => ∃ F ls d ls', LInv G F ls σ H ∧ RepZ G F H ls σ d v ∧ g d ls = some ls' ∧ ∀ F' σ' H', Le F H F' H' → LInv G F' ls' σ' H' → But ks σ σ' → Q σ' H'
abbrev DG (X : Cx) (G : Gh) (tg : Expr) (g : MG) (ks : List Nat) : Prop := PG X tg (tOfG G g ks)
theorem pg_imp {tg : Expr} {t t' : TG} (h : PG X tg t) (w : ∀ v σ H Q, t' v σ H Q → t v σ H Q) : PG X tg t' := ⟨fun pins s σ H v u Q I r q => h.run pins s σ H v u Q I r (w v σ H Q q)⟩
theorem pgs_imp {tg : List Expr} {t t' : TGs} (h : PGs X tg t) (w : ∀ v σ H Q, t' v σ H Q → t v σ H Q) : PGs X tg t' := ⟨fun pins s σ H v u Q I r q => h.run pins s σ H v u Q I r (w v σ H Q q)⟩
def gN (i : Nat) : MG := fun d ls => some (ls.set i (some d))
theorem LInv.put {i : Nat} {d : D} {v : V} (L : LInv G F ls σ H) (r : RepZ G F H ls σ d v) : LInv G F (ls.set i (some d)) (σ.set i (some v)) H := by
  have rs : RepS G F H d v := by
    cases d with
    | own d => exact ⟨r.1, r.2.1⟩
    | io d => exact r.elim
    | bor j => exact r.elim
    | non => exact r
    | bl => exact r
    | int => exact r
    | str => exact r
    | ref => exact r
    | tup => exact r
    | lst => exact r
    | scr => exact r
    | dct => exact r
    | ins => cases (show Rep F H _ _ from r)
  have na : Chg d → ∀ (k : Nat) (d' : D), ls[k]? = some (some d') → Chg d' → σ[k]? ≠ some (some v) := fun c => by
    cases d with
    | own d => exact r.2.2.1
    | io d => exact r.elim
    | _ => exact c.elim
  have np : Chg d → ∀ p ∈ G.T, v ≠ .ref p.2 := fun c => by
    cases d with
    | own d => exact r.2.2.2
    | io d => exact r.elim
    | _ => exact c.elim
  refine ⟨L.keep, fun j d' ej => ?_, fun j k d1 d2 u ne e1 e2 c1 c2 hs hk => ?_, L.there, L.fnew, by rw [List.length_set, List.length_set]; exact L.len, fun p hp => ?_⟩
  · by_cases hj : i = j
    · subst hj
      have il : i < ls.length := by
        have := (List.getElem?_eq_some_iff.mp ej).1
        rw [List.length_set] at this; exact this
      rw [List.getElem?_set_self il] at ej
      cases ej
      exact ⟨v, by rw [List.getElem?_set_self (by rw [← L.len]; exact il)], rs⟩
    · rw [List.getElem?_set_ne hj] at ej
      obtain ⟨u, g1, g2⟩ := L.slot j d' ej
      exact ⟨u, by rw [List.getElem?_set_ne hj]; exact g1, g2⟩
  · by_cases hj : i = j
    · subst hj
      have il : i < ls.length := by
        have := (List.getElem?_eq_some_iff.mp e1).1
        rw [List.length_set] at this; exact this
      rw [List.getElem?_set_self il] at e1
      cases e1
      rw [List.getElem?_set_self (by rw [← L.len]; exact il)] at hs
      cases hs
      rw [List.getElem?_set_ne ne] at e2 hk
      exact na c1 k _ e2 c2 hk
    · rw [List.getElem?_set_ne hj] at e1 hs
      by_cases hk' : i = k
      · subst hk'
        have il : i < ls.length := by
          have := (List.getElem?_eq_some_iff.mp e2).1
          rw [List.length_set] at this; exact this
        rw [List.getElem?_set_self il] at e2
        cases e2
        rw [List.getElem?_set_self (by rw [← L.len]; exact il)] at hk
        cases hk
        exact na c2 j _ e1 c1 hs
      · rw [List.getElem?_set_ne hk'] at e2 hk
        exact L.apart j k d1 d2 u ne e1 e2 c1 c2 hs hk
  · obtain ⟨m', nf', h0', q⟩ := L.pin p hp
    refine ⟨m', nf', h0', fun j d' ej c hs => ?_⟩
    by_cases hj : i = j
    · subst hj
      have il : i < ls.length := by
        have := (List.getElem?_eq_some_iff.mp ej).1
        rw [List.length_set] at this; exact this
      rw [List.getElem?_set_self il] at ej
      cases ej
      rw [List.getElem?_set_self (by rw [← L.len]; exact il)] at hs
      cases hs
      exact np c p hp rfl
    · rw [List.getElem?_set_ne hj] at ej hs
      exact q j d' ej c hs
theorem dg_name {i : Nat} {x : Str} {pos : Pos} (hN : X.N.Nodup) (hi : X.N[i]? = some x) (hx : Loc X.env.scope x) (hf : X.fn x = true ∨ X.env.scope.names.lookup x = some .local := by first | exact .inl rfl | exact .inr rfl | assumption) : DG X G (.Name x pos) (gN i) [i] :=
  pg_imp (pg_name hN hi hx hf) fun v σ H Q ⟨F, ls, d, ls', L, r, e, q⟩ => by
    cases e
    exact q F _ H .refl (L.put r) ⟨List.length_set, fun k hk => List.getElem?_set_ne fun z => hk (by rw [z]; exact List.mem_singleton_self _)⟩
/-- a tuple of targets -/
abbrev MGs := List D → LS → Option LS
def tOfGs (G : Gh) (g : MGs) (ks : List Nat) : TGs := fun vs σ H Q => ∃ F ls ds ls', LInv G F ls σ H ∧ Reps F H ds vs ∧ g ds ls = some ls' ∧ ∀ F' σ' H', Le F H F' H' → LInv G F' ls' σ' H' → But ks σ σ' → Q σ' H'
def gNone : MGs := fun ds ls => match ds with
  | [] => some ls
  | _ => none
def gMore (g : MG) (gs : MGs) : MGs := fun ds ls => match ds with
  | d :: ds => (g d ls).bind fun ls1 => gs ds ls1
  | [] => none
theorem Rep.z {d : D} {v : V} (r : Rep F H d v) : RepZ G F H ls σ d v := by
  cases d with
  | own d => cases r
  | io d => cases r
  | bor j => cases r
  | non => exact r
  | bl => exact r
  | int => exact r
  | str => exact r
  | ref => exact r
  | tup => exact r
  | lst => exact r
  | scr => exact r
  | dct => exact r
  | ins => cases r
theorem dgs_nil : PGs X [] (tOfGs G gNone []) := pgs_imp pgs_nil fun vs σ H Q ⟨F, ls, ds, ls', L, r, e, q⟩ => by
  cases r with
  | nil => cases e; exact ⟨rfl, q F σ H .refl L .refl⟩
  | cons _ _ => cases e
theorem dgs_cons {tg : Expr} {tgs : List Expr} {g : MG} {gs : MGs} {ks ls' : List Nat} (h1 : DG X G tg g ks) (h2 : PGs X tgs (tOfGs G gs ls')) (hs : (assignEach (tg :: tgs) X.env).map (·.2) = assign tg X.env :: (assignEach tgs X.env).map (·.2) := by rfl) : PGs X (tg :: tgs) (tOfGs G (gMore g gs) (ks ++ ls')) :=
  pgs_imp (pgs_cons h1 h2 hs) fun vs σ H Q ⟨F, ls, ds, ls', L, r, e, q⟩ => by
    cases r with
    | nil => cases e
    | @cons d ds v vs r rs =>
      have e : (g d ls).bind (fun ls1 => gs ds ls1) = some ls' := e
      cases e1 : g d ls with
      | none => rw [e1] at e; cases e
      | some ls1 =>
        rw [e1] at e
        exact ⟨v, vs, rfl, F, ls, d, ls1, L, r.z, e1, fun F1 s1 H1 p L1 b1 => ⟨F1, ls1, ds, ls', L1, rs.le p, e, fun F2 s2 H2 p2 L2 b2 => q F2 s2 H2 (p.trans p2) L2 (b1.trans b2)⟩⟩
def gTup' (n : Nat) (gs : MGs) : MG := fun d ls => match d with
  | .tup ds => if ds.length = n then gs ds ls else none
  | _ => none
theorem dg_tup {es : List Expr} {k n : Nat} {pos : Pos} {gs : MGs} {ks : List Nat} (hc : X.calm = true) (h : PGs X es (tOfGs G gs ks)) (hn : (assignEach es X.env).length = n := by rfl) (hst : (assignEach es X.env).findIdx? (·.1) = none := by rfl) : DG X G (.Tuple es k pos) (gTup' n gs) ks :=
  pg_imp (pg_tup hc h hn hst) fun v σ H Q ⟨F, ls, d, ls', L, r, e, q⟩ => by
    cases d with
    | tup ds =>
      have e : (if ds.length = n then gs ds ls else none) = some ls' := e
      by_cases z : ds.length = n
      · rw [if_pos z] at e
        have r : Rep F H (.tup ds) v := r
        cases r with
        | tup h rr => exact ⟨_, _, rfl, .inl (.inl h), by rw [← rr.length]; exact z, F, ls, ds, ls', L, rr, e, q⟩
      · rw [if_neg z] at e; cases e
    | _ => cases e
/-- stored: what a slot held is shared, so frozen -/
def shr (p : D × LS) : Option (D × LS) := match p.1 with
  | .bor i => frz p.2 (.bor i)
  | .io _ => none
  | d => some (d, p.2)
def sAsg (m : ME) (g : MG) : MS := fun ls => (m ls).fl fun p => (opt (shr p)).fl fun q => (opt (g q.1 q.2)).fl .nx
theorem shr_ok {d d' : D} {ls' : LS} {v : V} (L : LInv G F ls σ H) (r : RepX G F H ls σ d v) (e : shr (d, ls) = some (d', ls')) : ∃ F', Le F H F' H ∧ LInv G F' ls' σ H ∧ RepZ G F' H ls' σ d' v := by
  cases d with
  | bor i =>
    obtain ⟨F1, p1, L1, r1⟩ := frz_ok (d := .bor i) L r.1 e
    exact ⟨F1, p1, L1, r1.z⟩
  | io d => cases e
  | own d => cases e; exact ⟨F, .refl, L, r⟩
  | non => cases e; exact ⟨F, .refl, L, r⟩
  | bl => cases e; exact ⟨F, .refl, L, r⟩
  | int => cases e; exact ⟨F, .refl, L, r⟩
  | str => cases e; exact ⟨F, .refl, L, r⟩
  | ref => cases e; exact ⟨F, .refl, L, r⟩
  | tup => cases e; exact ⟨F, .refl, L, r⟩
  | lst => cases e; exact ⟨F, .refl, L, r⟩
  | scr => cases e; exact ⟨F, .refl, L, r⟩
  | dct => cases e; exact ⟨F, .refl, L, r⟩
  | ins => cases e; exact ⟨F, .refl, L, r⟩
theorem sAsg_imp {m : ME} {g : MG} {ks : List Nat} (Z : Ends) (σ : L2.St) (H : Hp) (q : tOfS G (sAsg m g) Z σ H) : tAsg (tOf G m) (tOfG G g ks) Z σ H := by
  obtain ⟨F, ls, L, o⟩ := q
  refine tOf.firstS L o fun F1 H1 ls1 d v p L1 r o1 => ?_
  cases e : shr (d, ls1) with
  | none => rw [e] at o1; exact o1.elim
  | some z =>
    obtain ⟨d2, ls2⟩ := z
    rw [e] at o1
    have o1 : OutS G ((opt (g d2 ls2)).fl .nx) F1 H1 Z := o1
    cases e2 : g d2 ls2 with
    | none => rw [e2] at o1; exact o1.elim
    | some ls3 =>
      rw [e2] at o1
      obtain ⟨F2, p2, L2, r2⟩ := shr_ok L1 r e
      exact ⟨F2, ls2, d2, ls3, L2, r2, e2, fun F3 s3 H3 p3 L3 _ => o1 F3 s3 H3 (p2.trans p3) L3⟩
theorem ds_asg {tg : Expr} {m : ME} {g : MG} {ks : List Nat} {pos : Pos} (he : DE X G e m) (hg : DG X G tg g ks) (hs : swapsWithSole [tg] e pos.line X.env = pure false := by rfl) (hw : swappedStores [tg] e X.env = pure none := by rfl)
    (h1 : (assignEach [tg] X.env).map (·.2) = [assign tg X.env] := by rfl) : DS X G (.Assign [tg] e pos) (sAsg m g) := ps_imp (ps_asg he hg hs hw h1) sAsg_imp
/-- name = e -/
theorem ds_set {i : Nat} {x : Str} {m : ME} {pos pos' : Pos} (hN : X.N.Nodup) (hi : X.N[i]? = some x) (hx : Loc X.env.scope x) (he : DE X G e m) (hs : swapsWith e (some (.Name x pos')) pos.line X.env = pure false := by rfl) (hf : X.fn x = true ∨ X.env.scope.names.lookup x = some .local := by first | exact .inl rfl | exact .inr rfl | assumption) :
    DS X G (.Assign [.Name x pos'] e pos) (sAsg m (gN i)) :=
  ps_imp (ps_set hN hi hx he hs hf) fun Z σ H q => by
    obtain ⟨F, ls, L, o⟩ := q
    refine tOf.firstS L o fun F1 H1 ls1 d v p L1 r o1 => ?_
    cases e : shr (d, ls1) with
    | none => rw [e] at o1; exact o1.elim
    | some z =>
      obtain ⟨d2, ls2⟩ := z
      rw [e] at o1
      obtain ⟨F2, p2, L2, r2⟩ := shr_ok L1 r e
      exact o1 F2 _ H1 p2 (L2.put r2)
end
end DL

end DLe
section DLf
set_option Elab.async false
set_option linter.all false
set_option autoImplicit false
set_option maxRecDepth 100000
namespace DL
open PySem PySem.Spec PyProof.Rows L2

abbrev Gh.at' (G : Gh) (T : List (D × Addr)) : Gh := { G with T := T }
section
variable {X : Cx} {G : Gh} {e : Expr} {F F' : FS} {H H' : Hp} {ls : LS} {σ σ' : L2.St} {Z : Ends}
/-! ### pins -/
theorem LInv.topin {d : D} {a : Addr} (L : LInv G F ls σ H) (r : RepX G F H ls σ (.own d) (.ref a)) : LInv (G.at' ((d, a) :: G.T)) F ls σ H :=
  ⟨⟨L.keep.all, L.keep.dom, L.keep.tabs⟩, L.slot, L.apart, L.there, L.fnew, L.len, fun p hp => by
    rcases List.mem_cons.mp hp with rfl | hp
    · obtain ⟨m, ⟨b, e, nf, h0⟩, na, _⟩ := r
      cases e
      exact ⟨m, nf, h0, na⟩
    · exact L.pin p hp⟩
theorem LInv.unpin {T : List (D × Addr)} (hs : ∀ p ∈ G.T, p ∈ T) (L : LInv (G.at' T) F ls σ H) : LInv G F ls σ H :=
  ⟨⟨L.keep.all, L.keep.dom, L.keep.tabs⟩, L.slot, L.apart, L.there, L.fnew, L.len, fun p hp => L.pin p (hs p hp)⟩
theorem RepX.unpin {T : List (D × Addr)} {d : D} {v : V} (hs : ∀ p ∈ G.T, p ∈ T) (r : RepX (G.at' T) F H ls σ d v) : RepX G F H ls σ d v := by
  cases d with
  | own d => exact ⟨r.1, r.2.1, r.2.2.1, fun p hp => r.2.2.2 p (hs p hp)⟩
  | _ => exact r
theorem RepZ.unpin {T : List (D × Addr)} {d : D} {v : V} (hs : ∀ p ∈ G.T, p ∈ T) (r : RepZ (G.at' T) F H ls σ d v) : RepZ G F H ls σ d v := by
  cases d with
  | own d => exact ⟨r.1, r.2.1, r.2.2.1, fun p hp => r.2.2.2 p (hs p hp)⟩
  | _ => exact r
theorem RepZ.le {d : D} {v : V} {ls' : LS} (hn : ∀ d', d ≠ .own d') (p : Le F H F' H') (r : RepZ G F H ls σ d v) : RepZ G F' H' ls' σ' d v := by
  cases d with
  | own d => exact absurd rfl (hn d)
  | io d => exact r.elim
  | bor i => exact r.elim
  | non => exact Rep.le p r
  | bl => exact Rep.le p r
  | int => exact Rep.le p r
  | str => exact Rep.le p r
  | ref => exact Rep.le p r
  | tup => exact Rep.le p r
  | lst => exact Rep.le p r
  | scr => exact Rep.le p r
  | dct => exact Rep.le p r
  | ins => cases (show Rep F H _ _ from r)
theorem RepZ.ofX {d : D} {v : V} (r : RepZ G F H ls σ d v) : RepX G F H ls σ d v := by
  cases d with
  | bor i => exact r.elim
  | _ => exact r
/-- a pinned value is a value again -/
theorem LInv.back {T : List (D × Addr)} {d : D} {a : Addr} (L : LInv (G.at' T) F ls σ H) (h : (d, a) ∈ T) (na : ∀ p ∈ G.T, a ≠ p.2) : RepZ G F H ls σ (.own d) (.ref a) := by
  obtain ⟨m, nf, h0, q⟩ := L.pin (d, a) h
  exact ⟨m, ⟨a, rfl, nf, h0⟩, q, fun p hp z => na p hp (by cases z; rfl)⟩
/-- a value is there still behind a store of another one -/
theorem RepZ.put {i : Nat} {x y : D} {v w : V} (r : RepZ G F H ls σ y w) (ne : Chg y → Chg x → w ≠ v) (hl : ls.length = σ.length) : RepZ G F H (ls.set i (some x)) (σ.set i (some v)) y w := by
  cases y with
  | own d =>
    refine ⟨r.1, r.2.1, fun k d' ek c hk => ?_, r.2.2.2⟩
    by_cases hj : i = k
    · subst hj
      have il : i < ls.length := by
        have := (List.getElem?_eq_some_iff.mp ek).1
        rw [List.length_set] at this; exact this
      rw [List.getElem?_set_self il] at ek
      cases ek
      rw [List.getElem?_set_self (by rw [← hl]; exact il)] at hk
      cases hk
      exact ne trivial c rfl
    · rw [List.getElem?_set_ne hj] at ek hk
      exact r.2.2.1 k d' ek c hk
  | io d => exact r.elim
  | bor i => exact r.elim
  | non => exact r
  | bl => exact r
  | int => exact r
  | str => exact r
  | ref => exact r
  | tup => exact r
  | lst => exact r
  | scr => exact r
  | dct => exact r
  | ins => exact r

/-! ### a, b = x, y with plain names -/
theorem pe_any {ι : Type} {t : ι → TE} (h : ∀ i, PE X e (t i)) : PE X e (fun σ H Q => ∃ i, t i σ H Q) := ⟨fun pins s σ H Q I ⟨i, q⟩ => (h i).run pins s σ H Q I q⟩
/-- evaluated, and told whether it is fresh -/
def hold (m : ME) : ME := fun ls => (m ls).bind fun p => opt (shr p)
def sPar (i j : Nat) (ma mb : ME) : MS := fun ls => (hold ma ls).fl fun p => (hold mb p.2).fl fun q => .nx ((q.2.set i (some p.1)).set j (some q.1))
def sPar3 (i j k : Nat) (ma mb mc : ME) : MS := fun ls => (hold ma ls).fl fun p => (hold mb p.2).fl fun q => (hold mc q.2).fl fun r => .nx (((r.2.set i (some p.1)).set j (some q.1)).set k (some r.1))
theorem tOf.held {T : List (D × Addr)} {ma : ME} {f : D × LS → Fl} (L : LInv (G.at' T) F ls σ H) (o : OutS G ((hold ma ls).fl f) F H Z)
    {Q' : VK} (h : ∀ F1 H1 ls1 d v, Le F H F1 H1 → LInv (G.at' T) F1 ls1 σ H1 → RepZ (G.at' T) F1 H1 ls1 σ d v → OutS G (f (d, ls1)) F1 H1 Z → Q' v H1) : tOf (G.at' T) ma σ H Q' := by
  refine ⟨F, ls, L, ?_⟩
  have e : (hold ma ls).fl f = (ma ls).fl fun p => (opt (shr p)).fl f := by
    unfold hold
    cases ma ls <;> rfl
  rw [e] at o
  revert o
  cases ma ls with
  | ok p =>
    obtain ⟨d, ls1⟩ := p
    intro o F1 H1 v p1 L1 r
    have o : OutS G ((opt (shr (d, ls1))).fl f) F H Z := o
    cases e1 : shr (d, ls1) with
    | none => rw [e1] at o; exact o.elim
    | some q =>
      obtain ⟨d2, ls2⟩ := q
      rw [e1] at o
      obtain ⟨F2, p2, L2, r2⟩ := shr_ok L1 r e1
      exact h F2 H1 ls2 d2 v (p1.trans p2) L2 r2 (OutS.later (p1.trans p2) o)
  | exc x => exact fun o H' C k => o H' C ⟨k.all, k.dom, k.tabs⟩
  | stuck => exact fun o => o
/-- held while m is evaluated: the first value stays what it is -/
theorem tOf.held2 {T : List (D × Addr)} {d : D} {v : V} {mb : ME} {f : D × LS → Fl} (L : LInv (G.at' T) F ls σ H) (r : RepZ (G.at' T) F H ls σ d v) (o : OutS G ((hold mb ls).fl f) F H Z)
    {Q' : VK} (h : ∀ T' F1 H1 ls1 y w, (∀ p ∈ T, p ∈ T') → Le F H F1 H1 → LInv (G.at' T') F1 ls1 σ H1 → RepZ (G.at' T) F1 H1 ls1 σ d v → RepZ (G.at' T') F1 H1 ls1 σ y w → (Chg y → Chg d → w ≠ v) → OutS G (f (y, ls1)) F1 H1 Z → Q' w H1) : ∃ T', tOf (G.at' T') mb σ H Q' := by
  by_cases hd : ∃ d', d = .own d'
  · obtain ⟨d', rfl⟩ := hd
    have r' := r
    obtain ⟨m, ⟨a, rfl, nf, h0⟩, na, np⟩ := r'
    refine ⟨(d', a) :: T, ?_⟩
    have L1 : LInv (G.at' ((d', a) :: T)) F ls σ H := L.topin (G := G.at' T) r.ofX
    refine tOf.held (G := G) L1 o fun F1 H1 ls1 y w p1 L2 r2 o2 => ?_
    refine h _ F1 H1 ls1 y w (fun p hp => List.mem_cons_of_mem _ hp) p1 L2 ?_ r2 (fun c _ => ?_) o2
    · exact LInv.back (G := G.at' T) L2 List.mem_cons_self fun p hp z => np p hp (by rw [z])
    · cases y with
      | own y => exact r2.2.2.2 (d', a) List.mem_cons_self
      | io y => exact r2.elim
      | _ => exact c.elim
  · refine ⟨T, tOf.held (G := G) L o fun F1 H1 ls1 y w p1 L2 r2 o2 => ?_⟩
    refine h _ F1 H1 ls1 y w (fun p hp => hp) p1 L2 (r.le (fun d' z => hd ⟨d', z⟩) p1) r2 (fun _ c => ?_) o2
    cases d with
    | own d => exact absurd ⟨d, rfl⟩ hd
    | io d => exact r.elim
    | _ => exact c.elim
theorem at_self : G.at' G.T = G := rfl
def tPar2 (G : Gh) (ma mb : ME) : TA := fun σ H Q => tOf G ma σ H fun v H1 => ∃ T, tOf (G.at' T) mb σ H1 fun w H2 => Q [v, w] H2
theorem ds_par {i j : Nat} {x y : Str} {a b : Expr} {ma mb : ME} {px py pt pos : Pos} {kt k2 pt2} (hc : X.calm = true) (hN : X.N.Nodup) (hi : X.N[i]? = some x) (hj : X.N[j]? = some y) (hij : i ≠ j)
    (hx : X.env.scope.names.lookup x = some .local) (hy : X.env.scope.names.lookup y = some .local) (ha : DE X G a ma) (hb : ∀ T, DE X (G.at' T) b mb)
    (hw : swappedStores [.Tuple [.Name x px, .Name y py] kt pt] (.Tuple [a, b] k2 pt2) X.env = pure (some [x, y]))
    (hs : swapsWithSole [.Tuple [.Name x px, .Name y py] kt pt] (.Tuple [a, b] k2 pt2) pos.line X.env = pure false := by rfl)
    (h1 : starEach [a, b] X.env = (false, eval a X.env) :: starEach [b] X.env := by rfl) (h2 : starEach [b] X.env = (false, eval b X.env) :: starEach [] X.env := by rfl) :
    DS X G (.Assign [.Tuple [.Name x px, .Name y py] kt pt] (.Tuple [a, b] k2 pt2) pos) (sPar i j ma mb) := by
  have pa : PA X [a, b] (tPar2 G ma mb) := pa_imp (pa_cons ha (pa_cons (pe_any hb) pa_nil h2) h1) fun σ H Q q => by
    exact q
  refine ps_imp (ps_par (ta := tPar2 G ma mb) hc hN hi hj hij hx hy pa hw hs) fun Z σ H ⟨F, ls, L, o⟩ => ?_
  refine tOf.held (G := G) (T := G.T) L o fun F1 H1 ls1 d v p1 L1 r1 o1 => ?_
  refine tOf.held2 (G := G) (T := G.T) (Q' := fun w H2 => ∃ v1 w1, [v, w] = [v1, w1] ∧ Z.nx ((σ.set i (some v1)).set j (some w1)) H2) L1 r1 o1 ?_
  intro T' F2 H2 ls2 y w hT p2 L2 rx ry ne o2
  refine ⟨v, w, rfl, o2 F2 _ H2 .refl ?_⟩
  have L3 : LInv G F2 ls2 σ H2 := L2.unpin hT
  exact (L3.put rx).put ((ry.unpin hT).put ne L3.len)
end
end DL

end DLf
section DLg
set_option Elab.async false
set_option linter.all false
set_option autoImplicit false
set_option maxRecDepth 100000
namespace DL
open PySem PySem.Spec PyProof.Rows L2

section
variable {X : Cx} {G : Gh} {e : Expr} {F F' : FS} {H H' : Hp} {ls : LS} {σ σ' : L2.St} {Z : Ends}
/-! ### what is walked -/
structure ItD (J : It) (F : FS) (H : Hp) (ds : List D) : Prop where
  go : ∀ i F' H', Le F H F' H' → i < ds.length → J.go i H'
  yld : ∀ i F' H' x H'' d, Le F H F' H' → J.yld i H' x H'' → ds[i]? = some d → Same H' H'' ∧ Rep F' H'' d x
  stop : ∀ F' H', Le F H F' H' → J.stop ds.length H'
abbrev MI := LS → Res (List D × LS)
def OutI (G : Gh) (r : Res (List D × LS)) (F : FS) (σ : L2.St) (H : Hp) (R : It → Hp → Prop) : Prop :=
  match r with
  | .ok (ds, ls) => ∀ F' H' J, Le F H F' H' → LInv G F' ls σ H' → ItD J F' H' ds → R J H'
  | .exc x => ∀ H' C, Keep G H' → G.mg x = some (.ref C) → G.E (.ref C) none H'
  | .stuck => False
def tOfI (G : Gh) (m : MI) : TI := fun σ H R => ∃ F ls, LInv G F ls σ H ∧ OutI G (m ls) F σ H R
abbrev DI (X : Cx) (G : Gh) (tg iter : Expr) (m : MI) : Prop := PI X tg iter (tOfI G m)
theorem pi_imp {tg iter : Expr} {t t' : TI} (h : PI X tg iter t) (w : ∀ σ H R, t' σ H R → t σ H R) : PI X tg iter t' := ⟨fun pins s σ H R I q => h.run pins s σ H R I (w σ H R q)⟩

/-! ### for -/
def forL (g : MG) (b : MS) : List D → LS → Fl
  | [], ls => .nx ls
  | d :: ds, ls => match g d ls with
    | none => .stuck
    | some ls1 => match b ls1 with
      | .nx ls2 => forL g b ds ls2
      | .ct ls2 => forL g b ds ls2
      | .bk ls2 => .nx ls2
      | .rt x ls2 => .rt x ls2
      | .exc x => .exc x
      | .stuck => .stuck
def sFor (mi : MI) (g : MG) (b : MS) : MS := fun ls => (mi ls).fl fun q => forL g b q.1 q.2
theorem ds_for {tg iter : Expr} {body : List Stmt} {mi : MI} {g : MG} {b : MS} {ks : List Nat} {pos : Pos} (hp : PassesOwn (model X.prog X.w) X.A X.env X.xe) (hc : X.calm = true) (hi : DI X G tg iter mi) (hg : DG X G tg g ks) (hb : DSs X G body b)
    (hs : ∀ x, foldedSetIterable iter X.env x = pure x := by intro _; rfl) : DS X G (.For tg iter body [] pos) (sFor mi g b) :=
  ps_imp (ps_for hp hc hi hg hb hs) fun Z σ H ⟨F, ls, L, o⟩ => by
    refine ⟨F, ls, L, ?_⟩
    unfold sFor at o
    revert o
    cases mi ls with
    | exc x => exact fun o => o
    | stuck => exact fun o => o
    | ok q =>
      obtain ⟨ds, ls1⟩ := q
      intro o F1 H1 J p1 L1 it
      have o : OutS G (forL g b ds ls1) F H Z := o
      refine ⟨fun i m σ H => m = ds.length - i ∧ i ≤ ds.length ∧ ∃ F ls, Le F1 H1 F H ∧ LInv G F ls σ H ∧ OutS G (forL g b (ds.drop i) ls) F H Z, ⟨ds.length, by simp, Nat.zero_le _, F1, ls1, .refl, L1, OutS.later p1 o⟩, ?_⟩
      rintro i m σ2 H2 ⟨rfl, hi, F2, ls2, p2, L2, o2⟩
      by_cases hlt : i < ds.length
      · refine .inr ⟨it.go i F2 H2 p2 hlt, fun σ' H' => ∃ F ls, Le F1 H1 F H' ∧ LInv G F ls σ' H' ∧ OutS G (forL g b (ds.drop (i + 1)) ls) F H' Z, fun σ' H' ⟨F, ls, a, b', c⟩ => ⟨ds.length - (i + 1), by omega, rfl, hlt, F, ls, a, b', c⟩, fun x H3 y => ?_⟩
        rw [List.drop_eq_getElem_cons hlt] at o2
        have hd : ds[i]? = some ds[i] := List.getElem?_eq_getElem hlt
        obtain ⟨sm, rx⟩ := it.yld i F2 H2 x H3 _ p2 y hd
        unfold forL at o2
        cases e1 : g ds[i] ls2 with
        | none => rw [e1] at o2; exact o2.elim
        | some ls3 =>
          rw [e1] at o2
          refine ⟨F2, ls2, _, ls3, L2.same sm, rx.z, e1, fun F4 σ4 H4 p4 L4 _ => ⟨F4, ls3, L4, ?_⟩⟩
          have p24 : Le F2 H2 F4 H4 := (Le.same sm).trans p4
          dsimp only at o2
          revert o2
          cases b ls3 with
          | nx ls5 => exact fun o2 F5 σ5 H5 p5 L5 => ⟨F5, ls5, (p2.trans p24).trans p5, L5, OutS.later (p24.trans p5) o2⟩
          | ct ls5 => exact fun o2 F5 σ5 H5 p5 L5 => ⟨F5, ls5, (p2.trans p24).trans p5, L5, OutS.later (p24.trans p5) o2⟩
          | bk ls5 => exact fun o2 F5 σ5 H5 p5 L5 => o2 F5 σ5 H5 (p24.trans p5) L5
          | rt d ls5 => exact fun o2 F5 σ5 H5 v p5 L5 r => o2 F5 σ5 H5 v (p24.trans p5) L5 r
          | exc x => exact fun o2 => o2
          | stuck => exact fun o2 => o2
      · have e : i = ds.length := by omega
        subst e
        rw [List.drop_length] at o2
        exact .inl ⟨it.stop F2 H2 p2, o2 F2 σ2 H2 .refl L2⟩

/-! ### while -/
def whlF (c : MT) (b : MS) : Nat → LS → Fl
  | 0, _ => .stuck
  | n + 1, ls => match c ls with
    | .ok (true, ls1) => match b ls1 with
      | .nx ls2 => whlF c b n ls2
      | .ct ls2 => whlF c b n ls2
      | .bk ls2 => .nx ls2
      | .rt x ls2 => .rt x ls2
      | .exc x => .exc x
      | .stuck => .stuck
    | .ok (false, ls1) => .nx ls1
    | .exc x => .exc x
    | .stuck => .stuck
theorem whlF_more {c : MT} {b : MS} : ∀ {n : Nat} {ls : LS}, whlF c b n ls ≠ .stuck → whlF c b (n + 1) ls = whlF c b n ls
  | 0, ls, h => absurd rfl h
  | n + 1, ls, h => by
    rw [whlF, whlF]
    rw [whlF] at h
    cases e : c ls with
    | exc x => rfl
    | stuck => rfl
    | ok q =>
      obtain ⟨t, ls1⟩ := q
      cases t with
      | false => rfl
      | true =>
        rw [e] at h
        dsimp only at h ⊢
        cases e2 : b ls1 with
        | nx ls2 => rw [e2] at h; exact whlF_more h
        | ct ls2 => rw [e2] at h; exact whlF_more h
        | bk ls2 => rfl
        | rt x ls2 => rfl
        | exc x => rfl
        | stuck => rfl
theorem whlF_add {c : MT} {b : MS} {n : Nat} {ls : LS} (h : whlF c b n ls ≠ .stuck) : ∀ k, whlF c b (n + k) ls = whlF c b n ls
  | 0 => rfl
  | k + 1 => by
    have ih := whlF_add h k
    rw [← Nat.add_assoc, whlF_more (by rw [ih]; exact h), ih]
open Classical in
noncomputable def sWhl (c : MT) (b : MS) : MS := fun ls => if h : ∃ n, whlF c b n ls ≠ .stuck then whlF c b h.choose ls else .stuck
theorem sWhl_of {c : MT} {b : MS} {n : Nat} {ls : LS} (h : whlF c b n ls ≠ .stuck) : sWhl c b ls = whlF c b n ls := by
  have hx : ∃ n, whlF c b n ls ≠ .stuck := ⟨n, h⟩
  unfold sWhl
  rw [dif_pos hx]
  have h2 := hx.choose_spec
  rcases Nat.le_total n hx.choose with q | q
  · have := whlF_add h (hx.choose - n)
    rw [Nat.add_sub_cancel' q] at this; exact this
  · have := whlF_add h2 (n - hx.choose)
    rw [Nat.add_sub_cancel' q] at this; exact this.symm
/-- one turn -/
theorem sWhl_eq (c : MT) (b : MS) (ls : LS) : sWhl c b ls = match c ls with
    | .ok (true, ls1) => (match b ls1 with
      | .nx ls2 => sWhl c b ls2
      | .ct ls2 => sWhl c b ls2
      | .bk ls2 => .nx ls2
      | .rt x ls2 => .rt x ls2
      | .exc x => .exc x
      | .stuck => .stuck)
    | .ok (false, ls1) => .nx ls1
    | .exc x => .exc x
    | .stuck => .stuck := by
  have up : ∀ ls2 : LS, (∀ n, whlF c b (n + 1) ls = whlF c b n ls2) → sWhl c b ls = sWhl c b ls2 := fun ls2 he => by
    by_cases h : ∃ n, whlF c b n ls2 ≠ .stuck
    · obtain ⟨n, hn⟩ := h
      rw [sWhl_of hn, sWhl_of (n := n + 1) (by rw [he]; exact hn), he]
    · have h' : ¬ ∃ n, whlF c b n ls ≠ .stuck := fun ⟨n, hn⟩ => by
        cases n with
        | zero => exact hn rfl
        | succ n => rw [he] at hn; exact h ⟨n, hn⟩
      unfold sWhl
      rw [dif_neg h, dif_neg h']
  have fin : ∀ r : Fl, (∀ n, whlF c b (n + 1) ls = r) → sWhl c b ls = r := fun r he => by
    by_cases h : r = .stuck
    · subst h
      unfold sWhl
      rw [dif_neg]
      rintro ⟨n, hn⟩
      cases n with
      | zero => exact hn rfl
      | succ n => rw [he] at hn; exact hn rfl
    · rw [sWhl_of (n := 1) (by rw [he]; exact h), he]
  cases e : c ls with
  | exc x => exact fin _ fun n => by rw [whlF, e]
  | stuck => exact fin _ fun n => by rw [whlF, e]
  | ok q =>
    obtain ⟨t, ls1⟩ := q
    cases t with
    | false => exact fin _ fun n => by rw [whlF, e]
    | true =>
      dsimp only
      cases e2 : b ls1 with
      | nx ls2 => exact up ls2 fun n => by rw [whlF, e]; dsimp only; rw [e2]
      | ct ls2 => exact up ls2 fun n => by rw [whlF, e]; dsimp only; rw [e2]
      | bk ls2 => exact fin _ fun n => by rw [whlF, e]; dsimp only; rw [e2]
      | rt x ls2 => exact fin _ fun n => by rw [whlF, e]; dsimp only; rw [e2]
      | exc x => exact fin _ fun n => by rw [whlF, e]; dsimp only; rw [e2]
      | stuck => exact fin _ fun n => by rw [whlF, e]; dsimp only; rw [e2]
theorem ds_while {c : Expr} {body : List Stmt} {t : MT} {b : MS} {pos : Pos} (hp : PassesOwn (model X.prog X.w) X.A X.env X.xe) (hc : DT X G c t) (hb : DSs X G body b) : DS X G (.While c body [] pos) (sWhl t b) :=
  ps_imp (ps_while hp hc hb) fun Z σ H ⟨F, ls, L, o⟩ => by
    unfold sWhl at o
    by_cases h : ∃ n, whlF t b n ls ≠ .stuck
    · rw [dif_pos h] at o
      refine ⟨fun n σ H => ∃ F ls, LInv G F ls σ H ∧ OutS G (whlF t b n ls) F H Z, ⟨h.choose, F, ls, L, o⟩, ?_⟩
      rintro n σ1 H1 ⟨F1, ls1, L1, o1⟩
      cases n with
      | zero => exact o1.elim
      | succ n =>
        refine ⟨F1, ls1, L1, ?_⟩
        rw [whlF] at o1
        revert o1
        cases t ls1 with
        | exc x => exact fun o => o
        | stuck => exact fun o => o
        | ok q =>
          obtain ⟨v, ls2⟩ := q
          cases v with
          | false => exact fun o1 F2 H2 p2 L2 => by dsimp only; rw [if_neg Bool.false_ne_true]; exact o1 F2 σ1 H2 p2 L2
          | true =>
            intro o1 F2 H2 p2 L2
            dsimp only
            rw [if_pos rfl]
            refine ⟨fun σ' H' => ∃ F ls, LInv G F ls σ' H' ∧ OutS G (whlF t b n ls) F H' Z, fun σ' H' q => ⟨n, Nat.lt_succ_self n, q⟩, F2, ls2, L2, ?_⟩
            dsimp only at o1
            revert o1
            cases b ls2 with
            | nx ls5 => exact fun o2 F5 σ5 H5 p5 L5 => ⟨F5, ls5, L5, OutS.later (p2.trans p5) o2⟩
            | ct ls5 => exact fun o2 F5 σ5 H5 p5 L5 => ⟨F5, ls5, L5, OutS.later (p2.trans p5) o2⟩
            | bk ls5 => exact fun o2 F5 σ5 H5 p5 L5 => o2 F5 σ5 H5 (p2.trans p5) L5
            | rt d ls5 => exact fun o2 F5 σ5 H5 v p5 L5 r => o2 F5 σ5 H5 v (p2.trans p5) L5 r
            | exc x => exact fun o2 => o2
            | stuck => exact fun o2 => o2
    · rw [dif_neg h] at o; exact o.elim

/-! ### raise -/
theorem ds_raise {x m : Str} {j : Nat} {p p2 pos pos' : Pos} {C : Addr} {bmB : List Value} {B newId initId : String} (hc : X.calm = true) (hmg : G.mg = X.mg) (tk : L2N.Takes X (fun cls d _ H => G.E cls d H))
    (Fb : ExcBaseFacts B newId initId bmB) (q : PySem.W.excIn X.K C bmB newId = true) (gC : X.mg x = some (.ref C)) (kC : PySem.W.keepIn X.K (.ref C) = true) (r : Raises X (.ref C)) (hg : Gl X x)
    (hdb : (x == ("__debug__" : Str)) = false := by decide) : DS X G (.Raise (some (.Call (.Name x p) [.Constant (.str m) j p2] [] pos)) none pos') (fun _ => .exc x) :=
  ps_imp (L2N.ps_raise hc tk (L2N.pmk_own Fb q gC kC r hg hdb)) fun Z σ H ⟨F, ls, L, o⟩ => o H C L.keep (by rw [hmg]; exact gC)
end
end DL

end DLg
section DLh
set_option Elab.async false
set_option linter.all false
set_option autoImplicit false
set_option maxRecDepth 100000
namespace DL
open PySem PySem.Spec PyProof.Rows L2

/-! ### what a call leaves: all but W as it was -/
structure CallLe (tb : List (Addr × Str)) (W F : FS) (H : Hp) (F' : FS) (H' : Hp) : Prop where
  le : Le F H F' H'
  all : ∀ a o, H a = some o → ¬ W a → (∀ ps, o ≠ .tbl ps) → H' a = some o
  dom : ∀ a, Nw H' a → Nw H a
  new : ∀ a, F' a → F a ∨ Nw H a
  there : ∀ a, F' a → ¬ Nw H' a
  tabs : LamX.Tabs tb H'
abbrev none' : FS := fun _ => False
def RepQ (F : FS) (H H' : Hp) : D → V → Prop
  | .own d, v => RepM F H' d v ∧ ∃ a, v = .ref a ∧ ¬ F a ∧ Nw H a
  | .io _, _ => False
  | .bor _, _ => False
  | d, v => Rep F H' d v
section
variable {X : Cx} {G : Gh} {e : Expr} {es : List Expr} {tb : List (Addr × Str)} {F F' W : FS} {H H' : Hp} {ls : LS} {σ σ' : L2.St} {Z : Ends}
theorem RepM.notbl {d : D} {a : Addr} (r : RepM F H d (.ref a)) : ∃ o, H a = some o ∧ ∀ ps, o ≠ .tbl ps := by
  cases d with
  | lst xs => obtain ⟨b, vs, e, h, q⟩ := r; cases e; exact ⟨_, h, fun _ z => nomatch z⟩
  | dct kvs =>
    obtain ⟨b, e, h⟩ := r
    cases e
    rcases h with ⟨ks, h, q⟩ | ⟨ks, h, q⟩ <;> exact ⟨_, h, fun _ z => nomatch z⟩
  | ins C fs => obtain ⟨b, dx, vs, e, h, q⟩ := r; cases e; exact ⟨_, h, fun _ z => nomatch z⟩
  | _ => exact r.elim
theorem RepM.isref {d : D} {v : V} (r : RepM F H d v) : ∃ a, v = .ref a := by
  cases d with
  | lst xs => obtain ⟨b, vs, e, h, q⟩ := r; exact ⟨b, e⟩
  | dct kvs => obtain ⟨b, e, h⟩ := r; exact ⟨b, e⟩
  | ins C fs => obtain ⟨b, dx, vs, e, h, q⟩ := r; exact ⟨b, e⟩
  | _ => exact r.elim
/-- a changeable thing out of W stands behind the call as it stood -/
theorem RepM.call {d : D} {a : Addr} (c : CallLe tb W F H F' H') (nw : ¬ W a) (r : RepM F H d (.ref a)) : RepM F' H' d (.ref a) := by
  obtain ⟨o, ho, nt⟩ := r.notbl
  exact r.le c.le fun b e => by cases e; rw [ho, c.all a o ho nw nt]
theorem RepS.at {d : D} {v : V} (c : Chg d) (r : RepS G F H d v) : ∃ a d', v = .ref a ∧ (d = .own d' ∨ d = .io d') ∧ RepM F H d' (.ref a) ∧ ¬ F a := by
  cases d with
  | own d => obtain ⟨m, a, e, nf, h0⟩ := r; subst e; exact ⟨a, d, rfl, .inl rfl, m, nf⟩
  | io d => obtain ⟨m, a, e, nf, h0⟩ := r; subst e; exact ⟨a, d, rfl, .inr rfl, m, nf⟩
  | _ => exact c.elim
theorem Keep.call (k : Keep G H) (c : CallLe G.tb W F H F' H') (hw : ∀ a, W a → G.I0 a ∨ Nw G.H0 a) : Keep G H' where
  all := fun a o e n t => by
    refine c.all a o (k.all a o e n t) (fun w => ?_) t
    rcases hw a w with z | z
    · exact n z
    · obtain ⟨ps, q⟩ := z o e; exact t ps q
  dom := fun a e => k.dom a (c.dom a e)
  tabs := c.tabs
/-- a call: no slot's thing is in W -/
theorem LInv.call (L : LInv G F ls σ H) (c : CallLe G.tb W F H F' H') (hw : ∀ a, W a → G.I0 a ∨ Nw G.H0 a) (ns : ∀ (i : Nat) (d : D) (a : Addr), ls[i]? = some (some d) → Chg d → σ[i]? = some (some (.ref a)) → ¬ W a)
    (np : ∀ p ∈ G.T, ¬ W p.2) (f0 : ∀ a, F a → ¬ Nw H a := by exact fun a h => L.there a h) : LInv G F' ls σ H' where
  keep := L.keep.call c hw
  slot := fun i d e => by
    obtain ⟨v, h1, h2⟩ := L.slot i d e
    refine ⟨v, h1, h2.le c.le fun b cd eb => ?_⟩
    obtain ⟨a, d', e', _, m, nf⟩ := h2.at cd
    rw [eb] at e' h1; cases e'
    have nw := ns i d b e cd h1
    obtain ⟨o, ho, nt⟩ := m.notbl
    refine ⟨by rw [ho, c.all b o ho nw nt], fun z => ?_⟩
    rcases c.new b z with z | z
    · exact nf z
    · exact m.nw z
  apart := L.apart
  there := c.there
  fnew := fun a z => by
    rcases c.new a z with z | z
    · exact L.fnew a z
    · exact .inr (L.keep.dom a z)
  len := L.len
  pin := fun p hp => by
    obtain ⟨m, nf, h0, q⟩ := L.pin p hp
    refine ⟨m.call c (np p hp), fun z => ?_, h0, q⟩
    rcases c.new _ z with z | z
    · exact nf z
    · exact m.nw z
theorem LInv.forget (L : LInv G F ls σ H) (i : Nat) : LInv G F (ls.set i none) σ H := by
  have red : ∀ {k : Nat} {d : D}, (ls.set i none)[k]? = some (some d) → ls[k]? = some (some d) ∧ i ≠ k := fun {k d} ek => by
    by_cases hj : i = k
    · subst hj
      have il : i < ls.length := by
        have := (List.getElem?_eq_some_iff.mp ek).1
        rw [List.length_set] at this; exact this
      rw [List.getElem?_set_self il] at ek; cases ek
    · rw [List.getElem?_set_ne hj] at ek; exact ⟨ek, hj⟩
  exact ⟨L.keep, fun k d ek => L.slot k d (red ek).1, fun j k d d' v ne e1 e2 => L.apart j k d d' v ne (red e1).1 (red e2).1, L.there, L.fnew, by rw [List.length_set]; exact L.len,
    fun p hp => by
      obtain ⟨m, nf, h0, q⟩ := L.pin p hp
      exact ⟨m, nf, h0, fun k d ek => q k d (red ek).1⟩⟩
/-- the slot's thing is written -/
theorem LInv.write {i : Nat} {w : D → D} {d d' : D} {a : Addr} (hw : w = .own ∨ w = .io) (L : LInv G F ls σ H) (e : ls[i]? = some (some (w d))) (hs : σ[i]? = some (some (.ref a))) (c : CallLe G.tb (fun b => b = a) F H F' H') (m : RepM F' H' d' (.ref a)) :
    LInv G F' (ls.set i (some (w d'))) σ H' := by
  have cw : ∀ x, Chg (w x) := fun x => by rcases hw with rfl | rfl <;> trivial
  obtain ⟨v, h1, h2⟩ := L.slot i _ e
  rw [hs] at h1; cases h1
  have hW : ∀ b, b = a → G.I0 b ∨ Nw G.H0 b := fun b z => by
    subst z
    rcases hw with rfl | rfl
    · obtain ⟨_, b', e', _, h0⟩ := h2; cases e'; exact .inr h0
    · obtain ⟨_, b', e', _, h0⟩ := h2; cases e'; exact .inl h0
  have il : i < ls.length := (List.getElem?_eq_some_iff.mp e).1
  have L1 : LInv G F' (ls.set i none) σ H' := (L.forget i).call c hW (fun j dj b ej cj hj z => by
      subst z
      by_cases hij : i = j
      · subst hij; rw [List.getElem?_set_self il] at ej; cases ej
      · rw [List.getElem?_set_ne hij] at ej
        exact L.apart i j _ _ _ hij e ej (cw d) cj hs hj) (fun p hp z => (L.pin p hp).2.2.2 i _ e (cw d) (by rw [z]; exact hs)) L.there
  have red : ∀ {k : Nat} {x : D}, (ls.set i (some (w d')))[k]? = some (some x) → (i = k ∧ x = w d') ∨ (i ≠ k ∧ (ls.set i none)[k]? = some (some x)) := fun {k x} ek => by
    by_cases hj : i = k
    · subst hj; rw [List.getElem?_set_self il] at ek; cases ek; exact .inl ⟨rfl, rfl⟩
    · rw [List.getElem?_set_ne hj] at ek; exact .inr ⟨hj, by rw [List.getElem?_set_ne hj]; exact ek⟩
  have old : ∀ {k : Nat} {x : D}, i ≠ k → (ls.set i none)[k]? = some (some x) → ls[k]? = some (some x) := fun {k x} h ek => by rw [List.getElem?_set_ne h] at ek; exact ek
  refine ⟨L1.keep, fun k x ek => ?_, fun j k x y v ne e1 e2 c1 c2 g1 g2 => ?_, L1.there, L1.fnew, by rw [List.length_set]; exact L.len, fun p hp => ?_⟩
  · rcases red ek with ⟨rfl, rfl⟩ | ⟨_, q⟩
    · refine ⟨_, hs, ?_⟩
      have nf : ¬ F' a := fun z => by
        rcases c.new a z with z | z
        · obtain ⟨_, _, e', _, _, nf⟩ := h2.at (cw d); cases e'; exact nf z
        · obtain ⟨_, _, e', _, m, _⟩ := h2.at (cw d); cases e'; exact m.nw z
      rcases hw with rfl | rfl
      · obtain ⟨_, b', e', _, h0⟩ := h2; cases e'; exact ⟨m, _, rfl, nf, h0⟩
      · obtain ⟨_, b', e', _, h0⟩ := h2; cases e'; exact ⟨m, _, rfl, nf, h0⟩
    · exact L1.slot k x q
  · rcases red e1 with ⟨rfl, rfl⟩ | ⟨n1, q1⟩
    · rcases red e2 with ⟨rfl, rfl⟩ | ⟨n2, q2⟩
      · exact ne rfl
      · exact L.apart i k _ _ _ n2 e (old n2 q2) (cw d) c2 g1 g2
    · rcases red e2 with ⟨rfl, rfl⟩ | ⟨n2, q2⟩
      · exact L.apart i j _ _ _ n1 e (old n1 q1) (cw d) c1 g2 g1
      · exact L1.apart j k x y v ne q1 q2 c1 c2 g1 g2
  · obtain ⟨m', nf', h0', q⟩ := L1.pin p hp
    refine ⟨m', nf', h0', fun k x ek cx hk => ?_⟩
    rcases red ek with ⟨rfl, rfl⟩ | ⟨n1, q1⟩
    · exact (L.pin p hp).2.2.2 i _ e (cw d) hk
    · exact q k x q1 cx hk

/-! ### promises -/
abbrev FD := List D → Res D
def SpF (mg : Str → Option Value) (tb : List (Addr × Str)) (n : Nat) (f : FD) : Sp := fun vs H Q E => ∃ F ds, ds.length = n ∧ Reps F H ds vs ∧ (∀ a, F a → ¬ Nw H a) ∧ LamX.Tabs tb H ∧ match f ds with
  | .ok d => ∀ F' H' v, CallLe tb none' F H F' H' → RepQ F' H H' d v → Q v H'
  | .exc x => ∀ H' C, (∀ a o, H a = some o → (∀ ps, o ≠ .tbl ps) → H' a = some o) → (∀ a, Nw H' a → Nw H a) → LamX.Tabs tb H' → mg x = some (.ref C) → E (.ref C) none H'
  | .stuck => False
/-- a def that changes its first argument -/
abbrev FIO := D → List D → Res (D × D)
def SpIO (mg : Str → Option Value) (tb : List (Addr × Str)) (n : Nat) (f : FIO) : Sp := fun vs H Q E => ∃ F c ds a us, vs = .ref a :: us ∧ ds.length = n ∧ Reps F H ds us ∧ (∀ a, F a → ¬ Nw H a) ∧ LamX.Tabs tb H ∧ RepM F H c (.ref a) ∧ ¬ F a ∧ match f c ds with
  | .ok (d, c') => ∀ F' H' v, CallLe tb (fun b => b = a) F H F' H' → RepM F' H' c' (.ref a) → RepQ F' H H' d v → Q v H'
  | .exc x => False
  | .stuck => False
theorem RepQ.toX {d : D} {v : V} (L : LInv G F ls σ H) (c : CallLe tb W F H F' H') (r : RepQ F' H H' d v) {ls' : LS} (hs : ∀ (i : Nat) (d : D), ls'[i]? = some (some d) → Chg d → ∃ d', ls[i]? = some (some d') ∧ Chg d') : RepX G F' H' ls' σ d v := by
  cases d with
  | own d =>
    obtain ⟨m, a, e, nf, n⟩ := r
    subst e
    refine ⟨m, ⟨a, rfl, nf, L.keep.dom a n⟩, fun i d' ei ci hi => ?_, fun p hp z => ?_⟩
    · obtain ⟨d2, e2, c2⟩ := hs i d' ei ci
      obtain ⟨u, h1, h2⟩ := L.slot i d2 e2
      obtain ⟨b, d3, e3, _, m3, _⟩ := h2.at c2
      rw [h1] at hi; cases hi; cases e3
      exact m3.nw n
    · cases z; exact (L.pin p hp).1.nw n
  | io d => exact r.elim
  | bor i => exact r.elim
  | non => exact r
  | bl => exact r
  | int => exact r
  | str => exact r
  | ref => exact r
  | tup => exact r
  | lst => exact r
  | scr => exact r
  | dct => exact r
  | ins => exact r
def mCall (f : FD) (ms : MA) : ME := fun ls => (fz ms ls).bind fun q => (f q.1).bind fun d => .ok (d, q.2)
theorem mCall_imp {mg : Str → Option Value} {n : Nat} {f : FD} {ms : MA} (hmg : G.mg = mg) (hn : ∀ ds d, f ds = d → d ≠ .stuck → ds.length = n) (σ : L2.St) (H : Hp) (Q : VK) (q : tOf G (mCall f ms) σ H Q) : tOfA G ms σ H fun vs H1 => SpF mg G.tb n f vs H1 Q G.E := by
  obtain ⟨F, ls, L, o⟩ := q
  refine tOfA.frozen L o fun F1 H1 ls1 ds vs p1 L1 r1 o1 => ?_
  dsimp only at o1
  cases e : f ds with
  | stuck => rw [e] at o1; exact o1.elim
  | ok d =>
    rw [e] at o1
    refine ⟨F1, ds, hn ds _ e (fun z => nomatch z), r1, L1.there, L1.keep.tabs, ?_⟩
    rw [e]
    intro F2 H2 v c r
    exact o1 F2 H2 v c.le (L1.call c (fun _ z => z.elim) (fun _ _ _ _ _ _ z => z) (fun _ _ z => z) L1.there) (r.toX L1 c fun i d h c => ⟨d, h, c⟩)
  | exc x =>
    rw [e] at o1
    refine ⟨F1, ds, hn ds _ e (fun z => nomatch z), r1, L1.there, L1.keep.tabs, ?_⟩
    rw [e]
    intro H2 C h1 h2 h3 hx
    exact o1 H2 C ⟨fun a u e n t => h1 a u (L1.keep.all a u e n t) t, fun a z => L1.keep.dom a (h2 a z), h3⟩ (by rw [hmg]; exact hx)
theorem de_call {k : Nat} {f : Addr} {fd : FuncData} {ps : List Str} {fF : FD} {x : Str} {p pos : Pos} {ms : MA} {n : Nat} (hmg : G.mg = X.mg) (tk : L2N.Takes X (fun cls d _ H => G.E cls d H)) (hn : ∀ ds d, fF ds = d → d ≠ .stuck → ds.length = n)
    (Fn : FnOk X.prog X.w X.K X.mg X.base (L2N.CX X.prog X.w) k f fd ps (SpF X.mg G.tb n fF)) (hr : Room k X.A) (hg : Gl X x) (hm : X.mg x = some (.ref f)) (hk : PySem.W.keepIn X.K (.ref f) = true) (hb : Binds X.K fd ps []) (ha : DA X G (e :: es) ms)
    (hdb : (x == ("__debug__" : Str)) = false := by decide) (he : starEach (e :: es) X.env = (false, eval e X.env) :: starEach es X.env := by rfl) (hpl : (backTo pos (starEach es X.env)).any (·.1) = false := by rfl) :
    DE X G (.Call (.Name x p) (e :: es) [] pos) (mCall fF ms) :=
  pe_imp (pe_callS (E := fun _ => G.E) Fn hr hg hm hk hb (fun σ => L2N.passAt tk σ) ha hdb he hpl) (mCall_imp hmg hn)
/-- f(x, ..), x the i-th slot, changed by f -/
def mIO (f : FIO) (i : Nat) (ms : MA) : ME := fun ls => (var i ls).bind fun _ => (fz ms ls).bind fun q => match q.2[i]? with
  | some (some (.own c)) => (f c q.1).bind fun r => .ok (r.1, q.2.set i (some (.own r.2)))
  | some (some (.io c)) => (f c q.1).bind fun r => .ok (r.1, q.2.set i (some (.io r.2)))
  | _ => .stuck
theorem set_sub {i : Nat} {w : D → D} {d d' : D} (hw : w = .own ∨ w = .io) (e : ls[i]? = some (some (w d))) : ∀ (k : Nat) (x : D), (ls.set i (some (w d')))[k]? = some (some x) → Chg x → ∃ x', ls[k]? = some (some x') ∧ Chg x' := fun k x ek cx => by
  by_cases hj : i = k
  · subst hj; exact ⟨_, e, by rcases hw with rfl | rfl <;> trivial⟩
  · rw [List.getElem?_set_ne hj] at ek; exact ⟨x, ek, cx⟩
theorem mIO_imp {mg : Str → Option Value} {n i : Nat} {f : FIO} {ms : MA} (hn : ∀ c ds d, f c ds = d → d ≠ .stuck → ds.length = n) (hx : ∀ c ds x, f c ds ≠ .exc x) (σ : L2.St) (H : Hp) (Q : VK) (q : tOf G (mIO f i ms) σ H Q) : ∃ v, σ[i]? = some (some v) ∧ tOfA G ms σ H fun vs H1 => SpIO mg G.tb n f (v :: vs) H1 Q G.E := by
  obtain ⟨F, ls, L, o⟩ := q
  have fin : ∀ {w : D → D} {F1 : FS} {H1 : Hp} {ls1 : LS} {ds : List D} {vs : List V} {c : D} {v : V}, (w = .own ∨ w = .io) → LInv G F1 ls1 σ H1 → Reps F1 H1 ds vs → ls1[i]? = some (some (w c)) → σ[i]? = some (some v) →
      Out G ((f c ds).bind fun r => .ok (r.1, ls1.set i (some (w r.2)))) F1 σ H1 Q → SpIO mg G.tb n f (v :: vs) H1 Q G.E := fun {w F1 H1 ls1 ds vs c v} hw L1 r1 e1 hv o1 => by
    have cw : ∀ x, Chg (w x) := fun x => by rcases hw with rfl | rfl <;> trivial
    obtain ⟨u, h1, h2⟩ := L1.slot i _ e1
    rw [hv] at h1; cases h1
    obtain ⟨a, d', rfl, ed, m, nf⟩ := h2.at (cw c)
    have ec : c = d' := by
      rcases hw with rfl | rfl
      · rcases ed with ed | ed <;> cases ed <;> rfl
      · rcases ed with ed | ed <;> cases ed <;> rfl
    subst ec
    cases e : f c ds with
    | stuck => rw [e] at o1; exact o1.elim
    | exc x => exact absurd e (hx c ds x)
    | ok r =>
      obtain ⟨d, c'⟩ := r
      rw [e] at o1
      refine ⟨F1, c, ds, a, vs, rfl, hn c ds _ e (fun z => nomatch z), r1, L1.there, L1.keep.tabs, m, nf, ?_⟩
      rw [e]
      intro F2 H2 v cl m2 rq
      exact o1 F2 H2 v cl.le (L1.write hw e1 hv cl m2) (rq.toX L1 cl (set_sub hw e1))
  have hv : ∃ v, σ[i]? = some (some v) := by
    cases e : ls[i]? with
    | none => unfold mIO var at o; rw [e] at o; exact o.elim
    | some z =>
      cases z with
      | none => unfold mIO var at o; rw [e] at o; exact o.elim
      | some d => obtain ⟨v, h, _⟩ := L.slot i d e; exact ⟨v, h⟩
  obtain ⟨v, hv⟩ := hv
  refine ⟨v, hv, ?_⟩
  have o : Out G ((fz ms ls).bind fun q => match q.2[i]? with
    | some (some (.own c)) => (f c q.1).bind fun r => Res.ok (r.1, q.2.set i (some (.own r.2)))
    | some (some (.io c)) => (f c q.1).bind fun r => Res.ok (r.1, q.2.set i (some (.io r.2)))
    | _ => Res.stuck) F σ H Q := by
    unfold mIO at o
    cases e : var i ls with
    | stuck => rw [e] at o; exact o.elim
    | exc x =>
      exfalso
      unfold var at e
      split at e <;> cases e
    | ok p => rw [e] at o; exact o
  refine tOfA.frozen L o fun F1 H1 ls1 ds vs p1 L1 r1 o1 => ?_
  dsimp only at o1
  cases e : ls1[i]? with
  | none => rw [e] at o1; exact o1.elim
  | some z =>
    cases z with
    | none => rw [e] at o1; exact o1.elim
    | some d =>
      rw [e] at o1
      cases d with
      | own c => exact fin (.inl rfl) L1 r1 e hv o1
      | io c => exact fin (.inr rfl) L1 r1 e hv o1
      | _ => exact o1.elim
theorem de_io {k : Nat} {f : Addr} {fd : FuncData} {ps : List Str} {fF : FIO} {x y : Str} {p pos py : Pos} {ms : MA} {n i : Nat} (tk : L2N.Takes X (fun cls d _ H => G.E cls d H)) (hn : ∀ c ds d, fF c ds = d → d ≠ .stuck → ds.length = n) (hx : ∀ c ds x, fF c ds ≠ .exc x)
    (Fn : FnOk X.prog X.w X.K X.mg X.base (L2N.CX X.prog X.w) k f fd ps (SpIO X.mg G.tb n fF)) (hr : Room k X.A) (hg : Gl X x) (hm : X.mg x = some (.ref f)) (hk : PySem.W.keepIn X.K (.ref f) = true) (hb : Binds X.K fd ps []) (hv : PE X (.Name y py) (tVar i)) (ha : DA X G es ms)
    (hdb : (x == ("__debug__" : Str)) = false := by decide) (he : starEach (.Name y py :: es) X.env = (false, eval (.Name y py) X.env) :: starEach es X.env := by rfl) (hpl : (backTo pos (starEach es X.env)).any (·.1) = false := by rfl) :
    DE X G (.Call (.Name x p) (.Name y py :: es) [] pos) (mIO fF i ms) :=
  pe_imp (pe_callS (E := fun _ => G.E) Fn hr hg hm hk hb (fun σ => L2N.passAt tk σ) (pa_cons hv ha he) hdb he hpl) fun σ H Q q => mIO_imp (mg := X.mg) hn hx σ H Q q
end
end DL

end DLh
section DLi
set_option Elab.async false
set_option linter.all false
set_option autoImplicit false
set_option maxRecDepth 100000
namespace DL
open PySem PySem.Spec PyProof.Rows L2

/-! ### a def by its body -/
def retC : D → Option D
  | .io _ => none
  | .bor _ => none
  | d => some d
def retD (ls : LS) : D → Option D
  | .bor i => (ls[i]?).bind fun o => o.bind retC
  | .io _ => none
  | d => some d
def fin : Fl → Res D
  | .nx _ => .ok .non
  | .rt d ls => opt (retD ls d)
  | .exc x => .exc x
  | _ => .stuck
def startD (n : Nat) (ds : List D) : LS := ds.map some ++ List.replicate (n - ds.length) none
section
variable {F F' : FS} {H H' : Hp} {G : Gh} {ls : LS} {σ : L2.St}
theorem Reps.get : ∀ {ds : List D} {vs : List V} {i : Nat} {d : D}, Reps F H ds vs → ds[i]? = some d → ∃ v, vs[i]? = some v ∧ Rep F H d v
  | _, _, i, d, .nil, e => by simp at e
  | _, _, 0, d, .cons r _, e => by cases e; exact ⟨_, rfl, r⟩
  | _, _, i + 1, d, .cons _ rs, e => Reps.get (i := i) rs e
theorem start_get {ds : List D} {n i : Nat} {d : D} (e : (startD n ds)[i]? = some (some d)) : ds[i]? = some d := by
  unfold startD at e
  by_cases h : i < ds.length
  · rw [List.getElem?_append_left (by rw [List.length_map]; exact h), List.getElem?_map] at e
    cases q : ds[i]? with
    | none => rw [q] at e; cases e
    | some x => rw [q] at e; cases e; rfl
  · rw [List.getElem?_append_right (by rw [List.length_map]; omega), List.getElem?_replicate] at e
    split at e <;> cases e
theorem startV_get {vs : List V} {N : List Str} {i : Nat} {v : V} (e : vs[i]? = some v) : (L2.start N vs)[i]? = some (some v) := by
  have hl := (List.getElem?_eq_some_iff.mp e).1
  unfold L2.start
  rw [List.getElem?_append_left (by rw [List.length_map]; exact hl), List.getElem?_map, e] <;> rfl
theorem Rep.notChg {d : D} {v : V} (r : Rep F H d v) : ¬ Chg d := by cases r <;> exact fun z => z
theorem Rep.toS {d : D} {v : V} (r : Rep F H d v) : RepS G F H d v := by
  cases d with
  | own d => cases r
  | io d => cases r
  | bor j => cases r
  | non => exact r
  | bl => exact r
  | int => exact r
  | str => exact r
  | ref => exact r
  | tup => exact r
  | lst => exact r
  | scr => exact r
  | dct => exact r
  | ins => cases r
theorem inv_begin {mg : Str → Option Value} {E : XK} {tb : List (Addr × Str)} {F : FS} {H : Hp} {ds : List D} {vs : List V} {N : List Str} (r : Reps F H ds vs) (th : ∀ a, F a → ¬ Nw H a) (ht : LamX.Tabs tb H) :
    LInv ⟨[], H, F, none', mg, E, tb⟩ F (startD N.length ds) (L2.start N vs) H where
  keep := ⟨fun a o e _ _ => e, fun a e => e, ht⟩
  slot := fun i d e => by
    obtain ⟨v, h1, h2⟩ := r.get (start_get e)
    exact ⟨v, startV_get h1, h2.toS⟩
  apart := fun i j d d' v _ e _ c => by
    obtain ⟨v, h1, h2⟩ := r.get (start_get e)
    exact absurd c h2.notChg
  there := th
  fnew := fun a f => .inl f
  len := by
    unfold startD L2.start
    rw [List.length_append, List.length_append, List.length_map, List.length_map, List.length_replicate, List.length_replicate, r.length]
  pin := fun p hp => nomatch hp
theorem inv_beginIO {mg : Str → Option Value} {E : XK} {tb : List (Addr × Str)} {F : FS} {H : Hp} {c : D} {a : Addr} {ds : List D} {vs : List V} {N : List Str} (m : RepM F H c (.ref a)) (nf : ¬ F a) (r : Reps F H ds vs) (th : ∀ a, F a → ¬ Nw H a) (ht : LamX.Tabs tb H) :
    LInv ⟨[], H, F, fun b => b = a, mg, E, tb⟩ F (startD N.length (.io c :: ds)) (L2.start N (.ref a :: vs)) H where
  keep := ⟨fun a o e _ _ => e, fun a e => e, ht⟩
  slot := fun i d e => by
    have e := start_get e
    cases i with
    | zero => cases e; exact ⟨_, startV_get (i := 0) rfl, m, a, rfl, nf, rfl⟩
    | succ i =>
      obtain ⟨v, h1, h2⟩ := r.get (i := i) e
      exact ⟨v, startV_get (i := i + 1) h1, h2.toS⟩
  apart := fun i j d d' v ne e1 e2 c1 c2 => by
    have e1 := start_get e1
    have e2 := start_get e2
    cases i with
    | zero =>
      cases j with
      | zero => exact absurd rfl ne
      | succ j =>
        obtain ⟨v, h1, h2⟩ := r.get (i := j) e2
        exact absurd c2 h2.notChg
    | succ i =>
      obtain ⟨v, h1, h2⟩ := r.get (i := i) e1
      exact absurd c1 h2.notChg
  there := th
  fnew := fun a f => .inl f
  len := by
    unfold startD L2.start
    rw [List.length_append, List.length_append, List.length_map, List.length_map, List.length_replicate, List.length_replicate, List.length_cons, List.length_cons, r.length]
  pin := fun p hp => nomatch hp
theorem RepX.toQ {H0 : Hp} {F0 I0 : FS} {mg : Str → Option Value} {E : XK} {tb : List (Addr × Str)} {d d' : D} {v : V} (L : LInv ⟨[], H0, F0, I0, mg, E, tb⟩ F ls σ H) (r : RepX ⟨[], H0, F0, I0, mg, E, tb⟩ F H ls σ d v) (e : retD ls d = some d') : RepQ F H0 H d' v := by
  cases d with
  | bor i =>
    have e : (ls[i]?).bind (fun o => o.bind retC) = some d' := e
    obtain ⟨h, x, e1, c⟩ := r
    rw [e1] at e
    obtain ⟨u, h1, h2⟩ := L.slot i x e1
    rw [h] at h1; cases h1
    cases x with
    | own x => cases e; obtain ⟨m, a, e2, nf, h0⟩ := h2; exact ⟨m, a, e2, nf, h0⟩
    | io x => cases e
    | _ => exact c.elim
  | own d => cases e; exact ⟨r.1, by obtain ⟨a, e2, nf, h0⟩ := r.2.1; exact ⟨a, e2, nf, h0⟩⟩
  | io d => exact r.elim
  | non => cases e; exact r
  | bl => cases e; exact r
  | int => cases e; exact r
  | str => cases e; exact r
  | ref => cases e; exact r
  | tup => cases e; exact r
  | lst => cases e; exact r
  | scr => cases e; exact r
  | dct => cases e; exact r
  | ins => cases e; exact r
theorem LInv.callLe {H0 : Hp} {F0 I0 : FS} {mg : Str → Option Value} {E : XK} {tb : List (Addr × Str)} (p : Le F0 H0 F H) (L : LInv ⟨[], H0, F0, I0, mg, E, tb⟩ F ls σ H) : CallLe tb I0 F0 H0 F H :=
  ⟨p, fun a o e n t => L.keep.all a o e n t, L.keep.dom, L.fnew, L.there, L.keep.tabs⟩
end

section
variable {P : Program} {w : World} {K : PySem.W.Frag} {mg : Str → Option Value} {tb : List (Addr × Str)} {base : Heap} {x qual : Str} {st : Stmt} {f : Addr} {fd : FuncData} {N ps : List Str} {k : Nat}
theorem Fun.okN {sp : Sp} (F : Fun K x qual st f fd) (S : FnScope N ps (defScope st)) (len : ∀ vs H Q E, sp vs H Q E → vs.length = ps.length)
    (hbody : ∀ (cdv : Value) (A : Around) (outer : List Env) (s : Shared) (H : Hp) (vs : List V) (Q : VK) (E : XK), Room k (A.deeper (envOfC qual (defScope st) s.heap.objs.size f cdv)) → sp vs H Q E →
      ∃ t, PSs (cxOf (L2N.CX P w) P w K mg base N qual (defScope st) f cdv A outer s H E) (defBody st) t ∧ t { nx := fun _ H' => Q .non H', rt := Q } (start N vs) H) : FnOk P w K mg base (L2N.CX P w) (k + 1) f fd ps sp := by
  obtain ⟨oc, od, kV, doc, pm, an, cdv, ct, osl, rfl, lk, hcd⟩ := F.ex
  exact fn_of lk hcd S len fun A outer s H vs Q E hr hsp => hbody cdv A outer s H vs Q E hr hsp
theorem okF {body : MS} {fD : FD} (Fn : Fun K x qual st f fd) (S : FnScope N ps (defScope st))
    (hb : ∀ (cdv : Value) (A : Around) (outer : List Env) (s : Shared) (H : Hp) (E : XK) (G : Gh), Room k (A.deeper (envOfC qual (defScope st) s.heap.objs.size f cdv)) → G.mg = mg → G.tb = tb →
      L2N.Takes (cxOf (L2N.CX P w) P w K mg base N qual (defScope st) f cdv A outer s H E) (fun cls d _ H => G.E cls d H) →
      PassesOwn (model P w) (A.deeper (envOfC qual (defScope st) s.heap.objs.size f cdv)) (envOfC qual (defScope st) s.heap.objs.size f cdv) (cxOf (L2N.CX P w) P w K mg base N qual (defScope st) f cdv A outer s H E).xe →
      DSs (cxOf (L2N.CX P w) P w K mg base N qual (defScope st) f cdv A outer s H E) G (defBody st) body)
    (hD : ∀ ds, ds.length = ps.length → fD ds ≠ .stuck → fin (body (startD N.length ds)) = fD ds) : FnOk P w K mg base (L2N.CX P w) (k + 1) f fd ps (SpF mg tb ps.length fD) := by
  refine Fun.okN Fn S (fun vs H Q E h => ?_) (fun cdv A outer s H vs Q E hr h => ?_)
  · obtain ⟨F, ds, hl, r, _⟩ := h
    rw [← r.length]; exact hl
  · obtain ⟨F, ds, hl, r, th, ht, e⟩ := h
    refine ⟨_, hb cdv A outer s H E ⟨[], H, F, none', mg, E, tb⟩ hr rfl rfl (L2N.takes_of rfl rfl rfl rfl) (passes_of (X := cxOf (L2N.CX P w) P w K mg base N qual (defScope st) f cdv A outer s H E) rfl), F, startD N.length ds, inv_begin r th ht, ?_⟩
    have q := hD ds hl (fun z => by rw [z] at e; exact e)
    rw [← q] at e
    revert e
    cases body (startD N.length ds) with
    | nx ls => exact fun e F' σ' H' p L => e F' H' .non (L.callLe p) .non
    | bk ls => exact fun e => e.elim
    | ct ls => exact fun e => e.elim
    | rt d ls =>
      intro e F' σ' H' v p L rx
      have e' : match (opt (retD ls d) : Res D) with
        | .ok d => ∀ F' H' v, CallLe tb none' F H F' H' → RepQ F' H H' d v → Q v H'
        | .exc x => ∀ H' C, (∀ a o, H a = some o → (∀ ps, o ≠ .tbl ps) → H' a = some o) → (∀ a, Nw H' a → Nw H a) → LamX.Tabs tb H' → mg x = some (.ref C) → E (.ref C) none H'
        | .stuck => False := e
      cases er : retD ls d with
      | some d2 => rw [er] at e'; exact e' F' H' v (L.callLe p) (rx.toQ L er)
      | none => rw [er] at e'; exact e'.elim
    | exc y => exact fun e H' C kp hC => e H' C (fun a o ea t => kp.all a o ea (fun z => z) t) kp.dom kp.tabs hC
    | stuck => exact fun e => e.elim
/-- how a def that changes its first argument ends -/
def ioC (ls : LS) : Option D := (ls[0]?).bind fun o => o.bind fun d => match d with
  | .io c => some c
  | _ => none
def finIO : Fl → Res (D × D)
  | .nx ls => (opt (ioC ls)).bind fun c => .ok (.non, c)
  | .rt d ls => (opt (ioC ls)).bind fun c => (opt (retD ls d)).bind fun d => .ok (d, c)
  | _ => .stuck
theorem ioC_of {ls : LS} {c : D} (e : ioC ls = some c) : ls[0]? = some (some (.io c)) := by
  unfold ioC at e
  cases q : ls[0]? with
  | none => rw [q] at e; cases e
  | some o =>
    cases o with
    | none => rw [q] at e; cases e
    | some d => rw [q] at e; cases d <;> cases e; rfl
theorem okIO {n : Nat} {body : MS} {fD : FIO} (Fn : Fun K x qual st f fd) (S : FnScope N ps (defScope st)) (hps : ps.length = n + 1)
    (hb : ∀ (cdv : Value) (A : Around) (outer : List Env) (s : Shared) (H : Hp) (E : XK) (G : Gh), Room k (A.deeper (envOfC qual (defScope st) s.heap.objs.size f cdv)) → G.mg = mg → G.tb = tb →
      L2N.Takes (cxOf (L2N.CX P w) P w K mg base N qual (defScope st) f cdv A outer s H E) (fun cls d _ H => G.E cls d H) →
      PassesOwn (model P w) (A.deeper (envOfC qual (defScope st) s.heap.objs.size f cdv)) (envOfC qual (defScope st) s.heap.objs.size f cdv) (cxOf (L2N.CX P w) P w K mg base N qual (defScope st) f cdv A outer s H E).xe →
      DSs (cxOf (L2N.CX P w) P w K mg base N qual (defScope st) f cdv A outer s H E) G (defBody st) body)
    (hD : ∀ c ds, ds.length = n → fD c ds ≠ .stuck → finIO (body (startD N.length (.io c :: ds))) = fD c ds) : FnOk P w K mg base (L2N.CX P w) (k + 1) f fd ps (SpIO mg tb n fD) := by
  refine Fun.okN Fn S (fun vs H Q E h => ?_) (fun cdv A outer s H vs Q E hr h => ?_)
  · obtain ⟨F, c, ds, a, us, rfl, hl, r, _⟩ := h
    rw [List.length_cons, ← r.length, hl, hps]
  · obtain ⟨F, c, ds, a, us, rfl, hl, r, th, ht, m, nf, e⟩ := h
    refine ⟨_, hb cdv A outer s H E ⟨[], H, F, fun b => b = a, mg, E, tb⟩ hr rfl rfl (L2N.takes_of rfl rfl rfl rfl) (passes_of (X := cxOf (L2N.CX P w) P w K mg base N qual (defScope st) f cdv A outer s H E) rfl), F, startD N.length (.io c :: ds), inv_beginIO m nf r th ht, ?_⟩
    have q := hD c ds hl (fun z => by rw [z] at e; exact e)
    rw [← q] at e
    have io : ∀ {F' : FS} {H' : Hp} {ls : LS} {σ' : L2.St} {c' : D}, LInv ⟨[], H, F, fun b => b = a, mg, E, tb⟩ F' ls σ' H' → ioC ls = some c' → RepM F' H' c' (.ref a) := fun L ec => by
      obtain ⟨v, h1, m', b, rfl, nf, h0⟩ := L.slot 0 _ (ioC_of ec)
      have h0 : b = a := h0
      subst h0; exact m'
    revert e
    cases body (startD N.length (.io c :: ds)) with
    | nx ls =>
      intro e F' σ' H' p L
      rw [show finIO (.nx ls) = (opt (ioC ls)).bind fun c => .ok (.non, c) from rfl] at e
      cases ec : ioC ls with
      | none => rw [ec] at e; exact e.elim
      | some c' => rw [ec] at e; exact e F' H' .non (L.callLe p) (io L ec) .non
    | bk ls => exact fun e => e.elim
    | ct ls => exact fun e => e.elim
    | rt d ls =>
      intro e F' σ' H' v p L rx
      rw [show finIO (.rt d ls) = (opt (ioC ls)).bind fun c => (opt (retD ls d)).bind fun d => .ok (d, c) from rfl] at e
      cases ec : ioC ls with
      | none => rw [ec] at e; exact e.elim
      | some c' =>
        cases er : retD ls d with
        | none => rw [ec, er] at e; exact e.elim
        | some d2 => rw [ec, er] at e; exact e F' H' v (L.callLe p) (io L ec) (rx.toQ L er)
    | exc y => exact fun e => e.elim
    | stuck => exact fun e => e.elim
end
end DL

end DLi
section DLj
set_option Elab.async false
set_option linter.all false
set_option autoImplicit false
set_option maxRecDepth 100000
namespace DL
open PySem PySem.Spec PyProof.Rows L2

/-! ### list comprehensions -/
def wipeL (ls : LS) : List Nat → LS
  | [] => ls
  | v :: vs => (wipeL ls vs).set v none
/-- what a slot held is held again, where it is frozen -/
def keepD : Option (Option D) → Option D
  | some (some (.own _)) => none
  | some (some (.io _)) => none
  | some (some (.bor _)) => none
  | some o => o
  | none => none
def backL (ls0 ls1 : LS) : List Nat → LS
  | [] => ls1
  | v :: vs => (backL ls0 ls1 vs).set v (keepD ls0[v]?)
def Res.get? {α : Type} : Res α → Option α
  | .ok x => some x
  | _ => none
def frzv (m : ME) : ME := fun ls => (val m ls).bind fun p => opt (frz p.2 p.1)
def compL (g : MG) (t : MT) (e : ME) (vs : List Nat) : List D → LS → Option (List D × LS)
  | [], ls => some ([], ls)
  | d :: ds, ls => (g d ls).bind fun ls1 => ((t ls1).get?).bind fun p =>
    if p.1 then ((frzv e p.2).get?).bind fun q => (compL g t e vs ds (wipeL q.2 vs)).bind fun r => some (q.1 :: r.1, r.2)
    else compL g t e vs ds (wipeL p.2 vs)
def mComp (mi : MI) (g : MG) (t : MT) (e : ME) (vs : List Nat) : ME := fun ls => (mi ls).bind fun q =>
  (opt (compL g t e vs q.1 (wipeL q.2 vs))).bind fun r => if r.1.length ≤ sizeLine then .ok (.own (.lst r.1), backL q.2 r.2 vs) else .stuck
abbrev Gb (G : Gh) (T : List (D × Addr)) : Gh := { G with T := T, E := fun _ _ _ => False }
section
variable {X : Cx} {G : Gh} {F F' : FS} {H H' : Hp} {ls ls0 : LS} {σ σ' : L2.St}
theorem wipe_out' {vs : List Nat} {i : Nat} (h : i ∉ vs) : (wipe σ vs)[i]? = σ[i]? := by
  induction vs with
  | nil => rfl
  | cons v vs ih =>
    unfold wipe
    rw [List.getElem?_set_ne fun z => h (by rw [z]; exact List.mem_cons_self)]
    exact ih fun z => h (List.mem_cons_of_mem _ z)
theorem wipeL_len (vs : List Nat) : (wipeL ls vs).length = ls.length := by
  induction vs with
  | nil => rfl
  | cons v vs ih => unfold wipeL; rw [List.length_set, ih]
theorem backL_len (vs : List Nat) : (backL ls0 ls vs).length = ls.length := by
  induction vs with
  | nil => rfl
  | cons v vs ih => unfold backL; rw [List.length_set, ih]
theorem wipeL_some {vs : List Nat} {i : Nat} {d : D} (h : (wipeL ls vs)[i]? = some (some d)) : ls[i]? = some (some d) ∧ i ∉ vs := by
  induction vs with
  | nil => exact ⟨h, by simp⟩
  | cons v vs ih =>
    unfold wipeL at h
    by_cases hi : v = i
    · subst hi
      by_cases hv : v < (wipeL ls vs).length
      · rw [List.getElem?_set_self hv] at h; cases h
      · rw [List.getElem?_eq_none (by simpa using hv)] at h; cases h
    · rw [List.getElem?_set_ne hi] at h
      obtain ⟨h1, h2⟩ := ih h
      exact ⟨h1, fun z => by
        rcases List.mem_cons.mp z with z | z
        · exact hi z.symm
        · exact h2 z⟩
theorem backL_some {vs : List Nat} {i : Nat} {d : D} (h : (backL ls0 ls vs)[i]? = some (some d)) : (i ∉ vs ∧ ls[i]? = some (some d)) ∨ (keepD ls0[i]? = some d) := by
  induction vs with
  | nil => exact .inl ⟨by simp, h⟩
  | cons v vs ih =>
    unfold backL at h
    by_cases hi : v = i
    · subst hi
      by_cases hv : v < (backL ls0 ls vs).length
      · rw [List.getElem?_set_self hv] at h; exact .inr (Option.some.inj h)
      · rw [List.getElem?_eq_none (by simpa using hv)] at h; cases h
    · rw [List.getElem?_set_ne hi] at h
      rcases ih h with ⟨h1, h2⟩ | h
      · exact .inl ⟨fun z => by
          rcases List.mem_cons.mp z with z | z
          · exact hi z.symm
          · exact h1 z, h2⟩
      · exact .inr h
theorem keepD_some {o : Option (Option D)} {d : D} (h : keepD o = some d) : o = some (some d) ∧ ¬ Chg d ∧ ∀ i, d ≠ .bor i := by
  cases o with
  | none => cases h
  | some o =>
    cases o with
    | none => cases h
    | some x => cases x <;> cases h <;> exact ⟨rfl, fun z => z, fun _ z => nomatch z⟩
theorem LInv.wipe (L : LInv G F ls σ H) (vs : List Nat) : LInv G F (wipeL ls vs) (L2.wipe σ vs) H where
  keep := L.keep
  slot := fun i d e => by
    obtain ⟨e1, hv⟩ := wipeL_some e
    rw [wipe_out' hv]
    exact L.slot i d e1
  apart := fun i j d d' v ne e1 e2 c1 c2 => by
    obtain ⟨e1, h1⟩ := wipeL_some e1
    obtain ⟨e2, h2⟩ := wipeL_some e2
    rw [wipe_out' h1, wipe_out' h2]
    exact L.apart i j d d' v ne e1 e2 c1 c2
  there := L.there
  fnew := L.fnew
  len := by rw [wipeL_len, wipe_length]; exact L.len
  pin := fun p hp => by
    obtain ⟨m, nf, h0, q⟩ := L.pin p hp
    refine ⟨m, nf, h0, fun i d e c => ?_⟩
    obtain ⟨e1, hv⟩ := wipeL_some e
    rw [wipe_out' hv]
    exact q i d e1 c
/-- behind the block the outer names are what they were -/
theorem LInv.unwipe {G0 : Gh} {F0 : FS} {H0 : Hp} {vs : List Nat} (L0 : LInv G0 F0 ls0 σ H0) (p : Le F0 H0 F H) (L : LInv G F ls (L2.wipe σ vs) H) : LInv G F (backL ls0 ls vs) σ H := by
  have chg : ∀ {i : Nat} {d : D}, (backL ls0 ls vs)[i]? = some (some d) → Chg d → i ∉ vs ∧ ls[i]? = some (some d) := fun {i d} e c => by
    rcases backL_some e with h | h
    · exact h
    · exact absurd c (keepD_some h).2.1
  refine ⟨L.keep, fun i d e => ?_, fun i j d d' v ne e1 e2 c1 c2 => ?_, L.there, L.fnew, ?_, fun q hq => ?_⟩
  · rcases backL_some e with ⟨h1, h2⟩ | h
    · have := L.slot i d h2
      rw [wipe_out' h1] at this; exact this
    · obtain ⟨h1, h2, h3⟩ := keepD_some h
      obtain ⟨v, g1, g2⟩ := L0.slot i d h1
      refine ⟨v, g1, ?_⟩
      cases d with
      | own d => exact absurd trivial h2
      | io d => exact absurd trivial h2
      | bor j => exact absurd rfl (h3 j)
      | non => exact Rep.le p g2
      | bl => exact Rep.le p g2
      | int => exact Rep.le p g2
      | str => exact Rep.le p g2
      | ref => exact Rep.le p g2
      | tup => exact Rep.le p g2
      | lst => exact Rep.le p g2
      | scr => exact Rep.le p g2
      | dct => exact Rep.le p g2
      | ins => cases (show Rep F0 H0 _ _ from g2)
  · obtain ⟨h1, g1⟩ := chg e1 c1
    obtain ⟨h2, g2⟩ := chg e2 c2
    have := L.apart i j d d' v ne g1 g2 c1 c2
    rw [wipe_out' h1, wipe_out' h2] at this; exact this
  · rw [backL_len]
    have := L.len
    rw [wipe_length] at this; exact this
  · obtain ⟨m, nf, h0, z⟩ := L.pin q hq
    refine ⟨m, nf, h0, fun i d e c => ?_⟩
    obtain ⟨h1, g1⟩ := chg e c
    have := z i d g1 c
    rw [wipe_out' h1] at this; exact this
/-- a pinned thing is written -/
theorem LInv.pinwrite {T : List (D × Addr)} {d d' : D} {a : Addr} (L : LInv (G.at' ((d, a) :: T)) F ls σ H) (nt : ∀ p ∈ T, p.2 ≠ a) (c : CallLe G.tb (fun b => b = a) F H F' H') (m : RepM F' H' d' (.ref a)) : LInv (G.at' ((d', a) :: T)) F' ls σ H' := by
  obtain ⟨m0, nf0, h00, q0⟩ := L.pin (d, a) List.mem_cons_self
  have Lt : LInv (G.at' T) F ls σ H := ⟨⟨L.keep.all, L.keep.dom, L.keep.tabs⟩, L.slot, L.apart, L.there, L.fnew, L.len, fun p hp => L.pin p (List.mem_cons_of_mem _ hp)⟩
  have L1 : LInv (G.at' T) F' ls σ H' := Lt.call c (fun b z => by subst z; exact .inr h00) (fun i dj b ej cj hj z => by subst z; exact q0 i dj ej cj hj) (fun p hp z => nt p hp z) L.there
  refine ⟨⟨L1.keep.all, L1.keep.dom, L1.keep.tabs⟩, L1.slot, L1.apart, L1.there, L1.fnew, L1.len, fun p hp => ?_⟩
  rcases List.mem_cons.mp hp with rfl | hp
  · refine ⟨m, fun z => ?_, h00, q0⟩
    rcases c.new _ z with z | z
    · exact nf0 z
    · exact m0.nw z
  · exact L1.pin p hp
theorem callLe_upd {tb : List (Addr × Str)} (ht : LamX.Tabs tb H) {d : D} {a : Addr} {o' : HO} (th : ∀ b, F b → ¬ Nw H b) (m : RepM F H d (.ref a)) (nf : ¬ F a) (no : ∀ ps, o' ≠ .tbl ps := by exact fun _ z => nomatch z) : CallLe tb (fun b => b = a) F H F (upd H a o') := by
  obtain ⟨u, hu, nt⟩ := m.notbl
  have ntup : ∀ vs, H a ≠ some (.tup vs) := fun vs h => by
    cases d with
    | lst xs => obtain ⟨b, ws, e, h', q⟩ := m; cases e; rw [h'] at h; cases h
    | dct kvs =>
      obtain ⟨b, e, h'⟩ := m
      cases e
      rcases h' with ⟨ks, h', q⟩ | ⟨ks, h', q⟩ <;> (rw [h'] at h; cases h)
    | ins C fs => obtain ⟨b, dx, ws, e, h', q⟩ := m; cases e; rw [h'] at h; cases h
    | _ => exact m.elim
  refine ⟨⟨fun _ h => h, ⟨fun b vs h => ?_, fun b w f e => ?_⟩⟩, fun b w e n _ => by rw [upd_ne n]; exact e, fun b e => ?_, fun b f => .inl f, fun b f => ?_, fun p hp => ?_⟩
  · have hb : b ≠ a := fun z => by subst z; exact ntup vs h
    rw [upd_ne hb]; exact h
  · rw [upd_ne fun z => nf (by rw [← z]; exact f)]; exact e
  · by_cases hb : b = a
    · subst hb; obtain ⟨ps, z⟩ := e o' upd_same; exact absurd z (no ps)
    · exact fun o h => e o (by rw [upd_ne hb]; exact h)
  · by_cases hb : b = a
    · subst hb; exact absurd f nf
    · exact fun n => th b f fun o h => n o (by rw [upd_ne hb]; exact h)
  · obtain ⟨ps, h1, h2, h3⟩ := ht p hp
    refine ⟨ps, by rw [upd_ne fun z => nt ps (by rw [← z, h1] at hu; exact (Option.some.inj hu).symm)]; exact h1, h2, fun pos cv hc => ?_⟩
    obtain ⟨c, e1, e2⟩ := h3 pos cv hc
    refine ⟨c, e1, ?_⟩
    rw [upd_ne fun z => ?_]; exact e2
    subst z
    cases d with
    | lst xs => obtain ⟨b, ws, e, h', q⟩ := m; cases e; rw [h'] at e2; cases e2
    | dct kvs =>
      obtain ⟨b, e, h'⟩ := m
      cases e
      rcases h' with ⟨ks, h', q⟩ | ⟨ks, h', q⟩ <;> (rw [h'] at e2; cases e2)
    | ins C fs => obtain ⟨b, dx, ws, e, h', q⟩ := m; cases e; rw [h'] at e2; cases e2
    | _ => exact m.elim
theorem RepP.toX {d : D} {v : V} (L : LInv G F ls σ H) (r : RepP F H H' d v) : RepX G F H' ls σ d v := by
  cases d with
  | own d =>
    obtain ⟨m, a, e, n⟩ := r
    refine ⟨m, ⟨a, e, fun f => L.there a f (.of n), L.keep.dom a (.of n)⟩, fun i d' e1 c q => ?_, fun p hp z => ?_⟩
    · obtain ⟨u, h1, h2⟩ := L.slot i d' e1
      obtain ⟨b, d2, e2, _, m2, _⟩ := h2.at c
      rw [h1] at q; cases q; rw [e2] at e; cases e
      exact m2.there n
    · rw [e] at z; cases z
      exact (L.pin p hp).1.there n
  | io d => exact r.elim
  | bor i => exact r.elim
  | non => exact r
  | bl => exact r
  | int => exact r
  | str => exact r
  | ref => exact r
  | tup => exact r
  | lst => exact r
  | scr => exact r
  | dct => exact r
  | ins => exact r
theorem wipe_in {vs : List Nat} {i : Nat} (h : i ∈ vs) : (wipe σ vs)[i]? = if i < σ.length then some none else none := by
  induction vs with
  | nil => cases h
  | cons v vs ih =>
    unfold wipe
    by_cases hi : v = i
    · subst hi
      by_cases hl : v < σ.length
      · rw [List.getElem?_set_self (by rw [wipe_length]; exact hl), if_pos hl]
      · rw [List.getElem?_eq_none (by rw [List.length_set, wipe_length]; omega), if_neg hl]
    · rw [List.getElem?_set_ne hi]
      rcases List.mem_cons.mp h with z | z
      · exact absurd z.symm hi
      · exact ih z
theorem wipe_but {ks vs : List Nat} (hk : ∀ k ∈ ks, k ∈ vs) (b : But ks (wipe σ vs) σ') : wipe σ' vs = wipe σ vs := by
  have hl : σ'.length = σ.length := by rw [b.1, wipe_length]
  refine List.ext_getElem? fun i => ?_
  by_cases h : i ∈ vs
  · rw [wipe_in h, wipe_in h, hl]
  · rw [wipe_out' h, b.2 i (fun z => h (hk i z))]
theorem Reps.append : ∀ {ds es : List D} {vs us : List V}, Reps F H ds vs → Reps F H es us → Reps F H (ds ++ es) (vs ++ us)
  | _, _, _, _, .nil, r => r
  | _, _, _, _, .cons q qs, r => .cons q (Reps.append qs r)
theorem frzv_imp {m : ME} {x : D} {ls' : LS} {Q' : VK} (L : LInv G F ls σ H) (e : frzv m ls = .ok (x, ls')) (h : ∀ F1 H1 v, Le F H F1 H1 → LInv G F1 ls' σ H1 → Rep F1 H1 x v → Q' v H1) : tOf G m σ H Q' := by
  refine ⟨F, ls, L, ?_⟩
  unfold frzv val at e
  revert e
  cases m ls with
  | exc x => exact fun e => nomatch e
  | stuck => exact fun e => nomatch e
  | ok p =>
    obtain ⟨d, ls1⟩ := p
    intro e F1 H1 v p1 L1 r
    have e : ((opt (stl d)).bind fun x => Res.ok (x, ls1)).bind (fun p => opt (frz p.2 p.1)) = .ok (x, ls') := e
    cases e1 : stl d with
    | none => rw [e1] at e; cases e
    | some y =>
      rw [e1] at e
      have e : opt (frz ls1 y) = .ok (x, ls') := e
      cases e2 : frz ls1 y with
      | none => rw [e2] at e; cases e
      | some z =>
        rw [e2] at e; cases e
        obtain ⟨F2, p2, L2, r2⟩ := settle L1 r e1
        obtain ⟨F3, p3, L3, r3⟩ := frz_ok L2 r2 e2
        exact h F3 H1 v ((p1.trans p2).trans p3) L3 r3 |> fun q => q
theorem get?_some {α : Type} {r : Res α} {x : α} (h : r.get? = some x) : r = .ok x := by
  cases r with
  | ok y => cases h; rfl
  | exc y => cases h
  | stuck => cases h
def gAny (G : Gh) (g : MG) (ks : List Nat) : TG := fun v σ H Q => ∃ T, tOfG (Gb G T) g ks v σ H Q
def tAny (G : Gh) (t : MT) : TT := fun σ H Q => ∃ T, tOfT (Gb G T) t σ H Q
def eAny (G : Gh) (m : ME) : TE := fun σ H Q => ∃ T, tOf (Gb G T) m σ H Q
theorem LInv.gb {T : List (D × Addr)} (L : LInv (G.at' T) F ls σ H) : LInv (Gb G T) F ls σ H := ⟨⟨L.keep.all, L.keep.dom, L.keep.tabs⟩, L.slot, L.apart, L.there, L.fnew, L.len, L.pin⟩
theorem LInv.ungb {T : List (D × Addr)} (L : LInv (Gb G T) F ls σ H) : LInv (G.at' T) F ls σ H := ⟨⟨L.keep.all, L.keep.dom, L.keep.tabs⟩, L.slot, L.apart, L.there, L.fnew, L.len, L.pin⟩
theorem mComp_imp {mi : MI} {g : MG} {t : MT} {e : ME} {ks vs : List Nat} (hk : ∀ k ∈ ks, k ∈ vs) (σ : L2.St) (H : Hp) (Q : VK) (q : tOf G (mComp mi g t e vs) σ H Q) : tLc (tOfI G mi) (gAny G g ks) (tAny G t) (eAny G e) vs σ H Q := by
  obtain ⟨F, ls, L, o⟩ := q
  refine ⟨F, ls, L, ?_⟩
  unfold mComp at o
  revert o
  cases mi ls with
  | exc x => exact fun o => o
  | stuck => exact fun o => o
  | ok q =>
    obtain ⟨ds, ls1⟩ := q
    intro o F1 H1 J p1 L1 it P hP
    have o : Out G ((opt (compL g t e vs ds (wipeL ls1 vs))).bind fun r => if r.1.length ≤ sizeLine then .ok (.own (.lst r.1), backL ls1 r.2 vs) else .stuck) F σ H Q := o
    cases ec : compL g t e vs ds (wipeL ls1 vs) with
    | none => rw [ec] at o; exact o.elim
    | some r =>
      obtain ⟨xs, lsE⟩ := r
      rw [ec] at o
      have o : Out G (if xs.length ≤ sizeLine then Res.ok (D.own (.lst xs), backL ls1 lsE vs) else .stuck) F σ H Q := o
      have hsz : xs.length ≤ sizeLine := by
        by_cases h : xs.length ≤ sizeLine
        · exact h
        · rw [if_neg h] at o; exact o.elim
      rw [if_pos hsz] at o
      have nP : ∀ p ∈ G.T, p.2 ≠ P := fun p hp z => (L1.pin p hp).1.there (by rw [z]; exact hP)
      have s0 : Same H1 (upd H1 P (.lst [])) := same_upd hP
      have L0 : LInv (G.at' ((.lst [], P) :: G.T)) F1 ls1 σ (upd H1 P (.lst [])) :=
        (L1.same s0).topin (RepP.toX L1 ⟨⟨P, [], rfl, upd_same, .nil⟩, P, rfl, hP⟩)
      refine ⟨fun i m H' => m = ds.length - i ∧ i ≤ ds.length ∧ ∃ F' ls' acc rest, Le F1 H1 F' H' ∧ LInv (G.at' ((.lst acc, P) :: G.T)) F' ls' (wipe σ vs) H' ∧ compL g t e vs (ds.drop i) ls' = some (rest, lsE) ∧ acc ++ rest = xs,
        ⟨ds.length, by simp, Nat.zero_le _, F1, wipeL ls1 vs, [], xs, Le.same s0, L0.wipe vs, ec, rfl⟩, ?_⟩
      rintro i m H2 ⟨rfl, hi, F2, ls2, acc, rest, p2, L2, e2, ea⟩
      by_cases hlt : i < ds.length
      · refine .inr ⟨it.go i F2 H2 p2 hlt, fun H' => ∃ F' ls' acc rest, Le F1 H1 F' H' ∧ LInv (G.at' ((.lst acc, P) :: G.T)) F' ls' (wipe σ vs) H' ∧ compL g t e vs (ds.drop (i + 1)) ls' = some (rest, lsE) ∧ acc ++ rest = xs,
          fun H' ⟨F', ls', acc, rest, a, b, c, d⟩ => ⟨ds.length - (i + 1), by omega, rfl, hlt, F', ls', acc, rest, a, b, c, d⟩, fun x H3 y => ?_⟩
        rw [List.drop_eq_getElem_cons hlt] at e2
        have hd : ds[i]? = some ds[i] := List.getElem?_eq_getElem hlt
        obtain ⟨sm, rx⟩ := it.yld i F2 H2 x H3 _ p2 y hd
        unfold compL at e2
        cases e3 : g ds[i] ls2 with
        | none => rw [e3] at e2; cases e2
        | some ls3 =>
          rw [e3] at e2
          dsimp only [Option.bind] at e2
          refine ⟨(.lst acc, P) :: G.T, F2, ls2, _, ls3, (L2.same sm).gb, rx.z, e3, fun F4 σ4 H4 p4 L4 b4 => ?_⟩
          have p24 : Le F2 H2 F4 H4 := (Le.same sm).trans p4
          refine ⟨wipe_but hk b4, (.lst acc, P) :: G.T, F4, ls3, L4, ?_⟩
          cases e4 : (t ls3).get? with
          | none => rw [e4] at e2; cases e2
          | some q =>
            obtain ⟨b, ls4⟩ := q
            rw [e4] at e2
            rw [get?_some e4]
            intro F5 H5 p5 L5
            dsimp only at e2
            cases b with
            | false =>
              rw [if_neg Bool.false_ne_true] at e2 ⊢
              exact ⟨F5, wipeL ls4 vs, acc, rest, (p2.trans p24).trans p5, by rw [← wipe_but hk b4]; exact L5.ungb.wipe vs, e2, ea⟩
            | true =>
              rw [if_pos rfl] at e2 ⊢
              cases e5 : (frzv e ls4).get? with
              | none => rw [e5] at e2; cases e2
              | some q =>
                obtain ⟨z, ls5⟩ := q
                rw [e5] at e2
                dsimp only at e2
                cases e6 : compL g t e vs (ds.drop (i + 1)) (wipeL ls5 vs) with
                | none => rw [e6] at e2; cases e2
                | some q =>
                  obtain ⟨rest2, lsE2⟩ := q
                  rw [e6] at e2
                  cases e2
                  refine ⟨(.lst acc, P) :: G.T, frzv_imp L5 (get?_some e5) fun F6 H6 v p6 L6 r6 => ?_⟩
                  obtain ⟨m6, nf6, h06, q6⟩ := L6.ungb.pin (.lst acc, P) List.mem_cons_self
                  have m6' := m6
                  obtain ⟨a, ws, ea6, h6, r6s⟩ := m6'
                  cases ea6
                  have hlen : acc.length < sizeLine := by
                    have := congrArg List.length ea
                    rw [List.length_append, List.length_cons] at this
                    omega
                  refine ⟨ws, h6, by rw [← r6s.length]; exact hlen, F6, wipeL ls5 vs, acc ++ [z], rest2, ?_, ?_, e6, by rw [List.append_assoc]; exact ea⟩
                  · exact (((p2.trans p24).trans p5).trans p6).trans (callLe_upd L6.keep.tabs L6.there m6 nf6).le
                  · have cl := callLe_upd L6.keep.tabs (o' := .lst (ws ++ [v])) L6.there m6 nf6
                    rw [← wipe_but hk b4]
                    exact (L6.ungb.pinwrite (d' := .lst (acc ++ [z])) nP cl ⟨P, ws ++ [v], rfl, upd_same, (r6s.le cl.le).append (.cons (r6.le cl.le) .nil)⟩).wipe vs
      · have ei : i = ds.length := by omega
        subst ei
        rw [List.drop_length] at e2
        cases e2
        rw [List.append_nil] at ea
        subst ea
        refine .inl ⟨it.stop F2 H2 p2, ?_⟩
        have L3 : LInv (G.at' ((.lst acc, P) :: G.T)) F2 (backL ls1 lsE vs) σ H2 := LInv.unwipe L1 p2 L2
        exact o F2 H2 (.ref P) (p1.trans p2) (L3.unpin fun p hp => List.mem_cons_of_mem _ hp) (RepZ.ofX (LInv.back L3 List.mem_cons_self fun p hp z => nP p hp z.symm))
/-- [elt for tg in iter if ..] -/
theorem de_lc {elt tg iter : Expr} {ifs : List Expr} {scope : Scope} {own : List (Str × Nat)} {pos : Pos} {mi : MI} {g : MG} {t : MT} {e : ME} {ks : List Nat} (hc : X.calm = true) (hN : X.N.Nodup) (hi : DI X G tg iter mi) (ok : BlkOk X.N X.env.scope scope own) (hk : ∀ k ∈ ks, k ∈ own.map (·.2))
    (hg : ∀ (s : Shared) (H : Hp) (C : Addr) (cl : List (Str × Addr)) (fp : List Addr) (T : List (D × Addr)), DG (X.blk s H scope (compEnvC scope cl C X.env) fp) (Gb G T) tg g ks)
    (ht : ∀ (s : Shared) (H : Hp) (C : Addr) (cl : List (Str × Addr)) (fp : List Addr) (T : List (D × Addr)), PTs (X.blk s H scope (compEnvC scope cl C X.env) fp) ifs (tOfT (Gb G T) t))
    (he : ∀ (s : Shared) (H : Hp) (C : Addr) (cl : List (Str × Addr)) (fp : List Addr) (T : List (D × Addr)), DE (X.blk s H scope (compEnvC scope cl C X.env) fp) (Gb G T) elt e) (hs : ∀ x, foldedSetIterable iter X.env x = pure x := by intro _; rfl) :
    DE X G (.ListComp elt [⟨tg, iter, ifs, 0⟩] scope pos) (mComp mi g t e (own.map (·.2))) :=
  pe_imp (pe_lc hc hN hi ok (fun s H C cl fp => ⟨fun pins s' σ H' v u Q I r ⟨T, q⟩ => (hg s H C cl fp T).run pins s' σ H' v u Q I r q⟩)
    (fun s H C cl fp => ⟨fun pins s' σ H' Q I ⟨T, q⟩ => (ht s H C cl fp T).run pins s' σ H' Q I q⟩) (fun s H C cl fp => pe_any fun T => he s H C cl fp T) hs) (mComp_imp hk)
end
end DL

end DLj
section DLk
set_option Elab.async false
set_option linter.all false
set_option autoImplicit false
set_option maxRecDepth 100000
namespace DL
open PySem PySem.Spec PyProof.Rows L2

section
variable {X : Cx} {G : Gh} {F F' : FS} {H H' : Hp} {ls : LS} {σ : L2.St} {e tg : Expr} {es : List Expr}
/-! ### what may be walked -/
theorem tOf.firstI {ma : ME} {f : D × LS → Res (List D × LS)} {R : It → Hp → Prop} (L : LInv G F ls σ H) (o : OutI G ((frzv ma ls).bind f) F σ H R)
    {Q' : VK} (h : ∀ F1 H1 ls1 d v, Le F H F1 H1 → LInv G F1 ls1 σ H1 → Rep F1 H1 d v → OutI G (f (d, ls1)) F1 σ H1 R → Q' v H1) : tOf G ma σ H Q' := by
  have later : ∀ {r : Res (List D × LS)} {F' : FS} {H' : Hp}, Le F H F' H' → OutI G r F σ H R → OutI G r F' σ H' R := fun {r F' H'} p o => by
    cases r with
    | ok x => obtain ⟨d, ls⟩ := x; exact fun F2 H2 J q => o F2 H2 J (p.trans q)
    | exc x => exact o
    | stuck => exact o
  cases e : frzv ma ls with
  | ok p =>
    obtain ⟨d, ls1⟩ := p
    rw [e] at o
    exact frzv_imp L e fun F1 H1 v p1 L1 r1 => h F1 H1 ls1 d v p1 L1 r1 (later p1 o)
  | exc x =>
    rw [e] at o
    refine ⟨F, ls, L, ?_⟩
    unfold frzv val at e
    revert e
    cases ma ls with
    | exc y => intro e; cases e; exact o
    | stuck => exact fun e => nomatch e
    | ok q =>
      intro e
      have e : ((opt (stl q.1)).bind fun x => Res.ok (x, q.2)).bind (fun p => opt (frz p.2 p.1)) = .exc x := e
      cases e1 : stl q.1 with
      | none => rw [e1] at e; cases e
      | some y =>
        rw [e1] at e
        have e : opt (frz q.2 y) = .exc x := e
        cases e2 : frz q.2 y <;> (rw [e2] at e; cases e)
  | stuck => rw [e] at o; exact o.elim
def seqOf : D → Option (List D)
  | .lst xs => some xs
  | .tup xs => some xs
  | _ => none
def iSeq (m : ME) : MI := fun ls => (frzv m ls).bind fun p => (opt (seqOf p.1)).bind fun xs => .ok (xs, p.2)
theorem itd_list {K : PySem.W.Frag} {a : Addr} {ds : List D} {vs : List V} (f : F a) (h : H a = some (.lst vs)) (r : Reps F H ds vs) : ItD (Itl K a) F H ds where
  go := fun i F' H' p hi => ⟨vs, vs[i]'(by rw [← r.length]; exact hi), .inl (.inl (p.st.frz _ _ f h)), List.getElem?_eq_getElem _⟩
  yld := fun i F' H' x H'' d p y hd => by
    obtain ⟨e1, y⟩ := y
    subst e1
    obtain ⟨v, h1, h2⟩ := r.get hd
    have := y vs (.inl (.inl (p.st.frz _ _ f h)))
    rw [h1] at this; cases this
    exact ⟨Same.refl _, h2.le p⟩
  stop := fun F' H' p => ⟨vs, .inl (.inl (p.st.frz _ _ f h)), by rw [r.length]; exact Nat.le_refl _⟩
theorem itd_tup {K : PySem.W.Frag} {a : Addr} {ds : List D} {vs : List V} (h : H a = some (.tup vs)) (r : Reps F H ds vs) : ItD (Itt K a) F H ds where
  go := fun i F' H' p hi => ⟨vs, vs[i]'(by rw [← r.length]; exact hi), .inl (.inl (p.st.tup _ _ h)), List.getElem?_eq_getElem _⟩
  yld := fun i F' H' x H'' d p y hd => by
    obtain ⟨e1, y⟩ := y
    subst e1
    obtain ⟨v, h1, h2⟩ := r.get hd
    have := y vs (.inl (.inl (p.st.tup _ _ h)))
    rw [h1] at this; cases this
    exact ⟨Same.refl _, h2.le p⟩
  stop := fun F' H' p => ⟨vs, .inl (.inl (p.st.tup _ _ h)), by rw [r.length]; exact Nat.le_refl _⟩
theorem frzv_exc {m : ME} {ls : LS} {x : Str} (e : frzv m ls = .exc x) : m ls = .exc x := by
  unfold frzv val at e
  revert e
  cases m ls with
  | exc y => intro e; cases e; rfl
  | stuck => exact fun e => nomatch e
  | ok q =>
    intro e
    have e : ((opt (stl q.1)).bind fun x => Res.ok (x, q.2)).bind (fun p => opt (frz p.2 p.1)) = .exc x := e
    cases e1 : stl q.1 with
    | none => rw [e1] at e; cases e
    | some y =>
      rw [e1] at e
      have e : opt (frz q.2 y) = .exc x := e
      cases e2 : frz q.2 y <;> (rw [e2] at e; cases e)
/-- a list or a tuple, walked -/
theorem di_seq {m : ME} (he : DE X G e m) : DI X G tg e (iSeq m) := by
  refine ⟨fun pins s σ H R I q => ?_⟩
  obtain ⟨F, ls, L, o⟩ := q
  unfold iSeq at o
  cases e1 : frzv m ls with
  | stuck => rw [e1] at o; exact o.elim
  | exc x =>
    rw [e1] at o
    exact (pi_list (tg := tg) he).run pins s σ H R I ⟨F, ls, L, by rw [frzv_exc e1]; exact o⟩
  | ok p =>
    obtain ⟨d, ls1⟩ := p
    rw [e1] at o
    have o : OutI G ((opt (seqOf d)).bind fun xs => .ok (xs, ls1)) F σ H R := o
    cases d with
    | lst xs =>
      refine (pi_list (tg := tg) he).run pins s σ H R I (frzv_imp L e1 fun F1 H1 v p1 L1 r1 => ?_)
      cases r1 with
      | lst f h r => exact ⟨_, rfl, ⟨_, .inl (.inl h)⟩, o F1 H1 _ p1 L1 (itd_list f h r)⟩
    | tup xs =>
      refine (pi_tup (tg := tg) he).run pins s σ H R I (frzv_imp L e1 fun F1 H1 v p1 L1 r1 => ?_)
      cases r1 with
      | tup h r => exact ⟨_, rfl, ⟨_, .inl (.inl h)⟩, o F1 H1 _ p1 L1 (itd_tup h r)⟩
    | _ => exact o.elim

/-! range -/
theorem tOfA.firstI {R : It → Hp → Prop} {Q' : List V → Hp → Prop} {ma : MA} {f : List D × LS → Res (List D × LS)} (L : LInv G F ls σ H) (o : OutI G ((ma ls).bind f) F σ H R)
    (h : ∀ F1 H1 ls1 ds vs, Le F H F1 H1 → LInv G F1 ls1 σ H1 → RepYs F1 H1 σ ds vs → OutI G (f (ds, ls1)) F1 σ H1 R → Q' vs H1) : tOfA G ma σ H Q' := by
  refine ⟨F, ls, L, ?_⟩
  revert o
  cases ma ls with
  | ok x =>
    obtain ⟨d, ls1⟩ := x
    intro o F1 H1 vs p L1 r
    refine h F1 H1 ls1 d vs p L1 r ?_
    have o : OutI G (f (d, ls1)) F σ H R := o
    revert o
    cases f (d, ls1) with
    | ok x => obtain ⟨d, ls⟩ := x; exact fun o F2 H2 J q => o F2 H2 J (p.trans q)
    | exc x => exact fun o => o
    | stuck => exact fun o => o
  | exc x => exact fun o => o
  | stuck => exact fun o => o
def intsUp (lo : Int) (n : Nat) : List D := (List.range n).map fun i => .int (lo + (i : Nat))
theorem itd_range {lo : Int} {n : Nat} : ItD (Itr lo n) F H (intsUp lo n) where
  go := fun i F' H' p hi => by
    have : i < n := by simpa [intsUp] using hi
    exact this
  yld := fun i F' H' x H'' d p y hd => by
    obtain ⟨e1, e2⟩ := y
    subst e1 e2
    unfold intsUp at hd
    rw [List.getElem?_map] at hd
    by_cases hi : i < n
    · rw [List.getElem?_range hi] at hd
      cases hd
      exact ⟨Same.refl _, .int _⟩
    · rw [List.getElem?_eq_none (by simpa using hi)] at hd; cases hd
  stop := fun F' H' p => by show n ≤ (intsUp lo n).length; simp [intsUp]
def inB (i : Int) : Prop := -(2 ^ 62) ≤ i ∧ i < 2 ^ 62
instance (i : Int) : Decidable (inB i) := inferInstanceAs (Decidable (_ ∧ _))
def iRange (ms : MA) : MI := fun ls => (ms ls).bind fun q => match sees q.2 q.1 with
  | some [.int n] => if inB n then .ok (intsUp 0 n.toNat, q.2) else .stuck
  | some [.int a, .int b] => if inB a ∧ inB b then .ok (intsUp a (b - a).toNat, q.2) else .stuck
  | _ => .stuck
theorem RepR.isInt {i : Int} {v : V} (r : RepR F H (.int i) v) : v = .int i := by
  rcases r with r | r
  · cases r; rfl
  · exact r.elim
theorem RepRs.one {d : D} {vs : List V} (r : RepRs F H [d] vs) : ∃ v, vs = [v] ∧ RepR F H d v := by
  cases r with
  | cons a b => cases b; exact ⟨_, rfl, a⟩
theorem RepRs.two {d e : D} {vs : List V} (r : RepRs F H [d, e] vs) : ∃ v w, vs = [v, w] ∧ RepR F H d v ∧ RepR F H e w := by
  cases r with
  | cons a b => obtain ⟨w, rfl, c⟩ := b.one; exact ⟨_, _, rfl, a, c⟩
theorem RepRs.three {d e f : D} {vs : List V} (r : RepRs F H [d, e, f] vs) : ∃ v w u, vs = [v, w, u] ∧ RepR F H d v ∧ RepR F H e w ∧ RepR F H f u := by
  cases r with
  | cons a b => obtain ⟨w, u, rfl, c, d⟩ := b.two; exact ⟨_, _, _, rfl, a, c, d⟩
theorem RepRs.length {F : FS} {H : Hp} : ∀ {ds : List D} {vs : List V}, RepRs F H ds vs → ds.length = vs.length
  | _, _, .nil => rfl
  | _, _, .cons _ r => by rw [List.length_cons, List.length_cons, RepRs.length r]
theorem RepYs.length {F : FS} {H : Hp} : ∀ {ds : List D} {vs : List V}, RepYs F H σ ds vs → ds.length = vs.length
  | _, _, .nil => rfl
  | _, _, .cons _ r => by rw [List.length_cons, List.length_cons, RepYs.length r]
theorem di_range1 {a : Expr} {ms : MA} {p pos : Pos} (hg : Gl X "range") (hm : X.mg "range" = none) (ha : DA X G [a] ms) (h1 : ∀ ls ds ls', ms ls = .ok (ds, ls') → ds.length = 1) (hs : starEach [a] X.env = [(false, eval a X.env)] := by rfl) : DI X G tg (.Call (.Name "range" p) [a] [] pos) (iRange ms) :=
  pi_imp (pi_range1 hg hm ha hs) fun σ H R ⟨F, ls, L, o⟩ => by
    have hl := h1 ls
    unfold iRange at o
    refine ⟨F, ls, L, ?_⟩
    revert o hl
    cases ms ls with
    | exc x => exact fun o _ => o
    | stuck => exact fun o _ => o
    | ok x =>
      obtain ⟨ds, ls1⟩ := x
      intro o hl F1 H1 vs p L1 r
      have hl := hl ds ls1 rfl
      have o : OutI G (match sees ls1 ds with
        | some [.int n] => if inB n then Res.ok (intsUp 0 n.toNat, ls1) else .stuck
        | some [.int a, .int b] => if inB a ∧ inB b then Res.ok (intsUp a (b - a).toNat, ls1) else .stuck
        | _ => .stuck) F σ H R := o
      split at o
      · rename_i n e1
        obtain ⟨v, rfl, rv⟩ := (sees_rep L1 r e1).one
        rw [rv.isInt]
        by_cases hb : inB n
        · rw [if_pos hb] at o
          exact ⟨n, rfl, hb.1, hb.2, o F1 H1 _ p L1 itd_range⟩
        · rw [if_neg hb] at o; exact o.elim
      · rename_i n m e1
        have := (sees_rep L1 r e1).length
        rw [← r.length, hl] at this; cases this
      · exact o.elim
theorem di_range2 {a b : Expr} {ms : MA} {p pos : Pos} (hg : Gl X "range") (hm : X.mg "range" = none) (ha : DA X G [a, b] ms) (h1 : ∀ ls ds ls', ms ls = .ok (ds, ls') → ds.length = 2) (hs : starEach [a, b] X.env = [(false, eval a X.env), (false, eval b X.env)] := by rfl) (hs2 : starEach [b] X.env = [(false, eval b X.env)] := by rfl) : DI X G tg (.Call (.Name "range" p) [a, b] [] pos) (iRange ms) :=
  pi_imp (pi_range2 hg hm ha hs hs2) fun σ H R ⟨F, ls, L, o⟩ => by
    have hl := h1 ls
    unfold iRange at o
    refine ⟨F, ls, L, ?_⟩
    revert o hl
    cases ms ls with
    | exc x => exact fun o _ => o
    | stuck => exact fun o _ => o
    | ok x =>
      obtain ⟨ds, ls1⟩ := x
      intro o hl F1 H1 vs p L1 r
      have hl := hl ds ls1 rfl
      have o : OutI G (match sees ls1 ds with
        | some [.int n] => if inB n then Res.ok (intsUp 0 n.toNat, ls1) else .stuck
        | some [.int a, .int b] => if inB a ∧ inB b then Res.ok (intsUp a (b - a).toNat, ls1) else .stuck
        | _ => .stuck) F σ H R := o
      split at o
      · rename_i n e1
        have := (sees_rep L1 r e1).length
        rw [← r.length, hl] at this; cases this
      · rename_i n m e1
        obtain ⟨v, w, rfl, rv, rw'⟩ := (sees_rep L1 r e1).two
        rw [rv.isInt, rw'.isInt]
        by_cases hb : inB n ∧ inB m
        · rw [if_pos hb] at o
          exact ⟨n, m, rfl, ⟨hb.1.1, hb.1.2, hb.2.1, hb.2.2⟩, o F1 H1 _ p L1 itd_range⟩
        · rw [if_neg hb] at o; exact o.elim
      · exact o.elim
theorem aNil_len (ls : LS) (ds : List D) (ls' : LS) (e : aNil ls = .ok (ds, ls')) : ds.length = 0 := by cases e; rfl
theorem aCons_len {m : ME} {ms : MA} {n : Nat} (h : ∀ ls ds ls', ms ls = .ok (ds, ls') → ds.length = n) (ls : LS) (ds : List D) (ls' : LS) (e : aCons m ms ls = .ok (ds, ls')) : ds.length = n + 1 := by
  unfold aCons at e
  cases e1 : val m ls with
  | exc x => rw [e1] at e; cases e
  | stuck => rw [e1] at e; cases e
  | ok p =>
    rw [e1] at e
    have e : (ms p.2).bind (fun q => Res.ok (p.1 :: q.1, q.2)) = .ok (ds, ls') := e
    cases e2 : ms p.2 with
    | exc x => rw [e2] at e; cases e
    | stuck => rw [e2] at e; cases e
    | ok q => rw [e2] at e; cases e; rw [List.length_cons, h p.2 q.1 q.2 e2]
end
end DL

end DLk
section DLl
set_option Elab.async false
set_option linter.all false
set_option autoImplicit false
set_option maxRecDepth 100000
namespace DL
open PySem PySem.Spec PyProof.Rows L2

section
variable {X : Cx} {G : Gh} {F F' : FS} {H H' : Hp} {ls : LS} {σ : L2.St} {e tg : Expr} {es : List Expr} {Z : Ends}
/-! ### stores into what a slot holds -/
theorem tOf.frozen1 {ma : ME} {f : D × LS → RD} {Q : VK} (L : LInv G F ls σ H) (o : Out G ((frzv ma ls).bind f) F σ H Q)
    {Q' : VK} (h : ∀ F1 H1 ls1 d v, Le F H F1 H1 → LInv G F1 ls1 σ H1 → Rep F1 H1 d v → Out G (f (d, ls1)) F1 σ H1 Q → Q' v H1) : tOf G ma σ H Q' := by
  cases e : frzv ma ls with
  | ok p =>
    obtain ⟨d, ls1⟩ := p
    rw [e] at o
    exact frzv_imp L e fun F1 H1 v p1 L1 r1 => h F1 H1 ls1 d v p1 L1 r1 (Out.later p1 o)
  | exc x => rw [e] at o; exact ⟨F, ls, L, by rw [frzv_exc e]; exact o⟩
  | stuck => rw [e] at o; exact o.elim
theorem tOf.frozen1S {ma : ME} {f : D × LS → Fl} (L : LInv G F ls σ H) (o : OutS G ((frzv ma ls).fl f) F H Z)
    {Q' : VK} (h : ∀ F1 H1 ls1 d v, Le F H F1 H1 → LInv G F1 ls1 σ H1 → Rep F1 H1 d v → OutS G (f (d, ls1)) F1 H1 Z → Q' v H1) : tOf G ma σ H Q' := by
  cases e : frzv ma ls with
  | ok p =>
    obtain ⟨d, ls1⟩ := p
    rw [e] at o
    exact frzv_imp L e fun F1 H1 v p1 L1 r1 => h F1 H1 ls1 d v p1 L1 r1 (OutS.later p1 o)
  | exc x => rw [e] at o; exact ⟨F, ls, L, by rw [frzv_exc e]; exact o⟩
  | stuck => rw [e] at o; exact o.elim
/-- the list that slot i holds; whether it is the def's own -/
def slotL (ls : LS) (i : Nat) : Option (Bool × List D) := (ls[i]?).bind fun o => o.bind fun d => match d with
  | .own (.lst xs) => some (true, xs)
  | .io (.lst xs) => some (false, xs)
  | _ => none
def putL (b : Bool) (xs : List D) : D := if b then .own (.lst xs) else .io (.lst xs)
theorem slotL_at {i : Nat} {b : Bool} {xs : List D} (L : LInv G F ls σ H) (e : slotL ls i = some (b, xs)) : ∃ (w : D → D) (a : Addr) (vs : List V), (w = .own ∨ w = .io) ∧ (∀ ys, putL b ys = w (.lst ys)) ∧ ls[i]? = some (some (w (.lst xs))) ∧ σ[i]? = some (some (.ref a)) ∧ H a = some (.lst vs) ∧ Reps F H xs vs ∧ ¬ F a := by
  unfold slotL at e
  cases q : ls[i]? with
  | none => rw [q] at e; cases e
  | some o =>
    cases o with
    | none => rw [q] at e; cases e
    | some d =>
      rw [q] at e
      obtain ⟨v, h1, h2⟩ := L.slot i d q
      cases d with
      | own d =>
        cases d <;> cases e
        obtain ⟨a, d', rfl, ed, m, nf⟩ := h2.at (by exact trivial)
        obtain ⟨m, _⟩ := h2
        obtain ⟨a', vs, e', h, r⟩ := m
        cases e'
        exact ⟨.own, _, vs, .inl rfl, fun _ => rfl, rfl, h1, h, r, nf⟩
      | io d =>
        cases d <;> cases e
        obtain ⟨a, d', rfl, ed, m, nf⟩ := h2.at (by exact trivial)
        obtain ⟨m, _⟩ := h2
        obtain ⟨a', vs, e', h, r⟩ := m
        cases e'
        exact ⟨.io, _, vs, .inr rfl, fun _ => rfl, rfl, h1, h, r, nf⟩
      | _ => cases e
/-- the slot's list is written -/
theorem LInv.writeL {i : Nat} {w : D → D} {a : Addr} {xs ys : List D} {vs us : List V} (L : LInv G F ls σ H) (hw : w = .own ∨ w = .io) (e : ls[i]? = some (some (w (.lst xs)))) (hs : σ[i]? = some (some (.ref a))) (h : H a = some (.lst vs)) (r : Reps F H xs vs) (nf : ¬ F a) (r' : Reps F H ys us) :
    Le F H F (upd H a (.lst us)) ∧ LInv G F (ls.set i (some (w (.lst ys)))) σ (upd H a (.lst us)) := by
  have c : CallLe G.tb (fun b => b = a) F H F (upd H a (.lst us)) := callLe_upd L.keep.tabs (d := .lst xs) L.there ⟨a, vs, rfl, h, r⟩ nf
  exact ⟨c.le, L.write (d' := .lst ys) hw e hs c ⟨a, us, rfl, upd_same, r'.le c.le⟩⟩
def mApp (i : Nat) (m : ME) : ME := fun ls => (opt (slotL ls i)).bind fun _ => (frzv m ls).bind fun p => (opt (slotL p.2 i)).bind fun q =>
  if q.2.length < sizeLine then .ok (.non, p.2.set i (some (putL q.1 (q.2 ++ [p.1])))) else .stuck
theorem mApp_imp {K : PySem.W.Frag} {i : Nat} {m : ME} (σ : L2.St) (H : Hp) (Q : VK) (q : tOf G (mApp i m) σ H Q) : tBM K "list" rAppend (tVar i) (tCons (tOf G m) tNil) σ H Q := by
  obtain ⟨F, ls, L, o⟩ := q
  unfold mApp at o
  cases e1 : slotL ls i with
  | none => rw [e1] at o; exact o.elim
  | some q =>
    obtain ⟨b, xs⟩ := q
    rw [e1] at o
    obtain ⟨w, a, vs, hw, _, he, hs, h, r, nf⟩ := slotL_at L e1
    refine ⟨_, hs, .inl ⟨rfl, vs, .inl (.inl h)⟩, tOf.frozen1 L o fun F1 H1 ls1 d v p1 L1 r1 o1 => ?_⟩
    dsimp only at o1
    cases e2 : slotL ls1 i with
    | none => rw [e2] at o1; exact o1.elim
    | some q =>
      obtain ⟨b2, xs2⟩ := q
      rw [e2] at o1
      obtain ⟨w2, a2, vs2, hw2, hp2, he2, hs2, h2, rr2, nf2⟩ := slotL_at L1 e2
      rw [hs] at hs2; cases hs2
      have o1 : Out G (if xs2.length < sizeLine then Res.ok (D.non, ls1.set i (some (putL b2 (xs2 ++ [d])))) else .stuck) F1 σ H1 Q := o1
      by_cases z : xs2.length < sizeLine
      · rw [if_pos z, hp2] at o1
        obtain ⟨p2, L2⟩ := L1.writeL hw2 he2 hs h2 rr2 nf2 (rr2.append (.cons r1 .nil))
        exact ⟨_, _, _, rfl, rfl, h2, by rw [← rr2.length]; exact z, o1 F1 _ .non p2 L2 .non⟩
      · rw [if_neg z] at o1; exact o1.elim
theorem de_append {i : Nat} {m : ME} {x : Str} {px apos cpos : Pos} (hv : PE X (.Name x px) (tVar i)) (he : DE X G e m) (h : PE X (.Call (.Attribute (.Name x px) "append" apos) [e] [] cpos) (tBM X.K "list" rAppend (tVar i) (tCons (tOf G m) tNil))) :
    DE X G (.Call (.Attribute (.Name x px) "append" apos) [e] [] cpos) (mApp i m) := pe_imp h fun σ H Q => mApp_imp σ H Q
/-- x[k] = v -/
def sSet (i : Nat) (mk mv : ME) : MS := fun ls => (frzv mv ls).fl fun p => (opt (slotL p.2 i)).fl fun _ => (val mk p.2).fl fun q => match see q.2 q.1 with
  | some (.int k) => (opt (slotL q.2 i)).fl fun r => (opt (ixN r.2.length k)).fl fun j => .nx (q.2.set i (some (putL r.1 (r.2.set j p.1))))
  | _ => .stuck
theorem Reps.set {d : D} {v : V} (r : Rep F H d v) : ∀ {ds : List D} {vs : List V} (j : Nat), Reps F H ds vs → Reps F H (ds.set j d) (vs.set j v)
  | _, _, _, .nil => .nil
  | _, _, 0, .cons _ rs => .cons r rs
  | _, _, j + 1, .cons q rs => .cons q (Reps.set r j rs)
theorem tOf.settledS {ma : ME} {f : D × LS → Fl} (L : LInv G F ls σ H) (o : OutS G ((val ma ls).fl f) F H Z)
    {Q' : VK} (h : ∀ F1 H1 ls1 d v, Le F H F1 H1 → LInv G F1 ls1 σ H1 → RepY F1 H1 σ d v → OutS G (f (d, ls1)) F1 H1 Z → Q' v H1) : tOf G ma σ H Q' := by
  have e : (val ma ls).fl f = (ma ls).fl fun p => (opt (stl p.1)).fl fun x => f (x, p.2) := by
    unfold val
    cases ma ls with
    | ok p => show ((opt (stl p.1)).bind fun x => Res.ok (x, p.2)).fl f = (opt (stl p.1)).fl _; cases stl p.1 <;> rfl
    | exc x => rfl
    | stuck => rfl
  rw [e] at o
  refine tOf.firstS L o fun F1 H1 ls1 d v p L1 r o1 => ?_
  cases q : stl d with
  | none => simp only [q] at o1; exact o1.elim
  | some x =>
    simp only [q] at o1
    obtain ⟨F2, p2, L2, r2⟩ := settle L1 r q
    exact h F2 H1 ls1 x v (p.trans p2) L2 r2 (OutS.later p2 o1)
theorem ds_setitem {i : Nat} {mk mv : ME} {o k v : Expr} {pos pos' : Pos} (ho : PE X o (tVar i)) (hk : DE X G k mk) (hv : DE X G v mv)
    (h : PS X (.Assign [.Subscript o k pos] v pos') (tAsg (tOf G mv) (gSub (tVar i) (tOf G mk) rSetL))) : DS X G (.Assign [.Subscript o k pos] v pos') (sSet i mk mv) :=
  ps_imp h fun Z σ H ⟨F, ls, L, o⟩ => by
    unfold sSet at o
    refine tOf.frozen1S L o fun F1 H1 ls1 d v p1 L1 r1 o1 => ?_
    dsimp only at o1
    cases e1 : slotL ls1 i with
    | none => rw [e1] at o1; exact o1.elim
    | some q =>
      obtain ⟨b, xs⟩ := q
      rw [e1] at o1
      obtain ⟨w, a, vs, hw, _, he, hs, h, r, nf⟩ := slotL_at L1 e1
      refine ⟨_, hs, tOf.settledS L1 o1 fun F2 H2 ls2 dk vk p2 L2 r2 o2 => ?_⟩
      dsimp only at o2
      split at o2
      · rename_i n en
        cases e2 : slotL ls2 i with
        | none => rw [e2] at o2; exact o2.elim
        | some q =>
          obtain ⟨b2, xs2⟩ := q
          rw [e2] at o2
          obtain ⟨w2, a2, vs2, hw2, hp2, he2, hs2, h2, rr2, nf2⟩ := slotL_at L2 e2
          rw [hs] at hs2; cases hs2
          have o2 : OutS G ((opt (ixN xs2.length n)).fl fun j => .nx (ls2.set i (some (putL b2 (xs2.set j d))))) F2 H2 Z := o2
          cases e3 : ixN xs2.length n with
          | none => rw [e3] at o2; exact o2.elim
          | some j =>
            rw [e3] at o2
            have o2 : OutS G (.nx (ls2.set i (some (putL b2 (xs2.set j d))))) F2 H2 Z := o2
            rw [hp2] at o2
            obtain ⟨p3, L3⟩ := L2.writeL hw2 he2 hs h2 rr2 nf2 (Reps.set (r1.le p2) j rr2)
            rw [(see_rep L2 r2 en).isInt]
            exact ⟨_, _, n, j, rfl, rfl, h2, by rw [← rr2.length]; exact e3, o2 F2 _ _ p3 L3⟩
      · exact o2.elim
end
end DL

end DLl
section DLm
set_option Elab.async false
set_option linter.all false
set_option autoImplicit false
set_option maxRecDepth 100000
namespace DL
open PySem PySem.Spec PyProof.Rows L2

/-! ### data as the library's data -/
mutual
def toP : D → Option PyData
  | .non => some .none
  | .bl b => some (.bool b)
  | .int i => some (.int i)
  | .str x => some (.str x)
  | .tup xs => (toPs xs).map .tuple
  | .lst xs => (toPs xs).map .list
  | _ => none
def toPs : List D → Option (List PyData)
  | [] => some []
  | x :: xs => (toP x).bind fun y => (toPs xs).bind fun ys => some (y :: ys)
end
section
variable {K : PySem.W.Frag} {F : FS} {H : Hp}
mutual
theorem Rep.dp : ∀ {d : D} {v : V} {p : PyData}, Rep F H d v → toP d = some p → Dp K H v p
  | _, _, _, .non, e => by cases e; exact .non
  | _, _, _, .bl b, e => by cases e; exact .bl b
  | _, _, _, .int i, e => by cases e; exact .int i
  | _, _, _, .str x, e => by cases e; exact .str x
  | _, _, _, .ref a, e => by cases e
  | .tup xs, _, p, .tup h r, e => by
    have e : (toPs xs).map PyData.tuple = some p := e
    cases q : toPs xs with
    | none => rw [q] at e; cases e
    | some ys => rw [q] at e; cases e; exact .tup (.inl (.inl h)) (Reps.dp r q)
  | .lst xs, _, p, .lst f h r, e => by
    have e : (toPs xs).map PyData.list = some p := e
    cases q : toPs xs with
    | none => rw [q] at e; cases e
    | some ys => rw [q] at e; cases e; exact .lst (.inl (.inl h)) (Reps.dp r q)
  | _, _, _, .scr _ _ _, e => by cases e
  | _, _, _, .dct _ _ _, e => by cases e
  | _, _, _, .dctT _ _ _, e => by cases e
theorem Reps.dp : ∀ {ds : List D} {vs : List V} {ps : List PyData}, Reps F H ds vs → toPs ds = some ps → DpAll K H vs ps
  | _, _, _, .nil, e => by cases e; exact .nil
  | d :: ds, _, ps, .cons r rs, e => by
    have e : (toP d).bind (fun y => (toPs ds).bind fun ys => some (y :: ys)) = some ps := e
    cases q : toP d with
    | none => rw [q] at e; cases e
    | some y =>
      cases q2 : toPs ds with
      | none => rw [q, q2] at e; cases e
      | some ys => rw [q, q2] at e; cases e; exact .cons (Rep.dp r q) (Reps.dp rs q2)
end
theorem RepR.dp {d : D} {v : V} {p : PyData} (r : RepR F H d v) (e : toP d = some p) : Dp K H v p := by
  rcases r with r | r
  · exact r.dp e
  · cases d with
    | lst xs =>
      obtain ⟨a, vs, rfl, h, rs⟩ := r
      have e : (toPs xs).map PyData.list = some p := e
      cases q : toPs xs with
      | none => rw [q] at e; cases e
      | some ys => rw [q] at e; cases e; exact .lst (.inl (.inl h)) (rs.dp q)
    | dct xs => cases e
    | ins C fs => cases e
    | _ => exact r.elim

/-! ### shapes of what is read -/
theorem RepR.isBl {b : Bool} {v : V} (r : RepR F H (.bl b) v) : v = .bl b := by
  rcases r with r | r
  · cases r; rfl
  · exact r.elim
theorem RepR.isStr {b : Str} {v : V} (r : RepR F H (.str b) v) : v = .str b := by
  rcases r with r | r
  · cases r; rfl
  · exact r.elim
theorem RepR.isNon {v : V} (r : RepR F H .non v) : v = .non := by
  rcases r with r | r
  · cases r; rfl
  · exact r.elim
theorem RepR.isLst {xs : List D} {v : V} (r : RepR F H (.lst xs) v) : ∃ a vs, v = .ref a ∧ H a = some (.lst vs) ∧ Reps F H xs vs := by
  rcases r with r | r
  · cases r with
    | lst f h r => exact ⟨_, _, rfl, h, r⟩
  · exact r
theorem RepR.isTup {xs : List D} {v : V} (r : RepR F H (.tup xs) v) : ∃ a vs, v = .ref a ∧ H a = some (.tup vs) ∧ Reps F H xs vs := by
  rcases r with r | r
  · cases r with
    | tup h r => exact ⟨_, _, rfl, h, r⟩
  · exact r.elim
theorem RepR.isScr {xs : List D} {v : V} (r : RepR F H (.scr xs) v) : ∃ a o vs, v = .ref a ∧ H a = some (.frz o (.lst vs)) ∧ Reps F H xs vs := by
  rcases r with r | r
  · cases r with
    | scr f h r => exact ⟨_, _, _, rfl, h, r⟩
  · exact r.elim
theorem Reps.atI' {ds : List D} {vs : List V} {i : Int} {d : D} (r : Reps F H ds vs) (e : L2.atI ds i = some d) : ∃ v, L2.atI vs i = some v ∧ Rep F H d v := by
  unfold L2.atI at e ⊢
  rw [r.length] at e
  cases q : ixN vs.length i with
  | none => rw [q] at e; cases e
  | some j => rw [q] at e; exact r.get e

/-! ### arithmetic -/
def gAdd : D → D → Option D
  | .int i, .int j => some (.int (i + j))
  | .lst xs, .lst ys => if xs.length + ys.length ≤ sizeLine then some (.own (.lst (xs ++ ys))) else none
  | .tup xs, .tup ys => if xs.length + ys.length ≤ sizeLine then some (.tup (xs ++ ys)) else none
  | .str x, .str y => if x.length + y.length ≤ sizeLine then some (.str (x ++ y)) else none
  | _, _ => none
def rAdds (K : PySem.W.Frag) : R2 := fun x y H Q => rI0 (fun i j => .int (i + j)) x y H Q ∨ rCat x y H Q ∨ rCatA K x y H Q ∨ ∃ i j, x = .str i ∧ y = .str j ∧ i.length + j.length ≤ sizeLine ∧ Q (.str (i ++ j)) H
theorem or_adds {X : Cx} : OpR X (binaryOp .Add) (rAdds X.K) := op_add.or (op_cat.or (op_catA.or op_add_str))
theorem od_add : OpD (rAdds K) gAdd := by
  intro F H x y d v u Q rx ry e q
  unfold gAdd at e
  split at e
  · cases e
    rw [rx.isInt, ry.isInt]
    exact .inl ⟨_, _, rfl, rfl, q H _ (Same.refl H) (Rep.int _)⟩
  · split at e
    · rename_i z
      cases e
      obtain ⟨a, vs, rfl, h, r⟩ := rx.isLst
      obtain ⟨b, us, rfl, h', r'⟩ := ry.isLst
      refine .inr (.inl ⟨a, b, vs, us, rfl, rfl, h, h', by rw [← r.length, ← r'.length]; exact z, fun p n => q _ _ (same_upd n) ?_⟩)
      exact ⟨⟨p, _, rfl, upd_same, (r.append r').le (Le.same (same_upd n))⟩, p, rfl, n⟩
    · cases e
  · split at e
    · rename_i z
      cases e
      obtain ⟨a, vs, rfl, h, r⟩ := rx.isTup
      obtain ⟨b, us, rfl, h', r'⟩ := ry.isTup
      refine .inr (.inr (.inl ⟨a, b, vs, us, rfl, rfl, .inl (.inl h), .inl (.inl h'), by rw [← r.length, ← r'.length]; exact z, fun e => q _ _ (Same.refl H) ?_, fun _ e => q _ _ (Same.refl H) ?_, fun _ _ p n => q _ _ (same_upd n) ?_⟩))
      · subst e; cases r; exact .tup h' r'
      · subst e; cases r'; rw [List.append_nil]; exact .tup h r
      · exact .tup upd_same ((r.append r').le (Le.same (same_upd n)))
    · cases e
  · split at e
    · rename_i z
      cases e
      rw [rx.isStr, ry.isStr]
      exact .inr (.inr (.inr ⟨_, _, rfl, rfl, z, q H _ (Same.refl H) (Rep.str _)⟩))
    · cases e
  · cases e
def gI (f : Int → Int → Option Int) : D → D → Option D
  | .int i, .int j => (f i j).map .int
  | _, _ => none
theorem od_int {C : Int → Int → Prop} {g : Int → Int → Int} {f : Int → Int → Option Int} (hf : ∀ i j k, f i j = some k → C i j ∧ k = g i j) : OpD (rI C fun i j => .int (g i j)) (gI f) := by
  intro F H x y d v u Q rx ry e q
  unfold gI at e
  split at e
  · rename_i i j
    rw [rx.isInt, ry.isInt]
    cases h : f i j with
    | none => rw [h] at e; cases e
    | some k =>
      rw [h] at e; cases e
      obtain ⟨c, rfl⟩ := hf i j k h
      exact ⟨i, j, rfl, rfl, c, q H _ (Same.refl H) (Rep.int _)⟩
  · cases e
def fSub (i j : Int) : Option Int := some (i - j)
theorem od_sub : OpD (rI0 fun i j => .int (i - j)) (gI fSub) := by
  intro F H x y d v u Q rx ry e q
  unfold gI at e
  split at e
  · cases e
    rw [rx.isInt, ry.isInt]
    exact ⟨_, _, rfl, rfl, q H _ (Same.refl H) (Rep.int _)⟩
  · cases e
def fMod (i j : Int) : Option Int := if 0 < j then some (i % j) else none
theorem od_mod : OpD (rI (fun _ j => 0 < j) fun i j => .int (i % j)) (gI fMod) := od_int fun i j k e => by
  unfold fMod at e; split at e
  · cases e; exact ⟨by assumption, rfl⟩
  · cases e
instance (i j : Int) : Decidable (CDivW i j) := inferInstanceAs (Decidable (_ ∧ _))
instance (i j : Int) : Decidable (CMulW i j) := inferInstanceAs (Decidable (_ < _))
instance (i j : Int) : Decidable (CPow i j) := inferInstanceAs (Decidable (_ ∧ _ ∧ _))
def fDiv (i j : Int) : Option Int := if CDivW i j then some (i / j) else none
theorem od_div : OpD (rI CDivW fun i j => .int (i / j)) (gI fDiv) := od_int fun i j k e => by
  unfold fDiv at e; split at e
  · cases e; exact ⟨by assumption, rfl⟩
  · cases e
def fPow (i j : Int) : Option Int := if CPow i j then some (i ^ j.toNat) else none
theorem od_pow : OpD (rI CPow fun i j => .int (i ^ j.toNat)) (gI fPow) := od_int fun i j k e => by
  unfold fPow at e; split at e
  · cases e; exact ⟨by assumption, rfl⟩
  · cases e
instance (i j : Int) : Decidable (CMul i j) := inferInstanceAs (Decidable (_ ∨ _))
def gMul : D → D → Option D
  | .int i, .int j => if CMulW i j ∨ CMul i j then some (.int (i * j)) else none
  | .tup xs, .int k => if xs ≠ [] ∧ 2 ≤ k ∧ k ≤ 1000 ∧ xs.length ≤ 1000 then some (.tup (List.replicate k.toNat xs).flatten) else none
  | .lst xs, .int k => if -(2 ^ 63) ≤ k ∧ k < 2 ^ 63 ∧ xs.length * k.toNat ≤ sizeLine then some (.own (.lst (List.replicate k.toNat xs).flatten)) else none
  | _, _ => none
end
end DL

end DLm
section DLn
set_option Elab.async false
set_option linter.all false
set_option autoImplicit false
set_option maxRecDepth 100000
namespace DL
open PySem PySem.Spec PyProof.Rows L2

section
variable {K : PySem.W.Frag} {F : FS} {H : Hp} {X : Cx}
theorem Reps.rep {ds : List D} {vs : List V} (r : Reps F H ds vs) : ∀ k : Nat, Reps F H (List.replicate k ds).flatten (List.replicate k vs).flatten
  | 0 => .nil
  | k + 1 => by
    rw [List.replicate_succ, List.replicate_succ, List.flatten_cons, List.flatten_cons]
    exact r.append (Reps.rep r k)
def rMuls (K : PySem.W.Frag) : R2 := fun x y H Q => (rI CMulW (fun i j => .int (i * j)) x y H Q ∨ rI CMul (fun i j => .int (i * j)) x y H Q) ∨ rRepT K x y H Q ∨ rRep x y H Q
theorem or_muls : OpR X (binaryOp .Mult) (rMuls X.K) := (op_mulW.or op_mul).or (op_repT.or op_rep)
theorem od_mul : OpD (rMuls K) gMul := by
  intro F H x y d v u Q rx ry e q
  unfold gMul at e
  split at e
  · split at e
    · cases e
      rename_i hm
      rw [rx.isInt, ry.isInt]
      rcases hm with hm | hm
      · exact .inl (.inl ⟨_, _, rfl, rfl, hm, q H _ (Same.refl H) (Rep.int _)⟩)
      · exact .inl (.inr ⟨_, _, rfl, rfl, hm, q H _ (Same.refl H) (Rep.int _)⟩)
    · cases e
  · split at e
    · rename_i z
      cases e
      obtain ⟨a, vs, rfl, h, r⟩ := rx.isTup
      rw [ry.isInt]
      refine .inr (.inl ⟨a, _, vs, rfl, rfl, .inl (.inl h), fun n => ?_, z.2.1, z.2.2.1, by rw [← r.length]; exact z.2.2.2, fun p n => q _ _ (same_upd n) ?_⟩)
      · subst n; cases r; exact z.1 rfl
      · exact .tup upd_same ((r.rep _).le (Le.same (same_upd n)))
    · cases e
  · split at e
    · rename_i z
      cases e
      obtain ⟨a, vs, rfl, h, r⟩ := rx.isLst
      rw [ry.isInt]
      refine .inr (.inr ⟨a, _, vs, rfl, rfl, h, z.1, z.2.1, by rw [← r.length]; exact z.2.2, fun p n => q _ _ (same_upd n) ?_⟩)
      exact ⟨⟨p, _, rfl, upd_same, (r.rep _).le (Le.same (same_upd n))⟩, p, rfl, n⟩
    · cases e
  · cases e
def gNeg : D → Option D
  | .int i => some (.int (-i))
  | _ => none
theorem ud_neg : UnD (rU fun i => .int (-i)) gNeg := by
  intro F H x d v Q rx e q
  unfold gNeg at e
  split at e
  · cases e; rw [rx.isInt]; exact ⟨_, rfl, q H _ (Same.refl H) (Rep.int _)⟩
  · cases e

/-! ### comparisons -/
def gCmp (p : Int → Int → Bool) : D → D → Option D
  | .int i, .int j => some (.bl (p i j))
  | _, _ => none
theorem od_cmp {p : Int → Int → Bool} : OpD (rI0 fun i j => .bl (p i j)) (gCmp p) := by
  intro F H x y d v u Q rx ry e q
  unfold gCmp at e
  split at e
  · cases e
    rw [rx.isInt, ry.isInt]
    exact ⟨_, _, rfl, rfl, q H _ (Same.refl H) (Rep.bl _)⟩
  · cases e
abbrev gLt := gCmp fun i j => decide (i < j)
abbrev gLe := gCmp fun i j => decide (i ≤ j)
abbrev gGt := gCmp fun i j => decide (j < i)
abbrev gGe := gCmp fun i j => decide (j ≤ i)
/-- ==, != of data -/
def gEqB (x y : D) : Option Bool := (toP x).bind fun p => (toP y).bind fun q => if SeqAt.shaped p && SeqAt.shaped q then some (PyData.eqv p q) else none
def gEq (x y : D) : Option D := (gEqB x y).map .bl
def gNe (x y : D) : Option D := (gEqB x y).map fun b => .bl (!b)
theorem gEqB_of {x y : D} {b : Bool} (e : gEqB x y = some b) : ∃ p q, toP x = some p ∧ toP y = some q ∧ SeqAt.shaped p = true ∧ SeqAt.shaped q = true ∧ b = PyData.eqv p q := by
  unfold gEqB at e
  cases h1 : toP x with
  | none => rw [h1] at e; cases e
  | some p =>
    cases h2 : toP y with
    | none => rw [h1, h2] at e; cases e
    | some q =>
      rw [h1, h2] at e
      have e : (if (SeqAt.shaped p && SeqAt.shaped q) = true then some (PyData.eqv p q) else none) = some b := e
      split at e
      · rename_i z
        rw [Bool.and_eq_true] at z
        cases e
        exact ⟨p, q, rfl, rfl, z.1, z.2, rfl⟩
      · cases e
theorem od_eq : OpD (rEqD K) gEq := by
  intro F H x y d v u Q rx ry e q
  unfold gEq at e
  cases h : gEqB x y with
  | none => rw [h] at e; cases e
  | some b =>
    rw [h] at e; cases e
    obtain ⟨p, r, h1, h2, s1, s2, rfl⟩ := gEqB_of h
    exact ⟨p, r, rx.dp h1, ry.dp h2, s1, s2, q H _ (Same.refl H) (Rep.bl _)⟩
theorem od_ne : OpD (rNeD K) gNe := by
  intro F H x y d v u Q rx ry e q
  unfold gNe at e
  cases h : gEqB x y with
  | none => rw [h] at e; cases e
  | some b =>
    rw [h] at e; cases e
    obtain ⟨p, r, h1, h2, s1, s2, rfl⟩ := gEqB_of h
    exact ⟨p, r, rx.dp h1, ry.dp h2, s1, s2, q H _ (Same.refl H) (Rep.bl _)⟩
/-- is None -/
def isNonD : D → Bool
  | .non => true
  | _ => false
def gIsN (neg : Bool) : D → D → Option D := fun x y => match y with
  | .non => some (.bl (if neg then !isNonD x else isNonD x))
  | _ => none
theorem RepR.dec_non {d : D} {v : V} (r : RepR F H d v) : decide (v = .non) = isNonD d := by
  rcases r with r | r
  · cases r <;> rfl
  · obtain ⟨a, rfl⟩ := r.isref
    cases d <;> first | rfl | exact r.elim
theorem od_isN : OpD (fun x y H Q => y = .non ∧ Q (.bl (decide (x = .non))) H) (gIsN false) := by
  intro F H x y d v u Q rx ry e q
  unfold gIsN at e
  split at e
  · cases e
    exact ⟨ry.isNon, by rw [rx.dec_non]; exact q H _ (Same.refl H) (Rep.bl _)⟩
  · cases e
theorem od_notN : OpD (fun x y H Q => y = .non ∧ Q (.bl (!decide (x = .non))) H) (gIsN true) := by
  intro F H x y d v u Q rx ry e q
  unfold gIsN at e
  split at e
  · cases e
    exact ⟨ry.isNon, by rw [rx.dec_non]; exact q H _ (Same.refl H) (Rep.bl _)⟩
  · cases e
/-- in, not in: flat items of a list or tuple -/
def flatD : D → Option V
  | .non => some .non
  | .bl b => some (.bl b)
  | .int i => some (.int i)
  | .str x => some (.str x)
  | _ => none
def flatsD : List D → Option (List V)
  | [] => some []
  | d :: ds => (flatD d).bind fun v => (flatsD ds).bind fun vs => some (v :: vs)
theorem RepR.flat {d : D} {v w : V} (r : RepR F H d v) (e : flatD d = some w) : v = w ∧ flatV w = true := by
  cases d <;> first
    | (cases e; done)
    | (cases e; rcases r with r | r
       · cases r; exact ⟨rfl, rfl⟩
       · exact r.elim)
theorem Reps.flat : ∀ {ds : List D} {vs ws : List V}, Reps F H ds vs → flatsD ds = some ws → vs = ws ∧ ws.all flatV = true
  | _, _, _, .nil, e => by cases e; exact ⟨rfl, rfl⟩
  | d :: ds, _, ws, .cons r rs, e => by
    have e : (flatD d).bind (fun v => (flatsD ds).bind fun vs => some (v :: vs)) = some ws := e
    cases q : flatD d with
    | none => rw [q] at e; cases e
    | some y =>
      cases q2 : flatsD ds with
      | none => rw [q, q2] at e; cases e
      | some ys =>
        rw [q, q2] at e; cases e
        obtain ⟨h1, h2⟩ := RepR.flat (.inl r) q
        obtain ⟨h3, h4⟩ := Reps.flat rs q2
        subst h1 h3
        exact ⟨rfl, by rw [List.all_cons, h2, h4]; rfl⟩
def gIn (neg : Bool) (x y : D) : Option D := (flatD x).bind fun v => (seqOf y).bind fun ys => (flatsD ys).bind fun vs => some (.bl (if neg then !inV v vs else inV v vs))
theorem RepR.seq {d : D} {v : V} {xs : List D} (r : RepR F H d v) (e : seqOf d = some xs) : ∃ a vs, v = .ref a ∧ (SqL K H a vs ∨ SqT K H a vs) ∧ Reps F H xs vs := by
  cases d <;> cases e
  · obtain ⟨a, vs, rfl, h, rs⟩ := r.isTup
    exact ⟨a, vs, rfl, .inr (.inl (.inl h)), rs⟩
  · obtain ⟨a, vs, rfl, h, rs⟩ := r.isLst
    exact ⟨a, vs, rfl, .inl (.inl (.inl h)), rs⟩
theorem od_in {neg : Bool} : OpD (rIn K neg) (gIn neg) := by
  intro F H x y d v u Q rx ry e q
  unfold gIn at e
  cases h1 : flatD x with
  | none => rw [h1] at e; cases e
  | some w =>
    cases h2 : seqOf y with
    | none => rw [h1, h2] at e; cases e
    | some ys =>
      rw [h1, h2] at e
      have e : (flatsD ys).bind (fun vs => some (D.bl (if neg then !inV w vs else inV w vs))) = some d := e
      cases h3 : flatsD ys with
      | none => rw [h3] at e; cases e
      | some ws =>
        rw [h3] at e; cases e
        obtain ⟨a, vs, rfl, hs, rs⟩ := ry.seq h2
        obtain ⟨rfl, fx⟩ := rx.flat h1
        obtain ⟨rfl, fy⟩ := rs.flat h3
        exact ⟨a, vs, rfl, hs, fx, fy, q H _ (Same.refl H) (Rep.bl _)⟩

/-! ### subscripts -/
def gIx : D → D → Option D
  | .lst xs, .int k => L2.atI xs k
  | .tup xs, .int k => L2.atI xs k
  | .scr xs, .int k => L2.atI xs k
  | .str z, .int k => if z.length ≤ sizeLine then (L2.atI z.cps.toList k).map fun c => .str ⟨#[c]⟩ else none
  | _, _ => none
theorem Rep.toP' {d : D} {v : V} (r : Rep F H d v) : RepP F H H d v := by
  cases d with
  | own d => cases r
  | io d => cases r
  | bor j => cases r
  | non => exact r
  | bl => exact r
  | int => exact r
  | str => exact r
  | ref => exact r
  | tup => exact r
  | lst => exact r
  | scr => exact r
  | dct => exact r
  | ins => cases r
theorem od_ix : OpD (rIx K) gIx := by
  intro F H x y d v u Q rx ry e q
  unfold gIx at e
  split at e
  · obtain ⟨a, vs, rfl, h, r⟩ := rx.isLst
    rw [ry.isInt]
    obtain ⟨w, h1, h2⟩ := r.atI' e
    exact .inl ⟨a, vs, _, w, rfl, rfl, .inl (.inl h), h1, q H _ (Same.refl H) h2.toP'⟩
  · obtain ⟨a, vs, rfl, h, r⟩ := rx.isTup
    rw [ry.isInt]
    obtain ⟨w, h1, h2⟩ := r.atI' e
    exact .inr (.inl ⟨a, vs, _, w, rfl, rfl, .inl (.inl h), h1, q H _ (Same.refl H) h2.toP'⟩)
  · obtain ⟨a, o, vs, rfl, h, r⟩ := rx.isScr
    rw [ry.isInt]
    obtain ⟨w, h1, h2⟩ := r.atI' e
    exact .inl ⟨a, vs, _, w, rfl, rfl, .inl (.inr ⟨o, h⟩), h1, q H _ (Same.refl H) h2.toP'⟩
  · split at e
    · rename_i z k hz
      rw [rx.isStr, ry.isInt]
      cases h : L2.atI z.cps.toList k with
      | none => rw [h] at e; cases e
      | some c => rw [h] at e; cases e; exact .inr (.inr ⟨_, _, c, rfl, rfl, hz, h, q H _ (Same.refl H) (Rep.str _)⟩)
    · cases e
  · cases e

/-! ### built-in calls -/
def gLen : List D → Option D
  | [.lst xs] => some (.int (xs.length : Nat))
  | [.tup xs] => some (.int (xs.length : Nat))
  | [.scr xs] => some (.int (xs.length : Nat))
  | [.str z] => if z.length ≤ sizeLine then some (.int (z.length : Nat)) else none
  | _ => none
def rLens (K : PySem.W.Frag) : List V → Hp → VK → Prop := fun xs H Q => (∃ p ys, xs = [.ref p] ∧ (SqL K H p ys ∨ SqT K H p ys) ∧ Q (.int ys.length) H) ∨ ∃ z, xs = [.str z] ∧ z.length ≤ sizeLine ∧ Q (.int z.length) H
theorem cr_lens : CallR X (.builtin "len") (rLens X.K) := call_len_seq.or call_len_str
theorem cd_len : CbD (rLens K) gLen := by
  intro F H xs d vs Q r e q
  unfold gLen at e
  split at e
  · obtain ⟨v, rfl, rv⟩ := r.one
    cases e
    obtain ⟨a, vs, rfl, h, rs⟩ := rv.isLst
    exact .inl ⟨a, vs, rfl, .inl (.inl (.inl h)), by rw [← rs.length]; exact q H _ (Same.refl H) (Rep.int _)⟩
  · obtain ⟨v, rfl, rv⟩ := r.one
    cases e
    obtain ⟨a, vs, rfl, h, rs⟩ := rv.isTup
    exact .inl ⟨a, vs, rfl, .inr (.inl (.inl h)), by rw [← rs.length]; exact q H _ (Same.refl H) (Rep.int _)⟩
  · obtain ⟨v, rfl, rv⟩ := r.one
    cases e
    obtain ⟨a, o, vs, rfl, h, rs⟩ := rv.isScr
    exact .inl ⟨a, vs, rfl, .inl (.inl (.inr ⟨o, h⟩)), by rw [← rs.length]; exact q H _ (Same.refl H) (Rep.int _)⟩
  · obtain ⟨v, rfl, rv⟩ := r.one
    split at e
    · cases e
      rw [rv.isStr]
      exact .inr ⟨_, rfl, by assumption, q H _ (Same.refl H) (Rep.int _)⟩
    · cases e
  · cases e
/-- list(x), tuple(x) -/
def gList : List D → Option D
  | [.lst xs] => some (.own (.lst xs))
  | [.tup xs] => some (.own (.lst xs))
  | _ => none
def gTuple : List D → Option D
  | [.lst xs] => some (.tup xs)
  | [.tup xs] => some (.tup xs)
  | _ => none
theorem cd_list : CbD (fun xs H Q => ∃ p ys, xs = [.ref p] ∧ (SqL K H p ys ∨ SqT K H p ys) ∧ ∀ l, H l = none → Q (.ref l) (upd H l (.lst ys))) gList := by
  intro F H xs d vs Q r e q
  unfold gList at e
  split at e
  · obtain ⟨v, rfl, rv⟩ := r.one
    cases e
    obtain ⟨a, vs, rfl, h, rs⟩ := rv.isLst
    exact ⟨a, vs, rfl, .inl (.inl (.inl h)), fun l n => q _ _ (same_upd n) ⟨⟨l, vs, rfl, upd_same, rs.le (Le.same (same_upd n))⟩, l, rfl, n⟩⟩
  · obtain ⟨v, rfl, rv⟩ := r.one
    cases e
    obtain ⟨a, vs, rfl, h, rs⟩ := rv.isTup
    exact ⟨a, vs, rfl, .inr (.inl (.inl h)), fun l n => q _ _ (same_upd n) ⟨⟨l, vs, rfl, upd_same, rs.le (Le.same (same_upd n))⟩, l, rfl, n⟩⟩
  · cases e
theorem cd_tuple : CbD (fun xs H Q => ∃ p ys, xs = [.ref p] ∧ ((SqL K H p ys ∧ ∀ l, H l = none → Q (.ref l) (upd H l (.tup ys))) ∨ (SqT K H p ys ∧ Q (.ref p) H))) gTuple := by
  intro F H xs d vs Q r e q
  unfold gTuple at e
  split at e
  · obtain ⟨v, rfl, rv⟩ := r.one
    cases e
    obtain ⟨a, vs, rfl, h, rs⟩ := rv.isLst
    exact ⟨a, vs, rfl, .inl ⟨.inl (.inl h), fun l n => q _ _ (same_upd n) (.tup upd_same (rs.le (Le.same (same_upd n))))⟩⟩
  · obtain ⟨v, rfl, rv⟩ := r.one
    cases e
    obtain ⟨a, vs, rfl, h, rs⟩ := rv.isTup
    exact ⟨a, vs, rfl, .inr ⟨.inl (.inl h), q _ _ (Same.refl H) (.tup h rs)⟩⟩
  · cases e
/-- int(x), abs(x), min(x, y), max(x, y) -/
def gInt : List D → Option D
  | [.int i] => some (.int i)
  | [.bl b] => some (.int (if b then 1 else 0))
  | _ => none
theorem cd_int : CbD (fun xs H Q => (∃ i, xs = [.int i] ∧ Q (.int i) H) ∨ ∃ k, xs = [.bl k] ∧ Q (.int (if k then 1 else 0)) H) gInt := by
  intro F H xs d vs Q r e q
  unfold gInt at e
  split at e
  · obtain ⟨v, rfl, rv⟩ := r.one
    cases e; rw [rv.isInt]
    exact .inl ⟨_, rfl, q H _ (Same.refl H) (Rep.int _)⟩
  · obtain ⟨v, rfl, rv⟩ := r.one
    cases e; rw [rv.isBl]
    exact .inr ⟨_, rfl, q H _ (Same.refl H) (Rep.int _)⟩
  · cases e
def gAbs : List D → Option D
  | [.int i] => some (.int (if i < 0 then -i else i))
  | _ => none
theorem cd_abs : CbD (fun xs H Q => ∃ i, xs = [.int i] ∧ Q (.int (if i < 0 then -i else i)) H) gAbs := by
  intro F H xs d vs Q r e q
  unfold gAbs at e
  split at e
  · obtain ⟨v, rfl, rv⟩ := r.one
    cases e; rw [rv.isInt]
    exact ⟨_, rfl, q H _ (Same.refl H) (Rep.int _)⟩
  · cases e
def gMin2 : List D → Option D
  | [.int i, .int j] => some (.int (if j < i then j else i))
  | _ => none
theorem cd_min2 : CbD (fun xs H Q => ∃ i j, xs = [.int i, .int j] ∧ Q (.int (if j < i then j else i)) H) gMin2 := by
  intro F H xs d vs Q r e q
  unfold gMin2 at e
  split at e
  · obtain ⟨v, w, rfl, rv, rw'⟩ := r.two
    cases e; rw [rv.isInt, rw'.isInt]
    exact ⟨_, _, rfl, q H _ (Same.refl H) (Rep.int _)⟩
  · cases e
/-- all, any of a list of truths; sum of a list of intsD -/
def bls : List D → Option (List Bool)
  | [] => some []
  | .bl b :: ds => (bls ds).map (b :: ·)
  | _ => none
theorem bls_vals : ∀ {ds : List D} {vs : List V} {bs : List Bool}, Reps F H ds vs → bls ds = some bs → vs = bs.map V.bl
  | [], _, _, .nil, e => by cases e; rfl
  | d :: ds, _, bs, .cons r rs, e => by
    cases d <;> try (cases e; done)
    rename_i b
    have e : (bls ds).map (b :: ·) = some bs := e
    cases q : bls ds with
    | none => rw [q] at e; cases e
    | some cs =>
      rw [q] at e; cases e
      cases r
      rw [bls_vals rs q]; rfl
def intsD : List D → Option (List Int)
  | [] => some []
  | .int b :: ds => (intsD ds).map (b :: ·)
  | _ => none
theorem ints_vals : ∀ {ds : List D} {vs : List V} {bs : List Int}, Reps F H ds vs → intsD ds = some bs → vs = bs.map V.int
  | [], _, _, .nil, e => by cases e; rfl
  | d :: ds, _, bs, .cons r rs, e => by
    cases d <;> try (cases e; done)
    rename_i b
    have e : (intsD ds).map (b :: ·) = some bs := e
    cases q : intsD ds with
    | none => rw [q] at e; cases e
    | some cs =>
      rw [q] at e; cases e
      cases r
      rw [ints_vals rs q]; rfl
def gAllAny (f : List Bool → Bool) : List D → Option D
  | [.lst ds] => (bls ds).map fun bs => .bl (f bs)
  | _ => none
theorem cd_all : CbD (rAll K) (gAllAny fun bs => bs.all id) := by
  intro F H xs d vs Q r e q
  unfold gAllAny at e
  split at e
  · rename_i ds
    obtain ⟨v, rfl, rv⟩ := r.one
    obtain ⟨a, vs, rfl, h, rs⟩ := rv.isLst
    cases hb : bls ds with
    | none => rw [hb] at e; cases e
    | some bs =>
      rw [hb] at e; cases e
      have := bls_vals rs hb
      subst this
      exact ⟨a, bs, rfl, .inl (.inl h), q H _ (Same.refl H) (Rep.bl _)⟩
  · cases e
theorem cd_any : CbD (rAny K) (gAllAny fun bs => bs.any id) := by
  intro F H xs d vs Q r e q
  unfold gAllAny at e
  split at e
  · rename_i ds
    obtain ⟨v, rfl, rv⟩ := r.one
    obtain ⟨a, vs, rfl, h, rs⟩ := rv.isLst
    cases hb : bls ds with
    | none => rw [hb] at e; cases e
    | some bs =>
      rw [hb] at e; cases e
      have := bls_vals rs hb
      subst this
      exact ⟨a, bs, rfl, .inl (.inl h), q H _ (Same.refl H) (Rep.bl _)⟩
  · cases e
def gSum : List D → Option D
  | [.lst ds] => (intsD ds).map fun bs => .int bs.sum
  | _ => none
theorem cd_sum : CbD (rSum K) gSum := by
  intro F H xs d vs Q r e q
  unfold gSum at e
  split at e
  · rename_i ds
    obtain ⟨v, rfl, rv⟩ := r.one
    obtain ⟨a, vs, rfl, h, rs⟩ := rv.isLst
    cases hb : intsD ds with
    | none => rw [hb] at e; cases e
    | some bs =>
      rw [hb] at e; cases e
      have := ints_vals rs hb
      subst this
      exact ⟨a, bs, rfl, .inl (.inl h), q H _ (Same.refl H) (Rep.int _)⟩
  · cases e

/-! ### isinstance -/
def tyName : D → Option String
  | .non => some "NoneType"
  | .bl _ => some "bool"
  | .int _ => some "int"
  | .str _ => some "str"
  | .lst _ => some "list"
  | .scr _ => some "list"
  | .tup _ => some "tuple"
  | _ => none
theorem RepR.ty {d : D} {v : V} {n : String} (r : RepR F H d v) (e : tyName d = some n) : TyX K H v (.type n) := by
  cases d <;> cases e
  · rw [r.isNon]; exact .base .non
  · rw [r.isBl]; exact .base (.bl _)
  · rw [r.isInt]; exact .base (.int _)
  · rw [r.isStr]; exact .base (.str _)
  · obtain ⟨a, vs, rfl, h, _⟩ := r.isTup; exact .base (.tup h)
  · obtain ⟨a, vs, rfl, h, _⟩ := r.isLst; exact .base (.lst h)
  · obtain ⟨a, o, vs, rfl, h, _⟩ := r.isScr; exact .base (.frz h)
/-- what isinstance answers, by names -/
def isTy (n T : String) : Option Bool := match n, T with
  | "NoneType", "int" => some false | "NoneType", "bool" => some false | "NoneType", "str" => some false | "NoneType", "list" => some false | "NoneType", "tuple" => some false
  | "bool", "int" => some true | "bool", "bool" => some true | "bool", "str" => some false | "bool", "list" => some false | "bool", "tuple" => some false
  | "int", "int" => some true | "int", "bool" => some false | "int", "str" => some false | "int", "list" => some false | "int", "tuple" => some false
  | "str", "int" => some false | "str", "bool" => some false | "str", "str" => some true | "str", "list" => some false | "str", "tuple" => some false
  | "list", "int" => some false | "list", "bool" => some false | "list", "str" => some false | "list", "list" => some true | "list", "tuple" => some false
  | "tuple", "int" => some false | "tuple", "bool" => some false | "tuple", "str" => some false | "tuple", "list" => some false | "tuple", "tuple" => some true
  | _, _ => none
theorem kit_is {n T : String} {b : Bool} (h : isTy n T = some b) : kitB n T = some b := by
  unfold isTy at h
  split at h <;> first | (cases h; done) | (cases h; decide +kernel)
end
end DL

end DLn
section DLo
set_option Elab.async false
set_option linter.all false
set_option autoImplicit false
set_option maxRecDepth 100000
namespace DL
open PySem PySem.Spec PyProof.Rows L2

/-! ### set(xs) of a list of ints, as the set's order asks it -/
abbrev freshSet (w : World) : Obj := { cls := .type "set", dict := none, data := .set #[] 0 (.fresh 0 0 (!w.params.followText "set-order")) }
section
variable {P : Program} {w : World} {A : Around} {E : Value → Shared → Prop} {s : Shared}
/-- what stands behind the call -/
def SetMade (w : World) (s : Shared) (zs : List Int) (s2 : Shared) : Prop := ∃ g tk c, s2 = { s with heap := g, toks := tk } ∧ SetR w g s.heap.objs.size (fun j => decide (j ∈ zs)) c ∧ c ≤ zs.length ∧ ∀ b o, s.heap.get? b = some o → g.get? b = some o
theorem fill_set {l : Addr} {xs : Array Value} {zs : List Int} (hh : A.handled = none) (pl : s.heap.IsList l xs) (iz : IntsAre xs.toList zs) (few : zs.length + 1 < scanBound) :
    codeAny (model P w) A (.call (.builtin "set.__init__") ⟨[.ref s.heap.objs.size, .ref l], []⟩) (wants (fun r s2 => r = .none ∧ SetMade w s zs s2) E) { s with heap := s.heap.push (freshSet w) } := by
  have size : xs.size = zs.length := by rw [← Array.length_toList]; exact IntsAre.length iz
  have got : (s.heap.push (freshSet w)).get? s.heap.objs.size = some (freshSet w) := Heap.get?_push_size _ rfl
  have ty : Shared.TypeIs { s with heap := s.heap.push (freshSet w) } (.ref s.heap.objs.size) "set" := ⟨_, got, rfl⟩
  refine codeAny_call_builtin F.called_set.init.plain F.entry_set_init (check_set_init_1 ty ?_)
  obtain ⟨⟨oc, od, odt, osl⟩, ho, hc, nl, hdt⟩ := pl
  simp only at hdt hc
  subst hdt hc
  have lt : l < s.heap.objs.size := Heap.lt_size ho
  have ho2 : (s.heap.push (freshSet w)).get? l = some { cls := .type "list", dict := od, data := .seq xs nl, slots := osl } := Heap.get?_push_of_some _ ho
  have pl2 : (s.heap.push (freshSet w)).IsList l xs := ⟨_, ho2, rfl, nl, rfl⟩
  have k1 := F.sub_list_set
  have k2 := F.sub_list_frozenset
  have k3 : (Value.type "list" == Value.type "dict") = false := by decide
  unfold Builtin.«set.__init__» noKeywords Builtin.Frozenset.updateFrom
  generalize hit : pyIter = walkOf
  wp_walk
  subst hit
  refine wpAny_pyIter_list pl2 (wpAny_bind (wpAny_runValue ?_))
  have at1 : (s.heap.push (freshSet w)).objs.size = s.heap.objs.size + 1 := Heap.size_push ..
  have away : l ≠ (s.heap.push (freshSet w)).objs.size := by rw [at1]; exact Nat.ne_of_lt (Nat.lt_succ_of_lt lt)
  have free : s.heap.objs.size ∉ [(s.heap.push (freshSet w)).objs.size, l] := fun z => by
    rw [at1] at z
    rcases List.mem_cons.mp z with z | z
    · exact absurd z (Nat.ne_of_lt (Nat.lt_succ_self _))
    · exact absurd (List.mem_singleton.mp z) (Nat.ne_of_gt lt)
  have item : ∀ (i : Nat) (v : Value), xs[i]? = some v → ∃ k t, zs[i]? = some k ∧ v = .int k t := fun i v hv => by
    have lti : i < zs.length := by rw [← size]; exact (Array.getElem?_eq_some_iff.mp hv).1
    obtain ⟨t, e⟩ := PyProof.Rows.IntsAre.int_at iz i v (by rw [Array.getElem?_toList]; exact hv)
    exact ⟨zs[i], t, List.getElem?_eq_getElem lti, by rw [e, List.getD_eq_getElem?_getD, List.getElem?_eq_getElem lti] <;> rfl⟩
  have calm3 : A.in1.in1.handled = none := by simp [hh]
  refine set_update_ints (Walks.list calm3 _ l away xs).toS s.heap.objs.size free zs size few item (xs.size - 0) 0 _ rfl (Nat.zero_le _) ?_ ?_ ?_
  · exact ⟨⟨_, Heap.get?_push_size _ rfl, rfl, rfl⟩, pl2.push _⟩
  · exact ⟨0, Nat.le_refl 0, setR_new_at (Heap.get?_push_of_some _ got)⟩
  intro s3 c mv hc made
  have eg := mv.gens
  have ed := mv.drawn
  have eo := mv.os
  obtain ⟨g, g2, d2, tk, os2⟩ := s3
  cases eg
  cases ed
  cases eo
  show wpAny _ _ _ _ _ _
  refine wpAny_pure ?_
  show wpAny _ _ (ret Value.none) _ _ _
  rw [size] at hc
  refine wpAny_pure ⟨rfl, g, tk, c, rfl, made, hc, fun b o e => ?_⟩
  have ltb : b < s.heap.objs.size := Heap.lt_size e
  refine mv.heap b o (fun z => ?_) (Heap.get?_push_of_some _ (Heap.get?_push_of_some _ e))
  rw [at1] at z
  rcases List.mem_cons.mp z with z | z
  · exact absurd z (Nat.ne_of_lt ltb)
  · exact absurd (List.mem_singleton.mp z) (Nat.ne_of_lt (Nat.lt_succ_of_lt ltb))
theorem set_of_list {l : Addr} {xs : Array Value} {zs : List Int} {Q : Value → Shared → Prop} (hh : A.handled = none) (pl : s.heap.IsList l xs) (iz : IntsAre xs.toList zs) (few : zs.length + 1 < scanBound)
    (h : ∀ s2, SetMade w s zs s2 → Q (.ref s.heap.objs.size) s2) : wpAny (model P w) A (call (.type "set") [.ref l]) Q E s := by
  obtain ⟨c, tl, hmro⟩ := F.called_set.mro
  have m1 := F.called_set.made
  have m2 := F.called_set.sub
  have m3 := F.called_set.notType
  have m4 := F.called_set.canCreate
  have m5 := F.typeCall_set_1 (.ref l)
  refine wpAny_call (codeAny_of_tree ?_)
  show wpAny _ _ (callAny (.type "set") _) _ _ _
  refine wpAny_pure ⟨Code.quiet_builtin _ (by decide +kernel), codeAny_builtin F.entry_type_call ?_⟩
  rw [Around.under_plain (weight_type_call_type "set" [.ref l] []) rfl]
  repeat (any_goals (first | assumption | wp_step))
  refine codeAny_mono (code_set_led1 (.ref l) (E := E) (Q₁ := fun z s1 => z = .ref s.heap.objs.size ∧ s1 = { s with heap := s.heap.push (freshSet w) }) ⟨rfl, rfl⟩) fun r s1 hr => ?_
  rcases r with x | (z | _ | _ | _) <;> first | exact hr | exact hr.elim | skip
  obtain ⟨rfl, rfl⟩ := hr
  have got : (s.heap.push (freshSet w)).get? s.heap.objs.size = some (freshSet w) := Heap.get?_push_size _ rfl
  have ty : Shared.TypeIs { s with heap := s.heap.push (freshSet w) } (.ref s.heap.objs.size) "set" := ⟨_, got, rfl⟩
  have i1 := F.called_set.init.lookup
  have i2 := F.called_set.init.bind (.ref s.heap.objs.size)
  repeat (any_goals (first | assumption | wp_step))
  refine codeAny_mono (fill_set (A := _) (E := E) ?_ pl iz few) fun r s2 hr => ?_
  · simp [hh]
  · rcases r with x | (z | _ | _ | _) <;> first | exact hr | exact hr.elim | skip
    obtain ⟨rfl, made⟩ := hr
    have made2 := made
    obtain ⟨g, tk, c, rfl, _⟩ := made2
    repeat (any_goals (first | assumption | wp_step))
    exact h _ made
end
end DL

end DLo
section DLp
set_option Elab.async false
set_option linter.all false
set_option autoImplicit false
set_option maxRecDepth 100000
namespace DL
open PySem PySem.Spec PyProof.Rows L2

/-! ### ascending, each once -/
def insU (x : Int) : List Int → List Int
  | [] => [x]
  | y :: ys => if x < y then x :: y :: ys else if x = y then y :: ys else y :: insU x ys
def sortU (ns : List Int) : List Int := ns.foldr insU []
theorem insU_mem (x z : Int) : ∀ ys : List Int, z ∈ insU x ys ↔ z = x ∨ z ∈ ys
  | [] => by simp [insU]
  | y :: ys => by
    unfold insU
    split
    · simp
    · split
      · rename_i h; subst h; simp
      · simp only [List.mem_cons, insU_mem x z ys]
        constructor
        · rintro (h | h | h) <;> simp [h]
        · rintro (h | h | h) <;> simp [h]
theorem insU_up (x : Int) : ∀ ys : List Int, ys.Pairwise (· < ·) → (insU x ys).Pairwise (· < ·)
  | [], _ => by simp [insU]
  | y :: ys, h => by
    obtain ⟨h1, h2⟩ := List.pairwise_cons.mp h
    unfold insU
    split
    · rename_i hx
      refine List.pairwise_cons.mpr ⟨fun z hz => ?_, h⟩
      rcases List.mem_cons.mp hz with e | e
      · omega
      · have := h1 z e; omega
    · split
      · exact h
      · refine List.pairwise_cons.mpr ⟨fun z hz => ?_, insU_up x ys h2⟩
        rcases (insU_mem x z ys).mp hz with e | e
        · omega
        · exact h1 z e
theorem sortU_mem (z : Int) (ns : List Int) : z ∈ sortU ns ↔ z ∈ ns := by
  induction ns with
  | nil => simp [sortU]
  | cons x ns ih =>
    show z ∈ insU x (sortU ns) ↔ _
    rw [insU_mem, ih, List.mem_cons]
theorem sortU_up (ns : List Int) : (sortU ns).Pairwise (· < ·) := by
  induction ns with
  | nil => simp [sortU]
  | cons x ns ih => exact insU_up x _ ih
theorem up_one : ∀ {l m : List Int}, l.Pairwise (· < ·) → m.Pairwise (· < ·) → (∀ z, z ∈ l ↔ z ∈ m) → l = m
  | [], [], _, _, _ => rfl
  | [], y :: m, _, _, h => by have := (h y).mpr List.mem_cons_self; cases this
  | x :: l, [], _, _, h => by have := (h x).mp List.mem_cons_self; cases this
  | x :: l, y :: m, hl, hm, h => by
    obtain ⟨l1, l2⟩ := List.pairwise_cons.mp hl
    obtain ⟨m1, m2⟩ := List.pairwise_cons.mp hm
    have hx : x = y := by
      rcases List.mem_cons.mp ((h x).mp List.mem_cons_self) with e | e
      · exact e
      · rcases List.mem_cons.mp ((h y).mpr List.mem_cons_self) with e2 | e2
        · exact e2.symm
        · have a := m1 x e
          have b := l1 y e2
          omega
    subst hx
    refine congrArg (x :: ·) (up_one l2 m2 fun z => ?_)
    have hz := h z
    constructor
    · intro e
      rcases List.mem_cons.mp (hz.mp (List.mem_cons_of_mem _ e)) with q | q
      · subst q; exact absurd (l1 _ e) (Int.lt_irrefl _)
      · exact q
    · intro e
      rcases List.mem_cons.mp (hz.mpr (List.mem_cons_of_mem _ e)) with q | q
      · subst q; exact absurd (m1 _ e) (Int.lt_irrefl _)
      · exact q

section
variable {X : Cx} {G : Gh} {F : FS} {H : Hp} {e : Expr}
/-! ### sorted(set(xs)) -/
def rSetL (K : PySem.W.Frag) (w : World) : List V → Hp → VK → Prop := fun xs H Q => ∃ (l : Addr) (ns : List Int), xs = [.ref l] ∧ (SqL K H l (ns.map V.int) ∨ SqT K H l (ns.map V.int)) ∧ ns.length < 64 ∧
  ∀ p n, H p = none → n ≤ ns.length → Q (.ref p) (upd H p (SetO w p (fun j => decide (j ∈ ns)) n))
theorem cr_setL (hc : X.calm = true) : CallR X (.type "set") (rSetL X.K X.w) := by
  intro pins s σ H vs us Q I r h
  obtain ⟨l, ns, rfl, hs, few, q⟩ := h
  rw [Vals.ref1 r]
  have hsc : ns.length + 1 < scanBound := by unfold scanBound; omega
  rcases hs with hs | hs
  · obtain ⟨its, rv, hl, _⟩ := I.list hs
    refine set_of_list (I.ok.hd hc) hl.isList (by simpa using rv.ints) hsc fun s2 ⟨g, tk, c, e, R, hc', k⟩ => ?_
    subst e
    exact ⟨.ref s.heap.objs.size, _, I.laid (t' := tk) k (Nat.le_refl _) (setO_new R), rfl, q _ c I.fresh hc'⟩
  · obtain ⟨its, rv, hl, _⟩ := I.tuple hs
    refine call_set_tupI ns (I.ok.hd hc) (show s.heap.IsTuple l its.toArray from hl) (by simpa using rv.ints) hsc fun g tk c R hc' k => ?_
    exact ⟨.ref s.heap.objs.size, _, I.laid (t' := tk) k (Nat.le_refl _) (setO_new R), rfl, q _ c I.fresh hc'⟩
def gSortSet : List D → Option D
  | [d] => (seqOf d).bind fun ds => (intsD ds).bind fun ns => if ns.length < 64 then some (.own (.lst ((sortU ns).map .int))) else none
  | _ => none
theorem Reps.ofInts {F : FS} {H : Hp} : ∀ ns : List Int, Reps F H (ns.map D.int) (ns.map V.int)
  | [] => .nil
  | n :: ns => .cons (.int n) (Reps.ofInts ns)
theorem gSortSet_imp {K : PySem.W.Frag} {w : World} {ms : MA} (σ : L2.St) (H : Hp) (Q : VK) (q : tOf G (cb gSortSet ms) σ H Q) : tCB (rSortedSet w) (tCons (tCB (rSetL K w) (tOfA G ms)) tNil) σ H Q := by
  refine cb_imp (r := fun vs H1 Q => rSetL K w vs H1 fun x H2 => rSortedSet w [x] H2 Q) ?_ σ H Q q
  intro F H xs d vs Q r e q
  unfold gSortSet at e
  split at e
  · rename_i x
    obtain ⟨v, rfl, rv⟩ := r.one
    cases h1 : seqOf x with
    | none => rw [h1] at e; cases e
    | some ds =>
      rw [h1] at e
      have e : (intsD ds).bind (fun ns => if ns.length < 64 then some (D.own (.lst ((sortU ns).map .int))) else none) = some d := e
      cases h2 : intsD ds with
      | none => rw [h2] at e; cases e
      | some ns =>
        rw [h2] at e
        have e : (if ns.length < 64 then some (D.own (.lst ((sortU ns).map .int))) else none) = some d := e
        split at e
        · rename_i few
          cases e
          obtain ⟨a, us, rfl, hs, rs⟩ := rv.seq h1
          have := ints_vals rs h2
          subst this
          refine ⟨a, ns, rfl, hs, few, fun p n hp hn => ⟨p, _, n, rfl, upd_same, by omega, fun zs p2 up mem _ hp2 => ?_⟩⟩
          have ez : zs = sortU ns := up_one up (sortU_up ns) fun z => by rw [mem z, sortU_mem]; simp
          subst ez
          have s1 : Same H (upd H p (SetO w p (fun j => decide (j ∈ ns)) n)) := same_upd hp
          have s2 := s1.trans (same_upd (o := .lst ((sortU ns).map V.int)) hp2)
          exact q _ _ s2 ⟨⟨p2, _, rfl, upd_same, .ofInts _⟩, p2, rfl, Same.free s1 hp2⟩
        · cases e
  · cases e
theorem de_sortSet {a : Expr} {m : ME} {p p2 q2 pos : Pos} (hc : X.calm = true) (hg : Gl X "sorted") (hm : X.mg "sorted" = none) (hg2 : Gl X "set") (hm2 : X.mg "set" = none) (ha : DE X G a m)
    (h1 : starEach [Expr.Call (.Name "set" p2) [a] [] q2] X.env = (false, eval (Expr.Call (.Name "set" p2) [a] [] q2) X.env) :: starEach [] X.env := by rfl) (h2 : starEach [a] X.env = (false, eval a X.env) :: starEach [] X.env := by rfl) :
    DE X G (.Call (.Name "sorted" p) [.Call (.Name "set" p2) [a] [] q2] [] pos) (cb gSortSet (aCons m aNil)) :=
  pe_imp (pe_callB (cr_sortedSet hc) hg hm boot_sorted (pa_cons (pe_callTy (cr_setL hc) hg2 hm2 boot_set (da_cons ha da_nil h2) (by decide) (by decide) h2 rfl) pa_nil h1) (by decide) (by decide) h1 rfl) (gSortSet_imp (K := X.K) (w := X.w))

/-! ### sorted(xs) of data -/
def encD (d : D) : PyData := (toP d).getD .none
def rSortD : List V → Hp → VK → Prop := fun vs H Q => ∃ (a : Addr) (ws : List V) (F : FS) (ds : List D) (ps : List PyData), vs = [.ref a] ∧ H a = some (.lst ws) ∧ Reps F H ds ws ∧ toPs ds = some ps ∧ PySem.W.AllAlike ps ∧ PySem.W.Sortable ps ∧ (∀ p ∈ ps, p.depth ≤ 60) ∧
  ∀ p zs, H p = none → Reps F H (ds.mergeSort (PySem.W.dataLe false encD)) zs → Q (.ref p) (upd H p (.lst zs))
theorem toPs_map : ∀ {ds : List D} {ps : List PyData}, toPs ds = some ps → ps = ds.map encD
  | [], _, e => by cases e; rfl
  | d :: ds, ps, e => by
    have e : (toP d).bind (fun y => (toPs ds).bind fun ys => some (y :: ys)) = some ps := e
    cases q : toP d with
    | none => rw [q] at e; cases e
    | some y =>
      cases q2 : toPs ds with
      | none => rw [q, q2] at e; cases e
      | some ys =>
        rw [q, q2] at e; cases e
        rw [List.map_cons, ← toPs_map q2]
        unfold encD; rw [q]; rfl
theorem each_of {K : PySem.W.Frag} {F : FS} {H : Hp} : ∀ {ds : List D} {ws : List V} {us : List Value}, Reps F H ds ws → Vals ws us → PySem.W.EachIs (fun u d => ∃ w, RelV w u ∧ Rep F H d w) us ds
  | _, _, _, .nil, .nil => .nil
  | _, _, _, .cons r rs, .cons q qs => .cons ⟨_, q, r⟩ (each_of (K := K) rs qs)
theorem of_each {F : FS} {H : Hp} : ∀ {ds : List D} {us : List Value}, PySem.W.EachIs (fun u d => ∃ w, RelV w u ∧ Rep F H d w) us ds → ∃ ws, Reps F H ds ws ∧ Vals ws us
  | _, _, .nil => ⟨[], .nil, .nil⟩
  | _, _, .cons ⟨w, q, r⟩ t => by
    obtain ⟨ws, rs, qs⟩ := of_each t
    exact ⟨w :: ws, .cons r rs, .cons q qs⟩
theorem each_reads {pins : List (Addr × Obj)} {σ : L2.St} {s : Shared} (I : Inv X pins σ H s) : ∀ {ds : List D} {ws : List V} {us : List Value} {ps : List PyData}, Reps F H ds ws → Vals ws us → toPs ds = some ps → PySem.W.EachIs (fun u d => ∃ as, Reads s.heap u (encD d) as) us ds
  | _, _, _, _, .nil, .nil, _ => .nil
  | d :: ds, _, _, ps, .cons r rs, .cons q qs, e => by
    have e : (toP d).bind (fun y => (toPs ds).bind fun ys => some (y :: ys)) = some ps := e
    cases q1 : toP d with
    | none => rw [q1] at e; cases e
    | some y =>
      cases q2 : toPs ds with
      | none => rw [q1, q2] at e; cases e
      | some ys =>
        refine .cons ?_ (each_reads I rs qs q2)
        unfold encD
        rw [q1]
        exact Dp.reads I y _ _ (r.dp q1) q
theorem cr_sortD (hu : X.A.units + 64 < cLine) : CallR X (.builtin "sorted") rSortD := by
  intro pins s σ H vs us Q I r h
  obtain ⟨a, ws, F, ds, ps, rfl, ha, rs, hp, al, so, dep, q⟩ := h
  rw [Vals.ref1 r]
  obtain ⟨its, rv, hl, hz⟩ := I.list (.inl (.inl ha) : SqL X.K H a ws)
  have e0 := toPs_map hp
  refine PySem.W.sorted_data (bs := ds) (enc := encD) (R := fun u d => ∃ w, RelV w u ∧ Rep F H d w) hl.isList (each_of (K := X.K) rs rv) (each_reads I rs rv hp) (by rw [← e0]; exact al) (by rw [← e0]; exact so) (by rw [rs.length]; exact hz) (fun b hb => ?_) fun out hlen hout => ?_
  · have := dep (encD b) (by rw [e0]; exact List.mem_map_of_mem hb)
    omega
  · obtain ⟨zs, rz, vz⟩ := of_each hout
    obtain ⟨ep, he'⟩ := PyProof.Rows.sortedAll_at s.heap its out.toArray
    exact ⟨.ref _, upd H (s.heap.objs.size + 1) (.lst zs), I.laid (t' := s.toks) (fun _ _ => PyProof.Rows.sortedAll_old) (Nat.le_succ _) ⟨by rw [vz.length, hlen, rs.length]; exact hz, out, ep, vz, he'⟩, rfl, q _ _ (I.hok.fresh (Nat.le_succ _)) rz⟩
/-- may they be sorted -/
def sortOk (ps : List PyData) : Bool := (ps.all fun p => ps.all fun q => PySem.W.alike p q) && ((ps.all fun p => match p with | .tuple (_ :: _) => true | _ => false) || (ps.all fun p => match p with | .none => false | .tuple _ => false | _ => true)) && (ps.all fun p => decide (p.depth ≤ 60))
theorem sortOk_of {ps : List PyData} (h : sortOk ps = true) : PySem.W.AllAlike ps ∧ PySem.W.Sortable ps ∧ ∀ p ∈ ps, p.depth ≤ 60 := by
  unfold sortOk at h
  simp only [Bool.and_eq_true, Bool.or_eq_true, List.all_eq_true, decide_eq_true_eq] at h
  obtain ⟨⟨h1, h2⟩, h3⟩ := h
  refine ⟨fun d hd d' hd' => h1 d hd d' hd', ?_, h3⟩
  rcases h2 with h2 | h2
  · refine .inl fun d hd => ?_
    have := h2 d hd
    split at this
    · exact ⟨_, _, rfl⟩
    · cases this
  · refine .inr fun d hd => ?_
    have := h2 d hd
    split at this
    · cases this
    · cases this
    · rename_i a b
      exact ⟨a, b⟩
def gSort : List D → Option D
  | [.lst ds] => (toPs ds).bind fun ps => if sortOk ps then some (.own (.lst (ds.mergeSort (PySem.W.dataLe false encD)))) else none
  | _ => none
theorem cd_sort : CbD rSortD gSort := by
  intro F H xs d vs Q r e q
  unfold gSort at e
  split at e
  · rename_i ds
    obtain ⟨v, rfl, rv⟩ := r.one
    obtain ⟨a, ws, rfl, h, rs⟩ := rv.isLst
    cases hp : toPs ds with
    | none => rw [hp] at e; cases e
    | some ps =>
      rw [hp] at e
      have e : (if sortOk ps then some (D.own (.lst (ds.mergeSort (PySem.W.dataLe false encD)))) else none) = some d := e
      split at e
      · rename_i ok
        cases e
        obtain ⟨a1, a2, a3⟩ := sortOk_of ok
        exact ⟨a, ws, F, ds, ps, rfl, h, rs, hp, a1, a2, a3, fun p zs n rz => q _ _ (same_upd n) ⟨⟨p, zs, rfl, upd_same, rz.le (Le.same (same_upd n))⟩, p, rfl, n⟩⟩
      · cases e
  · cases e
end
end DL

end DLp
section DLq
set_option Elab.async false
set_option linter.all false
set_option autoImplicit false
set_option maxRecDepth 100000
namespace DL
open PySem PySem.Spec PyProof.Rows L2

section
variable {X : Cx} {G : Gh} {F : FS} {H : Hp} {e : Expr} {es : List Expr}
/-! ### isinstance -/
def gIsi (T : String) (d : D) : Option D := (tyName d).bind fun n => (isTy n T).map .bl
theorem de_isi {T : String} {x : Str} {m : ME} {p p2 pos : Pos} (hg : Gl X "isinstance") (hm : X.mg "isinstance" = none) (he : DE X G e m) (hg2 : Gl X x) (hm2 : X.mg x = none) (hv : bootBuiltins x = some (.type T))
    (hn : x ≠ "__name__" := by decide) (hdb : (x == ("__debug__" : Str)) = false := by decide)
    (h1 : starEach [e, .Name x p2] X.env = (false, eval e X.env) :: starEach [.Name x p2] X.env := by rfl) (h2 : starEach [.Name x p2] X.env = (false, eval (.Name x p2) X.env) :: starEach [] X.env := by rfl) (hpl : (backTo pos (starEach [.Name x p2] X.env)).any (·.1) = false := by rfl) :
    DE X G (.Call (.Name "isinstance" p) [e, .Name x p2] [] pos) (un (gIsi T) m) :=
  pe_imp (pe_callB call_isi hg hm boot_isinstance (pa_cons he (pa_cons (pe_bltn (v := .ty T) hg2 hm2 hv rfl hn hdb) pa_nil h2) h1) (by decide) (by decide) h1 hpl) fun σ H Q q => by
    refine un_imp (r := fun v H1 Q => rIsi X.K [v, .ty T] H1 Q) ?_ σ H Q q
    intro F H x d v Q r e q
    unfold gIsi at e
    cases h1 : tyName x with
    | none => rw [h1] at e; cases e
    | some n =>
      rw [h1] at e
      have e : (isTy n T).map D.bl = some d := e
      cases h2 : isTy n T with
      | none => rw [h2] at e; cases e
      | some b =>
        rw [h2] at e; cases e
        exact ⟨v, .ty T, .type n, .type T, b, rfl, .ty T, r.ty h1, kit_ty (kit_is h2), q H _ (Same.refl H) (Rep.bl _)⟩
def gIsi2 (T U : String) (d : D) : Option D := (tyName d).bind fun n => (isTy n T).bind fun a => (isTy n U).bind fun b => some (.bl (a || b))
theorem de_isi2 {T U : String} {x y : Str} {m : ME} {k : Nat} {p p2 p3 p4 pos : Pos} (hg : Gl X "isinstance") (hm : X.mg "isinstance" = none) (he : DE X G e m) (hg2 : Gl X x) (hm2 : X.mg x = none) (hv : bootBuiltins x = some (.type T)) (hg3 : Gl X y) (hm3 : X.mg y = none) (hv3 : bootBuiltins y = some (.type U))
    (hn : x ≠ "__name__" := by decide) (hdb : (x == ("__debug__" : Str)) = false := by decide) (hn3 : y ≠ "__name__" := by decide) (hdb3 : (y == ("__debug__" : Str)) = false := by decide)
    (h1 : starEach [e, .Tuple [.Name x p2, .Name y p3] k p4] X.env = (false, eval e X.env) :: starEach [.Tuple [.Name x p2, .Name y p3] k p4] X.env := by rfl) (h2 : starEach [.Tuple [.Name x p2, .Name y p3] k p4] X.env = (false, eval (.Tuple [.Name x p2, .Name y p3] k p4) X.env) :: starEach [] X.env := by rfl)
    (h3 : starEach [.Name x p2, .Name y p3] X.env = (false, eval (.Name x p2) X.env) :: starEach [.Name y p3] X.env := by rfl) (h4 : starEach [.Name y p3] X.env = (false, eval (.Name y p3) X.env) :: starEach [] X.env := by rfl)
    (hpl : (backTo pos (starEach [.Tuple [.Name x p2, .Name y p3] k p4] X.env)).any (·.1) = false := by rfl) :
    DE X G (.Call (.Name "isinstance" p) [e, .Tuple [.Name x p2, .Name y p3] k p4] [] pos) (un (gIsi2 T U) m) :=
  pe_imp (pe_callB call_isiT hg hm boot_isinstance (pa_cons he (pa_cons (pe_tup (pa_cons (pe_bltn (v := .ty T) hg2 hm2 hv rfl hn hdb) (pa_cons (pe_bltn (v := .ty U) hg3 hm3 hv3 rfl hn3 hdb3) pa_nil h4) h3)) pa_nil h2) h1) (by decide) (by decide) h1 hpl) fun σ H Q q => by
    refine un_imp (r := fun v H1 Q => [V.ty T, V.ty U].length ≤ sizeLine ∧ ∀ p, H1 p = none → rIsiT X.K [v, .ref p] (upd H1 p (.tup [.ty T, .ty U])) Q) ?_ σ H Q q
    intro F H x d v Q r e q
    refine ⟨by show 2 ≤ sizeLine; rw [sizeLine_eq]; omega, fun p n => ?_⟩
    unfold gIsi2 at e
    cases h1 : tyName x with
    | none => rw [h1] at e; cases e
    | some n' =>
      rw [h1] at e
      have e : (isTy n' T).bind (fun a => (isTy n' U).bind fun b => some (D.bl (a || b))) = some d := e
      cases h2 : isTy n' T with
      | none => rw [h2] at e; cases e
      | some a =>
        cases h3 : isTy n' U with
        | none => rw [h2, h3] at e; cases e
        | some b =>
          rw [h2, h3] at e; cases e
          have r2 : RepR F (upd H p (.tup [.ty T, .ty U])) x v := by
            rcases r with r | r
            · exact .inl (r.le (Le.same (same_upd n)))
            · obtain ⟨c, rfl⟩ := r.isref
              refine .inr (r.le (Le.same (same_upd n)) fun b e => ?_)
              cases e
              rw [upd_ne fun z => r.there (by rw [z]; exact n)]
          refine ⟨v, p, _, .type n', [.type T, .type U], a || b, rfl, upd_same, .cons (.ty T) (.cons (.ty U) .nil), r2.ty h1, ?_, q _ _ (same_upd n) (Rep.bl _)⟩
          refine kitAny_cons (kit_ty (kit_is h2)) (fun ea => ?_) fun ea => by rw [ea]; rfl
          rw [ea]
          exact kitAny_cons (b := b) (kit_ty (kit_is h3)) (fun eb => by rw [eb]; rfl) fun eb => by rw [eb]; rfl

/-! ### a op b op c -/
def chain (g g' : D → D → Option D) (ma mb mc : ME) : ME := fun ls => (val ma ls).bind fun p => (val mb p.2).bind fun q =>
  (opt (see q.2 p.1)).bind fun x => (opt (see q.2 q.1)).bind fun y => match g x y with
    | some (.bl true) => (val mc q.2).bind fun r => (opt (see r.2 q.1)).bind fun y => (opt (see r.2 r.1)).bind fun z => (opt (g' y z)).bind fun d => .ok (d, r.2)
    | some (.bl false) => .ok (.bl false, q.2)
    | _ => .stuck
theorem chain_imp {r r' : R2} {g g' : D → D → Option D} (hg : OpD r g) (hg' : OpD r' g') {ma mb mc : ME} (σ : L2.St) (H : Hp) (Q : VK) (q : tOf G (chain g g' ma mb mc) σ H Q) : tChain r r' (tOf G ma) (tOf G mb) (tOf G mc) σ H Q := by
  obtain ⟨F, ls, L, o⟩ := q
  refine tOf.settled L o fun F1 H1 ls1 d v p L1 r1 o1 => ?_
  refine tOf.settled L1 o1 fun F2 H2 ls2 d2 u p2 L2 r2 o2 => ?_
  dsimp only at o2
  cases e1 : see ls2 d with
  | none => rw [e1] at o2; exact o2.elim
  | some x =>
    cases e2 : see ls2 d2 with
    | none => rw [e1, e2] at o2; exact o2.elim
    | some y =>
      rw [e1, e2] at o2
      simp only [opt_some, Res.bind_ok] at o2
      split at o2
      · rename_i e3
        refine hg F2 H2 x y _ v u _ (see_rep L2 (r1.le p2) e1) (see_rep L2 r2 e2) e3 fun H3 w s3 rw' => ?_
        cases (show Rep F2 H3 (.bl true) w from rw')
        refine ⟨true, rfl, ?_⟩
        rw [if_pos rfl]
        refine tOf.settled (L2.same s3) (Out.later (Le.same s3) o2) fun F4 H4 ls4 d4 v4 p4 L4 r4 o4 => ?_
        dsimp only at o4
        cases e4 : see ls4 d2 with
        | none => rw [e4] at o4; exact o4.elim
        | some y' =>
          cases e5 : see ls4 d4 with
          | none => rw [e4, e5] at o4; exact o4.elim
          | some z =>
            rw [e4, e5] at o4
            simp only [opt_some, Res.bind_ok] at o4
            cases e6 : g' y' z with
            | none => rw [e6] at o4; exact o4.elim
            | some d6 =>
              rw [e6] at o4
              exact hg' F4 H4 y' z d6 u v4 Q (see_rep L4 (r2.le ((Le.same s3).trans p4)) e4) (see_rep L4 r4 e5) e6 (Pur.of L4 o4)
      · rename_i e3
        refine hg F2 H2 x y _ v u _ (see_rep L2 (r1.le p2) e1) (see_rep L2 r2 e2) e3 fun H3 w s3 rw' => ?_
        cases (show Rep F2 H3 (.bl false) w from rw')
        refine ⟨false, rfl, ?_⟩
        rw [if_neg Bool.false_ne_true]
        exact o2 F2 H3 _ (Le.same s3) (L2.same s3) (Rep.bl _)
      · exact o2.elim
theorem de_chain {a b c : Expr} {op op' : CmpOp} {r r' : R2} {g g' : D → D → Option D} {ma mb mc : ME} {pos : Pos} (ho : OpR X (compareOp op) r) (hg : OpD r g) (ho' : OpR X (compareOp op') r') (hg' : OpD r' g') (ha : DE X G a ma) (hb : DE X G b mb) (hc : DE X G c mc)
    (hm : lastMarks [op, op'] [b, c] = false := by with_unfolding_all rfl) : DE X G (.Compare a [op, op'] [b, c] pos) (chain g g' ma mb mc) := pe_imp (pe_chain ho ho' ha hb hc hm) (chain_imp hg hg')
theorem dt_chain {a b c : Expr} {op op' : CmpOp} {r r' : R2} {g g' : D → D → Option D} {ma mb mc : ME} {pos : Pos} (ho : OpR X (compareOp op) r) (hg : OpD r g) (ho' : OpR X (compareOp op') r') (hg' : OpD r' g') (ha : DE X G a ma) (hb : DE X G b mb) (hc : DE X G c mc)
    (hm : lastMarks [op, op'] [b, c] = false := by with_unfolding_all rfl) : DT X G (.Compare a [op, op'] [b, c] pos) (tst (chain g g' ma mb mc)) := pt_imp (pt_chain ho ho' ha hb hc hm) (tst_imp (chain_imp hg hg'))
/-- no test of a comprehension's clause; one -/
def tAlways : MT := fun ls => .ok (true, ls)
theorem dts_nil : PTs X [] (tOfT G tAlways) := ⟨fun pins s σ H Q I ⟨F, ls, L, o⟩ => pts_nil.run pins s σ H Q I (o F H .refl L)⟩
theorem dts_one {c : Expr} {t : MT} (h : DT X G c t) : PTs X [c] (tOfT G t) := pts_one h
end
end DL

end DLq
section DLr
set_option Elab.async false
set_option linter.all false
set_option autoImplicit false
set_option maxRecDepth 100000
namespace DL
open PySem PySem.Spec PyProof.Rows L2

section
variable {X : Cx} {G : Gh} {F F' : FS} {H H' : Hp} {ls : LS} {σ : L2.St} {e tg o : Expr} {es : List Expr} {Z : Ends}
/-! ### a builtin type's method that changes nothing -/
def tyD (T : String) : D → Bool
  | .str _ => T == "str"
  | .lst _ => T == "list"
  | _ => false
def mBM (T : String) (g : D → List D → Option D) (mo : ME) (ms : MA) : ME := fun ls => (val mo ls).bind fun p => (opt (see p.2 p.1)).bind fun x0 => if tyD T x0 then
  (ms p.2).bind fun q => (opt (see q.2 p.1)).bind fun x => (opt (sees q.2 q.1)).bind fun xs => (opt (g x xs)).bind fun d => .ok (d, q.2) else .stuck
def BmD (r : V → List V → Hp → VK → Prop) (g : D → List D → Option D) : Prop := ∀ (F : FS) (H : Hp) (x : D) (xs : List D) (d : D) (v : V) (vs : List V) (Q : VK), RepR F H x v → RepRs F H xs vs → g x xs = some d → Pur F H d Q → r v vs H Q
theorem tyD_of {K : PySem.W.Frag} {T : String} {x : D} {v : V} (r : RepR F H x v) (e : tyD T x = true) : tyV K T v H := by
  cases x with
  | str z =>
    obtain rfl := r.isStr
    exact eq_of_beq e
  | lst xs =>
    obtain ⟨a, vs, rfl, h, _⟩ := r.isLst
    exact .inl ⟨eq_of_beq e, vs, .inl (.inl h)⟩
  | _ => cases e
theorem mBM_imp {K : PySem.W.Frag} {T : String} {r : V → List V → Hp → VK → Prop} {g : D → List D → Option D} (hg : BmD r g) {mo : ME} {ms : MA} (σ : L2.St) (H : Hp) (Q : VK) (q : tOf G (mBM T g mo ms) σ H Q) : tBM K T r (tOf G mo) (tOfA G ms) σ H Q := by
  obtain ⟨F, ls, L, o⟩ := q
  refine tOf.settled L o fun F1 H1 ls1 d v p1 L1 r1 o1 => ?_
  cases e0 : see ls1 d with
  | none => dsimp only at o1; rw [e0] at o1; exact o1.elim
  | some x0 =>
    dsimp only at o1
    rw [e0, opt_some, Res.bind_ok] at o1
    cases e1 : tyD T x0 with
    | false => rw [e1] at o1; exact o1.elim
    | true =>
      rw [e1, if_pos rfl] at o1
      refine ⟨tyD_of (see_rep L1 r1 e0) e1, tOfA.firstE L1 o1 fun F2 H2 ls2 ds vs p2 L2 rs o2 => ?_⟩
      have r2 := r1.le p2
      dsimp only at o2
      cases e2 : see ls2 d with
      | none => rw [e2] at o2; exact o2.elim
      | some x =>
        cases e3 : sees ls2 ds with
        | none => rw [e2, e3] at o2; exact o2.elim
        | some xs =>
          cases e4 : g x xs with
          | none => rw [e2, e3, opt_some, opt_some, Res.bind_ok, Res.bind_ok, e4] at o2; exact o2.elim
          | some z =>
            rw [e2, e3, opt_some, opt_some, Res.bind_ok, Res.bind_ok, e4] at o2
            exact hg F2 H2 x xs z v vs Q (see_rep L2 r2 e2) (sees_rep L2 rs e3) e4 (.of L2 o2)
theorem de_bm {T name id : String} {nm : Str} {r : V → List V → Hp → VK → Prop} {g : D → List D → Option D} {mo : ME} {ms : MA} (hg : BmD r g) {apos cpos : Pos}
    (h : PE X (.Call (.Attribute o nm apos) es [] cpos) (tBM X.K T r (tOf G mo) (tOfA G ms))) : DE X G (.Call (.Attribute o nm apos) es [] cpos) (mBM T g mo ms) := pe_imp h (mBM_imp hg)
def strsD : List D → Option (List Str)
  | [] => some []
  | .str b :: ds => (strsD ds).map (b :: ·)
  | _ => none
theorem strs_vals : ∀ {ds : List D} {vs : List V} {bs : List Str}, Reps F H ds vs → strsD ds = some bs → vs = bs.map V.str
  | [], _, _, .nil, e => by cases e; rfl
  | d :: ds, _, bs, .cons r rs, e => by
    cases d <;> try (cases e; done)
    rename_i b
    have e : (strsD ds).map (b :: ·) = some bs := e
    cases q : strsD ds with
    | none => rw [q] at e; cases e
    | some cs =>
      rw [q] at e; cases e
      cases r
      rw [strs_vals rs q]; rfl
def rJoinS (K : PySem.W.Frag) : V → List V → Hp → VK → Prop := fun x xs H Q => ∃ a p, ∃ ys : List Str, x = .str a ∧ xs = [.ref p] ∧ (SqL K H p (ys.map V.str) ∨ SqT K H p (ys.map V.str)) ∧
    (ys.map (·.length)).sum + ys.length * a.length ≤ 16777216 ∧ Q (.str (Txt.join a ys)) H
def gJoin : D → List D → Option D
  | .str a, [.lst ds] => (strsD ds).bind fun ys => if (ys.map (·.length)).sum + ys.length * a.length ≤ 16777216 then some (.str (Txt.join a ys)) else none
  | _, _ => none
theorem bd_join {K : PySem.W.Frag} : BmD (rJoinS K) gJoin := by
  intro F H x xs d v vs Q r rs e p
  cases x <;> try (cases e; done)
  rename_i a
  obtain rfl := r.isStr
  match xs, rs, e with
  | [.lst ds], rs, e =>
    obtain ⟨w, rfl, r2⟩ := rs.one
    obtain ⟨b, ws, rfl, h, r3⟩ := r2.isLst
    have e : (strsD ds).bind (fun ys => if (ys.map (·.length)).sum + ys.length * a.length ≤ 16777216 then some (.str (Txt.join a ys)) else none) = some d := e
    cases q : strsD ds with
    | none => rw [q] at e; cases e
    | some ys =>
      rw [q] at e
      have e : (if (ys.map (·.length)).sum + ys.length * a.length ≤ 16777216 then some (D.str (Txt.join a ys)) else none) = some d := e
      split at e
      · rename_i hz
        cases e
        exact ⟨a, b, ys, rfl, rfl, .inl (.inl (.inl (by rw [← strs_vals r3 q]; exact h))), hz, p H _ (Same.refl _) (.str _)⟩
      · cases e
theorem de_join {x : Expr} {mo : ME} {ms : MA} {apos cpos : Pos} (ho : DE X G o mo) (ha : DA X G (e :: es) ms)
    (hbase : attributeBase o "join" X.env (eval o X.env) = eval o X.env := by rfl)
    (hfew : ((backTo cpos (starEach (e :: es) X.env)).all (fun x => !x.1) && (backToKw cpos (keywordEach [] X.env)).all (fun x => x.1.isSome)
      && decide ((e :: es).length + ([] : List Keyword).length + (if ([] : List Keyword).isEmpty then 0 else 1) < 30)) = true := by rfl)
    (hline : (apos.endLine == cpos.line) = true := by rfl) (hs : starEach (e :: es) X.env = (false, eval e X.env) :: starEach es X.env := by rfl) (hplain : (backTo cpos (starEach es X.env)).any (·.1) = false := by rfl) :
    DE X G (.Call (.Attribute o "join" apos) (e :: es) [] cpos) (mBM "str" gJoin mo ms) :=
  pe_imp (pe_bm PySem.F.plainAttrs_str PySem.F.slot_str_join PySem.F.type_str_join mt_join ho ha hbase hfew hline hs hplain) (mBM_imp bd_join)

/-! ### isinstance of a caught error -/
/-- a is an exception of the class C, there when X's body was entered -/
structure KnowsE (X : Cx) (a C : Addr) : Prop where
  at_ : ∃ oe, X.s_0.heap.get? a = some oe ∧ Zc (.ref C) none oe ∧ ∃ vs, oe.data = .fields vs
  non : X.H_0 a = none
  fr : a ∉ X.fs
  ex : a ∉ X.ex
theorem call_isE2 {a C : Addr} (k : KnowsE X a C) (c : ExcC X.K C) : CallR X (.builtin "isinstance") (rIsE X.K C a) := by
  intro pins s σ H xs us Q I r h
  obtain ⟨cv, u, b, rfl, hcv, e, q⟩ := h
  cases r with
  | cons rx rr =>
    cases rr with
    | cons rt rr =>
      cases rr
      cases rx
      have ec := hcv _ rt
      subst ec
      obtain ⟨oe, h0, hz, vs, hv⟩ := k.at_
      have hget := I.base.keep a oe h0 k.non k.fr k.ex
      have J : PySem.W.InstAt s.heap a oe C none := by
        obtain ⟨oc, od, oda, osl⟩ := oe
        obtain ⟨h1, h2⟩ := hz
        dsimp only at h1 h2 hv
        subst h1 h2 hv
        exact ⟨hget, rfl, rfl, trivial⟩
      exact PySem.W.kia_one (PySem.W.handS_kitx_exc c.hg c.hk c.hs c.hd c.ha c.hn c.ht c.hm) I.kIn J e (fun z => nomatch z) fun tk => ⟨.bl b, H, I.kept (t' := tk) fun _ _ z => z, rfl, q⟩
def gIsE (a : Addr) (tb : Addr → Option Bool) : List D → Option D
  | [.ref b, .ref c] => if b = a then (tb c).map .bl else none
  | _ => none
theorem RepR.isRef {b : Addr} {v : V} (r : RepR F H (.ref b) v) : v = .ref b := by
  rcases r with r | r
  · cases r; rfl
  · exact r.elim
theorem cd_isE {K : PySem.W.Frag} {a C : Addr} {tb : Addr → Option Bool} (h : ∀ c b, tb c = some b → PySem.W.kitOne K (.ref C) (.ref c) = some b) : CbD (rIsE K C a) (gIsE a tb) := by
  intro F H xs d vs Q rs e p
  match xs, rs, e with
  | [.ref b, .ref c], rs, e0 =>
    obtain ⟨v, w, rfl, r1, r2⟩ := rs.two
    obtain rfl := r1.isRef
    obtain rfl := r2.isRef
    have e2 : (if b = a then (tb c).map D.bl else none) = some d := e0
    by_cases hb : b = a
    · rw [if_pos hb] at e2
      cases q : tb c with
      | none => rw [q] at e2; cases e2
      | some z =>
        rw [q] at e2; cases e2
        exact ⟨.ref c, .ref c, z, by rw [hb], fun u hu => hu, h c z q, p H _ (Same.refl _) (.bl z)⟩
    · rw [if_neg hb] at e2; cases e2
end
end DL

end DLr
section DLs
set_option Elab.async false
set_option linter.all false
set_option autoImplicit false
set_option maxRecDepth 100000
set_option maxHeartbeats 2000000
namespace DL
open PySem PySem.Spec PyProof.Rows L2

/-! ### where an exception is handled: the end of a list, of a tuple -/
section
variable {prog : Program} {w : World} {A : Around} {E : Value → Shared → Prop} {s : Shared}
theorem list_end_hot {it l x1 : Addr} {i : Nat} {items : Array Value} {Q : Option Value → Shared → Prop} (hot : HotX.HotAt A x1 s.heap) (hne : x1 ≠ it)
    (hit : s.heap.IsListIter it l i) (hl : s.heap.IsList l items) (hx : items[i]? = none)
    (hQ : ∀ h', Heap.ExtBut it s.heap h' → Q none { s with heap := h' }) : wpAny (model prog w) A (pyNext (.ref it)) Q E s := by
  obtain ⟨o, ho, hc, hd⟩ := id hit
  obtain ⟨ol, hol, _, nl, hdl⟩ := hl
  unfold pyNext
  refine wpAny_bind (wpAny_attempt (wpAny_callSpecial?_slot (name := Str.ofString "__next__") hit.typeIs slot_listiter_next
    (wpAny_call_entry slot_listiter_next hit.typeIs entry_listiter_next ?_ (args_listiter_next _))))
  show wpAny _ _ (field (.ref it) 0 >>= _) _ _ s
  refine wpAny_bind (wpAny_field ho hd (x := .ref l) rfl ?_)
  show wpAny _ _ (if (Value.ref l == Value.none) = true then _ else _) _ _ s
  rw [if_neg (show ¬ ((Value.ref l == Value.none) = true) from Bool.false_ne_true)]
  show wpAny _ _ (field (.ref it) 1 >>= _) _ _ s
  refine wpAny_bind (wpAny_field ho hd (x := .int i 0) rfl ?_)
  show wpAny _ _ (seqItems? (.ref l) >>= _) _ _ s
  refine wpAny_bind (wpAny_seqItems hol hdl ?_)
  simp only [Int.toNat_natCast, hx]
  refine wpAny_bind (wpAny_rule (wpAny_bind (wpAny_setField ho hd (by simp) ?_)))
  obtain ⟨hh, o1, vs1, g1, d1, c1⟩ := hot
  show wpAny _ _ (newExc (.type "StopIteration") [] >>= _) _ _ _
  refine wpAny_bind ?_
  simp only [newExc, newTuple]
  refine wpAny_bind (wpAny_newObj_type ?_ (by size_fits))
  refine wpAny_bind (m := firstArgMember _ _) (wpAny_of_eq (a := Value.none) (by first | rfl | (simp only [firstArgMember]; rfl)) ?_)
  refine wpAny_newObj_type ?_ (by size_fits)
  refine HotX.raiseNew_hot (x1 := x1) (A := A.in1) ⟨hh, o1, vs1, Heap.get?_push_of_some _ (Heap.get?_push_of_some _ ((Heap.get?_update_other _ _ (Ne.symm hne)).trans g1)), d1, c1⟩ (Nat.ne_of_lt (Heap.lt_size (Heap.get?_push_of_some _ ((Heap.get?_update_other _ _ (Ne.symm hne)).trans g1)))) (Heap.get?_push_size _ rfl) rfl (by first | (simp; done) | (simp; omega) | (simp only [Array.size_append]; simp; omega)) ?_
  refine wpAny_bind (wpAny_isInstance (T := "StopIteration") (b := true) ⟨_, Heap.get?_update_self _ (Heap.get?_push_size _ rfl) rfl, rfl⟩ isSubtype_stop ?_)
  refine wpAny_pure (hQ _ fun b o hb e => ?_)
  refine (Heap.get?_update_other _ _ (Nat.ne_of_gt (Heap.lt_size (Heap.get?_push_of_some _ ((Heap.get?_update_other _ _ (Ne.symm hb)).trans e))))).trans ?_
  exact Heap.get?_push_of_some _ (Heap.get?_push_of_some _ ((Heap.get?_update_other _ _ (Ne.symm hb)).trans e))
theorem tuple_end_hot {it l x1 : Addr} {i : Nat} {items : Array Value} {Q : Option Value → Shared → Prop} (hot : HotX.HotAt A x1 s.heap) (hne : x1 ≠ it)
    (hit : IsTupIter s.heap it l i) (hl : IsTup s.heap l items) (hx : items[i]? = none)
    (hQ : ∀ h', Heap.ExtBut it s.heap h' → Q none { s with heap := h' }) : wpAny (model prog w) A (pyNext (.ref it)) Q E s := by
  obtain ⟨o, ho, hc, hd⟩ := id hit
  obtain ⟨ol, hol, _, nl, hdl⟩ := hl
  unfold pyNext
  refine wpAny_bind (wpAny_attempt (wpAny_callSpecial?_slot (name := Str.ofString "__next__") hit.typeIs slot_tupleiter_next
    (wpAny_call_entry slot_tupleiter_next hit.typeIs entry_tupleiter_next ?_ (args_tupleiter_next _))))
  show wpAny _ _ (field (.ref it) 0 >>= _) _ _ s
  refine wpAny_bind (wpAny_field ho hd (x := .ref l) rfl ?_)
  show wpAny _ _ (if (Value.ref l == Value.none) = true then _ else _) _ _ s
  rw [if_neg (show ¬ ((Value.ref l == Value.none) = true) from Bool.false_ne_true)]
  show wpAny _ _ (field (.ref it) 1 >>= _) _ _ s
  refine wpAny_bind (wpAny_field ho hd (x := .int i 0) rfl ?_)
  show wpAny _ _ (seqItems? (.ref l) >>= _) _ _ s
  refine wpAny_bind (wpAny_seqItems hol hdl ?_)
  simp only [Int.toNat_natCast, hx]
  refine wpAny_bind (wpAny_rule (wpAny_bind (wpAny_setField ho hd (by simp) ?_)))
  obtain ⟨hh, o1, vs1, g1, d1, c1⟩ := hot
  show wpAny _ _ (newExc (.type "StopIteration") [] >>= _) _ _ _
  refine wpAny_bind ?_
  simp only [newExc, newTuple]
  refine wpAny_bind (wpAny_newObj_type ?_ (by size_fits))
  refine wpAny_bind (m := firstArgMember _ _) (wpAny_of_eq (a := Value.none) (by first | rfl | (simp only [firstArgMember]; rfl)) ?_)
  refine wpAny_newObj_type ?_ (by size_fits)
  refine HotX.raiseNew_hot (x1 := x1) (A := A.in1) ⟨hh, o1, vs1, Heap.get?_push_of_some _ (Heap.get?_push_of_some _ ((Heap.get?_update_other _ _ (Ne.symm hne)).trans g1)), d1, c1⟩ (Nat.ne_of_lt (Heap.lt_size (Heap.get?_push_of_some _ ((Heap.get?_update_other _ _ (Ne.symm hne)).trans g1)))) (Heap.get?_push_size _ rfl) rfl (by first | (simp; done) | (simp; omega) | (simp only [Array.size_append]; simp; omega)) ?_
  refine wpAny_bind (wpAny_isInstance (T := "StopIteration") (b := true) ⟨_, Heap.get?_update_self _ (Heap.get?_push_size _ rfl) rfl, rfl⟩ isSubtype_stop ?_)
  refine wpAny_pure (hQ _ fun b o hb e => ?_)
  refine (Heap.get?_update_other _ _ (Nat.ne_of_gt (Heap.lt_size (Heap.get?_push_of_some _ ((Heap.get?_update_other _ _ (Ne.symm hb)).trans e))))).trans ?_
  exact Heap.get?_push_of_some _ (Heap.get?_push_of_some _ ((Heap.get?_update_other _ _ (Ne.symm hb)).trans e))

theorem unpack_hot {t x1 : Addr} {items : Array Value} {targets : List (Bool × (Value → Sem Unit))} {Q : Unit → Shared → Prop} (hot : HotX.HotAt A x1 s.heap) (ht : IsTup s.heap t items)
    (hn : targets.length = items.size) (hstar : targets.findIdx? (·.1) = none)
    (h : ∀ h', Heap.ExtBut s.heap.objs.size s.heap h' → wpAny (model prog w) A (assignInOrder (targets.map (·.2)) items.toList) Q E { s with heap := h' }) :
    wpAny (model prog w) A (unpack (.ref t) targets) Q E s := by
  unfold unpack
  rw [hn, hstar]
  have hlt : t ≠ s.heap.objs.size := by obtain ⟨o, ho, _⟩ := ht; exact Nat.ne_of_lt (Heap.lt_size ho)
  obtain ⟨hh, o1, vs1, g1, d1, c1⟩ := hot
  have hx1 : x1 ≠ s.heap.objs.size := Nat.ne_of_lt (Heap.lt_size g1)
  refine wpAny_bind (wpAny_holding ?_)
  unfold unpackItems
  refine wpAny_bind ?_
  unfold notIterableAtAll
  refine wpAny_bind (wpAny_specialOf ht.typeIs slot_tuple_iter.lookup (wpAny_pure ?_))
  simp only [Bool.false_eq_true, if_false]
  refine wpAny_bind (wpAny_holding (iter_tuple ht ?_))
  refine wpAny_bind (wpAny_holding (draw_tuple hlt items.size 0 _ _ ⟨_, Heap.get?_push_size _ rfl, rfl, rfl⟩ (ht.push _) (by omega) fun h₁ hit₁ hs₁ => ?_))
  have hall : List.take items.size (List.drop 0 items.toList) = items.toList := by
    rw [List.drop_zero]; exact List.take_of_length_le (by simp)
  rw [hall, if_neg (by simp)]
  have ht₁ : IsTup h₁ t items := (ht.push _).extBut hs₁.extBut hlt
  refine wpAny_bind (wpAny_holding (tuple_end_hot (x1 := x1) ⟨hh, o1, vs1, hs₁.extBut x1 o1 hx1 (Heap.get?_push_of_some _ g1), d1, c1⟩ hx1 hit₁ ht₁ (by simp) fun h₂ he₂ => ?_))
  simp only [Option.isSome_none, Bool.false_eq_true, if_false]
  exact wpAny_pure (h h₂ fun b o hb e => he₂ b o hb (hs₁.extBut b o hb (Heap.get?_push_of_some _ e)))
end
end DL

end DLs
section DLt
set_option Elab.async false
set_option linter.all false
set_option autoImplicit false
set_option maxRecDepth 100000
set_option maxHeartbeats 2000000
namespace DL
open PySem PySem.Spec PyProof.Rows L2

/-- a's exception, of the class C, is handled; it was there when X was entered; its context is None -/
structure HotE (X : Cx) (a C : Addr) : Prop where
  hd : X.A.handled = some (.ref a)
  at_ : ∃ oe vs, X.s_0.heap.get? a = some oe ∧ L2N.Zn (.ref C) none oe ∧ oe.data = .fields vs
  non : X.H_0 a = none
  fr : a ∉ X.fs
  ex : a ∉ X.ex
section
variable {X : Cx} {G : Gh} {F F' : FS} {H H' : Hp} {ls : LS} {σ : L2.St} {e tg o elt iter : Expr} {es : List Expr} {Z : Ends} {pins : List (Addr × Obj)} {s : Shared} {a C : Addr} {pos : Pos}
theorem HotE.knows (k : HotE X a C) : KnowsE X a C := by
  obtain ⟨oe, vs, h1, h2, h3⟩ := k.at_
  exact ⟨⟨oe, h1, h2.zc, vs, h3⟩, k.non, k.fr, k.ex⟩
theorem HotE.obj (k : HotE X a C) (I : Inv X pins σ H s) : ∃ oe vs, s.heap.get? a = some oe ∧ L2N.Zn (.ref C) none oe ∧ oe.data = .fields vs := by
  obtain ⟨oe, vs, h1, h2, h3⟩ := k.at_
  exact ⟨oe, vs, I.base.keep a oe h1 k.non k.fr k.ex, h2, h3⟩
theorem HotE.hot (k : HotE X a C) (I : Inv X pins σ H s) : HotX.HotAt X.A a s.heap := by
  obtain ⟨oe, vs, h1, h2, h3⟩ := k.obj I
  exact ⟨k.hd, oe, vs, h1, h3, h2.2.2 vs h3⟩
theorem HotE.free (k : HotE X a C) (I : Inv X pins σ H s) : H a = none := by
  obtain ⟨oe, vs, h1, h2, h3⟩ := k.at_
  exact I.base.free a oe h1 k.non k.ex
/-- n targets take a tuple, where an exception is handled -/
theorem pg_tupH {es : List Expr} {k : Nat} {t : TGs} {n : Nat} (hk : HotE X a C) (h : PGs X es t)
    (hn : (assignEach es X.env).length = n := by rfl) (hst : (assignEach es X.env).findIdx? (·.1) = none := by rfl) : PG X (.Tuple es k pos) (gTup X.K n t) := by
  refine ⟨fun pins s σ H v u Q I r hw => ?_⟩
  obtain ⟨b, xs, e1, hq, hl, hw⟩ := hw
  subst e1
  cases r
  obtain ⟨its, rv, ht, hz⟩ := I.tuple hq
  rw [assign_Tuple]
  refine wpAny_bind (wpAny_standAt (unpack_hot (hk.hot I) ht (by simp [hn, ← hl, rv.length]) hst fun h' hx => ?_))
  have I1 : Inv X pins σ H { s with heap := h' } := I.kept (t' := s.toks) fun b o e => hx b o (Nat.ne_of_lt (Heap.lt_size e)) e
  exact h.run pins _ σ H xs _ Q I1 (by simpa using rv) hw
/-- the block of a comprehension -/
theorem HotE.blk (k : HotE X a C) (I : Inv X pins σ H s) {scope : Scope} {ce : Env} {fp : List Addr} (hf : a ∉ fp) : HotE (X.blk s H scope ce fp) a C where
  hd := k.hd
  at_ := k.obj I
  non := k.free I
  fr := fun z => by
    rcases List.mem_cons.mp (I.stkSub a z) with e | e
    · obtain ⟨oe, vs, h1, h2, h3⟩ := k.at_
      have q1 := Heap.lt_size h1
      have q2 := I.ok.above
      rw [e] at q1
      exact Nat.lt_irrefl _ (Nat.lt_of_lt_of_le q1 q2)
    · exact k.fr e
  ex := hf
/-- a turn of a list's iterator -/
theorem item_list {l it : Addr} {i : Nat} {E : Value → Shared → Prop} (I : Inv X pins σ H s) (f : FpOk X pins H it) (st : s.heap.IsListIter it l i) (hg : (Itl X.K l).go i H) :
    wpAny (model X.prog X.w) X.A (pyNext (.ref it)) (fun r s1 => ∃ u, r = some u ∧
      wpAny (model X.prog X.w) X.A (letOwnedTupleGo tg (.ref it) u) (fun _ s2 => ∃ x H', Inv X pins σ H' s2 ∧ RelV x u ∧ (Itl X.K l).yld i H x H' ∧ s2.heap.IsListIter it l (i + 1) ∧ H' it = none) E s1) E s := by
  obtain ⟨xs, x, hq, hx⟩ := hg
  obtain ⟨its, rv, p, hz⟩ := I.list hq
  obtain ⟨u, hu, ru⟩ := rv.get hx
  obtain ⟨f0, f1, f2, f3, f4, f5⟩ := f
  refine wpAny_pyNext_list_item st p.isList (x := u) (by simpa using hu) fun h' st' sb => ?_
  have I1 : Inv X pins σ H { s with heap := h' } := I.turned (t' := s.toks) (fun b o hb e => (sb.2 b hb).trans e) f0 f1 f3 f4 f5
  obtain ⟨o, e, c, d⟩ := id st'
  exact ⟨u, rfl, go_of (s := { s with heap := h' }) e c d (by decide) ⟨x, H, I1, ru, ⟨rfl, fun ys hy => by rw [I.list_inj hy hq]; exact hx⟩, st', f0⟩⟩
theorem done_list {l it : Addr} {i : Nat} {E : Value → Shared → Prop} (hk : HotE X a C) (hne : a ≠ it) (I : Inv X pins σ H s) (f : FpOk X pins H it) (st : s.heap.IsListIter it l i) (hg : (Itl X.K l).stop i H) :
    wpAny (model X.prog X.w) X.A (pyNext (.ref it)) (fun r s1 => r = none ∧ Inv X pins σ H s1) E s := by
  obtain ⟨xs, hq, hx⟩ := hg
  obtain ⟨its, rv, p, hz⟩ := I.list hq
  obtain ⟨f0, f1, f2, f3, f4, f5⟩ := f
  have hl := rv.length
  exact list_end_hot (hk.hot I) hne st p.isList (by simp; omega) fun h' eb => ⟨rfl, I.turned (t' := s.toks) (fun b o hb e => eb b o hb e) f0 f1 f3 f4 f5⟩
/-- [elt for tg in a list if ..] where an exception is handled -/
theorem pe_lcH {ifs : List Expr} {scope : Scope} {own : List (Str × Nat)} {tl : TE} {g : TG} {tt : TT} {te : TE} (hk : HotE X a C) (hN : X.N.Nodup) (hi : PE X iter tl) (ok : BlkOk X.N X.env.scope scope own)
    (hg : ∀ (s : Shared) (H : Hp) (B : Addr) (cl : List (Str × Addr)) (fp : List Addr), HotE (X.blk s H scope (compEnvC scope cl B X.env) fp) a C → PG (X.blk s H scope (compEnvC scope cl B X.env) fp) tg g)
    (ht : ∀ (s : Shared) (H : Hp) (B : Addr) (cl : List (Str × Addr)) (fp : List Addr), HotE (X.blk s H scope (compEnvC scope cl B X.env) fp) a C → PTs (X.blk s H scope (compEnvC scope cl B X.env) fp) ifs tt)
    (he : ∀ (s : Shared) (H : Hp) (B : Addr) (cl : List (Str × Addr)) (fp : List Addr), HotE (X.blk s H scope (compEnvC scope cl B X.env) fp) a C → PE (X.blk s H scope (compEnvC scope cl B X.env) fp) elt te) (hs : ∀ x, foldedSetIterable iter X.env x = pure x := by intro _; rfl) :
    PE X (.ListComp elt [⟨tg, iter, ifs, 0⟩] scope pos) (tLc (iList X.K tl) g tt te (own.map (·.2))) := by
  refine ⟨fun pins s σ H Q I h => ?_⟩
  rw [eval_ListComp]
  have hfree : ∀ y ∈ scope.names, y.2 = .free → ∃ c, X.env.cells.lookup y.1 = some c := fun y hy e => by
    rcases ok.free y hy e with k | k
    · exact I.ok.has _ (.inl k)
    · exact I.ok.has _ (.inr k)
  refine wpAny_comprehension_free (use := none) rfl hs (closure_ok hfree) ok.kind (fun y hy e => by rw [ok.uniq y hy, e])
    (thn (hi.run pins s σ H _ I h) fun xv s1 hx => ?_)
  obtain ⟨x, H2, I1, r1, l, ex, ⟨xs0, hq0⟩, q⟩ := hx
  subst ex
  cases r1
  obtain ⟨its0, rv0, p0, hz0⟩ := I1.list hq0
  refine wpAny_pyIter_list p0.isList ?_
  have hlt := fun o vs (h : s1.heap.get? a = some o ∧ o.data = .fields vs) => Heap.lt_size h.1
  generalize hit : s1.heap.objs.size = it
  generalize hs2 : ({ s1 with heap := s1.heap.push { cls := .type "list_iterator", data := .fields #[.ref l, .int 0 0] } } : Shared) = s2
  have I2 : Inv X pins σ H2 s2 := by
    rw [← hs2]
    exact I1.kept (t' := s1.toks) fun b o e => Heap.get?_push_of_some _ e
  have st2 : s2.heap.IsListIter it l 0 := by
    rw [← hs2, ← hit]
    exact ⟨_, Heap.get?_push_size _ rfl, rfl, rfl⟩
  have f2 : FpOk X pins H2 it := by
    rw [← hit]
    exact I1.fpOk (Nat.le_refl _) (I1.hok.fresh (Nat.le_refl _))
  have hne : a ≠ it := by
    obtain ⟨oe, vs, g1, _⟩ := hk.obj I1
    rw [← hit]
    exact Nat.ne_of_lt (Heap.lt_size g1)
  refine wpAny_newObj_type (newEnv_comp ?_) (by show 0 ≤ sizeLine; decide)
  generalize hD : s2.heap.objs.size = D
  have hDn : H2 D = none := I2.hok.fresh (Nat.le_of_eq hD)
  obtain ⟨W, ⟨m0, w0⟩, turn⟩ := q D hDn
  generalize hs3 : ({ s2 with heap := s2.heap.push { cls := .type "list", data := .seq ([] : List Value).toArray } } : Shared) = s3
  have I3 : Inv X pins σ (upd H2 D (.lst [])) s3 := by
    rw [← hs3]
    refine I2.laid (t' := s2.toks) (fun b o e => Heap.get?_push_of_some _ e) (Nat.le_of_eq hD) ⟨Nat.zero_le _, [], 0, .nil, ?_⟩
    rw [← hD]
    exact Heap.get?_push_size _ rfl
  have h3 : s3.heap = s2.heap.push { cls := .type "list", data := .seq ([] : List Value).toArray } := by rw [← hs3]
  have itlt : it < s2.heap.objs.size := by
    obtain ⟨o, e, _⟩ := st2
    exact Heap.lt_size e
  have f3 : ∀ b ∈ [it], FpOk X pins (upd H2 D (.lst [])) b ∧ b < s3.heap.objs.size := fun b hb => by
    obtain rfl : b = it := by simpa using hb
    refine ⟨⟨?_, f2.2⟩, by rw [h3, Heap.size_push]; exact Nat.lt_succ_of_lt itlt⟩
    rw [upd_ne (by rw [← hD]; exact Nat.ne_of_lt itlt)]
    exact f2.1
  have I4 := block_start I3 ok hN f3
  have hk4 : HotE (X.blk s3 (upd H2 D (.lst [])) scope (compEnvC scope (cellsFrom (s3.heap.objs.size + 1) scope.names (cloFrom X.env.cells scope.names [])) s3.heap.objs.size X.env) [it]) a C := hk.blk I3 (by simpa using hne)
  have pg := hg s3 (upd H2 D (.lst [])) s3.heap.objs.size (cellsFrom (s3.heap.objs.size + 1) scope.names (cloFrom X.env.cells scope.names [])) [it] hk4
  have pt := ht s3 (upd H2 D (.lst [])) s3.heap.objs.size (cellsFrom (s3.heap.objs.size + 1) scope.names (cloFrom X.env.cells scope.names [])) [it] hk4
  have pe := he s3 (upd H2 D (.lst [])) s3.heap.objs.size (cellsFrom (s3.heap.objs.size + 1) scope.names (cloFrom X.env.cells scope.names [])) [it] hk4
  show codeAny _ _ (.compStart (.ListComp elt [⟨tg, iter, ifs, 0⟩] scope pos) 0 (.ref it) (.ref D) (compEnvC scope (cellsFrom (s3.heap.objs.size + 1) scope.names (cloFrom X.env.cells scope.names [])) s3.heap.objs.size X.env)) (compPost (model X.prog X.w) X.A X.xe none _ (.ref D) s3.heap.objs.size) { s3 with heap := pushCells (s3.heap.push { cls := .type "dict", data := .dict #[] }) scope.names }
  have nit : (upd H2 D (.lst [])) it = none := (f3 it (by simp)).1.1
  generalize hce : compEnvC scope (cellsFrom (s3.heap.objs.size + 1) scope.names (cloFrom X.env.cells scope.names [])) s3.heap.objs.size X.env = ce at I4 pg pt pe hk4 ⊢
  have cL : ce.locals = s3.heap.objs.size := by subst hce; rfl
  generalize hH3 : upd H2 D (.lst []) = H3 at I3 I4 pg pt pe hk4 w0 nit f3
  generalize hs4 : ({ s3 with heap := pushCells (s3.heap.push { cls := .type "dict", data := .dict #[] }) scope.names } : Shared) = s4 at I4 ⊢
  have st4 : s4.heap.IsListIter it l 0 := st2.at fun o e => by rw [← hs4]; exact pushCells_keeps _ _ _ _ (Heap.get?_push_of_some _ (by rw [h3]; exact Heap.get?_push_of_some _ e))
  have stat : ∀ {σ' : L2.St} {H' : Hp} {s' : Shared}, Inv (X.blk s3 H3 scope ce [it]) [] σ' H' s' → H' it = none → FpOk (X.blk s3 H3 scope ce [it]) [] H' it := fun {σ' H' s'} I' hn =>
    ⟨hn, (I'.ok.exf it (by simp)).1, I'.ok.exfs it (by simp), .inl (by simp), fun x c e => (I'.ok.exf it (by simp)).2 x c e, fun p hp => absurd (show p ∈ ([] : List (Addr × Obj)) ++ [] from hp) (by simp)⟩
  have loop : codeAny (model X.prog X.w) X.A (.compLoop (.ListComp elt [⟨tg, iter, ifs, 0⟩] scope pos) 0 (.ref it) (.ref D) ce) (compPost (model X.prog X.w) X.A X.xe none (EP X pins σ Q) (.ref D) s3.heap.objs.size) s4 := by
    refine compLoop_any (fun n s' => ∃ i H', Inv (X.blk s3 H3 scope ce [it]) [] (wipe σ (own.map (·.2))) H' s' ∧ s'.heap.IsListIter it l i ∧ H' it = none ∧ W i n H') ?_ m0 ⟨0, H3, I4, st4, nit, w0⟩
    rintro n s5 ⟨i, H5, I5, st5, n5, w5⟩
    rcases turn i n H5 w5 with ⟨stop, qq⟩ | ⟨go, Nx, hNx, step⟩
    · have td := done_list (E := fun _ _ => False) hk4 hne I5 (stat I5 n5) st5 stop
      refine thnF td fun r s6 ⟨hr, I6⟩ => ?_
      subst hr
      have I7 : Inv X pins σ H5 s6 := I3.call' (ch := [it]) I6.os I6.base I6.hok I6.bare fun b hb => ⟨(f3 b hb).1.2.2.2.1, (f3 b hb).1.2.1, (f3 b hb).1.2.2.2.2.1, (f3 b hb).1.2.2.2.2.2⟩
      have nC : H5 s3.heap.objs.size = none := by
        have z : H5 ce.locals = none := I6.free
        rw [cL] at z
        exact z
      obtain ⟨m, hn, _⟩ := I6.loc
      have hn : s6.heap.Ns ce.locals m := hn
      rw [cL] at hn
      refine ⟨m, hn, fun h'' sb => ?_⟩
      obtain ⟨f0, f1, f2, f3, f4, f5⟩ := I3.fpOk (Nat.le_refl _) nC
      exact ⟨.ref D, H5, I7.turned (t' := s6.toks) (fun b o hb e => (sb.2 b hb).trans e) f0 f1 f3 f4 f5, rfl, qq⟩
    · have ti := item_list (tg := tg) (E := fun _ _ => False) I5 (stat I5 n5) st5 go
      refine thnF ti fun r s6 ⟨u, hr, h6⟩ => ?_
      subst hr
      refine thnF h6 fun _ s7 ⟨x, H7, I7, r7, y7, st7, n7⟩ => ?_
      have ob7 : ∀ b ∈ [it], ∃ o, s7.heap.get? b = some o ∧ ∀ v, o.data ≠ .cell v := fun b hb => by
        obtain rfl : b = it := by simpa using hb
        obtain ⟨o, e, c, d⟩ := st7
        exact ⟨o, e, fun v z => by rw [d] at z; cases z⟩
      have I7' := I7.pinned (fp := [it]) (fun b hb => by obtain rfl : b = it := by simpa using hb
                                                         exact stat I7 n7) ob7
      refine thnF (pg.run _ s7 _ H7 x u _ I7' r7 (step x H7 y7)) fun _ s8 ⟨σ8, H8, I8, hw8, q8⟩ => ?_
      refine thnF (pt.run _ s8 σ8 H8 _ I8 q8) fun b s9 ⟨H9, I9, q9⟩ => ?_
      have fin : ∀ {s' : Shared} {H' : Hp}, Inv (X.blk s3 H3 scope ce [it]) ([] ++ pinsAt [it] s7.heap) σ8 H' s' → Nx H' → ∃ m, m < n ∧ ∃ i H', Inv (X.blk s3 H3 scope ce [it]) [] (wipe σ (own.map (·.2))) H' s' ∧ s'.heap.IsListIter it l i ∧ H' it = none ∧ W i m H' := fun {s' H'} I' nx => by
        obtain ⟨m', hm, w'⟩ := hNx H' nx
        have pin' : ∀ o, s7.heap.get? it = some o → s'.heap.get? it = some o ∧ H' it = none := fun o e =>
          let z := I'.pin (it, o) (List.mem_append_right _ (List.mem_append_right _ (mem_pinsAt (by simp) e)))
          ⟨z.1, z.2.1⟩
        have hl : (wipe σ (own.map (·.2))).length = σ8.length := by rw [← hw8, wipe_length]
        refine ⟨m', hm, i + 1, H', (I'.unpinned (pins := [])).weak hl (fun j v e => ?_), st7.at fun o e => (pin' o e).1, ?_, w'⟩
        · rw [← hw8] at e
          exact (wipe_some e).1
        · obtain ⟨o, e, _⟩ := st7
          exact (pin' o e).2
      cases b with
      | false =>
        simp only [Bool.false_eq_true, if_false] at q9 ⊢
        exact fin I9 q9
      | true =>
        simp only [if_true] at q9 ⊢
        refine thnF (pe.run _ s9 σ8 H9 _ I9 q9) fun z s10 ⟨yv, H10, I10, r10, acc, hD10, hz10, nx⟩ => ?_
        exact app_ok (X := X.blk s3 H3 scope ce [it]) I10 hD10 hz10 r10 fun s11 I11 => fin I11 nx
  exact codeAny_compStart_list loop (wpAny_pyIter_listiter st4 loop)
end
end DL

end DLt
section DLu
set_option Elab.async false
set_option linter.all false
set_option autoImplicit false
set_option maxRecDepth 100000
set_option maxHeartbeats 2000000
namespace DL
open PySem PySem.Spec PyProof.Rows L2

section
variable {X : Cx} {G : Gh} {F F' : FS} {H H' : Hp} {ls : LS} {σ : L2.St} {e tg o elt iter : Expr} {es : List Expr} {Z : Ends} {pins : List (Addr × Obj)} {s : Shared} {a C : Addr} {pos : Pos}
theorem HotE.of_call {CX : CXT} {P : Program} {w : World} {K : PySem.W.Frag} {mg : Str → Option Value} {base : Heap} {N : List Str} {qual : Str} {scope : Scope} {f : Addr} {cd : Value} {A : Around} {outer : List Env} {s : Shared} {H : Hp} {E : XK} {oe : Obj}
    (hh : A.handled = some (.ref a)) (hp : L2H.PinOk outer H s (a, oe)) (hz : L2N.Zn (.ref C) none oe) (hv : ∃ vs, oe.data = .fields vs) : HotE (L2H.cxH CX P w K mg base N qual scope f cd A outer s H E (a, oe)) a C := by
  obtain ⟨vs, hv⟩ := hv
  exact ⟨hh, ⟨oe, vs, hp.get, hz, hv⟩, hp.free, hp.nofs, fun z => nomatch z⟩
/-- a def called where a's exception is handled, told of it: f(e) gives the text y -/
theorem pe_err {oe : Obj} {x qual pn : Str} {st : Stmt} {f : Addr} {fd : FuncData} {N : List Str} {k i : Nat} {p pos : Pos} {tb : List (Addr × Str)} {body : MS} {y : Str} (hh : X.A.handled = some (.ref a)) (hp : (a, oe) ∈ X.pn) (hz : L2N.Zn (.ref C) none oe) (hv : ∃ vs, oe.data = .fields vs)
    (Fn : Fun X.K x qual st f fd) (S : FnScope N [pn] (defScope st)) (hb : Binds X.K fd [pn] []) (hr : L2H.RoomH (k + 1) X.A) (hg : Gl X x) (hm : X.mg x = some (.ref f)) (hk : PySem.W.keepIn X.K (.ref f) = true)
    (hbody : ∀ (cdv : Value) (A : Around) (outer : List Env) (s : Shared) (H : Hp) (G : Gh), HotE (L2H.cxH C8.CX0 X.prog X.w X.K X.mg X.base N qual (defScope st) f cdv A outer s H C8.E0 (a, oe)) a C → DSs (L2H.cxH C8.CX0 X.prog X.w X.K X.mg X.base N qual (defScope st) f cdv A outer s H C8.E0 (a, oe)) G (defBody st) body)
    (hy : fin (body (startD N.length [.ref a])) = .ok (.str y)) (he : PE X e (tVar i))
    (hdb : (x == ("__debug__" : Str)) = false := by decide) (hs : starEach [e] X.env = (false, eval e X.env) :: starEach [] X.env := by rfl) (hpl : (backTo pos (starEach [] X.env)).any (·.1) = false := by rfl) :
    PE X (.Call (.Name x p) [e] [] pos) (fun σ H Q => σ[i]? = some (some (.ref a)) ∧ LamX.Tabs tb H ∧ ∀ F' H'', CallLe tb none' none' H F' H'' → Q (.str y) H'') := by
  obtain ⟨oc, od, kV, doc, pm, an, cdv, ct, osl, rfl, lk, hcd⟩ := Fn.ex
  refine ⟨fun pins s σ H Q I h => ?_⟩
  obtain ⟨h1, hT, hQ⟩ := h
  refine wpAny_Call_Name_kw (ld_glob I hg hm ?_ hdb)
  refine PySem.W.callWith_K (h₀ := X.base) I.ok.mod.kin hk (thn ((pa_cons he pa_nil hs).run pos pins s σ H (fun vs H1 => vs = [V.ref a] ∧ H1 = H) I ⟨.ref a, h1, rfl, rfl⟩) fun us s1 hh1 => ?_) hs hpl
  obtain ⟨vs, H1, I1, r1, ev, eH⟩ := hh1
  subst ev
  rw [eH] at I1
  have P1 := I1.pin (a, oe) (List.mem_append_left _ hp)
  have hpin : L2H.PinOk X.stack H s1 (a, oe) := ⟨P1.1, P1.2.1, fun hm => (List.mem_cons.mp (I1.stkSub a hm)).elim P1.2.2.1 P1.2.2.2.1, P1.2.2.2.2⟩
  have e0 := I1.env0
  have KX : X.K.In s1.heap := e0.mod.kin.keeps fun b o e => (e0.bs b o e).1
  have lim : s1.heap.NoLimit := e0.mod.nolimit.keeps fun b o e => (e0.bs b o e).1
  have hus : us = [.ref a] := by
    cases r1 with
    | cons r rr => cases rr; cases r; rfl
  subst hus
  refine ⟨I1.kIn, ?_⟩
  have hkind : ∀ y ∈ [pn].zip [Value.ref a], (defScope st).names.lookup y.1 = some .local ∨ ((defScope st).names.lookup y.1 = some .cell ∧ ((cellsFrom (s1.heap.objs.size + 1) (defScope st).names []).lookup y.1).isSome = true) := fun ⟨n, v⟩ hy => by
    rcases S.par n (List.of_mem_zip hy).1 with q | q
    · exact .inl q
    · exact .inr ⟨q, PySem.W.cellsFrom_some _ _ _ (.inl q)⟩
  have rc : codeAny (model X.prog X.w) X.A (.call (.ref f) ⟨[.ref a], []⟩) (CR C8.CX0 X.stack X.prog X.w H s1 Q C8.E0) s1 := by
    refine codeAny_call_function hr.depth (KX _ _ lk) rfl S.co S.gen rfl (PySem.W.codeRec_of KX hcd) (hb s1 [.ref a] KX rfl _ _ _ _ ?_)
    refine wpAny_newFunctionEnv_cells S.kind hkind fun env he s2 x => ?_
    subst he
    refine ⟨lim.keeps x.toInCall.keep, codeAny_func ?_⟩
    have J : Inv (L2H.cxH C8.CX0 X.prog X.w X.K X.mg X.base N qual (defScope st) f cdv X.A X.stack s1 H C8.E0 (a, oe)) [] (L2.start N [.ref a]) H s2 := L2H.inv_startH S hpin e0 rfl r1 x
    have ht := hbody cdv X.A X.stack s1 H ⟨[], H, none', none', X.mg, fun _ _ _ => False, tb⟩ (.of_call hh hpin hz hv)
    have hq : tOfS ⟨[], H, none', none', X.mg, fun _ _ _ => False, tb⟩ body { nx := fun _ H' => Q .non H', rt := Q } (L2.start N [.ref a]) H := by
      refine ⟨none', startD N.length [.ref a], inv_begin (.cons (.ref a) .nil) (fun _ z => z.elim) hT, ?_⟩
      revert hy
      cases body (startD N.length [.ref a]) with
      | nx ls => exact fun hy => by cases hy
      | bk ls => exact fun hy => by cases hy
      | ct ls => exact fun hy => by cases hy
      | rt d ls =>
        intro hy F' σ' H' v p L rx
        have hy : (opt (retD ls d) : Res D) = .ok (.str y) := hy
        cases er : retD ls d with
        | none => rw [er] at hy; cases hy
        | some d2 =>
          rw [er] at hy; cases hy
          have rq := rx.toQ L er
          cases rq
          exact hQ F' H' (L.callLe p)
      | exc z => exact fun hy => by cases hy
      | stuck => exact fun hy => by cases hy
    refine wpAny_mono (ht.run [] s2 (L2.start N [.ref a]) H _ J hq) (fun fl s' hs => ?_) fun e s' hs => hs
    cases fl with
    | ret u =>
      obtain ⟨v, σ', H', J', rv, q⟩ := hs
      exact ⟨v, H', J'.os, J'.bare, J'.base, J'.hok, rv, q⟩
    | next =>
      obtain ⟨σ', H', J', q⟩ := hs
      exact ⟨.non, H', J'.os, J'.bare, J'.base, J'.hok, rfl, q⟩
    | brk =>
      obtain ⟨_, _, _, q⟩ := hs
      exact False.elim q
    | cont =>
      obtain ⟨_, _, _, q⟩ := hs
      exact False.elim q
  refine wpAny_call (codeAny_mono rc fun r s2 hq => ?_)
  cases r with
  | error e => exact (show False from hq).elim
  | ok fl =>
    cases fl with
    | ret u => exact I1.after hq
    | next => exact False.elim hq
    | brk => exact False.elim hq
    | cont => exact False.elim hq
end
end DL

end DLu
section DLv
set_option Elab.async false
set_option linter.all false
set_option autoImplicit false
set_option maxRecDepth 100000
set_option maxHeartbeats 2000000
namespace DL
open PySem PySem.Spec PyProof.Rows L2 LamX

/-! ### where an exception is handled: the readings -/
section
variable {X : Cx} {G : Gh} {F F' : FS} {H H' : Hp} {ls : LS} {σ : L2.St} {e tg o elt iter : Expr} {es : List Expr} {Z : Ends} {pins : List (Addr × Obj)} {s : Shared} {a C : Addr} {pos : Pos}
theorem dg_tupH {k n : Nat} {gs : MGs} {ks : List Nat} (hk : HotE X a C) (h : PGs X es (tOfGs G gs ks)) (hn : (assignEach es X.env).length = n := by rfl) (hst : (assignEach es X.env).findIdx? (·.1) = none := by rfl) : DG X G (.Tuple es k pos) (gTup' n gs) ks :=
  pg_imp (pg_tupH hk h hn hst) fun v σ H Q ⟨F, ls, d, ls', L, r, e, q⟩ => by
    cases d with
    | tup ds =>
      have e : (if ds.length = n then gs ds ls else none) = some ls' := e
      by_cases z : ds.length = n
      · rw [if_pos z] at e
        have r : Rep F H (.tup ds) v := r
        cases r with
        | tup h rr => exact ⟨_, _, rfl, .inl (.inl h), by rw [← rr.length]; exact z, F, ls, ds, ls', L, rr, e, q⟩
      · rw [if_neg z] at e; cases e
    | _ => cases e
def lstOf : D → Option (List D)
  | .lst xs => some xs
  | _ => none
def iLst (m : ME) : MI := fun ls => (frzv m ls).bind fun p => (opt (lstOf p.1)).bind fun xs => .ok (xs, p.2)
theorem iLst_imp {K : PySem.W.Frag} {m : ME} (σ : L2.St) (H : Hp) (R : It → Hp → Prop) (q : tOfI G (iLst m) σ H R) : iList K (tOf G m) σ H R := by
  obtain ⟨F, ls, L, o⟩ := q
  refine tOf.firstI L o fun F1 H1 ls1 d v p1 L1 r1 o1 => ?_
  dsimp only at o1
  cases d with
  | lst xs =>
    cases r1 with
    | lst f h r => exact ⟨_, rfl, ⟨_, .inl (.inl h)⟩, o1 F1 H1 _ .refl L1 (itd_list f h r)⟩
  | _ => exact o1.elim
theorem tLc_mono {wi wi' : TI} {g : TG} {tt : TT} {te : TE} {vs : List Nat} {σ : L2.St} {H : Hp} {Q : VK} (h : ∀ R, wi σ H R → wi' σ H R) (q : tLc wi g tt te vs σ H Q) : tLc wi' g tt te vs σ H Q := h _ q
theorem de_lcH {ifs : List Expr} {scope : Scope} {own : List (Str × Nat)} {m : ME} {g : MG} {t : MT} {me : ME} {ks : List Nat} (hh : HotE X a C) (hN : X.N.Nodup) (hi : DE X G iter m) (ok : BlkOk X.N X.env.scope scope own) (hk : ∀ k ∈ ks, k ∈ own.map (·.2))
    (hg : ∀ (s : Shared) (H : Hp) (B : Addr) (cl : List (Str × Addr)) (fp : List Addr) (T : List (D × Addr)), HotE (X.blk s H scope (compEnvC scope cl B X.env) fp) a C → DG (X.blk s H scope (compEnvC scope cl B X.env) fp) (Gb G T) tg g ks)
    (ht : ∀ (s : Shared) (H : Hp) (B : Addr) (cl : List (Str × Addr)) (fp : List Addr) (T : List (D × Addr)), HotE (X.blk s H scope (compEnvC scope cl B X.env) fp) a C → PTs (X.blk s H scope (compEnvC scope cl B X.env) fp) ifs (tOfT (Gb G T) t))
    (he : ∀ (s : Shared) (H : Hp) (B : Addr) (cl : List (Str × Addr)) (fp : List Addr) (T : List (D × Addr)), HotE (X.blk s H scope (compEnvC scope cl B X.env) fp) a C → DE (X.blk s H scope (compEnvC scope cl B X.env) fp) (Gb G T) elt me) (hs : ∀ x, foldedSetIterable iter X.env x = pure x := by intro _; rfl) :
    DE X G (.ListComp elt [⟨tg, iter, ifs, 0⟩] scope pos) (mComp (iLst m) g t me (own.map (·.2))) :=
  pe_imp (pe_lcH (g := gAny G g ks) (tt := tAny G t) (te := eAny G me) hh hN hi ok (fun s H B cl fp k => ⟨fun pins s' σ H' v u Q I r ⟨T, q⟩ => (hg s H B cl fp T k).run pins s' σ H' v u Q I r q⟩)
    (fun s H B cl fp k => ⟨fun pins s' σ H' Q I ⟨T, q⟩ => (ht s H B cl fp T k).run pins s' σ H' Q I q⟩) (fun s H B cl fp k => pe_any fun T => he s H B cl fp T k) hs)
    fun σ H Q q => tLc_mono (fun R => iLst_imp (K := X.K) σ H R) (mComp_imp hk σ H Q q)
end

/-! ### a lambda without parameters, handed to a def that calls it -/
abbrev lamCxN (X : Cx) (A : Around) (outer : List Env) (s : Shared) (H : Hp) (E : XK) (scope : Scope) (f c' : Addr) : Cx := (lamCx X A outer s H E scope f c').wish fun e s' =>
  wpAny (model X.prog X.w) (A.deeper (lamEnv X scope s.heap.objs.size f c')) (leaving (lamEnv X scope s.heap.objs.size f c') e) (fun _ s'' => L2N.CX X.prog X.w outer H s E e s'') (fun e' s'' => L2N.CX X.prog X.w outer H s E e' s'') s'
section
variable {X : Cx} {pins : List (Addr × Obj)} {σ : L2.St} {H HZ : Hp} {s s1 : Shared}
theorem pe_actN {CXg : CXT} {Eg : XK} {Ng : List Str} {qg : Str} {sg : Scope} {g f c' : Addr} {cdg pm ctv : Value} {params : Arguments} {body : Expr} {scope : Scope} {k i : Nat} {a : Str} {pn : List (Addr × Obj)} {xe : Value → Shared → Prop} {W : WX} {E : XK} {tb : TE} {p1 p2 : Pos}
    (I : Inv X pins σ H s) (L : LamS X.env.scope scope) (hf : s.heap.get? f = some (PySem.W.kla_obj "<lambda>" (X.env.qual ++ "<lambda>") params body scope (cloFrom X.env.cells scope.names []) pm c' ctv)) (hfn : H f = none) (hfr : f ∉ frs X.stack)
    (hbind : bindArgs (PySem.W.kla_fn "<lambda>" (X.env.qual ++ "<lambda>") params body scope (cloFrom X.env.cells scope.names []) pm (.ref c') ctv) ⟨[], []⟩ = pure [])
    (tk : L2N.Takes ((cxOf CXg X.prog X.w X.K X.mg X.base Ng qg sg g cdg X.A X.stack s H Eg).tr pn xe) W) (hW : ∀ cls d σ' H', E cls d H' → W cls d σ' H') (hr : Room (k + 1) (X.A.deeper (envOfC qg sg s.heap.objs.size g cdg)))
    (hbody : ∀ (A : Around) (outer : List Env) (s : Shared) (H : Hp), Room k (A.deeper (lamEnv X scope s.heap.objs.size f c')) → PE (lamCxN X A outer s H E scope f c') body tb)
    (hN : Ng[i]? = some a) (hv : Vis sg a) (hd : (a == ("__debug__" : Str)) = false := by decide) (hcd : (a == ("__classdict__" : Str)) = false := by decide) :
    PE ((cxOf CXg X.prog X.w X.K X.mg X.base Ng qg sg g cdg X.A X.stack s H Eg).tr pn xe) (.Call (.Name a p1) [] [] p2)
      (fun σZ HZ Q => σZ[i]? = some (some (.ref f)) ∧ HZ c' = some (CodeO c' (X.env.qual ++ "<lambda>")) ∧ tb σ HZ Q) := by
  refine ⟨fun pinsZ sZ σZ HZ Q IZ h => ?_⟩
  obtain ⟨hs, hc, ht⟩ := h
  refine wpAny_Call_Name_kw (thn ((pe_var (pos := p1) (i := i) hN hv hd hcd).run pinsZ sZ σZ HZ (fun v H1 => v = .ref f ∧ H1 = HZ) IZ ⟨.ref f, hs, rfl, rfl⟩) fun u s1 ⟨v, H1, I1, r1, q1⟩ => ?_)
  obtain ⟨ev, eH⟩ := q1
  subst ev
  rw [eH] at I1
  obtain rfl : u = Value.ref f := r1
  have of1 : s1.heap.get? f = some (PySem.W.kla_obj "<lambda>" (X.env.qual ++ "<lambda>") params body scope (cloFrom X.env.cells scope.names []) pm c' ctv) := I1.base.keep f _ hf hfn hfr (fun z => nomatch (show f ∈ ([] : List Addr) from z))
  refine PySem.W.callWith_F0 ⟨_, _, _, _, of1⟩ ?_
  have un : Un (frs X.stack) [] H HZ s.heap s1.heap := I1.base
  obtain ⟨⟨oc, vs, t, hoc, hdc, hvc⟩, _, _⟩ := I1.hok c' _ hc
  have rc : codeAny (model X.prog X.w) (X.A.deeper (envOfC qg sg s.heap.objs.size g cdg)) (.call (.ref f) ⟨[], []⟩) (CR (L2N.CX X.prog X.w) (envOfC qg sg s.heap.objs.size g cdg :: X.stack) X.prog X.w HZ s1 Q E) s1 := by
    refine PySem.W.kla_callFunE hr.depth of1 rfl L.co L.gen rfl ⟨c', oc, vs, t, rfl, hoc, hdc, hvc⟩ ?_
    rw [hbind]
    refine wpAny_pure (wpAny_newFunctionEnv (fun y hy => (L.own y hy).2) (fun y hy => absurd hy (by simp)) (fun h₁ hns hsb => ⟨I1.nolimit.fresh _ hsb, ?_⟩) L.kind)
    show codeAny _ _ (.expr body (lamEnv X scope s1.heap.objs.size f c')) _ _
    have kp : ∀ b o, s1.heap.get? b = some o → h₁.get? b = some o := fun b o e => hsb.extBut b o (Nat.ne_of_lt (Heap.lt_size e)) (Heap.get?_push_of_some _ e)
    have J : Inv (lamCxN X (X.A.deeper (envOfC qg sg s.heap.objs.size g cdg)) (envOfC qg sg s.heap.objs.size g cdg :: X.stack) s1 HZ E scope f c') [] σ HZ { s1 with heap := h₁, toks := s1.toks + ([] : List (Str × Value)).length } :=
      (lam_start2 I L I1.env0 hr.hd un hns kp).wish _
    refine PySem.W.kla_codeExpr (wpAny_mono ((hbody _ _ s1 HZ (hr.deeper _)).run [] _ _ HZ Q J ht) (fun v s' hq => ?_) fun e s' hq => hq)
    obtain ⟨w', H', J', rv, q⟩ := hq
    exact ⟨w', H', J'.os, J'.bare, J'.base, J'.hok, rv, q⟩
  have hx : Passes (L2N.CX X.prog X.w) ((cxOf CXg X.prog X.w X.K X.mg X.base Ng qg sg g cdg X.A X.stack s H Eg).tr pn xe) E := L2N.passes_call tk hW
  refine wpAny_call (codeAny_mono rc fun r s' hq => ?_)
  cases r with
  | error e => exact hx pinsZ σZ HZ s1 e s' I1 hq
  | ok fl =>
    cases fl with
    | ret u => exact I1.after hq
    | next => exact False.elim hq
    | brk => exact False.elim hq
    | cont => exact False.elim hq
end
end DL

end DLv
section DLw
set_option Elab.async false
set_option linter.all false
set_option autoImplicit false
set_option maxRecDepth 100000
set_option maxHeartbeats 2000000
namespace DL
open PySem PySem.Spec PyProof.Rows L2 LamX

theorem takes0N {X : Cx} : L2N.Takes X (fun _ _ _ _ => False) := fun _ _ x => by
  obtain ⟨_, _, _, _, _, _, _, _, _, _, _, _, _, _, _, _, z⟩ := x
  exact z.elim
/-- the def that calls what it got -/
def GivesN (X : Cx) (Ng : List Str) (x : Str) (sg : Scope) (g : Addr) (cdg : Value) (bg : List Stmt) (a : Str) (q : Str) (TT : (XK → Hp → VK → Prop) → Hp → VK → Prop) : Prop :=
  ∀ (f c' : Addr) (s : Shared) (H : Hp) (Q : VK) (tl : XK → Hp → VK → Prop),
    (∀ (W : WX) (pn : List (Addr × Obj)) (xe : Value → Shared → Prop) (E : XK) (p1 p2 : Pos), L2N.Takes ((cxOf C8.CX0 X.prog X.w X.K X.mg X.base Ng x sg g cdg X.A X.stack s H C8.E0).tr pn xe) W → (∀ cls d σ' H', E cls d H' → W cls d σ' H') →
      PE ((cxOf C8.CX0 X.prog X.w X.K X.mg X.base Ng x sg g cdg X.A X.stack s H C8.E0).tr pn xe) (.Call (.Name a p1) [] [] p2) (fun σZ HZ Q => σZ[0]? = some (some (.ref f)) ∧ HZ c' = some (CodeO c' q) ∧ tl E HZ Q)) →
    H c' = some (CodeO c' q) → TT tl H Q →
    ∃ t, PSs (cxOf C8.CX0 X.prog X.w X.K X.mg X.base Ng x sg g cdg X.A X.stack s H C8.E0).nox bg t ∧ t { nx := fun _ H' => Q .non H', rt := Q } (L2.start Ng [.ref f]) H
section
variable {X : Cx}
theorem pe_lamcallN {T : List (Addr × Str)} {TT : (XK → Hp → VK → Prop) → Hp → VK → Prop} {x a : Str} {g c P : Addr} {k : Nat} {stg : Stmt} {fdg : FuncData} {Ng : List Str}
    {params : Arguments} {body : Expr} {scope : Scope} {t : XK → TE} {p lpos pos : Pos} (hg : Gl X x) (hm : X.mg x = some (.ref g)) (hk : PySem.W.keepIn X.K (.ref g) = true)
    (Fg : Fun X.K x x stg g fdg) (hb : L2.Binds X.K fdg [a] []) (Sg : FnScope Ng [a] (defScope stg)) (hNg : Ng[0]? = some a) (hva : Vis (defScope stg) a)
    (hG : ∀ cdv, GivesN X Ng x (defScope stg) g cdv (defBody stg) a (X.env.qual ++ "<lambda>") TT)
    (TB : TabB X.base X.mg c P) (hcode : X.env.code = .ref c) (hmT : (P, X.env.qual ++ "<lambda>") ∈ T) (hu : ∀ p ∈ T, p.1 = P → p.2 = X.env.qual ++ "<lambda>") (hr : Room (k + 2) X.A) (L : LamS X.env.scope scope) (hdef : defaultsOf params X.env = ([], []))
    (hbind : ∀ (q : Str) (cl : List (Str × Addr)) (pm cv ctv : Value), bindArgs (PySem.W.kla_fn "<lambda>" q params body scope cl pm cv ctv) ⟨[], []⟩ = pure [])
    (hbody : ∀ (A : Around) (outer : List Env) (s : Shared) (H : Hp) (E : XK) (f c' : Addr), Room k (A.deeper (lamEnv X scope s.heap.objs.size f c')) → PE (lamCxN X A outer s H E scope f c') body (t E))
    (hdb : (x == ("__debug__" : Str)) = false := by decide) (hd : (a == ("__debug__" : Str)) = false := by decide) (hcd : (a == ("__classdict__" : Str)) = false := by decide) :
    PE X (.Call (.Name x p) [.Lambda params body scope lpos] [] pos) (tLam T TT t) := by
  obtain ⟨oc, od, kV, doc, pm, an, cdv, ct, osl, rfl, lk, hcd'⟩ := Fg.ex
  refine ⟨fun pins s σ H Q I h => ?_⟩
  obtain ⟨hT, h⟩ := h
  refine wpAny_Call_Name_kw (ld_glob I hg hm ?_ hdb)
  refine PySem.W.callWith_K (h₀ := X.base) I.ok.mod.kin hk ?_ (by rfl) (by rfl)
  show wpAny _ _ (spliced ((false, eval (.Lambda params body scope lpos) X.env) :: backTo pos (starEach [] X.env))) _ _ s
  refine Calls.spliced_cons (lam_make2 I TB hcode hmT hu hT hdef (L.has I.ok) fun f c' pm' ctv H1 s' I1 eN T1 hf hfn hfr hco => ?_)
  refine Calls.spliced_nil ⟨I1.kIn, ?_⟩
  have rc : codeAny (model X.prog X.w) X.A (.call (.ref g) ⟨[.ref f], []⟩) (CR C8.CX0 X.stack X.prog X.w H1 s' Q C8.E0) s' := by
    refine run_ofS (N := Ng) (ps := [a]) (us := [.ref f]) (vs := [.ref f]) lk hcd' Sg hr I1.env0 (hb s' [.ref f] I1.kIn rfl) (.cons rfl .nil) rfl fun hr' => ?_
    obtain ⟨t', ht', hq'⟩ := hG cdv f c' s' H1 Q (fun E H' Q' => t E σ H' Q') (fun W pn xe E p1 p2 tk hW => pe_actN (i := 0) I1 L hf hfn hfr (hbind _ _ _ _ _) tk hW hr' (fun A outer s H hr2 => hbody A outer s H E f c' hr2) hNg hva hd hcd) hco (h H1 eN T1)
    exact ⟨t', ht'.nox, hq'⟩
  refine wpAny_call (codeAny_mono rc fun r s2 hq => ?_)
  cases r with
  | error e => exact (show False from hq).elim
  | ok fl =>
    cases fl with
    | ret u => exact I1.after hq
    | next => exact False.elim hq
    | brk => exact False.elim hq
    | cont => exact False.elim hq
/-- what is said of an error of the class C: y -/
def Says (P : Program) (w : World) (K : PySem.W.Frag) (mg : Str → Option Value) (base : Heap) (N : List Str) (qual : Str) (st : Stmt) (f : Addr) (C : Addr) (y : Str) : Prop :=
  ∀ (a : Addr) (oe : Obj), ∃ body : MS, (∀ (cdv : Value) (A : Around) (outer : List Env) (s : Shared) (H : Hp) (G : Gh), HotE (L2H.cxH C8.CX0 P w K mg base N qual (defScope st) f cdv A outer s H C8.E0 (a, oe)) a C →
    DSs (L2H.cxH C8.CX0 P w K mg base N qual (defScope st) f cdv A outer s H C8.E0 (a, oe)) G (defBody st) body) ∧ fin (body (startD N.length [.ref a])) = .ok (.str y)
/-- try: return [a()] / except fe as en: return er(en) -/
def TCame (P : Program) (w : World) (K : PySem.W.Frag) (mg : Str → Option Value) (base : Heap) (tb : List (Addr × Str)) (Ne : List Str) (er : Str) (ste : Stmt) (fE FE : Addr) : (XK → Hp → VK → Prop) → Hp → VK → Prop := fun tl H Q =>
  tl (fun cls d H' => ∃ C y, cls = .ref C ∧ d = none ∧ PySem.W.exmOne K (.ref C) (.ref FE) = some true ∧ Says P w K mg base Ne er ste fE C y ∧ Tabs tb H' ∧ ∀ F' H'', CallLe tb none' none' H' F' H'' → Q (.str y) H'') H
    fun v H' => [v].length ≤ sizeLine ∧ ∀ l, H' l = none → Q (.ref l) (upd H' l (.lst [v]))
theorem came_gives {tb : List (Addr × Str)} {Ng Ne : List Str} {x a en fe er q pe : Str} {sg : Scope} {g fE FE : Addr} {cdg : Value} {ste : Stmt} {fdE : FuncData} {k : Nat} {p1 p2 p2' p3 p4 p5 p6 p7 p8 p9 p10 : Pos} (hNd : Ng.Nodup) (hi : Ng[1]? = some en) (hln : sg.names.lookup en = some .local)
    (hge : sg.names.lookup fe = some .globalImplicit) (hme : X.mg fe = some (.ref FE)) (hgr : sg.names.lookup er = some .globalImplicit) (hmr : X.mg er = some (.ref fE)) (hkr : PySem.W.keepIn X.K (.ref fE) = true)
    (Fr : Fun X.K er er ste fE fdE) (Sr : FnScope Ne [pe] (defScope ste)) (hbr : L2.Binds X.K fdE [pe] []) (hr : Room (k + 2) X.A)
    (hde : (fe == ("__debug__" : Str)) = false := by decide) (hdr : (er == ("__debug__" : Str)) = false := by decide) (hd : (en == ("__debug__" : Str)) = false := by decide) (hcd : (en == ("__classdict__" : Str)) = false := by decide) :
    GivesN X Ng x sg g cdg [.Try [.Return (some (.List [.Call (.Name a p1) [] [] p2] p2')) p3] [.ExceptHandler (some (.Name fe p4)) (some en) [.Return (some (.Call (.Name er p5) [.Name en p6] [] p7)) p8] p9] [] [] p10] a q
      (TCame X.prog X.w X.K X.mg X.base tb Ne er ste fE FE) := by
  intro f c' s H Q tl act hc h
  have hgl : Gl (cxOf C8.CX0 X.prog X.w X.K X.mg X.base Ng x sg g cdg X.A X.stack s H C8.E0).nox fe := hge
  have h0 : (L2.start Ng [V.ref f])[0]? = some (some (V.ref f)) := rfl
  refine ⟨_, pss_one (L2N.ps_try_as (X := (cxOf C8.CX0 X.prog X.w X.K X.mg X.base Ng x sg g cdg X.A X.stack s H C8.E0).nox) (c := .ref FE) (i := 1)
      (tb := fun W D σ H => ∃ Ech : XK, (∀ cls d σ' H', Ech cls d H' → W cls d σ' H') ∧ σ[0]? = some (some (.ref f)) ∧ H c' = some (CodeO c' q) ∧ tl Ech H fun v H' => [v].length ≤ sizeLine ∧ ∀ l, H' l = none → D.rt (.ref l) (upd H' l (.lst [v])))
      (ts := fun a cls d D σ H => ∃ C y, cls = .ref C ∧ d = none ∧ Says X.prog X.w X.K X.mg X.base Ne er ste fE C y ∧ (∃ σ0 : L2.St, σ = σ0.set 1 (some (.ref a))) ∧ Tabs tb H ∧ ∀ F' H'', CallLe tb none' none' H F' H'' → D.rt (.str y) H'')
      rfl rfl hNd hi hln ⟨hgl, hde, .inl hme⟩ takes0N (fun W pn xe tk _ => ?_) (fun a oe cls d pn hz hv => ?_)), ?_⟩
  · refine ⟨fun pins s' σ H' D I h' => ?_⟩
    obtain ⟨Ech, hW, h1, h2, h3⟩ := h'
    have hp := act W pn xe Ech p1 p2 tk hW
    have hq := pss_one (ps_ret (pos := p3) (pe_lst (pos := p2') (pa_cons hp pa_nil)))
    exact hq.run pins s' σ H' D I ⟨h1, h2, h3⟩
  · refine ⟨fun pins s' σ H' D I h' => ?_⟩
    obtain ⟨C, y, rfl, rfl, sy, ⟨σ0, hs0⟩, hT, hQ⟩ := h'
    have hl : σ.length = Ng.length := I.len
    have h1 : σ[1]? = some (some (.ref a)) := by
      rw [hs0] at hl ⊢
      rw [List.length_set] at hl
      rw [List.getElem?_set_self (by rw [hl]; exact (List.getElem?_eq_some_iff.mp hi).1)]
    obtain ⟨bd, hb1, hb2⟩ := sy a oe
    have hp := pe_err (X := (cxOf C8.CX0 X.prog X.w X.K X.mg X.base Ng x sg g cdg X.A X.stack s H C8.E0).nox.suite a ((a, oe) :: pn)) (tb := tb) (k := k) (p := p5) (pos := p7) rfl List.mem_cons_self hz hv Fr Sr hbr
      ⟨(hr.deeper (envOfC x sg s.heap.objs.size g cdg)).dp, (hr.deeper (envOfC x sg s.heap.objs.size g cdg)).un⟩ hgr hmr hkr hb1 hb2 (pe_var (pos := p6) hi (.inl hln) hd hcd) hdr
    exact (pss_one (ps_ret (pos := p8) hp)).run pins s' σ H' D I ⟨h1, hT, hQ⟩
  · exact ⟨_, fun cls d σ' H' e => by
      obtain ⟨C, y, rfl, rfl, e1, e2, e3, e4⟩ := e
      exact ⟨true, e1, fun _ a na => ⟨C, y, rfl, rfl, e2, ⟨_, rfl⟩, e3, e4⟩, fun z => nomatch z⟩, h0, hc, h⟩
end
end DL

end DLw
section DLx
set_option Elab.async false
set_option linter.all false
set_option autoImplicit false
set_option maxRecDepth 100000
set_option maxHeartbeats 2000000
namespace DL
open PySem PySem.Spec PyProof.Rows L2 LamX

/-- what a lambda's body may look at: nothing that changes -/
def keepO (o : Option D) : Option D := o.bind fun d => match d with
  | .own _ => none
  | .io _ => none
  | .bor _ => none
  | d => some d
def shut (ls : LS) : LS := ls.map keepO
theorem keepO_some {o : Option D} {d : D} (h : keepO o = some d) : o = some d ∧ ¬ Chg d := by
  cases o with
  | none => cases h
  | some x =>
    cases x with
    | own x => cases h
    | io x => cases h
    | bor i => cases h
    | _ => cases h; exact ⟨rfl, fun z => z⟩
theorem shut_some {ls : LS} {i : Nat} {d : D} (h : (shut ls)[i]? = some (some d)) : ls[i]? = some (some d) ∧ ¬ Chg d := by
  unfold shut at h
  rw [List.getElem?_map] at h
  cases e : ls[i]? with
  | none => rw [e] at h; cases h
  | some o =>
    rw [e] at h
    have h : keepO o = some d := Option.some.inj h
    obtain ⟨h1, h2⟩ := keepO_some h
    exact ⟨by rw [h1], h2⟩
/-- [m()], or what is said of the error -/
def mCame (err : Str → Option Str) (m : ME) : ME := fun ls => match m (shut ls) with
  | .ok (d, ls') => (opt ((retD ls' d).bind stl)).bind fun d' => .ok (.own (.lst [d']), ls)
  | .exc x => (opt (err x)).bind fun y => .ok (.str y, ls)
  | .stuck => .stuck
section
variable {X : Cx} {G : Gh} {F F' : FS} {H H' H1 : Hp} {ls : LS} {σ : L2.St} {tb : List (Addr × Str)}
theorem CallLe.of (all : ∀ a o, H a = some o → (∀ ps, o ≠ .tbl ps) → H' a = some o) (dom : ∀ a, Nw H' a → Nw H a) (ht : Tabs tb H') (th : ∀ a, F a → ¬ Nw H a) : CallLe tb none' F H F H' where
  le := ⟨fun _ h => h, ⟨fun a vs h => all a _ h fun _ z => (nomatch z), fun a o f h => all a o h fun ps z => th a f fun u hu => by rw [h] at hu; cases hu; exact ⟨ps, z⟩⟩⟩
  all := fun a o h _ t => all a o h t
  dom := dom
  new := fun a f => .inl f
  there := fun a f n => th a f (dom a n)
  tabs := ht
theorem ExtN.nw (e : ExtN H H') (a : Addr) (n : Nw H' a) : Nw H a := fun o h => by
  cases o with
  | tbl ps => exact ⟨ps, rfl⟩
  | _ => exact n _ (e a _ h fun ps z => nomatch z)
theorem CallLe.ext (e : ExtN H H') (ht : Tabs tb H') (th : ∀ a, F a → ¬ Nw H a) : CallLe tb none' F H F H' := .of e (ExtN.nw e) ht th
theorem CallLe.trans {W F1 F2 F3 : FS} {H2 H3 : Hp} (p : CallLe tb none' F1 H F2 H2) (q : CallLe tb W F2 H2 F3 H3) : CallLe tb W F1 H F3 H3 where
  le := p.le.trans q.le
  all := fun a o h w t => q.all a o (p.all a o h (fun z => z) t) w t
  dom := fun a n => p.dom a (q.dom a n)
  new := fun a f => (q.new a f).elim (p.new a) fun n => .inr (p.dom a n)
  there := q.there
  tabs := q.tabs
theorem LInv.shut {mg : Str → Option Value} {E : XK} (L : LInv G F ls σ H) (c : CallLe tb none' F H F H1) : LInv ⟨[], H1, F, none', mg, E, tb⟩ F (shut ls) σ H1 where
  keep := ⟨fun a o e _ _ => e, fun a e => e, c.tabs⟩
  slot := fun i d e => by
    obtain ⟨e1, nc⟩ := shut_some e
    obtain ⟨v, h1, h2⟩ := L.slot i d e1
    refine ⟨v, h1, ?_⟩
    cases d with
    | own d => exact absurd trivial nc
    | io d => exact absurd trivial nc
    | bor i => exact h2.elim
    | non => exact Rep.le c.le h2
    | bl => exact Rep.le c.le h2
    | int => exact Rep.le c.le h2
    | str => exact Rep.le c.le h2
    | ref => exact Rep.le c.le h2
    | tup => exact Rep.le c.le h2
    | lst => exact Rep.le c.le h2
    | scr => exact Rep.le c.le h2
    | dct => exact Rep.le c.le h2
    | ins => exact Rep.le c.le h2
  apart := fun i j d d' v _ e _ c => absurd c (shut_some e).2
  there := c.there
  fnew := fun a f => .inl f
  len := by unfold DL.shut; rw [List.length_map]; exact L.len
  pin := fun p hp => nomatch hp
theorem mCame_imp {err : Str → Option Str} {m : ME} {P : Program} {w : World} {K : PySem.W.Frag} {base : Heap} {Ne : List Str} {er : Str} {ste : Stmt} {fE FE : Addr}
    (he : ∀ x y, err x = some y → ∀ C, G.mg x = some (.ref C) → PySem.W.exmOne K (.ref C) (.ref FE) = some true ∧ Says P w K G.mg base Ne er ste fE C y) (σ : L2.St) (H : Hp) (Q : VK) (q : tOf G (mCame err m) σ H Q) :
    tLam G.tb (TCame P w K G.mg base G.tb Ne er ste fE FE) (fun E σ H Q => ∃ G' : Gh, G'.mg = G.mg ∧ G'.tb = G.tb ∧ G'.E = E ∧ tOf G' m σ H Q) σ H Q := by
  obtain ⟨F, ls, L, o⟩ := q
  refine ⟨L.keep.tabs, fun H1 eN T1 => ?_⟩
  have c1 : CallLe G.tb none' F H F H1 := .ext eN T1 L.there
  unfold TCame
  refine ⟨⟨[], H1, F, none', G.mg, _, G.tb⟩, rfl, rfl, rfl, F, shut ls, L.shut c1, ?_⟩
  revert o
  unfold mCame
  cases m (shut ls) with
  | stuck => exact fun o => o.elim
  | ok p =>
    obtain ⟨d, ls'⟩ := p
    intro o F' H' v p L' rx
    dsimp only at o
    cases e1 : retD ls' d with
    | none => rw [e1] at o; exact o.elim
    | some d2 =>
      rw [e1, Option.bind_some] at o
      cases e2 : stl d2 with
      | none => rw [e2] at o; exact o.elim
      | some d' =>
        rw [e2] at o
        have c2 := c1.trans (L'.callLe p)
        have L2 := L.call c2 (fun _ z => z.elim) (fun _ _ _ _ _ _ z => z) (fun _ _ z => z) L.there
        have rq := rx.toQ L' e1
        have rx2 : RepX G F' H' ls σ d2 v := by
          have rq' : RepQ F' H H' d2 v := by
            cases d2 with
            | own d3 => obtain ⟨m3, a, ea, nf, n⟩ := rq; exact ⟨m3, a, ea, nf, c1.dom a n⟩
            | io d => exact rq
            | bor i => exact rq
            | non => exact rq
            | bl => exact rq
            | int => exact rq
            | str => exact rq
            | ref => exact rq
            | tup => exact rq
            | lst => exact rq
            | scr => exact rq
            | dct => exact rq
            | ins => exact rq
          exact rq'.toX L c2 fun i d h c => ⟨d, h, c⟩
        obtain ⟨F3, p3, L3, ry⟩ := settle L2 rx2 e2
        have rep : Rep F3 H' d' v := by
          cases d' with
          | own d => exact ry.elim
          | io d => exact ry.elim
          | bor i =>
            exfalso
            cases d2 with
            | own d => cases d <;> cases e2
            | bor j => exact rq.elim
            | io d => cases e2
            | _ => cases e2
          | non => exact ry
          | bl => exact ry
          | int => exact ry
          | str => exact ry
          | ref => exact ry
          | tup => exact ry
          | lst => exact ry
          | scr => exact ry
          | dct => exact ry
          | ins => cases (show Rep F3 H' _ _ from ry)
        refine ⟨by show 1 ≤ sizeLine; rw [sizeLine_eq]; omega, fun l n => ?_⟩
        have o3 : Out G (.ok (.own (.lst [d']), ls)) F3 σ H' Q := Out.later (c2.le.trans p3) o
        exact Pur.of L3 o3 _ _ (same_upd n) ⟨⟨l, [v], rfl, upd_same, .cons (rep.le (Le.same (same_upd n))) .nil⟩, l, rfl, n⟩
  | exc x =>
    intro o H' C kp hC
    dsimp only at o
    cases e1 : err x with
    | none => rw [e1] at o; exact o.elim
    | some y =>
      rw [e1] at o
      obtain ⟨h1, h2⟩ := he x y e1 C hC
      refine ⟨C, y, rfl, rfl, h1, h2, kp.tabs, fun F' H'' c3 => ?_⟩
      have c2 : CallLe G.tb none' F H F H'' := c1.trans (.of (fun a o h t => c3.all a o (kp.all a o h (fun z => z) t) (fun z => z) t) (fun a n => kp.dom a (c3.dom a n)) c3.tabs c1.there)
      exact o F H'' (.str y) c2.le (L.call c2 (fun _ z => z.elim) (fun _ _ _ _ _ _ z => z) (fun _ _ z => z) L.there) (.str y)
theorem pe_exists {e : Expr} {ι : Type} {p : ι → Prop} {ts : ι → TE} (h : ∀ i, p i → PE X e (ts i)) : PE X e (fun σ H Q => ∃ i, p i ∧ ts i σ H Q) := ⟨fun pins s σ H Q I ⟨i, hp, q⟩ => (h i hp).run pins s σ H Q I q⟩
end
end DL

end DLx
section DLy
set_option Elab.async false
set_option linter.all false
set_option autoImplicit false
set_option maxRecDepth 100000
set_option maxHeartbeats 2000000
namespace DL
open PySem PySem.Spec PyProof.Rows L2 LamX

/-! ### the script, a list that is never changed -/
/-- what stands wherever all that was there is kept -/
def Steady' (G : Gh) (p : Hp → Prop) : Prop := ∀ H, Keep G H → p H
theorem sq_keep {K : PySem.W.Frag} {a : Addr} {xs : List V} {G : Gh} (h0 : SqL K G.H0 a xs) (hI : ∀ a, ¬ G.I0 a) {H : Hp} (k : Keep G H) : SqL K H a xs := by
  rcases h0 with (h | ⟨o, h⟩) | h
  · exact .inl (.inl (k.all a _ h (hI a) fun _ z => nomatch z))
  · exact .inl (.inr ⟨o, k.all a _ h (hI a) fun _ z => nomatch z⟩)
  · exact .inr h
section
variable {X : Cx} {G : Gh} {F F' : FS} {H H' H1 : Hp} {ls : LS} {σ : L2.St} {tb : List (Addr × Str)} {a : Addr} {e : Expr} {es : List Expr} {ns : List Int}
theorem cb_impS {r : List V → Hp → VK → Prop} {g : List D → Option D} (hg : ∀ (F : FS) (H : Hp) (xs : List D) (d : D) (vs : List V) (Q : VK), Keep G H → RepRs F H xs vs → g xs = some d → Pur F H d Q → r vs H Q) {ms : MA} (σ : L2.St) (H : Hp) (Q : VK) (q : tOf G (cb g ms) σ H Q) : tOfA G ms σ H fun vs H1 => r vs H1 Q := by
  obtain ⟨F, ls, L, o⟩ := q
  refine tOfA.firstE L o fun F1 H1 ls1 ds vs p L1 r1 o1 => ?_
  dsimp only at o1
  cases e1 : sees ls1 ds with
  | none => rw [e1] at o1; exact o1.elim
  | some xs =>
    rw [e1] at o1
    simp only [opt_some, Res.bind_ok] at o1
    cases e3 : g xs with
    | none => rw [e3] at o1; exact o1.elim
    | some z =>
      rw [e3] at o1
      exact hg F1 H1 xs z vs Q L1.keep (sees_rep L1 r1 e1) e3 (Pur.of L1 o1)
theorem bin_impS {r : R2} {g : D → D → Option D} (hg : ∀ (F : FS) (H : Hp) (x y d : D) (v u : V) (Q : VK), Keep G H → RepR F H x v → RepR F H y u → g x y = some d → Pur F H d Q → r v u H Q) {ma mb : ME} (σ : L2.St) (H : Hp) (Q : VK) (q : tOf G (bin g ma mb) σ H Q) : tOp r (tOf G ma) (tOf G mb) σ H Q := by
  obtain ⟨F, ls, L, o⟩ := q
  refine tOf.settled L o fun F1 H1 ls1 d v p L1 r1 o1 => ?_
  refine tOf.settled L1 o1 fun F2 H2 ls2 d2 u p2 L2 r2 o2 => ?_
  dsimp only at o2
  cases e1 : see ls2 d with
  | none => rw [e1] at o2; exact o2.elim
  | some x =>
    cases e2 : see ls2 d2 with
    | none => rw [e1, e2] at o2; exact o2.elim
    | some y =>
      rw [e1, e2] at o2
      simp only [opt_some, Res.bind_ok] at o2
      cases e3 : g x y with
      | none => rw [e3] at o2; exact o2.elim
      | some z =>
        rw [e3] at o2
        exact hg F2 H2 x y z v u Q L2.keep (see_rep L2 (r1.le p2) e1) (see_rep L2 r2 e2) e3 (Pur.of L2 o2)
def gLenS (a : Addr) (n : Nat) : List D → Option D
  | [.ref b] => if b = a then some (.int n) else none
  | _ => none
theorem de_lenS {p pos : Pos} {ms : MA} (hs : Steady' G fun H => SqL X.K H a (ns.map V.int)) (hg : Gl X "len") (hm : X.mg "len" = none) (ha : DA X G (e :: es) ms)
    (he : starEach (e :: es) X.env = (false, eval e X.env) :: starEach es X.env := by rfl) (hpl : (backTo pos (starEach es X.env)).any (·.1) = false := by rfl) :
    DE X G (.Call (.Name "len" p) (e :: es) [] pos) (cb (gLenS a ns.length) ms) := by
  refine pe_imp (pe_callB call_len_seq hg hm (by decide) ha (by decide) (by decide) he hpl) (cb_impS fun F H xs d vs Q kp rs e p => ?_)
  match xs, rs, e with
  | [.ref b], rs, e0 =>
    obtain ⟨v, rfl, r1⟩ := rs.one
    obtain rfl := r1.isRef
    have e2 : (if b = a then some (D.int ns.length) else none) = some d := e0
    by_cases hb : b = a
    · rw [if_pos hb] at e2; cases e2
      exact ⟨b, ns.map V.int, rfl, .inl (by rw [hb]; exact hs H kp), by rw [List.length_map]; exact p H _ (Same.refl _) (.int _)⟩
    · rw [if_neg hb] at e2; cases e2
def gIxS (a : Addr) (ns : List Int) : D → D → Option D
  | .ref b, .int k => if b = a then (L2.atI ns k).map .int else none
  | _, _ => none
theorem de_ixS {x y : Expr} {ma mb : ME} {pos : Pos} (hs : Steady' G fun H => SqL X.K H a (ns.map V.int)) (ha : DE X G x ma) (hb : DE X G y mb) (hp : PlainIx y) : DE X G (.Subscript x y pos) (bin (gIxS a ns) ma mb) := by
  refine pe_imp (pe_ix ix_seq ha hb hp) (bin_impS fun F H x y d v u Q kp r1 r2 e p => ?_)
  match x, y, r1, r2, e with
  | .ref b, .int k, r1, r2, e0 =>
    obtain rfl := r1.isRef
    obtain rfl := r2.isInt
    have e2 : (if b = a then (L2.atI ns k).map D.int else none) = some d := e0
    by_cases hb : b = a
    · rw [if_pos hb] at e2
      cases q : L2.atI ns k with
      | none => rw [q] at e2; cases e2
      | some z =>
        rw [q] at e2; cases e2
        refine .inl ⟨b, ns.map V.int, k, .int z, rfl, rfl, by rw [hb]; exact hs H kp, ?_, p H _ (Same.refl _) (.int _)⟩
        revert q
        unfold L2.atI
        rw [List.length_map]
        cases ixN ns.length k with
        | none => exact fun z => by cases z
        | some j => intro hz; rw [Option.bind_some] at hz ⊢; rw [List.getElem?_map, hz]; rfl
    · rw [if_neg hb] at e2; cases e2

/-! ### defs that are told more -/
structure FunQ (K : PySem.W.Frag) (x qual : Str) (st : Stmt) (f : Addr) (fd : FuncData) (cp : Value → Prop) : Prop where
  ex : ∃ (oc : Value) (od : Option Addr) (kV doc pm : Value) (an : Option Addr) (cdv ct : Value) (osl : Array (Option Value)),
    fd = PySem.W.fnOf x qual (defArgs st) (defBody st) (defScope st) .none kV doc pm an cdv ct ∧ K.lookup f = some ⟨oc, od, .func fd, osl⟩ ∧ PySem.W.codeIn K cdv qual = true ∧ cp cdv
theorem Fun.q {K : PySem.W.Frag} {x qual : Str} {st : Stmt} {f : Addr} {fd : FuncData} (Fn : Fun K x qual st f fd) : FunQ K x qual st f fd fun _ => True := by
  obtain ⟨oc, od, kV, doc, pm, an, cdv, ct, osl, h1, h2, h3⟩ := Fn.ex
  exact ⟨oc, od, kV, doc, pm, an, cdv, ct, osl, h1, h2, h3, trivial⟩
def SpX {ι : Type} (mg : Str → Option Value) (tb : List (Addr × Str)) (n : Nat) (pre : ι → Hp → Prop) (f : ι → FD) : Sp := fun vs H Q E => ∃ i, pre i H ∧ SpF mg tb n (f i) vs H Q E
theorem okX {ι : Type} {P : Program} {w : World} {K : PySem.W.Frag} {mg : Str → Option Value} {base : Heap} {x qual : Str} {st : Stmt} {f : Addr} {fd : FuncData} {N ps : List Str} {k : Nat} {pre : ι → Hp → Prop} {body : ι → MS} {fD : ι → FD} {cp : Value → Prop} (Fn : FunQ K x qual st f fd cp) (S : FnScope N ps (defScope st))
    (hb : ∀ (i : ι) (cdv : Value) (A : Around) (outer : List Env) (s : Shared) (H : Hp) (E : XK) (G : Gh), cp cdv → Room k (A.deeper (envOfC qual (defScope st) s.heap.objs.size f cdv)) → G.mg = mg → G.tb = tb → G.H0 = H → (∀ a, ¬ G.I0 a) → pre i H →
      L2N.Takes (cxOf (L2N.CX P w) P w K mg base N qual (defScope st) f cdv A outer s H E) (fun cls d _ H => G.E cls d H) →
      PassesOwn (model P w) (A.deeper (envOfC qual (defScope st) s.heap.objs.size f cdv)) (envOfC qual (defScope st) s.heap.objs.size f cdv) (cxOf (L2N.CX P w) P w K mg base N qual (defScope st) f cdv A outer s H E).xe →
      DSs (cxOf (L2N.CX P w) P w K mg base N qual (defScope st) f cdv A outer s H E) G (defBody st) (body i))
    (hD : ∀ i ds, ds.length = ps.length → fD i ds ≠ .stuck → fin (body i (startD N.length ds)) = fD i ds) : FnOk P w K mg base (L2N.CX P w) (k + 1) f fd ps (SpX mg tb ps.length pre fD) := by
  obtain ⟨oc, od, kV, doc, pm, an, cdv, ct, osl, rfl, lk, hcd, hcp⟩ := Fn.ex
  refine fn_of lk hcd S (fun vs H Q E h => ?_) (fun A outer s H vs Q E hr h => ?_)
  · obtain ⟨i, _, F, ds, hl, r, _⟩ := h
    rw [← r.length]; exact hl
  · obtain ⟨i, hp, F, ds, hl, r, th, ht, e⟩ := h
    refine ⟨_, hb i cdv A outer s H E ⟨[], H, F, none', mg, E, tb⟩ hcp hr rfl rfl rfl (fun _ z => z) hp (L2N.takes_of rfl rfl rfl rfl) (passes_of (X := cxOf (L2N.CX P w) P w K mg base N qual (defScope st) f cdv A outer s H E) rfl), F, startD N.length ds, inv_begin r th ht, ?_⟩
    have q := hD i ds hl (fun z => by rw [z] at e; exact e)
    rw [← q] at e
    revert e
    cases body i (startD N.length ds) with
    | nx ls => exact fun e F' σ' H' p L => e F' H' .non (L.callLe p) .non
    | bk ls => exact fun e => e.elim
    | ct ls => exact fun e => e.elim
    | rt d ls =>
      intro e F' σ' H' v p L rx
      have e' : match (opt (retD ls d) : Res D) with
        | .ok d => ∀ F' H' v, CallLe tb none' F H F' H' → RepQ F' H H' d v → Q v H'
        | .exc x => ∀ H' C, (∀ a o, H a = some o → (∀ ps, o ≠ .tbl ps) → H' a = some o) → (∀ a, Nw H' a → Nw H a) → LamX.Tabs tb H' → mg x = some (.ref C) → E (.ref C) none H'
        | .stuck => False := e
      cases er : retD ls d with
      | some d2 => rw [er] at e'; exact e' F' H' v (L.callLe p) (rx.toQ L er)
      | none => rw [er] at e'; exact e'.elim
    | exc y => exact fun e H' C kp hC => e H' C (fun a o ea t => kp.all a o ea (fun z => z) t) kp.dom kp.tabs hC
    | stuck => exact fun e => e.elim
theorem mCall_impX {ι : Type} {mg : Str → Option Value} {n : Nat} {pre : ι → Hp → Prop} {f : ι → FD} {ms : MA} (i : ι) (hpre : ∀ H, Keep G H → pre i H) (hmg : G.mg = mg) (hn : ∀ ds d, f i ds = d → d ≠ .stuck → ds.length = n) (σ : L2.St) (H : Hp) (Q : VK) (q : tOf G (mCall (f i) ms) σ H Q) : tOfA G ms σ H fun vs H1 => SpX mg G.tb n pre f vs H1 Q G.E := by
  obtain ⟨F, ls, L, o⟩ := q
  refine tOfA.frozen L o fun F1 H1 ls1 ds vs p1 L1 r1 o1 => ⟨i, hpre H1 L1.keep, ?_⟩
  dsimp only at o1
  cases e : f i ds with
  | stuck => rw [e] at o1; exact o1.elim
  | ok d =>
    rw [e] at o1
    refine ⟨F1, ds, hn ds _ e (fun z => nomatch z), r1, L1.there, L1.keep.tabs, ?_⟩
    rw [e]
    intro F2 H2 v c r
    exact o1 F2 H2 v c.le (L1.call c (fun _ z => z.elim) (fun _ _ _ _ _ _ z => z) (fun _ _ z => z) L1.there) (r.toX L1 c fun i d h c => ⟨d, h, c⟩)
  | exc x =>
    rw [e] at o1
    refine ⟨F1, ds, hn ds _ e (fun z => nomatch z), r1, L1.there, L1.keep.tabs, ?_⟩
    rw [e]
    intro H2 C h1 h2 h3 hx
    exact o1 H2 C ⟨fun a u e n t => h1 a u (L1.keep.all a u e n t) t, fun a z => L1.keep.dom a (h2 a z), h3⟩ (by rw [hmg]; exact hx)
theorem de_callX {ι : Type} {pre : ι → Hp → Prop} {k : Nat} {f : Addr} {fd : FuncData} {ps : List Str} {fF : ι → FD} {x : Str} {p pos : Pos} {ms : MA} {n : Nat} (i : ι) (hpre : ∀ H, Keep G H → pre i H) (hmg : G.mg = X.mg) (tk : L2N.Takes X (fun cls d _ H => G.E cls d H)) (hn : ∀ ds d, fF i ds = d → d ≠ .stuck → ds.length = n)
    (Fn : FnOk X.prog X.w X.K X.mg X.base (L2N.CX X.prog X.w) k f fd ps (SpX X.mg G.tb n pre fF)) (hr : Room k X.A) (hg : Gl X x) (hm : X.mg x = some (.ref f)) (hk : PySem.W.keepIn X.K (.ref f) = true) (hb : Binds X.K fd ps []) (ha : DA X G (e :: es) ms)
    (hdb : (x == ("__debug__" : Str)) = false := by decide) (he : starEach (e :: es) X.env = (false, eval e X.env) :: starEach es X.env := by rfl) (hpl : (backTo pos (starEach es X.env)).any (·.1) = false := by rfl) :
    DE X G (.Call (.Name x p) (e :: es) [] pos) (mCall (fF i) ms) :=
  pe_imp (pe_callS (E := fun _ => G.E) Fn hr hg hm hk hb (fun σ => L2N.passAt tk σ) ha hdb he hpl) (mCall_impX i hpre hmg hn)

/-! ### _law_came(lambda: ..) -/
structure CameOk (P : Program) (w : World) (K : PySem.W.Frag) (mg : Str → Option Value) (base : Heap) (tb : List (Addr × Str)) (x : Str) (k : Nat) (err : Str → Option Str) : Prop where
  ex : ∃ (a : Str) (g : Addr) (stg : Stmt) (fdg : FuncData) (Ng Ne : List Str) (er : Str) (ste : Stmt) (fE FE : Addr), mg x = some (.ref g) ∧ PySem.W.keepIn K (.ref g) = true ∧ Fun K x x stg g fdg ∧ L2.Binds K fdg [a] [] ∧ FnScope Ng [a] (defScope stg) ∧ Ng[0]? = some a ∧ Vis (defScope stg) a ∧
    (a == ("__debug__" : Str)) = false ∧ (a == ("__classdict__" : Str)) = false ∧
    (∀ (X : Cx) (cdv : Value) (q : Str), X.prog = P → X.w = w → X.K = K → X.mg = mg → X.base = base → Room (k + 2) X.A → GivesN X Ng x (defScope stg) g cdv (defBody stg) a q (TCame P w K mg base tb Ne er ste fE FE)) ∧
    ∀ x y, err x = some y → ∀ C, mg x = some (.ref C) → PySem.W.exmOne K (.ref C) (.ref FE) = some true ∧ Says P w K mg base Ne er ste fE C y
theorem de_came {err : Str → Option Str} {x : Str} {k : Nat} {c P : Addr} {params : Arguments} {body : Expr} {scope : Scope} {m : ME} {p lpos pos : Pos} (O : CameOk X.prog X.w X.K X.mg X.base G.tb x k err) (hmg : G.mg = X.mg) (hg : Gl X x)
    (TB : TabB X.base X.mg c P) (hcode : X.env.code = .ref c) (q0 : Str) (hq0 : X.env.qual = q0) (hmT : (P, q0 ++ "<lambda>") ∈ G.tb) (hu : ∀ p ∈ G.tb, p.1 = P → p.2 = q0 ++ "<lambda>") (hr : Room (k + 2) X.A) (L : LamS X.env.scope scope)
    (hbody : ∀ (A : Around) (outer : List Env) (s : Shared) (H : Hp) (E : XK) (f c' : Addr) (G' : Gh), Room k (A.deeper (lamEnv X scope s.heap.objs.size f c')) → G'.mg = X.mg → G'.tb = G.tb →
      L2N.Takes (lamCxN X A outer s H E scope f c') (fun cls d _ H => G'.E cls d H) → DE (lamCxN X A outer s H E scope f c') G' body m)
    (hdef : defaultsOf params X.env = ([], []) := by rfl)
    (hbind : ∀ (q : Str) (cl : List (Str × Addr)) (pm cv ctv : Value), bindArgs (PySem.W.kla_fn "<lambda>" q params body scope cl pm cv ctv) ⟨[], []⟩ = pure [] := by exact fun _ _ _ _ _ => rfl)
    (hdb : (x == ("__debug__" : Str)) = false := by decide) :
    DE X G (.Call (.Name x p) [.Lambda params body scope lpos] [] pos) (mCame err m) := by
  subst hq0
  obtain ⟨a, g, stg, fdg, Ng, Ne, er, ste, fE, FE, h1, h2, h3, h4, h5, h6, h7, h8, h9, h10, h11⟩ := O.ex
  refine pe_imp (pe_lamcallN (T := G.tb) (TT := TCame X.prog X.w X.K X.mg X.base G.tb Ne er ste fE FE) (t := fun E σ H Q => ∃ G' : Gh, (G'.mg = G.mg ∧ G'.tb = G.tb ∧ G'.E = E) ∧ tOf G' m σ H Q) hg h1 h2 h3 h4 h5 h6 h7
    (fun cdv => h10 X cdv _ rfl rfl rfl rfl rfl hr) TB hcode hmT hu hr L hdef hbind (fun A outer s H E f c' hr2 => pe_exists fun G' ⟨e1, e2, e3⟩ => ?_) hdb h8 h9) (fun σ H Q q => ?_)
  · refine hbody A outer s H E f c' G' hr2 (e1.trans hmg) e2 ?_
    rw [e3]
    exact L2N.takes_of (X := lamCxN X A outer s H E scope f c') rfl rfl rfl rfl
  · have h11' : ∀ x y, err x = some y → ∀ C, G.mg x = some (.ref C) → PySem.W.exmOne X.K (.ref C) (.ref FE) = some true ∧ Says X.prog X.w X.K G.mg X.base Ne er ste fE C y := by
      rw [hmg]; exact h11
    obtain ⟨q1, q2⟩ := mCame_imp h11' σ H Q q
    rw [hmg] at q2
    refine ⟨q1, fun H1 e1 e2 => ?_⟩
    obtain ⟨G', z1, z2, z3, z4⟩ := q2 H1 e1 e2
    exact ⟨G', ⟨z1.trans hmg.symm, z2, z3⟩, z4⟩
end
end DL

end DLy
section DLz
set_option Elab.async false
set_option linter.all false
set_option autoImplicit false
set_option maxRecDepth 100000
set_option maxHeartbeats 2000000
namespace DL
open PySem PySem.Spec PyProof.Rows L2 LamX RZ
section
variable {X : Cx} {G : Gh} {F F' : FS} {H H' H1 : Hp} {ls : LS} {σ : L2.St} {e e2 tg : Expr} {es : List Expr}
/-! ### zip of two lists, of two tuples -/
def zipD : List D → List D → List D
  | x :: xs, y :: ys => .tup [x, y] :: zipD xs ys
  | _, _ => []
theorem zipD_get : ∀ {xs ys : List D} {i : Nat} {d : D}, (zipD xs ys)[i]? = some d → ∃ x y, d = .tup [x, y] ∧ xs[i]? = some x ∧ ys[i]? = some y
  | [], _, i, d, h => by simp [zipD] at h
  | x :: xs, [], i, d, h => by simp [zipD] at h
  | x :: xs, y :: ys, 0, d, h => by simp only [zipD, List.getElem?_cons_zero, Option.some.injEq] at h; exact ⟨x, y, h.symm, rfl, rfl⟩
  | x :: xs, y :: ys, i + 1, d, h => by simp only [zipD, List.getElem?_cons_succ] at h ⊢; exact zipD_get h
theorem zipD_len : ∀ (xs ys : List D), (zipD xs ys).length = min xs.length ys.length
  | [], _ => by simp [zipD]
  | x :: xs, [] => by simp [zipD]
  | x :: xs, y :: ys => by simp only [zipD, List.length_cons, zipD_len xs ys]; omega
def iZip (ms : MA) : MI := fun ls => (fz ms ls).bind fun q => match q.1 with
  | [.lst xs, .lst ys] => .ok (zipD xs ys, q.2)
  | [.tup xs, .tup ys] => .ok (zipD xs ys, q.2)
  | _ => .stuck
theorem tOfA.frozenI {R : It → Hp → Prop} {Q' : List V → Hp → Prop} {ms : MA} {f : List D × LS → Res (List D × LS)} (L : LInv G F ls σ H) (o : OutI G ((fz ms ls).bind f) F σ H R)
    (h : ∀ F1 H1 ls1 ds vs, Le F H F1 H1 → LInv G F1 ls1 σ H1 → Reps F1 H1 ds vs → OutI G (f (ds, ls1)) F1 σ H1 R → Q' vs H1) : tOfA G ms σ H Q' := by
  have e : ((fz ms ls).bind f) = (ms ls).bind fun q => (opt (frzs q.2 q.1)).bind f := by
    unfold fz
    cases ms ls <;> rfl
  rw [e] at o
  refine tOfA.firstI L o fun F1 H1 ls1 ds vs p1 L1 r1 o1 => ?_
  dsimp only at o1
  cases e1 : frzs ls1 ds with
  | none => rw [e1] at o1; exact o1.elim
  | some q =>
    obtain ⟨ds2, ls2⟩ := q
    rw [e1] at o1
    obtain ⟨F2, p2, L2, r2⟩ := frzs_ok L1 r1 e1
    refine h F2 H1 ls2 ds2 vs (p1.trans p2) L2 r2 ?_
    revert o1
    rw [opt_some, Res.bind_ok]
    cases f (ds2, ls2) with
    | ok q => exact fun o F' H' J p => o F' H' J (p2.trans p)
    | exc x => exact fun o => o
    | stuck => exact fun o => o
theorem itd_zip {K : PySem.W.Frag} {a b : Addr} {xs ys : List D} {vs us : List V} (fa : F a) (ha : H a = some (.lst vs)) (ra : Reps F H xs vs) (fb : F b) (hb : H b = some (.lst us)) (rb : Reps F H ys us) : ItD (Itz K a b) F H (zipD xs ys) where
  go := fun i F' H' p hi => by
    rw [zipD_len, Nat.lt_min] at hi
    have h1 : i < vs.length := by rw [← ra.length]; exact hi.1
    have h2 : i < us.length := by rw [← rb.length]; exact hi.2
    exact ⟨vs, us, vs[i], us[i], .inl (.inl (p.st.frz _ _ fa ha)), .inl (.inl (p.st.frz _ _ fb hb)), List.getElem?_eq_getElem _, List.getElem?_eq_getElem _⟩
  yld := fun i F' H' x H'' d p y hd => by
    obtain ⟨T, x1, y1, rfl, hT, rfl, q1, q2⟩ := y
    obtain ⟨dx, dy, rfl, e1, e2⟩ := zipD_get hd
    obtain ⟨v, g1, r1⟩ := ra.get e1
    obtain ⟨u, g2, r2⟩ := rb.get e2
    have z1 := q1 vs (.inl (.inl (p.st.frz _ _ fa ha)))
    have z2 := q2 us (.inl (.inl (p.st.frz _ _ fb hb)))
    rw [g1] at z1; cases z1
    rw [g2] at z2; cases z2
    exact ⟨same_upd hT, .tup upd_same (.cons ((r1.le p).le (Le.same (same_upd hT))) (.cons ((r2.le p).le (Le.same (same_upd hT))) .nil))⟩
  stop := fun F' H' p => ⟨vs, us, .inl (.inl (p.st.frz _ _ fa ha)), .inl (.inl (p.st.frz _ _ fb hb)), by rw [zipD_len, ← ra.length, ← rb.length]; omega⟩
theorem itd_zipT {K : PySem.W.Frag} {a b : Addr} {xs ys : List D} {vs us : List V} (ha : H a = some (.tup vs)) (ra : Reps F H xs vs) (hb : H b = some (.tup us)) (rb : Reps F H ys us) : ItD (ItzT K a b) F H (zipD xs ys) where
  go := fun i F' H' p hi => by
    rw [zipD_len, Nat.lt_min] at hi
    have h1 : i < vs.length := by rw [← ra.length]; exact hi.1
    have h2 : i < us.length := by rw [← rb.length]; exact hi.2
    exact ⟨vs, us, vs[i], us[i], .inl (.inl (p.st.tup _ _ ha)), .inl (.inl (p.st.tup _ _ hb)), List.getElem?_eq_getElem _, List.getElem?_eq_getElem _⟩
  yld := fun i F' H' x H'' d p y hd => by
    obtain ⟨T, x1, y1, rfl, hT, rfl, q1, q2⟩ := y
    obtain ⟨dx, dy, rfl, e1, e2⟩ := zipD_get hd
    obtain ⟨v, g1, r1⟩ := ra.get e1
    obtain ⟨u, g2, r2⟩ := rb.get e2
    have z1 := q1 vs (.inl (.inl (p.st.tup _ _ ha)))
    have z2 := q2 us (.inl (.inl (p.st.tup _ _ hb)))
    rw [g1] at z1; cases z1
    rw [g2] at z2; cases z2
    exact ⟨same_upd hT, .tup upd_same (.cons ((r1.le p).le (Le.same (same_upd hT))) (.cons ((r2.le p).le (Le.same (same_upd hT))) .nil))⟩
  stop := fun F' H' p => ⟨vs, us, .inl (.inl (p.st.tup _ _ ha)), .inl (.inl (p.st.tup _ _ hb)), by rw [zipD_len, ← ra.length, ← rb.length]; omega⟩
theorem iZip_imp {K : PySem.W.Frag} {ms : MA} (σ : L2.St) (H : Hp) (R : It → Hp → Prop) (q : tOfI G (iZip ms) σ H R) : iZipA K (tOfA G ms) σ H R := by
  obtain ⟨F, ls, L, o⟩ := q
  refine tOfA.frozenI L o fun F1 H1 ls1 ds vs p1 L1 r1 o1 => ?_
  dsimp only at o1
  split at o1
  · cases r1 with
    | cons ra rr =>
      cases rr with
      | cons rb rr =>
        cases rr
        cases ra with
        | lst fa ha r =>
          cases rb with
          | lst fb hb r' => exact ⟨_, _, _, _, rfl, .inl ⟨.inl (.inl ha), .inl (.inl hb), o1 F1 H1 _ .refl L1 (itd_zip fa ha r fb hb r')⟩⟩
  · cases r1 with
    | cons ra rr =>
      cases rr with
      | cons rb rr =>
        cases rr
        cases ra with
        | tup ha r =>
          cases rb with
          | tup hb r' => exact ⟨_, _, _, _, rfl, .inr ⟨.inl (.inl ha), .inl (.inl hb), o1 F1 H1 _ .refl L1 (itd_zipT ha r hb r')⟩⟩
  · exact o1.elim
theorem di_zip {ms : MA} {p pos tpos : Pos} {elts : List Expr} {kk : Nat} (hg : Gl X "zip") (hm : X.mg "zip" = none) (ha : DA X G [e, e2] ms)
    (hs : starEach [e, e2] X.env = (false, eval e X.env) :: starEach [e2] X.env := by rfl) (hpl : (backTo pos (starEach [e2] X.env)).any (·.1) = false := by rfl) :
    DI X G (.Tuple elts kk tpos) (.Call (.Name "zip" p) [e, e2] [] pos) (iZip ms) := pi_imp (pi_zipA hg hm ha hs hpl) fun σ H R q => iZip_imp σ H R q
end

/-! ### the end -/
theorem walkD {l : PySem.W.OpenLaw} {n k : Nat} {q : Program} {loose : List Str} {XP : (Str → Option Value) → Heap → Prop} {YP : World → Heap → Prop} {d : DefRec} {K : Params → PySem.W.Frag} {CX : World → CXT} {x : Str}
    (hn : l.most = some n) (hn2 : n ≤ sizeLine) (hdf : d.params.defaults = []) (hr : Room k callerA) (hY : ∀ (w : World) (h : Heap), YP w h → (K w.params).In h)
    (F : ∀ (w : World) (mg : Str → Option Value) (fa : Addr) (h : Heap), YP w h → (K w.params).In h → h.Ns mainGlobals mg → mg d.name = some (.ref fa) →
      (∀ (x : Str) (d : DefRec) (c P : Addr), (recsOf q).find? (fun e => e.name == x) = some d → PySem.W.tabIn (K w.params) x = some (c, P) → PySem.W.CodeHd h c P ∧ h.get? P = some { cls := .none, data := .fields #[] }) → LawAtS l w (K w.params) (CX w) k n x mg fa h)
    (hCX : ∀ (w : World) (H : Hp) (s : Shared) (e : Value) (s' : Shared), CX w [] H s (fun _ _ _ => False) e s' → False) :
    PySem.W.WalkO q loose XP YP l.row.toRowW d [] (fun f vs => PySem.call f vs) := by
  refine Att.attach_callB hn hdf fun w s₀ s₁ mg mb fa o pm cd doc a vs ns G Y ho hd hcd hmg hobj hints hlen hbits hg => ?_
  have KX := hY w _ Y
  obtain ⟨fd, cs, sp, hT, nT, C, hb, hsp, hF⟩ := F w mg fa _ Y KX G.T.g hmg fun x d c P h1 h2 => PySem.W.tab_of G.T KX h1 h2
  exact law_callTs KX G.T.g G.T.b G.T.builtins G.T.nolimit hg hT nT C G.T.bmain hobj hints (Nat.le_trans hlen hn2) hr hF hb (fun H hH hS => hsp H a ns hlen hbits hH hS) fun H e s' => hCX w H s₁ e s'
end DL

end DLz
section DM
set_option Elab.async false
set_option linter.all false
set_option autoImplicit false
set_option maxRecDepth 100000
set_option maxHeartbeats 2000000
namespace DL
open PySem PySem.Spec PyProof.Rows L2 LamX

/-! ### defs by name -/
def mkF (n N : Nat) (b : MS) : FD := fun ds => if ds.length = n then fin (b (startD N ds)) else .stuck
def mkIO (n N : Nat) (b : MS) : FIO := fun c ds => if ds.length = n then finIO (b (startD N (.io c :: ds))) else .stuck
theorem mkF_len {n N : Nat} {b : MS} (ds : List D) (d : Res D) (e : mkF n N b ds = d) (h : d ≠ .stuck) : ds.length = n := by
  unfold mkF at e
  by_cases z : ds.length = n
  · exact z
  · rw [if_neg z] at e; exact absurd e.symm h
theorem mkF_eq {n N : Nat} {b : MS} (ds : List D) (h : ds.length = n) : fin (b (startD N ds)) = mkF n N b ds := by
  unfold mkF; rw [if_pos h]
theorem mkIO_len {n N : Nat} {b : MS} (c : D) (ds : List D) (d : Res (D × D)) (e : mkIO n N b c ds = d) (h : d ≠ .stuck) : ds.length = n := by
  unfold mkIO at e
  by_cases z : ds.length = n
  · exact z
  · rw [if_neg z] at e; exact absurd e.symm h
theorem finIO_exc (r : Fl) (x : Str) : finIO r ≠ .exc x := by
  unfold finIO
  split
  · rename_i ls; cases ioC ls <;> exact fun z => by cases z
  · rename_i d ls
    cases ioC ls with
    | none => exact fun z => by cases z
    | some c => cases h : retD ls d <;> (rw [opt_some, Res.bind_ok]; try rw [h]) <;> exact fun z => by cases z
  · exact fun z => by cases z
theorem mkIO_exc {n N : Nat} {b : MS} (c : D) (ds : List D) (x : Str) : mkIO n N b c ds ≠ .exc x := by
  unfold mkIO
  split
  · exact finIO_exc _ x
  · exact fun z => by cases z
theorem mkIO_eq {n N : Nat} {b : MS} (c : D) (ds : List D) (h : ds.length = n) : finIO (b (startD N (.io c :: ds))) = mkIO n N b c ds := by
  unfold mkIO; rw [if_pos h]
structure Cal (P : Program) (w : World) (K : PySem.W.Frag) (mg : Str → Option Value) (base : Heap) (tb : List (Addr × Str)) (x : Str) (n k : Nat) (fF : FD) : Prop where
  ex : ∃ (f : Addr) (fd : FuncData) (ps : List Str), mg x = some (.ref f) ∧ PySem.W.keepIn K (.ref f) = true ∧ L2.Binds K fd ps [] ∧ FnOk P w K mg base (L2N.CX P w) k f fd ps (SpF mg tb n fF) ∧ ∀ ds d, fF ds = d → d ≠ .stuck → ds.length = n
structure CalIO (P : Program) (w : World) (K : PySem.W.Frag) (mg : Str → Option Value) (base : Heap) (tb : List (Addr × Str)) (x : Str) (n k : Nat) (fF : FIO) : Prop where
  ex : ∃ (f : Addr) (fd : FuncData) (ps : List Str), mg x = some (.ref f) ∧ PySem.W.keepIn K (.ref f) = true ∧ L2.Binds K fd ps [] ∧ FnOk P w K mg base (L2N.CX P w) k f fd ps (SpIO mg tb n fF) ∧ (∀ c ds d, fF c ds = d → d ≠ .stuck → ds.length = n) ∧ ∀ c ds x, fF c ds ≠ .exc x
structure CalX {ι : Type} (P : Program) (w : World) (K : PySem.W.Frag) (mg : Str → Option Value) (base : Heap) (tb : List (Addr × Str)) (x : Str) (n k : Nat) (pre : ι → Hp → Prop) (fF : ι → FD) : Prop where
  ex : ∃ (f : Addr) (fd : FuncData) (ps : List Str), mg x = some (.ref f) ∧ PySem.W.keepIn K (.ref f) = true ∧ L2.Binds K fd ps [] ∧ FnOk P w K mg base (L2N.CX P w) k f fd ps (SpX mg tb n pre fF) ∧ ∀ i ds d, fF i ds = d → d ≠ .stuck → ds.length = n
section
variable {X : Cx} {G : Gh} {tb : List (Addr × Str)} {e : Expr} {es : List Expr} {x : Str} {n k : Nat} {p pos : Pos} {ms : MA}
theorem de_cal {fF : FD} (c : Cal X.prog X.w X.K X.mg X.base tb x n k fF) (htb : G.tb = tb) (hmg : G.mg = X.mg) (tk : L2N.Takes X (fun cls d _ H => G.E cls d H)) (hr : Room k X.A) (hg : Gl X x) (ha : DA X G (e :: es) ms)
    (hdb : (x == ("__debug__" : Str)) = false := by decide) (he : starEach (e :: es) X.env = (false, eval e X.env) :: starEach es X.env := by rfl) (hpl : (backTo pos (starEach es X.env)).any (·.1) = false := by rfl) :
    DE X G (.Call (.Name x p) (e :: es) [] pos) (mCall fF ms) := by
  subst htb
  obtain ⟨f, fd, ps, h1, h2, h3, h4, h5⟩ := c.ex
  exact de_call hmg tk h5 h4 hr hg h1 h2 h3 ha hdb he hpl
theorem de_calX {ι : Type} {pre : ι → Hp → Prop} {fF : ι → FD} (c : CalX X.prog X.w X.K X.mg X.base tb x n k pre fF) (i : ι) (hpre : ∀ H, Keep G H → pre i H) (htb : G.tb = tb) (hmg : G.mg = X.mg) (tk : L2N.Takes X (fun cls d _ H => G.E cls d H)) (hr : Room k X.A) (hg : Gl X x) (ha : DA X G (e :: es) ms)
    (hdb : (x == ("__debug__" : Str)) = false := by decide) (he : starEach (e :: es) X.env = (false, eval e X.env) :: starEach es X.env := by rfl) (hpl : (backTo pos (starEach es X.env)).any (·.1) = false := by rfl) :
    DE X G (.Call (.Name x p) (e :: es) [] pos) (mCall (fF i) ms) := by
  subst htb
  obtain ⟨f, fd, ps, h1, h2, h3, h4, h5⟩ := c.ex
  exact de_callX i hpre hmg tk (h5 i) h4 hr hg h1 h2 h3 ha hdb he hpl
theorem de_calIO {fF : FIO} {y : Str} {py : Pos} {i : Nat} (c : CalIO X.prog X.w X.K X.mg X.base tb x n k fF) (htb : G.tb = tb) (tk : L2N.Takes X (fun cls d _ H => G.E cls d H)) (hr : Room k X.A) (hg : Gl X x) (hv : PE X (.Name y py) (tVar i)) (ha : DA X G es ms)
    (hdb : (x == ("__debug__" : Str)) = false := by decide) (he : starEach (.Name y py :: es) X.env = (false, eval (.Name y py) X.env) :: starEach es X.env := by rfl) (hpl : (backTo pos (starEach es X.env)).any (·.1) = false := by rfl) :
    DE X G (.Call (.Name x p) (.Name y py :: es) [] pos) (mIO fF i ms) := by
  subst htb
  obtain ⟨f, fd, ps, h1, h2, h3, h4, h5, h6⟩ := c.ex
  exact de_io tk h5 h6 h4 hr hg h1 h2 h3 hv ha hdb he hpl
/-- name = [..] on one line, the name a plain local -/
theorem ds_setLc {i : Nat} {y : Str} {py : Pos} {elt tg iter : Expr} {ifs : List Expr} {scope : Scope} {own : List (Str × Nat)} {spos : Pos} {mi : MI} {g : MG} {t : MT} {me : ME} {ks : List Nat} (hc : X.calm = true) (hN : X.N.Nodup) (hy : X.N[i]? = some y) (hyl : X.env.scope.names.lookup y = some .local)
    (hsw : swapsWith (.ListComp elt [⟨tg, iter, ifs, 0⟩] scope pos) (some (.Name y py)) spos.line X.env = pure true) (hi : DI X G tg iter mi) (ok : BlkOk X.N X.env.scope scope own) (hk : ∀ k ∈ ks, k ∈ own.map (·.2))
    (hg : ∀ (s : Shared) (H : Hp) (C : Addr) (cl : List (Str × Addr)) (fp : List Addr) (T : List (D × Addr)), DG (X.blk s H scope (compEnvC scope cl C X.env) fp) (Gb G T) tg g ks)
    (ht : ∀ (s : Shared) (H : Hp) (C : Addr) (cl : List (Str × Addr)) (fp : List Addr) (T : List (D × Addr)), PTs (X.blk s H scope (compEnvC scope cl C X.env) fp) ifs (tOfT (Gb G T) t))
    (he : ∀ (s : Shared) (H : Hp) (C : Addr) (cl : List (Str × Addr)) (fp : List Addr) (T : List (D × Addr)), DE (X.blk s H scope (compEnvC scope cl C X.env) fp) (Gb G T) elt me) (hs : ∀ x, foldedSetIterable iter X.env x = pure x := by intro _; rfl) :
    DS X G (.Assign [.Name y py] (.ListComp elt [⟨tg, iter, ifs, 0⟩] scope pos) spos) (sAsg (mComp mi g t me (own.map (·.2))) (gN i)) :=
  ps_imp (ps_setLc (g := gAny G g ks) (tt := tAny G t) (te := eAny G me) hc hN hy hyl hsw hi ok (fun s H C cl fp => ⟨fun pins s' σ H' v u Q I r ⟨T, q⟩ => (hg s H C cl fp T).run pins s' σ H' v u Q I r q⟩)
    (fun s H C cl fp => ⟨fun pins s' σ H' Q I ⟨T, q⟩ => (ht s H C cl fp T).run pins s' σ H' Q I q⟩) (fun s H C cl fp => pe_any fun T => he s H C cl fp T) hs) fun Z σ H q => by
    refine mComp_imp hk σ H _ ?_
    obtain ⟨F, ls, L, o⟩ := q
    refine tOf.firstS L o fun F1 H1 ls1 d v p L1 r o1 => ?_
    cases e : shr (d, ls1) with
    | none => rw [e] at o1; exact o1.elim
    | some z =>
      obtain ⟨d2, ls2⟩ := z
      rw [e] at o1
      obtain ⟨F2, p2, L2, r2⟩ := shr_ok L1 r e
      exact o1 F2 _ H1 p2 (L2.put r2)
/-- a name of the module that means a whole number -/
theorem de_gint {i : Int} (h : ∃ u, X.mg x = some u ∧ L2.RelV (.int i) u) (hg : Gl X x) (hb : (x == ("__debug__" : Str)) = false := by decide) : DE X G (.Name x pos) (cst (.int i)) := by
  obtain ⟨u, h1, h2⟩ := h
  exact de_glob hg h1 h2 rfl hb
end
end DL

end DM
section DN
set_option Elab.async false
set_option linter.all false
set_option autoImplicit false
set_option maxRecDepth 100000
set_option maxHeartbeats 2000000
namespace DL
open PySem PySem.Spec PyProof.Rows L2 LamX
section
variable {X : Cx} {G : Gh} {F F' : FS} {H H' H1 : Hp} {ls : LS} {σ : L2.St} {e : Expr} {es : List Expr} {p pos : Pos} {ms : MA} {x : Str} {n k : Nat} {tb : List (Addr × Str)}
/-! ### tuple(range(n)) -/
instance (a b : Int) : Decidable (RgOk a b) := inferInstanceAs (Decidable (_ ∧ _))
theorem reps_rg {a b : Int} : Reps F H (intsUp a (b - a).toNat) (rgV a b) := by
  unfold intsUp rgV
  generalize List.range (b - a).toNat = l
  induction l with
  | nil => exact .nil
  | cons i l ih => exact .cons (.int _) ih
def gRg (lst : Bool) : D → Option D
  | .int n => if RgOk 0 n then some (if lst then .own (.lst (intsUp 0 n.toNat)) else .tup (intsUp 0 n.toNat)) else none
  | _ => none
theorem de_tupRg {a : Expr} {m : ME} {p2 q2 : Pos} (hc : X.calm = true) (hg : Gl X "tuple") (hm : X.mg "tuple" = none) (hg2 : Gl X "range") (hm2 : X.mg "range" = none) (ha : DE X G a m)
    (na : starEach [a] X.env = (false, eval a X.env) :: starEach [] X.env := by rfl) (nb : starEach [Expr.Call (.Name "range" p2) [a] [] q2] X.env = (false, eval (Expr.Call (.Name "range" p2) [a] [] q2) X.env) :: starEach [] X.env := by rfl) :
    DE X G (.Call (.Name "tuple" p) [.Call (.Name "range" p2) [a] [] q2] [] pos) (un (gRg false) m) :=
  pe_imp (pe_tupRg hc hg hm (prg_1 hg2 hm2 ha na) nb) fun σ H Q q => by
    refine un_imp (r := fun v H1 Q => ∃ n, v = .int n ∧ RgOk 0 n ∧ ∀ q, H1 q = none → Q (.ref q) (upd H1 q (.tup (rgV 0 n)))) (fun F H x d v Q r e q => ?_) σ H Q q
    cases x <;> try (cases e; done)
    rename_i n
    obtain rfl := r.isInt
    have e : (if RgOk 0 n then some (D.tup (intsUp 0 n.toNat)) else none) = some d := e
    by_cases h : RgOk 0 n
    · rw [if_pos h] at e; cases e
      refine ⟨n, rfl, h, fun l nl => q _ _ (same_upd nl) (.tup upd_same ?_)⟩
      have := reps_rg (F := F) (H := upd H l (.tup (rgV 0 n))) (a := 0) (b := n)
      rwa [Int.sub_zero] at this
    · rw [if_neg h] at e; cases e
theorem de_lstRg {a : Expr} {m : ME} {p2 q2 : Pos} (hc : X.calm = true) (hg : Gl X "list") (hm : X.mg "list" = none) (hg2 : Gl X "range") (hm2 : X.mg "range" = none) (ha : DE X G a m)
    (na : starEach [a] X.env = (false, eval a X.env) :: starEach [] X.env := by rfl) (nb : starEach [Expr.Call (.Name "range" p2) [a] [] q2] X.env = (false, eval (Expr.Call (.Name "range" p2) [a] [] q2) X.env) :: starEach [] X.env := by rfl) :
    DE X G (.Call (.Name "list" p) [.Call (.Name "range" p2) [a] [] q2] [] pos) (un (gRg true) m) :=
  pe_imp (pe_listRg hc hg hm (prg_1 hg2 hm2 ha na) nb) fun σ H Q q => by
    refine un_imp (r := fun v H1 Q => ∃ n, v = .int n ∧ RgOk 0 n ∧ ∀ q, H1 q = none → Q (.ref q) (upd H1 q (.lst (rgV 0 n)))) (fun F H x d v Q r e q => ?_) σ H Q q
    cases x <;> try (cases e; done)
    rename_i n
    obtain rfl := r.isInt
    have e : (if RgOk 0 n then some (D.own (.lst (intsUp 0 n.toNat))) else none) = some d := e
    by_cases h : RgOk 0 n
    · rw [if_pos h] at e; cases e
      refine ⟨n, rfl, h, fun l nl => q _ _ (same_upd nl) ⟨⟨l, _, rfl, upd_same, ?_⟩, l, rfl, nl⟩⟩
      have := reps_rg (F := F) (H := upd H l (.lst (rgV 0 n))) (a := 0) (b := n)
      rwa [Int.sub_zero] at this
    · rw [if_neg h] at e; cases e

/-! ### a call that only looks, its answer a plain value -/
def lookD : D → Bool
  | .ins _ _ => false
  | _ => true
def plainR : D → Bool
  | .non => true
  | .bl _ => true
  | .int _ => true
  | .str _ => true
  | _ => false
def mLook (f : FD) (ms : MA) : ME := fun ls => (ms ls).bind fun q => (opt (sees q.2 q.1)).bind fun xs => if xs.all lookD then (f xs).bind fun d => if plainR d then .ok (d, q.2) else .stuck else .stuck
/-- frozen, for as long as the call lasts, what the slots hold -/
def lent (ls : LS) (σ : L2.St) (F : FS) : FS := fun b => F b ∨ ∃ (i : Nat) (d : D), ls[i]? = some (some d) ∧ Chg d ∧ σ[i]? = some (some (.ref b))
theorem lent_nw (L : LInv G F ls σ H) {b : Addr} (h : lent ls σ F b) : ¬ Nw H b := by
  rcases h with h | ⟨i, d, h1, h2, h3⟩
  · exact L.there b h
  · obtain ⟨v, g1, g2⟩ := L.slot i d h1
    rw [h3] at g1; cases g1
    obtain ⟨a, d', e, _, m, _⟩ := g2.at h2
    cases e
    exact fun n => m.nw n
theorem lent_rep (L : LInv G F ls σ H) {d x : D} {v : V} (r : RepY F H σ d v) (e : see ls d = some x) (hx : lookD x = true) : Rep (lent ls σ F) H x v := by
  have le : Le F H (lent ls σ F) H := ⟨fun b h => .inl h, .refl⟩
  cases d with
  | bor i =>
    have e : (ls[i]?).bind (fun o => o.bind cont) = some x := e
    have r : σ[i]? = some (some v) := r
    cases q : ls[i]? with
    | none => rw [q] at e; cases e
    | some o =>
      cases o with
      | none => rw [q] at e; cases e
      | some y =>
        rw [q] at e
        obtain ⟨u, h1, h2⟩ := L.slot i y q
        rw [r] at h1; cases h1
        have key : ∀ d', Chg y → RepM F H d' v → lookD d' = true → Rep (lent ls σ F) H d' v := fun d' c m hd => by
          obtain ⟨a, rfl⟩ := m.isref
          have fa : lent ls σ F a := .inr ⟨i, y, q, c, r⟩
          have m' : RepM (lent ls σ F) H d' (.ref a) := m.le le fun _ _ => rfl
          cases d' with
          | lst xs => exact m'.frozen trivial fa
          | dct xs => exact m'.frozen trivial fa
          | ins C fs => cases hd
          | _ => exact m.elim
        cases y with
        | own d => cases e; exact key _ trivial h2.1 hx
        | io d => cases e; exact key _ trivial h2.1 hx
        | bor j => cases e
        | non => cases e; exact Rep.le le h2
        | bl => cases e; exact Rep.le le h2
        | int => cases e; exact Rep.le le h2
        | str => cases e; exact Rep.le le h2
        | ref => cases e; exact Rep.le le h2
        | tup => cases e; exact Rep.le le h2
        | lst => cases e; exact Rep.le le h2
        | scr => cases e; exact Rep.le le h2
        | dct => cases e; exact Rep.le le h2
        | ins => cases (show Rep F H _ _ from h2)
  | own d => exact r.elim
  | io d => exact r.elim
  | non => cases e; exact Rep.le le r
  | bl => cases e; exact Rep.le le r
  | int => cases e; exact Rep.le le r
  | str => cases e; exact Rep.le le r
  | ref => cases e; exact Rep.le le r
  | tup => cases e; exact Rep.le le r
  | lst => cases e; exact Rep.le le r
  | scr => cases e; exact Rep.le le r
  | dct => cases e; exact Rep.le le r
  | ins => cases (show Rep F H _ _ from r)
theorem lent_reps (L : LInv G F ls σ H) : ∀ {ds xs : List D} {vs : List V}, RepYs F H σ ds vs → sees ls ds = some xs → xs.all lookD = true → Reps (lent ls σ F) H xs vs
  | [], xs, _, .nil, e, _ => by cases e; exact .nil
  | d :: ds, xs, _, .cons r rs, e, h => by
    have e : (see ls d).bind (fun x => (sees ls ds).bind fun xs => some (x :: xs)) = some xs := e
    cases e1 : see ls d with
    | none => rw [e1] at e; cases e
    | some x =>
      cases e2 : sees ls ds with
      | none => rw [e1, e2] at e; cases e
      | some ys =>
        rw [e1, e2] at e; cases e
        rw [List.all_cons, Bool.and_eq_true] at h
        exact .cons (lent_rep L r e1 h.1) (lent_reps L rs e2 h.2)
theorem mLook_imp {mg : Str → Option Value} {f : FD} (hmg : G.mg = mg) (hn : ∀ ds d, f ds = d → d ≠ .stuck → ds.length = n) (σ : L2.St) (H : Hp) (Q : VK) (q : tOf G (mLook f ms) σ H Q) : tOfA G ms σ H fun vs H1 => SpF mg G.tb n f vs H1 Q G.E := by
  obtain ⟨F, ls, L, o⟩ := q
  refine tOfA.firstE L o fun F1 H1 ls1 ds vs p1 L1 r1 o1 => ?_
  dsimp only at o1
  cases e1 : sees ls1 ds with
  | none => rw [e1] at o1; exact o1.elim
  | some xs =>
    rw [e1, opt_some, Res.bind_ok] at o1
    cases e2 : xs.all lookD with
    | false => rw [e2, if_neg (by decide)] at o1; exact o1.elim
    | true =>
      rw [e2, if_pos rfl] at o1
      have rs := lent_reps L1 r1 e1 e2
      cases e : f xs with
      | stuck => rw [e] at o1; exact o1.elim
      | ok d =>
        rw [e, Res.bind_ok] at o1
        cases e3 : plainR d with
        | false => rw [e3, if_neg (by decide)] at o1; exact o1.elim
        | true =>
          rw [e3, if_pos rfl] at o1
          refine ⟨lent ls1 σ F1, xs, hn xs _ e (fun z => nomatch z), rs, fun b h => lent_nw L1 h, L1.keep.tabs, ?_⟩
          rw [e]
          intro F2 H2 v c r
          have c2 : CallLe G.tb none' F1 H1 F1 H2 := .of (fun a o h t => c.all a o h (fun z => z) t) c.dom c.tabs L1.there
          refine o1 F1 H2 v c2.le (L1.call c2 (fun _ z => z.elim) (fun _ _ _ _ _ _ z => z) (fun _ _ z => z) L1.there) ?_
          cases d with
          | non => cases r; exact .non
          | bl => cases r; exact .bl _
          | int => cases r; exact .int _
          | str => cases r; exact .str _
          | _ => cases e3
      | exc y =>
        rw [e] at o1
        refine ⟨lent ls1 σ F1, xs, hn xs _ e (fun z => nomatch z), rs, fun b h => lent_nw L1 h, L1.keep.tabs, ?_⟩
        rw [e]
        intro H2 C h1 h2 h3 hx
        exact o1 H2 C ⟨fun a u e n t => h1 a u (L1.keep.all a u e n t) t, fun a z => L1.keep.dom a (h2 a z), h3⟩ (by rw [hmg]; exact hx)
theorem de_calB {fF : FD} (c : Cal X.prog X.w X.K X.mg X.base tb x n k fF) (htb : G.tb = tb) (hmg : G.mg = X.mg) (tk : L2N.Takes X (fun cls d _ H => G.E cls d H)) (hr : Room k X.A) (hg : Gl X x) (ha : DA X G (e :: es) ms)
    (hdb : (x == ("__debug__" : Str)) = false := by decide) (he : starEach (e :: es) X.env = (false, eval e X.env) :: starEach es X.env := by rfl) (hpl : (backTo pos (starEach es X.env)).any (·.1) = false := by rfl) :
    DE X G (.Call (.Name x p) (e :: es) [] pos) (mLook fF ms) := by
  subst htb
  obtain ⟨f, fd, ps, h1, h2, h3, h4, h5⟩ := c.ex
  exact pe_imp (pe_callS (E := fun _ => G.E) h4 hr hg h1 h2 h3 (fun σ => L2N.passAt tk σ) ha hdb he hpl) (mLook_imp hmg h5)
end
end DL

end DN
section W08
set_option Elab.async false
set_option linter.all false
set_option autoImplicit false
set_option maxRecDepth 100000
set_option maxHeartbeats 4000000
namespace DLaw
open PySem PySem.Spec PyProof.Rows L2 LamX RZ DL
structure Bl (mg : Str → Option Value) : Prop where
  b_isinstance : mg "isinstance" = none
  b_int : mg "int" = none
  b_bool : mg "bool" = none
  b_tuple : mg "tuple" = none
  b_len : mg "len" = none
  b_all : mg "all" = none
  b_zip : mg "zip" = none
  b_list : mg "list" = none
  b_sorted : mg "sorted" = none
  b_set : mg "set" = none
  b_range : mg "range" = none
  b_any : mg "any" = none
  b_abs : mg "abs" = none
  b_str : mg "str" = none
  b_min : mg "min" = none
structure Xc (K : PySem.W.Frag) (mg : Str → Option Value) (x : Str) (C : Addr) (B newId initId : String) (bmB : List Value) : Prop where
  g : mg x = some (.ref C)
  F : ExcBaseFacts B newId initId bmB
  q : PySem.W.excIn K C bmB newId = true
  k : PySem.W.keepIn K (.ref C) = true
  h1 : PySem.W.subIn K (.ref C) (.type "BaseException") = some true
  h2 : PySem.W.typeIn K (.ref C) = some (.type "type")
theorem Xc.r {K : PySem.W.Frag} {mg : Str → Option Value} {x : Str} {C : Addr} {B newId initId : String} {bmB : List Value} (h : Xc K mg x C B newId initId bmB) {X : Cx} (hK : X.K = K := by rfl) : Raises X (.ref C) := by subst hK; exact raises_own h.h1 h.h2
/-! ### is_within -/
def s_is_within : Stmt := PySem.Challenge.pw_fewfigures_k08_figures_told_by_numbers.main.body.getD 13 (.Pass ⟨0, 0, 0, 0⟩)
theorem sc_is_within : FnScope ["value", "low", "high"] ["value", "low", "high"] (defScope s_is_within) := ⟨rfl, rfl, rfl, by decide +kernel, rfl, by decide +kernel, by decide +kernel⟩
noncomputable def b_is_within : MS := sRet (vAnd (un (gIsi "int") (var 0)) (vAnd (vNot (un (gIsi "bool") (var 0))) (chain gLe gLe (var 1) (var 0) (var 2))))
noncomputable def f_is_within : FD := mkF 3 3 b_is_within
theorem c_is_within {P : Program} {w : World} {K : PySem.W.Frag} {mg : Str → Option Value} {base : Heap} {tb : List (Addr × Str)} {a : Addr} {fd : FuncData} (B : Bl mg) (Fn : Fun K "is_within" "is_within" s_is_within a fd) (hm : mg "is_within" = some (.ref a)) : Cal P w K mg base tb "is_within" 3 1 f_is_within :=
  ⟨a, fd, ["value", "low", "high"], hm, Fn.kp, Fn.binds (ps := ["value", "low", "high"]) fun _ _ _ _ _ _ us hl => match us, hl with | [_, _, _], _ => rfl, okF (k := 0) (body := b_is_within) Fn sc_is_within (fun cdv A outer s H E G hr hmg htb tk hp =>
    dss_one (ds_ret (de_and (de_isi (by rfl) B.b_isinstance (dv 0) (by rfl) B.b_int boot_int) (de_and (de_not (de_isi (by rfl) B.b_isinstance (dv 0) (by rfl) B.b_bool boot_bool)) (de_one (de_chain op_le od_cmp op_le od_cmp (dv 1) (dv 0) (dv 2))))))) (fun ds hl _ => mkF_eq ds hl), fun ds d => mkF_len ds d⟩
/-! ### is_wide -/
def s_is_wide : Stmt := PySem.Challenge.pw_fewfigures_k08_figures_told_by_numbers.main.body.getD 14 (.Pass ⟨0, 0, 0, 0⟩)
theorem sc_is_wide : FnScope ["value", "low", "high"] ["value", "low", "high"] (defScope s_is_wide) := ⟨rfl, rfl, rfl, by decide +kernel, rfl, by decide +kernel, by decide +kernel⟩
noncomputable def b_is_wide : MS := sRet (vAnd (un (gIsi "tuple") (var 0)) (chain gLe gLe (var 1) (cb gLen (aCons (var 0) (aNil))) (var 2)))
noncomputable def f_is_wide : FD := mkF 3 3 b_is_wide
theorem c_is_wide {P : Program} {w : World} {K : PySem.W.Frag} {mg : Str → Option Value} {base : Heap} {tb : List (Addr × Str)} {a : Addr} {fd : FuncData} (B : Bl mg) (Fn : Fun K "is_wide" "is_wide" s_is_wide a fd) (hm : mg "is_wide" = some (.ref a)) : Cal P w K mg base tb "is_wide" 3 1 f_is_wide :=
  ⟨a, fd, ["value", "low", "high"], hm, Fn.kp, Fn.binds (ps := ["value", "low", "high"]) fun _ _ _ _ _ _ us hl => match us, hl with | [_, _, _], _ => rfl, okF (k := 0) (body := b_is_wide) Fn sc_is_wide (fun cdv A outer s H E G hr hmg htb tk hp =>
    dss_one (ds_ret (de_and (de_isi (by rfl) B.b_isinstance (dv 0) (by rfl) B.b_tuple boot_tuple) (de_one (de_chain op_le od_cmp op_le od_cmp (dv 1) (de_cb cr_lens cd_len (by rfl) B.b_len boot_len (da_cons (dv 0) (da_nil))) (dv 2)))))) (fun ds hl _ => mkF_eq ds hl), fun ds d => mkF_len ds d⟩
/-! ### is_fit -/
def s_is_fit : Stmt := PySem.Challenge.pw_fewfigures_k08_figures_told_by_numbers.main.body.getD 15 (.Pass ⟨0, 0, 0, 0⟩)
theorem sc_is_fit : FnScope ["value", "many", "row", "truth", "there"] ["value"] (defScope s_is_fit) := ⟨rfl, rfl, rfl, by decide +kernel, rfl, by decide +kernel, by decide +kernel⟩
noncomputable def b_is_fit : MS := sq (sIf (mOr (mNot (tst (mCall f_is_wide (aCons (var 0) (aCons (cst (.int 3)) (aCons (cst (.int 3)) (aNil))))))) (mOr (mNot (tst (mCall f_is_within (aCons (bin gIx (var 0) (cst (.int 0))) (aCons (cst (.int 2)) (aCons (cst (.int 4)) (aNil))))))) (mNot (tst (mCall f_is_wide (aCons (bin gIx (var 0) (cst (.int 1))) (aCons (cst (.int 1)) (aCons (cst (.int 4)) (aNil))))))))) (sRet (cst (.bl false))) (nop))
  (sq (sAsg (cb gLen (aCons (bin gIx (var 0) (cst (.int 1))) (aNil))) (gN 1))
  (sq (sFor (iSeq (bin gIx (var 0) (cst (.int 1)))) (gN 2) (sIf (mOr (mNot (tst (mCall f_is_wide (aCons (var 2) (aCons (bin gIx (var 0) (cst (.int 0))) (aCons (bin gIx (var 0) (cst (.int 0))) (aNil))))))) (mNot (tst (cb (gAllAny fun bs => bs.all id) (aCons (mComp (iSeq (var 2)) (gN 4) (tAlways) (mCall f_is_within (aCons (var 4) (aCons (cst (.int 0)) (aCons (bin (gI fSub) (var 1) (cst (.int 1))) (aNil))))) [4]) (aNil)))))) (sRet (cst (.bl false))) (nop)))
  (sq (sIf (mOr (mNot (tst (mCall f_is_wide (aCons (bin gIx (var 0) (cst (.int 2))) (aCons (var 1) (aCons (var 1) (aNil))))))) (mNot (tst (cb (gAllAny fun bs => bs.all id) (aCons (mComp (iSeq (bin gIx (var 0) (cst (.int 2)))) (gN 3) (tAlways) (un (gIsi "bool") (var 3)) [3]) (aNil)))))) (sRet (cst (.bl false))) (nop))
  (sRet (cb (gAllAny fun bs => bs.all id) (aCons (mComp (iZip (aCons (bin gIx (var 0) (cst (.int 1))) (aCons (bin gIx (var 0) (cst (.int 2))) (aNil)))) (gTup' 2 (gMore (gN 2) (gMore (gN 3) (gNone)))) (tAlways) (bin gEq (var 3) (bin gIx (bin gIx (var 0) (cst (.int 2))) (bin gIx (var 2) (cst (.int 0))))) [2, 3]) (aNil)))))))
noncomputable def f_is_fit : FD := mkF 1 5 b_is_fit
theorem c_is_fit {P : Program} {w : World} {K : PySem.W.Frag} {mg : Str → Option Value} {base : Heap} {tb : List (Addr × Str)} {a : Addr} {fd : FuncData} (B : Bl mg) (g_MOST : ∃ u, mg "MOST" = some u ∧ L2.RelV (.int 4) u) (c_is_wide : Cal P w K mg base tb "is_wide" 3 1 f_is_wide) (c_is_within : Cal P w K mg base tb "is_within" 3 1 f_is_within) (Fn : Fun K "is_fit" "is_fit" s_is_fit a fd) (hm : mg "is_fit" = some (.ref a)) : Cal P w K mg base tb "is_fit" 1 2 f_is_fit :=
  ⟨a, fd, ["value"], hm, Fn.kp, Fn.binds (ps := ["value"]) fun _ _ _ _ _ _ us hl => match us, hl with | [_], _ => rfl, okF (k := 1) (body := b_is_fit) Fn sc_is_fit (fun cdv A outer s H E G hr hmg htb tk hp =>
    dss_cons (ds_if (dt_w (dw_or (dt_not (dt_val (de_cal c_is_wide htb hmg tk (Room.mono hr (by first | decide | omega)) (by rfl) (da_cons (dv 0) (da_cons (de_int) (da_cons (de_int) (da_nil))))))) (dw_or (dt_not (dt_val (de_cal c_is_within htb hmg tk (Room.mono hr (by first | decide | omega)) (by rfl) (da_cons (de_ix ix_seq od_ix (dv 0) (de_int) (fun _ _ => rfl)) (da_cons (de_int) (da_cons (de_int) (da_nil))))))) (dw_or1 (dt_not (dt_val (de_cal c_is_wide htb hmg tk (Room.mono hr (by first | decide | omega)) (by rfl) (da_cons (de_ix ix_seq od_ix (dv 0) (de_int) (fun _ _ => rfl)) (da_cons (de_int) (da_cons (de_gint g_MOST (by rfl)) (da_nil))))))))))) (dss_one (ds_ret (de_bl))) (dss_nil))
    (dss_cons (ds_set (i := 1) sc_is_fit.nd rfl (by first | exact Or.inl rfl | exact Or.inr rfl) (de_cb cr_lens cd_len (by rfl) B.b_len boot_len (da_cons (de_ix ix_seq od_ix (dv 0) (de_int) (fun _ _ => rfl)) (da_nil))))
    (dss_cons (ds_for hp rfl (di_seq (de_ix ix_seq od_ix (dv 0) (de_int) (fun _ _ => rfl))) (dg_name sc_is_fit.nd rfl (by first | exact Or.inl rfl | exact Or.inr rfl)) (dss_one (ds_if (dt_w (dw_or (dt_not (dt_val (de_cal c_is_wide htb hmg tk (Room.mono hr (by first | decide | omega)) (by rfl) (da_cons (dv 2) (da_cons (de_ix ix_seq od_ix (dv 0) (de_int) (fun _ _ => rfl)) (da_cons (de_ix ix_seq od_ix (dv 0) (de_int) (fun _ _ => rfl)) (da_nil))))))) (dw_or1 (dt_not (dt_val (de_cb (cr_all rfl) cd_all (by rfl) B.b_all boot_all (da_cons (de_lc (own := [("there", 4)]) (ks := [4]) rfl sc_is_fit.nd (di_seq (dv 2)) (blkOk_by (by rfl)) (by decide) (fun _ _ _ _ _ _ => dg_name sc_is_fit.nd rfl (by first | exact Or.inl rfl | exact Or.inr rfl)) (fun _ _ _ _ _ _ => dts_nil) (fun _ _ _ _ _ _ => de_cal c_is_within htb hmg takes0N (Room.mono hr (by first | decide | omega)) (by rfl) (da_cons (dv 4) (da_cons (de_int) (da_cons (de_bin op_sub od_sub (dv 1) (de_int)) (da_nil)))))) (da_nil)))))))) (dss_one (ds_ret (de_bl))) (dss_nil))))
    (dss_cons (ds_if (dt_w (dw_or (dt_not (dt_val (de_cal c_is_wide htb hmg tk (Room.mono hr (by first | decide | omega)) (by rfl) (da_cons (de_ix ix_seq od_ix (dv 0) (de_int) (fun _ _ => rfl)) (da_cons (dv 1) (da_cons (dv 1) (da_nil))))))) (dw_or1 (dt_not (dt_val (de_cb (cr_all rfl) cd_all (by rfl) B.b_all boot_all (da_cons (de_lc (own := [("truth", 3)]) (ks := [3]) rfl sc_is_fit.nd (di_seq (de_ix ix_seq od_ix (dv 0) (de_int) (fun _ _ => rfl))) (blkOk_by (by rfl)) (by decide) (fun _ _ _ _ _ _ => dg_name sc_is_fit.nd rfl (by first | exact Or.inl rfl | exact Or.inr rfl)) (fun _ _ _ _ _ _ => dts_nil) (fun _ _ _ _ _ _ => de_isi (by rfl) B.b_isinstance (dv 3) (by rfl) B.b_bool boot_bool)) (da_nil)))))))) (dss_one (ds_ret (de_bl))) (dss_nil))
    (dss_one (ds_ret (de_cb (cr_all rfl) cd_all (by rfl) B.b_all boot_all (da_cons (de_lc (own := [("row", 2), ("truth", 3)]) (ks := [2, 3]) rfl sc_is_fit.nd (di_zip (by rfl) B.b_zip (da_cons (de_ix ix_seq od_ix (dv 0) (de_int) (fun _ _ => rfl)) (da_cons (de_ix ix_seq od_ix (dv 0) (de_int) (fun _ _ => rfl)) (da_nil)))) (blkOk_by (by rfl)) (by decide) (fun _ _ _ _ _ _ => dg_tup rfl (dgs_cons (dg_name sc_is_fit.nd rfl (by first | exact Or.inl rfl | exact Or.inr rfl)) (dgs_cons (dg_name sc_is_fit.nd rfl (by first | exact Or.inl rfl | exact Or.inr rfl)) (dgs_nil)))) (fun _ _ _ _ _ _ => dts_nil) (fun _ _ _ _ _ _ => de_cmp (op_eqD (Room.units hr)) od_eq (dv 3) (de_ix ix_seq od_ix (de_ix ix_seq od_ix (dv 0) (de_int) (fun _ _ => rfl)) (de_ix ix_seq od_ix (dv 2) (de_int) (fun _ _ => rfl)) (fun _ _ => rfl)) (nomark _))) (da_nil))))))))) (fun ds hl _ => mkF_eq ds hl), fun ds d => mkF_len ds d⟩
/-! ### look_at_lot -/
def s_look_at_lot : Stmt := PySem.Challenge.pw_fewfigures_k08_figures_told_by_numbers.main.body.getD 16 (.Pass ⟨0, 0, 0, 0⟩)
theorem sc_look_at_lot : FnScope ["lot"] ["lot"] (defScope s_look_at_lot) := ⟨rfl, rfl, rfl, by decide +kernel, rfl, by decide +kernel, by decide +kernel⟩
noncomputable def b_look_at_lot : MS := sIf (mNot (tst (mCall f_is_fit (aCons (var 0) (aNil))))) (fun _ => .exc "InvalidLot") (nop)
noncomputable def f_look_at_lot : FD := mkF 1 1 b_look_at_lot
theorem c_look_at_lot {P : Program} {w : World} {K : PySem.W.Frag} {mg : Str → Option Value} {base : Heap} {tb : List (Addr × Str)} {a : Addr} {fd : FuncData} (B : Bl mg) (c_is_fit : Cal P w K mg base tb "is_fit" 1 2 f_is_fit) {C_InvalidLot : Addr} {B_InvalidLot n_InvalidLot i_InvalidLot : String} {bm_InvalidLot : List Value} (X_InvalidLot : Xc K mg "InvalidLot" C_InvalidLot B_InvalidLot n_InvalidLot i_InvalidLot bm_InvalidLot) (Fn : Fun K "look_at_lot" "look_at_lot" s_look_at_lot a fd) (hm : mg "look_at_lot" = some (.ref a)) : Cal P w K mg base tb "look_at_lot" 1 3 f_look_at_lot :=
  ⟨a, fd, ["lot"], hm, Fn.kp, Fn.binds (ps := ["lot"]) fun _ _ _ _ _ _ us hl => match us, hl with | [_], _ => rfl, okF (k := 2) (body := b_look_at_lot) Fn sc_look_at_lot (fun cdv A outer s H E G hr hmg htb tk hp =>
    dss_one (ds_if (dt_not (dt_val (de_cal c_is_fit htb hmg tk (Room.mono hr (by first | decide | omega)) (by rfl) (da_cons (dv 0) (da_nil))))) (dss_one (ds_raise rfl hmg tk X_InvalidLot.F X_InvalidLot.q X_InvalidLot.g X_InvalidLot.k X_InvalidLot.r (by rfl))) (dss_nil))) (fun ds hl _ => mkF_eq ds hl), fun ds d => mkF_len ds d⟩
/-! ### look_at_number -/
def s_look_at_number : Stmt := PySem.Challenge.pw_fewfigures_k08_figures_told_by_numbers.main.body.getD 17 (.Pass ⟨0, 0, 0, 0⟩)
theorem sc_look_at_number : FnScope ["value", "low", "high"] ["value", "low", "high"] (defScope s_look_at_number) := ⟨rfl, rfl, rfl, by decide +kernel, rfl, by decide +kernel, by decide +kernel⟩
noncomputable def b_look_at_number : MS := sIf (mNot (tst (mCall f_is_within (aCons (var 0) (aCons (var 1) (aCons (var 2) (aNil))))))) (fun _ => .exc "InvalidNumber") (nop)
noncomputable def f_look_at_number : FD := mkF 3 3 b_look_at_number
theorem c_look_at_number {P : Program} {w : World} {K : PySem.W.Frag} {mg : Str → Option Value} {base : Heap} {tb : List (Addr × Str)} {a : Addr} {fd : FuncData} (B : Bl mg) (c_is_within : Cal P w K mg base tb "is_within" 3 1 f_is_within) {C_InvalidNumber : Addr} {B_InvalidNumber n_InvalidNumber i_InvalidNumber : String} {bm_InvalidNumber : List Value} (X_InvalidNumber : Xc K mg "InvalidNumber" C_InvalidNumber B_InvalidNumber n_InvalidNumber i_InvalidNumber bm_InvalidNumber) (Fn : Fun K "look_at_number" "look_at_number" s_look_at_number a fd) (hm : mg "look_at_number" = some (.ref a)) : Cal P w K mg base tb "look_at_number" 3 2 f_look_at_number :=
  ⟨a, fd, ["value", "low", "high"], hm, Fn.kp, Fn.binds (ps := ["value", "low", "high"]) fun _ _ _ _ _ _ us hl => match us, hl with | [_, _, _], _ => rfl, okF (k := 1) (body := b_look_at_number) Fn sc_look_at_number (fun cdv A outer s H E G hr hmg htb tk hp =>
    dss_one (ds_if (dt_not (dt_val (de_cal c_is_within htb hmg tk (Room.mono hr (by first | decide | omega)) (by rfl) (da_cons (dv 0) (da_cons (dv 1) (da_cons (dv 2) (da_nil))))))) (dss_one (ds_raise rfl hmg tk X_InvalidNumber.F X_InvalidNumber.q X_InvalidNumber.g X_InvalidNumber.k X_InvalidNumber.r (by rfl))) (dss_nil))) (fun ds hl _ => mkF_eq ds hl), fun ds d => mkF_len ds d⟩
/-! ### figures_of -/
def s_figures_of : Stmt := PySem.Challenge.pw_fewfigures_k08_figures_told_by_numbers.main.body.getD 18 (.Pass ⟨0, 0, 0, 0⟩)
theorem sc_figures_of : FnScope ["base", "number", "found"] ["base", "number"] (defScope s_figures_of) := ⟨rfl, rfl, rfl, by decide +kernel, rfl, by decide +kernel, by decide +kernel⟩
noncomputable def b_figures_of : MS := sq (sAsg (mLst (aNil)) (gN 2))
  (sq (sWhl (tst (bin gGt (var 1) (cst (.int 0)))) (sq (sAsg (bin gAdd (var 2) (mLst (aCons (bin (gI fMod) (var 1) (var 0)) (aNil)))) (gN 2))
  (sAsg (bin (gI fDiv) (var 1) (var 0)) (gN 1))))
  (sRet (var 2)))
noncomputable def f_figures_of : FD := mkF 2 3 b_figures_of
theorem c_figures_of {P : Program} {w : World} {K : PySem.W.Frag} {mg : Str → Option Value} {base : Heap} {tb : List (Addr × Str)} {a : Addr} {fd : FuncData} (B : Bl mg) (Fn : Fun K "figures_of" "figures_of" s_figures_of a fd) (hm : mg "figures_of" = some (.ref a)) : Cal P w K mg base tb "figures_of" 2 1 f_figures_of :=
  ⟨a, fd, ["base", "number"], hm, Fn.kp, Fn.binds (ps := ["base", "number"]) fun _ _ _ _ _ _ us hl => match us, hl with | [_, _], _ => rfl, okF (k := 0) (body := b_figures_of) Fn sc_figures_of (fun cdv A outer s H E G hr hmg htb tk hp =>
    dss_cons (ds_set (i := 2) sc_figures_of.nd rfl (by first | exact Or.inl rfl | exact Or.inr rfl) (de_lst (da_nil)))
    (dss_cons (ds_while hp (dt_cmp op_gt od_cmp (dv 1) (de_int) (nomark _)) (dss_cons (ds_set (i := 2) sc_figures_of.nd rfl (by first | exact Or.inl rfl | exact Or.inr rfl) (de_bin or_adds od_add (dv 2) (de_lst (da_cons (de_bin op_mod od_mod (dv 1) (dv 0)) (da_nil)))))
    (dss_one (ds_set (i := 1) sc_figures_of.nd rfl (by first | exact Or.inl rfl | exact Or.inr rfl) (de_bin op_fdivW od_div (dv 1) (dv 0))))))
    (dss_one (ds_ret (dv 2))))) (fun ds hl _ => mkF_eq ds hl), fun ds d => mkF_len ds d⟩
/-! ### has_by -/
def s_has_by : Stmt := PySem.Challenge.pw_fewfigures_k08_figures_told_by_numbers.main.body.getD 19 (.Pass ⟨0, 0, 0, 0⟩)
theorem sc_has_by : FnScope ["lot", "number", "here", "figure"] ["lot", "number"] (defScope s_has_by) := ⟨rfl, rfl, rfl, by decide +kernel, rfl, by decide +kernel, by decide +kernel⟩
noncomputable def b_has_by : MS := sq (sAsg (cst (.int 0)) (gN 2))
  (sq (sFor (iSeq (mCall f_figures_of (aCons (bin gIx (var 0) (cst (.int 0))) (aCons (var 1) (aNil))))) (gN 3) (sAsg (bin gIx (bin gIx (bin gIx (var 0) (cst (.int 1))) (var 2)) (var 3)) (gN 2)))
  (sRet (bin gIx (bin gIx (var 0) (cst (.int 2))) (var 2))))
noncomputable def f_has_by : FD := mkF 2 4 b_has_by
theorem c_has_by {P : Program} {w : World} {K : PySem.W.Frag} {mg : Str → Option Value} {base : Heap} {tb : List (Addr × Str)} {a : Addr} {fd : FuncData} (B : Bl mg) (c_figures_of : Cal P w K mg base tb "figures_of" 2 1 f_figures_of) (Fn : Fun K "has_by" "has_by" s_has_by a fd) (hm : mg "has_by" = some (.ref a)) : Cal P w K mg base tb "has_by" 2 2 f_has_by :=
  ⟨a, fd, ["lot", "number"], hm, Fn.kp, Fn.binds (ps := ["lot", "number"]) fun _ _ _ _ _ _ us hl => match us, hl with | [_, _], _ => rfl, okF (k := 1) (body := b_has_by) Fn sc_has_by (fun cdv A outer s H E G hr hmg htb tk hp =>
    dss_cons (ds_set (i := 2) sc_has_by.nd rfl (by first | exact Or.inl rfl | exact Or.inr rfl) (de_int))
    (dss_cons (ds_for hp rfl (di_seq (de_cal c_figures_of htb hmg tk (Room.mono hr (by first | decide | omega)) (by rfl) (da_cons (de_ix ix_seq od_ix (dv 0) (de_int) (fun _ _ => rfl)) (da_cons (dv 1) (da_nil))))) (dg_name sc_has_by.nd rfl (by first | exact Or.inl rfl | exact Or.inr rfl)) (dss_one (ds_set (i := 2) sc_has_by.nd rfl (by first | exact Or.inl rfl | exact Or.inr rfl) (de_ix ix_seq od_ix (de_ix ix_seq od_ix (de_ix ix_seq od_ix (dv 0) (de_int) (fun _ _ => rfl)) (dv 2) (fun _ _ => rfl)) (dv 3) (fun _ _ => rfl)))))
    (dss_one (ds_ret (de_ix ix_seq od_ix (de_ix ix_seq od_ix (dv 0) (de_int) (fun _ _ => rfl)) (dv 2) (fun _ _ => rfl)))))) (fun ds hl _ => mkF_eq ds hl), fun ds d => mkF_len ds d⟩
/-! ### has -/
def s_has : Stmt := PySem.Challenge.pw_fewfigures_k08_figures_told_by_numbers.main.body.getD 20 (.Pass ⟨0, 0, 0, 0⟩)
theorem sc_has : FnScope ["lot", "number"] ["lot", "number"] (defScope s_has) := ⟨rfl, rfl, rfl, by decide +kernel, rfl, by decide +kernel, by decide +kernel⟩
noncomputable def b_has : MS := sq (sDrop (mCall f_look_at_lot (aCons (var 0) (aNil))))
  (sq (sDrop (mCall f_look_at_number (aCons (var 1) (aCons (cst (.int 0)) (aCons (cst (.int 1000000000000000000000000000000)) (aNil))))))
  (sRet (mCall f_has_by (aCons (var 0) (aCons (var 1) (aNil))))))
noncomputable def f_has : FD := mkF 2 2 b_has
theorem c_has {P : Program} {w : World} {K : PySem.W.Frag} {mg : Str → Option Value} {base : Heap} {tb : List (Addr × Str)} {a : Addr} {fd : FuncData} (B : Bl mg) (g_FAR : ∃ u, mg "FAR" = some u ∧ L2.RelV (.int 1000000000000000000000000000000) u) (c_look_at_lot : Cal P w K mg base tb "look_at_lot" 1 3 f_look_at_lot) (c_look_at_number : Cal P w K mg base tb "look_at_number" 3 2 f_look_at_number) (c_has_by : Cal P w K mg base tb "has_by" 2 2 f_has_by) (Fn : Fun K "has" "has" s_has a fd) (hm : mg "has" = some (.ref a)) : Cal P w K mg base tb "has" 2 4 f_has :=
  ⟨a, fd, ["lot", "number"], hm, Fn.kp, Fn.binds (ps := ["lot", "number"]) fun _ _ _ _ _ _ us hl => match us, hl with | [_, _], _ => rfl, okF (k := 3) (body := b_has) Fn sc_has (fun cdv A outer s H E G hr hmg htb tk hp =>
    dss_cons (ds_expr (de_cal c_look_at_lot htb hmg tk (Room.mono hr (by first | decide | omega)) (by rfl) (da_cons (dv 0) (da_nil))))
    (dss_cons (ds_expr (de_cal c_look_at_number htb hmg tk (Room.mono hr (by first | decide | omega)) (by rfl) (da_cons (dv 1) (da_cons (de_int) (da_cons (de_gint g_FAR (by rfl)) (da_nil))))))
    (dss_one (ds_ret (de_cal c_has_by htb hmg tk (Room.mono hr (by first | decide | omega)) (by rfl) (da_cons (dv 0) (da_cons (dv 1) (da_nil)))))))) (fun ds hl _ => mkF_eq ds hl), fun ds d => mkF_len ds d⟩
/-! ### are_figures -/
def s_are_figures : Stmt := PySem.Challenge.pw_fewfigures_k08_figures_told_by_numbers.main.body.getD 21 (.Pass ⟨0, 0, 0, 0⟩)
theorem sc_are_figures : FnScope ["base", "value", "figure"] ["base", "value"] (defScope s_are_figures) := ⟨rfl, rfl, rfl, by decide +kernel, rfl, by decide +kernel, by decide +kernel⟩
noncomputable def b_are_figures : MS := sq (sIf (mOr (mNot (tst (mCall f_is_wide (aCons (var 1) (aCons (cst (.int 1)) (aCons (var 0) (aNil))))))) (mNot (tst (cb (gAllAny fun bs => bs.all id) (aCons (mComp (iSeq (var 1)) (gN 2) (tAlways) (mCall f_is_within (aCons (var 2) (aCons (cst (.int 0)) (aCons (bin (gI fSub) (var 0) (cst (.int 1))) (aNil))))) [2]) (aNil)))))) (sRet (cst (.bl false))) (nop))
  (sRet (vAnd (bin gEq (cb gList (aCons (var 1) (aNil))) (cb gSortSet (aCons (var 1) aNil))) (bin gEq (bin gIx (var 1) (cst (.int 0))) (cst (.int 0)))))
noncomputable def f_are_figures : FD := mkF 2 3 b_are_figures
theorem c_are_figures {P : Program} {w : World} {K : PySem.W.Frag} {mg : Str → Option Value} {base : Heap} {tb : List (Addr × Str)} {a : Addr} {fd : FuncData} (B : Bl mg) (c_is_wide : Cal P w K mg base tb "is_wide" 3 1 f_is_wide) (c_is_within : Cal P w K mg base tb "is_within" 3 1 f_is_within) (Fn : Fun K "are_figures" "are_figures" s_are_figures a fd) (hm : mg "are_figures" = some (.ref a)) : Cal P w K mg base tb "are_figures" 2 2 f_are_figures :=
  ⟨a, fd, ["base", "value"], hm, Fn.kp, Fn.binds (ps := ["base", "value"]) fun _ _ _ _ _ _ us hl => match us, hl with | [_, _], _ => rfl, okF (k := 1) (body := b_are_figures) Fn sc_are_figures (fun cdv A outer s H E G hr hmg htb tk hp =>
    dss_cons (ds_if (dt_w (dw_or (dt_not (dt_val (de_cal c_is_wide htb hmg tk (Room.mono hr (by first | decide | omega)) (by rfl) (da_cons (dv 1) (da_cons (de_int) (da_cons (dv 0) (da_nil))))))) (dw_or1 (dt_not (dt_val (de_cb (cr_all rfl) cd_all (by rfl) B.b_all boot_all (da_cons (de_lc (own := [("figure", 2)]) (ks := [2]) rfl sc_are_figures.nd (di_seq (dv 1)) (blkOk_by (by rfl)) (by decide) (fun _ _ _ _ _ _ => dg_name sc_are_figures.nd rfl (by first | exact Or.inl rfl | exact Or.inr rfl)) (fun _ _ _ _ _ _ => dts_nil) (fun _ _ _ _ _ _ => de_cal c_is_within htb hmg takes0N (Room.mono hr (by first | decide | omega)) (by rfl) (da_cons (dv 2) (da_cons (de_int) (da_cons (de_bin op_sub od_sub (dv 0) (de_int)) (da_nil)))))) (da_nil)))))))) (dss_one (ds_ret (de_bl))) (dss_nil))
    (dss_one (ds_ret (de_and (de_cmp (op_eqD (Room.units hr)) od_eq (de_cty call_list_of cd_list (by rfl) B.b_list boot_list (da_cons (dv 1) (da_nil))) (de_sortSet rfl (by rfl) B.b_sorted (by rfl) B.b_set (dv 1)) (nomark _)) (de_one (de_cmp (op_eqD (Room.units hr)) od_eq (de_ix ix_seq od_ix (dv 1) (de_int) (fun _ _ => rfl)) (de_int) (nomark _))))))) (fun ds hl _ => mkF_eq ds hl), fun ds d => mkF_len ds d⟩
/-! ### figures_by -/
def s_figures_by : Stmt := PySem.Challenge.pw_fewfigures_k08_figures_told_by_numbers.main.body.getD 22 (.Pass ⟨0, 0, 0, 0⟩)
theorem sc_figures_by : FnScope ["base", "figures", "figure"] ["base", "figures"] (defScope s_figures_by) := ⟨rfl, rfl, rfl, by decide +kernel, rfl, by decide +kernel, by decide +kernel⟩
noncomputable def b_figures_by : MS := sq (sIf (tst (bin gEq (cb gLen (aCons (var 1) (aNil))) (var 0))) (sRet (mTup (aCons (var 0) (aCons (mTup (aCons (bin gMul (mTup (aCons (cst (.int 0)) (aNil))) (var 0)) (aNil))) (aCons (mTup (aCons (cst (.bl true)) (aNil))) (aNil)))))) (nop))
  (sRet (mTup (aCons (var 0) (aCons (mTup (aCons (cb gTuple (aCons (mComp (iRange (aCons (var 0) (aNil))) (gN 2) (tAlways) (cb gInt (aCons (bin (gIn true) (var 2) (var 1)) (aNil))) [2]) (aNil))) (aCons (bin gMul (mTup (aCons (cst (.int 1)) (aNil))) (var 0)) (aNil)))) (aCons (mTup (aCons (cst (.bl true)) (aCons (cst (.bl false)) (aNil)))) (aNil))))))
noncomputable def f_figures_by : FD := mkF 2 3 b_figures_by
theorem c_figures_by {P : Program} {w : World} {K : PySem.W.Frag} {mg : Str → Option Value} {base : Heap} {tb : List (Addr × Str)} {a : Addr} {fd : FuncData} (B : Bl mg) (Fn : Fun K "figures_by" "figures_by" s_figures_by a fd) (hm : mg "figures_by" = some (.ref a)) : Cal P w K mg base tb "figures_by" 2 1 f_figures_by :=
  ⟨a, fd, ["base", "figures"], hm, Fn.kp, Fn.binds (ps := ["base", "figures"]) fun _ _ _ _ _ _ us hl => match us, hl with | [_, _], _ => rfl, okF (k := 0) (body := b_figures_by) Fn sc_figures_by (fun cdv A outer s H E G hr hmg htb tk hp =>
    dss_cons (ds_if (dt_cmp (op_eqD (Room.units hr)) od_eq (de_cb cr_lens cd_len (by rfl) B.b_len boot_len (da_cons (dv 1) (da_nil))) (dv 0) (nomark _)) (dss_one (ds_ret (de_tup (da_cons (dv 0) (da_cons (de_tup (da_cons (de_bin or_muls od_mul (de_tup (da_cons (de_int) (da_nil))) (dv 0)) (da_nil))) (da_cons (de_tup (da_cons (de_bl) (da_nil))) (da_nil))))))) (dss_nil))
    (dss_one (ds_ret (de_tup (da_cons (dv 0) (da_cons (de_tup (da_cons (de_cty call_tuple_of cd_tuple (by rfl) B.b_tuple boot_tuple (da_cons (de_lc (own := [("figure", 2)]) (ks := [2]) rfl sc_figures_by.nd (di_range1 (by rfl) B.b_range (da_cons (dv 0) (da_nil)) (fun ls ds ls' q => aCons_len aNil_len ls ds ls' q)) (blkOk_by (by rfl)) (by decide) (fun _ _ _ _ _ _ => dg_name sc_figures_by.nd rfl (by first | exact Or.inl rfl | exact Or.inr rfl)) (fun _ _ _ _ _ _ => dts_nil) (fun _ _ _ _ _ _ => de_cty call_int1 cd_int (by rfl) B.b_int boot_int (da_cons (de_cmp op_notIn_seq od_in (dv 2) (dv 1) (by with_unfolding_all rfl)) (da_nil)))) (da_nil))) (da_cons (de_bin or_muls od_mul (de_tup (da_cons (de_int) (da_nil))) (dv 0)) (da_nil)))) (da_cons (de_tup (da_cons (de_bl) (da_cons (de_bl) (da_nil)))) (da_nil)))))))) (fun ds hl _ => mkF_eq ds hl), fun ds d => mkF_len ds d⟩
/-! ### figures_lot -/
def s_figures_lot : Stmt := PySem.Challenge.pw_fewfigures_k08_figures_told_by_numbers.main.body.getD 23 (.Pass ⟨0, 0, 0, 0⟩)
theorem sc_figures_lot : FnScope ["base", "figures"] ["base", "figures"] (defScope s_figures_lot) := ⟨rfl, rfl, rfl, by decide +kernel, rfl, by decide +kernel, by decide +kernel⟩
noncomputable def b_figures_lot : MS := sq (sDrop (mCall f_look_at_number (aCons (var 0) (aCons (cst (.int 2)) (aCons (cst (.int 4)) (aNil))))))
  (sq (sIf (mNot (tst (mCall f_are_figures (aCons (var 0) (aCons (var 1) (aNil)))))) (fun _ => .exc "InvalidFigures") (nop))
  (sRet (mCall f_figures_by (aCons (var 0) (aCons (var 1) (aNil))))))
noncomputable def f_figures_lot : FD := mkF 2 2 b_figures_lot
theorem c_figures_lot {P : Program} {w : World} {K : PySem.W.Frag} {mg : Str → Option Value} {base : Heap} {tb : List (Addr × Str)} {a : Addr} {fd : FuncData} (B : Bl mg) (c_look_at_number : Cal P w K mg base tb "look_at_number" 3 2 f_look_at_number) (c_are_figures : Cal P w K mg base tb "are_figures" 2 2 f_are_figures) (c_figures_by : Cal P w K mg base tb "figures_by" 2 1 f_figures_by) {C_InvalidFigures : Addr} {B_InvalidFigures n_InvalidFigures i_InvalidFigures : String} {bm_InvalidFigures : List Value} (X_InvalidFigures : Xc K mg "InvalidFigures" C_InvalidFigures B_InvalidFigures n_InvalidFigures i_InvalidFigures bm_InvalidFigures) (Fn : Fun K "figures_lot" "figures_lot" s_figures_lot a fd) (hm : mg "figures_lot" = some (.ref a)) : Cal P w K mg base tb "figures_lot" 2 3 f_figures_lot :=
  ⟨a, fd, ["base", "figures"], hm, Fn.kp, Fn.binds (ps := ["base", "figures"]) fun _ _ _ _ _ _ us hl => match us, hl with | [_, _], _ => rfl, okF (k := 2) (body := b_figures_lot) Fn sc_figures_lot (fun cdv A outer s H E G hr hmg htb tk hp =>
    dss_cons (ds_expr (de_cal c_look_at_number htb hmg tk (Room.mono hr (by first | decide | omega)) (by rfl) (da_cons (dv 0) (da_cons (de_int) (da_cons (de_int) (da_nil))))))
    (dss_cons (ds_if (dt_not (dt_val (de_cal c_are_figures htb hmg tk (Room.mono hr (by first | decide | omega)) (by rfl) (da_cons (dv 0) (da_cons (dv 1) (da_nil)))))) (dss_one (ds_raise rfl hmg tk X_InvalidFigures.F X_InvalidFigures.q X_InvalidFigures.g X_InvalidFigures.k X_InvalidFigures.r (by rfl))) (dss_nil))
    (dss_one (ds_ret (de_cal c_figures_by htb hmg tk (Room.mono hr (by first | decide | omega)) (by rfl) (da_cons (dv 0) (da_cons (dv 1) (da_nil)))))))) (fun ds hl _ => mkF_eq ds hl), fun ds d => mkF_len ds d⟩
/-! ### are_numbers -/
def s_are_numbers : Stmt := PySem.Challenge.pw_fewfigures_k08_figures_told_by_numbers.main.body.getD 25 (.Pass ⟨0, 0, 0, 0⟩)
theorem sc_are_numbers : FnScope ["value", "number"] ["value"] (defScope s_are_numbers) := ⟨rfl, rfl, rfl, by decide +kernel, rfl, by decide +kernel, by decide +kernel⟩
noncomputable def b_are_numbers : MS := sq (sIf (mOr (mNot (tst (mCall f_is_wide (aCons (var 0) (aCons (cst (.int 0)) (aCons (cst (.int 6)) (aNil))))))) (mNot (tst (cb (gAllAny fun bs => bs.all id) (aCons (mComp (iSeq (var 0)) (gN 1) (tAlways) (mCall f_is_within (aCons (var 1) (aCons (cst (.int 0)) (aCons (cst (.int 1000000000000000000000000000000)) (aNil))))) [1]) (aNil)))))) (sRet (cst (.bl false))) (nop))
  (sRet (bin gEq (cb gList (aCons (var 0) (aNil))) (cb gSortSet (aCons (var 0) aNil))))
noncomputable def f_are_numbers : FD := mkF 1 2 b_are_numbers
theorem c_are_numbers {P : Program} {w : World} {K : PySem.W.Frag} {mg : Str → Option Value} {base : Heap} {tb : List (Addr × Str)} {a : Addr} {fd : FuncData} (B : Bl mg) (g_FAR : ∃ u, mg "FAR" = some u ∧ L2.RelV (.int 1000000000000000000000000000000) u) (c_is_wide : Cal P w K mg base tb "is_wide" 3 1 f_is_wide) (c_is_within : Cal P w K mg base tb "is_within" 3 1 f_is_within) (Fn : Fun K "are_numbers" "are_numbers" s_are_numbers a fd) (hm : mg "are_numbers" = some (.ref a)) : Cal P w K mg base tb "are_numbers" 1 2 f_are_numbers :=
  ⟨a, fd, ["value"], hm, Fn.kp, Fn.binds (ps := ["value"]) fun _ _ _ _ _ _ us hl => match us, hl with | [_], _ => rfl, okF (k := 1) (body := b_are_numbers) Fn sc_are_numbers (fun cdv A outer s H E G hr hmg htb tk hp =>
    dss_cons (ds_if (dt_w (dw_or (dt_not (dt_val (de_cal c_is_wide htb hmg tk (Room.mono hr (by first | decide | omega)) (by rfl) (da_cons (dv 0) (da_cons (de_int) (da_cons (de_int) (da_nil))))))) (dw_or1 (dt_not (dt_val (de_cb (cr_all rfl) cd_all (by rfl) B.b_all boot_all (da_cons (de_lc (own := [("number", 1)]) (ks := [1]) rfl sc_are_numbers.nd (di_seq (dv 0)) (blkOk_by (by rfl)) (by decide) (fun _ _ _ _ _ _ => dg_name sc_are_numbers.nd rfl (by first | exact Or.inl rfl | exact Or.inr rfl)) (fun _ _ _ _ _ _ => dts_nil) (fun _ _ _ _ _ _ => de_cal c_is_within htb hmg takes0N (Room.mono hr (by first | decide | omega)) (by rfl) (da_cons (dv 1) (da_cons (de_int) (da_cons (de_gint g_FAR (by rfl)) (da_nil)))))) (da_nil)))))))) (dss_one (ds_ret (de_bl))) (dss_nil))
    (dss_one (ds_ret (de_cmp (op_eqD (Room.units hr)) od_eq (de_cty call_list_of cd_list (by rfl) B.b_list boot_list (da_cons (dv 0) (da_nil))) (de_sortSet rfl (by rfl) B.b_sorted (by rfl) B.b_set (dv 0)) (nomark _))))) (fun ds hl _ => mkF_eq ds hl), fun ds d => mkF_len ds d⟩
/-! ### choices -/
def s_choices : Stmt := PySem.Challenge.pw_fewfigures_k08_figures_told_by_numbers.main.body.getD 26 (.Pass ⟨0, 0, 0, 0⟩)
theorem sc_choices : FnScope ["base", "found", "figure", "row"] ["base"] (defScope s_choices) := ⟨rfl, rfl, rfl, by decide +kernel, rfl, by decide +kernel, by decide +kernel⟩
noncomputable def b_choices : MS := sq (sAsg (mLst (aCons (mTup (aCons (cst (.int 0)) (aNil))) (aNil))) (gN 1))
  (sq (sFor (iRange (aCons (cst (.int 1)) (aCons (var 0) (aNil)))) (gN 2) (sAsg (bin gAdd (var 1) (mComp (iSeq (var 1)) (gN 3) (tAlways) (bin gAdd (var 3) (mTup (aCons (var 2) (aNil)))) [3])) (gN 1)))
  (sRet (cb gSort (aCons (var 1) (aNil)))))
noncomputable def f_choices : FD := mkF 1 4 b_choices
theorem c_choices {P : Program} {w : World} {K : PySem.W.Frag} {mg : Str → Option Value} {base : Heap} {tb : List (Addr × Str)} {a : Addr} {fd : FuncData} (B : Bl mg) (Fn : Fun K "choices" "choices" s_choices a fd) (hm : mg "choices" = some (.ref a)) : Cal P w K mg base tb "choices" 1 1 f_choices :=
  ⟨a, fd, ["base"], hm, Fn.kp, Fn.binds (ps := ["base"]) fun _ _ _ _ _ _ us hl => match us, hl with | [_], _ => rfl, okF (k := 0) (body := b_choices) Fn sc_choices (fun cdv A outer s H E G hr hmg htb tk hp =>
    dss_cons (ds_set (i := 1) sc_choices.nd rfl (by first | exact Or.inl rfl | exact Or.inr rfl) (de_lst (da_cons (de_tup (da_cons (de_int) (da_nil))) (da_nil))))
    (dss_cons (ds_for hp rfl (di_range2 (by rfl) B.b_range (da_cons (de_int) (da_cons (dv 0) (da_nil))) (fun ls ds ls' q => aCons_len (aCons_len aNil_len) ls ds ls' q)) (dg_name sc_choices.nd rfl (by first | exact Or.inl rfl | exact Or.inr rfl)) (dss_one (ds_set (i := 1) sc_choices.nd rfl (by first | exact Or.inl rfl | exact Or.inr rfl) (de_bin or_adds od_add (dv 1) (de_lc (own := [("row", 3)]) (ks := [3]) rfl sc_choices.nd (di_seq (dv 1)) (blkOk_by (by rfl)) (by decide) (fun _ _ _ _ _ _ => dg_name sc_choices.nd rfl (by first | exact Or.inl rfl | exact Or.inr rfl)) (fun _ _ _ _ _ _ => dts_nil) (fun _ _ _ _ _ _ => de_bin or_adds od_add (dv 3) (de_tup (da_cons (dv 2) (da_nil)))))))))
    (dss_one (ds_ret (de_cb (cr_sortD (Room.units hr)) cd_sort (by rfl) B.b_sorted boot_sorted (da_cons (dv 1) (da_nil))))))) (fun ds hl _ => mkF_eq ds hl), fun ds d => mkF_len ds d⟩
/-! ### is_let -/
def s_is_let : Stmt := PySem.Challenge.pw_fewfigures_k08_figures_told_by_numbers.main.body.getD 27 (.Pass ⟨0, 0, 0, 0⟩)
theorem sc_is_let : FnScope ["base", "figures", "number", "figure"] ["base", "figures", "number"] (defScope s_is_let) := ⟨rfl, rfl, rfl, by decide +kernel, rfl, by decide +kernel, by decide +kernel⟩
noncomputable def b_is_let : MS := sRet (cb (gAllAny fun bs => bs.all id) (aCons (mComp (iSeq (mCall f_figures_of (aCons (var 0) (aCons (var 2) (aNil))))) (gN 3) (tAlways) (bin (gIn false) (var 3) (var 1)) [3]) (aNil)))
noncomputable def f_is_let : FD := mkF 3 4 b_is_let
theorem c_is_let {P : Program} {w : World} {K : PySem.W.Frag} {mg : Str → Option Value} {base : Heap} {tb : List (Addr × Str)} {a : Addr} {fd : FuncData} (B : Bl mg) (c_figures_of : Cal P w K mg base tb "figures_of" 2 1 f_figures_of) (Fn : Fun K "is_let" "is_let" s_is_let a fd) (hm : mg "is_let" = some (.ref a)) : Cal P w K mg base tb "is_let" 3 2 f_is_let :=
  ⟨a, fd, ["base", "figures", "number"], hm, Fn.kp, Fn.binds (ps := ["base", "figures", "number"]) fun _ _ _ _ _ _ us hl => match us, hl with | [_, _, _], _ => rfl, okF (k := 1) (body := b_is_let) Fn sc_is_let (fun cdv A outer s H E G hr hmg htb tk hp =>
    dss_one (ds_ret (de_cb (cr_all rfl) cd_all (by rfl) B.b_all boot_all (da_cons (de_lc (own := [("figure", 3)]) (ks := [3]) rfl sc_is_let.nd (di_seq (de_cal c_figures_of htb hmg tk (Room.mono hr (by first | decide | omega)) (by rfl) (da_cons (dv 0) (da_cons (dv 2) (da_nil))))) (blkOk_by (by rfl)) (by decide) (fun _ _ _ _ _ _ => dg_name sc_is_let.nd rfl (by first | exact Or.inl rfl | exact Or.inr rfl)) (fun _ _ _ _ _ _ => dts_nil) (fun _ _ _ _ _ _ => de_cmp op_in_seq od_in (dv 3) (dv 1) (by with_unfolding_all rfl))) (da_nil))))) (fun ds hl _ => mkF_eq ds hl), fun ds d => mkF_len ds d⟩
/-! ### figures_told -/
def s_figures_told : Stmt := PySem.Challenge.pw_fewfigures_k08_figures_told_by_numbers.main.body.getD 28 (.Pass ⟨0, 0, 0, 0⟩)
theorem sc_figures_told : FnScope ["base", "seen", "found", "row", "number"] ["base", "seen"] (defScope s_figures_told) := ⟨rfl, rfl, rfl, by decide +kernel, rfl, by decide +kernel, by decide +kernel⟩
noncomputable def b_figures_told : MS := sq (sDrop (mCall f_look_at_number (aCons (var 0) (aCons (cst (.int 2)) (aCons (cst (.int 4)) (aNil))))))
  (sq (sIf (mOr (mNot (tst (mCall f_is_wide (aCons (var 1) (aCons (cst (.int 2)) (aCons (cst (.int 2)) (aNil))))))) (mOr (mNot (tst (mCall f_are_numbers (aCons (bin gIx (var 1) (cst (.int 0))) (aNil))))) (mNot (tst (mCall f_are_numbers (aCons (bin gIx (var 1) (cst (.int 1))) (aNil))))))) (fun _ => .exc "InvalidSeen") (nop))
  (sq (sAsg (mLst (aNil)) (gN 2))
  (sq (sFor (iSeq (mCall f_choices (aCons (var 0) (aNil)))) (gN 3) (sIf (tst (cb (gAllAny fun bs => bs.all id) (aCons (mComp (iSeq (bin gIx (var 1) (cst (.int 0)))) (gN 4) (tAlways) (mCall f_is_let (aCons (var 0) (aCons (var 3) (aCons (var 4) (aNil))))) [4]) (aNil)))) (sIf (mNot (tst (cb (gAllAny fun bs => bs.any id) (aCons (mComp (iSeq (bin gIx (var 1) (cst (.int 1)))) (gN 4) (tAlways) (mCall f_is_let (aCons (var 0) (aCons (var 3) (aCons (var 4) (aNil))))) [4]) (aNil))))) (sDrop (mApp 2 (var 3))) (nop)) (nop)))
  (sRet (var 2)))))
noncomputable def f_figures_told : FD := mkF 2 5 b_figures_told
theorem c_figures_told {P : Program} {w : World} {K : PySem.W.Frag} {mg : Str → Option Value} {base : Heap} {tb : List (Addr × Str)} {a : Addr} {fd : FuncData} (B : Bl mg) (c_look_at_number : Cal P w K mg base tb "look_at_number" 3 2 f_look_at_number) (c_is_wide : Cal P w K mg base tb "is_wide" 3 1 f_is_wide) (c_are_numbers : Cal P w K mg base tb "are_numbers" 1 2 f_are_numbers) (c_choices : Cal P w K mg base tb "choices" 1 1 f_choices) (c_is_let : Cal P w K mg base tb "is_let" 3 2 f_is_let) {C_InvalidSeen : Addr} {B_InvalidSeen n_InvalidSeen i_InvalidSeen : String} {bm_InvalidSeen : List Value} (X_InvalidSeen : Xc K mg "InvalidSeen" C_InvalidSeen B_InvalidSeen n_InvalidSeen i_InvalidSeen bm_InvalidSeen) (Fn : Fun K "figures_told" "figures_told" s_figures_told a fd) (hm : mg "figures_told" = some (.ref a)) : Cal P w K mg base tb "figures_told" 2 3 f_figures_told :=
  ⟨a, fd, ["base", "seen"], hm, Fn.kp, Fn.binds (ps := ["base", "seen"]) fun _ _ _ _ _ _ us hl => match us, hl with | [_, _], _ => rfl, okF (k := 2) (body := b_figures_told) Fn sc_figures_told (fun cdv A outer s H E G hr hmg htb tk hp =>
    dss_cons (ds_expr (de_cal c_look_at_number htb hmg tk (Room.mono hr (by first | decide | omega)) (by rfl) (da_cons (dv 0) (da_cons (de_int) (da_cons (de_int) (da_nil))))))
    (dss_cons (ds_if (dt_w (dw_or (dt_not (dt_val (de_cal c_is_wide htb hmg tk (Room.mono hr (by first | decide | omega)) (by rfl) (da_cons (dv 1) (da_cons (de_int) (da_cons (de_int) (da_nil))))))) (dw_or (dt_not (dt_val (de_cal c_are_numbers htb hmg tk (Room.mono hr (by first | decide | omega)) (by rfl) (da_cons (de_ix ix_seq od_ix (dv 1) (de_int) (fun _ _ => rfl)) (da_nil))))) (dw_or1 (dt_not (dt_val (de_cal c_are_numbers htb hmg tk (Room.mono hr (by first | decide | omega)) (by rfl) (da_cons (de_ix ix_seq od_ix (dv 1) (de_int) (fun _ _ => rfl)) (da_nil))))))))) (dss_one (ds_raise rfl hmg tk X_InvalidSeen.F X_InvalidSeen.q X_InvalidSeen.g X_InvalidSeen.k X_InvalidSeen.r (by rfl))) (dss_nil))
    (dss_cons (ds_set (i := 2) sc_figures_told.nd rfl (by first | exact Or.inl rfl | exact Or.inr rfl) (de_lst (da_nil)))
    (dss_cons (ds_for hp rfl (di_seq (de_cal c_choices htb hmg tk (Room.mono hr (by first | decide | omega)) (by rfl) (da_cons (dv 0) (da_nil)))) (dg_name sc_figures_told.nd rfl (by first | exact Or.inl rfl | exact Or.inr rfl)) (dss_one (ds_if (dt_val (de_cb (cr_all rfl) cd_all (by rfl) B.b_all boot_all (da_cons (de_lc (own := [("number", 4)]) (ks := [4]) rfl sc_figures_told.nd (di_seq (de_ix ix_seq od_ix (dv 1) (de_int) (fun _ _ => rfl))) (blkOk_by (by rfl)) (by decide) (fun _ _ _ _ _ _ => dg_name sc_figures_told.nd rfl (by first | exact Or.inl rfl | exact Or.inr rfl)) (fun _ _ _ _ _ _ => dts_nil) (fun _ _ _ _ _ _ => de_cal c_is_let htb hmg takes0N (Room.mono hr (by first | decide | omega)) (by rfl) (da_cons (dv 0) (da_cons (dv 3) (da_cons (dv 4) (da_nil)))))) (da_nil)))) (dss_one (ds_if (dt_not (dt_val (de_cb (cr_any rfl) cd_any (by rfl) B.b_any boot_any (da_cons (de_lc (own := [("number", 4)]) (ks := [4]) rfl sc_figures_told.nd (di_seq (de_ix ix_seq od_ix (dv 1) (de_int) (fun _ _ => rfl))) (blkOk_by (by rfl)) (by decide) (fun _ _ _ _ _ _ => dg_name sc_figures_told.nd rfl (by first | exact Or.inl rfl | exact Or.inr rfl)) (fun _ _ _ _ _ _ => dts_nil) (fun _ _ _ _ _ _ => de_cal c_is_let htb hmg takes0N (Room.mono hr (by first | decide | omega)) (by rfl) (da_cons (dv 0) (da_cons (dv 3) (da_cons (dv 4) (da_nil)))))) (da_nil))))) (dss_one (ds_expr (de_append (pv 2) (dv 3) (pe_bm PySem.F.plainAttrs_list PySem.F.slot_list_append PySem.F.type_list_append mt_append (pv 2) (pa_cons (dv 3) pa_nil))))) (dss_nil))) (dss_nil))))
    (dss_one (ds_ret (dv 2))))))) (fun ds hl _ => mkF_eq ds hl), fun ds d => mkF_len ds d⟩
/-! ### _law_spring -/
def s__law_spring : Stmt := PySem.Challenge.pw_fewfigures_k08_figures_told_by_numbers.main.body.getD 30 (.Pass ⟨0, 0, 0, 0⟩)
theorem sc__law_spring : FnScope ["script", "at", "cell", "mixed"] ["script", "at"] (defScope s__law_spring) := ⟨rfl, rfl, rfl, by decide +kernel, rfl, by decide +kernel, by decide +kernel⟩
noncomputable def b__law_spring (i : Addr × List Int) : MS := sq (sAsg (cst (.int 7)) (gN 2))
  (sq (sIf (tst (bin gLt (var 1) (cb (gLenS i.1 i.2.length) (aCons (var 0) (aNil))))) (sAsg (cb gAbs (aCons (bin (gIxS i.1 i.2) (var 0) (var 1)) (aNil))) (gN 2)) (nop))
  (sq (sAsg (bin (gI fMod) (cb gInt (aCons (bin gAdd (bin gAdd (bin gMul (var 2) (cst (.int 863))) (bin gMul (cst (.int 524287)) (var 1))) (cst (.int 1))) (aNil))) (cst (.int 999999999989))) (gN 3))
  (sRet (mLst (aCons (ite (tst (bin gGe (var 2) (bin (gI fPow) (cst (.int 10)) (cst (.int 18))))) (var 2) (cst (.int 0))) (aCons (var 3) (aNil)))))))
noncomputable def f__law_spring (i : Addr × List Int) : FD := mkF 2 4 (b__law_spring i)
theorem c__law_spring {P : Program} {w : World} {K : PySem.W.Frag} {mg : Str → Option Value} {base : Heap} {tb : List (Addr × Str)} {a : Addr} {fd : FuncData} (B : Bl mg) (Fn : Fun K "_law_spring" "_law_spring" s__law_spring a fd) (hm : mg "_law_spring" = some (.ref a)) : CalX P w K mg base tb "_law_spring" 2 1 (fun (i : Addr × List Int) H => SqL K H i.1 (i.2.map V.int)) f__law_spring :=
  ⟨a, fd, ["script", "at"], hm, Fn.kp, Fn.binds (ps := ["script", "at"]) fun _ _ _ _ _ _ us hl => match us, hl with | [_, _], _ => rfl, okX (k := 0) (body := b__law_spring) (DL.Fun.q Fn) sc__law_spring (fun i cdv A outer s H E G _ hr hmg htb h0 hI hpre tk hp =>
    have hs : Steady' G fun H => SqL K H i.1 (i.2.map V.int) := fun H kp => sq_keep (by rw [h0]; exact hpre) hI kp
    dss_cons (ds_set (i := 2) sc__law_spring.nd rfl (by first | exact Or.inl rfl | exact Or.inr rfl) (de_int))
    (dss_cons (ds_if (dt_cmp op_lt od_cmp (dv 1) (de_lenS hs (by rfl) B.b_len (da_cons (dv 0) (da_nil))) (nomark _)) (dss_one (ds_set (i := 2) sc__law_spring.nd rfl (by first | exact Or.inl rfl | exact Or.inr rfl) (de_cb call_abs cd_abs (by rfl) B.b_abs boot_abs (da_cons (de_ixS hs (dv 0) (dv 1) (fun _ _ => rfl)) (da_nil))))) (dss_nil))
    (dss_cons (ds_set (i := 3) sc__law_spring.nd rfl (by first | exact Or.inl rfl | exact Or.inr rfl) (de_bin op_mod od_mod (de_cty call_int1 cd_int (by rfl) B.b_int boot_int (da_cons (de_bin or_adds od_add (de_bin or_adds od_add (de_bin or_muls od_mul (dv 2) (de_int)) (de_bin or_muls od_mul (de_int) (dv 1))) (de_int)) (da_nil))) (de_int)))
    (dss_one (ds_ret (de_lst (da_cons (de_if (dt_cmp op_ge od_cmp (dv 2) (de_bin op_pow od_pow (de_int) (de_int)) (nomark _)) (dv 2) (de_int)) (da_cons (dv 3) (da_nil))))))))) (fun i ds hl _ => mkF_eq ds hl), fun i ds d => mkF_len ds d⟩
/-! ### _law_pick -/
def s__law_pick : Stmt := PySem.Challenge.pw_fewfigures_k08_figures_told_by_numbers.main.body.getD 31 (.Pass ⟨0, 0, 0, 0⟩)
theorem sc__law_pick : FnScope ["spring", "many", "digit"] ["spring", "many"] (defScope s__law_pick) := ⟨rfl, rfl, rfl, by decide +kernel, rfl, by decide +kernel, by decide +kernel⟩
noncomputable def b__law_pick : MS := sq (sIf (tst (bin gGt (bin gIx (var 0) (cst (.int 0))) (cst (.int 0)))) (sq (sAsg (bin (gI fMod) (cb gInt (aCons (bin gIx (var 0) (cst (.int 0))) (aNil))) (var 1)) (gN 2))
  (sq (sSet 0 (cst (.int 0)) (bin (gI fDiv) (bin gIx (var 0) (cst (.int 0))) (var 1)))
  (sRet (var 2)))) (nop))
  (sq (sSet 0 (cst (.int 1)) (bin (gI fMod) (cb gInt (aCons (bin gAdd (bin gMul (bin gIx (var 0) (cst (.int 1))) (cst (.int 393555900739))) (cst (.int 8191))) (aNil))) (cst (.int 999999999989))))
  (sRet (bin (gI fMod) (cb gInt (aCons (bin (gI fDiv) (bin gIx (var 0) (cst (.int 1))) (cst (.int 4093))) (aNil))) (var 1))))
noncomputable def f__law_pick : FIO := mkIO 1 3 b__law_pick
theorem c__law_pick {P : Program} {w : World} {K : PySem.W.Frag} {mg : Str → Option Value} {base : Heap} {tb : List (Addr × Str)} {a : Addr} {fd : FuncData} (B : Bl mg) (Fn : Fun K "_law_pick" "_law_pick" s__law_pick a fd) (hm : mg "_law_pick" = some (.ref a)) : CalIO P w K mg base tb "_law_pick" 1 1 f__law_pick :=
  ⟨a, fd, ["spring", "many"], hm, Fn.kp, Fn.binds (ps := ["spring", "many"]) fun _ _ _ _ _ _ us hl => match us, hl with | [_, _], _ => rfl, okIO (n := 1) (k := 0) (body := b__law_pick) Fn sc__law_pick rfl (fun cdv A outer s H E G hr hmg htb tk hp =>
    dss_cons (ds_if (dt_cmp op_gt od_cmp (de_ix ix_seq od_ix (dv 0) (de_int) (fun _ _ => rfl)) (de_int) (nomark _)) (dss_cons (ds_set (i := 2) sc__law_pick.nd rfl (by first | exact Or.inl rfl | exact Or.inr rfl) (de_bin op_mod od_mod (de_cty call_int1 cd_int (by rfl) B.b_int boot_int (da_cons (de_ix ix_seq od_ix (dv 0) (de_int) (fun _ _ => rfl)) (da_nil))) (dv 1)))
    (dss_cons (ds_setitem (i := 0) (pv 0) (de_int) (de_bin op_fdivW od_div (de_ix ix_seq od_ix (dv 0) (de_int) (fun _ _ => rfl)) (dv 1)) (ps_asg (de_bin op_fdivW od_div (de_ix ix_seq od_ix (dv 0) (de_int) (fun _ _ => rfl)) (dv 1)) (pg_sub (pv 0) (de_int) set_list)))
    (dss_one (ds_ret (dv 2))))) (dss_nil))
    (dss_cons (ds_setitem (i := 0) (pv 0) (de_int) (de_bin op_mod od_mod (de_cty call_int1 cd_int (by rfl) B.b_int boot_int (da_cons (de_bin or_adds od_add (de_bin or_muls od_mul (de_ix ix_seq od_ix (dv 0) (de_int) (fun _ _ => rfl)) (de_int)) (de_int)) (da_nil))) (de_int)) (ps_asg (de_bin op_mod od_mod (de_cty call_int1 cd_int (by rfl) B.b_int boot_int (da_cons (de_bin or_adds od_add (de_bin or_muls od_mul (de_ix ix_seq od_ix (dv 0) (de_int) (fun _ _ => rfl)) (de_int)) (de_int)) (da_nil))) (de_int)) (pg_sub (pv 0) (de_int) set_list)))
    (dss_one (ds_ret (de_bin op_mod od_mod (de_cty call_int1 cd_int (by rfl) B.b_int boot_int (da_cons (de_bin op_fdivW od_div (de_ix ix_seq od_ix (dv 0) (de_int) (fun _ _ => rfl)) (de_int)) (da_nil))) (dv 1)))))) (fun c ds hl _ => mkIO_eq c ds hl), fun c ds d => mkIO_len c ds d, fun c ds x => mkIO_exc c ds x⟩
/-! ### _law_kind -/
def s__law_kind : Stmt := PySem.Challenge.pw_fewfigures_k08_figures_told_by_numbers.main.body.getD 32 (.Pass ⟨0, 0, 0, 0⟩)
theorem sc__law_kind : FnScope ["value"] ["value"] (defScope s__law_kind) := ⟨rfl, rfl, rfl, by decide +kernel, rfl, by decide +kernel, by decide +kernel⟩
noncomputable def b__law_kind : MS := sq (sIf (mOr (tst (bin (gIsN false) (var 0) (cst .non))) (tst (un (gIsi "bool") (var 0)))) (sRet (ite (tst (bin (gIsN false) (var 0) (cst .non))) (cst (.int 0)) (cst (.int 1)))) (nop))
  (sq (sIf (tst (un (gIsi2 "list" "tuple") (var 0))) (sRet (ite (tst (un (gIsi "list") (var 0))) (cst (.int 2)) (cst (.int 3)))) (nop))
  (sRet (ite (tst (un (gIsi "int") (var 0))) (cst (.int 4)) (ite (tst (un (gIsi "str") (var 0))) (cst (.int 5)) (cst (.int 6))))))
noncomputable def f__law_kind : FD := mkF 1 1 b__law_kind
theorem c__law_kind {P : Program} {w : World} {K : PySem.W.Frag} {mg : Str → Option Value} {base : Heap} {tb : List (Addr × Str)} {a : Addr} {fd : FuncData} (B : Bl mg) (Fn : Fun K "_law_kind" "_law_kind" s__law_kind a fd) (hm : mg "_law_kind" = some (.ref a)) : Cal P w K mg base tb "_law_kind" 1 1 f__law_kind :=
  ⟨a, fd, ["value"], hm, Fn.kp, Fn.binds (ps := ["value"]) fun _ _ _ _ _ _ us hl => match us, hl with | [_], _ => rfl, okF (k := 0) (body := b__law_kind) Fn sc__law_kind (fun cdv A outer s H E G hr hmg htb tk hp =>
    dss_cons (ds_if (dt_w (dw_or (dt_cmp op_isN od_isN (dv 0) (de_non) (nomark _)) (dw_or1 (dt_val (de_isi (by rfl) B.b_isinstance (dv 0) (by rfl) B.b_bool boot_bool))))) (dss_one (ds_ret (de_if (dt_cmp op_isN od_isN (dv 0) (de_non) (nomark _)) (de_int) (de_int)))) (dss_nil))
    (dss_cons (ds_if (dt_val (de_isi2 (by rfl) B.b_isinstance (dv 0) (by rfl) B.b_list boot_list (by rfl) B.b_tuple boot_tuple)) (dss_one (ds_ret (de_if (dt_val (de_isi (by rfl) B.b_isinstance (dv 0) (by rfl) B.b_list boot_list)) (de_int) (de_int)))) (dss_nil))
    (dss_one (ds_ret (de_if (dt_val (de_isi (by rfl) B.b_isinstance (dv 0) (by rfl) B.b_int boot_int)) (de_int) (de_if (dt_val (de_isi (by rfl) B.b_isinstance (dv 0) (by rfl) B.b_str boot_str)) (de_int) (de_int))))))) (fun ds hl _ => mkF_eq ds hl), fun ds d => mkF_len ds d⟩
/-! ### _law_twins -/
def s__law_twins : Stmt := PySem.Challenge.pw_fewfigures_k08_figures_told_by_numbers.main.body.getD 33 (.Pass ⟨0, 0, 0, 0⟩)
theorem sc__law_twins : FnScope ["one", "other", "a", "b"] ["one", "other"] (defScope s__law_twins) := ⟨rfl, rfl, rfl, by decide +kernel, rfl, by decide +kernel, by decide +kernel⟩
noncomputable def b__law_twins (r : FD) : MS := sq (sIf (tst (bin gNe (mCall f__law_kind (aCons (var 0) (aNil))) (mCall f__law_kind (aCons (var 1) (aNil))))) (sRet (cst (.bl false))) (nop))
  (sq (sIf (tst (bin (gIn false) (mCall f__law_kind (aCons (var 0) (aNil))) (mLst (aCons (cst (.int 2)) (aCons (cst (.int 3)) (aNil)))))) (sRet (vAnd (bin gEq (cb gLen (aCons (var 0) (aNil))) (cb gLen (aCons (var 1) (aNil)))) (bin gEq (mComp (iZip (aCons (var 0) (aCons (var 1) (aNil)))) (gTup' 2 (gMore (gN 2) (gMore (gN 3) (gNone)))) (mNot (tst (mCall r (aCons (var 2) (aCons (var 3) (aNil)))))) (cst (.int 1)) [2, 3]) (mLst (aNil))))) (nop))
  (sRet (bin gEq (var 0) (var 1))))
def l__law_twins : Nat := 12
noncomputable def f__law_twins : Nat → FD
  | 0 => fun _ => .stuck
  | t + 1 => mkF 2 4 (b__law_twins (f__law_twins t))
theorem c__law_twins {P : Program} {w : World} {K : PySem.W.Frag} {mg : Str → Option Value} {base : Heap} {tb : List (Addr × Str)} {a : Addr} {fd : FuncData} (B : Bl mg) (c__law_kind : Cal P w K mg base tb "_law_kind" 1 1 f__law_kind) (Fn : Fun K "_law_twins" "_law_twins" s__law_twins a fd) (hm : mg "_law_twins" = some (.ref a)) : ∀ t : Nat, Cal P w K mg base tb "_law_twins" 2 (1 + t) (f__law_twins t)
  | 0 => ⟨a, fd, ["one", "other"], hm, Fn.kp, Fn.binds (ps := ["one", "other"]) fun _ _ _ _ _ _ us hl => match us, hl with | [_, _], _ => rfl, ⟨fun _ _ _ _ ⟨_, _, _, _, _, _, z⟩ => z.elim, fun _ _ _ _ _ _ _ _ _ _ _ _ _ ⟨_, _, _, _, _, _, z⟩ => z.elim⟩, fun ds d e h => absurd e.symm h⟩
  | t + 1 => have cr := c__law_twins B c__law_kind Fn hm t
    ⟨a, fd, ["one", "other"], hm, Fn.kp, Fn.binds (ps := ["one", "other"]) fun _ _ _ _ _ _ us hl => match us, hl with | [_, _], _ => rfl, okF (k := 1 + t) (body := b__law_twins (f__law_twins t)) Fn sc__law_twins (fun cdv A outer s H E G hr hmg htb tk hp =>
    dss_cons (ds_if (dt_cmp (op_neD (Room.units hr)) od_ne (de_cal c__law_kind htb hmg tk (Room.mono hr (by first | decide | omega)) (by rfl) (da_cons (dv 0) (da_nil))) (de_cal c__law_kind htb hmg tk (Room.mono hr (by first | decide | omega)) (by rfl) (da_cons (dv 1) (da_nil))) (nomark _)) (dss_one (ds_ret (de_bl))) (dss_nil))
    (dss_cons (ds_if (dt_cmp op_in_seq od_in (de_cal c__law_kind htb hmg tk (Room.mono hr (by first | decide | omega)) (by rfl) (da_cons (dv 0) (da_nil))) (de_lst (da_cons (de_int) (da_cons (de_int) (da_nil)))) (by with_unfolding_all rfl)) (dss_one (ds_ret (de_and (de_cmp (op_eqD (Room.units hr)) od_eq (de_cb cr_lens cd_len (by rfl) B.b_len boot_len (da_cons (dv 0) (da_nil))) (de_cb cr_lens cd_len (by rfl) B.b_len boot_len (da_cons (dv 1) (da_nil))) (nomark _)) (de_one (de_cmp (op_eqD (Room.units hr)) od_eq (de_lc (own := [("a", 2), ("b", 3)]) (ks := [2, 3]) rfl sc__law_twins.nd (di_zip (by rfl) B.b_zip (da_cons (dv 0) (da_cons (dv 1) (da_nil)))) (blkOk_by (by rfl)) (by decide) (fun _ _ _ _ _ _ => dg_tup rfl (dgs_cons (dg_name sc__law_twins.nd rfl (by first | exact Or.inl rfl | exact Or.inr rfl)) (dgs_cons (dg_name sc__law_twins.nd rfl (by first | exact Or.inl rfl | exact Or.inr rfl)) (dgs_nil)))) (fun _ _ _ _ _ _ => dts_one (dt_not (dt_val (de_cal cr htb hmg takes0N (Room.mono hr (by omega)) (by rfl) (da_cons (dv 2) (da_cons (dv 3) (da_nil))))))) (fun _ _ _ _ _ _ => de_int)) (de_lst (da_nil)) (nomark _)))))) (dss_nil))
    (dss_one (ds_ret (de_cmp (op_eqD (Room.units hr)) od_eq (dv 0) (dv 1) (nomark _)))))) (fun ds hl _ => mkF_eq ds hl), fun ds d => mkF_len ds d⟩
/-! ### _law_figures -/
def s__law_figures : Stmt := PySem.Challenge.pw_fewfigures_k08_figures_told_by_numbers.main.body.getD 36 (.Pass ⟨0, 0, 0, 0⟩)
theorem sc__law_figures : FnScope ["base", "number", "found"] ["base", "number"] (defScope s__law_figures) := ⟨rfl, rfl, rfl, by decide +kernel, rfl, by decide +kernel, by decide +kernel⟩
noncomputable def b__law_figures : MS := sq (sAsg (mLst (aNil)) (gN 2))
  (sq (sWhl (tst (bin gGt (var 1) (cst (.int 0)))) (sq (sDrop (mApp 2 (bin (gI fMod) (var 1) (var 0))))
  (sAsg (bin (gI fDiv) (var 1) (var 0)) (gN 1))))
  (sRet (var 2)))
noncomputable def f__law_figures : FD := mkF 2 3 b__law_figures
theorem c__law_figures {P : Program} {w : World} {K : PySem.W.Frag} {mg : Str → Option Value} {base : Heap} {tb : List (Addr × Str)} {a : Addr} {fd : FuncData} (B : Bl mg) (Fn : Fun K "_law_figures" "_law_figures" s__law_figures a fd) (hm : mg "_law_figures" = some (.ref a)) : Cal P w K mg base tb "_law_figures" 2 1 f__law_figures :=
  ⟨a, fd, ["base", "number"], hm, Fn.kp, Fn.binds (ps := ["base", "number"]) fun _ _ _ _ _ _ us hl => match us, hl with | [_, _], _ => rfl, okF (k := 0) (body := b__law_figures) Fn sc__law_figures (fun cdv A outer s H E G hr hmg htb tk hp =>
    dss_cons (ds_set (i := 2) sc__law_figures.nd rfl (by first | exact Or.inl rfl | exact Or.inr rfl) (de_lst (da_nil)))
    (dss_cons (ds_while hp (dt_cmp op_gt od_cmp (dv 1) (de_int) (nomark _)) (dss_cons (ds_expr (de_append (pv 2) (de_bin op_mod od_mod (dv 1) (dv 0)) (pe_bm PySem.F.plainAttrs_list PySem.F.slot_list_append PySem.F.type_list_append mt_append (pv 2) (pa_cons (de_bin op_mod od_mod (dv 1) (dv 0)) pa_nil))))
    (dss_one (ds_set (i := 1) sc__law_figures.nd rfl (by first | exact Or.inl rfl | exact Or.inr rfl) (de_bin op_fdivW od_div (dv 1) (dv 0))))))
    (dss_one (ds_ret (dv 2))))) (fun ds hl _ => mkF_eq ds hl), fun ds d => mkF_len ds d⟩
/-! ### _law_error_of -/
def s__law_error_of : Stmt := PySem.Challenge.pw_fewfigures_k08_figures_told_by_numbers.main.body.getD 39 (.Pass ⟨0, 0, 0, 0⟩)
theorem sc__law_error_of : FnScope ["e", "some", "word", "good"] ["e"] (defScope s__law_error_of) := ⟨rfl, rfl, rfl, by decide +kernel, rfl, by decide +kernel, by decide +kernel⟩
noncomputable def b__law_error_of (a : Addr) (tbl : Addr → Option Bool) (k_InvalidLot k_InvalidNumber k_InvalidFigures k_InvalidSeen k_InvalidText k_Unlike k_NoMember k_NothingLeft : Addr) : MS := sq (sAsg (mLst (aCons (mTup (aCons (cst (.str "lot")) (aCons (cb (gIsE a tbl) (aCons (var 0) (aCons (cst (.ref k_InvalidLot)) (aNil)))) (aNil)))) (aNil))) (gN 1))
  (sq (sDrop (mApp 1 (mTup (aCons (cst (.str "number")) (aCons (cb (gIsE a tbl) (aCons (var 0) (aCons (cst (.ref k_InvalidNumber)) (aNil)))) (aNil))))))
  (sq (sDrop (mApp 1 (mTup (aCons (cst (.str "figures")) (aCons (cb (gIsE a tbl) (aCons (var 0) (aCons (cst (.ref k_InvalidFigures)) (aNil)))) (aNil))))))
  (sq (sDrop (mApp 1 (mTup (aCons (cst (.str "seen")) (aCons (cb (gIsE a tbl) (aCons (var 0) (aCons (cst (.ref k_InvalidSeen)) (aNil)))) (aNil))))))
  (sq (sDrop (mApp 1 (mTup (aCons (cst (.str "text")) (aCons (cb (gIsE a tbl) (aCons (var 0) (aCons (cst (.ref k_InvalidText)) (aNil)))) (aNil))))))
  (sq (sDrop (mApp 1 (mTup (aCons (cst (.str "unlike")) (aCons (cb (gIsE a tbl) (aCons (var 0) (aCons (cst (.ref k_Unlike)) (aNil)))) (aNil))))))
  (sq (sDrop (mApp 1 (mTup (aCons (cst (.str "none")) (aCons (cb (gIsE a tbl) (aCons (var 0) (aCons (cst (.ref k_NoMember)) (aNil)))) (aNil))))))
  (sq (sDrop (mApp 1 (mTup (aCons (cst (.str "left")) (aCons (cb (gIsE a tbl) (aCons (var 0) (aCons (cst (.ref k_NothingLeft)) (aNil)))) (aNil))))))
  (sRet (mBM "str" gJoin (cst (.str "+")) (aCons (mComp (iLst (var 1)) (gTup' 2 (gMore (gN 2) (gMore (gN 3) (gNone)))) (tst (var 3)) (var 2) [2, 3]) (aNil)))))))))))
theorem t__law_error_of {P : Program} {w : World} {K : PySem.W.Frag} {mg : Str → Option Value} {base : Heap} (B : Bl mg) {k_InvalidLot k_InvalidNumber k_InvalidFigures k_InvalidSeen k_InvalidText k_Unlike k_NoMember k_NothingLeft : Addr} (m_InvalidLot : mg "InvalidLot" = some (.ref k_InvalidLot)) (m_InvalidNumber : mg "InvalidNumber" = some (.ref k_InvalidNumber)) (m_InvalidFigures : mg "InvalidFigures" = some (.ref k_InvalidFigures)) (m_InvalidSeen : mg "InvalidSeen" = some (.ref k_InvalidSeen)) (m_InvalidText : mg "InvalidText" = some (.ref k_InvalidText)) (m_Unlike : mg "Unlike" = some (.ref k_Unlike)) (m_NoMember : mg "NoMember" = some (.ref k_NoMember)) (m_NothingLeft : mg "NothingLeft" = some (.ref k_NothingLeft)) {a C fE : Addr} {tbl : Addr → Option Bool} (ec : ExcC K C) (htbl : ∀ c b, tbl c = some b → PySem.W.kitOne K (.ref C) (.ref c) = some b) {oe : Obj} (cdv : Value) (A : Around) (outer : List Env) (s : Shared) (H : Hp) (G : Gh)
    (hk : HotE (L2H.cxH C8.CX0 P w K mg base ["e", "some", "word", "good"] "_law_error_of" (defScope s__law_error_of) fE cdv A outer s H C8.E0 (a, oe)) a C) : DSs (L2H.cxH C8.CX0 P w K mg base ["e", "some", "word", "good"] "_law_error_of" (defScope s__law_error_of) fE cdv A outer s H C8.E0 (a, oe)) G (defBody s__law_error_of) (b__law_error_of a tbl k_InvalidLot k_InvalidNumber k_InvalidFigures k_InvalidSeen k_InvalidText k_Unlike k_NoMember k_NothingLeft) :=
    dss_cons (ds_set (i := 1) sc__law_error_of.nd rfl (by first | exact Or.inl rfl | exact Or.inr rfl) (de_lst (da_cons (de_tup (da_cons (de_str) (da_cons (de_cb (call_isE2 hk.knows ec) (cd_isE htbl) (by rfl) B.b_isinstance boot_isinstance (da_cons (dv 0) (da_cons (de_glob (v := .ref k_InvalidLot) (u := .ref k_InvalidLot) (by rfl) m_InvalidLot rfl rfl) (da_nil)))) (da_nil)))) (da_nil))))
    (dss_cons (ds_expr (de_append (pv 1) (de_tup (da_cons (de_str) (da_cons (de_cb (call_isE2 hk.knows ec) (cd_isE htbl) (by rfl) B.b_isinstance boot_isinstance (da_cons (dv 0) (da_cons (de_glob (v := .ref k_InvalidNumber) (u := .ref k_InvalidNumber) (by rfl) m_InvalidNumber rfl rfl) (da_nil)))) (da_nil)))) (pe_bm PySem.F.plainAttrs_list PySem.F.slot_list_append PySem.F.type_list_append mt_append (pv 1) (pa_cons (de_tup (da_cons (de_str) (da_cons (de_cb (call_isE2 hk.knows ec) (cd_isE htbl) (by rfl) B.b_isinstance boot_isinstance (da_cons (dv 0) (da_cons (de_glob (v := .ref k_InvalidNumber) (u := .ref k_InvalidNumber) (by rfl) m_InvalidNumber rfl rfl) (da_nil)))) (da_nil)))) pa_nil))))
    (dss_cons (ds_expr (de_append (pv 1) (de_tup (da_cons (de_str) (da_cons (de_cb (call_isE2 hk.knows ec) (cd_isE htbl) (by rfl) B.b_isinstance boot_isinstance (da_cons (dv 0) (da_cons (de_glob (v := .ref k_InvalidFigures) (u := .ref k_InvalidFigures) (by rfl) m_InvalidFigures rfl rfl) (da_nil)))) (da_nil)))) (pe_bm PySem.F.plainAttrs_list PySem.F.slot_list_append PySem.F.type_list_append mt_append (pv 1) (pa_cons (de_tup (da_cons (de_str) (da_cons (de_cb (call_isE2 hk.knows ec) (cd_isE htbl) (by rfl) B.b_isinstance boot_isinstance (da_cons (dv 0) (da_cons (de_glob (v := .ref k_InvalidFigures) (u := .ref k_InvalidFigures) (by rfl) m_InvalidFigures rfl rfl) (da_nil)))) (da_nil)))) pa_nil))))
    (dss_cons (ds_expr (de_append (pv 1) (de_tup (da_cons (de_str) (da_cons (de_cb (call_isE2 hk.knows ec) (cd_isE htbl) (by rfl) B.b_isinstance boot_isinstance (da_cons (dv 0) (da_cons (de_glob (v := .ref k_InvalidSeen) (u := .ref k_InvalidSeen) (by rfl) m_InvalidSeen rfl rfl) (da_nil)))) (da_nil)))) (pe_bm PySem.F.plainAttrs_list PySem.F.slot_list_append PySem.F.type_list_append mt_append (pv 1) (pa_cons (de_tup (da_cons (de_str) (da_cons (de_cb (call_isE2 hk.knows ec) (cd_isE htbl) (by rfl) B.b_isinstance boot_isinstance (da_cons (dv 0) (da_cons (de_glob (v := .ref k_InvalidSeen) (u := .ref k_InvalidSeen) (by rfl) m_InvalidSeen rfl rfl) (da_nil)))) (da_nil)))) pa_nil))))
    (dss_cons (ds_expr (de_append (pv 1) (de_tup (da_cons (de_str) (da_cons (de_cb (call_isE2 hk.knows ec) (cd_isE htbl) (by rfl) B.b_isinstance boot_isinstance (da_cons (dv 0) (da_cons (de_glob (v := .ref k_InvalidText) (u := .ref k_InvalidText) (by rfl) m_InvalidText rfl rfl) (da_nil)))) (da_nil)))) (pe_bm PySem.F.plainAttrs_list PySem.F.slot_list_append PySem.F.type_list_append mt_append (pv 1) (pa_cons (de_tup (da_cons (de_str) (da_cons (de_cb (call_isE2 hk.knows ec) (cd_isE htbl) (by rfl) B.b_isinstance boot_isinstance (da_cons (dv 0) (da_cons (de_glob (v := .ref k_InvalidText) (u := .ref k_InvalidText) (by rfl) m_InvalidText rfl rfl) (da_nil)))) (da_nil)))) pa_nil))))
    (dss_cons (ds_expr (de_append (pv 1) (de_tup (da_cons (de_str) (da_cons (de_cb (call_isE2 hk.knows ec) (cd_isE htbl) (by rfl) B.b_isinstance boot_isinstance (da_cons (dv 0) (da_cons (de_glob (v := .ref k_Unlike) (u := .ref k_Unlike) (by rfl) m_Unlike rfl rfl) (da_nil)))) (da_nil)))) (pe_bm PySem.F.plainAttrs_list PySem.F.slot_list_append PySem.F.type_list_append mt_append (pv 1) (pa_cons (de_tup (da_cons (de_str) (da_cons (de_cb (call_isE2 hk.knows ec) (cd_isE htbl) (by rfl) B.b_isinstance boot_isinstance (da_cons (dv 0) (da_cons (de_glob (v := .ref k_Unlike) (u := .ref k_Unlike) (by rfl) m_Unlike rfl rfl) (da_nil)))) (da_nil)))) pa_nil))))
    (dss_cons (ds_expr (de_append (pv 1) (de_tup (da_cons (de_str) (da_cons (de_cb (call_isE2 hk.knows ec) (cd_isE htbl) (by rfl) B.b_isinstance boot_isinstance (da_cons (dv 0) (da_cons (de_glob (v := .ref k_NoMember) (u := .ref k_NoMember) (by rfl) m_NoMember rfl rfl) (da_nil)))) (da_nil)))) (pe_bm PySem.F.plainAttrs_list PySem.F.slot_list_append PySem.F.type_list_append mt_append (pv 1) (pa_cons (de_tup (da_cons (de_str) (da_cons (de_cb (call_isE2 hk.knows ec) (cd_isE htbl) (by rfl) B.b_isinstance boot_isinstance (da_cons (dv 0) (da_cons (de_glob (v := .ref k_NoMember) (u := .ref k_NoMember) (by rfl) m_NoMember rfl rfl) (da_nil)))) (da_nil)))) pa_nil))))
    (dss_cons (ds_expr (de_append (pv 1) (de_tup (da_cons (de_str) (da_cons (de_cb (call_isE2 hk.knows ec) (cd_isE htbl) (by rfl) B.b_isinstance boot_isinstance (da_cons (dv 0) (da_cons (de_glob (v := .ref k_NothingLeft) (u := .ref k_NothingLeft) (by rfl) m_NothingLeft rfl rfl) (da_nil)))) (da_nil)))) (pe_bm PySem.F.plainAttrs_list PySem.F.slot_list_append PySem.F.type_list_append mt_append (pv 1) (pa_cons (de_tup (da_cons (de_str) (da_cons (de_cb (call_isE2 hk.knows ec) (cd_isE htbl) (by rfl) B.b_isinstance boot_isinstance (da_cons (dv 0) (da_cons (de_glob (v := .ref k_NothingLeft) (u := .ref k_NothingLeft) (by rfl) m_NothingLeft rfl rfl) (da_nil)))) (da_nil)))) pa_nil))))
    (dss_one (ds_ret (de_join (x := .Constant .none 0 ⟨0,0,0,0⟩) (de_str) (da_cons (de_lcH (own := [("word", 2), ("good", 3)]) (ks := [2, 3]) hk sc__law_error_of.nd (dv 1) (blkOk_by (by rfl)) (by decide) (fun _ _ _ _ _ _ hk2 => dg_tupH hk2 (dgs_cons (dg_name sc__law_error_of.nd rfl (by first | exact Or.inl rfl | exact Or.inr rfl)) (dgs_cons (dg_name sc__law_error_of.nd rfl (by first | exact Or.inl rfl | exact Or.inr rfl)) (dgs_nil)))) (fun _ _ _ _ _ _ hk2 => dts_one (dt_val (dv 3))) (fun _ _ _ _ _ _ hk2 => dv 2)) (da_nil))))))))))))
/-! ### _law_came -/
def s__law_came : Stmt := PySem.Challenge.pw_fewfigures_k08_figures_told_by_numbers.main.body.getD 40 (.Pass ⟨0, 0, 0, 0⟩)
theorem sc__law_came : FnScope ["call_so", "e"] ["call_so"] (defScope s__law_came) := ⟨rfl, rfl, rfl, by decide +kernel, rfl, by decide +kernel, by decide +kernel⟩
/-! ### _law_rows -/
def s__law_rows : Stmt := PySem.Challenge.pw_fewfigures_k08_figures_told_by_numbers.main.body.getD 41 (.Pass ⟨0, 0, 0, 0⟩)
theorem sc__law_rows : FnScope ["base", "found", "figure", "row"] ["base"] (defScope s__law_rows) := ⟨rfl, rfl, rfl, by decide +kernel, rfl, by decide +kernel, by decide +kernel⟩
noncomputable def b__law_rows : MS := sq (sAsg (mLst (aCons (mTup (aCons (cst (.int 0)) (aNil))) (aNil))) (gN 1))
  (sq (sFor (iRange (aCons (cst (.int 1)) (aCons (var 0) (aNil)))) (gN 2) (sAsg (bin gAdd (var 1) (mComp (iSeq (var 1)) (gN 3) (tAlways) (bin gAdd (var 3) (mTup (aCons (var 2) (aNil)))) [3])) (gN 1)))
  (sRet (cb gSort (aCons (var 1) (aNil)))))
noncomputable def f__law_rows : FD := mkF 1 4 b__law_rows
theorem c__law_rows {P : Program} {w : World} {K : PySem.W.Frag} {mg : Str → Option Value} {base : Heap} {tb : List (Addr × Str)} {a : Addr} {fd : FuncData} (B : Bl mg) (Fn : Fun K "_law_rows" "_law_rows" s__law_rows a fd) (hm : mg "_law_rows" = some (.ref a)) : Cal P w K mg base tb "_law_rows" 1 1 f__law_rows :=
  ⟨a, fd, ["base"], hm, Fn.kp, Fn.binds (ps := ["base"]) fun _ _ _ _ _ _ us hl => match us, hl with | [_], _ => rfl, okF (k := 0) (body := b__law_rows) Fn sc__law_rows (fun cdv A outer s H E G hr hmg htb tk hp =>
    dss_cons (ds_set (i := 1) sc__law_rows.nd rfl (by first | exact Or.inl rfl | exact Or.inr rfl) (de_lst (da_cons (de_tup (da_cons (de_int) (da_nil))) (da_nil))))
    (dss_cons (ds_for hp rfl (di_range2 (by rfl) B.b_range (da_cons (de_int) (da_cons (dv 0) (da_nil))) (fun ls ds ls' q => aCons_len (aCons_len aNil_len) ls ds ls' q)) (dg_name sc__law_rows.nd rfl (by first | exact Or.inl rfl | exact Or.inr rfl)) (dss_one (ds_set (i := 1) sc__law_rows.nd rfl (by first | exact Or.inl rfl | exact Or.inr rfl) (de_bin or_adds od_add (dv 1) (de_lc (own := [("row", 3)]) (ks := [3]) rfl sc__law_rows.nd (di_seq (dv 1)) (blkOk_by (by rfl)) (by decide) (fun _ _ _ _ _ _ => dg_name sc__law_rows.nd rfl (by first | exact Or.inl rfl | exact Or.inr rfl)) (fun _ _ _ _ _ _ => dts_nil) (fun _ _ _ _ _ _ => de_bin or_adds od_add (dv 3) (de_tup (da_cons (dv 2) (da_nil)))))))))
    (dss_one (ds_ret (de_cb (cr_sortD (Room.units hr)) cd_sort (by rfl) B.b_sorted boot_sorted (da_cons (dv 1) (da_nil))))))) (fun ds hl _ => mkF_eq ds hl), fun ds d => mkF_len ds d⟩
end DLaw

end W08
section M2
set_option Elab.async false
set_option linter.all false
set_option autoImplicit false
set_option maxRecDepth 100000
namespace DLaw
open PySem PySem.Spec PyProof.Rows L2 LamX RZ DL
def rowD (r : List Int) : D := .tup (r.map .int)
theorem mt {α : Type} {s : α → α → Bool} {a b : α} {l r : List α} (h : s a b = true) : (a :: l).merge (b :: r) s = a :: l.merge (b :: r) s := by rw [List.cons_merge_cons, if_pos h]
theorem mf {α : Type} {s : α → α → Bool} {a b : α} {l r : List α} (h : s a b = false) : (a :: l).merge (b :: r) s = b :: (a :: l).merge r s := by rw [List.cons_merge_cons, if_neg (by rw [h]; exact Bool.false_ne_true)]
def U2 : List (List Int) := [[0], [0,1]]
def R2 : List (List Int) := [[0], [0,1]]
theorem ms2 : (U2.map rowD).mergeSort (PySem.W.dataLe false encD) = R2.map rowD := by
  simp only [U2, R2, List.map_cons, List.map_nil, List.mergeSort, List.MergeSort.Internal.splitInTwo, List.length_cons, List.length_nil, List.splitAt, List.splitAt.go, List.reverse, List.reverseAux]
  try rw [mt (s := PySem.W.dataLe false encD) (a := rowD [0]) (b := rowD [0,1]) (by kernel_rfl)]
  try simp only [List.merge_right, List.nil_merge]
def U3 : List (List Int) := [[0], [0,1], [0,2], [0,1,2]]
def R3 : List (List Int) := [[0], [0,1], [0,1,2], [0,2]]
theorem ms3 : (U3.map rowD).mergeSort (PySem.W.dataLe false encD) = R3.map rowD := by
  simp only [U3, R3, List.map_cons, List.map_nil, List.mergeSort, List.MergeSort.Internal.splitInTwo, List.length_cons, List.length_nil, List.splitAt, List.splitAt.go, List.reverse, List.reverseAux]
  try rw [mt (s := PySem.W.dataLe false encD) (a := rowD [0]) (b := rowD [0,1]) (by kernel_rfl)]
  try simp only [List.merge_right, List.nil_merge]
  try rw [mf (s := PySem.W.dataLe false encD) (a := rowD [0,2]) (b := rowD [0,1,2]) (by kernel_rfl)]
  try simp only [List.merge_right, List.nil_merge]
  try rw [mt (s := PySem.W.dataLe false encD) (a := rowD [0]) (b := rowD [0,1,2]) (by kernel_rfl)]
  try simp only [List.merge_right, List.nil_merge]
  try rw [mt (s := PySem.W.dataLe false encD) (a := rowD [0,1]) (b := rowD [0,1,2]) (by kernel_rfl)]
  try simp only [List.merge_right, List.nil_merge]
def U4 : List (List Int) := [[0], [0,1], [0,2], [0,1,2], [0,3], [0,1,3], [0,2,3], [0,1,2,3]]
def R4 : List (List Int) := [[0], [0,1], [0,1,2], [0,1,2,3], [0,1,3], [0,2], [0,2,3], [0,3]]
theorem ms4 : (U4.map rowD).mergeSort (PySem.W.dataLe false encD) = R4.map rowD := by
  simp only [U4, R4, List.map_cons, List.map_nil, List.mergeSort, List.MergeSort.Internal.splitInTwo, List.length_cons, List.length_nil, List.splitAt, List.splitAt.go, List.reverse, List.reverseAux]
  try rw [mt (s := PySem.W.dataLe false encD) (a := rowD [0]) (b := rowD [0,1]) (by kernel_rfl)]
  try simp only [List.merge_right, List.nil_merge]
  try rw [mf (s := PySem.W.dataLe false encD) (a := rowD [0,2]) (b := rowD [0,1,2]) (by kernel_rfl)]
  try simp only [List.merge_right, List.nil_merge]
  try rw [mt (s := PySem.W.dataLe false encD) (a := rowD [0]) (b := rowD [0,1,2]) (by kernel_rfl)]
  try simp only [List.merge_right, List.nil_merge]
  try rw [mt (s := PySem.W.dataLe false encD) (a := rowD [0,1]) (b := rowD [0,1,2]) (by kernel_rfl)]
  try simp only [List.merge_right, List.nil_merge]
  try rw [mf (s := PySem.W.dataLe false encD) (a := rowD [0,3]) (b := rowD [0,1,3]) (by kernel_rfl)]
  try simp only [List.merge_right, List.nil_merge]
  try rw [mf (s := PySem.W.dataLe false encD) (a := rowD [0,2,3]) (b := rowD [0,1,2,3]) (by kernel_rfl)]
  try simp only [List.merge_right, List.nil_merge]
  try rw [mf (s := PySem.W.dataLe false encD) (a := rowD [0,1,3]) (b := rowD [0,1,2,3]) (by kernel_rfl)]
  try simp only [List.merge_right, List.nil_merge]
  try rw [mt (s := PySem.W.dataLe false encD) (a := rowD [0,1,3]) (b := rowD [0,2,3]) (by kernel_rfl)]
  try simp only [List.merge_right, List.nil_merge]
  try rw [mf (s := PySem.W.dataLe false encD) (a := rowD [0,3]) (b := rowD [0,2,3]) (by kernel_rfl)]
  try simp only [List.merge_right, List.nil_merge]
  try rw [mt (s := PySem.W.dataLe false encD) (a := rowD [0]) (b := rowD [0,1,2,3]) (by kernel_rfl)]
  try simp only [List.merge_right, List.nil_merge]
  try rw [mt (s := PySem.W.dataLe false encD) (a := rowD [0,1]) (b := rowD [0,1,2,3]) (by kernel_rfl)]
  try simp only [List.merge_right, List.nil_merge]
  try rw [mt (s := PySem.W.dataLe false encD) (a := rowD [0,1,2]) (b := rowD [0,1,2,3]) (by kernel_rfl)]
  try simp only [List.merge_right, List.nil_merge]
  try rw [mf (s := PySem.W.dataLe false encD) (a := rowD [0,2]) (b := rowD [0,1,2,3]) (by kernel_rfl)]
  try simp only [List.merge_right, List.nil_merge]
  try rw [mf (s := PySem.W.dataLe false encD) (a := rowD [0,2]) (b := rowD [0,1,3]) (by kernel_rfl)]
  try simp only [List.merge_right, List.nil_merge]
  try rw [mt (s := PySem.W.dataLe false encD) (a := rowD [0,2]) (b := rowD [0,2,3]) (by kernel_rfl)]
  try simp only [List.merge_right, List.nil_merge]
end DLaw

end M2
section M3
set_option Elab.async false
set_option linter.all false
set_option autoImplicit false
set_option maxRecDepth 100000
namespace DLaw
open PySem PySem.Spec DL
theorem line1 : 1 ≤ sizeLine := by rw [sizeLine_eq]; omega
theorem line0 : 0 ≤ sizeLine := Nat.zero_le _
/-- the figures of n, ones first -/
def digs (b : Int) : Nat → Int → List Int
  | 0, _ => []
  | t + 1, n => if 0 < n then n % b :: digs b t (n / b) else []
theorem digs_len (b : Int) : ∀ (t : Nat) (n : Int), (digs b t n).length ≤ t
  | 0, _ => Nat.le_refl _
  | t + 1, n => by
    unfold digs
    split
    · rw [List.length_cons]; exact Nat.succ_le_succ (digs_len b t _)
    · exact Nat.zero_le _
theorem digs_mem {b : Int} (hb : 0 < b) : ∀ (t : Nat) (n : Int), ∀ x ∈ digs b t n, 0 ≤ x ∧ x < b
  | 0, _, x, h => by cases h
  | t + 1, n, x, h => by
    unfold digs at h
    split at h
    · rcases List.mem_cons.mp h with e | h
      · subst e; exact ⟨Int.emod_nonneg _ (by omega), Int.emod_lt_of_pos _ hb⟩
      · exact digs_mem hb t _ x h
    · cases h
theorem fdiv_ok {b : Int} (h : 2 ≤ b) (h4 : b ≤ 4) (n : Int) : fDiv n b = some (n / b) := by
  unfold fDiv
  rw [if_pos]
  refine ⟨by omega, ?_⟩
  have : b = 2 ∨ b = 3 ∨ b = 4 := by omega
  rcases this with rfl | rfl | rfl <;> decide
theorem fmod_ok {b : Int} (h : 0 < b) (n : Int) : fMod n b = some (n % b) := by
  unfold fMod
  rw [if_pos h]
theorem half {b n : Int} {t : Nat} (h : 2 ≤ b) (h0 : 0 < n) (hn : n < 2 ^ (t + 1)) : 0 ≤ n / b ∧ n / b < 2 ^ t := by
  refine ⟨Int.ediv_nonneg (by omega) (by omega), Int.ediv_lt_of_lt_mul (by omega) ?_⟩
  have : (2 : Int) ^ t * 2 ≤ 2 ^ t * b := Int.mul_le_mul_of_nonneg_left h (Int.le_of_lt (Int.pow_pos (by decide)))
  rw [Int.pow_succ] at hn
  exact Int.lt_of_lt_of_le hn this
theorem loop_fig {b : Int} (h : 2 ≤ b) (h4 : b ≤ 4) : ∀ (t : Nat) (n : Int) (acc : List Int), 0 ≤ n → n < 2 ^ t → acc.length + t ≤ 1000 →
    sWhl (tst (DL.bin gGt (var 1) (cst (.int 0)))) (sq (sAsg (DL.bin gAdd (var 2) (mLst (aCons (DL.bin (gI fMod) (var 1) (var 0)) (aNil)))) (gN 2)) (sAsg (DL.bin (gI fDiv) (var 1) (var 0)) (gN 1))) [some (.int b), some (.int n), some (.own (.lst (acc.map .int)))] =
      .nx [some (.int b), some (.int 0), some (.own (.lst ((acc ++ digs b t n).map .int)))]
  | 0, n, acc, h0, hn, _ => by
    have e : n = 0 := by simp at hn; omega
    subst e
    rw [sWhl_eq]
    simp [mkF, DL.bin, DL.ite, L2.atI, mkIO, startD, sq, sAsg, sRet, sDrop, sIf, nop, Res.fl, Fl.seq, Res.bind, opt, shr, frz, gN, var, cst, val, stl, un, see, cont, fin, retD, retC, finIO, ioC, vAnd, vOr, vNot, tst, chain, mAnd, mOr, mNot, mCall, fz, frzs, aNil, aCons, mTup, mLst, cb, sees, sSet, frzv, slotL, putL, mApp, gI, gCmp, gAdd, fSub, gInt, gIx, gLen, gIsi, tyName, isTy, List.map_cons, List.map_nil, List.length_cons, List.length_nil, List.replicate_succ, List.replicate_zero, List.cons_append, List.nil_append, List.getElem?_cons_zero, List.getElem?_cons_succ, List.getElem?_nil, List.set_cons_zero, List.set_cons_succ, Option.bind_some, Option.bind_none, Option.map_some, Option.map_none, if_true, if_false, Nat.reduceAdd, Nat.reduceSub, Nat.reduceLeDiff, Bool.not_true, Bool.not_false, reduceIte, Bool.false_eq_true, ne_eq, not_true_eq_false, not_false_eq_true, digs]
  | t + 1, n, acc, h0, hn, hl => by
    rw [sWhl_eq]
    by_cases hp : 0 < n
    · have hh := half h hp hn
      have ih := loop_fig h h4 t (n / b) (acc ++ [n % b]) hh.1 hh.2 (by rw [List.length_append, List.length_singleton]; omega)
      have hs : acc.length + 1 ≤ sizeLine := by rw [sizeLine_eq]; omega
      simp only [mkF, DL.bin, DL.ite, L2.atI, mkIO, startD, sq, sAsg, sRet, sDrop, sIf, nop, Res.fl, Fl.seq, Res.bind, opt, shr, frz, gN, var, cst, val, stl, un, see, cont, fin, retD, retC, finIO, ioC, vAnd, vOr, vNot, tst, chain, mAnd, mOr, mNot, mCall, fz, frzs, aNil, aCons, mTup, mLst, cb, sees, sSet, frzv, slotL, putL, mApp, gI, gCmp, gAdd, fSub, gInt, gIx, gLen, gIsi, tyName, isTy, List.map_cons, List.map_nil, List.length_cons, List.length_nil, List.replicate_succ, List.replicate_zero, List.cons_append, List.nil_append, List.getElem?_cons_zero, List.getElem?_cons_succ, List.getElem?_nil, List.set_cons_zero, List.set_cons_succ, Option.bind_some, Option.bind_none, Option.map_some, Option.map_none, if_true, if_false, Nat.reduceAdd, Nat.reduceSub, Nat.reduceLeDiff, Bool.not_true, Bool.not_false, reduceIte, Bool.false_eq_true, ne_eq, not_true_eq_false, not_false_eq_true, decide_eq_true hp, fmod_ok (show 0 < b by omega), fdiv_ok h h4, List.length_map, line1, hs]
      rw [List.map_append, List.map_cons, List.map_nil] at ih
      rw [ih]
      rw [show digs b (t + 1) n = n % b :: digs b t (n / b) from by rw [digs, if_pos hp], List.append_assoc]; rfl
    · have e : n = 0 := by omega
      subst e
      simp [mkF, DL.bin, DL.ite, L2.atI, mkIO, startD, sq, sAsg, sRet, sDrop, sIf, nop, Res.fl, Fl.seq, Res.bind, opt, shr, frz, gN, var, cst, val, stl, un, see, cont, fin, retD, retC, finIO, ioC, vAnd, vOr, vNot, tst, chain, mAnd, mOr, mNot, mCall, fz, frzs, aNil, aCons, mTup, mLst, cb, sees, sSet, frzv, slotL, putL, mApp, gI, gCmp, gAdd, fSub, gInt, gIx, gLen, gIsi, tyName, isTy, List.map_cons, List.map_nil, List.length_cons, List.length_nil, List.replicate_succ, List.replicate_zero, List.cons_append, List.nil_append, List.getElem?_cons_zero, List.getElem?_cons_succ, List.getElem?_nil, List.set_cons_zero, List.set_cons_succ, Option.bind_some, Option.bind_none, Option.map_some, Option.map_none, if_true, if_false, Nat.reduceAdd, Nat.reduceSub, Nat.reduceLeDiff, Bool.not_true, Bool.not_false, reduceIte, Bool.false_eq_true, ne_eq, not_true_eq_false, not_false_eq_true, digs]
theorem figs {b n : Int} (h : 2 ≤ b) (h4 : b ≤ 4) (h0 : 0 ≤ n) (hn : n < 2 ^ 100) : f_figures_of [.int b, .int n] = .ok (.own (.lst ((digs b 100 n).map .int))) := by
  have q := loop_fig h h4 100 n [] h0 hn (by decide)
  rw [List.map_nil, List.nil_append] at q
  unfold f_figures_of b_figures_of
  simp only [mkF, DL.bin, DL.ite, L2.atI, mkIO, startD, sq, sAsg, sRet, sDrop, sIf, nop, Res.fl, Fl.seq, Res.bind, opt, shr, frz, gN, var, cst, val, stl, un, see, cont, fin, retD, retC, finIO, ioC, vAnd, vOr, vNot, tst, chain, mAnd, mOr, mNot, mCall, fz, frzs, aNil, aCons, mTup, mLst, cb, sees, sSet, frzv, slotL, putL, mApp, gI, gCmp, gAdd, fSub, gInt, gIx, gLen, gIsi, tyName, isTy, List.map_cons, List.map_nil, List.length_cons, List.length_nil, List.replicate_succ, List.replicate_zero, List.cons_append, List.nil_append, List.getElem?_cons_zero, List.getElem?_cons_succ, List.getElem?_nil, List.set_cons_zero, List.set_cons_succ, Option.bind_some, Option.bind_none, Option.map_some, Option.map_none, if_true, if_false, Nat.reduceAdd, Nat.reduceSub, Nat.reduceLeDiff, Bool.not_true, Bool.not_false, reduceIte, Bool.false_eq_true, ne_eq, not_true_eq_false, not_false_eq_true, line0]
  rw [q]
  simp only [mkF, DL.bin, DL.ite, L2.atI, mkIO, startD, sq, sAsg, sRet, sDrop, sIf, nop, Res.fl, Fl.seq, Res.bind, opt, shr, frz, gN, var, cst, val, stl, un, see, cont, fin, retD, retC, finIO, ioC, vAnd, vOr, vNot, tst, chain, mAnd, mOr, mNot, mCall, fz, frzs, aNil, aCons, mTup, mLst, cb, sees, sSet, frzv, slotL, putL, mApp, gI, gCmp, gAdd, fSub, gInt, gIx, gLen, gIsi, tyName, isTy, List.map_cons, List.map_nil, List.length_cons, List.length_nil, List.replicate_succ, List.replicate_zero, List.cons_append, List.nil_append, List.getElem?_cons_zero, List.getElem?_cons_succ, List.getElem?_nil, List.set_cons_zero, List.set_cons_succ, Option.bind_some, Option.bind_none, Option.map_some, Option.map_none, if_true, if_false, Nat.reduceAdd, Nat.reduceSub, Nat.reduceLeDiff, Bool.not_true, Bool.not_false, reduceIte, Bool.false_eq_true, ne_eq, not_true_eq_false, not_false_eq_true]
theorem loop_fig2 {b : Int} (h : 2 ≤ b) (h4 : b ≤ 4) : ∀ (t : Nat) (n : Int) (acc : List Int), 0 ≤ n → n < 2 ^ t → acc.length + t ≤ 1000 →
    sWhl (tst (DL.bin gGt (var 1) (cst (.int 0)))) (sq (sDrop (mApp 2 (DL.bin (gI fMod) (var 1) (var 0)))) (sAsg (DL.bin (gI fDiv) (var 1) (var 0)) (gN 1))) [some (.int b), some (.int n), some (.own (.lst (acc.map .int)))] =
      .nx [some (.int b), some (.int 0), some (.own (.lst ((acc ++ digs b t n).map .int)))]
  | 0, n, acc, h0, hn, _ => by
    have e : n = 0 := by simp at hn; omega
    subst e
    rw [sWhl_eq]
    simp [mkF, DL.bin, DL.ite, L2.atI, mkIO, startD, sq, sAsg, sRet, sDrop, sIf, nop, Res.fl, Fl.seq, Res.bind, opt, shr, frz, gN, var, cst, val, stl, un, see, cont, fin, retD, retC, finIO, ioC, vAnd, vOr, vNot, tst, chain, mAnd, mOr, mNot, mCall, fz, frzs, aNil, aCons, mTup, mLst, cb, sees, sSet, frzv, slotL, putL, mApp, gI, gCmp, gAdd, fSub, gInt, gIx, gLen, gIsi, tyName, isTy, List.map_cons, List.map_nil, List.length_cons, List.length_nil, List.replicate_succ, List.replicate_zero, List.cons_append, List.nil_append, List.getElem?_cons_zero, List.getElem?_cons_succ, List.getElem?_nil, List.set_cons_zero, List.set_cons_succ, Option.bind_some, Option.bind_none, Option.map_some, Option.map_none, if_true, if_false, Nat.reduceAdd, Nat.reduceSub, Nat.reduceLeDiff, Bool.not_true, Bool.not_false, reduceIte, Bool.false_eq_true, ne_eq, not_true_eq_false, not_false_eq_true, digs]
  | t + 1, n, acc, h0, hn, hl => by
    rw [sWhl_eq]
    by_cases hp : 0 < n
    · have hh := half h hp hn
      have ih := loop_fig2 h h4 t (n / b) (acc ++ [n % b]) hh.1 hh.2 (by rw [List.length_append, List.length_singleton]; omega)
      have hs : acc.length < sizeLine := by rw [sizeLine_eq]; omega
      simp only [mkF, DL.bin, DL.ite, L2.atI, mkIO, startD, sq, sAsg, sRet, sDrop, sIf, nop, Res.fl, Fl.seq, Res.bind, opt, shr, frz, gN, var, cst, val, stl, un, see, cont, fin, retD, retC, finIO, ioC, vAnd, vOr, vNot, tst, chain, mAnd, mOr, mNot, mCall, fz, frzs, aNil, aCons, mTup, mLst, cb, sees, sSet, frzv, slotL, putL, mApp, gI, gCmp, gAdd, fSub, gInt, gIx, gLen, gIsi, tyName, isTy, List.map_cons, List.map_nil, List.length_cons, List.length_nil, List.replicate_succ, List.replicate_zero, List.cons_append, List.nil_append, List.getElem?_cons_zero, List.getElem?_cons_succ, List.getElem?_nil, List.set_cons_zero, List.set_cons_succ, Option.bind_some, Option.bind_none, Option.map_some, Option.map_none, if_true, if_false, Nat.reduceAdd, Nat.reduceSub, Nat.reduceLeDiff, Bool.not_true, Bool.not_false, reduceIte, Bool.false_eq_true, ne_eq, not_true_eq_false, not_false_eq_true, decide_eq_true hp, fmod_ok (show 0 < b by omega), fdiv_ok h h4, List.length_map, hs]
      rw [List.map_append, List.map_cons, List.map_nil] at ih
      rw [ih]
      rw [show digs b (t + 1) n = n % b :: digs b t (n / b) from by rw [digs, if_pos hp], List.append_assoc]; rfl
    · have e : n = 0 := by omega
      subst e
      simp [mkF, DL.bin, DL.ite, L2.atI, mkIO, startD, sq, sAsg, sRet, sDrop, sIf, nop, Res.fl, Fl.seq, Res.bind, opt, shr, frz, gN, var, cst, val, stl, un, see, cont, fin, retD, retC, finIO, ioC, vAnd, vOr, vNot, tst, chain, mAnd, mOr, mNot, mCall, fz, frzs, aNil, aCons, mTup, mLst, cb, sees, sSet, frzv, slotL, putL, mApp, gI, gCmp, gAdd, fSub, gInt, gIx, gLen, gIsi, tyName, isTy, List.map_cons, List.map_nil, List.length_cons, List.length_nil, List.replicate_succ, List.replicate_zero, List.cons_append, List.nil_append, List.getElem?_cons_zero, List.getElem?_cons_succ, List.getElem?_nil, List.set_cons_zero, List.set_cons_succ, Option.bind_some, Option.bind_none, Option.map_some, Option.map_none, if_true, if_false, Nat.reduceAdd, Nat.reduceSub, Nat.reduceLeDiff, Bool.not_true, Bool.not_false, reduceIte, Bool.false_eq_true, ne_eq, not_true_eq_false, not_false_eq_true, digs]
theorem figs2 {b n : Int} (h : 2 ≤ b) (h4 : b ≤ 4) (h0 : 0 ≤ n) (hn : n < 2 ^ 100) : f__law_figures [.int b, .int n] = .ok (.own (.lst ((digs b 100 n).map .int))) := by
  have q := loop_fig2 h h4 100 n [] h0 hn (by decide)
  rw [List.map_nil, List.nil_append] at q
  unfold f__law_figures b__law_figures
  simp only [mkF, DL.bin, DL.ite, L2.atI, mkIO, startD, sq, sAsg, sRet, sDrop, sIf, nop, Res.fl, Fl.seq, Res.bind, opt, shr, frz, gN, var, cst, val, stl, un, see, cont, fin, retD, retC, finIO, ioC, vAnd, vOr, vNot, tst, chain, mAnd, mOr, mNot, mCall, fz, frzs, aNil, aCons, mTup, mLst, cb, sees, sSet, frzv, slotL, putL, mApp, gI, gCmp, gAdd, fSub, gInt, gIx, gLen, gIsi, tyName, isTy, List.map_cons, List.map_nil, List.length_cons, List.length_nil, List.replicate_succ, List.replicate_zero, List.cons_append, List.nil_append, List.getElem?_cons_zero, List.getElem?_cons_succ, List.getElem?_nil, List.set_cons_zero, List.set_cons_succ, Option.bind_some, Option.bind_none, Option.map_some, Option.map_none, if_true, if_false, Nat.reduceAdd, Nat.reduceSub, Nat.reduceLeDiff, Bool.not_true, Bool.not_false, reduceIte, Bool.false_eq_true, ne_eq, not_true_eq_false, not_false_eq_true, line0]
  rw [q]
  simp only [mkF, DL.bin, DL.ite, L2.atI, mkIO, startD, sq, sAsg, sRet, sDrop, sIf, nop, Res.fl, Fl.seq, Res.bind, opt, shr, frz, gN, var, cst, val, stl, un, see, cont, fin, retD, retC, finIO, ioC, vAnd, vOr, vNot, tst, chain, mAnd, mOr, mNot, mCall, fz, frzs, aNil, aCons, mTup, mLst, cb, sees, sSet, frzv, slotL, putL, mApp, gI, gCmp, gAdd, fSub, gInt, gIx, gLen, gIsi, tyName, isTy, List.map_cons, List.map_nil, List.length_cons, List.length_nil, List.replicate_succ, List.replicate_zero, List.cons_append, List.nil_append, List.getElem?_cons_zero, List.getElem?_cons_succ, List.getElem?_nil, List.set_cons_zero, List.set_cons_succ, Option.bind_some, Option.bind_none, Option.map_some, Option.map_none, if_true, if_false, Nat.reduceAdd, Nat.reduceSub, Nat.reduceLeDiff, Bool.not_true, Bool.not_false, reduceIte, Bool.false_eq_true, ne_eq, not_true_eq_false, not_false_eq_true]
/-! ### comprehensions -/
theorem comp_map {i : Nat} {e : ME} {k : D → D} : ∀ (ds : List D) (ls : LS), (∀ d ∈ ds, frzv e (ls.set i (some d)) = .ok (k d, ls.set i (some d))) → compL (gN i) tAlways e [i] ds (ls.set i none) = some (ds.map k, ls.set i none)
  | [], ls, _ => rfl
  | d :: ds, ls, h => by
    have ih := comp_map ds ls fun x hx => h x (List.mem_cons_of_mem _ hx)
    unfold compL
    simp only [gN, Option.bind_some, tAlways, Res.get?, if_true, List.set_set, h d List.mem_cons_self, wipeL, ih, List.map_cons]
theorem comp_filter {i : Nat} {t : MT} {e : ME} {k : D → D} {p : D → Bool} : ∀ (ds : List D) (ls : LS), (∀ d ∈ ds, t (ls.set i (some d)) = .ok (p d, ls.set i (some d))) → (∀ d ∈ ds, frzv e (ls.set i (some d)) = .ok (k d, ls.set i (some d))) →
    compL (gN i) t e [i] ds (ls.set i none) = some ((ds.filter p).map k, ls.set i none)
  | [], ls, _, _ => rfl
  | d :: ds, ls, ht, h => by
    have ih := comp_filter ds ls (fun x hx => ht x (List.mem_cons_of_mem _ hx)) fun x hx => h x (List.mem_cons_of_mem _ hx)
    unfold compL
    simp only [gN, Option.bind_some, ht d List.mem_cons_self, Res.get?, List.set_set]
    cases hp : p d with
    | true => simp only [if_true, h d List.mem_cons_self, Option.bind_some, wipeL, List.set_set, ih, List.filter_cons, hp, List.map_cons]
    | false => simp only [Bool.false_eq_true, if_false, wipeL, List.set_set, ih, List.filter_cons, hp]
theorem mcomp_map {i : Nat} {mi : MI} {e : ME} {k : D → D} {ds : List D} {ls0 ls : LS} (hi : mi ls0 = .ok (ds, ls)) (h : ∀ d ∈ ds, frzv e (ls.set i (some d)) = .ok (k d, ls.set i (some d))) (hl : ds.length ≤ sizeLine) :
    mComp mi (gN i) tAlways e [i] ls0 = .ok (.own (.lst (ds.map k)), ls.set i (keepD ls[i]?)) := by
  unfold mComp
  rw [hi, Res.bind_ok]
  show (opt (compL (gN i) tAlways e [i] ds (ls.set i none))).bind _ = _
  rw [comp_map ds ls h, opt_some, Res.bind_ok, if_pos (by rw [List.length_map]; exact hl)]
  show _ = _
  simp only [backL, List.set_set]
theorem mcomp_filter {i : Nat} {mi : MI} {t : MT} {e : ME} {k : D → D} {p : D → Bool} {ds : List D} {ls0 ls : LS} (hi : mi ls0 = .ok (ds, ls)) (ht : ∀ d ∈ ds, t (ls.set i (some d)) = .ok (p d, ls.set i (some d))) (h : ∀ d ∈ ds, frzv e (ls.set i (some d)) = .ok (k d, ls.set i (some d))) (hl : ds.length ≤ sizeLine) :
    mComp mi (gN i) t e [i] ls0 = .ok (.own (.lst ((ds.filter p).map k)), ls.set i (keepD ls[i]?)) := by
  unfold mComp
  rw [hi, Res.bind_ok]
  show (opt (compL (gN i) t e [i] ds (ls.set i none))).bind _ = _
  rw [comp_filter ds ls ht h, opt_some, Res.bind_ok, if_pos (by rw [List.length_map]; exact Nat.le_trans (List.length_filter_le _ _) hl)]
  simp only [backL, List.set_set]
end DLaw

end M3
section M4
set_option Elab.async false
set_option linter.all false
set_option autoImplicit false
set_option maxRecDepth 100000
namespace DLaw
open PySem PySem.Spec DL
/-! ### data that are compared -/
theorem toPs_ints : ∀ ns : List Int, toPs (ns.map D.int) = some (ns.map PyData.int)
  | [] => rfl
  | n :: ns => by
    show (toP (.int n)).bind (fun y => (toPs (ns.map D.int)).bind fun ys => some (y :: ys)) = _
    rw [toPs_ints ns]; rfl
theorem can_ints : ∀ ns : List Int, PyData.canLayAll0 (ns.map PyData.int) = true
  | [] => by simp only [List.map_nil, PyData.canLayAll0]
  | n :: ns => by simp only [List.map_cons, PyData.canLayAll0, PyData.canLay0, can_ints ns, Bool.and_self]
theorem dep_ints : ∀ ns : List Int, PyData.depthAll (ns.map PyData.int) = 0
  | [] => by simp only [List.map_nil, PyData.depthAll]
  | n :: ns => by simp only [List.map_cons, PyData.depthAll, PyData.depth, dep_ints ns, Nat.max_self]
theorem shape_ints (ns : List Int) : SeqAt.shaped (.list (ns.map PyData.int)) = true := by
  simp only [SeqAt.shaped, PyData.canLay0, can_ints, PyData.depth, dep_ints]; decide
theorem gEq_ints (ns ms : List Int) : gEq (.lst (ns.map .int)) (.lst (ms.map .int)) = some (.bl (decide (ns = ms))) := by
  have e : ∀ ns ms : List Int, PyData.eqvAll (ns.map PyData.int) (ms.map PyData.int) = decide (ns = ms) := by
    intro ns
    induction ns with
    | nil => intro ms; cases ms <;> simp [PyData.eqvAll]
    | cons n ns ih =>
      intro ms
      cases ms with
      | nil => simp [PyData.eqvAll]
      | cons m ms =>
        simp only [List.map_cons, PyData.eqvAll, PyData.eqv, ih ms, List.cons.injEq]
        by_cases h : n = m <;> simp [h]
  unfold gEq gEqB
  simp only [toP, toPs_ints, Option.map_some, Option.bind_some, shape_ints, Bool.and_self, if_true, PyData.eqv, e]
theorem flats_ints : ∀ ns : List Int, flatsD (ns.map D.int) = some (ns.map L2.V.int)
  | [] => rfl
  | n :: ns => by
    show (flatD (.int n)).bind (fun v => (flatsD (ns.map D.int)).bind fun vs => some (v :: vs)) = _
    rw [flats_ints ns]; rfl
theorem inV_ints (x : Int) : ∀ ns : List Int, L2.inV (.int x) (ns.map L2.V.int) = decide (x ∈ ns)
  | [] => by simp [L2.inV]
  | n :: ns => by
    have ih := inV_ints x ns
    unfold L2.inV at ih ⊢
    rw [List.map_cons, List.any_cons, ih]
    by_cases h : n = x
    · simp [L2.eqV, h]
    · simp [L2.eqV, h, Ne.symm h]
theorem gIn_row (neg : Bool) (x : Int) (r : List Int) : gIn neg (.int x) (rowD r) = some (.bl (if neg then !decide (x ∈ r) else decide (x ∈ r))) := by
  unfold gIn rowD
  simp only [flatD, seqOf, Option.bind_some, flats_ints, inV_ints]
theorem bls_map {α : Type} (f : α → Bool) : ∀ l : List α, bls (l.map fun x => D.bl (f x)) = some (l.map f)
  | [] => rfl
  | x :: l => by
    show (bls (l.map fun x => D.bl (f x))).map (f x :: ·) = _
    rw [bls_map f l]; rfl
/-! ### small defs -/
theorem within (v lo hi : Int) : f_is_within [.int v, .int lo, .int hi] = .ok (.bl (decide (lo ≤ v) && decide (v ≤ hi))) := by
  unfold f_is_within b_is_within
  by_cases h : lo ≤ v <;> simp [mkF, DL.bin, DL.ite, L2.atI, mkIO, startD, sq, sAsg, sRet, sDrop, sIf, nop, Res.fl, Fl.seq, Res.bind, opt, shr, frz, gN, var, cst, val, stl, un, see, cont, fin, retD, retC, finIO, ioC, vAnd, vOr, vNot, tst, chain, mAnd, mOr, mNot, mCall, fz, frzs, aNil, aCons, mTup, mLst, cb, sees, sSet, frzv, slotL, putL, mApp, gI, gCmp, gAdd, fSub, gInt, gIx, gLen, gIsi, tyName, isTy, List.map_cons, List.map_nil, List.length_cons, List.length_nil, List.replicate_succ, List.replicate_zero, List.cons_append, List.nil_append, List.getElem?_cons_zero, List.getElem?_cons_succ, List.getElem?_nil, List.set_cons_zero, List.set_cons_succ, Option.bind_some, Option.bind_none, Option.map_some, Option.map_none, if_true, if_false, Nat.reduceAdd, Nat.reduceSub, Nat.reduceLeDiff, Bool.not_true, Bool.not_false, reduceIte, Bool.false_eq_true, ne_eq, not_true_eq_false, not_false_eq_true, isTy, h]
theorem wide (xs : List D) (lo hi : Int) : f_is_wide [.tup xs, .int lo, .int hi] = .ok (.bl (decide (lo ≤ (xs.length : Int)) && decide ((xs.length : Int) ≤ hi))) := by
  unfold f_is_wide b_is_wide
  by_cases h : lo ≤ (xs.length : Int) <;> simp [mkF, DL.bin, DL.ite, L2.atI, mkIO, startD, sq, sAsg, sRet, sDrop, sIf, nop, Res.fl, Fl.seq, Res.bind, opt, shr, frz, gN, var, cst, val, stl, un, see, cont, fin, retD, retC, finIO, ioC, vAnd, vOr, vNot, tst, chain, mAnd, mOr, mNot, mCall, fz, frzs, aNil, aCons, mTup, mLst, cb, sees, sSet, frzv, slotL, putL, mApp, gI, gCmp, gAdd, fSub, gInt, gIx, gLen, gIsi, tyName, isTy, List.map_cons, List.map_nil, List.length_cons, List.length_nil, List.replicate_succ, List.replicate_zero, List.cons_append, List.nil_append, List.getElem?_cons_zero, List.getElem?_cons_succ, List.getElem?_nil, List.set_cons_zero, List.set_cons_succ, Option.bind_some, Option.bind_none, Option.map_some, Option.map_none, if_true, if_false, Nat.reduceAdd, Nat.reduceSub, Nat.reduceLeDiff, Bool.not_true, Bool.not_false, reduceIte, Bool.false_eq_true, ne_eq, not_true_eq_false, not_false_eq_true, isTy, h]
theorem look_number (v lo hi : Int) (h : lo ≤ v) (h2 : v ≤ hi) : f_look_at_number [.int v, .int lo, .int hi] = .ok .non := by
  unfold f_look_at_number b_look_at_number
  simp [mkF, DL.bin, DL.ite, L2.atI, mkIO, startD, sq, sAsg, sRet, sDrop, sIf, nop, Res.fl, Fl.seq, Res.bind, opt, shr, frz, gN, var, cst, val, stl, un, see, cont, fin, retD, retC, finIO, ioC, vAnd, vOr, vNot, tst, chain, mAnd, mOr, mNot, mCall, fz, frzs, aNil, aCons, mTup, mLst, cb, sees, sSet, frzv, slotL, putL, mApp, gI, gCmp, gAdd, fSub, gInt, gIx, gLen, gIsi, tyName, isTy, List.map_cons, List.map_nil, List.length_cons, List.length_nil, List.replicate_succ, List.replicate_zero, List.cons_append, List.nil_append, List.getElem?_cons_zero, List.getElem?_cons_succ, List.getElem?_nil, List.set_cons_zero, List.set_cons_succ, Option.bind_some, Option.bind_none, Option.map_some, Option.map_none, if_true, if_false, Nat.reduceAdd, Nat.reduceSub, Nat.reduceLeDiff, Bool.not_true, Bool.not_false, reduceIte, Bool.false_eq_true, ne_eq, not_true_eq_false, not_false_eq_true, within, h, h2]
def inD (r : List Int) : D → D
  | .int x => .bl (decide (x ∈ r))
  | _ => .non
def letB (b : Int) (r : List Int) (n : Int) : Bool := (digs b 100 n).all fun x => decide (x ∈ r)
theorem is_let {b n : Int} (h : 2 ≤ b) (h4 : b ≤ 4) (h0 : 0 ≤ n) (hn : n < 2 ^ 100) (r : List Int) : f_is_let [.int b, rowD r, .int n] = .ok (.bl (letB b r n)) := by
  have c : mComp (iSeq (mCall f_figures_of (aCons (var 0) (aCons (var 2) (aNil))))) (gN 3) (tAlways) (DL.bin (gIn false) (var 3) (var 1)) [3] [some (.int b), some (rowD r), some (.int n), none] =
      .ok (.own (.lst (((digs b 100 n).map D.int).map (inD r))), [some (.int b), some (rowD r), some (.int n), none]) := by
    refine (mcomp_map (k := inD r) (ls := [some (.int b), some (rowD r), some (.int n), none]) (ds := (digs b 100 n).map D.int) ?_ ?_ ?_).trans ?_
    · simp only [iSeq, mkF, DL.bin, DL.ite, L2.atI, mkIO, startD, sq, sAsg, sRet, sDrop, sIf, nop, Res.fl, Fl.seq, Res.bind, opt, shr, frz, gN, var, cst, val, stl, un, see, cont, fin, retD, retC, finIO, ioC, vAnd, vOr, vNot, tst, chain, mAnd, mOr, mNot, mCall, fz, frzs, aNil, aCons, mTup, mLst, cb, sees, sSet, frzv, slotL, putL, mApp, gI, gCmp, gAdd, fSub, gInt, gIx, gLen, gIsi, tyName, isTy, List.map_cons, List.map_nil, List.length_cons, List.length_nil, List.replicate_succ, List.replicate_zero, List.cons_append, List.nil_append, List.getElem?_cons_zero, List.getElem?_cons_succ, List.getElem?_nil, List.set_cons_zero, List.set_cons_succ, Option.bind_some, Option.bind_none, Option.map_some, Option.map_none, if_true, if_false, Nat.reduceAdd, Nat.reduceSub, Nat.reduceLeDiff, Bool.not_true, Bool.not_false, reduceIte, Bool.false_eq_true, ne_eq, not_true_eq_false, not_false_eq_true, figs h h4 h0 hn, seqOf]
    · intro d hd
      obtain ⟨x, _, rfl⟩ := List.mem_map.mp hd
      have q := gIn_row false x r
      unfold rowD at q ⊢
      simp only [mkF, DL.bin, DL.ite, L2.atI, mkIO, startD, sq, sAsg, sRet, sDrop, sIf, nop, Res.fl, Fl.seq, Res.bind, opt, shr, frz, gN, var, cst, val, stl, un, see, cont, fin, retD, retC, finIO, ioC, vAnd, vOr, vNot, tst, chain, mAnd, mOr, mNot, mCall, fz, frzs, aNil, aCons, mTup, mLst, cb, sees, sSet, frzv, slotL, putL, mApp, gI, gCmp, gAdd, fSub, gInt, gIx, gLen, gIsi, tyName, isTy, List.map_cons, List.map_nil, List.length_cons, List.length_nil, List.replicate_succ, List.replicate_zero, List.cons_append, List.nil_append, List.getElem?_cons_zero, List.getElem?_cons_succ, List.getElem?_nil, List.set_cons_zero, List.set_cons_succ, Option.bind_some, Option.bind_none, Option.map_some, Option.map_none, if_true, if_false, Nat.reduceAdd, Nat.reduceSub, Nat.reduceLeDiff, Bool.not_true, Bool.not_false, reduceIte, Bool.false_eq_true, ne_eq, not_true_eq_false, not_false_eq_true, q, inD]
    · rw [List.length_map, sizeLine_eq]; have := digs_len b 100 n; omega
    · rfl
  unfold f_is_let b_is_let
  simp only [mkF, DL.bin, DL.ite, L2.atI, mkIO, startD, sq, sAsg, sRet, sDrop, sIf, nop, Res.fl, Fl.seq, Res.bind, opt, shr, frz, gN, var, cst, val, stl, un, see, cont, fin, retD, retC, finIO, ioC, vAnd, vOr, vNot, tst, chain, mAnd, mOr, mNot, mCall, fz, frzs, aNil, aCons, mTup, mLst, cb, sees, sSet, frzv, slotL, putL, mApp, gI, gCmp, gAdd, fSub, gInt, gIx, gLen, gIsi, tyName, isTy, List.map_cons, List.map_nil, List.length_cons, List.length_nil, List.replicate_succ, List.replicate_zero, List.cons_append, List.nil_append, List.getElem?_cons_zero, List.getElem?_cons_succ, List.getElem?_nil, List.set_cons_zero, List.set_cons_succ, Option.bind_some, Option.bind_none, Option.map_some, Option.map_none, if_true, if_false, Nat.reduceAdd, Nat.reduceSub, Nat.reduceLeDiff, Bool.not_true, Bool.not_false, reduceIte, Bool.false_eq_true, ne_eq, not_true_eq_false, not_false_eq_true]
  unfold rowD at c ⊢
  simp only [c, mkF, DL.bin, DL.ite, L2.atI, mkIO, startD, sq, sAsg, sRet, sDrop, sIf, nop, Res.fl, Fl.seq, Res.bind, opt, shr, frz, gN, var, cst, val, stl, un, see, cont, fin, retD, retC, finIO, ioC, vAnd, vOr, vNot, tst, chain, mAnd, mOr, mNot, mCall, fz, frzs, aNil, aCons, mTup, mLst, cb, sees, sSet, frzv, slotL, putL, mApp, gI, gCmp, gAdd, fSub, gInt, gIx, gLen, gIsi, tyName, isTy, List.map_cons, List.map_nil, List.length_cons, List.length_nil, List.replicate_succ, List.replicate_zero, List.cons_append, List.nil_append, List.getElem?_cons_zero, List.getElem?_cons_succ, List.getElem?_nil, List.set_cons_zero, List.set_cons_succ, Option.bind_some, Option.bind_none, Option.map_some, Option.map_none, if_true, if_false, Nat.reduceAdd, Nat.reduceSub, Nat.reduceLeDiff, Bool.not_true, Bool.not_false, reduceIte, Bool.false_eq_true, ne_eq, not_true_eq_false, not_false_eq_true, gAllAny, List.map_map]
  have e : (List.map (inD r ∘ D.int) (digs b 100 n)) = (digs b 100 n).map fun x => D.bl (decide (x ∈ r)) := rfl
  rw [e, bls_map]
  simp only [Option.map_some, opt_some, Res.bind_ok]
  unfold letB
  rw [List.all_map]; rfl
theorem intsD_map : ∀ ns : List Int, intsD (ns.map D.int) = some ns
  | [] => rfl
  | n :: ns => by
    show (intsD (ns.map D.int)).map (n :: ·) = _
    rw [intsD_map ns]; rfl
theorem sortU_self {ns : List Int} (h : ns.Pairwise (· < ·)) : sortU ns = ns := up_one (sortU_up ns) h fun z => sortU_mem z ns
/-- numbers as they are asked for -/
structure Nums (s : List Int) : Prop where
  few : s.length ≤ 6
  up : s.Pairwise (· < ·)
  ok : ∀ x ∈ s, 0 ≤ x ∧ x ≤ 1000000000000000000000000000000
def numsD (s : List Int) : D := .tup (s.map .int)
theorem Nums.big {s : List Int} (h : Nums s) {x : Int} (hx : x ∈ s) : 0 ≤ x ∧ x < 2 ^ 100 := by
  obtain ⟨h1, h2⟩ := h.ok x hx
  exact ⟨h1, Int.lt_of_le_of_lt h2 (by decide)⟩
theorem numbers {s : List Int} (h : Nums s) : f_are_numbers [numsD s] = .ok (.bl true) := by
  have hl : ((0 : Int) ≤ ((s.map D.int).length : Int)) ∧ (((s.map D.int).length : Int) ≤ 6) := by rw [List.length_map]; have := h.few; omega
  have hz : (s.map D.int).length ≤ sizeLine := by rw [List.length_map, sizeLine_eq]; have := h.few; omega
  have c : mComp (iSeq (var 0)) (gN 1) (tAlways) (mCall f_is_within (aCons (var 1) (aCons (cst (.int 0)) (aCons (cst (.int 1000000000000000000000000000000)) (aNil))))) [1] [some (numsD s), none] =
      .ok (.own (.lst (s.map fun _ => .bl true)), [some (numsD s), none]) := by
    refine (mcomp_map (k := fun _ => .bl true) (ls := [some (numsD s), none]) (ds := s.map D.int) ?_ ?_ hz).trans ?_
    · simp only [iSeq, mkF, DL.bin, DL.ite, L2.atI, mkIO, startD, sq, sAsg, sRet, sDrop, sIf, nop, Res.fl, Fl.seq, Res.bind, opt, shr, frz, gN, var, cst, val, stl, un, see, cont, fin, retD, retC, finIO, ioC, vAnd, vOr, vNot, tst, chain, mAnd, mOr, mNot, mCall, fz, frzs, aNil, aCons, mTup, mLst, cb, sees, sSet, frzv, slotL, putL, mApp, gI, gCmp, gAdd, fSub, gInt, gIx, gLen, gIsi, tyName, isTy, List.map_cons, List.map_nil, List.length_cons, List.length_nil, List.replicate_succ, List.replicate_zero, List.cons_append, List.nil_append, List.getElem?_cons_zero, List.getElem?_cons_succ, List.getElem?_nil, List.set_cons_zero, List.set_cons_succ, Option.bind_some, Option.bind_none, Option.map_some, Option.map_none, if_true, if_false, Nat.reduceAdd, Nat.reduceSub, Nat.reduceLeDiff, Bool.not_true, Bool.not_false, reduceIte, Bool.false_eq_true, ne_eq, not_true_eq_false, not_false_eq_true, numsD, seqOf]
    · intro d hd
      obtain ⟨x, hx, rfl⟩ := List.mem_map.mp hd
      obtain ⟨h1, h2⟩ := h.ok x hx
      unfold numsD
      simp only [mkF, DL.bin, DL.ite, L2.atI, mkIO, startD, sq, sAsg, sRet, sDrop, sIf, nop, Res.fl, Fl.seq, Res.bind, opt, shr, frz, gN, var, cst, val, stl, un, see, cont, fin, retD, retC, finIO, ioC, vAnd, vOr, vNot, tst, chain, mAnd, mOr, mNot, mCall, fz, frzs, aNil, aCons, mTup, mLst, cb, sees, sSet, frzv, slotL, putL, mApp, gI, gCmp, gAdd, fSub, gInt, gIx, gLen, gIsi, tyName, isTy, List.map_cons, List.map_nil, List.length_cons, List.length_nil, List.replicate_succ, List.replicate_zero, List.cons_append, List.nil_append, List.getElem?_cons_zero, List.getElem?_cons_succ, List.getElem?_nil, List.set_cons_zero, List.set_cons_succ, Option.bind_some, Option.bind_none, Option.map_some, Option.map_none, if_true, if_false, Nat.reduceAdd, Nat.reduceSub, Nat.reduceLeDiff, Bool.not_true, Bool.not_false, reduceIte, Bool.false_eq_true, ne_eq, not_true_eq_false, not_false_eq_true, within, h1, h2, decide_true, Bool.and_self]
    · rw [List.map_map]; rfl
  have e : bls (s.map fun _ => D.bl true) = some (s.map fun _ => true) := bls_map (fun _ => true) s
  have e2 : (s.map fun _ => true).all id = true := by rw [List.all_eq_true]; intro x hx; obtain ⟨_, _, rfl⟩ := List.mem_map.mp hx; rfl
  have e3 : s.length < 64 := by have := h.few; omega
  unfold f_are_numbers b_are_numbers
  unfold numsD at c ⊢
  simp only [mkF, DL.bin, DL.ite, L2.atI, mkIO, startD, sq, sAsg, sRet, sDrop, sIf, nop, Res.fl, Fl.seq, Res.bind, opt, shr, frz, gN, var, cst, val, stl, un, see, cont, fin, retD, retC, finIO, ioC, vAnd, vOr, vNot, tst, chain, mAnd, mOr, mNot, mCall, fz, frzs, aNil, aCons, mTup, mLst, cb, sees, sSet, frzv, slotL, putL, mApp, gI, gCmp, gAdd, fSub, gInt, gIx, gLen, gIsi, tyName, isTy, List.map_cons, List.map_nil, List.length_cons, List.length_nil, List.replicate_succ, List.replicate_zero, List.cons_append, List.nil_append, List.getElem?_cons_zero, List.getElem?_cons_succ, List.getElem?_nil, List.set_cons_zero, List.set_cons_succ, Option.bind_some, Option.bind_none, Option.map_some, Option.map_none, if_true, if_false, Nat.reduceAdd, Nat.reduceSub, Nat.reduceLeDiff, Bool.not_true, Bool.not_false, reduceIte, Bool.false_eq_true, ne_eq, not_true_eq_false, not_false_eq_true, wide, hl, decide_true, Bool.and_self, c, gAllAny, e, e2, gList, gSortSet, seqOf, intsD_map, e3, sortU_self h.up, gEq_ints]
/-- the rows that are let -/
def keepR (b : Int) (s1 s2 : List Int) (r : List Int) : Bool := (s1.all fun n => letB b r n) && !(s2.any fun n => letB b r n)
def seenD (s1 s2 : List Int) : D := .tup [numsD s1, numsD s2]
def letD (b : Int) (r : List Int) : D → D
  | .int n => .bl (letB b r n)
  | _ => .non
theorem lets_comp {b : Int} (h : 2 ≤ b) (h4 : b ≤ 4) {s1 s2 : List Int} (w1 : Nums s1) (w2 : Nums s2) (r : List Int) (x2 : Option D) (j : Int) (hj : j = 0 ∨ j = 1) :
    mComp (iSeq (DL.bin gIx (var 1) (cst (.int j)))) (gN 4) (tAlways) (mCall f_is_let (aCons (var 0) (aCons (var 3) (aCons (var 4) (aNil))))) [4] [some (.int b), some (seenD s1 s2), x2, some (rowD r), none] =
      .ok (.own (.lst ((if j = 0 then s1 else s2).map fun n => .bl (letB b r n))), [some (.int b), some (seenD s1 s2), x2, some (rowD r), none]) := by
  have key : ∀ (s : List Int), Nums s → iSeq (DL.bin gIx (var 1) (cst (.int j))) [some (.int b), some (seenD s1 s2), x2, some (rowD r), none] = .ok (s.map D.int, [some (.int b), some (seenD s1 s2), x2, some (rowD r), none]) →
      mComp (iSeq (DL.bin gIx (var 1) (cst (.int j)))) (gN 4) (tAlways) (mCall f_is_let (aCons (var 0) (aCons (var 3) (aCons (var 4) (aNil))))) [4] [some (.int b), some (seenD s1 s2), x2, some (rowD r), none] =
      .ok (.own (.lst (s.map fun n => .bl (letB b r n))), [some (.int b), some (seenD s1 s2), x2, some (rowD r), none]) := fun s w hi => by
    refine (mcomp_map (k := letD b r) hi ?_ (by rw [List.length_map, sizeLine_eq]; have := w.few; omega)).trans ?_
    · intro d hd
      obtain ⟨x, hx, rfl⟩ := List.mem_map.mp hd
      have q := is_let h h4 (w.big hx).1 (w.big hx).2 r
      unfold rowD at q ⊢
      simp only [mkF, DL.bin, DL.ite, L2.atI, mkIO, startD, sq, sAsg, sRet, sDrop, sIf, nop, Res.fl, Fl.seq, Res.bind, opt, shr, frz, gN, var, cst, val, stl, un, see, cont, fin, retD, retC, finIO, ioC, vAnd, vOr, vNot, tst, chain, mAnd, mOr, mNot, mCall, fz, frzs, aNil, aCons, mTup, mLst, cb, sees, sSet, frzv, slotL, putL, mApp, gI, gCmp, gAdd, fSub, gInt, gIx, gLen, gIsi, tyName, isTy, List.map_cons, List.map_nil, List.length_cons, List.length_nil, List.replicate_succ, List.replicate_zero, List.cons_append, List.nil_append, List.getElem?_cons_zero, List.getElem?_cons_succ, List.getElem?_nil, List.set_cons_zero, List.set_cons_succ, Option.bind_some, Option.bind_none, Option.map_some, Option.map_none, if_true, if_false, Nat.reduceAdd, Nat.reduceSub, Nat.reduceLeDiff, Bool.not_true, Bool.not_false, reduceIte, Bool.false_eq_true, ne_eq, not_true_eq_false, not_false_eq_true, q, letD]
    · rw [List.map_map]; rfl
  rcases hj with rfl | rfl
  · exact key s1 w1 rfl
  · exact key s2 w2 rfl
theorem told_loop {b : Int} (h : 2 ≤ b) (h4 : b ≤ 4) {s1 s2 : List Int} (w1 : Nums s1) (w2 : Nums s2) : ∀ (rs acc : List (List Int)) (x3 : Option D), acc.length + rs.length ≤ 1000 → ∃ x,
    forL (gN 3) (sIf (tst (cb (gAllAny fun bs => bs.all id) (aCons (mComp (iSeq (DL.bin gIx (var 1) (cst (.int 0)))) (gN 4) (tAlways) (mCall f_is_let (aCons (var 0) (aCons (var 3) (aCons (var 4) (aNil))))) [4]) (aNil)))) (sIf (mNot (tst (cb (gAllAny fun bs => bs.any id) (aCons (mComp (iSeq (DL.bin gIx (var 1) (cst (.int 1)))) (gN 4) (tAlways) (mCall f_is_let (aCons (var 0) (aCons (var 3) (aCons (var 4) (aNil))))) [4]) (aNil))))) (sDrop (mApp 2 (var 3))) (nop)) (nop))
      (rs.map rowD) [some (.int b), some (seenD s1 s2), some (.own (.lst (acc.map rowD))), x3, none] = .nx [some (.int b), some (seenD s1 s2), some (.own (.lst ((acc ++ rs.filter (keepR b s1 s2)).map rowD))), x, none]
  | [], acc, x3, _ => ⟨x3, by simp [forL]⟩
  | r :: rs, acc, x3, hl => by
    have c1 := lets_comp h h4 w1 w2 r (some (.own (.lst (acc.map rowD)))) 0 (.inl rfl)
    have c2 := lets_comp h h4 w1 w2 r (some (.own (.lst (acc.map rowD)))) 1 (.inr rfl)
    have a1 : (s1.map fun n => letB b r n).all id = s1.all fun n => letB b r n := by rw [List.all_map]; rfl
    have a2 : (s2.map fun n => letB b r n).any id = s2.any fun n => letB b r n := by rw [List.any_map]; rfl
    have hs : (acc.map rowD).length < sizeLine := by rw [List.length_map, sizeLine_eq]; rw [List.length_cons] at hl; omega
    rw [if_pos rfl] at c1
    rw [if_neg (by decide)] at c2
    have sd : seenD s1 s2 = .tup [numsD s1, numsD s2] := rfl
    rw [List.map_cons, forL]
    by_cases q1 : (s1.all fun n => letB b r n) = true
    · by_cases q2 : (s2.any fun n => letB b r n) = true
      · obtain ⟨x, ih⟩ := told_loop h h4 w1 w2 rs acc (some (rowD r)) (by rw [List.length_cons] at hl; omega)
        refine ⟨x, ?_⟩
        have kf : keepR b s1 s2 r = false := by unfold keepR; rw [q1, q2]; rfl
        simp only [mkF, DL.bin, DL.ite, L2.atI, mkIO, startD, sq, sAsg, sRet, sDrop, sIf, nop, Res.fl, Fl.seq, Res.bind, opt, shr, frz, gN, var, cst, val, stl, un, see, cont, fin, retD, retC, finIO, ioC, vAnd, vOr, vNot, tst, chain, mAnd, mOr, mNot, mCall, fz, frzs, aNil, aCons, mTup, mLst, cb, sees, sSet, frzv, slotL, putL, mApp, gI, gCmp, gAdd, fSub, gInt, gIx, gLen, gIsi, tyName, isTy, List.map_cons, List.map_nil, List.length_cons, List.length_nil, List.replicate_succ, List.replicate_zero, List.cons_append, List.nil_append, List.getElem?_cons_zero, List.getElem?_cons_succ, List.getElem?_nil, List.set_cons_zero, List.set_cons_succ, Option.bind_some, Option.bind_none, Option.map_some, Option.map_none, if_true, if_false, Nat.reduceAdd, Nat.reduceSub, Nat.reduceLeDiff, Bool.not_true, Bool.not_false, reduceIte, Bool.false_eq_true, ne_eq, not_true_eq_false, not_false_eq_true, c1, c2, gAllAny, bls_map, a1, a2, q1, q2, List.filter_cons, kf]
        exact ih
      · have q2 : (s2.any fun n => letB b r n) = false := by simpa using q2
        obtain ⟨x, ih⟩ := told_loop h h4 w1 w2 rs (acc ++ [r]) (some (rowD r)) (by rw [List.length_cons] at hl; rw [List.length_append, List.length_singleton]; omega)
        refine ⟨x, ?_⟩
        have kt : keepR b s1 s2 r = true := by unfold keepR; rw [q1, q2]; rfl
        have er : ∀ y : List Int, rowD y = .tup (y.map .int) := fun _ => rfl
        simp only [mkF, DL.bin, DL.ite, L2.atI, mkIO, startD, sq, sAsg, sRet, sDrop, sIf, nop, Res.fl, Fl.seq, Res.bind, opt, shr, frz, gN, var, cst, val, stl, un, see, cont, fin, retD, retC, finIO, ioC, vAnd, vOr, vNot, tst, chain, mAnd, mOr, mNot, mCall, fz, frzs, aNil, aCons, mTup, mLst, cb, sees, sSet, frzv, slotL, putL, mApp, gI, gCmp, gAdd, fSub, gInt, gIx, gLen, gIsi, tyName, isTy, List.map_cons, List.map_nil, List.length_cons, List.length_nil, List.replicate_succ, List.replicate_zero, List.cons_append, List.nil_append, List.getElem?_cons_zero, List.getElem?_cons_succ, List.getElem?_nil, List.set_cons_zero, List.set_cons_succ, Option.bind_some, Option.bind_none, Option.map_some, Option.map_none, if_true, if_false, Nat.reduceAdd, Nat.reduceSub, Nat.reduceLeDiff, Bool.not_true, Bool.not_false, reduceIte, Bool.false_eq_true, ne_eq, not_true_eq_false, not_false_eq_true, c1, c2, gAllAny, bls_map, a1, a2, q1, q2, List.filter_cons, kt]
        simp only [mkF, DL.bin, DL.ite, L2.atI, mkIO, startD, sq, sAsg, sRet, sDrop, sIf, nop, Res.fl, Fl.seq, Res.bind, opt, shr, frz, gN, var, cst, val, stl, un, see, cont, fin, retD, retC, finIO, ioC, vAnd, vOr, vNot, tst, chain, mAnd, mOr, mNot, mCall, fz, frzs, aNil, aCons, mTup, mLst, cb, sees, sSet, frzv, slotL, putL, mApp, gI, gCmp, gAdd, fSub, gInt, gIx, gLen, gIsi, tyName, isTy, List.map_cons, List.map_nil, List.length_cons, List.length_nil, List.replicate_succ, List.replicate_zero, List.cons_append, List.nil_append, List.getElem?_cons_zero, List.getElem?_cons_succ, List.getElem?_nil, List.set_cons_zero, List.set_cons_succ, Option.bind_some, Option.bind_none, Option.map_some, Option.map_none, if_true, if_false, Nat.reduceAdd, Nat.reduceSub, Nat.reduceLeDiff, Bool.not_true, Bool.not_false, reduceIte, Bool.false_eq_true, ne_eq, not_true_eq_false, not_false_eq_true, er r, hs]
        rw [← er r]
        rw [List.map_append, List.map_cons, List.map_nil, List.append_assoc] at ih
        exact ih
    · have q1 : (s1.all fun n => letB b r n) = false := by simpa using q1
      obtain ⟨x, ih⟩ := told_loop h h4 w1 w2 rs acc (some (rowD r)) (by rw [List.length_cons] at hl; omega)
      refine ⟨x, ?_⟩
      have kf : keepR b s1 s2 r = false := by unfold keepR; rw [q1]; rfl
      simp only [mkF, DL.bin, DL.ite, L2.atI, mkIO, startD, sq, sAsg, sRet, sDrop, sIf, nop, Res.fl, Fl.seq, Res.bind, opt, shr, frz, gN, var, cst, val, stl, un, see, cont, fin, retD, retC, finIO, ioC, vAnd, vOr, vNot, tst, chain, mAnd, mOr, mNot, mCall, fz, frzs, aNil, aCons, mTup, mLst, cb, sees, sSet, frzv, slotL, putL, mApp, gI, gCmp, gAdd, fSub, gInt, gIx, gLen, gIsi, tyName, isTy, List.map_cons, List.map_nil, List.length_cons, List.length_nil, List.replicate_succ, List.replicate_zero, List.cons_append, List.nil_append, List.getElem?_cons_zero, List.getElem?_cons_succ, List.getElem?_nil, List.set_cons_zero, List.set_cons_succ, Option.bind_some, Option.bind_none, Option.map_some, Option.map_none, if_true, if_false, Nat.reduceAdd, Nat.reduceSub, Nat.reduceLeDiff, Bool.not_true, Bool.not_false, reduceIte, Bool.false_eq_true, ne_eq, not_true_eq_false, not_false_eq_true, c1, gAllAny, bls_map, a1, q1, List.filter_cons, kf]
      exact ih
end DLaw

end M4
section M5
set_option Elab.async false
set_option linter.all false
set_option autoImplicit false
set_option maxRecDepth 100000
namespace DLaw
open PySem PySem.Spec DL
/-! ### all rows -/
def RR (b : Int) : List (List Int) := if b = 2 then R2 else if b = 3 then R3 else R4
theorem RR_len (b : Int) : (RR b).length ≤ 8 := by unfold RR; split <;> (try split) <;> decide
theorem cho2 : f_choices [.int 2] = .ok (.own (.lst ((U2.map rowD).mergeSort (PySem.W.dataLe false encD)))) := by kernel_rfl
theorem cho3 : f_choices [.int 3] = .ok (.own (.lst ((U3.map rowD).mergeSort (PySem.W.dataLe false encD)))) := by kernel_rfl
theorem cho4 : f_choices [.int 4] = .ok (.own (.lst ((U4.map rowD).mergeSort (PySem.W.dataLe false encD)))) := by kernel_rfl
theorem row2 : f__law_rows [.int 2] = .ok (.own (.lst ((U2.map rowD).mergeSort (PySem.W.dataLe false encD)))) := by kernel_rfl
theorem row3 : f__law_rows [.int 3] = .ok (.own (.lst ((U3.map rowD).mergeSort (PySem.W.dataLe false encD)))) := by kernel_rfl
theorem row4 : f__law_rows [.int 4] = .ok (.own (.lst ((U4.map rowD).mergeSort (PySem.W.dataLe false encD)))) := by kernel_rfl
theorem three {b : Int} (h : 2 ≤ b) (h4 : b ≤ 4) : b = 2 ∨ b = 3 ∨ b = 4 := by omega
theorem choices_eq {b : Int} (h : 2 ≤ b) (h4 : b ≤ 4) : f_choices [.int b] = .ok (.own (.lst ((RR b).map rowD))) := by
  rcases three h h4 with rfl | rfl | rfl
  · rw [cho2, ms2]; rfl
  · rw [cho3, ms3]; rfl
  · rw [cho4, ms4]; rfl
theorem rows_eq {b : Int} (h : 2 ≤ b) (h4 : b ≤ 4) : f__law_rows [.int b] = .ok (.own (.lst ((RR b).map rowD))) := by
  rcases three h h4 with rfl | rfl | rfl
  · rw [row2, ms2]; rfl
  · rw [row3, ms3]; rfl
  · rw [row4, ms4]; rfl
/-! ### figures_told -/
theorem told {b : Int} (h : 2 ≤ b) (h4 : b ≤ 4) {s1 s2 : List Int} (w1 : Nums s1) (w2 : Nums s2) : f_figures_told [.int b, seenD s1 s2] = .ok (.own (.lst (((RR b).filter (keepR b s1 s2)).map rowD))) := by
  obtain ⟨x, hx⟩ := told_loop h h4 w1 w2 (RR b) [] none (by have := RR_len b; simp; omega)
  have sd : seenD s1 s2 = .tup [numsD s1, numsD s2] := rfl
  have n1 := numbers w1
  have n2 := numbers w2
  have nd : ∀ s, numsD s = .tup (s.map .int) := fun _ => rfl
  unfold f_figures_told b_figures_told
  rw [sd] at hx ⊢
  rw [nd, nd] at hx ⊢
  rw [nd] at n1 n2
  have i0 : L2.ixN 2 0 = some 0 := by decide
  have i1 : L2.ixN 2 1 = some 1 := by decide
  have wd : f_is_wide [.tup [.tup (s1.map .int), .tup (s2.map .int)], .int 2, .int 2] = .ok (.bl true) := wide _ _ _
  simp only [mkF, DL.bin, DL.ite, L2.atI, mkIO, startD, sq, sAsg, sRet, sDrop, sIf, nop, Res.fl, Fl.seq, Res.bind, opt, shr, frz, gN, var, cst, val, stl, un, see, cont, fin, retD, retC, finIO, ioC, vAnd, vOr, vNot, tst, chain, mAnd, mOr, mNot, mCall, fz, frzs, aNil, aCons, mTup, mLst, cb, sees, sSet, frzv, slotL, putL, mApp, gI, gCmp, gAdd, fSub, gInt, gIx, gLen, gIsi, tyName, isTy, List.map_cons, List.map_nil, List.length_cons, List.length_nil, List.replicate_succ, List.replicate_zero, List.cons_append, List.nil_append, List.getElem?_cons_zero, List.getElem?_cons_succ, List.getElem?_nil, List.set_cons_zero, List.set_cons_succ, Option.bind_some, Option.bind_none, Option.map_some, Option.map_none, if_true, if_false, Nat.reduceAdd, Nat.reduceSub, Nat.reduceLeDiff, Bool.not_true, Bool.not_false, reduceIte, Bool.false_eq_true, ne_eq, not_true_eq_false, not_false_eq_true, look_number b 2 4 h h4, wd, n1, n2, i0, i1, line0, sFor, iSeq, choices_eq h h4, seqOf]
  rw [List.map_nil] at hx
  simp only [nop] at hx
  rw [hx]
  simp only [mkF, DL.bin, DL.ite, L2.atI, mkIO, startD, sq, sAsg, sRet, sDrop, sIf, nop, Res.fl, Fl.seq, Res.bind, opt, shr, frz, gN, var, cst, val, stl, un, see, cont, fin, retD, retC, finIO, ioC, vAnd, vOr, vNot, tst, chain, mAnd, mOr, mNot, mCall, fz, frzs, aNil, aCons, mTup, mLst, cb, sees, sSet, frzv, slotL, putL, mApp, gI, gCmp, gAdd, fSub, gInt, gIx, gLen, gIsi, tyName, isTy, List.map_cons, List.map_nil, List.length_cons, List.length_nil, List.replicate_succ, List.replicate_zero, List.cons_append, List.nil_append, List.getElem?_cons_zero, List.getElem?_cons_succ, List.getElem?_nil, List.set_cons_zero, List.set_cons_succ, Option.bind_some, Option.bind_none, Option.map_some, Option.map_none, if_true, if_false, Nat.reduceAdd, Nat.reduceSub, Nat.reduceLeDiff, Bool.not_true, Bool.not_false, reduceIte, Bool.false_eq_true, ne_eq, not_true_eq_false, not_false_eq_true]
/-! ### twins -/
theorem kind_int (n : Int) : f__law_kind [.int n] = .ok (.int 4) := rfl
theorem kind_tup (xs : List D) : f__law_kind [.tup xs] = .ok (.int 3) := rfl
theorem kind_lst (xs : List D) : f__law_kind [.lst xs] = .ok (.int 2) := rfl
theorem gNe_int (a b : Int) : gNe (.int a) (.int b) = some (.bl (!decide (a = b))) := by
  unfold gNe gEqB
  simp only [toP, Option.bind_some, PyData.eqv]
  have : SeqAt.shaped (.int a) = true := by rfl
  have : SeqAt.shaped (.int b) = true := by rfl
  rw [if_pos (by rfl)]
  by_cases h : a = b <;> simp [h]
theorem gEq_int (a b : Int) : gEq (.int a) (.int b) = some (.bl (decide (a = b))) := by
  unfold gEq gEqB
  simp only [toP, Option.bind_some, PyData.eqv]
  rw [if_pos (by rfl)]
  by_cases h : a = b <;> simp [h]
theorem twin_int (t : Nat) (n : Int) : f__law_twins (t + 1) [.int n, .int n] = .ok (.bl true) := by
  have q : gIn false (.int 4) (.lst [.int 2, .int 3]) = some (.bl false) := by rfl
  have l2 : 2 ≤ sizeLine := by rw [sizeLine_eq]; omega
  unfold f__law_twins b__law_twins
  simp only [mkF, DL.bin, DL.ite, L2.atI, mkIO, startD, sq, sAsg, sRet, sDrop, sIf, nop, Res.fl, Fl.seq, Res.bind, opt, shr, frz, gN, var, cst, val, stl, un, see, cont, fin, retD, retC, finIO, ioC, vAnd, vOr, vNot, tst, chain, mAnd, mOr, mNot, mCall, fz, frzs, aNil, aCons, mTup, mLst, cb, sees, sSet, frzv, slotL, putL, mApp, gI, gCmp, gAdd, fSub, gInt, gIx, gLen, gIsi, tyName, isTy, List.map_cons, List.map_nil, List.length_cons, List.length_nil, List.replicate_succ, List.replicate_zero, List.cons_append, List.nil_append, List.getElem?_cons_zero, List.getElem?_cons_succ, List.getElem?_nil, List.set_cons_zero, List.set_cons_succ, Option.bind_some, Option.bind_none, Option.map_some, Option.map_none, if_true, if_false, Nat.reduceAdd, Nat.reduceSub, Nat.reduceLeDiff, Bool.not_true, Bool.not_false, reduceIte, Bool.false_eq_true, ne_eq, not_true_eq_false, not_false_eq_true, kind_int, gNe_int, q, gEq_int, decide_true, l2]
theorem comp_zip {t : MT} {e : ME} : ∀ (ps : List (D × D)) (ls : LS), (∀ p ∈ ps, t ((ls.set 2 (some p.1)).set 3 (some p.2)) = .ok (false, (ls.set 2 (some p.1)).set 3 (some p.2))) →
    compL (gTup' 2 (gMore (gN 2) (gMore (gN 3) (gNone)))) t e [2, 3] (ps.map fun p => .tup [p.1, p.2]) (wipeL ls [2, 3]) = some ([], wipeL ls [2, 3])
  | [], ls, _ => rfl
  | p :: ps, ls, h => by
    have ih := comp_zip (e := e) ps ls fun x hx => h x (List.mem_cons_of_mem _ hx)
    have e1 : ((ls.set 3 none).set 2 none).set 2 (some p.1) = (ls.set 2 (some p.1)).set 3 none := by
      rw [List.set_set, List.set_comm _ _ (by decide)]
    rw [List.map_cons]
    unfold compL
    simp only [gTup', List.length_cons, List.length_nil, if_true, gMore, gN, gNone, Option.bind_some, wipeL, e1, List.set_set, h p List.mem_cons_self, Res.get?, Bool.false_eq_true, if_false]
    have e2 : (((ls.set 2 (some p.1)).set 3 none).set 2 none) = wipeL ls [2, 3] := by
      show _ = (ls.set 3 none).set 2 none
      rw [List.set_comm _ _ (by decide), List.set_set, List.set_comm _ _ (by decide)]
    rw [e2]
    exact ih
theorem zip_self : ∀ xs : List D, zipD xs xs = (xs.map fun x => (x, x)).map fun p => D.tup [p.1, p.2]
  | [] => rfl
  | x :: xs => by rw [zipD, zip_self xs]; rfl
theorem twin_comp {r : FD} {xs : List D} {a b : D} (hz : iZip (aCons (var 0) (aCons (var 1) (aNil))) [some a, some b, none, none] = .ok (zipD xs xs, [some a, some b, none, none]))
    (hx : ∀ x ∈ xs, (∃ n, x = .int n) ∨ ∃ ys, x = .tup ys) (hr : ∀ x ∈ xs, r [x, x] = .ok (.bl true)) :
    mComp (iZip (aCons (var 0) (aCons (var 1) (aNil)))) (gTup' 2 (gMore (gN 2) (gMore (gN 3) (gNone)))) (mNot (tst (mCall r (aCons (var 2) (aCons (var 3) (aNil)))))) (cst (.int 1)) [2, 3] [some a, some b, none, none] = .ok (.own (.lst []), [some a, some b, none, none]) := by
  have q := comp_zip (t := mNot (tst (mCall r (aCons (var 2) (aCons (var 3) (aNil)))))) (e := cst (.int 1)) (xs.map fun x => (x, x)) [some a, some b, none, none] (fun p hp => by
    obtain ⟨x, hm, rfl⟩ := List.mem_map.mp hp
    have h1 := hr x hm
    rcases hx x hm with ⟨n, rfl⟩ | ⟨ys, rfl⟩ <;> simp only [mkF, DL.bin, DL.ite, L2.atI, mkIO, startD, sq, sAsg, sRet, sDrop, sIf, nop, Res.fl, Fl.seq, Res.bind, opt, shr, frz, gN, var, cst, val, stl, un, see, cont, fin, retD, retC, finIO, ioC, vAnd, vOr, vNot, tst, chain, mAnd, mOr, mNot, mCall, fz, frzs, aNil, aCons, mTup, mLst, cb, sees, sSet, frzv, slotL, putL, mApp, gI, gCmp, gAdd, fSub, gInt, gIx, gLen, gIsi, tyName, isTy, List.map_cons, List.map_nil, List.length_cons, List.length_nil, List.replicate_succ, List.replicate_zero, List.cons_append, List.nil_append, List.getElem?_cons_zero, List.getElem?_cons_succ, List.getElem?_nil, List.set_cons_zero, List.set_cons_succ, Option.bind_some, Option.bind_none, Option.map_some, Option.map_none, if_true, if_false, Nat.reduceAdd, Nat.reduceSub, Nat.reduceLeDiff, Bool.not_true, Bool.not_false, reduceIte, Bool.false_eq_true, ne_eq, not_true_eq_false, not_false_eq_true, h1])
  unfold mComp
  rw [hz, Res.bind_ok]
  dsimp only
  rw [zip_self, q, opt_some, Res.bind_ok]
  exact if_pos line0
theorem twin_seq {t : Nat} {xs : List D} (hx : ∀ x ∈ xs, (∃ n, x = .int n) ∨ ∃ ys, x = .tup ys) (hr : ∀ x ∈ xs, f__law_twins t [x, x] = .ok (.bl true)) :
    f__law_twins (t + 1) [.tup xs, .tup xs] = .ok (.bl true) ∧ f__law_twins (t + 1) [.lst xs, .lst xs] = .ok (.bl true) := by
  have q3 : gIn false (.int 3) (.lst [.int 2, .int 3]) = some (.bl true) := by rfl
  have q2 : gIn false (.int 2) (.lst [.int 2, .int 3]) = some (.bl true) := by rfl
  have qe : gEq (.lst []) (.lst []) = some (.bl true) := by rfl
  have l2 : 2 ≤ sizeLine := by rw [sizeLine_eq]; omega
  have c1 := twin_comp (r := f__law_twins t) (xs := xs) (a := .tup xs) (b := .tup xs) rfl hx hr
  have c2 := twin_comp (r := f__law_twins t) (xs := xs) (a := .lst xs) (b := .lst xs) rfl hx hr
  constructor <;> (unfold f__law_twins b__law_twins; simp only [mkF, DL.bin, DL.ite, L2.atI, mkIO, startD, sq, sAsg, sRet, sDrop, sIf, nop, Res.fl, Fl.seq, Res.bind, opt, shr, frz, gN, var, cst, val, stl, un, see, cont, fin, retD, retC, finIO, ioC, vAnd, vOr, vNot, tst, chain, mAnd, mOr, mNot, mCall, fz, frzs, aNil, aCons, mTup, mLst, cb, sees, sSet, frzv, slotL, putL, mApp, gI, gCmp, gAdd, fSub, gInt, gIx, gLen, gIsi, tyName, isTy, List.map_cons, List.map_nil, List.length_cons, List.length_nil, List.replicate_succ, List.replicate_zero, List.cons_append, List.nil_append, List.getElem?_cons_zero, List.getElem?_cons_succ, List.getElem?_nil, List.set_cons_zero, List.set_cons_succ, Option.bind_some, Option.bind_none, Option.map_some, Option.map_none, if_true, if_false, Nat.reduceAdd, Nat.reduceSub, Nat.reduceLeDiff, Bool.not_true, Bool.not_false, reduceIte, Bool.false_eq_true, ne_eq, not_true_eq_false, not_false_eq_true, kind_tup, kind_lst, gNe_int, gEq_int, q3, q2, qe, decide_true, l2, line0, c1, c2])
theorem twin_row (t : Nat) (r : List Int) : f__law_twins (t + 2) [rowD r, rowD r] = .ok (.bl true) :=
  (twin_seq (t := t + 1) (fun x hx => by obtain ⟨n, _, rfl⟩ := List.mem_map.mp hx; exact .inl ⟨n, rfl⟩) fun x hx => by obtain ⟨n, _, rfl⟩ := List.mem_map.mp hx; exact twin_int t n).1
theorem twin_rows (rs : List (List Int)) : f__law_twins 12 [.lst (rs.map rowD), .lst (rs.map rowD)] = .ok (.bl true) :=
  (twin_seq (t := 11) (fun x hx => by obtain ⟨n, _, rfl⟩ := List.mem_map.mp hx; exact .inr ⟨_, rfl⟩) fun x hx => by obtain ⟨n, _, rfl⟩ := List.mem_map.mp hx; exact twin_row 9 n).2
end DLaw

end M5
section M6
set_option Elab.async false
set_option linter.all false
set_option autoImplicit false
set_option maxRecDepth 100000
namespace DLaw
open PySem PySem.Spec DL
/-! ### the lot of a row -/
def LotOk (b : Int) (r : List Int) : Prop := ∃ (row rest rest2 : List D), f_figures_lot [.int b, rowD r] = .ok (.tup [.int b, .tup (.tup row :: rest), .tup (.bl true :: rest2)]) ∧ f_look_at_lot [.tup [.int b, .tup (.tup row :: rest), .tup (.bl true :: rest2)]] = .ok .non ∧ ∀ x ∈ r, L2.atI row x = some (.int 0)
theorem lot_2_0 : LotOk 2 [0] := ⟨[.int 0, .int 1], [.tup [.int 1, .int 1]], [.bl false], by kernel_rfl, by kernel_rfl, fun x hx => by
  simp only [List.mem_cons, List.not_mem_nil, or_false] at hx
  subst hx; rfl⟩
theorem lot_2_0_1 : LotOk 2 [0, 1] := ⟨[.int 0, .int 0], [], [], by kernel_rfl, by kernel_rfl, fun x hx => by
  simp only [List.mem_cons, List.not_mem_nil, or_false] at hx
  rcases hx with rfl | rfl <;> rfl⟩
theorem lots_2 : ∀ r ∈ R2, LotOk 2 r := fun r hr => by
  simp only [R2, List.mem_cons, List.not_mem_nil, or_false] at hr
  rcases hr with rfl | rfl
  · exact lot_2_0
  · exact lot_2_0_1
theorem lot_3_0 : LotOk 3 [0] := ⟨[.int 0, .int 1, .int 1], [.tup [.int 1, .int 1, .int 1]], [.bl false], by kernel_rfl, by kernel_rfl, fun x hx => by
  simp only [List.mem_cons, List.not_mem_nil, or_false] at hx
  subst hx; rfl⟩
theorem lot_3_0_1 : LotOk 3 [0, 1] := ⟨[.int 0, .int 0, .int 1], [.tup [.int 1, .int 1, .int 1]], [.bl false], by kernel_rfl, by kernel_rfl, fun x hx => by
  simp only [List.mem_cons, List.not_mem_nil, or_false] at hx
  rcases hx with rfl | rfl <;> rfl⟩
theorem lot_3_0_1_2 : LotOk 3 [0, 1, 2] := ⟨[.int 0, .int 0, .int 0], [], [], by kernel_rfl, by kernel_rfl, fun x hx => by
  simp only [List.mem_cons, List.not_mem_nil, or_false] at hx
  rcases hx with rfl | rfl | rfl <;> rfl⟩
theorem lot_3_0_2 : LotOk 3 [0, 2] := ⟨[.int 0, .int 1, .int 0], [.tup [.int 1, .int 1, .int 1]], [.bl false], by kernel_rfl, by kernel_rfl, fun x hx => by
  simp only [List.mem_cons, List.not_mem_nil, or_false] at hx
  rcases hx with rfl | rfl <;> rfl⟩
theorem lots_3 : ∀ r ∈ R3, LotOk 3 r := fun r hr => by
  simp only [R3, List.mem_cons, List.not_mem_nil, or_false] at hr
  rcases hr with rfl | rfl | rfl | rfl
  · exact lot_3_0
  · exact lot_3_0_1
  · exact lot_3_0_1_2
  · exact lot_3_0_2
theorem lot_4_0 : LotOk 4 [0] := ⟨[.int 0, .int 1, .int 1, .int 1], [.tup [.int 1, .int 1, .int 1, .int 1]], [.bl false], by kernel_rfl, by kernel_rfl, fun x hx => by
  simp only [List.mem_cons, List.not_mem_nil, or_false] at hx
  subst hx; rfl⟩
theorem lot_4_0_1 : LotOk 4 [0, 1] := ⟨[.int 0, .int 0, .int 1, .int 1], [.tup [.int 1, .int 1, .int 1, .int 1]], [.bl false], by kernel_rfl, by kernel_rfl, fun x hx => by
  simp only [List.mem_cons, List.not_mem_nil, or_false] at hx
  rcases hx with rfl | rfl <;> rfl⟩
theorem lot_4_0_1_2 : LotOk 4 [0, 1, 2] := ⟨[.int 0, .int 0, .int 0, .int 1], [.tup [.int 1, .int 1, .int 1, .int 1]], [.bl false], by kernel_rfl, by kernel_rfl, fun x hx => by
  simp only [List.mem_cons, List.not_mem_nil, or_false] at hx
  rcases hx with rfl | rfl | rfl <;> rfl⟩
theorem lot_4_0_1_2_3 : LotOk 4 [0, 1, 2, 3] := ⟨[.int 0, .int 0, .int 0, .int 0], [], [], by kernel_rfl, by kernel_rfl, fun x hx => by
  simp only [List.mem_cons, List.not_mem_nil, or_false] at hx
  rcases hx with rfl | rfl | rfl | rfl <;> rfl⟩
theorem lot_4_0_1_3 : LotOk 4 [0, 1, 3] := ⟨[.int 0, .int 0, .int 1, .int 0], [.tup [.int 1, .int 1, .int 1, .int 1]], [.bl false], by kernel_rfl, by kernel_rfl, fun x hx => by
  simp only [List.mem_cons, List.not_mem_nil, or_false] at hx
  rcases hx with rfl | rfl | rfl <;> rfl⟩
theorem lot_4_0_2 : LotOk 4 [0, 2] := ⟨[.int 0, .int 1, .int 0, .int 1], [.tup [.int 1, .int 1, .int 1, .int 1]], [.bl false], by kernel_rfl, by kernel_rfl, fun x hx => by
  simp only [List.mem_cons, List.not_mem_nil, or_false] at hx
  rcases hx with rfl | rfl <;> rfl⟩
theorem lot_4_0_2_3 : LotOk 4 [0, 2, 3] := ⟨[.int 0, .int 1, .int 0, .int 0], [.tup [.int 1, .int 1, .int 1, .int 1]], [.bl false], by kernel_rfl, by kernel_rfl, fun x hx => by
  simp only [List.mem_cons, List.not_mem_nil, or_false] at hx
  rcases hx with rfl | rfl | rfl <;> rfl⟩
theorem lot_4_0_3 : LotOk 4 [0, 3] := ⟨[.int 0, .int 1, .int 1, .int 0], [.tup [.int 1, .int 1, .int 1, .int 1]], [.bl false], by kernel_rfl, by kernel_rfl, fun x hx => by
  simp only [List.mem_cons, List.not_mem_nil, or_false] at hx
  rcases hx with rfl | rfl <;> rfl⟩
theorem lots_4 : ∀ r ∈ R4, LotOk 4 r := fun r hr => by
  simp only [R4, List.mem_cons, List.not_mem_nil, or_false] at hr
  rcases hr with rfl | rfl | rfl | rfl | rfl | rfl | rfl | rfl
  · exact lot_4_0
  · exact lot_4_0_1
  · exact lot_4_0_1_2
  · exact lot_4_0_1_2_3
  · exact lot_4_0_1_3
  · exact lot_4_0_2
  · exact lot_4_0_2_3
  · exact lot_4_0_3
theorem lots {b : Int} (h : 2 ≤ b) (h4 : b ≤ 4) : ∀ r ∈ RR b, LotOk b r := by
  rcases three h h4 with rfl | rfl | rfl
  · exact lots_2
  · exact lots_3
  · exact lots_4
theorem walk_zero {b n : Int} {row rest rest2 : List D} {r : List Int} (hr : ∀ x ∈ r, L2.atI row x = some (.int 0)) : ∀ (ds : List Int) (x3 : Option D), (∀ x ∈ ds, x ∈ r) → ∃ y,
    forL (gN 3) (sAsg (DL.bin gIx (DL.bin gIx (DL.bin gIx (var 0) (cst (.int 1))) (var 2)) (var 3)) (gN 2)) (ds.map .int) [some (.tup [.int b, .tup (.tup row :: rest), .tup (.bl true :: rest2)]), some (.int n), some (.int 0), x3] =
      .nx [some (.tup [.int b, .tup (.tup row :: rest), .tup (.bl true :: rest2)]), some (.int n), some (.int 0), y]
  | [], x3, _ => ⟨x3, by simp [forL]⟩
  | d :: ds, x3, h => by
    obtain ⟨y, ih⟩ := walk_zero (b := b) (n := n) (rest := rest) (rest2 := rest2) hr ds (some (.int d)) fun x hx => h x (List.mem_cons_of_mem _ hx)
    refine ⟨y, ?_⟩
    have i1 : L2.ixN 3 1 = some 1 := by decide
    have q := hr d (h d List.mem_cons_self)
    unfold L2.atI at q
    have i0 : L2.ixN (rest.length + 1) 0 = some 0 := by unfold L2.ixN; simp
    rw [List.map_cons, forL]
    simp only [mkF, DL.bin, DL.ite, L2.atI, mkIO, startD, sq, sAsg, sRet, sDrop, sIf, nop, Res.fl, Fl.seq, Res.bind, opt, shr, frz, gN, var, cst, val, stl, un, see, cont, fin, retD, retC, finIO, ioC, vAnd, vOr, vNot, tst, chain, mAnd, mOr, mNot, mCall, fz, frzs, aNil, aCons, mTup, mLst, cb, sees, sSet, frzv, slotL, putL, mApp, gI, gCmp, gAdd, fSub, gInt, gIx, gLen, gIsi, tyName, isTy, List.map_cons, List.map_nil, List.length_cons, List.length_nil, List.replicate_succ, List.replicate_zero, List.cons_append, List.nil_append, List.getElem?_cons_zero, List.getElem?_cons_succ, List.getElem?_nil, List.set_cons_zero, List.set_cons_succ, Option.bind_some, Option.bind_none, Option.map_some, Option.map_none, if_true, if_false, Nat.reduceAdd, Nat.reduceSub, Nat.reduceLeDiff, Bool.not_true, Bool.not_false, reduceIte, Bool.false_eq_true, ne_eq, not_true_eq_false, not_false_eq_true, i1, i0, q]
    exact ih
theorem has_ok {b n : Int} (h : 2 ≤ b) (h4 : b ≤ 4) {r : List Int} (hr : r ∈ RR b) (h0 : 0 ≤ n) (hn : n ≤ 1000000000000000000000000000000) (hl : letB b r n = true) :
    ∃ l, f_figures_lot [.int b, rowD r] = .ok (.tup l) ∧ f_has [.tup l, .int n] = .ok (.bl true) := by
  obtain ⟨row, rest, rest2, e1, e2, e3⟩ := lots h h4 r hr
  refine ⟨_, e1, ?_⟩
  have mem : ∀ x ∈ digs b 100 n, x ∈ r := fun x hx => by
    have := List.all_eq_true.mp hl x hx
    exact of_decide_eq_true this
  obtain ⟨y, w⟩ := walk_zero (b := b) (n := n) (rest := rest) (rest2 := rest2) e3 (digs b 100 n) none mem
  have i0 : L2.ixN 3 0 = some 0 := by decide
  have i2 : L2.ixN 3 2 = some 2 := by decide
  have i3 : L2.ixN (rest2.length + 1) 0 = some 0 := by unfold L2.ixN; simp
  have by_ : f_has_by [.tup [.int b, .tup (.tup row :: rest), .tup (.bl true :: rest2)], .int n] = .ok (.bl true) := by
    unfold f_has_by b_has_by
    simp only [mkF, DL.bin, DL.ite, L2.atI, mkIO, startD, sq, sAsg, sRet, sDrop, sIf, nop, Res.fl, Fl.seq, Res.bind, opt, shr, frz, gN, var, cst, val, stl, un, see, cont, fin, retD, retC, finIO, ioC, vAnd, vOr, vNot, tst, chain, mAnd, mOr, mNot, mCall, fz, frzs, aNil, aCons, mTup, mLst, cb, sees, sSet, frzv, slotL, putL, mApp, gI, gCmp, gAdd, fSub, gInt, gIx, gLen, gIsi, tyName, isTy, List.map_cons, List.map_nil, List.length_cons, List.length_nil, List.replicate_succ, List.replicate_zero, List.cons_append, List.nil_append, List.getElem?_cons_zero, List.getElem?_cons_succ, List.getElem?_nil, List.set_cons_zero, List.set_cons_succ, Option.bind_some, Option.bind_none, Option.map_some, Option.map_none, if_true, if_false, Nat.reduceAdd, Nat.reduceSub, Nat.reduceLeDiff, Bool.not_true, Bool.not_false, reduceIte, Bool.false_eq_true, ne_eq, not_true_eq_false, not_false_eq_true, sFor, iSeq, i0, figs h h4 h0 (Int.lt_of_le_of_lt hn (by decide)), seqOf]
    rw [w]
    simp only [mkF, DL.bin, DL.ite, L2.atI, mkIO, startD, sq, sAsg, sRet, sDrop, sIf, nop, Res.fl, Fl.seq, Res.bind, opt, shr, frz, gN, var, cst, val, stl, un, see, cont, fin, retD, retC, finIO, ioC, vAnd, vOr, vNot, tst, chain, mAnd, mOr, mNot, mCall, fz, frzs, aNil, aCons, mTup, mLst, cb, sees, sSet, frzv, slotL, putL, mApp, gI, gCmp, gAdd, fSub, gInt, gIx, gLen, gIsi, tyName, isTy, List.map_cons, List.map_nil, List.length_cons, List.length_nil, List.replicate_succ, List.replicate_zero, List.cons_append, List.nil_append, List.getElem?_cons_zero, List.getElem?_cons_succ, List.getElem?_nil, List.set_cons_zero, List.set_cons_succ, Option.bind_some, Option.bind_none, Option.map_some, Option.map_none, if_true, if_false, Nat.reduceAdd, Nat.reduceSub, Nat.reduceLeDiff, Bool.not_true, Bool.not_false, reduceIte, Bool.false_eq_true, ne_eq, not_true_eq_false, not_false_eq_true, i2, i3]
  unfold f_has b_has
  simp only [mkF, DL.bin, DL.ite, L2.atI, mkIO, startD, sq, sAsg, sRet, sDrop, sIf, nop, Res.fl, Fl.seq, Res.bind, opt, shr, frz, gN, var, cst, val, stl, un, see, cont, fin, retD, retC, finIO, ioC, vAnd, vOr, vNot, tst, chain, mAnd, mOr, mNot, mCall, fz, frzs, aNil, aCons, mTup, mLst, cb, sees, sSet, frzv, slotL, putL, mApp, gI, gCmp, gAdd, fSub, gInt, gIx, gLen, gIsi, tyName, isTy, List.map_cons, List.map_nil, List.length_cons, List.length_nil, List.replicate_succ, List.replicate_zero, List.cons_append, List.nil_append, List.getElem?_cons_zero, List.getElem?_cons_succ, List.getElem?_nil, List.set_cons_zero, List.set_cons_succ, Option.bind_some, Option.bind_none, Option.map_some, Option.map_none, if_true, if_false, Nat.reduceAdd, Nat.reduceSub, Nat.reduceLeDiff, Bool.not_true, Bool.not_false, reduceIte, Bool.false_eq_true, ne_eq, not_true_eq_false, not_false_eq_true, e2, look_number n 0 1000000000000000000000000000000 h0 hn, by_]
end DLaw

end M6
section W08L
set_option Elab.async false
set_option linter.all false
set_option autoImplicit false
set_option maxRecDepth 100000
set_option maxHeartbeats 4000000
namespace DLaw
open PySem PySem.Spec PyProof.Rows L2 LamX RZ DL
/-! ### law -/
def s_law : Stmt := PySem.Challenge.pw_fewfigures_k08_figures_told_by_numbers.main.body.getD 42 (.Pass ⟨0, 0, 0, 0⟩)
theorem sc_law : FnScope ["script", "at", "spring", "base", "turn", "odds", "odd", "some", "side", "due", "figures", "told_so", "wide", "row", "lets", "bars", "number", "one"] ["script"] (defScope s_law) := ⟨rfl, rfl, rfl, by decide +kernel, rfl, by decide +kernel, by decide +kernel⟩
noncomputable def b_law (errOf : Str → Option Str) (i : Addr × List Int) : MS := sq (sFor (iRange (aCons (bin gAdd (cb gMin2 (aCons (cb (gLenS i.1 i.2.length) (aCons (var 0) (aNil))) (aCons (cst (.int 6)) (aNil)))) (cst (.int 1))) (aNil))) (gN 1) (sq (sAsg (mCall (f__law_spring i) (aCons (var 0) (aCons (var 1) (aNil)))) (gN 2))
  (sq (sAsg (bin gAdd (cst (.int 2)) (mIO f__law_pick 2 (aCons (cst (.int 3)) (aNil)))) (gN 3))
  (sq (sFor (iRange (aCons (cst (.int 6)) (aNil))) (gN 4) (sq (sAsg (mLst (aNil)) (gN 7))
  (sq (sFor (iRange (aCons (cst (.int 2)) (aNil))) (gN 8) (sq (sAsg (bin gIx (mLst (aCons (cst (.int 8)) (aCons (cst (.int 70)) (aCons (bin (gI fPow) (cst (.int 10)) (cst (.int 30))) (aNil))))) (mIO f__law_pick 2 (aCons (cst (.int 3)) (aNil)))) (gN 12))
  (sq (sAsg (mComp (iRange (aCons (mIO f__law_pick 2 (aCons (cst (.int 4)) (aNil))) (aNil))) (gN 16) (tAlways) (mIO f__law_pick 2 (aCons (var 12) (aNil))) [16]) (gN 13))
  (sDrop (mApp 7 (cb gTuple (aCons (cb gSortSet (aCons (var 13) aNil)) (aNil))))))))
  (sq (sAsg (mLst (aNil)) (gN 9))
  (sq (sFor (iSeq (mCall f__law_rows (aCons (var 3) (aNil)))) (gN 10) (sq (sAsg (mComp (iSeq (bin gIx (var 7) (cst (.int 0)))) (gN 16) (tAlways) (bin gEq (mComp (iSeq (mCall f__law_figures (aCons (var 3) (aCons (var 16) (aNil))))) (gN 17) (tst (bin (gIn true) (var 17) (var 10))) (var 17) [17]) (mLst (aNil))) [16]) (gN 14))
  (sq (sAsg (mComp (iSeq (bin gIx (var 7) (cst (.int 1)))) (gN 16) (tAlways) (bin gNe (mComp (iSeq (mCall f__law_figures (aCons (var 3) (aCons (var 16) (aNil))))) (gN 17) (tst (bin (gIn true) (var 17) (var 10))) (var 17) [17]) (mLst (aNil))) [16]) (gN 15))
  (sIf (tst (bin (gIn true) (cst (.bl false)) (bin gAdd (var 14) (var 15)))) (sDrop (mApp 9 (var 10))) (nop)))))
  (sq (sAsg (mCall f_figures_told (aCons (var 3) (aCons (mTup (aCons (bin gIx (var 7) (cst (.int 0))) (aCons (bin gIx (var 7) (cst (.int 1))) (aNil)))) (aNil)))) (gN 11))
  (sq (sIf (mNot (tst (mLook (f__law_twins l__law_twins) (aCons (var 11) (aCons (var 9) (aNil)))))) (sRet (cst (.bl false))) (nop))
  (sq (sDrop (mApp 11 (cst (.str "odd"))))
  (sq (sIf (mNot (tst (mLook (f__law_twins l__law_twins) (aCons (mCall f_figures_told (aCons (var 3) (aCons (mTup (aCons (bin gIx (var 7) (cst (.int 0))) (aCons (bin gIx (var 7) (cst (.int 1))) (aNil)))) (aNil)))) (aCons (var 9) (aNil)))))) (sRet (cst (.bl false))) (nop))
  (sFor (iSeq (var 9)) (gN 10) (sIf (tst (bin gNe (mComp (iSeq (bin gIx (var 7) (cst (.int 0)))) (gN 16) (mNot (tst (mCall f_has (aCons (mCall f_figures_lot (aCons (var 3) (aCons (var 10) (aNil)))) (aCons (var 16) (aNil)))))) (var 16) [16]) (mLst (aNil)))) (sRet (cst (.bl false))) (nop))))))))))))
  (sq (sAsg (mLst (aCons (cst .non) (aCons (mTup (aNil)) (aCons (mTup (aCons (mTup (aNil)) (aNil))) (aCons (mTup (aCons (mTup (aNil)) (aCons (mTup (aNil)) (aCons (mTup (aNil)) (aNil))))) (aCons (mTup (aCons (mLst (aCons (cst (.int 1)) (aNil))) (aCons (mTup (aNil)) (aNil)))) (aCons (mTup (aCons (mTup (aCons (cst (.int 2)) (aCons (cst (.int 1)) (aNil)))) (aCons (mTup (aNil)) (aNil)))) (aCons (mTup (aCons (mTup (aNil)) (aCons (mTup (aCons (cst (.int 1)) (aCons (cst (.int 1)) (aNil)))) (aNil)))) (aCons (mTup (aCons (mTup (aNil)) (aCons (mTup (aCons (un gNeg (cst (.int 1))) (aNil))) (aNil)))) (aCons (mTup (aCons (mTup (aCons (cst (.bl true)) (aNil))) (aCons (mTup (aNil)) (aNil)))) (aNil))))))))))) (gN 5))
  (sq (sFor (iSeq (bin gAdd (var 5) (mLst (aCons (mTup (aCons (un (gRg false) (cst (.int 7))) (aCons (mTup (aNil)) (aNil)))) (aCons (mTup (aCons (mTup (aCons (bin gAdd (bin (gI fPow) (cst (.int 10)) (cst (.int 30))) (cst (.int 1))) (aNil))) (aCons (mTup (aNil)) (aNil)))) (aCons (mLst (aCons (mTup (aNil)) (aCons (mTup (aNil)) (aNil)))) (aCons (mTup (aCons (mTup (aNil)) (aCons (mTup (aCons (cst (.str "1")) (aNil))) (aNil)))) (aNil)))))))) (gN 6) (sIf (tst (bin gNe (mCame errOf (mCall f_figures_told (aCons (var 3) (aCons (var 6) (aNil))))) (cst (.str "seen")))) (sRet (cst (.bl false))) (nop)))
  (sFor (iSeq (mLst (aCons (cst .non) (aCons (cst (.int 1)) (aCons (cst (.int 5)) (aCons (cst (.bl true)) (aCons (cst (.str "2")) (aNil)))))))) (gN 6) (sIf (tst (bin gNe (mCame errOf (mCall f_figures_told (aCons (var 6) (aCons (cst .non) (aNil))))) (cst (.str "number")))) (sRet (cst (.bl false))) (nop)))))))))
  (sRet (bin gEq (mCall f_figures_told (aCons (cst (.int 3)) (aCons (mTup (aCons (mTup (aNil)) (aCons (mTup (aNil)) (aNil)))) (aNil)))) (mLst (aCons (mTup (aCons (cst (.int 0)) (aNil))) (aCons (mTup (aCons (cst (.int 0)) (aCons (cst (.int 1)) (aNil)))) (aCons (mTup (aCons (cst (.int 0)) (aCons (cst (.int 1)) (aCons (cst (.int 2)) (aNil))))) (aCons (mTup (aCons (cst (.int 0)) (aCons (cst (.int 2)) (aNil)))) (aNil))))))))
noncomputable def f_law (errOf : Str → Option Str) (i : Addr × List Int) : FD := mkF 1 18 (b_law errOf i)
theorem c_law {P : Program} {w : World} {K : PySem.W.Frag} {mg : Str → Option Value} {base : Heap} {tb : List (Addr × Str)} {a : Addr} {fd : FuncData} {c Pt : Addr} {errOf : Str → Option Str} (B : Bl mg) (c__law_spring : CalX P w K mg base tb "_law_spring" 2 1 (fun (i : Addr × List Int) H => SqL K H i.1 (i.2.map V.int)) f__law_spring) (c__law_pick : CalIO P w K mg base tb "_law_pick" 1 1 f__law_pick) (c__law_rows : Cal P w K mg base tb "_law_rows" 1 1 f__law_rows) (c__law_figures : Cal P w K mg base tb "_law_figures" 2 1 f__law_figures) (c_figures_told : Cal P w K mg base tb "figures_told" 2 3 f_figures_told) (c__law_twins : Cal P w K mg base tb "_law_twins" 2 13 (f__law_twins l__law_twins)) (c_figures_lot : Cal P w K mg base tb "figures_lot" 2 3 f_figures_lot) (c_has : Cal P w K mg base tb "has" 2 4 f_has) (O : CameOk P w K mg base tb "_law_came" 13 errOf) (TB : TabB base mg c Pt) (hT1 : (Pt, (("law" : Str) ++ ".<locals>.") ++ "<lambda>") ∈ tb) (hT2 : ∀ p ∈ tb, p.1 = Pt → p.2 = (("law" : Str) ++ ".<locals>.") ++ "<lambda>") (Fn : FunQ K "law" "law" s_law a fd fun v => v = .ref c) :
    FnOk P w K mg base (L2N.CX P w) 16 a fd ["script"] (SpX mg tb 1 (fun (i : Addr × List Int) H => SqL K H i.1 (i.2.map V.int)) (f_law errOf)) :=
  okX (k := 15) (body := b_law errOf) Fn sc_law (fun i cdv A outer s H E G hcode hr hmg htb h0 hI hpre0 tk hp => by
    subst htb
    have htb : G.tb = G.tb := rfl
    have hs : Steady' G fun H => SqL K H i.1 (i.2.map V.int) := fun H kp => sq_keep (by rw [h0]; exact hpre0) hI kp
    have hpre : ∀ H, Keep G H → SqL K H i.1 (i.2.map V.int) := hs
    exact dss_cons (ds_for hp rfl (di_range1 (by rfl) B.b_range (da_cons (de_bin or_adds od_add (de_cb (call_min2 rfl) cd_min2 (by rfl) B.b_min boot_min (da_cons (de_lenS hs (by rfl) B.b_len (da_cons (dv 0) (da_nil))) (da_cons (de_int) (da_nil)))) (de_int)) (da_nil)) (fun ls ds ls' q => aCons_len aNil_len ls ds ls' q)) (dg_name sc_law.nd rfl (by first | exact Or.inl rfl | exact Or.inr rfl)) (dss_cons (ds_set (i := 2) sc_law.nd rfl (by first | exact Or.inl rfl | exact Or.inr rfl) (de_calX c__law_spring i hpre htb hmg tk (Room.mono hr (by decide)) (by rfl) (da_cons (dv 0) (da_cons (dv 1) (da_nil)))))
        (dss_cons (ds_set (i := 3) sc_law.nd rfl (by first | exact Or.inl rfl | exact Or.inr rfl) (de_bin or_adds od_add (de_int) (de_calIO c__law_pick htb tk (Room.mono hr (by decide)) (by rfl) (pv 2) (da_cons (de_int) (da_nil)))))
        (dss_cons (ds_for hp rfl (di_range1 (by rfl) B.b_range (da_cons (de_int) (da_nil)) (fun ls ds ls' q => aCons_len aNil_len ls ds ls' q)) (dg_name sc_law.nd rfl (by first | exact Or.inl rfl | exact Or.inr rfl)) (dss_cons (ds_set (i := 7) sc_law.nd rfl (by first | exact Or.inl rfl | exact Or.inr rfl) (de_lst (da_nil)))
        (dss_cons (ds_for hp rfl (di_range1 (by rfl) B.b_range (da_cons (de_int) (da_nil)) (fun ls ds ls' q => aCons_len aNil_len ls ds ls' q)) (dg_name sc_law.nd rfl (by first | exact Or.inl rfl | exact Or.inr rfl)) (dss_cons (ds_set (i := 12) sc_law.nd rfl (by first | exact Or.inl rfl | exact Or.inr rfl) (de_ix ix_seq od_ix (de_lst (da_cons (de_int) (da_cons (de_int) (da_cons (de_bin op_pow od_pow (de_int) (de_int)) (da_nil))))) (de_calIO c__law_pick htb tk (Room.mono hr (by decide)) (by rfl) (pv 2) (da_cons (de_int) (da_nil))) (fun _ _ => rfl)))
        (dss_cons (ds_setLc (i := 13) (own := [("number", 16)]) (ks := [16]) rfl sc_law.nd rfl rfl (sw_true rfl rfl rfl rfl) (di_range1 (by rfl) B.b_range (da_cons (de_calIO c__law_pick htb tk (Room.mono hr (by decide)) (by rfl) (pv 2) (da_cons (de_int) (da_nil))) (da_nil)) (fun ls ds ls' q => aCons_len aNil_len ls ds ls' q)) (blkOk_by (by rfl)) (by decide) (fun _ _ _ _ _ _ => dg_name sc_law.nd rfl (by first | exact Or.inl rfl | exact Or.inr rfl)) (fun _ _ _ _ _ _ => dts_nil) (fun _ _ _ _ _ _ => de_calIO c__law_pick htb takes0N (Room.mono hr (by decide)) (by rfl) (pv 2) (da_cons (dv 12) (da_nil))))
        (dss_one (ds_expr (de_append (pv 7) (de_cty call_tuple_of cd_tuple (by rfl) B.b_tuple boot_tuple (da_cons (de_sortSet rfl (by rfl) B.b_sorted (by rfl) B.b_set (dv 13)) (da_nil))) (pe_bm PySem.F.plainAttrs_list PySem.F.slot_list_append PySem.F.type_list_append mt_append (pv 7) (pa_cons (de_cty call_tuple_of cd_tuple (by rfl) B.b_tuple boot_tuple (da_cons (de_sortSet rfl (by rfl) B.b_sorted (by rfl) B.b_set (dv 13)) (da_nil))) pa_nil))))))))
        (dss_cons (ds_set (i := 9) sc_law.nd rfl (by first | exact Or.inl rfl | exact Or.inr rfl) (de_lst (da_nil)))
        (dss_cons (ds_for hp rfl (di_seq (de_cal c__law_rows htb hmg tk (Room.mono hr (by first | decide | omega)) (by rfl) (da_cons (dv 3) (da_nil)))) (dg_name sc_law.nd rfl (by first | exact Or.inl rfl | exact Or.inr rfl)) (dss_cons (ds_setLc (i := 14) (own := [("number", 16)]) (ks := [16]) rfl sc_law.nd rfl rfl (sw_true rfl rfl rfl rfl) (di_seq (de_ix ix_seq od_ix (dv 7) (de_int) (fun _ _ => rfl))) (blkOk_by (by rfl)) (by decide) (fun _ _ _ _ _ _ => dg_name sc_law.nd rfl (by first | exact Or.inl rfl | exact Or.inr rfl)) (fun _ _ _ _ _ _ => dts_nil) (fun _ _ _ _ _ _ => de_cmp (op_eqD (Room.units hr)) od_eq (de_lc (own := [("one", 17)]) (ks := [17]) rfl sc_law.nd (di_seq (de_cal c__law_figures htb hmg takes0N (Room.mono hr (by first | decide | omega)) (by rfl) (da_cons (dv 3) (da_cons (dv 16) (da_nil))))) (blkOk_by (by rfl)) (by decide) (fun _ _ _ _ _ _ => dg_name sc_law.nd rfl (by first | exact Or.inl rfl | exact Or.inr rfl)) (fun _ _ _ _ _ _ => dts_one (dt_cmp op_notIn_seq od_in (dv 17) (dv 10) (by with_unfolding_all rfl))) (fun _ _ _ _ _ _ => dv 17)) (de_lst (da_nil)) (nomark _)))
        (dss_cons (ds_setLc (i := 15) (own := [("number", 16)]) (ks := [16]) rfl sc_law.nd rfl rfl (sw_true rfl rfl rfl rfl) (di_seq (de_ix ix_seq od_ix (dv 7) (de_int) (fun _ _ => rfl))) (blkOk_by (by rfl)) (by decide) (fun _ _ _ _ _ _ => dg_name sc_law.nd rfl (by first | exact Or.inl rfl | exact Or.inr rfl)) (fun _ _ _ _ _ _ => dts_nil) (fun _ _ _ _ _ _ => de_cmp (op_neD (Room.units hr)) od_ne (de_lc (own := [("one", 17)]) (ks := [17]) rfl sc_law.nd (di_seq (de_cal c__law_figures htb hmg takes0N (Room.mono hr (by first | decide | omega)) (by rfl) (da_cons (dv 3) (da_cons (dv 16) (da_nil))))) (blkOk_by (by rfl)) (by decide) (fun _ _ _ _ _ _ => dg_name sc_law.nd rfl (by first | exact Or.inl rfl | exact Or.inr rfl)) (fun _ _ _ _ _ _ => dts_one (dt_cmp op_notIn_seq od_in (dv 17) (dv 10) (by with_unfolding_all rfl))) (fun _ _ _ _ _ _ => dv 17)) (de_lst (da_nil)) (nomark _)))
        (dss_one (ds_if (dt_cmp op_notIn_seq od_in (de_bl) (de_bin or_adds od_add (dv 14) (dv 15)) (by with_unfolding_all rfl)) (dss_one (ds_expr (de_append (pv 9) (dv 10) (pe_bm PySem.F.plainAttrs_list PySem.F.slot_list_append PySem.F.type_list_append mt_append (pv 9) (pa_cons (dv 10) pa_nil))))) (dss_nil))))))
        (dss_cons (ds_set (i := 11) sc_law.nd rfl (by first | exact Or.inl rfl | exact Or.inr rfl) (de_cal c_figures_told htb hmg tk (Room.mono hr (by first | decide | omega)) (by rfl) (da_cons (dv 3) (da_cons (de_tup (da_cons (de_ix ix_seq od_ix (dv 7) (de_int) (fun _ _ => rfl)) (da_cons (de_ix ix_seq od_ix (dv 7) (de_int) (fun _ _ => rfl)) (da_nil)))) (da_nil)))))
        (dss_cons (ds_if (dt_not (dt_val (de_calB c__law_twins htb hmg tk (Room.mono hr (by first | decide | omega)) (by rfl) (da_cons (dv 11) (da_cons (dv 9) (da_nil)))))) (dss_one (ds_ret (de_bl))) (dss_nil))
        (dss_cons (ds_expr (de_append (pv 11) (de_str) (pe_bm PySem.F.plainAttrs_list PySem.F.slot_list_append PySem.F.type_list_append mt_append (pv 11) (pa_cons (de_str) pa_nil))))
        (dss_cons (ds_if (dt_not (dt_val (de_calB c__law_twins htb hmg tk (Room.mono hr (by first | decide | omega)) (by rfl) (da_cons (de_cal c_figures_told htb hmg tk (Room.mono hr (by first | decide | omega)) (by rfl) (da_cons (dv 3) (da_cons (de_tup (da_cons (de_ix ix_seq od_ix (dv 7) (de_int) (fun _ _ => rfl)) (da_cons (de_ix ix_seq od_ix (dv 7) (de_int) (fun _ _ => rfl)) (da_nil)))) (da_nil)))) (da_cons (dv 9) (da_nil)))))) (dss_one (ds_ret (de_bl))) (dss_nil))
        (dss_one (ds_for hp rfl (di_seq (dv 9)) (dg_name sc_law.nd rfl (by first | exact Or.inl rfl | exact Or.inr rfl)) (dss_one (ds_if (dt_cmp (op_neD (Room.units hr)) od_ne (de_lc (own := [("number", 16)]) (ks := [16]) rfl sc_law.nd (di_seq (de_ix ix_seq od_ix (dv 7) (de_int) (fun _ _ => rfl))) (blkOk_by (by rfl)) (by decide) (fun _ _ _ _ _ _ => dg_name sc_law.nd rfl (by first | exact Or.inl rfl | exact Or.inr rfl)) (fun _ _ _ _ _ _ => dts_one (dt_not (dt_val (de_cal c_has htb hmg takes0N (Room.mono hr (by first | decide | omega)) (by rfl) (da_cons (de_cal c_figures_lot htb hmg takes0N (Room.mono hr (by first | decide | omega)) (by rfl) (da_cons (dv 3) (da_cons (dv 10) (da_nil)))) (da_cons (dv 16) (da_nil))))))) (fun _ _ _ _ _ _ => dv 16)) (de_lst (da_nil)) (nomark _)) (dss_one (ds_ret (de_bl))) (dss_nil))))))))))))))
        (dss_cons (ds_set (i := 5) sc_law.nd rfl (by first | exact Or.inl rfl | exact Or.inr rfl) (de_lst (da_cons (de_non) (da_cons (de_tup (da_nil)) (da_cons (de_tup (da_cons (de_tup (da_nil)) (da_nil))) (da_cons (de_tup (da_cons (de_tup (da_nil)) (da_cons (de_tup (da_nil)) (da_cons (de_tup (da_nil)) (da_nil))))) (da_cons (de_tup (da_cons (de_lst (da_cons (de_int) (da_nil))) (da_cons (de_tup (da_nil)) (da_nil)))) (da_cons (de_tup (da_cons (de_tup (da_cons (de_int) (da_cons (de_int) (da_nil)))) (da_cons (de_tup (da_nil)) (da_nil)))) (da_cons (de_tup (da_cons (de_tup (da_nil)) (da_cons (de_tup (da_cons (de_int) (da_cons (de_int) (da_nil)))) (da_nil)))) (da_cons (de_tup (da_cons (de_tup (da_nil)) (da_cons (de_tup (da_cons (de_un un_neg ud_neg (de_int)) (da_nil))) (da_nil)))) (da_cons (de_tup (da_cons (de_tup (da_cons (de_bl) (da_nil))) (da_cons (de_tup (da_nil)) (da_nil)))) (da_nil))))))))))))
        (dss_cons (ds_for hp rfl (di_seq (de_bin or_adds od_add (dv 5) (de_lst (da_cons (de_tup (da_cons (de_tupRg rfl (by rfl) B.b_tuple (by rfl) B.b_range (de_int)) (da_cons (de_tup (da_nil)) (da_nil)))) (da_cons (de_tup (da_cons (de_tup (da_cons (de_bin or_adds od_add (de_bin op_pow od_pow (de_int) (de_int)) (de_int)) (da_nil))) (da_cons (de_tup (da_nil)) (da_nil)))) (da_cons (de_lst (da_cons (de_tup (da_nil)) (da_cons (de_tup (da_nil)) (da_nil)))) (da_cons (de_tup (da_cons (de_tup (da_nil)) (da_cons (de_tup (da_cons (de_str) (da_nil))) (da_nil)))) (da_nil)))))))) (dg_name sc_law.nd rfl (by first | exact Or.inl rfl | exact Or.inr rfl)) (dss_one (ds_if (dt_cmp (op_neD (Room.units hr)) od_ne (de_came O hmg (by rfl) TB hcode (("law" : Str) ++ ".<locals>.") (by rfl) hT1 hT2 (Room.mono hr (by decide)) (lamS_by (by rfl)) (fun _ _ _ _ _ _ _ G' hr' hmg' htb0 tk' => have htb' := htb0; de_cal c_figures_told htb' hmg' tk' (Room.mono hr' (by first | decide | omega)) (by rfl) (da_cons (dv 3) (da_cons (dv 6) (da_nil))))) (de_str) (nomark _)) (dss_one (ds_ret (de_bl))) (dss_nil))))
        (dss_one (ds_for hp rfl (di_seq (de_lst (da_cons (de_non) (da_cons (de_int) (da_cons (de_int) (da_cons (de_bl) (da_cons (de_str) (da_nil)))))))) (dg_name sc_law.nd rfl (by first | exact Or.inl rfl | exact Or.inr rfl)) (dss_one (ds_if (dt_cmp (op_neD (Room.units hr)) od_ne (de_came O hmg (by rfl) TB hcode (("law" : Str) ++ ".<locals>.") (by rfl) hT1 hT2 (Room.mono hr (by decide)) (lamS_by (by rfl)) (fun _ _ _ _ _ _ _ G' hr' hmg' htb0 tk' => have htb' := htb0; de_cal c_figures_told htb' hmg' tk' (Room.mono hr' (by first | decide | omega)) (by rfl) (da_cons (dv 6) (da_cons (de_non) (da_nil))))) (de_str) (nomark _)) (dss_one (ds_ret (de_bl))) (dss_nil)))))))))))
        (dss_one (ds_ret (de_cmp (op_eqD (Room.units hr)) od_eq (de_cal c_figures_told htb hmg tk (Room.mono hr (by first | decide | omega)) (by rfl) (da_cons (de_int) (da_cons (de_tup (da_cons (de_tup (da_nil)) (da_cons (de_tup (da_nil)) (da_nil)))) (da_nil)))) (de_lst (da_cons (de_tup (da_cons (de_int) (da_nil))) (da_cons (de_tup (da_cons (de_int) (da_cons (de_int) (da_nil)))) (da_cons (de_tup (da_cons (de_int) (da_cons (de_int) (da_cons (de_int) (da_nil))))) (da_cons (de_tup (da_cons (de_int) (da_cons (de_int) (da_nil)))) (da_nil)))))) (nomark _))))) (fun i ds hl _ => mkF_eq ds hl)
end DLaw

end W08L
section M7
set_option Elab.async false
set_option linter.all false
set_option autoImplicit false
set_option maxRecDepth 100000
namespace DLaw
open PySem PySem.Spec DL
/-! ### draws -/
def Spr (d : D) : Prop := ∃ s0 s1 : Int, d = .lst [.int s0, .int s1] ∧ 0 ≤ s0 ∧ 0 ≤ s1 ∧ s1 < 999999999989
theorem gMul_small {x : Int} (c : Int) (h : -(2 ^ 64) < x ∧ x < 2 ^ 64) : gMul (.int x) (.int c) = some (.int (x * c)) := by
  unfold gMul
  exact if_pos (.inr (.inl h))
theorem gMul_small2 {x : Int} (c : Int) (h : -(2 ^ 64) < x ∧ x < 2 ^ 64) : gMul (.int c) (.int x) = some (.int (c * x)) := by
  unfold gMul
  exact if_pos (.inr (.inr h))
theorem fdiv_any {m : Int} (h0 : 0 < m) (h : m ≤ 1000000000000000000000000000000) (n : Int) : fDiv n m = some (n / m) := by
  unfold fDiv
  refine if_pos ⟨h0, ?_⟩
  have h2 : m.natAbs < 2 ^ 9000 := by
    have : m.natAbs < 2 ^ 100 := by omega
    exact Nat.lt_of_lt_of_le this (Nat.pow_le_pow_right (by decide) (by decide))
  exact (Nat.log2_lt (by omega)).mpr h2
theorem pick {sp : D} (hs : Spr sp) {m : Int} (h0 : 0 < m) (hm : m ≤ 1000000000000000000000000000000) : ∃ d sp', f__law_pick sp [.int m] = .ok (.int d, sp') ∧ 0 ≤ d ∧ d < m ∧ Spr sp' := by
  obtain ⟨s0, s1, rfl, a0, a1, a2⟩ := hs
  have i0 : L2.ixN 2 0 = some 0 := by decide
  have i1 : L2.ixN 2 1 = some 1 := by decide
  by_cases hp : 0 < s0
  · refine ⟨s0 % m, _, ?_, Int.emod_nonneg _ (by omega), Int.emod_lt_of_pos _ h0, ⟨s0 / m, s1, rfl, Int.ediv_nonneg a0 (by omega), a1, a2⟩⟩
    unfold f__law_pick b__law_pick
    simp only [mkF, DL.bin, DL.ite, L2.atI, mkIO, startD, sq, sAsg, sRet, sDrop, sIf, nop, Res.fl, Fl.seq, Res.bind, opt, shr, frz, gN, var, cst, val, stl, un, see, cont, fin, retD, retC, finIO, ioC, vAnd, vOr, vNot, tst, chain, mAnd, mOr, mNot, mCall, fz, frzs, aNil, aCons, mTup, mLst, cb, sees, sSet, frzv, slotL, putL, mApp, gI, gCmp, gAdd, fSub, gInt, gIx, gLen, gIsi, tyName, isTy, List.map_cons, List.map_nil, List.length_cons, List.length_nil, List.replicate_succ, List.replicate_zero, List.cons_append, List.nil_append, List.getElem?_cons_zero, List.getElem?_cons_succ, List.getElem?_nil, List.set_cons_zero, List.set_cons_succ, Option.bind_some, Option.bind_none, Option.map_some, Option.map_none, if_true, if_false, Nat.reduceAdd, Nat.reduceSub, Nat.reduceLeDiff, Bool.not_true, Bool.not_false, reduceIte, Bool.false_eq_true, ne_eq, not_true_eq_false, not_false_eq_true, i0, i1, decide_eq_true hp, fmod_ok h0, fdiv_any h0 hm]
  · have q := gMul_small (x := s1) 393555900739 (by constructor <;> omega)
    have hm2 := fmod_ok (b := 999999999989) (by decide) (s1 * 393555900739 + 8191)
    have hd2 := fdiv_any (m := 4093) (by decide) (by decide) ((s1 * 393555900739 + 8191) % 999999999989)
    refine ⟨(s1 * 393555900739 + 8191) % 999999999989 / 4093 % m, _, ?_, Int.emod_nonneg _ (by omega), Int.emod_lt_of_pos _ h0, ⟨s0, (s1 * 393555900739 + 8191) % 999999999989, rfl, a0, Int.emod_nonneg _ (by decide), Int.emod_lt_of_pos _ (by decide)⟩⟩
    unfold f__law_pick b__law_pick
    simp only [mkF, DL.bin, DL.ite, L2.atI, mkIO, startD, sq, sAsg, sRet, sDrop, sIf, nop, Res.fl, Fl.seq, Res.bind, opt, shr, frz, gN, var, cst, val, stl, un, see, cont, fin, retD, retC, finIO, ioC, vAnd, vOr, vNot, tst, chain, mAnd, mOr, mNot, mCall, fz, frzs, aNil, aCons, mTup, mLst, cb, sees, sSet, frzv, slotL, putL, mApp, gI, gCmp, gAdd, fSub, gInt, gIx, gLen, gIsi, tyName, isTy, List.map_cons, List.map_nil, List.length_cons, List.length_nil, List.replicate_succ, List.replicate_zero, List.cons_append, List.nil_append, List.getElem?_cons_zero, List.getElem?_cons_succ, List.getElem?_nil, List.set_cons_zero, List.set_cons_succ, Option.bind_some, Option.bind_none, Option.map_some, Option.map_none, if_true, if_false, Nat.reduceAdd, Nat.reduceSub, Nat.reduceLeDiff, Bool.not_true, Bool.not_false, reduceIte, Bool.false_eq_true, ne_eq, not_true_eq_false, not_false_eq_true, i0, i1, decide_eq_false hp, q, hm2, hd2, fmod_ok h0]
/-- a draw from the spring in slot 2 -/
theorem pick_at {ls : LS} {sp : D} {m : Int} {e : ME} (h2 : ls[2]? = some (some (.own sp))) (he : val e ls = .ok (.int m, ls)) {d : Int} {sp' : D} (hp : f__law_pick sp [.int m] = .ok (.int d, sp')) :
    mIO f__law_pick 2 (aCons e (aNil)) ls = .ok (.int d, ls.set 2 (some (.own sp'))) := by
  unfold mIO
  simp only [var, h2, Res.bind, fz, aCons, he, aNil, opt, frzs, frz, Option.bind_some, hp]
theorem spring (i : Addr × List Int) (hb : ∀ z ∈ i.2, True) {at_ : Int} (h0 : 0 ≤ at_) (h1 : at_ ≤ 63) : ∃ sp, f__law_spring i [.ref i.1, .int at_] = .ok (.own sp) ∧ Spr sp := by
  have l2 : 2 ≤ sizeLine := by rw [sizeLine_eq]; omega
  have p18 : fPow 10 18 = some 1000000000000000000 := by kernel_rfl
  have key : ∀ cell : Int, 0 ≤ cell → ∃ sp, Spr sp ∧ ∀ ls : LS, ls = [some (.ref i.1), some (.int at_), some (.int cell), none] → (sq (sAsg (DL.bin (gI fMod) (cb gInt (aCons (DL.bin gAdd (DL.bin gAdd (DL.bin gMul (var 2) (cst (.int 863))) (DL.bin gMul (cst (.int 524287)) (var 1))) (cst (.int 1))) (aNil))) (cst (.int 999999999989))) (gN 3))
      (sRet (mLst (aCons (DL.ite (tst (DL.bin gGe (var 2) (DL.bin (gI fPow) (cst (.int 10)) (cst (.int 18))))) (var 2) (cst (.int 0))) (aCons (var 3) (aNil)))))) ls = .rt (.own sp) [some (.ref i.1), some (.int at_), some (.int cell), some (.int ((cell * 863 + 524287 * at_ + 1) % 999999999989))] := fun cell hc => by
    have q1 := gMul_small2 (x := 863) cell (by decide)
    have q2 := gMul_small2 (x := at_) 524287 (by constructor <;> omega)
    have q3 := fmod_ok (b := 999999999989) (by decide) (cell * 863 + 524287 * at_ + 1)
    by_cases hg : 1000000000000000000 ≤ cell
    · refine ⟨.lst [.int cell, .int ((cell * 863 + 524287 * at_ + 1) % 999999999989)], ⟨_, _, rfl, hc, Int.emod_nonneg _ (by decide), Int.emod_lt_of_pos _ (by decide)⟩, fun ls hl => ?_⟩
      subst hl
      simp only [mkF, DL.bin, DL.ite, L2.atI, mkIO, startD, sq, sAsg, sRet, sDrop, sIf, nop, Res.fl, Fl.seq, Res.bind, opt, shr, frz, gN, var, cst, val, stl, un, see, cont, fin, retD, retC, finIO, ioC, vAnd, vOr, vNot, tst, chain, mAnd, mOr, mNot, mCall, fz, frzs, aNil, aCons, mTup, mLst, cb, sees, sSet, frzv, slotL, putL, mApp, gI, gCmp, gAdd, fSub, gInt, gIx, gLen, gIsi, tyName, isTy, List.map_cons, List.map_nil, List.length_cons, List.length_nil, List.replicate_succ, List.replicate_zero, List.cons_append, List.nil_append, List.getElem?_cons_zero, List.getElem?_cons_succ, List.getElem?_nil, List.set_cons_zero, List.set_cons_succ, Option.bind_some, Option.bind_none, Option.map_some, Option.map_none, if_true, if_false, Nat.reduceAdd, Nat.reduceSub, Nat.reduceLeDiff, Bool.not_true, Bool.not_false, reduceIte, Bool.false_eq_true, ne_eq, not_true_eq_false, not_false_eq_true, q1, q2, q3, p18, decide_eq_true hg, l2]
    · refine ⟨.lst [.int 0, .int ((cell * 863 + 524287 * at_ + 1) % 999999999989)], ⟨_, _, rfl, Int.le_refl _, Int.emod_nonneg _ (by decide), Int.emod_lt_of_pos _ (by decide)⟩, fun ls hl => ?_⟩
      subst hl
      simp only [mkF, DL.bin, DL.ite, L2.atI, mkIO, startD, sq, sAsg, sRet, sDrop, sIf, nop, Res.fl, Fl.seq, Res.bind, opt, shr, frz, gN, var, cst, val, stl, un, see, cont, fin, retD, retC, finIO, ioC, vAnd, vOr, vNot, tst, chain, mAnd, mOr, mNot, mCall, fz, frzs, aNil, aCons, mTup, mLst, cb, sees, sSet, frzv, slotL, putL, mApp, gI, gCmp, gAdd, fSub, gInt, gIx, gLen, gIsi, tyName, isTy, List.map_cons, List.map_nil, List.length_cons, List.length_nil, List.replicate_succ, List.replicate_zero, List.cons_append, List.nil_append, List.getElem?_cons_zero, List.getElem?_cons_succ, List.getElem?_nil, List.set_cons_zero, List.set_cons_succ, Option.bind_some, Option.bind_none, Option.map_some, Option.map_none, if_true, if_false, Nat.reduceAdd, Nat.reduceSub, Nat.reduceLeDiff, Bool.not_true, Bool.not_false, reduceIte, Bool.false_eq_true, ne_eq, not_true_eq_false, not_false_eq_true, q1, q2, q3, p18, decide_eq_false hg, l2]
  by_cases hl : at_ < (i.2.length : Int)
  · obtain ⟨z, hz⟩ : ∃ z, L2.atI i.2 at_ = some z := by
      have hn : at_.toNat < i.2.length := by omega
      refine ⟨i.2[at_.toNat], ?_⟩
      unfold L2.atI L2.ixN
      rw [if_pos (by omega), if_pos (by omega)] <;> simp [hn]
    obtain ⟨sp, g1, g2⟩ := key (if z < 0 then -z else z) (by split <;> omega)
    refine ⟨sp, ?_, g1⟩
    have g3 := g2 _ rfl
    simp only [sq] at g3
    have gx : gIxS i.1 i.2 (.ref i.1) (.int at_) = some (.int z) := by unfold gIxS; simp only [if_true]; rw [hz]; rfl
    unfold f__law_spring b__law_spring
    simp only [mkF, sq, startD, sAsg, cst, gLenS, gAbs, gx, sIf, mkF, DL.bin, DL.ite, L2.atI, mkIO, startD, sq, sAsg, sRet, sDrop, sIf, nop, Res.fl, Fl.seq, Res.bind, opt, shr, frz, gN, var, cst, val, stl, un, see, cont, fin, retD, retC, finIO, ioC, vAnd, vOr, vNot, tst, chain, mAnd, mOr, mNot, mCall, fz, frzs, aNil, aCons, mTup, mLst, cb, sees, sSet, frzv, slotL, putL, mApp, gI, gCmp, gAdd, fSub, gInt, gIx, gLen, gIsi, tyName, isTy, List.map_cons, List.map_nil, List.length_cons, List.length_nil, List.replicate_succ, List.replicate_zero, List.cons_append, List.nil_append, List.getElem?_cons_zero, List.getElem?_cons_succ, List.getElem?_nil, List.set_cons_zero, List.set_cons_succ, Option.bind_some, Option.bind_none, Option.map_some, Option.map_none, if_true, if_false, Nat.reduceAdd, Nat.reduceSub, Nat.reduceLeDiff, Bool.not_true, Bool.not_false, reduceIte, Bool.false_eq_true, ne_eq, not_true_eq_false, not_false_eq_true, decide_eq_true hl]
    simp only [mkF, DL.bin, DL.ite, L2.atI, mkIO, startD, sq, sAsg, sRet, sDrop, sIf, nop, Res.fl, Fl.seq, Res.bind, opt, shr, frz, gN, var, cst, val, stl, un, see, cont, fin, retD, retC, finIO, ioC, vAnd, vOr, vNot, tst, chain, mAnd, mOr, mNot, mCall, fz, frzs, aNil, aCons, mTup, mLst, cb, sees, sSet, frzv, slotL, putL, mApp, gI, gCmp, gAdd, fSub, gInt, gIx, gLen, gIsi, tyName, isTy, List.map_cons, List.map_nil, List.length_cons, List.length_nil, List.replicate_succ, List.replicate_zero, List.cons_append, List.nil_append, List.getElem?_cons_zero, List.getElem?_cons_succ, List.getElem?_nil, List.set_cons_zero, List.set_cons_succ, Option.bind_some, Option.bind_none, Option.map_some, Option.map_none, if_true, if_false, Nat.reduceAdd, Nat.reduceSub, Nat.reduceLeDiff, Bool.not_true, Bool.not_false, reduceIte, Bool.false_eq_true, ne_eq, not_true_eq_false, not_false_eq_true] at g3
    rw [g3]
  · obtain ⟨sp, g1, g2⟩ := key 7 (by decide)
    refine ⟨sp, ?_, g1⟩
    have g3 := g2 _ rfl
    unfold f__law_spring b__law_spring
    simp only [gLenS, mkF, DL.bin, DL.ite, L2.atI, mkIO, startD, sq, sAsg, sRet, sDrop, sIf, nop, Res.fl, Fl.seq, Res.bind, opt, shr, frz, gN, var, cst, val, stl, un, see, cont, fin, retD, retC, finIO, ioC, vAnd, vOr, vNot, tst, chain, mAnd, mOr, mNot, mCall, fz, frzs, aNil, aCons, mTup, mLst, cb, sees, sSet, frzv, slotL, putL, mApp, gI, gCmp, gAdd, fSub, gInt, gIx, gLen, gIsi, tyName, isTy, List.map_cons, List.map_nil, List.length_cons, List.length_nil, List.replicate_succ, List.replicate_zero, List.cons_append, List.nil_append, List.getElem?_cons_zero, List.getElem?_cons_succ, List.getElem?_nil, List.set_cons_zero, List.set_cons_succ, Option.bind_some, Option.bind_none, Option.map_some, Option.map_none, if_true, if_false, Nat.reduceAdd, Nat.reduceSub, Nat.reduceLeDiff, Bool.not_true, Bool.not_false, reduceIte, Bool.false_eq_true, ne_eq, not_true_eq_false, not_false_eq_true, decide_eq_false hl]
    simp only [mkF, DL.bin, DL.ite, L2.atI, mkIO, startD, sq, sAsg, sRet, sDrop, sIf, nop, Res.fl, Fl.seq, Res.bind, opt, shr, frz, gN, var, cst, val, stl, un, see, cont, fin, retD, retC, finIO, ioC, vAnd, vOr, vNot, tst, chain, mAnd, mOr, mNot, mCall, fz, frzs, aNil, aCons, mTup, mLst, cb, sees, sSet, frzv, slotL, putL, mApp, gI, gCmp, gAdd, fSub, gInt, gIx, gLen, gIsi, tyName, isTy, List.map_cons, List.map_nil, List.length_cons, List.length_nil, List.replicate_succ, List.replicate_zero, List.cons_append, List.nil_append, List.getElem?_cons_zero, List.getElem?_cons_succ, List.getElem?_nil, List.set_cons_zero, List.set_cons_succ, Option.bind_some, Option.bind_none, Option.map_some, Option.map_none, if_true, if_false, Nat.reduceAdd, Nat.reduceSub, Nat.reduceLeDiff, Bool.not_true, Bool.not_false, reduceIte, Bool.false_eq_true, ne_eq, not_true_eq_false, not_false_eq_true] at g3
    rw [g3]
end DLaw

end M7
section M8
set_option Elab.async false
set_option linter.all false
set_option autoImplicit false
set_option maxRecDepth 100000
namespace DLaw
open PySem PySem.Spec DL
theorem upInts_len (lo : Int) (n : Nat) : (intsUp lo n).length = n := by unfold intsUp; rw [List.length_map, List.length_range]
/-- the numbers that are drawn in a comprehension -/
theorem comp_pick : ∀ (ds : List D) (ls : LS) (sp : D) (m : Int), ls[2]? = some (some (.own sp)) → Spr sp → ls[12]? = some (some (.int m)) → 0 < m → m ≤ 1000000000000000000000000000000 → ∃ (ns : List Int) (sp' : D),
    compL (gN 16) tAlways (mIO f__law_pick 2 (aCons (var 12) (aNil))) [16] ds (ls.set 16 none) = some (ns.map .int, (ls.set 2 (some (.own sp'))).set 16 none) ∧ ns.length = ds.length ∧ (∀ x ∈ ns, 0 ≤ x ∧ x < m) ∧ Spr sp'
  | [], ls, sp, m, h2, hs, h12, h0, hm => ⟨[], sp, by
      have e : ls.set 2 (some (.own sp)) = ls := by
        obtain ⟨q, e⟩ := List.getElem?_eq_some_iff.mp h2
        rw [← e, List.set_getElem_self]
      rw [e]; rfl, rfl, fun x hx => (nomatch hx), hs⟩
  | d :: ds, ls, sp, m, h2, hs, h12, h0, hm => by
    obtain ⟨x, sp1, p1, p2, p3, p4⟩ := pick hs h0 hm
    have h2' : (ls.set 16 (some d))[2]? = some (some (.own sp)) := by rw [List.getElem?_set_ne (by decide)]; exact h2
    have h12' : (ls.set 16 (some d))[12]? = some (some (.int m)) := by rw [List.getElem?_set_ne (by decide)]; exact h12
    have hv : val (var 12) (ls.set 16 (some d)) = .ok (.int m, ls.set 16 (some d)) := by simp only [val, var, h12', Res.bind, stl, opt]
    have q := pick_at h2' hv p1
    have h2n : (ls.set 2 (some (.own sp1)))[2]? = some (some (.own sp1)) := List.getElem?_set_self (List.getElem?_eq_some_iff.mp h2).1
    have h12n : (ls.set 2 (some (.own sp1)))[12]? = some (some (.int m)) := by rw [List.getElem?_set_ne (by decide)]; exact h12
    obtain ⟨ns, sp2, c1, c2, c3, c4⟩ := comp_pick ds (ls.set 2 (some (.own sp1))) sp1 m h2n p4 h12n h0 hm
    refine ⟨x :: ns, sp2, ?_, by rw [List.length_cons, List.length_cons, c2], ?_, c4⟩
    · have fz : frzv (mIO f__law_pick 2 (aCons (var 12) (aNil))) (ls.set 16 (some d)) = .ok (.int x, (ls.set 16 (some d)).set 2 (some (.own sp1))) := by
        simp only [frzv, val, q, Res.bind, stl, opt, frz]
      have e : (((ls.set 16 (some d)).set 2 (some (.own sp1))).set 16 none) = (ls.set 2 (some (.own sp1))).set 16 none := by
        rw [List.set_comm _ _ (by decide), List.set_set, List.set_comm _ _ (by decide)]
      unfold compL
      simp only [gN, Option.bind_some, List.set_set, tAlways, Res.get?, if_true, fz, wipeL, e, c1, List.map_cons]
    · intro y hy
      rcases List.mem_cons.mp hy with e | hy
      · subst e; exact ⟨p2, p3⟩
      · exact c3 y hy
/-- the state of the law -/
abbrev LL (a : Addr) (x1 x2 x3 x4 x5 x6 x7 x8 x9 x10 x11 x12 x13 x14 x15 : Option D) : LS := [some (.ref a), x1, x2, x3, x4, x5, x6, x7, x8, x9, x10, x11, x12, x13, x14, x15, none, none]
noncomputable abbrev sideB : MS := (sq (sAsg (DL.bin gIx (mLst (aCons (cst (.int 8)) (aCons (cst (.int 70)) (aCons (DL.bin (gI fPow) (cst (.int 10)) (cst (.int 30))) (aNil))))) (mIO f__law_pick 2 (aCons (cst (.int 3)) (aNil)))) (gN 12))
  (sq (sAsg (mComp (iRange (aCons (mIO f__law_pick 2 (aCons (cst (.int 4)) (aNil))) (aNil))) (gN 16) (tAlways) (mIO f__law_pick 2 (aCons (var 12) (aNil))) [16]) (gN 13))
  (sDrop (mApp 7 (cb gTuple (aCons (cb gSortSet (aCons (var 13) aNil)) (aNil)))))))
theorem sortU_len : ∀ ns : List Int, (sortU ns).length ≤ ns.length
  | [] => Nat.le_refl _
  | n :: ns => by
    have ih := sortU_len ns
    have ins : ∀ (x : Int) (l : List Int), (insU x l).length ≤ l.length + 1 := fun x l => by
      induction l with
      | nil => simp [insU]
      | cons y l ih =>
        unfold insU
        split
        · simp
        · split
          · simp
          · simp only [List.length_cons]; omega
    show (insU n (sortU ns)).length ≤ _
    have := ins n (sortU ns)
    rw [List.length_cons]; omega
theorem widths (j : Int) (h0 : 0 ≤ j) (h3 : j < 3) : ∃ w : Int, L2.atI [D.int 8, .int 70, .int 1000000000000000000000000000000] j = some (.int w) ∧ 0 < w ∧ w ≤ 1000000000000000000000000000000 := by
  have : j = 0 ∨ j = 1 ∨ j = 2 := by omega
  rcases this with rfl | rfl | rfl
  · exact ⟨8, rfl, by decide, by decide⟩
  · exact ⟨70, rfl, by decide, by decide⟩
  · exact ⟨_, rfl, by decide, by decide⟩
theorem side (a : Addr) {sp : D} (hs : Spr sp) (acc : List (List Int)) (hacc : acc.length ≤ 100) (x1 x3 x4 x5 x6 x8 x9 x10 x11 x12 x13 x14 x15 : Option D) : ∃ (s : List Int) (sp' : D) (y12 y13 : Option D), Nums s ∧ Spr sp' ∧
    sideB (LL a x1 (some (.own sp)) x3 x4 x5 x6 (some (.own (.lst (acc.map numsD)))) x8 x9 x10 x11 x12 x13 x14 x15) =
      .nx (LL a x1 (some (.own sp')) x3 x4 x5 x6 (some (.own (.lst ((acc ++ [s]).map numsD)))) x8 x9 x10 x11 y12 y13 x14 x15) := by
  obtain ⟨j, sp1, p1, p2, p3, p4⟩ := pick hs (m := 3) (by decide) (by decide)
  obtain ⟨w, w1, w2, w3⟩ := widths j p2 p3
  obtain ⟨k, sp2, k1, k2, k3, k4⟩ := pick p4 (m := 4) (by decide) (by decide)
  obtain ⟨ns, sp3, c1, c2, c3, c4⟩ := comp_pick (intsUp 0 k.toNat) (LL a x1 (some (.own sp2)) x3 x4 x5 x6 (some (.own (.lst (acc.map numsD)))) x8 x9 x10 x11 (some (.int w)) x13 x14 x15) sp2 w rfl k4 rfl w2 w3
  rw [upInts_len] at c2
  have l3 : 3 ≤ sizeLine := by rw [sizeLine_eq]; omega
  have p30 : fPow 10 30 = some 1000000000000000000000000000000 := by kernel_rfl
  have st1 : sAsg (DL.bin gIx (mLst (aCons (cst (.int 8)) (aCons (cst (.int 70)) (aCons (DL.bin (gI fPow) (cst (.int 10)) (cst (.int 30))) (aNil))))) (mIO f__law_pick 2 (aCons (cst (.int 3)) (aNil)))) (gN 12) (LL a x1 (some (.own sp)) x3 x4 x5 x6 (some (.own (.lst (acc.map numsD)))) x8 x9 x10 x11 x12 x13 x14 x15) =
      .nx (LL a x1 (some (.own sp1)) x3 x4 x5 x6 (some (.own (.lst (acc.map numsD)))) x8 x9 x10 x11 (some (.int w)) x13 x14 x15) := by
    have q := pick_at (ls := LL a x1 (some (.own sp)) x3 x4 x5 x6 (some (.own (.lst (acc.map numsD)))) x8 x9 x10 x11 x12 x13 x14 x15) (e := cst (.int 3)) rfl rfl p1
    unfold L2.atI at w1
    rw [show [D.int 8, .int 70, .int 1000000000000000000000000000000].length = 3 from rfl] at w1
    simp only [mkF, DL.bin, DL.ite, L2.atI, mkIO, startD, sq, sAsg, sRet, sDrop, sIf, nop, Res.fl, Fl.seq, Res.bind, opt, shr, frz, gN, var, cst, val, stl, un, see, cont, fin, retD, retC, finIO, ioC, vAnd, vOr, vNot, tst, chain, mAnd, mOr, mNot, mCall, fz, frzs, aNil, aCons, mTup, mLst, cb, sees, sSet, frzv, slotL, putL, mApp, gI, gCmp, gAdd, fSub, gInt, gIx, gLen, gIsi, tyName, isTy, List.map_cons, List.map_nil, List.length_cons, List.length_nil, List.replicate_succ, List.replicate_zero, List.cons_append, List.nil_append, List.getElem?_cons_zero, List.getElem?_cons_succ, List.getElem?_nil, List.set_cons_zero, List.set_cons_succ, Option.bind_some, Option.bind_none, Option.map_some, Option.map_none, if_true, if_false, Nat.reduceAdd, Nat.reduceSub, Nat.reduceLeDiff, Bool.not_true, Bool.not_false, reduceIte, Bool.false_eq_true, ne_eq, not_true_eq_false, not_false_eq_true, p30, l3, q, w1]
  have bnd : inB k := ⟨by omega, by omega⟩
  have st2 : sAsg (mComp (iRange (aCons (mIO f__law_pick 2 (aCons (cst (.int 4)) (aNil))) (aNil))) (gN 16) (tAlways) (mIO f__law_pick 2 (aCons (var 12) (aNil))) [16]) (gN 13) (LL a x1 (some (.own sp1)) x3 x4 x5 x6 (some (.own (.lst (acc.map numsD)))) x8 x9 x10 x11 (some (.int w)) x13 x14 x15) =
      .nx (LL a x1 (some (.own sp3)) x3 x4 x5 x6 (some (.own (.lst (acc.map numsD)))) x8 x9 x10 x11 (some (.int w)) (some (.own (.lst (ns.map .int)))) x14 x15) := by
    have q := pick_at (ls := LL a x1 (some (.own sp1)) x3 x4 x5 x6 (some (.own (.lst (acc.map numsD)))) x8 x9 x10 x11 (some (.int w)) x13 x14 x15) (e := cst (.int 4)) rfl rfl k1
    have hi : iRange (aCons (mIO f__law_pick 2 (aCons (cst (.int 4)) (aNil))) (aNil)) (LL a x1 (some (.own sp1)) x3 x4 x5 x6 (some (.own (.lst (acc.map numsD)))) x8 x9 x10 x11 (some (.int w)) x13 x14 x15) = .ok (intsUp 0 k.toNat, LL a x1 (some (.own sp2)) x3 x4 x5 x6 (some (.own (.lst (acc.map numsD)))) x8 x9 x10 x11 (some (.int w)) x13 x14 x15) := by
      unfold iRange
      simp only [mkF, DL.bin, DL.ite, L2.atI, mkIO, startD, sq, sAsg, sRet, sDrop, sIf, nop, Res.fl, Fl.seq, Res.bind, opt, shr, frz, gN, var, cst, val, stl, un, see, cont, fin, retD, retC, finIO, ioC, vAnd, vOr, vNot, tst, chain, mAnd, mOr, mNot, mCall, fz, frzs, aNil, aCons, mTup, mLst, cb, sees, sSet, frzv, slotL, putL, mApp, gI, gCmp, gAdd, fSub, gInt, gIx, gLen, gIsi, tyName, isTy, List.map_cons, List.map_nil, List.length_cons, List.length_nil, List.replicate_succ, List.replicate_zero, List.cons_append, List.nil_append, List.getElem?_cons_zero, List.getElem?_cons_succ, List.getElem?_nil, List.set_cons_zero, List.set_cons_succ, Option.bind_some, Option.bind_none, Option.map_some, Option.map_none, if_true, if_false, Nat.reduceAdd, Nat.reduceSub, Nat.reduceLeDiff, Bool.not_true, Bool.not_false, reduceIte, Bool.false_eq_true, ne_eq, not_true_eq_false, not_false_eq_true, q]
      rw [if_pos bnd]
    have hc : mComp (iRange (aCons (mIO f__law_pick 2 (aCons (cst (.int 4)) (aNil))) (aNil))) (gN 16) (tAlways) (mIO f__law_pick 2 (aCons (var 12) (aNil))) [16] (LL a x1 (some (.own sp1)) x3 x4 x5 x6 (some (.own (.lst (acc.map numsD)))) x8 x9 x10 x11 (some (.int w)) x13 x14 x15) =
        .ok (.own (.lst (ns.map .int)), LL a x1 (some (.own sp3)) x3 x4 x5 x6 (some (.own (.lst (acc.map numsD)))) x8 x9 x10 x11 (some (.int w)) x13 x14 x15) := by
      unfold mComp
      rw [hi, Res.bind_ok]
      refine (congrArg (fun z => Res.bind (opt z) _) c1).trans ?_
      rw [opt_some, Res.bind_ok]
      exact if_pos (by show (ns.map D.int).length ≤ _; rw [List.length_map, sizeLine_eq]; omega)
    simp only [mkF, DL.bin, DL.ite, L2.atI, mkIO, startD, sq, sAsg, sRet, sDrop, sIf, nop, Res.fl, Fl.seq, Res.bind, opt, shr, frz, gN, var, cst, val, stl, un, see, cont, fin, retD, retC, finIO, ioC, vAnd, vOr, vNot, tst, chain, mAnd, mOr, mNot, mCall, fz, frzs, aNil, aCons, mTup, mLst, cb, sees, sSet, frzv, slotL, putL, mApp, gI, gCmp, gAdd, fSub, gInt, gIx, gLen, gIsi, tyName, isTy, List.map_cons, List.map_nil, List.length_cons, List.length_nil, List.replicate_succ, List.replicate_zero, List.cons_append, List.nil_append, List.getElem?_cons_zero, List.getElem?_cons_succ, List.getElem?_nil, List.set_cons_zero, List.set_cons_succ, Option.bind_some, Option.bind_none, Option.map_some, Option.map_none, if_true, if_false, Nat.reduceAdd, Nat.reduceSub, Nat.reduceLeDiff, Bool.not_true, Bool.not_false, reduceIte, Bool.false_eq_true, ne_eq, not_true_eq_false, not_false_eq_true, hc]
  have few : ns.length < 64 := by omega
  refine ⟨sortU ns, sp3, some (.int w), some (.own (.lst (ns.map .int))), ⟨by have := sortU_len ns; omega, sortU_up ns, fun x hx => ?_⟩, c4, ?_⟩
  · obtain ⟨g1, g2⟩ := c3 x ((sortU_mem x ns).mp hx)
    exact ⟨g1, by omega⟩
  · have hz : (acc.map numsD).length < sizeLine := by rw [List.length_map, sizeLine_eq]; omega
    unfold sideB
    rw [sq, st1]
    simp only [Fl.seq]
    rw [sq, st2]
    simp only [Fl.seq]
    simp only [mkF, DL.bin, DL.ite, L2.atI, mkIO, startD, sq, sAsg, sRet, sDrop, sIf, nop, Res.fl, Fl.seq, Res.bind, opt, shr, frz, gN, var, cst, val, stl, un, see, cont, fin, retD, retC, finIO, ioC, vAnd, vOr, vNot, tst, chain, mAnd, mOr, mNot, mCall, fz, frzs, aNil, aCons, mTup, mLst, cb, sees, sSet, frzv, slotL, putL, mApp, gI, gCmp, gAdd, fSub, gInt, gIx, gLen, gIsi, tyName, isTy, List.map_cons, List.map_nil, List.length_cons, List.length_nil, List.replicate_succ, List.replicate_zero, List.cons_append, List.nil_append, List.getElem?_cons_zero, List.getElem?_cons_succ, List.getElem?_nil, List.set_cons_zero, List.set_cons_succ, Option.bind_some, Option.bind_none, Option.map_some, Option.map_none, if_true, if_false, Nat.reduceAdd, Nat.reduceSub, Nat.reduceLeDiff, Bool.not_true, Bool.not_false, reduceIte, Bool.false_eq_true, ne_eq, not_true_eq_false, not_false_eq_true, gTuple, gSortSet, seqOf, intsD_map, few, hz, List.map_append]
    rfl
end DLaw

end M8
section M9
set_option Elab.async false
set_option linter.all false
set_option autoImplicit false
set_option maxRecDepth 100000
namespace DLaw
open PySem PySem.Spec DL
theorem gNe_ints (ns ms : List Int) : gNe (.lst (ns.map .int)) (.lst (ms.map .int)) = some (.bl (!decide (ns = ms))) := by
  have h := gEq_ints ns ms
  unfold gEq at h
  unfold gNe
  cases e : gEqB (.lst (ns.map .int)) (.lst (ms.map .int)) with
  | none => rw [e] at h; cases h
  | some b => rw [e] at h; cases h; rfl
def outP (r : List Int) : D → Bool
  | .int x => !decide (x ∈ r)
  | _ => false
def outs (b : Int) (r : List Int) (n : Int) : List Int := (digs b 100 n).filter fun x => !decide (x ∈ r)
theorem outs_let (b : Int) (r : List Int) (n : Int) : decide (outs b r n = []) = letB b r n := by
  unfold outs letB
  rw [Bool.eq_iff_iff, decide_eq_true_iff, List.filter_eq_nil_iff, List.all_eq_true]
  simp
theorem outs_map (b : Int) (r : List Int) (n : Int) : (((digs b 100 n).map D.int).filter (outP r)).map id = (outs b r n).map D.int := by
  rw [List.map_id, List.filter_map]; rfl
section
variable (a : Addr) {b : Int} (h : 2 ≤ b) (h4 : b ≤ 4) (r : List Int) (x1 x2 x4 x5 x6 x7 x8 x9 x11 x12 x13 x14 x15 : Option D)
include h h4
theorem inner {n : Int} (h0 : 0 ≤ n) (hn : n < 2 ^ 100) :
    mComp (iSeq (mCall f__law_figures (aCons (var 3) (aCons (var 16) (aNil))))) (gN 17) (tst (DL.bin (gIn true) (var 17) (var 10))) (var 17) [17] [some (.ref a), x1, x2, some (.int b), x4, x5, x6, x7, x8, x9, some (rowD r), x11, x12, x13, x14, x15, some (.int n), none] =
      .ok (.own (.lst ((outs b r n).map .int)), [some (.ref a), x1, x2, some (.int b), x4, x5, x6, x7, x8, x9, some (rowD r), x11, x12, x13, x14, x15, some (.int n), none]) := by
  refine (mcomp_filter (p := outP r) (k := id) (ls := [some (.ref a), x1, x2, some (.int b), x4, x5, x6, x7, x8, x9, some (rowD r), x11, x12, x13, x14, x15, some (.int n), none]) (ds := (digs b 100 n).map D.int) ?_ ?_ ?_ ?_).trans ?_
  · simp only [iSeq, mkF, DL.bin, DL.ite, L2.atI, mkIO, startD, sq, sAsg, sRet, sDrop, sIf, nop, Res.fl, Fl.seq, Res.bind, opt, shr, frz, gN, var, cst, val, stl, un, see, cont, fin, retD, retC, finIO, ioC, vAnd, vOr, vNot, tst, chain, mAnd, mOr, mNot, mCall, fz, frzs, aNil, aCons, mTup, mLst, cb, sees, sSet, frzv, slotL, putL, mApp, gI, gCmp, gAdd, fSub, gInt, gIx, gLen, gIsi, tyName, isTy, List.map_cons, List.map_nil, List.length_cons, List.length_nil, List.replicate_succ, List.replicate_zero, List.cons_append, List.nil_append, List.getElem?_cons_zero, List.getElem?_cons_succ, List.getElem?_nil, List.set_cons_zero, List.set_cons_succ, Option.bind_some, Option.bind_none, Option.map_some, Option.map_none, if_true, if_false, Nat.reduceAdd, Nat.reduceSub, Nat.reduceLeDiff, Bool.not_true, Bool.not_false, reduceIte, Bool.false_eq_true, ne_eq, not_true_eq_false, not_false_eq_true, figs2 h h4 h0 hn, seqOf]
  · intro d hd
    obtain ⟨x, _, rfl⟩ := List.mem_map.mp hd
    have q := gIn_row true x r
    unfold rowD at q ⊢
    simp only [mkF, DL.bin, DL.ite, L2.atI, mkIO, startD, sq, sAsg, sRet, sDrop, sIf, nop, Res.fl, Fl.seq, Res.bind, opt, shr, frz, gN, var, cst, val, stl, un, see, cont, fin, retD, retC, finIO, ioC, vAnd, vOr, vNot, tst, chain, mAnd, mOr, mNot, mCall, fz, frzs, aNil, aCons, mTup, mLst, cb, sees, sSet, frzv, slotL, putL, mApp, gI, gCmp, gAdd, fSub, gInt, gIx, gLen, gIsi, tyName, isTy, List.map_cons, List.map_nil, List.length_cons, List.length_nil, List.replicate_succ, List.replicate_zero, List.cons_append, List.nil_append, List.getElem?_cons_zero, List.getElem?_cons_succ, List.getElem?_nil, List.set_cons_zero, List.set_cons_succ, Option.bind_some, Option.bind_none, Option.map_some, Option.map_none, if_true, if_false, Nat.reduceAdd, Nat.reduceSub, Nat.reduceLeDiff, Bool.not_true, Bool.not_false, reduceIte, Bool.false_eq_true, ne_eq, not_true_eq_false, not_false_eq_true, q, outP]
  · intro d hd
    obtain ⟨x, _, rfl⟩ := List.mem_map.mp hd
    rfl
  · rw [List.length_map, sizeLine_eq]; have := digs_len b 100 n; omega
  · rw [outs_map]; rfl
def barD (b : Int) (r : List Int) : D → D
  | .int n => .bl (!letB b r n)
  | _ => .non
omit h h4 in
theorem rowsOf {ls : LS} {s1 s2 : List Int} (h7 : ls[7]? = some (some (.own (.lst [numsD s1, numsD s2])))) (j : Int) (s : List Int) (hj : (j = 0 ∧ s = s1) ∨ (j = 1 ∧ s = s2)) : iSeq (DL.bin gIx (var 7) (cst (.int j))) ls = .ok (s.map D.int, ls) := by
  have i0 : L2.ixN 2 0 = some 0 := by decide
  have i1 : L2.ixN 2 1 = some 1 := by decide
  rcases hj with ⟨rfl, rfl⟩ | ⟨rfl, rfl⟩ <;> simp only [iSeq, mkF, DL.bin, DL.ite, L2.atI, mkIO, startD, sq, sAsg, sRet, sDrop, sIf, nop, Res.fl, Fl.seq, Res.bind, opt, shr, frz, gN, var, cst, val, stl, un, see, cont, fin, retD, retC, finIO, ioC, vAnd, vOr, vNot, tst, chain, mAnd, mOr, mNot, mCall, fz, frzs, aNil, aCons, mTup, mLst, cb, sees, sSet, frzv, slotL, putL, mApp, gI, gCmp, gAdd, fSub, gInt, gIx, gLen, gIsi, tyName, isTy, List.map_cons, List.map_nil, List.length_cons, List.length_nil, List.replicate_succ, List.replicate_zero, List.cons_append, List.nil_append, List.getElem?_cons_zero, List.getElem?_cons_succ, List.getElem?_nil, List.set_cons_zero, List.set_cons_succ, Option.bind_some, Option.bind_none, Option.map_some, Option.map_none, if_true, if_false, Nat.reduceAdd, Nat.reduceSub, Nat.reduceLeDiff, Bool.not_true, Bool.not_false, reduceIte, Bool.false_eq_true, ne_eq, not_true_eq_false, not_false_eq_true, h7, i0, i1, numsD, seqOf]
theorem lets {s1 s2 : List Int} (w1 : Nums s1) (j : Int) (s : List Int) (ws : Nums s) (hj : (j = 0 ∧ s = s1) ∨ (j = 1 ∧ s = s2)) :
    mComp (iSeq (DL.bin gIx (var 7) (cst (.int j)))) (gN 16) (tAlways) (DL.bin gEq (mComp (iSeq (mCall f__law_figures (aCons (var 3) (aCons (var 16) (aNil))))) (gN 17) (tst (DL.bin (gIn true) (var 17) (var 10))) (var 17) [17]) (mLst (aNil))) [16] (LL a x1 x2 (some (.int b)) x4 x5 x6 (some (.own (.lst [numsD s1, numsD s2]))) x8 x9 (some (rowD r)) x11 x12 x13 x14 x15) =
      .ok (.own (.lst (s.map fun n => .bl (letB b r n))), LL a x1 x2 (some (.int b)) x4 x5 x6 (some (.own (.lst [numsD s1, numsD s2]))) x8 x9 (some (rowD r)) x11 x12 x13 x14 x15) ∧
    mComp (iSeq (DL.bin gIx (var 7) (cst (.int j)))) (gN 16) (tAlways) (DL.bin gNe (mComp (iSeq (mCall f__law_figures (aCons (var 3) (aCons (var 16) (aNil))))) (gN 17) (tst (DL.bin (gIn true) (var 17) (var 10))) (var 17) [17]) (mLst (aNil))) [16] (LL a x1 x2 (some (.int b)) x4 x5 x6 (some (.own (.lst [numsD s1, numsD s2]))) x8 x9 (some (rowD r)) x11 x12 x13 x14 x15) =
      .ok (.own (.lst (s.map fun n => .bl (!letB b r n))), LL a x1 x2 (some (.int b)) x4 x5 x6 (some (.own (.lst [numsD s1, numsD s2]))) x8 x9 (some (rowD r)) x11 x12 x13 x14 x15) := by
  have hi := rowsOf (ls := LL a x1 x2 (some (.int b)) x4 x5 x6 (some (.own (.lst [numsD s1, numsD s2]))) x8 x9 (some (rowD r)) x11 x12 x13 x14 x15) rfl j s hj
  have hz : (s.map D.int).length ≤ sizeLine := by rw [List.length_map, sizeLine_eq]; have := ws.few; omega
  constructor
  · refine (mcomp_map (k := letD b r) hi ?_ hz).trans ?_
    · intro d hd
      obtain ⟨n, hn, rfl⟩ := List.mem_map.mp hd
      have q := inner a h h4 r x1 x2 x4 x5 x6 (some (.own (.lst [numsD s1, numsD s2]))) x8 x9 x11 x12 x13 x14 x15 (ws.big hn).1 (ws.big hn).2
      have g := gEq_ints (outs b r n) []
      rw [List.map_nil, outs_let] at g
      simp only [mkF, DL.bin, DL.ite, L2.atI, mkIO, startD, sq, sAsg, sRet, sDrop, sIf, nop, Res.fl, Fl.seq, Res.bind, opt, shr, frz, gN, var, cst, val, stl, un, see, cont, fin, retD, retC, finIO, ioC, vAnd, vOr, vNot, tst, chain, mAnd, mOr, mNot, mCall, fz, frzs, aNil, aCons, mTup, mLst, cb, sees, sSet, frzv, slotL, putL, mApp, gI, gCmp, gAdd, fSub, gInt, gIx, gLen, gIsi, tyName, isTy, List.map_cons, List.map_nil, List.length_cons, List.length_nil, List.replicate_succ, List.replicate_zero, List.cons_append, List.nil_append, List.getElem?_cons_zero, List.getElem?_cons_succ, List.getElem?_nil, List.set_cons_zero, List.set_cons_succ, Option.bind_some, Option.bind_none, Option.map_some, Option.map_none, if_true, if_false, Nat.reduceAdd, Nat.reduceSub, Nat.reduceLeDiff, Bool.not_true, Bool.not_false, reduceIte, Bool.false_eq_true, ne_eq, not_true_eq_false, not_false_eq_true, q, g, line0, letD]
    · rw [List.map_map]; rfl
  · refine (mcomp_map (k := barD b r) hi ?_ hz).trans ?_
    · intro d hd
      obtain ⟨n, hn, rfl⟩ := List.mem_map.mp hd
      have q := inner a h h4 r x1 x2 x4 x5 x6 (some (.own (.lst [numsD s1, numsD s2]))) x8 x9 x11 x12 x13 x14 x15 (ws.big hn).1 (ws.big hn).2
      have g := gNe_ints (outs b r n) []
      rw [List.map_nil, outs_let] at g
      simp only [mkF, DL.bin, DL.ite, L2.atI, mkIO, startD, sq, sAsg, sRet, sDrop, sIf, nop, Res.fl, Fl.seq, Res.bind, opt, shr, frz, gN, var, cst, val, stl, un, see, cont, fin, retD, retC, finIO, ioC, vAnd, vOr, vNot, tst, chain, mAnd, mOr, mNot, mCall, fz, frzs, aNil, aCons, mTup, mLst, cb, sees, sSet, frzv, slotL, putL, mApp, gI, gCmp, gAdd, fSub, gInt, gIx, gLen, gIsi, tyName, isTy, List.map_cons, List.map_nil, List.length_cons, List.length_nil, List.replicate_succ, List.replicate_zero, List.cons_append, List.nil_append, List.getElem?_cons_zero, List.getElem?_cons_succ, List.getElem?_nil, List.set_cons_zero, List.set_cons_succ, Option.bind_some, Option.bind_none, Option.map_some, Option.map_none, if_true, if_false, Nat.reduceAdd, Nat.reduceSub, Nat.reduceLeDiff, Bool.not_true, Bool.not_false, reduceIte, Bool.false_eq_true, ne_eq, not_true_eq_false, not_false_eq_true, q, g, line0, barD]
    · rw [List.map_map]; rfl
end
theorem flats_bls : ∀ bs : List Bool, flatsD (bs.map D.bl) = some (bs.map L2.V.bl)
  | [] => rfl
  | n :: ns => by
    show (flatD (.bl n)).bind (fun v => (flatsD (ns.map D.bl)).bind fun vs => some (v :: vs)) = _
    rw [flats_bls ns]; rfl
theorem inV_bls (x : Bool) : ∀ bs : List Bool, L2.inV (.bl x) (bs.map L2.V.bl) = bs.any fun y => y == x
  | [] => by simp [L2.inV]
  | n :: ns => by
    have ih := inV_bls x ns
    unfold L2.inV at ih ⊢
    rw [List.map_cons, List.any_cons, ih]; rfl
noncomputable abbrev rowB : MS := (sq (sAsg (mComp (iSeq (DL.bin gIx (var 7) (cst (.int 0)))) (gN 16) (tAlways) (DL.bin gEq (mComp (iSeq (mCall f__law_figures (aCons (var 3) (aCons (var 16) (aNil))))) (gN 17) (tst (DL.bin (gIn true) (var 17) (var 10))) (var 17) [17]) (mLst (aNil))) [16]) (gN 14))
  (sq (sAsg (mComp (iSeq (DL.bin gIx (var 7) (cst (.int 1)))) (gN 16) (tAlways) (DL.bin gNe (mComp (iSeq (mCall f__law_figures (aCons (var 3) (aCons (var 16) (aNil))))) (gN 17) (tst (DL.bin (gIn true) (var 17) (var 10))) (var 17) [17]) (mLst (aNil))) [16]) (gN 15))
  (sIf (tst (DL.bin (gIn true) (cst (.bl false)) (DL.bin gAdd (var 14) (var 15)))) (sDrop (mApp 9 (var 10))) (nop))))
theorem row_loop (a : Addr) {b : Int} (h : 2 ≤ b) (h4 : b ≤ 4) {s1 s2 : List Int} (w1 : Nums s1) (w2 : Nums s2) (x1 x2 x4 x5 x6 x8 x11 x12 x13 : Option D) : ∀ (rs acc : List (List Int)) (x10 x14 x15 : Option D), acc.length + rs.length ≤ 1000 → ∃ y10 y14 y15,
    forL (gN 10) rowB (rs.map rowD) (LL a x1 x2 (some (.int b)) x4 x5 x6 (some (.own (.lst [numsD s1, numsD s2]))) x8 (some (.own (.lst (acc.map rowD)))) x10 x11 x12 x13 x14 x15) =
      .nx (LL a x1 x2 (some (.int b)) x4 x5 x6 (some (.own (.lst [numsD s1, numsD s2]))) x8 (some (.own (.lst ((acc ++ rs.filter (keepR b s1 s2)).map rowD)))) y10 x11 x12 x13 y14 y15)
  | [], acc, x10, x14, x15, _ => ⟨x10, x14, x15, by simp [forL]⟩
  | r :: rs, acc, x10, x14, x15, hl => by
    rw [List.length_cons] at hl
    have c1 := (lets a h h4 r x1 x2 x4 x5 x6 x8 (some (.own (.lst (acc.map rowD)))) x11 x12 x13 x14 x15 (s2 := s2) w1 0 s1 w1 (.inl ⟨rfl, rfl⟩)).1
    have c2 := (lets a h h4 r x1 x2 x4 x5 x6 x8 (some (.own (.lst (acc.map rowD)))) x11 x12 x13 (some (.own (.lst (s1.map fun n => .bl (letB b r n))))) x15 (s2 := s2) w1 1 s2 w2 (.inr ⟨rfl, rfl⟩)).2
    have hs : (acc.map rowD).length < sizeLine := by rw [List.length_map, sizeLine_eq]; omega
    have hz : (s1.map fun n => D.bl (letB b r n)).length + (s2.map fun n => D.bl (!letB b r n)).length ≤ sizeLine := by rw [List.length_map, List.length_map, sizeLine_eq]; have := w1.few; have := w2.few; omega
    have cc : gIn true (.bl false) (.lst ((s1.map fun n => D.bl (letB b r n)) ++ s2.map fun n => D.bl (!letB b r n))) = some (.bl (keepR b s1 s2 r)) := by
      have e : ((s1.map fun n => D.bl (letB b r n)) ++ s2.map fun n => D.bl (!letB b r n)) = ((s1.map fun n => letB b r n) ++ s2.map fun n => !letB b r n).map D.bl := by
        rw [List.map_append, List.map_map, List.map_map]; rfl
      rw [e]
      unfold gIn
      simp only [flatD, seqOf, Option.bind_some, flats_bls, inV_bls]
      congr 2
      unfold keepR
      rw [Bool.eq_iff_iff]
      simp
    rw [List.map_cons, forL]
    cases kq : keepR b s1 s2 r with
    | true =>
      obtain ⟨y10, y14, y15, ih⟩ := row_loop a h h4 w1 w2 x1 x2 x4 x5 x6 x8 x11 x12 x13 rs (acc ++ [r]) (some (rowD r)) (some (.own (.lst (s1.map fun n => .bl (letB b r n))))) (some (.own (.lst (s2.map fun n => .bl (!letB b r n))))) (by rw [List.length_append, List.length_singleton]; omega)
      refine ⟨y10, y14, y15, ?_⟩
      rw [kq] at cc
      have er : ∀ y : List Int, rowD y = .tup (y.map .int) := fun _ => rfl
      simp only [mkF, DL.bin, DL.ite, L2.atI, mkIO, startD, sq, sAsg, sRet, sDrop, sIf, nop, Res.fl, Fl.seq, Res.bind, opt, shr, frz, gN, var, cst, val, stl, un, see, cont, fin, retD, retC, finIO, ioC, vAnd, vOr, vNot, tst, chain, mAnd, mOr, mNot, mCall, fz, frzs, aNil, aCons, mTup, mLst, cb, sees, sSet, frzv, slotL, putL, mApp, gI, gCmp, gAdd, fSub, gInt, gIx, gLen, gIsi, tyName, isTy, List.map_cons, List.map_nil, List.length_cons, List.length_nil, List.replicate_succ, List.replicate_zero, List.cons_append, List.nil_append, List.getElem?_cons_zero, List.getElem?_cons_succ, List.getElem?_nil, List.set_cons_zero, List.set_cons_succ, Option.bind_some, Option.bind_none, Option.map_some, Option.map_none, if_true, if_false, Nat.reduceAdd, Nat.reduceSub, Nat.reduceLeDiff, Bool.not_true, Bool.not_false, reduceIte, Bool.false_eq_true, ne_eq, not_true_eq_false, not_false_eq_true, c1, c2, hz, cc, List.filter_cons, kq]
      simp only [mkF, DL.bin, DL.ite, L2.atI, mkIO, startD, sq, sAsg, sRet, sDrop, sIf, nop, Res.fl, Fl.seq, Res.bind, opt, shr, frz, gN, var, cst, val, stl, un, see, cont, fin, retD, retC, finIO, ioC, vAnd, vOr, vNot, tst, chain, mAnd, mOr, mNot, mCall, fz, frzs, aNil, aCons, mTup, mLst, cb, sees, sSet, frzv, slotL, putL, mApp, gI, gCmp, gAdd, fSub, gInt, gIx, gLen, gIsi, tyName, isTy, List.map_cons, List.map_nil, List.length_cons, List.length_nil, List.replicate_succ, List.replicate_zero, List.cons_append, List.nil_append, List.getElem?_cons_zero, List.getElem?_cons_succ, List.getElem?_nil, List.set_cons_zero, List.set_cons_succ, Option.bind_some, Option.bind_none, Option.map_some, Option.map_none, if_true, if_false, Nat.reduceAdd, Nat.reduceSub, Nat.reduceLeDiff, Bool.not_true, Bool.not_false, reduceIte, Bool.false_eq_true, ne_eq, not_true_eq_false, not_false_eq_true, er r, hs]
      rw [← er r]
      rw [List.map_append, List.map_cons, List.map_nil, List.append_assoc] at ih
      exact ih
    | false =>
      obtain ⟨y10, y14, y15, ih⟩ := row_loop a h h4 w1 w2 x1 x2 x4 x5 x6 x8 x11 x12 x13 rs acc (some (rowD r)) (some (.own (.lst (s1.map fun n => .bl (letB b r n))))) (some (.own (.lst (s2.map fun n => .bl (!letB b r n))))) (by omega)
      refine ⟨y10, y14, y15, ?_⟩
      rw [kq] at cc
      simp only [mkF, DL.bin, DL.ite, L2.atI, mkIO, startD, sq, sAsg, sRet, sDrop, sIf, nop, Res.fl, Fl.seq, Res.bind, opt, shr, frz, gN, var, cst, val, stl, un, see, cont, fin, retD, retC, finIO, ioC, vAnd, vOr, vNot, tst, chain, mAnd, mOr, mNot, mCall, fz, frzs, aNil, aCons, mTup, mLst, cb, sees, sSet, frzv, slotL, putL, mApp, gI, gCmp, gAdd, fSub, gInt, gIx, gLen, gIsi, tyName, isTy, List.map_cons, List.map_nil, List.length_cons, List.length_nil, List.replicate_succ, List.replicate_zero, List.cons_append, List.nil_append, List.getElem?_cons_zero, List.getElem?_cons_succ, List.getElem?_nil, List.set_cons_zero, List.set_cons_succ, Option.bind_some, Option.bind_none, Option.map_some, Option.map_none, if_true, if_false, Nat.reduceAdd, Nat.reduceSub, Nat.reduceLeDiff, Bool.not_true, Bool.not_false, reduceIte, Bool.false_eq_true, ne_eq, not_true_eq_false, not_false_eq_true, c1, c2, hz, cc, List.filter_cons, kq]
      exact ih
end DLaw

end M9
section M10
set_option Elab.async false
set_option linter.all false
set_option autoImplicit false
set_option maxRecDepth 100000
namespace DLaw
open PySem PySem.Spec DL
noncomputable abbrev toldE : ME := mCall f_figures_told (aCons (var 3) (aCons (mTup (aCons (DL.bin gIx (var 7) (cst (.int 0))) (aCons (DL.bin gIx (var 7) (cst (.int 1))) (aNil)))) (aNil)))
noncomputable abbrev checkB : MS := (sIf (tst (DL.bin gNe (mComp (iSeq (DL.bin gIx (var 7) (cst (.int 0)))) (gN 16) (mNot (tst (mCall f_has (aCons (mCall f_figures_lot (aCons (var 3) (aCons (var 10) (aNil)))) (aCons (var 16) (aNil)))))) (var 16) [16]) (mLst (aNil)))) (sRet (cst (.bl false))) (nop))
noncomputable abbrev turnB : MS := (sq (sAsg (mLst (aNil)) (gN 7))
  (sq (sFor (iRange (aCons (cst (.int 2)) (aNil))) (gN 8) sideB)
  (sq (sAsg (mLst (aNil)) (gN 9))
  (sq (sFor (iSeq (mCall f__law_rows (aCons (var 3) (aNil)))) (gN 10) rowB)
  (sq (sAsg toldE (gN 11))
  (sq (sIf (mNot (tst (mLook (f__law_twins l__law_twins) (aCons (var 11) (aCons (var 9) (aNil)))))) (sRet (cst (.bl false))) (nop))
  (sq (sDrop (mApp 11 (cst (.str "odd"))))
  (sq (sIf (mNot (tst (mLook (f__law_twins l__law_twins) (aCons toldE (aCons (var 9) (aNil)))))) (sRet (cst (.bl false))) (nop))
  (sFor (iSeq (var 9)) (gN 10) checkB)))))))))
theorem up2 : intsUp 0 (2 : Int).toNat = [D.int 0, D.int 1] := rfl
theorem told_at {ls : LS} {b : Int} (h : 2 ≤ b) (h4 : b ≤ 4) {s1 s2 : List Int} (w1 : Nums s1) (w2 : Nums s2) (h3 : ls[3]? = some (some (.int b))) (h7 : ls[7]? = some (some (.own (.lst [numsD s1, numsD s2])))) :
    toldE ls = .ok (.own (.lst (((RR b).filter (keepR b s1 s2)).map rowD)), ls) := by
  have q := told h h4 w1 w2
  have i0 : L2.ixN 2 0 = some 0 := by decide
  have i1 : L2.ixN 2 1 = some 1 := by decide
  have l2 : 2 ≤ sizeLine := by rw [sizeLine_eq]; omega
  unfold seenD numsD at q
  unfold numsD at h7
  unfold toldE
  simp only [mkF, DL.bin, DL.ite, L2.atI, mkIO, startD, sq, sAsg, sRet, sDrop, sIf, nop, Res.fl, Fl.seq, Res.bind, opt, shr, frz, gN, var, cst, val, stl, un, see, cont, fin, retD, retC, finIO, ioC, vAnd, vOr, vNot, tst, chain, mAnd, mOr, mNot, mCall, fz, frzs, aNil, aCons, mTup, mLst, cb, sees, sSet, frzv, slotL, putL, mApp, gI, gCmp, gAdd, fSub, gInt, gIx, gLen, gIsi, tyName, isTy, List.map_cons, List.map_nil, List.length_cons, List.length_nil, List.replicate_succ, List.replicate_zero, List.cons_append, List.nil_append, List.getElem?_cons_zero, List.getElem?_cons_succ, List.getElem?_nil, List.set_cons_zero, List.set_cons_succ, Option.bind_some, Option.bind_none, Option.map_some, Option.map_none, if_true, if_false, Nat.reduceAdd, Nat.reduceSub, Nat.reduceLeDiff, Bool.not_true, Bool.not_false, reduceIte, Bool.false_eq_true, ne_eq, not_true_eq_false, not_false_eq_true, h3, h7, i0, i1, l2, q]
theorem twins_at {rs : List (List Int)} {m1 : ME} {ls : LS} (h1 : val m1 ls = .ok (.lst (rs.map rowD), ls) ∨ (val m1 ls = .ok (.bor 11, ls) ∧ ls[11]? = some (some (.own (.lst (rs.map rowD)))))) (h9 : ls[9]? = some (some (.own (.lst (rs.map rowD))))) :
    mLook (f__law_twins l__law_twins) (aCons m1 (aCons (var 9) (aNil))) ls = .ok (.bl true, ls) := by
  have q : f__law_twins l__law_twins [.lst (rs.map rowD), .lst (rs.map rowD)] = .ok (.bl true) := twin_rows rs
  have v9 : val (var 9) ls = .ok (.bor 9, ls) := by simp only [val, var, h9, Res.bind, stl, opt]
  have al : [D.lst (rs.map rowD), .lst (rs.map rowD)].all lookD = true := rfl
  rcases h1 with h1 | ⟨h1, h11⟩
  · simp only [mLook, aCons, h1, v9, aNil, Res.bind, sees, see, h9, cont, Option.bind_some, opt, al, if_true, q, plainR]
  · simp only [mLook, aCons, h1, v9, aNil, Res.bind, sees, see, h9, h11, cont, Option.bind_some, opt, al, if_true, q, plainR]
theorem check_loop (a : Addr) {b : Int} (h : 2 ≤ b) (h4 : b ≤ 4) {s1 s2 : List Int} (w1 : Nums s1) (x1 x2 x4 x5 x6 x8 x9 x11 x12 x13 x14 x15 : Option D) : ∀ (rs : List (List Int)) (x10 : Option D), (∀ r ∈ rs, r ∈ RR b ∧ ∀ n ∈ s1, letB b r n = true) → ∃ y10,
    forL (gN 10) checkB (rs.map rowD) (LL a x1 x2 (some (.int b)) x4 x5 x6 (some (.own (.lst [numsD s1, numsD s2]))) x8 x9 x10 x11 x12 x13 x14 x15) =
      .nx (LL a x1 x2 (some (.int b)) x4 x5 x6 (some (.own (.lst [numsD s1, numsD s2]))) x8 x9 y10 x11 x12 x13 x14 x15)
  | [], x10, _ => ⟨x10, by simp [forL]⟩
  | r :: rs, x10, hr => by
    obtain ⟨y10, ih⟩ := check_loop a h h4 w1 x1 x2 x4 x5 x6 x8 x9 x11 x12 x13 x14 x15 rs (some (rowD r)) fun r hm => hr r (List.mem_cons_of_mem _ hm)
    refine ⟨y10, ?_⟩
    obtain ⟨hR, hn⟩ := hr r List.mem_cons_self
    have c : mComp (iSeq (DL.bin gIx (var 7) (cst (.int 0)))) (gN 16) (mNot (tst (mCall f_has (aCons (mCall f_figures_lot (aCons (var 3) (aCons (var 10) (aNil)))) (aCons (var 16) (aNil)))))) (var 16) [16] (LL a x1 x2 (some (.int b)) x4 x5 x6 (some (.own (.lst [numsD s1, numsD s2]))) x8 x9 (some (rowD r)) x11 x12 x13 x14 x15) =
        .ok (.own (.lst []), LL a x1 x2 (some (.int b)) x4 x5 x6 (some (.own (.lst [numsD s1, numsD s2]))) x8 x9 (some (rowD r)) x11 x12 x13 x14 x15) := by
      refine (mcomp_filter (p := fun _ => false) (k := id) (rowsOf (s1 := s1) (s2 := s2) rfl 0 s1 (.inl ⟨rfl, rfl⟩)) ?_ ?_ (by rw [List.length_map, sizeLine_eq]; have := w1.few; omega)).trans ?_
      · intro d hd
        obtain ⟨n, hm, rfl⟩ := List.mem_map.mp hd
        obtain ⟨g1, g2⟩ := w1.ok n hm
        obtain ⟨l, e1, e2⟩ := has_ok h h4 hR g1 g2 (hn n hm)
        unfold rowD at e1 ⊢
        simp only [mkF, DL.bin, DL.ite, L2.atI, mkIO, startD, sq, sAsg, sRet, sDrop, sIf, nop, Res.fl, Fl.seq, Res.bind, opt, shr, frz, gN, var, cst, val, stl, un, see, cont, fin, retD, retC, finIO, ioC, vAnd, vOr, vNot, tst, chain, mAnd, mOr, mNot, mCall, fz, frzs, aNil, aCons, mTup, mLst, cb, sees, sSet, frzv, slotL, putL, mApp, gI, gCmp, gAdd, fSub, gInt, gIx, gLen, gIsi, tyName, isTy, List.map_cons, List.map_nil, List.length_cons, List.length_nil, List.replicate_succ, List.replicate_zero, List.cons_append, List.nil_append, List.getElem?_cons_zero, List.getElem?_cons_succ, List.getElem?_nil, List.set_cons_zero, List.set_cons_succ, Option.bind_some, Option.bind_none, Option.map_some, Option.map_none, if_true, if_false, Nat.reduceAdd, Nat.reduceSub, Nat.reduceLeDiff, Bool.not_true, Bool.not_false, reduceIte, Bool.false_eq_true, ne_eq, not_true_eq_false, not_false_eq_true, e1, e2]
      · intro d hd
        obtain ⟨n, hm, rfl⟩ := List.mem_map.mp hd
        rfl
      · have e : (s1.map D.int).filter (fun _ => false) = [] := List.filter_eq_nil_iff.mpr fun _ _ z => Bool.false_ne_true z
        rw [e]; rfl
    have g := gNe_ints [] []
    rw [List.map_nil] at g
    rw [List.map_cons, forL]
    simp only [mkF, DL.bin, DL.ite, L2.atI, mkIO, startD, sq, sAsg, sRet, sDrop, sIf, nop, Res.fl, Fl.seq, Res.bind, opt, shr, frz, gN, var, cst, val, stl, un, see, cont, fin, retD, retC, finIO, ioC, vAnd, vOr, vNot, tst, chain, mAnd, mOr, mNot, mCall, fz, frzs, aNil, aCons, mTup, mLst, cb, sees, sSet, frzv, slotL, putL, mApp, gI, gCmp, gAdd, fSub, gInt, gIx, gLen, gIsi, tyName, isTy, List.map_cons, List.map_nil, List.length_cons, List.length_nil, List.replicate_succ, List.replicate_zero, List.cons_append, List.nil_append, List.getElem?_cons_zero, List.getElem?_cons_succ, List.getElem?_nil, List.set_cons_zero, List.set_cons_succ, Option.bind_some, Option.bind_none, Option.map_some, Option.map_none, if_true, if_false, Nat.reduceAdd, Nat.reduceSub, Nat.reduceLeDiff, Bool.not_true, Bool.not_false, reduceIte, Bool.false_eq_true, ne_eq, not_true_eq_false, not_false_eq_true, c, g, line0]
    exact ih
theorem seq_nx {A B : MS} {ls l1 : LS} {r : Fl} (h : A ls = .nx l1) (k : B l1 = r) : sq A B ls = r := by
  unfold sq; rw [h]; exact k
theorem turn (a : Addr) {b : Int} (h : 2 ≤ b) (h4 : b ≤ 4) {sp : D} (hs : Spr sp) (x1 x4 x5 x6 x7 x8 x9 x10 x11 x12 x13 x14 x15 : Option D) : ∃ sp' y7 y8 y9 y10 y11 y12 y13 y14 y15, Spr sp' ∧
    turnB (LL a x1 (some (.own sp)) (some (.int b)) x4 x5 x6 x7 x8 x9 x10 x11 x12 x13 x14 x15) = .nx (LL a x1 (some (.own sp')) (some (.int b)) x4 x5 x6 y7 y8 y9 y10 y11 y12 y13 y14 y15) := by
  obtain ⟨s1, sp1, u12, u13, w1, hs1, e1⟩ := side a hs [] (by decide) x1 (some (.int b)) x4 x5 x6 (some (.int 0)) x9 x10 x11 x12 x13 x14 x15
  obtain ⟨s2, sp2, v12, v13, w2, hs2, e2⟩ := side a hs1 [s1] (by simp) x1 (some (.int b)) x4 x5 x6 (some (.int 1)) x9 x10 x11 u12 u13 x14 x15
  obtain ⟨z10, z14, z15, e3⟩ := row_loop a h h4 w1 w2 x1 (some (.own sp2)) x4 x5 x6 (some (.int 1)) x11 v12 v13 (RR b) [] x10 x14 x15 (by have := RR_len b; simp; omega)
  obtain ⟨y10, e4⟩ := check_loop a h h4 (s2 := s2) w1 x1 (some (.own sp2)) x4 x5 x6 (some (.int 1)) (some (.lst (((RR b).filter (keepR b s1 s2)).map rowD))) (some (.own (.lst (((RR b).filter (keepR b s1 s2)).map rowD ++ [.str "odd"])))) v12 v13 z14 z15 ((RR b).filter (keepR b s1 s2)) z10 (fun r hr => by
    obtain ⟨q1, q2⟩ := List.mem_filter.mp hr
    refine ⟨q1, fun n hn => ?_⟩
    unfold keepR at q2
    rw [Bool.and_eq_true] at q2
    exact List.all_eq_true.mp q2.1 n hn)
  have big : (((RR b).filter (keepR b s1 s2)).map rowD).length < sizeLine := by
    rw [List.length_map, sizeLine_eq]
    have q1 := List.length_filter_le (keepR b s1 s2) (RR b)
    have q2 := RR_len b
    omega
  have n2 : inB 2 := by decide
  rw [List.map_nil] at e1 e3
  rw [List.nil_append] at e1 e3
  rw [show ([s1] : List (List Int)) ++ [s2] = [s1, s2] from rfl] at e2
  have t1 := fun (y11 : Option D) => told_at (ls := LL a x1 (some (.own sp2)) (some (.int b)) x4 x5 x6 (some (.own (.lst [numsD s1, numsD s2]))) (some (.int 1)) (some (.own (.lst (((RR b).filter (keepR b s1 s2)).map rowD)))) z10 y11 v12 v13 z14 z15) h h4 w1 w2 rfl rfl
  have k1 := twins_at (m1 := var 11) (rs := (RR b).filter (keepR b s1 s2)) (ls := LL a x1 (some (.own sp2)) (some (.int b)) x4 x5 x6 (some (.own (.lst [numsD s1, numsD s2]))) (some (.int 1)) (some (.own (.lst (((RR b).filter (keepR b s1 s2)).map rowD)))) z10 (some (.own (.lst (((RR b).filter (keepR b s1 s2)).map rowD)))) v12 v13 z14 z15) (.inr ⟨rfl, rfl⟩) rfl
  have k2 := twins_at (m1 := toldE) (rs := (RR b).filter (keepR b s1 s2)) (ls := LL a x1 (some (.own sp2)) (some (.int b)) x4 x5 x6 (some (.own (.lst [numsD s1, numsD s2]))) (some (.int 1)) (some (.own (.lst (((RR b).filter (keepR b s1 s2)).map rowD)))) z10 (some (.own (.lst (((RR b).filter (keepR b s1 s2)).map rowD ++ [.str "odd"])))) v12 v13 z14 z15) (.inl (by unfold val; rw [t1]; rfl)) rfl
  refine ⟨sp2, some (.own (.lst [numsD s1, numsD s2])), some (.int 1), some (.lst (((RR b).filter (keepR b s1 s2)).map rowD)), y10, some (.own (.lst (((RR b).filter (keepR b s1 s2)).map rowD ++ [.str "odd"]))), v12, v13, z14, z15, hs2, ?_⟩
  have st1 : ∀ x7 : Option D, sAsg (mLst (aNil)) (gN 7) (LL a x1 (some (.own sp)) (some (.int b)) x4 x5 x6 x7 x8 x9 x10 x11 x12 x13 x14 x15) = .nx (LL a x1 (some (.own sp)) (some (.int b)) x4 x5 x6 (some (.own (.lst []))) x8 x9 x10 x11 x12 x13 x14 x15) := fun x7 => by
    simp only [mkF, DL.bin, DL.ite, L2.atI, mkIO, startD, sq, sAsg, sRet, sDrop, sIf, nop, Res.fl, Fl.seq, Res.bind, opt, shr, frz, gN, var, cst, val, stl, un, see, cont, fin, retD, retC, finIO, ioC, vAnd, vOr, vNot, tst, chain, mAnd, mOr, mNot, mCall, fz, frzs, aNil, aCons, mTup, mLst, cb, sees, sSet, frzv, slotL, putL, mApp, gI, gCmp, gAdd, fSub, gInt, gIx, gLen, gIsi, tyName, isTy, List.map_cons, List.map_nil, List.length_cons, List.length_nil, List.replicate_succ, List.replicate_zero, List.cons_append, List.nil_append, List.getElem?_cons_zero, List.getElem?_cons_succ, List.getElem?_nil, List.set_cons_zero, List.set_cons_succ, Option.bind_some, Option.bind_none, Option.map_some, Option.map_none, if_true, if_false, Nat.reduceAdd, Nat.reduceSub, Nat.reduceLeDiff, Bool.not_true, Bool.not_false, reduceIte, Bool.false_eq_true, ne_eq, not_true_eq_false, not_false_eq_true, line0]
  have st2 : sFor (iRange (aCons (cst (.int 2)) (aNil))) (gN 8) sideB (LL a x1 (some (.own sp)) (some (.int b)) x4 x5 x6 (some (.own (.lst []))) x8 x9 x10 x11 x12 x13 x14 x15) = .nx (LL a x1 (some (.own sp2)) (some (.int b)) x4 x5 x6 (some (.own (.lst [numsD s1, numsD s2]))) (some (.int 1)) x9 x10 x11 v12 v13 x14 x15) := by
    have hi : iRange (aCons (cst (.int 2)) (aNil)) (LL a x1 (some (.own sp)) (some (.int b)) x4 x5 x6 (some (.own (.lst []))) x8 x9 x10 x11 x12 x13 x14 x15) = .ok ([.int 0, .int 1], LL a x1 (some (.own sp)) (some (.int b)) x4 x5 x6 (some (.own (.lst []))) x8 x9 x10 x11 x12 x13 x14 x15) := by
      unfold iRange
      simp only [mkF, DL.bin, DL.ite, L2.atI, mkIO, startD, sq, sAsg, sRet, sDrop, sIf, nop, Res.fl, Fl.seq, Res.bind, opt, shr, frz, gN, var, cst, val, stl, un, see, cont, fin, retD, retC, finIO, ioC, vAnd, vOr, vNot, tst, chain, mAnd, mOr, mNot, mCall, fz, frzs, aNil, aCons, mTup, mLst, cb, sees, sSet, frzv, slotL, putL, mApp, gI, gCmp, gAdd, fSub, gInt, gIx, gLen, gIsi, tyName, isTy, List.map_cons, List.map_nil, List.length_cons, List.length_nil, List.replicate_succ, List.replicate_zero, List.cons_append, List.nil_append, List.getElem?_cons_zero, List.getElem?_cons_succ, List.getElem?_nil, List.set_cons_zero, List.set_cons_succ, Option.bind_some, Option.bind_none, Option.map_some, Option.map_none, if_true, if_false, Nat.reduceAdd, Nat.reduceSub, Nat.reduceLeDiff, Bool.not_true, Bool.not_false, reduceIte, Bool.false_eq_true, ne_eq, not_true_eq_false, not_false_eq_true]
      rw [if_pos n2]; rfl
    unfold sFor
    rw [hi, Res.fl_ok]
    simp only [forL, gN, List.set_cons_succ, List.set_cons_zero]
    rw [e1]
    simp only [List.set_cons_succ, List.set_cons_zero]
    rw [e2]
    rfl
  have st3 : sAsg (mLst (aNil)) (gN 9) (LL a x1 (some (.own sp2)) (some (.int b)) x4 x5 x6 (some (.own (.lst [numsD s1, numsD s2]))) (some (.int 1)) x9 x10 x11 v12 v13 x14 x15) = .nx (LL a x1 (some (.own sp2)) (some (.int b)) x4 x5 x6 (some (.own (.lst [numsD s1, numsD s2]))) (some (.int 1)) (some (.own (.lst []))) x10 x11 v12 v13 x14 x15) := by
    simp only [mkF, DL.bin, DL.ite, L2.atI, mkIO, startD, sq, sAsg, sRet, sDrop, sIf, nop, Res.fl, Fl.seq, Res.bind, opt, shr, frz, gN, var, cst, val, stl, un, see, cont, fin, retD, retC, finIO, ioC, vAnd, vOr, vNot, tst, chain, mAnd, mOr, mNot, mCall, fz, frzs, aNil, aCons, mTup, mLst, cb, sees, sSet, frzv, slotL, putL, mApp, gI, gCmp, gAdd, fSub, gInt, gIx, gLen, gIsi, tyName, isTy, List.map_cons, List.map_nil, List.length_cons, List.length_nil, List.replicate_succ, List.replicate_zero, List.cons_append, List.nil_append, List.getElem?_cons_zero, List.getElem?_cons_succ, List.getElem?_nil, List.set_cons_zero, List.set_cons_succ, Option.bind_some, Option.bind_none, Option.map_some, Option.map_none, if_true, if_false, Nat.reduceAdd, Nat.reduceSub, Nat.reduceLeDiff, Bool.not_true, Bool.not_false, reduceIte, Bool.false_eq_true, ne_eq, not_true_eq_false, not_false_eq_true, line0]
  have st4 : sFor (iSeq (mCall f__law_rows (aCons (var 3) (aNil)))) (gN 10) rowB (LL a x1 (some (.own sp2)) (some (.int b)) x4 x5 x6 (some (.own (.lst [numsD s1, numsD s2]))) (some (.int 1)) (some (.own (.lst []))) x10 x11 v12 v13 x14 x15) = .nx (LL a x1 (some (.own sp2)) (some (.int b)) x4 x5 x6 (some (.own (.lst [numsD s1, numsD s2]))) (some (.int 1)) (some (.own (.lst (((RR b).filter (keepR b s1 s2)).map rowD)))) z10 x11 v12 v13 z14 z15) := by
    have hi : iSeq (mCall f__law_rows (aCons (var 3) (aNil))) (LL a x1 (some (.own sp2)) (some (.int b)) x4 x5 x6 (some (.own (.lst [numsD s1, numsD s2]))) (some (.int 1)) (some (.own (.lst []))) x10 x11 v12 v13 x14 x15) = .ok ((RR b).map rowD, LL a x1 (some (.own sp2)) (some (.int b)) x4 x5 x6 (some (.own (.lst [numsD s1, numsD s2]))) (some (.int 1)) (some (.own (.lst []))) x10 x11 v12 v13 x14 x15) := by
      simp only [iSeq, mkF, DL.bin, DL.ite, L2.atI, mkIO, startD, sq, sAsg, sRet, sDrop, sIf, nop, Res.fl, Fl.seq, Res.bind, opt, shr, frz, gN, var, cst, val, stl, un, see, cont, fin, retD, retC, finIO, ioC, vAnd, vOr, vNot, tst, chain, mAnd, mOr, mNot, mCall, fz, frzs, aNil, aCons, mTup, mLst, cb, sees, sSet, frzv, slotL, putL, mApp, gI, gCmp, gAdd, fSub, gInt, gIx, gLen, gIsi, tyName, isTy, List.map_cons, List.map_nil, List.length_cons, List.length_nil, List.replicate_succ, List.replicate_zero, List.cons_append, List.nil_append, List.getElem?_cons_zero, List.getElem?_cons_succ, List.getElem?_nil, List.set_cons_zero, List.set_cons_succ, Option.bind_some, Option.bind_none, Option.map_some, Option.map_none, if_true, if_false, Nat.reduceAdd, Nat.reduceSub, Nat.reduceLeDiff, Bool.not_true, Bool.not_false, reduceIte, Bool.false_eq_true, ne_eq, not_true_eq_false, not_false_eq_true, rows_eq h h4, seqOf]
    unfold sFor
    rw [hi, Res.fl_ok]
    exact e3
  have st5 : sAsg toldE (gN 11) (LL a x1 (some (.own sp2)) (some (.int b)) x4 x5 x6 (some (.own (.lst [numsD s1, numsD s2]))) (some (.int 1)) (some (.own (.lst (((RR b).filter (keepR b s1 s2)).map rowD)))) z10 x11 v12 v13 z14 z15) = .nx (LL a x1 (some (.own sp2)) (some (.int b)) x4 x5 x6 (some (.own (.lst [numsD s1, numsD s2]))) (some (.int 1)) (some (.own (.lst (((RR b).filter (keepR b s1 s2)).map rowD)))) z10 (some (.own (.lst (((RR b).filter (keepR b s1 s2)).map rowD)))) v12 v13 z14 z15) := by
    unfold sAsg
    rw [t1]
    rfl
  have yes : ∀ (m : ME) (ls : LS), m ls = .ok (.bl true, ls) → sIf (mNot (tst m)) (sRet (cst (.bl false))) (nop) ls = .nx ls := fun m ls hm => by
    simp only [sIf, mNot, tst, hm, Res.bind, Res.fl, Bool.not_true, Bool.false_eq_true, if_false, nop]
  have st7 : sDrop (mApp 11 (cst (.str "odd"))) (LL a x1 (some (.own sp2)) (some (.int b)) x4 x5 x6 (some (.own (.lst [numsD s1, numsD s2]))) (some (.int 1)) (some (.own (.lst (((RR b).filter (keepR b s1 s2)).map rowD)))) z10 (some (.own (.lst (((RR b).filter (keepR b s1 s2)).map rowD)))) v12 v13 z14 z15) = .nx (LL a x1 (some (.own sp2)) (some (.int b)) x4 x5 x6 (some (.own (.lst [numsD s1, numsD s2]))) (some (.int 1)) (some (.own (.lst (((RR b).filter (keepR b s1 s2)).map rowD)))) z10 (some (.own (.lst (((RR b).filter (keepR b s1 s2)).map rowD ++ [.str "odd"])))) v12 v13 z14 z15) := by
    simp only [mkF, DL.bin, DL.ite, L2.atI, mkIO, startD, sq, sAsg, sRet, sDrop, sIf, nop, Res.fl, Fl.seq, Res.bind, opt, shr, frz, gN, var, cst, val, stl, un, see, cont, fin, retD, retC, finIO, ioC, vAnd, vOr, vNot, tst, chain, mAnd, mOr, mNot, mCall, fz, frzs, aNil, aCons, mTup, mLst, cb, sees, sSet, frzv, slotL, putL, mApp, gI, gCmp, gAdd, fSub, gInt, gIx, gLen, gIsi, tyName, isTy, List.map_cons, List.map_nil, List.length_cons, List.length_nil, List.replicate_succ, List.replicate_zero, List.cons_append, List.nil_append, List.getElem?_cons_zero, List.getElem?_cons_succ, List.getElem?_nil, List.set_cons_zero, List.set_cons_succ, Option.bind_some, Option.bind_none, Option.map_some, Option.map_none, if_true, if_false, Nat.reduceAdd, Nat.reduceSub, Nat.reduceLeDiff, Bool.not_true, Bool.not_false, reduceIte, Bool.false_eq_true, ne_eq, not_true_eq_false, not_false_eq_true, big]
  have st9 : sFor (iSeq (var 9)) (gN 10) checkB (LL a x1 (some (.own sp2)) (some (.int b)) x4 x5 x6 (some (.own (.lst [numsD s1, numsD s2]))) (some (.int 1)) (some (.own (.lst (((RR b).filter (keepR b s1 s2)).map rowD)))) z10 (some (.own (.lst (((RR b).filter (keepR b s1 s2)).map rowD ++ [.str "odd"])))) v12 v13 z14 z15) = .nx (LL a x1 (some (.own sp2)) (some (.int b)) x4 x5 x6 (some (.own (.lst [numsD s1, numsD s2]))) (some (.int 1)) (some (.lst (((RR b).filter (keepR b s1 s2)).map rowD))) y10 (some (.own (.lst (((RR b).filter (keepR b s1 s2)).map rowD ++ [.str "odd"])))) v12 v13 z14 z15) := by
    have hi : iSeq (var 9) (LL a x1 (some (.own sp2)) (some (.int b)) x4 x5 x6 (some (.own (.lst [numsD s1, numsD s2]))) (some (.int 1)) (some (.own (.lst (((RR b).filter (keepR b s1 s2)).map rowD)))) z10 (some (.own (.lst (((RR b).filter (keepR b s1 s2)).map rowD ++ [.str "odd"])))) v12 v13 z14 z15) = .ok (((RR b).filter (keepR b s1 s2)).map rowD, LL a x1 (some (.own sp2)) (some (.int b)) x4 x5 x6 (some (.own (.lst [numsD s1, numsD s2]))) (some (.int 1)) (some (.lst (((RR b).filter (keepR b s1 s2)).map rowD))) z10 (some (.own (.lst (((RR b).filter (keepR b s1 s2)).map rowD ++ [.str "odd"])))) v12 v13 z14 z15) := by
      simp only [iSeq, mkF, DL.bin, DL.ite, L2.atI, mkIO, startD, sq, sAsg, sRet, sDrop, sIf, nop, Res.fl, Fl.seq, Res.bind, opt, shr, frz, gN, var, cst, val, stl, un, see, cont, fin, retD, retC, finIO, ioC, vAnd, vOr, vNot, tst, chain, mAnd, mOr, mNot, mCall, fz, frzs, aNil, aCons, mTup, mLst, cb, sees, sSet, frzv, slotL, putL, mApp, gI, gCmp, gAdd, fSub, gInt, gIx, gLen, gIsi, tyName, isTy, List.map_cons, List.map_nil, List.length_cons, List.length_nil, List.replicate_succ, List.replicate_zero, List.cons_append, List.nil_append, List.getElem?_cons_zero, List.getElem?_cons_succ, List.getElem?_nil, List.set_cons_zero, List.set_cons_succ, Option.bind_some, Option.bind_none, Option.map_some, Option.map_none, if_true, if_false, Nat.reduceAdd, Nat.reduceSub, Nat.reduceLeDiff, Bool.not_true, Bool.not_false, reduceIte, Bool.false_eq_true, ne_eq, not_true_eq_false, not_false_eq_true, seqOf]
    unfold sFor
    rw [hi, Res.fl_ok]
    exact e4
  exact seq_nx (st1 x7) (seq_nx st2 (seq_nx st3 (seq_nx st4 (seq_nx st5 (seq_nx (yes _ _ k1) (seq_nx st7 (seq_nx (yes _ _ k2) st9)))))))
end DLaw

end M10
section M11
set_option Elab.async false
set_option linter.all false
set_option autoImplicit false
set_option maxRecDepth 100000
namespace DLaw
open PySem PySem.Spec DL
theorem turns (a : Addr) {b : Int} (h : 2 ≤ b) (h4 : b ≤ 4) (x1 x5 x6 : Option D) : ∀ (ds : List D) (sp : D), Spr sp → ∀ (x4 x7 x8 x9 x10 x11 x12 x13 x14 x15 : Option D), ∃ sp' y4 y7 y8 y9 y10 y11 y12 y13 y14 y15,
    forL (gN 4) turnB ds (LL a x1 (some (.own sp)) (some (.int b)) x4 x5 x6 x7 x8 x9 x10 x11 x12 x13 x14 x15) = .nx (LL a x1 (some (.own sp')) (some (.int b)) y4 x5 x6 y7 y8 y9 y10 y11 y12 y13 y14 y15)
  | [], sp, hs, x4, x7, x8, x9, x10, x11, x12, x13, x14, x15 => ⟨sp, x4, x7, x8, x9, x10, x11, x12, x13, x14, x15, rfl⟩
  | d :: ds, sp, hs, x4, x7, x8, x9, x10, x11, x12, x13, x14, x15 => by
    obtain ⟨sp1, y7, y8, y9, y10, y11, y12, y13, y14, y15, hs1, e1⟩ := turn a h h4 hs x1 (some d) x5 x6 x7 x8 x9 x10 x11 x12 x13 x14 x15
    obtain ⟨sp2, z4, z7, z8, z9, z10, z11, z12, z13, z14, z15, e2⟩ := turns a h h4 x1 x5 x6 ds sp1 hs1 (some d) y7 y8 y9 y10 y11 y12 y13 y14 y15
    refine ⟨sp2, z4, z7, z8, z9, z10, z11, z12, z13, z14, z15, ?_⟩
    rw [forL]
    simp only [gN, List.set_cons_succ, List.set_cons_zero]
    rw [e1]
    exact e2
/-! ### what is refused -/
def odds1 : List D := [.non, .tup [], .tup [.tup []], .tup [.tup [], .tup [], .tup []], .tup [.lst [.int 1], .tup []], .tup [.tup [.int 2, .int 1], .tup []], .tup [.tup [], .tup [.int 1, .int 1]], .tup [.tup [], .tup [.int (-1)]], .tup [.tup [.bl true], .tup []]]
def odds2 : List D := [.tup [.tup [.int 0, .int 1, .int 2, .int 3, .int 4, .int 5, .int 6], .tup []], .tup [.tup [.int 1000000000000000000000000000001], .tup []], .lst [.tup [], .tup []], .tup [.tup [], .tup [.str "1"]]]
def odds3 : List D := [.non, .int 1, .int 5, .bl true, .str "2"]
theorem odd_2 : ∀ d ∈ odds1 ++ odds2, keepO (some d) = some d ∧ f_figures_told [.int 2, d] = .exc "InvalidSeen" := by
  intro d hd
  simp only [odds1, odds2, List.cons_append, List.nil_append, List.mem_cons, List.not_mem_nil, or_false] at hd
  rcases hd with rfl | rfl | rfl | rfl | rfl | rfl | rfl | rfl | rfl | rfl | rfl | rfl | rfl <;> exact ⟨rfl, by kernel_rfl⟩
theorem odd_3 : ∀ d ∈ odds1 ++ odds2, keepO (some d) = some d ∧ f_figures_told [.int 3, d] = .exc "InvalidSeen" := by
  intro d hd
  simp only [odds1, odds2, List.cons_append, List.nil_append, List.mem_cons, List.not_mem_nil, or_false] at hd
  rcases hd with rfl | rfl | rfl | rfl | rfl | rfl | rfl | rfl | rfl | rfl | rfl | rfl | rfl <;> exact ⟨rfl, by kernel_rfl⟩
theorem odd_4 : ∀ d ∈ odds1 ++ odds2, keepO (some d) = some d ∧ f_figures_told [.int 4, d] = .exc "InvalidSeen" := by
  intro d hd
  simp only [odds1, odds2, List.cons_append, List.nil_append, List.mem_cons, List.not_mem_nil, or_false] at hd
  rcases hd with rfl | rfl | rfl | rfl | rfl | rfl | rfl | rfl | rfl | rfl | rfl | rfl | rfl <;> exact ⟨rfl, by kernel_rfl⟩
theorem odd_n : ∀ d ∈ odds3, keepO (some d) = some d ∧ f_figures_told [d, .non] = .exc "InvalidNumber" := by
  intro d hd
  simp only [odds3, List.mem_cons, List.not_mem_nil, or_false] at hd
  rcases hd with rfl | rfl | rfl | rfl | rfl <;> exact ⟨rfl, by kernel_rfl⟩
theorem var_keep {ls : LS} {i : Nat} {d : D} (h : ls[i]? = some (some d)) (hd : keepO (some d) = some d) : var i (shut ls) = .ok (d, shut ls) ∧ stl d = some d ∧ ∀ l, frz l d = some (d, l) := by
  have e : (shut ls)[i]? = some (some d) := by
    unfold shut
    rw [List.getElem?_map, h]
    exact congrArg some hd
  unfold var
  rw [e]
  cases d with
  | own d => cases hd
  | io d => cases hd
  | bor i => cases hd
  | _ => exact ⟨rfl, rfl, fun _ => rfl⟩
theorem came1 {errOf : Str → Option Str} {ls : LS} {b : Int} {d : D} {x y : Str} (h3 : ls[3]? = some (some (.int b))) (h6 : ls[6]? = some (some d)) (hd : keepO (some d) = some d) (he : f_figures_told [.int b, d] = .exc x) (hx : errOf x = some y) :
    mCame errOf (mCall f_figures_told (aCons (var 3) (aCons (var 6) (aNil)))) ls = .ok (.str y, ls) := by
  obtain ⟨v3, q3, r7⟩ := var_keep h3 rfl
  obtain ⟨v6, q6, q7⟩ := var_keep h6 hd
  have m : mCall f_figures_told (aCons (var 3) (aCons (var 6) (aNil))) (shut ls) = .exc x := by
    simp only [mCall, fz, aCons, val, v3, v6, q3, q6, q7, r7, Res.bind, opt, aNil, frzs, Option.bind_some, he]
  unfold mCame
  rw [m]
  simp only [hx, opt, Res.bind]
theorem came2 {errOf : Str → Option Str} {ls : LS} {d : D} {x y : Str} (h6 : ls[6]? = some (some d)) (hd : keepO (some d) = some d) (he : f_figures_told [d, .non] = .exc x) (hx : errOf x = some y) :
    mCame errOf (mCall f_figures_told (aCons (var 6) (aCons (cst .non) (aNil)))) ls = .ok (.str y, ls) := by
  obtain ⟨v6, q6, q7⟩ := var_keep h6 hd
  have m : mCall f_figures_told (aCons (var 6) (aCons (cst .non) (aNil))) (shut ls) = .exc x := by
    have n7 : ∀ l, frz l .non = some (.non, l) := fun _ => rfl
    have n8 : stl .non = some .non := rfl
    simp only [mCall, fz, aCons, val, v6, q6, q7, cst, n8, n7, Res.bind, opt, aNil, frzs, Option.bind_some, he]
  unfold mCame
  rw [m]
  simp only [hx, opt, Res.bind]
def errOf (x : Str) : Option Str := if x = "InvalidSeen" then some ("seen" : Str) else if x = "InvalidNumber" then some ("number" : Str) else none
theorem err1 : errOf "InvalidSeen" = some ("seen" : Str) := if_pos rfl
theorem err2 : errOf "InvalidNumber" = some ("number" : Str) := by unfold errOf; rw [if_neg (by decide), if_pos rfl]
noncomputable abbrev seenB : MS := (sIf (tst (DL.bin gNe (mCame errOf (mCall f_figures_told (aCons (var 3) (aCons (var 6) (aNil))))) (cst (.str "seen")))) (sRet (cst (.bl false))) (nop))
noncomputable abbrev numB : MS := (sIf (tst (DL.bin gNe (mCame errOf (mCall f_figures_told (aCons (var 6) (aCons (cst .non) (aNil))))) (cst (.str "number")))) (sRet (cst (.bl false))) (nop))
theorem ne1 : gNe (.str "seen") (.str "seen") = some (.bl false) := by kernel_rfl
theorem ne2 : gNe (.str "number") (.str "number") = some (.bl false) := by kernel_rfl
theorem loop1 (a : Addr) (b : Int) (x1 x2 x4 x5 x7 x8 x9 x10 x11 x12 x13 x14 x15 : Option D) : ∀ (ds : List D) (x6 : Option D), (∀ d ∈ ds, keepO (some d) = some d ∧ f_figures_told [.int b, d] = .exc "InvalidSeen") → ∃ y6,
    forL (gN 6) seenB ds (LL a x1 x2 (some (.int b)) x4 x5 x6 x7 x8 x9 x10 x11 x12 x13 x14 x15) = .nx (LL a x1 x2 (some (.int b)) x4 x5 y6 x7 x8 x9 x10 x11 x12 x13 x14 x15)
  | [], x6, _ => ⟨x6, rfl⟩
  | d :: ds, x6, h => by
    obtain ⟨y6, ih⟩ := loop1 a b x1 x2 x4 x5 x7 x8 x9 x10 x11 x12 x13 x14 x15 ds (some d) fun x hx => h x (List.mem_cons_of_mem _ hx)
    refine ⟨y6, ?_⟩
    obtain ⟨k1, k2⟩ := h d List.mem_cons_self
    have c := came1 (errOf := errOf) (ls := LL a x1 x2 (some (.int b)) x4 x5 (some d) x7 x8 x9 x10 x11 x12 x13 x14 x15) (b := b) (d := d) rfl rfl k1 k2 err1
    rw [forL]
    simp only [gN, List.set_cons_succ, List.set_cons_zero]
    simp only [seenB, sIf, tst, DL.bin, val, c, cst, stl, opt, Res.bind, see, ne1, Res.fl, Bool.false_eq_true, if_false, nop]
    exact ih
theorem loop2 (a : Addr) (x1 x2 x3 x4 x5 x7 x8 x9 x10 x11 x12 x13 x14 x15 : Option D) : ∀ (ds : List D) (x6 : Option D), (∀ d ∈ ds, keepO (some d) = some d ∧ f_figures_told [d, .non] = .exc "InvalidNumber") → ∃ y6,
    forL (gN 6) numB ds (LL a x1 x2 x3 x4 x5 x6 x7 x8 x9 x10 x11 x12 x13 x14 x15) = .nx (LL a x1 x2 x3 x4 x5 y6 x7 x8 x9 x10 x11 x12 x13 x14 x15)
  | [], x6, _ => ⟨x6, rfl⟩
  | d :: ds, x6, h => by
    obtain ⟨y6, ih⟩ := loop2 a x1 x2 x3 x4 x5 x7 x8 x9 x10 x11 x12 x13 x14 x15 ds (some d) fun x hx => h x (List.mem_cons_of_mem _ hx)
    refine ⟨y6, ?_⟩
    obtain ⟨k1, k2⟩ := h d List.mem_cons_self
    have c := came2 (errOf := errOf) (ls := LL a x1 x2 x3 x4 x5 (some d) x7 x8 x9 x10 x11 x12 x13 x14 x15) (d := d) rfl k1 k2 err2
    rw [forL]
    simp only [gN, List.set_cons_succ, List.set_cons_zero]
    simp only [numB, sIf, tst, DL.bin, val, c, cst, stl, opt, Res.bind, see, ne2, Res.fl, Bool.false_eq_true, if_false, nop]
    exact ih

noncomputable abbrev oddsS : MS := sAsg (mLst (aCons (cst .non) (aCons (mTup (aNil)) (aCons (mTup (aCons (mTup (aNil)) (aNil))) (aCons (mTup (aCons (mTup (aNil)) (aCons (mTup (aNil)) (aCons (mTup (aNil)) (aNil))))) (aCons (mTup (aCons (mLst (aCons (cst (.int 1)) (aNil))) (aCons (mTup (aNil)) (aNil)))) (aCons (mTup (aCons (mTup (aCons (cst (.int 2)) (aCons (cst (.int 1)) (aNil)))) (aCons (mTup (aNil)) (aNil)))) (aCons (mTup (aCons (mTup (aNil)) (aCons (mTup (aCons (cst (.int 1)) (aCons (cst (.int 1)) (aNil)))) (aNil)))) (aCons (mTup (aCons (mTup (aNil)) (aCons (mTup (aCons (un gNeg (cst (.int 1))) (aNil))) (aNil)))) (aCons (mTup (aCons (mTup (aCons (cst (.bl true)) (aNil))) (aCons (mTup (aNil)) (aNil)))) (aNil))))))))))) (gN 5)
noncomputable abbrev it1 : MI := iSeq (DL.bin gAdd (var 5) (mLst (aCons (mTup (aCons (un (gRg false) (cst (.int 7))) (aCons (mTup (aNil)) (aNil)))) (aCons (mTup (aCons (mTup (aCons (DL.bin gAdd (DL.bin (gI fPow) (cst (.int 10)) (cst (.int 30))) (cst (.int 1))) (aNil))) (aCons (mTup (aNil)) (aNil)))) (aCons (mLst (aCons (mTup (aNil)) (aCons (mTup (aNil)) (aNil)))) (aCons (mTup (aCons (mTup (aNil)) (aCons (mTup (aCons (cst (.str "1")) (aNil))) (aNil)))) (aNil)))))))
noncomputable abbrev it2 : MI := iSeq (mLst (aCons (cst .non) (aCons (cst (.int 1)) (aCons (cst (.int 5)) (aCons (cst (.bl true)) (aCons (cst (.str "2")) (aNil)))))))
theorem odds_st (a : Addr) (x1 x2 x3 x4 x5 x6 x7 x8 x9 x10 x11 x12 x13 x14 x15 : Option D) : oddsS (LL a x1 x2 x3 x4 x5 x6 x7 x8 x9 x10 x11 x12 x13 x14 x15) = .nx (LL a x1 x2 x3 x4 (some (.own (.lst odds1))) x6 x7 x8 x9 x10 x11 x12 x13 x14 x15) := by kernel_rfl
theorem it1_st (a : Addr) (x1 x2 x3 x4 x5 x6 x7 x8 x9 x10 x11 x12 x13 x14 x15 : Option D) : it1 (LL a x1 x2 x3 x4 (some (.own (.lst odds1))) x6 x7 x8 x9 x10 x11 x12 x13 x14 x15) = .ok (odds1 ++ odds2, LL a x1 x2 x3 x4 (some (.own (.lst odds1))) x6 x7 x8 x9 x10 x11 x12 x13 x14 x15) := by kernel_rfl
theorem it2_st (a : Addr) (x1 x2 x3 x4 x5 x6 x7 x8 x9 x10 x11 x12 x13 x14 x15 : Option D) : it2 (LL a x1 x2 x3 x4 x5 x6 x7 x8 x9 x10 x11 x12 x13 x14 x15) = .ok (odds3, LL a x1 x2 x3 x4 x5 x6 x7 x8 x9 x10 x11 x12 x13 x14 x15) := by kernel_rfl
end DLaw

end M11
section M12
set_option Elab.async false
set_option linter.all false
set_option autoImplicit false
set_option maxRecDepth 100000
namespace DLaw
open PySem PySem.Spec DL
noncomputable abbrev atB (i : Addr × List Int) : MS := sq (sAsg (mCall (f__law_spring i) (aCons (var 0) (aCons (var 1) (aNil)))) (gN 2)) (sq (sAsg (DL.bin gAdd (cst (.int 2)) (mIO f__law_pick 2 (aCons (cst (.int 3)) (aNil)))) (gN 3)) (sq (sFor (iRange (aCons (cst (.int 6)) (aNil))) (gN 4) turnB) (sq oddsS (sq (sFor it1 (gN 6) seenB) (sFor it2 (gN 6) numB)))))
noncomputable abbrev itA (i : Addr × List Int) : MI := iRange (aCons (DL.bin gAdd (cb gMin2 (aCons (cb (gLenS i.1 i.2.length) (aCons (var 0) (aNil))) (aCons (cst (.int 6)) (aNil)))) (cst (.int 1))) (aNil))
noncomputable abbrev finS : MS := (sRet (DL.bin gEq (mCall f_figures_told (aCons (cst (.int 3)) (aCons (mTup (aCons (mTup (aNil)) (aCons (mTup (aNil)) (aNil)))) (aNil)))) (mLst (aCons (mTup (aCons (cst (.int 0)) (aNil))) (aCons (mTup (aCons (cst (.int 0)) (aCons (cst (.int 1)) (aNil)))) (aCons (mTup (aCons (cst (.int 0)) (aCons (cst (.int 1)) (aCons (cst (.int 2)) (aNil))))) (aCons (mTup (aCons (cst (.int 0)) (aCons (cst (.int 2)) (aNil)))) (aNil))))))))
theorem b_law_eq (i : Addr × List Int) : b_law errOf i = sq (sFor (itA i) (gN 1) (atB i)) finS := rfl
theorem at_step (i : Addr × List Int) {z : Int} (h0 : 0 ≤ z) (h1 : z ≤ 63) (x2 x3 x4 x5 x6 x7 x8 x9 x10 x11 x12 x13 x14 x15 : Option D) : ∃ y2 y3 y4 y5 y6 y7 y8 y9 y10 y11 y12 y13 y14 y15,
    atB i (LL i.1 (some (.int z)) x2 x3 x4 x5 x6 x7 x8 x9 x10 x11 x12 x13 x14 x15) = .nx (LL i.1 (some (.int z)) y2 y3 y4 y5 y6 y7 y8 y9 y10 y11 y12 y13 y14 y15) := by
  obtain ⟨sp, e1, hs⟩ := spring i (fun _ _ => trivial) h0 h1
  obtain ⟨d, sp1, p1, p2, p3, hs1⟩ := pick hs (m := 3) (by decide) (by decide)
  have hb : 2 ≤ 2 + d := by omega
  have hb4 : 2 + d ≤ 4 := by omega
  obtain ⟨sp2, y4, y7, y8, y9, y10, y11, y12, y13, y14, y15, e2⟩ := turns i.1 hb hb4 (some (.int z)) x5 x6 [.int 0, .int 1, .int 2, .int 3, .int 4, .int 5] sp1 hs1 x4 x7 x8 x9 x10 x11 x12 x13 x14 x15
  have od : ∀ d2 ∈ odds1 ++ odds2, keepO (some d2) = some d2 ∧ f_figures_told [.int (2 + d), d2] = .exc "InvalidSeen" := by
    rcases three hb hb4 with e | e | e <;> rw [e]
    · exact odd_2
    · exact odd_3
    · exact odd_4
  obtain ⟨u6, e3⟩ := loop1 i.1 (2 + d) (some (.int z)) (some (.own sp2)) y4 (some (.own (.lst odds1))) y7 y8 y9 y10 y11 y12 y13 y14 y15 (odds1 ++ odds2) x6 od
  obtain ⟨v6, e4⟩ := loop2 i.1 (some (.int z)) (some (.own sp2)) (some (.int (2 + d))) y4 (some (.own (.lst odds1))) y7 y8 y9 y10 y11 y12 y13 y14 y15 odds3 u6 odd_n
  refine ⟨some (.own sp2), some (.int (2 + d)), y4, some (.own (.lst odds1)), v6, y7, y8, y9, y10, y11, y12, y13, y14, y15, ?_⟩
  have st1 : sAsg (mCall (f__law_spring i) (aCons (var 0) (aCons (var 1) (aNil)))) (gN 2) (LL i.1 (some (.int z)) x2 x3 x4 x5 x6 x7 x8 x9 x10 x11 x12 x13 x14 x15) = .nx (LL i.1 (some (.int z)) (some (.own sp)) x3 x4 x5 x6 x7 x8 x9 x10 x11 x12 x13 x14 x15) := by
    simp only [mkF, DL.bin, DL.ite, L2.atI, mkIO, startD, sq, sAsg, sRet, sDrop, sIf, nop, Res.fl, Fl.seq, Res.bind, opt, shr, frz, gN, var, cst, val, stl, un, see, cont, fin, retD, retC, finIO, ioC, vAnd, vOr, vNot, tst, chain, mAnd, mOr, mNot, mCall, fz, frzs, aNil, aCons, mTup, mLst, cb, sees, sSet, frzv, slotL, putL, mApp, gI, gCmp, gAdd, fSub, gInt, gIx, gLen, gIsi, tyName, isTy, List.map_cons, List.map_nil, List.length_cons, List.length_nil, List.replicate_succ, List.replicate_zero, List.cons_append, List.nil_append, List.getElem?_cons_zero, List.getElem?_cons_succ, List.getElem?_nil, List.set_cons_zero, List.set_cons_succ, Option.bind_some, Option.bind_none, Option.map_some, Option.map_none, if_true, if_false, Nat.reduceAdd, Nat.reduceSub, Nat.reduceLeDiff, Bool.not_true, Bool.not_false, reduceIte, Bool.false_eq_true, ne_eq, not_true_eq_false, not_false_eq_true, e1]
  have st2 : sAsg (DL.bin gAdd (cst (.int 2)) (mIO f__law_pick 2 (aCons (cst (.int 3)) (aNil)))) (gN 3) (LL i.1 (some (.int z)) (some (.own sp)) x3 x4 x5 x6 x7 x8 x9 x10 x11 x12 x13 x14 x15) = .nx (LL i.1 (some (.int z)) (some (.own sp1)) (some (.int (2 + d))) x4 x5 x6 x7 x8 x9 x10 x11 x12 x13 x14 x15) := by
    have q := pick_at (ls := LL i.1 (some (.int z)) (some (.own sp)) x3 x4 x5 x6 x7 x8 x9 x10 x11 x12 x13 x14 x15) (e := cst (.int 3)) rfl rfl p1
    simp only [mkF, DL.bin, DL.ite, L2.atI, mkIO, startD, sq, sAsg, sRet, sDrop, sIf, nop, Res.fl, Fl.seq, Res.bind, opt, shr, frz, gN, var, cst, val, stl, un, see, cont, fin, retD, retC, finIO, ioC, vAnd, vOr, vNot, tst, chain, mAnd, mOr, mNot, mCall, fz, frzs, aNil, aCons, mTup, mLst, cb, sees, sSet, frzv, slotL, putL, mApp, gI, gCmp, gAdd, fSub, gInt, gIx, gLen, gIsi, tyName, isTy, List.map_cons, List.map_nil, List.length_cons, List.length_nil, List.replicate_succ, List.replicate_zero, List.cons_append, List.nil_append, List.getElem?_cons_zero, List.getElem?_cons_succ, List.getElem?_nil, List.set_cons_zero, List.set_cons_succ, Option.bind_some, Option.bind_none, Option.map_some, Option.map_none, if_true, if_false, Nat.reduceAdd, Nat.reduceSub, Nat.reduceLeDiff, Bool.not_true, Bool.not_false, reduceIte, Bool.false_eq_true, ne_eq, not_true_eq_false, not_false_eq_true, q]
  have st3 : sFor (iRange (aCons (cst (.int 6)) (aNil))) (gN 4) turnB (LL i.1 (some (.int z)) (some (.own sp1)) (some (.int (2 + d))) x4 x5 x6 x7 x8 x9 x10 x11 x12 x13 x14 x15) = .nx (LL i.1 (some (.int z)) (some (.own sp2)) (some (.int (2 + d))) y4 x5 x6 y7 y8 y9 y10 y11 y12 y13 y14 y15) := by
    have n6 : inB 6 := by decide
    have hi : iRange (aCons (cst (.int 6)) (aNil)) (LL i.1 (some (.int z)) (some (.own sp1)) (some (.int (2 + d))) x4 x5 x6 x7 x8 x9 x10 x11 x12 x13 x14 x15) = .ok ([.int 0, .int 1, .int 2, .int 3, .int 4, .int 5], LL i.1 (some (.int z)) (some (.own sp1)) (some (.int (2 + d))) x4 x5 x6 x7 x8 x9 x10 x11 x12 x13 x14 x15) := by
      unfold iRange
      simp only [mkF, DL.bin, DL.ite, L2.atI, mkIO, startD, sq, sAsg, sRet, sDrop, sIf, nop, Res.fl, Fl.seq, Res.bind, opt, shr, frz, gN, var, cst, val, stl, un, see, cont, fin, retD, retC, finIO, ioC, vAnd, vOr, vNot, tst, chain, mAnd, mOr, mNot, mCall, fz, frzs, aNil, aCons, mTup, mLst, cb, sees, sSet, frzv, slotL, putL, mApp, gI, gCmp, gAdd, fSub, gInt, gIx, gLen, gIsi, tyName, isTy, List.map_cons, List.map_nil, List.length_cons, List.length_nil, List.replicate_succ, List.replicate_zero, List.cons_append, List.nil_append, List.getElem?_cons_zero, List.getElem?_cons_succ, List.getElem?_nil, List.set_cons_zero, List.set_cons_succ, Option.bind_some, Option.bind_none, Option.map_some, Option.map_none, if_true, if_false, Nat.reduceAdd, Nat.reduceSub, Nat.reduceLeDiff, Bool.not_true, Bool.not_false, reduceIte, Bool.false_eq_true, ne_eq, not_true_eq_false, not_false_eq_true]
      rw [if_pos n6]; rfl
    unfold sFor
    rw [hi, Res.fl_ok]
    exact e2
  have st5 : sFor it1 (gN 6) seenB (LL i.1 (some (.int z)) (some (.own sp2)) (some (.int (2 + d))) y4 (some (.own (.lst odds1))) x6 y7 y8 y9 y10 y11 y12 y13 y14 y15) = .nx (LL i.1 (some (.int z)) (some (.own sp2)) (some (.int (2 + d))) y4 (some (.own (.lst odds1))) u6 y7 y8 y9 y10 y11 y12 y13 y14 y15) := by
    have hi := it1_st i.1 (some (.int z)) (some (.own sp2)) (some (.int (2 + d))) y4 none x6 y7 y8 y9 y10 y11 y12 y13 y14 y15
    unfold sFor
    rw [hi, Res.fl_ok]
    exact e3
  have st6 : sFor it2 (gN 6) numB (LL i.1 (some (.int z)) (some (.own sp2)) (some (.int (2 + d))) y4 (some (.own (.lst odds1))) u6 y7 y8 y9 y10 y11 y12 y13 y14 y15) = .nx (LL i.1 (some (.int z)) (some (.own sp2)) (some (.int (2 + d))) y4 (some (.own (.lst odds1))) v6 y7 y8 y9 y10 y11 y12 y13 y14 y15) := by
    have hi := it2_st i.1 (some (.int z)) (some (.own sp2)) (some (.int (2 + d))) y4 (some (.own (.lst odds1))) u6 y7 y8 y9 y10 y11 y12 y13 y14 y15
    unfold sFor
    rw [hi, Res.fl_ok]
    exact e4
  exact seq_nx st1 (seq_nx st2 (seq_nx st3 (seq_nx (odds_st i.1 (some (.int z)) (some (.own sp2)) (some (.int (2 + d))) y4 x5 x6 y7 y8 y9 y10 y11 y12 y13 y14 y15) (seq_nx st5 st6))))
theorem at_loop (i : Addr × List Int) : ∀ (ds : List Int), (∀ z ∈ ds, 0 ≤ z ∧ z ≤ 63) → ∀ (x1 x2 x3 x4 x5 x6 x7 x8 x9 x10 x11 x12 x13 x14 x15 : Option D), ∃ y1 y2 y3 y4 y5 y6 y7 y8 y9 y10 y11 y12 y13 y14 y15,
    forL (gN 1) (atB i) (ds.map .int) (LL i.1 x1 x2 x3 x4 x5 x6 x7 x8 x9 x10 x11 x12 x13 x14 x15) = .nx (LL i.1 y1 y2 y3 y4 y5 y6 y7 y8 y9 y10 y11 y12 y13 y14 y15)
  | [], _, x1, x2, x3, x4, x5, x6, x7, x8, x9, x10, x11, x12, x13, x14, x15 => ⟨x1, x2, x3, x4, x5, x6, x7, x8, x9, x10, x11, x12, x13, x14, x15, rfl⟩
  | z :: ds, h, x1, x2, x3, x4, x5, x6, x7, x8, x9, x10, x11, x12, x13, x14, x15 => by
    obtain ⟨h0, h1⟩ := h z List.mem_cons_self
    obtain ⟨y2, y3, y4, y5, y6, y7, y8, y9, y10, y11, y12, y13, y14, y15, e1⟩ := at_step i h0 h1 x2 x3 x4 x5 x6 x7 x8 x9 x10 x11 x12 x13 x14 x15
    obtain ⟨u1, u2, u3, u4, u5, u6, u7, u8, u9, u10, u11, u12, u13, u14, u15, e2⟩ := at_loop i ds (fun x hx => h x (List.mem_cons_of_mem _ hx)) (some (.int z)) y2 y3 y4 y5 y6 y7 y8 y9 y10 y11 y12 y13 y14 y15
    refine ⟨u1, u2, u3, u4, u5, u6, u7, u8, u9, u10, u11, u12, u13, u14, u15, ?_⟩
    rw [List.map_cons, forL]
    simp only [gN, List.set_cons_succ, List.set_cons_zero]
    rw [e1]
    exact e2
theorem none_nums : Nums [] := ⟨by decide, .nil, fun x hx => (nomatch hx)⟩
theorem law_true (i : Addr × List Int) (hl : i.2.length ≤ 63) : f_law errOf i [.ref i.1] = .ok (.bl true) := by
  have e1 : f_figures_told [.int 3, .tup [.tup [], .tup []]] = .ok (.own (.lst (R3.map rowD))) := by
    have q := told (b := 3) (by decide) (by decide) none_nums none_nums
    have f : (RR 3).filter (keepR 3 [] []) = R3 := by
      show R3.filter (keepR 3 [] []) = R3
      exact List.filter_eq_self.mpr fun r _ => rfl
    rw [f] at q
    exact q
  have ge : gEq (.lst (R3.map rowD)) (.lst (R3.map rowD)) = some (.bl true) := by kernel_rfl
  have l1 : 1 ≤ sizeLine := by rw [sizeLine_eq]; omega
  have l2 : 2 ≤ sizeLine := by rw [sizeLine_eq]; omega
  have l3 : 3 ≤ sizeLine := by rw [sizeLine_eq]; omega
  have l4 : 4 ≤ sizeLine := by rw [sizeLine_eq]; omega
  have fn : ∀ ls, finS ls = .rt (.bl true) ls := fun ls => by
    have m : mLst (aCons (mTup (aCons (cst (.int 0)) (aNil))) (aCons (mTup (aCons (cst (.int 0)) (aCons (cst (.int 1)) (aNil)))) (aCons (mTup (aCons (cst (.int 0)) (aCons (cst (.int 1)) (aCons (cst (.int 2)) (aNil))))) (aCons (mTup (aCons (cst (.int 0)) (aCons (cst (.int 2)) (aNil)))) (aNil))))) ls = .ok (.own (.lst (R3.map rowD)), ls) := by
      simp only [mkF, DL.bin, DL.ite, L2.atI, mkIO, startD, sq, sAsg, sRet, sDrop, sIf, nop, Res.fl, Fl.seq, Res.bind, opt, shr, frz, gN, var, cst, val, stl, un, see, cont, fin, retD, retC, finIO, ioC, vAnd, vOr, vNot, tst, chain, mAnd, mOr, mNot, mCall, fz, frzs, aNil, aCons, mTup, mLst, cb, sees, sSet, frzv, slotL, putL, mApp, gI, gCmp, gAdd, fSub, gInt, gIx, gLen, gIsi, tyName, isTy, List.map_cons, List.map_nil, List.length_cons, List.length_nil, List.replicate_succ, List.replicate_zero, List.cons_append, List.nil_append, List.getElem?_cons_zero, List.getElem?_cons_succ, List.getElem?_nil, List.set_cons_zero, List.set_cons_succ, Option.bind_some, Option.bind_none, Option.map_some, Option.map_none, if_true, if_false, Nat.reduceAdd, Nat.reduceSub, Nat.reduceLeDiff, Bool.not_true, Bool.not_false, reduceIte, Bool.false_eq_true, ne_eq, not_true_eq_false, not_false_eq_true, l1, l2, l3, l4]; rfl
    have c : mCall f_figures_told (aCons (cst (.int 3)) (aCons (mTup (aCons (mTup (aNil)) (aCons (mTup (aNil)) (aNil)))) (aNil))) ls = .ok (.own (.lst (R3.map rowD)), ls) := by
      simp only [mkF, DL.bin, DL.ite, L2.atI, mkIO, startD, sq, sAsg, sRet, sDrop, sIf, nop, Res.fl, Fl.seq, Res.bind, opt, shr, frz, gN, var, cst, val, stl, un, see, cont, fin, retD, retC, finIO, ioC, vAnd, vOr, vNot, tst, chain, mAnd, mOr, mNot, mCall, fz, frzs, aNil, aCons, mTup, mLst, cb, sees, sSet, frzv, slotL, putL, mApp, gI, gCmp, gAdd, fSub, gInt, gIx, gLen, gIsi, tyName, isTy, List.map_cons, List.map_nil, List.length_cons, List.length_nil, List.replicate_succ, List.replicate_zero, List.cons_append, List.nil_append, List.getElem?_cons_zero, List.getElem?_cons_succ, List.getElem?_nil, List.set_cons_zero, List.set_cons_succ, Option.bind_some, Option.bind_none, Option.map_some, Option.map_none, if_true, if_false, Nat.reduceAdd, Nat.reduceSub, Nat.reduceLeDiff, Bool.not_true, Bool.not_false, reduceIte, Bool.false_eq_true, ne_eq, not_true_eq_false, not_false_eq_true, line0, l2, e1]
    unfold finS
    simp only [sRet, DL.bin, val, c, m, Res.bind, stl, opt, see, ge, Res.fl]
  have ub : ∃ n : Nat, n ≤ 63 ∧ itA i (LL i.1 none none none none none none none none none none none none none none none) = .ok ((List.range n).map fun (k : Nat) => D.int (0 + (k : Int)), LL i.1 none none none none none none none none none none none none none none none) := by
    refine ⟨((if (6 : Int) < (i.2.length : Int) then 6 else (i.2.length : Int)) + 1).toNat, by split <;> omega, ?_⟩
    have bn : inB ((if (6 : Int) < (i.2.length : Int) then 6 else (i.2.length : Int)) + 1) := by constructor <;> (split <;> omega)
    unfold itA iRange
    simp only [gLenS, gMin2, mkF, DL.bin, DL.ite, L2.atI, mkIO, startD, sq, sAsg, sRet, sDrop, sIf, nop, Res.fl, Fl.seq, Res.bind, opt, shr, frz, gN, var, cst, val, stl, un, see, cont, fin, retD, retC, finIO, ioC, vAnd, vOr, vNot, tst, chain, mAnd, mOr, mNot, mCall, fz, frzs, aNil, aCons, mTup, mLst, cb, sees, sSet, frzv, slotL, putL, mApp, gI, gCmp, gAdd, fSub, gInt, gIx, gLen, gIsi, tyName, isTy, List.map_cons, List.map_nil, List.length_cons, List.length_nil, List.replicate_succ, List.replicate_zero, List.cons_append, List.nil_append, List.getElem?_cons_zero, List.getElem?_cons_succ, List.getElem?_nil, List.set_cons_zero, List.set_cons_succ, Option.bind_some, Option.bind_none, Option.map_some, Option.map_none, if_true, if_false, Nat.reduceAdd, Nat.reduceSub, Nat.reduceLeDiff, Bool.not_true, Bool.not_false, reduceIte, Bool.false_eq_true, ne_eq, not_true_eq_false, not_false_eq_true]
    rw [if_pos bn]; rfl
  obtain ⟨n, hn, hi⟩ := ub
  obtain ⟨y1, y2, y3, y4, y5, y6, y7, y8, y9, y10, y11, y12, y13, y14, y15, e2⟩ := at_loop i ((List.range n).map fun (k : Nat) => (0 + (k : Int))) (fun z hz => by
    obtain ⟨k, hk, rfl⟩ := List.mem_map.mp hz
    have := List.mem_range.mp hk
    omega) none none none none none none none none none none none none none none none
  rw [List.map_map] at e2
  have st : sFor (itA i) (gN 1) (atB i) (LL i.1 none none none none none none none none none none none none none none none) = .nx (LL i.1 y1 y2 y3 y4 y5 y6 y7 y8 y9 y10 y11 y12 y13 y14 y15) := by
    unfold sFor
    rw [hi, Res.fl_ok]
    exact e2
  unfold f_law mkF
  rw [if_pos (show [D.ref i.1].length = 1 from rfl), b_law_eq]
  have z := seq_nx (A := sFor (itA i) (gN 1) (atB i)) (B := finS) (ls := startD 18 [.ref i.1]) st (fn _)
  rw [z]
  rfl
end DLaw

end M12
section W08E
set_option Elab.async false
set_option linter.all false
set_option autoImplicit false
set_option maxRecDepth 100000
set_option maxHeartbeats 4000000
namespace DLaw
open PySem PySem.Spec PyProof.Rows L2 LamX DL
theorem gIsE_same (a : Addr) (tbl : Addr → Option Bool) (c : Addr) : gIsE a tbl [.ref a, .ref c] = (tbl c).map .bl := if_pos rfl
theorem err_seen (a : Addr) (tbl : Addr → Option Bool) (k_InvalidLot k_InvalidNumber k_InvalidFigures k_InvalidSeen k_InvalidText k_Unlike k_NoMember k_NothingLeft : Addr) (h_InvalidLot : tbl k_InvalidLot = some false) (h_InvalidNumber : tbl k_InvalidNumber = some false) (h_InvalidFigures : tbl k_InvalidFigures = some false) (h_InvalidSeen : tbl k_InvalidSeen = some true) (h_InvalidText : tbl k_InvalidText = some false) (h_Unlike : tbl k_Unlike = some false) (h_NoMember : tbl k_NoMember = some false) (h_NothingLeft : tbl k_NothingLeft = some false) : fin (b__law_error_of a tbl k_InvalidLot k_InvalidNumber k_InvalidFigures k_InvalidSeen k_InvalidText k_Unlike k_NoMember k_NothingLeft (startD 4 [.ref a])) = .ok (.str "seen") := by
  have l1 : 1 ≤ sizeLine := by rw [sizeLine_eq]; omega
  have l2 : 2 ≤ sizeLine := by rw [sizeLine_eq]; omega
  have s1 : 1 < sizeLine := by rw [sizeLine_eq]; omega
  have s2 : 2 < sizeLine := by rw [sizeLine_eq]; omega
  have s3 : 3 < sizeLine := by rw [sizeLine_eq]; omega
  have s4 : 4 < sizeLine := by rw [sizeLine_eq]; omega
  have s5 : 5 < sizeLine := by rw [sizeLine_eq]; omega
  have s6 : 6 < sizeLine := by rw [sizeLine_eq]; omega
  have s7 : 7 < sizeLine := by rw [sizeLine_eq]; omega
  unfold b__law_error_of
  simp only [mkF, DL.bin, DL.ite, L2.atI, mkIO, startD, sq, sAsg, sRet, sDrop, sIf, nop, Res.fl, Fl.seq, Res.bind, opt, shr, frz, gN, var, cst, val, stl, un, see, cont, fin, retD, retC, finIO, ioC, vAnd, vOr, vNot, tst, chain, mAnd, mOr, mNot, mCall, fz, frzs, aNil, aCons, mTup, mLst, cb, sees, sSet, frzv, slotL, putL, mApp, gI, gCmp, gAdd, fSub, gInt, gIx, gLen, gIsi, tyName, isTy, List.map_cons, List.map_nil, List.length_cons, List.length_nil, List.replicate_succ, List.replicate_zero, List.cons_append, List.nil_append, List.getElem?_cons_zero, List.getElem?_cons_succ, List.getElem?_nil, List.set_cons_zero, List.set_cons_succ, Option.bind_some, Option.bind_none, Option.map_some, Option.map_none, if_true, if_false, Nat.reduceAdd, Nat.reduceSub, Nat.reduceLeDiff, Bool.not_true, Bool.not_false, reduceIte, Bool.false_eq_true, ne_eq, not_true_eq_false, not_false_eq_true, gIsE_same, h_InvalidLot, h_InvalidNumber, h_InvalidFigures, h_InvalidSeen, h_InvalidText, h_Unlike, h_NoMember, h_NothingLeft, l1, l2, s1, s2, s3, s4, s5, s6, s7, Nat.zero_add]
  kernel_rfl
theorem err_number (a : Addr) (tbl : Addr → Option Bool) (k_InvalidLot k_InvalidNumber k_InvalidFigures k_InvalidSeen k_InvalidText k_Unlike k_NoMember k_NothingLeft : Addr) (h_InvalidLot : tbl k_InvalidLot = some false) (h_InvalidNumber : tbl k_InvalidNumber = some true) (h_InvalidFigures : tbl k_InvalidFigures = some false) (h_InvalidSeen : tbl k_InvalidSeen = some false) (h_InvalidText : tbl k_InvalidText = some false) (h_Unlike : tbl k_Unlike = some false) (h_NoMember : tbl k_NoMember = some false) (h_NothingLeft : tbl k_NothingLeft = some false) : fin (b__law_error_of a tbl k_InvalidLot k_InvalidNumber k_InvalidFigures k_InvalidSeen k_InvalidText k_Unlike k_NoMember k_NothingLeft (startD 4 [.ref a])) = .ok (.str "number") := by
  have l1 : 1 ≤ sizeLine := by rw [sizeLine_eq]; omega
  have l2 : 2 ≤ sizeLine := by rw [sizeLine_eq]; omega
  have s1 : 1 < sizeLine := by rw [sizeLine_eq]; omega
  have s2 : 2 < sizeLine := by rw [sizeLine_eq]; omega
  have s3 : 3 < sizeLine := by rw [sizeLine_eq]; omega
  have s4 : 4 < sizeLine := by rw [sizeLine_eq]; omega
  have s5 : 5 < sizeLine := by rw [sizeLine_eq]; omega
  have s6 : 6 < sizeLine := by rw [sizeLine_eq]; omega
  have s7 : 7 < sizeLine := by rw [sizeLine_eq]; omega
  unfold b__law_error_of
  simp only [mkF, DL.bin, DL.ite, L2.atI, mkIO, startD, sq, sAsg, sRet, sDrop, sIf, nop, Res.fl, Fl.seq, Res.bind, opt, shr, frz, gN, var, cst, val, stl, un, see, cont, fin, retD, retC, finIO, ioC, vAnd, vOr, vNot, tst, chain, mAnd, mOr, mNot, mCall, fz, frzs, aNil, aCons, mTup, mLst, cb, sees, sSet, frzv, slotL, putL, mApp, gI, gCmp, gAdd, fSub, gInt, gIx, gLen, gIsi, tyName, isTy, List.map_cons, List.map_nil, List.length_cons, List.length_nil, List.replicate_succ, List.replicate_zero, List.cons_append, List.nil_append, List.getElem?_cons_zero, List.getElem?_cons_succ, List.getElem?_nil, List.set_cons_zero, List.set_cons_succ, Option.bind_some, Option.bind_none, Option.map_some, Option.map_none, if_true, if_false, Nat.reduceAdd, Nat.reduceSub, Nat.reduceLeDiff, Bool.not_true, Bool.not_false, reduceIte, Bool.false_eq_true, ne_eq, not_true_eq_false, not_false_eq_true, gIsE_same, h_InvalidLot, h_InvalidNumber, h_InvalidFigures, h_InvalidSeen, h_InvalidText, h_Unlike, h_NoMember, h_NothingLeft, l1, l2, s1, s2, s3, s4, s5, s6, s7, Nat.zero_add]
  kernel_rfl
theorem all_k08 {l : PySem.W.OpenLaw} {w : World} {K : PySem.W.Frag} {h : Heap} {mg : Str → Option Value} {fa c Pt : Addr} (X : K.In h) (G : h.Ns mainGlobals mg) (hfa : mg "law" = some (.ref fa)) (th : h.get? Pt = some { cls := .none, data := .fields #[] })
    {a_is_within : Addr} {od_is_within an_is_within : Option Addr} {sl_is_within : Array (Option Value)} {oc_is_within kV_is_within dc_is_within pm_is_within cd_is_within ct_is_within : Value} {a_is_wide : Addr} {od_is_wide an_is_wide : Option Addr} {sl_is_wide : Array (Option Value)} {oc_is_wide kV_is_wide dc_is_wide pm_is_wide cd_is_wide ct_is_wide : Value} {a_is_fit : Addr} {od_is_fit an_is_fit : Option Addr} {sl_is_fit : Array (Option Value)} {oc_is_fit kV_is_fit dc_is_fit pm_is_fit cd_is_fit ct_is_fit : Value} {a_look_at_lot : Addr} {od_look_at_lot an_look_at_lot : Option Addr} {sl_look_at_lot : Array (Option Value)} {oc_look_at_lot kV_look_at_lot dc_look_at_lot pm_look_at_lot cd_look_at_lot ct_look_at_lot : Value} {a_look_at_number : Addr} {od_look_at_number an_look_at_number : Option Addr} {sl_look_at_number : Array (Option Value)} {oc_look_at_number kV_look_at_number dc_look_at_number pm_look_at_number cd_look_at_number ct_look_at_number : Value} {a_figures_of : Addr} {od_figures_of an_figures_of : Option Addr} {sl_figures_of : Array (Option Value)} {oc_figures_of kV_figures_of dc_figures_of pm_figures_of cd_figures_of ct_figures_of : Value} {a_has_by : Addr} {od_has_by an_has_by : Option Addr} {sl_has_by : Array (Option Value)} {oc_has_by kV_has_by dc_has_by pm_has_by cd_has_by ct_has_by : Value} {a_has : Addr} {od_has an_has : Option Addr} {sl_has : Array (Option Value)} {oc_has kV_has dc_has pm_has cd_has ct_has : Value} {a_are_figures : Addr} {od_are_figures an_are_figures : Option Addr} {sl_are_figures : Array (Option Value)} {oc_are_figures kV_are_figures dc_are_figures pm_are_figures cd_are_figures ct_are_figures : Value} {a_figures_by : Addr} {od_figures_by an_figures_by : Option Addr} {sl_figures_by : Array (Option Value)} {oc_figures_by kV_figures_by dc_figures_by pm_figures_by cd_figures_by ct_figures_by : Value} {a_figures_lot : Addr} {od_figures_lot an_figures_lot : Option Addr} {sl_figures_lot : Array (Option Value)} {oc_figures_lot kV_figures_lot dc_figures_lot pm_figures_lot cd_figures_lot ct_figures_lot : Value} {a_are_numbers : Addr} {od_are_numbers an_are_numbers : Option Addr} {sl_are_numbers : Array (Option Value)} {oc_are_numbers kV_are_numbers dc_are_numbers pm_are_numbers cd_are_numbers ct_are_numbers : Value} {a_choices : Addr} {od_choices an_choices : Option Addr} {sl_choices : Array (Option Value)} {oc_choices kV_choices dc_choices pm_choices cd_choices ct_choices : Value} {a_is_let : Addr} {od_is_let an_is_let : Option Addr} {sl_is_let : Array (Option Value)} {oc_is_let kV_is_let dc_is_let pm_is_let cd_is_let ct_is_let : Value} {a_figures_told : Addr} {od_figures_told an_figures_told : Option Addr} {sl_figures_told : Array (Option Value)} {oc_figures_told kV_figures_told dc_figures_told pm_figures_told cd_figures_told ct_figures_told : Value} {a__law_spring : Addr} {od__law_spring an__law_spring : Option Addr} {sl__law_spring : Array (Option Value)} {oc__law_spring kV__law_spring dc__law_spring pm__law_spring cd__law_spring ct__law_spring : Value} {a__law_pick : Addr} {od__law_pick an__law_pick : Option Addr} {sl__law_pick : Array (Option Value)} {oc__law_pick kV__law_pick dc__law_pick pm__law_pick cd__law_pick ct__law_pick : Value} {a__law_kind : Addr} {od__law_kind an__law_kind : Option Addr} {sl__law_kind : Array (Option Value)} {oc__law_kind kV__law_kind dc__law_kind pm__law_kind cd__law_kind ct__law_kind : Value} {a__law_twins : Addr} {od__law_twins an__law_twins : Option Addr} {sl__law_twins : Array (Option Value)} {oc__law_twins kV__law_twins dc__law_twins pm__law_twins cd__law_twins ct__law_twins : Value} {a__law_figures : Addr} {od__law_figures an__law_figures : Option Addr} {sl__law_figures : Array (Option Value)} {oc__law_figures kV__law_figures dc__law_figures pm__law_figures cd__law_figures ct__law_figures : Value} {a__law_error_of : Addr} {od__law_error_of an__law_error_of : Option Addr} {sl__law_error_of : Array (Option Value)} {oc__law_error_of kV__law_error_of dc__law_error_of pm__law_error_of cd__law_error_of ct__law_error_of : Value} {a__law_came : Addr} {od__law_came an__law_came : Option Addr} {sl__law_came : Array (Option Value)} {oc__law_came kV__law_came dc__law_came pm__law_came cd__law_came ct__law_came : Value} {a__law_rows : Addr} {od__law_rows an__law_rows : Option Addr} {sl__law_rows : Array (Option Value)} {oc__law_rows kV__law_rows dc__law_rows pm__law_rows cd__law_rows ct__law_rows : Value} {a_law : Addr} {od_law an_law : Option Addr} {sl_law : Array (Option Value)} {oc_law kV_law dc_law pm_law ct_law : Value} {t_MOST : Tok} {t_FAR : Tok} {k_InvalidLot : Addr} {k_InvalidNumber : Addr} {k_InvalidFigures : Addr} {k_InvalidSeen : Addr} {k_InvalidText : Addr} {k_Unlike : Addr} {k_NoMember : Addr} {k_NothingLeft : Addr} {k_FigureError : Addr}
    (n_is_within : PySem.W.nsIn K mainGlobals "is_within" = some (some (.ref a_is_within)))
    (l_is_within : K.lookup a_is_within = some ⟨oc_is_within, od_is_within, .func (PySem.W.fnOf "is_within" "is_within" (defArgs s_is_within) (defBody s_is_within) (defScope s_is_within) .none kV_is_within dc_is_within pm_is_within an_is_within cd_is_within ct_is_within), sl_is_within⟩)
    (cc_is_within : PySem.W.codeIn K cd_is_within "is_within" = true)
    (p_is_within : PySem.W.keepIn K (.ref a_is_within) = true)
    (n_is_wide : PySem.W.nsIn K mainGlobals "is_wide" = some (some (.ref a_is_wide)))
    (l_is_wide : K.lookup a_is_wide = some ⟨oc_is_wide, od_is_wide, .func (PySem.W.fnOf "is_wide" "is_wide" (defArgs s_is_wide) (defBody s_is_wide) (defScope s_is_wide) .none kV_is_wide dc_is_wide pm_is_wide an_is_wide cd_is_wide ct_is_wide), sl_is_wide⟩)
    (cc_is_wide : PySem.W.codeIn K cd_is_wide "is_wide" = true)
    (p_is_wide : PySem.W.keepIn K (.ref a_is_wide) = true)
    (n_is_fit : PySem.W.nsIn K mainGlobals "is_fit" = some (some (.ref a_is_fit)))
    (l_is_fit : K.lookup a_is_fit = some ⟨oc_is_fit, od_is_fit, .func (PySem.W.fnOf "is_fit" "is_fit" (defArgs s_is_fit) (defBody s_is_fit) (defScope s_is_fit) .none kV_is_fit dc_is_fit pm_is_fit an_is_fit cd_is_fit ct_is_fit), sl_is_fit⟩)
    (cc_is_fit : PySem.W.codeIn K cd_is_fit "is_fit" = true)
    (p_is_fit : PySem.W.keepIn K (.ref a_is_fit) = true)
    (n_look_at_lot : PySem.W.nsIn K mainGlobals "look_at_lot" = some (some (.ref a_look_at_lot)))
    (l_look_at_lot : K.lookup a_look_at_lot = some ⟨oc_look_at_lot, od_look_at_lot, .func (PySem.W.fnOf "look_at_lot" "look_at_lot" (defArgs s_look_at_lot) (defBody s_look_at_lot) (defScope s_look_at_lot) .none kV_look_at_lot dc_look_at_lot pm_look_at_lot an_look_at_lot cd_look_at_lot ct_look_at_lot), sl_look_at_lot⟩)
    (cc_look_at_lot : PySem.W.codeIn K cd_look_at_lot "look_at_lot" = true)
    (p_look_at_lot : PySem.W.keepIn K (.ref a_look_at_lot) = true)
    (n_look_at_number : PySem.W.nsIn K mainGlobals "look_at_number" = some (some (.ref a_look_at_number)))
    (l_look_at_number : K.lookup a_look_at_number = some ⟨oc_look_at_number, od_look_at_number, .func (PySem.W.fnOf "look_at_number" "look_at_number" (defArgs s_look_at_number) (defBody s_look_at_number) (defScope s_look_at_number) .none kV_look_at_number dc_look_at_number pm_look_at_number an_look_at_number cd_look_at_number ct_look_at_number), sl_look_at_number⟩)
    (cc_look_at_number : PySem.W.codeIn K cd_look_at_number "look_at_number" = true)
    (p_look_at_number : PySem.W.keepIn K (.ref a_look_at_number) = true)
    (n_figures_of : PySem.W.nsIn K mainGlobals "figures_of" = some (some (.ref a_figures_of)))
    (l_figures_of : K.lookup a_figures_of = some ⟨oc_figures_of, od_figures_of, .func (PySem.W.fnOf "figures_of" "figures_of" (defArgs s_figures_of) (defBody s_figures_of) (defScope s_figures_of) .none kV_figures_of dc_figures_of pm_figures_of an_figures_of cd_figures_of ct_figures_of), sl_figures_of⟩)
    (cc_figures_of : PySem.W.codeIn K cd_figures_of "figures_of" = true)
    (p_figures_of : PySem.W.keepIn K (.ref a_figures_of) = true)
    (n_has_by : PySem.W.nsIn K mainGlobals "has_by" = some (some (.ref a_has_by)))
    (l_has_by : K.lookup a_has_by = some ⟨oc_has_by, od_has_by, .func (PySem.W.fnOf "has_by" "has_by" (defArgs s_has_by) (defBody s_has_by) (defScope s_has_by) .none kV_has_by dc_has_by pm_has_by an_has_by cd_has_by ct_has_by), sl_has_by⟩)
    (cc_has_by : PySem.W.codeIn K cd_has_by "has_by" = true)
    (p_has_by : PySem.W.keepIn K (.ref a_has_by) = true)
    (n_has : PySem.W.nsIn K mainGlobals "has" = some (some (.ref a_has)))
    (l_has : K.lookup a_has = some ⟨oc_has, od_has, .func (PySem.W.fnOf "has" "has" (defArgs s_has) (defBody s_has) (defScope s_has) .none kV_has dc_has pm_has an_has cd_has ct_has), sl_has⟩)
    (cc_has : PySem.W.codeIn K cd_has "has" = true)
    (p_has : PySem.W.keepIn K (.ref a_has) = true)
    (n_are_figures : PySem.W.nsIn K mainGlobals "are_figures" = some (some (.ref a_are_figures)))
    (l_are_figures : K.lookup a_are_figures = some ⟨oc_are_figures, od_are_figures, .func (PySem.W.fnOf "are_figures" "are_figures" (defArgs s_are_figures) (defBody s_are_figures) (defScope s_are_figures) .none kV_are_figures dc_are_figures pm_are_figures an_are_figures cd_are_figures ct_are_figures), sl_are_figures⟩)
    (cc_are_figures : PySem.W.codeIn K cd_are_figures "are_figures" = true)
    (p_are_figures : PySem.W.keepIn K (.ref a_are_figures) = true)
    (n_figures_by : PySem.W.nsIn K mainGlobals "figures_by" = some (some (.ref a_figures_by)))
    (l_figures_by : K.lookup a_figures_by = some ⟨oc_figures_by, od_figures_by, .func (PySem.W.fnOf "figures_by" "figures_by" (defArgs s_figures_by) (defBody s_figures_by) (defScope s_figures_by) .none kV_figures_by dc_figures_by pm_figures_by an_figures_by cd_figures_by ct_figures_by), sl_figures_by⟩)
    (cc_figures_by : PySem.W.codeIn K cd_figures_by "figures_by" = true)
    (p_figures_by : PySem.W.keepIn K (.ref a_figures_by) = true)
    (n_figures_lot : PySem.W.nsIn K mainGlobals "figures_lot" = some (some (.ref a_figures_lot)))
    (l_figures_lot : K.lookup a_figures_lot = some ⟨oc_figures_lot, od_figures_lot, .func (PySem.W.fnOf "figures_lot" "figures_lot" (defArgs s_figures_lot) (defBody s_figures_lot) (defScope s_figures_lot) .none kV_figures_lot dc_figures_lot pm_figures_lot an_figures_lot cd_figures_lot ct_figures_lot), sl_figures_lot⟩)
    (cc_figures_lot : PySem.W.codeIn K cd_figures_lot "figures_lot" = true)
    (p_figures_lot : PySem.W.keepIn K (.ref a_figures_lot) = true)
    (n_are_numbers : PySem.W.nsIn K mainGlobals "are_numbers" = some (some (.ref a_are_numbers)))
    (l_are_numbers : K.lookup a_are_numbers = some ⟨oc_are_numbers, od_are_numbers, .func (PySem.W.fnOf "are_numbers" "are_numbers" (defArgs s_are_numbers) (defBody s_are_numbers) (defScope s_are_numbers) .none kV_are_numbers dc_are_numbers pm_are_numbers an_are_numbers cd_are_numbers ct_are_numbers), sl_are_numbers⟩)
    (cc_are_numbers : PySem.W.codeIn K cd_are_numbers "are_numbers" = true)
    (p_are_numbers : PySem.W.keepIn K (.ref a_are_numbers) = true)
    (n_choices : PySem.W.nsIn K mainGlobals "choices" = some (some (.ref a_choices)))
    (l_choices : K.lookup a_choices = some ⟨oc_choices, od_choices, .func (PySem.W.fnOf "choices" "choices" (defArgs s_choices) (defBody s_choices) (defScope s_choices) .none kV_choices dc_choices pm_choices an_choices cd_choices ct_choices), sl_choices⟩)
    (cc_choices : PySem.W.codeIn K cd_choices "choices" = true)
    (p_choices : PySem.W.keepIn K (.ref a_choices) = true)
    (n_is_let : PySem.W.nsIn K mainGlobals "is_let" = some (some (.ref a_is_let)))
    (l_is_let : K.lookup a_is_let = some ⟨oc_is_let, od_is_let, .func (PySem.W.fnOf "is_let" "is_let" (defArgs s_is_let) (defBody s_is_let) (defScope s_is_let) .none kV_is_let dc_is_let pm_is_let an_is_let cd_is_let ct_is_let), sl_is_let⟩)
    (cc_is_let : PySem.W.codeIn K cd_is_let "is_let" = true)
    (p_is_let : PySem.W.keepIn K (.ref a_is_let) = true)
    (n_figures_told : PySem.W.nsIn K mainGlobals "figures_told" = some (some (.ref a_figures_told)))
    (l_figures_told : K.lookup a_figures_told = some ⟨oc_figures_told, od_figures_told, .func (PySem.W.fnOf "figures_told" "figures_told" (defArgs s_figures_told) (defBody s_figures_told) (defScope s_figures_told) .none kV_figures_told dc_figures_told pm_figures_told an_figures_told cd_figures_told ct_figures_told), sl_figures_told⟩)
    (cc_figures_told : PySem.W.codeIn K cd_figures_told "figures_told" = true)
    (p_figures_told : PySem.W.keepIn K (.ref a_figures_told) = true)
    (n__law_spring : PySem.W.nsIn K mainGlobals "_law_spring" = some (some (.ref a__law_spring)))
    (l__law_spring : K.lookup a__law_spring = some ⟨oc__law_spring, od__law_spring, .func (PySem.W.fnOf "_law_spring" "_law_spring" (defArgs s__law_spring) (defBody s__law_spring) (defScope s__law_spring) .none kV__law_spring dc__law_spring pm__law_spring an__law_spring cd__law_spring ct__law_spring), sl__law_spring⟩)
    (cc__law_spring : PySem.W.codeIn K cd__law_spring "_law_spring" = true)
    (p__law_spring : PySem.W.keepIn K (.ref a__law_spring) = true)
    (n__law_pick : PySem.W.nsIn K mainGlobals "_law_pick" = some (some (.ref a__law_pick)))
    (l__law_pick : K.lookup a__law_pick = some ⟨oc__law_pick, od__law_pick, .func (PySem.W.fnOf "_law_pick" "_law_pick" (defArgs s__law_pick) (defBody s__law_pick) (defScope s__law_pick) .none kV__law_pick dc__law_pick pm__law_pick an__law_pick cd__law_pick ct__law_pick), sl__law_pick⟩)
    (cc__law_pick : PySem.W.codeIn K cd__law_pick "_law_pick" = true)
    (p__law_pick : PySem.W.keepIn K (.ref a__law_pick) = true)
    (n__law_kind : PySem.W.nsIn K mainGlobals "_law_kind" = some (some (.ref a__law_kind)))
    (l__law_kind : K.lookup a__law_kind = some ⟨oc__law_kind, od__law_kind, .func (PySem.W.fnOf "_law_kind" "_law_kind" (defArgs s__law_kind) (defBody s__law_kind) (defScope s__law_kind) .none kV__law_kind dc__law_kind pm__law_kind an__law_kind cd__law_kind ct__law_kind), sl__law_kind⟩)
    (cc__law_kind : PySem.W.codeIn K cd__law_kind "_law_kind" = true)
    (p__law_kind : PySem.W.keepIn K (.ref a__law_kind) = true)
    (n__law_twins : PySem.W.nsIn K mainGlobals "_law_twins" = some (some (.ref a__law_twins)))
    (l__law_twins : K.lookup a__law_twins = some ⟨oc__law_twins, od__law_twins, .func (PySem.W.fnOf "_law_twins" "_law_twins" (defArgs s__law_twins) (defBody s__law_twins) (defScope s__law_twins) .none kV__law_twins dc__law_twins pm__law_twins an__law_twins cd__law_twins ct__law_twins), sl__law_twins⟩)
    (cc__law_twins : PySem.W.codeIn K cd__law_twins "_law_twins" = true)
    (p__law_twins : PySem.W.keepIn K (.ref a__law_twins) = true)
    (n__law_figures : PySem.W.nsIn K mainGlobals "_law_figures" = some (some (.ref a__law_figures)))
    (l__law_figures : K.lookup a__law_figures = some ⟨oc__law_figures, od__law_figures, .func (PySem.W.fnOf "_law_figures" "_law_figures" (defArgs s__law_figures) (defBody s__law_figures) (defScope s__law_figures) .none kV__law_figures dc__law_figures pm__law_figures an__law_figures cd__law_figures ct__law_figures), sl__law_figures⟩)
    (cc__law_figures : PySem.W.codeIn K cd__law_figures "_law_figures" = true)
    (p__law_figures : PySem.W.keepIn K (.ref a__law_figures) = true)
    (n__law_error_of : PySem.W.nsIn K mainGlobals "_law_error_of" = some (some (.ref a__law_error_of)))
    (l__law_error_of : K.lookup a__law_error_of = some ⟨oc__law_error_of, od__law_error_of, .func (PySem.W.fnOf "_law_error_of" "_law_error_of" (defArgs s__law_error_of) (defBody s__law_error_of) (defScope s__law_error_of) .none kV__law_error_of dc__law_error_of pm__law_error_of an__law_error_of cd__law_error_of ct__law_error_of), sl__law_error_of⟩)
    (cc__law_error_of : PySem.W.codeIn K cd__law_error_of "_law_error_of" = true)
    (p__law_error_of : PySem.W.keepIn K (.ref a__law_error_of) = true)
    (n__law_came : PySem.W.nsIn K mainGlobals "_law_came" = some (some (.ref a__law_came)))
    (l__law_came : K.lookup a__law_came = some ⟨oc__law_came, od__law_came, .func (PySem.W.fnOf "_law_came" "_law_came" (defArgs s__law_came) (defBody s__law_came) (defScope s__law_came) .none kV__law_came dc__law_came pm__law_came an__law_came cd__law_came ct__law_came), sl__law_came⟩)
    (cc__law_came : PySem.W.codeIn K cd__law_came "_law_came" = true)
    (p__law_came : PySem.W.keepIn K (.ref a__law_came) = true)
    (n__law_rows : PySem.W.nsIn K mainGlobals "_law_rows" = some (some (.ref a__law_rows)))
    (l__law_rows : K.lookup a__law_rows = some ⟨oc__law_rows, od__law_rows, .func (PySem.W.fnOf "_law_rows" "_law_rows" (defArgs s__law_rows) (defBody s__law_rows) (defScope s__law_rows) .none kV__law_rows dc__law_rows pm__law_rows an__law_rows cd__law_rows ct__law_rows), sl__law_rows⟩)
    (cc__law_rows : PySem.W.codeIn K cd__law_rows "_law_rows" = true)
    (p__law_rows : PySem.W.keepIn K (.ref a__law_rows) = true)
    (n_law : PySem.W.nsIn K mainGlobals "law" = some (some (.ref a_law)))
    (l_law : K.lookup a_law = some ⟨oc_law, od_law, .func (PySem.W.fnOf "law" "law" (defArgs s_law) (defBody s_law) (defScope s_law) .none kV_law dc_law pm_law an_law (.ref c) ct_law), sl_law⟩)
    (cc_law : PySem.W.codeIn K (.ref c) "law" = true)
    (p_law : PySem.W.keepIn K (.ref a_law) = true)
    (z_isinstance : PySem.W.nsIn K mainGlobals "isinstance" = some none)
    (z_int : PySem.W.nsIn K mainGlobals "int" = some none)
    (z_bool : PySem.W.nsIn K mainGlobals "bool" = some none)
    (z_tuple : PySem.W.nsIn K mainGlobals "tuple" = some none)
    (z_len : PySem.W.nsIn K mainGlobals "len" = some none)
    (z_all : PySem.W.nsIn K mainGlobals "all" = some none)
    (z_zip : PySem.W.nsIn K mainGlobals "zip" = some none)
    (z_list : PySem.W.nsIn K mainGlobals "list" = some none)
    (z_sorted : PySem.W.nsIn K mainGlobals "sorted" = some none)
    (z_set : PySem.W.nsIn K mainGlobals "set" = some none)
    (z_range : PySem.W.nsIn K mainGlobals "range" = some none)
    (z_any : PySem.W.nsIn K mainGlobals "any" = some none)
    (z_abs : PySem.W.nsIn K mainGlobals "abs" = some none)
    (z_str : PySem.W.nsIn K mainGlobals "str" = some none)
    (z_min : PySem.W.nsIn K mainGlobals "min" = some none)
    (n_MOST : PySem.W.nsIn K mainGlobals "MOST" = some (some (.int 4 t_MOST)))
    (n_FAR : PySem.W.nsIn K mainGlobals "FAR" = some (some (.int 1000000000000000000000000000000 t_FAR)))
    (n_InvalidLot : PySem.W.nsIn K mainGlobals "InvalidLot" = some (some (.ref k_InvalidLot)))
    (n_InvalidNumber : PySem.W.nsIn K mainGlobals "InvalidNumber" = some (some (.ref k_InvalidNumber)))
    (n_InvalidFigures : PySem.W.nsIn K mainGlobals "InvalidFigures" = some (some (.ref k_InvalidFigures)))
    (n_InvalidSeen : PySem.W.nsIn K mainGlobals "InvalidSeen" = some (some (.ref k_InvalidSeen)))
    (n_InvalidText : PySem.W.nsIn K mainGlobals "InvalidText" = some (some (.ref k_InvalidText)))
    (n_Unlike : PySem.W.nsIn K mainGlobals "Unlike" = some (some (.ref k_Unlike)))
    (n_NoMember : PySem.W.nsIn K mainGlobals "NoMember" = some (some (.ref k_NoMember)))
    (n_NothingLeft : PySem.W.nsIn K mainGlobals "NothingLeft" = some (some (.ref k_NothingLeft)))
    (n_FigureError : PySem.W.nsIn K mainGlobals "FigureError" = some (some (.ref k_FigureError)))
    (q_InvalidLot : PySem.W.excIn K k_InvalidLot [.type "ValueError", .type "Exception", .type "BaseException", .type "object"] "ValueError.__new__" = true)
    (k_InvalidLot_ : PySem.W.keepIn K (.ref k_InvalidLot) = true)
    (s_InvalidLot : PySem.W.subIn K (.ref k_InvalidLot) (.type "BaseException") = some true)
    (y_InvalidLot : PySem.W.typeIn K (.ref k_InvalidLot) = some (.type "type"))
    (q_InvalidNumber : PySem.W.excIn K k_InvalidNumber [.type "ValueError", .type "Exception", .type "BaseException", .type "object"] "ValueError.__new__" = true)
    (k_InvalidNumber_ : PySem.W.keepIn K (.ref k_InvalidNumber) = true)
    (s_InvalidNumber : PySem.W.subIn K (.ref k_InvalidNumber) (.type "BaseException") = some true)
    (y_InvalidNumber : PySem.W.typeIn K (.ref k_InvalidNumber) = some (.type "type"))
    (q_InvalidFigures : PySem.W.excIn K k_InvalidFigures [.type "ValueError", .type "Exception", .type "BaseException", .type "object"] "ValueError.__new__" = true)
    (k_InvalidFigures_ : PySem.W.keepIn K (.ref k_InvalidFigures) = true)
    (s_InvalidFigures : PySem.W.subIn K (.ref k_InvalidFigures) (.type "BaseException") = some true)
    (y_InvalidFigures : PySem.W.typeIn K (.ref k_InvalidFigures) = some (.type "type"))
    (q_InvalidSeen : PySem.W.excIn K k_InvalidSeen [.type "ValueError", .type "Exception", .type "BaseException", .type "object"] "ValueError.__new__" = true)
    (k_InvalidSeen_ : PySem.W.keepIn K (.ref k_InvalidSeen) = true)
    (s_InvalidSeen : PySem.W.subIn K (.ref k_InvalidSeen) (.type "BaseException") = some true)
    (y_InvalidSeen : PySem.W.typeIn K (.ref k_InvalidSeen) = some (.type "type"))
    (s_FE : PySem.W.subIn K (.ref k_FigureError) (.type "BaseException") = some true)
    (d_FE : PySem.W.hasDictIn K k_FigureError = true)
    (y_FE : PySem.W.typeIn K (.ref k_FigureError) = some (.type "type"))
    (e_get : PySem.W.specialIn K (.builtin "object.__class__") "__get__" = some (some (.builtin "getset_descriptor.__get__")))
    (e_tak : PySem.W.takesIn K (.builtin "object.__class__") = some true)
    (f_InvalidSeen : PySem.W.subIn K (.ref k_InvalidSeen) (.ref k_FigureError) = some true)
    (g1_InvalidSeen : PySem.W.findIn K (.ref k_InvalidSeen) "__getattribute__" = some (some (.builtin "BaseException.__getattribute__")))
    (g2_InvalidSeen : PySem.W.findIn K (.ref k_InvalidSeen) "__getattr__" = some none)
    (g3_InvalidSeen : PySem.W.hasDictIn K k_InvalidSeen = true)
    (g4_InvalidSeen : PySem.W.findIn K (.ref k_InvalidSeen) "__class__" = some (some (.builtin "object.__class__")))
    (g5_InvalidSeen : PySem.W.mroIn K k_InvalidSeen (.type "object") = some true)
    (i_InvalidSeen_InvalidLot : PySem.W.kitOne K (.ref k_InvalidSeen) (.ref k_InvalidLot) = some false)
    (i_InvalidSeen_InvalidNumber : PySem.W.kitOne K (.ref k_InvalidSeen) (.ref k_InvalidNumber) = some false)
    (i_InvalidSeen_InvalidFigures : PySem.W.kitOne K (.ref k_InvalidSeen) (.ref k_InvalidFigures) = some false)
    (i_InvalidSeen_InvalidSeen : PySem.W.kitOne K (.ref k_InvalidSeen) (.ref k_InvalidSeen) = some true)
    (i_InvalidSeen_InvalidText : PySem.W.kitOne K (.ref k_InvalidSeen) (.ref k_InvalidText) = some false)
    (i_InvalidSeen_Unlike : PySem.W.kitOne K (.ref k_InvalidSeen) (.ref k_Unlike) = some false)
    (i_InvalidSeen_NoMember : PySem.W.kitOne K (.ref k_InvalidSeen) (.ref k_NoMember) = some false)
    (i_InvalidSeen_NothingLeft : PySem.W.kitOne K (.ref k_InvalidSeen) (.ref k_NothingLeft) = some false)
    (f_InvalidNumber : PySem.W.subIn K (.ref k_InvalidNumber) (.ref k_FigureError) = some true)
    (g1_InvalidNumber : PySem.W.findIn K (.ref k_InvalidNumber) "__getattribute__" = some (some (.builtin "BaseException.__getattribute__")))
    (g2_InvalidNumber : PySem.W.findIn K (.ref k_InvalidNumber) "__getattr__" = some none)
    (g3_InvalidNumber : PySem.W.hasDictIn K k_InvalidNumber = true)
    (g4_InvalidNumber : PySem.W.findIn K (.ref k_InvalidNumber) "__class__" = some (some (.builtin "object.__class__")))
    (g5_InvalidNumber : PySem.W.mroIn K k_InvalidNumber (.type "object") = some true)
    (i_InvalidNumber_InvalidLot : PySem.W.kitOne K (.ref k_InvalidNumber) (.ref k_InvalidLot) = some false)
    (i_InvalidNumber_InvalidNumber : PySem.W.kitOne K (.ref k_InvalidNumber) (.ref k_InvalidNumber) = some true)
    (i_InvalidNumber_InvalidFigures : PySem.W.kitOne K (.ref k_InvalidNumber) (.ref k_InvalidFigures) = some false)
    (i_InvalidNumber_InvalidSeen : PySem.W.kitOne K (.ref k_InvalidNumber) (.ref k_InvalidSeen) = some false)
    (i_InvalidNumber_InvalidText : PySem.W.kitOne K (.ref k_InvalidNumber) (.ref k_InvalidText) = some false)
    (i_InvalidNumber_Unlike : PySem.W.kitOne K (.ref k_InvalidNumber) (.ref k_Unlike) = some false)
    (i_InvalidNumber_NoMember : PySem.W.kitOne K (.ref k_InvalidNumber) (.ref k_NoMember) = some false)
    (i_InvalidNumber_NothingLeft : PySem.W.kitOne K (.ref k_InvalidNumber) (.ref k_NothingLeft) = some false)
    (tabL : PySem.W.codeHdIn K c Pt = true)
    (noT : K.lookup Pt = none)
    : LawAtS l w K (L2N.CX l.prog w) 16 63 "script" mg fa h := by
  have e := hfa.symm.trans (PySem.W.mg_of X G n_law)
  cases e
  have B : Bl mg := ⟨PySem.W.mg_none_of X G z_isinstance, PySem.W.mg_none_of X G z_int, PySem.W.mg_none_of X G z_bool, PySem.W.mg_none_of X G z_tuple, PySem.W.mg_none_of X G z_len, PySem.W.mg_none_of X G z_all, PySem.W.mg_none_of X G z_zip, PySem.W.mg_none_of X G z_list, PySem.W.mg_none_of X G z_sorted, PySem.W.mg_none_of X G z_set, PySem.W.mg_none_of X G z_range, PySem.W.mg_none_of X G z_any, PySem.W.mg_none_of X G z_abs, PySem.W.mg_none_of X G z_str, PySem.W.mg_none_of X G z_min⟩
  have g_MOST : ∃ u, mg "MOST" = some u ∧ L2.RelV (.int 4) u := ⟨_, PySem.W.mg_of X G n_MOST, _, rfl⟩
  have g_FAR : ∃ u, mg "FAR" = some u ∧ L2.RelV (.int 1000000000000000000000000000000) u := ⟨_, PySem.W.mg_of X G n_FAR, _, rfl⟩
  have m_InvalidLot : mg "InvalidLot" = some (.ref k_InvalidLot) := PySem.W.mg_of X G n_InvalidLot
  have m_InvalidNumber : mg "InvalidNumber" = some (.ref k_InvalidNumber) := PySem.W.mg_of X G n_InvalidNumber
  have m_InvalidFigures : mg "InvalidFigures" = some (.ref k_InvalidFigures) := PySem.W.mg_of X G n_InvalidFigures
  have m_InvalidSeen : mg "InvalidSeen" = some (.ref k_InvalidSeen) := PySem.W.mg_of X G n_InvalidSeen
  have m_InvalidText : mg "InvalidText" = some (.ref k_InvalidText) := PySem.W.mg_of X G n_InvalidText
  have m_Unlike : mg "Unlike" = some (.ref k_Unlike) := PySem.W.mg_of X G n_Unlike
  have m_NoMember : mg "NoMember" = some (.ref k_NoMember) := PySem.W.mg_of X G n_NoMember
  have m_NothingLeft : mg "NothingLeft" = some (.ref k_NothingLeft) := PySem.W.mg_of X G n_NothingLeft
  have m_FigureError : mg "FigureError" = some (.ref k_FigureError) := PySem.W.mg_of X G n_FigureError
  have X_InvalidLot : Xc K mg "InvalidLot" k_InvalidLot "ValueError" "ValueError.__new__" "ValueError.__init__" [.type "ValueError", .type "Exception", .type "BaseException", .type "object"] := ⟨m_InvalidLot, PySem.F.excBase_ValueError, q_InvalidLot, k_InvalidLot_, s_InvalidLot, y_InvalidLot⟩
  have X_InvalidNumber : Xc K mg "InvalidNumber" k_InvalidNumber "ValueError" "ValueError.__new__" "ValueError.__init__" [.type "ValueError", .type "Exception", .type "BaseException", .type "object"] := ⟨m_InvalidNumber, PySem.F.excBase_ValueError, q_InvalidNumber, k_InvalidNumber_, s_InvalidNumber, y_InvalidNumber⟩
  have X_InvalidFigures : Xc K mg "InvalidFigures" k_InvalidFigures "ValueError" "ValueError.__new__" "ValueError.__init__" [.type "ValueError", .type "Exception", .type "BaseException", .type "object"] := ⟨m_InvalidFigures, PySem.F.excBase_ValueError, q_InvalidFigures, k_InvalidFigures_, s_InvalidFigures, y_InvalidFigures⟩
  have X_InvalidSeen : Xc K mg "InvalidSeen" k_InvalidSeen "ValueError" "ValueError.__new__" "ValueError.__init__" [.type "ValueError", .type "Exception", .type "BaseException", .type "object"] := ⟨m_InvalidSeen, PySem.F.excBase_ValueError, q_InvalidSeen, k_InvalidSeen_, s_InvalidSeen, y_InvalidSeen⟩
  have F_is_within := fun_mk (st := s_is_within) l_is_within cc_is_within p_is_within
  have m_is_within : mg "is_within" = some (.ref a_is_within) := PySem.W.mg_of X G n_is_within
  have F_is_wide := fun_mk (st := s_is_wide) l_is_wide cc_is_wide p_is_wide
  have m_is_wide : mg "is_wide" = some (.ref a_is_wide) := PySem.W.mg_of X G n_is_wide
  have F_is_fit := fun_mk (st := s_is_fit) l_is_fit cc_is_fit p_is_fit
  have m_is_fit : mg "is_fit" = some (.ref a_is_fit) := PySem.W.mg_of X G n_is_fit
  have F_look_at_lot := fun_mk (st := s_look_at_lot) l_look_at_lot cc_look_at_lot p_look_at_lot
  have m_look_at_lot : mg "look_at_lot" = some (.ref a_look_at_lot) := PySem.W.mg_of X G n_look_at_lot
  have F_look_at_number := fun_mk (st := s_look_at_number) l_look_at_number cc_look_at_number p_look_at_number
  have m_look_at_number : mg "look_at_number" = some (.ref a_look_at_number) := PySem.W.mg_of X G n_look_at_number
  have F_figures_of := fun_mk (st := s_figures_of) l_figures_of cc_figures_of p_figures_of
  have m_figures_of : mg "figures_of" = some (.ref a_figures_of) := PySem.W.mg_of X G n_figures_of
  have F_has_by := fun_mk (st := s_has_by) l_has_by cc_has_by p_has_by
  have m_has_by : mg "has_by" = some (.ref a_has_by) := PySem.W.mg_of X G n_has_by
  have F_has := fun_mk (st := s_has) l_has cc_has p_has
  have m_has : mg "has" = some (.ref a_has) := PySem.W.mg_of X G n_has
  have F_are_figures := fun_mk (st := s_are_figures) l_are_figures cc_are_figures p_are_figures
  have m_are_figures : mg "are_figures" = some (.ref a_are_figures) := PySem.W.mg_of X G n_are_figures
  have F_figures_by := fun_mk (st := s_figures_by) l_figures_by cc_figures_by p_figures_by
  have m_figures_by : mg "figures_by" = some (.ref a_figures_by) := PySem.W.mg_of X G n_figures_by
  have F_figures_lot := fun_mk (st := s_figures_lot) l_figures_lot cc_figures_lot p_figures_lot
  have m_figures_lot : mg "figures_lot" = some (.ref a_figures_lot) := PySem.W.mg_of X G n_figures_lot
  have F_are_numbers := fun_mk (st := s_are_numbers) l_are_numbers cc_are_numbers p_are_numbers
  have m_are_numbers : mg "are_numbers" = some (.ref a_are_numbers) := PySem.W.mg_of X G n_are_numbers
  have F_choices := fun_mk (st := s_choices) l_choices cc_choices p_choices
  have m_choices : mg "choices" = some (.ref a_choices) := PySem.W.mg_of X G n_choices
  have F_is_let := fun_mk (st := s_is_let) l_is_let cc_is_let p_is_let
  have m_is_let : mg "is_let" = some (.ref a_is_let) := PySem.W.mg_of X G n_is_let
  have F_figures_told := fun_mk (st := s_figures_told) l_figures_told cc_figures_told p_figures_told
  have m_figures_told : mg "figures_told" = some (.ref a_figures_told) := PySem.W.mg_of X G n_figures_told
  have F__law_spring := fun_mk (st := s__law_spring) l__law_spring cc__law_spring p__law_spring
  have m__law_spring : mg "_law_spring" = some (.ref a__law_spring) := PySem.W.mg_of X G n__law_spring
  have F__law_pick := fun_mk (st := s__law_pick) l__law_pick cc__law_pick p__law_pick
  have m__law_pick : mg "_law_pick" = some (.ref a__law_pick) := PySem.W.mg_of X G n__law_pick
  have F__law_kind := fun_mk (st := s__law_kind) l__law_kind cc__law_kind p__law_kind
  have m__law_kind : mg "_law_kind" = some (.ref a__law_kind) := PySem.W.mg_of X G n__law_kind
  have F__law_twins := fun_mk (st := s__law_twins) l__law_twins cc__law_twins p__law_twins
  have m__law_twins : mg "_law_twins" = some (.ref a__law_twins) := PySem.W.mg_of X G n__law_twins
  have F__law_figures := fun_mk (st := s__law_figures) l__law_figures cc__law_figures p__law_figures
  have m__law_figures : mg "_law_figures" = some (.ref a__law_figures) := PySem.W.mg_of X G n__law_figures
  have F__law_error_of := fun_mk (st := s__law_error_of) l__law_error_of cc__law_error_of p__law_error_of
  have m__law_error_of : mg "_law_error_of" = some (.ref a__law_error_of) := PySem.W.mg_of X G n__law_error_of
  have F__law_came := fun_mk (st := s__law_came) l__law_came cc__law_came p__law_came
  have m__law_came : mg "_law_came" = some (.ref a__law_came) := PySem.W.mg_of X G n__law_came
  have F__law_rows := fun_mk (st := s__law_rows) l__law_rows cc__law_rows p__law_rows
  have m__law_rows : mg "_law_rows" = some (.ref a__law_rows) := PySem.W.mg_of X G n__law_rows
  have FL : FunQ K "law" "law" s_law fa (PySem.W.fnOf "law" "law" (defArgs s_law) (defBody s_law) (defScope s_law) .none kV_law dc_law pm_law an_law (.ref c) ct_law) fun v => v = .ref c := ⟨oc_law, od_law, kV_law, dc_law, pm_law, an_law, .ref c, ct_law, sl_law, rfl, l_law, cc_law, rfl⟩
  have tc := PySem.W.codeHd_of_K X tabL
  have FEx : ∀ C, PySem.W.subIn K (.ref C) (.ref k_FigureError) = some true → PySem.W.exmOne K (.ref C) (.ref k_FigureError) = some true := fun C q => PySem.W.exm_ref s_FE d_FE y_FE q
  refine ⟨PySem.W.fnOf "law" "law" (defArgs s_law) (defBody s_law) (defScope s_law) .none kV_law dc_law pm_law an_law (.ref c) ct_law, [(c, Pt)], SpX mg [(Pt, (("law" : Str) ++ ".<locals>.") ++ "<lambda>")] 1 (fun (i : Addr × List Int) H => SqL K H i.1 (i.2.map V.int)) (f_law errOf), fun p hp => ?_, fun p hp => ?_, fun p hp => ?_, fun s u => .of_eq rfl, fun H a ns hl _ hH hS => ?_, fun base _ _ hTB => ?_⟩
  · obtain rfl : p = (c, Pt) := by simpa using hp
    exact th
  · obtain rfl : p = (c, Pt) := by simpa using hp
    exact noT
  · obtain rfl : p = (c, Pt) := by simpa using hp
    exact tc
  · refine ⟨(a, ns), hS, none', [.ref a], rfl, .cons (.ref a) .nil, fun _ z => z.elim, fun p hp => ?_, ?_⟩
    · obtain rfl : p = (Pt, (("law" : Str) ++ ".<locals>.") ++ "<lambda>") := by simpa using hp
      exact TabS.nil (hH (c, Pt) (by simp))
    · rw [law_true (a, ns) hl]
      intro F' H' v _ r
      cases r
      rfl
  · have TB := hTB (c, Pt) (by simp)
    have Cc_is_within := DLaw.c_is_within (P := l.prog) (w := w) (base := base) (tb := [(Pt, (("law" : Str) ++ ".<locals>.") ++ "<lambda>")]) B F_is_within m_is_within
    have Cc_is_wide := DLaw.c_is_wide (P := l.prog) (w := w) (base := base) (tb := [(Pt, (("law" : Str) ++ ".<locals>.") ++ "<lambda>")]) B F_is_wide m_is_wide
    have Cc_is_fit := DLaw.c_is_fit (P := l.prog) (w := w) (base := base) (tb := [(Pt, (("law" : Str) ++ ".<locals>.") ++ "<lambda>")]) B g_MOST Cc_is_wide Cc_is_within F_is_fit m_is_fit
    have Cc_look_at_lot := DLaw.c_look_at_lot (P := l.prog) (w := w) (base := base) (tb := [(Pt, (("law" : Str) ++ ".<locals>.") ++ "<lambda>")]) B Cc_is_fit X_InvalidLot F_look_at_lot m_look_at_lot
    have Cc_look_at_number := DLaw.c_look_at_number (P := l.prog) (w := w) (base := base) (tb := [(Pt, (("law" : Str) ++ ".<locals>.") ++ "<lambda>")]) B Cc_is_within X_InvalidNumber F_look_at_number m_look_at_number
    have Cc_figures_of := DLaw.c_figures_of (P := l.prog) (w := w) (base := base) (tb := [(Pt, (("law" : Str) ++ ".<locals>.") ++ "<lambda>")]) B F_figures_of m_figures_of
    have Cc_has_by := DLaw.c_has_by (P := l.prog) (w := w) (base := base) (tb := [(Pt, (("law" : Str) ++ ".<locals>.") ++ "<lambda>")]) B Cc_figures_of F_has_by m_has_by
    have Cc_has := DLaw.c_has (P := l.prog) (w := w) (base := base) (tb := [(Pt, (("law" : Str) ++ ".<locals>.") ++ "<lambda>")]) B g_FAR Cc_look_at_lot Cc_look_at_number Cc_has_by F_has m_has
    have Cc_are_figures := DLaw.c_are_figures (P := l.prog) (w := w) (base := base) (tb := [(Pt, (("law" : Str) ++ ".<locals>.") ++ "<lambda>")]) B Cc_is_wide Cc_is_within F_are_figures m_are_figures
    have Cc_figures_by := DLaw.c_figures_by (P := l.prog) (w := w) (base := base) (tb := [(Pt, (("law" : Str) ++ ".<locals>.") ++ "<lambda>")]) B F_figures_by m_figures_by
    have Cc_figures_lot := DLaw.c_figures_lot (P := l.prog) (w := w) (base := base) (tb := [(Pt, (("law" : Str) ++ ".<locals>.") ++ "<lambda>")]) B Cc_look_at_number Cc_are_figures Cc_figures_by X_InvalidFigures F_figures_lot m_figures_lot
    have Cc_are_numbers := DLaw.c_are_numbers (P := l.prog) (w := w) (base := base) (tb := [(Pt, (("law" : Str) ++ ".<locals>.") ++ "<lambda>")]) B g_FAR Cc_is_wide Cc_is_within F_are_numbers m_are_numbers
    have Cc_choices := DLaw.c_choices (P := l.prog) (w := w) (base := base) (tb := [(Pt, (("law" : Str) ++ ".<locals>.") ++ "<lambda>")]) B F_choices m_choices
    have Cc_is_let := DLaw.c_is_let (P := l.prog) (w := w) (base := base) (tb := [(Pt, (("law" : Str) ++ ".<locals>.") ++ "<lambda>")]) B Cc_figures_of F_is_let m_is_let
    have Cc_figures_told := DLaw.c_figures_told (P := l.prog) (w := w) (base := base) (tb := [(Pt, (("law" : Str) ++ ".<locals>.") ++ "<lambda>")]) B Cc_look_at_number Cc_is_wide Cc_are_numbers Cc_choices Cc_is_let X_InvalidSeen F_figures_told m_figures_told
    have Cc__law_spring := DLaw.c__law_spring (P := l.prog) (w := w) (base := base) (tb := [(Pt, (("law" : Str) ++ ".<locals>.") ++ "<lambda>")]) B F__law_spring m__law_spring
    have Cc__law_pick := DLaw.c__law_pick (P := l.prog) (w := w) (base := base) (tb := [(Pt, (("law" : Str) ++ ".<locals>.") ++ "<lambda>")]) B F__law_pick m__law_pick
    have Cc__law_kind := DLaw.c__law_kind (P := l.prog) (w := w) (base := base) (tb := [(Pt, (("law" : Str) ++ ".<locals>.") ++ "<lambda>")]) B F__law_kind m__law_kind
    have Cc__law_twins := DLaw.c__law_twins (P := l.prog) (w := w) (base := base) (tb := [(Pt, (("law" : Str) ++ ".<locals>.") ++ "<lambda>")]) B Cc__law_kind F__law_twins m__law_twins
    have Cc__law_figures := DLaw.c__law_figures (P := l.prog) (w := w) (base := base) (tb := [(Pt, (("law" : Str) ++ ".<locals>.") ++ "<lambda>")]) B F__law_figures m__law_figures
    have Cc__law_rows := DLaw.c__law_rows (P := l.prog) (w := w) (base := base) (tb := [(Pt, (("law" : Str) ++ ".<locals>.") ++ "<lambda>")]) B F__law_rows m__law_rows
    have S_seen : Says l.prog w K mg base ["e", "some", "word", "good"] "_law_error_of" s__law_error_of a__law_error_of k_InvalidSeen "seen" := fun a oe => ⟨b__law_error_of a (fun c => PySem.W.kitOne K (.ref k_InvalidSeen) (.ref c)) k_InvalidLot k_InvalidNumber k_InvalidFigures k_InvalidSeen k_InvalidText k_Unlike k_NoMember k_NothingLeft,
      fun cdv A outer s H G hk => t__law_error_of B m_InvalidLot m_InvalidNumber m_InvalidFigures m_InvalidSeen m_InvalidText m_Unlike m_NoMember m_NothingLeft ⟨g1_InvalidSeen, g2_InvalidSeen, s_InvalidSeen, g3_InvalidSeen, g4_InvalidSeen, e_get, e_tak, g5_InvalidSeen⟩ (fun _ _ q => q) cdv A outer s H G hk, err_seen a _ k_InvalidLot k_InvalidNumber k_InvalidFigures k_InvalidSeen k_InvalidText k_Unlike k_NoMember k_NothingLeft i_InvalidSeen_InvalidLot i_InvalidSeen_InvalidNumber i_InvalidSeen_InvalidFigures i_InvalidSeen_InvalidSeen i_InvalidSeen_InvalidText i_InvalidSeen_Unlike i_InvalidSeen_NoMember i_InvalidSeen_NothingLeft⟩
    have S_number : Says l.prog w K mg base ["e", "some", "word", "good"] "_law_error_of" s__law_error_of a__law_error_of k_InvalidNumber "number" := fun a oe => ⟨b__law_error_of a (fun c => PySem.W.kitOne K (.ref k_InvalidNumber) (.ref c)) k_InvalidLot k_InvalidNumber k_InvalidFigures k_InvalidSeen k_InvalidText k_Unlike k_NoMember k_NothingLeft,
      fun cdv A outer s H G hk => t__law_error_of B m_InvalidLot m_InvalidNumber m_InvalidFigures m_InvalidSeen m_InvalidText m_Unlike m_NoMember m_NothingLeft ⟨g1_InvalidNumber, g2_InvalidNumber, s_InvalidNumber, g3_InvalidNumber, g4_InvalidNumber, e_get, e_tak, g5_InvalidNumber⟩ (fun _ _ q => q) cdv A outer s H G hk, err_number a _ k_InvalidLot k_InvalidNumber k_InvalidFigures k_InvalidSeen k_InvalidText k_Unlike k_NoMember k_NothingLeft i_InvalidNumber_InvalidLot i_InvalidNumber_InvalidNumber i_InvalidNumber_InvalidFigures i_InvalidNumber_InvalidSeen i_InvalidNumber_InvalidText i_InvalidNumber_Unlike i_InvalidNumber_NoMember i_InvalidNumber_NothingLeft⟩
    have O : CameOk l.prog w K mg base [(Pt, (("law" : Str) ++ ".<locals>.") ++ "<lambda>")] "_law_came" 13 errOf := ⟨"call_so", a__law_came, s__law_came, _, ["call_so", "e"], ["e", "some", "word", "good"], "_law_error_of", s__law_error_of, a__law_error_of, k_FigureError, m__law_came, p__law_came, F__law_came,
      F__law_came.binds (ps := ["call_so"]) (fun _ _ _ _ _ _ us hl => match us, hl with | [_], _ => rfl), sc__law_came, rfl, Or.inl rfl, by decide, by decide, fun X cdv q h1 h2 h3 h4 h5 hr => by
        cases X
        dsimp only at h1 h2 h3 h4 h5
        subst h1 h2 h3 h4 h5
        exact came_gives (pe := "e") sc__law_came.nd rfl rfl rfl m_FigureError rfl m__law_error_of p__law_error_of F__law_error_of sc__law_error_of (F__law_error_of.binds (ps := ["e"]) (fun _ _ _ _ _ _ us hl => match us, hl with | [_], _ => rfl)) hr,
      fun x y hx C hC => by
        unfold errOf at hx
        split at hx
        · rename_i e
          subst e
          cases hx
          obtain rfl : k_InvalidSeen = C := by rw [m_InvalidSeen] at hC; cases hC; rfl
          exact ⟨FEx _ f_InvalidSeen, S_seen⟩
        · split at hx
          · rename_i e
            subst e
            cases hx
            obtain rfl : k_InvalidNumber = C := by rw [m_InvalidNumber] at hC; cases hC; rfl
            exact ⟨FEx _ f_InvalidNumber, S_number⟩
          · cases hx⟩
    exact DLaw.c_law B Cc__law_spring Cc__law_pick Cc__law_rows Cc__law_figures Cc_figures_told (Cc__law_twins 12) Cc_figures_lot Cc_has O TB (by simp) (fun p hp _ => by rw [show p = (Pt, (("law" : Str) ++ ".<locals>.") ++ "<lambda>") from by simpa using hp]) FL
end DLaw

end W08E
section W08F
set_option Elab.async false
set_option linter.all false
set_option maxRecDepth 100000
set_option maxHeartbeats 8000000
open PySem PySem.W PyProof.Rows
theorem PySem.Challenge.cw_fewfigures_k08_figures_told_by_numbers_holds : PySem.Challenge.rw_fewfigures_k08_figures_told_by_numbers.Holds := by
  w_on; o_law; k_head; (case hw => w_witness2)
  k_fill
  refine DL.walkD (l := PySem.Challenge.rw_fewfigures_k08_figures_told_by_numbers) (n := 63) (k := 16) (x := "script") (CX := fun w => L2N.CX PySem.Challenge.rw_fewfigures_k08_figures_told_by_numbers.prog w) rfl (by decide) rfl ⟨rfl, by decide, by decide⟩ (fun w h Y => PySem.W.km_in_of Y) ?F (fun _ _ _ _ _ z => by obtain ⟨_, _, _, _, _, _, _, _, _, _, _, _, z⟩ := z; exact z)
  case F =>
    intro w mg fa h Y KX G hmg tabs
    refine' DLaw.all_k08 KX G hmg (PySem.W.km_tabs_of Y _ (List.mem_singleton_self _)) ?n_is_within ?l_is_within ?cc_is_within ?p_is_within ?n_is_wide ?l_is_wide ?cc_is_wide ?p_is_wide ?n_is_fit ?l_is_fit ?cc_is_fit ?p_is_fit ?n_look_at_lot ?l_look_at_lot ?cc_look_at_lot ?p_look_at_lot ?n_look_at_number ?l_look_at_number ?cc_look_at_number ?p_look_at_number ?n_figures_of ?l_figures_of ?cc_figures_of ?p_figures_of ?n_has_by ?l_has_by ?cc_has_by ?p_has_by ?n_has ?l_has ?cc_has ?p_has ?n_are_figures ?l_are_figures ?cc_are_figures ?p_are_figures ?n_figures_by ?l_figures_by ?cc_figures_by ?p_figures_by ?n_figures_lot ?l_figures_lot ?cc_figures_lot ?p_figures_lot ?n_are_numbers ?l_are_numbers ?cc_are_numbers ?p_are_numbers ?n_choices ?l_choices ?cc_choices ?p_choices ?n_is_let ?l_is_let ?cc_is_let ?p_is_let ?n_figures_told ?l_figures_told ?cc_figures_told ?p_figures_told ?n__law_spring ?l__law_spring ?cc__law_spring ?p__law_spring ?n__law_pick ?l__law_pick ?cc__law_pick ?p__law_pick ?n__law_kind ?l__law_kind ?cc__law_kind ?p__law_kind ?n__law_twins ?l__law_twins ?cc__law_twins ?p__law_twins ?n__law_figures ?l__law_figures ?cc__law_figures ?p__law_figures ?n__law_error_of ?l__law_error_of ?cc__law_error_of ?p__law_error_of ?n__law_came ?l__law_came ?cc__law_came ?p__law_came ?n__law_rows ?l__law_rows ?cc__law_rows ?p__law_rows ?n_law ?l_law ?cc_law ?p_law ?z_isinstance ?z_int ?z_bool ?z_tuple ?z_len ?z_all ?z_zip ?z_list ?z_sorted ?z_set ?z_range ?z_any ?z_abs ?z_str ?z_min ?n_MOST ?n_FAR ?n_InvalidLot ?n_InvalidNumber ?n_InvalidFigures ?n_InvalidSeen ?n_InvalidText ?n_Unlike ?n_NoMember ?n_NothingLeft ?n_FigureError ?q_InvalidLot ?k_InvalidLot_ ?s_InvalidLot ?y_InvalidLot ?q_InvalidNumber ?k_InvalidNumber_ ?s_InvalidNumber ?y_InvalidNumber ?q_InvalidFigures ?k_InvalidFigures_ ?s_InvalidFigures ?y_InvalidFigures ?q_InvalidSeen ?k_InvalidSeen_ ?s_InvalidSeen ?y_InvalidSeen ?s_FE ?d_FE ?y_FE ?e_get ?e_tak ?f_InvalidSeen ?g1_InvalidSeen ?g2_InvalidSeen ?g3_InvalidSeen ?g4_InvalidSeen ?g5_InvalidSeen ?i_InvalidSeen_InvalidLot ?i_InvalidSeen_InvalidNumber ?i_InvalidSeen_InvalidFigures ?i_InvalidSeen_InvalidSeen ?i_InvalidSeen_InvalidText ?i_InvalidSeen_Unlike ?i_InvalidSeen_NoMember ?i_InvalidSeen_NothingLeft ?f_InvalidNumber ?g1_InvalidNumber ?g2_InvalidNumber ?g3_InvalidNumber ?g4_InvalidNumber ?g5_InvalidNumber ?i_InvalidNumber_InvalidLot ?i_InvalidNumber_InvalidNumber ?i_InvalidNumber_InvalidFigures ?i_InvalidNumber_InvalidSeen ?i_InvalidNumber_InvalidText ?i_InvalidNumber_Unlike ?i_InvalidNumber_NoMember ?i_InvalidNumber_NothingLeft ?tabL ?noT
    (case n_is_within => k_is)
    (case l_is_within => k_is)
    (case cc_is_within => k_is)
    (case p_is_within => k_is)
    (case n_is_wide => k_is)
    (case l_is_wide => k_is)
    (case cc_is_wide => k_is)
    (case p_is_wide => k_is)
    (case n_is_fit => k_is)
    (case l_is_fit => k_is)
    (case cc_is_fit => k_is)
    (case p_is_fit => k_is)
    (case n_look_at_lot => k_is)
    (case l_look_at_lot => k_is)
    (case cc_look_at_lot => k_is)
    (case p_look_at_lot => k_is)
    (case n_look_at_number => k_is)
    (case l_look_at_number => k_is)
    (case cc_look_at_number => k_is)
    (case p_look_at_number => k_is)
    (case n_figures_of => k_is)
    (case l_figures_of => k_is)
    (case cc_figures_of => k_is)
    (case p_figures_of => k_is)
    (case n_has_by => k_is)
    (case l_has_by => k_is)
    (case cc_has_by => k_is)
    (case p_has_by => k_is)
    (case n_has => k_is)
    (case l_has => k_is)
    (case cc_has => k_is)
    (case p_has => k_is)
    (case n_are_figures => k_is)
    (case l_are_figures => k_is)
    (case cc_are_figures => k_is)
    (case p_are_figures => k_is)
    (case n_figures_by => k_is)
    (case l_figures_by => k_is)
    (case cc_figures_by => k_is)
    (case p_figures_by => k_is)
    (case n_figures_lot => k_is)
    (case l_figures_lot => k_is)
    (case cc_figures_lot => k_is)
    (case p_figures_lot => k_is)
    (case n_are_numbers => k_is)
    (case l_are_numbers => k_is)
    (case cc_are_numbers => k_is)
    (case p_are_numbers => k_is)
    (case n_choices => k_is)
    (case l_choices => k_is)
    (case cc_choices => k_is)
    (case p_choices => k_is)
    (case n_is_let => k_is)
    (case l_is_let => k_is)
    (case cc_is_let => k_is)
    (case p_is_let => k_is)
    (case n_figures_told => k_is)
    (case l_figures_told => k_is)
    (case cc_figures_told => k_is)
    (case p_figures_told => k_is)
    (case n__law_spring => k_is)
    (case l__law_spring => k_is)
    (case cc__law_spring => k_is)
    (case p__law_spring => k_is)
    (case n__law_pick => k_is)
    (case l__law_pick => k_is)
    (case cc__law_pick => k_is)
    (case p__law_pick => k_is)
    (case n__law_kind => k_is)
    (case l__law_kind => k_is)
    (case cc__law_kind => k_is)
    (case p__law_kind => k_is)
    (case n__law_twins => k_is)
    (case l__law_twins => k_is)
    (case cc__law_twins => k_is)
    (case p__law_twins => k_is)
    (case n__law_figures => k_is)
    (case l__law_figures => k_is)
    (case cc__law_figures => k_is)
    (case p__law_figures => k_is)
    (case n__law_error_of => k_is)
    (case l__law_error_of => k_is)
    (case cc__law_error_of => k_is)
    (case p__law_error_of => k_is)
    (case n__law_came => k_is)
    (case l__law_came => k_is)
    (case cc__law_came => k_is)
    (case p__law_came => k_is)
    (case n__law_rows => k_is)
    (case l__law_rows => k_is)
    (case cc__law_rows => k_is)
    (case p__law_rows => k_is)
    (case n_law => k_is)
    (case l_law => k_is)
    (case cc_law => k_is)
    (case p_law => k_is)
    (case z_isinstance => k_is)
    (case z_int => k_is)
    (case z_bool => k_is)
    (case z_tuple => k_is)
    (case z_len => k_is)
    (case z_all => k_is)
    (case z_zip => k_is)
    (case z_list => k_is)
    (case z_sorted => k_is)
    (case z_set => k_is)
    (case z_range => k_is)
    (case z_any => k_is)
    (case z_abs => k_is)
    (case z_str => k_is)
    (case z_min => k_is)
    (case n_MOST => k_is)
    (case n_FAR => k_is)
    (case n_InvalidLot => k_is)
    (case n_InvalidNumber => k_is)
    (case n_InvalidFigures => k_is)
    (case n_InvalidSeen => k_is)
    (case n_InvalidText => k_is)
    (case n_Unlike => k_is)
    (case n_NoMember => k_is)
    (case n_NothingLeft => k_is)
    (case n_FigureError => k_is)
    (case q_InvalidLot => k_exc)
    (case k_InvalidLot_ => k_is)
    (case s_InvalidLot => k_is)
    (case y_InvalidLot => k_is)
    (case q_InvalidNumber => k_exc)
    (case k_InvalidNumber_ => k_is)
    (case s_InvalidNumber => k_is)
    (case y_InvalidNumber => k_is)
    (case q_InvalidFigures => k_exc)
    (case k_InvalidFigures_ => k_is)
    (case s_InvalidFigures => k_is)
    (case y_InvalidFigures => k_is)
    (case q_InvalidSeen => k_exc)
    (case k_InvalidSeen_ => k_is)
    (case s_InvalidSeen => k_is)
    (case y_InvalidSeen => k_is)
    (case s_FE => k_is)
    (case d_FE => k_is)
    (case y_FE => k_is)
    (case e_get => k_is)
    (case e_tak => k_is)
    (case f_InvalidSeen => first | rfl | k_is)
    (case g1_InvalidSeen => k_is)
    (case g2_InvalidSeen => k_is)
    (case g3_InvalidSeen => k_is)
    (case g4_InvalidSeen => k_is)
    (case g5_InvalidSeen => k_is)
    (case i_InvalidSeen_InvalidLot => first | rfl | k_is)
    (case i_InvalidSeen_InvalidNumber => first | rfl | k_is)
    (case i_InvalidSeen_InvalidFigures => first | rfl | k_is)
    (case i_InvalidSeen_InvalidSeen => first | rfl | k_is)
    (case i_InvalidSeen_InvalidText => first | rfl | k_is)
    (case i_InvalidSeen_Unlike => first | rfl | k_is)
    (case i_InvalidSeen_NoMember => first | rfl | k_is)
    (case i_InvalidSeen_NothingLeft => first | rfl | k_is)
    (case f_InvalidNumber => first | rfl | k_is)
    (case g1_InvalidNumber => k_is)
    (case g2_InvalidNumber => k_is)
    (case g3_InvalidNumber => k_is)
    (case g4_InvalidNumber => k_is)
    (case g5_InvalidNumber => k_is)
    (case i_InvalidNumber_InvalidLot => first | rfl | k_is)
    (case i_InvalidNumber_InvalidNumber => first | rfl | k_is)
    (case i_InvalidNumber_InvalidFigures => first | rfl | k_is)
    (case i_InvalidNumber_InvalidSeen => first | rfl | k_is)
    (case i_InvalidNumber_InvalidText => first | rfl | k_is)
    (case i_InvalidNumber_Unlike => first | rfl | k_is)
    (case i_InvalidNumber_NoMember => first | rfl | k_is)
    (case i_InvalidNumber_NothingLeft => first | rfl | k_is)
    (case tabL => first | kernel_rfl | rfl | k_is)
    (case noT => first | kernel_rfl | rfl | k_is)
#print axioms PySem.Challenge.cw_fewfigures_k08_figures_told_by_numbers_holds

end W08F
