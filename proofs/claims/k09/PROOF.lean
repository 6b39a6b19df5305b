import PyProof.Rows.All
import Wide.All
import OpenK.AllK
import Wide.FinOn
import HandS.ForMost
import HandS.ForExc
import HandS.Lambda
import HandS.ExcCtx
import HandS.HotCalls
import HandS.ExcIs
import HandS.EndTab
import HandS.TupSets
import HandS.SetFor
import HandS.Strs
import HandS.Wide
import HandS.IsInst
import HandS.Conv
import HandS.Zip
import HandS.Small
import HandS.TupAny
import HandS.TupMul
import HandS.RevRange
import HandS.CallSlots
import KE.SortData
import KE.KDictKeyed
import HandS.Replace
import PySem.Challenge.RW_fewfigures_k09_lots_as_texts
section DLa
set_option Elab.async false
set_option linter.all false
set_option maxRecDepth 100000
/-! DL: a layer of plain data over the hand layer. Values are trees (D); a def's body is read as a plain function on the slots' data. -/
namespace DL
open PySem PySem.Spec PyProof.Rows L2

/-- data: what a value means, however deep; scr: the script; own: a list, dict, instance that nobody else holds; io: one that the caller holds and this def may change; bor i: what slot i holds -/
inductive D where
  | non | bl (b : Bool) | int (i : Int) | str (x : Str) | ref (a : Addr)
  | tup (xs : List D) | lst (xs : List D) | scr (xs : List D) | dct (kvs : List (D × D)) | ins (C : Addr) (fs : List (Str × D))
  | own (d : D) | io (d : D) | bor (i : Nat)
  deriving Inhabited

abbrev FS := Addr → Prop
mutual
inductive Rep (F : FS) (H : Hp) : D → V → Prop
  | non : Rep F H .non .non
  | bl (b : Bool) : Rep F H (.bl b) (.bl b)
  | int (i : Int) : Rep F H (.int i) (.int i)
  | str (x : Str) : Rep F H (.str x) (.str x)
  | ref (a : Addr) : Rep F H (.ref a) (.ref a)
  | tup {a : Addr} {xs : List D} {vs : List V} : H a = some (.tup vs) → Reps F H xs vs → Rep F H (.tup xs) (.ref a)
  | lst {a : Addr} {xs : List D} {vs : List V} : F a → H a = some (.lst vs) → Reps F H xs vs → Rep F H (.lst xs) (.ref a)
  | scr {a : Addr} {o : Obj} {xs : List D} {vs : List V} : F a → H a = some (.frz o (.lst vs)) → Reps F H xs vs → Rep F H (.scr xs) (.ref a)
  | dct {a : Addr} {kvs : List (D × D)} {ks : List (Key × V)} : F a → H a = some (.dK ks) → RepK F H kvs ks → Rep F H (.dct kvs) (.ref a)
  | dctT {a : Addr} {kvs : List (D × D)} {ks : List (List Key × V)} : F a → H a = some (.dT ks) → RepT F H kvs ks → Rep F H (.dct kvs) (.ref a)
inductive Reps (F : FS) (H : Hp) : List D → List V → Prop
  | nil : Reps F H [] []
  | cons {d : D} {ds : List D} {v : V} {vs : List V} : Rep F H d v → Reps F H ds vs → Reps F H (d :: ds) (v :: vs)
inductive RepK (F : FS) (H : Hp) : List (D × D) → List (Key × V) → Prop
  | nil : RepK F H [] []
  | int {i : Int} {d : D} {kvs : List (D × D)} {v : V} {ks : List (Key × V)} : Rep F H d v → RepK F H kvs ks → RepK F H ((.int i, d) :: kvs) ((.inl i, v) :: ks)
inductive RepT (F : FS) (H : Hp) : List (D × D) → List (List Key × V) → Prop
  | nil : RepT F H [] []
  | tup {is : List Int} {d : D} {kvs : List (D × D)} {v : V} {ks : List (List Key × V)} : Rep F H d v → RepT F H kvs ks → RepT F H ((.tup (is.map D.int), d) :: kvs) ((is.map Sum.inl, v) :: ks)
end

/-- what is frozen, and each tuple, stays -/
structure Stab (F : FS) (H H' : Hp) : Prop where
  tup : ∀ a vs, H a = some (.tup vs) → H' a = some (.tup vs)
  frz : ∀ a o, F a → H a = some o → H' a = some o
structure Le (F : FS) (H : Hp) (F' : FS) (H' : Hp) : Prop where
  sub : ∀ a, F a → F' a
  st : Stab F H H'
theorem Stab.refl {F : FS} {H : Hp} : Stab F H H := ⟨fun _ _ h => h, fun _ _ _ h => h⟩
theorem Le.refl {F : FS} {H : Hp} : Le F H F H := ⟨fun _ h => h, .refl⟩
theorem Le.trans {F F1 F2 : FS} {H H1 H2 : Hp} (p : Le F H F1 H1) (q : Le F1 H1 F2 H2) : Le F H F2 H2 :=
  ⟨fun b h => q.sub b (p.sub b h), fun b vs h => q.st.tup b vs (p.st.tup b vs h), fun b o h e => q.st.frz b o (p.sub b h) (p.st.frz b o h e)⟩
theorem Stab.same {F : FS} {H H' : Hp} (s : Same H H') : Stab F H H' := ⟨fun _ _ h => s _ _ h, fun _ _ _ h => s _ _ h⟩
theorem Le.same {F : FS} {H H' : Hp} (s : Same H H') : Le F H F H' := ⟨fun _ h => h, .same s⟩
section
variable {F F' : FS} {H H' : Hp}
mutual
theorem Rep.le (p : Le F H F' H') : ∀ {d : D} {v : V}, Rep F H d v → Rep F' H' d v
  | _, _, .non => .non
  | _, _, .bl b => .bl b
  | _, _, .int i => .int i
  | _, _, .str x => .str x
  | _, _, .ref a => .ref a
  | _, _, .tup h r => .tup (p.st.tup _ _ h) (Reps.le p r)
  | _, _, .lst f h r => .lst (p.sub _ f) (p.st.frz _ _ f h) (Reps.le p r)
  | _, _, .scr f h r => .scr (p.sub _ f) (p.st.frz _ _ f h) (Reps.le p r)
  | _, _, .dct f h r => .dct (p.sub _ f) (p.st.frz _ _ f h) (RepK.le p r)
  | _, _, .dctT f h r => .dctT (p.sub _ f) (p.st.frz _ _ f h) (RepT.le p r)
theorem Reps.le (p : Le F H F' H') : ∀ {d : List D} {v : List V}, Reps F H d v → Reps F' H' d v
  | _, _, .nil => .nil
  | _, _, .cons r rs => .cons (Rep.le p r) (Reps.le p rs)
theorem RepK.le (p : Le F H F' H') : ∀ {d : List (D × D)} {v : List (Key × V)}, RepK F H d v → RepK F' H' d v
  | _, _, .nil => .nil
  | _, _, .int r rs => .int (Rep.le p r) (RepK.le p rs)
theorem RepT.le (p : Le F H F' H') : ∀ {d : List (D × D)} {v : List (List Key × V)}, RepT F H d v → RepT F' H' d v
  | _, _, .nil => .nil
  | _, _, .tup r rs => .tup (Rep.le p r) (RepT.le p rs)
end
end
end DL

end DLa
section DLb
set_option Elab.async false
set_option linter.all false
set_option autoImplicit false
set_option maxRecDepth 100000
namespace DL
open PySem PySem.Spec PyProof.Rows L2

/-- what a body is entered with: the heap, what was frozen, what it may change, the module's names, what is wanted of errors; T: fresh things that are at hand, in no slot yet -/
structure Gh where
  T : List (D × Addr)
  H0 : Hp
  F0 : FS
  I0 : FS
  mg : Str → Option Value
  E : XK
  tb : List (Addr × Str)

/-- nothing but a table, or nothing -/
def Nw (H : Hp) (a : Addr) : Prop := ∀ o, H a = some o → ∃ ps, o = .tbl ps
theorem Nw.of {H : Hp} {a : Addr} (n : H a = none) : Nw H a := fun o e => by rw [n] at e; cases e
/-- the changeable thing at v -/
def RepM (F : FS) (H : Hp) : D → V → Prop
  | .lst xs, v => ∃ a vs, v = .ref a ∧ H a = some (.lst vs) ∧ Reps F H xs vs
  | .dct kvs, v => ∃ a, v = .ref a ∧ ((∃ ks, H a = some (.dK ks) ∧ RepK F H kvs ks) ∨ (∃ ks, H a = some (.dT ks) ∧ RepT F H kvs ks))
  | .ins C fs, v => ∃ a dx vs, v = .ref a ∧ H a = some (.ins C dx (fs.map (·.1) |>.zip vs)) ∧ Reps F H (fs.map (·.2)) vs
  | _, _ => False
abbrev LS := List (Option D)
def RepS (G : Gh) (F : FS) (H : Hp) : D → V → Prop
  | .own d, v => RepM F H d v ∧ ∃ a, v = .ref a ∧ ¬ F a ∧ Nw G.H0 a
  | .io d, v => RepM F H d v ∧ ∃ a, v = .ref a ∧ ¬ F a ∧ G.I0 a
  | .bor _, _ => False
  | d, v => Rep F H d v
def Chg : D → Prop
  | .own _ => True
  | .io _ => True
  | _ => False
structure Keep (G : Gh) (H : Hp) : Prop where
  all : ∀ a o, G.H0 a = some o → ¬ G.I0 a → (∀ ps, o ≠ .tbl ps) → H a = some o
  dom : ∀ a, Nw H a → Nw G.H0 a
  tabs : LamX.Tabs G.tb H
structure LInv (G : Gh) (F : FS) (ls : LS) (σ : L2.St) (H : Hp) : Prop where
  keep : Keep G H
  slot : ∀ (i : Nat) (d : D), ls[i]? = some (some d) → ∃ v, σ[i]? = some (some v) ∧ RepS G F H d v
  apart : ∀ (i j : Nat) (d d' : D) (v : V), i ≠ j → ls[i]? = some (some d) → ls[j]? = some (some d') → Chg d → Chg d' → σ[i]? = some (some v) → σ[j]? ≠ some (some v)
  there : ∀ a, F a → ¬ Nw H a
  fnew : ∀ a, F a → G.F0 a ∨ Nw G.H0 a
  len : ls.length = σ.length
  pin : ∀ p ∈ G.T, RepM F H p.1 (.ref p.2) ∧ ¬ F p.2 ∧ Nw G.H0 p.2 ∧ ∀ (i : Nat) (d : D), ls[i]? = some (some d) → Chg d → σ[i]? ≠ some (some (.ref p.2))

/-- how a reading ends -/
inductive Res (α : Type) where
  | ok (x : α) | exc (x : Str) | stuck
abbrev RD := Res (D × LS)
abbrev ME := LS → RD
/-- an expression's value, where it has just been made -/
def RepX (G : Gh) (F : FS) (H : Hp) (ls : LS) (σ : L2.St) : D → V → Prop
  | .own d, v => RepM F H d v ∧ (∃ a, v = .ref a ∧ ¬ F a ∧ Nw G.H0 a) ∧ (∀ (i : Nat) (d : D), ls[i]? = some (some d) → Chg d → σ[i]? ≠ some (some v)) ∧ ∀ p ∈ G.T, v ≠ .ref p.2
  | .io _, _ => False
  | .bor i, v => σ[i]? = some (some v) ∧ ∃ d, ls[i]? = some (some d) ∧ Chg d
  | d, v => Rep F H d v
def Out (G : Gh) (r : RD) (F : FS) (σ : L2.St) (H : Hp) (Q : VK) : Prop :=
  match r with
  | .ok (d, ls) => ∀ F' H' v, Le F H F' H' → LInv G F' ls σ H' → RepX G F' H' ls σ d v → Q v H'
  | .exc x => ∀ H' C, Keep G H' → G.mg x = some (.ref C) → G.E (.ref C) none H'
  | .stuck => False
def tOf (G : Gh) (m : ME) : TE := fun σ H Q => ∃ F ls, LInv G F ls σ H ∧ Out G (m ls) F σ H Q
abbrev DE (X : Cx) (G : Gh) (e : Expr) (m : ME) : Prop := PE X e (tOf G m)

section
variable {G : Gh} {F F' : FS} {H H' : Hp} {ls : LS} {σ : L2.St} {Q : VK} {d : D} {v : V}
theorem Out.later {r : RD} (p : Le F H F' H') (o : Out G r F σ H Q) : Out G r F' σ H' Q := by
  cases r with
  | ok x => obtain ⟨d, ls⟩ := x; exact fun F2 H2 v q => o F2 H2 v (p.trans q)
  | exc x => exact o
  | stuck => exact o
theorem Out.mono {r : RD} {Q' : VK} (o : Out G r F σ H Q) (h : ∀ v H, Q v H → Q' v H) : Out G r F σ H Q' := by
  cases r with
  | ok x => obtain ⟨d, ls⟩ := x; exact fun F2 H2 v q i r => h _ _ (o F2 H2 v q i r)
  | exc x => exact o
  | stuck => exact o
def Res.bind {α β : Type} (r : Res α) (f : α → Res β) : Res β := match r with
  | .ok x => f x
  | .exc x => .exc x
  | .stuck => .stuck
theorem Res.bind_ok {α β : Type} (x : α) (f : α → Res β) : (Res.ok x).bind f = f x := rfl
theorem Res.bind_exc {α β : Type} (x : Str) (f : α → Res β) : (Res.exc x : Res α).bind f = .exc x := rfl
theorem Res.bind_stuck {α β : Type} (f : α → Res β) : (Res.stuck : Res α).bind f = .stuck := rfl
/-- first ma, then what follows -/
theorem tOf.first {ma : ME} {f : D × LS → RD} (L : LInv G F ls σ H) (o : Out G ((ma ls).bind f) F σ H Q)
    {Q' : VK} (h : ∀ F1 H1 ls1 d v, Le F H F1 H1 → LInv G F1 ls1 σ H1 → RepX G F1 H1 ls1 σ d v → Out G (f (d, ls1)) F1 σ H1 Q → Q' v H1) : tOf G ma σ H Q' := by
  refine ⟨F, ls, L, ?_⟩
  revert o
  cases ma ls with
  | ok x => obtain ⟨d, ls1⟩ := x; exact fun o F1 H1 v p L1 r => h F1 H1 ls1 d v p L1 r (Out.later p o)
  | exc x => exact fun o => o
  | stuck => exact fun o => o

/-! ### settling a value -/
theorem RepM.le {d : D} {v : V} (p : Le F H F' H') (hv : ∀ a, v = .ref a → H a = H' a) (r : RepM F H d v) : RepM F' H' d v := by
  cases d with
  | lst xs => obtain ⟨a, vs, e, h, q⟩ := r; exact ⟨a, vs, e, by rw [← hv a e]; exact h, q.le p⟩
  | dct kvs =>
    obtain ⟨a, e, h⟩ := r
    rcases h with ⟨ks, h, q⟩ | ⟨ks, h, q⟩
    · exact ⟨a, e, .inl ⟨ks, by rw [← hv a e]; exact h, q.le p⟩⟩
    · exact ⟨a, e, .inr ⟨ks, by rw [← hv a e]; exact h, q.le p⟩⟩
  | ins C fs => obtain ⟨a, dx, vs, e, h, q⟩ := r; exact ⟨a, dx, vs, e, by rw [← hv a e]; exact h, q.le p⟩
  | _ => exact r.elim
/-- what may be frozen -/
def Frz : D → Prop
  | .lst _ => True
  | .dct _ => True
  | _ => False
theorem RepM.frozen {a : Addr} (z : Frz d) (f : F a) (r : RepM F H d (.ref a)) : Rep F H d (.ref a) := by
  cases d with
  | lst xs => obtain ⟨b, vs, e, h, q⟩ := r; cases e; exact .lst f h q
  | dct kvs =>
    obtain ⟨b, e, h⟩ := r
    cases e
    rcases h with ⟨ks, h, q⟩ | ⟨ks, h, q⟩
    · exact .dct f h q
    · exact .dctT f h q
  | _ => exact z.elim
theorem RepM.there {a : Addr} (r : RepM F H d (.ref a)) : H a ≠ none := by
  cases d with
  | lst xs => obtain ⟨b, vs, e, h, q⟩ := r; cases e; rw [h]; simp
  | dct kvs =>
    obtain ⟨b, e, h⟩ := r
    cases e
    rcases h with ⟨ks, h, q⟩ | ⟨ks, h, q⟩ <;> (rw [h]; simp)
  | ins C fs => obtain ⟨b, dx, vs, e, h, q⟩ := r; cases e; rw [h]; simp
  | _ => exact r.elim
theorem RepM.nw {a : Addr} (r : RepM F H d (.ref a)) (n : Nw H a) : False := by
  cases d with
  | lst xs => obtain ⟨b, vs, e, h, q⟩ := r; cases e; obtain ⟨ps, z⟩ := n _ h; cases z
  | dct kvs =>
    obtain ⟨b, e, h⟩ := r
    cases e
    rcases h with ⟨ks, h, q⟩ | ⟨ks, h, q⟩ <;> (obtain ⟨ps, z⟩ := n _ h; cases z)
  | ins C fs => obtain ⟨b, dx, vs, e, h, q⟩ := r; cases e; obtain ⟨ps, z⟩ := n _ h; cases z
  | _ => exact r.elim
def plus (F : FS) (a : Addr) : FS := fun b => F b ∨ b = a
theorem Le.plus {a : Addr} : Le F H (plus F a) H := ⟨fun b h => .inl h, .refl⟩
theorem RepS.le {d : D} {v : V} (p : Le F H F' H') (hv : ∀ a, Chg d → v = .ref a → H a = H' a ∧ ¬ F' a) (r : RepS G F H d v) : RepS G F' H' d v := by
  cases d with
  | own d => obtain ⟨m, a, e, nf, h0⟩ := r; exact ⟨m.le p fun b eb => (hv b trivial eb).1, a, e, (hv a trivial e).2, h0⟩
  | io d => obtain ⟨m, a, e, nf, h0⟩ := r; exact ⟨m.le p fun b eb => (hv b trivial eb).1, a, e, (hv a trivial e).2, h0⟩
  | bor i => exact r.elim
  | non => exact Rep.le p r
  | bl => exact Rep.le p r
  | int => exact Rep.le p r
  | str => exact Rep.le p r
  | ref => exact Rep.le p r
  | tup => exact Rep.le p r
  | lst => exact Rep.le p r
  | scr => exact Rep.le p r
  | dct => exact Rep.le p r
  | ins => cases (show Rep F H _ _ from r)
theorem LInv.freeze {a : Addr} (L : LInv G F ls σ H) (th : ¬ Nw H a) (h0 : Nw G.H0 a) (na : ∀ (i : Nat) (d : D), ls[i]? = some (some d) → Chg d → σ[i]? ≠ some (some (.ref a))) (np : ∀ p ∈ G.T, (V.ref a) ≠ .ref p.2) : LInv G (plus F a) ls σ H where
  keep := L.keep
  slot := fun i d e => by
    obtain ⟨v, h1, h2⟩ := L.slot i d e
    refine ⟨v, h1, h2.le Le.plus fun b c eb => ⟨rfl, fun q => ?_⟩⟩
    rcases q with q | q
    · cases d with
      | own d => obtain ⟨m, a', e', nf, _⟩ := h2; rw [e'] at eb; cases eb; exact nf q
      | io d => obtain ⟨m, a', e', nf, _⟩ := h2; rw [e'] at eb; cases eb; exact nf q
      | _ => exact c.elim
    · subst q eb; exact na i d e c h1
  apart := L.apart
  there := fun b q => by
    rcases q with q | q
    · exact L.there b q
    · subst q; exact th
  fnew := fun b q => by
    rcases q with q | q
    · exact L.fnew b q
    · subst q; exact .inr h0
  len := L.len
  pin := fun p hp => by
    obtain ⟨m, nf, h0, q⟩ := L.pin p hp
    refine ⟨m.le Le.plus fun _ _ => rfl, fun z => ?_, h0, q⟩
    rcases z with z | z
    · exact nf z
    · exact np p hp (by rw [z])
/-- a value that is kept: what was fresh is frozen -/
def stl : D → Option D
  | .own (.lst xs) => some (.lst xs)
  | .own (.dct kvs) => some (.dct kvs)
  | .own _ => none
  | .io _ => none
  | d => some d
/-- a settled value: frozen, or what a slot holds -/
def RepY (F : FS) (H : Hp) (σ : L2.St) : D → V → Prop
  | .own _, _ => False
  | .io _, _ => False
  | .bor i, v => σ[i]? = some (some v)
  | d, v => Rep F H d v
theorem RepY.le {d : D} {v : V} (p : Le F H F' H') (r : RepY F H σ d v) : RepY F' H' σ d v := by
  cases d with
  | own d => exact r.elim
  | io d => exact r.elim
  | bor i => exact r
  | non => exact Rep.le p r
  | bl => exact Rep.le p r
  | int => exact Rep.le p r
  | str => exact Rep.le p r
  | ref => exact Rep.le p r
  | tup => exact Rep.le p r
  | lst => exact Rep.le p r
  | scr => exact Rep.le p r
  | dct => exact Rep.le p r
  | ins => cases (show Rep F H _ _ from r)
theorem settle {d d' : D} (L : LInv G F ls σ H) (r : RepX G F H ls σ d v) (e : stl d = some d') : ∃ F', Le F H F' H ∧ LInv G F' ls σ H ∧ RepY F' H σ d' v := by
  cases d with
  | own d =>
    obtain ⟨m, ⟨a, rfl, nf, h0⟩, na, np⟩ := r
    have fr : LInv G (plus F a) ls σ H := L.freeze m.nw h0 na np
    cases d with
    | lst xs => cases e; exact ⟨_, Le.plus, fr, (m.le Le.plus fun _ _ => rfl).frozen trivial (.inr rfl)⟩
    | dct xs => cases e; exact ⟨_, Le.plus, fr, (m.le Le.plus fun _ _ => rfl).frozen trivial (.inr rfl)⟩
    | _ => cases e
  | io d => exact r.elim
  | bor i => cases e; exact ⟨F, .refl, L, r.1⟩
  | non => cases e; exact ⟨F, .refl, L, r⟩
  | bl => cases e; exact ⟨F, .refl, L, r⟩
  | int => cases e; exact ⟨F, .refl, L, r⟩
  | str => cases e; exact ⟨F, .refl, L, r⟩
  | ref => cases e; exact ⟨F, .refl, L, r⟩
  | tup => cases e; exact ⟨F, .refl, L, r⟩
  | lst => cases e; exact ⟨F, .refl, L, r⟩
  | scr => cases e; exact ⟨F, .refl, L, r⟩
  | dct => cases e; exact ⟨F, .refl, L, r⟩
  | ins => cases (show Rep F H _ _ from r)
/-- what a settled value is, read now -/
def cont : D → Option D
  | .own d => some d
  | .io d => some d
  | .bor _ => none
  | d => some d
def see (ls : LS) : D → Option D
  | .bor i => (ls[i]?).bind fun o => o.bind cont
  | .own _ => none
  | .io _ => none
  | d => some d
/-- what may be read: frozen, or changeable at its place -/
def RepR (F : FS) (H : Hp) (d : D) (v : V) : Prop := Rep F H d v ∨ RepM F H d v
theorem see_rep {d d' : D} (L : LInv G F ls σ H) (r : RepY F H σ d v) (e : see ls d = some d') : RepR F H d' v := by
  cases d with
  | bor i =>
    have e : (ls[i]?).bind (fun o => o.bind cont) = some d' := e
    cases q : ls[i]? with
    | none => rw [q] at e; cases e
    | some o =>
      cases o with
      | none => rw [q] at e; cases e
      | some x =>
        rw [q] at e
        obtain ⟨u, h1, h2⟩ := L.slot i x q
        have r' : σ[i]? = some (some v) := r
        rw [h1] at r'; cases r'
        cases x with
        | own d => cases e; exact .inr h2.1
        | io d => cases e; exact .inr h2.1
        | bor j => cases e
        | non => cases e; exact .inl h2
        | bl => cases e; exact .inl h2
        | int => cases e; exact .inl h2
        | str => cases e; exact .inl h2
        | ref => cases e; exact .inl h2
        | tup => cases e; exact .inl h2
        | lst => cases e; exact .inl h2
        | scr => cases e; exact .inl h2
        | dct => cases e; exact .inl h2
        | ins => cases (show Rep F H _ _ from h2)
  | own d => exact r.elim
  | io d => exact r.elim
  | non => cases e; exact .inl r
  | bl => cases e; exact .inl r
  | int => cases e; exact .inl r
  | str => cases e; exact .inl r
  | ref => cases e; exact .inl r
  | tup => cases e; exact .inl r
  | lst => cases e; exact .inl r
  | scr => cases e; exact .inl r
  | dct => cases e; exact .inl r
  | ins => cases (show Rep F H _ _ from r)

/-! ### what only grows -/
theorem Keep.same (k : Keep G H) (s : Same H H') : Keep G H' := ⟨fun a o e n t => s a o (k.all a o e n t), fun a e => k.dom a fun o h => e o (s a o h), k.tabs.ext s⟩
theorem LInv.same (L : LInv G F ls σ H) (s : Same H H') : LInv G F ls σ H' where
  keep := L.keep.same s
  slot := fun i d e => by
    obtain ⟨v, h1, h2⟩ := L.slot i d e
    refine ⟨v, h1, h2.le (Le.same s) fun b c eb => ?_⟩
    have th : H b ≠ none ∧ ¬ F b := by
      cases d with
      | own d => obtain ⟨m, a', e', nf, _⟩ := h2; rw [e'] at eb; cases eb; rw [e'] at m; exact ⟨m.there, nf⟩
      | io d => obtain ⟨m, a', e', nf, _⟩ := h2; rw [e'] at eb; cases eb; rw [e'] at m; exact ⟨m.there, nf⟩
      | _ => exact c.elim
    cases q : H b with
    | none => exact absurd q th.1
    | some o => exact ⟨(s b o q).symm, th.2⟩
  apart := L.apart
  there := fun a f n => L.there a f fun o h => n o (s a o h)
  fnew := L.fnew
  len := L.len
  pin := fun p hp => by
    obtain ⟨m, nf, h0, q⟩ := L.pin p hp
    refine ⟨m.le (Le.same s) fun b eb => ?_, nf, h0, q⟩
    cases eb
    cases z : H p.2 with
    | none => exact absurd z m.there
    | some o => exact (s _ o z).symm
/-- a new value, of a step that only grows the heap -/
def RepP (F : FS) (H H' : Hp) : D → V → Prop
  | .own d, v => RepM F H' d v ∧ ∃ a, v = .ref a ∧ H a = none
  | .io _, _ => False
  | .bor _, _ => False
  | d, v => Rep F H' d v
def Pur (F : FS) (H : Hp) (d : D) (Q : VK) : Prop := ∀ H' v, Same H H' → RepP F H H' d v → Q v H'
theorem Pur.of (L : LInv G F ls σ H) (o : Out G (.ok (d, ls)) F σ H Q) : Pur F H d Q := fun H' v s r => by
  refine o F H' v (Le.same s) (L.same s) ?_
  cases d with
  | own d =>
    obtain ⟨m, a, e, n⟩ := r
    refine ⟨m, ⟨a, e, fun f => L.there a f (.of n), L.keep.dom a (.of n)⟩, fun i d' e1 c q => ?_, fun p hp z => ?_⟩
    · obtain ⟨u, h1, h2⟩ := L.slot i d' e1
      rw [h1] at q; cases q; subst e
      cases d' with
      | own d => exact h2.1.there n
      | io d => exact h2.1.there n
      | _ => exact c.elim
    · rw [e] at z; cases z
      exact (L.pin p hp).1.there n
  | io d => exact r.elim
  | bor i => exact r.elim
  | non => exact r
  | bl => exact r
  | int => exact r
  | str => exact r
  | ref => exact r
  | tup => exact r
  | lst => exact r
  | scr => exact r
  | dct => exact r
  | ins => exact r
end
end DL

end DLb
section DLc
set_option Elab.async false
set_option linter.all false
set_option autoImplicit false
set_option maxRecDepth 100000
namespace DL
open PySem PySem.Spec PyProof.Rows L2

def opt {α : Type} : Option α → Res α
  | some x => .ok x
  | none => .stuck
theorem opt_some {α : Type} (x : α) : opt (some x) = .ok x := rfl
theorem opt_none {α : Type} : (opt none : Res α) = .stuck := rfl

section
variable {X : Cx} {G : Gh} {e : Expr}
theorem pe_imp {t t' : TE} (h : PE X e t) (w : ∀ σ H Q, t' σ H Q → t σ H Q) : PE X e t' := ⟨fun pins s σ H Q I q => h.run pins s σ H Q I (w σ H Q q)⟩
theorem pt_imp {t t' : TT} (h : PT X e t) (w : ∀ σ H Q, t' σ H Q → t σ H Q) : PT X e t' := ⟨fun pins s σ H Q I q => h.run pins s σ H Q I (w σ H Q q)⟩
theorem pa_imp {es : List Expr} {t t' : TA} (h : PA X es t) (w : ∀ σ H Q, t' σ H Q → t σ H Q) : PA X es t' := ⟨fun pos pins s σ H Q I q => h.run pos pins s σ H Q I (w σ H Q q)⟩
theorem pw_imp {t t' : TT} (h : PW X e t) (w : ∀ σ H Q, t' σ H Q → t σ H Q) : PW X e t' := ⟨fun wh pins s σ H Q I q => h.run wh pins s σ H Q I (w σ H Q q)⟩

/-! ### names and constants -/
def cst (d : D) : ME := fun ls => .ok (d, ls)
def plainD : D → Option V
  | .non => some .non
  | .bl b => some (.bl b)
  | .int i => some (.int i)
  | .str x => some (.str x)
  | .ref a => some (.ref a)
  | _ => none
theorem cst_imp {d : D} {v : V} (h : plainD d = some v) (σ : L2.St) (H : Hp) (Q : VK) (q : tOf G (cst d) σ H Q) : tC v σ H Q := by
  obtain ⟨F, ls, L, o⟩ := q
  refine Pur.of L o H v (Same.refl H) ?_
  cases d <;> cases h <;> constructor
theorem de_int {i : Int} {j pos} : DE X G (.Constant (.int i) j pos) (cst (.int i)) := pe_imp pe_int (cst_imp rfl)
theorem de_bl {b : Bool} {j pos} : DE X G (.Constant (.bool b) j pos) (cst (.bl b)) := pe_imp pe_bl (cst_imp rfl)
theorem de_non {j pos} : DE X G (.Constant .none j pos) (cst .non) := pe_imp pe_non (cst_imp rfl)
theorem de_str {x : Str} {j pos} : DE X G (.Constant (.str x) j pos) (cst (.str x)) := pe_imp pe_str (cst_imp rfl)
/-- a module's constant -/
theorem de_glob {x : Str} {d : D} {v : V} {u : Value} {pos : Pos} (hg : Gl X x) (hm : X.mg x = some u) (r : RelV v u) (hd : plainD d = some v) (hb : (x == ("__debug__" : Str)) = false := by decide) : DE X G (.Name x pos) (cst d) := pe_imp (pe_glob hg hm r hb) (cst_imp hd)

def var (i : Nat) : ME := fun ls => match ls[i]? with
  | some (some (.own _)) => .ok (.bor i, ls)
  | some (some (.io _)) => .ok (.bor i, ls)
  | some (some (.bor _)) => .stuck
  | some (some d) => .ok (d, ls)
  | _ => .stuck
theorem var_imp {i : Nat} (σ : L2.St) (H : Hp) (Q : VK) (q : tOf G (var i) σ H Q) : tVar i σ H Q := by
  obtain ⟨F, ls, L, o⟩ := q
  unfold var at o
  cases e : ls[i]? with
  | none => simp only [e] at o; exact o.elim
  | some z =>
    cases z with
    | none => simp only [e] at o; exact o.elim
    | some d =>
      simp only [e] at o
      obtain ⟨v, h1, h2⟩ := L.slot i d e
      refine ⟨v, h1, ?_⟩
      cases d with
      | own d => exact o F H v .refl L ⟨h1, _, e, trivial⟩
      | io d => exact o F H v .refl L ⟨h1, _, e, trivial⟩
      | bor j => exact o.elim
      | non => exact o F H v .refl L h2
      | bl => exact o F H v .refl L h2
      | int => exact o F H v .refl L h2
      | str => exact o F H v .refl L h2
      | ref => exact o F H v .refl L h2
      | tup => exact o F H v .refl L h2
      | lst => exact o F H v .refl L h2
      | scr => exact o F H v .refl L h2
      | dct => exact o F H v .refl L h2
      | ins => exact o F H v .refl L h2
theorem dv (i : Nat) {x : Str} {pos : Pos} (hN : X.N[i]? = some x := by rfl) (hv : Vis X.env.scope x := by first | exact Or.inl rfl | exact Or.inr (Or.inl rfl) | exact Or.inr (Or.inr rfl)) (hd : (x == ("__debug__" : Str)) = false := by decide)
    (hcd : (x == ("__classdict__" : Str)) = false := by decide) : DE X G (.Name x pos) (var i) := pe_imp (pe_var hN hv hd hcd) (fun σ H Q => var_imp σ H Q)

/-! ### two operands -/
/-- evaluated, settled -/
def val (m : ME) : ME := fun ls => (m ls).bind fun p => (opt (stl p.1)).bind fun x => .ok (x, p.2)
def bin (g : D → D → Option D) (ma mb : ME) : ME := fun ls => (val ma ls).bind fun p => (val mb p.2).bind fun q =>
  (opt (see q.2 p.1)).bind fun x => (opt (see q.2 q.1)).bind fun y => (opt (g x y)).bind fun d => .ok (d, q.2)
def OpD (r : R2) (g : D → D → Option D) : Prop := ∀ (F : FS) (H : Hp) (x y d : D) (v u : V) (Q : VK), RepR F H x v → RepR F H y u → g x y = some d → Pur F H d Q → r v u H Q

theorem tOf.settled {F : FS} {H : Hp} {ls : LS} {σ : L2.St} {Q : VK} {ma : ME} {f : D × LS → RD} (L : LInv G F ls σ H) (o : Out G ((val ma ls).bind f) F σ H Q)
    {Q' : VK} (h : ∀ F1 H1 ls1 d v, Le F H F1 H1 → LInv G F1 ls1 σ H1 → RepY F1 H1 σ d v → Out G (f (d, ls1)) F1 σ H1 Q → Q' v H1) : tOf G ma σ H Q' := by
  have e : (val ma ls).bind f = (ma ls).bind fun p => (opt (stl p.1)).bind fun x => f (x, p.2) := by
    unfold val
    cases ma ls with
    | ok p => show ((opt (stl p.1)).bind fun x => Res.ok (x, p.2)).bind f = (opt (stl p.1)).bind _; cases stl p.1 <;> rfl
    | exc x => rfl
    | stuck => rfl
  rw [e] at o
  refine tOf.first L o fun F1 H1 ls1 d v p L1 r o1 => ?_
  cases q : stl d with
  | none => simp only [q] at o1; exact o1.elim
  | some x =>
    simp only [q] at o1
    obtain ⟨F2, p2, L2, r2⟩ := settle L1 r q
    exact h F2 H1 ls1 x v (p.trans p2) L2 r2 (Out.later p2 o1)
theorem bin_imp {r : R2} {g : D → D → Option D} (hg : OpD r g) {ma mb : ME} (σ : L2.St) (H : Hp) (Q : VK) (q : tOf G (bin g ma mb) σ H Q) : tOp r (tOf G ma) (tOf G mb) σ H Q := by
  obtain ⟨F, ls, L, o⟩ := q
  refine tOf.settled L o fun F1 H1 ls1 d v p L1 r1 o1 => ?_
  refine tOf.settled L1 o1 fun F2 H2 ls2 d2 u p2 L2 r2 o2 => ?_
  dsimp only at o2
  cases e1 : see ls2 d with
  | none => rw [e1] at o2; exact o2.elim
  | some x =>
    cases e2 : see ls2 d2 with
    | none => rw [e1, e2] at o2; exact o2.elim
    | some y =>
      rw [e1, e2] at o2
      simp only [opt_some, Res.bind_ok] at o2
      cases e3 : g x y with
      | none => rw [e3] at o2; exact o2.elim
      | some z =>
        rw [e3] at o2
        exact hg F2 H2 x y z v u Q (see_rep L2 (r1.le p2) e1) (see_rep L2 r2 e2) e3 (Pur.of L2 o2)
theorem de_bin {a b : Expr} {op : Operator} {r : R2} {g : D → D → Option D} {ma mb : ME} {pos : Pos} (ho : OpR X (binaryOp op) r) (hg : OpD r g) (ha : DE X G a ma) (hb : DE X G b mb) : DE X G (.BinOp a op b pos) (bin g ma mb) :=
  pe_imp (pe_op ho ha hb) (bin_imp hg)
theorem de_cmp {a b : Expr} {op : CmpOp} {r : R2} {g : D → D → Option D} {ma mb : ME} {pos : Pos} (ho : OpR X (compareOp op) r) (hg : OpD r g) (ha : DE X G a ma) (hb : DE X G b mb) (hm : behindInMarks op b = false) : DE X G (.Compare a [op] [b] pos) (bin g ma mb) :=
  pe_imp (pe_cmpR ho ha hb hm) (bin_imp hg)
theorem de_ix {a b : Expr} {r : R2} {g : D → D → Option D} {ma mb : ME} {pos : Pos} (hr : IxR X r) (hg : OpD r g) (ha : DE X G a ma) (hb : DE X G b mb) (hs : PlainIx b) : DE X G (.Subscript a b pos) (bin g ma mb) :=
  pe_imp (pe_ix hr ha hb hs) (bin_imp hg)
/-- one operand -/
def un (g : D → Option D) (ma : ME) : ME := fun ls => (val ma ls).bind fun p => (opt (see p.2 p.1)).bind fun x => (opt (g x)).bind fun d => .ok (d, p.2)
def UnD (r : V → Hp → VK → Prop) (g : D → Option D) : Prop := ∀ (F : FS) (H : Hp) (x d : D) (v : V) (Q : VK), RepR F H x v → g x = some d → Pur F H d Q → r v H Q
theorem un_imp {r : V → Hp → VK → Prop} {g : D → Option D} (hg : UnD r g) {ma : ME} (σ : L2.St) (H : Hp) (Q : VK) (q : tOf G (un g ma) σ H Q) : tUn r (tOf G ma) σ H Q := by
  obtain ⟨F, ls, L, o⟩ := q
  refine tOf.settled L o fun F1 H1 ls1 d v p L1 r1 o1 => ?_
  dsimp only at o1
  cases e1 : see ls1 d with
  | none => rw [e1] at o1; exact o1.elim
  | some x =>
    rw [e1] at o1
    simp only [opt_some, Res.bind_ok] at o1
    cases e3 : g x with
    | none => rw [e3] at o1; exact o1.elim
    | some z =>
      rw [e3] at o1
      exact hg F1 H1 x z v Q (see_rep L1 r1 e1) e3 (Pur.of L1 o1)
theorem de_un {a : Expr} {op : UnaryOp} {r : V → Hp → VK → Prop} {g : D → Option D} {ma : ME} {pos : Pos} (ho : UnR X (unaryOp op) r) (hg : UnD r g) (ha : DE X G a ma) : DE X G (.UnaryOp op a pos) (un g ma) :=
  pe_imp (pe_un ho ha) (un_imp hg)

/-! ### tests -/
abbrev MT := LS → Res (Bool × LS)
def OutT (G : Gh) (r : Res (Bool × LS)) (F : FS) (σ : L2.St) (H : Hp) (Q : Bool → Hp → Prop) : Prop :=
  match r with
  | .ok (b, ls) => ∀ F' H', Le F H F' H' → LInv G F' ls σ H' → Q b H'
  | .exc x => ∀ H' C, Keep G H' → G.mg x = some (.ref C) → G.E (.ref C) none H'
  | .stuck => False
def tOfT (G : Gh) (m : MT) : TT := fun σ H Q => ∃ F ls, LInv G F ls σ H ∧ OutT G (m ls) F σ H Q
abbrev DT (X : Cx) (G : Gh) (e : Expr) (m : MT) : Prop := PT X e (tOfT G m)
abbrev DW (X : Cx) (G : Gh) (e : Expr) (m : MT) : Prop := PW X e (tOfT G m)
theorem OutT.later {r : Res (Bool × LS)} {F F' : FS} {H H' : Hp} {σ : L2.St} {Q : Bool → Hp → Prop} (p : Le F H F' H') (o : OutT G r F σ H Q) : OutT G r F' σ H' Q := by
  cases r with
  | ok x => obtain ⟨d, ls⟩ := x; exact fun F2 H2 q => o F2 H2 (p.trans q)
  | exc x => exact o
  | stuck => exact o
def tst (m : ME) : MT := fun ls => (m ls).bind fun p => match p.1 with
  | .bl b => .ok (b, p.2)
  | _ => .stuck
theorem tst_imp {m : ME} {t : TE} (w : ∀ σ H Q, tOf G m σ H Q → t σ H Q) (σ : L2.St) (H : Hp) (Q : Bool → Hp → Prop) (q : tOfT G (tst m) σ H Q) : tTest t σ H Q := by
  obtain ⟨F, ls, L, o⟩ := q
  refine w σ H _ ⟨F, ls, L, ?_⟩
  unfold tst at o
  revert o
  cases m ls with
  | ok x =>
    obtain ⟨d, ls1⟩ := x
    intro o F1 H1 v p L1 r
    cases d with
    | bl b =>
      cases (show Rep F1 H1 (.bl b) v from r)
      exact ⟨b, rfl, o F1 H1 p L1⟩
    | _ => exact o.elim
  | exc x => exact fun o => o
  | stuck => exact fun o => o
/-- an expression as a test -/
theorem dt_val {m : ME} (h : DE X G e m) (he : ∀ whole, isTrue e X.env whole = (do let v ← whole; standAt e.pos; holding [v] (truthy v)) := by intro _; rfl) : DT X G e (tst m) :=
  pt_imp (pt_val h he) (tst_imp fun _ _ _ q => q)
theorem dt_cmp {a b : Expr} {op : CmpOp} {r : R2} {g : D → D → Option D} {ma mb : ME} {pos : Pos} (ho : OpR X (compareOp op) r) (hg : OpD r g) (ha : DE X G a ma) (hb : DE X G b mb) (hm : behindInMarks op b = false) : DT X G (.Compare a [op] [b] pos) (tst (bin g ma mb)) :=
  pt_imp (pt_cmpR ho ha hb hm) (tst_imp (bin_imp hg))
def mNot (a : MT) : MT := fun ls => (a ls).bind fun p => .ok (!p.1, p.2)
def mAnd (a b : MT) : MT := fun ls => (a ls).bind fun p => if p.1 then b p.2 else .ok (false, p.2)
def mOr (a b : MT) : MT := fun ls => (a ls).bind fun p => if p.1 then .ok (true, p.2) else b p.2
theorem tOfT.first {F : FS} {H : Hp} {ls : LS} {σ : L2.St} {ma : MT} {f : Bool × LS → Res (Bool × LS)} {Q Q' : Bool → Hp → Prop} (L : LInv G F ls σ H) (o : OutT G ((ma ls).bind f) F σ H Q)
    (h : ∀ F1 H1 ls1 b, Le F H F1 H1 → LInv G F1 ls1 σ H1 → OutT G (f (b, ls1)) F1 σ H1 Q → Q' b H1) : tOfT G ma σ H Q' := by
  refine ⟨F, ls, L, ?_⟩
  revert o
  cases ma ls with
  | ok x => obtain ⟨d, ls1⟩ := x; exact fun o F1 H1 p L1 => h F1 H1 ls1 d p L1 (OutT.later p o)
  | exc x => exact fun o => o
  | stuck => exact fun o => o
theorem dt_not {a : Expr} {pos : Pos} {ma : MT} (h : DT X G a ma) : DT X G (.UnaryOp .Not a pos) (mNot ma) :=
  pt_imp (pt_not h) fun σ H Q ⟨F, ls, L, o⟩ => tOfT.first L o fun F1 H1 ls1 b p L1 o1 => o1 F1 H1 .refl L1
theorem dw_and1 {a : Expr} {pos : Pos} {ma : MT} (h : DT X G a ma) : DW X G (.BoolOp .And [a] pos) ma := pw_and1 h
theorem dw_or1 {a : Expr} {pos : Pos} {ma : MT} (h : DT X G a ma) : DW X G (.BoolOp .Or [a] pos) ma := pw_or1 h
theorem dw_and {a b : Expr} {rest : List Expr} {pos : Pos} {ma mb : MT} (ha : DT X G a ma) (hb : DW X G (.BoolOp .And (b :: rest) pos) mb) : DW X G (.BoolOp .And (a :: b :: rest) pos) (mAnd ma mb) :=
  pw_imp (pw_and ha hb) fun σ H Q ⟨F, ls, L, o⟩ => tOfT.first L o fun F1 H1 ls1 b p L1 o1 => by
    cases b with
    | true => rw [if_pos rfl]; exact ⟨F1, ls1, L1, o1⟩
    | false => rw [if_neg Bool.false_ne_true]; exact o1 F1 H1 .refl L1
theorem dw_or {a b : Expr} {rest : List Expr} {pos : Pos} {ma mb : MT} (ha : DT X G a ma) (hb : DW X G (.BoolOp .Or (b :: rest) pos) mb) : DW X G (.BoolOp .Or (a :: b :: rest) pos) (mOr ma mb) :=
  pw_imp (pw_or ha hb) fun σ H Q ⟨F, ls, L, o⟩ => tOfT.first L o fun F1 H1 ls1 b p L1 o1 => by
    cases b with
    | true => rw [if_pos rfl]; exact o1 F1 H1 .refl L1
    | false => rw [if_neg Bool.false_ne_true]; exact ⟨F1, ls1, L1, o1⟩
theorem dt_w {m : MT} (h : DW X G e m) : DT X G e m := h.pt
/-- tests first, then a value -/
theorem tOfT.firstE {F : FS} {H : Hp} {ls : LS} {σ : L2.St} {ma : MT} {f : Bool × LS → RD} {Q : VK} {Q' : Bool → Hp → Prop} (L : LInv G F ls σ H) (o : Out G ((ma ls).bind f) F σ H Q)
    (h : ∀ F1 H1 ls1 b, Le F H F1 H1 → LInv G F1 ls1 σ H1 → Out G (f (b, ls1)) F1 σ H1 Q → Q' b H1) : tOfT G ma σ H Q' := by
  refine ⟨F, ls, L, ?_⟩
  revert o
  cases ma ls with
  | ok x => obtain ⟨d, ls1⟩ := x; exact fun o F1 H1 p L1 => h F1 H1 ls1 d p L1 (Out.later p o)
  | exc x => exact fun o => o
  | stuck => exact fun o => o
def ite (t : MT) (a b : ME) : ME := fun ls => (t ls).bind fun p => if p.1 then a p.2 else b p.2
theorem de_if {c a b : Expr} {pos : Pos} {t : MT} {ma mb : ME} (hc : DT X G c t) (ha : DE X G a ma) (hb : DE X G b mb) : DE X G (.IfExp c a b pos) (ite t ma mb) :=
  pe_imp (pe_ifExp hc ha hb) fun σ H Q ⟨F, ls, L, o⟩ => tOfT.firstE L o fun F1 H1 ls1 b p L1 o1 => by
    cases b with
    | true => rw [if_pos rfl]; exact ⟨F1, ls1, L1, o1⟩
    | false => rw [if_neg Bool.false_ne_true]; exact ⟨F1, ls1, L1, o1⟩
/-- and, or, not as values: True, False -/
def vNot (a : ME) : ME := un (fun d => match d with | .bl b => some (.bl (!b)) | _ => none) a
def vAnd (a b : ME) : ME := fun ls => (tst a ls).bind fun p => if p.1 then b p.2 else .ok (.bl false, p.2)
def vOr (a b : ME) : ME := fun ls => (tst a ls).bind fun p => if p.1 then .ok (.bl true, p.2) else b p.2
theorem tst_first {F : FS} {H : Hp} {ls : LS} {σ : L2.St} {ma : ME} {f : Bool × LS → RD} {Q : VK} {Q' : VK} (L : LInv G F ls σ H) (o : Out G ((tst ma ls).bind f) F σ H Q)
    (h : ∀ F1 H1 ls1 b, Le F H F1 H1 → LInv G F1 ls1 σ H1 → Out G (f (b, ls1)) F1 σ H1 Q → Q' (.bl b) H1) : tOf G ma σ H Q' := by
  refine ⟨F, ls, L, ?_⟩
  unfold tst at o
  revert o
  cases ma ls with
  | ok x =>
    obtain ⟨d, ls1⟩ := x
    intro o F1 H1 v p L1 r
    cases d with
    | bl b =>
      cases (show Rep F1 H1 (.bl b) v from r)
      exact h F1 H1 ls1 b p L1 (Out.later p o)
    | _ => exact o.elim
  | exc x => exact fun o => o
  | stuck => exact fun o => o
theorem de_one {a : Expr} {op} {pos : Pos} {m : ME} (h : DE X G a m) : DE X G (.BoolOp op [a] pos) m := pe_one h
theorem de_and {a b : Expr} {rest : List Expr} {pos : Pos} {ma mb : ME} (ha : DE X G a ma) (hb : DE X G (.BoolOp .And (b :: rest) pos) mb) : DE X G (.BoolOp .And (a :: b :: rest) pos) (vAnd ma mb) :=
  pe_imp (pe_and ha hb) fun σ H Q ⟨F, ls, L, o⟩ => tst_first L o fun F1 H1 ls1 b p L1 o1 => ⟨b, rfl, by
    cases b with
    | true => rw [if_pos rfl]; exact ⟨F1, ls1, L1, o1⟩
    | false => rw [if_neg Bool.false_ne_true]; exact o1 F1 H1 _ .refl L1 (Rep.bl false)⟩
theorem de_or {a b : Expr} {rest : List Expr} {pos : Pos} {ma mb : ME} (ha : DE X G a ma) (hb : DE X G (.BoolOp .Or (b :: rest) pos) mb) : DE X G (.BoolOp .Or (a :: b :: rest) pos) (vOr ma mb) :=
  pe_imp (pe_or ha hb) fun σ H Q ⟨F, ls, L, o⟩ => tst_first L o fun F1 H1 ls1 b p L1 o1 => ⟨b, rfl, by
    cases b with
    | true => rw [if_pos rfl]; exact o1 F1 H1 _ .refl L1 (Rep.bl true)
    | false => rw [if_neg Bool.false_ne_true]; exact ⟨F1, ls1, L1, o1⟩⟩
theorem de_not {a : Expr} {pos : Pos} {ma : ME} (h : DE X G a ma) : DE X G (.UnaryOp .Not a pos) (vNot ma) :=
  pe_imp (pe_not h) fun σ H Q ⟨F, ls, L, o⟩ => by
    refine tOf.settled L o fun F1 H1 ls1 d v p L1 r1 o1 => ?_
    dsimp only at o1
    cases e1 : see ls1 d with
    | none => rw [e1] at o1; exact o1.elim
    | some x =>
      rw [e1] at o1
      have rr := see_rep L1 r1 e1
      cases x with
      | bl b =>
        rcases rr with rr | rr
        · cases rr; exact ⟨b, rfl, o1 F1 H1 _ .refl L1 (Rep.bl _)⟩
        · exact rr.elim
      | _ => exact o1.elim
end
end DL

end DLc
section DLd
set_option Elab.async false
set_option linter.all false
set_option autoImplicit false
set_option maxRecDepth 100000
namespace DL
open PySem PySem.Spec PyProof.Rows L2

/-! ### arguments -/
inductive RepYs (F : FS) (H : Hp) (σ : L2.St) : List D → List V → Prop
  | nil : RepYs F H σ [] []
  | cons {d : D} {ds : List D} {v : V} {vs : List V} : RepY F H σ d v → RepYs F H σ ds vs → RepYs F H σ (d :: ds) (v :: vs)
inductive RepRs (F : FS) (H : Hp) : List D → List V → Prop
  | nil : RepRs F H [] []
  | cons {d : D} {ds : List D} {v : V} {vs : List V} : RepR F H d v → RepRs F H ds vs → RepRs F H (d :: ds) (v :: vs)
abbrev MA := LS → Res (List D × LS)
section
variable {X : Cx} {G : Gh} {e : Expr} {es : List Expr} {F F' : FS} {H H' : Hp} {ls : LS} {σ : L2.St}
theorem RepYs.le (p : Le F H F' H') : ∀ {ds : List D} {vs : List V}, RepYs F H σ ds vs → RepYs F' H' σ ds vs
  | _, _, .nil => .nil
  | _, _, .cons r rs => .cons (r.le p) (RepYs.le p rs)
def OutA (G : Gh) (r : Res (List D × LS)) (F : FS) (σ : L2.St) (H : Hp) (Q : List V → Hp → Prop) : Prop :=
  match r with
  | .ok (ds, ls) => ∀ F' H' vs, Le F H F' H' → LInv G F' ls σ H' → RepYs F' H' σ ds vs → Q vs H'
  | .exc x => ∀ H' C, Keep G H' → G.mg x = some (.ref C) → G.E (.ref C) none H'
  | .stuck => False
def tOfA (G : Gh) (m : MA) : TA := fun σ H Q => ∃ F ls, LInv G F ls σ H ∧ OutA G (m ls) F σ H Q
abbrev DA (X : Cx) (G : Gh) (es : List Expr) (m : MA) : Prop := PA X es (tOfA G m)
def aNil : MA := fun ls => .ok ([], ls)
def aCons (m : ME) (ms : MA) : MA := fun ls => (val m ls).bind fun p => (ms p.2).bind fun q => .ok (p.1 :: q.1, q.2)
theorem OutA.later {r : Res (List D × LS)} {Q : List V → Hp → Prop} (p : Le F H F' H') (o : OutA G r F σ H Q) : OutA G r F' σ H' Q := by
  cases r with
  | ok x => obtain ⟨d, ls⟩ := x; exact fun F2 H2 v q => o F2 H2 v (p.trans q)
  | exc x => exact o
  | stuck => exact o
theorem da_nil : DA X G [] aNil := pa_imp pa_nil fun σ H Q ⟨F, ls, L, o⟩ => o F H [] .refl L .nil
/-- the value first, then arguments -/
theorem tOf.settledA {Q : List V → Hp → Prop} {ma : ME} {f : D × LS → Res (List D × LS)} (L : LInv G F ls σ H) (o : OutA G ((val ma ls).bind f) F σ H Q)
    {Q' : VK} (h : ∀ F1 H1 ls1 d v, Le F H F1 H1 → LInv G F1 ls1 σ H1 → RepY F1 H1 σ d v → OutA G (f (d, ls1)) F1 σ H1 Q → Q' v H1) : tOf G ma σ H Q' := by
  refine ⟨F, ls, L, ?_⟩
  have e : (val ma ls).bind f = (ma ls).bind fun p => (opt (stl p.1)).bind fun x => f (x, p.2) := by
    unfold val
    cases ma ls with
    | ok p => show ((opt (stl p.1)).bind fun x => Res.ok (x, p.2)).bind f = (opt (stl p.1)).bind _; cases stl p.1 <;> rfl
    | exc x => rfl
    | stuck => rfl
  rw [e] at o
  revert o
  cases ma ls with
  | ok p =>
    obtain ⟨d, ls1⟩ := p
    intro o F1 H1 v p L1 r
    have o : OutA G ((opt (stl d)).bind fun x => f (x, ls1)) F σ H Q := o
    cases q : stl d with
    | none => rw [q] at o; exact o.elim
    | some x =>
      rw [q] at o
      obtain ⟨F2, p2, L2, r2⟩ := settle L1 r q
      exact h F2 H1 ls1 x v (p.trans p2) L2 r2 (OutA.later (p.trans p2) o)
  | exc x => exact fun o => o
  | stuck => exact fun o => o
theorem tOfA.first {Q Q' : List V → Hp → Prop} {ma : MA} {f : List D × LS → Res (List D × LS)} (L : LInv G F ls σ H) (o : OutA G ((ma ls).bind f) F σ H Q)
    (h : ∀ F1 H1 ls1 ds vs, Le F H F1 H1 → LInv G F1 ls1 σ H1 → RepYs F1 H1 σ ds vs → OutA G (f (ds, ls1)) F1 σ H1 Q → Q' vs H1) : tOfA G ma σ H Q' := by
  refine ⟨F, ls, L, ?_⟩
  revert o
  cases ma ls with
  | ok x => obtain ⟨d, ls1⟩ := x; exact fun o F1 H1 vs p L1 r => h F1 H1 ls1 d vs p L1 r (OutA.later p o)
  | exc x => exact fun o => o
  | stuck => exact fun o => o
theorem tOfA.firstE {Q : VK} {Q' : List V → Hp → Prop} {ma : MA} {f : List D × LS → RD} (L : LInv G F ls σ H) (o : Out G ((ma ls).bind f) F σ H Q)
    (h : ∀ F1 H1 ls1 ds vs, Le F H F1 H1 → LInv G F1 ls1 σ H1 → RepYs F1 H1 σ ds vs → Out G (f (ds, ls1)) F1 σ H1 Q → Q' vs H1) : tOfA G ma σ H Q' := by
  refine ⟨F, ls, L, ?_⟩
  revert o
  cases ma ls with
  | ok x => obtain ⟨d, ls1⟩ := x; exact fun o F1 H1 vs p L1 r => h F1 H1 ls1 d vs p L1 r (Out.later p o)
  | exc x => exact fun o => o
  | stuck => exact fun o => o
theorem da_cons {m : ME} {ms : MA} (h : DE X G e m) (hs : DA X G es ms) (he : starEach (e :: es) X.env = (false, eval e X.env) :: starEach es X.env := by rfl) : DA X G (e :: es) (aCons m ms) :=
  pa_imp (pa_cons h hs he) fun σ H Q ⟨F, ls, L, o⟩ => tOf.settledA L o fun F1 H1 ls1 d v p L1 r1 o1 => by
    refine tOfA.first L1 o1 fun F2 H2 ls2 ds vs p2 L2 r2 o2 => ?_
    exact o2 F2 H2 (v :: vs) .refl L2 (.cons (r1.le p2) r2)

/-! ### built-in calls -/
def sees (ls : LS) : List D → Option (List D)
  | [] => some []
  | d :: ds => (see ls d).bind fun x => (sees ls ds).bind fun xs => some (x :: xs)
theorem sees_rep (L : LInv G F ls σ H) : ∀ {ds xs : List D} {vs : List V}, RepYs F H σ ds vs → sees ls ds = some xs → RepRs F H xs vs
  | [], xs, _, .nil, e => by cases e; exact .nil
  | d :: ds, xs, _, .cons r rs, e => by
    have e : (see ls d).bind (fun x => (sees ls ds).bind fun xs => some (x :: xs)) = some xs := e
    cases e1 : see ls d with
    | none => rw [e1] at e; cases e
    | some x =>
      cases e2 : sees ls ds with
      | none => rw [e1, e2] at e; cases e
      | some ys => rw [e1, e2] at e; cases e; exact .cons (see_rep L r e1) (sees_rep L rs e2)
def CbD (r : List V → Hp → VK → Prop) (g : List D → Option D) : Prop := ∀ (F : FS) (H : Hp) (xs : List D) (d : D) (vs : List V) (Q : VK), RepRs F H xs vs → g xs = some d → Pur F H d Q → r vs H Q
def cb (g : List D → Option D) (ms : MA) : ME := fun ls => (ms ls).bind fun q => (opt (sees q.2 q.1)).bind fun xs => (opt (g xs)).bind fun d => .ok (d, q.2)
theorem cb_imp {r : List V → Hp → VK → Prop} {g : List D → Option D} (hg : CbD r g) {ms : MA} (σ : L2.St) (H : Hp) (Q : VK) (q : tOf G (cb g ms) σ H Q) : tOfA G ms σ H fun vs H1 => r vs H1 Q := by
  obtain ⟨F, ls, L, o⟩ := q
  refine tOfA.firstE L o fun F1 H1 ls1 ds vs p L1 r1 o1 => ?_
  dsimp only at o1
  cases e1 : sees ls1 ds with
  | none => rw [e1] at o1; exact o1.elim
  | some xs =>
    rw [e1] at o1
    simp only [opt_some, Res.bind_ok] at o1
    cases e3 : g xs with
    | none => rw [e3] at o1; exact o1.elim
    | some z =>
      rw [e3] at o1
      exact hg F1 H1 xs z vs Q (sees_rep L1 r1 e1) e3 (Pur.of L1 o1)
theorem de_cb {x : Str} {id : String} {p pos : Pos} {r : List V → Hp → VK → Prop} {g : List D → Option D} {ms : MA} (hc : CallR X (.builtin id) r) (hr : CbD r g) (hg : Gl X x) (hm : X.mg x = none) (hv : bootBuiltins x = some (.builtin id)) (ha : DA X G (e :: es) ms)
    (hn : x ≠ "__name__" := by decide) (hdb : (x == ("__debug__" : Str)) = false := by decide) (he : starEach (e :: es) X.env = (false, eval e X.env) :: starEach es X.env := by rfl) (hpl : (backTo pos (starEach es X.env)).any (·.1) = false := by rfl) :
    DE X G (.Call (.Name x p) (e :: es) [] pos) (cb g ms) := pe_imp (pe_callB hc hg hm hv ha hn hdb he hpl) (cb_imp hr)
theorem de_cty {x : Str} {T : String} {p pos : Pos} {r : List V → Hp → VK → Prop} {g : List D → Option D} {ms : MA} (hc : CallR X (.type T) r) (hr : CbD r g) (hg : Gl X x) (hm : X.mg x = none) (hv : bootBuiltins x = some (.type T)) (ha : DA X G (e :: es) ms)
    (hn : x ≠ "__name__" := by decide) (hdb : (x == ("__debug__" : Str)) = false := by decide) (he : starEach (e :: es) X.env = (false, eval e X.env) :: starEach es X.env := by rfl) (hpl : (backTo pos (starEach es X.env)).any (·.1) = false := by rfl) :
    DE X G (.Call (.Name x p) (e :: es) [] pos) (cb g ms) := pe_imp (pe_callTy hc hg hm hv ha hn hdb he hpl) (cb_imp hr)

/-! ### arguments that are kept: all frozen -/
def frz (ls : LS) : D → Option (D × LS)
  | .bor i => (ls[i]?).bind fun o => o.bind fun d => match d with
    | .own (.lst xs) => some (.lst xs, ls.set i (some (.lst xs)))
    | .own (.dct xs) => some (.dct xs, ls.set i (some (.dct xs)))
    | .own _ => none
    | .io _ => none
    | .bor _ => none
    | d => some (d, ls)
  | .own _ => none
  | .io _ => none
  | d => some (d, ls)
theorem LInv.froze {i : Nat} {d : D} (L : LInv G F ls σ H) (e : ls[i]? = some (some (.own d))) (z : Frz d) : ∃ a, σ[i]? = some (some (.ref a)) ∧ LInv G (plus F a) (ls.set i (some d)) σ H ∧ Rep (plus F a) H d (.ref a) := by
  obtain ⟨v, h1, m, a, rfl, nf, h0⟩ := L.slot i _ e
  have rd : Rep (plus F a) H d (.ref a) := (m.le Le.plus fun _ _ => rfl).frozen z (.inr rfl)
  have il : i < ls.length := by
    have := (List.getElem?_eq_some_iff.mp e).1
    exact this
  refine ⟨a, h1, ⟨L.keep, fun j d' ej => ?_, fun j k d1 d2 v ne e1 e2 c1 c2 hs => ?_, fun b q => ?_, fun b q => ?_, by rw [List.length_set]; exact L.len, fun p hp => ?_⟩, rd⟩
  · by_cases hj : i = j
    · subst hj
      rw [List.getElem?_set_self il] at ej
      cases ej
      refine ⟨_, h1, ?_⟩
      cases d with
      | lst xs => exact rd
      | dct xs => exact rd
      | _ => exact z.elim
    · rw [List.getElem?_set_ne hj] at ej
      obtain ⟨u, g1, g2⟩ := L.slot j d' ej
      refine ⟨u, g1, g2.le Le.plus fun b c eb => ⟨rfl, fun q => ?_⟩⟩
      have nfb : ¬ F b := by
        cases d' with
        | own d => obtain ⟨_, a', e', nf', _⟩ := g2; rw [eb] at e'; cases e'; exact nf'
        | io d => obtain ⟨_, a', e', nf', _⟩ := g2; rw [eb] at e'; cases e'; exact nf'
        | _ => exact c.elim
      rcases q with q | q
      · exact nfb q
      · subst q eb
        exact L.apart i j _ _ _ hj e ej trivial c h1 g1
  · have red : ∀ {k : Nat} {d' : D}, (ls.set i (some d))[k]? = some (some d') → Chg d' → ls[k]? = some (some d') ∧ k ≠ i := fun {k d'} ek c => by
      by_cases hk : i = k
      · subst hk
        rw [List.getElem?_set_self il] at ek
        cases ek
        cases d <;> first | exact z.elim | exact c.elim
      · rw [List.getElem?_set_ne hk] at ek
        exact ⟨ek, fun q => hk q.symm⟩
    exact L.apart j k d1 d2 v ne (red e1 c1).1 (red e2 c2).1 c1 c2 hs
  · rcases q with q | q
    · exact L.there b q
    · subst q; exact m.nw
  · rcases q with q | q
    · exact L.fnew b q
    · subst q; exact .inr h0
  · obtain ⟨m', nf', h0', q⟩ := L.pin p hp
    refine ⟨m'.le Le.plus fun _ _ => rfl, fun z => ?_, h0', fun j d' ej c => ?_⟩
    · rcases z with z | z
      · exact nf' z
      · exact q i _ e trivial (by rw [z]; exact h1)
    · by_cases hj : i = j
      · subst hj
        rw [List.getElem?_set_self il] at ej
        cases ej
        cases d <;> first | exact z.elim | exact c.elim
      · rw [List.getElem?_set_ne hj] at ej
        exact q j d' ej c
theorem frz_ok {d d' : D} {ls' : LS} {v : V} (L : LInv G F ls σ H) (r : RepY F H σ d v) (e : frz ls d = some (d', ls')) : ∃ F', Le F H F' H ∧ LInv G F' ls' σ H ∧ Rep F' H d' v := by
  cases d with
  | bor i =>
    have e : (ls[i]?).bind (fun o => o.bind fun d => match d with
      | .own (.lst xs) => some (D.lst xs, ls.set i (some (.lst xs)))
      | .own (.dct xs) => some (D.dct xs, ls.set i (some (.dct xs)))
      | .own _ => none
      | .io _ => none
      | .bor _ => none
      | d => some (d, ls)) = some (d', ls') := e
    have r : σ[i]? = some (some v) := r
    cases q : ls[i]? with
    | none => rw [q] at e; cases e
    | some o =>
      cases o with
      | none => rw [q] at e; cases e
      | some x =>
        rw [q] at e
        obtain ⟨u, h1, h2⟩ := L.slot i x q
        rw [h1] at r; cases r
        cases x with
        | own d =>
          cases d with
          | lst xs =>
            cases e
            obtain ⟨a, g1, g2, g3⟩ := L.froze q trivial
            rw [h1] at g1; cases g1
            exact ⟨_, Le.plus, g2, g3⟩
          | dct xs =>
            cases e
            obtain ⟨a, g1, g2, g3⟩ := L.froze q trivial
            rw [h1] at g1; cases g1
            exact ⟨_, Le.plus, g2, g3⟩
          | _ => cases e
        | io d => cases e
        | bor j => cases e
        | non => cases e; exact ⟨F, .refl, L, h2⟩
        | bl => cases e; exact ⟨F, .refl, L, h2⟩
        | int => cases e; exact ⟨F, .refl, L, h2⟩
        | str => cases e; exact ⟨F, .refl, L, h2⟩
        | ref => cases e; exact ⟨F, .refl, L, h2⟩
        | tup => cases e; exact ⟨F, .refl, L, h2⟩
        | lst => cases e; exact ⟨F, .refl, L, h2⟩
        | scr => cases e; exact ⟨F, .refl, L, h2⟩
        | dct => cases e; exact ⟨F, .refl, L, h2⟩
        | ins => cases (show Rep F H _ _ from h2)
  | own d => cases e
  | io d => cases e
  | non => cases e; exact ⟨F, .refl, L, r⟩
  | bl => cases e; exact ⟨F, .refl, L, r⟩
  | int => cases e; exact ⟨F, .refl, L, r⟩
  | str => cases e; exact ⟨F, .refl, L, r⟩
  | ref => cases e; exact ⟨F, .refl, L, r⟩
  | tup => cases e; exact ⟨F, .refl, L, r⟩
  | lst => cases e; exact ⟨F, .refl, L, r⟩
  | scr => cases e; exact ⟨F, .refl, L, r⟩
  | dct => cases e; exact ⟨F, .refl, L, r⟩
  | ins => cases (show Rep F H _ _ from r)
def frzs : LS → List D → Option (List D × LS)
  | ls, [] => some ([], ls)
  | ls, d :: ds => (frz ls d).bind fun p => (frzs p.2 ds).bind fun q => some (p.1 :: q.1, q.2)
theorem frzs_ok : ∀ {ds ds' : List D} {F : FS} {ls ls' : LS} {vs : List V}, LInv G F ls σ H → RepYs F H σ ds vs → frzs ls ds = some (ds', ls') → ∃ F', Le F H F' H ∧ LInv G F' ls' σ H ∧ Reps F' H ds' vs
  | [], _, F, ls, _, _, L, .nil, e => by cases e; exact ⟨F, .refl, L, .nil⟩
  | d :: ds, ds', F, ls, ls', _, L, .cons r rs, e => by
    have e : (frz ls d).bind (fun p => (frzs p.2 ds).bind fun q => some (p.1 :: q.1, q.2)) = some (ds', ls') := e
    cases e1 : frz ls d with
    | none => rw [e1] at e; cases e
    | some p =>
      obtain ⟨d1, ls1⟩ := p
      rw [e1] at e
      have e : (frzs ls1 ds).bind (fun q => some (d1 :: q.1, q.2)) = some (ds', ls') := e
      cases e2 : frzs ls1 ds with
      | none => rw [e2] at e; cases e
      | some q =>
        obtain ⟨ds2, ls2⟩ := q
        rw [e2] at e
        cases e
        obtain ⟨F1, p1, L1, r1⟩ := frz_ok L r e1
        obtain ⟨F2, p2, L2, r2⟩ := frzs_ok L1 (rs.le p1) e2
        exact ⟨F2, p1.trans p2, L2, .cons (r1.le p2) r2⟩
/-- the arguments, frozen -/
def fz (ms : MA) : MA := fun ls => (ms ls).bind fun q => opt (frzs q.2 q.1)
theorem tOfA.frozen {Q : VK} {Q' : List V → Hp → Prop} {ms : MA} {f : List D × LS → RD} (L : LInv G F ls σ H) (o : Out G ((fz ms ls).bind f) F σ H Q)
    (h : ∀ F1 H1 ls1 ds vs, Le F H F1 H1 → LInv G F1 ls1 σ H1 → Reps F1 H1 ds vs → Out G (f (ds, ls1)) F1 σ H1 Q → Q' vs H1) : tOfA G ms σ H Q' := by
  have e : (fz ms ls).bind f = (ms ls).bind fun q => (opt (frzs q.2 q.1)).bind f := by
    unfold fz
    cases ms ls <;> rfl
  rw [e] at o
  refine tOfA.firstE L o fun F1 H1 ls1 ds vs p L1 r1 o1 => ?_
  dsimp only at o1
  cases e1 : frzs ls1 ds with
  | none => rw [e1] at o1; exact o1.elim
  | some q =>
    obtain ⟨ds2, ls2⟩ := q
    rw [e1] at o1
    obtain ⟨F2, p2, L2, r2⟩ := frzs_ok L1 r1 e1
    exact h F2 H1 ls2 ds2 vs (p.trans p2) L2 r2 (Out.later p2 o1)
theorem Reps.length {F : FS} {H : Hp} : ∀ {ds : List D} {vs : List V}, Reps F H ds vs → ds.length = vs.length
  | _, _, .nil => rfl
  | _, _, .cons _ r => by rw [List.length_cons, List.length_cons, Reps.length r]
theorem same_upd {H : Hp} {p : Addr} {o : HO} (n : H p = none) : Same H (upd H p o) := fun b u e => by
  rw [upd_ne (ne_of_none e n)]; exact e

/-! ### displays -/
def mTup (ms : MA) : ME := fun ls => (fz ms ls).bind fun q => if q.1.length ≤ sizeLine then .ok (.tup q.1, q.2) else .stuck
def mLst (ms : MA) : ME := fun ls => (fz ms ls).bind fun q => if q.1.length ≤ sizeLine then .ok (.own (.lst q.1), q.2) else .stuck
theorem de_tup {ms : MA} {x1 pos} (h : DA X G es ms) : DE X G (.Tuple es x1 pos) (mTup ms) :=
  pe_imp (pe_tup h) fun σ H Q ⟨F, ls, L, o⟩ => tOfA.frozen L o fun F1 H1 ls1 ds vs p L1 r o1 => by
    dsimp only at o1
    by_cases z : ds.length ≤ sizeLine
    · rw [if_pos z] at o1
      refine ⟨by rw [← r.length]; exact z, fun a n => Pur.of L1 o1 _ _ (same_upd n) ?_⟩
      exact .tup upd_same (r.le (Le.same (same_upd n)))
    · rw [if_neg z] at o1; exact o1.elim
theorem de_lst {ms : MA} {pos} (h : DA X G es ms) : DE X G (.List es pos) (mLst ms) :=
  pe_imp (pe_lst h) fun σ H Q ⟨F, ls, L, o⟩ => tOfA.frozen L o fun F1 H1 ls1 ds vs p L1 r o1 => by
    dsimp only at o1
    by_cases z : ds.length ≤ sizeLine
    · rw [if_pos z] at o1
      refine ⟨by rw [← r.length]; exact z, fun a n => Pur.of L1 o1 _ _ (same_upd n) ?_⟩
      exact ⟨⟨a, vs, rfl, upd_same, r.le (Le.same (same_upd n))⟩, a, rfl, n⟩
    · rw [if_neg z] at o1; exact o1.elim
end
end DL

end DLd
section DLe
set_option Elab.async false
set_option linter.all false
set_option autoImplicit false
set_option maxRecDepth 100000
namespace DL
open PySem PySem.Spec PyProof.Rows L2

/-! ### statements -/
inductive Fl where
  | nx (ls : LS) | rt (d : D) (ls : LS) | bk (ls : LS) | ct (ls : LS) | exc (x : Str) | stuck
abbrev MS := LS → Fl
def OutS (G : Gh) (r : Fl) (F : FS) (H : Hp) (Z : Ends) : Prop :=
  match r with
  | .nx ls => ∀ F' σ' H', Le F H F' H' → LInv G F' ls σ' H' → Z.nx σ' H'
  | .bk ls => ∀ F' σ' H', Le F H F' H' → LInv G F' ls σ' H' → Z.bk σ' H'
  | .ct ls => ∀ F' σ' H', Le F H F' H' → LInv G F' ls σ' H' → Z.ct σ' H'
  | .rt d ls => ∀ F' σ' H' v, Le F H F' H' → LInv G F' ls σ' H' → RepX G F' H' ls σ' d v → Z.rt v H'
  | .exc x => ∀ H' C, Keep G H' → G.mg x = some (.ref C) → G.E (.ref C) none H'
  | .stuck => False
def tOfS (G : Gh) (m : MS) : TS := fun Z σ H => ∃ F ls, LInv G F ls σ H ∧ OutS G (m ls) F H Z
abbrev DS (X : Cx) (G : Gh) (s : Stmt) (m : MS) : Prop := PS X s (tOfS G m)
abbrev DSs (X : Cx) (G : Gh) (s : List Stmt) (m : MS) : Prop := PSs X s (tOfS G m)
def Res.fl {α : Type} (r : Res α) (f : α → Fl) : Fl := match r with
  | .ok x => f x
  | .exc x => .exc x
  | .stuck => .stuck
theorem Res.fl_ok {α : Type} (x : α) (f : α → Fl) : (Res.ok x).fl f = f x := rfl
theorem Res.fl_exc {α : Type} (x : Str) (f : α → Fl) : (Res.exc x : Res α).fl f = .exc x := rfl
theorem Res.fl_stuck {α : Type} (f : α → Fl) : (Res.stuck : Res α).fl f = .stuck := rfl
def Fl.seq (r : Fl) (f : LS → Fl) : Fl := match r with
  | .nx ls => f ls
  | r => r
def nop : MS := .nx
def sq (a b : MS) : MS := fun ls => (a ls).seq b
section
variable {X : Cx} {G : Gh} {e : Expr} {F F' : FS} {H H' : Hp} {ls : LS} {σ σ' : L2.St} {Z : Ends}
theorem ps_imp {s : Stmt} {t t' : TS} (h : PS X s t) (w : ∀ Z σ H, t' Z σ H → t Z σ H) : PS X s t' := ⟨fun pins s σ H Z I q => h.run pins s σ H Z I (w Z σ H q)⟩
theorem pss_imp {s : List Stmt} {t t' : TS} (h : PSs X s t) (w : ∀ Z σ H, t' Z σ H → t Z σ H) : PSs X s t' := ⟨fun pins s σ H Z I q => h.run pins s σ H Z I (w Z σ H q)⟩
theorem OutS.later {r : Fl} (p : Le F H F' H') (o : OutS G r F H Z) : OutS G r F' H' Z := by
  cases r with
  | nx ls => exact fun F2 s2 H2 q => o F2 s2 H2 (p.trans q)
  | bk ls => exact fun F2 s2 H2 q => o F2 s2 H2 (p.trans q)
  | ct ls => exact fun F2 s2 H2 q => o F2 s2 H2 (p.trans q)
  | rt d ls => exact fun F2 s2 H2 v q => o F2 s2 H2 v (p.trans q)
  | exc x => exact o
  | stuck => exact o
theorem dss_nil : DSs X G [] nop := pss_imp pss_nil fun Z σ H ⟨F, ls, L, o⟩ => o F σ H .refl L
theorem dss_cons {s : Stmt} {ss : List Stmt} {a b : MS} (h : DS X G s a) (hs : DSs X G ss b) : DSs X G (s :: ss) (sq a b) :=
  pss_imp (pss_cons h hs) fun Z σ H ⟨F, ls, L, o⟩ => by
    refine ⟨F, ls, L, ?_⟩
    unfold sq at o
    revert o
    cases a ls with
    | nx ls1 => exact fun o F1 s1 H1 p L1 => ⟨F1, ls1, L1, OutS.later p o⟩
    | bk ls => exact fun o => o
    | ct ls => exact fun o => o
    | rt d ls => exact fun o => o
    | exc x => exact fun o => o
    | stuck => exact fun o => o
theorem dss_one {s : Stmt} {a : MS} (h : DS X G s a) : DSs X G [s] a := pss_one h
theorem ds_pass {pos : Pos} : DS X G (.Pass pos) nop := ps_imp ps_pass fun Z σ H ⟨F, ls, L, o⟩ => o F σ H .refl L
theorem ds_break {pos : Pos} : DS X G (.Break pos) .bk := ps_imp ps_break fun Z σ H ⟨F, ls, L, o⟩ => o F σ H .refl L
theorem ds_continue {pos : Pos} : DS X G (.Continue pos) .ct := ps_imp ps_continue fun Z σ H ⟨F, ls, L, o⟩ => o F σ H .refl L
/-- a value first, then what follows as a statement -/
theorem tOf.firstS {ma : ME} {f : D × LS → Fl} (L : LInv G F ls σ H) (o : OutS G ((ma ls).fl f) F H Z)
    {Q' : VK} (h : ∀ F1 H1 ls1 d v, Le F H F1 H1 → LInv G F1 ls1 σ H1 → RepX G F1 H1 ls1 σ d v → OutS G (f (d, ls1)) F1 H1 Z → Q' v H1) : tOf G ma σ H Q' := by
  refine ⟨F, ls, L, ?_⟩
  revert o
  cases ma ls with
  | ok x => obtain ⟨d, ls1⟩ := x; exact fun o F1 H1 v p L1 r => h F1 H1 ls1 d v p L1 r (OutS.later p o)
  | exc x => exact fun o => o
  | stuck => exact fun o => o
theorem tOfT.firstS {ma : MT} {f : Bool × LS → Fl} (L : LInv G F ls σ H) (o : OutS G ((ma ls).fl f) F H Z)
    {Q' : Bool → Hp → Prop} (h : ∀ F1 H1 ls1 b, Le F H F1 H1 → LInv G F1 ls1 σ H1 → OutS G (f (b, ls1)) F1 H1 Z → Q' b H1) : tOfT G ma σ H Q' := by
  refine ⟨F, ls, L, ?_⟩
  revert o
  cases ma ls with
  | ok x => obtain ⟨d, ls1⟩ := x; exact fun o F1 H1 p L1 => h F1 H1 ls1 d p L1 (OutS.later p o)
  | exc x => exact fun o => o
  | stuck => exact fun o => o
def sDrop (m : ME) : MS := fun ls => (m ls).fl fun p => .nx p.2
theorem ds_expr {m : ME} {pos : Pos} (h : DE X G e m) (hs : swapsWith e none pos.line X.env = pure false := by rfl) : DS X G (.Expr e pos) (sDrop m) :=
  ps_imp (ps_expr h hs) fun Z σ H ⟨F, ls, L, o⟩ => tOf.firstS L o fun F1 H1 ls1 d v p L1 r o1 => o1 F1 σ H1 .refl L1
def sRet (m : ME) : MS := fun ls => (m ls).fl fun p => .rt p.1 p.2
theorem ds_ret {m : ME} {pos : Pos} (h : DE X G e m) : DS X G (.Return (some e) pos) (sRet m) :=
  ps_imp (ps_ret h) fun Z σ H ⟨F, ls, L, o⟩ => tOf.firstS L o fun F1 H1 ls1 d v p L1 r o1 => o1 F1 σ H1 v .refl L1 r
def sIf (t : MT) (a b : MS) : MS := fun ls => (t ls).fl fun p => if p.1 then a p.2 else b p.2
theorem ds_if {t : MT} {a b : MS} {sa sb : List Stmt} {pos : Pos} (h : DT X G e t) (ha : DSs X G sa a) (hb : DSs X G sb b) : DS X G (.If e sa sb pos) (sIf t a b) :=
  ps_imp (ps_if h ha hb) fun Z σ H ⟨F, ls, L, o⟩ => tOfT.firstS L o fun F1 H1 ls1 b p L1 o1 => by
    cases b with
    | true => rw [if_pos rfl]; exact ⟨F1, ls1, L1, o1⟩
    | false => rw [if_neg Bool.false_ne_true]; exact ⟨F1, ls1, L1, o1⟩

/-! ### targets -/
/-- a value that is stored: frozen, or fresh -/
def RepZ (G : Gh) (F : FS) (H : Hp) (ls : LS) (σ : L2.St) : D → V → Prop
  | .bor _, _ => False
  | d, v => RepX G F H ls σ d v
abbrev MG := D → LS → Option LS
/-- the slots but ks are as they were -/
def But (ks : List Nat) (σ σ' : L2.St) : Prop := σ'.length = σ.length ∧ ∀ k : Nat, k ∉ ks → σ'[k]? = σ[k]?
theorem But.refl {ks : List Nat} {σ : L2.St} : But ks σ σ := ⟨rfl, fun _ _ => rfl⟩
theorem But.trans {ks ls : List Nat} {σ σ1 σ2 : L2.St} (a : But ks σ σ1) (b : But ls σ1 σ2) : But (ks ++ ls) σ σ2 :=
  ⟨b.1.trans a.1, fun k h => (b.2 k fun z => h (List.mem_append_right _ z)).trans (a.2 k fun z => h (List.mem_append_left _ z))⟩
def tOfG (G : Gh) (g : MG) (ks : List Nat) : TG := fun v σ H Q => ∃ F ls d ls', LInv G F ls σ H ∧ RepZ G F H ls σ d v ∧ g d ls = some ls' ∧ ∀ F' σ' H', Le F H F' H' → LInv G F' ls' σ' H' → But ks σ σ' → Q σ' H'
abbrev DG (X : Cx) (G : Gh) (tg : Expr) (g : MG) (ks : List Nat) : Prop := PG X tg (tOfG G g ks)
theorem pg_imp {tg : Expr} {t t' : TG} (h : PG X tg t) (w : ∀ v σ H Q, t' v σ H Q → t v σ H Q) : PG X tg t' := ⟨fun pins s σ H v u Q I r q => h.run pins s σ H v u Q I r (w v σ H Q q)⟩
theorem pgs_imp {tg : List Expr} {t t' : TGs} (h : PGs X tg t) (w : ∀ v σ H Q, t' v σ H Q → t v σ H Q) : PGs X tg t' := ⟨fun pins s σ H v u Q I r q => h.run pins s σ H v u Q I r (w v σ H Q q)⟩
def gN (i : Nat) : MG := fun d ls => some (ls.set i (some d))
theorem LInv.put {i : Nat} {d : D} {v : V} (L : LInv G F ls σ H) (r : RepZ G F H ls σ d v) : LInv G F (ls.set i (some d)) (σ.set i (some v)) H := by
  have rs : RepS G F H d v := by
    cases d with
    | own d => exact ⟨r.1, r.2.1⟩
    | io d => exact r.elim
    | bor j => exact r.elim
    | non => exact r
    | bl => exact r
    | int => exact r
    | str => exact r
    | ref => exact r
    | tup => exact r
    | lst => exact r
    | scr => exact r
    | dct => exact r
    | ins => cases (show Rep F H _ _ from r)
  have na : Chg d → ∀ (k : Nat) (d' : D), ls[k]? = some (some d') → Chg d' → σ[k]? ≠ some (some v) := fun c => by
    cases d with
    | own d => exact r.2.2.1
    | io d => exact r.elim
    | _ => exact c.elim
  have np : Chg d → ∀ p ∈ G.T, v ≠ .ref p.2 := fun c => by
    cases d with
    | own d => exact r.2.2.2
    | io d => exact r.elim
    | _ => exact c.elim
  refine ⟨L.keep, fun j d' ej => ?_, fun j k d1 d2 u ne e1 e2 c1 c2 hs hk => ?_, L.there, L.fnew, by rw [List.length_set, List.length_set]; exact L.len, fun p hp => ?_⟩
  · by_cases hj : i = j
    · subst hj
      have il : i < ls.length := by
        have := (List.getElem?_eq_some_iff.mp ej).1
        rw [List.length_set] at this; exact this
      rw [List.getElem?_set_self il] at ej
      cases ej
      exact ⟨v, by rw [List.getElem?_set_self (by rw [← L.len]; exact il)], rs⟩
    · rw [List.getElem?_set_ne hj] at ej
      obtain ⟨u, g1, g2⟩ := L.slot j d' ej
      exact ⟨u, by rw [List.getElem?_set_ne hj]; exact g1, g2⟩
  · by_cases hj : i = j
    · subst hj
      have il : i < ls.length := by
        have := (List.getElem?_eq_some_iff.mp e1).1
        rw [List.length_set] at this; exact this
      rw [List.getElem?_set_self il] at e1
      cases e1
      rw [List.getElem?_set_self (by rw [← L.len]; exact il)] at hs
      cases hs
      rw [List.getElem?_set_ne ne] at e2 hk
      exact na c1 k _ e2 c2 hk
    · rw [List.getElem?_set_ne hj] at e1 hs
      by_cases hk' : i = k
      · subst hk'
        have il : i < ls.length := by
          have := (List.getElem?_eq_some_iff.mp e2).1
          rw [List.length_set] at this; exact this
        rw [List.getElem?_set_self il] at e2
        cases e2
        rw [List.getElem?_set_self (by rw [← L.len]; exact il)] at hk
        cases hk
        exact na c2 j _ e1 c1 hs
      · rw [List.getElem?_set_ne hk'] at e2 hk
        exact L.apart j k d1 d2 u ne e1 e2 c1 c2 hs hk
  · obtain ⟨m', nf', h0', q⟩ := L.pin p hp
    refine ⟨m', nf', h0', fun j d' ej c hs => ?_⟩
    by_cases hj : i = j
    · subst hj
      have il : i < ls.length := by
        have := (List.getElem?_eq_some_iff.mp ej).1
        rw [List.length_set] at this; exact this
      rw [List.getElem?_set_self il] at ej
      cases ej
      rw [List.getElem?_set_self (by rw [← L.len]; exact il)] at hs
      cases hs
      exact np c p hp rfl
    · rw [List.getElem?_set_ne hj] at ej hs
      exact q j d' ej c hs
theorem dg_name {i : Nat} {x : Str} {pos : Pos} (hN : X.N.Nodup) (hi : X.N[i]? = some x) (hx : Loc X.env.scope x) (hf : X.fn x = true ∨ X.env.scope.names.lookup x = some .local := by first | exact .inl rfl | exact .inr rfl | assumption) : DG X G (.Name x pos) (gN i) [i] :=
  pg_imp (pg_name hN hi hx hf) fun v σ H Q ⟨F, ls, d, ls', L, r, e, q⟩ => by
    cases e
    exact q F _ H .refl (L.put r) ⟨List.length_set, fun k hk => List.getElem?_set_ne fun z => hk (by rw [z]; exact List.mem_singleton_self _)⟩
/-- a tuple of targets -/
abbrev MGs := List D → LS → Option LS
def tOfGs (G : Gh) (g : MGs) (ks : List Nat) : TGs := fun vs σ H Q => ∃ F ls ds ls', LInv G F ls σ H ∧ Reps F H ds vs ∧ g ds ls = some ls' ∧ ∀ F' σ' H', Le F H F' H' → LInv G F' ls' σ' H' → But ks σ σ' → Q σ' H'
def gNone : MGs := fun ds ls => match ds with
  | [] => some ls
  | _ => none
def gMore (g : MG) (gs : MGs) : MGs := fun ds ls => match ds with
  | d :: ds => (g d ls).bind fun ls1 => gs ds ls1
  | [] => none
theorem Rep.z {d : D} {v : V} (r : Rep F H d v) : RepZ G F H ls σ d v := by
  cases d with
  | own d => cases r
  | io d => cases r
  | bor j => cases r
  | non => exact r
  | bl => exact r
  | int => exact r
  | str => exact r
  | ref => exact r
  | tup => exact r
  | lst => exact r
  | scr => exact r
  | dct => exact r
  | ins => cases r
theorem dgs_nil : PGs X [] (tOfGs G gNone []) := pgs_imp pgs_nil fun vs σ H Q ⟨F, ls, ds, ls', L, r, e, q⟩ => by
  cases r with
  | nil => cases e; exact ⟨rfl, q F σ H .refl L .refl⟩
  | cons _ _ => cases e
theorem dgs_cons {tg : Expr} {tgs : List Expr} {g : MG} {gs : MGs} {ks ls' : List Nat} (h1 : DG X G tg g ks) (h2 : PGs X tgs (tOfGs G gs ls')) (hs : (assignEach (tg :: tgs) X.env).map (·.2) = assign tg X.env :: (assignEach tgs X.env).map (·.2) := by rfl) : PGs X (tg :: tgs) (tOfGs G (gMore g gs) (ks ++ ls')) :=
  pgs_imp (pgs_cons h1 h2 hs) fun vs σ H Q ⟨F, ls, ds, ls', L, r, e, q⟩ => by
    cases r with
    | nil => cases e
    | @cons d ds v vs r rs =>
      have e : (g d ls).bind (fun ls1 => gs ds ls1) = some ls' := e
      cases e1 : g d ls with
      | none => rw [e1] at e; cases e
      | some ls1 =>
        rw [e1] at e
        exact ⟨v, vs, rfl, F, ls, d, ls1, L, r.z, e1, fun F1 s1 H1 p L1 b1 => ⟨F1, ls1, ds, ls', L1, rs.le p, e, fun F2 s2 H2 p2 L2 b2 => q F2 s2 H2 (p.trans p2) L2 (b1.trans b2)⟩⟩
def gTup' (n : Nat) (gs : MGs) : MG := fun d ls => match d with
  | .tup ds => if ds.length = n then gs ds ls else none
  | _ => none
theorem dg_tup {es : List Expr} {k n : Nat} {pos : Pos} {gs : MGs} {ks : List Nat} (hc : X.calm = true) (h : PGs X es (tOfGs G gs ks)) (hn : (assignEach es X.env).length = n := by rfl) (hst : (assignEach es X.env).findIdx? (·.1) = none := by rfl) : DG X G (.Tuple es k pos) (gTup' n gs) ks :=
  pg_imp (pg_tup hc h hn hst) fun v σ H Q ⟨F, ls, d, ls', L, r, e, q⟩ => by
    cases d with
    | tup ds =>
      have e : (if ds.length = n then gs ds ls else none) = some ls' := e
      by_cases z : ds.length = n
      · rw [if_pos z] at e
        have r : Rep F H (.tup ds) v := r
        cases r with
        | tup h rr => exact ⟨_, _, rfl, .inl (.inl h), by rw [← rr.length]; exact z, F, ls, ds, ls', L, rr, e, q⟩
      · rw [if_neg z] at e; cases e
    | _ => cases e
/-- stored: what a slot held is shared, so frozen -/
def shr (p : D × LS) : Option (D × LS) := match p.1 with
  | .bor i => frz p.2 (.bor i)
  | .io _ => none
  | d => some (d, p.2)
def sAsg (m : ME) (g : MG) : MS := fun ls => (m ls).fl fun p => (opt (shr p)).fl fun q => (opt (g q.1 q.2)).fl .nx
theorem shr_ok {d d' : D} {ls' : LS} {v : V} (L : LInv G F ls σ H) (r : RepX G F H ls σ d v) (e : shr (d, ls) = some (d', ls')) : ∃ F', Le F H F' H ∧ LInv G F' ls' σ H ∧ RepZ G F' H ls' σ d' v := by
  cases d with
  | bor i =>
    obtain ⟨F1, p1, L1, r1⟩ := frz_ok (d := .bor i) L r.1 e
    exact ⟨F1, p1, L1, r1.z⟩
  | io d => cases e
  | own d => cases e; exact ⟨F, .refl, L, r⟩
  | non => cases e; exact ⟨F, .refl, L, r⟩
  | bl => cases e; exact ⟨F, .refl, L, r⟩
  | int => cases e; exact ⟨F, .refl, L, r⟩
  | str => cases e; exact ⟨F, .refl, L, r⟩
  | ref => cases e; exact ⟨F, .refl, L, r⟩
  | tup => cases e; exact ⟨F, .refl, L, r⟩
  | lst => cases e; exact ⟨F, .refl, L, r⟩
  | scr => cases e; exact ⟨F, .refl, L, r⟩
  | dct => cases e; exact ⟨F, .refl, L, r⟩
  | ins => cases e; exact ⟨F, .refl, L, r⟩
theorem sAsg_imp {m : ME} {g : MG} {ks : List Nat} (Z : Ends) (σ : L2.St) (H : Hp) (q : tOfS G (sAsg m g) Z σ H) : tAsg (tOf G m) (tOfG G g ks) Z σ H := by
  obtain ⟨F, ls, L, o⟩ := q
  refine tOf.firstS L o fun F1 H1 ls1 d v p L1 r o1 => ?_
  cases e : shr (d, ls1) with
  | none => rw [e] at o1; exact o1.elim
  | some z =>
    obtain ⟨d2, ls2⟩ := z
    rw [e] at o1
    have o1 : OutS G ((opt (g d2 ls2)).fl .nx) F1 H1 Z := o1
    cases e2 : g d2 ls2 with
    | none => rw [e2] at o1; exact o1.elim
    | some ls3 =>
      rw [e2] at o1
      obtain ⟨F2, p2, L2, r2⟩ := shr_ok L1 r e
      exact ⟨F2, ls2, d2, ls3, L2, r2, e2, fun F3 s3 H3 p3 L3 _ => o1 F3 s3 H3 (p2.trans p3) L3⟩
theorem ds_asg {tg : Expr} {m : ME} {g : MG} {ks : List Nat} {pos : Pos} (he : DE X G e m) (hg : DG X G tg g ks) (hs : swapsWithSole [tg] e pos.line X.env = pure false := by rfl) (hw : swappedStores [tg] e X.env = pure none := by rfl)
    (h1 : (assignEach [tg] X.env).map (·.2) = [assign tg X.env] := by rfl) : DS X G (.Assign [tg] e pos) (sAsg m g) := ps_imp (ps_asg he hg hs hw h1) sAsg_imp
/-- name = e -/
theorem ds_set {i : Nat} {x : Str} {m : ME} {pos pos' : Pos} (hN : X.N.Nodup) (hi : X.N[i]? = some x) (hx : Loc X.env.scope x) (he : DE X G e m) (hs : swapsWith e (some (.Name x pos')) pos.line X.env = pure false := by rfl) (hf : X.fn x = true ∨ X.env.scope.names.lookup x = some .local := by first | exact .inl rfl | exact .inr rfl | assumption) :
    DS X G (.Assign [.Name x pos'] e pos) (sAsg m (gN i)) :=
  ps_imp (ps_set hN hi hx he hs hf) fun Z σ H q => by
    obtain ⟨F, ls, L, o⟩ := q
    refine tOf.firstS L o fun F1 H1 ls1 d v p L1 r o1 => ?_
    cases e : shr (d, ls1) with
    | none => rw [e] at o1; exact o1.elim
    | some z =>
      obtain ⟨d2, ls2⟩ := z
      rw [e] at o1
      obtain ⟨F2, p2, L2, r2⟩ := shr_ok L1 r e
      exact o1 F2 _ H1 p2 (L2.put r2)
end
end DL

end DLe
section DLf
set_option Elab.async false
set_option linter.all false
set_option autoImplicit false
set_option maxRecDepth 100000
namespace DL
open PySem PySem.Spec PyProof.Rows L2

abbrev Gh.at' (G : Gh) (T : List (D × Addr)) : Gh := { G with T := T }
section
variable {X : Cx} {G : Gh} {e : Expr} {F F' : FS} {H H' : Hp} {ls : LS} {σ σ' : L2.St} {Z : Ends}
/-! ### pins -/
theorem LInv.topin {d : D} {a : Addr} (L : LInv G F ls σ H) (r : RepX G F H ls σ (.own d) (.ref a)) : LInv (G.at' ((d, a) :: G.T)) F ls σ H :=
  ⟨⟨L.keep.all, L.keep.dom, L.keep.tabs⟩, L.slot, L.apart, L.there, L.fnew, L.len, fun p hp => by
    rcases List.mem_cons.mp hp with rfl | hp
    · obtain ⟨m, ⟨b, e, nf, h0⟩, na, _⟩ := r
      cases e
      exact ⟨m, nf, h0, na⟩
    · exact L.pin p hp⟩
theorem LInv.unpin {T : List (D × Addr)} (hs : ∀ p ∈ G.T, p ∈ T) (L : LInv (G.at' T) F ls σ H) : LInv G F ls σ H :=
  ⟨⟨L.keep.all, L.keep.dom, L.keep.tabs⟩, L.slot, L.apart, L.there, L.fnew, L.len, fun p hp => L.pin p (hs p hp)⟩
theorem RepX.unpin {T : List (D × Addr)} {d : D} {v : V} (hs : ∀ p ∈ G.T, p ∈ T) (r : RepX (G.at' T) F H ls σ d v) : RepX G F H ls σ d v := by
  cases d with
  | own d => exact ⟨r.1, r.2.1, r.2.2.1, fun p hp => r.2.2.2 p (hs p hp)⟩
  | _ => exact r
theorem RepZ.unpin {T : List (D × Addr)} {d : D} {v : V} (hs : ∀ p ∈ G.T, p ∈ T) (r : RepZ (G.at' T) F H ls σ d v) : RepZ G F H ls σ d v := by
  cases d with
  | own d => exact ⟨r.1, r.2.1, r.2.2.1, fun p hp => r.2.2.2 p (hs p hp)⟩
  | _ => exact r
theorem RepZ.le {d : D} {v : V} {ls' : LS} (hn : ∀ d', d ≠ .own d') (p : Le F H F' H') (r : RepZ G F H ls σ d v) : RepZ G F' H' ls' σ' d v := by
  cases d with
  | own d => exact absurd rfl (hn d)
  | io d => exact r.elim
  | bor i => exact r.elim
  | non => exact Rep.le p r
  | bl => exact Rep.le p r
  | int => exact Rep.le p r
  | str => exact Rep.le p r
  | ref => exact Rep.le p r
  | tup => exact Rep.le p r
  | lst => exact Rep.le p r
  | scr => exact Rep.le p r
  | dct => exact Rep.le p r
  | ins => cases (show Rep F H _ _ from r)
theorem RepZ.ofX {d : D} {v : V} (r : RepZ G F H ls σ d v) : RepX G F H ls σ d v := by
  cases d with
  | bor i => exact r.elim
  | _ => exact r
/-- a pinned value is a value again -/
theorem LInv.back {T : List (D × Addr)} {d : D} {a : Addr} (L : LInv (G.at' T) F ls σ H) (h : (d, a) ∈ T) (na : ∀ p ∈ G.T, a ≠ p.2) : RepZ G F H ls σ (.own d) (.ref a) := by
  obtain ⟨m, nf, h0, q⟩ := L.pin (d, a) h
  exact ⟨m, ⟨a, rfl, nf, h0⟩, q, fun p hp z => na p hp (by cases z; rfl)⟩
/-- a value is there still behind a store of another one -/
theorem RepZ.put {i : Nat} {x y : D} {v w : V} (r : RepZ G F H ls σ y w) (ne : Chg y → Chg x → w ≠ v) (hl : ls.length = σ.length) : RepZ G F H (ls.set i (some x)) (σ.set i (some v)) y w := by
  cases y with
  | own d =>
    refine ⟨r.1, r.2.1, fun k d' ek c hk => ?_, r.2.2.2⟩
    by_cases hj : i = k
    · subst hj
      have il : i < ls.length := by
        have := (List.getElem?_eq_some_iff.mp ek).1
        rw [List.length_set] at this; exact this
      rw [List.getElem?_set_self il] at ek
      cases ek
      rw [List.getElem?_set_self (by rw [← hl]; exact il)] at hk
      cases hk
      exact ne trivial c rfl
    · rw [List.getElem?_set_ne hj] at ek hk
      exact r.2.2.1 k d' ek c hk
  | io d => exact r.elim
  | bor i => exact r.elim
  | non => exact r
  | bl => exact r
  | int => exact r
  | str => exact r
  | ref => exact r
  | tup => exact r
  | lst => exact r
  | scr => exact r
  | dct => exact r
  | ins => exact r

/-! ### a, b = x, y with plain names -/
theorem pe_any {ι : Type} {t : ι → TE} (h : ∀ i, PE X e (t i)) : PE X e (fun σ H Q => ∃ i, t i σ H Q) := ⟨fun pins s σ H Q I ⟨i, q⟩ => (h i).run pins s σ H Q I q⟩
/-- evaluated, and told whether it is fresh -/
def hold (m : ME) : ME := fun ls => (m ls).bind fun p => opt (shr p)
def sPar (i j : Nat) (ma mb : ME) : MS := fun ls => (hold ma ls).fl fun p => (hold mb p.2).fl fun q => .nx ((q.2.set i (some p.1)).set j (some q.1))
def sPar3 (i j k : Nat) (ma mb mc : ME) : MS := fun ls => (hold ma ls).fl fun p => (hold mb p.2).fl fun q => (hold mc q.2).fl fun r => .nx (((r.2.set i (some p.1)).set j (some q.1)).set k (some r.1))
theorem tOf.held {T : List (D × Addr)} {ma : ME} {f : D × LS → Fl} (L : LInv (G.at' T) F ls σ H) (o : OutS G ((hold ma ls).fl f) F H Z)
    {Q' : VK} (h : ∀ F1 H1 ls1 d v, Le F H F1 H1 → LInv (G.at' T) F1 ls1 σ H1 → RepZ (G.at' T) F1 H1 ls1 σ d v → OutS G (f (d, ls1)) F1 H1 Z → Q' v H1) : tOf (G.at' T) ma σ H Q' := by
  refine ⟨F, ls, L, ?_⟩
  have e : (hold ma ls).fl f = (ma ls).fl fun p => (opt (shr p)).fl f := by
    unfold hold
    cases ma ls <;> rfl
  rw [e] at o
  revert o
  cases ma ls with
  | ok p =>
    obtain ⟨d, ls1⟩ := p
    intro o F1 H1 v p1 L1 r
    have o : OutS G ((opt (shr (d, ls1))).fl f) F H Z := o
    cases e1 : shr (d, ls1) with
    | none => rw [e1] at o; exact o.elim
    | some q =>
      obtain ⟨d2, ls2⟩ := q
      rw [e1] at o
      obtain ⟨F2, p2, L2, r2⟩ := shr_ok L1 r e1
      exact h F2 H1 ls2 d2 v (p1.trans p2) L2 r2 (OutS.later (p1.trans p2) o)
  | exc x => exact fun o H' C k => o H' C ⟨k.all, k.dom, k.tabs⟩
  | stuck => exact fun o => o
/-- held while m is evaluated: the first value stays what it is -/
theorem tOf.held2 {T : List (D × Addr)} {d : D} {v : V} {mb : ME} {f : D × LS → Fl} (L : LInv (G.at' T) F ls σ H) (r : RepZ (G.at' T) F H ls σ d v) (o : OutS G ((hold mb ls).fl f) F H Z)
    {Q' : VK} (h : ∀ T' F1 H1 ls1 y w, (∀ p ∈ T, p ∈ T') → Le F H F1 H1 → LInv (G.at' T') F1 ls1 σ H1 → RepZ (G.at' T) F1 H1 ls1 σ d v → RepZ (G.at' T') F1 H1 ls1 σ y w → (Chg y → Chg d → w ≠ v) → OutS G (f (y, ls1)) F1 H1 Z → Q' w H1) : ∃ T', tOf (G.at' T') mb σ H Q' := by
  by_cases hd : ∃ d', d = .own d'
  · obtain ⟨d', rfl⟩ := hd
    have r' := r
    obtain ⟨m, ⟨a, rfl, nf, h0⟩, na, np⟩ := r'
    refine ⟨(d', a) :: T, ?_⟩
    have L1 : LInv (G.at' ((d', a) :: T)) F ls σ H := L.topin (G := G.at' T) r.ofX
    refine tOf.held (G := G) L1 o fun F1 H1 ls1 y w p1 L2 r2 o2 => ?_
    refine h _ F1 H1 ls1 y w (fun p hp => List.mem_cons_of_mem _ hp) p1 L2 ?_ r2 (fun c _ => ?_) o2
    · exact LInv.back (G := G.at' T) L2 List.mem_cons_self fun p hp z => np p hp (by rw [z])
    · cases y with
      | own y => exact r2.2.2.2 (d', a) List.mem_cons_self
      | io y => exact r2.elim
      | _ => exact c.elim
  · refine ⟨T, tOf.held (G := G) L o fun F1 H1 ls1 y w p1 L2 r2 o2 => ?_⟩
    refine h _ F1 H1 ls1 y w (fun p hp => hp) p1 L2 (r.le (fun d' z => hd ⟨d', z⟩) p1) r2 (fun _ c => ?_) o2
    cases d with
    | own d => exact absurd ⟨d, rfl⟩ hd
    | io d => exact r.elim
    | _ => exact c.elim
theorem at_self : G.at' G.T = G := rfl
def tPar2 (G : Gh) (ma mb : ME) : TA := fun σ H Q => tOf G ma σ H fun v H1 => ∃ T, tOf (G.at' T) mb σ H1 fun w H2 => Q [v, w] H2
theorem ds_par {i j : Nat} {x y : Str} {a b : Expr} {ma mb : ME} {px py pt pos : Pos} {kt k2 pt2} (hc : X.calm = true) (hN : X.N.Nodup) (hi : X.N[i]? = some x) (hj : X.N[j]? = some y) (hij : i ≠ j)
    (hx : X.env.scope.names.lookup x = some .local) (hy : X.env.scope.names.lookup y = some .local) (ha : DE X G a ma) (hb : ∀ T, DE X (G.at' T) b mb)
    (hw : swappedStores [.Tuple [.Name x px, .Name y py] kt pt] (.Tuple [a, b] k2 pt2) X.env = pure (some [x, y]))
    (hs : swapsWithSole [.Tuple [.Name x px, .Name y py] kt pt] (.Tuple [a, b] k2 pt2) pos.line X.env = pure false := by rfl)
    (h1 : starEach [a, b] X.env = (false, eval a X.env) :: starEach [b] X.env := by rfl) (h2 : starEach [b] X.env = (false, eval b X.env) :: starEach [] X.env := by rfl) :
    DS X G (.Assign [.Tuple [.Name x px, .Name y py] kt pt] (.Tuple [a, b] k2 pt2) pos) (sPar i j ma mb) := by
  have pa : PA X [a, b] (tPar2 G ma mb) := pa_imp (pa_cons ha (pa_cons (pe_any hb) pa_nil h2) h1) fun σ H Q q => by
    exact q
  refine ps_imp (ps_par (ta := tPar2 G ma mb) hc hN hi hj hij hx hy pa hw hs) fun Z σ H ⟨F, ls, L, o⟩ => ?_
  refine tOf.held (G := G) (T := G.T) L o fun F1 H1 ls1 d v p1 L1 r1 o1 => ?_
  refine tOf.held2 (G := G) (T := G.T) (Q' := fun w H2 => ∃ v1 w1, [v, w] = [v1, w1] ∧ Z.nx ((σ.set i (some v1)).set j (some w1)) H2) L1 r1 o1 ?_
  intro T' F2 H2 ls2 y w hT p2 L2 rx ry ne o2
  refine ⟨v, w, rfl, o2 F2 _ H2 .refl ?_⟩
  have L3 : LInv G F2 ls2 σ H2 := L2.unpin hT
  exact (L3.put rx).put ((ry.unpin hT).put ne L3.len)
end
end DL

end DLf
section DLg
set_option Elab.async false
set_option linter.all false
set_option autoImplicit false
set_option maxRecDepth 100000
namespace DL
open PySem PySem.Spec PyProof.Rows L2

section
variable {X : Cx} {G : Gh} {e : Expr} {F F' : FS} {H H' : Hp} {ls : LS} {σ σ' : L2.St} {Z : Ends}
/-! ### what is walked -/
structure ItD (J : It) (F : FS) (H : Hp) (ds : List D) : Prop where
  go : ∀ i F' H', Le F H F' H' → i < ds.length → J.go i H'
  yld : ∀ i F' H' x H'' d, Le F H F' H' → J.yld i H' x H'' → ds[i]? = some d → Same H' H'' ∧ Rep F' H'' d x
  stop : ∀ F' H', Le F H F' H' → J.stop ds.length H'
abbrev MI := LS → Res (List D × LS)
def OutI (G : Gh) (r : Res (List D × LS)) (F : FS) (σ : L2.St) (H : Hp) (R : It → Hp → Prop) : Prop :=
  match r with
  | .ok (ds, ls) => ∀ F' H' J, Le F H F' H' → LInv G F' ls σ H' → ItD J F' H' ds → R J H'
  | .exc x => ∀ H' C, Keep G H' → G.mg x = some (.ref C) → G.E (.ref C) none H'
  | .stuck => False
def tOfI (G : Gh) (m : MI) : TI := fun σ H R => ∃ F ls, LInv G F ls σ H ∧ OutI G (m ls) F σ H R
abbrev DI (X : Cx) (G : Gh) (tg iter : Expr) (m : MI) : Prop := PI X tg iter (tOfI G m)
theorem pi_imp {tg iter : Expr} {t t' : TI} (h : PI X tg iter t) (w : ∀ σ H R, t' σ H R → t σ H R) : PI X tg iter t' := ⟨fun pins s σ H R I q => h.run pins s σ H R I (w σ H R q)⟩

/-! ### for -/
def forL (g : MG) (b : MS) : List D → LS → Fl
  | [], ls => .nx ls
  | d :: ds, ls => match g d ls with
    | none => .stuck
    | some ls1 => match b ls1 with
      | .nx ls2 => forL g b ds ls2
      | .ct ls2 => forL g b ds ls2
      | .bk ls2 => .nx ls2
      | .rt x ls2 => .rt x ls2
      | .exc x => .exc x
      | .stuck => .stuck
def sFor (mi : MI) (g : MG) (b : MS) : MS := fun ls => (mi ls).fl fun q => forL g b q.1 q.2
theorem ds_for {tg iter : Expr} {body : List Stmt} {mi : MI} {g : MG} {b : MS} {ks : List Nat} {pos : Pos} (hp : PassesOwn (model X.prog X.w) X.A X.env X.xe) (hc : X.calm = true) (hi : DI X G tg iter mi) (hg : DG X G tg g ks) (hb : DSs X G body b)
    (hs : ∀ x, foldedSetIterable iter X.env x = pure x := by intro _; rfl) : DS X G (.For tg iter body [] pos) (sFor mi g b) :=
  ps_imp (ps_for hp hc hi hg hb hs) fun Z σ H ⟨F, ls, L, o⟩ => by
    refine ⟨F, ls, L, ?_⟩
    unfold sFor at o
    revert o
    cases mi ls with
    | exc x => exact fun o => o
    | stuck => exact fun o => o
    | ok q =>
      obtain ⟨ds, ls1⟩ := q
      intro o F1 H1 J p1 L1 it
      have o : OutS G (forL g b ds ls1) F H Z := o
      refine ⟨fun i m σ H => m = ds.length - i ∧ i ≤ ds.length ∧ ∃ F ls, Le F1 H1 F H ∧ LInv G F ls σ H ∧ OutS G (forL g b (ds.drop i) ls) F H Z, ⟨ds.length, by simp, Nat.zero_le _, F1, ls1, .refl, L1, OutS.later p1 o⟩, ?_⟩
      rintro i m σ2 H2 ⟨rfl, hi, F2, ls2, p2, L2, o2⟩
      by_cases hlt : i < ds.length
      · refine .inr ⟨it.go i F2 H2 p2 hlt, fun σ' H' => ∃ F ls, Le F1 H1 F H' ∧ LInv G F ls σ' H' ∧ OutS G (forL g b (ds.drop (i + 1)) ls) F H' Z, fun σ' H' ⟨F, ls, a, b', c⟩ => ⟨ds.length - (i + 1), by omega, rfl, hlt, F, ls, a, b', c⟩, fun x H3 y => ?_⟩
        rw [List.drop_eq_getElem_cons hlt] at o2
        have hd : ds[i]? = some ds[i] := List.getElem?_eq_getElem hlt
        obtain ⟨sm, rx⟩ := it.yld i F2 H2 x H3 _ p2 y hd
        unfold forL at o2
        cases e1 : g ds[i] ls2 with
        | none => rw [e1] at o2; exact o2.elim
        | some ls3 =>
          rw [e1] at o2
          refine ⟨F2, ls2, _, ls3, L2.same sm, rx.z, e1, fun F4 σ4 H4 p4 L4 _ => ⟨F4, ls3, L4, ?_⟩⟩
          have p24 : Le F2 H2 F4 H4 := (Le.same sm).trans p4
          dsimp only at o2
          revert o2
          cases b ls3 with
          | nx ls5 => exact fun o2 F5 σ5 H5 p5 L5 => ⟨F5, ls5, (p2.trans p24).trans p5, L5, OutS.later (p24.trans p5) o2⟩
          | ct ls5 => exact fun o2 F5 σ5 H5 p5 L5 => ⟨F5, ls5, (p2.trans p24).trans p5, L5, OutS.later (p24.trans p5) o2⟩
          | bk ls5 => exact fun o2 F5 σ5 H5 p5 L5 => o2 F5 σ5 H5 (p24.trans p5) L5
          | rt d ls5 => exact fun o2 F5 σ5 H5 v p5 L5 r => o2 F5 σ5 H5 v (p24.trans p5) L5 r
          | exc x => exact fun o2 => o2
          | stuck => exact fun o2 => o2
      · have e : i = ds.length := by omega
        subst e
        rw [List.drop_length] at o2
        exact .inl ⟨it.stop F2 H2 p2, o2 F2 σ2 H2 .refl L2⟩

/-! ### while -/
def whlF (c : MT) (b : MS) : Nat → LS → Fl
  | 0, _ => .stuck
  | n + 1, ls => match c ls with
    | .ok (true, ls1) => match b ls1 with
      | .nx ls2 => whlF c b n ls2
      | .ct ls2 => whlF c b n ls2
      | .bk ls2 => .nx ls2
      | .rt x ls2 => .rt x ls2
      | .exc x => .exc x
      | .stuck => .stuck
    | .ok (false, ls1) => .nx ls1
    | .exc x => .exc x
    | .stuck => .stuck
theorem whlF_more {c : MT} {b : MS} : ∀ {n : Nat} {ls : LS}, whlF c b n ls ≠ .stuck → whlF c b (n + 1) ls = whlF c b n ls
  | 0, ls, h => absurd rfl h
  | n + 1, ls, h => by
    rw [whlF, whlF]
    rw [whlF] at h
    cases e : c ls with
    | exc x => rfl
    | stuck => rfl
    | ok q =>
      obtain ⟨t, ls1⟩ := q
      cases t with
      | false => rfl
      | true =>
        rw [e] at h
        dsimp only at h ⊢
        cases e2 : b ls1 with
        | nx ls2 => rw [e2] at h; exact whlF_more h
        | ct ls2 => rw [e2] at h; exact whlF_more h
        | bk ls2 => rfl
        | rt x ls2 => rfl
        | exc x => rfl
        | stuck => rfl
theorem whlF_add {c : MT} {b : MS} {n : Nat} {ls : LS} (h : whlF c b n ls ≠ .stuck) : ∀ k, whlF c b (n + k) ls = whlF c b n ls
  | 0 => rfl
  | k + 1 => by
    have ih := whlF_add h k
    rw [← Nat.add_assoc, whlF_more (by rw [ih]; exact h), ih]
open Classical in
noncomputable def sWhl (c : MT) (b : MS) : MS := fun ls => if h : ∃ n, whlF c b n ls ≠ .stuck then whlF c b h.choose ls else .stuck
theorem sWhl_of {c : MT} {b : MS} {n : Nat} {ls : LS} (h : whlF c b n ls ≠ .stuck) : sWhl c b ls = whlF c b n ls := by
  have hx : ∃ n, whlF c b n ls ≠ .stuck := ⟨n, h⟩
  unfold sWhl
  rw [dif_pos hx]
  have h2 := hx.choose_spec
  rcases Nat.le_total n hx.choose with q | q
  · have := whlF_add h (hx.choose - n)
    rw [Nat.add_sub_cancel' q] at this; exact this
  · have := whlF_add h2 (n - hx.choose)
    rw [Nat.add_sub_cancel' q] at this; exact this.symm
/-- one turn -/
theorem sWhl_eq (c : MT) (b : MS) (ls : LS) : sWhl c b ls = match c ls with
    | .ok (true, ls1) => (match b ls1 with
      | .nx ls2 => sWhl c b ls2
      | .ct ls2 => sWhl c b ls2
      | .bk ls2 => .nx ls2
      | .rt x ls2 => .rt x ls2
      | .exc x => .exc x
      | .stuck => .stuck)
    | .ok (false, ls1) => .nx ls1
    | .exc x => .exc x
    | .stuck => .stuck := by
  have up : ∀ ls2 : LS, (∀ n, whlF c b (n + 1) ls = whlF c b n ls2) → sWhl c b ls = sWhl c b ls2 := fun ls2 he => by
    by_cases h : ∃ n, whlF c b n ls2 ≠ .stuck
    · obtain ⟨n, hn⟩ := h
      rw [sWhl_of hn, sWhl_of (n := n + 1) (by rw [he]; exact hn), he]
    · have h' : ¬ ∃ n, whlF c b n ls ≠ .stuck := fun ⟨n, hn⟩ => by
        cases n with
        | zero => exact hn rfl
        | succ n => rw [he] at hn; exact h ⟨n, hn⟩
      unfold sWhl
      rw [dif_neg h, dif_neg h']
  have fin : ∀ r : Fl, (∀ n, whlF c b (n + 1) ls = r) → sWhl c b ls = r := fun r he => by
    by_cases h : r = .stuck
    · subst h
      unfold sWhl
      rw [dif_neg]
      rintro ⟨n, hn⟩
      cases n with
      | zero => exact hn rfl
      | succ n => rw [he] at hn; exact hn rfl
    · rw [sWhl_of (n := 1) (by rw [he]; exact h), he]
  cases e : c ls with
  | exc x => exact fin _ fun n => by rw [whlF, e]
  | stuck => exact fin _ fun n => by rw [whlF, e]
  | ok q =>
    obtain ⟨t, ls1⟩ := q
    cases t with
    | false => exact fin _ fun n => by rw [whlF, e]
    | true =>
      dsimp only
      cases e2 : b ls1 with
      | nx ls2 => exact up ls2 fun n => by rw [whlF, e]; dsimp only; rw [e2]
      | ct ls2 => exact up ls2 fun n => by rw [whlF, e]; dsimp only; rw [e2]
      | bk ls2 => exact fin _ fun n => by rw [whlF, e]; dsimp only; rw [e2]
      | rt x ls2 => exact fin _ fun n => by rw [whlF, e]; dsimp only; rw [e2]
      | exc x => exact fin _ fun n => by rw [whlF, e]; dsimp only; rw [e2]
      | stuck => exact fin _ fun n => by rw [whlF, e]; dsimp only; rw [e2]
theorem ds_while {c : Expr} {body : List Stmt} {t : MT} {b : MS} {pos : Pos} (hp : PassesOwn (model X.prog X.w) X.A X.env X.xe) (hc : DT X G c t) (hb : DSs X G body b) : DS X G (.While c body [] pos) (sWhl t b) :=
  ps_imp (ps_while hp hc hb) fun Z σ H ⟨F, ls, L, o⟩ => by
    unfold sWhl at o
    by_cases h : ∃ n, whlF t b n ls ≠ .stuck
    · rw [dif_pos h] at o
      refine ⟨fun n σ H => ∃ F ls, LInv G F ls σ H ∧ OutS G (whlF t b n ls) F H Z, ⟨h.choose, F, ls, L, o⟩, ?_⟩
      rintro n σ1 H1 ⟨F1, ls1, L1, o1⟩
      cases n with
      | zero => exact o1.elim
      | succ n =>
        refine ⟨F1, ls1, L1, ?_⟩
        rw [whlF] at o1
        revert o1
        cases t ls1 with
        | exc x => exact fun o => o
        | stuck => exact fun o => o
        | ok q =>
          obtain ⟨v, ls2⟩ := q
          cases v with
          | false => exact fun o1 F2 H2 p2 L2 => by dsimp only; rw [if_neg Bool.false_ne_true]; exact o1 F2 σ1 H2 p2 L2
          | true =>
            intro o1 F2 H2 p2 L2
            dsimp only
            rw [if_pos rfl]
            refine ⟨fun σ' H' => ∃ F ls, LInv G F ls σ' H' ∧ OutS G (whlF t b n ls) F H' Z, fun σ' H' q => ⟨n, Nat.lt_succ_self n, q⟩, F2, ls2, L2, ?_⟩
            dsimp only at o1
            revert o1
            cases b ls2 with
            | nx ls5 => exact fun o2 F5 σ5 H5 p5 L5 => ⟨F5, ls5, L5, OutS.later (p2.trans p5) o2⟩
            | ct ls5 => exact fun o2 F5 σ5 H5 p5 L5 => ⟨F5, ls5, L5, OutS.later (p2.trans p5) o2⟩
            | bk ls5 => exact fun o2 F5 σ5 H5 p5 L5 => o2 F5 σ5 H5 (p2.trans p5) L5
            | rt d ls5 => exact fun o2 F5 σ5 H5 v p5 L5 r => o2 F5 σ5 H5 v (p2.trans p5) L5 r
            | exc x => exact fun o2 => o2
            | stuck => exact fun o2 => o2
    · rw [dif_neg h] at o; exact o.elim

/-! ### raise -/
theorem ds_raise {x m : Str} {j : Nat} {p p2 pos pos' : Pos} {C : Addr} {bmB : List Value} {B newId initId : String} (hc : X.calm = true) (hmg : G.mg = X.mg) (tk : L2N.Takes X (fun cls d _ H => G.E cls d H))
    (Fb : ExcBaseFacts B newId initId bmB) (q : PySem.W.excIn X.K C bmB newId = true) (gC : X.mg x = some (.ref C)) (kC : PySem.W.keepIn X.K (.ref C) = true) (r : Raises X (.ref C)) (hg : Gl X x)
    (hdb : (x == ("__debug__" : Str)) = false := by decide) : DS X G (.Raise (some (.Call (.Name x p) [.Constant (.str m) j p2] [] pos)) none pos') (fun _ => .exc x) :=
  ps_imp (L2N.ps_raise hc tk (L2N.pmk_own Fb q gC kC r hg hdb)) fun Z σ H ⟨F, ls, L, o⟩ => o H C L.keep (by rw [hmg]; exact gC)
end
end DL

end DLg
section DLh
set_option Elab.async false
set_option linter.all false
set_option autoImplicit false
set_option maxRecDepth 100000
namespace DL
open PySem PySem.Spec PyProof.Rows L2

/-! ### what a call leaves: all but W as it was -/
structure CallLe (tb : List (Addr × Str)) (W F : FS) (H : Hp) (F' : FS) (H' : Hp) : Prop where
  le : Le F H F' H'
  all : ∀ a o, H a = some o → ¬ W a → (∀ ps, o ≠ .tbl ps) → H' a = some o
  dom : ∀ a, Nw H' a → Nw H a
  new : ∀ a, F' a → F a ∨ Nw H a
  there : ∀ a, F' a → ¬ Nw H' a
  tabs : LamX.Tabs tb H'
abbrev none' : FS := fun _ => False
def RepQ (F : FS) (H H' : Hp) : D → V → Prop
  | .own d, v => RepM F H' d v ∧ ∃ a, v = .ref a ∧ ¬ F a ∧ Nw H a
  | .io _, _ => False
  | .bor _, _ => False
  | d, v => Rep F H' d v
section
variable {X : Cx} {G : Gh} {e : Expr} {es : List Expr} {tb : List (Addr × Str)} {F F' W : FS} {H H' : Hp} {ls : LS} {σ σ' : L2.St} {Z : Ends}
theorem RepM.notbl {d : D} {a : Addr} (r : RepM F H d (.ref a)) : ∃ o, H a = some o ∧ ∀ ps, o ≠ .tbl ps := by
  cases d with
  | lst xs => obtain ⟨b, vs, e, h, q⟩ := r; cases e; exact ⟨_, h, fun _ z => nomatch z⟩
  | dct kvs =>
    obtain ⟨b, e, h⟩ := r
    cases e
    rcases h with ⟨ks, h, q⟩ | ⟨ks, h, q⟩ <;> exact ⟨_, h, fun _ z => nomatch z⟩
  | ins C fs => obtain ⟨b, dx, vs, e, h, q⟩ := r; cases e; exact ⟨_, h, fun _ z => nomatch z⟩
  | _ => exact r.elim
theorem RepM.isref {d : D} {v : V} (r : RepM F H d v) : ∃ a, v = .ref a := by
  cases d with
  | lst xs => obtain ⟨b, vs, e, h, q⟩ := r; exact ⟨b, e⟩
  | dct kvs => obtain ⟨b, e, h⟩ := r; exact ⟨b, e⟩
  | ins C fs => obtain ⟨b, dx, vs, e, h, q⟩ := r; exact ⟨b, e⟩
  | _ => exact r.elim
/-- a changeable thing out of W stands behind the call as it stood -/
theorem RepM.call {d : D} {a : Addr} (c : CallLe tb W F H F' H') (nw : ¬ W a) (r : RepM F H d (.ref a)) : RepM F' H' d (.ref a) := by
  obtain ⟨o, ho, nt⟩ := r.notbl
  exact r.le c.le fun b e => by cases e; rw [ho, c.all a o ho nw nt]
theorem RepS.at {d : D} {v : V} (c : Chg d) (r : RepS G F H d v) : ∃ a d', v = .ref a ∧ (d = .own d' ∨ d = .io d') ∧ RepM F H d' (.ref a) ∧ ¬ F a := by
  cases d with
  | own d => obtain ⟨m, a, e, nf, h0⟩ := r; subst e; exact ⟨a, d, rfl, .inl rfl, m, nf⟩
  | io d => obtain ⟨m, a, e, nf, h0⟩ := r; subst e; exact ⟨a, d, rfl, .inr rfl, m, nf⟩
  | _ => exact c.elim
theorem Keep.call (k : Keep G H) (c : CallLe G.tb W F H F' H') (hw : ∀ a, W a → G.I0 a ∨ Nw G.H0 a) : Keep G H' where
  all := fun a o e n t => by
    refine c.all a o (k.all a o e n t) (fun w => ?_) t
    rcases hw a w with z | z
    · exact n z
    · obtain ⟨ps, q⟩ := z o e; exact t ps q
  dom := fun a e => k.dom a (c.dom a e)
  tabs := c.tabs
/-- a call: no slot's thing is in W -/
theorem LInv.call (L : LInv G F ls σ H) (c : CallLe G.tb W F H F' H') (hw : ∀ a, W a → G.I0 a ∨ Nw G.H0 a) (ns : ∀ (i : Nat) (d : D) (a : Addr), ls[i]? = some (some d) → Chg d → σ[i]? = some (some (.ref a)) → ¬ W a)
    (np : ∀ p ∈ G.T, ¬ W p.2) (f0 : ∀ a, F a → ¬ Nw H a := by exact fun a h => L.there a h) : LInv G F' ls σ H' where
  keep := L.keep.call c hw
  slot := fun i d e => by
    obtain ⟨v, h1, h2⟩ := L.slot i d e
    refine ⟨v, h1, h2.le c.le fun b cd eb => ?_⟩
    obtain ⟨a, d', e', _, m, nf⟩ := h2.at cd
    rw [eb] at e' h1; cases e'
    have nw := ns i d b e cd h1
    obtain ⟨o, ho, nt⟩ := m.notbl
    refine ⟨by rw [ho, c.all b o ho nw nt], fun z => ?_⟩
    rcases c.new b z with z | z
    · exact nf z
    · exact m.nw z
  apart := L.apart
  there := c.there
  fnew := fun a z => by
    rcases c.new a z with z | z
    · exact L.fnew a z
    · exact .inr (L.keep.dom a z)
  len := L.len
  pin := fun p hp => by
    obtain ⟨m, nf, h0, q⟩ := L.pin p hp
    refine ⟨m.call c (np p hp), fun z => ?_, h0, q⟩
    rcases c.new _ z with z | z
    · exact nf z
    · exact m.nw z
theorem LInv.forget (L : LInv G F ls σ H) (i : Nat) : LInv G F (ls.set i none) σ H := by
  have red : ∀ {k : Nat} {d : D}, (ls.set i none)[k]? = some (some d) → ls[k]? = some (some d) ∧ i ≠ k := fun {k d} ek => by
    by_cases hj : i = k
    · subst hj
      have il : i < ls.length := by
        have := (List.getElem?_eq_some_iff.mp ek).1
        rw [List.length_set] at this; exact this
      rw [List.getElem?_set_self il] at ek; cases ek
    · rw [List.getElem?_set_ne hj] at ek; exact ⟨ek, hj⟩
  exact ⟨L.keep, fun k d ek => L.slot k d (red ek).1, fun j k d d' v ne e1 e2 => L.apart j k d d' v ne (red e1).1 (red e2).1, L.there, L.fnew, by rw [List.length_set]; exact L.len,
    fun p hp => by
      obtain ⟨m, nf, h0, q⟩ := L.pin p hp
      exact ⟨m, nf, h0, fun k d ek => q k d (red ek).1⟩⟩
/-- the slot's thing is written -/
theorem LInv.write {i : Nat} {w : D → D} {d d' : D} {a : Addr} (hw : w = .own ∨ w = .io) (L : LInv G F ls σ H) (e : ls[i]? = some (some (w d))) (hs : σ[i]? = some (some (.ref a))) (c : CallLe G.tb (fun b => b = a) F H F' H') (m : RepM F' H' d' (.ref a)) :
    LInv G F' (ls.set i (some (w d'))) σ H' := by
  have cw : ∀ x, Chg (w x) := fun x => by rcases hw with rfl | rfl <;> trivial
  obtain ⟨v, h1, h2⟩ := L.slot i _ e
  rw [hs] at h1; cases h1
  have hW : ∀ b, b = a → G.I0 b ∨ Nw G.H0 b := fun b z => by
    subst z
    rcases hw with rfl | rfl
    · obtain ⟨_, b', e', _, h0⟩ := h2; cases e'; exact .inr h0
    · obtain ⟨_, b', e', _, h0⟩ := h2; cases e'; exact .inl h0
  have il : i < ls.length := (List.getElem?_eq_some_iff.mp e).1
  have L1 : LInv G F' (ls.set i none) σ H' := (L.forget i).call c hW (fun j dj b ej cj hj z => by
      subst z
      by_cases hij : i = j
      · subst hij; rw [List.getElem?_set_self il] at ej; cases ej
      · rw [List.getElem?_set_ne hij] at ej
        exact L.apart i j _ _ _ hij e ej (cw d) cj hs hj) (fun p hp z => (L.pin p hp).2.2.2 i _ e (cw d) (by rw [z]; exact hs)) L.there
  have red : ∀ {k : Nat} {x : D}, (ls.set i (some (w d')))[k]? = some (some x) → (i = k ∧ x = w d') ∨ (i ≠ k ∧ (ls.set i none)[k]? = some (some x)) := fun {k x} ek => by
    by_cases hj : i = k
    · subst hj; rw [List.getElem?_set_self il] at ek; cases ek; exact .inl ⟨rfl, rfl⟩
    · rw [List.getElem?_set_ne hj] at ek; exact .inr ⟨hj, by rw [List.getElem?_set_ne hj]; exact ek⟩
  have old : ∀ {k : Nat} {x : D}, i ≠ k → (ls.set i none)[k]? = some (some x) → ls[k]? = some (some x) := fun {k x} h ek => by rw [List.getElem?_set_ne h] at ek; exact ek
  refine ⟨L1.keep, fun k x ek => ?_, fun j k x y v ne e1 e2 c1 c2 g1 g2 => ?_, L1.there, L1.fnew, by rw [List.length_set]; exact L.len, fun p hp => ?_⟩
  · rcases red ek with ⟨rfl, rfl⟩ | ⟨_, q⟩
    · refine ⟨_, hs, ?_⟩
      have nf : ¬ F' a := fun z => by
        rcases c.new a z with z | z
        · obtain ⟨_, _, e', _, _, nf⟩ := h2.at (cw d); cases e'; exact nf z
        · obtain ⟨_, _, e', _, m, _⟩ := h2.at (cw d); cases e'; exact m.nw z
      rcases hw with rfl | rfl
      · obtain ⟨_, b', e', _, h0⟩ := h2; cases e'; exact ⟨m, _, rfl, nf, h0⟩
      · obtain ⟨_, b', e', _, h0⟩ := h2; cases e'; exact ⟨m, _, rfl, nf, h0⟩
    · exact L1.slot k x q
  · rcases red e1 with ⟨rfl, rfl⟩ | ⟨n1, q1⟩
    · rcases red e2 with ⟨rfl, rfl⟩ | ⟨n2, q2⟩
      · exact ne rfl
      · exact L.apart i k _ _ _ n2 e (old n2 q2) (cw d) c2 g1 g2
    · rcases red e2 with ⟨rfl, rfl⟩ | ⟨n2, q2⟩
      · exact L.apart i j _ _ _ n1 e (old n1 q1) (cw d) c1 g2 g1
      · exact L1.apart j k x y v ne q1 q2 c1 c2 g1 g2
  · obtain ⟨m', nf', h0', q⟩ := L1.pin p hp
    refine ⟨m', nf', h0', fun k x ek cx hk => ?_⟩
    rcases red ek with ⟨rfl, rfl⟩ | ⟨n1, q1⟩
    · exact (L.pin p hp).2.2.2 i _ e (cw d) hk
    · exact q k x q1 cx hk

/-! ### promises -/
abbrev FD := List D → Res D
def SpF (mg : Str → Option Value) (tb : List (Addr × Str)) (n : Nat) (f : FD) : Sp := fun vs H Q E => ∃ F ds, ds.length = n ∧ Reps F H ds vs ∧ (∀ a, F a → ¬ Nw H a) ∧ LamX.Tabs tb H ∧ match f ds with
  | .ok d => ∀ F' H' v, CallLe tb none' F H F' H' → RepQ F' H H' d v → Q v H'
  | .exc x => ∀ H' C, (∀ a o, H a = some o → (∀ ps, o ≠ .tbl ps) → H' a = some o) → (∀ a, Nw H' a → Nw H a) → LamX.Tabs tb H' → mg x = some (.ref C) → E (.ref C) none H'
  | .stuck => False
/-- a def that changes its first argument -/
abbrev FIO := D → List D → Res (D × D)
def SpIO (mg : Str → Option Value) (tb : List (Addr × Str)) (n : Nat) (f : FIO) : Sp := fun vs H Q E => ∃ F c ds a us, vs = .ref a :: us ∧ ds.length = n ∧ Reps F H ds us ∧ (∀ a, F a → ¬ Nw H a) ∧ LamX.Tabs tb H ∧ RepM F H c (.ref a) ∧ ¬ F a ∧ match f c ds with
  | .ok (d, c') => ∀ F' H' v, CallLe tb (fun b => b = a) F H F' H' → RepM F' H' c' (.ref a) → RepQ F' H H' d v → Q v H'
  | .exc x => False
  | .stuck => False
theorem RepQ.toX {d : D} {v : V} (L : LInv G F ls σ H) (c : CallLe tb W F H F' H') (r : RepQ F' H H' d v) {ls' : LS} (hs : ∀ (i : Nat) (d : D), ls'[i]? = some (some d) → Chg d → ∃ d', ls[i]? = some (some d') ∧ Chg d') : RepX G F' H' ls' σ d v := by
  cases d with
  | own d =>
    obtain ⟨m, a, e, nf, n⟩ := r
    subst e
    refine ⟨m, ⟨a, rfl, nf, L.keep.dom a n⟩, fun i d' ei ci hi => ?_, fun p hp z => ?_⟩
    · obtain ⟨d2, e2, c2⟩ := hs i d' ei ci
      obtain ⟨u, h1, h2⟩ := L.slot i d2 e2
      obtain ⟨b, d3, e3, _, m3, _⟩ := h2.at c2
      rw [h1] at hi; cases hi; cases e3
      exact m3.nw n
    · cases z; exact (L.pin p hp).1.nw n
  | io d => exact r.elim
  | bor i => exact r.elim
  | non => exact r
  | bl => exact r
  | int => exact r
  | str => exact r
  | ref => exact r
  | tup => exact r
  | lst => exact r
  | scr => exact r
  | dct => exact r
  | ins => exact r
def mCall (f : FD) (ms : MA) : ME := fun ls => (fz ms ls).bind fun q => (f q.1).bind fun d => .ok (d, q.2)
theorem mCall_imp {mg : Str → Option Value} {n : Nat} {f : FD} {ms : MA} (hmg : G.mg = mg) (hn : ∀ ds d, f ds = d → d ≠ .stuck → ds.length = n) (σ : L2.St) (H : Hp) (Q : VK) (q : tOf G (mCall f ms) σ H Q) : tOfA G ms σ H fun vs H1 => SpF mg G.tb n f vs H1 Q G.E := by
  obtain ⟨F, ls, L, o⟩ := q
  refine tOfA.frozen L o fun F1 H1 ls1 ds vs p1 L1 r1 o1 => ?_
  dsimp only at o1
  cases e : f ds with
  | stuck => rw [e] at o1; exact o1.elim
  | ok d =>
    rw [e] at o1
    refine ⟨F1, ds, hn ds _ e (fun z => nomatch z), r1, L1.there, L1.keep.tabs, ?_⟩
    rw [e]
    intro F2 H2 v c r
    exact o1 F2 H2 v c.le (L1.call c (fun _ z => z.elim) (fun _ _ _ _ _ _ z => z) (fun _ _ z => z) L1.there) (r.toX L1 c fun i d h c => ⟨d, h, c⟩)
  | exc x =>
    rw [e] at o1
    refine ⟨F1, ds, hn ds _ e (fun z => nomatch z), r1, L1.there, L1.keep.tabs, ?_⟩
    rw [e]
    intro H2 C h1 h2 h3 hx
    exact o1 H2 C ⟨fun a u e n t => h1 a u (L1.keep.all a u e n t) t, fun a z => L1.keep.dom a (h2 a z), h3⟩ (by rw [hmg]; exact hx)
theorem de_call {k : Nat} {f : Addr} {fd : FuncData} {ps : List Str} {fF : FD} {x : Str} {p pos : Pos} {ms : MA} {n : Nat} (hmg : G.mg = X.mg) (tk : L2N.Takes X (fun cls d _ H => G.E cls d H)) (hn : ∀ ds d, fF ds = d → d ≠ .stuck → ds.length = n)
    (Fn : FnOk X.prog X.w X.K X.mg X.base (L2N.CX X.prog X.w) k f fd ps (SpF X.mg G.tb n fF)) (hr : Room k X.A) (hg : Gl X x) (hm : X.mg x = some (.ref f)) (hk : PySem.W.keepIn X.K (.ref f) = true) (hb : Binds X.K fd ps []) (ha : DA X G (e :: es) ms)
    (hdb : (x == ("__debug__" : Str)) = false := by decide) (he : starEach (e :: es) X.env = (false, eval e X.env) :: starEach es X.env := by rfl) (hpl : (backTo pos (starEach es X.env)).any (·.1) = false := by rfl) :
    DE X G (.Call (.Name x p) (e :: es) [] pos) (mCall fF ms) :=
  pe_imp (pe_callS (E := fun _ => G.E) Fn hr hg hm hk hb (fun σ => L2N.passAt tk σ) ha hdb he hpl) (mCall_imp hmg hn)
/-- f(x, ..), x the i-th slot, changed by f -/
def mIO (f : FIO) (i : Nat) (ms : MA) : ME := fun ls => (var i ls).bind fun _ => (fz ms ls).bind fun q => match q.2[i]? with
  | some (some (.own c)) => (f c q.1).bind fun r => .ok (r.1, q.2.set i (some (.own r.2)))
  | some (some (.io c)) => (f c q.1).bind fun r => .ok (r.1, q.2.set i (some (.io r.2)))
  | _ => .stuck
theorem set_sub {i : Nat} {w : D → D} {d d' : D} (hw : w = .own ∨ w = .io) (e : ls[i]? = some (some (w d))) : ∀ (k : Nat) (x : D), (ls.set i (some (w d')))[k]? = some (some x) → Chg x → ∃ x', ls[k]? = some (some x') ∧ Chg x' := fun k x ek cx => by
  by_cases hj : i = k
  · subst hj; exact ⟨_, e, by rcases hw with rfl | rfl <;> trivial⟩
  · rw [List.getElem?_set_ne hj] at ek; exact ⟨x, ek, cx⟩
theorem mIO_imp {mg : Str → Option Value} {n i : Nat} {f : FIO} {ms : MA} (hn : ∀ c ds d, f c ds = d → d ≠ .stuck → ds.length = n) (hx : ∀ c ds x, f c ds ≠ .exc x) (σ : L2.St) (H : Hp) (Q : VK) (q : tOf G (mIO f i ms) σ H Q) : ∃ v, σ[i]? = some (some v) ∧ tOfA G ms σ H fun vs H1 => SpIO mg G.tb n f (v :: vs) H1 Q G.E := by
  obtain ⟨F, ls, L, o⟩ := q
  have fin : ∀ {w : D → D} {F1 : FS} {H1 : Hp} {ls1 : LS} {ds : List D} {vs : List V} {c : D} {v : V}, (w = .own ∨ w = .io) → LInv G F1 ls1 σ H1 → Reps F1 H1 ds vs → ls1[i]? = some (some (w c)) → σ[i]? = some (some v) →
      Out G ((f c ds).bind fun r => .ok (r.1, ls1.set i (some (w r.2)))) F1 σ H1 Q → SpIO mg G.tb n f (v :: vs) H1 Q G.E := fun {w F1 H1 ls1 ds vs c v} hw L1 r1 e1 hv o1 => by
    have cw : ∀ x, Chg (w x) := fun x => by rcases hw with rfl | rfl <;> trivial
    obtain ⟨u, h1, h2⟩ := L1.slot i _ e1
    rw [hv] at h1; cases h1
    obtain ⟨a, d', rfl, ed, m, nf⟩ := h2.at (cw c)
    have ec : c = d' := by
      rcases hw with rfl | rfl
      · rcases ed with ed | ed <;> cases ed <;> rfl
      · rcases ed with ed | ed <;> cases ed <;> rfl
    subst ec
    cases e : f c ds with
    | stuck => rw [e] at o1; exact o1.elim
    | exc x => exact absurd e (hx c ds x)
    | ok r =>
      obtain ⟨d, c'⟩ := r
      rw [e] at o1
      refine ⟨F1, c, ds, a, vs, rfl, hn c ds _ e (fun z => nomatch z), r1, L1.there, L1.keep.tabs, m, nf, ?_⟩
      rw [e]
      intro F2 H2 v cl m2 rq
      exact o1 F2 H2 v cl.le (L1.write hw e1 hv cl m2) (rq.toX L1 cl (set_sub hw e1))
  have hv : ∃ v, σ[i]? = some (some v) := by
    cases e : ls[i]? with
    | none => unfold mIO var at o; rw [e] at o; exact o.elim
    | some z =>
      cases z with
      | none => unfold mIO var at o; rw [e] at o; exact o.elim
      | some d => obtain ⟨v, h, _⟩ := L.slot i d e; exact ⟨v, h⟩
  obtain ⟨v, hv⟩ := hv
  refine ⟨v, hv, ?_⟩
  have o : Out G ((fz ms ls).bind fun q => match q.2[i]? with
    | some (some (.own c)) => (f c q.1).bind fun r => Res.ok (r.1, q.2.set i (some (.own r.2)))
    | some (some (.io c)) => (f c q.1).bind fun r => Res.ok (r.1, q.2.set i (some (.io r.2)))
    | _ => Res.stuck) F σ H Q := by
    unfold mIO at o
    cases e : var i ls with
    | stuck => rw [e] at o; exact o.elim
    | exc x =>
      exfalso
      unfold var at e
      split at e <;> cases e
    | ok p => rw [e] at o; exact o
  refine tOfA.frozen L o fun F1 H1 ls1 ds vs p1 L1 r1 o1 => ?_
  dsimp only at o1
  cases e : ls1[i]? with
  | none => rw [e] at o1; exact o1.elim
  | some z =>
    cases z with
    | none => rw [e] at o1; exact o1.elim
    | some d =>
      rw [e] at o1
      cases d with
      | own c => exact fin (.inl rfl) L1 r1 e hv o1
      | io c => exact fin (.inr rfl) L1 r1 e hv o1
      | _ => exact o1.elim
theorem de_io {k : Nat} {f : Addr} {fd : FuncData} {ps : List Str} {fF : FIO} {x y : Str} {p pos py : Pos} {ms : MA} {n i : Nat} (tk : L2N.Takes X (fun cls d _ H => G.E cls d H)) (hn : ∀ c ds d, fF c ds = d → d ≠ .stuck → ds.length = n) (hx : ∀ c ds x, fF c ds ≠ .exc x)
    (Fn : FnOk X.prog X.w X.K X.mg X.base (L2N.CX X.prog X.w) k f fd ps (SpIO X.mg G.tb n fF)) (hr : Room k X.A) (hg : Gl X x) (hm : X.mg x = some (.ref f)) (hk : PySem.W.keepIn X.K (.ref f) = true) (hb : Binds X.K fd ps []) (hv : PE X (.Name y py) (tVar i)) (ha : DA X G es ms)
    (hdb : (x == ("__debug__" : Str)) = false := by decide) (he : starEach (.Name y py :: es) X.env = (false, eval (.Name y py) X.env) :: starEach es X.env := by rfl) (hpl : (backTo pos (starEach es X.env)).any (·.1) = false := by rfl) :
    DE X G (.Call (.Name x p) (.Name y py :: es) [] pos) (mIO fF i ms) :=
  pe_imp (pe_callS (E := fun _ => G.E) Fn hr hg hm hk hb (fun σ => L2N.passAt tk σ) (pa_cons hv ha he) hdb he hpl) fun σ H Q q => mIO_imp (mg := X.mg) hn hx σ H Q q
end
end DL

end DLh
section DLi
set_option Elab.async false
set_option linter.all false
set_option autoImplicit false
set_option maxRecDepth 100000
namespace DL
open PySem PySem.Spec PyProof.Rows L2

/-! ### a def by its body -/
def retC : D → Option D
  | .io _ => none
  | .bor _ => none
  | d => some d
def retD (ls : LS) : D → Option D
  | .bor i => (ls[i]?).bind fun o => o.bind retC
  | .io _ => none
  | d => some d
def fin : Fl → Res D
  | .nx _ => .ok .non
  | .rt d ls => opt (retD ls d)
  | .exc x => .exc x
  | _ => .stuck
def startD (n : Nat) (ds : List D) : LS := ds.map some ++ List.replicate (n - ds.length) none
section
variable {F F' : FS} {H H' : Hp} {G : Gh} {ls : LS} {σ : L2.St}
theorem Reps.get : ∀ {ds : List D} {vs : List V} {i : Nat} {d : D}, Reps F H ds vs → ds[i]? = some d → ∃ v, vs[i]? = some v ∧ Rep F H d v
  | _, _, i, d, .nil, e => by simp at e
  | _, _, 0, d, .cons r _, e => by cases e; exact ⟨_, rfl, r⟩
  | _, _, i + 1, d, .cons _ rs, e => Reps.get (i := i) rs e
theorem start_get {ds : List D} {n i : Nat} {d : D} (e : (startD n ds)[i]? = some (some d)) : ds[i]? = some d := by
  unfold startD at e
  by_cases h : i < ds.length
  · rw [List.getElem?_append_left (by rw [List.length_map]; exact h), List.getElem?_map] at e
    cases q : ds[i]? with
    | none => rw [q] at e; cases e
    | some x => rw [q] at e; cases e; rfl
  · rw [List.getElem?_append_right (by rw [List.length_map]; omega), List.getElem?_replicate] at e
    split at e <;> cases e
theorem startV_get {vs : List V} {N : List Str} {i : Nat} {v : V} (e : vs[i]? = some v) : (L2.start N vs)[i]? = some (some v) := by
  have hl := (List.getElem?_eq_some_iff.mp e).1
  unfold L2.start
  rw [List.getElem?_append_left (by rw [List.length_map]; exact hl), List.getElem?_map, e] <;> rfl
theorem Rep.notChg {d : D} {v : V} (r : Rep F H d v) : ¬ Chg d := by cases r <;> exact fun z => z
theorem Rep.toS {d : D} {v : V} (r : Rep F H d v) : RepS G F H d v := by
  cases d with
  | own d => cases r
  | io d => cases r
  | bor j => cases r
  | non => exact r
  | bl => exact r
  | int => exact r
  | str => exact r
  | ref => exact r
  | tup => exact r
  | lst => exact r
  | scr => exact r
  | dct => exact r
  | ins => cases r
theorem inv_begin {mg : Str → Option Value} {E : XK} {tb : List (Addr × Str)} {F : FS} {H : Hp} {ds : List D} {vs : List V} {N : List Str} (r : Reps F H ds vs) (th : ∀ a, F a → ¬ Nw H a) (ht : LamX.Tabs tb H) :
    LInv ⟨[], H, F, none', mg, E, tb⟩ F (startD N.length ds) (L2.start N vs) H where
  keep := ⟨fun a o e _ _ => e, fun a e => e, ht⟩
  slot := fun i d e => by
    obtain ⟨v, h1, h2⟩ := r.get (start_get e)
    exact ⟨v, startV_get h1, h2.toS⟩
  apart := fun i j d d' v _ e _ c => by
    obtain ⟨v, h1, h2⟩ := r.get (start_get e)
    exact absurd c h2.notChg
  there := th
  fnew := fun a f => .inl f
  len := by
    unfold startD L2.start
    rw [List.length_append, List.length_append, List.length_map, List.length_map, List.length_replicate, List.length_replicate, r.length]
  pin := fun p hp => nomatch hp
theorem inv_beginIO {mg : Str → Option Value} {E : XK} {tb : List (Addr × Str)} {F : FS} {H : Hp} {c : D} {a : Addr} {ds : List D} {vs : List V} {N : List Str} (m : RepM F H c (.ref a)) (nf : ¬ F a) (r : Reps F H ds vs) (th : ∀ a, F a → ¬ Nw H a) (ht : LamX.Tabs tb H) :
    LInv ⟨[], H, F, fun b => b = a, mg, E, tb⟩ F (startD N.length (.io c :: ds)) (L2.start N (.ref a :: vs)) H where
  keep := ⟨fun a o e _ _ => e, fun a e => e, ht⟩
  slot := fun i d e => by
    have e := start_get e
    cases i with
    | zero => cases e; exact ⟨_, startV_get (i := 0) rfl, m, a, rfl, nf, rfl⟩
    | succ i =>
      obtain ⟨v, h1, h2⟩ := r.get (i := i) e
      exact ⟨v, startV_get (i := i + 1) h1, h2.toS⟩
  apart := fun i j d d' v ne e1 e2 c1 c2 => by
    have e1 := start_get e1
    have e2 := start_get e2
    cases i with
    | zero =>
      cases j with
      | zero => exact absurd rfl ne
      | succ j =>
        obtain ⟨v, h1, h2⟩ := r.get (i := j) e2
        exact absurd c2 h2.notChg
    | succ i =>
      obtain ⟨v, h1, h2⟩ := r.get (i := i) e1
      exact absurd c1 h2.notChg
  there := th
  fnew := fun a f => .inl f
  len := by
    unfold startD L2.start
    rw [List.length_append, List.length_append, List.length_map, List.length_map, List.length_replicate, List.length_replicate, List.length_cons, List.length_cons, r.length]
  pin := fun p hp => nomatch hp
theorem RepX.toQ {H0 : Hp} {F0 I0 : FS} {mg : Str → Option Value} {E : XK} {tb : List (Addr × Str)} {d d' : D} {v : V} (L : LInv ⟨[], H0, F0, I0, mg, E, tb⟩ F ls σ H) (r : RepX ⟨[], H0, F0, I0, mg, E, tb⟩ F H ls σ d v) (e : retD ls d = some d') : RepQ F H0 H d' v := by
  cases d with
  | bor i =>
    have e : (ls[i]?).bind (fun o => o.bind retC) = some d' := e
    obtain ⟨h, x, e1, c⟩ := r
    rw [e1] at e
    obtain ⟨u, h1, h2⟩ := L.slot i x e1
    rw [h] at h1; cases h1
    cases x with
    | own x => cases e; obtain ⟨m, a, e2, nf, h0⟩ := h2; exact ⟨m, a, e2, nf, h0⟩
    | io x => cases e
    | _ => exact c.elim
  | own d => cases e; exact ⟨r.1, by obtain ⟨a, e2, nf, h0⟩ := r.2.1; exact ⟨a, e2, nf, h0⟩⟩
  | io d => exact r.elim
  | non => cases e; exact r
  | bl => cases e; exact r
  | int => cases e; exact r
  | str => cases e; exact r
  | ref => cases e; exact r
  | tup => cases e; exact r
  | lst => cases e; exact r
  | scr => cases e; exact r
  | dct => cases e; exact r
  | ins => cases e; exact r
theorem LInv.callLe {H0 : Hp} {F0 I0 : FS} {mg : Str → Option Value} {E : XK} {tb : List (Addr × Str)} (p : Le F0 H0 F H) (L : LInv ⟨[], H0, F0, I0, mg, E, tb⟩ F ls σ H) : CallLe tb I0 F0 H0 F H :=
  ⟨p, fun a o e n t => L.keep.all a o e n t, L.keep.dom, L.fnew, L.there, L.keep.tabs⟩
end

section
variable {P : Program} {w : World} {K : PySem.W.Frag} {mg : Str → Option Value} {tb : List (Addr × Str)} {base : Heap} {x qual : Str} {st : Stmt} {f : Addr} {fd : FuncData} {N ps : List Str} {k : Nat}
theorem Fun.okN {sp : Sp} (F : Fun K x qual st f fd) (S : FnScope N ps (defScope st)) (len : ∀ vs H Q E, sp vs H Q E → vs.length = ps.length)
    (hbody : ∀ (cdv : Value) (A : Around) (outer : List Env) (s : Shared) (H : Hp) (vs : List V) (Q : VK) (E : XK), Room k (A.deeper (envOfC qual (defScope st) s.heap.objs.size f cdv)) → sp vs H Q E →
      ∃ t, PSs (cxOf (L2N.CX P w) P w K mg base N qual (defScope st) f cdv A outer s H E) (defBody st) t ∧ t { nx := fun _ H' => Q .non H', rt := Q } (start N vs) H) : FnOk P w K mg base (L2N.CX P w) (k + 1) f fd ps sp := by
  obtain ⟨oc, od, kV, doc, pm, an, cdv, ct, osl, rfl, lk, hcd⟩ := F.ex
  exact fn_of lk hcd S len fun A outer s H vs Q E hr hsp => hbody cdv A outer s H vs Q E hr hsp
theorem okF {body : MS} {fD : FD} (Fn : Fun K x qual st f fd) (S : FnScope N ps (defScope st))
    (hb : ∀ (cdv : Value) (A : Around) (outer : List Env) (s : Shared) (H : Hp) (E : XK) (G : Gh), Room k (A.deeper (envOfC qual (defScope st) s.heap.objs.size f cdv)) → G.mg = mg → G.tb = tb →
      L2N.Takes (cxOf (L2N.CX P w) P w K mg base N qual (defScope st) f cdv A outer s H E) (fun cls d _ H => G.E cls d H) →
      PassesOwn (model P w) (A.deeper (envOfC qual (defScope st) s.heap.objs.size f cdv)) (envOfC qual (defScope st) s.heap.objs.size f cdv) (cxOf (L2N.CX P w) P w K mg base N qual (defScope st) f cdv A outer s H E).xe →
      DSs (cxOf (L2N.CX P w) P w K mg base N qual (defScope st) f cdv A outer s H E) G (defBody st) body)
    (hD : ∀ ds, ds.length = ps.length → fD ds ≠ .stuck → fin (body (startD N.length ds)) = fD ds) : FnOk P w K mg base (L2N.CX P w) (k + 1) f fd ps (SpF mg tb ps.length fD) := by
  refine Fun.okN Fn S (fun vs H Q E h => ?_) (fun cdv A outer s H vs Q E hr h => ?_)
  · obtain ⟨F, ds, hl, r, _⟩ := h
    rw [← r.length]; exact hl
  · obtain ⟨F, ds, hl, r, th, ht, e⟩ := h
    refine ⟨_, hb cdv A outer s H E ⟨[], H, F, none', mg, E, tb⟩ hr rfl rfl (L2N.takes_of rfl rfl rfl rfl) (passes_of (X := cxOf (L2N.CX P w) P w K mg base N qual (defScope st) f cdv A outer s H E) rfl), F, startD N.length ds, inv_begin r th ht, ?_⟩
    have q := hD ds hl (fun z => by rw [z] at e; exact e)
    rw [← q] at e
    revert e
    cases body (startD N.length ds) with
    | nx ls => exact fun e F' σ' H' p L => e F' H' .non (L.callLe p) .non
    | bk ls => exact fun e => e.elim
    | ct ls => exact fun e => e.elim
    | rt d ls =>
      intro e F' σ' H' v p L rx
      have e' : match (opt (retD ls d) : Res D) with
        | .ok d => ∀ F' H' v, CallLe tb none' F H F' H' → RepQ F' H H' d v → Q v H'
        | .exc x => ∀ H' C, (∀ a o, H a = some o → (∀ ps, o ≠ .tbl ps) → H' a = some o) → (∀ a, Nw H' a → Nw H a) → LamX.Tabs tb H' → mg x = some (.ref C) → E (.ref C) none H'
        | .stuck => False := e
      cases er : retD ls d with
      | some d2 => rw [er] at e'; exact e' F' H' v (L.callLe p) (rx.toQ L er)
      | none => rw [er] at e'; exact e'.elim
    | exc y => exact fun e H' C kp hC => e H' C (fun a o ea t => kp.all a o ea (fun z => z) t) kp.dom kp.tabs hC
    | stuck => exact fun e => e.elim
/-- how a def that changes its first argument ends -/
def ioC (ls : LS) : Option D := (ls[0]?).bind fun o => o.bind fun d => match d with
  | .io c => some c
  | _ => none
def finIO : Fl → Res (D × D)
  | .nx ls => (opt (ioC ls)).bind fun c => .ok (.non, c)
  | .rt d ls => (opt (ioC ls)).bind fun c => (opt (retD ls d)).bind fun d => .ok (d, c)
  | _ => .stuck
theorem ioC_of {ls : LS} {c : D} (e : ioC ls = some c) : ls[0]? = some (some (.io c)) := by
  unfold ioC at e
  cases q : ls[0]? with
  | none => rw [q] at e; cases e
  | some o =>
    cases o with
    | none => rw [q] at e; cases e
    | some d => rw [q] at e; cases d <;> cases e; rfl
theorem okIO {n : Nat} {body : MS} {fD : FIO} (Fn : Fun K x qual st f fd) (S : FnScope N ps (defScope st)) (hps : ps.length = n + 1)
    (hb : ∀ (cdv : Value) (A : Around) (outer : List Env) (s : Shared) (H : Hp) (E : XK) (G : Gh), Room k (A.deeper (envOfC qual (defScope st) s.heap.objs.size f cdv)) → G.mg = mg → G.tb = tb →
      L2N.Takes (cxOf (L2N.CX P w) P w K mg base N qual (defScope st) f cdv A outer s H E) (fun cls d _ H => G.E cls d H) →
      PassesOwn (model P w) (A.deeper (envOfC qual (defScope st) s.heap.objs.size f cdv)) (envOfC qual (defScope st) s.heap.objs.size f cdv) (cxOf (L2N.CX P w) P w K mg base N qual (defScope st) f cdv A outer s H E).xe →
      DSs (cxOf (L2N.CX P w) P w K mg base N qual (defScope st) f cdv A outer s H E) G (defBody st) body)
    (hD : ∀ c ds, ds.length = n → fD c ds ≠ .stuck → finIO (body (startD N.length (.io c :: ds))) = fD c ds) : FnOk P w K mg base (L2N.CX P w) (k + 1) f fd ps (SpIO mg tb n fD) := by
  refine Fun.okN Fn S (fun vs H Q E h => ?_) (fun cdv A outer s H vs Q E hr h => ?_)
  · obtain ⟨F, c, ds, a, us, rfl, hl, r, _⟩ := h
    rw [List.length_cons, ← r.length, hl, hps]
  · obtain ⟨F, c, ds, a, us, rfl, hl, r, th, ht, m, nf, e⟩ := h
    refine ⟨_, hb cdv A outer s H E ⟨[], H, F, fun b => b = a, mg, E, tb⟩ hr rfl rfl (L2N.takes_of rfl rfl rfl rfl) (passes_of (X := cxOf (L2N.CX P w) P w K mg base N qual (defScope st) f cdv A outer s H E) rfl), F, startD N.length (.io c :: ds), inv_beginIO m nf r th ht, ?_⟩
    have q := hD c ds hl (fun z => by rw [z] at e; exact e)
    rw [← q] at e
    have io : ∀ {F' : FS} {H' : Hp} {ls : LS} {σ' : L2.St} {c' : D}, LInv ⟨[], H, F, fun b => b = a, mg, E, tb⟩ F' ls σ' H' → ioC ls = some c' → RepM F' H' c' (.ref a) := fun L ec => by
      obtain ⟨v, h1, m', b, rfl, nf, h0⟩ := L.slot 0 _ (ioC_of ec)
      have h0 : b = a := h0
      subst h0; exact m'
    revert e
    cases body (startD N.length (.io c :: ds)) with
    | nx ls =>
      intro e F' σ' H' p L
      rw [show finIO (.nx ls) = (opt (ioC ls)).bind fun c => .ok (.non, c) from rfl] at e
      cases ec : ioC ls with
      | none => rw [ec] at e; exact e.elim
      | some c' => rw [ec] at e; exact e F' H' .non (L.callLe p) (io L ec) .non
    | bk ls => exact fun e => e.elim
    | ct ls => exact fun e => e.elim
    | rt d ls =>
      intro e F' σ' H' v p L rx
      rw [show finIO (.rt d ls) = (opt (ioC ls)).bind fun c => (opt (retD ls d)).bind fun d => .ok (d, c) from rfl] at e
      cases ec : ioC ls with
      | none => rw [ec] at e; exact e.elim
      | some c' =>
        cases er : retD ls d with
        | none => rw [ec, er] at e; exact e.elim
        | some d2 => rw [ec, er] at e; exact e F' H' v (L.callLe p) (io L ec) (rx.toQ L er)
    | exc y => exact fun e => e.elim
    | stuck => exact fun e => e.elim
end
end DL

end DLi
section DLj
set_option Elab.async false
set_option linter.all false
set_option autoImplicit false
set_option maxRecDepth 100000
namespace DL
open PySem PySem.Spec PyProof.Rows L2

/-! ### list comprehensions -/
def wipeL (ls : LS) : List Nat → LS
  | [] => ls
  | v :: vs => (wipeL ls vs).set v none
/-- what a slot held is held again, where it is frozen -/
def keepD : Option (Option D) → Option D
  | some (some (.own _)) => none
  | some (some (.io _)) => none
  | some (some (.bor _)) => none
  | some o => o
  | none => none
def backL (ls0 ls1 : LS) : List Nat → LS
  | [] => ls1
  | v :: vs => (backL ls0 ls1 vs).set v (keepD ls0[v]?)
def Res.get? {α : Type} : Res α → Option α
  | .ok x => some x
  | _ => none
def frzv (m : ME) : ME := fun ls => (val m ls).bind fun p => opt (frz p.2 p.1)
def compL (g : MG) (t : MT) (e : ME) (vs : List Nat) : List D → LS → Option (List D × LS)
  | [], ls => some ([], ls)
  | d :: ds, ls => (g d ls).bind fun ls1 => ((t ls1).get?).bind fun p =>
    if p.1 then ((frzv e p.2).get?).bind fun q => (compL g t e vs ds (wipeL q.2 vs)).bind fun r => some (q.1 :: r.1, r.2)
    else compL g t e vs ds (wipeL p.2 vs)
def mComp (mi : MI) (g : MG) (t : MT) (e : ME) (vs : List Nat) : ME := fun ls => (mi ls).bind fun q =>
  (opt (compL g t e vs q.1 (wipeL q.2 vs))).bind fun r => if r.1.length ≤ sizeLine then .ok (.own (.lst r.1), backL q.2 r.2 vs) else .stuck
abbrev Gb (G : Gh) (T : List (D × Addr)) : Gh := { G with T := T, E := fun _ _ _ => False }
section
variable {X : Cx} {G : Gh} {F F' : FS} {H H' : Hp} {ls ls0 : LS} {σ σ' : L2.St}
theorem wipe_out' {vs : List Nat} {i : Nat} (h : i ∉ vs) : (wipe σ vs)[i]? = σ[i]? := by
  induction vs with
  | nil => rfl
  | cons v vs ih =>
    unfold wipe
    rw [List.getElem?_set_ne fun z => h (by rw [z]; exact List.mem_cons_self)]
    exact ih fun z => h (List.mem_cons_of_mem _ z)
theorem wipeL_len (vs : List Nat) : (wipeL ls vs).length = ls.length := by
  induction vs with
  | nil => rfl
  | cons v vs ih => unfold wipeL; rw [List.length_set, ih]
theorem backL_len (vs : List Nat) : (backL ls0 ls vs).length = ls.length := by
  induction vs with
  | nil => rfl
  | cons v vs ih => unfold backL; rw [List.length_set, ih]
theorem wipeL_some {vs : List Nat} {i : Nat} {d : D} (h : (wipeL ls vs)[i]? = some (some d)) : ls[i]? = some (some d) ∧ i ∉ vs := by
  induction vs with
  | nil => exact ⟨h, by simp⟩
  | cons v vs ih =>
    unfold wipeL at h
    by_cases hi : v = i
    · subst hi
      by_cases hv : v < (wipeL ls vs).length
      · rw [List.getElem?_set_self hv] at h; cases h
      · rw [List.getElem?_eq_none (by simpa using hv)] at h; cases h
    · rw [List.getElem?_set_ne hi] at h
      obtain ⟨h1, h2⟩ := ih h
      exact ⟨h1, fun z => by
        rcases List.mem_cons.mp z with z | z
        · exact hi z.symm
        · exact h2 z⟩
theorem backL_some {vs : List Nat} {i : Nat} {d : D} (h : (backL ls0 ls vs)[i]? = some (some d)) : (i ∉ vs ∧ ls[i]? = some (some d)) ∨ (keepD ls0[i]? = some d) := by
  induction vs with
  | nil => exact .inl ⟨by simp, h⟩
  | cons v vs ih =>
    unfold backL at h
    by_cases hi : v = i
    · subst hi
      by_cases hv : v < (backL ls0 ls vs).length
      · rw [List.getElem?_set_self hv] at h; exact .inr (Option.some.inj h)
      · rw [List.getElem?_eq_none (by simpa using hv)] at h; cases h
    · rw [List.getElem?_set_ne hi] at h
      rcases ih h with ⟨h1, h2⟩ | h
      · exact .inl ⟨fun z => by
          rcases List.mem_cons.mp z with z | z
          · exact hi z.symm
          · exact h1 z, h2⟩
      · exact .inr h
theorem keepD_some {o : Option (Option D)} {d : D} (h : keepD o = some d) : o = some (some d) ∧ ¬ Chg d ∧ ∀ i, d ≠ .bor i := by
  cases o with
  | none => cases h
  | some o =>
    cases o with
    | none => cases h
    | some x => cases x <;> cases h <;> exact ⟨rfl, fun z => z, fun _ z => nomatch z⟩
theorem LInv.wipe (L : LInv G F ls σ H) (vs : List Nat) : LInv G F (wipeL ls vs) (L2.wipe σ vs) H where
  keep := L.keep
  slot := fun i d e => by
    obtain ⟨e1, hv⟩ := wipeL_some e
    rw [wipe_out' hv]
    exact L.slot i d e1
  apart := fun i j d d' v ne e1 e2 c1 c2 => by
    obtain ⟨e1, h1⟩ := wipeL_some e1
    obtain ⟨e2, h2⟩ := wipeL_some e2
    rw [wipe_out' h1, wipe_out' h2]
    exact L.apart i j d d' v ne e1 e2 c1 c2
  there := L.there
  fnew := L.fnew
  len := by rw [wipeL_len, wipe_length]; exact L.len
  pin := fun p hp => by
    obtain ⟨m, nf, h0, q⟩ := L.pin p hp
    refine ⟨m, nf, h0, fun i d e c => ?_⟩
    obtain ⟨e1, hv⟩ := wipeL_some e
    rw [wipe_out' hv]
    exact q i d e1 c
/-- behind the block the outer names are what they were -/
theorem LInv.unwipe {G0 : Gh} {F0 : FS} {H0 : Hp} {vs : List Nat} (L0 : LInv G0 F0 ls0 σ H0) (p : Le F0 H0 F H) (L : LInv G F ls (L2.wipe σ vs) H) : LInv G F (backL ls0 ls vs) σ H := by
  have chg : ∀ {i : Nat} {d : D}, (backL ls0 ls vs)[i]? = some (some d) → Chg d → i ∉ vs ∧ ls[i]? = some (some d) := fun {i d} e c => by
    rcases backL_some e with h | h
    · exact h
    · exact absurd c (keepD_some h).2.1
  refine ⟨L.keep, fun i d e => ?_, fun i j d d' v ne e1 e2 c1 c2 => ?_, L.there, L.fnew, ?_, fun q hq => ?_⟩
  · rcases backL_some e with ⟨h1, h2⟩ | h
    · have := L.slot i d h2
      rw [wipe_out' h1] at this; exact this
    · obtain ⟨h1, h2, h3⟩ := keepD_some h
      obtain ⟨v, g1, g2⟩ := L0.slot i d h1
      refine ⟨v, g1, ?_⟩
      cases d with
      | own d => exact absurd trivial h2
      | io d => exact absurd trivial h2
      | bor j => exact absurd rfl (h3 j)
      | non => exact Rep.le p g2
      | bl => exact Rep.le p g2
      | int => exact Rep.le p g2
      | str => exact Rep.le p g2
      | ref => exact Rep.le p g2
      | tup => exact Rep.le p g2
      | lst => exact Rep.le p g2
      | scr => exact Rep.le p g2
      | dct => exact Rep.le p g2
      | ins => cases (show Rep F0 H0 _ _ from g2)
  · obtain ⟨h1, g1⟩ := chg e1 c1
    obtain ⟨h2, g2⟩ := chg e2 c2
    have := L.apart i j d d' v ne g1 g2 c1 c2
    rw [wipe_out' h1, wipe_out' h2] at this; exact this
  · rw [backL_len]
    have := L.len
    rw [wipe_length] at this; exact this
  · obtain ⟨m, nf, h0, z⟩ := L.pin q hq
    refine ⟨m, nf, h0, fun i d e c => ?_⟩
    obtain ⟨h1, g1⟩ := chg e c
    have := z i d g1 c
    rw [wipe_out' h1] at this; exact this
/-- a pinned thing is written -/
theorem LInv.pinwrite {T : List (D × Addr)} {d d' : D} {a : Addr} (L : LInv (G.at' ((d, a) :: T)) F ls σ H) (nt : ∀ p ∈ T, p.2 ≠ a) (c : CallLe G.tb (fun b => b = a) F H F' H') (m : RepM F' H' d' (.ref a)) : LInv (G.at' ((d', a) :: T)) F' ls σ H' := by
  obtain ⟨m0, nf0, h00, q0⟩ := L.pin (d, a) List.mem_cons_self
  have Lt : LInv (G.at' T) F ls σ H := ⟨⟨L.keep.all, L.keep.dom, L.keep.tabs⟩, L.slot, L.apart, L.there, L.fnew, L.len, fun p hp => L.pin p (List.mem_cons_of_mem _ hp)⟩
  have L1 : LInv (G.at' T) F' ls σ H' := Lt.call c (fun b z => by subst z; exact .inr h00) (fun i dj b ej cj hj z => by subst z; exact q0 i dj ej cj hj) (fun p hp z => nt p hp z) L.there
  refine ⟨⟨L1.keep.all, L1.keep.dom, L1.keep.tabs⟩, L1.slot, L1.apart, L1.there, L1.fnew, L1.len, fun p hp => ?_⟩
  rcases List.mem_cons.mp hp with rfl | hp
  · refine ⟨m, fun z => ?_, h00, q0⟩
    rcases c.new _ z with z | z
    · exact nf0 z
    · exact m0.nw z
  · exact L1.pin p hp
theorem callLe_upd {tb : List (Addr × Str)} (ht : LamX.Tabs tb H) {d : D} {a : Addr} {o' : HO} (th : ∀ b, F b → ¬ Nw H b) (m : RepM F H d (.ref a)) (nf : ¬ F a) (no : ∀ ps, o' ≠ .tbl ps := by exact fun _ z => nomatch z) : CallLe tb (fun b => b = a) F H F (upd H a o') := by
  obtain ⟨u, hu, nt⟩ := m.notbl
  have ntup : ∀ vs, H a ≠ some (.tup vs) := fun vs h => by
    cases d with
    | lst xs => obtain ⟨b, ws, e, h', q⟩ := m; cases e; rw [h'] at h; cases h
    | dct kvs =>
      obtain ⟨b, e, h'⟩ := m
      cases e
      rcases h' with ⟨ks, h', q⟩ | ⟨ks, h', q⟩ <;> (rw [h'] at h; cases h)
    | ins C fs => obtain ⟨b, dx, ws, e, h', q⟩ := m; cases e; rw [h'] at h; cases h
    | _ => exact m.elim
  refine ⟨⟨fun _ h => h, ⟨fun b vs h => ?_, fun b w f e => ?_⟩⟩, fun b w e n _ => by rw [upd_ne n]; exact e, fun b e => ?_, fun b f => .inl f, fun b f => ?_, fun p hp => ?_⟩
  · have hb : b ≠ a := fun z => by subst z; exact ntup vs h
    rw [upd_ne hb]; exact h
  · rw [upd_ne fun z => nf (by rw [← z]; exact f)]; exact e
  · by_cases hb : b = a
    · subst hb; obtain ⟨ps, z⟩ := e o' upd_same; exact absurd z (no ps)
    · exact fun o h => e o (by rw [upd_ne hb]; exact h)
  · by_cases hb : b = a
    · subst hb; exact absurd f nf
    · exact fun n => th b f fun o h => n o (by rw [upd_ne hb]; exact h)
  · obtain ⟨ps, h1, h2, h3⟩ := ht p hp
    refine ⟨ps, by rw [upd_ne fun z => nt ps (by rw [← z, h1] at hu; exact (Option.some.inj hu).symm)]; exact h1, h2, fun pos cv hc => ?_⟩
    obtain ⟨c, e1, e2⟩ := h3 pos cv hc
    refine ⟨c, e1, ?_⟩
    rw [upd_ne fun z => ?_]; exact e2
    subst z
    cases d with
    | lst xs => obtain ⟨b, ws, e, h', q⟩ := m; cases e; rw [h'] at e2; cases e2
    | dct kvs =>
      obtain ⟨b, e, h'⟩ := m
      cases e
      rcases h' with ⟨ks, h', q⟩ | ⟨ks, h', q⟩ <;> (rw [h'] at e2; cases e2)
    | ins C fs => obtain ⟨b, dx, ws, e, h', q⟩ := m; cases e; rw [h'] at e2; cases e2
    | _ => exact m.elim
theorem RepP.toX {d : D} {v : V} (L : LInv G F ls σ H) (r : RepP F H H' d v) : RepX G F H' ls σ d v := by
  cases d with
  | own d =>
    obtain ⟨m, a, e, n⟩ := r
    refine ⟨m, ⟨a, e, fun f => L.there a f (.of n), L.keep.dom a (.of n)⟩, fun i d' e1 c q => ?_, fun p hp z => ?_⟩
    · obtain ⟨u, h1, h2⟩ := L.slot i d' e1
      obtain ⟨b, d2, e2, _, m2, _⟩ := h2.at c
      rw [h1] at q; cases q; rw [e2] at e; cases e
      exact m2.there n
    · rw [e] at z; cases z
      exact (L.pin p hp).1.there n
  | io d => exact r.elim
  | bor i => exact r.elim
  | non => exact r
  | bl => exact r
  | int => exact r
  | str => exact r
  | ref => exact r
  | tup => exact r
  | lst => exact r
  | scr => exact r
  | dct => exact r
  | ins => exact r
theorem wipe_in {vs : List Nat} {i : Nat} (h : i ∈ vs) : (wipe σ vs)[i]? = if i < σ.length then some none else none := by
  induction vs with
  | nil => cases h
  | cons v vs ih =>
    unfold wipe
    by_cases hi : v = i
    · subst hi
      by_cases hl : v < σ.length
      · rw [List.getElem?_set_self (by rw [wipe_length]; exact hl), if_pos hl]
      · rw [List.getElem?_eq_none (by rw [List.length_set, wipe_length]; omega), if_neg hl]
    · rw [List.getElem?_set_ne hi]
      rcases List.mem_cons.mp h with z | z
      · exact absurd z.symm hi
      · exact ih z
theorem wipe_but {ks vs : List Nat} (hk : ∀ k ∈ ks, k ∈ vs) (b : But ks (wipe σ vs) σ') : wipe σ' vs = wipe σ vs := by
  have hl : σ'.length = σ.length := by rw [b.1, wipe_length]
  refine List.ext_getElem? fun i => ?_
  by_cases h : i ∈ vs
  · rw [wipe_in h, wipe_in h, hl]
  · rw [wipe_out' h, b.2 i (fun z => h (hk i z))]
theorem Reps.append : ∀ {ds es : List D} {vs us : List V}, Reps F H ds vs → Reps F H es us → Reps F H (ds ++ es) (vs ++ us)
  | _, _, _, _, .nil, r => r
  | _, _, _, _, .cons q qs, r => .cons q (Reps.append qs r)
theorem frzv_imp {m : ME} {x : D} {ls' : LS} {Q' : VK} (L : LInv G F ls σ H) (e : frzv m ls = .ok (x, ls')) (h : ∀ F1 H1 v, Le F H F1 H1 → LInv G F1 ls' σ H1 → Rep F1 H1 x v → Q' v H1) : tOf G m σ H Q' := by
  refine ⟨F, ls, L, ?_⟩
  unfold frzv val at e
  revert e
  cases m ls with
  | exc x => exact fun e => nomatch e
  | stuck => exact fun e => nomatch e
  | ok p =>
    obtain ⟨d, ls1⟩ := p
    intro e F1 H1 v p1 L1 r
    have e : ((opt (stl d)).bind fun x => Res.ok (x, ls1)).bind (fun p => opt (frz p.2 p.1)) = .ok (x, ls') := e
    cases e1 : stl d with
    | none => rw [e1] at e; cases e
    | some y =>
      rw [e1] at e
      have e : opt (frz ls1 y) = .ok (x, ls') := e
      cases e2 : frz ls1 y with
      | none => rw [e2] at e; cases e
      | some z =>
        rw [e2] at e; cases e
        obtain ⟨F2, p2, L2, r2⟩ := settle L1 r e1
        obtain ⟨F3, p3, L3, r3⟩ := frz_ok L2 r2 e2
        exact h F3 H1 v ((p1.trans p2).trans p3) L3 r3 |> fun q => q
theorem get?_some {α : Type} {r : Res α} {x : α} (h : r.get? = some x) : r = .ok x := by
  cases r with
  | ok y => cases h; rfl
  | exc y => cases h
  | stuck => cases h
def gAny (G : Gh) (g : MG) (ks : List Nat) : TG := fun v σ H Q => ∃ T, tOfG (Gb G T) g ks v σ H Q
def tAny (G : Gh) (t : MT) : TT := fun σ H Q => ∃ T, tOfT (Gb G T) t σ H Q
def eAny (G : Gh) (m : ME) : TE := fun σ H Q => ∃ T, tOf (Gb G T) m σ H Q
theorem LInv.gb {T : List (D × Addr)} (L : LInv (G.at' T) F ls σ H) : LInv (Gb G T) F ls σ H := ⟨⟨L.keep.all, L.keep.dom, L.keep.tabs⟩, L.slot, L.apart, L.there, L.fnew, L.len, L.pin⟩
theorem LInv.ungb {T : List (D × Addr)} (L : LInv (Gb G T) F ls σ H) : LInv (G.at' T) F ls σ H := ⟨⟨L.keep.all, L.keep.dom, L.keep.tabs⟩, L.slot, L.apart, L.there, L.fnew, L.len, L.pin⟩
theorem mComp_imp {mi : MI} {g : MG} {t : MT} {e : ME} {ks vs : List Nat} (hk : ∀ k ∈ ks, k ∈ vs) (σ : L2.St) (H : Hp) (Q : VK) (q : tOf G (mComp mi g t e vs) σ H Q) : tLc (tOfI G mi) (gAny G g ks) (tAny G t) (eAny G e) vs σ H Q := by
  obtain ⟨F, ls, L, o⟩ := q
  refine ⟨F, ls, L, ?_⟩
  unfold mComp at o
  revert o
  cases mi ls with
  | exc x => exact fun o => o
  | stuck => exact fun o => o
  | ok q =>
    obtain ⟨ds, ls1⟩ := q
    intro o F1 H1 J p1 L1 it P hP
    have o : Out G ((opt (compL g t e vs ds (wipeL ls1 vs))).bind fun r => if r.1.length ≤ sizeLine then .ok (.own (.lst r.1), backL ls1 r.2 vs) else .stuck) F σ H Q := o
    cases ec : compL g t e vs ds (wipeL ls1 vs) with
    | none => rw [ec] at o; exact o.elim
    | some r =>
      obtain ⟨xs, lsE⟩ := r
      rw [ec] at o
      have o : Out G (if xs.length ≤ sizeLine then Res.ok (D.own (.lst xs), backL ls1 lsE vs) else .stuck) F σ H Q := o
      have hsz : xs.length ≤ sizeLine := by
        by_cases h : xs.length ≤ sizeLine
        · exact h
        · rw [if_neg h] at o; exact o.elim
      rw [if_pos hsz] at o
      have nP : ∀ p ∈ G.T, p.2 ≠ P := fun p hp z => (L1.pin p hp).1.there (by rw [z]; exact hP)
      have s0 : Same H1 (upd H1 P (.lst [])) := same_upd hP
      have L0 : LInv (G.at' ((.lst [], P) :: G.T)) F1 ls1 σ (upd H1 P (.lst [])) :=
        (L1.same s0).topin (RepP.toX L1 ⟨⟨P, [], rfl, upd_same, .nil⟩, P, rfl, hP⟩)
      refine ⟨fun i m H' => m = ds.length - i ∧ i ≤ ds.length ∧ ∃ F' ls' acc rest, Le F1 H1 F' H' ∧ LInv (G.at' ((.lst acc, P) :: G.T)) F' ls' (wipe σ vs) H' ∧ compL g t e vs (ds.drop i) ls' = some (rest, lsE) ∧ acc ++ rest = xs,
        ⟨ds.length, by simp, Nat.zero_le _, F1, wipeL ls1 vs, [], xs, Le.same s0, L0.wipe vs, ec, rfl⟩, ?_⟩
      rintro i m H2 ⟨rfl, hi, F2, ls2, acc, rest, p2, L2, e2, ea⟩
      by_cases hlt : i < ds.length
      · refine .inr ⟨it.go i F2 H2 p2 hlt, fun H' => ∃ F' ls' acc rest, Le F1 H1 F' H' ∧ LInv (G.at' ((.lst acc, P) :: G.T)) F' ls' (wipe σ vs) H' ∧ compL g t e vs (ds.drop (i + 1)) ls' = some (rest, lsE) ∧ acc ++ rest = xs,
          fun H' ⟨F', ls', acc, rest, a, b, c, d⟩ => ⟨ds.length - (i + 1), by omega, rfl, hlt, F', ls', acc, rest, a, b, c, d⟩, fun x H3 y => ?_⟩
        rw [List.drop_eq_getElem_cons hlt] at e2
        have hd : ds[i]? = some ds[i] := List.getElem?_eq_getElem hlt
        obtain ⟨sm, rx⟩ := it.yld i F2 H2 x H3 _ p2 y hd
        unfold compL at e2
        cases e3 : g ds[i] ls2 with
        | none => rw [e3] at e2; cases e2
        | some ls3 =>
          rw [e3] at e2
          dsimp only [Option.bind] at e2
          refine ⟨(.lst acc, P) :: G.T, F2, ls2, _, ls3, (L2.same sm).gb, rx.z, e3, fun F4 σ4 H4 p4 L4 b4 => ?_⟩
          have p24 : Le F2 H2 F4 H4 := (Le.same sm).trans p4
          refine ⟨wipe_but hk b4, (.lst acc, P) :: G.T, F4, ls3, L4, ?_⟩
          cases e4 : (t ls3).get? with
          | none => rw [e4] at e2; cases e2
          | some q =>
            obtain ⟨b, ls4⟩ := q
            rw [e4] at e2
            rw [get?_some e4]
            intro F5 H5 p5 L5
            dsimp only at e2
            cases b with
            | false =>
              rw [if_neg Bool.false_ne_true] at e2 ⊢
              exact ⟨F5, wipeL ls4 vs, acc, rest, (p2.trans p24).trans p5, by rw [← wipe_but hk b4]; exact L5.ungb.wipe vs, e2, ea⟩
            | true =>
              rw [if_pos rfl] at e2 ⊢
              cases e5 : (frzv e ls4).get? with
              | none => rw [e5] at e2; cases e2
              | some q =>
                obtain ⟨z, ls5⟩ := q
                rw [e5] at e2
                dsimp only at e2
                cases e6 : compL g t e vs (ds.drop (i + 1)) (wipeL ls5 vs) with
                | none => rw [e6] at e2; cases e2
                | some q =>
                  obtain ⟨rest2, lsE2⟩ := q
                  rw [e6] at e2
                  cases e2
                  refine ⟨(.lst acc, P) :: G.T, frzv_imp L5 (get?_some e5) fun F6 H6 v p6 L6 r6 => ?_⟩
                  obtain ⟨m6, nf6, h06, q6⟩ := L6.ungb.pin (.lst acc, P) List.mem_cons_self
                  have m6' := m6
                  obtain ⟨a, ws, ea6, h6, r6s⟩ := m6'
                  cases ea6
                  have hlen : acc.length < sizeLine := by
                    have := congrArg List.length ea
                    rw [List.length_append, List.length_cons] at this
                    omega
                  refine ⟨ws, h6, by rw [← r6s.length]; exact hlen, F6, wipeL ls5 vs, acc ++ [z], rest2, ?_, ?_, e6, by rw [List.append_assoc]; exact ea⟩
                  · exact (((p2.trans p24).trans p5).trans p6).trans (callLe_upd L6.keep.tabs L6.there m6 nf6).le
                  · have cl := callLe_upd L6.keep.tabs (o' := .lst (ws ++ [v])) L6.there m6 nf6
                    rw [← wipe_but hk b4]
                    exact (L6.ungb.pinwrite (d' := .lst (acc ++ [z])) nP cl ⟨P, ws ++ [v], rfl, upd_same, (r6s.le cl.le).append (.cons (r6.le cl.le) .nil)⟩).wipe vs
      · have ei : i = ds.length := by omega
        subst ei
        rw [List.drop_length] at e2
        cases e2
        rw [List.append_nil] at ea
        subst ea
        refine .inl ⟨it.stop F2 H2 p2, ?_⟩
        have L3 : LInv (G.at' ((.lst acc, P) :: G.T)) F2 (backL ls1 lsE vs) σ H2 := LInv.unwipe L1 p2 L2
        exact o F2 H2 (.ref P) (p1.trans p2) (L3.unpin fun p hp => List.mem_cons_of_mem _ hp) (RepZ.ofX (LInv.back L3 List.mem_cons_self fun p hp z => nP p hp z.symm))
/-- [elt for tg in iter if ..] -/
theorem de_lc {elt tg iter : Expr} {ifs : List Expr} {scope : Scope} {own : List (Str × Nat)} {pos : Pos} {mi : MI} {g : MG} {t : MT} {e : ME} {ks : List Nat} (hc : X.calm = true) (hN : X.N.Nodup) (hi : DI X G tg iter mi) (ok : BlkOk X.N X.env.scope scope own) (hk : ∀ k ∈ ks, k ∈ own.map (·.2))
    (hg : ∀ (s : Shared) (H : Hp) (C : Addr) (cl : List (Str × Addr)) (fp : List Addr) (T : List (D × Addr)), DG (X.blk s H scope (compEnvC scope cl C X.env) fp) (Gb G T) tg g ks)
    (ht : ∀ (s : Shared) (H : Hp) (C : Addr) (cl : List (Str × Addr)) (fp : List Addr) (T : List (D × Addr)), PTs (X.blk s H scope (compEnvC scope cl C X.env) fp) ifs (tOfT (Gb G T) t))
    (he : ∀ (s : Shared) (H : Hp) (C : Addr) (cl : List (Str × Addr)) (fp : List Addr) (T : List (D × Addr)), DE (X.blk s H scope (compEnvC scope cl C X.env) fp) (Gb G T) elt e) (hs : ∀ x, foldedSetIterable iter X.env x = pure x := by intro _; rfl) :
    DE X G (.ListComp elt [⟨tg, iter, ifs, 0⟩] scope pos) (mComp mi g t e (own.map (·.2))) :=
  pe_imp (pe_lc hc hN hi ok (fun s H C cl fp => ⟨fun pins s' σ H' v u Q I r ⟨T, q⟩ => (hg s H C cl fp T).run pins s' σ H' v u Q I r q⟩)
    (fun s H C cl fp => ⟨fun pins s' σ H' Q I ⟨T, q⟩ => (ht s H C cl fp T).run pins s' σ H' Q I q⟩) (fun s H C cl fp => pe_any fun T => he s H C cl fp T) hs) (mComp_imp hk)
end
end DL

end DLj
section DLk
set_option Elab.async false
set_option linter.all false
set_option autoImplicit false
set_option maxRecDepth 100000
namespace DL
open PySem PySem.Spec PyProof.Rows L2

section
variable {X : Cx} {G : Gh} {F F' : FS} {H H' : Hp} {ls : LS} {σ : L2.St} {e tg : Expr} {es : List Expr}
/-! ### what may be walked -/
theorem tOf.firstI {ma : ME} {f : D × LS → Res (List D × LS)} {R : It → Hp → Prop} (L : LInv G F ls σ H) (o : OutI G ((frzv ma ls).bind f) F σ H R)
    {Q' : VK} (h : ∀ F1 H1 ls1 d v, Le F H F1 H1 → LInv G F1 ls1 σ H1 → Rep F1 H1 d v → OutI G (f (d, ls1)) F1 σ H1 R → Q' v H1) : tOf G ma σ H Q' := by
  have later : ∀ {r : Res (List D × LS)} {F' : FS} {H' : Hp}, Le F H F' H' → OutI G r F σ H R → OutI G r F' σ H' R := fun {r F' H'} p o => by
    cases r with
    | ok x => obtain ⟨d, ls⟩ := x; exact fun F2 H2 J q => o F2 H2 J (p.trans q)
    | exc x => exact o
    | stuck => exact o
  cases e : frzv ma ls with
  | ok p =>
    obtain ⟨d, ls1⟩ := p
    rw [e] at o
    exact frzv_imp L e fun F1 H1 v p1 L1 r1 => h F1 H1 ls1 d v p1 L1 r1 (later p1 o)
  | exc x =>
    rw [e] at o
    refine ⟨F, ls, L, ?_⟩
    unfold frzv val at e
    revert e
    cases ma ls with
    | exc y => intro e; cases e; exact o
    | stuck => exact fun e => nomatch e
    | ok q =>
      intro e
      have e : ((opt (stl q.1)).bind fun x => Res.ok (x, q.2)).bind (fun p => opt (frz p.2 p.1)) = .exc x := e
      cases e1 : stl q.1 with
      | none => rw [e1] at e; cases e
      | some y =>
        rw [e1] at e
        have e : opt (frz q.2 y) = .exc x := e
        cases e2 : frz q.2 y <;> (rw [e2] at e; cases e)
  | stuck => rw [e] at o; exact o.elim
def seqOf : D → Option (List D)
  | .lst xs => some xs
  | .tup xs => some xs
  | _ => none
def iSeq (m : ME) : MI := fun ls => (frzv m ls).bind fun p => (opt (seqOf p.1)).bind fun xs => .ok (xs, p.2)
theorem itd_list {K : PySem.W.Frag} {a : Addr} {ds : List D} {vs : List V} (f : F a) (h : H a = some (.lst vs)) (r : Reps F H ds vs) : ItD (Itl K a) F H ds where
  go := fun i F' H' p hi => ⟨vs, vs[i]'(by rw [← r.length]; exact hi), .inl (.inl (p.st.frz _ _ f h)), List.getElem?_eq_getElem _⟩
  yld := fun i F' H' x H'' d p y hd => by
    obtain ⟨e1, y⟩ := y
    subst e1
    obtain ⟨v, h1, h2⟩ := r.get hd
    have := y vs (.inl (.inl (p.st.frz _ _ f h)))
    rw [h1] at this; cases this
    exact ⟨Same.refl _, h2.le p⟩
  stop := fun F' H' p => ⟨vs, .inl (.inl (p.st.frz _ _ f h)), by rw [r.length]; exact Nat.le_refl _⟩
theorem itd_tup {K : PySem.W.Frag} {a : Addr} {ds : List D} {vs : List V} (h : H a = some (.tup vs)) (r : Reps F H ds vs) : ItD (Itt K a) F H ds where
  go := fun i F' H' p hi => ⟨vs, vs[i]'(by rw [← r.length]; exact hi), .inl (.inl (p.st.tup _ _ h)), List.getElem?_eq_getElem _⟩
  yld := fun i F' H' x H'' d p y hd => by
    obtain ⟨e1, y⟩ := y
    subst e1
    obtain ⟨v, h1, h2⟩ := r.get hd
    have := y vs (.inl (.inl (p.st.tup _ _ h)))
    rw [h1] at this; cases this
    exact ⟨Same.refl _, h2.le p⟩
  stop := fun F' H' p => ⟨vs, .inl (.inl (p.st.tup _ _ h)), by rw [r.length]; exact Nat.le_refl _⟩
theorem frzv_exc {m : ME} {ls : LS} {x : Str} (e : frzv m ls = .exc x) : m ls = .exc x := by
  unfold frzv val at e
  revert e
  cases m ls with
  | exc y => intro e; cases e; rfl
  | stuck => exact fun e => nomatch e
  | ok q =>
    intro e
    have e : ((opt (stl q.1)).bind fun x => Res.ok (x, q.2)).bind (fun p => opt (frz p.2 p.1)) = .exc x := e
    cases e1 : stl q.1 with
    | none => rw [e1] at e; cases e
    | some y =>
      rw [e1] at e
      have e : opt (frz q.2 y) = .exc x := e
      cases e2 : frz q.2 y <;> (rw [e2] at e; cases e)
/-- a list or a tuple, walked -/
theorem di_seq {m : ME} (he : DE X G e m) : DI X G tg e (iSeq m) := by
  refine ⟨fun pins s σ H R I q => ?_⟩
  obtain ⟨F, ls, L, o⟩ := q
  unfold iSeq at o
  cases e1 : frzv m ls with
  | stuck => rw [e1] at o; exact o.elim
  | exc x =>
    rw [e1] at o
    exact (pi_list (tg := tg) he).run pins s σ H R I ⟨F, ls, L, by rw [frzv_exc e1]; exact o⟩
  | ok p =>
    obtain ⟨d, ls1⟩ := p
    rw [e1] at o
    have o : OutI G ((opt (seqOf d)).bind fun xs => .ok (xs, ls1)) F σ H R := o
    cases d with
    | lst xs =>
      refine (pi_list (tg := tg) he).run pins s σ H R I (frzv_imp L e1 fun F1 H1 v p1 L1 r1 => ?_)
      cases r1 with
      | lst f h r => exact ⟨_, rfl, ⟨_, .inl (.inl h)⟩, o F1 H1 _ p1 L1 (itd_list f h r)⟩
    | tup xs =>
      refine (pi_tup (tg := tg) he).run pins s σ H R I (frzv_imp L e1 fun F1 H1 v p1 L1 r1 => ?_)
      cases r1 with
      | tup h r => exact ⟨_, rfl, ⟨_, .inl (.inl h)⟩, o F1 H1 _ p1 L1 (itd_tup h r)⟩
    | _ => exact o.elim

/-! range -/
theorem tOfA.firstI {R : It → Hp → Prop} {Q' : List V → Hp → Prop} {ma : MA} {f : List D × LS → Res (List D × LS)} (L : LInv G F ls σ H) (o : OutI G ((ma ls).bind f) F σ H R)
    (h : ∀ F1 H1 ls1 ds vs, Le F H F1 H1 → LInv G F1 ls1 σ H1 → RepYs F1 H1 σ ds vs → OutI G (f (ds, ls1)) F1 σ H1 R → Q' vs H1) : tOfA G ma σ H Q' := by
  refine ⟨F, ls, L, ?_⟩
  revert o
  cases ma ls with
  | ok x =>
    obtain ⟨d, ls1⟩ := x
    intro o F1 H1 vs p L1 r
    refine h F1 H1 ls1 d vs p L1 r ?_
    have o : OutI G (f (d, ls1)) F σ H R := o
    revert o
    cases f (d, ls1) with
    | ok x => obtain ⟨d, ls⟩ := x; exact fun o F2 H2 J q => o F2 H2 J (p.trans q)
    | exc x => exact fun o => o
    | stuck => exact fun o => o
  | exc x => exact fun o => o
  | stuck => exact fun o => o
def intsUp (lo : Int) (n : Nat) : List D := (List.range n).map fun i => .int (lo + (i : Nat))
theorem itd_range {lo : Int} {n : Nat} : ItD (Itr lo n) F H (intsUp lo n) where
  go := fun i F' H' p hi => by
    have : i < n := by simpa [intsUp] using hi
    exact this
  yld := fun i F' H' x H'' d p y hd => by
    obtain ⟨e1, e2⟩ := y
    subst e1 e2
    unfold intsUp at hd
    rw [List.getElem?_map] at hd
    by_cases hi : i < n
    · rw [List.getElem?_range hi] at hd
      cases hd
      exact ⟨Same.refl _, .int _⟩
    · rw [List.getElem?_eq_none (by simpa using hi)] at hd; cases hd
  stop := fun F' H' p => by show n ≤ (intsUp lo n).length; simp [intsUp]
def inB (i : Int) : Prop := -(2 ^ 62) ≤ i ∧ i < 2 ^ 62
instance (i : Int) : Decidable (inB i) := inferInstanceAs (Decidable (_ ∧ _))
def iRange (ms : MA) : MI := fun ls => (ms ls).bind fun q => match sees q.2 q.1 with
  | some [.int n] => if inB n then .ok (intsUp 0 n.toNat, q.2) else .stuck
  | some [.int a, .int b] => if inB a ∧ inB b then .ok (intsUp a (b - a).toNat, q.2) else .stuck
  | _ => .stuck
theorem RepR.isInt {i : Int} {v : V} (r : RepR F H (.int i) v) : v = .int i := by
  rcases r with r | r
  · cases r; rfl
  · exact r.elim
theorem RepRs.one {d : D} {vs : List V} (r : RepRs F H [d] vs) : ∃ v, vs = [v] ∧ RepR F H d v := by
  cases r with
  | cons a b => cases b; exact ⟨_, rfl, a⟩
theorem RepRs.two {d e : D} {vs : List V} (r : RepRs F H [d, e] vs) : ∃ v w, vs = [v, w] ∧ RepR F H d v ∧ RepR F H e w := by
  cases r with
  | cons a b => obtain ⟨w, rfl, c⟩ := b.one; exact ⟨_, _, rfl, a, c⟩
theorem RepRs.three {d e f : D} {vs : List V} (r : RepRs F H [d, e, f] vs) : ∃ v w u, vs = [v, w, u] ∧ RepR F H d v ∧ RepR F H e w ∧ RepR F H f u := by
  cases r with
  | cons a b => obtain ⟨w, u, rfl, c, d⟩ := b.two; exact ⟨_, _, _, rfl, a, c, d⟩
theorem RepRs.length {F : FS} {H : Hp} : ∀ {ds : List D} {vs : List V}, RepRs F H ds vs → ds.length = vs.length
  | _, _, .nil => rfl
  | _, _, .cons _ r => by rw [List.length_cons, List.length_cons, RepRs.length r]
theorem RepYs.length {F : FS} {H : Hp} : ∀ {ds : List D} {vs : List V}, RepYs F H σ ds vs → ds.length = vs.length
  | _, _, .nil => rfl
  | _, _, .cons _ r => by rw [List.length_cons, List.length_cons, RepYs.length r]
theorem di_range1 {a : Expr} {ms : MA} {p pos : Pos} (hg : Gl X "range") (hm : X.mg "range" = none) (ha : DA X G [a] ms) (h1 : ∀ ls ds ls', ms ls = .ok (ds, ls') → ds.length = 1) (hs : starEach [a] X.env = [(false, eval a X.env)] := by rfl) : DI X G tg (.Call (.Name "range" p) [a] [] pos) (iRange ms) :=
  pi_imp (pi_range1 hg hm ha hs) fun σ H R ⟨F, ls, L, o⟩ => by
    have hl := h1 ls
    unfold iRange at o
    refine ⟨F, ls, L, ?_⟩
    revert o hl
    cases ms ls with
    | exc x => exact fun o _ => o
    | stuck => exact fun o _ => o
    | ok x =>
      obtain ⟨ds, ls1⟩ := x
      intro o hl F1 H1 vs p L1 r
      have hl := hl ds ls1 rfl
      have o : OutI G (match sees ls1 ds with
        | some [.int n] => if inB n then Res.ok (intsUp 0 n.toNat, ls1) else .stuck
        | some [.int a, .int b] => if inB a ∧ inB b then Res.ok (intsUp a (b - a).toNat, ls1) else .stuck
        | _ => .stuck) F σ H R := o
      split at o
      · rename_i n e1
        obtain ⟨v, rfl, rv⟩ := (sees_rep L1 r e1).one
        rw [rv.isInt]
        by_cases hb : inB n
        · rw [if_pos hb] at o
          exact ⟨n, rfl, hb.1, hb.2, o F1 H1 _ p L1 itd_range⟩
        · rw [if_neg hb] at o; exact o.elim
      · rename_i n m e1
        have := (sees_rep L1 r e1).length
        rw [← r.length, hl] at this; cases this
      · exact o.elim
theorem di_range2 {a b : Expr} {ms : MA} {p pos : Pos} (hg : Gl X "range") (hm : X.mg "range" = none) (ha : DA X G [a, b] ms) (h1 : ∀ ls ds ls', ms ls = .ok (ds, ls') → ds.length = 2) (hs : starEach [a, b] X.env = [(false, eval a X.env), (false, eval b X.env)] := by rfl) (hs2 : starEach [b] X.env = [(false, eval b X.env)] := by rfl) : DI X G tg (.Call (.Name "range" p) [a, b] [] pos) (iRange ms) :=
  pi_imp (pi_range2 hg hm ha hs hs2) fun σ H R ⟨F, ls, L, o⟩ => by
    have hl := h1 ls
    unfold iRange at o
    refine ⟨F, ls, L, ?_⟩
    revert o hl
    cases ms ls with
    | exc x => exact fun o _ => o
    | stuck => exact fun o _ => o
    | ok x =>
      obtain ⟨ds, ls1⟩ := x
      intro o hl F1 H1 vs p L1 r
      have hl := hl ds ls1 rfl
      have o : OutI G (match sees ls1 ds with
        | some [.int n] => if inB n then Res.ok (intsUp 0 n.toNat, ls1) else .stuck
        | some [.int a, .int b] => if inB a ∧ inB b then Res.ok (intsUp a (b - a).toNat, ls1) else .stuck
        | _ => .stuck) F σ H R := o
      split at o
      · rename_i n e1
        have := (sees_rep L1 r e1).length
        rw [← r.length, hl] at this; cases this
      · rename_i n m e1
        obtain ⟨v, w, rfl, rv, rw'⟩ := (sees_rep L1 r e1).two
        rw [rv.isInt, rw'.isInt]
        by_cases hb : inB n ∧ inB m
        · rw [if_pos hb] at o
          exact ⟨n, m, rfl, ⟨hb.1.1, hb.1.2, hb.2.1, hb.2.2⟩, o F1 H1 _ p L1 itd_range⟩
        · rw [if_neg hb] at o; exact o.elim
      · exact o.elim
theorem aNil_len (ls : LS) (ds : List D) (ls' : LS) (e : aNil ls = .ok (ds, ls')) : ds.length = 0 := by cases e; rfl
theorem aCons_len {m : ME} {ms : MA} {n : Nat} (h : ∀ ls ds ls', ms ls = .ok (ds, ls') → ds.length = n) (ls : LS) (ds : List D) (ls' : LS) (e : aCons m ms ls = .ok (ds, ls')) : ds.length = n + 1 := by
  unfold aCons at e
  cases e1 : val m ls with
  | exc x => rw [e1] at e; cases e
  | stuck => rw [e1] at e; cases e
  | ok p =>
    rw [e1] at e
    have e : (ms p.2).bind (fun q => Res.ok (p.1 :: q.1, q.2)) = .ok (ds, ls') := e
    cases e2 : ms p.2 with
    | exc x => rw [e2] at e; cases e
    | stuck => rw [e2] at e; cases e
    | ok q => rw [e2] at e; cases e; rw [List.length_cons, h p.2 q.1 q.2 e2]
end
end DL

end DLk
section DLl
set_option Elab.async false
set_option linter.all false
set_option autoImplicit false
set_option maxRecDepth 100000
namespace DL
open PySem PySem.Spec PyProof.Rows L2

section
variable {X : Cx} {G : Gh} {F F' : FS} {H H' : Hp} {ls : LS} {σ : L2.St} {e tg : Expr} {es : List Expr} {Z : Ends}
/-! ### stores into what a slot holds -/
theorem tOf.frozen1 {ma : ME} {f : D × LS → RD} {Q : VK} (L : LInv G F ls σ H) (o : Out G ((frzv ma ls).bind f) F σ H Q)
    {Q' : VK} (h : ∀ F1 H1 ls1 d v, Le F H F1 H1 → LInv G F1 ls1 σ H1 → Rep F1 H1 d v → Out G (f (d, ls1)) F1 σ H1 Q → Q' v H1) : tOf G ma σ H Q' := by
  cases e : frzv ma ls with
  | ok p =>
    obtain ⟨d, ls1⟩ := p
    rw [e] at o
    exact frzv_imp L e fun F1 H1 v p1 L1 r1 => h F1 H1 ls1 d v p1 L1 r1 (Out.later p1 o)
  | exc x => rw [e] at o; exact ⟨F, ls, L, by rw [frzv_exc e]; exact o⟩
  | stuck => rw [e] at o; exact o.elim
theorem tOf.frozen1S {ma : ME} {f : D × LS → Fl} (L : LInv G F ls σ H) (o : OutS G ((frzv ma ls).fl f) F H Z)
    {Q' : VK} (h : ∀ F1 H1 ls1 d v, Le F H F1 H1 → LInv G F1 ls1 σ H1 → Rep F1 H1 d v → OutS G (f (d, ls1)) F1 H1 Z → Q' v H1) : tOf G ma σ H Q' := by
  cases e : frzv ma ls with
  | ok p =>
    obtain ⟨d, ls1⟩ := p
    rw [e] at o
    exact frzv_imp L e fun F1 H1 v p1 L1 r1 => h F1 H1 ls1 d v p1 L1 r1 (OutS.later p1 o)
  | exc x => rw [e] at o; exact ⟨F, ls, L, by rw [frzv_exc e]; exact o⟩
  | stuck => rw [e] at o; exact o.elim
/-- the list that slot i holds; whether it is the def's own -/
def slotL (ls : LS) (i : Nat) : Option (Bool × List D) := (ls[i]?).bind fun o => o.bind fun d => match d with
  | .own (.lst xs) => some (true, xs)
  | .io (.lst xs) => some (false, xs)
  | _ => none
def putL (b : Bool) (xs : List D) : D := if b then .own (.lst xs) else .io (.lst xs)
theorem slotL_at {i : Nat} {b : Bool} {xs : List D} (L : LInv G F ls σ H) (e : slotL ls i = some (b, xs)) : ∃ (w : D → D) (a : Addr) (vs : List V), (w = .own ∨ w = .io) ∧ (∀ ys, putL b ys = w (.lst ys)) ∧ ls[i]? = some (some (w (.lst xs))) ∧ σ[i]? = some (some (.ref a)) ∧ H a = some (.lst vs) ∧ Reps F H xs vs ∧ ¬ F a := by
  unfold slotL at e
  cases q : ls[i]? with
  | none => rw [q] at e; cases e
  | some o =>
    cases o with
    | none => rw [q] at e; cases e
    | some d =>
      rw [q] at e
      obtain ⟨v, h1, h2⟩ := L.slot i d q
      cases d with
      | own d =>
        cases d <;> cases e
        obtain ⟨a, d', rfl, ed, m, nf⟩ := h2.at (by exact trivial)
        obtain ⟨m, _⟩ := h2
        obtain ⟨a', vs, e', h, r⟩ := m
        cases e'
        exact ⟨.own, _, vs, .inl rfl, fun _ => rfl, rfl, h1, h, r, nf⟩
      | io d =>
        cases d <;> cases e
        obtain ⟨a, d', rfl, ed, m, nf⟩ := h2.at (by exact trivial)
        obtain ⟨m, _⟩ := h2
        obtain ⟨a', vs, e', h, r⟩ := m
        cases e'
        exact ⟨.io, _, vs, .inr rfl, fun _ => rfl, rfl, h1, h, r, nf⟩
      | _ => cases e
/-- the slot's list is written -/
theorem LInv.writeL {i : Nat} {w : D → D} {a : Addr} {xs ys : List D} {vs us : List V} (L : LInv G F ls σ H) (hw : w = .own ∨ w = .io) (e : ls[i]? = some (some (w (.lst xs)))) (hs : σ[i]? = some (some (.ref a))) (h : H a = some (.lst vs)) (r : Reps F H xs vs) (nf : ¬ F a) (r' : Reps F H ys us) :
    Le F H F (upd H a (.lst us)) ∧ LInv G F (ls.set i (some (w (.lst ys)))) σ (upd H a (.lst us)) := by
  have c : CallLe G.tb (fun b => b = a) F H F (upd H a (.lst us)) := callLe_upd L.keep.tabs (d := .lst xs) L.there ⟨a, vs, rfl, h, r⟩ nf
  exact ⟨c.le, L.write (d' := .lst ys) hw e hs c ⟨a, us, rfl, upd_same, r'.le c.le⟩⟩
def mApp (i : Nat) (m : ME) : ME := fun ls => (opt (slotL ls i)).bind fun _ => (frzv m ls).bind fun p => (opt (slotL p.2 i)).bind fun q =>
  if q.2.length < sizeLine then .ok (.non, p.2.set i (some (putL q.1 (q.2 ++ [p.1])))) else .stuck
theorem mApp_imp {K : PySem.W.Frag} {i : Nat} {m : ME} (σ : L2.St) (H : Hp) (Q : VK) (q : tOf G (mApp i m) σ H Q) : tBM K "list" rAppend (tVar i) (tCons (tOf G m) tNil) σ H Q := by
  obtain ⟨F, ls, L, o⟩ := q
  unfold mApp at o
  cases e1 : slotL ls i with
  | none => rw [e1] at o; exact o.elim
  | some q =>
    obtain ⟨b, xs⟩ := q
    rw [e1] at o
    obtain ⟨w, a, vs, hw, _, he, hs, h, r, nf⟩ := slotL_at L e1
    refine ⟨_, hs, .inl ⟨rfl, vs, .inl (.inl h)⟩, tOf.frozen1 L o fun F1 H1 ls1 d v p1 L1 r1 o1 => ?_⟩
    dsimp only at o1
    cases e2 : slotL ls1 i with
    | none => rw [e2] at o1; exact o1.elim
    | some q =>
      obtain ⟨b2, xs2⟩ := q
      rw [e2] at o1
      obtain ⟨w2, a2, vs2, hw2, hp2, he2, hs2, h2, rr2, nf2⟩ := slotL_at L1 e2
      rw [hs] at hs2; cases hs2
      have o1 : Out G (if xs2.length < sizeLine then Res.ok (D.non, ls1.set i (some (putL b2 (xs2 ++ [d])))) else .stuck) F1 σ H1 Q := o1
      by_cases z : xs2.length < sizeLine
      · rw [if_pos z, hp2] at o1
        obtain ⟨p2, L2⟩ := L1.writeL hw2 he2 hs h2 rr2 nf2 (rr2.append (.cons r1 .nil))
        exact ⟨_, _, _, rfl, rfl, h2, by rw [← rr2.length]; exact z, o1 F1 _ .non p2 L2 .non⟩
      · rw [if_neg z] at o1; exact o1.elim
theorem de_append {i : Nat} {m : ME} {x : Str} {px apos cpos : Pos} (hv : PE X (.Name x px) (tVar i)) (he : DE X G e m) (h : PE X (.Call (.Attribute (.Name x px) "append" apos) [e] [] cpos) (tBM X.K "list" rAppend (tVar i) (tCons (tOf G m) tNil))) :
    DE X G (.Call (.Attribute (.Name x px) "append" apos) [e] [] cpos) (mApp i m) := pe_imp h fun σ H Q => mApp_imp σ H Q
/-- x[k] = v -/
def sSet (i : Nat) (mk mv : ME) : MS := fun ls => (frzv mv ls).fl fun p => (opt (slotL p.2 i)).fl fun _ => (val mk p.2).fl fun q => match see q.2 q.1 with
  | some (.int k) => (opt (slotL q.2 i)).fl fun r => (opt (ixN r.2.length k)).fl fun j => .nx (q.2.set i (some (putL r.1 (r.2.set j p.1))))
  | _ => .stuck
theorem Reps.set {d : D} {v : V} (r : Rep F H d v) : ∀ {ds : List D} {vs : List V} (j : Nat), Reps F H ds vs → Reps F H (ds.set j d) (vs.set j v)
  | _, _, _, .nil => .nil
  | _, _, 0, .cons _ rs => .cons r rs
  | _, _, j + 1, .cons q rs => .cons q (Reps.set r j rs)
theorem tOf.settledS {ma : ME} {f : D × LS → Fl} (L : LInv G F ls σ H) (o : OutS G ((val ma ls).fl f) F H Z)
    {Q' : VK} (h : ∀ F1 H1 ls1 d v, Le F H F1 H1 → LInv G F1 ls1 σ H1 → RepY F1 H1 σ d v → OutS G (f (d, ls1)) F1 H1 Z → Q' v H1) : tOf G ma σ H Q' := by
  have e : (val ma ls).fl f = (ma ls).fl fun p => (opt (stl p.1)).fl fun x => f (x, p.2) := by
    unfold val
    cases ma ls with
    | ok p => show ((opt (stl p.1)).bind fun x => Res.ok (x, p.2)).fl f = (opt (stl p.1)).fl _; cases stl p.1 <;> rfl
    | exc x => rfl
    | stuck => rfl
  rw [e] at o
  refine tOf.firstS L o fun F1 H1 ls1 d v p L1 r o1 => ?_
  cases q : stl d with
  | none => simp only [q] at o1; exact o1.elim
  | some x =>
    simp only [q] at o1
    obtain ⟨F2, p2, L2, r2⟩ := settle L1 r q
    exact h F2 H1 ls1 x v (p.trans p2) L2 r2 (OutS.later p2 o1)
theorem ds_setitem {i : Nat} {mk mv : ME} {o k v : Expr} {pos pos' : Pos} (ho : PE X o (tVar i)) (hk : DE X G k mk) (hv : DE X G v mv)
    (h : PS X (.Assign [.Subscript o k pos] v pos') (tAsg (tOf G mv) (gSub (tVar i) (tOf G mk) rSetL))) : DS X G (.Assign [.Subscript o k pos] v pos') (sSet i mk mv) :=
  ps_imp h fun Z σ H ⟨F, ls, L, o⟩ => by
    unfold sSet at o
    refine tOf.frozen1S L o fun F1 H1 ls1 d v p1 L1 r1 o1 => ?_
    dsimp only at o1
    cases e1 : slotL ls1 i with
    | none => rw [e1] at o1; exact o1.elim
    | some q =>
      obtain ⟨b, xs⟩ := q
      rw [e1] at o1
      obtain ⟨w, a, vs, hw, _, he, hs, h, r, nf⟩ := slotL_at L1 e1
      refine ⟨_, hs, tOf.settledS L1 o1 fun F2 H2 ls2 dk vk p2 L2 r2 o2 => ?_⟩
      dsimp only at o2
      split at o2
      · rename_i n en
        cases e2 : slotL ls2 i with
        | none => rw [e2] at o2; exact o2.elim
        | some q =>
          obtain ⟨b2, xs2⟩ := q
          rw [e2] at o2
          obtain ⟨w2, a2, vs2, hw2, hp2, he2, hs2, h2, rr2, nf2⟩ := slotL_at L2 e2
          rw [hs] at hs2; cases hs2
          have o2 : OutS G ((opt (ixN xs2.length n)).fl fun j => .nx (ls2.set i (some (putL b2 (xs2.set j d))))) F2 H2 Z := o2
          cases e3 : ixN xs2.length n with
          | none => rw [e3] at o2; exact o2.elim
          | some j =>
            rw [e3] at o2
            have o2 : OutS G (.nx (ls2.set i (some (putL b2 (xs2.set j d))))) F2 H2 Z := o2
            rw [hp2] at o2
            obtain ⟨p3, L3⟩ := L2.writeL hw2 he2 hs h2 rr2 nf2 (Reps.set (r1.le p2) j rr2)
            rw [(see_rep L2 r2 en).isInt]
            exact ⟨_, _, n, j, rfl, rfl, h2, by rw [← rr2.length]; exact e3, o2 F2 _ _ p3 L3⟩
      · exact o2.elim
end
end DL

end DLl
section DLm
set_option Elab.async false
set_option linter.all false
set_option autoImplicit false
set_option maxRecDepth 100000
namespace DL
open PySem PySem.Spec PyProof.Rows L2

/-! ### data as the library's data -/
mutual
def toP : D → Option PyData
  | .non => some .none
  | .bl b => some (.bool b)
  | .int i => some (.int i)
  | .str x => some (.str x)
  | .tup xs => (toPs xs).map .tuple
  | .lst xs => (toPs xs).map .list
  | _ => none
def toPs : List D → Option (List PyData)
  | [] => some []
  | x :: xs => (toP x).bind fun y => (toPs xs).bind fun ys => some (y :: ys)
end
section
variable {K : PySem.W.Frag} {F : FS} {H : Hp}
mutual
theorem Rep.dp : ∀ {d : D} {v : V} {p : PyData}, Rep F H d v → toP d = some p → Dp K H v p
  | _, _, _, .non, e => by cases e; exact .non
  | _, _, _, .bl b, e => by cases e; exact .bl b
  | _, _, _, .int i, e => by cases e; exact .int i
  | _, _, _, .str x, e => by cases e; exact .str x
  | _, _, _, .ref a, e => by cases e
  | .tup xs, _, p, .tup h r, e => by
    have e : (toPs xs).map PyData.tuple = some p := e
    cases q : toPs xs with
    | none => rw [q] at e; cases e
    | some ys => rw [q] at e; cases e; exact .tup (.inl (.inl h)) (Reps.dp r q)
  | .lst xs, _, p, .lst f h r, e => by
    have e : (toPs xs).map PyData.list = some p := e
    cases q : toPs xs with
    | none => rw [q] at e; cases e
    | some ys => rw [q] at e; cases e; exact .lst (.inl (.inl h)) (Reps.dp r q)
  | _, _, _, .scr _ _ _, e => by cases e
  | _, _, _, .dct _ _ _, e => by cases e
  | _, _, _, .dctT _ _ _, e => by cases e
theorem Reps.dp : ∀ {ds : List D} {vs : List V} {ps : List PyData}, Reps F H ds vs → toPs ds = some ps → DpAll K H vs ps
  | _, _, _, .nil, e => by cases e; exact .nil
  | d :: ds, _, ps, .cons r rs, e => by
    have e : (toP d).bind (fun y => (toPs ds).bind fun ys => some (y :: ys)) = some ps := e
    cases q : toP d with
    | none => rw [q] at e; cases e
    | some y =>
      cases q2 : toPs ds with
      | none => rw [q, q2] at e; cases e
      | some ys => rw [q, q2] at e; cases e; exact .cons (Rep.dp r q) (Reps.dp rs q2)
end
theorem RepR.dp {d : D} {v : V} {p : PyData} (r : RepR F H d v) (e : toP d = some p) : Dp K H v p := by
  rcases r with r | r
  · exact r.dp e
  · cases d with
    | lst xs =>
      obtain ⟨a, vs, rfl, h, rs⟩ := r
      have e : (toPs xs).map PyData.list = some p := e
      cases q : toPs xs with
      | none => rw [q] at e; cases e
      | some ys => rw [q] at e; cases e; exact .lst (.inl (.inl h)) (rs.dp q)
    | dct xs => cases e
    | ins C fs => cases e
    | _ => exact r.elim

/-! ### shapes of what is read -/
theorem RepR.isBl {b : Bool} {v : V} (r : RepR F H (.bl b) v) : v = .bl b := by
  rcases r with r | r
  · cases r; rfl
  · exact r.elim
theorem RepR.isStr {b : Str} {v : V} (r : RepR F H (.str b) v) : v = .str b := by
  rcases r with r | r
  · cases r; rfl
  · exact r.elim
theorem RepR.isNon {v : V} (r : RepR F H .non v) : v = .non := by
  rcases r with r | r
  · cases r; rfl
  · exact r.elim
theorem RepR.isLst {xs : List D} {v : V} (r : RepR F H (.lst xs) v) : ∃ a vs, v = .ref a ∧ H a = some (.lst vs) ∧ Reps F H xs vs := by
  rcases r with r | r
  · cases r with
    | lst f h r => exact ⟨_, _, rfl, h, r⟩
  · exact r
theorem RepR.isTup {xs : List D} {v : V} (r : RepR F H (.tup xs) v) : ∃ a vs, v = .ref a ∧ H a = some (.tup vs) ∧ Reps F H xs vs := by
  rcases r with r | r
  · cases r with
    | tup h r => exact ⟨_, _, rfl, h, r⟩
  · exact r.elim
theorem RepR.isScr {xs : List D} {v : V} (r : RepR F H (.scr xs) v) : ∃ a o vs, v = .ref a ∧ H a = some (.frz o (.lst vs)) ∧ Reps F H xs vs := by
  rcases r with r | r
  · cases r with
    | scr f h r => exact ⟨_, _, _, rfl, h, r⟩
  · exact r.elim
theorem Reps.atI' {ds : List D} {vs : List V} {i : Int} {d : D} (r : Reps F H ds vs) (e : L2.atI ds i = some d) : ∃ v, L2.atI vs i = some v ∧ Rep F H d v := by
  unfold L2.atI at e ⊢
  rw [r.length] at e
  cases q : ixN vs.length i with
  | none => rw [q] at e; cases e
  | some j => rw [q] at e; exact r.get e

/-! ### arithmetic -/
def gAdd : D → D → Option D
  | .int i, .int j => some (.int (i + j))
  | .lst xs, .lst ys => if xs.length + ys.length ≤ sizeLine then some (.own (.lst (xs ++ ys))) else none
  | .tup xs, .tup ys => if xs.length + ys.length ≤ sizeLine then some (.tup (xs ++ ys)) else none
  | .str x, .str y => if x.length + y.length ≤ sizeLine then some (.str (x ++ y)) else none
  | _, _ => none
def rAdds (K : PySem.W.Frag) : R2 := fun x y H Q => rI0 (fun i j => .int (i + j)) x y H Q ∨ rCat x y H Q ∨ rCatA K x y H Q ∨ ∃ i j, x = .str i ∧ y = .str j ∧ i.length + j.length ≤ sizeLine ∧ Q (.str (i ++ j)) H
theorem or_adds {X : Cx} : OpR X (binaryOp .Add) (rAdds X.K) := op_add.or (op_cat.or (op_catA.or op_add_str))
theorem od_add : OpD (rAdds K) gAdd := by
  intro F H x y d v u Q rx ry e q
  unfold gAdd at e
  split at e
  · cases e
    rw [rx.isInt, ry.isInt]
    exact .inl ⟨_, _, rfl, rfl, q H _ (Same.refl H) (Rep.int _)⟩
  · split at e
    · rename_i z
      cases e
      obtain ⟨a, vs, rfl, h, r⟩ := rx.isLst
      obtain ⟨b, us, rfl, h', r'⟩ := ry.isLst
      refine .inr (.inl ⟨a, b, vs, us, rfl, rfl, h, h', by rw [← r.length, ← r'.length]; exact z, fun p n => q _ _ (same_upd n) ?_⟩)
      exact ⟨⟨p, _, rfl, upd_same, (r.append r').le (Le.same (same_upd n))⟩, p, rfl, n⟩
    · cases e
  · split at e
    · rename_i z
      cases e
      obtain ⟨a, vs, rfl, h, r⟩ := rx.isTup
      obtain ⟨b, us, rfl, h', r'⟩ := ry.isTup
      refine .inr (.inr (.inl ⟨a, b, vs, us, rfl, rfl, .inl (.inl h), .inl (.inl h'), by rw [← r.length, ← r'.length]; exact z, fun e => q _ _ (Same.refl H) ?_, fun _ e => q _ _ (Same.refl H) ?_, fun _ _ p n => q _ _ (same_upd n) ?_⟩))
      · subst e; cases r; exact .tup h' r'
      · subst e; cases r'; rw [List.append_nil]; exact .tup h r
      · exact .tup upd_same ((r.append r').le (Le.same (same_upd n)))
    · cases e
  · split at e
    · rename_i z
      cases e
      rw [rx.isStr, ry.isStr]
      exact .inr (.inr (.inr ⟨_, _, rfl, rfl, z, q H _ (Same.refl H) (Rep.str _)⟩))
    · cases e
  · cases e
def gI (f : Int → Int → Option Int) : D → D → Option D
  | .int i, .int j => (f i j).map .int
  | _, _ => none
theorem od_int {C : Int → Int → Prop} {g : Int → Int → Int} {f : Int → Int → Option Int} (hf : ∀ i j k, f i j = some k → C i j ∧ k = g i j) : OpD (rI C fun i j => .int (g i j)) (gI f) := by
  intro F H x y d v u Q rx ry e q
  unfold gI at e
  split at e
  · rename_i i j
    rw [rx.isInt, ry.isInt]
    cases h : f i j with
    | none => rw [h] at e; cases e
    | some k =>
      rw [h] at e; cases e
      obtain ⟨c, rfl⟩ := hf i j k h
      exact ⟨i, j, rfl, rfl, c, q H _ (Same.refl H) (Rep.int _)⟩
  · cases e
def fSub (i j : Int) : Option Int := some (i - j)
theorem od_sub : OpD (rI0 fun i j => .int (i - j)) (gI fSub) := by
  intro F H x y d v u Q rx ry e q
  unfold gI at e
  split at e
  · cases e
    rw [rx.isInt, ry.isInt]
    exact ⟨_, _, rfl, rfl, q H _ (Same.refl H) (Rep.int _)⟩
  · cases e
def fMod (i j : Int) : Option Int := if 0 < j then some (i % j) else none
theorem od_mod : OpD (rI (fun _ j => 0 < j) fun i j => .int (i % j)) (gI fMod) := od_int fun i j k e => by
  unfold fMod at e; split at e
  · cases e; exact ⟨by assumption, rfl⟩
  · cases e
instance (i j : Int) : Decidable (CDivW i j) := inferInstanceAs (Decidable (_ ∧ _))
instance (i j : Int) : Decidable (CMulW i j) := inferInstanceAs (Decidable (_ < _))
instance (i j : Int) : Decidable (CPow i j) := inferInstanceAs (Decidable (_ ∧ _ ∧ _))
def fDiv (i j : Int) : Option Int := if CDivW i j then some (i / j) else none
theorem od_div : OpD (rI CDivW fun i j => .int (i / j)) (gI fDiv) := od_int fun i j k e => by
  unfold fDiv at e; split at e
  · cases e; exact ⟨by assumption, rfl⟩
  · cases e
def fPow (i j : Int) : Option Int := if CPow i j then some (i ^ j.toNat) else none
theorem od_pow : OpD (rI CPow fun i j => .int (i ^ j.toNat)) (gI fPow) := od_int fun i j k e => by
  unfold fPow at e; split at e
  · cases e; exact ⟨by assumption, rfl⟩
  · cases e
instance (i j : Int) : Decidable (CMul i j) := inferInstanceAs (Decidable (_ ∨ _))
def gMul : D → D → Option D
  | .int i, .int j => if CMulW i j ∨ CMul i j then some (.int (i * j)) else none
  | .tup xs, .int k => if xs ≠ [] ∧ 2 ≤ k ∧ k ≤ 1000 ∧ xs.length ≤ 1000 then some (.tup (List.replicate k.toNat xs).flatten) else none
  | .lst xs, .int k => if -(2 ^ 63) ≤ k ∧ k < 2 ^ 63 ∧ xs.length * k.toNat ≤ sizeLine then some (.own (.lst (List.replicate k.toNat xs).flatten)) else none
  | _, _ => none
end
end DL

end DLm
section DLn
set_option Elab.async false
set_option linter.all false
set_option autoImplicit false
set_option maxRecDepth 100000
namespace DL
open PySem PySem.Spec PyProof.Rows L2

section
variable {K : PySem.W.Frag} {F : FS} {H : Hp} {X : Cx}
theorem Reps.rep {ds : List D} {vs : List V} (r : Reps F H ds vs) : ∀ k : Nat, Reps F H (List.replicate k ds).flatten (List.replicate k vs).flatten
  | 0 => .nil
  | k + 1 => by
    rw [List.replicate_succ, List.replicate_succ, List.flatten_cons, List.flatten_cons]
    exact r.append (Reps.rep r k)
def rMuls (K : PySem.W.Frag) : R2 := fun x y H Q => (rI CMulW (fun i j => .int (i * j)) x y H Q ∨ rI CMul (fun i j => .int (i * j)) x y H Q) ∨ rRepT K x y H Q ∨ rRep x y H Q
theorem or_muls : OpR X (binaryOp .Mult) (rMuls X.K) := (op_mulW.or op_mul).or (op_repT.or op_rep)
theorem od_mul : OpD (rMuls K) gMul := by
  intro F H x y d v u Q rx ry e q
  unfold gMul at e
  split at e
  · split at e
    · cases e
      rename_i hm
      rw [rx.isInt, ry.isInt]
      rcases hm with hm | hm
      · exact .inl (.inl ⟨_, _, rfl, rfl, hm, q H _ (Same.refl H) (Rep.int _)⟩)
      · exact .inl (.inr ⟨_, _, rfl, rfl, hm, q H _ (Same.refl H) (Rep.int _)⟩)
    · cases e
  · split at e
    · rename_i z
      cases e
      obtain ⟨a, vs, rfl, h, r⟩ := rx.isTup
      rw [ry.isInt]
      refine .inr (.inl ⟨a, _, vs, rfl, rfl, .inl (.inl h), fun n => ?_, z.2.1, z.2.2.1, by rw [← r.length]; exact z.2.2.2, fun p n => q _ _ (same_upd n) ?_⟩)
      · subst n; cases r; exact z.1 rfl
      · exact .tup upd_same ((r.rep _).le (Le.same (same_upd n)))
    · cases e
  · split at e
    · rename_i z
      cases e
      obtain ⟨a, vs, rfl, h, r⟩ := rx.isLst
      rw [ry.isInt]
      refine .inr (.inr ⟨a, _, vs, rfl, rfl, h, z.1, z.2.1, by rw [← r.length]; exact z.2.2, fun p n => q _ _ (same_upd n) ?_⟩)
      exact ⟨⟨p, _, rfl, upd_same, (r.rep _).le (Le.same (same_upd n))⟩, p, rfl, n⟩
    · cases e
  · cases e
def gNeg : D → Option D
  | .int i => some (.int (-i))
  | _ => none
theorem ud_neg : UnD (rU fun i => .int (-i)) gNeg := by
  intro F H x d v Q rx e q
  unfold gNeg at e
  split at e
  · cases e; rw [rx.isInt]; exact ⟨_, rfl, q H _ (Same.refl H) (Rep.int _)⟩
  · cases e

/-! ### comparisons -/
def gCmp (p : Int → Int → Bool) : D → D → Option D
  | .int i, .int j => some (.bl (p i j))
  | _, _ => none
theorem od_cmp {p : Int → Int → Bool} : OpD (rI0 fun i j => .bl (p i j)) (gCmp p) := by
  intro F H x y d v u Q rx ry e q
  unfold gCmp at e
  split at e
  · cases e
    rw [rx.isInt, ry.isInt]
    exact ⟨_, _, rfl, rfl, q H _ (Same.refl H) (Rep.bl _)⟩
  · cases e
abbrev gLt := gCmp fun i j => decide (i < j)
abbrev gLe := gCmp fun i j => decide (i ≤ j)
abbrev gGt := gCmp fun i j => decide (j < i)
abbrev gGe := gCmp fun i j => decide (j ≤ i)
/-- ==, != of data -/
def gEqB (x y : D) : Option Bool := (toP x).bind fun p => (toP y).bind fun q => if SeqAt.shaped p && SeqAt.shaped q then some (PyData.eqv p q) else none
def gEq (x y : D) : Option D := (gEqB x y).map .bl
def gNe (x y : D) : Option D := (gEqB x y).map fun b => .bl (!b)
theorem gEqB_of {x y : D} {b : Bool} (e : gEqB x y = some b) : ∃ p q, toP x = some p ∧ toP y = some q ∧ SeqAt.shaped p = true ∧ SeqAt.shaped q = true ∧ b = PyData.eqv p q := by
  unfold gEqB at e
  cases h1 : toP x with
  | none => rw [h1] at e; cases e
  | some p =>
    cases h2 : toP y with
    | none => rw [h1, h2] at e; cases e
    | some q =>
      rw [h1, h2] at e
      have e : (if (SeqAt.shaped p && SeqAt.shaped q) = true then some (PyData.eqv p q) else none) = some b := e
      split at e
      · rename_i z
        rw [Bool.and_eq_true] at z
        cases e
        exact ⟨p, q, rfl, rfl, z.1, z.2, rfl⟩
      · cases e
theorem od_eq : OpD (rEqD K) gEq := by
  intro F H x y d v u Q rx ry e q
  unfold gEq at e
  cases h : gEqB x y with
  | none => rw [h] at e; cases e
  | some b =>
    rw [h] at e; cases e
    obtain ⟨p, r, h1, h2, s1, s2, rfl⟩ := gEqB_of h
    exact ⟨p, r, rx.dp h1, ry.dp h2, s1, s2, q H _ (Same.refl H) (Rep.bl _)⟩
theorem od_ne : OpD (rNeD K) gNe := by
  intro F H x y d v u Q rx ry e q
  unfold gNe at e
  cases h : gEqB x y with
  | none => rw [h] at e; cases e
  | some b =>
    rw [h] at e; cases e
    obtain ⟨p, r, h1, h2, s1, s2, rfl⟩ := gEqB_of h
    exact ⟨p, r, rx.dp h1, ry.dp h2, s1, s2, q H _ (Same.refl H) (Rep.bl _)⟩
/-- is None -/
def isNonD : D → Bool
  | .non => true
  | _ => false
def gIsN (neg : Bool) : D → D → Option D := fun x y => match y with
  | .non => some (.bl (if neg then !isNonD x else isNonD x))
  | _ => none
theorem RepR.dec_non {d : D} {v : V} (r : RepR F H d v) : decide (v = .non) = isNonD d := by
  rcases r with r | r
  · cases r <;> rfl
  · obtain ⟨a, rfl⟩ := r.isref
    cases d <;> first | rfl | exact r.elim
theorem od_isN : OpD (fun x y H Q => y = .non ∧ Q (.bl (decide (x = .non))) H) (gIsN false) := by
  intro F H x y d v u Q rx ry e q
  unfold gIsN at e
  split at e
  · cases e
    exact ⟨ry.isNon, by rw [rx.dec_non]; exact q H _ (Same.refl H) (Rep.bl _)⟩
  · cases e
theorem od_notN : OpD (fun x y H Q => y = .non ∧ Q (.bl (!decide (x = .non))) H) (gIsN true) := by
  intro F H x y d v u Q rx ry e q
  unfold gIsN at e
  split at e
  · cases e
    exact ⟨ry.isNon, by rw [rx.dec_non]; exact q H _ (Same.refl H) (Rep.bl _)⟩
  · cases e
/-- in, not in: flat items of a list or tuple -/
def flatD : D → Option V
  | .non => some .non
  | .bl b => some (.bl b)
  | .int i => some (.int i)
  | .str x => some (.str x)
  | _ => none
def flatsD : List D → Option (List V)
  | [] => some []
  | d :: ds => (flatD d).bind fun v => (flatsD ds).bind fun vs => some (v :: vs)
theorem RepR.flat {d : D} {v w : V} (r : RepR F H d v) (e : flatD d = some w) : v = w ∧ flatV w = true := by
  cases d <;> first
    | (cases e; done)
    | (cases e; rcases r with r | r
       · cases r; exact ⟨rfl, rfl⟩
       · exact r.elim)
theorem Reps.flat : ∀ {ds : List D} {vs ws : List V}, Reps F H ds vs → flatsD ds = some ws → vs = ws ∧ ws.all flatV = true
  | _, _, _, .nil, e => by cases e; exact ⟨rfl, rfl⟩
  | d :: ds, _, ws, .cons r rs, e => by
    have e : (flatD d).bind (fun v => (flatsD ds).bind fun vs => some (v :: vs)) = some ws := e
    cases q : flatD d with
    | none => rw [q] at e; cases e
    | some y =>
      cases q2 : flatsD ds with
      | none => rw [q, q2] at e; cases e
      | some ys =>
        rw [q, q2] at e; cases e
        obtain ⟨h1, h2⟩ := RepR.flat (.inl r) q
        obtain ⟨h3, h4⟩ := Reps.flat rs q2
        subst h1 h3
        exact ⟨rfl, by rw [List.all_cons, h2, h4]; rfl⟩
def gIn (neg : Bool) (x y : D) : Option D := (flatD x).bind fun v => (seqOf y).bind fun ys => (flatsD ys).bind fun vs => some (.bl (if neg then !inV v vs else inV v vs))
theorem RepR.seq {d : D} {v : V} {xs : List D} (r : RepR F H d v) (e : seqOf d = some xs) : ∃ a vs, v = .ref a ∧ (SqL K H a vs ∨ SqT K H a vs) ∧ Reps F H xs vs := by
  cases d <;> cases e
  · obtain ⟨a, vs, rfl, h, rs⟩ := r.isTup
    exact ⟨a, vs, rfl, .inr (.inl (.inl h)), rs⟩
  · obtain ⟨a, vs, rfl, h, rs⟩ := r.isLst
    exact ⟨a, vs, rfl, .inl (.inl (.inl h)), rs⟩
theorem od_in {neg : Bool} : OpD (rIn K neg) (gIn neg) := by
  intro F H x y d v u Q rx ry e q
  unfold gIn at e
  cases h1 : flatD x with
  | none => rw [h1] at e; cases e
  | some w =>
    cases h2 : seqOf y with
    | none => rw [h1, h2] at e; cases e
    | some ys =>
      rw [h1, h2] at e
      have e : (flatsD ys).bind (fun vs => some (D.bl (if neg then !inV w vs else inV w vs))) = some d := e
      cases h3 : flatsD ys with
      | none => rw [h3] at e; cases e
      | some ws =>
        rw [h3] at e; cases e
        obtain ⟨a, vs, rfl, hs, rs⟩ := ry.seq h2
        obtain ⟨rfl, fx⟩ := rx.flat h1
        obtain ⟨rfl, fy⟩ := rs.flat h3
        exact ⟨a, vs, rfl, hs, fx, fy, q H _ (Same.refl H) (Rep.bl _)⟩

/-! ### subscripts -/
def gIx : D → D → Option D
  | .lst xs, .int k => L2.atI xs k
  | .tup xs, .int k => L2.atI xs k
  | .scr xs, .int k => L2.atI xs k
  | .str z, .int k => if z.length ≤ sizeLine then (L2.atI z.cps.toList k).map fun c => .str ⟨#[c]⟩ else none
  | _, _ => none
theorem Rep.toP' {d : D} {v : V} (r : Rep F H d v) : RepP F H H d v := by
  cases d with
  | own d => cases r
  | io d => cases r
  | bor j => cases r
  | non => exact r
  | bl => exact r
  | int => exact r
  | str => exact r
  | ref => exact r
  | tup => exact r
  | lst => exact r
  | scr => exact r
  | dct => exact r
  | ins => cases r
theorem od_ix : OpD (rIx K) gIx := by
  intro F H x y d v u Q rx ry e q
  unfold gIx at e
  split at e
  · obtain ⟨a, vs, rfl, h, r⟩ := rx.isLst
    rw [ry.isInt]
    obtain ⟨w, h1, h2⟩ := r.atI' e
    exact .inl ⟨a, vs, _, w, rfl, rfl, .inl (.inl h), h1, q H _ (Same.refl H) h2.toP'⟩
  · obtain ⟨a, vs, rfl, h, r⟩ := rx.isTup
    rw [ry.isInt]
    obtain ⟨w, h1, h2⟩ := r.atI' e
    exact .inr (.inl ⟨a, vs, _, w, rfl, rfl, .inl (.inl h), h1, q H _ (Same.refl H) h2.toP'⟩)
  · obtain ⟨a, o, vs, rfl, h, r⟩ := rx.isScr
    rw [ry.isInt]
    obtain ⟨w, h1, h2⟩ := r.atI' e
    exact .inl ⟨a, vs, _, w, rfl, rfl, .inl (.inr ⟨o, h⟩), h1, q H _ (Same.refl H) h2.toP'⟩
  · split at e
    · rename_i z k hz
      rw [rx.isStr, ry.isInt]
      cases h : L2.atI z.cps.toList k with
      | none => rw [h] at e; cases e
      | some c => rw [h] at e; cases e; exact .inr (.inr ⟨_, _, c, rfl, rfl, hz, h, q H _ (Same.refl H) (Rep.str _)⟩)
    · cases e
  · cases e

/-! ### built-in calls -/
def gLen : List D → Option D
  | [.lst xs] => some (.int (xs.length : Nat))
  | [.tup xs] => some (.int (xs.length : Nat))
  | [.scr xs] => some (.int (xs.length : Nat))
  | [.str z] => if z.length ≤ sizeLine then some (.int (z.length : Nat)) else none
  | _ => none
def rLens (K : PySem.W.Frag) : List V → Hp → VK → Prop := fun xs H Q => (∃ p ys, xs = [.ref p] ∧ (SqL K H p ys ∨ SqT K H p ys) ∧ Q (.int ys.length) H) ∨ ∃ z, xs = [.str z] ∧ z.length ≤ sizeLine ∧ Q (.int z.length) H
theorem cr_lens : CallR X (.builtin "len") (rLens X.K) := call_len_seq.or call_len_str
theorem cd_len : CbD (rLens K) gLen := by
  intro F H xs d vs Q r e q
  unfold gLen at e
  split at e
  · obtain ⟨v, rfl, rv⟩ := r.one
    cases e
    obtain ⟨a, vs, rfl, h, rs⟩ := rv.isLst
    exact .inl ⟨a, vs, rfl, .inl (.inl (.inl h)), by rw [← rs.length]; exact q H _ (Same.refl H) (Rep.int _)⟩
  · obtain ⟨v, rfl, rv⟩ := r.one
    cases e
    obtain ⟨a, vs, rfl, h, rs⟩ := rv.isTup
    exact .inl ⟨a, vs, rfl, .inr (.inl (.inl h)), by rw [← rs.length]; exact q H _ (Same.refl H) (Rep.int _)⟩
  · obtain ⟨v, rfl, rv⟩ := r.one
    cases e
    obtain ⟨a, o, vs, rfl, h, rs⟩ := rv.isScr
    exact .inl ⟨a, vs, rfl, .inl (.inl (.inr ⟨o, h⟩)), by rw [← rs.length]; exact q H _ (Same.refl H) (Rep.int _)⟩
  · obtain ⟨v, rfl, rv⟩ := r.one
    split at e
    · cases e
      rw [rv.isStr]
      exact .inr ⟨_, rfl, by assumption, q H _ (Same.refl H) (Rep.int _)⟩
    · cases e
  · cases e
/-- list(x), tuple(x) -/
def gList : List D → Option D
  | [.lst xs] => some (.own (.lst xs))
  | [.tup xs] => some (.own (.lst xs))
  | _ => none
def gTuple : List D → Option D
  | [.lst xs] => some (.tup xs)
  | [.tup xs] => some (.tup xs)
  | _ => none
theorem cd_list : CbD (fun xs H Q => ∃ p ys, xs = [.ref p] ∧ (SqL K H p ys ∨ SqT K H p ys) ∧ ∀ l, H l = none → Q (.ref l) (upd H l (.lst ys))) gList := by
  intro F H xs d vs Q r e q
  unfold gList at e
  split at e
  · obtain ⟨v, rfl, rv⟩ := r.one
    cases e
    obtain ⟨a, vs, rfl, h, rs⟩ := rv.isLst
    exact ⟨a, vs, rfl, .inl (.inl (.inl h)), fun l n => q _ _ (same_upd n) ⟨⟨l, vs, rfl, upd_same, rs.le (Le.same (same_upd n))⟩, l, rfl, n⟩⟩
  · obtain ⟨v, rfl, rv⟩ := r.one
    cases e
    obtain ⟨a, vs, rfl, h, rs⟩ := rv.isTup
    exact ⟨a, vs, rfl, .inr (.inl (.inl h)), fun l n => q _ _ (same_upd n) ⟨⟨l, vs, rfl, upd_same, rs.le (Le.same (same_upd n))⟩, l, rfl, n⟩⟩
  · cases e
theorem cd_tuple : CbD (fun xs H Q => ∃ p ys, xs = [.ref p] ∧ ((SqL K H p ys ∧ ∀ l, H l = none → Q (.ref l) (upd H l (.tup ys))) ∨ (SqT K H p ys ∧ Q (.ref p) H))) gTuple := by
  intro F H xs d vs Q r e q
  unfold gTuple at e
  split at e
  · obtain ⟨v, rfl, rv⟩ := r.one
    cases e
    obtain ⟨a, vs, rfl, h, rs⟩ := rv.isLst
    exact ⟨a, vs, rfl, .inl ⟨.inl (.inl h), fun l n => q _ _ (same_upd n) (.tup upd_same (rs.le (Le.same (same_upd n))))⟩⟩
  · obtain ⟨v, rfl, rv⟩ := r.one
    cases e
    obtain ⟨a, vs, rfl, h, rs⟩ := rv.isTup
    exact ⟨a, vs, rfl, .inr ⟨.inl (.inl h), q _ _ (Same.refl H) (.tup h rs)⟩⟩
  · cases e
/-- int(x), abs(x), min(x, y), max(x, y) -/
def gInt : List D → Option D
  | [.int i] => some (.int i)
  | [.bl b] => some (.int (if b then 1 else 0))
  | _ => none
theorem cd_int : CbD (fun xs H Q => (∃ i, xs = [.int i] ∧ Q (.int i) H) ∨ ∃ k, xs = [.bl k] ∧ Q (.int (if k then 1 else 0)) H) gInt := by
  intro F H xs d vs Q r e q
  unfold gInt at e
  split at e
  · obtain ⟨v, rfl, rv⟩ := r.one
    cases e; rw [rv.isInt]
    exact .inl ⟨_, rfl, q H _ (Same.refl H) (Rep.int _)⟩
  · obtain ⟨v, rfl, rv⟩ := r.one
    cases e; rw [rv.isBl]
    exact .inr ⟨_, rfl, q H _ (Same.refl H) (Rep.int _)⟩
  · cases e
def gAbs : List D → Option D
  | [.int i] => some (.int (if i < 0 then -i else i))
  | _ => none
theorem cd_abs : CbD (fun xs H Q => ∃ i, xs = [.int i] ∧ Q (.int (if i < 0 then -i else i)) H) gAbs := by
  intro F H xs d vs Q r e q
  unfold gAbs at e
  split at e
  · obtain ⟨v, rfl, rv⟩ := r.one
    cases e; rw [rv.isInt]
    exact ⟨_, rfl, q H _ (Same.refl H) (Rep.int _)⟩
  · cases e
def gMin2 : List D → Option D
  | [.int i, .int j] => some (.int (if j < i then j else i))
  | _ => none
theorem cd_min2 : CbD (fun xs H Q => ∃ i j, xs = [.int i, .int j] ∧ Q (.int (if j < i then j else i)) H) gMin2 := by
  intro F H xs d vs Q r e q
  unfold gMin2 at e
  split at e
  · obtain ⟨v, w, rfl, rv, rw'⟩ := r.two
    cases e; rw [rv.isInt, rw'.isInt]
    exact ⟨_, _, rfl, q H _ (Same.refl H) (Rep.int _)⟩
  · cases e
/-- all, any of a list of truths; sum of a list of intsD -/
def bls : List D → Option (List Bool)
  | [] => some []
  | .bl b :: ds => (bls ds).map (b :: ·)
  | _ => none
theorem bls_vals : ∀ {ds : List D} {vs : List V} {bs : List Bool}, Reps F H ds vs → bls ds = some bs → vs = bs.map V.bl
  | [], _, _, .nil, e => by cases e; rfl
  | d :: ds, _, bs, .cons r rs, e => by
    cases d <;> try (cases e; done)
    rename_i b
    have e : (bls ds).map (b :: ·) = some bs := e
    cases q : bls ds with
    | none => rw [q] at e; cases e
    | some cs =>
      rw [q] at e; cases e
      cases r
      rw [bls_vals rs q]; rfl
def intsD : List D → Option (List Int)
  | [] => some []
  | .int b :: ds => (intsD ds).map (b :: ·)
  | _ => none
theorem ints_vals : ∀ {ds : List D} {vs : List V} {bs : List Int}, Reps F H ds vs → intsD ds = some bs → vs = bs.map V.int
  | [], _, _, .nil, e => by cases e; rfl
  | d :: ds, _, bs, .cons r rs, e => by
    cases d <;> try (cases e; done)
    rename_i b
    have e : (intsD ds).map (b :: ·) = some bs := e
    cases q : intsD ds with
    | none => rw [q] at e; cases e
    | some cs =>
      rw [q] at e; cases e
      cases r
      rw [ints_vals rs q]; rfl
def gAllAny (f : List Bool → Bool) : List D → Option D
  | [.lst ds] => (bls ds).map fun bs => .bl (f bs)
  | _ => none
theorem cd_all : CbD (rAll K) (gAllAny fun bs => bs.all id) := by
  intro F H xs d vs Q r e q
  unfold gAllAny at e
  split at e
  · rename_i ds
    obtain ⟨v, rfl, rv⟩ := r.one
    obtain ⟨a, vs, rfl, h, rs⟩ := rv.isLst
    cases hb : bls ds with
    | none => rw [hb] at e; cases e
    | some bs =>
      rw [hb] at e; cases e
      have := bls_vals rs hb
      subst this
      exact ⟨a, bs, rfl, .inl (.inl h), q H _ (Same.refl H) (Rep.bl _)⟩
  · cases e
theorem cd_any : CbD (rAny K) (gAllAny fun bs => bs.any id) := by
  intro F H xs d vs Q r e q
  unfold gAllAny at e
  split at e
  · rename_i ds
    obtain ⟨v, rfl, rv⟩ := r.one
    obtain ⟨a, vs, rfl, h, rs⟩ := rv.isLst
    cases hb : bls ds with
    | none => rw [hb] at e; cases e
    | some bs =>
      rw [hb] at e; cases e
      have := bls_vals rs hb
      subst this
      exact ⟨a, bs, rfl, .inl (.inl h), q H _ (Same.refl H) (Rep.bl _)⟩
  · cases e
def gSum : List D → Option D
  | [.lst ds] => (intsD ds).map fun bs => .int bs.sum
  | _ => none
theorem cd_sum : CbD (rSum K) gSum := by
  intro F H xs d vs Q r e q
  unfold gSum at e
  split at e
  · rename_i ds
    obtain ⟨v, rfl, rv⟩ := r.one
    obtain ⟨a, vs, rfl, h, rs⟩ := rv.isLst
    cases hb : intsD ds with
    | none => rw [hb] at e; cases e
    | some bs =>
      rw [hb] at e; cases e
      have := ints_vals rs hb
      subst this
      exact ⟨a, bs, rfl, .inl (.inl h), q H _ (Same.refl H) (Rep.int _)⟩
  · cases e

/-! ### isinstance -/
def tyName : D → Option String
  | .non => some "NoneType"
  | .bl _ => some "bool"
  | .int _ => some "int"
  | .str _ => some "str"
  | .lst _ => some "list"
  | .scr _ => some "list"
  | .tup _ => some "tuple"
  | _ => none
theorem RepR.ty {d : D} {v : V} {n : String} (r : RepR F H d v) (e : tyName d = some n) : TyX K H v (.type n) := by
  cases d <;> cases e
  · rw [r.isNon]; exact .base .non
  · rw [r.isBl]; exact .base (.bl _)
  · rw [r.isInt]; exact .base (.int _)
  · rw [r.isStr]; exact .base (.str _)
  · obtain ⟨a, vs, rfl, h, _⟩ := r.isTup; exact .base (.tup h)
  · obtain ⟨a, vs, rfl, h, _⟩ := r.isLst; exact .base (.lst h)
  · obtain ⟨a, o, vs, rfl, h, _⟩ := r.isScr; exact .base (.frz h)
/-- what isinstance answers, by names -/
def isTy (n T : String) : Option Bool := match n, T with
  | "NoneType", "int" => some false | "NoneType", "bool" => some false | "NoneType", "str" => some false | "NoneType", "list" => some false | "NoneType", "tuple" => some false
  | "bool", "int" => some true | "bool", "bool" => some true | "bool", "str" => some false | "bool", "list" => some false | "bool", "tuple" => some false
  | "int", "int" => some true | "int", "bool" => some false | "int", "str" => some false | "int", "list" => some false | "int", "tuple" => some false
  | "str", "int" => some false | "str", "bool" => some false | "str", "str" => some true | "str", "list" => some false | "str", "tuple" => some false
  | "list", "int" => some false | "list", "bool" => some false | "list", "str" => some false | "list", "list" => some true | "list", "tuple" => some false
  | "tuple", "int" => some false | "tuple", "bool" => some false | "tuple", "str" => some false | "tuple", "list" => some false | "tuple", "tuple" => some true
  | _, _ => none
theorem kit_is {n T : String} {b : Bool} (h : isTy n T = some b) : kitB n T = some b := by
  unfold isTy at h
  split at h <;> first | (cases h; done) | (cases h; decide +kernel)
end
end DL

end DLn
section DLo
set_option Elab.async false
set_option linter.all false
set_option autoImplicit false
set_option maxRecDepth 100000
namespace DL
open PySem PySem.Spec PyProof.Rows L2

/-! ### set(xs) of a list of ints, as the set's order asks it -/
abbrev freshSet (w : World) : Obj := { cls := .type "set", dict := none, data := .set #[] 0 (.fresh 0 0 (!w.params.followText "set-order")) }
section
variable {P : Program} {w : World} {A : Around} {E : Value → Shared → Prop} {s : Shared}
/-- what stands behind the call -/
def SetMade (w : World) (s : Shared) (zs : List Int) (s2 : Shared) : Prop := ∃ g tk c, s2 = { s with heap := g, toks := tk } ∧ SetR w g s.heap.objs.size (fun j => decide (j ∈ zs)) c ∧ c ≤ zs.length ∧ ∀ b o, s.heap.get? b = some o → g.get? b = some o
theorem fill_set {l : Addr} {xs : Array Value} {zs : List Int} (hh : A.handled = none) (pl : s.heap.IsList l xs) (iz : IntsAre xs.toList zs) (few : zs.length + 1 < scanBound) :
    codeAny (model P w) A (.call (.builtin "set.__init__") ⟨[.ref s.heap.objs.size, .ref l], []⟩) (wants (fun r s2 => r = .none ∧ SetMade w s zs s2) E) { s with heap := s.heap.push (freshSet w) } := by
  have size : xs.size = zs.length := by rw [← Array.length_toList]; exact IntsAre.length iz
  have got : (s.heap.push (freshSet w)).get? s.heap.objs.size = some (freshSet w) := Heap.get?_push_size _ rfl
  have ty : Shared.TypeIs { s with heap := s.heap.push (freshSet w) } (.ref s.heap.objs.size) "set" := ⟨_, got, rfl⟩
  refine codeAny_call_builtin F.called_set.init.plain F.entry_set_init (check_set_init_1 ty ?_)
  obtain ⟨⟨oc, od, odt, osl⟩, ho, hc, nl, hdt⟩ := pl
  simp only at hdt hc
  subst hdt hc
  have lt : l < s.heap.objs.size := Heap.lt_size ho
  have ho2 : (s.heap.push (freshSet w)).get? l = some { cls := .type "list", dict := od, data := .seq xs nl, slots := osl } := Heap.get?_push_of_some _ ho
  have pl2 : (s.heap.push (freshSet w)).IsList l xs := ⟨_, ho2, rfl, nl, rfl⟩
  have k1 := F.sub_list_set
  have k2 := F.sub_list_frozenset
  have k3 : (Value.type "list" == Value.type "dict") = false := by decide
  unfold Builtin.«set.__init__» noKeywords Builtin.Frozenset.updateFrom
  generalize hit : pyIter = walkOf
  wp_walk
  subst hit
  refine wpAny_pyIter_list pl2 (wpAny_bind (wpAny_runValue ?_))
  have at1 : (s.heap.push (freshSet w)).objs.size = s.heap.objs.size + 1 := Heap.size_push ..
  have away : l ≠ (s.heap.push (freshSet w)).objs.size := by rw [at1]; exact Nat.ne_of_lt (Nat.lt_succ_of_lt lt)
  have free : s.heap.objs.size ∉ [(s.heap.push (freshSet w)).objs.size, l] := fun z => by
    rw [at1] at z
    rcases List.mem_cons.mp z with z | z
    · exact absurd z (Nat.ne_of_lt (Nat.lt_succ_self _))
    · exact absurd (List.mem_singleton.mp z) (Nat.ne_of_gt lt)
  have item : ∀ (i : Nat) (v : Value), xs[i]? = some v → ∃ k t, zs[i]? = some k ∧ v = .int k t := fun i v hv => by
    have lti : i < zs.length := by rw [← size]; exact (Array.getElem?_eq_some_iff.mp hv).1
    obtain ⟨t, e⟩ := PyProof.Rows.IntsAre.int_at iz i v (by rw [Array.getElem?_toList]; exact hv)
    exact ⟨zs[i], t, List.getElem?_eq_getElem lti, by rw [e, List.getD_eq_getElem?_getD, List.getElem?_eq_getElem lti] <;> rfl⟩
  have calm3 : A.in1.in1.handled = none := by simp [hh]
  refine set_update_ints (Walks.list calm3 _ l away xs).toS s.heap.objs.size free zs size few item (xs.size - 0) 0 _ rfl (Nat.zero_le _) ?_ ?_ ?_
  · exact ⟨⟨_, Heap.get?_push_size _ rfl, rfl, rfl⟩, pl2.push _⟩
  · exact ⟨0, Nat.le_refl 0, setR_new_at (Heap.get?_push_of_some _ got)⟩
  intro s3 c mv hc made
  have eg := mv.gens
  have ed := mv.drawn
  have eo := mv.os
  obtain ⟨g, g2, d2, tk, os2⟩ := s3
  cases eg
  cases ed
  cases eo
  show wpAny _ _ _ _ _ _
  refine wpAny_pure ?_
  show wpAny _ _ (ret Value.none) _ _ _
  rw [size] at hc
  refine wpAny_pure ⟨rfl, g, tk, c, rfl, made, hc, fun b o e => ?_⟩
  have ltb : b < s.heap.objs.size := Heap.lt_size e
  refine mv.heap b o (fun z => ?_) (Heap.get?_push_of_some _ (Heap.get?_push_of_some _ e))
  rw [at1] at z
  rcases List.mem_cons.mp z with z | z
  · exact absurd z (Nat.ne_of_lt ltb)
  · exact absurd (List.mem_singleton.mp z) (Nat.ne_of_lt (Nat.lt_succ_of_lt ltb))
theorem set_of_list {l : Addr} {xs : Array Value} {zs : List Int} {Q : Value → Shared → Prop} (hh : A.handled = none) (pl : s.heap.IsList l xs) (iz : IntsAre xs.toList zs) (few : zs.length + 1 < scanBound)
    (h : ∀ s2, SetMade w s zs s2 → Q (.ref s.heap.objs.size) s2) : wpAny (model P w) A (call (.type "set") [.ref l]) Q E s := by
  obtain ⟨c, tl, hmro⟩ := F.called_set.mro
  have m1 := F.called_set.made
  have m2 := F.called_set.sub
  have m3 := F.called_set.notType
  have m4 := F.called_set.canCreate
  have m5 := F.typeCall_set_1 (.ref l)
  refine wpAny_call (codeAny_of_tree ?_)
  show wpAny _ _ (callAny (.type "set") _) _ _ _
  refine wpAny_pure ⟨Code.quiet_builtin _ (by decide +kernel), codeAny_builtin F.entry_type_call ?_⟩
  rw [Around.under_plain (weight_type_call_type "set" [.ref l] []) rfl]
  repeat (any_goals (first | assumption | wp_step))
  refine codeAny_mono (code_set_led1 (.ref l) (E := E) (Q₁ := fun z s1 => z = .ref s.heap.objs.size ∧ s1 = { s with heap := s.heap.push (freshSet w) }) ⟨rfl, rfl⟩) fun r s1 hr => ?_
  rcases r with x | (z | _ | _ | _) <;> first | exact hr | exact hr.elim | skip
  obtain ⟨rfl, rfl⟩ := hr
  have got : (s.heap.push (freshSet w)).get? s.heap.objs.size = some (freshSet w) := Heap.get?_push_size _ rfl
  have ty : Shared.TypeIs { s with heap := s.heap.push (freshSet w) } (.ref s.heap.objs.size) "set" := ⟨_, got, rfl⟩
  have i1 := F.called_set.init.lookup
  have i2 := F.called_set.init.bind (.ref s.heap.objs.size)
  repeat (any_goals (first | assumption | wp_step))
  refine codeAny_mono (fill_set (A := _) (E := E) ?_ pl iz few) fun r s2 hr => ?_
  · simp [hh]
  · rcases r with x | (z | _ | _ | _) <;> first | exact hr | exact hr.elim | skip
    obtain ⟨rfl, made⟩ := hr
    have made2 := made
    obtain ⟨g, tk, c, rfl, _⟩ := made2
    repeat (any_goals (first | assumption | wp_step))
    exact h _ made
end
end DL

end DLo
section DLp
set_option Elab.async false
set_option linter.all false
set_option autoImplicit false
set_option maxRecDepth 100000
namespace DL
open PySem PySem.Spec PyProof.Rows L2

/-! ### ascending, each once -/
def insU (x : Int) : List Int → List Int
  | [] => [x]
  | y :: ys => if x < y then x :: y :: ys else if x = y then y :: ys else y :: insU x ys
def sortU (ns : List Int) : List Int := ns.foldr insU []
theorem insU_mem (x z : Int) : ∀ ys : List Int, z ∈ insU x ys ↔ z = x ∨ z ∈ ys
  | [] => by simp [insU]
  | y :: ys => by
    unfold insU
    split
    · simp
    · split
      · rename_i h; subst h; simp
      · simp only [List.mem_cons, insU_mem x z ys]
        constructor
        · rintro (h | h | h) <;> simp [h]
        · rintro (h | h | h) <;> simp [h]
theorem insU_up (x : Int) : ∀ ys : List Int, ys.Pairwise (· < ·) → (insU x ys).Pairwise (· < ·)
  | [], _ => by simp [insU]
  | y :: ys, h => by
    obtain ⟨h1, h2⟩ := List.pairwise_cons.mp h
    unfold insU
    split
    · rename_i hx
      refine List.pairwise_cons.mpr ⟨fun z hz => ?_, h⟩
      rcases List.mem_cons.mp hz with e | e
      · omega
      · have := h1 z e; omega
    · split
      · exact h
      · refine List.pairwise_cons.mpr ⟨fun z hz => ?_, insU_up x ys h2⟩
        rcases (insU_mem x z ys).mp hz with e | e
        · omega
        · exact h1 z e
theorem sortU_mem (z : Int) (ns : List Int) : z ∈ sortU ns ↔ z ∈ ns := by
  induction ns with
  | nil => simp [sortU]
  | cons x ns ih =>
    show z ∈ insU x (sortU ns) ↔ _
    rw [insU_mem, ih, List.mem_cons]
theorem sortU_up (ns : List Int) : (sortU ns).Pairwise (· < ·) := by
  induction ns with
  | nil => simp [sortU]
  | cons x ns ih => exact insU_up x _ ih
theorem up_one : ∀ {l m : List Int}, l.Pairwise (· < ·) → m.Pairwise (· < ·) → (∀ z, z ∈ l ↔ z ∈ m) → l = m
  | [], [], _, _, _ => rfl
  | [], y :: m, _, _, h => by have := (h y).mpr List.mem_cons_self; cases this
  | x :: l, [], _, _, h => by have := (h x).mp List.mem_cons_self; cases this
  | x :: l, y :: m, hl, hm, h => by
    obtain ⟨l1, l2⟩ := List.pairwise_cons.mp hl
    obtain ⟨m1, m2⟩ := List.pairwise_cons.mp hm
    have hx : x = y := by
      rcases List.mem_cons.mp ((h x).mp List.mem_cons_self) with e | e
      · exact e
      · rcases List.mem_cons.mp ((h y).mpr List.mem_cons_self) with e2 | e2
        · exact e2.symm
        · have a := m1 x e
          have b := l1 y e2
          omega
    subst hx
    refine congrArg (x :: ·) (up_one l2 m2 fun z => ?_)
    have hz := h z
    constructor
    · intro e
      rcases List.mem_cons.mp (hz.mp (List.mem_cons_of_mem _ e)) with q | q
      · subst q; exact absurd (l1 _ e) (Int.lt_irrefl _)
      · exact q
    · intro e
      rcases List.mem_cons.mp (hz.mpr (List.mem_cons_of_mem _ e)) with q | q
      · subst q; exact absurd (m1 _ e) (Int.lt_irrefl _)
      · exact q

section
variable {X : Cx} {G : Gh} {F : FS} {H : Hp} {e : Expr}
/-! ### sorted(set(xs)) -/
def rSetL (K : PySem.W.Frag) (w : World) : List V → Hp → VK → Prop := fun xs H Q => ∃ (l : Addr) (ns : List Int), xs = [.ref l] ∧ (SqL K H l (ns.map V.int) ∨ SqT K H l (ns.map V.int)) ∧ ns.length < 64 ∧
  ∀ p n, H p = none → n ≤ ns.length → Q (.ref p) (upd H p (SetO w p (fun j => decide (j ∈ ns)) n))
theorem cr_setL (hc : X.calm = true) : CallR X (.type "set") (rSetL X.K X.w) := by
  intro pins s σ H vs us Q I r h
  obtain ⟨l, ns, rfl, hs, few, q⟩ := h
  rw [Vals.ref1 r]
  have hsc : ns.length + 1 < scanBound := by unfold scanBound; omega
  rcases hs with hs | hs
  · obtain ⟨its, rv, hl, _⟩ := I.list hs
    refine set_of_list (I.ok.hd hc) hl.isList (by simpa using rv.ints) hsc fun s2 ⟨g, tk, c, e, R, hc', k⟩ => ?_
    subst e
    exact ⟨.ref s.heap.objs.size, _, I.laid (t' := tk) k (Nat.le_refl _) (setO_new R), rfl, q _ c I.fresh hc'⟩
  · obtain ⟨its, rv, hl, _⟩ := I.tuple hs
    refine call_set_tupI ns (I.ok.hd hc) (show s.heap.IsTuple l its.toArray from hl) (by simpa using rv.ints) hsc fun g tk c R hc' k => ?_
    exact ⟨.ref s.heap.objs.size, _, I.laid (t' := tk) k (Nat.le_refl _) (setO_new R), rfl, q _ c I.fresh hc'⟩
def gSortSet : List D → Option D
  | [d] => (seqOf d).bind fun ds => (intsD ds).bind fun ns => if ns.length < 64 then some (.own (.lst ((sortU ns).map .int))) else none
  | _ => none
theorem Reps.ofInts {F : FS} {H : Hp} : ∀ ns : List Int, Reps F H (ns.map D.int) (ns.map V.int)
  | [] => .nil
  | n :: ns => .cons (.int n) (Reps.ofInts ns)
theorem gSortSet_imp {K : PySem.W.Frag} {w : World} {ms : MA} (σ : L2.St) (H : Hp) (Q : VK) (q : tOf G (cb gSortSet ms) σ H Q) : tCB (rSortedSet w) (tCons (tCB (rSetL K w) (tOfA G ms)) tNil) σ H Q := by
  refine cb_imp (r := fun vs H1 Q => rSetL K w vs H1 fun x H2 => rSortedSet w [x] H2 Q) ?_ σ H Q q
  intro F H xs d vs Q r e q
  unfold gSortSet at e
  split at e
  · rename_i x
    obtain ⟨v, rfl, rv⟩ := r.one
    cases h1 : seqOf x with
    | none => rw [h1] at e; cases e
    | some ds =>
      rw [h1] at e
      have e : (intsD ds).bind (fun ns => if ns.length < 64 then some (D.own (.lst ((sortU ns).map .int))) else none) = some d := e
      cases h2 : intsD ds with
      | none => rw [h2] at e; cases e
      | some ns =>
        rw [h2] at e
        have e : (if ns.length < 64 then some (D.own (.lst ((sortU ns).map .int))) else none) = some d := e
        split at e
        · rename_i few
          cases e
          obtain ⟨a, us, rfl, hs, rs⟩ := rv.seq h1
          have := ints_vals rs h2
          subst this
          refine ⟨a, ns, rfl, hs, few, fun p n hp hn => ⟨p, _, n, rfl, upd_same, by omega, fun zs p2 up mem _ hp2 => ?_⟩⟩
          have ez : zs = sortU ns := up_one up (sortU_up ns) fun z => by rw [mem z, sortU_mem]; simp
          subst ez
          have s1 : Same H (upd H p (SetO w p (fun j => decide (j ∈ ns)) n)) := same_upd hp
          have s2 := s1.trans (same_upd (o := .lst ((sortU ns).map V.int)) hp2)
          exact q _ _ s2 ⟨⟨p2, _, rfl, upd_same, .ofInts _⟩, p2, rfl, Same.free s1 hp2⟩
        · cases e
  · cases e
theorem de_sortSet {a : Expr} {m : ME} {p p2 q2 pos : Pos} (hc : X.calm = true) (hg : Gl X "sorted") (hm : X.mg "sorted" = none) (hg2 : Gl X "set") (hm2 : X.mg "set" = none) (ha : DE X G a m)
    (h1 : starEach [Expr.Call (.Name "set" p2) [a] [] q2] X.env = (false, eval (Expr.Call (.Name "set" p2) [a] [] q2) X.env) :: starEach [] X.env := by rfl) (h2 : starEach [a] X.env = (false, eval a X.env) :: starEach [] X.env := by rfl) :
    DE X G (.Call (.Name "sorted" p) [.Call (.Name "set" p2) [a] [] q2] [] pos) (cb gSortSet (aCons m aNil)) :=
  pe_imp (pe_callB (cr_sortedSet hc) hg hm boot_sorted (pa_cons (pe_callTy (cr_setL hc) hg2 hm2 boot_set (da_cons ha da_nil h2) (by decide) (by decide) h2 rfl) pa_nil h1) (by decide) (by decide) h1 rfl) (gSortSet_imp (K := X.K) (w := X.w))

/-! ### sorted(xs) of data -/
def encD (d : D) : PyData := (toP d).getD .none
def rSortD : List V → Hp → VK → Prop := fun vs H Q => ∃ (a : Addr) (ws : List V) (F : FS) (ds : List D) (ps : List PyData), vs = [.ref a] ∧ H a = some (.lst ws) ∧ Reps F H ds ws ∧ toPs ds = some ps ∧ PySem.W.AllAlike ps ∧ PySem.W.Sortable ps ∧ (∀ p ∈ ps, p.depth ≤ 60) ∧
  ∀ p zs, H p = none → Reps F H (ds.mergeSort (PySem.W.dataLe false encD)) zs → Q (.ref p) (upd H p (.lst zs))
theorem toPs_map : ∀ {ds : List D} {ps : List PyData}, toPs ds = some ps → ps = ds.map encD
  | [], _, e => by cases e; rfl
  | d :: ds, ps, e => by
    have e : (toP d).bind (fun y => (toPs ds).bind fun ys => some (y :: ys)) = some ps := e
    cases q : toP d with
    | none => rw [q] at e; cases e
    | some y =>
      cases q2 : toPs ds with
      | none => rw [q, q2] at e; cases e
      | some ys =>
        rw [q, q2] at e; cases e
        rw [List.map_cons, ← toPs_map q2]
        unfold encD; rw [q]; rfl
theorem each_of {K : PySem.W.Frag} {F : FS} {H : Hp} : ∀ {ds : List D} {ws : List V} {us : List Value}, Reps F H ds ws → Vals ws us → PySem.W.EachIs (fun u d => ∃ w, RelV w u ∧ Rep F H d w) us ds
  | _, _, _, .nil, .nil => .nil
  | _, _, _, .cons r rs, .cons q qs => .cons ⟨_, q, r⟩ (each_of (K := K) rs qs)
theorem of_each {F : FS} {H : Hp} : ∀ {ds : List D} {us : List Value}, PySem.W.EachIs (fun u d => ∃ w, RelV w u ∧ Rep F H d w) us ds → ∃ ws, Reps F H ds ws ∧ Vals ws us
  | _, _, .nil => ⟨[], .nil, .nil⟩
  | _, _, .cons ⟨w, q, r⟩ t => by
    obtain ⟨ws, rs, qs⟩ := of_each t
    exact ⟨w :: ws, .cons r rs, .cons q qs⟩
theorem each_reads {pins : List (Addr × Obj)} {σ : L2.St} {s : Shared} (I : Inv X pins σ H s) : ∀ {ds : List D} {ws : List V} {us : List Value} {ps : List PyData}, Reps F H ds ws → Vals ws us → toPs ds = some ps → PySem.W.EachIs (fun u d => ∃ as, Reads s.heap u (encD d) as) us ds
  | _, _, _, _, .nil, .nil, _ => .nil
  | d :: ds, _, _, ps, .cons r rs, .cons q qs, e => by
    have e : (toP d).bind (fun y => (toPs ds).bind fun ys => some (y :: ys)) = some ps := e
    cases q1 : toP d with
    | none => rw [q1] at e; cases e
    | some y =>
      cases q2 : toPs ds with
      | none => rw [q1, q2] at e; cases e
      | some ys =>
        refine .cons ?_ (each_reads I rs qs q2)
        unfold encD
        rw [q1]
        exact Dp.reads I y _ _ (r.dp q1) q
theorem cr_sortD (hu : X.A.units + 64 < cLine) : CallR X (.builtin "sorted") rSortD := by
  intro pins s σ H vs us Q I r h
  obtain ⟨a, ws, F, ds, ps, rfl, ha, rs, hp, al, so, dep, q⟩ := h
  rw [Vals.ref1 r]
  obtain ⟨its, rv, hl, hz⟩ := I.list (.inl (.inl ha) : SqL X.K H a ws)
  have e0 := toPs_map hp
  refine PySem.W.sorted_data (bs := ds) (enc := encD) (R := fun u d => ∃ w, RelV w u ∧ Rep F H d w) hl.isList (each_of (K := X.K) rs rv) (each_reads I rs rv hp) (by rw [← e0]; exact al) (by rw [← e0]; exact so) (by rw [rs.length]; exact hz) (fun b hb => ?_) fun out hlen hout => ?_
  · have := dep (encD b) (by rw [e0]; exact List.mem_map_of_mem hb)
    omega
  · obtain ⟨zs, rz, vz⟩ := of_each hout
    obtain ⟨ep, he'⟩ := PyProof.Rows.sortedAll_at s.heap its out.toArray
    exact ⟨.ref _, upd H (s.heap.objs.size + 1) (.lst zs), I.laid (t' := s.toks) (fun _ _ => PyProof.Rows.sortedAll_old) (Nat.le_succ _) ⟨by rw [vz.length, hlen, rs.length]; exact hz, out, ep, vz, he'⟩, rfl, q _ _ (I.hok.fresh (Nat.le_succ _)) rz⟩
/-- may they be sorted -/
def sortOk (ps : List PyData) : Bool := (ps.all fun p => ps.all fun q => PySem.W.alike p q) && ((ps.all fun p => match p with | .tuple (_ :: _) => true | _ => false) || (ps.all fun p => match p with | .none => false | .tuple _ => false | _ => true)) && (ps.all fun p => decide (p.depth ≤ 60))
theorem sortOk_of {ps : List PyData} (h : sortOk ps = true) : PySem.W.AllAlike ps ∧ PySem.W.Sortable ps ∧ ∀ p ∈ ps, p.depth ≤ 60 := by
  unfold sortOk at h
  simp only [Bool.and_eq_true, Bool.or_eq_true, List.all_eq_true, decide_eq_true_eq] at h
  obtain ⟨⟨h1, h2⟩, h3⟩ := h
  refine ⟨fun d hd d' hd' => h1 d hd d' hd', ?_, h3⟩
  rcases h2 with h2 | h2
  · refine .inl fun d hd => ?_
    have := h2 d hd
    split at this
    · exact ⟨_, _, rfl⟩
    · cases this
  · refine .inr fun d hd => ?_
    have := h2 d hd
    split at this
    · cases this
    · cases this
    · rename_i a b
      exact ⟨a, b⟩
def gSort : List D → Option D
  | [.lst ds] => (toPs ds).bind fun ps => if sortOk ps then some (.own (.lst (ds.mergeSort (PySem.W.dataLe false encD)))) else none
  | _ => none
theorem cd_sort : CbD rSortD gSort := by
  intro F H xs d vs Q r e q
  unfold gSort at e
  split at e
  · rename_i ds
    obtain ⟨v, rfl, rv⟩ := r.one
    obtain ⟨a, ws, rfl, h, rs⟩ := rv.isLst
    cases hp : toPs ds with
    | none => rw [hp] at e; cases e
    | some ps =>
      rw [hp] at e
      have e : (if sortOk ps then some (D.own (.lst (ds.mergeSort (PySem.W.dataLe false encD)))) else none) = some d := e
      split at e
      · rename_i ok
        cases e
        obtain ⟨a1, a2, a3⟩ := sortOk_of ok
        exact ⟨a, ws, F, ds, ps, rfl, h, rs, hp, a1, a2, a3, fun p zs n rz => q _ _ (same_upd n) ⟨⟨p, zs, rfl, upd_same, rz.le (Le.same (same_upd n))⟩, p, rfl, n⟩⟩
      · cases e
  · cases e
end
end DL

end DLp
section DLq
set_option Elab.async false
set_option linter.all false
set_option autoImplicit false
set_option maxRecDepth 100000
namespace DL
open PySem PySem.Spec PyProof.Rows L2

section
variable {X : Cx} {G : Gh} {F : FS} {H : Hp} {e : Expr} {es : List Expr}
/-! ### isinstance -/
def gIsi (T : String) (d : D) : Option D := (tyName d).bind fun n => (isTy n T).map .bl
theorem de_isi {T : String} {x : Str} {m : ME} {p p2 pos : Pos} (hg : Gl X "isinstance") (hm : X.mg "isinstance" = none) (he : DE X G e m) (hg2 : Gl X x) (hm2 : X.mg x = none) (hv : bootBuiltins x = some (.type T))
    (hn : x ≠ "__name__" := by decide) (hdb : (x == ("__debug__" : Str)) = false := by decide)
    (h1 : starEach [e, .Name x p2] X.env = (false, eval e X.env) :: starEach [.Name x p2] X.env := by rfl) (h2 : starEach [.Name x p2] X.env = (false, eval (.Name x p2) X.env) :: starEach [] X.env := by rfl) (hpl : (backTo pos (starEach [.Name x p2] X.env)).any (·.1) = false := by rfl) :
    DE X G (.Call (.Name "isinstance" p) [e, .Name x p2] [] pos) (un (gIsi T) m) :=
  pe_imp (pe_callB call_isi hg hm boot_isinstance (pa_cons he (pa_cons (pe_bltn (v := .ty T) hg2 hm2 hv rfl hn hdb) pa_nil h2) h1) (by decide) (by decide) h1 hpl) fun σ H Q q => by
    refine un_imp (r := fun v H1 Q => rIsi X.K [v, .ty T] H1 Q) ?_ σ H Q q
    intro F H x d v Q r e q
    unfold gIsi at e
    cases h1 : tyName x with
    | none => rw [h1] at e; cases e
    | some n =>
      rw [h1] at e
      have e : (isTy n T).map D.bl = some d := e
      cases h2 : isTy n T with
      | none => rw [h2] at e; cases e
      | some b =>
        rw [h2] at e; cases e
        exact ⟨v, .ty T, .type n, .type T, b, rfl, .ty T, r.ty h1, kit_ty (kit_is h2), q H _ (Same.refl H) (Rep.bl _)⟩
def gIsi2 (T U : String) (d : D) : Option D := (tyName d).bind fun n => (isTy n T).bind fun a => (isTy n U).bind fun b => some (.bl (a || b))
theorem de_isi2 {T U : String} {x y : Str} {m : ME} {k : Nat} {p p2 p3 p4 pos : Pos} (hg : Gl X "isinstance") (hm : X.mg "isinstance" = none) (he : DE X G e m) (hg2 : Gl X x) (hm2 : X.mg x = none) (hv : bootBuiltins x = some (.type T)) (hg3 : Gl X y) (hm3 : X.mg y = none) (hv3 : bootBuiltins y = some (.type U))
    (hn : x ≠ "__name__" := by decide) (hdb : (x == ("__debug__" : Str)) = false := by decide) (hn3 : y ≠ "__name__" := by decide) (hdb3 : (y == ("__debug__" : Str)) = false := by decide)
    (h1 : starEach [e, .Tuple [.Name x p2, .Name y p3] k p4] X.env = (false, eval e X.env) :: starEach [.Tuple [.Name x p2, .Name y p3] k p4] X.env := by rfl) (h2 : starEach [.Tuple [.Name x p2, .Name y p3] k p4] X.env = (false, eval (.Tuple [.Name x p2, .Name y p3] k p4) X.env) :: starEach [] X.env := by rfl)
    (h3 : starEach [.Name x p2, .Name y p3] X.env = (false, eval (.Name x p2) X.env) :: starEach [.Name y p3] X.env := by rfl) (h4 : starEach [.Name y p3] X.env = (false, eval (.Name y p3) X.env) :: starEach [] X.env := by rfl)
    (hpl : (backTo pos (starEach [.Tuple [.Name x p2, .Name y p3] k p4] X.env)).any (·.1) = false := by rfl) :
    DE X G (.Call (.Name "isinstance" p) [e, .Tuple [.Name x p2, .Name y p3] k p4] [] pos) (un (gIsi2 T U) m) :=
  pe_imp (pe_callB call_isiT hg hm boot_isinstance (pa_cons he (pa_cons (pe_tup (pa_cons (pe_bltn (v := .ty T) hg2 hm2 hv rfl hn hdb) (pa_cons (pe_bltn (v := .ty U) hg3 hm3 hv3 rfl hn3 hdb3) pa_nil h4) h3)) pa_nil h2) h1) (by decide) (by decide) h1 hpl) fun σ H Q q => by
    refine un_imp (r := fun v H1 Q => [V.ty T, V.ty U].length ≤ sizeLine ∧ ∀ p, H1 p = none → rIsiT X.K [v, .ref p] (upd H1 p (.tup [.ty T, .ty U])) Q) ?_ σ H Q q
    intro F H x d v Q r e q
    refine ⟨by show 2 ≤ sizeLine; rw [sizeLine_eq]; omega, fun p n => ?_⟩
    unfold gIsi2 at e
    cases h1 : tyName x with
    | none => rw [h1] at e; cases e
    | some n' =>
      rw [h1] at e
      have e : (isTy n' T).bind (fun a => (isTy n' U).bind fun b => some (D.bl (a || b))) = some d := e
      cases h2 : isTy n' T with
      | none => rw [h2] at e; cases e
      | some a =>
        cases h3 : isTy n' U with
        | none => rw [h2, h3] at e; cases e
        | some b =>
          rw [h2, h3] at e; cases e
          have r2 : RepR F (upd H p (.tup [.ty T, .ty U])) x v := by
            rcases r with r | r
            · exact .inl (r.le (Le.same (same_upd n)))
            · obtain ⟨c, rfl⟩ := r.isref
              refine .inr (r.le (Le.same (same_upd n)) fun b e => ?_)
              cases e
              rw [upd_ne fun z => r.there (by rw [z]; exact n)]
          refine ⟨v, p, _, .type n', [.type T, .type U], a || b, rfl, upd_same, .cons (.ty T) (.cons (.ty U) .nil), r2.ty h1, ?_, q _ _ (same_upd n) (Rep.bl _)⟩
          refine kitAny_cons (kit_ty (kit_is h2)) (fun ea => ?_) fun ea => by rw [ea]; rfl
          rw [ea]
          exact kitAny_cons (b := b) (kit_ty (kit_is h3)) (fun eb => by rw [eb]; rfl) fun eb => by rw [eb]; rfl

/-! ### a op b op c -/
def chain (g g' : D → D → Option D) (ma mb mc : ME) : ME := fun ls => (val ma ls).bind fun p => (val mb p.2).bind fun q =>
  (opt (see q.2 p.1)).bind fun x => (opt (see q.2 q.1)).bind fun y => match g x y with
    | some (.bl true) => (val mc q.2).bind fun r => (opt (see r.2 q.1)).bind fun y => (opt (see r.2 r.1)).bind fun z => (opt (g' y z)).bind fun d => .ok (d, r.2)
    | some (.bl false) => .ok (.bl false, q.2)
    | _ => .stuck
theorem chain_imp {r r' : R2} {g g' : D → D → Option D} (hg : OpD r g) (hg' : OpD r' g') {ma mb mc : ME} (σ : L2.St) (H : Hp) (Q : VK) (q : tOf G (chain g g' ma mb mc) σ H Q) : tChain r r' (tOf G ma) (tOf G mb) (tOf G mc) σ H Q := by
  obtain ⟨F, ls, L, o⟩ := q
  refine tOf.settled L o fun F1 H1 ls1 d v p L1 r1 o1 => ?_
  refine tOf.settled L1 o1 fun F2 H2 ls2 d2 u p2 L2 r2 o2 => ?_
  dsimp only at o2
  cases e1 : see ls2 d with
  | none => rw [e1] at o2; exact o2.elim
  | some x =>
    cases e2 : see ls2 d2 with
    | none => rw [e1, e2] at o2; exact o2.elim
    | some y =>
      rw [e1, e2] at o2
      simp only [opt_some, Res.bind_ok] at o2
      split at o2
      · rename_i e3
        refine hg F2 H2 x y _ v u _ (see_rep L2 (r1.le p2) e1) (see_rep L2 r2 e2) e3 fun H3 w s3 rw' => ?_
        cases (show Rep F2 H3 (.bl true) w from rw')
        refine ⟨true, rfl, ?_⟩
        rw [if_pos rfl]
        refine tOf.settled (L2.same s3) (Out.later (Le.same s3) o2) fun F4 H4 ls4 d4 v4 p4 L4 r4 o4 => ?_
        dsimp only at o4
        cases e4 : see ls4 d2 with
        | none => rw [e4] at o4; exact o4.elim
        | some y' =>
          cases e5 : see ls4 d4 with
          | none => rw [e4, e5] at o4; exact o4.elim
          | some z =>
            rw [e4, e5] at o4
            simp only [opt_some, Res.bind_ok] at o4
            cases e6 : g' y' z with
            | none => rw [e6] at o4; exact o4.elim
            | some d6 =>
              rw [e6] at o4
              exact hg' F4 H4 y' z d6 u v4 Q (see_rep L4 (r2.le ((Le.same s3).trans p4)) e4) (see_rep L4 r4 e5) e6 (Pur.of L4 o4)
      · rename_i e3
        refine hg F2 H2 x y _ v u _ (see_rep L2 (r1.le p2) e1) (see_rep L2 r2 e2) e3 fun H3 w s3 rw' => ?_
        cases (show Rep F2 H3 (.bl false) w from rw')
        refine ⟨false, rfl, ?_⟩
        rw [if_neg Bool.false_ne_true]
        exact o2 F2 H3 _ (Le.same s3) (L2.same s3) (Rep.bl _)
      · exact o2.elim
theorem de_chain {a b c : Expr} {op op' : CmpOp} {r r' : R2} {g g' : D → D → Option D} {ma mb mc : ME} {pos : Pos} (ho : OpR X (compareOp op) r) (hg : OpD r g) (ho' : OpR X (compareOp op') r') (hg' : OpD r' g') (ha : DE X G a ma) (hb : DE X G b mb) (hc : DE X G c mc)
    (hm : lastMarks [op, op'] [b, c] = false := by with_unfolding_all rfl) : DE X G (.Compare a [op, op'] [b, c] pos) (chain g g' ma mb mc) := pe_imp (pe_chain ho ho' ha hb hc hm) (chain_imp hg hg')
theorem dt_chain {a b c : Expr} {op op' : CmpOp} {r r' : R2} {g g' : D → D → Option D} {ma mb mc : ME} {pos : Pos} (ho : OpR X (compareOp op) r) (hg : OpD r g) (ho' : OpR X (compareOp op') r') (hg' : OpD r' g') (ha : DE X G a ma) (hb : DE X G b mb) (hc : DE X G c mc)
    (hm : lastMarks [op, op'] [b, c] = false := by with_unfolding_all rfl) : DT X G (.Compare a [op, op'] [b, c] pos) (tst (chain g g' ma mb mc)) := pt_imp (pt_chain ho ho' ha hb hc hm) (tst_imp (chain_imp hg hg'))
/-- no test of a comprehension's clause; one -/
def tAlways : MT := fun ls => .ok (true, ls)
theorem dts_nil : PTs X [] (tOfT G tAlways) := ⟨fun pins s σ H Q I ⟨F, ls, L, o⟩ => pts_nil.run pins s σ H Q I (o F H .refl L)⟩
theorem dts_one {c : Expr} {t : MT} (h : DT X G c t) : PTs X [c] (tOfT G t) := pts_one h
end
end DL

end DLq
section DLr
set_option Elab.async false
set_option linter.all false
set_option autoImplicit false
set_option maxRecDepth 100000
namespace DL
open PySem PySem.Spec PyProof.Rows L2

section
variable {X : Cx} {G : Gh} {F F' : FS} {H H' : Hp} {ls : LS} {σ : L2.St} {e tg o : Expr} {es : List Expr} {Z : Ends}
/-! ### a builtin type's method that changes nothing -/
def tyD (T : String) : D → Bool
  | .str _ => T == "str"
  | .lst _ => T == "list"
  | _ => false
def mBM (T : String) (g : D → List D → Option D) (mo : ME) (ms : MA) : ME := fun ls => (val mo ls).bind fun p => (opt (see p.2 p.1)).bind fun x0 => if tyD T x0 then
  (ms p.2).bind fun q => (opt (see q.2 p.1)).bind fun x => (opt (sees q.2 q.1)).bind fun xs => (opt (g x xs)).bind fun d => .ok (d, q.2) else .stuck
def BmD (r : V → List V → Hp → VK → Prop) (g : D → List D → Option D) : Prop := ∀ (F : FS) (H : Hp) (x : D) (xs : List D) (d : D) (v : V) (vs : List V) (Q : VK), RepR F H x v → RepRs F H xs vs → g x xs = some d → Pur F H d Q → r v vs H Q
theorem tyD_of {K : PySem.W.Frag} {T : String} {x : D} {v : V} (r : RepR F H x v) (e : tyD T x = true) : tyV K T v H := by
  cases x with
  | str z =>
    obtain rfl := r.isStr
    exact eq_of_beq e
  | lst xs =>
    obtain ⟨a, vs, rfl, h, _⟩ := r.isLst
    exact .inl ⟨eq_of_beq e, vs, .inl (.inl h)⟩
  | _ => cases e
theorem mBM_imp {K : PySem.W.Frag} {T : String} {r : V → List V → Hp → VK → Prop} {g : D → List D → Option D} (hg : BmD r g) {mo : ME} {ms : MA} (σ : L2.St) (H : Hp) (Q : VK) (q : tOf G (mBM T g mo ms) σ H Q) : tBM K T r (tOf G mo) (tOfA G ms) σ H Q := by
  obtain ⟨F, ls, L, o⟩ := q
  refine tOf.settled L o fun F1 H1 ls1 d v p1 L1 r1 o1 => ?_
  cases e0 : see ls1 d with
  | none => dsimp only at o1; rw [e0] at o1; exact o1.elim
  | some x0 =>
    dsimp only at o1
    rw [e0, opt_some, Res.bind_ok] at o1
    cases e1 : tyD T x0 with
    | false => rw [e1] at o1; exact o1.elim
    | true =>
      rw [e1, if_pos rfl] at o1
      refine ⟨tyD_of (see_rep L1 r1 e0) e1, tOfA.firstE L1 o1 fun F2 H2 ls2 ds vs p2 L2 rs o2 => ?_⟩
      have r2 := r1.le p2
      dsimp only at o2
      cases e2 : see ls2 d with
      | none => rw [e2] at o2; exact o2.elim
      | some x =>
        cases e3 : sees ls2 ds with
        | none => rw [e2, e3] at o2; exact o2.elim
        | some xs =>
          cases e4 : g x xs with
          | none => rw [e2, e3, opt_some, opt_some, Res.bind_ok, Res.bind_ok, e4] at o2; exact o2.elim
          | some z =>
            rw [e2, e3, opt_some, opt_some, Res.bind_ok, Res.bind_ok, e4] at o2
            exact hg F2 H2 x xs z v vs Q (see_rep L2 r2 e2) (sees_rep L2 rs e3) e4 (.of L2 o2)
theorem de_bm {T name id : String} {nm : Str} {r : V → List V → Hp → VK → Prop} {g : D → List D → Option D} {mo : ME} {ms : MA} (hg : BmD r g) {apos cpos : Pos}
    (h : PE X (.Call (.Attribute o nm apos) es [] cpos) (tBM X.K T r (tOf G mo) (tOfA G ms))) : DE X G (.Call (.Attribute o nm apos) es [] cpos) (mBM T g mo ms) := pe_imp h (mBM_imp hg)
def strsD : List D → Option (List Str)
  | [] => some []
  | .str b :: ds => (strsD ds).map (b :: ·)
  | _ => none
theorem strs_vals : ∀ {ds : List D} {vs : List V} {bs : List Str}, Reps F H ds vs → strsD ds = some bs → vs = bs.map V.str
  | [], _, _, .nil, e => by cases e; rfl
  | d :: ds, _, bs, .cons r rs, e => by
    cases d <;> try (cases e; done)
    rename_i b
    have e : (strsD ds).map (b :: ·) = some bs := e
    cases q : strsD ds with
    | none => rw [q] at e; cases e
    | some cs =>
      rw [q] at e; cases e
      cases r
      rw [strs_vals rs q]; rfl
def rJoinS (K : PySem.W.Frag) : V → List V → Hp → VK → Prop := fun x xs H Q => ∃ a p, ∃ ys : List Str, x = .str a ∧ xs = [.ref p] ∧ (SqL K H p (ys.map V.str) ∨ SqT K H p (ys.map V.str)) ∧
    (ys.map (·.length)).sum + ys.length * a.length ≤ 16777216 ∧ Q (.str (Txt.join a ys)) H
def gJoin : D → List D → Option D
  | .str a, [.lst ds] => (strsD ds).bind fun ys => if (ys.map (·.length)).sum + ys.length * a.length ≤ 16777216 then some (.str (Txt.join a ys)) else none
  | _, _ => none
theorem bd_join {K : PySem.W.Frag} : BmD (rJoinS K) gJoin := by
  intro F H x xs d v vs Q r rs e p
  cases x <;> try (cases e; done)
  rename_i a
  obtain rfl := r.isStr
  match xs, rs, e with
  | [.lst ds], rs, e =>
    obtain ⟨w, rfl, r2⟩ := rs.one
    obtain ⟨b, ws, rfl, h, r3⟩ := r2.isLst
    have e : (strsD ds).bind (fun ys => if (ys.map (·.length)).sum + ys.length * a.length ≤ 16777216 then some (.str (Txt.join a ys)) else none) = some d := e
    cases q : strsD ds with
    | none => rw [q] at e; cases e
    | some ys =>
      rw [q] at e
      have e : (if (ys.map (·.length)).sum + ys.length * a.length ≤ 16777216 then some (D.str (Txt.join a ys)) else none) = some d := e
      split at e
      · rename_i hz
        cases e
        exact ⟨a, b, ys, rfl, rfl, .inl (.inl (.inl (by rw [← strs_vals r3 q]; exact h))), hz, p H _ (Same.refl _) (.str _)⟩
      · cases e
theorem de_join {x : Expr} {mo : ME} {ms : MA} {apos cpos : Pos} (ho : DE X G o mo) (ha : DA X G (e :: es) ms)
    (hbase : attributeBase o "join" X.env (eval o X.env) = eval o X.env := by rfl)
    (hfew : ((backTo cpos (starEach (e :: es) X.env)).all (fun x => !x.1) && (backToKw cpos (keywordEach [] X.env)).all (fun x => x.1.isSome)
      && decide ((e :: es).length + ([] : List Keyword).length + (if ([] : List Keyword).isEmpty then 0 else 1) < 30)) = true := by rfl)
    (hline : (apos.endLine == cpos.line) = true := by rfl) (hs : starEach (e :: es) X.env = (false, eval e X.env) :: starEach es X.env := by rfl) (hplain : (backTo cpos (starEach es X.env)).any (·.1) = false := by rfl) :
    DE X G (.Call (.Attribute o "join" apos) (e :: es) [] cpos) (mBM "str" gJoin mo ms) :=
  pe_imp (pe_bm PySem.F.plainAttrs_str PySem.F.slot_str_join PySem.F.type_str_join mt_join ho ha hbase hfew hline hs hplain) (mBM_imp bd_join)

/-! ### isinstance of a caught error -/
/-- a is an exception of the class C, there when X's body was entered -/
structure KnowsE (X : Cx) (a C : Addr) : Prop where
  at_ : ∃ oe, X.s_0.heap.get? a = some oe ∧ Zc (.ref C) none oe ∧ ∃ vs, oe.data = .fields vs
  non : X.H_0 a = none
  fr : a ∉ X.fs
  ex : a ∉ X.ex
theorem call_isE2 {a C : Addr} (k : KnowsE X a C) (c : ExcC X.K C) : CallR X (.builtin "isinstance") (rIsE X.K C a) := by
  intro pins s σ H xs us Q I r h
  obtain ⟨cv, u, b, rfl, hcv, e, q⟩ := h
  cases r with
  | cons rx rr =>
    cases rr with
    | cons rt rr =>
      cases rr
      cases rx
      have ec := hcv _ rt
      subst ec
      obtain ⟨oe, h0, hz, vs, hv⟩ := k.at_
      have hget := I.base.keep a oe h0 k.non k.fr k.ex
      have J : PySem.W.InstAt s.heap a oe C none := by
        obtain ⟨oc, od, oda, osl⟩ := oe
        obtain ⟨h1, h2⟩ := hz
        dsimp only at h1 h2 hv
        subst h1 h2 hv
        exact ⟨hget, rfl, rfl, trivial⟩
      exact PySem.W.kia_one (PySem.W.handS_kitx_exc c.hg c.hk c.hs c.hd c.ha c.hn c.ht c.hm) I.kIn J e (fun z => nomatch z) fun tk => ⟨.bl b, H, I.kept (t' := tk) fun _ _ z => z, rfl, q⟩
def gIsE (a : Addr) (tb : Addr → Option Bool) : List D → Option D
  | [.ref b, .ref c] => if b = a then (tb c).map .bl else none
  | _ => none
theorem RepR.isRef {b : Addr} {v : V} (r : RepR F H (.ref b) v) : v = .ref b := by
  rcases r with r | r
  · cases r; rfl
  · exact r.elim
theorem cd_isE {K : PySem.W.Frag} {a C : Addr} {tb : Addr → Option Bool} (h : ∀ c b, tb c = some b → PySem.W.kitOne K (.ref C) (.ref c) = some b) : CbD (rIsE K C a) (gIsE a tb) := by
  intro F H xs d vs Q rs e p
  match xs, rs, e with
  | [.ref b, .ref c], rs, e0 =>
    obtain ⟨v, w, rfl, r1, r2⟩ := rs.two
    obtain rfl := r1.isRef
    obtain rfl := r2.isRef
    have e2 : (if b = a then (tb c).map D.bl else none) = some d := e0
    by_cases hb : b = a
    · rw [if_pos hb] at e2
      cases q : tb c with
      | none => rw [q] at e2; cases e2
      | some z =>
        rw [q] at e2; cases e2
        exact ⟨.ref c, .ref c, z, by rw [hb], fun u hu => hu, h c z q, p H _ (Same.refl _) (.bl z)⟩
    · rw [if_neg hb] at e2; cases e2
end
end DL

end DLr
section DLs
set_option Elab.async false
set_option linter.all false
set_option autoImplicit false
set_option maxRecDepth 100000
set_option maxHeartbeats 2000000
namespace DL
open PySem PySem.Spec PyProof.Rows L2

/-! ### where an exception is handled: the end of a list, of a tuple -/
section
variable {prog : Program} {w : World} {A : Around} {E : Value → Shared → Prop} {s : Shared}
theorem list_end_hot {it l x1 : Addr} {i : Nat} {items : Array Value} {Q : Option Value → Shared → Prop} (hot : HotX.HotAt A x1 s.heap) (hne : x1 ≠ it)
    (hit : s.heap.IsListIter it l i) (hl : s.heap.IsList l items) (hx : items[i]? = none)
    (hQ : ∀ h', Heap.ExtBut it s.heap h' → Q none { s with heap := h' }) : wpAny (model prog w) A (pyNext (.ref it)) Q E s := by
  obtain ⟨o, ho, hc, hd⟩ := id hit
  obtain ⟨ol, hol, _, nl, hdl⟩ := hl
  unfold pyNext
  refine wpAny_bind (wpAny_attempt (wpAny_callSpecial?_slot (name := Str.ofString "__next__") hit.typeIs slot_listiter_next
    (wpAny_call_entry slot_listiter_next hit.typeIs entry_listiter_next ?_ (args_listiter_next _))))
  show wpAny _ _ (field (.ref it) 0 >>= _) _ _ s
  refine wpAny_bind (wpAny_field ho hd (x := .ref l) rfl ?_)
  show wpAny _ _ (if (Value.ref l == Value.none) = true then _ else _) _ _ s
  rw [if_neg (show ¬ ((Value.ref l == Value.none) = true) from Bool.false_ne_true)]
  show wpAny _ _ (field (.ref it) 1 >>= _) _ _ s
  refine wpAny_bind (wpAny_field ho hd (x := .int i 0) rfl ?_)
  show wpAny _ _ (seqItems? (.ref l) >>= _) _ _ s
  refine wpAny_bind (wpAny_seqItems hol hdl ?_)
  simp only [Int.toNat_natCast, hx]
  refine wpAny_bind (wpAny_rule (wpAny_bind (wpAny_setField ho hd (by simp) ?_)))
  obtain ⟨hh, o1, vs1, g1, d1, c1⟩ := hot
  show wpAny _ _ (newExc (.type "StopIteration") [] >>= _) _ _ _
  refine wpAny_bind ?_
  simp only [newExc, newTuple]
  refine wpAny_bind (wpAny_newObj_type ?_ (by size_fits))
  refine wpAny_bind (m := firstArgMember _ _) (wpAny_of_eq (a := Value.none) (by first | rfl | (simp only [firstArgMember]; rfl)) ?_)
  refine wpAny_newObj_type ?_ (by size_fits)
  refine HotX.raiseNew_hot (x1 := x1) (A := A.in1) ⟨hh, o1, vs1, Heap.get?_push_of_some _ (Heap.get?_push_of_some _ ((Heap.get?_update_other _ _ (Ne.symm hne)).trans g1)), d1, c1⟩ (Nat.ne_of_lt (Heap.lt_size (Heap.get?_push_of_some _ ((Heap.get?_update_other _ _ (Ne.symm hne)).trans g1)))) (Heap.get?_push_size _ rfl) rfl (by first | (simp; done) | (simp; omega) | (simp only [Array.size_append]; simp; omega)) ?_
  refine wpAny_bind (wpAny_isInstance (T := "StopIteration") (b := true) ⟨_, Heap.get?_update_self _ (Heap.get?_push_size _ rfl) rfl, rfl⟩ isSubtype_stop ?_)
  refine wpAny_pure (hQ _ fun b o hb e => ?_)
  refine (Heap.get?_update_other _ _ (Nat.ne_of_gt (Heap.lt_size (Heap.get?_push_of_some _ ((Heap.get?_update_other _ _ (Ne.symm hb)).trans e))))).trans ?_
  exact Heap.get?_push_of_some _ (Heap.get?_push_of_some _ ((Heap.get?_update_other _ _ (Ne.symm hb)).trans e))
theorem tuple_end_hot {it l x1 : Addr} {i : Nat} {items : Array Value} {Q : Option Value → Shared → Prop} (hot : HotX.HotAt A x1 s.heap) (hne : x1 ≠ it)
    (hit : IsTupIter s.heap it l i) (hl : IsTup s.heap l items) (hx : items[i]? = none)
    (hQ : ∀ h', Heap.ExtBut it s.heap h' → Q none { s with heap := h' }) : wpAny (model prog w) A (pyNext (.ref it)) Q E s := by
  obtain ⟨o, ho, hc, hd⟩ := id hit
  obtain ⟨ol, hol, _, nl, hdl⟩ := hl
  unfold pyNext
  refine wpAny_bind (wpAny_attempt (wpAny_callSpecial?_slot (name := Str.ofString "__next__") hit.typeIs slot_tupleiter_next
    (wpAny_call_entry slot_tupleiter_next hit.typeIs entry_tupleiter_next ?_ (args_tupleiter_next _))))
  show wpAny _ _ (field (.ref it) 0 >>= _) _ _ s
  refine wpAny_bind (wpAny_field ho hd (x := .ref l) rfl ?_)
  show wpAny _ _ (if (Value.ref l == Value.none) = true then _ else _) _ _ s
  rw [if_neg (show ¬ ((Value.ref l == Value.none) = true) from Bool.false_ne_true)]
  show wpAny _ _ (field (.ref it) 1 >>= _) _ _ s
  refine wpAny_bind (wpAny_field ho hd (x := .int i 0) rfl ?_)
  show wpAny _ _ (seqItems? (.ref l) >>= _) _ _ s
  refine wpAny_bind (wpAny_seqItems hol hdl ?_)
  simp only [Int.toNat_natCast, hx]
  refine wpAny_bind (wpAny_rule (wpAny_bind (wpAny_setField ho hd (by simp) ?_)))
  obtain ⟨hh, o1, vs1, g1, d1, c1⟩ := hot
  show wpAny _ _ (newExc (.type "StopIteration") [] >>= _) _ _ _
  refine wpAny_bind ?_
  simp only [newExc, newTuple]
  refine wpAny_bind (wpAny_newObj_type ?_ (by size_fits))
  refine wpAny_bind (m := firstArgMember _ _) (wpAny_of_eq (a := Value.none) (by first | rfl | (simp only [firstArgMember]; rfl)) ?_)
  refine wpAny_newObj_type ?_ (by size_fits)
  refine HotX.raiseNew_hot (x1 := x1) (A := A.in1) ⟨hh, o1, vs1, Heap.get?_push_of_some _ (Heap.get?_push_of_some _ ((Heap.get?_update_other _ _ (Ne.symm hne)).trans g1)), d1, c1⟩ (Nat.ne_of_lt (Heap.lt_size (Heap.get?_push_of_some _ ((Heap.get?_update_other _ _ (Ne.symm hne)).trans g1)))) (Heap.get?_push_size _ rfl) rfl (by first | (simp; done) | (simp; omega) | (simp only [Array.size_append]; simp; omega)) ?_
  refine wpAny_bind (wpAny_isInstance (T := "StopIteration") (b := true) ⟨_, Heap.get?_update_self _ (Heap.get?_push_size _ rfl) rfl, rfl⟩ isSubtype_stop ?_)
  refine wpAny_pure (hQ _ fun b o hb e => ?_)
  refine (Heap.get?_update_other _ _ (Nat.ne_of_gt (Heap.lt_size (Heap.get?_push_of_some _ ((Heap.get?_update_other _ _ (Ne.symm hb)).trans e))))).trans ?_
  exact Heap.get?_push_of_some _ (Heap.get?_push_of_some _ ((Heap.get?_update_other _ _ (Ne.symm hb)).trans e))

theorem unpack_hot {t x1 : Addr} {items : Array Value} {targets : List (Bool × (Value → Sem Unit))} {Q : Unit → Shared → Prop} (hot : HotX.HotAt A x1 s.heap) (ht : IsTup s.heap t items)
    (hn : targets.length = items.size) (hstar : targets.findIdx? (·.1) = none)
    (h : ∀ h', Heap.ExtBut s.heap.objs.size s.heap h' → wpAny (model prog w) A (assignInOrder (targets.map (·.2)) items.toList) Q E { s with heap := h' }) :
    wpAny (model prog w) A (unpack (.ref t) targets) Q E s := by
  unfold unpack
  rw [hn, hstar]
  have hlt : t ≠ s.heap.objs.size := by obtain ⟨o, ho, _⟩ := ht; exact Nat.ne_of_lt (Heap.lt_size ho)
  obtain ⟨hh, o1, vs1, g1, d1, c1⟩ := hot
  have hx1 : x1 ≠ s.heap.objs.size := Nat.ne_of_lt (Heap.lt_size g1)
  refine wpAny_bind (wpAny_holding ?_)
  unfold unpackItems
  refine wpAny_bind ?_
  unfold notIterableAtAll
  refine wpAny_bind (wpAny_specialOf ht.typeIs slot_tuple_iter.lookup (wpAny_pure ?_))
  simp only [Bool.false_eq_true, if_false]
  refine wpAny_bind (wpAny_holding (iter_tuple ht ?_))
  refine wpAny_bind (wpAny_holding (draw_tuple hlt items.size 0 _ _ ⟨_, Heap.get?_push_size _ rfl, rfl, rfl⟩ (ht.push _) (by omega) fun h₁ hit₁ hs₁ => ?_))
  have hall : List.take items.size (List.drop 0 items.toList) = items.toList := by
    rw [List.drop_zero]; exact List.take_of_length_le (by simp)
  rw [hall, if_neg (by simp)]
  have ht₁ : IsTup h₁ t items := (ht.push _).extBut hs₁.extBut hlt
  refine wpAny_bind (wpAny_holding (tuple_end_hot (x1 := x1) ⟨hh, o1, vs1, hs₁.extBut x1 o1 hx1 (Heap.get?_push_of_some _ g1), d1, c1⟩ hx1 hit₁ ht₁ (by simp) fun h₂ he₂ => ?_))
  simp only [Option.isSome_none, Bool.false_eq_true, if_false]
  exact wpAny_pure (h h₂ fun b o hb e => he₂ b o hb (hs₁.extBut b o hb (Heap.get?_push_of_some _ e)))
end
end DL

end DLs
section DLt
set_option Elab.async false
set_option linter.all false
set_option autoImplicit false
set_option maxRecDepth 100000
set_option maxHeartbeats 2000000
namespace DL
open PySem PySem.Spec PyProof.Rows L2

/-- a's exception, of the class C, is handled; it was there when X was entered; its context is None -/
structure HotE (X : Cx) (a C : Addr) : Prop where
  hd : X.A.handled = some (.ref a)
  at_ : ∃ oe vs, X.s_0.heap.get? a = some oe ∧ L2N.Zn (.ref C) none oe ∧ oe.data = .fields vs
  non : X.H_0 a = none
  fr : a ∉ X.fs
  ex : a ∉ X.ex
section
variable {X : Cx} {G : Gh} {F F' : FS} {H H' : Hp} {ls : LS} {σ : L2.St} {e tg o elt iter : Expr} {es : List Expr} {Z : Ends} {pins : List (Addr × Obj)} {s : Shared} {a C : Addr} {pos : Pos}
theorem HotE.knows (k : HotE X a C) : KnowsE X a C := by
  obtain ⟨oe, vs, h1, h2, h3⟩ := k.at_
  exact ⟨⟨oe, h1, h2.zc, vs, h3⟩, k.non, k.fr, k.ex⟩
theorem HotE.obj (k : HotE X a C) (I : Inv X pins σ H s) : ∃ oe vs, s.heap.get? a = some oe ∧ L2N.Zn (.ref C) none oe ∧ oe.data = .fields vs := by
  obtain ⟨oe, vs, h1, h2, h3⟩ := k.at_
  exact ⟨oe, vs, I.base.keep a oe h1 k.non k.fr k.ex, h2, h3⟩
theorem HotE.hot (k : HotE X a C) (I : Inv X pins σ H s) : HotX.HotAt X.A a s.heap := by
  obtain ⟨oe, vs, h1, h2, h3⟩ := k.obj I
  exact ⟨k.hd, oe, vs, h1, h3, h2.2.2 vs h3⟩
theorem HotE.free (k : HotE X a C) (I : Inv X pins σ H s) : H a = none := by
  obtain ⟨oe, vs, h1, h2, h3⟩ := k.at_
  exact I.base.free a oe h1 k.non k.ex
/-- n targets take a tuple, where an exception is handled -/
theorem pg_tupH {es : List Expr} {k : Nat} {t : TGs} {n : Nat} (hk : HotE X a C) (h : PGs X es t)
    (hn : (assignEach es X.env).length = n := by rfl) (hst : (assignEach es X.env).findIdx? (·.1) = none := by rfl) : PG X (.Tuple es k pos) (gTup X.K n t) := by
  refine ⟨fun pins s σ H v u Q I r hw => ?_⟩
  obtain ⟨b, xs, e1, hq, hl, hw⟩ := hw
  subst e1
  cases r
  obtain ⟨its, rv, ht, hz⟩ := I.tuple hq
  rw [assign_Tuple]
  refine wpAny_bind (wpAny_standAt (unpack_hot (hk.hot I) ht (by simp [hn, ← hl, rv.length]) hst fun h' hx => ?_))
  have I1 : Inv X pins σ H { s with heap := h' } := I.kept (t' := s.toks) fun b o e => hx b o (Nat.ne_of_lt (Heap.lt_size e)) e
  exact h.run pins _ σ H xs _ Q I1 (by simpa using rv) hw
/-- the block of a comprehension -/
theorem HotE.blk (k : HotE X a C) (I : Inv X pins σ H s) {scope : Scope} {ce : Env} {fp : List Addr} (hf : a ∉ fp) : HotE (X.blk s H scope ce fp) a C where
  hd := k.hd
  at_ := k.obj I
  non := k.free I
  fr := fun z => by
    rcases List.mem_cons.mp (I.stkSub a z) with e | e
    · obtain ⟨oe, vs, h1, h2, h3⟩ := k.at_
      have q1 := Heap.lt_size h1
      have q2 := I.ok.above
      rw [e] at q1
      exact Nat.lt_irrefl _ (Nat.lt_of_lt_of_le q1 q2)
    · exact k.fr e
  ex := hf
/-- a turn of a list's iterator -/
theorem item_list {l it : Addr} {i : Nat} {E : Value → Shared → Prop} (I : Inv X pins σ H s) (f : FpOk X pins H it) (st : s.heap.IsListIter it l i) (hg : (Itl X.K l).go i H) :
    wpAny (model X.prog X.w) X.A (pyNext (.ref it)) (fun r s1 => ∃ u, r = some u ∧
      wpAny (model X.prog X.w) X.A (letOwnedTupleGo tg (.ref it) u) (fun _ s2 => ∃ x H', Inv X pins σ H' s2 ∧ RelV x u ∧ (Itl X.K l).yld i H x H' ∧ s2.heap.IsListIter it l (i + 1) ∧ H' it = none) E s1) E s := by
  obtain ⟨xs, x, hq, hx⟩ := hg
  obtain ⟨its, rv, p, hz⟩ := I.list hq
  obtain ⟨u, hu, ru⟩ := rv.get hx
  obtain ⟨f0, f1, f2, f3, f4, f5⟩ := f
  refine wpAny_pyNext_list_item st p.isList (x := u) (by simpa using hu) fun h' st' sb => ?_
  have I1 : Inv X pins σ H { s with heap := h' } := I.turned (t' := s.toks) (fun b o hb e => (sb.2 b hb).trans e) f0 f1 f3 f4 f5
  obtain ⟨o, e, c, d⟩ := id st'
  exact ⟨u, rfl, go_of (s := { s with heap := h' }) e c d (by decide) ⟨x, H, I1, ru, ⟨rfl, fun ys hy => by rw [I.list_inj hy hq]; exact hx⟩, st', f0⟩⟩
theorem done_list {l it : Addr} {i : Nat} {E : Value → Shared → Prop} (hk : HotE X a C) (hne : a ≠ it) (I : Inv X pins σ H s) (f : FpOk X pins H it) (st : s.heap.IsListIter it l i) (hg : (Itl X.K l).stop i H) :
    wpAny (model X.prog X.w) X.A (pyNext (.ref it)) (fun r s1 => r = none ∧ Inv X pins σ H s1) E s := by
  obtain ⟨xs, hq, hx⟩ := hg
  obtain ⟨its, rv, p, hz⟩ := I.list hq
  obtain ⟨f0, f1, f2, f3, f4, f5⟩ := f
  have hl := rv.length
  exact list_end_hot (hk.hot I) hne st p.isList (by simp; omega) fun h' eb => ⟨rfl, I.turned (t' := s.toks) (fun b o hb e => eb b o hb e) f0 f1 f3 f4 f5⟩
/-- [elt for tg in a list if ..] where an exception is handled -/
theorem pe_lcH {ifs : List Expr} {scope : Scope} {own : List (Str × Nat)} {tl : TE} {g : TG} {tt : TT} {te : TE} (hk : HotE X a C) (hN : X.N.Nodup) (hi : PE X iter tl) (ok : BlkOk X.N X.env.scope scope own)
    (hg : ∀ (s : Shared) (H : Hp) (B : Addr) (cl : List (Str × Addr)) (fp : List Addr), HotE (X.blk s H scope (compEnvC scope cl B X.env) fp) a C → PG (X.blk s H scope (compEnvC scope cl B X.env) fp) tg g)
    (ht : ∀ (s : Shared) (H : Hp) (B : Addr) (cl : List (Str × Addr)) (fp : List Addr), HotE (X.blk s H scope (compEnvC scope cl B X.env) fp) a C → PTs (X.blk s H scope (compEnvC scope cl B X.env) fp) ifs tt)
    (he : ∀ (s : Shared) (H : Hp) (B : Addr) (cl : List (Str × Addr)) (fp : List Addr), HotE (X.blk s H scope (compEnvC scope cl B X.env) fp) a C → PE (X.blk s H scope (compEnvC scope cl B X.env) fp) elt te) (hs : ∀ x, foldedSetIterable iter X.env x = pure x := by intro _; rfl) :
    PE X (.ListComp elt [⟨tg, iter, ifs, 0⟩] scope pos) (tLc (iList X.K tl) g tt te (own.map (·.2))) := by
  refine ⟨fun pins s σ H Q I h => ?_⟩
  rw [eval_ListComp]
  have hfree : ∀ y ∈ scope.names, y.2 = .free → ∃ c, X.env.cells.lookup y.1 = some c := fun y hy e => by
    rcases ok.free y hy e with k | k
    · exact I.ok.has _ (.inl k)
    · exact I.ok.has _ (.inr k)
  refine wpAny_comprehension_free (use := none) rfl hs (closure_ok hfree) ok.kind (fun y hy e => by rw [ok.uniq y hy, e])
    (thn (hi.run pins s σ H _ I h) fun xv s1 hx => ?_)
  obtain ⟨x, H2, I1, r1, l, ex, ⟨xs0, hq0⟩, q⟩ := hx
  subst ex
  cases r1
  obtain ⟨its0, rv0, p0, hz0⟩ := I1.list hq0
  refine wpAny_pyIter_list p0.isList ?_
  have hlt := fun o vs (h : s1.heap.get? a = some o ∧ o.data = .fields vs) => Heap.lt_size h.1
  generalize hit : s1.heap.objs.size = it
  generalize hs2 : ({ s1 with heap := s1.heap.push { cls := .type "list_iterator", data := .fields #[.ref l, .int 0 0] } } : Shared) = s2
  have I2 : Inv X pins σ H2 s2 := by
    rw [← hs2]
    exact I1.kept (t' := s1.toks) fun b o e => Heap.get?_push_of_some _ e
  have st2 : s2.heap.IsListIter it l 0 := by
    rw [← hs2, ← hit]
    exact ⟨_, Heap.get?_push_size _ rfl, rfl, rfl⟩
  have f2 : FpOk X pins H2 it := by
    rw [← hit]
    exact I1.fpOk (Nat.le_refl _) (I1.hok.fresh (Nat.le_refl _))
  have hne : a ≠ it := by
    obtain ⟨oe, vs, g1, _⟩ := hk.obj I1
    rw [← hit]
    exact Nat.ne_of_lt (Heap.lt_size g1)
  refine wpAny_newObj_type (newEnv_comp ?_) (by show 0 ≤ sizeLine; decide)
  generalize hD : s2.heap.objs.size = D
  have hDn : H2 D = none := I2.hok.fresh (Nat.le_of_eq hD)
  obtain ⟨W, ⟨m0, w0⟩, turn⟩ := q D hDn
  generalize hs3 : ({ s2 with heap := s2.heap.push { cls := .type "list", data := .seq ([] : List Value).toArray } } : Shared) = s3
  have I3 : Inv X pins σ (upd H2 D (.lst [])) s3 := by
    rw [← hs3]
    refine I2.laid (t' := s2.toks) (fun b o e => Heap.get?_push_of_some _ e) (Nat.le_of_eq hD) ⟨Nat.zero_le _, [], 0, .nil, ?_⟩
    rw [← hD]
    exact Heap.get?_push_size _ rfl
  have h3 : s3.heap = s2.heap.push { cls := .type "list", data := .seq ([] : List Value).toArray } := by rw [← hs3]
  have itlt : it < s2.heap.objs.size := by
    obtain ⟨o, e, _⟩ := st2
    exact Heap.lt_size e
  have f3 : ∀ b ∈ [it], FpOk X pins (upd H2 D (.lst [])) b ∧ b < s3.heap.objs.size := fun b hb => by
    obtain rfl : b = it := by simpa using hb
    refine ⟨⟨?_, f2.2⟩, by rw [h3, Heap.size_push]; exact Nat.lt_succ_of_lt itlt⟩
    rw [upd_ne (by rw [← hD]; exact Nat.ne_of_lt itlt)]
    exact f2.1
  have I4 := block_start I3 ok hN f3
  have hk4 : HotE (X.blk s3 (upd H2 D (.lst [])) scope (compEnvC scope (cellsFrom (s3.heap.objs.size + 1) scope.names (cloFrom X.env.cells scope.names [])) s3.heap.objs.size X.env) [it]) a C := hk.blk I3 (by simpa using hne)
  have pg := hg s3 (upd H2 D (.lst [])) s3.heap.objs.size (cellsFrom (s3.heap.objs.size + 1) scope.names (cloFrom X.env.cells scope.names [])) [it] hk4
  have pt := ht s3 (upd H2 D (.lst [])) s3.heap.objs.size (cellsFrom (s3.heap.objs.size + 1) scope.names (cloFrom X.env.cells scope.names [])) [it] hk4
  have pe := he s3 (upd H2 D (.lst [])) s3.heap.objs.size (cellsFrom (s3.heap.objs.size + 1) scope.names (cloFrom X.env.cells scope.names [])) [it] hk4
  show codeAny _ _ (.compStart (.ListComp elt [⟨tg, iter, ifs, 0⟩] scope pos) 0 (.ref it) (.ref D) (compEnvC scope (cellsFrom (s3.heap.objs.size + 1) scope.names (cloFrom X.env.cells scope.names [])) s3.heap.objs.size X.env)) (compPost (model X.prog X.w) X.A X.xe none _ (.ref D) s3.heap.objs.size) { s3 with heap := pushCells (s3.heap.push { cls := .type "dict", data := .dict #[] }) scope.names }
  have nit : (upd H2 D (.lst [])) it = none := (f3 it (by simp)).1.1
  generalize hce : compEnvC scope (cellsFrom (s3.heap.objs.size + 1) scope.names (cloFrom X.env.cells scope.names [])) s3.heap.objs.size X.env = ce at I4 pg pt pe hk4 ⊢
  have cL : ce.locals = s3.heap.objs.size := by subst hce; rfl
  generalize hH3 : upd H2 D (.lst []) = H3 at I3 I4 pg pt pe hk4 w0 nit f3
  generalize hs4 : ({ s3 with heap := pushCells (s3.heap.push { cls := .type "dict", data := .dict #[] }) scope.names } : Shared) = s4 at I4 ⊢
  have st4 : s4.heap.IsListIter it l 0 := st2.at fun o e => by rw [← hs4]; exact pushCells_keeps _ _ _ _ (Heap.get?_push_of_some _ (by rw [h3]; exact Heap.get?_push_of_some _ e))
  have stat : ∀ {σ' : L2.St} {H' : Hp} {s' : Shared}, Inv (X.blk s3 H3 scope ce [it]) [] σ' H' s' → H' it = none → FpOk (X.blk s3 H3 scope ce [it]) [] H' it := fun {σ' H' s'} I' hn =>
    ⟨hn, (I'.ok.exf it (by simp)).1, I'.ok.exfs it (by simp), .inl (by simp), fun x c e => (I'.ok.exf it (by simp)).2 x c e, fun p hp => absurd (show p ∈ ([] : List (Addr × Obj)) ++ [] from hp) (by simp)⟩
  have loop : codeAny (model X.prog X.w) X.A (.compLoop (.ListComp elt [⟨tg, iter, ifs, 0⟩] scope pos) 0 (.ref it) (.ref D) ce) (compPost (model X.prog X.w) X.A X.xe none (EP X pins σ Q) (.ref D) s3.heap.objs.size) s4 := by
    refine compLoop_any (fun n s' => ∃ i H', Inv (X.blk s3 H3 scope ce [it]) [] (wipe σ (own.map (·.2))) H' s' ∧ s'.heap.IsListIter it l i ∧ H' it = none ∧ W i n H') ?_ m0 ⟨0, H3, I4, st4, nit, w0⟩
    rintro n s5 ⟨i, H5, I5, st5, n5, w5⟩
    rcases turn i n H5 w5 with ⟨stop, qq⟩ | ⟨go, Nx, hNx, step⟩
    · have td := done_list (E := fun _ _ => False) hk4 hne I5 (stat I5 n5) st5 stop
      refine thnF td fun r s6 ⟨hr, I6⟩ => ?_
      subst hr
      have I7 : Inv X pins σ H5 s6 := I3.call' (ch := [it]) I6.os I6.base I6.hok I6.bare fun b hb => ⟨(f3 b hb).1.2.2.2.1, (f3 b hb).1.2.1, (f3 b hb).1.2.2.2.2.1, (f3 b hb).1.2.2.2.2.2⟩
      have nC : H5 s3.heap.objs.size = none := by
        have z : H5 ce.locals = none := I6.free
        rw [cL] at z
        exact z
      obtain ⟨m, hn, _⟩ := I6.loc
      have hn : s6.heap.Ns ce.locals m := hn
      rw [cL] at hn
      refine ⟨m, hn, fun h'' sb => ?_⟩
      obtain ⟨f0, f1, f2, f3, f4, f5⟩ := I3.fpOk (Nat.le_refl _) nC
      exact ⟨.ref D, H5, I7.turned (t' := s6.toks) (fun b o hb e => (sb.2 b hb).trans e) f0 f1 f3 f4 f5, rfl, qq⟩
    · have ti := item_list (tg := tg) (E := fun _ _ => False) I5 (stat I5 n5) st5 go
      refine thnF ti fun r s6 ⟨u, hr, h6⟩ => ?_
      subst hr
      refine thnF h6 fun _ s7 ⟨x, H7, I7, r7, y7, st7, n7⟩ => ?_
      have ob7 : ∀ b ∈ [it], ∃ o, s7.heap.get? b = some o ∧ ∀ v, o.data ≠ .cell v := fun b hb => by
        obtain rfl : b = it := by simpa using hb
        obtain ⟨o, e, c, d⟩ := st7
        exact ⟨o, e, fun v z => by rw [d] at z; cases z⟩
      have I7' := I7.pinned (fp := [it]) (fun b hb => by obtain rfl : b = it := by simpa using hb
                                                         exact stat I7 n7) ob7
      refine thnF (pg.run _ s7 _ H7 x u _ I7' r7 (step x H7 y7)) fun _ s8 ⟨σ8, H8, I8, hw8, q8⟩ => ?_
      refine thnF (pt.run _ s8 σ8 H8 _ I8 q8) fun b s9 ⟨H9, I9, q9⟩ => ?_
      have fin : ∀ {s' : Shared} {H' : Hp}, Inv (X.blk s3 H3 scope ce [it]) ([] ++ pinsAt [it] s7.heap) σ8 H' s' → Nx H' → ∃ m, m < n ∧ ∃ i H', Inv (X.blk s3 H3 scope ce [it]) [] (wipe σ (own.map (·.2))) H' s' ∧ s'.heap.IsListIter it l i ∧ H' it = none ∧ W i m H' := fun {s' H'} I' nx => by
        obtain ⟨m', hm, w'⟩ := hNx H' nx
        have pin' : ∀ o, s7.heap.get? it = some o → s'.heap.get? it = some o ∧ H' it = none := fun o e =>
          let z := I'.pin (it, o) (List.mem_append_right _ (List.mem_append_right _ (mem_pinsAt (by simp) e)))
          ⟨z.1, z.2.1⟩
        have hl : (wipe σ (own.map (·.2))).length = σ8.length := by rw [← hw8, wipe_length]
        refine ⟨m', hm, i + 1, H', (I'.unpinned (pins := [])).weak hl (fun j v e => ?_), st7.at fun o e => (pin' o e).1, ?_, w'⟩
        · rw [← hw8] at e
          exact (wipe_some e).1
        · obtain ⟨o, e, _⟩ := st7
          exact (pin' o e).2
      cases b with
      | false =>
        simp only [Bool.false_eq_true, if_false] at q9 ⊢
        exact fin I9 q9
      | true =>
        simp only [if_true] at q9 ⊢
        refine thnF (pe.run _ s9 σ8 H9 _ I9 q9) fun z s10 ⟨yv, H10, I10, r10, acc, hD10, hz10, nx⟩ => ?_
        exact app_ok (X := X.blk s3 H3 scope ce [it]) I10 hD10 hz10 r10 fun s11 I11 => fin I11 nx
  exact codeAny_compStart_list loop (wpAny_pyIter_listiter st4 loop)
end
end DL

end DLt
section DLu
set_option Elab.async false
set_option linter.all false
set_option autoImplicit false
set_option maxRecDepth 100000
set_option maxHeartbeats 2000000
namespace DL
open PySem PySem.Spec PyProof.Rows L2

section
variable {X : Cx} {G : Gh} {F F' : FS} {H H' : Hp} {ls : LS} {σ : L2.St} {e tg o elt iter : Expr} {es : List Expr} {Z : Ends} {pins : List (Addr × Obj)} {s : Shared} {a C : Addr} {pos : Pos}
theorem HotE.of_call {CX : CXT} {P : Program} {w : World} {K : PySem.W.Frag} {mg : Str → Option Value} {base : Heap} {N : List Str} {qual : Str} {scope : Scope} {f : Addr} {cd : Value} {A : Around} {outer : List Env} {s : Shared} {H : Hp} {E : XK} {oe : Obj}
    (hh : A.handled = some (.ref a)) (hp : L2H.PinOk outer H s (a, oe)) (hz : L2N.Zn (.ref C) none oe) (hv : ∃ vs, oe.data = .fields vs) : HotE (L2H.cxH CX P w K mg base N qual scope f cd A outer s H E (a, oe)) a C := by
  obtain ⟨vs, hv⟩ := hv
  exact ⟨hh, ⟨oe, vs, hp.get, hz, hv⟩, hp.free, hp.nofs, fun z => nomatch z⟩
/-- a def called where a's exception is handled, told of it: f(e) gives the text y -/
theorem pe_err {oe : Obj} {x qual pn : Str} {st : Stmt} {f : Addr} {fd : FuncData} {N : List Str} {k i : Nat} {p pos : Pos} {tb : List (Addr × Str)} {body : MS} {y : Str} (hh : X.A.handled = some (.ref a)) (hp : (a, oe) ∈ X.pn) (hz : L2N.Zn (.ref C) none oe) (hv : ∃ vs, oe.data = .fields vs)
    (Fn : Fun X.K x qual st f fd) (S : FnScope N [pn] (defScope st)) (hb : Binds X.K fd [pn] []) (hr : L2H.RoomH (k + 1) X.A) (hg : Gl X x) (hm : X.mg x = some (.ref f)) (hk : PySem.W.keepIn X.K (.ref f) = true)
    (hbody : ∀ (cdv : Value) (A : Around) (outer : List Env) (s : Shared) (H : Hp) (G : Gh), HotE (L2H.cxH C8.CX0 X.prog X.w X.K X.mg X.base N qual (defScope st) f cdv A outer s H C8.E0 (a, oe)) a C → DSs (L2H.cxH C8.CX0 X.prog X.w X.K X.mg X.base N qual (defScope st) f cdv A outer s H C8.E0 (a, oe)) G (defBody st) body)
    (hy : fin (body (startD N.length [.ref a])) = .ok (.str y)) (he : PE X e (tVar i))
    (hdb : (x == ("__debug__" : Str)) = false := by decide) (hs : starEach [e] X.env = (false, eval e X.env) :: starEach [] X.env := by rfl) (hpl : (backTo pos (starEach [] X.env)).any (·.1) = false := by rfl) :
    PE X (.Call (.Name x p) [e] [] pos) (fun σ H Q => σ[i]? = some (some (.ref a)) ∧ LamX.Tabs tb H ∧ ∀ F' H'', CallLe tb none' none' H F' H'' → Q (.str y) H'') := by
  obtain ⟨oc, od, kV, doc, pm, an, cdv, ct, osl, rfl, lk, hcd⟩ := Fn.ex
  refine ⟨fun pins s σ H Q I h => ?_⟩
  obtain ⟨h1, hT, hQ⟩ := h
  refine wpAny_Call_Name_kw (ld_glob I hg hm ?_ hdb)
  refine PySem.W.callWith_K (h₀ := X.base) I.ok.mod.kin hk (thn ((pa_cons he pa_nil hs).run pos pins s σ H (fun vs H1 => vs = [V.ref a] ∧ H1 = H) I ⟨.ref a, h1, rfl, rfl⟩) fun us s1 hh1 => ?_) hs hpl
  obtain ⟨vs, H1, I1, r1, ev, eH⟩ := hh1
  subst ev
  rw [eH] at I1
  have P1 := I1.pin (a, oe) (List.mem_append_left _ hp)
  have hpin : L2H.PinOk X.stack H s1 (a, oe) := ⟨P1.1, P1.2.1, fun hm => (List.mem_cons.mp (I1.stkSub a hm)).elim P1.2.2.1 P1.2.2.2.1, P1.2.2.2.2⟩
  have e0 := I1.env0
  have KX : X.K.In s1.heap := e0.mod.kin.keeps fun b o e => (e0.bs b o e).1
  have lim : s1.heap.NoLimit := e0.mod.nolimit.keeps fun b o e => (e0.bs b o e).1
  have hus : us = [.ref a] := by
    cases r1 with
    | cons r rr => cases rr; cases r; rfl
  subst hus
  refine ⟨I1.kIn, ?_⟩
  have hkind : ∀ y ∈ [pn].zip [Value.ref a], (defScope st).names.lookup y.1 = some .local ∨ ((defScope st).names.lookup y.1 = some .cell ∧ ((cellsFrom (s1.heap.objs.size + 1) (defScope st).names []).lookup y.1).isSome = true) := fun ⟨n, v⟩ hy => by
    rcases S.par n (List.of_mem_zip hy).1 with q | q
    · exact .inl q
    · exact .inr ⟨q, PySem.W.cellsFrom_some _ _ _ (.inl q)⟩
  have rc : codeAny (model X.prog X.w) X.A (.call (.ref f) ⟨[.ref a], []⟩) (CR C8.CX0 X.stack X.prog X.w H s1 Q C8.E0) s1 := by
    refine codeAny_call_function hr.depth (KX _ _ lk) rfl S.co S.gen rfl (PySem.W.codeRec_of KX hcd) (hb s1 [.ref a] KX rfl _ _ _ _ ?_)
    refine wpAny_newFunctionEnv_cells S.kind hkind fun env he s2 x => ?_
    subst he
    refine ⟨lim.keeps x.toInCall.keep, codeAny_func ?_⟩
    have J : Inv (L2H.cxH C8.CX0 X.prog X.w X.K X.mg X.base N qual (defScope st) f cdv X.A X.stack s1 H C8.E0 (a, oe)) [] (L2.start N [.ref a]) H s2 := L2H.inv_startH S hpin e0 rfl r1 x
    have ht := hbody cdv X.A X.stack s1 H ⟨[], H, none', none', X.mg, fun _ _ _ => False, tb⟩ (.of_call hh hpin hz hv)
    have hq : tOfS ⟨[], H, none', none', X.mg, fun _ _ _ => False, tb⟩ body { nx := fun _ H' => Q .non H', rt := Q } (L2.start N [.ref a]) H := by
      refine ⟨none', startD N.length [.ref a], inv_begin (.cons (.ref a) .nil) (fun _ z => z.elim) hT, ?_⟩
      revert hy
      cases body (startD N.length [.ref a]) with
      | nx ls => exact fun hy => by cases hy
      | bk ls => exact fun hy => by cases hy
      | ct ls => exact fun hy => by cases hy
      | rt d ls =>
        intro hy F' σ' H' v p L rx
        have hy : (opt (retD ls d) : Res D) = .ok (.str y) := hy
        cases er : retD ls d with
        | none => rw [er] at hy; cases hy
        | some d2 =>
          rw [er] at hy; cases hy
          have rq := rx.toQ L er
          cases rq
          exact hQ F' H' (L.callLe p)
      | exc z => exact fun hy => by cases hy
      | stuck => exact fun hy => by cases hy
    refine wpAny_mono (ht.run [] s2 (L2.start N [.ref a]) H _ J hq) (fun fl s' hs => ?_) fun e s' hs => hs
    cases fl with
    | ret u =>
      obtain ⟨v, σ', H', J', rv, q⟩ := hs
      exact ⟨v, H', J'.os, J'.bare, J'.base, J'.hok, rv, q⟩
    | next =>
      obtain ⟨σ', H', J', q⟩ := hs
      exact ⟨.non, H', J'.os, J'.bare, J'.base, J'.hok, rfl, q⟩
    | brk =>
      obtain ⟨_, _, _, q⟩ := hs
      exact False.elim q
    | cont =>
      obtain ⟨_, _, _, q⟩ := hs
      exact False.elim q
  refine wpAny_call (codeAny_mono rc fun r s2 hq => ?_)
  cases r with
  | error e => exact (show False from hq).elim
  | ok fl =>
    cases fl with
    | ret u => exact I1.after hq
    | next => exact False.elim hq
    | brk => exact False.elim hq
    | cont => exact False.elim hq
end
end DL

end DLu
section DLv
set_option Elab.async false
set_option linter.all false
set_option autoImplicit false
set_option maxRecDepth 100000
set_option maxHeartbeats 2000000
namespace DL
open PySem PySem.Spec PyProof.Rows L2 LamX

/-! ### where an exception is handled: the readings -/
section
variable {X : Cx} {G : Gh} {F F' : FS} {H H' : Hp} {ls : LS} {σ : L2.St} {e tg o elt iter : Expr} {es : List Expr} {Z : Ends} {pins : List (Addr × Obj)} {s : Shared} {a C : Addr} {pos : Pos}
theorem dg_tupH {k n : Nat} {gs : MGs} {ks : List Nat} (hk : HotE X a C) (h : PGs X es (tOfGs G gs ks)) (hn : (assignEach es X.env).length = n := by rfl) (hst : (assignEach es X.env).findIdx? (·.1) = none := by rfl) : DG X G (.Tuple es k pos) (gTup' n gs) ks :=
  pg_imp (pg_tupH hk h hn hst) fun v σ H Q ⟨F, ls, d, ls', L, r, e, q⟩ => by
    cases d with
    | tup ds =>
      have e : (if ds.length = n then gs ds ls else none) = some ls' := e
      by_cases z : ds.length = n
      · rw [if_pos z] at e
        have r : Rep F H (.tup ds) v := r
        cases r with
        | tup h rr => exact ⟨_, _, rfl, .inl (.inl h), by rw [← rr.length]; exact z, F, ls, ds, ls', L, rr, e, q⟩
      · rw [if_neg z] at e; cases e
    | _ => cases e
def lstOf : D → Option (List D)
  | .lst xs => some xs
  | _ => none
def iLst (m : ME) : MI := fun ls => (frzv m ls).bind fun p => (opt (lstOf p.1)).bind fun xs => .ok (xs, p.2)
theorem iLst_imp {K : PySem.W.Frag} {m : ME} (σ : L2.St) (H : Hp) (R : It → Hp → Prop) (q : tOfI G (iLst m) σ H R) : iList K (tOf G m) σ H R := by
  obtain ⟨F, ls, L, o⟩ := q
  refine tOf.firstI L o fun F1 H1 ls1 d v p1 L1 r1 o1 => ?_
  dsimp only at o1
  cases d with
  | lst xs =>
    cases r1 with
    | lst f h r => exact ⟨_, rfl, ⟨_, .inl (.inl h)⟩, o1 F1 H1 _ .refl L1 (itd_list f h r)⟩
  | _ => exact o1.elim
theorem tLc_mono {wi wi' : TI} {g : TG} {tt : TT} {te : TE} {vs : List Nat} {σ : L2.St} {H : Hp} {Q : VK} (h : ∀ R, wi σ H R → wi' σ H R) (q : tLc wi g tt te vs σ H Q) : tLc wi' g tt te vs σ H Q := h _ q
theorem de_lcH {ifs : List Expr} {scope : Scope} {own : List (Str × Nat)} {m : ME} {g : MG} {t : MT} {me : ME} {ks : List Nat} (hh : HotE X a C) (hN : X.N.Nodup) (hi : DE X G iter m) (ok : BlkOk X.N X.env.scope scope own) (hk : ∀ k ∈ ks, k ∈ own.map (·.2))
    (hg : ∀ (s : Shared) (H : Hp) (B : Addr) (cl : List (Str × Addr)) (fp : List Addr) (T : List (D × Addr)), HotE (X.blk s H scope (compEnvC scope cl B X.env) fp) a C → DG (X.blk s H scope (compEnvC scope cl B X.env) fp) (Gb G T) tg g ks)
    (ht : ∀ (s : Shared) (H : Hp) (B : Addr) (cl : List (Str × Addr)) (fp : List Addr) (T : List (D × Addr)), HotE (X.blk s H scope (compEnvC scope cl B X.env) fp) a C → PTs (X.blk s H scope (compEnvC scope cl B X.env) fp) ifs (tOfT (Gb G T) t))
    (he : ∀ (s : Shared) (H : Hp) (B : Addr) (cl : List (Str × Addr)) (fp : List Addr) (T : List (D × Addr)), HotE (X.blk s H scope (compEnvC scope cl B X.env) fp) a C → DE (X.blk s H scope (compEnvC scope cl B X.env) fp) (Gb G T) elt me) (hs : ∀ x, foldedSetIterable iter X.env x = pure x := by intro _; rfl) :
    DE X G (.ListComp elt [⟨tg, iter, ifs, 0⟩] scope pos) (mComp (iLst m) g t me (own.map (·.2))) :=
  pe_imp (pe_lcH (g := gAny G g ks) (tt := tAny G t) (te := eAny G me) hh hN hi ok (fun s H B cl fp k => ⟨fun pins s' σ H' v u Q I r ⟨T, q⟩ => (hg s H B cl fp T k).run pins s' σ H' v u Q I r q⟩)
    (fun s H B cl fp k => ⟨fun pins s' σ H' Q I ⟨T, q⟩ => (ht s H B cl fp T k).run pins s' σ H' Q I q⟩) (fun s H B cl fp k => pe_any fun T => he s H B cl fp T k) hs)
    fun σ H Q q => tLc_mono (fun R => iLst_imp (K := X.K) σ H R) (mComp_imp hk σ H Q q)
end

/-! ### a lambda without parameters, handed to a def that calls it -/
abbrev lamCxN (X : Cx) (A : Around) (outer : List Env) (s : Shared) (H : Hp) (E : XK) (scope : Scope) (f c' : Addr) : Cx := (lamCx X A outer s H E scope f c').wish fun e s' =>
  wpAny (model X.prog X.w) (A.deeper (lamEnv X scope s.heap.objs.size f c')) (leaving (lamEnv X scope s.heap.objs.size f c') e) (fun _ s'' => L2N.CX X.prog X.w outer H s E e s'') (fun e' s'' => L2N.CX X.prog X.w outer H s E e' s'') s'
section
variable {X : Cx} {pins : List (Addr × Obj)} {σ : L2.St} {H HZ : Hp} {s s1 : Shared}
theorem pe_actN {CXg : CXT} {Eg : XK} {Ng : List Str} {qg : Str} {sg : Scope} {g f c' : Addr} {cdg pm ctv : Value} {params : Arguments} {body : Expr} {scope : Scope} {k i : Nat} {a : Str} {pn : List (Addr × Obj)} {xe : Value → Shared → Prop} {W : WX} {E : XK} {tb : TE} {p1 p2 : Pos}
    (I : Inv X pins σ H s) (L : LamS X.env.scope scope) (hf : s.heap.get? f = some (PySem.W.kla_obj "<lambda>" (X.env.qual ++ "<lambda>") params body scope (cloFrom X.env.cells scope.names []) pm c' ctv)) (hfn : H f = none) (hfr : f ∉ frs X.stack)
    (hbind : bindArgs (PySem.W.kla_fn "<lambda>" (X.env.qual ++ "<lambda>") params body scope (cloFrom X.env.cells scope.names []) pm (.ref c') ctv) ⟨[], []⟩ = pure [])
    (tk : L2N.Takes ((cxOf CXg X.prog X.w X.K X.mg X.base Ng qg sg g cdg X.A X.stack s H Eg).tr pn xe) W) (hW : ∀ cls d σ' H', E cls d H' → W cls d σ' H') (hr : Room (k + 1) (X.A.deeper (envOfC qg sg s.heap.objs.size g cdg)))
    (hbody : ∀ (A : Around) (outer : List Env) (s : Shared) (H : Hp), Room k (A.deeper (lamEnv X scope s.heap.objs.size f c')) → PE (lamCxN X A outer s H E scope f c') body tb)
    (hN : Ng[i]? = some a) (hv : Vis sg a) (hd : (a == ("__debug__" : Str)) = false := by decide) (hcd : (a == ("__classdict__" : Str)) = false := by decide) :
    PE ((cxOf CXg X.prog X.w X.K X.mg X.base Ng qg sg g cdg X.A X.stack s H Eg).tr pn xe) (.Call (.Name a p1) [] [] p2)
      (fun σZ HZ Q => σZ[i]? = some (some (.ref f)) ∧ HZ c' = some (CodeO c' (X.env.qual ++ "<lambda>")) ∧ tb σ HZ Q) := by
  refine ⟨fun pinsZ sZ σZ HZ Q IZ h => ?_⟩
  obtain ⟨hs, hc, ht⟩ := h
  refine wpAny_Call_Name_kw (thn ((pe_var (pos := p1) (i := i) hN hv hd hcd).run pinsZ sZ σZ HZ (fun v H1 => v = .ref f ∧ H1 = HZ) IZ ⟨.ref f, hs, rfl, rfl⟩) fun u s1 ⟨v, H1, I1, r1, q1⟩ => ?_)
  obtain ⟨ev, eH⟩ := q1
  subst ev
  rw [eH] at I1
  obtain rfl : u = Value.ref f := r1
  have of1 : s1.heap.get? f = some (PySem.W.kla_obj "<lambda>" (X.env.qual ++ "<lambda>") params body scope (cloFrom X.env.cells scope.names []) pm c' ctv) := I1.base.keep f _ hf hfn hfr (fun z => nomatch (show f ∈ ([] : List Addr) from z))
  refine PySem.W.callWith_F0 ⟨_, _, _, _, of1⟩ ?_
  have un : Un (frs X.stack) [] H HZ s.heap s1.heap := I1.base
  obtain ⟨⟨oc, vs, t, hoc, hdc, hvc⟩, _, _⟩ := I1.hok c' _ hc
  have rc : codeAny (model X.prog X.w) (X.A.deeper (envOfC qg sg s.heap.objs.size g cdg)) (.call (.ref f) ⟨[], []⟩) (CR (L2N.CX X.prog X.w) (envOfC qg sg s.heap.objs.size g cdg :: X.stack) X.prog X.w HZ s1 Q E) s1 := by
    refine PySem.W.kla_callFunE hr.depth of1 rfl L.co L.gen rfl ⟨c', oc, vs, t, rfl, hoc, hdc, hvc⟩ ?_
    rw [hbind]
    refine wpAny_pure (wpAny_newFunctionEnv (fun y hy => (L.own y hy).2) (fun y hy => absurd hy (by simp)) (fun h₁ hns hsb => ⟨I1.nolimit.fresh _ hsb, ?_⟩) L.kind)
    show codeAny _ _ (.expr body (lamEnv X scope s1.heap.objs.size f c')) _ _
    have kp : ∀ b o, s1.heap.get? b = some o → h₁.get? b = some o := fun b o e => hsb.extBut b o (Nat.ne_of_lt (Heap.lt_size e)) (Heap.get?_push_of_some _ e)
    have J : Inv (lamCxN X (X.A.deeper (envOfC qg sg s.heap.objs.size g cdg)) (envOfC qg sg s.heap.objs.size g cdg :: X.stack) s1 HZ E scope f c') [] σ HZ { s1 with heap := h₁, toks := s1.toks + ([] : List (Str × Value)).length } :=
      (lam_start2 I L I1.env0 hr.hd un hns kp).wish _
    refine PySem.W.kla_codeExpr (wpAny_mono ((hbody _ _ s1 HZ (hr.deeper _)).run [] _ _ HZ Q J ht) (fun v s' hq => ?_) fun e s' hq => hq)
    obtain ⟨w', H', J', rv, q⟩ := hq
    exact ⟨w', H', J'.os, J'.bare, J'.base, J'.hok, rv, q⟩
  have hx : Passes (L2N.CX X.prog X.w) ((cxOf CXg X.prog X.w X.K X.mg X.base Ng qg sg g cdg X.A X.stack s H Eg).tr pn xe) E := L2N.passes_call tk hW
  refine wpAny_call (codeAny_mono rc fun r s' hq => ?_)
  cases r with
  | error e => exact hx pinsZ σZ HZ s1 e s' I1 hq
  | ok fl =>
    cases fl with
    | ret u => exact I1.after hq
    | next => exact False.elim hq
    | brk => exact False.elim hq
    | cont => exact False.elim hq
end
end DL

end DLv
section DLw
set_option Elab.async false
set_option linter.all false
set_option autoImplicit false
set_option maxRecDepth 100000
set_option maxHeartbeats 2000000
namespace DL
open PySem PySem.Spec PyProof.Rows L2 LamX

theorem takes0N {X : Cx} : L2N.Takes X (fun _ _ _ _ => False) := fun _ _ x => by
  obtain ⟨_, _, _, _, _, _, _, _, _, _, _, _, _, _, _, _, z⟩ := x
  exact z.elim
/-- the def that calls what it got -/
def GivesN (X : Cx) (Ng : List Str) (x : Str) (sg : Scope) (g : Addr) (cdg : Value) (bg : List Stmt) (a : Str) (q : Str) (TT : (XK → Hp → VK → Prop) → Hp → VK → Prop) : Prop :=
  ∀ (f c' : Addr) (s : Shared) (H : Hp) (Q : VK) (tl : XK → Hp → VK → Prop),
    (∀ (W : WX) (pn : List (Addr × Obj)) (xe : Value → Shared → Prop) (E : XK) (p1 p2 : Pos), L2N.Takes ((cxOf C8.CX0 X.prog X.w X.K X.mg X.base Ng x sg g cdg X.A X.stack s H C8.E0).tr pn xe) W → (∀ cls d σ' H', E cls d H' → W cls d σ' H') →
      PE ((cxOf C8.CX0 X.prog X.w X.K X.mg X.base Ng x sg g cdg X.A X.stack s H C8.E0).tr pn xe) (.Call (.Name a p1) [] [] p2) (fun σZ HZ Q => σZ[0]? = some (some (.ref f)) ∧ HZ c' = some (CodeO c' q) ∧ tl E HZ Q)) →
    H c' = some (CodeO c' q) → TT tl H Q →
    ∃ t, PSs (cxOf C8.CX0 X.prog X.w X.K X.mg X.base Ng x sg g cdg X.A X.stack s H C8.E0).nox bg t ∧ t { nx := fun _ H' => Q .non H', rt := Q } (L2.start Ng [.ref f]) H
section
variable {X : Cx}
theorem pe_lamcallN {T : List (Addr × Str)} {TT : (XK → Hp → VK → Prop) → Hp → VK → Prop} {x a : Str} {g c P : Addr} {k : Nat} {stg : Stmt} {fdg : FuncData} {Ng : List Str}
    {params : Arguments} {body : Expr} {scope : Scope} {t : XK → TE} {p lpos pos : Pos} (hg : Gl X x) (hm : X.mg x = some (.ref g)) (hk : PySem.W.keepIn X.K (.ref g) = true)
    (Fg : Fun X.K x x stg g fdg) (hb : L2.Binds X.K fdg [a] []) (Sg : FnScope Ng [a] (defScope stg)) (hNg : Ng[0]? = some a) (hva : Vis (defScope stg) a)
    (hG : ∀ cdv, GivesN X Ng x (defScope stg) g cdv (defBody stg) a (X.env.qual ++ "<lambda>") TT)
    (TB : TabB X.base X.mg c P) (hcode : X.env.code = .ref c) (hmT : (P, X.env.qual ++ "<lambda>") ∈ T) (hu : ∀ p ∈ T, p.1 = P → p.2 = X.env.qual ++ "<lambda>") (hr : Room (k + 2) X.A) (L : LamS X.env.scope scope) (hdef : defaultsOf params X.env = ([], []))
    (hbind : ∀ (q : Str) (cl : List (Str × Addr)) (pm cv ctv : Value), bindArgs (PySem.W.kla_fn "<lambda>" q params body scope cl pm cv ctv) ⟨[], []⟩ = pure [])
    (hbody : ∀ (A : Around) (outer : List Env) (s : Shared) (H : Hp) (E : XK) (f c' : Addr), Room k (A.deeper (lamEnv X scope s.heap.objs.size f c')) → PE (lamCxN X A outer s H E scope f c') body (t E))
    (hdb : (x == ("__debug__" : Str)) = false := by decide) (hd : (a == ("__debug__" : Str)) = false := by decide) (hcd : (a == ("__classdict__" : Str)) = false := by decide) :
    PE X (.Call (.Name x p) [.Lambda params body scope lpos] [] pos) (tLam T TT t) := by
  obtain ⟨oc, od, kV, doc, pm, an, cdv, ct, osl, rfl, lk, hcd'⟩ := Fg.ex
  refine ⟨fun pins s σ H Q I h => ?_⟩
  obtain ⟨hT, h⟩ := h
  refine wpAny_Call_Name_kw (ld_glob I hg hm ?_ hdb)
  refine PySem.W.callWith_K (h₀ := X.base) I.ok.mod.kin hk ?_ (by rfl) (by rfl)
  show wpAny _ _ (spliced ((false, eval (.Lambda params body scope lpos) X.env) :: backTo pos (starEach [] X.env))) _ _ s
  refine Calls.spliced_cons (lam_make2 I TB hcode hmT hu hT hdef (L.has I.ok) fun f c' pm' ctv H1 s' I1 eN T1 hf hfn hfr hco => ?_)
  refine Calls.spliced_nil ⟨I1.kIn, ?_⟩
  have rc : codeAny (model X.prog X.w) X.A (.call (.ref g) ⟨[.ref f], []⟩) (CR C8.CX0 X.stack X.prog X.w H1 s' Q C8.E0) s' := by
    refine run_ofS (N := Ng) (ps := [a]) (us := [.ref f]) (vs := [.ref f]) lk hcd' Sg hr I1.env0 (hb s' [.ref f] I1.kIn rfl) (.cons rfl .nil) rfl fun hr' => ?_
    obtain ⟨t', ht', hq'⟩ := hG cdv f c' s' H1 Q (fun E H' Q' => t E σ H' Q') (fun W pn xe E p1 p2 tk hW => pe_actN (i := 0) I1 L hf hfn hfr (hbind _ _ _ _ _) tk hW hr' (fun A outer s H hr2 => hbody A outer s H E f c' hr2) hNg hva hd hcd) hco (h H1 eN T1)
    exact ⟨t', ht'.nox, hq'⟩
  refine wpAny_call (codeAny_mono rc fun r s2 hq => ?_)
  cases r with
  | error e => exact (show False from hq).elim
  | ok fl =>
    cases fl with
    | ret u => exact I1.after hq
    | next => exact False.elim hq
    | brk => exact False.elim hq
    | cont => exact False.elim hq
/-- what is said of an error of the class C: y -/
def Says (P : Program) (w : World) (K : PySem.W.Frag) (mg : Str → Option Value) (base : Heap) (N : List Str) (qual : Str) (st : Stmt) (f : Addr) (C : Addr) (y : Str) : Prop :=
  ∀ (a : Addr) (oe : Obj), ∃ body : MS, (∀ (cdv : Value) (A : Around) (outer : List Env) (s : Shared) (H : Hp) (G : Gh), HotE (L2H.cxH C8.CX0 P w K mg base N qual (defScope st) f cdv A outer s H C8.E0 (a, oe)) a C →
    DSs (L2H.cxH C8.CX0 P w K mg base N qual (defScope st) f cdv A outer s H C8.E0 (a, oe)) G (defBody st) body) ∧ fin (body (startD N.length [.ref a])) = .ok (.str y)
/-- try: return [a()] / except fe as en: return er(en) -/
def TCame (P : Program) (w : World) (K : PySem.W.Frag) (mg : Str → Option Value) (base : Heap) (tb : List (Addr × Str)) (Ne : List Str) (er : Str) (ste : Stmt) (fE FE : Addr) : (XK → Hp → VK → Prop) → Hp → VK → Prop := fun tl H Q =>
  tl (fun cls d H' => ∃ C y, cls = .ref C ∧ d = none ∧ PySem.W.exmOne K (.ref C) (.ref FE) = some true ∧ Says P w K mg base Ne er ste fE C y ∧ Tabs tb H' ∧ ∀ F' H'', CallLe tb none' none' H' F' H'' → Q (.str y) H'') H
    fun v H' => [v].length ≤ sizeLine ∧ ∀ l, H' l = none → Q (.ref l) (upd H' l (.lst [v]))
theorem came_gives {tb : List (Addr × Str)} {Ng Ne : List Str} {x a en fe er q pe : Str} {sg : Scope} {g fE FE : Addr} {cdg : Value} {ste : Stmt} {fdE : FuncData} {k : Nat} {p1 p2 p2' p3 p4 p5 p6 p7 p8 p9 p10 : Pos} (hNd : Ng.Nodup) (hi : Ng[1]? = some en) (hln : sg.names.lookup en = some .local)
    (hge : sg.names.lookup fe = some .globalImplicit) (hme : X.mg fe = some (.ref FE)) (hgr : sg.names.lookup er = some .globalImplicit) (hmr : X.mg er = some (.ref fE)) (hkr : PySem.W.keepIn X.K (.ref fE) = true)
    (Fr : Fun X.K er er ste fE fdE) (Sr : FnScope Ne [pe] (defScope ste)) (hbr : L2.Binds X.K fdE [pe] []) (hr : Room (k + 2) X.A)
    (hde : (fe == ("__debug__" : Str)) = false := by decide) (hdr : (er == ("__debug__" : Str)) = false := by decide) (hd : (en == ("__debug__" : Str)) = false := by decide) (hcd : (en == ("__classdict__" : Str)) = false := by decide) :
    GivesN X Ng x sg g cdg [.Try [.Return (some (.List [.Call (.Name a p1) [] [] p2] p2')) p3] [.ExceptHandler (some (.Name fe p4)) (some en) [.Return (some (.Call (.Name er p5) [.Name en p6] [] p7)) p8] p9] [] [] p10] a q
      (TCame X.prog X.w X.K X.mg X.base tb Ne er ste fE FE) := by
  intro f c' s H Q tl act hc h
  have hgl : Gl (cxOf C8.CX0 X.prog X.w X.K X.mg X.base Ng x sg g cdg X.A X.stack s H C8.E0).nox fe := hge
  have h0 : (L2.start Ng [V.ref f])[0]? = some (some (V.ref f)) := rfl
  refine ⟨_, pss_one (L2N.ps_try_as (X := (cxOf C8.CX0 X.prog X.w X.K X.mg X.base Ng x sg g cdg X.A X.stack s H C8.E0).nox) (c := .ref FE) (i := 1)
      (tb := fun W D σ H => ∃ Ech : XK, (∀ cls d σ' H', Ech cls d H' → W cls d σ' H') ∧ σ[0]? = some (some (.ref f)) ∧ H c' = some (CodeO c' q) ∧ tl Ech H fun v H' => [v].length ≤ sizeLine ∧ ∀ l, H' l = none → D.rt (.ref l) (upd H' l (.lst [v])))
      (ts := fun a cls d D σ H => ∃ C y, cls = .ref C ∧ d = none ∧ Says X.prog X.w X.K X.mg X.base Ne er ste fE C y ∧ (∃ σ0 : L2.St, σ = σ0.set 1 (some (.ref a))) ∧ Tabs tb H ∧ ∀ F' H'', CallLe tb none' none' H F' H'' → D.rt (.str y) H'')
      rfl rfl hNd hi hln ⟨hgl, hde, .inl hme⟩ takes0N (fun W pn xe tk _ => ?_) (fun a oe cls d pn hz hv => ?_)), ?_⟩
  · refine ⟨fun pins s' σ H' D I h' => ?_⟩
    obtain ⟨Ech, hW, h1, h2, h3⟩ := h'
    have hp := act W pn xe Ech p1 p2 tk hW
    have hq := pss_one (ps_ret (pos := p3) (pe_lst (pos := p2') (pa_cons hp pa_nil)))
    exact hq.run pins s' σ H' D I ⟨h1, h2, h3⟩
  · refine ⟨fun pins s' σ H' D I h' => ?_⟩
    obtain ⟨C, y, rfl, rfl, sy, ⟨σ0, hs0⟩, hT, hQ⟩ := h'
    have hl : σ.length = Ng.length := I.len
    have h1 : σ[1]? = some (some (.ref a)) := by
      rw [hs0] at hl ⊢
      rw [List.length_set] at hl
      rw [List.getElem?_set_self (by rw [hl]; exact (List.getElem?_eq_some_iff.mp hi).1)]
    obtain ⟨bd, hb1, hb2⟩ := sy a oe
    have hp := pe_err (X := (cxOf C8.CX0 X.prog X.w X.K X.mg X.base Ng x sg g cdg X.A X.stack s H C8.E0).nox.suite a ((a, oe) :: pn)) (tb := tb) (k := k) (p := p5) (pos := p7) rfl List.mem_cons_self hz hv Fr Sr hbr
      ⟨(hr.deeper (envOfC x sg s.heap.objs.size g cdg)).dp, (hr.deeper (envOfC x sg s.heap.objs.size g cdg)).un⟩ hgr hmr hkr hb1 hb2 (pe_var (pos := p6) hi (.inl hln) hd hcd) hdr
    exact (pss_one (ps_ret (pos := p8) hp)).run pins s' σ H' D I ⟨h1, hT, hQ⟩
  · exact ⟨_, fun cls d σ' H' e => by
      obtain ⟨C, y, rfl, rfl, e1, e2, e3, e4⟩ := e
      exact ⟨true, e1, fun _ a na => ⟨C, y, rfl, rfl, e2, ⟨_, rfl⟩, e3, e4⟩, fun z => nomatch z⟩, h0, hc, h⟩
end
end DL

end DLw
section DLx
set_option Elab.async false
set_option linter.all false
set_option autoImplicit false
set_option maxRecDepth 100000
set_option maxHeartbeats 2000000
namespace DL
open PySem PySem.Spec PyProof.Rows L2 LamX

/-- what a lambda's body may look at: nothing that changes -/
def keepO (o : Option D) : Option D := o.bind fun d => match d with
  | .own _ => none
  | .io _ => none
  | .bor _ => none
  | d => some d
def shut (ls : LS) : LS := ls.map keepO
theorem keepO_some {o : Option D} {d : D} (h : keepO o = some d) : o = some d ∧ ¬ Chg d := by
  cases o with
  | none => cases h
  | some x =>
    cases x with
    | own x => cases h
    | io x => cases h
    | bor i => cases h
    | _ => cases h; exact ⟨rfl, fun z => z⟩
theorem shut_some {ls : LS} {i : Nat} {d : D} (h : (shut ls)[i]? = some (some d)) : ls[i]? = some (some d) ∧ ¬ Chg d := by
  unfold shut at h
  rw [List.getElem?_map] at h
  cases e : ls[i]? with
  | none => rw [e] at h; cases h
  | some o =>
    rw [e] at h
    have h : keepO o = some d := Option.some.inj h
    obtain ⟨h1, h2⟩ := keepO_some h
    exact ⟨by rw [h1], h2⟩
/-- [m()], or what is said of the error -/
def mCame (err : Str → Option Str) (m : ME) : ME := fun ls => match m (shut ls) with
  | .ok (d, ls') => (opt ((retD ls' d).bind stl)).bind fun d' => .ok (.own (.lst [d']), ls)
  | .exc x => (opt (err x)).bind fun y => .ok (.str y, ls)
  | .stuck => .stuck
section
variable {X : Cx} {G : Gh} {F F' : FS} {H H' H1 : Hp} {ls : LS} {σ : L2.St} {tb : List (Addr × Str)}
theorem CallLe.of (all : ∀ a o, H a = some o → (∀ ps, o ≠ .tbl ps) → H' a = some o) (dom : ∀ a, Nw H' a → Nw H a) (ht : Tabs tb H') (th : ∀ a, F a → ¬ Nw H a) : CallLe tb none' F H F H' where
  le := ⟨fun _ h => h, ⟨fun a vs h => all a _ h fun _ z => (nomatch z), fun a o f h => all a o h fun ps z => th a f fun u hu => by rw [h] at hu; cases hu; exact ⟨ps, z⟩⟩⟩
  all := fun a o h _ t => all a o h t
  dom := dom
  new := fun a f => .inl f
  there := fun a f n => th a f (dom a n)
  tabs := ht
theorem ExtN.nw (e : ExtN H H') (a : Addr) (n : Nw H' a) : Nw H a := fun o h => by
  cases o with
  | tbl ps => exact ⟨ps, rfl⟩
  | _ => exact n _ (e a _ h fun ps z => nomatch z)
theorem CallLe.ext (e : ExtN H H') (ht : Tabs tb H') (th : ∀ a, F a → ¬ Nw H a) : CallLe tb none' F H F H' := .of e (ExtN.nw e) ht th
theorem CallLe.trans {W F1 F2 F3 : FS} {H2 H3 : Hp} (p : CallLe tb none' F1 H F2 H2) (q : CallLe tb W F2 H2 F3 H3) : CallLe tb W F1 H F3 H3 where
  le := p.le.trans q.le
  all := fun a o h w t => q.all a o (p.all a o h (fun z => z) t) w t
  dom := fun a n => p.dom a (q.dom a n)
  new := fun a f => (q.new a f).elim (p.new a) fun n => .inr (p.dom a n)
  there := q.there
  tabs := q.tabs
theorem LInv.shut {mg : Str → Option Value} {E : XK} (L : LInv G F ls σ H) (c : CallLe tb none' F H F H1) : LInv ⟨[], H1, F, none', mg, E, tb⟩ F (shut ls) σ H1 where
  keep := ⟨fun a o e _ _ => e, fun a e => e, c.tabs⟩
  slot := fun i d e => by
    obtain ⟨e1, nc⟩ := shut_some e
    obtain ⟨v, h1, h2⟩ := L.slot i d e1
    refine ⟨v, h1, ?_⟩
    cases d with
    | own d => exact absurd trivial nc
    | io d => exact absurd trivial nc
    | bor i => exact h2.elim
    | non => exact Rep.le c.le h2
    | bl => exact Rep.le c.le h2
    | int => exact Rep.le c.le h2
    | str => exact Rep.le c.le h2
    | ref => exact Rep.le c.le h2
    | tup => exact Rep.le c.le h2
    | lst => exact Rep.le c.le h2
    | scr => exact Rep.le c.le h2
    | dct => exact Rep.le c.le h2
    | ins => exact Rep.le c.le h2
  apart := fun i j d d' v _ e _ c => absurd c (shut_some e).2
  there := c.there
  fnew := fun a f => .inl f
  len := by unfold DL.shut; rw [List.length_map]; exact L.len
  pin := fun p hp => nomatch hp
theorem mCame_imp {err : Str → Option Str} {m : ME} {P : Program} {w : World} {K : PySem.W.Frag} {base : Heap} {Ne : List Str} {er : Str} {ste : Stmt} {fE FE : Addr}
    (he : ∀ x y, err x = some y → ∀ C, G.mg x = some (.ref C) → PySem.W.exmOne K (.ref C) (.ref FE) = some true ∧ Says P w K G.mg base Ne er ste fE C y) (σ : L2.St) (H : Hp) (Q : VK) (q : tOf G (mCame err m) σ H Q) :
    tLam G.tb (TCame P w K G.mg base G.tb Ne er ste fE FE) (fun E σ H Q => ∃ G' : Gh, G'.mg = G.mg ∧ G'.tb = G.tb ∧ G'.E = E ∧ tOf G' m σ H Q) σ H Q := by
  obtain ⟨F, ls, L, o⟩ := q
  refine ⟨L.keep.tabs, fun H1 eN T1 => ?_⟩
  have c1 : CallLe G.tb none' F H F H1 := .ext eN T1 L.there
  unfold TCame
  refine ⟨⟨[], H1, F, none', G.mg, _, G.tb⟩, rfl, rfl, rfl, F, shut ls, L.shut c1, ?_⟩
  revert o
  unfold mCame
  cases m (shut ls) with
  | stuck => exact fun o => o.elim
  | ok p =>
    obtain ⟨d, ls'⟩ := p
    intro o F' H' v p L' rx
    dsimp only at o
    cases e1 : retD ls' d with
    | none => rw [e1] at o; exact o.elim
    | some d2 =>
      rw [e1, Option.bind_some] at o
      cases e2 : stl d2 with
      | none => rw [e2] at o; exact o.elim
      | some d' =>
        rw [e2] at o
        have c2 := c1.trans (L'.callLe p)
        have L2 := L.call c2 (fun _ z => z.elim) (fun _ _ _ _ _ _ z => z) (fun _ _ z => z) L.there
        have rq := rx.toQ L' e1
        have rx2 : RepX G F' H' ls σ d2 v := by
          have rq' : RepQ F' H H' d2 v := by
            cases d2 with
            | own d3 => obtain ⟨m3, a, ea, nf, n⟩ := rq; exact ⟨m3, a, ea, nf, c1.dom a n⟩
            | io d => exact rq
            | bor i => exact rq
            | non => exact rq
            | bl => exact rq
            | int => exact rq
            | str => exact rq
            | ref => exact rq
            | tup => exact rq
            | lst => exact rq
            | scr => exact rq
            | dct => exact rq
            | ins => exact rq
          exact rq'.toX L c2 fun i d h c => ⟨d, h, c⟩
        obtain ⟨F3, p3, L3, ry⟩ := settle L2 rx2 e2
        have rep : Rep F3 H' d' v := by
          cases d' with
          | own d => exact ry.elim
          | io d => exact ry.elim
          | bor i =>
            exfalso
            cases d2 with
            | own d => cases d <;> cases e2
            | bor j => exact rq.elim
            | io d => cases e2
            | _ => cases e2
          | non => exact ry
          | bl => exact ry
          | int => exact ry
          | str => exact ry
          | ref => exact ry
          | tup => exact ry
          | lst => exact ry
          | scr => exact ry
          | dct => exact ry
          | ins => cases (show Rep F3 H' _ _ from ry)
        refine ⟨by show 1 ≤ sizeLine; rw [sizeLine_eq]; omega, fun l n => ?_⟩
        have o3 : Out G (.ok (.own (.lst [d']), ls)) F3 σ H' Q := Out.later (c2.le.trans p3) o
        exact Pur.of L3 o3 _ _ (same_upd n) ⟨⟨l, [v], rfl, upd_same, .cons (rep.le (Le.same (same_upd n))) .nil⟩, l, rfl, n⟩
  | exc x =>
    intro o H' C kp hC
    dsimp only at o
    cases e1 : err x with
    | none => rw [e1] at o; exact o.elim
    | some y =>
      rw [e1] at o
      obtain ⟨h1, h2⟩ := he x y e1 C hC
      refine ⟨C, y, rfl, rfl, h1, h2, kp.tabs, fun F' H'' c3 => ?_⟩
      have c2 : CallLe G.tb none' F H F H'' := c1.trans (.of (fun a o h t => c3.all a o (kp.all a o h (fun z => z) t) (fun z => z) t) (fun a n => kp.dom a (c3.dom a n)) c3.tabs c1.there)
      exact o F H'' (.str y) c2.le (L.call c2 (fun _ z => z.elim) (fun _ _ _ _ _ _ z => z) (fun _ _ z => z) L.there) (.str y)
theorem pe_exists {e : Expr} {ι : Type} {p : ι → Prop} {ts : ι → TE} (h : ∀ i, p i → PE X e (ts i)) : PE X e (fun σ H Q => ∃ i, p i ∧ ts i σ H Q) := ⟨fun pins s σ H Q I ⟨i, hp, q⟩ => (h i hp).run pins s σ H Q I q⟩
end
end DL

end DLx
section DLy
set_option Elab.async false
set_option linter.all false
set_option autoImplicit false
set_option maxRecDepth 100000
set_option maxHeartbeats 2000000
namespace DL
open PySem PySem.Spec PyProof.Rows L2 LamX

/-! ### the script, a list that is never changed -/
/-- what stands wherever all that was there is kept -/
def Steady' (G : Gh) (p : Hp → Prop) : Prop := ∀ H, Keep G H → p H
theorem sq_keep {K : PySem.W.Frag} {a : Addr} {xs : List V} {G : Gh} (h0 : SqL K G.H0 a xs) (hI : ∀ a, ¬ G.I0 a) {H : Hp} (k : Keep G H) : SqL K H a xs := by
  rcases h0 with (h | ⟨o, h⟩) | h
  · exact .inl (.inl (k.all a _ h (hI a) fun _ z => nomatch z))
  · exact .inl (.inr ⟨o, k.all a _ h (hI a) fun _ z => nomatch z⟩)
  · exact .inr h
section
variable {X : Cx} {G : Gh} {F F' : FS} {H H' H1 : Hp} {ls : LS} {σ : L2.St} {tb : List (Addr × Str)} {a : Addr} {e : Expr} {es : List Expr} {ns : List Int}
theorem cb_impS {r : List V → Hp → VK → Prop} {g : List D → Option D} (hg : ∀ (F : FS) (H : Hp) (xs : List D) (d : D) (vs : List V) (Q : VK), Keep G H → RepRs F H xs vs → g xs = some d → Pur F H d Q → r vs H Q) {ms : MA} (σ : L2.St) (H : Hp) (Q : VK) (q : tOf G (cb g ms) σ H Q) : tOfA G ms σ H fun vs H1 => r vs H1 Q := by
  obtain ⟨F, ls, L, o⟩ := q
  refine tOfA.firstE L o fun F1 H1 ls1 ds vs p L1 r1 o1 => ?_
  dsimp only at o1
  cases e1 : sees ls1 ds with
  | none => rw [e1] at o1; exact o1.elim
  | some xs =>
    rw [e1] at o1
    simp only [opt_some, Res.bind_ok] at o1
    cases e3 : g xs with
    | none => rw [e3] at o1; exact o1.elim
    | some z =>
      rw [e3] at o1
      exact hg F1 H1 xs z vs Q L1.keep (sees_rep L1 r1 e1) e3 (Pur.of L1 o1)
theorem bin_impS {r : R2} {g : D → D → Option D} (hg : ∀ (F : FS) (H : Hp) (x y d : D) (v u : V) (Q : VK), Keep G H → RepR F H x v → RepR F H y u → g x y = some d → Pur F H d Q → r v u H Q) {ma mb : ME} (σ : L2.St) (H : Hp) (Q : VK) (q : tOf G (bin g ma mb) σ H Q) : tOp r (tOf G ma) (tOf G mb) σ H Q := by
  obtain ⟨F, ls, L, o⟩ := q
  refine tOf.settled L o fun F1 H1 ls1 d v p L1 r1 o1 => ?_
  refine tOf.settled L1 o1 fun F2 H2 ls2 d2 u p2 L2 r2 o2 => ?_
  dsimp only at o2
  cases e1 : see ls2 d with
  | none => rw [e1] at o2; exact o2.elim
  | some x =>
    cases e2 : see ls2 d2 with
    | none => rw [e1, e2] at o2; exact o2.elim
    | some y =>
      rw [e1, e2] at o2
      simp only [opt_some, Res.bind_ok] at o2
      cases e3 : g x y with
      | none => rw [e3] at o2; exact o2.elim
      | some z =>
        rw [e3] at o2
        exact hg F2 H2 x y z v u Q L2.keep (see_rep L2 (r1.le p2) e1) (see_rep L2 r2 e2) e3 (Pur.of L2 o2)
def gLenS (a : Addr) (n : Nat) : List D → Option D
  | [.ref b] => if b = a then some (.int n) else none
  | _ => none
theorem de_lenS {p pos : Pos} {ms : MA} (hs : Steady' G fun H => SqL X.K H a (ns.map V.int)) (hg : Gl X "len") (hm : X.mg "len" = none) (ha : DA X G (e :: es) ms)
    (he : starEach (e :: es) X.env = (false, eval e X.env) :: starEach es X.env := by rfl) (hpl : (backTo pos (starEach es X.env)).any (·.1) = false := by rfl) :
    DE X G (.Call (.Name "len" p) (e :: es) [] pos) (cb (gLenS a ns.length) ms) := by
  refine pe_imp (pe_callB call_len_seq hg hm (by decide) ha (by decide) (by decide) he hpl) (cb_impS fun F H xs d vs Q kp rs e p => ?_)
  match xs, rs, e with
  | [.ref b], rs, e0 =>
    obtain ⟨v, rfl, r1⟩ := rs.one
    obtain rfl := r1.isRef
    have e2 : (if b = a then some (D.int ns.length) else none) = some d := e0
    by_cases hb : b = a
    · rw [if_pos hb] at e2; cases e2
      exact ⟨b, ns.map V.int, rfl, .inl (by rw [hb]; exact hs H kp), by rw [List.length_map]; exact p H _ (Same.refl _) (.int _)⟩
    · rw [if_neg hb] at e2; cases e2
def gIxS (a : Addr) (ns : List Int) : D → D → Option D
  | .ref b, .int k => if b = a then (L2.atI ns k).map .int else none
  | _, _ => none
theorem de_ixS {x y : Expr} {ma mb : ME} {pos : Pos} (hs : Steady' G fun H => SqL X.K H a (ns.map V.int)) (ha : DE X G x ma) (hb : DE X G y mb) (hp : PlainIx y) : DE X G (.Subscript x y pos) (bin (gIxS a ns) ma mb) := by
  refine pe_imp (pe_ix ix_seq ha hb hp) (bin_impS fun F H x y d v u Q kp r1 r2 e p => ?_)
  match x, y, r1, r2, e with
  | .ref b, .int k, r1, r2, e0 =>
    obtain rfl := r1.isRef
    obtain rfl := r2.isInt
    have e2 : (if b = a then (L2.atI ns k).map D.int else none) = some d := e0
    by_cases hb : b = a
    · rw [if_pos hb] at e2
      cases q : L2.atI ns k with
      | none => rw [q] at e2; cases e2
      | some z =>
        rw [q] at e2; cases e2
        refine .inl ⟨b, ns.map V.int, k, .int z, rfl, rfl, by rw [hb]; exact hs H kp, ?_, p H _ (Same.refl _) (.int _)⟩
        revert q
        unfold L2.atI
        rw [List.length_map]
        cases ixN ns.length k with
        | none => exact fun z => by cases z
        | some j => intro hz; rw [Option.bind_some] at hz ⊢; rw [List.getElem?_map, hz]; rfl
    · rw [if_neg hb] at e2; cases e2

/-! ### defs that are told more -/
structure FunQ (K : PySem.W.Frag) (x qual : Str) (st : Stmt) (f : Addr) (fd : FuncData) (cp : Value → Prop) : Prop where
  ex : ∃ (oc : Value) (od : Option Addr) (kV doc pm : Value) (an : Option Addr) (cdv ct : Value) (osl : Array (Option Value)),
    fd = PySem.W.fnOf x qual (defArgs st) (defBody st) (defScope st) .none kV doc pm an cdv ct ∧ K.lookup f = some ⟨oc, od, .func fd, osl⟩ ∧ PySem.W.codeIn K cdv qual = true ∧ cp cdv
theorem Fun.q {K : PySem.W.Frag} {x qual : Str} {st : Stmt} {f : Addr} {fd : FuncData} (Fn : Fun K x qual st f fd) : FunQ K x qual st f fd fun _ => True := by
  obtain ⟨oc, od, kV, doc, pm, an, cdv, ct, osl, h1, h2, h3⟩ := Fn.ex
  exact ⟨oc, od, kV, doc, pm, an, cdv, ct, osl, h1, h2, h3, trivial⟩
def SpX {ι : Type} (mg : Str → Option Value) (tb : List (Addr × Str)) (n : Nat) (pre : ι → Hp → Prop) (f : ι → FD) : Sp := fun vs H Q E => ∃ i, pre i H ∧ SpF mg tb n (f i) vs H Q E
theorem okX {ι : Type} {P : Program} {w : World} {K : PySem.W.Frag} {mg : Str → Option Value} {base : Heap} {x qual : Str} {st : Stmt} {f : Addr} {fd : FuncData} {N ps : List Str} {k : Nat} {pre : ι → Hp → Prop} {body : ι → MS} {fD : ι → FD} {cp : Value → Prop} (Fn : FunQ K x qual st f fd cp) (S : FnScope N ps (defScope st))
    (hb : ∀ (i : ι) (cdv : Value) (A : Around) (outer : List Env) (s : Shared) (H : Hp) (E : XK) (G : Gh), cp cdv → Room k (A.deeper (envOfC qual (defScope st) s.heap.objs.size f cdv)) → G.mg = mg → G.tb = tb → G.H0 = H → (∀ a, ¬ G.I0 a) → pre i H →
      L2N.Takes (cxOf (L2N.CX P w) P w K mg base N qual (defScope st) f cdv A outer s H E) (fun cls d _ H => G.E cls d H) →
      PassesOwn (model P w) (A.deeper (envOfC qual (defScope st) s.heap.objs.size f cdv)) (envOfC qual (defScope st) s.heap.objs.size f cdv) (cxOf (L2N.CX P w) P w K mg base N qual (defScope st) f cdv A outer s H E).xe →
      DSs (cxOf (L2N.CX P w) P w K mg base N qual (defScope st) f cdv A outer s H E) G (defBody st) (body i))
    (hD : ∀ i ds, ds.length = ps.length → fD i ds ≠ .stuck → fin (body i (startD N.length ds)) = fD i ds) : FnOk P w K mg base (L2N.CX P w) (k + 1) f fd ps (SpX mg tb ps.length pre fD) := by
  obtain ⟨oc, od, kV, doc, pm, an, cdv, ct, osl, rfl, lk, hcd, hcp⟩ := Fn.ex
  refine fn_of lk hcd S (fun vs H Q E h => ?_) (fun A outer s H vs Q E hr h => ?_)
  · obtain ⟨i, _, F, ds, hl, r, _⟩ := h
    rw [← r.length]; exact hl
  · obtain ⟨i, hp, F, ds, hl, r, th, ht, e⟩ := h
    refine ⟨_, hb i cdv A outer s H E ⟨[], H, F, none', mg, E, tb⟩ hcp hr rfl rfl rfl (fun _ z => z) hp (L2N.takes_of rfl rfl rfl rfl) (passes_of (X := cxOf (L2N.CX P w) P w K mg base N qual (defScope st) f cdv A outer s H E) rfl), F, startD N.length ds, inv_begin r th ht, ?_⟩
    have q := hD i ds hl (fun z => by rw [z] at e; exact e)
    rw [← q] at e
    revert e
    cases body i (startD N.length ds) with
    | nx ls => exact fun e F' σ' H' p L => e F' H' .non (L.callLe p) .non
    | bk ls => exact fun e => e.elim
    | ct ls => exact fun e => e.elim
    | rt d ls =>
      intro e F' σ' H' v p L rx
      have e' : match (opt (retD ls d) : Res D) with
        | .ok d => ∀ F' H' v, CallLe tb none' F H F' H' → RepQ F' H H' d v → Q v H'
        | .exc x => ∀ H' C, (∀ a o, H a = some o → (∀ ps, o ≠ .tbl ps) → H' a = some o) → (∀ a, Nw H' a → Nw H a) → LamX.Tabs tb H' → mg x = some (.ref C) → E (.ref C) none H'
        | .stuck => False := e
      cases er : retD ls d with
      | some d2 => rw [er] at e'; exact e' F' H' v (L.callLe p) (rx.toQ L er)
      | none => rw [er] at e'; exact e'.elim
    | exc y => exact fun e H' C kp hC => e H' C (fun a o ea t => kp.all a o ea (fun z => z) t) kp.dom kp.tabs hC
    | stuck => exact fun e => e.elim
theorem mCall_impX {ι : Type} {mg : Str → Option Value} {n : Nat} {pre : ι → Hp → Prop} {f : ι → FD} {ms : MA} (i : ι) (hpre : ∀ H, Keep G H → pre i H) (hmg : G.mg = mg) (hn : ∀ ds d, f i ds = d → d ≠ .stuck → ds.length = n) (σ : L2.St) (H : Hp) (Q : VK) (q : tOf G (mCall (f i) ms) σ H Q) : tOfA G ms σ H fun vs H1 => SpX mg G.tb n pre f vs H1 Q G.E := by
  obtain ⟨F, ls, L, o⟩ := q
  refine tOfA.frozen L o fun F1 H1 ls1 ds vs p1 L1 r1 o1 => ⟨i, hpre H1 L1.keep, ?_⟩
  dsimp only at o1
  cases e : f i ds with
  | stuck => rw [e] at o1; exact o1.elim
  | ok d =>
    rw [e] at o1
    refine ⟨F1, ds, hn ds _ e (fun z => nomatch z), r1, L1.there, L1.keep.tabs, ?_⟩
    rw [e]
    intro F2 H2 v c r
    exact o1 F2 H2 v c.le (L1.call c (fun _ z => z.elim) (fun _ _ _ _ _ _ z => z) (fun _ _ z => z) L1.there) (r.toX L1 c fun i d h c => ⟨d, h, c⟩)
  | exc x =>
    rw [e] at o1
    refine ⟨F1, ds, hn ds _ e (fun z => nomatch z), r1, L1.there, L1.keep.tabs, ?_⟩
    rw [e]
    intro H2 C h1 h2 h3 hx
    exact o1 H2 C ⟨fun a u e n t => h1 a u (L1.keep.all a u e n t) t, fun a z => L1.keep.dom a (h2 a z), h3⟩ (by rw [hmg]; exact hx)
theorem de_callX {ι : Type} {pre : ι → Hp → Prop} {k : Nat} {f : Addr} {fd : FuncData} {ps : List Str} {fF : ι → FD} {x : Str} {p pos : Pos} {ms : MA} {n : Nat} (i : ι) (hpre : ∀ H, Keep G H → pre i H) (hmg : G.mg = X.mg) (tk : L2N.Takes X (fun cls d _ H => G.E cls d H)) (hn : ∀ ds d, fF i ds = d → d ≠ .stuck → ds.length = n)
    (Fn : FnOk X.prog X.w X.K X.mg X.base (L2N.CX X.prog X.w) k f fd ps (SpX X.mg G.tb n pre fF)) (hr : Room k X.A) (hg : Gl X x) (hm : X.mg x = some (.ref f)) (hk : PySem.W.keepIn X.K (.ref f) = true) (hb : Binds X.K fd ps []) (ha : DA X G (e :: es) ms)
    (hdb : (x == ("__debug__" : Str)) = false := by decide) (he : starEach (e :: es) X.env = (false, eval e X.env) :: starEach es X.env := by rfl) (hpl : (backTo pos (starEach es X.env)).any (·.1) = false := by rfl) :
    DE X G (.Call (.Name x p) (e :: es) [] pos) (mCall (fF i) ms) :=
  pe_imp (pe_callS (E := fun _ => G.E) Fn hr hg hm hk hb (fun σ => L2N.passAt tk σ) ha hdb he hpl) (mCall_impX i hpre hmg hn)

/-! ### _law_came(lambda: ..) -/
structure CameOk (P : Program) (w : World) (K : PySem.W.Frag) (mg : Str → Option Value) (base : Heap) (tb : List (Addr × Str)) (x : Str) (k : Nat) (err : Str → Option Str) : Prop where
  ex : ∃ (a : Str) (g : Addr) (stg : Stmt) (fdg : FuncData) (Ng Ne : List Str) (er : Str) (ste : Stmt) (fE FE : Addr), mg x = some (.ref g) ∧ PySem.W.keepIn K (.ref g) = true ∧ Fun K x x stg g fdg ∧ L2.Binds K fdg [a] [] ∧ FnScope Ng [a] (defScope stg) ∧ Ng[0]? = some a ∧ Vis (defScope stg) a ∧
    (a == ("__debug__" : Str)) = false ∧ (a == ("__classdict__" : Str)) = false ∧
    (∀ (X : Cx) (cdv : Value) (q : Str), X.prog = P → X.w = w → X.K = K → X.mg = mg → X.base = base → Room (k + 2) X.A → GivesN X Ng x (defScope stg) g cdv (defBody stg) a q (TCame P w K mg base tb Ne er ste fE FE)) ∧
    ∀ x y, err x = some y → ∀ C, mg x = some (.ref C) → PySem.W.exmOne K (.ref C) (.ref FE) = some true ∧ Says P w K mg base Ne er ste fE C y
theorem de_came {err : Str → Option Str} {x : Str} {k : Nat} {c P : Addr} {params : Arguments} {body : Expr} {scope : Scope} {m : ME} {p lpos pos : Pos} (O : CameOk X.prog X.w X.K X.mg X.base G.tb x k err) (hmg : G.mg = X.mg) (hg : Gl X x)
    (TB : TabB X.base X.mg c P) (hcode : X.env.code = .ref c) (q0 : Str) (hq0 : X.env.qual = q0) (hmT : (P, q0 ++ "<lambda>") ∈ G.tb) (hu : ∀ p ∈ G.tb, p.1 = P → p.2 = q0 ++ "<lambda>") (hr : Room (k + 2) X.A) (L : LamS X.env.scope scope)
    (hbody : ∀ (A : Around) (outer : List Env) (s : Shared) (H : Hp) (E : XK) (f c' : Addr) (G' : Gh), Room k (A.deeper (lamEnv X scope s.heap.objs.size f c')) → G'.mg = X.mg → G'.tb = G.tb →
      L2N.Takes (lamCxN X A outer s H E scope f c') (fun cls d _ H => G'.E cls d H) → DE (lamCxN X A outer s H E scope f c') G' body m)
    (hdef : defaultsOf params X.env = ([], []) := by rfl)
    (hbind : ∀ (q : Str) (cl : List (Str × Addr)) (pm cv ctv : Value), bindArgs (PySem.W.kla_fn "<lambda>" q params body scope cl pm cv ctv) ⟨[], []⟩ = pure [] := by exact fun _ _ _ _ _ => rfl)
    (hdb : (x == ("__debug__" : Str)) = false := by decide) :
    DE X G (.Call (.Name x p) [.Lambda params body scope lpos] [] pos) (mCame err m) := by
  subst hq0
  obtain ⟨a, g, stg, fdg, Ng, Ne, er, ste, fE, FE, h1, h2, h3, h4, h5, h6, h7, h8, h9, h10, h11⟩ := O.ex
  refine pe_imp (pe_lamcallN (T := G.tb) (TT := TCame X.prog X.w X.K X.mg X.base G.tb Ne er ste fE FE) (t := fun E σ H Q => ∃ G' : Gh, (G'.mg = G.mg ∧ G'.tb = G.tb ∧ G'.E = E) ∧ tOf G' m σ H Q) hg h1 h2 h3 h4 h5 h6 h7
    (fun cdv => h10 X cdv _ rfl rfl rfl rfl rfl hr) TB hcode hmT hu hr L hdef hbind (fun A outer s H E f c' hr2 => pe_exists fun G' ⟨e1, e2, e3⟩ => ?_) hdb h8 h9) (fun σ H Q q => ?_)
  · refine hbody A outer s H E f c' G' hr2 (e1.trans hmg) e2 ?_
    rw [e3]
    exact L2N.takes_of (X := lamCxN X A outer s H E scope f c') rfl rfl rfl rfl
  · have h11' : ∀ x y, err x = some y → ∀ C, G.mg x = some (.ref C) → PySem.W.exmOne X.K (.ref C) (.ref FE) = some true ∧ Says X.prog X.w X.K G.mg X.base Ne er ste fE C y := by
      rw [hmg]; exact h11
    obtain ⟨q1, q2⟩ := mCame_imp h11' σ H Q q
    rw [hmg] at q2
    refine ⟨q1, fun H1 e1 e2 => ?_⟩
    obtain ⟨G', z1, z2, z3, z4⟩ := q2 H1 e1 e2
    exact ⟨G', ⟨z1.trans hmg.symm, z2, z3⟩, z4⟩
end
end DL

end DLy
section DLz
set_option Elab.async false
set_option linter.all false
set_option autoImplicit false
set_option maxRecDepth 100000
set_option maxHeartbeats 2000000
namespace DL
open PySem PySem.Spec PyProof.Rows L2 LamX RZ
section
variable {X : Cx} {G : Gh} {F F' : FS} {H H' H1 : Hp} {ls : LS} {σ : L2.St} {e e2 tg : Expr} {es : List Expr}
/-! ### zip of two lists, of two tuples -/
def zipD : List D → List D → List D
  | x :: xs, y :: ys => .tup [x, y] :: zipD xs ys
  | _, _ => []
theorem zipD_get : ∀ {xs ys : List D} {i : Nat} {d : D}, (zipD xs ys)[i]? = some d → ∃ x y, d = .tup [x, y] ∧ xs[i]? = some x ∧ ys[i]? = some y
  | [], _, i, d, h => by simp [zipD] at h
  | x :: xs, [], i, d, h => by simp [zipD] at h
  | x :: xs, y :: ys, 0, d, h => by simp only [zipD, List.getElem?_cons_zero, Option.some.injEq] at h; exact ⟨x, y, h.symm, rfl, rfl⟩
  | x :: xs, y :: ys, i + 1, d, h => by simp only [zipD, List.getElem?_cons_succ] at h ⊢; exact zipD_get h
theorem zipD_len : ∀ (xs ys : List D), (zipD xs ys).length = min xs.length ys.length
  | [], _ => by simp [zipD]
  | x :: xs, [] => by simp [zipD]
  | x :: xs, y :: ys => by simp only [zipD, List.length_cons, zipD_len xs ys]; omega
def iZip (ms : MA) : MI := fun ls => (fz ms ls).bind fun q => match q.1 with
  | [.lst xs, .lst ys] => .ok (zipD xs ys, q.2)
  | [.tup xs, .tup ys] => .ok (zipD xs ys, q.2)
  | _ => .stuck
theorem tOfA.frozenI {R : It → Hp → Prop} {Q' : List V → Hp → Prop} {ms : MA} {f : List D × LS → Res (List D × LS)} (L : LInv G F ls σ H) (o : OutI G ((fz ms ls).bind f) F σ H R)
    (h : ∀ F1 H1 ls1 ds vs, Le F H F1 H1 → LInv G F1 ls1 σ H1 → Reps F1 H1 ds vs → OutI G (f (ds, ls1)) F1 σ H1 R → Q' vs H1) : tOfA G ms σ H Q' := by
  have e : ((fz ms ls).bind f) = (ms ls).bind fun q => (opt (frzs q.2 q.1)).bind f := by
    unfold fz
    cases ms ls <;> rfl
  rw [e] at o
  refine tOfA.firstI L o fun F1 H1 ls1 ds vs p1 L1 r1 o1 => ?_
  dsimp only at o1
  cases e1 : frzs ls1 ds with
  | none => rw [e1] at o1; exact o1.elim
  | some q =>
    obtain ⟨ds2, ls2⟩ := q
    rw [e1] at o1
    obtain ⟨F2, p2, L2, r2⟩ := frzs_ok L1 r1 e1
    refine h F2 H1 ls2 ds2 vs (p1.trans p2) L2 r2 ?_
    revert o1
    rw [opt_some, Res.bind_ok]
    cases f (ds2, ls2) with
    | ok q => exact fun o F' H' J p => o F' H' J (p2.trans p)
    | exc x => exact fun o => o
    | stuck => exact fun o => o
theorem itd_zip {K : PySem.W.Frag} {a b : Addr} {xs ys : List D} {vs us : List V} (fa : F a) (ha : H a = some (.lst vs)) (ra : Reps F H xs vs) (fb : F b) (hb : H b = some (.lst us)) (rb : Reps F H ys us) : ItD (Itz K a b) F H (zipD xs ys) where
  go := fun i F' H' p hi => by
    rw [zipD_len, Nat.lt_min] at hi
    have h1 : i < vs.length := by rw [← ra.length]; exact hi.1
    have h2 : i < us.length := by rw [← rb.length]; exact hi.2
    exact ⟨vs, us, vs[i], us[i], .inl (.inl (p.st.frz _ _ fa ha)), .inl (.inl (p.st.frz _ _ fb hb)), List.getElem?_eq_getElem _, List.getElem?_eq_getElem _⟩
  yld := fun i F' H' x H'' d p y hd => by
    obtain ⟨T, x1, y1, rfl, hT, rfl, q1, q2⟩ := y
    obtain ⟨dx, dy, rfl, e1, e2⟩ := zipD_get hd
    obtain ⟨v, g1, r1⟩ := ra.get e1
    obtain ⟨u, g2, r2⟩ := rb.get e2
    have z1 := q1 vs (.inl (.inl (p.st.frz _ _ fa ha)))
    have z2 := q2 us (.inl (.inl (p.st.frz _ _ fb hb)))
    rw [g1] at z1; cases z1
    rw [g2] at z2; cases z2
    exact ⟨same_upd hT, .tup upd_same (.cons ((r1.le p).le (Le.same (same_upd hT))) (.cons ((r2.le p).le (Le.same (same_upd hT))) .nil))⟩
  stop := fun F' H' p => ⟨vs, us, .inl (.inl (p.st.frz _ _ fa ha)), .inl (.inl (p.st.frz _ _ fb hb)), by rw [zipD_len, ← ra.length, ← rb.length]; omega⟩
theorem itd_zipT {K : PySem.W.Frag} {a b : Addr} {xs ys : List D} {vs us : List V} (ha : H a = some (.tup vs)) (ra : Reps F H xs vs) (hb : H b = some (.tup us)) (rb : Reps F H ys us) : ItD (ItzT K a b) F H (zipD xs ys) where
  go := fun i F' H' p hi => by
    rw [zipD_len, Nat.lt_min] at hi
    have h1 : i < vs.length := by rw [← ra.length]; exact hi.1
    have h2 : i < us.length := by rw [← rb.length]; exact hi.2
    exact ⟨vs, us, vs[i], us[i], .inl (.inl (p.st.tup _ _ ha)), .inl (.inl (p.st.tup _ _ hb)), List.getElem?_eq_getElem _, List.getElem?_eq_getElem _⟩
  yld := fun i F' H' x H'' d p y hd => by
    obtain ⟨T, x1, y1, rfl, hT, rfl, q1, q2⟩ := y
    obtain ⟨dx, dy, rfl, e1, e2⟩ := zipD_get hd
    obtain ⟨v, g1, r1⟩ := ra.get e1
    obtain ⟨u, g2, r2⟩ := rb.get e2
    have z1 := q1 vs (.inl (.inl (p.st.tup _ _ ha)))
    have z2 := q2 us (.inl (.inl (p.st.tup _ _ hb)))
    rw [g1] at z1; cases z1
    rw [g2] at z2; cases z2
    exact ⟨same_upd hT, .tup upd_same (.cons ((r1.le p).le (Le.same (same_upd hT))) (.cons ((r2.le p).le (Le.same (same_upd hT))) .nil))⟩
  stop := fun F' H' p => ⟨vs, us, .inl (.inl (p.st.tup _ _ ha)), .inl (.inl (p.st.tup _ _ hb)), by rw [zipD_len, ← ra.length, ← rb.length]; omega⟩
theorem iZip_imp {K : PySem.W.Frag} {ms : MA} (σ : L2.St) (H : Hp) (R : It → Hp → Prop) (q : tOfI G (iZip ms) σ H R) : iZipA K (tOfA G ms) σ H R := by
  obtain ⟨F, ls, L, o⟩ := q
  refine tOfA.frozenI L o fun F1 H1 ls1 ds vs p1 L1 r1 o1 => ?_
  dsimp only at o1
  split at o1
  · cases r1 with
    | cons ra rr =>
      cases rr with
      | cons rb rr =>
        cases rr
        cases ra with
        | lst fa ha r =>
          cases rb with
          | lst fb hb r' => exact ⟨_, _, _, _, rfl, .inl ⟨.inl (.inl ha), .inl (.inl hb), o1 F1 H1 _ .refl L1 (itd_zip fa ha r fb hb r')⟩⟩
  · cases r1 with
    | cons ra rr =>
      cases rr with
      | cons rb rr =>
        cases rr
        cases ra with
        | tup ha r =>
          cases rb with
          | tup hb r' => exact ⟨_, _, _, _, rfl, .inr ⟨.inl (.inl ha), .inl (.inl hb), o1 F1 H1 _ .refl L1 (itd_zipT ha r hb r')⟩⟩
  · exact o1.elim
theorem di_zip {ms : MA} {p pos tpos : Pos} {elts : List Expr} {kk : Nat} (hg : Gl X "zip") (hm : X.mg "zip" = none) (ha : DA X G [e, e2] ms)
    (hs : starEach [e, e2] X.env = (false, eval e X.env) :: starEach [e2] X.env := by rfl) (hpl : (backTo pos (starEach [e2] X.env)).any (·.1) = false := by rfl) :
    DI X G (.Tuple elts kk tpos) (.Call (.Name "zip" p) [e, e2] [] pos) (iZip ms) := pi_imp (pi_zipA hg hm ha hs hpl) fun σ H R q => iZip_imp σ H R q
end

/-! ### the end -/
theorem walkD {l : PySem.W.OpenLaw} {n k : Nat} {q : Program} {loose : List Str} {XP : (Str → Option Value) → Heap → Prop} {YP : World → Heap → Prop} {d : DefRec} {K : Params → PySem.W.Frag} {CX : World → CXT} {x : Str}
    (hn : l.most = some n) (hn2 : n ≤ sizeLine) (hdf : d.params.defaults = []) (hr : Room k callerA) (hY : ∀ (w : World) (h : Heap), YP w h → (K w.params).In h)
    (F : ∀ (w : World) (mg : Str → Option Value) (fa : Addr) (h : Heap), YP w h → (K w.params).In h → h.Ns mainGlobals mg → mg d.name = some (.ref fa) →
      (∀ (x : Str) (d : DefRec) (c P : Addr), (recsOf q).find? (fun e => e.name == x) = some d → PySem.W.tabIn (K w.params) x = some (c, P) → PySem.W.CodeHd h c P ∧ h.get? P = some { cls := .none, data := .fields #[] }) → LawAtS l w (K w.params) (CX w) k n x mg fa h)
    (hCX : ∀ (w : World) (H : Hp) (s : Shared) (e : Value) (s' : Shared), CX w [] H s (fun _ _ _ => False) e s' → False) :
    PySem.W.WalkO q loose XP YP l.row.toRowW d [] (fun f vs => PySem.call f vs) := by
  refine Att.attach_callB hn hdf fun w s₀ s₁ mg mb fa o pm cd doc a vs ns G Y ho hd hcd hmg hobj hints hlen hbits hg => ?_
  have KX := hY w _ Y
  obtain ⟨fd, cs, sp, hT, nT, C, hb, hsp, hF⟩ := F w mg fa _ Y KX G.T.g hmg fun x d c P h1 h2 => PySem.W.tab_of G.T KX h1 h2
  exact law_callTs KX G.T.g G.T.b G.T.builtins G.T.nolimit hg hT nT C G.T.bmain hobj hints (Nat.le_trans hlen hn2) hr hF hb (fun H hH hS => hsp H a ns hlen hbits hH hS) fun H e s' => hCX w H s₁ e s'
end DL

end DLz
section DM
set_option Elab.async false
set_option linter.all false
set_option autoImplicit false
set_option maxRecDepth 100000
set_option maxHeartbeats 2000000
namespace DL
open PySem PySem.Spec PyProof.Rows L2 LamX

/-! ### defs by name -/
def mkF (n N : Nat) (b : MS) : FD := fun ds => if ds.length = n then fin (b (startD N ds)) else .stuck
def mkIO (n N : Nat) (b : MS) : FIO := fun c ds => if ds.length = n then finIO (b (startD N (.io c :: ds))) else .stuck
theorem mkF_len {n N : Nat} {b : MS} (ds : List D) (d : Res D) (e : mkF n N b ds = d) (h : d ≠ .stuck) : ds.length = n := by
  unfold mkF at e
  by_cases z : ds.length = n
  · exact z
  · rw [if_neg z] at e; exact absurd e.symm h
theorem mkF_eq {n N : Nat} {b : MS} (ds : List D) (h : ds.length = n) : fin (b (startD N ds)) = mkF n N b ds := by
  unfold mkF; rw [if_pos h]
theorem mkIO_len {n N : Nat} {b : MS} (c : D) (ds : List D) (d : Res (D × D)) (e : mkIO n N b c ds = d) (h : d ≠ .stuck) : ds.length = n := by
  unfold mkIO at e
  by_cases z : ds.length = n
  · exact z
  · rw [if_neg z] at e; exact absurd e.symm h
theorem finIO_exc (r : Fl) (x : Str) : finIO r ≠ .exc x := by
  unfold finIO
  split
  · rename_i ls; cases ioC ls <;> exact fun z => by cases z
  · rename_i d ls
    cases ioC ls with
    | none => exact fun z => by cases z
    | some c => cases h : retD ls d <;> (rw [opt_some, Res.bind_ok]; try rw [h]) <;> exact fun z => by cases z
  · exact fun z => by cases z
theorem mkIO_exc {n N : Nat} {b : MS} (c : D) (ds : List D) (x : Str) : mkIO n N b c ds ≠ .exc x := by
  unfold mkIO
  split
  · exact finIO_exc _ x
  · exact fun z => by cases z
theorem mkIO_eq {n N : Nat} {b : MS} (c : D) (ds : List D) (h : ds.length = n) : finIO (b (startD N (.io c :: ds))) = mkIO n N b c ds := by
  unfold mkIO; rw [if_pos h]
structure Cal (P : Program) (w : World) (K : PySem.W.Frag) (mg : Str → Option Value) (base : Heap) (tb : List (Addr × Str)) (x : Str) (n k : Nat) (fF : FD) : Prop where
  ex : ∃ (f : Addr) (fd : FuncData) (ps : List Str), mg x = some (.ref f) ∧ PySem.W.keepIn K (.ref f) = true ∧ L2.Binds K fd ps [] ∧ FnOk P w K mg base (L2N.CX P w) k f fd ps (SpF mg tb n fF) ∧ ∀ ds d, fF ds = d → d ≠ .stuck → ds.length = n
structure CalIO (P : Program) (w : World) (K : PySem.W.Frag) (mg : Str → Option Value) (base : Heap) (tb : List (Addr × Str)) (x : Str) (n k : Nat) (fF : FIO) : Prop where
  ex : ∃ (f : Addr) (fd : FuncData) (ps : List Str), mg x = some (.ref f) ∧ PySem.W.keepIn K (.ref f) = true ∧ L2.Binds K fd ps [] ∧ FnOk P w K mg base (L2N.CX P w) k f fd ps (SpIO mg tb n fF) ∧ (∀ c ds d, fF c ds = d → d ≠ .stuck → ds.length = n) ∧ ∀ c ds x, fF c ds ≠ .exc x
structure CalX {ι : Type} (P : Program) (w : World) (K : PySem.W.Frag) (mg : Str → Option Value) (base : Heap) (tb : List (Addr × Str)) (x : Str) (n k : Nat) (pre : ι → Hp → Prop) (fF : ι → FD) : Prop where
  ex : ∃ (f : Addr) (fd : FuncData) (ps : List Str), mg x = some (.ref f) ∧ PySem.W.keepIn K (.ref f) = true ∧ L2.Binds K fd ps [] ∧ FnOk P w K mg base (L2N.CX P w) k f fd ps (SpX mg tb n pre fF) ∧ ∀ i ds d, fF i ds = d → d ≠ .stuck → ds.length = n
section
variable {X : Cx} {G : Gh} {tb : List (Addr × Str)} {e : Expr} {es : List Expr} {x : Str} {n k : Nat} {p pos : Pos} {ms : MA}
theorem de_cal {fF : FD} (c : Cal X.prog X.w X.K X.mg X.base tb x n k fF) (htb : G.tb = tb) (hmg : G.mg = X.mg) (tk : L2N.Takes X (fun cls d _ H => G.E cls d H)) (hr : Room k X.A) (hg : Gl X x) (ha : DA X G (e :: es) ms)
    (hdb : (x == ("__debug__" : Str)) = false := by decide) (he : starEach (e :: es) X.env = (false, eval e X.env) :: starEach es X.env := by rfl) (hpl : (backTo pos (starEach es X.env)).any (·.1) = false := by rfl) :
    DE X G (.Call (.Name x p) (e :: es) [] pos) (mCall fF ms) := by
  subst htb
  obtain ⟨f, fd, ps, h1, h2, h3, h4, h5⟩ := c.ex
  exact de_call hmg tk h5 h4 hr hg h1 h2 h3 ha hdb he hpl
theorem de_calX {ι : Type} {pre : ι → Hp → Prop} {fF : ι → FD} (c : CalX X.prog X.w X.K X.mg X.base tb x n k pre fF) (i : ι) (hpre : ∀ H, Keep G H → pre i H) (htb : G.tb = tb) (hmg : G.mg = X.mg) (tk : L2N.Takes X (fun cls d _ H => G.E cls d H)) (hr : Room k X.A) (hg : Gl X x) (ha : DA X G (e :: es) ms)
    (hdb : (x == ("__debug__" : Str)) = false := by decide) (he : starEach (e :: es) X.env = (false, eval e X.env) :: starEach es X.env := by rfl) (hpl : (backTo pos (starEach es X.env)).any (·.1) = false := by rfl) :
    DE X G (.Call (.Name x p) (e :: es) [] pos) (mCall (fF i) ms) := by
  subst htb
  obtain ⟨f, fd, ps, h1, h2, h3, h4, h5⟩ := c.ex
  exact de_callX i hpre hmg tk (h5 i) h4 hr hg h1 h2 h3 ha hdb he hpl
theorem de_calIO {fF : FIO} {y : Str} {py : Pos} {i : Nat} (c : CalIO X.prog X.w X.K X.mg X.base tb x n k fF) (htb : G.tb = tb) (tk : L2N.Takes X (fun cls d _ H => G.E cls d H)) (hr : Room k X.A) (hg : Gl X x) (hv : PE X (.Name y py) (tVar i)) (ha : DA X G es ms)
    (hdb : (x == ("__debug__" : Str)) = false := by decide) (he : starEach (.Name y py :: es) X.env = (false, eval (.Name y py) X.env) :: starEach es X.env := by rfl) (hpl : (backTo pos (starEach es X.env)).any (·.1) = false := by rfl) :
    DE X G (.Call (.Name x p) (.Name y py :: es) [] pos) (mIO fF i ms) := by
  subst htb
  obtain ⟨f, fd, ps, h1, h2, h3, h4, h5, h6⟩ := c.ex
  exact de_io tk h5 h6 h4 hr hg h1 h2 h3 hv ha hdb he hpl
/-- name = [..] on one line, the name a plain local -/
theorem ds_setLc {i : Nat} {y : Str} {py : Pos} {elt tg iter : Expr} {ifs : List Expr} {scope : Scope} {own : List (Str × Nat)} {spos : Pos} {mi : MI} {g : MG} {t : MT} {me : ME} {ks : List Nat} (hc : X.calm = true) (hN : X.N.Nodup) (hy : X.N[i]? = some y) (hyl : X.env.scope.names.lookup y = some .local)
    (hsw : swapsWith (.ListComp elt [⟨tg, iter, ifs, 0⟩] scope pos) (some (.Name y py)) spos.line X.env = pure true) (hi : DI X G tg iter mi) (ok : BlkOk X.N X.env.scope scope own) (hk : ∀ k ∈ ks, k ∈ own.map (·.2))
    (hg : ∀ (s : Shared) (H : Hp) (C : Addr) (cl : List (Str × Addr)) (fp : List Addr) (T : List (D × Addr)), DG (X.blk s H scope (compEnvC scope cl C X.env) fp) (Gb G T) tg g ks)
    (ht : ∀ (s : Shared) (H : Hp) (C : Addr) (cl : List (Str × Addr)) (fp : List Addr) (T : List (D × Addr)), PTs (X.blk s H scope (compEnvC scope cl C X.env) fp) ifs (tOfT (Gb G T) t))
    (he : ∀ (s : Shared) (H : Hp) (C : Addr) (cl : List (Str × Addr)) (fp : List Addr) (T : List (D × Addr)), DE (X.blk s H scope (compEnvC scope cl C X.env) fp) (Gb G T) elt me) (hs : ∀ x, foldedSetIterable iter X.env x = pure x := by intro _; rfl) :
    DS X G (.Assign [.Name y py] (.ListComp elt [⟨tg, iter, ifs, 0⟩] scope pos) spos) (sAsg (mComp mi g t me (own.map (·.2))) (gN i)) :=
  ps_imp (ps_setLc (g := gAny G g ks) (tt := tAny G t) (te := eAny G me) hc hN hy hyl hsw hi ok (fun s H C cl fp => ⟨fun pins s' σ H' v u Q I r ⟨T, q⟩ => (hg s H C cl fp T).run pins s' σ H' v u Q I r q⟩)
    (fun s H C cl fp => ⟨fun pins s' σ H' Q I ⟨T, q⟩ => (ht s H C cl fp T).run pins s' σ H' Q I q⟩) (fun s H C cl fp => pe_any fun T => he s H C cl fp T) hs) fun Z σ H q => by
    refine mComp_imp hk σ H _ ?_
    obtain ⟨F, ls, L, o⟩ := q
    refine tOf.firstS L o fun F1 H1 ls1 d v p L1 r o1 => ?_
    cases e : shr (d, ls1) with
    | none => rw [e] at o1; exact o1.elim
    | some z =>
      obtain ⟨d2, ls2⟩ := z
      rw [e] at o1
      obtain ⟨F2, p2, L2, r2⟩ := shr_ok L1 r e
      exact o1 F2 _ H1 p2 (L2.put r2)
/-- a name of the module that means a whole number -/
theorem de_gint {i : Int} (h : ∃ u, X.mg x = some u ∧ L2.RelV (.int i) u) (hg : Gl X x) (hb : (x == ("__debug__" : Str)) = false := by decide) : DE X G (.Name x pos) (cst (.int i)) := by
  obtain ⟨u, h1, h2⟩ := h
  exact de_glob hg h1 h2 rfl hb
end
end DL

end DM
section DN
set_option Elab.async false
set_option linter.all false
set_option autoImplicit false
set_option maxRecDepth 100000
set_option maxHeartbeats 2000000
namespace DL
open PySem PySem.Spec PyProof.Rows L2 LamX
section
variable {X : Cx} {G : Gh} {F F' : FS} {H H' H1 : Hp} {ls : LS} {σ : L2.St} {e : Expr} {es : List Expr} {p pos : Pos} {ms : MA} {x : Str} {n k : Nat} {tb : List (Addr × Str)}
/-! ### tuple(range(n)) -/
instance (a b : Int) : Decidable (RgOk a b) := inferInstanceAs (Decidable (_ ∧ _))
theorem reps_rg {a b : Int} : Reps F H (intsUp a (b - a).toNat) (rgV a b) := by
  unfold intsUp rgV
  generalize List.range (b - a).toNat = l
  induction l with
  | nil => exact .nil
  | cons i l ih => exact .cons (.int _) ih
def gRg (lst : Bool) : D → Option D
  | .int n => if RgOk 0 n then some (if lst then .own (.lst (intsUp 0 n.toNat)) else .tup (intsUp 0 n.toNat)) else none
  | _ => none
theorem de_tupRg {a : Expr} {m : ME} {p2 q2 : Pos} (hc : X.calm = true) (hg : Gl X "tuple") (hm : X.mg "tuple" = none) (hg2 : Gl X "range") (hm2 : X.mg "range" = none) (ha : DE X G a m)
    (na : starEach [a] X.env = (false, eval a X.env) :: starEach [] X.env := by rfl) (nb : starEach [Expr.Call (.Name "range" p2) [a] [] q2] X.env = (false, eval (Expr.Call (.Name "range" p2) [a] [] q2) X.env) :: starEach [] X.env := by rfl) :
    DE X G (.Call (.Name "tuple" p) [.Call (.Name "range" p2) [a] [] q2] [] pos) (un (gRg false) m) :=
  pe_imp (pe_tupRg hc hg hm (prg_1 hg2 hm2 ha na) nb) fun σ H Q q => by
    refine un_imp (r := fun v H1 Q => ∃ n, v = .int n ∧ RgOk 0 n ∧ ∀ q, H1 q = none → Q (.ref q) (upd H1 q (.tup (rgV 0 n)))) (fun F H x d v Q r e q => ?_) σ H Q q
    cases x <;> try (cases e; done)
    rename_i n
    obtain rfl := r.isInt
    have e : (if RgOk 0 n then some (D.tup (intsUp 0 n.toNat)) else none) = some d := e
    by_cases h : RgOk 0 n
    · rw [if_pos h] at e; cases e
      refine ⟨n, rfl, h, fun l nl => q _ _ (same_upd nl) (.tup upd_same ?_)⟩
      have := reps_rg (F := F) (H := upd H l (.tup (rgV 0 n))) (a := 0) (b := n)
      rwa [Int.sub_zero] at this
    · rw [if_neg h] at e; cases e
theorem de_lstRg {a : Expr} {m : ME} {p2 q2 : Pos} (hc : X.calm = true) (hg : Gl X "list") (hm : X.mg "list" = none) (hg2 : Gl X "range") (hm2 : X.mg "range" = none) (ha : DE X G a m)
    (na : starEach [a] X.env = (false, eval a X.env) :: starEach [] X.env := by rfl) (nb : starEach [Expr.Call (.Name "range" p2) [a] [] q2] X.env = (false, eval (Expr.Call (.Name "range" p2) [a] [] q2) X.env) :: starEach [] X.env := by rfl) :
    DE X G (.Call (.Name "list" p) [.Call (.Name "range" p2) [a] [] q2] [] pos) (un (gRg true) m) :=
  pe_imp (pe_listRg hc hg hm (prg_1 hg2 hm2 ha na) nb) fun σ H Q q => by
    refine un_imp (r := fun v H1 Q => ∃ n, v = .int n ∧ RgOk 0 n ∧ ∀ q, H1 q = none → Q (.ref q) (upd H1 q (.lst (rgV 0 n)))) (fun F H x d v Q r e q => ?_) σ H Q q
    cases x <;> try (cases e; done)
    rename_i n
    obtain rfl := r.isInt
    have e : (if RgOk 0 n then some (D.own (.lst (intsUp 0 n.toNat))) else none) = some d := e
    by_cases h : RgOk 0 n
    · rw [if_pos h] at e; cases e
      refine ⟨n, rfl, h, fun l nl => q _ _ (same_upd nl) ⟨⟨l, _, rfl, upd_same, ?_⟩, l, rfl, nl⟩⟩
      have := reps_rg (F := F) (H := upd H l (.lst (rgV 0 n))) (a := 0) (b := n)
      rwa [Int.sub_zero] at this
    · rw [if_neg h] at e; cases e

/-! ### a call that only looks, its answer a plain value -/
def lookD : D → Bool
  | .ins _ _ => false
  | _ => true
def plainR : D → Bool
  | .non => true
  | .bl _ => true
  | .int _ => true
  | .str _ => true
  | _ => false
def mLook (f : FD) (ms : MA) : ME := fun ls => (ms ls).bind fun q => (opt (sees q.2 q.1)).bind fun xs => if xs.all lookD then (f xs).bind fun d => if plainR d then .ok (d, q.2) else .stuck else .stuck
/-- frozen, for as long as the call lasts, what the slots hold -/
def lent (ls : LS) (σ : L2.St) (F : FS) : FS := fun b => F b ∨ ∃ (i : Nat) (d : D), ls[i]? = some (some d) ∧ Chg d ∧ σ[i]? = some (some (.ref b))
theorem lent_nw (L : LInv G F ls σ H) {b : Addr} (h : lent ls σ F b) : ¬ Nw H b := by
  rcases h with h | ⟨i, d, h1, h2, h3⟩
  · exact L.there b h
  · obtain ⟨v, g1, g2⟩ := L.slot i d h1
    rw [h3] at g1; cases g1
    obtain ⟨a, d', e, _, m, _⟩ := g2.at h2
    cases e
    exact fun n => m.nw n
theorem lent_rep (L : LInv G F ls σ H) {d x : D} {v : V} (r : RepY F H σ d v) (e : see ls d = some x) (hx : lookD x = true) : Rep (lent ls σ F) H x v := by
  have le : Le F H (lent ls σ F) H := ⟨fun b h => .inl h, .refl⟩
  cases d with
  | bor i =>
    have e : (ls[i]?).bind (fun o => o.bind cont) = some x := e
    have r : σ[i]? = some (some v) := r
    cases q : ls[i]? with
    | none => rw [q] at e; cases e
    | some o =>
      cases o with
      | none => rw [q] at e; cases e
      | some y =>
        rw [q] at e
        obtain ⟨u, h1, h2⟩ := L.slot i y q
        rw [r] at h1; cases h1
        have key : ∀ d', Chg y → RepM F H d' v → lookD d' = true → Rep (lent ls σ F) H d' v := fun d' c m hd => by
          obtain ⟨a, rfl⟩ := m.isref
          have fa : lent ls σ F a := .inr ⟨i, y, q, c, r⟩
          have m' : RepM (lent ls σ F) H d' (.ref a) := m.le le fun _ _ => rfl
          cases d' with
          | lst xs => exact m'.frozen trivial fa
          | dct xs => exact m'.frozen trivial fa
          | ins C fs => cases hd
          | _ => exact m.elim
        cases y with
        | own d => cases e; exact key _ trivial h2.1 hx
        | io d => cases e; exact key _ trivial h2.1 hx
        | bor j => cases e
        | non => cases e; exact Rep.le le h2
        | bl => cases e; exact Rep.le le h2
        | int => cases e; exact Rep.le le h2
        | str => cases e; exact Rep.le le h2
        | ref => cases e; exact Rep.le le h2
        | tup => cases e; exact Rep.le le h2
        | lst => cases e; exact Rep.le le h2
        | scr => cases e; exact Rep.le le h2
        | dct => cases e; exact Rep.le le h2
        | ins => cases (show Rep F H _ _ from h2)
  | own d => exact r.elim
  | io d => exact r.elim
  | non => cases e; exact Rep.le le r
  | bl => cases e; exact Rep.le le r
  | int => cases e; exact Rep.le le r
  | str => cases e; exact Rep.le le r
  | ref => cases e; exact Rep.le le r
  | tup => cases e; exact Rep.le le r
  | lst => cases e; exact Rep.le le r
  | scr => cases e; exact Rep.le le r
  | dct => cases e; exact Rep.le le r
  | ins => cases (show Rep F H _ _ from r)
theorem lent_reps (L : LInv G F ls σ H) : ∀ {ds xs : List D} {vs : List V}, RepYs F H σ ds vs → sees ls ds = some xs → xs.all lookD = true → Reps (lent ls σ F) H xs vs
  | [], xs, _, .nil, e, _ => by cases e; exact .nil
  | d :: ds, xs, _, .cons r rs, e, h => by
    have e : (see ls d).bind (fun x => (sees ls ds).bind fun xs => some (x :: xs)) = some xs := e
    cases e1 : see ls d with
    | none => rw [e1] at e; cases e
    | some x =>
      cases e2 : sees ls ds with
      | none => rw [e1, e2] at e; cases e
      | some ys =>
        rw [e1, e2] at e; cases e
        rw [List.all_cons, Bool.and_eq_true] at h
        exact .cons (lent_rep L r e1 h.1) (lent_reps L rs e2 h.2)
theorem mLook_imp {mg : Str → Option Value} {f : FD} (hmg : G.mg = mg) (hn : ∀ ds d, f ds = d → d ≠ .stuck → ds.length = n) (σ : L2.St) (H : Hp) (Q : VK) (q : tOf G (mLook f ms) σ H Q) : tOfA G ms σ H fun vs H1 => SpF mg G.tb n f vs H1 Q G.E := by
  obtain ⟨F, ls, L, o⟩ := q
  refine tOfA.firstE L o fun F1 H1 ls1 ds vs p1 L1 r1 o1 => ?_
  dsimp only at o1
  cases e1 : sees ls1 ds with
  | none => rw [e1] at o1; exact o1.elim
  | some xs =>
    rw [e1, opt_some, Res.bind_ok] at o1
    cases e2 : xs.all lookD with
    | false => rw [e2, if_neg (by decide)] at o1; exact o1.elim
    | true =>
      rw [e2, if_pos rfl] at o1
      have rs := lent_reps L1 r1 e1 e2
      cases e : f xs with
      | stuck => rw [e] at o1; exact o1.elim
      | ok d =>
        rw [e, Res.bind_ok] at o1
        cases e3 : plainR d with
        | false => rw [e3, if_neg (by decide)] at o1; exact o1.elim
        | true =>
          rw [e3, if_pos rfl] at o1
          refine ⟨lent ls1 σ F1, xs, hn xs _ e (fun z => nomatch z), rs, fun b h => lent_nw L1 h, L1.keep.tabs, ?_⟩
          rw [e]
          intro F2 H2 v c r
          have c2 : CallLe G.tb none' F1 H1 F1 H2 := .of (fun a o h t => c.all a o h (fun z => z) t) c.dom c.tabs L1.there
          refine o1 F1 H2 v c2.le (L1.call c2 (fun _ z => z.elim) (fun _ _ _ _ _ _ z => z) (fun _ _ z => z) L1.there) ?_
          cases d with
          | non => cases r; exact .non
          | bl => cases r; exact .bl _
          | int => cases r; exact .int _
          | str => cases r; exact .str _
          | _ => cases e3
      | exc y =>
        rw [e] at o1
        refine ⟨lent ls1 σ F1, xs, hn xs _ e (fun z => nomatch z), rs, fun b h => lent_nw L1 h, L1.keep.tabs, ?_⟩
        rw [e]
        intro H2 C h1 h2 h3 hx
        exact o1 H2 C ⟨fun a u e n t => h1 a u (L1.keep.all a u e n t) t, fun a z => L1.keep.dom a (h2 a z), h3⟩ (by rw [hmg]; exact hx)
theorem de_calB {fF : FD} (c : Cal X.prog X.w X.K X.mg X.base tb x n k fF) (htb : G.tb = tb) (hmg : G.mg = X.mg) (tk : L2N.Takes X (fun cls d _ H => G.E cls d H)) (hr : Room k X.A) (hg : Gl X x) (ha : DA X G (e :: es) ms)
    (hdb : (x == ("__debug__" : Str)) = false := by decide) (he : starEach (e :: es) X.env = (false, eval e X.env) :: starEach es X.env := by rfl) (hpl : (backTo pos (starEach es X.env)).any (·.1) = false := by rfl) :
    DE X G (.Call (.Name x p) (e :: es) [] pos) (mLook fF ms) := by
  subst htb
  obtain ⟨f, fd, ps, h1, h2, h3, h4, h5⟩ := c.ex
  exact pe_imp (pe_callS (E := fun _ => G.E) h4 hr hg h1 h2 h3 (fun σ => L2N.passAt tk σ) ha hdb he hpl) (mLook_imp hmg h5)
end
end DL

end DN
section DO
set_option Elab.async false
set_option linter.all false
set_option autoImplicit false
set_option maxRecDepth 100000
namespace DL
open PySem PySem.Spec PyProof.Rows L2 LamX
section
variable {X : Cx} {G : Gh} {e tg : Expr} {es : List Expr} {s : Stmt} {ss : List Stmt}
/-! ### text that is never come to: no reading -/
theorem de_stuck : DE X G e (fun _ => .stuck) := ⟨fun _ _ _ _ _ _ ⟨_, _, _, o⟩ => o.elim⟩
theorem da_stuck : DA X G es (fun _ => .stuck) := ⟨fun _ _ _ _ _ _ _ ⟨_, _, _, o⟩ => o.elim⟩
theorem dt_stuck : DT X G e (fun _ => .stuck) := ⟨fun _ _ _ _ _ _ ⟨_, _, _, o⟩ => o.elim⟩
theorem di_stuck : DI X G tg e (fun _ => .stuck) := ⟨fun _ _ _ _ _ _ ⟨_, _, _, o⟩ => o.elim⟩
theorem ds_stuck : DS X G s (fun _ => .stuck) := ⟨fun _ _ _ _ _ _ ⟨_, _, _, o⟩ => o.elim⟩
theorem dss_stuck : DSs X G ss (fun _ => .stuck) := ⟨fun _ _ _ _ _ _ ⟨_, _, _, o⟩ => o.elim⟩
end
end DL

end DO
section DP
set_option Elab.async false
set_option linter.all false
set_option autoImplicit false
set_option maxRecDepth 100000
namespace DL
open PySem PySem.Spec PyProof.Rows L2 LamX
section
variable {X : Cx} {G : Gh} {F F' : FS} {H H' H1 : Hp} {ls : LS} {σ : L2.St} {e : Expr} {es : List Expr} {pos p2 : Pos}
/-! ### slices -/
abbrev MO := LS → Res (Option Int × LS)
def oNo : MO := fun ls => .ok (none, ls)
def oYes (m : ME) : MO := fun ls => (val m ls).bind fun p => match p.1 with
  | .int i => .ok (some i, p.2)
  | _ => .stuck
def OutO (G : Gh) (r : Res (Option Int × LS)) (F : FS) (σ : L2.St) (H : Hp) (Q : Option Int → Hp → Prop) : Prop :=
  match r with
  | .ok (b, ls) => ∀ F' H', Le F H F' H' → LInv G F' ls σ H' → Q b H'
  | .exc x => ∀ H' C, Keep G H' → G.mg x = some (.ref C) → G.E (.ref C) none H'
  | .stuck => False
def tOfO (G : Gh) (m : MO) : TO := fun σ H Q => ∃ F ls, LInv G F ls σ H ∧ OutO G (m ls) F σ H Q
abbrev DO (X : Cx) (G : Gh) (o : Option Expr) (m : MO) : Prop := PO X o (tOfO G m)
theorem do_no : DO X G none oNo := ⟨fun pins s σ H Q I ⟨F, ls, L, o⟩ => po_none.run pins s σ H Q I (o F H .refl L)⟩
theorem oYes_imp {m : ME} (σ : L2.St) (H : Hp) (Q : Option Int → Hp → Prop) (q : tOfO G (oYes m) σ H Q) : tPart (tOf G m) σ H Q := by
  obtain ⟨F, ls, L, o⟩ := q
  refine ⟨F, ls, L, ?_⟩
  unfold oYes val at o
  revert o
  cases e : m ls with
  | exc x => exact fun o => o
  | stuck => exact fun o => o
  | ok p =>
    obtain ⟨d, ls1⟩ := p
    intro o
    dsimp only [Res.bind] at o
    cases d <;> try (first | exact o.elim | (rename_i z; cases z <;> exact o.elim))
    rename_i i
    intro F' H' v p L' r
    have r : Rep F' H' (.int i) v := r
    cases r
    exact ⟨i, rfl, o F' H' p L'⟩
theorem do_yes {m : ME} (h : DE X G e m) : DO X G (some e) (oYes m) := ⟨fun pins s σ H Q I q => (po_some h).run pins s σ H Q I (oYes_imp σ H Q q)⟩
def cutD (xs : List D) (lo hi : Option Int) : List D := (xs.drop (HT.sIx xs.length 0 lo)).take (HT.sIx xs.length xs.length hi - HT.sIx xs.length 0 lo)
theorem Reps.drop : ∀ (n : Nat) {ds : List D} {vs : List V}, Reps F H ds vs → Reps F H (ds.drop n) (vs.drop n)
  | 0, _, _, r => r
  | n + 1, _, _, .nil => .nil
  | n + 1, _, _, .cons _ rs => Reps.drop n rs
theorem Reps.take : ∀ (n : Nat) {ds : List D} {vs : List V}, Reps F H ds vs → Reps F H (ds.take n) (vs.take n)
  | 0, _, _, _ => .nil
  | n + 1, _, _, .nil => .nil
  | n + 1, _, _, .cons r rs => .cons r (Reps.take n rs)
theorem Reps.cut {ds : List D} {vs : List V} (r : Reps F H ds vs) (lo hi : Option Int) : Reps F H (cutD ds lo hi) (cutV vs lo hi) := by
  unfold cutD cutV
  rw [r.length]
  exact (r.drop _).take _
def gSl (lo hi : Option Int) : D → Option D
  | .lst xs => some (.own (.lst (cutD xs lo hi)))
  | .tup xs => some (.tup (cutD xs lo hi))
  | .str z => if z.length ≤ sizeLine then some (.str (cutS z lo hi)) else none
  | _ => none
def rSls (K : PySem.W.Frag) : V → Option Int → Option Int → Hp → VK → Prop := fun x lo hi H Q => rSlL K x lo hi H Q ∨ rSlA K x lo hi H Q ∨ rSlS x lo hi H Q
theorem sl_all : SlR X (rSls X.K) := sl_list.or (sl_tupA.or sl_str)
theorem gSl_ok {K : PySem.W.Frag} {x d : D} {v : V} {lo hi : Option Int} {Q : VK} (r : RepR F H x v) (e : gSl lo hi x = some d) (q : Pur F H d Q) : rSls K v lo hi H Q := by
  cases x <;> try (cases e; done)
  · rename_i z
    obtain rfl := r.isStr
    have e : (if z.length ≤ sizeLine then some (D.str (cutS z lo hi)) else none) = some d := e
    by_cases h : z.length ≤ sizeLine
    · rw [if_pos h] at e; cases e
      exact .inr (.inr ⟨z, rfl, h, q H _ (Same.refl _) (.str _)⟩)
    · rw [if_neg h] at e; cases e
  · rename_i xs
    cases e
    obtain ⟨a, vs, rfl, h, rs⟩ := r.isTup
    refine .inr (.inl ⟨a, vs, rfl, .inl (.inl h), fun hw => ?_, fun _ p n => q _ _ (same_upd n) (.tup upd_same ((rs.cut lo hi).le (Le.same (same_upd n))))⟩)
    have e : cutD xs lo hi = xs := by
      unfold cutD
      rw [rs.length, hw.1, hw.2, List.drop_zero, Nat.sub_zero, ← rs.length]
      exact List.take_length
    rw [e] at q
    exact q H _ (Same.refl _) (.tup h rs)
  · rename_i xs
    cases e
    obtain ⟨a, vs, rfl, h, rs⟩ := r.isLst
    exact .inl ⟨a, vs, rfl, .inl (.inl h), fun p n => q _ _ (same_upd n) ⟨⟨p, _, rfl, upd_same, (rs.cut lo hi).le (Le.same (same_upd n))⟩, p, rfl, n⟩⟩
def mSl (me : ME) (ml mh : MO) : ME := fun ls => (val me ls).bind fun p => (ml p.2).bind fun q => (mh q.2).bind fun r => (opt (see r.2 p.1)).bind fun x => (opt (gSl q.1 r.1 x)).bind fun d => .ok (d, r.2)
theorem tOfO.first {ma : MO} {f : Option Int × LS → RD} {Q : VK} {Q' : Option Int → Hp → Prop} (L : LInv G F ls σ H) (o : Out G ((ma ls).bind f) F σ H Q)
    (h : ∀ F1 H1 ls1 b, Le F H F1 H1 → LInv G F1 ls1 σ H1 → Out G (f (b, ls1)) F1 σ H1 Q → Q' b H1) : tOfO G ma σ H Q' := by
  refine ⟨F, ls, L, ?_⟩
  revert o
  cases ma ls with
  | ok x => obtain ⟨d, ls1⟩ := x; exact fun o F1 H1 p L1 => h F1 H1 ls1 d p L1 (Out.later p o)
  | exc x => exact fun o => o
  | stuck => exact fun o => o
theorem de_slice {me : ME} {ml mh : MO} {lo hi : Option Expr} (he : DE X G e me) (hl : DO X G lo ml) (hh : DO X G hi mh) : DE X G (.Subscript e (.Slice lo hi none p2) pos) (mSl me ml mh) :=
  pe_imp (pe_slice sl_all he hl hh) fun σ H Q ⟨F, ls, L, o⟩ => tOf.settled L o fun F1 H1 ls1 d v p1 L1 r1 o1 => tOfO.first L1 o1 fun F2 H2 ls2 l p2 L2 o2 => tOfO.first L2 o2 fun F3 H3 ls3 u p3 L3 o3 => by
    dsimp only at o3
    cases e1 : see ls3 d with
    | none => rw [e1] at o3; exact o3.elim
    | some x =>
      rw [e1, opt_some, Res.bind_ok] at o3
      cases e2 : gSl l u x with
      | none => rw [e2] at o3; exact o3.elim
      | some z =>
        rw [e2] at o3
        exact gSl_ok (see_rep L3 (r1.le (p2.trans p3)) e1) e2 (.of L3 o3)
end
end DL

end DP
section DQ2
set_option Elab.async false
set_option linter.all false
set_option autoImplicit false
set_option maxRecDepth 100000
namespace DL
open PySem PySem.Spec PyProof.Rows L2 LamX
section
variable {X : Cx} {G : Gh} {F F' : FS} {H H' H1 : Hp} {ls : LS} {σ : L2.St} {e o : Expr} {es : List Expr} {pos p2 : Pos} {x : Str}
theorem Reps.ofStrs : ∀ ns : List Str, Reps F H (ns.map D.str) (ns.map V.str)
  | [] => .nil
  | n :: ns => .cons (.str n) (Reps.ofStrs ns)
/-! ### text.split(sep) -/
def rSplit : V → List V → Hp → VK → Prop := fun x xs H Q => ∃ a b, x = .str a ∧ xs = [.str b] ∧ (b.length == 0) = false ∧ a.length + 2 ≤ sizeLine ∧ rNewStrs (Txt.split a b) H Q
def gSplit : D → List D → Option D
  | .str a, [.str b] => if (b.length == 0) = false ∧ a.length + 2 ≤ sizeLine then some (.own (.lst ((Txt.split a b).map .str))) else none
  | _, _ => none
theorem bd_split : BmD rSplit gSplit := by
  intro F H x xs d v vs Q r rs e p
  cases x <;> try (cases e; done)
  rename_i a
  obtain rfl := r.isStr
  match xs, rs, e with
  | [.str b], rs, e =>
    obtain ⟨w, rfl, r2⟩ := rs.one
    obtain rfl := r2.isStr
    have e : (if (b.length == 0) = false ∧ a.length + 2 ≤ sizeLine then some (D.own (.lst ((Txt.split a b).map .str))) else none) = some d := e
    by_cases h : (b.length == 0) = false ∧ a.length + 2 ≤ sizeLine
    · rw [if_pos h] at e; cases e
      exact ⟨a, b, rfl, rfl, h.1, h.2, fun q n => p _ _ (same_upd n) ⟨⟨q, _, rfl, upd_same, Reps.ofStrs _⟩, q, rfl, n⟩⟩
    · rw [if_neg h] at e; cases e
theorem de_split {mo : ME} {ms : MA} {apos cpos : Pos} (ho : DE X G o mo) (ha : DA X G (e :: es) ms)
    (hbase : attributeBase o "split" X.env (eval o X.env) = eval o X.env := by rfl)
    (hfew : ((backTo cpos (starEach (e :: es) X.env)).all (fun x => !x.1) && (backToKw cpos (keywordEach [] X.env)).all (fun x => x.1.isSome)
      && decide ((e :: es).length + ([] : List Keyword).length + (if ([] : List Keyword).isEmpty then 0 else 1) < 30)) = true := by rfl)
    (hline : (apos.endLine == cpos.line) = true := by rfl) (hs : starEach (e :: es) X.env = (false, eval e X.env) :: starEach es X.env := by rfl) (hplain : (backTo cpos (starEach es X.env)).any (·.1) = false := by rfl) :
    DE X G (.Call (.Attribute o "split" apos) (e :: es) [] cpos) (mBM "str" gSplit mo ms) :=
  pe_imp (pe_bm PySem.F.plainAttrs_str PySem.F.slot_str_split PySem.F.type_str_split mt_split ho ha hbase hfew hline hs hplain) (mBM_imp bd_split)
/-! ### str(n), int(text), a text in a text -/
def gStr : List D → Option D
  | [.int i] => if i.natAbs.log2 < 1920 then some (.str (toString i)) else none
  | _ => none
theorem cd_str : CbD (fun xs H Q => ∃ i, xs = [.int i] ∧ i.natAbs.log2 < 1920 ∧ Q (.str (toString i)) H) gStr := by
  intro F H xs d vs Q rs e p
  match xs, rs, e with
  | [.int i], rs, e =>
    obtain ⟨w, rfl, r⟩ := rs.one
    obtain rfl := r.isInt
    have e : (if i.natAbs.log2 < 1920 then some (D.str (toString i)) else none) = some d := e
    by_cases h : i.natAbs.log2 < 1920
    · rw [if_pos h] at e; cases e
      exact ⟨i, rfl, h, p H _ (Same.refl _) (.str _)⟩
    · rw [if_neg h] at e; cases e
def gIntS : List D → Option D
  | [.str a] => if a.length ≤ 640 then (PySem.intText? a).map .int else none
  | _ => none
theorem cd_intS : CbD (fun xs H Q => ∃ a n, xs = [.str a] ∧ PySem.intText? a = some n ∧ a.length ≤ 640 ∧ Q (.int n) H) gIntS := by
  intro F H xs d vs Q rs e p
  match xs, rs, e with
  | [.str a], rs, e =>
    obtain ⟨w, rfl, r⟩ := rs.one
    obtain rfl := r.isStr
    have e : (if a.length ≤ 640 then (PySem.intText? a).map D.int else none) = some d := e
    by_cases h : a.length ≤ 640
    · rw [if_pos h] at e
      cases q : PySem.intText? a with
      | none => rw [q] at e; cases e
      | some n => rw [q] at e; cases e; exact ⟨a, n, rfl, q, h, p H _ (Same.refl _) (.int _)⟩
    · rw [if_neg h] at e; cases e
def gInS : D → D → Option D
  | .str i, .str j => some (.bl (!(Builtin.Str.occurrences j i 0 j.length 1).isEmpty))
  | _, _ => none
theorem od_inS : OpD (fun x y H Q => ∃ i j, x = .str i ∧ y = .str j ∧ Q (.bl (!(Builtin.Str.occurrences j i 0 j.length 1).isEmpty)) H) gInS := by
  intro F H x y d v u Q r1 r2 e p
  cases x <;> try (cases e; done)
  cases y <;> try (cases e; done)
  cases e
  obtain rfl := r1.isStr
  obtain rfl := r2.isStr
  exact ⟨_, _, rfl, rfl, p H _ (Same.refl _) (.bl _)⟩
/-- a name of the module that means a text -/
theorem de_gstr {z : Str} (h : ∃ u, X.mg x = some u ∧ L2.RelV (.str z) u) (hg : Gl X x) (hb : (x == ("__debug__" : Str)) = false := by decide) : DE X G (.Name x pos) (cst (.str z)) := by
  obtain ⟨u, h1, h2⟩ := h
  exact de_glob hg h1 h2 rfl hb
end
end DL

end DQ2
section DQ3
set_option Elab.async false
set_option linter.all false
set_option autoImplicit false
set_option maxRecDepth 100000
namespace DL
open PySem PySem.Spec PyProof.Rows L2 LamX
section
variable {X : Cx} {G : Gh} {F F' : FS} {H H' H1 : Hp} {ls : LS} {σ : L2.St} {e o : Expr} {es : List Expr} {pos p2 : Pos} {x : Str} {K : PySem.W.Frag}
/-! ### text.index(text), min(list of ints) -/
def rIdxS : V → List V → Hp → VK → Prop := fun x xs H Q => ∃ a b i rest, x = .str a ∧ xs = [.str b] ∧ Builtin.Str.occurrences a b 0 a.length 1 = i :: rest ∧ Q (.int (i : Nat)) H
def gIdxS : D → List D → Option D
  | .str a, [.str b] => match Builtin.Str.occurrences a b 0 a.length 1 with
    | i :: _ => some (.int (i : Nat))
    | [] => none
  | _, _ => none
theorem bd_idxS : BmD rIdxS gIdxS := by
  intro F H x xs d v vs Q r rs e p
  cases x <;> try (cases e; done)
  rename_i a
  obtain rfl := r.isStr
  match xs, rs, e with
  | [.str b], rs, e =>
    obtain ⟨w, rfl, r2⟩ := rs.one
    obtain rfl := r2.isStr
    have e : (match Builtin.Str.occurrences a b 0 a.length 1 with
      | i :: _ => some (D.int (i : Nat))
      | [] => none) = some d := e
    cases q : Builtin.Str.occurrences a b 0 a.length 1 with
    | nil => rw [q] at e; cases e
    | cons i rest => rw [q] at e; cases e; exact ⟨a, b, i, rest, rfl, rfl, q, p H _ (Same.refl _) (.int _)⟩
theorem de_index {mo : ME} {ms : MA} {apos cpos : Pos} (ho : DE X G o mo) (ha : DA X G (e :: es) ms)
    (hbase : attributeBase o "index" X.env (eval o X.env) = eval o X.env := by rfl)
    (hfew : ((backTo cpos (starEach (e :: es) X.env)).all (fun x => !x.1) && (backToKw cpos (keywordEach [] X.env)).all (fun x => x.1.isSome)
      && decide ((e :: es).length + ([] : List Keyword).length + (if ([] : List Keyword).isEmpty then 0 else 1) < 30)) = true := by rfl)
    (hline : (apos.endLine == cpos.line) = true := by rfl) (hs : starEach (e :: es) X.env = (false, eval e X.env) :: starEach es X.env := by rfl) (hplain : (backTo cpos (starEach es X.env)).any (·.1) = false := by rfl) :
    DE X G (.Call (.Attribute o "index" apos) (e :: es) [] cpos) (mBM "str" gIdxS mo ms) :=
  pe_imp (pe_bm PySem.F.plainAttrs_str PySem.F.slot_str_index PySem.F.type_str_index L2.mt_sindex ho ha hbase hfew hline hs hplain) (mBM_imp bd_idxS)
def minD : List Int → Int
  | [] => 0
  | [x] => x
  | x :: y :: l => if x ≤ minD (y :: l) then x else minD (y :: l)
theorem minD_le : ∀ (l : List Int), l ≠ [] → minD l ∈ l ∧ ∀ y ∈ l, minD l ≤ y
  | [], h => absurd rfl h
  | [x], _ => ⟨List.mem_cons_self, fun y hy => Int.le_of_eq (List.mem_singleton.mp hy).symm⟩
  | x :: y :: l, _ => by
    obtain ⟨h1, h2⟩ := minD_le (y :: l) (by simp)
    unfold minD
    by_cases h : x ≤ minD (y :: l)
    · rw [if_pos h]
      refine ⟨List.mem_cons_self, fun z hz => ?_⟩
      rcases List.mem_cons.mp hz with e | hz
      · rw [e]; exact Int.le_refl _
      · exact Int.le_trans h (h2 z hz)
    · rw [if_neg h]
      refine ⟨List.mem_cons_of_mem _ h1, fun z hz => ?_⟩
      rcases List.mem_cons.mp hz with e | hz
      · rw [e]; omega
      · exact h2 z hz
def gMinL : List D → Option D
  | [.lst ds] => (intsD ds).bind fun ns => if ns = [] then none else some (.int (minD ns))
  | _ => none
theorem cd_min : CbD (rMin K) gMinL := by
  intro F H xs d vs Q rs e p
  match xs, rs, e with
  | [.lst ds], rs, e =>
    obtain ⟨w, rfl, r⟩ := rs.one
    obtain ⟨a, ws, rfl, h, r2⟩ := r.isLst
    have e : (intsD ds).bind (fun ns => if ns = [] then none else some (D.int (minD ns))) = some d := e
    cases q : intsD ds with
    | none => rw [q] at e; cases e
    | some ns =>
      rw [q, Option.bind_some] at e
      by_cases hn : ns = []
      · rw [if_pos hn] at e; cases e
      · rw [if_neg hn] at e; cases e
        obtain ⟨m1, m2⟩ := minD_le ns hn
        refine ⟨a, ns, rfl, .inl (.inl (by rw [← ints_vals r2 q]; exact h)), List.length_pos_iff.mpr hn, fun m hm hall => ?_⟩
        have : m = minD ns := Int.le_antisymm (hall _ m1) (m2 m hm)
        rw [this]
        exact p H _ (Same.refl _) (.int _)
end
end DL

end DQ3
section WP
set_option Elab.async false
set_option linter.all false
set_option autoImplicit false
set_option maxRecDepth 100000
/-! WP: rules for a reading's loops and comprehensions, by an invariant: no text is said again. -/
namespace DL
open PySem PySem.Spec PyProof.Rows L2
/-- how a turn ends: on, out of the loop, out of the def -/
def Turn (r : Fl) (I B : LS → Prop) (R : Fl → Prop) : Prop := match r with
  | .nx l => I l
  | .ct l => I l
  | .bk l => B l
  | .rt d l => R (.rt d l)
  | .exc x => R (.exc x)
  | .stuck => R .stuck
theorem Turn.nx {l : LS} {I B : LS → Prop} {R : Fl → Prop} (h : I l) : Turn (.nx l) I B R := h
theorem seq_nx' {l : LS} {k : LS → Fl} : (Fl.nx l).seq k = k l := rfl
theorem seq_rt' {d : D} {l : LS} {k : LS → Fl} : (Fl.rt d l).seq k = .rt d l := rfl
theorem seq_exc' {x : Str} {k : LS → Fl} : (Fl.exc x).seq k = .exc x := rfl
theorem seq_id (r : Fl) : r.seq .nx = r := by cases r <;> rfl
theorem seq_seq (r : Fl) (f g : LS → Fl) : (r.seq f).seq g = r.seq fun l => (f l).seq g := by cases r <;> rfl
section
variable {g : MG} {b : MS} {c : MT} {ls : LS} {k : LS → Fl} {Q : Fl → Prop}
theorem Turn.imp {r : Fl} {I B I' B' : LS → Prop} {R R' : Fl → Prop} (h : Turn r I B R) (hI : ∀ l, I l → I' l) (hB : ∀ l, B l → B' l) (hR : ∀ r, R r → R' r) : Turn r I' B' R' := by
  revert h
  unfold Turn
  cases r with
  | nx l => exact hI l
  | ct l => exact hI l
  | bk l => exact hB l
  | _ => exact hR _
theorem w_forL (I : List D → LS → Prop) : ∀ (ds : List D) (ls : LS), I ds ls →
    (∀ d rest l, I (d :: rest) l → ∃ l1, g d l = some l1 ∧ Turn (b l1) (I rest) (fun l => Q (k l)) Q) → (∀ l, I [] l → Q (k l)) → Q ((forL g b ds ls).seq k)
  | [], ls, h, _, fin => fin ls h
  | d :: ds, ls, h, step, fin => by
    obtain ⟨l1, e, t⟩ := step d ds ls h
    rw [forL, e]
    dsimp only
    revert t
    cases b l1 with
    | nx l => exact fun t => w_forL I ds l t step fin
    | ct l => exact fun t => w_forL I ds l t step fin
    | bk l => exact fun t => t
    | rt d l => exact fun t => t
    | exc x => exact fun t => t
    | stuck => exact fun t => t
/-- over typed items: I says what holds when so many are done -/
theorem w_for {α : Type} (f : α → D) (I : Nat → LS → Prop) (xs : List α) (h0 : I 0 ls)
    (step : ∀ i (h : i < xs.length) l, I i l → ∀ (J B : LS → Prop) (R : Fl → Prop), (∀ l, I (i + 1) l → J l) → (∀ l, Q (k l) → B l) → (∀ r, Q r → R r) → ∃ l1, g (f xs[i]) l = some l1 ∧ Turn (b l1) J B R) (fin : ∀ l, I xs.length l → Q (k l)) : Q ((forL g b (xs.map f) ls).seq k) := by
  refine w_forL (fun rest l => ∃ i, rest = (xs.drop i).map f ∧ i ≤ xs.length ∧ I i l) _ _ ⟨0, rfl, Nat.zero_le _, h0⟩ ?_ ?_
  · rintro d rest l ⟨i, e, hi, h⟩
    have hlt : i < xs.length := by
      rcases Nat.lt_or_ge i xs.length with q | q
      · exact q
      · rw [List.drop_eq_nil_of_le q] at e; cases e
    rw [List.drop_eq_getElem_cons hlt, List.map_cons] at e
    injection e with e1 e2
    subst e1
    obtain ⟨l1, q, t⟩ := step i hlt l h _ _ _ (fun _ h => h) (fun _ h => h) (fun _ h => h)
    refine ⟨l1, q, ?_⟩
    revert t
    unfold Turn
    cases b l1 with
    | nx l => exact fun t => ⟨i + 1, e2, hlt, t⟩
    | ct l => exact fun t => ⟨i + 1, e2, hlt, t⟩
    | _ => exact fun t => t
  · rintro l ⟨i, e, hi, h⟩
    have : xs.length ≤ i := by
      rcases Nat.lt_or_ge i xs.length with q | q
      · rw [List.drop_eq_getElem_cons q] at e; cases e
      · exact q
    have e2 : i = xs.length := by omega
    rw [e2] at h
    exact fin l h
/-- the same, nothing behind it -/
theorem w_for0 {α : Type} (f : α → D) (I : Nat → LS → Prop) (xs : List α) (h0 : I 0 ls)
    (step : ∀ i (h : i < xs.length) l, I i l → ∀ (J B : LS → Prop) (R : Fl → Prop), (∀ l, I (i + 1) l → J l) → (∀ l, Q (.nx l) → B l) → (∀ r, Q r → R r) → ∃ l1, g (f xs[i]) l = some l1 ∧ Turn (b l1) J B R) (fin : ∀ l, I xs.length l → Q (.nx l)) : Q (forL g b (xs.map f) ls) := by
  have h := w_for (k := .nx) (Q := Q) f I xs h0 step fin
  rwa [seq_id] at h
theorem w_forD (I : Nat → LS → Prop) (xs : List D) (h0 : I 0 ls)
    (step : ∀ i (h : i < xs.length) l, I i l → ∀ (J B : LS → Prop) (R : Fl → Prop), (∀ l, I (i + 1) l → J l) → (∀ l, Q (k l) → B l) → (∀ r, Q r → R r) → ∃ l1, g xs[i] l = some l1 ∧ Turn (b l1) J B R) (fin : ∀ l, I xs.length l → Q (k l)) : Q ((forL g b xs ls).seq k) := by
  have h := w_for (g := g) (b := b) (ls := ls) (k := k) (Q := Q) id I xs h0 step fin
  rwa [List.map_id] at h
theorem w_forD0 (I : Nat → LS → Prop) (xs : List D) (h0 : I 0 ls)
    (step : ∀ i (h : i < xs.length) l, I i l → ∀ (J B : LS → Prop) (R : Fl → Prop), (∀ l, I (i + 1) l → J l) → (∀ l, Q (.nx l) → B l) → (∀ r, Q r → R r) → ∃ l1, g xs[i] l = some l1 ∧ Turn (b l1) J B R) (fin : ∀ l, I xs.length l → Q (.nx l)) : Q (forL g b xs ls) := by
  have h := w_forD (k := .nx) (Q := Q) I xs h0 step fin
  rwa [seq_id] at h
/-- over a range -/
theorem intsUp_map (lo : Int) (n : Nat) : intsUp lo n = (List.range n).map fun (i : Nat) => D.int (lo + (i : Int)) := rfl
theorem w_range {lo : Int} {n : Nat} (I : Nat → LS → Prop) (h0 : I 0 ls)
    (step : ∀ i, i < n → ∀ l, I i l → ∀ (J B : LS → Prop) (R : Fl → Prop), (∀ l, I (i + 1) l → J l) → (∀ l, Q (k l) → B l) → (∀ r, Q r → R r) → ∃ l1, g (.int (lo + (i : Nat))) l = some l1 ∧ Turn (b l1) J B R) (fin : ∀ l, I n l → Q (k l)) : Q ((forL g b (intsUp lo n) ls).seq k) := by
  rw [intsUp_map]
  refine w_for _ I (List.range n) h0 (fun i h l hI J B R hJ hB hR => ?_) (by rw [List.length_range]; exact fin)
  rw [List.getElem_range]
  exact step i (by rwa [List.length_range] at h) l hI J B R hJ hB hR
theorem w_range0 {lo : Int} {n : Nat} (I : Nat → LS → Prop) (h0 : I 0 ls)
    (step : ∀ i, i < n → ∀ l, I i l → ∀ (J B : LS → Prop) (R : Fl → Prop), (∀ l, I (i + 1) l → J l) → (∀ l, Q (.nx l) → B l) → (∀ r, Q r → R r) → ∃ l1, g (.int (lo + (i : Nat))) l = some l1 ∧ Turn (b l1) J B R) (fin : ∀ l, I n l → Q (.nx l)) : Q (forL g b (intsUp lo n) ls) := by
  have h := w_range (k := .nx) (Q := Q) I h0 step fin
  rwa [seq_id] at h
/-- loops that end by themselves, of a term that has been named: `generalize hF : forL _ _ _ _ = r` -/
theorem for_eqn {α : Type} {f : α → D} {xs : List α} {r : Fl} (hF : forL g b (xs.map f) ls = r) (I : Nat → LS → Prop) (h0 : I 0 ls)
    (step : ∀ i (h : i < xs.length) l, I i l → ∀ J : LS → Prop, (∀ l, I (i + 1) l → J l) → ∃ l1, g (f xs[i]) l = some l1 ∧ Turn (b l1) J (fun _ => False) (fun _ => False)) : ∃ l, I xs.length l ∧ r = .nx l := by
  subst hF
  exact w_for0 (Q := fun r => ∃ l, I xs.length l ∧ r = .nx l) f I xs h0 (fun i h l hI J B R hJ _ _ => by
    obtain ⟨l1, e, t⟩ := step i h l hI J hJ
    exact ⟨l1, e, t.imp (fun _ h => h) (fun _ h => h.elim) (fun _ h => h.elim)⟩) fun l h => ⟨l, h, rfl⟩
theorem for_eqnD {xs : List D} {r : Fl} (hF : forL g b xs ls = r) (I : Nat → LS → Prop) (h0 : I 0 ls)
    (step : ∀ i (h : i < xs.length) l, I i l → ∀ J : LS → Prop, (∀ l, I (i + 1) l → J l) → ∃ l1, g xs[i] l = some l1 ∧ Turn (b l1) J (fun _ => False) (fun _ => False)) : ∃ l, I xs.length l ∧ r = .nx l := by
  rw [← List.map_id xs] at hF
  have := for_eqn hF I h0 step
  exact this
theorem range_eqn {lo : Int} {n : Nat} {r : Fl} (hF : forL g b (intsUp lo n) ls = r) (I : Nat → LS → Prop) (h0 : I 0 ls)
    (step : ∀ i, i < n → ∀ l, I i l → ∀ J : LS → Prop, (∀ l, I (i + 1) l → J l) → ∃ l1, g (.int (lo + (i : Nat))) l = some l1 ∧ Turn (b l1) J (fun _ => False) (fun _ => False)) : ∃ l, I n l ∧ r = .nx l := by
  subst hF
  exact w_range0 (Q := fun r => ∃ l, I n l ∧ r = .nx l) I h0 (fun i h l hI J B R hJ _ _ => by
    obtain ⟨l1, e, t⟩ := step i h l hI J hJ
    exact ⟨l1, e, t.imp (fun _ h => h) (fun _ h => h.elim) (fun _ h => h.elim)⟩) fun l h => ⟨l, h, rfl⟩
/-- while: I n says what holds where at most n turns are left -/
theorem w_while (I : Nat → LS → Prop) : ∀ (n : Nat) (ls : LS), I n ls →
    (∀ n l, I n l → (∃ l1, c l = .ok (false, l1) ∧ Q (k l1)) ∨ ∀ (J B : LS → Prop) (R : Fl → Prop), (∀ m l, m < n → I m l → J l) → (∀ l, Q (k l) → B l) → (∀ r, Q r → R r) → ∃ l1, c l = .ok (true, l1) ∧ Turn (b l1) J B R) → Q ((sWhl c b ls).seq k) := fun n => by
  induction n using Nat.strongRecOn with
  | _ n ih =>
    intro ls h step
    rw [sWhl_eq]
    rcases step n ls h with ⟨l1, e, q⟩ | st
    · rw [e]; exact q
    · obtain ⟨l1, e, t⟩ := st (fun l => ∃ m, m < n ∧ I m l) (fun l => Q (k l)) Q (fun m l h1 h2 => ⟨m, h1, h2⟩) (fun _ h => h) (fun _ h => h)
      rw [e]
      dsimp only
      revert t
      cases b l1 with
      | nx l => rintro ⟨m, hm, t⟩; exact ih m hm l t step
      | ct l => rintro ⟨m, hm, t⟩; exact ih m hm l t step
      | bk l => exact fun t => t
      | rt d l => exact fun t => t
      | exc x => exact fun t => t
      | stuck => exact fun t => t
theorem w_while0 (I : Nat → LS → Prop) (n : Nat) (ls : LS) (h : I n ls)
    (step : ∀ n l, I n l → (∃ l1, c l = .ok (false, l1) ∧ Q (.nx l1)) ∨ ∀ (J B : LS → Prop) (R : Fl → Prop), (∀ m l, m < n → I m l → J l) → (∀ l, Q (.nx l) → B l) → (∀ r, Q r → R r) → ∃ l1, c l = .ok (true, l1) ∧ Turn (b l1) J B R) : Q (sWhl c b ls) := by
  have h := w_while (k := .nx) (Q := Q) I n ls h step
  rwa [seq_id] at h
end
/-! ### comprehensions -/
def compB (g : MG) (t : MT) (e : ME) (vs : List Nat) (ds : List D) (ls : LS) : RD :=
  (opt (compL g t e vs ds (wipeL ls vs))).bind fun r => if r.1.length ≤ sizeLine then .ok (.own (.lst r.1), backL ls r.2 vs) else .stuck
theorem mComp_eq (mi : MI) (g : MG) (t : MT) (e : ME) (vs : List Nat) (ls : LS) : mComp mi g t e vs ls = (mi ls).bind fun q => compB g t e vs q.1 q.2 := rfl
theorem sFor_eq (mi : MI) (g : MG) (b : MS) (ls : LS) : sFor mi g b ls = (mi ls).fl fun q => forL g b q.1 q.2 := rfl
section
variable {g : MG} {t : MT} {e : ME} {vs : List Nat} {ls : LS}
theorem compL_inv (I : List D → List D → LS → Prop) : ∀ (ds done : List D) (l : LS), I ds done l →
    (∀ d rest done l, I (d :: rest) done l → ∃ l1 p l2, g d l = some l1 ∧ t l1 = .ok (p, l2) ∧ ((p = true ∧ ∃ x l3, frzv e l2 = .ok (x, l3) ∧ I rest (done ++ [x]) (wipeL l3 vs)) ∨ (p = false ∧ I rest done (wipeL l2 vs)))) →
    ∃ more l', compL g t e vs ds l = some (more, l') ∧ I [] (done ++ more) l'
  | [], done, l, h, _ => ⟨[], l, rfl, by rw [List.append_nil]; exact h⟩
  | d :: ds, done, l, h, step => by
    obtain ⟨l1, p, l2, e1, e2, q⟩ := step d ds done l h
    unfold compL
    rw [e1, Option.bind_some, e2]
    simp only [Res.get?, Option.bind_some]
    rcases q with ⟨rfl, x, l3, e3, h3⟩ | ⟨rfl, h3⟩
    · obtain ⟨more, l', e4, h4⟩ := compL_inv I ds (done ++ [x]) _ h3 step
      refine ⟨x :: more, l', ?_, by rw [List.append_assoc] at h4; exact h4⟩
      simp only [if_true, e3, Option.bind_some, e4]
    · obtain ⟨more, l', e4, h4⟩ := compL_inv I ds done _ h3 step
      refine ⟨more, l', ?_, h4⟩
      simp only [Bool.false_eq_true, if_false, e4]
/-- a comprehension whose turns change what stands (draws): I says what holds (left, done, slots) -/
theorem w_comp {Q : RD → Prop} (I : List D → List D → LS → Prop) (ds : List D) (h0 : I ds [] (wipeL ls vs))
    (step : ∀ d rest done l, I (d :: rest) done l → ∃ l1 p l2, g d l = some l1 ∧ t l1 = .ok (p, l2) ∧ ((p = true ∧ ∃ x l3, frzv e l2 = .ok (x, l3) ∧ I rest (done ++ [x]) (wipeL l3 vs)) ∨ (p = false ∧ I rest done (wipeL l2 vs))))
    (fin : ∀ done l, I [] done l → done.length ≤ sizeLine ∧ Q (.ok (.own (.lst done), backL ls l vs))) : Q (compB g t e vs ds ls) := by
  obtain ⟨more, l', e1, h1⟩ := compL_inv I ds [] _ h0 step
  rw [List.nil_append] at h1
  obtain ⟨h2, h3⟩ := fin _ _ h1
  unfold compB
  rw [e1, opt_some, Res.bind_ok]
  dsimp only
  rw [if_pos h2]
  exact h3
/-- the same, of a term that has been named: `generalize hC : compB _ _ _ _ _ _ = r` -/
theorem comp_eqn {r : RD} {ds : List D} (hC : compB g t e vs ds ls = r) (I : List D → List D → LS → Prop) (h0 : I ds [] (wipeL ls vs))
    (step : ∀ d rest done l, I (d :: rest) done l → ∃ l1 p l2, g d l = some l1 ∧ t l1 = .ok (p, l2) ∧ ((p = true ∧ ∃ x l3, frzv e l2 = .ok (x, l3) ∧ I rest (done ++ [x]) (wipeL l3 vs)) ∨ (p = false ∧ I rest done (wipeL l2 vs))))
    (few : ∀ done l, I [] done l → done.length ≤ sizeLine) : ∃ done l, I [] done l ∧ r = .ok (.own (.lst done), backL ls l vs) := by
  subst hC
  exact w_comp (Q := fun r => ∃ done l, I [] done l ∧ r = .ok (.own (.lst done), backL ls l vs)) I ds h0 step fun done l h => ⟨few done l h, done, l, h, rfl⟩
/-- a comprehension that only looks -/
theorem compB_pure {α : Type} (f : α → D) (p : α → Bool) (h : α → D) (xs : List α)
    (step : ∀ x ∈ xs, ∃ l1, g (f x) (wipeL ls vs) = some l1 ∧ t l1 = .ok (p x, l1) ∧ (p x = true → frzv e l1 = .ok (h x, l1)) ∧ wipeL l1 vs = wipeL ls vs) (hl : xs.length ≤ sizeLine) :
    compB g t e vs (xs.map f) ls = .ok (.own (.lst ((xs.filter p).map h)), backL ls (wipeL ls vs) vs) := by
  have q : ∀ xs : List α, (∀ x ∈ xs, ∃ l1, g (f x) (wipeL ls vs) = some l1 ∧ t l1 = .ok (p x, l1) ∧ (p x = true → frzv e l1 = .ok (h x, l1)) ∧ wipeL l1 vs = wipeL ls vs) → compL g t e vs (xs.map f) (wipeL ls vs) = some ((xs.filter p).map h, wipeL ls vs) := fun xs => by
    induction xs with
    | nil => exact fun _ => rfl
    | cons x xs ih =>
      intro st
      obtain ⟨l1, e1, e2, e3, e4⟩ := st x List.mem_cons_self
      have ih := ih fun y hy => st y (List.mem_cons_of_mem _ hy)
      rw [List.map_cons]
      unfold compL
      rw [e1, Option.bind_some, e2]
      simp only [Res.get?, Option.bind_some]
      cases hp : p x with
      | true =>
        rw [if_pos rfl, e3 hp]
        simp only [Option.bind_some, e4, ih, List.filter_cons, hp, if_true, List.map_cons]
      | false =>
        rw [if_neg Bool.false_ne_true]
        simp only [e4, ih, List.filter_cons, hp, Bool.false_eq_true, if_false]
  unfold compB
  rw [q xs step, opt_some, Res.bind_ok, if_pos]
  rw [List.length_map]
  exact Nat.le_trans (List.length_filter_le _ _) hl
theorem compB_pureD (p : D → Bool) (h : D → D) (xs : List D)
    (step : ∀ x ∈ xs, ∃ l1, g x (wipeL ls vs) = some l1 ∧ t l1 = .ok (p x, l1) ∧ (p x = true → frzv e l1 = .ok (h x, l1)) ∧ wipeL l1 vs = wipeL ls vs) (hl : xs.length ≤ sizeLine) :
    compB g t e vs xs ls = .ok (.own (.lst ((xs.filter p).map h)), backL ls (wipeL ls vs) vs) := by
  have q := compB_pure (g := g) (t := t) (e := e) (vs := vs) (ls := ls) id p h xs step hl
  rwa [List.map_id] at q
/-- .. with no test -/
theorem compB_map {α : Type} (f h : α → D) (xs : List α)
    (step : ∀ x ∈ xs, ∃ l1, g (f x) (wipeL ls vs) = some l1 ∧ frzv e l1 = .ok (h x, l1) ∧ wipeL l1 vs = wipeL ls vs) (hl : xs.length ≤ sizeLine) :
    compB g tAlways e vs (xs.map f) ls = .ok (.own (.lst (xs.map h)), backL ls (wipeL ls vs) vs) := by
  have q := compB_pure (g := g) (t := tAlways) (e := e) (vs := vs) (ls := ls) f (fun _ => true) h xs (fun x hx => by
    obtain ⟨l1, e1, e2, e3⟩ := step x hx
    exact ⟨l1, e1, rfl, fun _ => e2, e3⟩) hl
  rwa [List.filter_eq_self.mpr fun _ _ => rfl] at q
theorem compB_mapD (h : D → D) (xs : List D)
    (step : ∀ x ∈ xs, ∃ l1, g x (wipeL ls vs) = some l1 ∧ frzv e l1 = .ok (h x, l1) ∧ wipeL l1 vs = wipeL ls vs) (hl : xs.length ≤ sizeLine) :
    compB g tAlways e vs xs ls = .ok (.own (.lst (xs.map h)), backL ls (wipeL ls vs) vs) := by
  have q := compB_map (g := g) (e := e) (vs := vs) (ls := ls) id h xs step hl
  rwa [List.map_id] at q
end
/-! ### data that are frozen, whatever they are -/
def Fz : D → Prop
  | .own _ => False
  | .io _ => False
  | .bor _ => False
  | .ins _ _ => False
  | _ => True
def varO (o : Option (Option D)) (i : Nat) (ls : LS) : RD := match o with
  | some (some (.own _)) => .ok (.bor i, ls)
  | some (some (.io _)) => .ok (.bor i, ls)
  | some (some (.bor _)) => .stuck
  | some (some d) => .ok (d, ls)
  | _ => .stuck
theorem var_eq (i : Nat) (ls : LS) : var i ls = varO ls[i]? i ls := by
  unfold var varO
  exact (rfl)
section
variable {d : D} (h : Fz d)
include h
theorem varO_f (i : Nat) (ls : LS) : varO (some (some d)) i ls = .ok (d, ls) := by cases d <;> first | rfl | exact h.elim
theorem stl_f : stl d = some d := by cases d <;> first | rfl | exact h.elim
theorem see_f (ls : LS) : see ls d = some d := by cases d <;> first | rfl | exact h.elim
theorem frz_f (ls : LS) : frz ls d = some (d, ls) := by cases d <;> first | rfl | exact h.elim
theorem shr_f (ls : LS) : shr (d, ls) = some (d, ls) := by cases d <;> first | rfl | exact h.elim
theorem cont_f : cont d = some d := by cases d <;> first | rfl | exact h.elim
theorem retD_f (ls : LS) : retD ls d = some d := by cases d <;> first | rfl | exact h.elim
theorem keepD_f : keepD (some (some d)) = some d := by cases d <;> first | rfl | exact h.elim
end
theorem atI_map {α β : Type} (f : α → β) (xs : List α) (k : Int) : L2.atI (xs.map f) k = (L2.atI xs k).map f := by
  unfold L2.atI
  rw [List.length_map]
  cases L2.ixN xs.length k with
  | none => rfl
  | some j => simp
theorem atI_nat {α : Type} {xs : List α} {i : Nat} (h : i < xs.length) : L2.atI xs (i : Int) = some xs[i] := by
  unfold L2.atI L2.ixN
  rw [if_pos (by omega), if_pos (by omega)]
  simp [h]
theorem ixN_nat {n i : Nat} (h : i < n) : L2.ixN n (i : Int) = some i := by
  unfold L2.ixN
  rw [if_pos (by omega), if_pos (by omega)]
  simp
theorem ixN_0 {n : Nat} (h : 0 < n) : L2.ixN n 0 = some 0 := ixN_nat (i := 0) h
end DL

end WP
section DC
set_option Elab.async false
set_option linter.all false
set_option autoImplicit false
set_option maxRecDepth 100000
namespace DC
open PySem PySem.Spec DL
noncomputable def b_is_within : MS := sRet (vAnd (un (gIsi "int") (var 0)) (vAnd (vNot (un (gIsi "bool") (var 0))) (chain gLe gLe (var 1) (var 0) (var 2))))
noncomputable def f_is_within : FD := mkF 3 3 b_is_within
noncomputable def b_is_wide : MS := sRet (vAnd (un (gIsi "tuple") (var 0)) (chain gLe gLe (var 1) (cb gLen (aCons (var 0) (aNil))) (var 2)))
noncomputable def f_is_wide : FD := mkF 3 3 b_is_wide
noncomputable def b_is_fit : MS := sq (sIf (mOr (mNot (tst (mCall f_is_wide (aCons (var 0) (aCons (cst (.int 3)) (aCons (cst (.int 3)) (aNil))))))) (mOr (mNot (tst (mCall f_is_within (aCons (DL.bin gIx (var 0) (cst (.int 0))) (aCons (cst (.int 2)) (aCons (cst (.int 4)) (aNil))))))) (mNot (tst (mCall f_is_wide (aCons (DL.bin gIx (var 0) (cst (.int 1))) (aCons (cst (.int 1)) (aCons (cst (.int 4)) (aNil))))))))) (sRet (cst (.bl false))) (nop))
  (sq (sAsg (cb gLen (aCons (DL.bin gIx (var 0) (cst (.int 1))) (aNil))) (gN 1))
  (sq (sFor (iSeq (DL.bin gIx (var 0) (cst (.int 1)))) (gN 2) (sIf (mOr (mNot (tst (mCall f_is_wide (aCons (var 2) (aCons (DL.bin gIx (var 0) (cst (.int 0))) (aCons (DL.bin gIx (var 0) (cst (.int 0))) (aNil))))))) (mNot (tst (cb (gAllAny fun bs => bs.all id) (aCons (mComp (iSeq (var 2)) (gN 4) (tAlways) (mCall f_is_within (aCons (var 4) (aCons (cst (.int 0)) (aCons (DL.bin (gI fSub) (var 1) (cst (.int 1))) (aNil))))) [4]) (aNil)))))) (sRet (cst (.bl false))) (nop)))
  (sq (sIf (mOr (mNot (tst (mCall f_is_wide (aCons (DL.bin gIx (var 0) (cst (.int 2))) (aCons (var 1) (aCons (var 1) (aNil))))))) (mNot (tst (cb (gAllAny fun bs => bs.all id) (aCons (mComp (iSeq (DL.bin gIx (var 0) (cst (.int 2)))) (gN 3) (tAlways) (un (gIsi "bool") (var 3)) [3]) (aNil)))))) (sRet (cst (.bl false))) (nop))
  (sRet (cb (gAllAny fun bs => bs.all id) (aCons (mComp (iZip (aCons (DL.bin gIx (var 0) (cst (.int 1))) (aCons (DL.bin gIx (var 0) (cst (.int 2))) (aNil)))) (gTup' 2 (gMore (gN 2) (gMore (gN 3) (gNone)))) (tAlways) (DL.bin gEq (var 3) (DL.bin gIx (DL.bin gIx (var 0) (cst (.int 2))) (DL.bin gIx (var 2) (cst (.int 0))))) [2, 3]) (aNil)))))))
noncomputable def f_is_fit : FD := mkF 1 5 b_is_fit
noncomputable def b_look_at_lot : MS := sIf (mNot (tst (mCall f_is_fit (aCons (var 0) (aNil))))) (fun _ => .exc "InvalidLot") (nop)
noncomputable def f_look_at_lot : FD := mkF 1 1 b_look_at_lot
noncomputable def b_look_at_number : MS := sIf (mNot (tst (mCall f_is_within (aCons (var 0) (aCons (var 1) (aCons (var 2) (aNil))))))) (fun _ => .exc "InvalidNumber") (nop)
noncomputable def f_look_at_number : FD := mkF 3 3 b_look_at_number
noncomputable def b_figures_of : MS := sq (sAsg (mLst (aNil)) (gN 2))
  (sq (sWhl (tst (DL.bin gGt (var 1) (cst (.int 0)))) (sq (sAsg (DL.bin gAdd (var 2) (mLst (aCons (DL.bin (gI fMod) (var 1) (var 0)) (aNil)))) (gN 2))
  (sAsg (DL.bin (gI fDiv) (var 1) (var 0)) (gN 1))))
  (sRet (var 2)))
noncomputable def f_figures_of : FD := mkF 2 3 b_figures_of
noncomputable def b_has_by : MS := sq (sAsg (cst (.int 0)) (gN 2))
  (sq (sFor (iSeq (mCall f_figures_of (aCons (DL.bin gIx (var 0) (cst (.int 0))) (aCons (var 1) (aNil))))) (gN 3) (sAsg (DL.bin gIx (DL.bin gIx (DL.bin gIx (var 0) (cst (.int 1))) (var 2)) (var 3)) (gN 2)))
  (sRet (DL.bin gIx (DL.bin gIx (var 0) (cst (.int 2))) (var 2))))
noncomputable def f_has_by : FD := mkF 2 4 b_has_by
noncomputable def b_come_by : MS := sq (sAsg (mLst (aCons (cst (.int 0)) (aNil))) (gN 1))
  (sq (sFor (iRange (aCons (cb gLen (aCons (var 0) (aNil))) (aNil))) (gN 2) (sIf (tst (DL.bin gLt (var 2) (cb gLen (aCons (var 1) (aNil))))) (sFor (iSeq (DL.bin gIx (var 0) (DL.bin gIx (var 1) (var 2)))) (gN 3) (sAsg (DL.bin gAdd (var 1) (DL.ite (tst (DL.bin (gIn true) (var 3) (var 1))) (mLst (aCons (var 3) (aNil))) (mLst (aNil)))) (gN 1))) (nop)))
  (sRet (var 1)))
noncomputable def f_come_by : FD := mkF 1 4 b_come_by
noncomputable def b_is_lot : MS := sRet (mCall f_is_fit (aCons (var 0) (aNil)))
noncomputable def f_is_lot : FD := mkF 1 1 b_is_lot
noncomputable def b_has : MS := sq (sDrop (mCall f_look_at_lot (aCons (var 0) (aNil))))
  (sq (sDrop (mCall f_look_at_number (aCons (var 1) (aCons (cst (.int 0)) (aCons (cst (.int 1000000000000000000000000000000)) (aNil))))))
  (sRet (mCall f_has_by (aCons (var 0) (aCons (var 1) (aNil))))))
noncomputable def f_has : FD := mkF 2 2 b_has
noncomputable def b_are_figures : MS := sq (sIf (mOr (mNot (tst (mCall f_is_wide (aCons (var 1) (aCons (cst (.int 1)) (aCons (var 0) (aNil))))))) (mNot (tst (cb (gAllAny fun bs => bs.all id) (aCons (mComp (iSeq (var 1)) (gN 2) (tAlways) (mCall f_is_within (aCons (var 2) (aCons (cst (.int 0)) (aCons (DL.bin (gI fSub) (var 0) (cst (.int 1))) (aNil))))) [2]) (aNil)))))) (sRet (cst (.bl false))) (nop))
  (sRet (vAnd (DL.bin gEq (cb gList (aCons (var 1) (aNil))) (cb gSortSet (aCons (var 1) aNil))) (DL.bin gEq (DL.bin gIx (var 1) (cst (.int 0))) (cst (.int 0)))))
noncomputable def f_are_figures : FD := mkF 2 3 b_are_figures
noncomputable def b_figures_by : MS := sq (sIf (tst (DL.bin gEq (cb gLen (aCons (var 1) (aNil))) (var 0))) (sRet (mTup (aCons (var 0) (aCons (mTup (aCons (DL.bin gMul (mTup (aCons (cst (.int 0)) (aNil))) (var 0)) (aNil))) (aCons (mTup (aCons (cst (.bl true)) (aNil))) (aNil)))))) (nop))
  (sRet (mTup (aCons (var 0) (aCons (mTup (aCons (cb gTuple (aCons (mComp (iRange (aCons (var 0) (aNil))) (gN 2) (tAlways) (cb gInt (aCons (DL.bin (gIn true) (var 2) (var 1)) (aNil))) [2]) (aNil))) (aCons (DL.bin gMul (mTup (aCons (cst (.int 1)) (aNil))) (var 0)) (aNil)))) (aCons (mTup (aCons (cst (.bl true)) (aCons (cst (.bl false)) (aNil)))) (aNil))))))
noncomputable def f_figures_by : FD := mkF 2 3 b_figures_by
noncomputable def b_figures_lot : MS := sq (sDrop (mCall f_look_at_number (aCons (var 0) (aCons (cst (.int 2)) (aCons (cst (.int 4)) (aNil))))))
  (sq (sIf (mNot (tst (mCall f_are_figures (aCons (var 0) (aCons (var 1) (aNil)))))) (fun _ => .exc "InvalidFigures") (nop))
  (sRet (mCall f_figures_by (aCons (var 0) (aCons (var 1) (aNil))))))
noncomputable def f_figures_lot : FD := mkF 2 2 b_figures_lot
noncomputable def b__law_spring (i : Addr × List Int) : MS := sq (sAsg (cst (.int 7)) (gN 2))
  (sq (sIf (tst (DL.bin gLt (var 1) (cb (gLenS i.1 i.2.length) (aCons (var 0) (aNil))))) (sAsg (cb gAbs (aCons (DL.bin (gIxS i.1 i.2) (var 0) (var 1)) (aNil))) (gN 2)) (nop))
  (sq (sAsg (DL.bin (gI fMod) (cb gInt (aCons (DL.bin gAdd (DL.bin gAdd (DL.bin gMul (var 2) (cst (.int 863))) (DL.bin gMul (cst (.int 524287)) (var 1))) (cst (.int 1))) (aNil))) (cst (.int 999999999989))) (gN 3))
  (sRet (mLst (aCons (DL.ite (tst (DL.bin gGe (var 2) (DL.bin (gI fPow) (cst (.int 10)) (cst (.int 18))))) (var 2) (cst (.int 0))) (aCons (var 3) (aNil)))))))
noncomputable def f__law_spring (i : Addr × List Int) : FD := mkF 2 4 (b__law_spring i)
noncomputable def b__law_pick : MS := sq (sIf (tst (DL.bin gGt (DL.bin gIx (var 0) (cst (.int 0))) (cst (.int 0)))) (sq (sAsg (DL.bin (gI fMod) (cb gInt (aCons (DL.bin gIx (var 0) (cst (.int 0))) (aNil))) (var 1)) (gN 2))
  (sq (sSet 0 (cst (.int 0)) (DL.bin (gI fDiv) (DL.bin gIx (var 0) (cst (.int 0))) (var 1)))
  (sRet (var 2)))) (nop))
  (sq (sSet 0 (cst (.int 1)) (DL.bin (gI fMod) (cb gInt (aCons (DL.bin gAdd (DL.bin gMul (DL.bin gIx (var 0) (cst (.int 1))) (cst (.int 393555900739))) (cst (.int 8191))) (aNil))) (cst (.int 999999999989))))
  (sRet (DL.bin (gI fMod) (cb gInt (aCons (DL.bin (gI fDiv) (DL.bin gIx (var 0) (cst (.int 1))) (cst (.int 4093))) (aNil))) (var 1))))
noncomputable def f__law_pick : FIO := mkIO 1 3 b__law_pick
noncomputable def b__law_kind : MS := sq (sIf (mOr (tst (DL.bin (gIsN false) (var 0) (cst .non))) (tst (un (gIsi "bool") (var 0)))) (sRet (DL.ite (tst (DL.bin (gIsN false) (var 0) (cst .non))) (cst (.int 0)) (cst (.int 1)))) (nop))
  (sq (sIf (tst (un (gIsi2 "list" "tuple") (var 0))) (sRet (DL.ite (tst (un (gIsi "list") (var 0))) (cst (.int 2)) (cst (.int 3)))) (nop))
  (sRet (DL.ite (tst (un (gIsi "int") (var 0))) (cst (.int 4)) (DL.ite (tst (un (gIsi "str") (var 0))) (cst (.int 5)) (cst (.int 6))))))
noncomputable def f__law_kind : FD := mkF 1 1 b__law_kind
noncomputable def b__law_twins (r : FD) : MS := sq (sIf (tst (DL.bin gNe (mCall f__law_kind (aCons (var 0) (aNil))) (mCall f__law_kind (aCons (var 1) (aNil))))) (sRet (cst (.bl false))) (nop))
  (sq (sIf (tst (DL.bin (gIn false) (mCall f__law_kind (aCons (var 0) (aNil))) (mLst (aCons (cst (.int 2)) (aCons (cst (.int 3)) (aNil)))))) (sRet (vAnd (DL.bin gEq (cb gLen (aCons (var 0) (aNil))) (cb gLen (aCons (var 1) (aNil)))) (DL.bin gEq (mComp (iZip (aCons (var 0) (aCons (var 1) (aNil)))) (gTup' 2 (gMore (gN 2) (gMore (gN 3) (gNone)))) (mNot (tst (mCall r (aCons (var 2) (aCons (var 3) (aNil)))))) (cst (.int 1)) [2, 3]) (mLst (aNil))))) (nop))
  (sRet (DL.bin gEq (var 0) (var 1))))
def l__law_twins : Nat := 12
noncomputable def f__law_twins : Nat → FD
  | 0 => fun _ => .stuck
  | t + 1 => mkF 2 4 (b__law_twins (f__law_twins t))
noncomputable def b__law_fixed : MS := sq (sAsg (mLst (aNil)) (gN 3))
  (sq (sFor (iRange (aCons (cb gLen (aCons (var 1) (aNil))) (aNil))) (gN 4) (sq (sFor (iRange (aCons (cb gLen (aCons (var 1) (aNil))) (aNil))) (gN 5) (sAsg (DL.bin gIx (DL.bin gIx (var 1) (var 4)) (cst (.int 0))) (gN 4)))
  (sq (sAsg (mLst (aCons (var 4) (aNil))) (gN 6))
  (sq (sFor (iRange (aCons (cb gLen (aCons (var 1) (aNil))) (aNil))) (gN 5) (sDrop (mApp 6 (DL.bin gIx (DL.bin gIx (var 1) (DL.bin gIx (var 6) (un gNeg (cst (.int 1))))) (cst (.int 0))))))
  (sDrop (mApp 3 (DL.bin gIx (var 2) (cb gMinL (aCons (var 6) (aNil))))))))))
  (sRet (mTup (aCons (var 0) (aCons (cb gTuple (aCons (var 1) (aNil))) (aCons (cb gTuple (aCons (var 3) (aNil))) (aNil)))))))
noncomputable def f__law_fixed : FD := mkF 3 7 b__law_fixed
noncomputable def b__law_lot : MS := sq (sIf (tst (DL.bin gEq (mIO f__law_pick 0 (aCons (cst (.int 3)) (aNil))) (cst (.int 0)))) (sq (sAsg (DL.bin gAdd (mLst (aCons (cst (.int 0)) (aNil))) (mComp (iRange (aCons (DL.bin (gI fSub) (var 1) (cst (.int 1))) (aNil))) (gN 7) (tAlways) (cb gInt (aCons (DL.bin gGt (mIO f__law_pick 0 (aCons (cst (.int 3)) (aNil))) (cst (.int 0))) (aNil))) [7])) (gN 6))
  (sRet (mTup (aCons (var 1) (aCons (mTup (aCons (cb gTuple (aCons (var 6) (aNil))) (aCons (DL.bin gMul (mTup (aCons (cst (.int 1)) (aNil))) (var 1)) (aNil)))) (aCons (mTup (aCons (cst (.bl true)) (aCons (cst (.bl false)) (aNil)))) (aNil))))))) (nop))
  (sq (sAsg (DL.bin gAdd (cst (.int 1)) (mIO f__law_pick 0 (aCons (var 2) (aNil)))) (gN 3))
  (sq (sAsg (mLst (aNil)) (gN 4))
  (sq (sFor (iRange (aCons (var 3) (aNil))) (gN 5) (sq (sAsg (mComp (iRange (aCons (var 1) (aNil))) (gN 7) (tAlways) (mIO f__law_pick 0 (aCons (var 3) (aNil))) [7]) (gN 6))
  (sq (sIf (tst (DL.bin gEq (mIO f__law_pick 0 (aCons (cst (.int 2)) (aNil))) (cst (.int 0)))) (sSet 6 (cst (.int 0)) (var 5)) (nop))
  (sDrop (mApp 4 (cb gTuple (aCons (var 6) (aNil))))))))
  (sRet (mCall f__law_fixed (aCons (var 1) (aCons (var 4) (aCons (mComp (iRange (aCons (var 3) (aNil))) (gN 5) (tAlways) (DL.bin gGt (mIO f__law_pick 0 (aCons (cst (.int 3)) (aNil))) (cst (.int 0))) [5]) (aNil)))))))))
noncomputable def f__law_lot : FIO := mkIO 2 8 b__law_lot
noncomputable def b__law_figures : MS := sq (sAsg (mLst (aNil)) (gN 2))
  (sq (sWhl (tst (DL.bin gGt (var 1) (cst (.int 0)))) (sq (sDrop (mApp 2 (DL.bin (gI fMod) (var 1) (var 0))))
  (sAsg (DL.bin (gI fDiv) (var 1) (var 0)) (gN 1))))
  (sRet (var 2)))
noncomputable def f__law_figures : FD := mkF 2 3 b__law_figures
noncomputable def b__law_has : MS := sq (sAsg (cst (.int 0)) (gN 2))
  (sq (sFor (iSeq (mCall f__law_figures (aCons (DL.bin gIx (var 0) (cst (.int 0))) (aCons (var 1) (aNil))))) (gN 3) (sAsg (DL.bin gIx (DL.bin gIx (DL.bin gIx (var 0) (cst (.int 1))) (var 2)) (var 3)) (gN 2)))
  (sRet (DL.bin gIx (DL.bin gIx (var 0) (cst (.int 2))) (var 2))))
noncomputable def f__law_has : FD := mkF 2 4 b__law_has
noncomputable def b__law_list : MS := sRet (mComp (iRange (aCons (var 1) (aNil))) (gN 2) (tst (mCall f__law_has (aCons (var 0) (aCons (var 2) (aNil))))) (var 2) [2])
noncomputable def f__law_list : FD := mkF 2 3 b__law_list
noncomputable def b__law_int : MS := sq (sIf (mOr (mNot (tst (un (gIsi "int") (var 0)))) (tst (un (gIsi "bool") (var 0)))) (sRet (cst (.bl false))) (nop))
  (sRet (chain gLe gLe (var 1) (var 0) (var 2)))
noncomputable def f__law_int : FD := mkF 3 3 b__law_int
noncomputable def b__law_good : MS := sq (sIf (mOr (mNot (tst (un (gIsi "tuple") (var 0)))) (mOr (tst (DL.bin gNe (cb gLen (aCons (var 0) (aNil))) (cst (.int 3)))) (mNot (tst (mCall f__law_int (aCons (DL.bin gIx (var 0) (cst (.int 0))) (aCons (cst (.int 2)) (aCons (cst (.int 4)) (aNil))))))))) (sRet (cst (.bl false))) (nop))
  (sq (sIf (mOr (mNot (tst (un (gIsi "tuple") (DL.bin gIx (var 0) (cst (.int 1)))))) (mNot (tst (un (gIsi "tuple") (DL.bin gIx (var 0) (cst (.int 2))))))) (sRet (cst (.bl false))) (nop))
  (sq (sAsg (cb gLen (aCons (DL.bin gIx (var 0) (cst (.int 1))) (aNil))) (gN 1))
  (sq (sIf (mOr (tst (DL.bin gLt (var 1) (cst (.int 1)))) (mOr (tst (DL.bin gGt (var 1) (cst (.int 4)))) (tst (DL.bin gNe (cb gLen (aCons (DL.bin gIx (var 0) (cst (.int 2))) (aNil))) (var 1))))) (sRet (cst (.bl false))) (nop))
  (sq (sFor (iZip (aCons (DL.bin gIx (var 0) (cst (.int 1))) (aCons (DL.bin gIx (var 0) (cst (.int 2))) (aNil)))) (gTup' 2 (gMore (gN 2) (gMore (gN 3) (gNone)))) (sq (sIf (mOr (mNot (tst (un (gIsi "tuple") (var 2)))) (mOr (tst (DL.bin gNe (cb gLen (aCons (var 2) (aNil))) (DL.bin gIx (var 0) (cst (.int 0))))) (mNot (tst (un (gIsi "bool") (var 3)))))) (sRet (cst (.bl false))) (nop))
  (sIf (tst (DL.bin gNe (mComp (iSeq (var 2)) (gN 4) (mNot (tst (mCall f__law_int (aCons (var 4) (aCons (cst (.int 0)) (aCons (DL.bin (gI fSub) (var 1) (cst (.int 1))) (aNil))))))) (var 4) [4]) (mLst (aNil)))) (sRet (cst (.bl false))) (nop))))
  (sRet (DL.bin gEq (mComp (iZip (aCons (DL.bin gIx (var 0) (cst (.int 1))) (aCons (DL.bin gIx (var 0) (cst (.int 2))) (aNil)))) (gTup' 2 (gMore (gN 2) (gMore (gN 3) (gNone)))) (tst (DL.bin gNe (DL.bin gIx (DL.bin gIx (var 0) (cst (.int 2))) (DL.bin gIx (var 2) (cst (.int 0)))) (var 3))) (cst (.int 1)) [2, 3]) (mLst (aNil))))))))
noncomputable def f__law_good : FD := mkF 1 5 b__law_good
noncomputable def b_behind : MS := sq (sPar 2 3 (mLst (aNil)) (cb gList (aCons (DL.bin gIx (DL.bin gIx (var 0) (cst (.int 1))) (var 1)) (aNil))))
  (sq (sWhl (tst (DL.bin gNe (var 3) (mLst (aNil)))) (sq (sPar 4 3 (DL.bin gIx (var 3) (cst (.int 0))) (mSl (var 3) (oYes (cst (.int 1))) (oNo)))
  (sIf (tst (DL.bin (gIn true) (var 4) (var 2))) (sq (sAsg (DL.bin gAdd (var 2) (mLst (aCons (var 4) (aNil)))) (gN 2))
  (sAsg (DL.bin gAdd (var 3) (cb gList (aCons (DL.bin gIx (DL.bin gIx (var 0) (cst (.int 1))) (var 4)) (aNil)))) (gN 3))) (nop))))
  (sRet (var 2)))
noncomputable def f_behind : FD := mkF 2 5 b_behind
noncomputable def b_live_in : MS := sRet (mComp (iSeq (mCall f_come_by (aCons (DL.bin gIx (var 0) (cst (.int 1))) (aNil)))) (gN 1) (mOr (tst (DL.bin gIx (DL.bin gIx (var 0) (cst (.int 2))) (var 1))) (tst (cb (gAllAny fun bs => bs.any id) (aCons (mComp (iSeq (mCall f_behind (aCons (var 0) (aCons (var 1) (aNil))))) (gN 2) (tAlways) (DL.bin gIx (DL.bin gIx (var 0) (cst (.int 2))) (var 2)) [2]) (aNil))))) (var 1) [1])
noncomputable def f_live_in : FD := mkF 1 3 b_live_in
noncomputable def b_is_few_by : MS := sq (sAsg (mCall f_live_in (aCons (var 0) (aNil))) (gN 1))
  (sq (sFor (iSeq (var 1)) (gN 2) (sq (sAsg (mComp (iSeq (var 1)) (gN 4) (mAnd (tst (DL.bin (gIn false) (var 4) (mCall f_behind (aCons (var 0) (aCons (var 2) (aNil)))))) (tst (DL.bin (gIn false) (var 2) (mCall f_behind (aCons (var 0) (aCons (var 4) (aNil))))))) (var 4) [4]) (gN 3))
  (sIf (tst (DL.bin gGt (cb gLen (aCons (mComp (iSeq (DL.bin gIx (DL.bin gIx (var 0) (cst (.int 1))) (var 2))) (gN 4) (tst (DL.bin (gIn false) (var 4) (var 3))) (var 4) [4]) (aNil))) (cst (.int 1)))) (sRet (cst (.bl false))) (nop))))
  (sRet (cst (.bl true))))
noncomputable def f_is_few_by : FD := mkF 1 5 b_is_few_by
noncomputable def b_look_at_index : MS := sq (sDrop (mCall f_look_at_number (aCons (var 1) (aCons (cst (.int 0)) (aCons (cst (.int 1000000000000000000000000000000)) (aNil))))))
  (sIf (mAnd (tst (mCall f_is_few_by (aCons (var 0) (aNil)))) (tst (DL.bin gGt (var 1) (cst (.int 300))))) (fun _ => .exc "InvalidNumber") (nop))
noncomputable def f_look_at_index : FD := mkF 2 2 b_look_at_index
noncomputable def b_is_few : MS := sq (sDrop (mCall f_look_at_lot (aCons (var 0) (aNil))))
  (sRet (mCall f_is_few_by (aCons (var 0) (aNil))))
noncomputable def f_is_few : FD := mkF 1 1 b_is_few
noncomputable def b_look_at_two : MS := sq (sDrop (mCall f_look_at_lot (aCons (var 0) (aNil))))
  (sq (sDrop (mCall f_look_at_lot (aCons (var 1) (aNil))))
  (sIf (tst (DL.bin gNe (DL.bin gIx (var 0) (cst (.int 0))) (DL.bin gIx (var 1) (cst (.int 0))))) (fun _ => .exc "Unlike") (nop)))
noncomputable def f_look_at_two : FD := mkF 2 2 b_look_at_two
noncomputable def b__law_near : MS := sq (sAsg (mIO f__law_pick 0 (aCons (cb gLen (aCons (DL.bin gIx (var 1) (cst (.int 1))) (aNil))) (aNil))) (gN 2))
  (sq (sAsg (DL.bin gAdd (cst (.int 1)) (mIO f__law_pick 0 (aCons (DL.bin (gI fSub) (DL.bin gIx (var 1) (cst (.int 0))) (cst (.int 1))) (aNil)))) (gN 3))
  (sq (sAsg (cb gList (aCons (DL.bin gIx (DL.bin gIx (var 1) (cst (.int 1))) (var 2)) (aNil))) (gN 4))
  (sq (sSet 4 (var 3) (mIO f__law_pick 0 (aCons (cb gLen (aCons (DL.bin gIx (var 1) (cst (.int 1))) (aNil))) (aNil))))
  (sRet (mTup (aCons (DL.bin gIx (var 1) (cst (.int 0))) (aCons (DL.bin gAdd (DL.bin gAdd (mSl (DL.bin gIx (var 1) (cst (.int 1))) (oNo) (oYes (var 2))) (mTup (aCons (cb gTuple (aCons (var 4) (aNil))) (aNil)))) (mSl (DL.bin gIx (var 1) (cst (.int 1))) (oYes (DL.bin gAdd (var 2) (cst (.int 1)))) (oNo))) (aCons (DL.bin gIx (var 1) (cst (.int 2))) (aNil)))))))))
noncomputable def f__law_near : FIO := mkIO 1 5 b__law_near
noncomputable def b__law_summed : MS := sq (sAsg (DL.bin gMul (mLst (aCons (cst (.bl false)) (aNil))) (var 2)) (gN 3))
  (sq (sFor (iSeq (var 0)) (gN 4) (sFor (iSeq (mComp (iSeq (var 1)) (gN 6) (tst (DL.bin gLt (DL.bin gAdd (var 4) (var 6)) (var 2))) (var 6) [6])) (gN 5) (sSet 3 (DL.bin gAdd (var 4) (var 5)) (cst (.bl true)))))
  (sRet (var 3)))
noncomputable def f__law_summed : FD := mkF 3 7 b__law_summed
noncomputable def b_divisor : MS := sq (sPar 0 1 (cb gAbs (aCons (var 0) (aNil))) (cb gAbs (aCons (var 1) (aNil))))
  (sq (sWhl (tst (DL.bin gNe (var 1) (cst (.int 0)))) (sPar 0 1 (var 1) (DL.bin (gI fMod) (var 0) (var 1))))
  (sRet (var 0)))
noncomputable def f_divisor : FD := mkF 2 2 b_divisor
noncomputable def b__law_gcd : MS := sq (sWhl (tst (DL.bin gNe (var 1) (cst (.int 0)))) (sPar 0 1 (var 1) (DL.bin (gI fMod) (var 0) (var 1))))
  (sRet (var 0))
noncomputable def f__law_gcd : FD := mkF 2 2 b__law_gcd
noncomputable def b_power : MS := sq (sAsg (cst (.int 1)) (gN 2))
  (sq (sFor (iRange (aCons (var 1) (aNil))) (gN 3) (sAsg (DL.bin gMul (var 2) (var 0)) (gN 2)))
  (sRet (var 2)))
noncomputable def f_power : FD := mkF 2 4 b_power
noncomputable def b__law_first : MS := sq (sFor (iZip (aCons (var 0) (aCons (mSl (var 0) (oYes (cst (.int 1))) (oNo)) (aNil)))) (gTup' 2 (gMore (gN 2) (gMore (gN 3) (gNone)))) (sIf (tst (DL.bin gGe (DL.bin (gI fSub) (var 3) (var 2)) (var 1))) (sRet (mTup (aCons (var 2) (aCons (var 3) (aNil))))) (nop)))
  (sRet (cst .non))
noncomputable def f__law_first : FD := mkF 2 4 b__law_first
noncomputable def b_are_numbers : MS := sq (sIf (mOr (mNot (tst (mCall f_is_wide (aCons (var 0) (aCons (cst (.int 0)) (aCons (cst (.int 6)) (aNil))))))) (mNot (tst (cb (gAllAny fun bs => bs.all id) (aCons (mComp (iSeq (var 0)) (gN 1) (tAlways) (mCall f_is_within (aCons (var 1) (aCons (cst (.int 0)) (aCons (cst (.int 1000000000000000000000000000000)) (aNil))))) [1]) (aNil)))))) (sRet (cst (.bl false))) (nop))
  (sRet (DL.bin gEq (cb gList (aCons (var 0) (aNil))) (cb gSortSet (aCons (var 0) aNil))))
noncomputable def f_are_numbers : FD := mkF 1 2 b_are_numbers
noncomputable def b_choices : MS := sq (sAsg (mLst (aCons (mTup (aCons (cst (.int 0)) (aNil))) (aNil))) (gN 1))
  (sq (sFor (iRange (aCons (cst (.int 1)) (aCons (var 0) (aNil)))) (gN 2) (sAsg (DL.bin gAdd (var 1) (mComp (iSeq (var 1)) (gN 3) (tAlways) (DL.bin gAdd (var 3) (mTup (aCons (var 2) (aNil)))) [3])) (gN 1)))
  (sRet (cb gSort (aCons (var 1) (aNil)))))
noncomputable def f_choices : FD := mkF 1 4 b_choices
noncomputable def b_is_let : MS := sRet (cb (gAllAny fun bs => bs.all id) (aCons (mComp (iSeq (mCall f_figures_of (aCons (var 0) (aCons (var 2) (aNil))))) (gN 3) (tAlways) (DL.bin (gIn false) (var 3) (var 1)) [3]) (aNil)))
noncomputable def f_is_let : FD := mkF 3 4 b_is_let
noncomputable def b_figures_told : MS := sq (sDrop (mCall f_look_at_number (aCons (var 0) (aCons (cst (.int 2)) (aCons (cst (.int 4)) (aNil))))))
  (sq (sIf (mOr (mNot (tst (mCall f_is_wide (aCons (var 1) (aCons (cst (.int 2)) (aCons (cst (.int 2)) (aNil))))))) (mOr (mNot (tst (mCall f_are_numbers (aCons (DL.bin gIx (var 1) (cst (.int 0))) (aNil))))) (mNot (tst (mCall f_are_numbers (aCons (DL.bin gIx (var 1) (cst (.int 1))) (aNil))))))) (fun _ => .exc "InvalidSeen") (nop))
  (sq (sAsg (mLst (aNil)) (gN 2))
  (sq (sFor (iSeq (mCall f_choices (aCons (var 0) (aNil)))) (gN 3) (sIf (tst (cb (gAllAny fun bs => bs.all id) (aCons (mComp (iSeq (DL.bin gIx (var 1) (cst (.int 0)))) (gN 4) (tAlways) (mCall f_is_let (aCons (var 0) (aCons (var 3) (aCons (var 4) (aNil))))) [4]) (aNil)))) (sIf (mNot (tst (cb (gAllAny fun bs => bs.any id) (aCons (mComp (iSeq (DL.bin gIx (var 1) (cst (.int 1)))) (gN 4) (tAlways) (mCall f_is_let (aCons (var 0) (aCons (var 3) (aCons (var 4) (aNil))))) [4]) (aNil))))) (sDrop (mApp 2 (var 3))) (nop)) (nop)))
  (sRet (var 2)))))
noncomputable def f_figures_told : FD := mkF 2 5 b_figures_told
noncomputable def b__law_rows : MS := sq (sAsg (mLst (aCons (mTup (aCons (cst (.int 0)) (aNil))) (aNil))) (gN 1))
  (sq (sFor (iRange (aCons (cst (.int 1)) (aCons (var 0) (aNil)))) (gN 2) (sAsg (DL.bin gAdd (var 1) (mComp (iSeq (var 1)) (gN 3) (tAlways) (DL.bin gAdd (var 3) (mTup (aCons (var 2) (aNil)))) [3])) (gN 1)))
  (sRet (cb gSort (aCons (var 1) (aNil)))))
noncomputable def f__law_rows : FD := mkF 1 4 b__law_rows
noncomputable def b_text_of : MS := sq (sAsg (mLst (aCons (DL.bin gAdd (cst (.str "base ")) (cb gStr (aCons (DL.bin gIx (var 0) (cst (.int 0))) (aNil)))) (aNil))) (gN 1))
  (sq (sFor (iZip (aCons (DL.bin gIx (var 0) (cst (.int 1))) (aCons (DL.bin gIx (var 0) (cst (.int 2))) (aNil)))) (gTup' 2 (gMore (gN 2) (gMore (gN 3) (gNone)))) (sAsg (DL.bin gAdd (var 1) (mLst (aCons (mBM "str" gJoin (cst (.str " ")) (aCons (DL.bin gAdd (mLst (aCons (DL.ite (tst (var 3)) (cst (.str "yes")) (cst (.str "no"))) (aNil))) (mComp (iSeq (var 2)) (gN 4) (tAlways) (cb gStr (aCons (var 4) (aNil))) [4])) (aNil))) (aNil)))) (gN 1)))
  (sRet (mBM "str" gJoin (cst (.str "\n")) (aCons (var 1) (aNil)))))
noncomputable def f_text_of : FD := mkF 1 5 b_text_of
noncomputable def b_number_of : MS := sRet (DL.ite (mAnd (tst (DL.bin gEq (cb gLen (aCons (var 0) (aNil))) (cst (.int 1)))) (tst (DL.bin gInS (var 0) (cst (.str "0123456789"))))) (mBM "str" gIdxS (cst (.str "0123456789")) (aCons (var 0) (aNil))) (cst .non))
noncomputable def f_number_of : FD := mkF 1 1 b_number_of
noncomputable def b_lot_text : MS := sq (sDrop (mCall f_look_at_lot (aCons (var 0) (aNil))))
  (sRet (mCall f_text_of (aCons (var 0) (aNil))))
noncomputable def f_lot_text : FD := mkF 1 1 b_lot_text
noncomputable def b_read_lot : MS := sq (sIf (mNot (tst (un (gIsi "str") (var 0)))) (fun _ => .exc "InvalidText") (nop))
  (sq (sAsg (mComp (iSeq (mBM "str" gSplit (var 0) (aCons (cst (.str "\n")) (aNil)))) (gN 4) (tAlways) (mBM "str" gSplit (var 4) (aCons (cst (.str " ")) (aNil))) [4]) (gN 1))
  (sq (sIf (mOr (tst (DL.bin gNe (DL.bin gIx (DL.bin gIx (var 1) (cst (.int 0))) (cst (.int 0))) (cst (.str "base")))) (mOr (tst (DL.bin gNe (cb gLen (aCons (DL.bin gIx (var 1) (cst (.int 0))) (aNil))) (cst (.int 2)))) (mNot (tst (cb (gAllAny fun bs => bs.all id) (aCons (mComp (iSeq (mSl (var 1) (oYes (cst (.int 1))) (oNo))) (gN 5) (tAlways) (DL.bin (gIn false) (DL.bin gIx (var 5) (cst (.int 0))) (mTup (aCons (cst (.str "yes")) (aCons (cst (.str "no")) (aNil))))) [5]) (aNil))))))) (fun _ => .exc "InvalidText") (nop))
  (sq (sAsg (cb gTuple (aCons (mComp (iSeq (mSl (var 1) (oYes (cst (.int 1))) (oNo))) (gN 5) (tAlways) (cb gTuple (aCons (mComp (iSeq (mSl (var 5) (oYes (cst (.int 1))) (oNo))) (gN 6) (tAlways) (mCall f_number_of (aCons (var 6) (aNil))) [6]) (aNil))) [5]) (aNil))) (gN 2))
  (sq (sAsg (mTup (aCons (mCall f_number_of (aCons (DL.bin gIx (DL.bin gIx (var 1) (cst (.int 0))) (cst (.int 1))) (aNil))) (aCons (var 2) (aCons (cb gTuple (aCons (mComp (iSeq (mSl (var 1) (oYes (cst (.int 1))) (oNo))) (gN 5) (tAlways) (DL.bin gEq (DL.bin gIx (var 5) (cst (.int 0))) (cst (.str "yes"))) [5]) (aNil))) (aNil))))) (gN 3))
  (sq (sIf (mNot (tst (mCall f_is_fit (aCons (var 3) (aNil))))) (fun _ => .exc "InvalidText") (nop))
  (sRet (var 3)))))))
noncomputable def f_read_lot : FD := mkF 1 7 b_read_lot
noncomputable def b__law_text : MS := sq (sAsg (mLst (aCons (DL.bin gAdd (cst (.str "base ")) (cb gStr (aCons (DL.bin gIx (var 0) (cst (.int 0))) (aNil)))) (aNil))) (gN 1))
  (sq (sFor (iZip (aCons (DL.bin gIx (var 0) (cst (.int 1))) (aCons (DL.bin gIx (var 0) (cst (.int 2))) (aNil)))) (gTup' 2 (gMore (gN 2) (gMore (gN 3) (gNone)))) (sq (sAsg (DL.ite (tst (var 3)) (cst (.str "yes")) (cst (.str "no"))) (gN 4))
  (sq (sFor (iSeq (var 2)) (gN 5) (sAsg (DL.bin gAdd (DL.bin gAdd (var 4) (cst (.str " "))) (cb gStr (aCons (var 5) (aNil)))) (gN 4)))
  (sDrop (mApp 1 (var 4))))))
  (sRet (mBM "str" gJoin (cst (.str "\n")) (aCons (var 1) (aNil)))))
noncomputable def f__law_text : FD := mkF 1 6 b__law_text
noncomputable def b__law_taken : MS := sq (sAsg (mBM "str" gSplit (var 0) (aCons (cst (.str "\n")) (aNil))) (gN 1))
  (sq (sIf (tst (DL.bin (gIn true) (DL.bin gIx (var 1) (cst (.int 0))) (mLst (aCons (cst (.str "base 2")) (aCons (cst (.str "base 3")) (aCons (cst (.str "base 4")) (aNil))))))) (sRet (cst .non)) (nop))
  (sq (sAsg (mTup (aCons (mTup (aNil)) (aCons (mTup (aNil)) (aNil)))) (gTup' 2 (gMore (gN 4) (gMore (gN 5) (gNone)))))
  (sq (sFor (iSeq (mSl (var 1) (oYes (cst (.int 1))) (oNo))) (gN 2) (sq (sAsg (mBM "str" gSplit (var 2) (aCons (cst (.str " ")) (aNil))) (gN 6))
  (sq (sIf (mOr (tst (DL.bin (gIn true) (DL.bin gIx (var 6) (cst (.int 0))) (mLst (aCons (cst (.str "yes")) (aCons (cst (.str "no")) (aNil)))))) (tst (DL.bin gNe (mComp (iSeq (mSl (var 6) (oYes (cst (.int 1))) (oNo))) (gN 7) (tst (DL.bin (gIn true) (var 7) (mLst (aCons (cst (.str "0")) (aCons (cst (.str "1")) (aCons (cst (.str "2")) (aCons (cst (.str "3")) (aNil)))))))) (var 7) [7]) (mLst (aNil))))) (sRet (cst .non)) (nop))
  (sq (sAsg (DL.bin gAdd (var 4) (mTup (aCons (cb gTuple (aCons (mComp (iSeq (mSl (var 6) (oYes (cst (.int 1))) (oNo))) (gN 7) (tAlways) (cb gIntS (aCons (var 7) (aNil))) [7]) (aNil))) (aNil)))) (gN 4))
  (sAsg (DL.bin gAdd (var 5) (mTup (aCons (DL.bin gEq (DL.bin gIx (var 6) (cst (.int 0))) (cst (.str "yes"))) (aNil)))) (gN 5))))))
  (sq (sAsg (mTup (aCons (cb gIntS (aCons (DL.bin gIx (DL.bin gIx (var 1) (cst (.int 0))) (un gNeg (cst (.int 1)))) (aNil))) (aCons (var 4) (aCons (var 5) (aNil))))) (gN 3))
  (sRet (DL.ite (tst (mCall f_is_lot (aCons (var 3) (aNil)))) (var 3) (cst .non)))))))
noncomputable def f__law_taken : FD := mkF 1 8 b__law_taken
noncomputable def b__law_bend : MS := sq (sPar 6 7 (mBM "str" gSplit (var 1) (aCons (cst (.str "\n")) (aNil))) (mIO f__law_pick 0 (aCons (cst (.int 8)) (aNil))))
  (sq (sPar 8 9 (mIO f__law_pick 0 (aCons (cb gLen (aCons (var 6) (aNil))) (aNil))) (mIO f__law_pick 0 (aCons (DL.bin gAdd (cb gLen (aCons (var 1) (aNil))) (cst (.int 1))) (aNil))))
  (sq (sIf (tst (DL.bin gEq (var 7) (cst (.int 0)))) (sRet (mBM "str" gJoin (cst (.str "\n")) (aCons (DL.bin gAdd (mSl (var 6) (oNo) (oYes (var 8))) (mSl (var 6) (oYes (DL.bin gAdd (var 8) (cst (.int 1)))) (oNo))) (aNil)))) (nop))
  (sq (sIf (tst (DL.bin gEq (var 7) (cst (.int 1)))) (sRet (mBM "str" gJoin (cst (.str "\n")) (aCons (DL.bin gAdd (mSl (var 6) (oNo) (oYes (DL.bin gAdd (var 8) (cst (.int 1))))) (mSl (var 6) (oYes (var 8)) (oNo))) (aNil)))) (nop))
  (sq (sIf (tst (DL.bin gEq (var 7) (cst (.int 2)))) (sRet (mBM "str" gJoin (cst (.str "\n")) (aCons (DL.bin gAdd (mSl (var 6) (oYes (var 8)) (oNo)) (mSl (var 6) (oNo) (oYes (var 8)))) (aNil)))) (nop))
  (sq (sAsg (mLst (aCons (cst (.str "0")) (aCons (cst (.str "1")) (aCons (cst (.str "2")) (aCons (cst (.str "3")) (aCons (cst (.str " ")) (aCons (cst (.str "\n")) (aCons (cst (.str "\nyes 0 0")) (aCons (cst (.str "no")) (aCons (cst (.str "yes")) (aCons (cst (.str "base")) (aCons (cst (.str "a")) (aCons (cst (.str "01")) (aCons (cst (.str " 0")) (aCons (cst (.str "")) (aNil)))))))))))))))) (gN 2))
  (sq (sIf (tst (DL.bin gLt (var 7) (cst (.int 6)))) (sRet (DL.bin gAdd (DL.bin gAdd (mSl (var 1) (oNo) (oYes (var 9))) (DL.bin gIx (var 2) (mIO f__law_pick 0 (aCons (cst (.int 14)) (aNil))))) (mSl (var 1) (oYes (DL.bin gAdd (var 9) (DL.bin (gI fMod) (var 7) (cst (.int 2))))) (oNo)))) (nop))
  (sq (sAsg (mBM "str" gSplit (DL.bin gIx (var 6) (var 8)) (aCons (cst (.str " ")) (aNil))) (gN 3))
  (sq (sAsg (mIO f__law_pick 0 (aCons (cb gLen (aCons (var 3) (aNil))) (aNil))) (gN 4))
  (sq (sAsg (mLst (aCons (cst (.str "0")) (aCons (cst (.str "1")) (aCons (cst (.str "2")) (aCons (cst (.str "3")) (aCons (cst (.str "4")) (aCons (cst (.str "yes")) (aCons (cst (.str "no")) (aCons (cst (.str "base")) (aCons (cst (.str "")) (aCons (cst (.str "00")) (aNil)))))))))))) (gN 5))
  (sq (sAsg (DL.bin gAdd (DL.bin gAdd (mSl (var 3) (oNo) (oYes (var 4))) (mLst (aCons (DL.bin gIx (var 5) (mIO f__law_pick 0 (aCons (cst (.int 10)) (aNil)))) (aNil)))) (mSl (var 3) (oYes (DL.bin gAdd (var 4) (cst (.int 1)))) (oNo))) (gN 3))
  (sRet (mBM "str" gJoin (cst (.str "\n")) (aCons (DL.bin gAdd (DL.bin gAdd (mSl (var 6) (oNo) (oYes (var 8))) (mLst (aCons (mBM "str" gJoin (cst (.str " ")) (aCons (var 3) (aNil))) (aNil)))) (mSl (var 6) (oYes (DL.bin gAdd (var 8) (cst (.int 1)))) (oNo))) (aNil))))))))))))))
noncomputable def f__law_bend : FIO := mkIO 1 10 b__law_bend
noncomputable def b_ring_at : MS := sq (sFor (iSeq (DL.bin gIx (var 0) (cst (.int 1)))) (gN 2) (sAsg (DL.bin gIx (DL.bin gIx (DL.bin gIx (var 0) (cst (.int 1))) (var 1)) (cst (.int 0))) (gN 1)))
  (sq (sAsg (mLst (aNil)) (gN 3))
  (sq (sWhl (tst (DL.bin (gIn true) (var 1) (var 3))) (sq (sAsg (DL.bin gAdd (var 3) (mLst (aCons (var 1) (aNil)))) (gN 3))
  (sAsg (DL.bin gIx (DL.bin gIx (DL.bin gIx (var 0) (cst (.int 1))) (var 1)) (cst (.int 0))) (gN 1))))
  (sRet (cb gSort (aCons (var 3) (aNil))))))
noncomputable def f_ring_at : FD := mkF 2 4 b_ring_at
noncomputable def b__law_ring : MS := sq (sFor (iRange (aCons (cst (.int 4)) (aNil))) (gN 2) (sAsg (DL.bin gIx (DL.bin gIx (DL.bin gIx (var 0) (cst (.int 1))) (var 1)) (cst (.int 0))) (gN 1)))
  (sq (sAsg (mLst (aNil)) (gN 3))
  (sq (sWhl (tst (DL.bin (gIn true) (var 1) (var 3))) (sq (sDrop (mApp 3 (var 1)))
  (sAsg (DL.bin gIx (DL.bin gIx (DL.bin gIx (var 0) (cst (.int 1))) (var 1)) (cst (.int 0))) (gN 1))))
  (sRet (cb gSort (aCons (var 3) (aNil))))))
noncomputable def f__law_ring : FD := mkF 2 4 b__law_ring
noncomputable def b__wall : MS := sWhl (tst (cst (.bl true))) (nop)
noncomputable def f__wall : FD := mkF 1 1 b__wall
noncomputable def b_is_number : MS := sRet (vAnd (un (gIsi "int") (var 0)) (vAnd (vNot (un (gIsi "bool") (var 0))) (DL.bin gGe (var 0) (cst (.int 0)))))
noncomputable def f_is_number : FD := mkF 1 1 b_is_number
noncomputable def b__law_known : MS := sq (sAsg (mLst (aCons (mTup (aCons (cst (.int 4)) (aCons (mTup (aCons (mTup (aCons (cst (.int 0)) (aCons (cst (.int 0)) (aCons (cst (.int 1)) (aCons (cst (.int 1)) (aNil)))))) (aCons (mTup (aCons (cst (.int 1)) (aCons (cst (.int 1)) (aCons (cst (.int 1)) (aCons (cst (.int 1)) (aNil)))))) (aNil)))) (aCons (mTup (aCons (cst (.bl true)) (aCons (cst (.bl false)) (aNil)))) (aNil))))) (aCons (mTup (aCons (cst (.int 2)) (aCons (mTup (aCons (mTup (aCons (cst (.int 0)) (aCons (cst (.int 1)) (aNil)))) (aCons (mTup (aCons (cst (.int 0)) (aCons (cst (.int 2)) (aNil)))) (aCons (mTup (aCons (cst (.int 2)) (aCons (cst (.int 2)) (aNil)))) (aNil))))) (aCons (mTup (aCons (cst (.bl true)) (aCons (cst (.bl true)) (aCons (cst (.bl false)) (aNil))))) (aNil))))) (aNil)))) (gN 0))
  (sq (sDrop (mApp 0 (mTup (aCons (cst (.int 2)) (aCons (mTup (aCons (mTup (aCons (cst (.int 0)) (aCons (cst (.int 1)) (aNil)))) (aCons (mTup (aCons (cst (.int 1)) (aCons (cst (.int 1)) (aNil)))) (aNil)))) (aCons (mTup (aCons (cst (.bl true)) (aCons (cst (.bl true)) (aNil)))) (aNil)))))))
  (sq (sDrop (mApp 0 (mTup (aCons (cst (.int 2)) (aCons (mTup (aCons (mTup (aCons (cst (.int 0)) (aCons (cst (.int 1)) (aNil)))) (aCons (mTup (aCons (cst (.int 1)) (aCons (cst (.int 2)) (aNil)))) (aCons (mTup (aCons (cst (.int 2)) (aCons (cst (.int 2)) (aNil)))) (aNil))))) (aCons (mTup (aCons (cst (.bl false)) (aCons (cst (.bl true)) (aCons (cst (.bl false)) (aNil))))) (aNil)))))))
  (sRet (DL.bin gAdd (var 0) (mLst (aCons (mTup (aCons (cst (.int 3)) (aCons (mTup (aCons (mTup (aCons (cst (.int 1)) (aCons (cst (.int 2)) (aCons (cst (.int 2)) (aNil))))) (aCons (mTup (aCons (cst (.int 1)) (aCons (cst (.int 1)) (aCons (cst (.int 1)) (aNil))))) (aCons (mTup (aCons (cst (.int 2)) (aCons (cst (.int 2)) (aCons (cst (.int 2)) (aNil))))) (aNil))))) (aCons (mTup (aCons (cst (.bl true)) (aCons (cst (.bl true)) (aCons (cst (.bl false)) (aNil))))) (aNil))))) (aNil)))))))
noncomputable def f__law_known : FD := mkF 0 1 b__law_known
noncomputable def b__law_read : MS := sq (sAsg (mTup (aCons (cst (.int 0)) (aCons (cst (.int 1)) (aNil)))) (gTup' 2 (gMore (gN 2) (gMore (gN 3) (gNone)))))
  (sq (sWhl (tst (DL.bin gGt (var 1) (cst (.int 0)))) (sq (sAsg (DL.bin gAdd (var 2) (DL.bin gMul (var 3) (DL.bin (gI fMod) (var 1) (cst (.int 2))))) (gN 2))
  (sPar 3 1 (DL.bin gMul (var 3) (var 0)) (DL.bin (gI fDiv) (var 1) (cst (.int 2))))))
  (sRet (var 2)))
noncomputable def f__law_read : FD := mkF 2 4 b__law_read
end DC

end DC
section WQ
set_option Elab.async false
set_option linter.all false
set_option autoImplicit false
set_option maxRecDepth 100000
/-! WQ: what each part of a reading is on data of each shape. -/
namespace DL
open PySem PySem.Spec PyProof.Rows L2
def cameK (err : Str → Option Str) (ls : LS) : RD → RD
  | .ok (d, l) => (opt ((retD l d).bind stl)).bind fun d' => .ok (.own (.lst [d']), ls)
  | .exc x => (opt (err x)).bind fun y => .ok (.str y, ls)
  | .stuck => .stuck
def setK (i : Nat) (k v : D) (ls : LS) : Fl := match k with
  | .int k => (opt (slotL ls i)).fl fun r => (opt (L2.ixN r.2.length k)).fl fun j => .nx (ls.set i (some (putL r.1 (r.2.set j v))))
  | _ => .stuck
open Classical in
noncomputable def rgK (ds : List D) (ls : LS) : Res (List D × LS) := match ds with
  | [.int n] => if inB n then .ok (intsUp 0 n.toNat, ls) else .stuck
  | [.int a, .int b] => if inB a ∧ inB b then .ok (intsUp a (b - a).toNat, ls) else .stuck
  | _ => .stuck
def chK (g' : D → D → Option D) (mc : ME) (q : D × LS) (o : Option D) : RD := match o with
    | some (.bl true) => (val mc q.2).bind fun r => (opt (see r.2 q.1)).bind fun y => (opt (see r.2 r.1)).bind fun z => (opt (g' y z)).bind fun d => .ok (d, r.2)
    | some (.bl false) => .ok (.bl false, q.2)
    | _ => .stuck
def intK (d : D) (ls : LS) : Res (Option Int × LS) := match d with
  | .int i => .ok (some i, ls)
  | _ => .stuck
def ioK (f : FIO) (i : Nat) (ds : List D) (ls : LS) (o : Option (Option D)) : RD := match o with
  | some (some (.own c)) => (f c ds).bind fun r => .ok (r.1, ls.set i (some (.own r.2)))
  | some (some (.io c)) => (f c ds).bind fun r => .ok (r.1, ls.set i (some (.io r.2)))
  | _ => .stuck
def notD : D → Option D
  | .bl b => some (.bl (!b))
  | _ => none
def tstK (d : D) (ls : LS) : Res (Bool × LS) := match d with
  | .bl b => .ok (b, ls)
  | _ => .stuck
def zipP : List D → Option (List D)
  | [.lst xs, .lst ys] => some (zipD xs ys)
  | [.tup xs, .tup ys] => some (zipD xs ys)
  | _ => none
def ioO (o : Option (Option D)) : Option D := o.bind fun o => o.bind fun d => match d with
  | .io c => some c
  | _ => none
def frzO (ls : LS) (i : Nat) (o : Option (Option D)) : Option (D × LS) := o.bind fun o => o.bind fun d => match d with
    | .own (.lst xs) => some (.lst xs, ls.set i (some (.lst xs)))
    | .own (.dct xs) => some (.dct xs, ls.set i (some (.dct xs)))
    | .own _ => none
    | .io _ => none
    | .bor _ => none
    | d => some (d, ls)
def retO (o : Option (Option D)) : Option D := o.bind fun o => o.bind retC
def slotO (o : Option (Option D)) : Option (Bool × List D) := o.bind fun o => o.bind fun d => match d with
  | .own (.lst xs) => some (true, xs)
  | .io (.lst xs) => some (false, xs)
  | _ => none
theorem q_var_non  (i : Nat) (ls : LS) : varO (some (some (.non))) i ls = .ok (.non, ls) := (rfl)
theorem q_stl_non  : stl (.non) = some (.non) := (rfl)
theorem q_see_non  (ls : LS) : see ls (.non) = some (.non) := (rfl)
theorem q_frz_non  (ls : LS) : frz ls (.non) = some (.non, ls) := (rfl)
theorem q_shr_non  (ls : LS) : shr (.non, ls) = some (.non, ls) := (rfl)
theorem q_cont_non  : cont (.non) = some (.non) := (rfl)
theorem q_retD_non  (ls : LS) : retD ls (.non) = some (.non) := (rfl)
theorem q_retC_non  : retC (.non) = some (.non) := (rfl)
theorem q_keepD_non  : keepD (some (some (.non))) = some (.non) := (rfl)
theorem q_keepO_non  : keepO (some (.non)) = some (.non) := (rfl)
theorem q_lookD_non  : lookD (.non) = true := (rfl)
theorem q_var_bl (b : Bool) (i : Nat) (ls : LS) : varO (some (some (.bl b))) i ls = .ok (.bl b, ls) := (rfl)
theorem q_stl_bl (b : Bool) : stl (.bl b) = some (.bl b) := (rfl)
theorem q_see_bl (b : Bool) (ls : LS) : see ls (.bl b) = some (.bl b) := (rfl)
theorem q_frz_bl (b : Bool) (ls : LS) : frz ls (.bl b) = some (.bl b, ls) := (rfl)
theorem q_shr_bl (b : Bool) (ls : LS) : shr (.bl b, ls) = some (.bl b, ls) := (rfl)
theorem q_cont_bl (b : Bool) : cont (.bl b) = some (.bl b) := (rfl)
theorem q_retD_bl (b : Bool) (ls : LS) : retD ls (.bl b) = some (.bl b) := (rfl)
theorem q_retC_bl (b : Bool) : retC (.bl b) = some (.bl b) := (rfl)
theorem q_keepD_bl (b : Bool) : keepD (some (some (.bl b))) = some (.bl b) := (rfl)
theorem q_keepO_bl (b : Bool) : keepO (some (.bl b)) = some (.bl b) := (rfl)
theorem q_lookD_bl (b : Bool) : lookD (.bl b) = true := (rfl)
theorem q_var_int (k : Int) (i : Nat) (ls : LS) : varO (some (some (.int k))) i ls = .ok (.int k, ls) := (rfl)
theorem q_stl_int (k : Int) : stl (.int k) = some (.int k) := (rfl)
theorem q_see_int (k : Int) (ls : LS) : see ls (.int k) = some (.int k) := (rfl)
theorem q_frz_int (k : Int) (ls : LS) : frz ls (.int k) = some (.int k, ls) := (rfl)
theorem q_shr_int (k : Int) (ls : LS) : shr (.int k, ls) = some (.int k, ls) := (rfl)
theorem q_cont_int (k : Int) : cont (.int k) = some (.int k) := (rfl)
theorem q_retD_int (k : Int) (ls : LS) : retD ls (.int k) = some (.int k) := (rfl)
theorem q_retC_int (k : Int) : retC (.int k) = some (.int k) := (rfl)
theorem q_keepD_int (k : Int) : keepD (some (some (.int k))) = some (.int k) := (rfl)
theorem q_keepO_int (k : Int) : keepO (some (.int k)) = some (.int k) := (rfl)
theorem q_lookD_int (k : Int) : lookD (.int k) = true := (rfl)
theorem q_var_str (x : Str) (i : Nat) (ls : LS) : varO (some (some (.str x))) i ls = .ok (.str x, ls) := (rfl)
theorem q_stl_str (x : Str) : stl (.str x) = some (.str x) := (rfl)
theorem q_see_str (x : Str) (ls : LS) : see ls (.str x) = some (.str x) := (rfl)
theorem q_frz_str (x : Str) (ls : LS) : frz ls (.str x) = some (.str x, ls) := (rfl)
theorem q_shr_str (x : Str) (ls : LS) : shr (.str x, ls) = some (.str x, ls) := (rfl)
theorem q_cont_str (x : Str) : cont (.str x) = some (.str x) := (rfl)
theorem q_retD_str (x : Str) (ls : LS) : retD ls (.str x) = some (.str x) := (rfl)
theorem q_retC_str (x : Str) : retC (.str x) = some (.str x) := (rfl)
theorem q_keepD_str (x : Str) : keepD (some (some (.str x))) = some (.str x) := (rfl)
theorem q_keepO_str (x : Str) : keepO (some (.str x)) = some (.str x) := (rfl)
theorem q_lookD_str (x : Str) : lookD (.str x) = true := (rfl)
theorem q_var_ref (a : Addr) (i : Nat) (ls : LS) : varO (some (some (.ref a))) i ls = .ok (.ref a, ls) := (rfl)
theorem q_stl_ref (a : Addr) : stl (.ref a) = some (.ref a) := (rfl)
theorem q_see_ref (a : Addr) (ls : LS) : see ls (.ref a) = some (.ref a) := (rfl)
theorem q_frz_ref (a : Addr) (ls : LS) : frz ls (.ref a) = some (.ref a, ls) := (rfl)
theorem q_shr_ref (a : Addr) (ls : LS) : shr (.ref a, ls) = some (.ref a, ls) := (rfl)
theorem q_cont_ref (a : Addr) : cont (.ref a) = some (.ref a) := (rfl)
theorem q_retD_ref (a : Addr) (ls : LS) : retD ls (.ref a) = some (.ref a) := (rfl)
theorem q_retC_ref (a : Addr) : retC (.ref a) = some (.ref a) := (rfl)
theorem q_keepD_ref (a : Addr) : keepD (some (some (.ref a))) = some (.ref a) := (rfl)
theorem q_keepO_ref (a : Addr) : keepO (some (.ref a)) = some (.ref a) := (rfl)
theorem q_lookD_ref (a : Addr) : lookD (.ref a) = true := (rfl)
theorem q_var_tup (xs : List D) (i : Nat) (ls : LS) : varO (some (some (.tup xs))) i ls = .ok (.tup xs, ls) := (rfl)
theorem q_stl_tup (xs : List D) : stl (.tup xs) = some (.tup xs) := (rfl)
theorem q_see_tup (xs : List D) (ls : LS) : see ls (.tup xs) = some (.tup xs) := (rfl)
theorem q_frz_tup (xs : List D) (ls : LS) : frz ls (.tup xs) = some (.tup xs, ls) := (rfl)
theorem q_shr_tup (xs : List D) (ls : LS) : shr (.tup xs, ls) = some (.tup xs, ls) := (rfl)
theorem q_cont_tup (xs : List D) : cont (.tup xs) = some (.tup xs) := (rfl)
theorem q_retD_tup (xs : List D) (ls : LS) : retD ls (.tup xs) = some (.tup xs) := (rfl)
theorem q_retC_tup (xs : List D) : retC (.tup xs) = some (.tup xs) := (rfl)
theorem q_keepD_tup (xs : List D) : keepD (some (some (.tup xs))) = some (.tup xs) := (rfl)
theorem q_keepO_tup (xs : List D) : keepO (some (.tup xs)) = some (.tup xs) := (rfl)
theorem q_lookD_tup (xs : List D) : lookD (.tup xs) = true := (rfl)
theorem q_var_lst (xs : List D) (i : Nat) (ls : LS) : varO (some (some (.lst xs))) i ls = .ok (.lst xs, ls) := (rfl)
theorem q_stl_lst (xs : List D) : stl (.lst xs) = some (.lst xs) := (rfl)
theorem q_see_lst (xs : List D) (ls : LS) : see ls (.lst xs) = some (.lst xs) := (rfl)
theorem q_frz_lst (xs : List D) (ls : LS) : frz ls (.lst xs) = some (.lst xs, ls) := (rfl)
theorem q_shr_lst (xs : List D) (ls : LS) : shr (.lst xs, ls) = some (.lst xs, ls) := (rfl)
theorem q_cont_lst (xs : List D) : cont (.lst xs) = some (.lst xs) := (rfl)
theorem q_retD_lst (xs : List D) (ls : LS) : retD ls (.lst xs) = some (.lst xs) := (rfl)
theorem q_retC_lst (xs : List D) : retC (.lst xs) = some (.lst xs) := (rfl)
theorem q_keepD_lst (xs : List D) : keepD (some (some (.lst xs))) = some (.lst xs) := (rfl)
theorem q_keepO_lst (xs : List D) : keepO (some (.lst xs)) = some (.lst xs) := (rfl)
theorem q_lookD_lst (xs : List D) : lookD (.lst xs) = true := (rfl)
theorem q_var_scr (xs : List D) (i : Nat) (ls : LS) : varO (some (some (.scr xs))) i ls = .ok (.scr xs, ls) := (rfl)
theorem q_stl_scr (xs : List D) : stl (.scr xs) = some (.scr xs) := (rfl)
theorem q_see_scr (xs : List D) (ls : LS) : see ls (.scr xs) = some (.scr xs) := (rfl)
theorem q_frz_scr (xs : List D) (ls : LS) : frz ls (.scr xs) = some (.scr xs, ls) := (rfl)
theorem q_shr_scr (xs : List D) (ls : LS) : shr (.scr xs, ls) = some (.scr xs, ls) := (rfl)
theorem q_cont_scr (xs : List D) : cont (.scr xs) = some (.scr xs) := (rfl)
theorem q_retD_scr (xs : List D) (ls : LS) : retD ls (.scr xs) = some (.scr xs) := (rfl)
theorem q_retC_scr (xs : List D) : retC (.scr xs) = some (.scr xs) := (rfl)
theorem q_keepD_scr (xs : List D) : keepD (some (some (.scr xs))) = some (.scr xs) := (rfl)
theorem q_keepO_scr (xs : List D) : keepO (some (.scr xs)) = some (.scr xs) := (rfl)
theorem q_lookD_scr (xs : List D) : lookD (.scr xs) = true := (rfl)
theorem q_var_dct (xs : List (D × D)) (i : Nat) (ls : LS) : varO (some (some (.dct xs))) i ls = .ok (.dct xs, ls) := (rfl)
theorem q_stl_dct (xs : List (D × D)) : stl (.dct xs) = some (.dct xs) := (rfl)
theorem q_see_dct (xs : List (D × D)) (ls : LS) : see ls (.dct xs) = some (.dct xs) := (rfl)
theorem q_frz_dct (xs : List (D × D)) (ls : LS) : frz ls (.dct xs) = some (.dct xs, ls) := (rfl)
theorem q_shr_dct (xs : List (D × D)) (ls : LS) : shr (.dct xs, ls) = some (.dct xs, ls) := (rfl)
theorem q_cont_dct (xs : List (D × D)) : cont (.dct xs) = some (.dct xs) := (rfl)
theorem q_retD_dct (xs : List (D × D)) (ls : LS) : retD ls (.dct xs) = some (.dct xs) := (rfl)
theorem q_retC_dct (xs : List (D × D)) : retC (.dct xs) = some (.dct xs) := (rfl)
theorem q_keepD_dct (xs : List (D × D)) : keepD (some (some (.dct xs))) = some (.dct xs) := (rfl)
theorem q_keepO_dct (xs : List (D × D)) : keepO (some (.dct xs)) = some (.dct xs) := (rfl)
theorem q_lookD_dct (xs : List (D × D)) : lookD (.dct xs) = true := (rfl)
theorem q_plainR_non  : plainR (.non) = true := (rfl)
theorem q_plainR_bl (b : Bool) : plainR (.bl b) = true := (rfl)
theorem q_plainR_int (k : Int) : plainR (.int k) = true := (rfl)
theorem q_plainR_str (x : Str) : plainR (.str x) = true := (rfl)
theorem q_keepO_own (d : D) : keepO (some (.own d)) = none := (rfl)
theorem q_keepO_io (d : D) : keepO (some (.io d)) = none := (rfl)
theorem q_keepO_none  : keepO none = none := (rfl)
theorem q_var_own (d : D) (i : Nat) (ls : LS) : varO (some (some (.own d))) i ls = .ok (.bor i, ls) := (rfl)
theorem q_var_io (d : D) (i : Nat) (ls : LS) : varO (some (some (.io d))) i ls = .ok (.bor i, ls) := (rfl)
theorem q_stl_ol (xs : List D) : stl (.own (.lst xs)) = some (.lst xs) := (rfl)
theorem q_stl_od (xs : List (D × D)) : stl (.own (.dct xs)) = some (.dct xs) := (rfl)
theorem q_stl_bor (i : Nat) : stl (.bor i) = some (.bor i) := (rfl)
theorem q_see_bor (i : Nat) (ls : LS) : see ls (.bor i) = (ls[i]?).bind fun o => o.bind cont := (rfl)
theorem q_cont_own (d : D) : cont (.own d) = some d := (rfl)
theorem q_cont_io (d : D) : cont (.io d) = some d := (rfl)
theorem q_frz_bor (i : Nat) (ls : LS) : frz ls (.bor i) = frzO ls i ls[i]? := (rfl)
theorem q_frzO_l (ls : LS) (i : Nat) (xs : List D) : frzO ls i (some (some (.own (.lst xs)))) = some (.lst xs, ls.set i (some (.lst xs))) := (rfl)
theorem q_frzO_d (ls : LS) (i : Nat) (xs : List (D × D)) : frzO ls i (some (some (.own (.dct xs)))) = some (.dct xs, ls.set i (some (.dct xs))) := (rfl)
theorem q_frzO_l2 (ls : LS) (i : Nat) (xs : List D) : frzO ls i (some (some (.lst xs))) = some (.lst xs, ls) := (rfl)
theorem q_frzO_d2 (ls : LS) (i : Nat) (xs : List (D × D)) : frzO ls i (some (some (.dct xs))) = some (.dct xs, ls) := (rfl)
theorem q_shr_own (d : D) (ls : LS) : shr (.own d, ls) = some (.own d, ls) := (rfl)
theorem q_shr_bor (i : Nat) (ls : LS) : shr (.bor i, ls) = frz ls (.bor i) := (rfl)
theorem q_retD_own (d : D) (ls : LS) : retD ls (.own d) = some (.own d) := (rfl)
theorem q_retD_bor (i : Nat) (ls : LS) : retD ls (.bor i) = retO ls[i]? := (rfl)
theorem q_retO (d : D) : retO (some (some d)) = retC d := (rfl)
theorem q_retC_own (d : D) : retC (.own d) = some (.own d) := (rfl)
theorem q_slotL (ls : LS) (i : Nat) : slotL ls i = slotO ls[i]? := (rfl)
theorem q_slot_own (xs : List D) : slotO (some (some (.own (.lst xs)))) = some (true, xs) := (rfl)
theorem q_slot_io (xs : List D) : slotO (some (some (.io (.lst xs)))) = some (false, xs) := (rfl)
theorem q_putT (xs : List D) : putL true xs = .own (.lst xs) := (rfl)
theorem q_putF (xs : List D) : putL false xs = .io (.lst xs) := (rfl)
theorem q_keepD_none  : keepD (some none) = none := (rfl)
theorem q_seq_lst (xs : List D) : seqOf (.lst xs) = some xs := (rfl)
theorem q_seq_tup (xs : List D) : seqOf (.tup xs) = some xs := (rfl)
theorem q_ix_lst (xs : List D) (k : Int) : gIx (.lst xs) (.int k) = L2.atI xs k := (rfl)
theorem q_ix_tup (xs : List D) (k : Int) : gIx (.tup xs) (.int k) = L2.atI xs k := (rfl)
theorem q_ix_scr (xs : List D) (k : Int) : gIx (.scr xs) (.int k) = L2.atI xs k := (rfl)
theorem q_len_lst (xs : List D) : gLen [.lst xs] = some (.int (xs.length : Nat)) := (rfl)
theorem q_len_tup (xs : List D) : gLen [.tup xs] = some (.int (xs.length : Nat)) := (rfl)
theorem q_list_lst (xs : List D) : gList [.lst xs] = some (.own (.lst xs)) := (rfl)
theorem q_list_tup (xs : List D) : gList [.tup xs] = some (.own (.lst xs)) := (rfl)
theorem q_tuple_lst (xs : List D) : gTuple [.lst xs] = some (.tup xs) := (rfl)
theorem q_tuple_tup (xs : List D) : gTuple [.tup xs] = some (.tup xs) := (rfl)
theorem q_int_int (k : Int) : gInt [.int k] = some (.int k) := (rfl)
theorem q_int_bl (b : Bool) : gInt [.bl b] = some (.int (if b then 1 else 0)) := (rfl)
theorem q_abs (k : Int) : gAbs [.int k] = some (.int (if k < 0 then -k else k)) := (rfl)
theorem q_min2 (i j : Int) : gMin2 [.int i, .int j] = some (.int (if j < i then j else i)) := (rfl)
theorem q_sum (xs : List D) : gSum [.lst xs] = (intsD xs).map fun bs => .int bs.sum := (rfl)
theorem q_allany (f : List Bool → Bool) (xs : List D) : gAllAny f [.lst xs] = (bls xs).map fun bs => .bl (f bs) := (rfl)
theorem q_gI (f : Int → Int → Option Int) (i j : Int) : gI f (.int i) (.int j) = (f i j).map .int := (rfl)
theorem q_cmp (p : Int → Int → Bool) (i j : Int) : gCmp p (.int i) (.int j) = some (.bl (p i j)) := (rfl)
theorem q_add_int (i j : Int) : gAdd (.int i) (.int j) = some (.int (i + j)) := (rfl)
theorem q_add_lst (xs ys : List D) : gAdd (.lst xs) (.lst ys) = if xs.length + ys.length ≤ sizeLine then some (.own (.lst (xs ++ ys))) else none := (rfl)
theorem q_add_tup (xs ys : List D) : gAdd (.tup xs) (.tup ys) = if xs.length + ys.length ≤ sizeLine then some (.tup (xs ++ ys)) else none := (rfl)
theorem q_neg (i : Int) : gNeg (.int i) = some (.int (-i)) := (rfl)
theorem q_isN_non (x : D) : gIsN false x .non = some (.bl (isNonD x)) := (rfl)
theorem q_notN_non (x : D) : gIsN true x .non = some (.bl (!isNonD x)) := (rfl)
theorem q_isNon_non  : isNonD (.non) = true := (rfl)
theorem q_isNon_bl (b : Bool) : isNonD (.bl b) = false := (rfl)
theorem q_isNon_int (k : Int) : isNonD (.int k) = false := (rfl)
theorem q_isNon_str (x : Str) : isNonD (.str x) = false := (rfl)
theorem q_isNon_ref (a : Addr) : isNonD (.ref a) = false := (rfl)
theorem q_isNon_tup (xs : List D) : isNonD (.tup xs) = false := (rfl)
theorem q_isNon_lst (xs : List D) : isNonD (.lst xs) = false := (rfl)
theorem q_isNon_scr (xs : List D) : isNonD (.scr xs) = false := (rfl)
theorem q_isNon_dct (xs : List (D × D)) : isNonD (.dct xs) = false := (rfl)
theorem q_isi_non_int  : gIsi "int" (.non) = some (.bl false) := (rfl)
theorem q_isi_non_bool  : gIsi "bool" (.non) = some (.bl false) := (rfl)
theorem q_isi_non_str  : gIsi "str" (.non) = some (.bl false) := (rfl)
theorem q_isi_non_list  : gIsi "list" (.non) = some (.bl false) := (rfl)
theorem q_isi_non_tuple  : gIsi "tuple" (.non) = some (.bl false) := (rfl)
theorem q_isi_bl_int (b : Bool) : gIsi "int" (.bl b) = some (.bl true) := (rfl)
theorem q_isi_bl_bool (b : Bool) : gIsi "bool" (.bl b) = some (.bl true) := (rfl)
theorem q_isi_bl_str (b : Bool) : gIsi "str" (.bl b) = some (.bl false) := (rfl)
theorem q_isi_bl_list (b : Bool) : gIsi "list" (.bl b) = some (.bl false) := (rfl)
theorem q_isi_bl_tuple (b : Bool) : gIsi "tuple" (.bl b) = some (.bl false) := (rfl)
theorem q_isi_int_int (k : Int) : gIsi "int" (.int k) = some (.bl true) := (rfl)
theorem q_isi_int_bool (k : Int) : gIsi "bool" (.int k) = some (.bl false) := (rfl)
theorem q_isi_int_str (k : Int) : gIsi "str" (.int k) = some (.bl false) := (rfl)
theorem q_isi_int_list (k : Int) : gIsi "list" (.int k) = some (.bl false) := (rfl)
theorem q_isi_int_tuple (k : Int) : gIsi "tuple" (.int k) = some (.bl false) := (rfl)
theorem q_isi_str_int (x : Str) : gIsi "int" (.str x) = some (.bl false) := (rfl)
theorem q_isi_str_bool (x : Str) : gIsi "bool" (.str x) = some (.bl false) := (rfl)
theorem q_isi_str_str (x : Str) : gIsi "str" (.str x) = some (.bl true) := (rfl)
theorem q_isi_str_list (x : Str) : gIsi "list" (.str x) = some (.bl false) := (rfl)
theorem q_isi_str_tuple (x : Str) : gIsi "tuple" (.str x) = some (.bl false) := (rfl)
theorem q_isi_lst_int (xs : List D) : gIsi "int" (.lst xs) = some (.bl false) := (rfl)
theorem q_isi_lst_bool (xs : List D) : gIsi "bool" (.lst xs) = some (.bl false) := (rfl)
theorem q_isi_lst_str (xs : List D) : gIsi "str" (.lst xs) = some (.bl false) := (rfl)
theorem q_isi_lst_list (xs : List D) : gIsi "list" (.lst xs) = some (.bl true) := (rfl)
theorem q_isi_lst_tuple (xs : List D) : gIsi "tuple" (.lst xs) = some (.bl false) := (rfl)
theorem q_isi_tup_int (xs : List D) : gIsi "int" (.tup xs) = some (.bl false) := (rfl)
theorem q_isi_tup_bool (xs : List D) : gIsi "bool" (.tup xs) = some (.bl false) := (rfl)
theorem q_isi_tup_str (xs : List D) : gIsi "str" (.tup xs) = some (.bl false) := (rfl)
theorem q_isi_tup_list (xs : List D) : gIsi "list" (.tup xs) = some (.bl false) := (rfl)
theorem q_isi_tup_tuple (xs : List D) : gIsi "tuple" (.tup xs) = some (.bl true) := (rfl)
theorem q_fin_nx (ls : LS) : fin (.nx ls) = .ok .non := (rfl)
theorem q_fin_rt (d : D) (ls : LS) : fin (.rt d ls) = opt (retD ls d) := (rfl)
theorem q_fin_exc (x : Str) : fin (.exc x) = .exc x := (rfl)
theorem q_finIO_nx (ls : LS) : finIO (.nx ls) = (opt (ioO ls[0]?)).bind fun c => .ok (.non, c) := (rfl)
theorem q_finIO_rt (d : D) (ls : LS) : finIO (.rt d ls) = (opt (ioO ls[0]?)).bind fun c => (opt (retD ls d)).bind fun d => .ok (d, c) := (rfl)
theorem q_ioO (c : D) : ioO (some (some (.io c))) = some c := (rfl)
theorem q_zip_ll (xs ys : List D) : zipP [.lst xs, .lst ys] = some (zipD xs ys) := (rfl)
theorem q_zip_tt (xs ys : List D) : zipP [.tup xs, .tup ys] = some (zipD xs ys) := (rfl)
theorem q_iZip (ms : MA) (ls : LS) : iZip ms ls = (fz ms ls).bind fun q => (opt (zipP q.1)).bind fun ds => .ok (ds, q.2) := by
  unfold iZip
  congr 1
  funext ⟨ds, l⟩
  rcases ds with _ | ⟨a, _ | ⟨b, _ | ⟨c, ds⟩⟩⟩
  · rfl
  · cases a <;> rfl
  · cases a <;> cases b <;> rfl
  · cases a <;> cases b <;> rfl
theorem q_tup2 (gs : MGs) (x y : D) (ls : LS) : gTup' 2 gs (.tup [x, y]) ls = gs [x, y] ls := (rfl)
theorem q_tup3 (gs : MGs) (x y z : D) (ls : LS) : gTup' 3 gs (.tup [x, y, z]) ls = gs [x, y, z] ls := (rfl)
theorem q_more (g : MG) (gs : MGs) (d : D) (ds : List D) (ls : LS) : gMore g gs (d :: ds) ls = (g d ls).bind fun ls1 => gs ds ls1 := (rfl)
theorem q_none (ls : LS) : gNone [] ls = some ls := (rfl)
theorem q_tst (m : ME) (ls : LS) : tst m ls = (m ls).bind fun p => tstK p.1 p.2 := (rfl)
theorem q_tstK (b : Bool) (ls : LS) : tstK (.bl b) ls = .ok (b, ls) := (rfl)
theorem q_vNot (a : ME) : vNot a = un notD a := (rfl)
theorem q_notD (b : Bool) : notD (.bl b) = some (.bl (!b)) := (rfl)
theorem q_mIO (f : FIO) (i : Nat) (ms : MA) (ls : LS) : mIO f i ms ls = (var i ls).bind fun _ => (fz ms ls).bind fun q => ioK f i q.1 q.2 q.2[i]? := by
  unfold mIO ioK
  rfl
theorem q_ioK_own (f : FIO) (i : Nat) (ds : List D) (ls : LS) (c : D) : ioK f i ds ls (some (some (.own c))) = (f c ds).bind fun r => .ok (r.1, ls.set i (some (.own r.2))) := (rfl)
theorem q_ioK_io (f : FIO) (i : Nat) (ds : List D) (ls : LS) (c : D) : ioK f i ds ls (some (some (.io c))) = (f c ds).bind fun r => .ok (r.1, ls.set i (some (.io r.2))) := (rfl)
theorem q_sl_lst (lo hi : Option Int) (xs : List D) : gSl lo hi (.lst xs) = some (.own (.lst (cutD xs lo hi))) := (rfl)
theorem q_sl_tup (lo hi : Option Int) (xs : List D) : gSl lo hi (.tup xs) = some (.tup (cutD xs lo hi)) := (rfl)
theorem q_oYes (m : ME) (ls : LS) : oYes m ls = (val m ls).bind fun p => intK p.1 p.2 := (rfl)
theorem q_intK (i : Int) (ls : LS) : intK (.int i) ls = .ok (some i, ls) := (rfl)
theorem q_chain (g g' : D → D → Option D) (ma mb mc : ME) (ls : LS) : chain g g' ma mb mc ls = (val ma ls).bind fun p => (val mb p.2).bind fun q =>
  (opt (see q.2 p.1)).bind fun x => (opt (see q.2 q.1)).bind fun y => chK g' mc q (g x y) := by
  unfold chain chK
  rfl
theorem q_chT (g' : D → D → Option D) (mc : ME) (q : D × LS) : chK g' mc q (some (.bl true)) = (val mc q.2).bind fun r => (opt (see r.2 q.1)).bind fun y => (opt (see r.2 r.1)).bind fun z => (opt (g' y z)).bind fun d => .ok (d, r.2) := (rfl)
theorem q_chF (g' : D → D → Option D) (mc : ME) (q : D × LS) : chK g' mc q (some (.bl false)) = .ok (.bl false, q.2) := (rfl)
theorem q_range (ms : MA) (ls : LS) : iRange ms ls = (ms ls).bind fun q => (opt (sees q.2 q.1)).bind fun ds => rgK ds q.2 := by
  unfold iRange rgK
  congr 1
  funext q
  cases sees q.2 q.1 with
  | none => rfl
  | some ds =>
    rw [opt_some, Res.bind_ok]
    rcases ds with _ | ⟨a, _ | ⟨b, _ | ⟨c, ds⟩⟩⟩
    · rfl
    · cases a <;> first | rfl | (dsimp only; split <;> rfl) | (dsimp only; congr)
    · cases a <;> cases b <;> first | rfl | (dsimp only; congr)
    · cases a <;> cases b <;> rfl
theorem q_rg1 {n : Int} (h : inB n) (ls : LS) : rgK [.int n] ls = .ok (intsUp 0 n.toNat, ls) := if_pos h
theorem q_rg2 {a b : Int} (h : inB a) (h2 : inB b) (ls : LS) : rgK [.int a, .int b] ls = .ok (intsUp a (b - a).toNat, ls) := if_pos ⟨h, h2⟩
theorem q_sSet (i : Nat) (mk mv : ME) (ls : LS) : sSet i mk mv ls = (frzv mv ls).fl fun p => (opt (slotL p.2 i)).fl fun _ => (val mk p.2).fl fun q => (opt (see q.2 q.1)).fl fun k => setK i k p.1 q.2 := by
  unfold sSet setK
  congr 1
  funext p
  congr 1
  funext _
  congr 1
  funext q
  cases see q.2 q.1 with
  | none => rfl
  | some d => cases d <;> rfl
theorem q_setK (i : Nat) (k : Int) (v : D) (ls : LS) : setK i (.int k) v ls = (opt (slotL ls i)).fl fun r => (opt (L2.ixN r.2.length k)).fl fun j => .nx (ls.set i (some (putL r.1 (r.2.set j v)))) := (rfl)
theorem q_turn_nx (l : LS) (I B : LS → Prop) (R : Fl → Prop) : Turn (.nx l) I B R = I l := (rfl)
theorem q_turn_ct (l : LS) (I B : LS → Prop) (R : Fl → Prop) : Turn (.ct l) I B R = I l := (rfl)
theorem q_turn_bk (l : LS) (I B : LS → Prop) (R : Fl → Prop) : Turn (.bk l) I B R = B l := (rfl)
theorem q_turn_rt (d : D) (l : LS) (I B : LS → Prop) (R : Fl → Prop) : Turn (.rt d l) I B R = R (.rt d l) := (rfl)
theorem q_turn_exc (x : Str) (I B : LS → Prop) (R : Fl → Prop) : Turn (.exc x) I B R = R (.exc x) := (rfl)
theorem q_at0 {α : Type} (a : α) (l : List α) : L2.atI (a :: l) 0 = some a := by
  have h : L2.ixN (a :: l).length 0 = some 0 := ixN_nat (i := 0) (by simp only [List.length_cons]; omega)
  unfold L2.atI
  rw [h]; rfl
theorem q_at1 {α : Type} (a b : α) (l : List α) : L2.atI (a :: b :: l) 1 = some b := by
  have h : L2.ixN (a :: b :: l).length 1 = some 1 := ixN_nat (i := 1) (by simp only [List.length_cons]; omega)
  unfold L2.atI
  rw [h]; rfl
theorem q_at2 {α : Type} (a b c : α) (l : List α) : L2.atI (a :: b :: c :: l) 2 = some c := by
  have h : L2.ixN (a :: b :: c :: l).length 2 = some 2 := ixN_nat (i := 2) (by simp only [List.length_cons]; omega)
  unfold L2.atI
  rw [h]; rfl
theorem q_at3 {α : Type} (a b c d : α) (l : List α) : L2.atI (a :: b :: c :: d :: l) 3 = some d := by
  have h : L2.ixN (a :: b :: c :: d :: l).length 3 = some 3 := ixN_nat (i := 3) (by simp only [List.length_cons]; omega)
  unfold L2.atI
  rw [h]; rfl
theorem q_at4 {α : Type} (a b c d e : α) (l : List α) : L2.atI (a :: b :: c :: d :: e :: l) 4 = some e := by
  have h : L2.ixN (a :: b :: c :: d :: e :: l).length 4 = some 4 := ixN_nat (i := 4) (by simp only [List.length_cons]; omega)
  unfold L2.atI
  rw [h]; rfl
theorem q_at5 {α : Type} (a b c d e f : α) (l : List α) : L2.atI (a :: b :: c :: d :: e :: f :: l) 5 = some f := by
  have h : L2.ixN (a :: b :: c :: d :: e :: f :: l).length 5 = some 5 := ixN_nat (i := 5) (by simp only [List.length_cons]; omega)
  unfold L2.atI
  rw [h]; rfl
theorem q_at6 {α : Type} (a b c d e f g : α) (l : List α) : L2.atI (a :: b :: c :: d :: e :: f :: g :: l) 6 = some g := by
  have h : L2.ixN (a :: b :: c :: d :: e :: f :: g :: l).length 6 = some 6 := ixN_nat (i := 6) (by simp only [List.length_cons]; omega)
  unfold L2.atI
  rw [h]; rfl
theorem q_at7 {α : Type} (a b c d e f g h : α) (l : List α) : L2.atI (a :: b :: c :: d :: e :: f :: g :: h :: l) 7 = some h := by
  have h : L2.ixN (a :: b :: c :: d :: e :: f :: g :: h :: l).length 7 = some 7 := ixN_nat (i := 7) (by simp only [List.length_cons]; omega)
  unfold L2.atI
  rw [h]; rfl
theorem u_mkF (n N : Nat) (b : MS) (ds : List D) : mkF n N b ds = if ds.length = n then fin (b (startD N ds)) else .stuck := (rfl)
theorem u_mkIO (n N : Nat) (b : MS) (c : D) (ds : List D) : mkIO n N b c ds = if ds.length = n then finIO (b (startD N (.io c :: ds))) else .stuck := (rfl)
theorem u_startD (n : Nat) (ds : List D) : startD n ds = ds.map some ++ List.replicate (n - ds.length) none := (rfl)
theorem u_sq (a b : MS) (ls : LS) : sq a b ls = (a ls).seq b := (rfl)
theorem u_sAsg (m : ME) (g : MG) (ls : LS) : sAsg m g ls = (m ls).fl fun p => (opt (shr p)).fl fun q => (opt (g q.1 q.2)).fl .nx := (rfl)
theorem u_sRet (m : ME) (ls : LS) : sRet m ls = (m ls).fl fun p => .rt p.1 p.2 := (rfl)
theorem u_sDrop (m : ME) (ls : LS) : sDrop m ls = (m ls).fl fun p => .nx p.2 := (rfl)
theorem u_sIf (t : MT) (a b : MS) (ls : LS) : sIf t a b ls = (t ls).fl fun p => if p.1 then a p.2 else b p.2 := (rfl)
theorem u_nop (ls : LS) : nop ls = .nx ls := (rfl)
theorem u_hold (m : ME) (ls : LS) : hold m ls = (m ls).bind fun p => opt (shr p) := (rfl)
theorem u_sPar (i j : Nat) (ma mb : ME) (ls : LS) : sPar i j ma mb ls = (hold ma ls).fl fun p => (hold mb p.2).fl fun q => .nx ((q.2.set i (some p.1)).set j (some q.1)) := (rfl)
theorem u_sPar3 (i j k : Nat) (ma mb mc : ME) (ls : LS) : sPar3 i j k ma mb mc ls = (hold ma ls).fl fun p => (hold mb p.2).fl fun q => (hold mc q.2).fl fun r => .nx (((r.2.set i (some p.1)).set j (some q.1)).set k (some r.1)) := (rfl)
theorem u_gN (i : Nat) (d : D) (ls : LS) : gN i d ls = some (ls.set i (some d)) := (rfl)
theorem u_cst (d : D) (ls : LS) : cst d ls = .ok (d, ls) := (rfl)
theorem u_val (m : ME) (ls : LS) : val m ls = (m ls).bind fun p => (opt (stl p.1)).bind fun x => .ok (x, p.2) := (rfl)
theorem u_un (g : D → Option D) (ma : ME) (ls : LS) : un g ma ls = (val ma ls).bind fun p => (opt (see p.2 p.1)).bind fun x => (opt (g x)).bind fun d => .ok (d, p.2) := (rfl)
theorem u_bin (g : D → D → Option D) (ma mb : ME) (ls : LS) : DL.bin g ma mb ls = (val ma ls).bind fun p => (val mb p.2).bind fun q => (opt (see q.2 p.1)).bind fun x => (opt (see q.2 q.1)).bind fun y => (opt (g x y)).bind fun d => .ok (d, q.2) := (rfl)
theorem u_ite (t : MT) (a b : ME) (ls : LS) : DL.ite t a b ls = (t ls).bind fun p => if p.1 then a p.2 else b p.2 := (rfl)
theorem u_vAnd (a b : ME) (ls : LS) : vAnd a b ls = (tst a ls).bind fun p => if p.1 then b p.2 else .ok (.bl false, p.2) := (rfl)
theorem u_vOr (a b : ME) (ls : LS) : vOr a b ls = (tst a ls).bind fun p => if p.1 then .ok (.bl true, p.2) else b p.2 := (rfl)
theorem u_mAnd (a b : MT) (ls : LS) : mAnd a b ls = (a ls).bind fun p => if p.1 then b p.2 else .ok (false, p.2) := (rfl)
theorem u_mOr (a b : MT) (ls : LS) : mOr a b ls = (a ls).bind fun p => if p.1 then .ok (true, p.2) else b p.2 := (rfl)
theorem u_mNot (a : MT) (ls : LS) : mNot a ls = (a ls).bind fun p => .ok (!p.1, p.2) := (rfl)
theorem u_mCall (f : FD) (ms : MA) (ls : LS) : mCall f ms ls = (fz ms ls).bind fun q => (f q.1).bind fun d => .ok (d, q.2) := (rfl)
theorem u_fz (ms : MA) (ls : LS) : fz ms ls = (ms ls).bind fun q => opt (frzs q.2 q.1) := (rfl)
theorem u_frzs0 (ls : LS) : frzs ls [] = some ([], ls) := (rfl)
theorem u_frzs1 (ls : LS) (d : D) (ds : List D) : frzs ls (d :: ds) = (frz ls d).bind fun p => (frzs p.2 ds).bind fun q => some (p.1 :: q.1, q.2) := (rfl)
theorem u_aNil (ls : LS) : aNil ls = .ok ([], ls) := (rfl)
theorem u_aCons (m : ME) (ms : MA) (ls : LS) : aCons m ms ls = (val m ls).bind fun p => (ms p.2).bind fun q => .ok (p.1 :: q.1, q.2) := (rfl)
theorem u_mTup (ms : MA) (ls : LS) : mTup ms ls = (fz ms ls).bind fun q => if q.1.length ≤ sizeLine then .ok (.tup q.1, q.2) else .stuck := (rfl)
theorem u_mLst (ms : MA) (ls : LS) : mLst ms ls = (fz ms ls).bind fun q => if q.1.length ≤ sizeLine then .ok (.own (.lst q.1), q.2) else .stuck := (rfl)
theorem u_cb (g : List D → Option D) (ms : MA) (ls : LS) : cb g ms ls = (ms ls).bind fun q => (opt (sees q.2 q.1)).bind fun xs => (opt (g xs)).bind fun d => .ok (d, q.2) := (rfl)
theorem u_sees0 (ls : LS) : sees ls [] = some [] := (rfl)
theorem u_sees1 (ls : LS) (d : D) (ds : List D) : sees ls (d :: ds) = (see ls d).bind fun x => (sees ls ds).bind fun xs => some (x :: xs) := (rfl)
theorem u_frzv (m : ME) (ls : LS) : frzv m ls = (val m ls).bind fun p => opt (frz p.2 p.1) := (rfl)
theorem u_mApp (i : Nat) (m : ME) (ls : LS) : mApp i m ls = (opt (slotL ls i)).bind fun _ => (frzv m ls).bind fun p => (opt (slotL p.2 i)).bind fun q => if q.2.length < sizeLine then .ok (.non, p.2.set i (some (putL q.1 (q.2 ++ [p.1])))) else .stuck := (rfl)
theorem u_mSl (me : ME) (ml mh : MO) (ls : LS) : mSl me ml mh ls = (val me ls).bind fun p => (ml p.2).bind fun q => (mh q.2).bind fun r => (opt (see r.2 p.1)).bind fun x => (opt (gSl q.1 r.1 x)).bind fun d => .ok (d, r.2) := (rfl)
theorem u_oNo (ls : LS) : oNo ls = .ok (none, ls) := (rfl)
theorem u_mBM (T : String) (g : D → List D → Option D) (mo : ME) (ms : MA) (ls : LS) : mBM T g mo ms ls = (val mo ls).bind fun p => (opt (see p.2 p.1)).bind fun x0 => if tyD T x0 then (ms p.2).bind fun q => (opt (see q.2 p.1)).bind fun x => (opt (sees q.2 q.1)).bind fun xs => (opt (g x xs)).bind fun d => .ok (d, q.2) else .stuck := (rfl)
theorem u_tyS (x : Str) : tyD "str" (.str x) = true := (rfl)
theorem u_tyL (xs : List D) : tyD "list" (.lst xs) = true := (rfl)
theorem u_fSub (i j : Int) : fSub i j = some (i - j) := (rfl)
theorem u_iSeq (m : ME) (ls : LS) : iSeq m ls = (frzv m ls).bind fun p => (opt (seqOf p.1)).bind fun xs => .ok (xs, p.2) := (rfl)
theorem u_wipe0 (ls : LS) : wipeL ls [] = ls := (rfl)
theorem u_wipe1 (ls : LS) (v : Nat) (vs : List Nat) : wipeL ls (v :: vs) = (wipeL ls vs).set v none := (rfl)
theorem u_back0 (a ls : LS) : backL a ls [] = ls := (rfl)
theorem u_back1 (a ls : LS) (v : Nat) (vs : List Nat) : backL a ls (v :: vs) = (backL a ls vs).set v (keepD a[v]?) := (rfl)
theorem u_tAlways (ls : LS) : tAlways ls = .ok (true, ls) := (rfl)
theorem u_mLook (f : FD) (ms : MA) (ls : LS) : mLook f ms ls = (ms ls).bind fun q => (opt (sees q.2 q.1)).bind fun xs => if xs.all lookD then (f xs).bind fun d => if plainR d then .ok (d, q.2) else .stuck else .stuck := (rfl)
theorem u_bok {α β : Type} (x : α) (f : α → Res β) : (Res.ok x).bind f = f x := (rfl)
theorem u_bex {α β : Type} (x : Str) (f : α → Res β) : (Res.exc x : Res α).bind f = .exc x := (rfl)
theorem u_bst {α β : Type} (f : α → Res β) : (Res.stuck : Res α).bind f = .stuck := (rfl)
theorem u_fok {α : Type} (x : α) (f : α → Fl) : (Res.ok x).fl f = f x := (rfl)
theorem u_fex {α : Type} (x : Str) (f : α → Fl) : (Res.exc x : Res α).fl f = .exc x := (rfl)
theorem u_fst {α : Type} (f : α → Fl) : (Res.stuck : Res α).fl f = .stuck := (rfl)
theorem u_snx (l : LS) (k : LS → Fl) : (Fl.nx l).seq k = k l := (rfl)
theorem u_srt (d : D) (l : LS) (k : LS → Fl) : (Fl.rt d l).seq k = .rt d l := (rfl)
theorem u_sex (x : Str) (k : LS → Fl) : (Fl.exc x).seq k = .exc x := (rfl)
theorem u_sct (l : LS) (k : LS → Fl) : (Fl.ct l).seq k = .ct l := (rfl)
theorem u_sbk (l : LS) (k : LS → Fl) : (Fl.bk l).seq k = .bk l := (rfl)
theorem u_os {α : Type} (x : α) : opt (some x) = .ok x := (rfl)
theorem u_on {α : Type} : (opt none : Res α) = .stuck := (rfl)
theorem u_comp (mi : MI) (g : MG) (t : MT) (e : ME) (vs : List Nat) (ls : LS) : mComp mi g t e vs ls = (mi ls).bind fun q => compB g t e vs q.1 q.2 := (rfl)
theorem u_for (mi : MI) (g : MG) (b : MS) (ls : LS) : sFor mi g b ls = (mi ls).fl fun q => forL g b q.1 q.2 := (rfl)
theorem u_mCame (err : Str → Option Str) (m : ME) (ls : LS) : mCame err m ls = cameK err ls (m (shut ls)) := by
  unfold mCame cameK
  cases m (shut ls) with
  | ok p => cases p; exact (rfl)
  | exc x => exact (rfl)
  | stuck => exact (rfl)
theorem u_cameOk (err : Str → Option Str) (ls l : LS) (d : D) : cameK err ls (.ok (d, l)) = (opt ((retD l d).bind stl)).bind fun d' => .ok (.own (.lst [d']), ls) := (rfl)
theorem u_cameEx (err : Str → Option Str) (ls : LS) (x : Str) : cameK err ls (.exc x) = (opt (err x)).bind fun y => .ok (.str y, ls) := (rfl)
theorem u_shut (ls : LS) : shut ls = ls.map keepO := (rfl)
end DL

end WQ
section FA
set_option Elab.async false
set_option linter.all false
set_option autoImplicit false
set_option maxRecDepth 100000
namespace DC
open PySem PySem.Spec DL
theorem line1 : 1 ≤ sizeLine := by rw [sizeLine_eq]; omega
theorem line0 : 0 ≤ sizeLine := Nat.zero_le _
/-- the figures of n, ones first -/
def digs (b : Int) : Nat → Int → List Int
  | 0, _ => []
  | t + 1, n => if 0 < n then n % b :: digs b t (n / b) else []
theorem digs_len (b : Int) : ∀ (t : Nat) (n : Int), (digs b t n).length ≤ t
  | 0, _ => Nat.le_refl _
  | t + 1, n => by
    unfold digs
    split
    · rw [List.length_cons]; exact Nat.succ_le_succ (digs_len b t _)
    · exact Nat.zero_le _
theorem digs_mem {b : Int} (hb : 0 < b) : ∀ (t : Nat) (n : Int), ∀ x ∈ digs b t n, 0 ≤ x ∧ x < b
  | 0, _, x, h => by cases h
  | t + 1, n, x, h => by
    unfold digs at h
    split at h
    · rcases List.mem_cons.mp h with e | h
      · subst e; exact ⟨Int.emod_nonneg _ (by omega), Int.emod_lt_of_pos _ hb⟩
      · exact digs_mem hb t _ x h
    · cases h
theorem fdiv_ok {b : Int} (h : 2 ≤ b) (h4 : b ≤ 4) (n : Int) : fDiv n b = some (n / b) := by
  unfold fDiv
  rw [if_pos]
  refine ⟨by omega, ?_⟩
  have : b = 2 ∨ b = 3 ∨ b = 4 := by omega
  rcases this with rfl | rfl | rfl <;> decide
theorem fmod_ok {b : Int} (h : 0 < b) (n : Int) : fMod n b = some (n % b) := by
  unfold fMod
  rw [if_pos h]
theorem half {b n : Int} {t : Nat} (h : 2 ≤ b) (h0 : 0 < n) (hn : n < 2 ^ (t + 1)) : 0 ≤ n / b ∧ n / b < 2 ^ t := by
  refine ⟨Int.ediv_nonneg (by omega) (by omega), Int.ediv_lt_of_lt_mul (by omega) ?_⟩
  have : (2 : Int) ^ t * 2 ≤ 2 ^ t * b := Int.mul_le_mul_of_nonneg_left h (Int.le_of_lt (Int.pow_pos (by decide)))
  rw [Int.pow_succ] at hn
  exact Int.lt_of_lt_of_le hn this
theorem loop_fig {b : Int} (h : 2 ≤ b) (h4 : b ≤ 4) : ∀ (t : Nat) (n : Int) (acc : List Int), 0 ≤ n → n < 2 ^ t → acc.length + t ≤ 1000 →
    sWhl (tst (DL.bin gGt (var 1) (cst (.int 0)))) (sq (sAsg (DL.bin gAdd (var 2) (mLst (aCons (DL.bin (gI fMod) (var 1) (var 0)) (aNil)))) (gN 2)) (sAsg (DL.bin (gI fDiv) (var 1) (var 0)) (gN 1))) [some (.int b), some (.int n), some (.own (.lst (acc.map .int)))] =
      .nx [some (.int b), some (.int 0), some (.own (.lst ((acc ++ digs b t n).map .int)))]
  | 0, n, acc, h0, hn, _ => by
    have e : n = 0 := by simp at hn; omega
    subst e
    rw [sWhl_eq]
    simp [mkF, DL.bin, DL.ite, L2.atI, mkIO, startD, sq, sAsg, sRet, sDrop, sIf, nop, Res.fl, Fl.seq, Res.bind, opt, shr, frz, gN, var, cst, val, stl, un, see, cont, fin, retD, retC, finIO, ioC, vAnd, vOr, vNot, tst, chain, mAnd, mOr, mNot, mCall, fz, frzs, aNil, aCons, mTup, mLst, cb, sees, sSet, frzv, slotL, putL, mApp, gI, gCmp, gAdd, fSub, gInt, gIx, gLen, gIsi, tyName, isTy, List.map_cons, List.map_nil, List.length_cons, List.length_nil, List.replicate_succ, List.replicate_zero, List.cons_append, List.nil_append, List.getElem?_cons_zero, List.getElem?_cons_succ, List.getElem?_nil, List.set_cons_zero, List.set_cons_succ, Option.bind_some, Option.bind_none, Option.map_some, Option.map_none, if_true, if_false, Nat.reduceAdd, Nat.reduceSub, Nat.reduceLeDiff, Bool.not_true, Bool.not_false, reduceIte, Bool.false_eq_true, ne_eq, not_true_eq_false, not_false_eq_true, digs]
  | t + 1, n, acc, h0, hn, hl => by
    rw [sWhl_eq]
    by_cases hp : 0 < n
    · have hh := half h hp hn
      have ih := loop_fig h h4 t (n / b) (acc ++ [n % b]) hh.1 hh.2 (by rw [List.length_append, List.length_singleton]; omega)
      have hs : acc.length + 1 ≤ sizeLine := by rw [sizeLine_eq]; omega
      simp only [mkF, DL.bin, DL.ite, L2.atI, mkIO, startD, sq, sAsg, sRet, sDrop, sIf, nop, Res.fl, Fl.seq, Res.bind, opt, shr, frz, gN, var, cst, val, stl, un, see, cont, fin, retD, retC, finIO, ioC, vAnd, vOr, vNot, tst, chain, mAnd, mOr, mNot, mCall, fz, frzs, aNil, aCons, mTup, mLst, cb, sees, sSet, frzv, slotL, putL, mApp, gI, gCmp, gAdd, fSub, gInt, gIx, gLen, gIsi, tyName, isTy, List.map_cons, List.map_nil, List.length_cons, List.length_nil, List.replicate_succ, List.replicate_zero, List.cons_append, List.nil_append, List.getElem?_cons_zero, List.getElem?_cons_succ, List.getElem?_nil, List.set_cons_zero, List.set_cons_succ, Option.bind_some, Option.bind_none, Option.map_some, Option.map_none, if_true, if_false, Nat.reduceAdd, Nat.reduceSub, Nat.reduceLeDiff, Bool.not_true, Bool.not_false, reduceIte, Bool.false_eq_true, ne_eq, not_true_eq_false, not_false_eq_true, decide_eq_true hp, fmod_ok (show 0 < b by omega), fdiv_ok h h4, List.length_map, line1, hs]
      rw [List.map_append, List.map_cons, List.map_nil] at ih
      rw [ih]
      rw [show digs b (t + 1) n = n % b :: digs b t (n / b) from by rw [digs, if_pos hp], List.append_assoc]; rfl
    · have e : n = 0 := by omega
      subst e
      simp [mkF, DL.bin, DL.ite, L2.atI, mkIO, startD, sq, sAsg, sRet, sDrop, sIf, nop, Res.fl, Fl.seq, Res.bind, opt, shr, frz, gN, var, cst, val, stl, un, see, cont, fin, retD, retC, finIO, ioC, vAnd, vOr, vNot, tst, chain, mAnd, mOr, mNot, mCall, fz, frzs, aNil, aCons, mTup, mLst, cb, sees, sSet, frzv, slotL, putL, mApp, gI, gCmp, gAdd, fSub, gInt, gIx, gLen, gIsi, tyName, isTy, List.map_cons, List.map_nil, List.length_cons, List.length_nil, List.replicate_succ, List.replicate_zero, List.cons_append, List.nil_append, List.getElem?_cons_zero, List.getElem?_cons_succ, List.getElem?_nil, List.set_cons_zero, List.set_cons_succ, Option.bind_some, Option.bind_none, Option.map_some, Option.map_none, if_true, if_false, Nat.reduceAdd, Nat.reduceSub, Nat.reduceLeDiff, Bool.not_true, Bool.not_false, reduceIte, Bool.false_eq_true, ne_eq, not_true_eq_false, not_false_eq_true, digs]
theorem figs {b n : Int} (h : 2 ≤ b) (h4 : b ≤ 4) (h0 : 0 ≤ n) (hn : n < 2 ^ 100) : f_figures_of [.int b, .int n] = .ok (.own (.lst ((digs b 100 n).map .int))) := by
  have q := loop_fig h h4 100 n [] h0 hn (by decide)
  rw [List.map_nil, List.nil_append] at q
  unfold f_figures_of b_figures_of
  simp only [mkF, DL.bin, DL.ite, L2.atI, mkIO, startD, sq, sAsg, sRet, sDrop, sIf, nop, Res.fl, Fl.seq, Res.bind, opt, shr, frz, gN, var, cst, val, stl, un, see, cont, fin, retD, retC, finIO, ioC, vAnd, vOr, vNot, tst, chain, mAnd, mOr, mNot, mCall, fz, frzs, aNil, aCons, mTup, mLst, cb, sees, sSet, frzv, slotL, putL, mApp, gI, gCmp, gAdd, fSub, gInt, gIx, gLen, gIsi, tyName, isTy, List.map_cons, List.map_nil, List.length_cons, List.length_nil, List.replicate_succ, List.replicate_zero, List.cons_append, List.nil_append, List.getElem?_cons_zero, List.getElem?_cons_succ, List.getElem?_nil, List.set_cons_zero, List.set_cons_succ, Option.bind_some, Option.bind_none, Option.map_some, Option.map_none, if_true, if_false, Nat.reduceAdd, Nat.reduceSub, Nat.reduceLeDiff, Bool.not_true, Bool.not_false, reduceIte, Bool.false_eq_true, ne_eq, not_true_eq_false, not_false_eq_true, line0]
  rw [q]
  simp only [mkF, DL.bin, DL.ite, L2.atI, mkIO, startD, sq, sAsg, sRet, sDrop, sIf, nop, Res.fl, Fl.seq, Res.bind, opt, shr, frz, gN, var, cst, val, stl, un, see, cont, fin, retD, retC, finIO, ioC, vAnd, vOr, vNot, tst, chain, mAnd, mOr, mNot, mCall, fz, frzs, aNil, aCons, mTup, mLst, cb, sees, sSet, frzv, slotL, putL, mApp, gI, gCmp, gAdd, fSub, gInt, gIx, gLen, gIsi, tyName, isTy, List.map_cons, List.map_nil, List.length_cons, List.length_nil, List.replicate_succ, List.replicate_zero, List.cons_append, List.nil_append, List.getElem?_cons_zero, List.getElem?_cons_succ, List.getElem?_nil, List.set_cons_zero, List.set_cons_succ, Option.bind_some, Option.bind_none, Option.map_some, Option.map_none, if_true, if_false, Nat.reduceAdd, Nat.reduceSub, Nat.reduceLeDiff, Bool.not_true, Bool.not_false, reduceIte, Bool.false_eq_true, ne_eq, not_true_eq_false, not_false_eq_true]
theorem loop_fig2 {b : Int} (h : 2 ≤ b) (h4 : b ≤ 4) : ∀ (t : Nat) (n : Int) (acc : List Int), 0 ≤ n → n < 2 ^ t → acc.length + t ≤ 1000 →
    sWhl (tst (DL.bin gGt (var 1) (cst (.int 0)))) (sq (sDrop (mApp 2 (DL.bin (gI fMod) (var 1) (var 0)))) (sAsg (DL.bin (gI fDiv) (var 1) (var 0)) (gN 1))) [some (.int b), some (.int n), some (.own (.lst (acc.map .int)))] =
      .nx [some (.int b), some (.int 0), some (.own (.lst ((acc ++ digs b t n).map .int)))]
  | 0, n, acc, h0, hn, _ => by
    have e : n = 0 := by simp at hn; omega
    subst e
    rw [sWhl_eq]
    simp [mkF, DL.bin, DL.ite, L2.atI, mkIO, startD, sq, sAsg, sRet, sDrop, sIf, nop, Res.fl, Fl.seq, Res.bind, opt, shr, frz, gN, var, cst, val, stl, un, see, cont, fin, retD, retC, finIO, ioC, vAnd, vOr, vNot, tst, chain, mAnd, mOr, mNot, mCall, fz, frzs, aNil, aCons, mTup, mLst, cb, sees, sSet, frzv, slotL, putL, mApp, gI, gCmp, gAdd, fSub, gInt, gIx, gLen, gIsi, tyName, isTy, List.map_cons, List.map_nil, List.length_cons, List.length_nil, List.replicate_succ, List.replicate_zero, List.cons_append, List.nil_append, List.getElem?_cons_zero, List.getElem?_cons_succ, List.getElem?_nil, List.set_cons_zero, List.set_cons_succ, Option.bind_some, Option.bind_none, Option.map_some, Option.map_none, if_true, if_false, Nat.reduceAdd, Nat.reduceSub, Nat.reduceLeDiff, Bool.not_true, Bool.not_false, reduceIte, Bool.false_eq_true, ne_eq, not_true_eq_false, not_false_eq_true, digs]
  | t + 1, n, acc, h0, hn, hl => by
    rw [sWhl_eq]
    by_cases hp : 0 < n
    · have hh := half h hp hn
      have ih := loop_fig2 h h4 t (n / b) (acc ++ [n % b]) hh.1 hh.2 (by rw [List.length_append, List.length_singleton]; omega)
      have hs : acc.length < sizeLine := by rw [sizeLine_eq]; omega
      simp only [mkF, DL.bin, DL.ite, L2.atI, mkIO, startD, sq, sAsg, sRet, sDrop, sIf, nop, Res.fl, Fl.seq, Res.bind, opt, shr, frz, gN, var, cst, val, stl, un, see, cont, fin, retD, retC, finIO, ioC, vAnd, vOr, vNot, tst, chain, mAnd, mOr, mNot, mCall, fz, frzs, aNil, aCons, mTup, mLst, cb, sees, sSet, frzv, slotL, putL, mApp, gI, gCmp, gAdd, fSub, gInt, gIx, gLen, gIsi, tyName, isTy, List.map_cons, List.map_nil, List.length_cons, List.length_nil, List.replicate_succ, List.replicate_zero, List.cons_append, List.nil_append, List.getElem?_cons_zero, List.getElem?_cons_succ, List.getElem?_nil, List.set_cons_zero, List.set_cons_succ, Option.bind_some, Option.bind_none, Option.map_some, Option.map_none, if_true, if_false, Nat.reduceAdd, Nat.reduceSub, Nat.reduceLeDiff, Bool.not_true, Bool.not_false, reduceIte, Bool.false_eq_true, ne_eq, not_true_eq_false, not_false_eq_true, decide_eq_true hp, fmod_ok (show 0 < b by omega), fdiv_ok h h4, List.length_map, hs]
      rw [List.map_append, List.map_cons, List.map_nil] at ih
      rw [ih]
      rw [show digs b (t + 1) n = n % b :: digs b t (n / b) from by rw [digs, if_pos hp], List.append_assoc]; rfl
    · have e : n = 0 := by omega
      subst e
      simp [mkF, DL.bin, DL.ite, L2.atI, mkIO, startD, sq, sAsg, sRet, sDrop, sIf, nop, Res.fl, Fl.seq, Res.bind, opt, shr, frz, gN, var, cst, val, stl, un, see, cont, fin, retD, retC, finIO, ioC, vAnd, vOr, vNot, tst, chain, mAnd, mOr, mNot, mCall, fz, frzs, aNil, aCons, mTup, mLst, cb, sees, sSet, frzv, slotL, putL, mApp, gI, gCmp, gAdd, fSub, gInt, gIx, gLen, gIsi, tyName, isTy, List.map_cons, List.map_nil, List.length_cons, List.length_nil, List.replicate_succ, List.replicate_zero, List.cons_append, List.nil_append, List.getElem?_cons_zero, List.getElem?_cons_succ, List.getElem?_nil, List.set_cons_zero, List.set_cons_succ, Option.bind_some, Option.bind_none, Option.map_some, Option.map_none, if_true, if_false, Nat.reduceAdd, Nat.reduceSub, Nat.reduceLeDiff, Bool.not_true, Bool.not_false, reduceIte, Bool.false_eq_true, ne_eq, not_true_eq_false, not_false_eq_true, digs]
theorem figs2 {b n : Int} (h : 2 ≤ b) (h4 : b ≤ 4) (h0 : 0 ≤ n) (hn : n < 2 ^ 100) : f__law_figures [.int b, .int n] = .ok (.own (.lst ((digs b 100 n).map .int))) := by
  have q := loop_fig2 h h4 100 n [] h0 hn (by decide)
  rw [List.map_nil, List.nil_append] at q
  unfold f__law_figures b__law_figures
  simp only [mkF, DL.bin, DL.ite, L2.atI, mkIO, startD, sq, sAsg, sRet, sDrop, sIf, nop, Res.fl, Fl.seq, Res.bind, opt, shr, frz, gN, var, cst, val, stl, un, see, cont, fin, retD, retC, finIO, ioC, vAnd, vOr, vNot, tst, chain, mAnd, mOr, mNot, mCall, fz, frzs, aNil, aCons, mTup, mLst, cb, sees, sSet, frzv, slotL, putL, mApp, gI, gCmp, gAdd, fSub, gInt, gIx, gLen, gIsi, tyName, isTy, List.map_cons, List.map_nil, List.length_cons, List.length_nil, List.replicate_succ, List.replicate_zero, List.cons_append, List.nil_append, List.getElem?_cons_zero, List.getElem?_cons_succ, List.getElem?_nil, List.set_cons_zero, List.set_cons_succ, Option.bind_some, Option.bind_none, Option.map_some, Option.map_none, if_true, if_false, Nat.reduceAdd, Nat.reduceSub, Nat.reduceLeDiff, Bool.not_true, Bool.not_false, reduceIte, Bool.false_eq_true, ne_eq, not_true_eq_false, not_false_eq_true, line0]
  rw [q]
  simp only [mkF, DL.bin, DL.ite, L2.atI, mkIO, startD, sq, sAsg, sRet, sDrop, sIf, nop, Res.fl, Fl.seq, Res.bind, opt, shr, frz, gN, var, cst, val, stl, un, see, cont, fin, retD, retC, finIO, ioC, vAnd, vOr, vNot, tst, chain, mAnd, mOr, mNot, mCall, fz, frzs, aNil, aCons, mTup, mLst, cb, sees, sSet, frzv, slotL, putL, mApp, gI, gCmp, gAdd, fSub, gInt, gIx, gLen, gIsi, tyName, isTy, List.map_cons, List.map_nil, List.length_cons, List.length_nil, List.replicate_succ, List.replicate_zero, List.cons_append, List.nil_append, List.getElem?_cons_zero, List.getElem?_cons_succ, List.getElem?_nil, List.set_cons_zero, List.set_cons_succ, Option.bind_some, Option.bind_none, Option.map_some, Option.map_none, if_true, if_false, Nat.reduceAdd, Nat.reduceSub, Nat.reduceLeDiff, Bool.not_true, Bool.not_false, reduceIte, Bool.false_eq_true, ne_eq, not_true_eq_false, not_false_eq_true]
/-! ### comprehensions -/
theorem comp_map {i : Nat} {e : ME} {k : D → D} : ∀ (ds : List D) (ls : LS), (∀ d ∈ ds, frzv e (ls.set i (some d)) = .ok (k d, ls.set i (some d))) → compL (gN i) tAlways e [i] ds (ls.set i none) = some (ds.map k, ls.set i none)
  | [], ls, _ => rfl
  | d :: ds, ls, h => by
    have ih := comp_map ds ls fun x hx => h x (List.mem_cons_of_mem _ hx)
    unfold compL
    simp only [gN, Option.bind_some, tAlways, Res.get?, if_true, List.set_set, h d List.mem_cons_self, wipeL, ih, List.map_cons]
theorem comp_filter {i : Nat} {t : MT} {e : ME} {k : D → D} {p : D → Bool} : ∀ (ds : List D) (ls : LS), (∀ d ∈ ds, t (ls.set i (some d)) = .ok (p d, ls.set i (some d))) → (∀ d ∈ ds, frzv e (ls.set i (some d)) = .ok (k d, ls.set i (some d))) →
    compL (gN i) t e [i] ds (ls.set i none) = some ((ds.filter p).map k, ls.set i none)
  | [], ls, _, _ => rfl
  | d :: ds, ls, ht, h => by
    have ih := comp_filter ds ls (fun x hx => ht x (List.mem_cons_of_mem _ hx)) fun x hx => h x (List.mem_cons_of_mem _ hx)
    unfold compL
    simp only [gN, Option.bind_some, ht d List.mem_cons_self, Res.get?, List.set_set]
    cases hp : p d with
    | true => simp only [if_true, h d List.mem_cons_self, Option.bind_some, wipeL, List.set_set, ih, List.filter_cons, hp, List.map_cons]
    | false => simp only [Bool.false_eq_true, if_false, wipeL, List.set_set, ih, List.filter_cons, hp]
theorem mcomp_map {i : Nat} {mi : MI} {e : ME} {k : D → D} {ds : List D} {ls0 ls : LS} (hi : mi ls0 = .ok (ds, ls)) (h : ∀ d ∈ ds, frzv e (ls.set i (some d)) = .ok (k d, ls.set i (some d))) (hl : ds.length ≤ sizeLine) :
    mComp mi (gN i) tAlways e [i] ls0 = .ok (.own (.lst (ds.map k)), ls.set i (keepD ls[i]?)) := by
  unfold mComp
  rw [hi, Res.bind_ok]
  show (opt (compL (gN i) tAlways e [i] ds (ls.set i none))).bind _ = _
  rw [comp_map ds ls h, opt_some, Res.bind_ok, if_pos (by rw [List.length_map]; exact hl)]
  show _ = _
  simp only [backL, List.set_set]
theorem mcomp_filter {i : Nat} {mi : MI} {t : MT} {e : ME} {k : D → D} {p : D → Bool} {ds : List D} {ls0 ls : LS} (hi : mi ls0 = .ok (ds, ls)) (ht : ∀ d ∈ ds, t (ls.set i (some d)) = .ok (p d, ls.set i (some d))) (h : ∀ d ∈ ds, frzv e (ls.set i (some d)) = .ok (k d, ls.set i (some d))) (hl : ds.length ≤ sizeLine) :
    mComp mi (gN i) t e [i] ls0 = .ok (.own (.lst ((ds.filter p).map k)), ls.set i (keepD ls[i]?)) := by
  unfold mComp
  rw [hi, Res.bind_ok]
  show (opt (compL (gN i) t e [i] ds (ls.set i none))).bind _ = _
  rw [comp_filter ds ls ht h, opt_some, Res.bind_ok, if_pos (by rw [List.length_map]; exact Nat.le_trans (List.length_filter_le _ _) hl)]
  simp only [backL, List.set_set]
end DC

end FA
section FB
set_option Elab.async false
set_option linter.all false
set_option autoImplicit false
set_option maxRecDepth 100000
namespace DC
open PySem PySem.Spec DL
def rowD (r : List Int) : D := .tup (r.map .int)
/-! ### data that are compared -/
theorem toPs_ints : ∀ ns : List Int, toPs (ns.map D.int) = some (ns.map PyData.int)
  | [] => rfl
  | n :: ns => by
    show (toP (.int n)).bind (fun y => (toPs (ns.map D.int)).bind fun ys => some (y :: ys)) = _
    rw [toPs_ints ns]; rfl
theorem can_ints : ∀ ns : List Int, PyData.canLayAll0 (ns.map PyData.int) = true
  | [] => by simp only [List.map_nil, PyData.canLayAll0]
  | n :: ns => by simp only [List.map_cons, PyData.canLayAll0, PyData.canLay0, can_ints ns, Bool.and_self]
theorem dep_ints : ∀ ns : List Int, PyData.depthAll (ns.map PyData.int) = 0
  | [] => by simp only [List.map_nil, PyData.depthAll]
  | n :: ns => by simp only [List.map_cons, PyData.depthAll, PyData.depth, dep_ints ns, Nat.max_self]
theorem shape_ints (ns : List Int) : SeqAt.shaped (.list (ns.map PyData.int)) = true := by
  simp only [SeqAt.shaped, PyData.canLay0, can_ints, PyData.depth, dep_ints]; decide
theorem gEq_ints (ns ms : List Int) : gEq (.lst (ns.map .int)) (.lst (ms.map .int)) = some (.bl (decide (ns = ms))) := by
  have e : ∀ ns ms : List Int, PyData.eqvAll (ns.map PyData.int) (ms.map PyData.int) = decide (ns = ms) := by
    intro ns
    induction ns with
    | nil => intro ms; cases ms <;> simp [PyData.eqvAll]
    | cons n ns ih =>
      intro ms
      cases ms with
      | nil => simp [PyData.eqvAll]
      | cons m ms =>
        simp only [List.map_cons, PyData.eqvAll, PyData.eqv, ih ms, List.cons.injEq]
        by_cases h : n = m <;> simp [h]
  unfold gEq gEqB
  simp only [toP, toPs_ints, Option.map_some, Option.bind_some, shape_ints, Bool.and_self, if_true, PyData.eqv, e]
theorem flats_ints : ∀ ns : List Int, flatsD (ns.map D.int) = some (ns.map L2.V.int)
  | [] => rfl
  | n :: ns => by
    show (flatD (.int n)).bind (fun v => (flatsD (ns.map D.int)).bind fun vs => some (v :: vs)) = _
    rw [flats_ints ns]; rfl
theorem inV_ints (x : Int) : ∀ ns : List Int, L2.inV (.int x) (ns.map L2.V.int) = decide (x ∈ ns)
  | [] => by simp [L2.inV]
  | n :: ns => by
    have ih := inV_ints x ns
    unfold L2.inV at ih ⊢
    rw [List.map_cons, List.any_cons, ih]
    by_cases h : n = x
    · simp [L2.eqV, h]
    · simp [L2.eqV, h, Ne.symm h]
theorem gIn_row (neg : Bool) (x : Int) (r : List Int) : gIn neg (.int x) (rowD r) = some (.bl (if neg then !decide (x ∈ r) else decide (x ∈ r))) := by
  unfold gIn rowD
  simp only [flatD, seqOf, Option.bind_some, flats_ints, inV_ints]
theorem bls_map {α : Type} (f : α → Bool) : ∀ l : List α, bls (l.map fun x => D.bl (f x)) = some (l.map f)
  | [] => rfl
  | x :: l => by
    show (bls (l.map fun x => D.bl (f x))).map (f x :: ·) = _
    rw [bls_map f l]; rfl
/-! ### small defs -/
theorem within (v lo hi : Int) : f_is_within [.int v, .int lo, .int hi] = .ok (.bl (decide (lo ≤ v) && decide (v ≤ hi))) := by
  unfold f_is_within b_is_within
  by_cases h : lo ≤ v <;> simp [mkF, DL.bin, DL.ite, L2.atI, mkIO, startD, sq, sAsg, sRet, sDrop, sIf, nop, Res.fl, Fl.seq, Res.bind, opt, shr, frz, gN, var, cst, val, stl, un, see, cont, fin, retD, retC, finIO, ioC, vAnd, vOr, vNot, tst, chain, mAnd, mOr, mNot, mCall, fz, frzs, aNil, aCons, mTup, mLst, cb, sees, sSet, frzv, slotL, putL, mApp, gI, gCmp, gAdd, fSub, gInt, gIx, gLen, gIsi, tyName, isTy, List.map_cons, List.map_nil, List.length_cons, List.length_nil, List.replicate_succ, List.replicate_zero, List.cons_append, List.nil_append, List.getElem?_cons_zero, List.getElem?_cons_succ, List.getElem?_nil, List.set_cons_zero, List.set_cons_succ, Option.bind_some, Option.bind_none, Option.map_some, Option.map_none, if_true, if_false, Nat.reduceAdd, Nat.reduceSub, Nat.reduceLeDiff, Bool.not_true, Bool.not_false, reduceIte, Bool.false_eq_true, ne_eq, not_true_eq_false, not_false_eq_true, isTy, h]
theorem wide (xs : List D) (lo hi : Int) : f_is_wide [.tup xs, .int lo, .int hi] = .ok (.bl (decide (lo ≤ (xs.length : Int)) && decide ((xs.length : Int) ≤ hi))) := by
  unfold f_is_wide b_is_wide
  by_cases h : lo ≤ (xs.length : Int) <;> simp [mkF, DL.bin, DL.ite, L2.atI, mkIO, startD, sq, sAsg, sRet, sDrop, sIf, nop, Res.fl, Fl.seq, Res.bind, opt, shr, frz, gN, var, cst, val, stl, un, see, cont, fin, retD, retC, finIO, ioC, vAnd, vOr, vNot, tst, chain, mAnd, mOr, mNot, mCall, fz, frzs, aNil, aCons, mTup, mLst, cb, sees, sSet, frzv, slotL, putL, mApp, gI, gCmp, gAdd, fSub, gInt, gIx, gLen, gIsi, tyName, isTy, List.map_cons, List.map_nil, List.length_cons, List.length_nil, List.replicate_succ, List.replicate_zero, List.cons_append, List.nil_append, List.getElem?_cons_zero, List.getElem?_cons_succ, List.getElem?_nil, List.set_cons_zero, List.set_cons_succ, Option.bind_some, Option.bind_none, Option.map_some, Option.map_none, if_true, if_false, Nat.reduceAdd, Nat.reduceSub, Nat.reduceLeDiff, Bool.not_true, Bool.not_false, reduceIte, Bool.false_eq_true, ne_eq, not_true_eq_false, not_false_eq_true, isTy, h]
theorem look_number (v lo hi : Int) (h : lo ≤ v) (h2 : v ≤ hi) : f_look_at_number [.int v, .int lo, .int hi] = .ok .non := by
  unfold f_look_at_number b_look_at_number
  simp [mkF, DL.bin, DL.ite, L2.atI, mkIO, startD, sq, sAsg, sRet, sDrop, sIf, nop, Res.fl, Fl.seq, Res.bind, opt, shr, frz, gN, var, cst, val, stl, un, see, cont, fin, retD, retC, finIO, ioC, vAnd, vOr, vNot, tst, chain, mAnd, mOr, mNot, mCall, fz, frzs, aNil, aCons, mTup, mLst, cb, sees, sSet, frzv, slotL, putL, mApp, gI, gCmp, gAdd, fSub, gInt, gIx, gLen, gIsi, tyName, isTy, List.map_cons, List.map_nil, List.length_cons, List.length_nil, List.replicate_succ, List.replicate_zero, List.cons_append, List.nil_append, List.getElem?_cons_zero, List.getElem?_cons_succ, List.getElem?_nil, List.set_cons_zero, List.set_cons_succ, Option.bind_some, Option.bind_none, Option.map_some, Option.map_none, if_true, if_false, Nat.reduceAdd, Nat.reduceSub, Nat.reduceLeDiff, Bool.not_true, Bool.not_false, reduceIte, Bool.false_eq_true, ne_eq, not_true_eq_false, not_false_eq_true, within, h, h2]
theorem intsD_map : ∀ ns : List Int, intsD (ns.map D.int) = some ns
  | [] => rfl
  | n :: ns => by
    show (intsD (ns.map D.int)).map (n :: ·) = _
    rw [intsD_map ns]; rfl
theorem sortU_self {ns : List Int} (h : ns.Pairwise (· < ·)) : sortU ns = ns := up_one (sortU_up ns) h fun z => sortU_mem z ns
/-! ### twins -/
theorem kind_int (n : Int) : f__law_kind [.int n] = .ok (.int 4) := rfl
theorem kind_tup (xs : List D) : f__law_kind [.tup xs] = .ok (.int 3) := rfl
theorem kind_lst (xs : List D) : f__law_kind [.lst xs] = .ok (.int 2) := rfl
theorem gNe_int (a b : Int) : gNe (.int a) (.int b) = some (.bl (!decide (a = b))) := by
  unfold gNe gEqB
  simp only [toP, Option.bind_some, PyData.eqv]
  have : SeqAt.shaped (.int a) = true := by rfl
  have : SeqAt.shaped (.int b) = true := by rfl
  rw [if_pos (by rfl)]
  by_cases h : a = b <;> simp [h]
theorem gEq_int (a b : Int) : gEq (.int a) (.int b) = some (.bl (decide (a = b))) := by
  unfold gEq gEqB
  simp only [toP, Option.bind_some, PyData.eqv]
  rw [if_pos (by rfl)]
  by_cases h : a = b <;> simp [h]
theorem twin_int (t : Nat) (n : Int) : f__law_twins (t + 1) [.int n, .int n] = .ok (.bl true) := by
  have q : gIn false (.int 4) (.lst [.int 2, .int 3]) = some (.bl false) := by rfl
  have l2 : 2 ≤ sizeLine := by rw [sizeLine_eq]; omega
  unfold f__law_twins b__law_twins
  simp only [mkF, DL.bin, DL.ite, L2.atI, mkIO, startD, sq, sAsg, sRet, sDrop, sIf, nop, Res.fl, Fl.seq, Res.bind, opt, shr, frz, gN, var, cst, val, stl, un, see, cont, fin, retD, retC, finIO, ioC, vAnd, vOr, vNot, tst, chain, mAnd, mOr, mNot, mCall, fz, frzs, aNil, aCons, mTup, mLst, cb, sees, sSet, frzv, slotL, putL, mApp, gI, gCmp, gAdd, fSub, gInt, gIx, gLen, gIsi, tyName, isTy, List.map_cons, List.map_nil, List.length_cons, List.length_nil, List.replicate_succ, List.replicate_zero, List.cons_append, List.nil_append, List.getElem?_cons_zero, List.getElem?_cons_succ, List.getElem?_nil, List.set_cons_zero, List.set_cons_succ, Option.bind_some, Option.bind_none, Option.map_some, Option.map_none, if_true, if_false, Nat.reduceAdd, Nat.reduceSub, Nat.reduceLeDiff, Bool.not_true, Bool.not_false, reduceIte, Bool.false_eq_true, ne_eq, not_true_eq_false, not_false_eq_true, kind_int, gNe_int, q, gEq_int, decide_true, l2]
theorem comp_zip {t : MT} {e : ME} : ∀ (ps : List (D × D)) (ls : LS), (∀ p ∈ ps, t ((ls.set 2 (some p.1)).set 3 (some p.2)) = .ok (false, (ls.set 2 (some p.1)).set 3 (some p.2))) →
    compL (gTup' 2 (gMore (gN 2) (gMore (gN 3) (gNone)))) t e [2, 3] (ps.map fun p => .tup [p.1, p.2]) (wipeL ls [2, 3]) = some ([], wipeL ls [2, 3])
  | [], ls, _ => rfl
  | p :: ps, ls, h => by
    have ih := comp_zip (e := e) ps ls fun x hx => h x (List.mem_cons_of_mem _ hx)
    have e1 : ((ls.set 3 none).set 2 none).set 2 (some p.1) = (ls.set 2 (some p.1)).set 3 none := by
      rw [List.set_set, List.set_comm _ _ (by decide)]
    rw [List.map_cons]
    unfold compL
    simp only [gTup', List.length_cons, List.length_nil, if_true, gMore, gN, gNone, Option.bind_some, wipeL, e1, List.set_set, h p List.mem_cons_self, Res.get?, Bool.false_eq_true, if_false]
    have e2 : (((ls.set 2 (some p.1)).set 3 none).set 2 none) = wipeL ls [2, 3] := by
      show _ = (ls.set 3 none).set 2 none
      rw [List.set_comm _ _ (by decide), List.set_set, List.set_comm _ _ (by decide)]
    rw [e2]
    exact ih
theorem zip_self : ∀ xs : List D, zipD xs xs = (xs.map fun x => (x, x)).map fun p => D.tup [p.1, p.2]
  | [] => rfl
  | x :: xs => by rw [zipD, zip_self xs]; rfl
theorem twin_comp {r : FD} {xs : List D} {a b : D} (hz : iZip (aCons (var 0) (aCons (var 1) (aNil))) [some a, some b, none, none] = .ok (zipD xs xs, [some a, some b, none, none]))
    (hx : ∀ x ∈ xs, (∃ n, x = .int n) ∨ ∃ ys, x = .tup ys) (hr : ∀ x ∈ xs, r [x, x] = .ok (.bl true)) :
    mComp (iZip (aCons (var 0) (aCons (var 1) (aNil)))) (gTup' 2 (gMore (gN 2) (gMore (gN 3) (gNone)))) (mNot (tst (mCall r (aCons (var 2) (aCons (var 3) (aNil)))))) (cst (.int 1)) [2, 3] [some a, some b, none, none] = .ok (.own (.lst []), [some a, some b, none, none]) := by
  have q := comp_zip (t := mNot (tst (mCall r (aCons (var 2) (aCons (var 3) (aNil)))))) (e := cst (.int 1)) (xs.map fun x => (x, x)) [some a, some b, none, none] (fun p hp => by
    obtain ⟨x, hm, rfl⟩ := List.mem_map.mp hp
    have h1 := hr x hm
    rcases hx x hm with ⟨n, rfl⟩ | ⟨ys, rfl⟩ <;> simp only [mkF, DL.bin, DL.ite, L2.atI, mkIO, startD, sq, sAsg, sRet, sDrop, sIf, nop, Res.fl, Fl.seq, Res.bind, opt, shr, frz, gN, var, cst, val, stl, un, see, cont, fin, retD, retC, finIO, ioC, vAnd, vOr, vNot, tst, chain, mAnd, mOr, mNot, mCall, fz, frzs, aNil, aCons, mTup, mLst, cb, sees, sSet, frzv, slotL, putL, mApp, gI, gCmp, gAdd, fSub, gInt, gIx, gLen, gIsi, tyName, isTy, List.map_cons, List.map_nil, List.length_cons, List.length_nil, List.replicate_succ, List.replicate_zero, List.cons_append, List.nil_append, List.getElem?_cons_zero, List.getElem?_cons_succ, List.getElem?_nil, List.set_cons_zero, List.set_cons_succ, Option.bind_some, Option.bind_none, Option.map_some, Option.map_none, if_true, if_false, Nat.reduceAdd, Nat.reduceSub, Nat.reduceLeDiff, Bool.not_true, Bool.not_false, reduceIte, Bool.false_eq_true, ne_eq, not_true_eq_false, not_false_eq_true, h1])
  unfold mComp
  rw [hz, Res.bind_ok]
  dsimp only
  rw [zip_self, q, opt_some, Res.bind_ok]
  exact if_pos line0
theorem twin_seq {t : Nat} {xs : List D} (hx : ∀ x ∈ xs, (∃ n, x = .int n) ∨ ∃ ys, x = .tup ys) (hr : ∀ x ∈ xs, f__law_twins t [x, x] = .ok (.bl true)) :
    f__law_twins (t + 1) [.tup xs, .tup xs] = .ok (.bl true) ∧ f__law_twins (t + 1) [.lst xs, .lst xs] = .ok (.bl true) := by
  have q3 : gIn false (.int 3) (.lst [.int 2, .int 3]) = some (.bl true) := by rfl
  have q2 : gIn false (.int 2) (.lst [.int 2, .int 3]) = some (.bl true) := by rfl
  have qe : gEq (.lst []) (.lst []) = some (.bl true) := by rfl
  have l2 : 2 ≤ sizeLine := by rw [sizeLine_eq]; omega
  have c1 := twin_comp (r := f__law_twins t) (xs := xs) (a := .tup xs) (b := .tup xs) rfl hx hr
  have c2 := twin_comp (r := f__law_twins t) (xs := xs) (a := .lst xs) (b := .lst xs) rfl hx hr
  constructor <;> (unfold f__law_twins b__law_twins; simp only [mkF, DL.bin, DL.ite, L2.atI, mkIO, startD, sq, sAsg, sRet, sDrop, sIf, nop, Res.fl, Fl.seq, Res.bind, opt, shr, frz, gN, var, cst, val, stl, un, see, cont, fin, retD, retC, finIO, ioC, vAnd, vOr, vNot, tst, chain, mAnd, mOr, mNot, mCall, fz, frzs, aNil, aCons, mTup, mLst, cb, sees, sSet, frzv, slotL, putL, mApp, gI, gCmp, gAdd, fSub, gInt, gIx, gLen, gIsi, tyName, isTy, List.map_cons, List.map_nil, List.length_cons, List.length_nil, List.replicate_succ, List.replicate_zero, List.cons_append, List.nil_append, List.getElem?_cons_zero, List.getElem?_cons_succ, List.getElem?_nil, List.set_cons_zero, List.set_cons_succ, Option.bind_some, Option.bind_none, Option.map_some, Option.map_none, if_true, if_false, Nat.reduceAdd, Nat.reduceSub, Nat.reduceLeDiff, Bool.not_true, Bool.not_false, reduceIte, Bool.false_eq_true, ne_eq, not_true_eq_false, not_false_eq_true, kind_tup, kind_lst, gNe_int, gEq_int, q3, q2, qe, decide_true, l2, line0, c1, c2])
theorem twin_row (t : Nat) (r : List Int) : f__law_twins (t + 2) [rowD r, rowD r] = .ok (.bl true) :=
  (twin_seq (t := t + 1) (fun x hx => by obtain ⟨n, _, rfl⟩ := List.mem_map.mp hx; exact .inl ⟨n, rfl⟩) fun x hx => by obtain ⟨n, _, rfl⟩ := List.mem_map.mp hx; exact twin_int t n).1
end DC

end FB
section FC
set_option Elab.async false
set_option linter.all false
set_option autoImplicit false
set_option maxRecDepth 100000
namespace DC
open PySem PySem.Spec DL
/-! ### draws -/
def Spr (d : D) : Prop := ∃ s0 s1 : Int, d = .lst [.int s0, .int s1] ∧ 0 ≤ s0 ∧ 0 ≤ s1 ∧ s1 < 999999999989
theorem gMul_small {x : Int} (c : Int) (h : -(2 ^ 64) < x ∧ x < 2 ^ 64) : gMul (.int x) (.int c) = some (.int (x * c)) := by
  unfold gMul
  exact if_pos (.inr (.inl h))
theorem gMul_small2 {x : Int} (c : Int) (h : -(2 ^ 64) < x ∧ x < 2 ^ 64) : gMul (.int c) (.int x) = some (.int (c * x)) := by
  unfold gMul
  exact if_pos (.inr (.inr h))
theorem fdiv_any {m : Int} (h0 : 0 < m) (h : m ≤ 1000000000000000000000000000000) (n : Int) : fDiv n m = some (n / m) := by
  unfold fDiv
  refine if_pos ⟨h0, ?_⟩
  have h2 : m.natAbs < 2 ^ 9000 := by
    have : m.natAbs < 2 ^ 100 := by omega
    exact Nat.lt_of_lt_of_le this (Nat.pow_le_pow_right (by decide) (by decide))
  exact (Nat.log2_lt (by omega)).mpr h2
theorem pick {sp : D} (hs : Spr sp) {m : Int} (h0 : 0 < m) (hm : m ≤ 1000000000000000000000000000000) : ∃ d sp', f__law_pick sp [.int m] = .ok (.int d, sp') ∧ 0 ≤ d ∧ d < m ∧ Spr sp' := by
  obtain ⟨s0, s1, rfl, a0, a1, a2⟩ := hs
  have i0 : L2.ixN 2 0 = some 0 := by decide
  have i1 : L2.ixN 2 1 = some 1 := by decide
  by_cases hp : 0 < s0
  · refine ⟨s0 % m, _, ?_, Int.emod_nonneg _ (by omega), Int.emod_lt_of_pos _ h0, ⟨s0 / m, s1, rfl, Int.ediv_nonneg a0 (by omega), a1, a2⟩⟩
    unfold f__law_pick b__law_pick
    simp only [mkF, DL.bin, DL.ite, L2.atI, mkIO, startD, sq, sAsg, sRet, sDrop, sIf, nop, Res.fl, Fl.seq, Res.bind, opt, shr, frz, gN, var, cst, val, stl, un, see, cont, fin, retD, retC, finIO, ioC, vAnd, vOr, vNot, tst, chain, mAnd, mOr, mNot, mCall, fz, frzs, aNil, aCons, mTup, mLst, cb, sees, sSet, frzv, slotL, putL, mApp, gI, gCmp, gAdd, fSub, gInt, gIx, gLen, gIsi, tyName, isTy, List.map_cons, List.map_nil, List.length_cons, List.length_nil, List.replicate_succ, List.replicate_zero, List.cons_append, List.nil_append, List.getElem?_cons_zero, List.getElem?_cons_succ, List.getElem?_nil, List.set_cons_zero, List.set_cons_succ, Option.bind_some, Option.bind_none, Option.map_some, Option.map_none, if_true, if_false, Nat.reduceAdd, Nat.reduceSub, Nat.reduceLeDiff, Bool.not_true, Bool.not_false, reduceIte, Bool.false_eq_true, ne_eq, not_true_eq_false, not_false_eq_true, i0, i1, decide_eq_true hp, fmod_ok h0, fdiv_any h0 hm]
  · have q := gMul_small (x := s1) 393555900739 (by constructor <;> omega)
    have hm2 := fmod_ok (b := 999999999989) (by decide) (s1 * 393555900739 + 8191)
    have hd2 := fdiv_any (m := 4093) (by decide) (by decide) ((s1 * 393555900739 + 8191) % 999999999989)
    refine ⟨(s1 * 393555900739 + 8191) % 999999999989 / 4093 % m, _, ?_, Int.emod_nonneg _ (by omega), Int.emod_lt_of_pos _ h0, ⟨s0, (s1 * 393555900739 + 8191) % 999999999989, rfl, a0, Int.emod_nonneg _ (by decide), Int.emod_lt_of_pos _ (by decide)⟩⟩
    unfold f__law_pick b__law_pick
    simp only [mkF, DL.bin, DL.ite, L2.atI, mkIO, startD, sq, sAsg, sRet, sDrop, sIf, nop, Res.fl, Fl.seq, Res.bind, opt, shr, frz, gN, var, cst, val, stl, un, see, cont, fin, retD, retC, finIO, ioC, vAnd, vOr, vNot, tst, chain, mAnd, mOr, mNot, mCall, fz, frzs, aNil, aCons, mTup, mLst, cb, sees, sSet, frzv, slotL, putL, mApp, gI, gCmp, gAdd, fSub, gInt, gIx, gLen, gIsi, tyName, isTy, List.map_cons, List.map_nil, List.length_cons, List.length_nil, List.replicate_succ, List.replicate_zero, List.cons_append, List.nil_append, List.getElem?_cons_zero, List.getElem?_cons_succ, List.getElem?_nil, List.set_cons_zero, List.set_cons_succ, Option.bind_some, Option.bind_none, Option.map_some, Option.map_none, if_true, if_false, Nat.reduceAdd, Nat.reduceSub, Nat.reduceLeDiff, Bool.not_true, Bool.not_false, reduceIte, Bool.false_eq_true, ne_eq, not_true_eq_false, not_false_eq_true, i0, i1, decide_eq_false hp, q, hm2, hd2, fmod_ok h0]
/-- a draw from the spring in slot 2 -/
theorem pick_at {ls : LS} {sp : D} {m : Int} {e : ME} (h2 : ls[2]? = some (some (.own sp))) (he : val e ls = .ok (.int m, ls)) {d : Int} {sp' : D} (hp : f__law_pick sp [.int m] = .ok (.int d, sp')) :
    mIO f__law_pick 2 (aCons e (aNil)) ls = .ok (.int d, ls.set 2 (some (.own sp'))) := by
  unfold mIO
  simp only [var, h2, Res.bind, fz, aCons, he, aNil, opt, frzs, frz, Option.bind_some, hp]
theorem spring (i : Addr × List Int) (hb : ∀ z ∈ i.2, True) {at_ : Int} (h0 : 0 ≤ at_) (h1 : at_ ≤ 63) : ∃ sp, f__law_spring i [.ref i.1, .int at_] = .ok (.own sp) ∧ Spr sp := by
  have l2 : 2 ≤ sizeLine := by rw [sizeLine_eq]; omega
  have p18 : fPow 10 18 = some 1000000000000000000 := by kernel_rfl
  have key : ∀ cell : Int, 0 ≤ cell → ∃ sp, Spr sp ∧ ∀ ls : LS, ls = [some (.ref i.1), some (.int at_), some (.int cell), none] → (sq (sAsg (DL.bin (gI fMod) (cb gInt (aCons (DL.bin gAdd (DL.bin gAdd (DL.bin gMul (var 2) (cst (.int 863))) (DL.bin gMul (cst (.int 524287)) (var 1))) (cst (.int 1))) (aNil))) (cst (.int 999999999989))) (gN 3))
      (sRet (mLst (aCons (DL.ite (tst (DL.bin gGe (var 2) (DL.bin (gI fPow) (cst (.int 10)) (cst (.int 18))))) (var 2) (cst (.int 0))) (aCons (var 3) (aNil)))))) ls = .rt (.own sp) [some (.ref i.1), some (.int at_), some (.int cell), some (.int ((cell * 863 + 524287 * at_ + 1) % 999999999989))] := fun cell hc => by
    have q1 := gMul_small2 (x := 863) cell (by decide)
    have q2 := gMul_small2 (x := at_) 524287 (by constructor <;> omega)
    have q3 := fmod_ok (b := 999999999989) (by decide) (cell * 863 + 524287 * at_ + 1)
    by_cases hg : 1000000000000000000 ≤ cell
    · refine ⟨.lst [.int cell, .int ((cell * 863 + 524287 * at_ + 1) % 999999999989)], ⟨_, _, rfl, hc, Int.emod_nonneg _ (by decide), Int.emod_lt_of_pos _ (by decide)⟩, fun ls hl => ?_⟩
      subst hl
      simp only [mkF, DL.bin, DL.ite, L2.atI, mkIO, startD, sq, sAsg, sRet, sDrop, sIf, nop, Res.fl, Fl.seq, Res.bind, opt, shr, frz, gN, var, cst, val, stl, un, see, cont, fin, retD, retC, finIO, ioC, vAnd, vOr, vNot, tst, chain, mAnd, mOr, mNot, mCall, fz, frzs, aNil, aCons, mTup, mLst, cb, sees, sSet, frzv, slotL, putL, mApp, gI, gCmp, gAdd, fSub, gInt, gIx, gLen, gIsi, tyName, isTy, List.map_cons, List.map_nil, List.length_cons, List.length_nil, List.replicate_succ, List.replicate_zero, List.cons_append, List.nil_append, List.getElem?_cons_zero, List.getElem?_cons_succ, List.getElem?_nil, List.set_cons_zero, List.set_cons_succ, Option.bind_some, Option.bind_none, Option.map_some, Option.map_none, if_true, if_false, Nat.reduceAdd, Nat.reduceSub, Nat.reduceLeDiff, Bool.not_true, Bool.not_false, reduceIte, Bool.false_eq_true, ne_eq, not_true_eq_false, not_false_eq_true, q1, q2, q3, p18, decide_eq_true hg, l2]
    · refine ⟨.lst [.int 0, .int ((cell * 863 + 524287 * at_ + 1) % 999999999989)], ⟨_, _, rfl, Int.le_refl _, Int.emod_nonneg _ (by decide), Int.emod_lt_of_pos _ (by decide)⟩, fun ls hl => ?_⟩
      subst hl
      simp only [mkF, DL.bin, DL.ite, L2.atI, mkIO, startD, sq, sAsg, sRet, sDrop, sIf, nop, Res.fl, Fl.seq, Res.bind, opt, shr, frz, gN, var, cst, val, stl, un, see, cont, fin, retD, retC, finIO, ioC, vAnd, vOr, vNot, tst, chain, mAnd, mOr, mNot, mCall, fz, frzs, aNil, aCons, mTup, mLst, cb, sees, sSet, frzv, slotL, putL, mApp, gI, gCmp, gAdd, fSub, gInt, gIx, gLen, gIsi, tyName, isTy, List.map_cons, List.map_nil, List.length_cons, List.length_nil, List.replicate_succ, List.replicate_zero, List.cons_append, List.nil_append, List.getElem?_cons_zero, List.getElem?_cons_succ, List.getElem?_nil, List.set_cons_zero, List.set_cons_succ, Option.bind_some, Option.bind_none, Option.map_some, Option.map_none, if_true, if_false, Nat.reduceAdd, Nat.reduceSub, Nat.reduceLeDiff, Bool.not_true, Bool.not_false, reduceIte, Bool.false_eq_true, ne_eq, not_true_eq_false, not_false_eq_true, q1, q2, q3, p18, decide_eq_false hg, l2]
  by_cases hl : at_ < (i.2.length : Int)
  · obtain ⟨z, hz⟩ : ∃ z, L2.atI i.2 at_ = some z := by
      have hn : at_.toNat < i.2.length := by omega
      refine ⟨i.2[at_.toNat], ?_⟩
      unfold L2.atI L2.ixN
      rw [if_pos (by omega), if_pos (by omega)] <;> simp [hn]
    obtain ⟨sp, g1, g2⟩ := key (if z < 0 then -z else z) (by split <;> omega)
    refine ⟨sp, ?_, g1⟩
    have g3 := g2 _ rfl
    simp only [sq] at g3
    have gx : gIxS i.1 i.2 (.ref i.1) (.int at_) = some (.int z) := by unfold gIxS; simp only [if_true]; rw [hz]; rfl
    unfold f__law_spring b__law_spring
    simp only [mkF, sq, startD, sAsg, cst, gLenS, gAbs, gx, sIf, mkF, DL.bin, DL.ite, L2.atI, mkIO, startD, sq, sAsg, sRet, sDrop, sIf, nop, Res.fl, Fl.seq, Res.bind, opt, shr, frz, gN, var, cst, val, stl, un, see, cont, fin, retD, retC, finIO, ioC, vAnd, vOr, vNot, tst, chain, mAnd, mOr, mNot, mCall, fz, frzs, aNil, aCons, mTup, mLst, cb, sees, sSet, frzv, slotL, putL, mApp, gI, gCmp, gAdd, fSub, gInt, gIx, gLen, gIsi, tyName, isTy, List.map_cons, List.map_nil, List.length_cons, List.length_nil, List.replicate_succ, List.replicate_zero, List.cons_append, List.nil_append, List.getElem?_cons_zero, List.getElem?_cons_succ, List.getElem?_nil, List.set_cons_zero, List.set_cons_succ, Option.bind_some, Option.bind_none, Option.map_some, Option.map_none, if_true, if_false, Nat.reduceAdd, Nat.reduceSub, Nat.reduceLeDiff, Bool.not_true, Bool.not_false, reduceIte, Bool.false_eq_true, ne_eq, not_true_eq_false, not_false_eq_true, decide_eq_true hl]
    simp only [mkF, DL.bin, DL.ite, L2.atI, mkIO, startD, sq, sAsg, sRet, sDrop, sIf, nop, Res.fl, Fl.seq, Res.bind, opt, shr, frz, gN, var, cst, val, stl, un, see, cont, fin, retD, retC, finIO, ioC, vAnd, vOr, vNot, tst, chain, mAnd, mOr, mNot, mCall, fz, frzs, aNil, aCons, mTup, mLst, cb, sees, sSet, frzv, slotL, putL, mApp, gI, gCmp, gAdd, fSub, gInt, gIx, gLen, gIsi, tyName, isTy, List.map_cons, List.map_nil, List.length_cons, List.length_nil, List.replicate_succ, List.replicate_zero, List.cons_append, List.nil_append, List.getElem?_cons_zero, List.getElem?_cons_succ, List.getElem?_nil, List.set_cons_zero, List.set_cons_succ, Option.bind_some, Option.bind_none, Option.map_some, Option.map_none, if_true, if_false, Nat.reduceAdd, Nat.reduceSub, Nat.reduceLeDiff, Bool.not_true, Bool.not_false, reduceIte, Bool.false_eq_true, ne_eq, not_true_eq_false, not_false_eq_true] at g3
    rw [g3]
  · obtain ⟨sp, g1, g2⟩ := key 7 (by decide)
    refine ⟨sp, ?_, g1⟩
    have g3 := g2 _ rfl
    unfold f__law_spring b__law_spring
    simp only [gLenS, mkF, DL.bin, DL.ite, L2.atI, mkIO, startD, sq, sAsg, sRet, sDrop, sIf, nop, Res.fl, Fl.seq, Res.bind, opt, shr, frz, gN, var, cst, val, stl, un, see, cont, fin, retD, retC, finIO, ioC, vAnd, vOr, vNot, tst, chain, mAnd, mOr, mNot, mCall, fz, frzs, aNil, aCons, mTup, mLst, cb, sees, sSet, frzv, slotL, putL, mApp, gI, gCmp, gAdd, fSub, gInt, gIx, gLen, gIsi, tyName, isTy, List.map_cons, List.map_nil, List.length_cons, List.length_nil, List.replicate_succ, List.replicate_zero, List.cons_append, List.nil_append, List.getElem?_cons_zero, List.getElem?_cons_succ, List.getElem?_nil, List.set_cons_zero, List.set_cons_succ, Option.bind_some, Option.bind_none, Option.map_some, Option.map_none, if_true, if_false, Nat.reduceAdd, Nat.reduceSub, Nat.reduceLeDiff, Bool.not_true, Bool.not_false, reduceIte, Bool.false_eq_true, ne_eq, not_true_eq_false, not_false_eq_true, decide_eq_false hl]
    simp only [mkF, DL.bin, DL.ite, L2.atI, mkIO, startD, sq, sAsg, sRet, sDrop, sIf, nop, Res.fl, Fl.seq, Res.bind, opt, shr, frz, gN, var, cst, val, stl, un, see, cont, fin, retD, retC, finIO, ioC, vAnd, vOr, vNot, tst, chain, mAnd, mOr, mNot, mCall, fz, frzs, aNil, aCons, mTup, mLst, cb, sees, sSet, frzv, slotL, putL, mApp, gI, gCmp, gAdd, fSub, gInt, gIx, gLen, gIsi, tyName, isTy, List.map_cons, List.map_nil, List.length_cons, List.length_nil, List.replicate_succ, List.replicate_zero, List.cons_append, List.nil_append, List.getElem?_cons_zero, List.getElem?_cons_succ, List.getElem?_nil, List.set_cons_zero, List.set_cons_succ, Option.bind_some, Option.bind_none, Option.map_some, Option.map_none, if_true, if_false, Nat.reduceAdd, Nat.reduceSub, Nat.reduceLeDiff, Bool.not_true, Bool.not_false, reduceIte, Bool.false_eq_true, ne_eq, not_true_eq_false, not_false_eq_true] at g3
    rw [g3]
end DC

end FC
set_option maxRecDepth 100000
local macro_rules | `(tactic| simp! only [$ls,*]) => `(tactic| simp only [DL.var_eq, DL.varO_f, DL.stl_f, DL.see_f, DL.frz_f, DL.shr_f, DL.retD_f, DL.keepD_f, DL.q_var_non, DL.q_stl_non, DL.q_see_non, DL.q_frz_non, DL.q_shr_non, DL.q_cont_non, DL.q_retD_non, DL.q_retC_non, DL.q_keepD_non, DL.q_keepO_non, DL.q_lookD_non, DL.q_var_bl, DL.q_stl_bl, DL.q_see_bl, DL.q_frz_bl, DL.q_shr_bl, DL.q_cont_bl, DL.q_retD_bl, DL.q_retC_bl, DL.q_keepD_bl, DL.q_keepO_bl, DL.q_lookD_bl, DL.q_var_int, DL.q_stl_int, DL.q_see_int, DL.q_frz_int, DL.q_shr_int, DL.q_cont_int, DL.q_retD_int, DL.q_retC_int, DL.q_keepD_int, DL.q_keepO_int, DL.q_lookD_int, DL.q_var_str, DL.q_stl_str, DL.q_see_str, DL.q_frz_str, DL.q_shr_str, DL.q_cont_str, DL.q_retD_str, DL.q_retC_str, DL.q_keepD_str, DL.q_keepO_str, DL.q_lookD_str, DL.q_var_ref, DL.q_stl_ref, DL.q_see_ref, DL.q_frz_ref, DL.q_shr_ref, DL.q_cont_ref, DL.q_retD_ref, DL.q_retC_ref, DL.q_keepD_ref, DL.q_keepO_ref, DL.q_lookD_ref, DL.q_var_tup, DL.q_stl_tup, DL.q_see_tup, DL.q_frz_tup, DL.q_shr_tup, DL.q_cont_tup, DL.q_retD_tup, DL.q_retC_tup, DL.q_keepD_tup, DL.q_keepO_tup, DL.q_lookD_tup, DL.q_var_lst, DL.q_stl_lst, DL.q_see_lst, DL.q_frz_lst, DL.q_shr_lst, DL.q_cont_lst, DL.q_retD_lst, DL.q_retC_lst, DL.q_keepD_lst, DL.q_keepO_lst, DL.q_lookD_lst, DL.q_var_scr, DL.q_stl_scr, DL.q_see_scr, DL.q_frz_scr, DL.q_shr_scr, DL.q_cont_scr, DL.q_retD_scr, DL.q_retC_scr, DL.q_keepD_scr, DL.q_keepO_scr, DL.q_lookD_scr, DL.q_var_dct, DL.q_stl_dct, DL.q_see_dct, DL.q_frz_dct, DL.q_shr_dct, DL.q_cont_dct, DL.q_retD_dct, DL.q_retC_dct, DL.q_keepD_dct, DL.q_keepO_dct, DL.q_lookD_dct, DL.q_plainR_non, DL.q_plainR_bl, DL.q_plainR_int, DL.q_plainR_str, DL.q_keepO_own, DL.q_keepO_io, DL.q_keepO_none, DL.q_var_own, DL.q_var_io, DL.q_stl_ol, DL.q_stl_od, DL.q_stl_bor, DL.q_see_bor, DL.q_cont_own, DL.q_cont_io, DL.q_frz_bor, DL.q_frzO_l, DL.q_frzO_d, DL.q_frzO_l2, DL.q_frzO_d2, DL.q_shr_own, DL.q_shr_bor, DL.q_retD_own, DL.q_retD_bor, DL.q_retO, DL.q_retC_own, DL.q_slotL, DL.q_slot_own, DL.q_slot_io, DL.q_putT, DL.q_putF, DL.q_keepD_none, DL.q_seq_lst, DL.q_seq_tup, DL.q_ix_lst, DL.q_ix_tup, DL.q_ix_scr, DL.q_len_lst, DL.q_len_tup, DL.q_list_lst, DL.q_list_tup, DL.q_tuple_lst, DL.q_tuple_tup, DL.q_int_int, DL.q_int_bl, DL.q_abs, DL.q_min2, DL.q_sum, DL.q_allany, DL.q_gI, DL.q_cmp, DL.q_add_int, DL.q_add_lst, DL.q_add_tup, DL.q_neg, DL.q_isN_non, DL.q_notN_non, DL.q_isNon_non, DL.q_isNon_bl, DL.q_isNon_int, DL.q_isNon_str, DL.q_isNon_ref, DL.q_isNon_tup, DL.q_isNon_lst, DL.q_isNon_scr, DL.q_isNon_dct, DL.q_isi_non_int, DL.q_isi_non_bool, DL.q_isi_non_str, DL.q_isi_non_list, DL.q_isi_non_tuple, DL.q_isi_bl_int, DL.q_isi_bl_bool, DL.q_isi_bl_str, DL.q_isi_bl_list, DL.q_isi_bl_tuple, DL.q_isi_int_int, DL.q_isi_int_bool, DL.q_isi_int_str, DL.q_isi_int_list, DL.q_isi_int_tuple, DL.q_isi_str_int, DL.q_isi_str_bool, DL.q_isi_str_str, DL.q_isi_str_list, DL.q_isi_str_tuple, DL.q_isi_lst_int, DL.q_isi_lst_bool, DL.q_isi_lst_str, DL.q_isi_lst_list, DL.q_isi_lst_tuple, DL.q_isi_tup_int, DL.q_isi_tup_bool, DL.q_isi_tup_str, DL.q_isi_tup_list, DL.q_isi_tup_tuple, DL.q_fin_nx, DL.q_fin_rt, DL.q_fin_exc, DL.q_finIO_nx, DL.q_finIO_rt, DL.q_ioO, DL.q_zip_ll, DL.q_zip_tt, DL.q_iZip, DL.q_tup2, DL.q_tup3, DL.q_more, DL.q_none, DL.q_tst, DL.q_tstK, DL.q_vNot, DL.q_notD, DL.q_mIO, DL.q_ioK_own, DL.q_ioK_io, DL.q_sl_lst, DL.q_sl_tup, DL.q_oYes, DL.q_intK, DL.q_chain, DL.q_chT, DL.q_chF, DL.q_range, DL.q_rg1, DL.q_rg2, DL.q_sSet, DL.q_setK, DL.q_turn_nx, DL.q_turn_ct, DL.q_turn_bk, DL.q_turn_rt, DL.q_turn_exc, DL.q_at0, DL.q_at1, DL.q_at2, DL.q_at3, DL.q_at4, DL.q_at5, DL.q_at6, DL.q_at7, DL.u_mkF, DL.u_mkIO, DL.u_startD, DL.u_sq, DL.u_sAsg, DL.u_sRet, DL.u_sDrop, DL.u_sIf, DL.u_nop, DL.u_hold, DL.u_sPar, DL.u_sPar3, DL.u_gN, DL.u_cst, DL.u_val, DL.u_un, DL.u_bin, DL.u_ite, DL.u_vAnd, DL.u_vOr, DL.u_mAnd, DL.u_mOr, DL.u_mNot, DL.u_mCall, DL.u_fz, DL.u_frzs0, DL.u_frzs1, DL.u_aNil, DL.u_aCons, DL.u_mTup, DL.u_mLst, DL.u_cb, DL.u_sees0, DL.u_sees1, DL.u_frzv, DL.u_mApp, DL.u_mSl, DL.u_oNo, DL.u_mBM, DL.u_tyS, DL.u_tyL, DL.u_fSub, DL.u_iSeq, DL.u_wipe0, DL.u_wipe1, DL.u_back0, DL.u_back1, DL.u_tAlways, DL.u_mLook, DL.u_bok, DL.u_bex, DL.u_bst, DL.u_fok, DL.u_fex, DL.u_fst, DL.u_snx, DL.u_srt, DL.u_sex, DL.u_sct, DL.u_sbk, DL.u_os, DL.u_on, DL.u_comp, DL.u_for, DL.u_mCame, DL.u_cameOk, DL.u_cameEx, DL.u_shut, List.map_cons, List.map_nil, List.length_cons, List.length_nil, List.replicate_succ, List.replicate_zero, List.cons_append, List.nil_append, List.getElem?_cons_zero, List.getElem?_cons_succ, List.getElem?_nil, List.set_cons_zero, List.set_cons_succ, Option.bind_some, Option.bind_none, Option.map_some, Option.map_none, if_true, if_false, Nat.reduceAdd, Nat.reduceSub, Nat.reduceLeDiff, Bool.not_true, Bool.not_false, reduceIte, Bool.false_eq_true, ne_eq, not_true_eq_false, not_false_eq_true, List.all_cons, List.all_nil, Bool.and_self, Bool.and_true, Bool.true_and, $ls,*])
section FD
set_option Elab.async false
set_option linter.all false
set_option autoImplicit false
set_option maxRecDepth 100000
namespace DC
open PySem PySem.Spec DL
/-! ### lots, as data of any kind -/
/-- plain data -/
inductive Pl : D → Prop
  | non : Pl .non
  | bl (b : Bool) : Pl (.bl b)
  | int (i : Int) : Pl (.int i)
  | str (x : Str) : Pl (.str x)
  | tup (xs : List D) : (∀ x ∈ xs, Pl x) → Pl (.tup xs)
  | lst (xs : List D) : (∀ x ∈ xs, Pl x) → Pl (.lst xs)
theorem Pl.fz {d : D} (h : Pl d) : Fz d := by cases h <;> trivial
def withinD (lo hi : Int) : D → Bool
  | .int i => decide (lo ≤ i) && decide (i ≤ hi)
  | _ => false
def wideD (lo hi : Int) : D → Bool
  | .tup xs => decide (lo ≤ (xs.length : Int)) && decide ((xs.length : Int) ≤ hi)
  | _ => false
theorem within_d {v : D} (h : Pl v) (lo hi : Int) : f_is_within [v, .int lo, .int hi] = .ok (.bl (withinD lo hi v)) := by
  cases h with
  | int i => exact within i lo hi
  | _ => rfl
theorem wide_d {v : D} (h : Pl v) (lo hi : Int) : f_is_wide [v, .int lo, .int hi] = .ok (.bl (wideD lo hi v)) := by
  cases h with
  | tup xs => exact wide xs lo hi
  | _ => rfl
def isBlD : D → Bool
  | .bl _ => true
  | _ => false
theorem isi_bool {v : D} (h : Pl v) : gIsi "bool" v = some (.bl (isBlD v)) := by cases h <;> rfl
def tupD : D → List D
  | .tup xs => xs
  | _ => []
def rowOk (b : Int) (n : Nat) (row : D) : Bool := wideD b b row && (tupD row).all (withinD 0 ((n : Int) - 1))
/-- each truth is that of the standing to which 0 leads -/
def zeroAt (goods : List D) (p : D) : Bool := match p with
  | .tup [.tup (.int z :: _), .bl t] => (match goods[z.toNat]? with | some (.bl u) => t == u | _ => false)
  | _ => false
def zeroOk (rows goods : List D) : Bool := ((zipD rows goods).map (zeroAt goods)).all id
def fitD (v : D) : Bool := match v with
  | .tup [.int b, .tup rows, g] => withinD 2 4 (.int b) && wideD 1 4 (.tup rows) && rows.all (rowOk b rows.length) && wideD rows.length rows.length g && (tupD g).all isBlD && zeroOk rows (tupD g)
  | _ => false
theorem bls_isBl {p : D → Bool} : ∀ xs : List D, bls (xs.map fun x => D.bl (p x)) = some (xs.map p) := fun xs => bls_map p xs
theorem take_all {α : Type} (p : α → Bool) {xs : List α} {i : Nat} (h : i < xs.length) : (xs.take (i + 1)).all p = ((xs.take i).all p && p xs[i]) := by
  rw [← List.take_append_getElem h, List.all_append]; simp
theorem all_of_take {α : Type} (p : α → Bool) {xs : List α} {i : Nat} (h : i < xs.length) (hn : p xs[i] = false) : xs.all p = false := by
  rw [List.all_eq_false]; exact ⟨_, List.getElem_mem h, by rw [hn]; simp⟩
theorem gEq_bl (a b : Bool) : gEq (.bl a) (.bl b) = some (.bl (a == b)) := by cases a <;> cases b <;> rfl
theorem fit_is {v : D} (h : Pl v) : f_is_fit [v] = .ok (.bl (fitD v)) := by
  have hv := h.fz
  have w3 := wide_d h 3 3
  have l1 : 1 ≤ sizeLine := by rw [sizeLine_eq]; omega
  by_cases q : wideD 3 3 v = true
  · obtain ⟨a, r, g, rfl⟩ : ∃ a r g, v = .tup [a, r, g] := by
      cases v with
      | tup xs =>
        match xs with
        | [a, r, g] => exact ⟨a, r, g, rfl⟩
        | [] => cases q
        | [_] => cases q
        | [_, _] => cases q
        | _ :: _ :: _ :: _ :: l => simp [wideD] at q; omega
      | _ => cases q
    obtain ⟨ha, hr, hg⟩ : Pl a ∧ Pl r ∧ Pl g := by
      cases h with
      | tup _ h => exact ⟨h _ (by simp), h _ (by simp), h _ (by simp)⟩
    unfold f_is_fit b_is_fit
    simp! only [w3, q, within_d ha, wide_d hr, ha.fz, hr.fz, hg.fz]
    by_cases qa : withinD 2 4 a = true
    · by_cases qr : wideD 1 4 r = true
      · obtain ⟨b, rfl⟩ : ∃ b, a = .int b := by cases a <;> first | exact ⟨_, rfl⟩ | cases qa
        obtain ⟨rows, rfl⟩ : ∃ rows, r = .tup rows := by cases r <;> first | exact ⟨_, rfl⟩ | cases qr
        have hrows : ∀ x ∈ rows, Pl x := by cases hr with | tup _ h => exact h
        have few : rows.length ≤ 4 := by
          simp only [wideD, Bool.and_eq_true, decide_eq_true_iff] at qr; omega
        simp! only [qa, qr]
        refine w_forD (Q := fun r => fin r = .ok (.bl (fitD (.tup [.int b, .tup rows, g])))) (fun i l => (rows.take i).all (rowOk b rows.length) = true ∧ ∃ x, l = [some (.tup [.int b, .tup rows, g]), some (.int (rows.length : Nat)), x, none, none]) rows ⟨rfl, _, rfl⟩ ?_ ?_
        · rintro i hi l ⟨h1, x, rfl⟩ J B R hJ hB hR
          have hp := hrows _ (List.getElem_mem hi)
          have ww := wide_d hp b b
          generalize hx : rows[i] = row at hp ww
          have key : ∀ res : Bool, rowOk b rows.length row = res → (res = true → (rows.take (i + 1)).all (rowOk b rows.length) = true) ∧ (res = false → fitD (.tup [.int b, .tup rows, g]) = false) := by
            intro res hres
            refine ⟨fun e => ?_, fun e => ?_⟩
            · rw [take_all _ hi, h1, hx, hres, e]; rfl
            · have : rows.all (rowOk b rows.length) = false := all_of_take _ hi (by rw [hx, hres, e])
              simp only [fitD, this, Bool.and_false, Bool.false_and]
          refine ⟨_, rfl, ?_⟩
          cases qw : wideD b b row with
          | false =>
            rw [qw] at ww
            simp! only [ww, hp.fz]
            refine hR _ ?_
            show fin _ = _
            simp! only [(key false (by simp only [rowOk, qw, Bool.false_and])).2]
          | true =>
            rw [qw] at ww
            obtain ⟨xs, rfl⟩ : ∃ xs, row = .tup xs := by cases row <;> first | exact ⟨_, rfl⟩ | cases qw
            have hxs : ∀ x ∈ xs, Pl x := by cases hp with | tup _ h => exact h
            have lxs : xs.length ≤ sizeLine := by
              simp only [wideD, withinD, Bool.and_eq_true, decide_eq_true_iff] at qw qa; rw [sizeLine_eq]; omega
            simp! only [ww]
            rw [compB_mapD (fun x => .bl (withinD 0 ((rows.length : Int) - 1) x)) xs ?_ lxs]
            · simp! only [bls_map]
              cases qz : (xs.map (withinD 0 ((rows.length : Int) - 1))).all id with
              | true =>
                simp! only [qz]
                refine hJ _ ⟨(key true ?_).1 rfl, _, rfl⟩
                simp only [rowOk, qw, Bool.true_and, tupD]
                rw [← qz, List.all_map]; rfl
              | false =>
                simp! only [qz]
                refine hR _ ?_
                show fin _ = _
                simp! only []
                rw [(key false _).2 rfl]
                simp only [rowOk, qw, Bool.true_and, tupD]
                rw [← qz, List.all_map]; rfl
            · intro x hx
              have ww := within_d (hxs x hx) 0 ((rows.length : Int) - 1)
              refine ⟨_, rfl, ?_, ?_⟩
              · simp! only [ww, (hxs x hx).fz]
              · simp! only []
        · rintro l ⟨h1, x, rfl⟩
          rw [List.take_length] at h1
          have wg := wide_d hg rows.length rows.length
          cases qg : wideD rows.length rows.length g with
          | false =>
            rw [qg] at wg
            have : fitD (.tup [.int b, .tup rows, g]) = false := by simp only [fitD, qg, Bool.and_false, Bool.false_and]
            simp! only [wg, hg.fz, this]
          | true =>
            rw [qg] at wg
            obtain ⟨gs, rfl⟩ : ∃ gs, g = .tup gs := by cases g <;> first | exact ⟨_, rfl⟩ | cases qg
            have hgs : ∀ x ∈ gs, Pl x := by cases hg with | tup _ h => exact h
            have lgs : gs.length = rows.length := by simp only [wideD, Bool.and_eq_true, decide_eq_true_iff] at qg; omega
            have lz : (zipD rows gs).length ≤ sizeLine := by rw [zipD_len, sizeLine_eq]; omega
            have lgz : gs.length ≤ sizeLine := by rw [sizeLine_eq]; omega
            simp! only [wg]
            rw [compB_mapD (fun x => .bl (isBlD x)) gs ?_ lgz]
            · simp! only [bls_map]
              cases qz : (gs.map isBlD).all id with
              | false =>
                have : fitD (.tup [.int b, .tup rows, .tup gs]) = false := by
                  have : gs.all isBlD = false := by rw [← qz, List.all_map]; rfl
                  simp only [fitD, tupD, this, Bool.and_false, Bool.false_and]
                simp! only [qz, this]
              | true =>
                simp! only [qz]
                rw [compB_mapD (fun p => .bl (zeroAt gs p)) (zipD rows gs) ?_ lz]
                · simp! only [bls_map]
                  have e : fitD (.tup [.int b, .tup rows, .tup gs]) = ((zipD rows gs).map (zeroAt gs)).all id := by
                    have : gs.all isBlD = true := by rw [← qz, List.all_map]; rfl
                    simp only [fitD, qa, qr, h1, qg, tupD, this, Bool.true_and]; rfl
                  rw [e]
                · intro p hp
                  obtain ⟨j, hj⟩ := List.getElem?_of_mem hp
                  obtain ⟨row, t, rfl, e1, e2⟩ := zipD_get hj
                  have m1 := List.mem_of_getElem? e1
                  have m2 := List.mem_of_getElem? e2
                  have o1 := List.all_eq_true.mp h1 row m1
                  have o2 : isBlD t = true := by
                    have := List.all_eq_true.mp qz (isBlD t) (List.mem_map_of_mem m2)
                    exact this
                  obtain ⟨tb, rfl⟩ : ∃ tb, t = .bl tb := by cases t <;> first | exact ⟨_, rfl⟩ | cases o2
                  unfold rowOk at o1
                  rw [Bool.and_eq_true] at o1
                  obtain ⟨o3, o4⟩ := o1
                  obtain ⟨xs, rfl⟩ : ∃ xs, row = .tup xs := by cases row <;> first | exact ⟨_, rfl⟩ | cases o3
                  obtain ⟨z0, xs, rfl⟩ : ∃ z l, xs = z :: l := by
                    cases xs with
                    | nil => simp only [wideD, withinD, Bool.and_eq_true, decide_eq_true_iff, List.length_nil] at o3 qa; omega
                    | cons z l => exact ⟨z, l, rfl⟩
                  have o5 := List.all_eq_true.mp o4 z0 List.mem_cons_self
                  obtain ⟨z, rfl⟩ : ∃ z, z0 = .int z := by cases z0 <;> first | exact ⟨_, rfl⟩ | cases o5
                  simp only [withinD, Bool.and_eq_true, decide_eq_true_iff] at o5
                  have hz : z.toNat < gs.length := by omega
                  have ez : L2.atI gs z = some gs[z.toNat] := by
                    have := atI_nat hz
                    rwa [Int.toNat_of_nonneg o5.1] at this
                  have ub := List.all_eq_true.mp qz (isBlD gs[z.toNat]) (List.mem_map_of_mem (List.getElem_mem hz))
                  have eg : gs[z.toNat]? = some gs[z.toNat] := List.getElem?_eq_getElem hz
                  generalize gs[z.toNat] = u at ez ub eg
                  obtain ⟨ub, rfl⟩ : ∃ ub, u = .bl ub := by cases u <;> first | exact ⟨_, rfl⟩ | cases ub
                  refine ⟨[some (.tup [.int b, .tup rows, .tup gs]), some (.int (rows.length : Nat)), some (.tup (.int z :: xs)), some (.bl tb), none], by simp! only [], ?_, by simp! only []⟩
                  simp! only [ez, gEq_bl, zeroAt, eg]
            · intro x hx
              refine ⟨_, rfl, ?_, ?_⟩
              · simp! only [isi_bool (hgs x hx), (hgs x hx).fz]
              · simp! only []
      · simp! only [qa, eq_false_of_ne_true qr]
        have : fitD (.tup [a, r, g]) = false := by
          cases a <;> first | rfl | skip
          cases r <;> first | rfl | (simp only [fitD, eq_false_of_ne_true qr, Bool.and_false, Bool.false_and])
        rw [this]
    · simp! only [eq_false_of_ne_true qa]
      have : fitD (.tup [a, r, g]) = false := by
        cases a <;> first | rfl | skip
        cases r <;> first | rfl | (simp only [fitD, eq_false_of_ne_true qa, Bool.and_false, Bool.false_and])
      rw [this]
  · unfold f_is_fit b_is_fit
    simp! only [w3, eq_false_of_ne_true q, hv]
    have : fitD v = false := by
      unfold fitD
      split
      · exact absurd rfl q
      · rfl
    rw [this]
end DC

end FD
section FE
set_option Elab.async false
set_option linter.all false
set_option autoImplicit false
set_option maxRecDepth 100000
namespace DC
open PySem PySem.Spec DL
/-! ### lots -/
structure Lot where
  base : Nat
  rows : List (List Nat)
  good : List Bool
def natsD (r : List Nat) : D := .tup (r.map fun x : Nat => .int (x : Int))
def Lot.D (l : Lot) : D := .tup [.int (l.base : Nat), .tup (l.rows.map natsD), .tup (l.good.map .bl)]
structure Lot.Ok (l : Lot) : Prop where
  b2 : 2 ≤ l.base
  b4 : l.base ≤ 4
  pos : 0 < l.rows.length
  len : l.good.length = l.rows.length
  row : ∀ r ∈ l.rows, r.length = l.base ∧ ∀ x ∈ r, x < l.rows.length
  zero : ∀ (i : Nat) (h : i < l.rows.length), l.good[l.rows[i].headD 0]? = l.good[i]?
theorem pl_nats (r : List Nat) : Pl (natsD r) := .tup _ fun x hx => by obtain ⟨n, _, rfl⟩ := List.mem_map.mp hx; exact .int _
theorem Lot.pl (l : Lot) : Pl l.D := .tup _ fun x hx => by
  simp only [List.mem_cons, List.not_mem_nil, or_false] at hx
  rcases hx with rfl | rfl | rfl
  · exact .int _
  · exact .tup _ fun x hx => by obtain ⟨r, _, rfl⟩ := List.mem_map.mp hx; exact pl_nats r
  · exact .tup _ fun x hx => by obtain ⟨r, _, rfl⟩ := List.mem_map.mp hx; exact .bl r
theorem Lot.Ok.fit {l : Lot} (h : l.Ok) (h4 : l.rows.length ≤ 4) : fitD l.D = true := by
  obtain ⟨b, rows, good⟩ := l
  obtain ⟨b2, b4, pos, len, row, zero⟩ := h
  dsimp only at b2 b4 pos len row zero h4
  have e1 : withinD 2 4 (.int (b : Nat)) = true := by simp only [withinD, Bool.and_eq_true, decide_eq_true_iff]; omega
  have e2 : wideD 1 4 (.tup (rows.map natsD)) = true := by simp only [wideD, Bool.and_eq_true, decide_eq_true_iff, List.length_map]; omega
  have e3 : (rows.map natsD).all (rowOk (b : Nat) (rows.map natsD).length) = true := by
    rw [List.all_map, List.all_eq_true]
    intro r hr
    obtain ⟨h1, h2⟩ := row r hr
    show rowOk _ _ (natsD r) = true
    unfold rowOk natsD wideD tupD
    rw [Bool.and_eq_true, Bool.and_eq_true, decide_eq_true_iff, decide_eq_true_iff, List.all_map, List.all_eq_true]
    refine ⟨by rw [List.length_map]; omega, fun x hx => ?_⟩
    have := h2 x hx
    show withinD _ _ (.int x) = true
    simp only [withinD, Bool.and_eq_true, decide_eq_true_iff, List.length_map]; omega
  have e4 : wideD ((rows.map natsD).length : Nat) ((rows.map natsD).length : Nat) (.tup (good.map .bl)) = true := by
    simp only [wideD, Bool.and_eq_true, decide_eq_true_iff, List.length_map]; omega
  have e5 : (good.map D.bl).all isBlD = true := by rw [List.all_map, List.all_eq_true]; intro x _; rfl
  have e6 : zeroOk (rows.map natsD) (good.map D.bl) = true := by
    unfold zeroOk
    rw [List.all_map, List.all_eq_true]
    intro p hp
    obtain ⟨j, hj⟩ := List.getElem?_of_mem hp
    obtain ⟨x, y, rfl, q1, q2⟩ := zipD_get hj
    rw [List.getElem?_map] at q1 q2
    obtain ⟨r, hr, rfl⟩ := Option.map_eq_some_iff.mp q1
    obtain ⟨t, ht, rfl⟩ := Option.map_eq_some_iff.mp q2
    obtain ⟨hj2, er⟩ := List.getElem?_eq_some_iff.mp hr
    have m := row r (List.mem_of_getElem? hr)
    obtain ⟨z, l, rfl⟩ : ∃ z l, r = z :: l := by
      cases r with
      | nil => simp at m; omega
      | cons z l => exact ⟨z, l, rfl⟩
    have hz := zero j hj2
    rw [er, List.headD_cons, ht] at hz
    show zeroAt _ (.tup [natsD (z :: l), .bl t]) = true
    unfold zeroAt natsD
    simp only [List.map_cons]
    simp only [Int.toNat_natCast, List.getElem?_map, hz, Option.map_some, BEq.rfl]
  unfold Lot.D fitD
  dsimp only
  rw [e1, e2, e3, e4]
  simp only [tupD, e5, e6, Bool.and_self]
theorem look_lot {l : Lot} (h : l.Ok) (h4 : l.rows.length ≤ 4) : f_look_at_lot [l.D] = .ok .non := by
  have q := fit_is l.pl
  rw [h.fit h4] at q
  unfold f_look_at_lot b_look_at_lot
  simp! only [q, l.pl.fz]
/-! ### a lot in which 0 ahead changes nothing -/
def iterZ (zs : List Nat) : Nat → Nat → Nat
  | 0, i => i
  | k + 1, i => zs.getD (iterZ zs k i) 0
def ringZ (zs : List Nat) (k i : Nat) : List Nat := (List.range (k + 1)).map fun j => iterZ zs (zs.length + j) i
def minN : List Nat → Nat
  | [] => 0
  | [x] => x
  | x :: y :: l => if x ≤ minN (y :: l) then x else minN (y :: l)
theorem minD_nat : ∀ l : List Nat, minD (l.map fun x : Nat => (x : Int)) = (minN l : Nat)
  | [] => rfl
  | [x] => rfl
  | x :: y :: l => by
    have ih := minD_nat (y :: l)
    simp only [List.map_cons, minD, minN] at ih ⊢
    rw [ih]
    by_cases h : x ≤ minN (y :: l)
    · rw [if_pos h, if_pos (by omega)]
    · rw [if_neg h, if_neg (by omega)]
def fixZ (zs : List Nat) (i : Nat) : Nat := minN (ringZ zs zs.length i)
theorem iterZ_lt {zs : List Nat} (h : ∀ z ∈ zs, z < zs.length) : ∀ (k : Nat) {i : Nat}, i < zs.length → iterZ zs k i < zs.length
  | 0, i, hi => hi
  | k + 1, i, hi => by
    have := iterZ_lt h k hi
    unfold iterZ
    rw [List.getD_eq_getElem?_getD, List.getElem?_eq_getElem this]
    exact h _ (List.getElem_mem this)
theorem fix4 : ∀ a b c d : Fin 4, ∀ i : Fin 4, fixZ [a.val, b.val, c.val, d.val] ([a.val, b.val, c.val, d.val].getD i.val 0) = fixZ [a.val, b.val, c.val, d.val] i.val ∧ fixZ [a.val, b.val, c.val, d.val] i.val < 4 := by decide +kernel
theorem fix3 : ∀ a b c : Fin 3, ∀ i : Fin 3, fixZ [a.val, b.val, c.val] ([a.val, b.val, c.val].getD i.val 0) = fixZ [a.val, b.val, c.val] i.val ∧ fixZ [a.val, b.val, c.val] i.val < 3 := by decide +kernel
theorem fix2 : ∀ a b : Fin 2, ∀ i : Fin 2, fixZ [a.val, b.val] ([a.val, b.val].getD i.val 0) = fixZ [a.val, b.val] i.val ∧ fixZ [a.val, b.val] i.val < 2 := by decide +kernel
theorem fix1 : ∀ a : Fin 1, ∀ i : Fin 1, fixZ [a.val] ([a.val].getD i.val 0) = fixZ [a.val] i.val ∧ fixZ [a.val] i.val < 1 := by decide +kernel
theorem fixZ_zero {zs : List Nat} (h4 : zs.length ≤ 4) (h : ∀ z ∈ zs, z < zs.length) {i : Nat} (hi : i < zs.length) : fixZ zs (zs.getD i 0) = fixZ zs i ∧ fixZ zs i < zs.length := by
  match zs, h4, h, hi with
  | [], _, _, hi => exact absurd hi (Nat.not_lt_zero _)
  | [a], _, h, hi => exact fix1 ⟨a, h a (by simp)⟩ ⟨i, hi⟩
  | [a, b], _, h, hi => exact fix2 ⟨a, h a (by simp)⟩ ⟨b, h b (by simp)⟩ ⟨i, hi⟩
  | [a, b, c], _, h, hi => exact fix3 ⟨a, h a (by simp)⟩ ⟨b, h b (by simp)⟩ ⟨c, h c (by simp)⟩ ⟨i, hi⟩
  | [a, b, c, d], _, h, hi => exact fix4 ⟨a, h a (by simp)⟩ ⟨b, h b (by simp)⟩ ⟨c, h c (by simp)⟩ ⟨d, h d (by simp)⟩ ⟨i, hi⟩
  | _ :: _ :: _ :: _ :: _ :: l, h4, _, _ => exact absurd h4 (by simp only [List.length_cons]; omega)
end DC

end FE
section FF
set_option Elab.async false
set_option linter.all false
set_option autoImplicit false
set_option maxRecDepth 100000
namespace DC
open PySem PySem.Spec DL
theorem intsD_nats : ∀ l : List Nat, intsD (l.map fun x : Nat => D.int (x : Int)) = some (l.map fun x : Nat => (x : Int))
  | [] => rfl
  | x :: l => by
    rw [List.map_cons]
    unfold intsD
    rw [intsD_nats l]; rfl
theorem atI_last {α : Type} (xs : List α) (x : α) : L2.atI (xs ++ [x]) (-1) = some x := by
  unfold L2.atI L2.ixN
  rw [if_neg (by decide), if_pos (by rw [List.length_append, List.length_singleton]; omega)]
  rw [List.length_append, List.length_singleton, Option.bind_some]
  have : (-1 + ((xs.length + 1 : Nat) : Int)).toNat = xs.length := by omega
  rw [this]
  simp
theorem inB_nat {n : Nat} (h : n ≤ 1000000) : inB (n : Int) := ⟨by omega, by omega⟩
theorem headD_map {rows : List (List Nat)} {i : Nat} (h : i < rows.length) : (rows.map (·.headD 0)).getD i 0 = rows[i].headD 0 := by
  rw [List.getD_eq_getElem?_getD, List.getElem?_map, List.getElem?_eq_getElem h]; rfl
/-- rows each with a lead by 0 -/
structure Heads (rows : List (List Nat)) : Prop where
  few : rows.length ≤ 4
  one : ∀ r ∈ rows, r ≠ [] ∧ r.headD 0 < rows.length
theorem Heads.ix {rows : List (List Nat)} (h : Heads rows) {i : Nat} (hi : i < rows.length) : L2.atI (rows.map natsD) (i : Int) = some (natsD rows[i]) ∧ gIx (natsD rows[i]) (.int 0) = some (.int ((rows.map (·.headD 0)).getD i 0 : Nat)) := by
  refine ⟨by rw [atI_map, atI_nat hi]; rfl, ?_⟩
  rw [headD_map hi]
  have := (h.one _ (List.getElem_mem hi)).1
  cases e : rows[i] with
  | nil => exact absurd e this
  | cons z l => unfold natsD; rw [List.map_cons, q_ix_tup, q_at0]; rfl
theorem fz_nats (r : List Nat) : Fz (natsD r) := trivial
theorem fixed_is {b : D} (hb : Fz b) {rows : List (List Nat)} (h : Heads rows) {good : List Bool} (hg : good.length = rows.length) :
    f__law_fixed [b, .lst (rows.map natsD), .lst (good.map .bl)] = .ok (.tup [b, .tup (rows.map natsD), .tup ((List.range rows.length).map fun i => .bl (good.getD (fixZ (rows.map (·.headD 0)) i) false))]) := by
  have l0 : 0 ≤ sizeLine := Nat.zero_le _
  have l1 : 1 ≤ sizeLine := by rw [sizeLine_eq]; omega
  have l3 : 3 ≤ sizeLine := by rw [sizeLine_eq]; omega
  have few := h.few
  have nb := inB_nat (n := rows.length) (by omega)
  have zl : (rows.map (·.headD 0)).length = rows.length := List.length_map _
  have zh : ∀ z ∈ rows.map (·.headD 0), z < (rows.map (·.headD 0)).length := fun z hz => by
    obtain ⟨r, hr, rfl⟩ := List.mem_map.mp hz
    rw [zl]; exact (h.one r hr).2
  generalize hzs : rows.map (·.headD 0) = zs at zl zh
  have hix := fun {i : Nat} (hi : i < rows.length) => hzs ▸ h.ix hi
  have itl : ∀ k {i : Nat}, i < rows.length → iterZ zs k i < rows.length := fun k i hi => by rw [← zl]; exact iterZ_lt zh k (by rw [zl]; exact hi)
  unfold f__law_fixed b__law_fixed
  simp! only [l0, hb, List.length_map, nb]
  refine w_range (Q := fun r => fin r = _) (fun i l => ∃ x4 x5 x6, l = [some b, some (.lst (rows.map natsD)), some (.lst (good.map .bl)), some (.own (.lst ((List.range i).map fun i => .bl (good.getD (fixZ zs i) false)))), x4, x5, x6]) ⟨_, _, _, rfl⟩ ?_ ?_
  · rintro i hi l ⟨x4, x5, x6, rfl⟩ J B R hJ hB hR
    refine ⟨_, rfl, ?_⟩
    have hi : i < rows.length := by omega
    rw [Int.zero_add]
    simp! only [List.length_map, nb]
    refine w_range (Q := fun r => Turn r J B R) (fun k l => ∃ x5, l = [some b, some (.lst (rows.map natsD)), some (.lst (good.map .bl)), some (.own (.lst ((List.range i).map fun i => .bl (good.getD (fixZ zs i) false)))), some (.int (iterZ zs k i : Nat)), x5, x6]) ⟨_, rfl⟩ ?_ ?_
    · rintro k hk l ⟨x5, rfl⟩ J1 B1 R1 hJ1 hB1 hR1
      refine ⟨_, rfl, ?_⟩
      obtain ⟨q1, q2⟩ := hix (itl k hi)
      simp! only [q1, q2, fz_nats]
      exact hJ1 _ ⟨_, rfl⟩
    · rintro l ⟨x5, rfl⟩
      simp! only [List.length_map, nb, l1]
      refine w_range (Q := fun r => Turn r J B R) (fun k l => ∃ x5, l = [some b, some (.lst (rows.map natsD)), some (.lst (good.map .bl)), some (.own (.lst ((List.range i).map fun i => .bl (good.getD (fixZ zs i) false)))), some (.int (iterZ zs rows.length i : Nat)), x5, some (.own (.lst ((ringZ zs k i).map fun x : Nat => .int (x : Int))))]) ⟨_, by unfold ringZ; rw [zl]; rfl⟩ ?_ ?_
      · rintro k hk l ⟨x5, rfl⟩ J1 B1 R1 hJ1 hB1 hR1
        refine ⟨_, rfl, ?_⟩
        have hk : k < rows.length := by omega
        obtain ⟨q1, q2⟩ := hix (itl (rows.length + k) hi)
        have rs : ringZ zs k i = (List.range k).map (fun j => iterZ zs (rows.length + j) i) ++ [iterZ zs (rows.length + k) i] := by
          unfold ringZ; rw [List.range_succ, List.map_append, zl]; rfl
        have ra : L2.atI ((ringZ zs k i).map fun x : Nat => D.int (x : Int)) (-1) = some (.int (iterZ zs (rows.length + k) i : Nat)) := by
          rw [rs, List.map_append]; exact atI_last _ _
        have rl : (ringZ zs k i).length < sizeLine := by unfold ringZ; rw [List.length_map, List.length_range, sizeLine_eq]; omega
        simp! only [ra, q1, q2, fz_nats, List.length_map, rl]
        have : (ringZ zs (k + 1) i).map (fun x : Nat => D.int (x : Int)) = (ringZ zs k i).map (fun x : Nat => D.int (x : Int)) ++ [.int (zs.getD (iterZ zs (rows.length + k) i) 0 : Nat)] := by
          unfold ringZ
          rw [List.range_succ, List.map_append, List.map_append, zl]; rfl
        rw [← this]
        exact hJ1 _ ⟨_, rfl⟩
      · rintro l ⟨x5, rfl⟩
        have hz := (fixZ_zero (by rw [zl]; exact few) zh (i := i) (by rw [zl]; exact hi)).2
        have ne : (ringZ zs rows.length i).map (fun x : Nat => (x : Int)) ≠ [] := by unfold ringZ; simp
        have em : minD ((ringZ zs rows.length i).map fun x : Nat => (x : Int)) = (fixZ zs i : Nat) := by rw [minD_nat]; unfold fixZ; rw [zl]
        have gm : gMinL [.lst ((ringZ zs rows.length i).map fun x : Nat => D.int (x : Int))] = some (.int (fixZ zs i : Nat)) := by
          show (intsD _).bind _ = _
          rw [intsD_nats, Option.bind_some, if_neg ne, em]
        have ga : L2.atI (good.map D.bl) (fixZ zs i : Nat) = some (.bl (good.getD (fixZ zs i) false)) := by
          have hl : fixZ zs i < good.length := by omega
          rw [atI_map, atI_nat hl, List.getD_eq_getElem?_getD, List.getElem?_eq_getElem hl]; rfl
        have ll : (List.range i).length < sizeLine := by rw [List.length_range, sizeLine_eq]; omega
        have : (List.range (i + 1)).map (fun i => D.bl (good.getD (fixZ zs i) false)) = (List.range i).map (fun i => D.bl (good.getD (fixZ zs i) false)) ++ [.bl (good.getD (fixZ zs i) false)] := by
          rw [List.range_succ, List.map_append]; rfl
        simp! only [Int.toNat_natCast, gm, ga, List.length_map, ll]
        rw [← this]
        exact hJ _ ⟨_, _, _, rfl⟩
  · rintro l ⟨x4, x5, x6, rfl⟩
    simp! only [hb, l3, Int.sub_zero, Int.toNat_natCast]
end DC

end FF
section FG
set_option Elab.async false
set_option linter.all false
set_option autoImplicit false
set_option maxRecDepth 100000
namespace DC
open PySem PySem.Spec DL
theorem pickN {sp : D} (hs : Spr sp) {m : Nat} (h0 : 0 < m) (hm : m ≤ 1000000000000000000000000000000) : ∃ (d : Nat) (sp' : D), f__law_pick sp [.int (m : Nat)] = .ok (.int (d : Nat), sp') ∧ d < m ∧ Spr sp' := by
  obtain ⟨d, sp', e, h1, h2, h3⟩ := pick hs (m := (m : Nat)) (by omega) (by omega)
  refine ⟨d.toNat, sp', ?_, by omega, h3⟩
  rw [e, Int.toNat_of_nonneg h1]
theorem gEq_i (a b : Int) : gEq (.int a) (.int b) = some (.bl (decide (a = b))) := gEq_int a b
theorem mul_one {b : Nat} (h2 : 2 ≤ b) (h4 : b ≤ 4) : gMul (.tup [.int 1]) (.int (b : Nat)) = some (natsD (List.replicate b 1)) := by
  have : b = 2 ∨ b = 3 ∨ b = 4 := by omega
  rcases this with rfl | rfl | rfl <;> rfl
theorem ok_small {b : Nat} (h2 : 2 ≤ b) (h4 : b ≤ 4) {bits : List Nat} (hl : bits.length + 1 = b) (hb : ∀ x ∈ bits, x < 2) : Lot.Ok ⟨b, [0 :: bits, List.replicate b 1], [true, false]⟩ where
  b2 := h2
  b4 := h4
  pos := by simp
  len := rfl
  row := fun r hr => by
    simp only [List.mem_cons, List.not_mem_nil, or_false] at hr
    rcases hr with rfl | rfl
    · refine ⟨by simpa using hl, fun x hx => ?_⟩
      rcases List.mem_cons.mp hx with rfl | hx
      · simp
      · have := hb x hx; simpa using this
    · refine ⟨by simp, fun x hx => ?_⟩
      have := (List.mem_replicate.mp hx).2
      subst this; simp
  zero := fun i hi => by
    have : i = 0 ∨ i = 1 := by simp at hi; omega
    rcases this with rfl | rfl
    · rfl
    · obtain ⟨k, rfl⟩ : ∃ k, b = k + 1 := ⟨b - 1, by omega⟩
      simp [List.replicate_succ]
theorem ok_fixed {b n : Nat} (h2 : 2 ≤ b) (h4 : b ≤ 4) {rows : List (List Nat)} {good : List Bool} (hn : rows.length = n) (n0 : 0 < n) (n4 : n ≤ 4) (hr : ∀ r ∈ rows, r.length = b ∧ ∀ x ∈ r, x < n) :
    Heads rows ∧ Lot.Ok ⟨b, rows, (List.range n).map fun i => good.getD (fixZ (rows.map (·.headD 0)) i) false⟩ := by
  have H : Heads rows := ⟨by omega, fun r h => by
    obtain ⟨e1, e2⟩ := hr r h
    cases r with
    | nil => simp at e1; omega
    | cons z l => exact ⟨by simp, by rw [hn]; exact e2 z List.mem_cons_self⟩⟩
  refine ⟨H, h2, h4, by dsimp only; omega, by simp [hn], fun r h => ?_, fun i hi => ?_⟩
  · obtain ⟨e1, e2⟩ := hr r h
    exact ⟨e1, by dsimp only; rw [hn]; exact e2⟩
  · dsimp only at hi ⊢
    have zl : (rows.map (·.headD 0)).length = rows.length := List.length_map _
    have zh : ∀ z ∈ rows.map (·.headD 0), z < (rows.map (·.headD 0)).length := fun z hz => by
      obtain ⟨r, hr, rfl⟩ := List.mem_map.mp hz
      rw [zl]; exact (H.one r hr).2
    have e := (fixZ_zero (by rw [zl]; omega) zh (i := i) (by rw [zl]; exact hi)).1
    rw [headD_map hi] at e
    have hz : rows[i].headD 0 < n := by rw [← hn]; exact (H.one _ (List.getElem_mem hi)).2
    rw [List.getElem?_map, List.getElem?_map, List.getElem?_range hz, List.getElem?_range (by omega)]
    simp only [Option.map_some, e]
theorem intsUp_len (lo : Int) (n : Nat) : (intsUp lo n).length = n := by unfold intsUp; rw [List.length_map, List.length_range]
/-- items each drawn: what a comprehension of draws gives -/
theorem lot_is {sp : D} (hs : Spr sp) {b m : Nat} (h2 : 2 ≤ b) (h4 : b ≤ 4) (m0 : 0 < m) (m4 : m ≤ 4) :
    ∃ (l : Lot) (sp' : D), l.Ok ∧ l.base = b ∧ l.rows.length ≤ max 2 m ∧ Spr sp' ∧ f__law_lot sp [.int (b : Nat), .int (m : Nat)] = .ok (l.D, sp') := by
  obtain ⟨d0, sp0, e0, d0l, hs0⟩ := pickN hs (m := 3) (by decide) (by decide)
  have s2 : 2 ≤ sizeLine := by rw [sizeLine_eq]; omega
  have s1 : 1 ≤ sizeLine := by rw [sizeLine_eq]; omega
  have s0 : 0 ≤ sizeLine := Nat.zero_le _
  have s3 : 3 ≤ sizeLine := by rw [sizeLine_eq]; omega
  have nb := inB_nat (n := b) (by omega)
  rw [show ((3 : Nat) : Int) = 3 from rfl] at e0
  unfold f__law_lot b__law_lot
  by_cases q : d0 = 0
  · have qd : decide ((d0 : Int) = 0) = true := by rw [decide_eq_true_iff]; omega
    have nb1 : inB ((b : Int) - 1) := ⟨by omega, by omega⟩
    have tb : ((b : Int) - 1).toNat = b - 1 := by omega
    simp! only [e0, gEq_i, qd, s1, nb1, tb]
    generalize hC : compB _ _ _ _ _ _ = r
    obtain ⟨done, l, ⟨ns, rfl, n1, n2, sp1, hs1, rfl⟩, rfl⟩ := comp_eqn hC (fun rest done l => ∃ ns : List Nat, done = ns.map (fun x : Nat => D.int (x : Int)) ∧ (∀ x ∈ ns, x < 2) ∧ ns.length + rest.length = b - 1 ∧ ∃ sp', Spr sp' ∧ l = [some (.io sp'), some (.int (b : Nat)), some (.int (m : Nat)), none, none, none, none, none])
      ⟨[], rfl, fun _ h => (nomatch h), by rw [intsUp_len]; simp, sp0, hs0, by simp! only []⟩ (by
        rintro d rest done l ⟨ns, rfl, n1, n2, sp1, hs1, rfl⟩
        obtain ⟨d1, sp2, e1, d1l, hs2⟩ := pickN hs1 (m := 3) (by decide) (by decide)
        rw [show ((3 : Nat) : Int) = 3 from rfl] at e1
        refine ⟨_, true, _, rfl, rfl, .inl ⟨rfl, .int (if decide ((0 : Int) < (d1 : Int)) then 1 else 0), _, by simp! only [e1]; rfl, ns ++ [if 0 < d1 then 1 else 0], ?_, ?_, ?_, sp2, hs2, by simp! only []⟩⟩
        · rw [List.map_append]
          congr 1
          by_cases h : 0 < d1
          · simp [h]
          · simp [h]
        · intro x hx
          rcases List.mem_append.mp hx with hx | hx
          · exact n1 x hx
          · rw [List.mem_singleton] at hx; subst hx; split <;> decide
        · rw [List.length_append, List.length_singleton]; rw [List.length_cons] at n2; omega) (by
        rintro done l ⟨ns, rfl, n1, n2, _⟩
        rw [List.length_map, sizeLine_eq]; simp at n2; omega)
    have nl : 1 + ns.length ≤ sizeLine := by rw [sizeLine_eq]; simp at n2; omega
    simp! only [List.length_map, nl, mul_one h2 h4, s1, s2, s3]
    refine ⟨_, sp1, ok_small h2 h4 (bits := ns) (by simp at n2; omega) n1, rfl, by simp; omega, hs1, ?_⟩
    rfl
  · have qd : decide ((d0 : Int) = 0) = false := by rw [decide_eq_false_iff_not]; omega
    obtain ⟨d1, sp1, e1, d1l, hs1⟩ := pickN hs0 (m := m) m0 (by omega)
    have en : (1 : Int) + (d1 : Int) = ((d1 + 1 : Nat) : Int) := by omega
    generalize hn : d1 + 1 = n at en
    have nn := inB_nat (n := n) (by omega)
    simp! only [e0, gEq_i, qd, e1, en, s0, nn, Int.toNat_natCast]
    generalize hF : forL _ _ _ _ = r
    obtain ⟨l, ⟨rows, rl, rk, sp2, hs2, x5, x6, rfl⟩, rfl⟩ := range_eqn hF (fun i l => ∃ rows : List (List Nat), rows.length = i ∧ (∀ r ∈ rows, r.length = b ∧ ∀ x ∈ r, x < n) ∧ ∃ sp', Spr sp' ∧ ∃ x5 x6, l = [some (.io sp'), some (.int (b : Nat)), some (.int (m : Nat)), some (.int (n : Nat)), some (.own (.lst (rows.map natsD))), x5, x6, none])
      ⟨[], rfl, fun _ h => (nomatch h), sp1, hs1, _, _, rfl⟩ (by
        rintro i hi l ⟨rows, rl, rk, sp2, hs2, x5, x6, rfl⟩ J hJ
        refine ⟨_, rfl, ?_⟩
        rw [Int.zero_add]
        simp! only [nb, Int.toNat_natCast]
        generalize hC : compB _ _ _ _ _ _ = r
        obtain ⟨done, l, ⟨ns, rfl, n1, n2, sp3, hs3, rfl⟩, rfl⟩ := comp_eqn hC (fun rest done l => ∃ ns : List Nat, done = ns.map (fun x : Nat => D.int (x : Int)) ∧ (∀ x ∈ ns, x < n) ∧ ns.length + rest.length = b ∧ ∃ sp', Spr sp' ∧ l = [some (.io sp'), some (.int (b : Nat)), some (.int (m : Nat)), some (.int (n : Nat)), some (.own (.lst (rows.map natsD))), some (.int (i : Nat)), x6, none])
          ⟨[], rfl, fun _ h => (nomatch h), by rw [intsUp_len]; simp, sp2, hs2, by simp! only []⟩ (by
            rintro d rest done l ⟨ns, rfl, n1, n2, sp3, hs3, rfl⟩
            obtain ⟨d2, sp4, e2, d2l, hs4⟩ := pickN hs3 (m := n) (by omega) (by omega)
            refine ⟨_, true, _, rfl, rfl, .inl ⟨rfl, .int (d2 : Nat), _, by simp! only [e2]; rfl, ns ++ [d2], ?_, ?_, ?_, sp4, hs4, by simp! only []⟩⟩
            · rw [List.map_append]; rfl
            · intro x hx
              rcases List.mem_append.mp hx with hx | hx
              · exact n1 x hx
              · rw [List.mem_singleton] at hx; omega
            · rw [List.length_append, List.length_singleton]; rw [List.length_cons] at n2; omega) (by
            rintro done l ⟨ns, rfl, n1, n2, _⟩
            rw [List.length_map, sizeLine_eq]; simp at n2; omega)
        have n2 : ns.length = b := by simpa using n2
        obtain ⟨d2, sp4, e2, d2l, hs4⟩ := pickN hs3 (m := 2) (by decide) (by decide)
        rw [show ((2 : Nat) : Int) = 2 from rfl] at e2
        have rz : rows.length < sizeLine := by rw [sizeLine_eq]; omega
        by_cases q2 : d2 = 0
        · have qd2 : decide ((d2 : Int) = 0) = true := by rw [decide_eq_true_iff]; omega
          have ix : L2.ixN ns.length 0 = some 0 := ixN_0 (by omega)
          simp! only [e2, gEq_i, qd2, List.length_map, ix, rz]
          have : (rows ++ [ns.set 0 i]).map natsD = rows.map natsD ++ [.tup ((ns.map fun x : Nat => D.int (x : Int)).set 0 (.int (i : Nat)))] := by
            rw [List.map_append, List.map_singleton]
            unfold natsD
            rw [List.map_set]
          rw [← this]
          refine hJ _ ⟨rows ++ [ns.set 0 i], by simp [rl], fun r hr => ?_, sp4, hs4, _, _, rfl⟩
          rcases List.mem_append.mp hr with hr | hr
          · exact rk r hr
          · rw [List.mem_singleton] at hr; subst hr
            refine ⟨by simp [n2], fun x hx => ?_⟩
            rcases List.mem_or_eq_of_mem_set hx with hx | rfl
            · exact n1 x hx
            · exact hi
        · have qd2 : decide ((d2 : Int) = 0) = false := by rw [decide_eq_false_iff_not]; omega
          simp! only [e2, gEq_i, qd2, List.length_map, rz]
          have : (rows ++ [ns]).map natsD = rows.map natsD ++ [.tup (ns.map fun x : Nat => D.int (x : Int))] := by
            rw [List.map_append, List.map_singleton]; rfl
          rw [← this]
          refine hJ _ ⟨rows ++ [ns], by simp [rl], fun r hr => ?_, sp4, hs4, _, _, rfl⟩
          rcases List.mem_append.mp hr with hr | hr
          · exact rk r hr
          · rw [List.mem_singleton] at hr; subst hr
            exact ⟨n2, n1⟩)
    simp! only [nn, Int.toNat_natCast]
    generalize hC : compB _ _ _ _ _ _ = r
    obtain ⟨done, l, ⟨bs, rfl, n2, sp3, hs3, rfl⟩, rfl⟩ := comp_eqn hC (fun rest done l => ∃ bs : List Bool, done = bs.map D.bl ∧ bs.length + rest.length = n ∧ ∃ sp', Spr sp' ∧ l = [some (.io sp'), some (.int (b : Nat)), some (.int (m : Nat)), some (.int (n : Nat)), some (.own (.lst (rows.map natsD))), none, x6, none])
      ⟨[], rfl, by rw [intsUp_len]; simp, sp2, hs2, by simp! only []⟩ (by
        rintro d rest done l ⟨bs, rfl, n2, sp3, hs3, rfl⟩
        obtain ⟨d2, sp4, e2, d2l, hs4⟩ := pickN hs3 (m := 3) (by decide) (by decide)
        rw [show ((3 : Nat) : Int) = 3 from rfl] at e2
        refine ⟨_, true, _, rfl, rfl, .inl ⟨rfl, .bl (decide ((0 : Int) < (d2 : Int))), _, by simp! only [e2]; rfl, bs ++ [decide ((0 : Int) < (d2 : Int))], ?_, ?_, sp4, hs4, by simp! only []⟩⟩
        · rw [List.map_append]; rfl
        · rw [List.length_append, List.length_singleton]; rw [List.length_cons] at n2; omega) (by
        rintro done l ⟨bs, rfl, n2, _⟩
        rw [List.length_map, sizeLine_eq]; simp at n2; omega)
    have n2 : bs.length = n := by simpa using n2
    obtain ⟨H, ok⟩ := ok_fixed h2 h4 (good := bs) rl (by omega) (by omega) rk
    have fx := fixed_is (b := .int (b : Nat)) trivial H (good := bs) (by omega)
    simp! only [fx]
    refine ⟨_, sp3, ok, rfl, by dsimp only; omega, hs3, ?_⟩
    unfold Lot.D
    rw [rl, List.map_map]; rfl
end DC

end FG
section FH
set_option Elab.async false
set_option linter.all false
set_option autoImplicit false
set_option maxRecDepth 100000
namespace DC
open PySem PySem.Spec DL
/-! ### texts, as lists of signs -/
def mk (l : List Nat) : Str := ⟨l.toArray⟩
theorem tl_mk (l : List Nat) : TL.tl (mk l) = l := by simp [TL.tl, mk]
theorem mk_inj {l m : List Nat} (h : mk l = mk m) : l = m := by rw [← tl_mk l, h, tl_mk]
theorem mk_of (x : Str) : mk (TL.tl x) = x := TL.mk_tl x
theorem mk_len (l : List Nat) : (mk l).length = l.length := by rw [TL.len_tl, tl_mk]
def sp (s : Nat) : List Nat → List (List Nat)
  | [] => [[]]
  | c :: l => if c = s then [] :: sp s l else match sp s l with
    | p :: ps => (c :: p) :: ps
    | [] => [[c]]
theorem sp_ne (s : Nat) : ∀ l, sp s l ≠ []
  | [] => by simp [sp]
  | c :: l => by
    unfold sp
    split
    · simp
    · split <;> simp
theorem sp_free (s : Nat) : ∀ l, ∀ p ∈ sp s l, s ∉ p
  | [], p, h => by simp [sp] at h; subst h; simp
  | c :: l, p, h => by
    have ih := sp_free s l
    unfold sp at h
    split at h
    · rcases List.mem_cons.mp h with rfl | h
      · simp
      · exact ih p h
    · rename_i hc
      split at h
      · rename_i q qs e
        rw [e] at ih
        rcases List.mem_cons.mp h with rfl | h
        · intro z
          rcases List.mem_cons.mp z with z | z
          · exact hc z.symm
          · exact ih q List.mem_cons_self z
        · exact ih p (List.mem_cons_of_mem _ h)
      · rename_i e; exact absurd e (sp_ne s l)
theorem joinL_cons (S : List Nat) (p : List Nat) {ps : List (List Nat)} (h : ps ≠ []) : TL.joinL S (p :: ps) = p ++ (S ++ TL.joinL S ps) := by
  cases ps with
  | nil => exact absurd rfl h
  | cons q r => rfl
theorem sp_join (s : Nat) : ∀ l, TL.joinL [s] (sp s l) = l
  | [] => rfl
  | c :: l => by
    have ih := sp_join s l
    unfold sp
    split
    · rename_i hc
      rw [joinL_cons _ _ (sp_ne s l), ih, hc]; rfl
    · split
      · rename_i q qs e
        rw [e] at ih
        cases qs with
        | nil => rw [show TL.joinL [s] [q] = q from rfl] at ih; rw [← ih]; rfl
        | cons r qs => rw [joinL_cons _ _ (by simp)] at ih ⊢; rw [← ih]; rfl
      · rename_i e; exact absurd e (sp_ne s l)
theorem join_mk (s : Nat) (ps : List (List Nat)) : Txt.join (mk [s]) (ps.map mk) = mk (TL.joinL [s] ps) := by
  refine TL.ext_tl ?_
  rw [TL.join_eq, TL.tl_join, tl_mk, tl_mk, List.map_map]
  congr 1
  exact (List.map_congr_left fun x _ => tl_mk x).trans (List.map_id _)
theorem small_ok {s : Nat} (h : s < 256) : (mk [s]).cps.all (· < 256) = true := by simp [mk, h]
theorem split_join' {s : Nat} (hs : s < 256) {ps : List (List Nat)} (hne : ps ≠ []) (hf : ∀ p ∈ ps, s ∉ p) : Txt.split (mk (TL.joinL [s] ps)) (mk [s]) = ps.map mk := by
  rw [← join_mk]
  refine TL.split_join (s := s) (S := []) (tl_mk [s]) (small_ok hs) (fun e => hne (List.map_eq_nil_iff.mp e)) fun p hp => ?_
  obtain ⟨q, hq, rfl⟩ := List.mem_map.mp hp
  rw [tl_mk]; exact hf q hq
theorem split_mk {s : Nat} (hs : s < 256) (l : List Nat) : Txt.split (mk l) (mk [s]) = (sp s l).map mk := by
  have := split_join' hs (sp_ne s l) (sp_free s l)
  rwa [sp_join] at this
theorem map_mk_inj : ∀ {l m : List (List Nat)}, l.map mk = m.map mk → l = m
  | [], [], _ => rfl
  | [], _ :: _, h => nomatch h
  | _ :: _, [], h => nomatch h
  | a :: l, b :: m, h => by
    injection h with h1 h2
    rw [mk_inj h1, map_mk_inj h2]
theorem sp_of_join {s : Nat} (hs : s < 256) {ps : List (List Nat)} (hne : ps ≠ []) (hf : ∀ p ∈ ps, s ∉ p) : sp s (TL.joinL [s] ps) = ps := by
  refine map_mk_inj ?_
  rw [← split_mk hs, split_join' hs hne hf]
/-- how long: signs and parts -/
def bulk (ps : List (List Nat)) : Nat := (ps.map (·.length)).sum + ps.length
theorem bulk_nil : bulk [] = 0 := rfl
theorem bulk_cons (p : List Nat) (ps : List (List Nat)) : bulk (p :: ps) = p.length + 1 + bulk ps := by unfold bulk; simp; omega
theorem bulk_append (ps qs : List (List Nat)) : bulk (ps ++ qs) = bulk ps + bulk qs := by unfold bulk; simp; omega
theorem bulk_take (ps : List (List Nat)) (k : Nat) : bulk (ps.take k) ≤ bulk ps := by
  have := bulk_append (ps.take k) (ps.drop k)
  rw [List.take_append_drop] at this; omega
theorem bulk_drop (ps : List (List Nat)) (k : Nat) : bulk (ps.drop k) ≤ bulk ps := by
  have := bulk_append (ps.take k) (ps.drop k)
  rw [List.take_append_drop] at this; omega
theorem sp_bulk (s : Nat) : ∀ l, bulk (sp s l) = l.length + 1
  | [] => rfl
  | c :: l => by
    have ih := sp_bulk s l
    unfold sp
    split
    · rw [bulk_cons, ih]; simp; omega
    · split
      · rename_i q qs e
        rw [e, bulk_cons] at ih
        rw [bulk_cons]; simp; omega
      · rename_i e; exact absurd e (sp_ne s l)
theorem join_len (s : Nat) : ∀ ps, (TL.joinL [s] ps).length ≤ bulk ps
  | [] => Nat.le_refl _
  | [p] => by rw [bulk_cons]; show p.length ≤ _; omega
  | p :: q :: r => by
    have ih := join_len s (q :: r)
    rw [bulk_cons]
    show (p ++ ([s] ++ TL.joinL [s] (q :: r))).length ≤ _
    simp only [List.length_append, List.length_singleton]; omega
theorem bulk_mem {ps : List (List Nat)} {p : List Nat} (h : p ∈ ps) : p.length + 1 ≤ bulk ps := by
  induction ps with
  | nil => cases h
  | cons q qs ih =>
    rw [bulk_cons]
    rcases List.mem_cons.mp h with rfl | h
    · omega
    · have := ih h; omega
theorem bulk_count (ps : List (List Nat)) : ps.length ≤ bulk ps := by unfold bulk; omega
/-! ### the readings' operations on them -/
abbrev TX (l : List Nat) : D := .str (mk l)
theorem s_nl : Str.ofString "\n" = mk [10] := by decide +kernel
theorem s_bl : Str.ofString " " = mk [32] := by decide +kernel
theorem s_yes : Str.ofString "yes" = mk [121, 101, 115] := by decide +kernel
theorem s_no : Str.ofString "no" = mk [110, 111] := by decide +kernel
theorem s_base : Str.ofString "base" = mk [98, 97, 115, 101] := by decide +kernel
theorem s_baseb : Str.ofString "base " = mk [98, 97, 115, 101, 32] := by decide +kernel
theorem split_q {s : Nat} (hs : s < 256) {l : List Nat} (h : l.length ≤ 1000000) : gSplit (TX l) [.str (mk [s])] = some (.own (.lst ((sp s l).map TX))) := by
  unfold gSplit
  dsimp only
  rw [if_pos ⟨rfl, by rw [mk_len, sizeLine_eq]; omega⟩, split_mk hs, List.map_map]; rfl
theorem strsD_mk : ∀ ps : List (List Nat), strsD (ps.map TX) = some (ps.map mk)
  | [] => rfl
  | p :: ps => by
    show (strsD (ps.map TX)).map (mk p :: ·) = _
    rw [strsD_mk ps]; rfl
theorem join_q {s : Nat} {ps : List (List Nat)} (h : bulk ps ≤ 1000000) : gJoin (.str (mk [s])) [.lst (ps.map TX)] = some (TX (TL.joinL [s] ps)) := by
  show (strsD _).bind _ = _
  rw [strsD_mk, Option.bind_some, if_pos, join_mk]
  have : ((ps.map mk).map (·.length)).sum = (ps.map (·.length)).sum := by
    rw [List.map_map]
    exact congrArg List.sum (List.map_congr_left fun x _ => mk_len x)
  rw [this, List.length_map]
  unfold bulk at h
  rw [mk_len, List.length_singleton]
  omega
/-- signs that there are -/
def Sg (l : List Nat) : Prop := ∀ c ∈ l, c < 1114112
theorem Sg.ok {l : List Nat} (h : Sg l) : PyData.strOk (mk l) = true := by
  unfold PyData.strOk
  rw [← Array.all_toList, List.all_eq_true]
  intro c hc
  have : c ∈ l := by rwa [show (mk l).cps.toList = l from tl_mk l] at hc
  exact decide_eq_true (h c this)
theorem Sg.app {l m : List Nat} (h : Sg l) (k : Sg m) : Sg (l ++ m) := fun c hc => (List.mem_append.mp hc).elim (h c) (k c)
theorem Sg.take {l : List Nat} (h : Sg l) (k : Nat) : Sg (l.take k) := fun c hc => h c (List.mem_of_mem_take hc)
theorem Sg.drop {l : List Nat} (h : Sg l) (k : Nat) : Sg (l.drop k) := fun c hc => h c (List.mem_of_mem_drop hc)
theorem sp_sub (s : Nat) : ∀ l, ∀ p ∈ sp s l, ∀ c ∈ p, c ∈ l
  | [], p, h, c, hc => by simp [sp] at h; subst h; cases hc
  | d :: l, p, h, c, hc => by
    have ih := sp_sub s l
    unfold sp at h
    split at h
    · rcases List.mem_cons.mp h with rfl | h
      · cases hc
      · exact List.mem_cons_of_mem _ (ih p h c hc)
    · split at h
      · rename_i q qs e
        rw [e] at ih
        rcases List.mem_cons.mp h with rfl | h
        · rcases List.mem_cons.mp hc with rfl | hc
          · exact List.mem_cons_self
          · exact List.mem_cons_of_mem _ (ih q List.mem_cons_self c hc)
        · exact List.mem_cons_of_mem _ (ih p (List.mem_cons_of_mem _ h) c hc)
      · rename_i e; exact absurd e (sp_ne s l)
theorem Sg.sp {l : List Nat} (h : Sg l) (s : Nat) : ∀ p ∈ DC.sp s l, Sg p := fun p hp c hc => h c (sp_sub s l p hp c hc)
theorem Sg.join {s : Nat} (hs : s < 1114112) : ∀ {ps : List (List Nat)}, (∀ p ∈ ps, Sg p) → Sg (TL.joinL [s] ps)
  | [], _ => fun c hc => nomatch hc
  | [p], h => h p List.mem_cons_self
  | p :: q :: r, h => (h p List.mem_cons_self).app (Sg.app (fun c hc => by rw [List.mem_singleton] at hc; subst hc; exact hs) (Sg.join hs fun x hx => h x (List.mem_cons_of_mem _ hx)))
theorem gEq_str {a b : Str} (ha : PyData.strOk a = true) (hb : PyData.strOk b = true) : gEq (.str a) (.str b) = some (.bl (decide (a = b))) := by
  unfold gEq gEqB
  simp only [toP, Option.bind_some, PyData.eqv]
  rw [if_pos (by simp [SeqAt.shaped, PyData.canLay0, PyData.depth, ha, hb])]
  by_cases h : a = b <;> simp [h]
theorem gNe_str {a b : Str} (ha : PyData.strOk a = true) (hb : PyData.strOk b = true) : gNe (.str a) (.str b) = some (.bl (!decide (a = b))) := by
  unfold gNe gEqB
  simp only [toP, Option.bind_some, PyData.eqv]
  rw [if_pos (by simp [SeqAt.shaped, PyData.canLay0, PyData.depth, ha, hb])]
  by_cases h : a = b <;> simp [h]
theorem mk_eq0 (l m : List Nat) : decide (mk l = mk m) = decide (l = m) := by
  by_cases h : l = m
  · subst h; simp
  · rw [decide_eq_false h, decide_eq_false fun e => h (mk_inj e)]
theorem gEq_tx {l m : List Nat} (hl : Sg l) (hm : Sg m) : gEq (TX l) (TX m) = some (.bl (decide (l = m))) := by rw [gEq_str hl.ok hm.ok, mk_eq0]
theorem gNe_tx {l m : List Nat} (hl : Sg l) (hm : Sg m) : gNe (TX l) (TX m) = some (.bl (!decide (l = m))) := by rw [gNe_str hl.ok hm.ok, mk_eq0]
theorem flats_strs : ∀ ns : List Str, flatsD (ns.map D.str) = some (ns.map L2.V.str)
  | [] => rfl
  | n :: ns => by
    show (flatD (.str n)).bind (fun v => (flatsD (ns.map D.str)).bind fun vs => some (v :: vs)) = _
    rw [flats_strs ns]; rfl
theorem inV_strs (x : Str) : ∀ ns : List Str, L2.inV (.str x) (ns.map L2.V.str) = decide (x ∈ ns)
  | [] => by simp [L2.inV]
  | n :: ns => by
    have ih := inV_strs x ns
    unfold L2.inV at ih ⊢
    rw [List.map_cons, List.any_cons, ih]
    by_cases h : n = x
    · simp [L2.eqV, h]
    · simp [L2.eqV, h, Ne.symm h]
theorem gIn_strs (neg : Bool) (x : Str) (ns : List Str) : gIn neg (.str x) (.lst (ns.map .str)) = some (.bl (if neg then !decide (x ∈ ns) else decide (x ∈ ns))) ∧ gIn neg (.str x) (.tup (ns.map .str)) = some (.bl (if neg then !decide (x ∈ ns) else decide (x ∈ ns))) := by
  unfold gIn
  simp only [flatD, seqOf, Option.bind_some, flats_strs, inV_strs, and_self]
theorem mem_mk (l : List Nat) (ms : List (List Nat)) : decide (mk l ∈ ms.map mk) = decide (l ∈ ms) := by
  by_cases h : l ∈ ms
  · rw [decide_eq_true h, decide_eq_true (List.mem_map_of_mem h)]
  · rw [decide_eq_false h, decide_eq_false fun e => ?_]
    obtain ⟨m, hm, e⟩ := List.mem_map.mp e
    rw [mk_inj e] at hm; exact h hm
/-! ### slices -/
theorem cut_map {α : Type} (f : α → D) (xs : List α) (lo hi : Option Int) : cutD (xs.map f) lo hi = ((xs.drop (HT.sIx xs.length 0 lo)).take (HT.sIx xs.length xs.length hi - HT.sIx xs.length 0 lo)).map f := by
  unfold cutD
  rw [List.length_map, ← List.map_drop, ← List.map_take]
theorem cut_from {α : Type} (f : α → D) (xs : List α) (k : Nat) : cutD (xs.map f) (some (k : Int)) none = (xs.drop k).map f := by
  rw [cut_map, HT.sIx_nat, HT.sIx_none]
  rcases Nat.le_total k xs.length with h | h
  · rw [Nat.min_eq_left h, List.take_of_length_le (by rw [List.length_drop]; omega)]
  · rw [Nat.min_eq_right h, List.drop_length, List.drop_eq_nil_of_le h, List.take_nil]
theorem cut_to {α : Type} (f : α → D) (xs : List α) (k : Nat) : cutD (xs.map f) none (some (k : Int)) = (xs.take k).map f := by
  rw [cut_map, HT.sIx_nat, HT.sIx_none, List.drop_zero, Nat.sub_zero]
  rcases Nat.le_total k xs.length with h | h
  · rw [Nat.min_eq_left h]
  · rw [Nat.min_eq_right h, List.take_length, List.take_of_length_le h]
theorem cutS_from (l : List Nat) (k : Nat) : L2.cutS (mk l) (some (k : Int)) none = mk (l.drop k) := by
  unfold L2.cutS
  rw [HT.sIx_nat, HT.sIx_none, mk_len]
  show mk _ = _
  rw [show (mk l).cps.toList = l from tl_mk l]
  rcases Nat.le_total k l.length with h | h
  · rw [Nat.min_eq_left h, List.take_of_length_le (by rw [List.length_drop]; omega)]
  · rw [Nat.min_eq_right h, List.drop_length, List.drop_eq_nil_of_le h, List.take_nil]
theorem cutS_to (l : List Nat) (k : Nat) : L2.cutS (mk l) none (some (k : Int)) = mk (l.take k) := by
  unfold L2.cutS
  rw [HT.sIx_nat, HT.sIx_none, mk_len]
  show mk _ = _
  rw [show (mk l).cps.toList = l from tl_mk l, List.drop_zero, Nat.sub_zero]
  rcases Nat.le_total k l.length with h | h
  · rw [Nat.min_eq_left h]
  · rw [Nat.min_eq_right h, List.take_length, List.take_of_length_le h]
theorem sl_str {l : List Nat} (h : l.length ≤ 1000000) (lo hi : Option Int) : gSl lo hi (TX l) = some (.str (L2.cutS (mk l) lo hi)) := if_pos (by rw [mk_len, sizeLine_eq]; omega)
theorem len_str {l : List Nat} (h : l.length ≤ 1000000) : gLen [TX l] = some (.int (l.length : Nat)) := by
  show (if _ then _ else _) = _
  rw [if_pos (by rw [mk_len, sizeLine_eq]; omega), mk_len]
theorem add_str {l m : List Nat} (h : l.length + m.length ≤ 1000000) : gAdd (TX l) (TX m) = some (TX (l ++ m)) := by
  show (if _ then _ else _) = _
  rw [if_pos (by rw [mk_len, mk_len, sizeLine_eq]; omega)]
  have : mk l ++ mk m = mk (l ++ m) := TL.ext_tl (by rw [TL.tl_append, tl_mk, tl_mk, tl_mk])
  rw [this]
end DC

end FH
section FI
set_option Elab.async false
set_option linter.all false
set_option autoImplicit false
set_option maxRecDepth 100000
namespace DC
open PySem PySem.Spec DL
def signW : List (List Nat) := [[48], [49], [50], [51], [32], [10], [10, 121, 101, 115, 32, 48, 32, 48], [110, 111], [121, 101, 115], [98, 97, 115, 101], [97], [48, 49], [32, 48], []]
def someW : List (List Nat) := [[48], [49], [50], [51], [52], [121, 101, 115], [110, 111], [98, 97, 115, 101], [], [48, 48]]
theorem signs_eq : [D.str "0", .str "1", .str "2", .str "3", .str " ", .str "\n", .str "\nyes 0 0", .str "no", .str "yes", .str "base", .str "a", .str "01", .str " 0", .str ""] = signW.map TX := by kernel_rfl
theorem some_eq : [D.str "0", .str "1", .str "2", .str "3", .str "4", .str "yes", .str "no", .str "base", .str "", .str "00"] = someW.map TX := by kernel_rfl
theorem signW_ok : ∀ w ∈ signW, w.length ≤ 8 ∧ ∀ c ∈ w, c < 1114112 := by decide
theorem someW_ok : ∀ w ∈ someW, w.length ≤ 8 ∧ ∀ c ∈ w, c < 1114112 := by decide
theorem at_tx {ps : List (List Nat)} {j : Nat} (h : j < ps.length) : L2.atI (ps.map TX) (j : Int) = some (TX ps[j]) := by rw [atI_map, atI_nat h]; rfl
theorem sg_mem {ps : List (List Nat)} (h : ∀ p ∈ ps, Sg p) {qs : List (List Nat)} (hq : ∀ q ∈ qs, q ∈ ps) : ∀ q ∈ qs, Sg q := fun q hm => h q (hq q hm)
theorem bend {sp0 : D} (hs : Spr sp0) {l : List Nat} (hl : l.length ≤ 10000) (hg : Sg l) :
    ∃ (m : List Nat) (sp' : D), m.length ≤ 2 * l.length + 20 ∧ Sg m ∧ Spr sp' ∧ f__law_bend sp0 [TX l] = .ok (TX m, sp') := by
  have L14 : 14 ≤ sizeLine := by rw [sizeLine_eq]; omega
  have L10 : 10 ≤ sizeLine := by rw [sizeLine_eq]; omega
  have L1 : 1 ≤ sizeLine := by rw [sizeLine_eq]; omega
  have e8 : (8 : Int) = ((8 : Nat) : Int) := rfl
  have e14 : (14 : Int) = ((14 : Nat) : Int) := rfl
  have e10 : (10 : Int) = ((10 : Nat) : Int) := rfl
  have hb := sp_bulk 10 l
  have hne := sp_ne 10 l
  have hsg : ∀ p ∈ sp 10 l, Sg p := hg.sp 10
  have hlt : ∀ p ∈ sp 10 l, p.length ≤ l.length := fun p hp => by have := bulk_mem hp; omega
  have hcount := bulk_count (sp 10 l)
  have q1 := split_q (s := 10) (by decide) (l := l) (by omega)
  have n10 : Sg [10] := fun c hc => by rw [List.mem_singleton] at hc; omega
  generalize hps : sp 10 l = ps at hb hne hsg hlt hcount q1
  have hpos : 0 < ps.length := List.length_pos_iff.mpr hne
  obtain ⟨way, sp1, w1, w2, hs1⟩ := pickN hs (m := 8) (by decide) (by decide)
  obtain ⟨at_, sp2, a1, a2, hs2⟩ := pickN hs1 (m := ps.length) hpos (by omega)
  obtain ⟨spot, sp3, p1, p2, hs3⟩ := pickN hs2 (m := l.length + 1) (by omega) (by omega)
  have qlen := len_str (l := l) (by omega)
  rw [← e8] at w1
  have ea : (at_ : Int) + 1 = ((at_ + 1 : Nat) : Int) := by omega
  have p1' : f__law_pick sp2 [.int ((l.length : Int) + 1)] = .ok (.int (spot : Nat), sp3) := by rw [← p1]; rfl
  have tk := fun k => bulk_take ps k
  have dk := fun k => bulk_drop ps k
  have addl : ∀ xs ys : List (List Nat), xs.length ≤ ps.length + 1 → ys.length ≤ ps.length + 1 → gAdd (.lst (xs.map TX)) (.lst (ys.map TX)) = some (.own (.lst ((xs ++ ys).map TX))) := fun xs ys hx hy => by
    rw [q_add_lst, if_pos (by rw [List.length_map, List.length_map, sizeLine_eq]; omega), List.map_append]
  have tl' : ∀ k, (ps.take k).length ≤ ps.length + 1 := fun k => by rw [List.length_take]; omega
  have dl' : ∀ k, (ps.drop k).length ≤ ps.length + 1 := fun k => by rw [List.length_drop]; omega
  have fin3 : ∀ qs : List (List Nat), (∀ q ∈ qs, Sg q) → bulk qs ≤ 2 * l.length + 20 → gJoin (.str (mk [10])) [.lst (qs.map TX)] = some (TX (TL.joinL [10] qs)) ∧ (TL.joinL [10] qs).length ≤ 2 * l.length + 20 ∧ Sg (TL.joinL [10] qs) := fun qs h1 h2 =>
    ⟨join_q (by omega), by have := join_len 10 qs; omega, Sg.join (by decide) h1⟩
  unfold f__law_bend b__law_bend
  simp! only [s_nl, s_bl, q1, w1, List.length_map, a1, qlen, p1']
  by_cases c0 : way = 0
  · have d0 : decide ((way : Int) = 0) = true := by rw [decide_eq_true_iff]; omega
    obtain ⟨j1, j2, j3⟩ := fin3 (ps.take at_ ++ ps.drop (at_ + 1)) (fun q hq => (List.mem_append.mp hq).elim (fun h => hsg q (List.mem_of_mem_take h)) fun h => hsg q (List.mem_of_mem_drop h)) (by rw [bulk_append]; have := tk at_; have := dk (at_ + 1); omega)
    refine ⟨_, sp3, j2, j3, hs3, ?_⟩
    simp! only [gEq_i, d0, ea, cut_to, cut_from, addl _ _ (tl' _) (dl' _), j1]
  have d0 : decide ((way : Int) = 0) = false := by rw [decide_eq_false_iff_not]; omega
  by_cases c1 : way = 1
  · have d1 : decide ((way : Int) = 1) = true := by rw [decide_eq_true_iff]; omega
    obtain ⟨j1, j2, j3⟩ := fin3 (ps.take (at_ + 1) ++ ps.drop at_) (fun q hq => (List.mem_append.mp hq).elim (fun h => hsg q (List.mem_of_mem_take h)) fun h => hsg q (List.mem_of_mem_drop h)) (by rw [bulk_append]; have := tk (at_ + 1); have := dk at_; omega)
    refine ⟨_, sp3, j2, j3, hs3, ?_⟩
    simp! only [gEq_i, d0, d1, ea, cut_to, cut_from, addl _ _ (tl' _) (dl' _), j1]
  have d1 : decide ((way : Int) = 1) = false := by rw [decide_eq_false_iff_not]; omega
  by_cases c2 : way = 2
  · have d2 : decide ((way : Int) = 2) = true := by rw [decide_eq_true_iff]; omega
    obtain ⟨j1, j2, j3⟩ := fin3 (ps.drop at_ ++ ps.take at_) (fun q hq => (List.mem_append.mp hq).elim (fun h => hsg q (List.mem_of_mem_drop h)) fun h => hsg q (List.mem_of_mem_take h)) (by rw [bulk_append]; have := tk at_; have := dk at_; omega)
    refine ⟨_, sp3, j2, j3, hs3, ?_⟩
    simp! only [gEq_i, d0, d1, d2, ea, cut_to, cut_from, addl _ _ (dl' _) (tl' _), j1]
  have d2 : decide ((way : Int) = 2) = false := by rw [decide_eq_false_iff_not]; omega
  by_cases c6 : way < 6
  · have d6 : decide ((way : Int) < 6) = true := by rw [decide_eq_true_iff]; omega
    obtain ⟨j, sp4, g1, g2, hs4⟩ := pickN hs3 (m := 14) (by decide) (by decide)
    rw [← e14] at g1
    have sj : j < signW.length := g2
    have sa := at_tx sj
    rw [← signs_eq, s_nl, s_bl] at sa
    obtain ⟨k1, k2⟩ := signW_ok _ (List.getElem_mem sj)
    generalize signW[j] = w at sa k1 k2
    have fm := fmod_ok (b := 2) (by decide) (way : Int)
    have em : (spot : Int) + (way : Int) % 2 = ((spot + way % 2 : Nat) : Int) := by omega
    have t1 : (l.take spot).length ≤ l.length := by rw [List.length_take]; omega
    have t2 : (l.drop (spot + way % 2)).length ≤ l.length := by rw [List.length_drop]; omega
    refine ⟨l.take spot ++ w ++ l.drop (spot + way % 2), sp4, by simp only [List.length_append]; omega, ((hg.take _).app k2).app (hg.drop _), hs4, ?_⟩
    have A1 := add_str (l := l.take spot) (m := w) (by omega)
    have A2 := add_str (l := l.take spot ++ w) (m := l.drop (spot + way % 2)) (by rw [List.length_append]; omega)
    simp! only [gEq_i, d0, d1, d2, L14, d6, sl_str (l := l) (by omega), cutS_to, g1, sa, fm, em, cutS_from, A1, A2]
  have d6 : decide ((way : Int) < 6) = false := by rw [decide_eq_false_iff_not]; omega
  have ga := at_tx a2
  have hlt2 := hlt _ (List.getElem_mem a2)
  have hsg2 := hsg _ (List.getElem_mem a2)
  generalize ps[at_] = line at ga hlt2 hsg2
  have q3 := split_q (s := 32) (by decide) (l := line) (by omega)
  have hb3 := sp_bulk 32 line
  have hne3 := sp_ne 32 line
  have hsg3 : ∀ p ∈ sp 32 line, Sg p := hsg2.sp 32
  have hc3 := bulk_count (sp 32 line)
  generalize sp 32 line = ws at q3 hb3 hne3 hsg3 hc3
  have hpos3 : 0 < ws.length := List.length_pos_iff.mpr hne3
  obtain ⟨here, sp4, h1, h2, hs4⟩ := pickN hs3 (m := ws.length) hpos3 (by omega)
  obtain ⟨j, sp5, g1, g2, hs5⟩ := pickN hs4 (m := 10) (by decide) (by decide)
  rw [← e10] at g1
  have sj : j < someW.length := g2
  have sa := at_tx sj
  rw [← some_eq] at sa
  obtain ⟨k1, k2⟩ := someW_ok _ (List.getElem_mem sj)
  generalize someW[j] = w at sa k1 k2
  have eh : (here : Int) + 1 = ((here + 1 : Nat) : Int) := by omega
  have addw : ∀ xs ys : List (List Nat), xs.length ≤ 20000 → ys.length ≤ 20000 → gAdd (.lst (xs.map TX)) (.lst (ys.map TX)) = some (.own (.lst ((xs ++ ys).map TX))) := fun xs ys hx hy => by
    rw [q_add_lst, if_pos (by rw [List.length_map, List.length_map, sizeLine_eq]; omega), List.map_append]
  have lt1 : (ws.take here).length ≤ 10002 := by rw [List.length_take]; omega
  have lt2 : (ws.drop (here + 1)).length ≤ 10002 := by rw [List.length_drop]; omega
  have W1 := addw (ws.take here) [w] (by omega) (by simp)
  have W2 := addw (ws.take here ++ [w]) (ws.drop (here + 1)) (by simp only [List.length_append, List.length_singleton]; omega) (by omega)
  have bw : bulk (ws.take here ++ [w] ++ ws.drop (here + 1)) ≤ line.length + 10 := by
    have e1 := bulk_append (ws.take (here + 1)) (ws.drop (here + 1))
    rw [List.take_append_drop] at e1
    have e2 : bulk (ws.take here) ≤ bulk (ws.take (here + 1)) := by
      have : ws.take here = (ws.take (here + 1)).take here := by rw [List.take_take, Nat.min_eq_left (by omega)]
      rw [this]; exact bulk_take _ _
    rw [bulk_append, bulk_append, bulk_cons, bulk_nil]; omega
  have sw : ∀ q ∈ ws.take here ++ [w] ++ ws.drop (here + 1), Sg q := fun q hq => by
    rcases List.mem_append.mp hq with hq | hq
    · rcases List.mem_append.mp hq with hq | hq
      · exact hsg3 q (List.mem_of_mem_take hq)
      · rw [List.mem_singleton] at hq; subst hq; exact k2
    · exact hsg3 q (List.mem_of_mem_drop hq)
  have J3 := join_q (s := 32) (ps := ws.take here ++ [w] ++ ws.drop (here + 1)) (by omega)
  have jl := join_len 32 (ws.take here ++ [w] ++ ws.drop (here + 1))
  have jg : Sg (TL.joinL [32] (ws.take here ++ [w] ++ ws.drop (here + 1))) := Sg.join (by decide) sw
  generalize TL.joinL [32] (ws.take here ++ [w] ++ ws.drop (here + 1)) = nl at J3 jl jg
  have X1 := addw (ps.take at_) [nl] (by have := tl' at_; omega) (by simp)
  have X2 := addw (ps.take at_ ++ [nl]) (ps.drop (at_ + 1)) (by simp only [List.length_append, List.length_singleton]; have := tl' at_; omega) (by have := dl' (at_ + 1); omega)
  obtain ⟨j1, j2, j3⟩ := fin3 (ps.take at_ ++ [nl] ++ ps.drop (at_ + 1)) (fun q hq => by
    rcases List.mem_append.mp hq with hq | hq
    · rcases List.mem_append.mp hq with hq | hq
      · exact hsg q (List.mem_of_mem_take hq)
      · rw [List.mem_singleton] at hq; subst hq; exact jg
    · exact hsg q (List.mem_of_mem_drop hq)) (by
    have e1 := bulk_append (ps.take (at_ + 1)) (ps.drop (at_ + 1))
    rw [List.take_append_drop] at e1
    have e2 : bulk (ps.take at_) ≤ bulk (ps.take (at_ + 1)) := by
      have : ps.take at_ = (ps.take (at_ + 1)).take at_ := by rw [List.take_take, Nat.min_eq_left (by omega)]
      rw [this]; exact bulk_take _ _
    rw [bulk_append, bulk_append, bulk_cons, bulk_nil]; omega)
  refine ⟨_, sp5, j2, j3, hs5, ?_⟩
  rw [List.map_cons, List.map_nil] at W1 X1
  simp! only [gEq_i, d0, d1, d2, L14, L10, L1, d6, ga, q3, List.length_map, h1, g1, sa, eh, ea, cut_to, cut_from, W1, W2, J3, X1, X2, j1]
end DC

end FI
section FJ
set_option Elab.async false
set_option linter.all false
set_option autoImplicit false
set_option maxRecDepth 100000
namespace DC
open PySem PySem.Spec DL
/-! ### the number of a word -/
def numW : List Nat → D
  | [c] => if 48 ≤ c ∧ c ≤ 57 then .int ((c : Int) - 48) else .non
  | _ => .non
theorem pl_numW (w : List Nat) : Pl (numW w) := by
  unfold numW
  split
  · split
    · exact .int _
    · exact .non
  · exact .non
theorem figs_cps : (Str.ofString "0123456789").cps.toList = [48, 49, 50, 51, 52, 53, 54, 55, 56, 57] := by decide +kernel
theorem gInS_one (c : Nat) : gInS (.str (mk [c])) (.str "0123456789") = some (.bl (decide (48 ≤ c ∧ c ≤ 57))) := by
  have q : (!(Builtin.Str.occurrences (Str.ofString "0123456789") (mk [c]) 0 (Str.ofString "0123456789").length 1).isEmpty) = decide (c ∈ (Str.ofString "0123456789").cps.toList) := StrLaws.found_one _ c
  unfold gInS
  dsimp only
  rw [q, figs_cps]
  congr 2
  rw [decide_eq_decide]
  simp only [List.mem_cons, List.not_mem_nil, or_false]
  omega
theorem gIdx_one {c : Nat} (h : 48 ≤ c ∧ c ≤ 57) : gIdxS (.str "0123456789") [.str (mk [c])] = some (.int ((c : Int) - 48)) := by
  have : c = 48 ∨ c = 49 ∨ c = 50 ∨ c = 51 ∨ c = 52 ∨ c = 53 ∨ c = 54 ∨ c = 55 ∨ c = 56 ∨ c = 57 := by omega
  rcases this with rfl | rfl | rfl | rfl | rfl | rfl | rfl | rfl | rfl | rfl <;> kernel_rfl
theorem number_of {w : List Nat} (hw : w.length ≤ 1000000) : f_number_of [TX w] = .ok (numW w) := by
  have ql := len_str hw
  unfold f_number_of b_number_of
  by_cases h1 : w.length = 1
  · obtain ⟨c, rfl⟩ : ∃ c, w = [c] := List.length_eq_one_iff.mp h1
    rw [h1] at ql
    have e1 : decide (((1 : Nat) : Int) = 1) = true := rfl
    by_cases h : 48 ≤ c ∧ c ≤ 57
    · have d := decide_eq_true h
      have nw : numW [c] = .int ((c : Int) - 48) := if_pos h
      simp! only [ql, gEq_i, e1, gInS_one, d, gIdx_one h, nw]
    · have d := decide_eq_false h
      have nw : numW [c] = .non := if_neg h
      simp! only [ql, gEq_i, e1, gInS_one, d, nw]
  · have d : decide ((w.length : Int) = 1) = false := by rw [decide_eq_false_iff_not]; omega
    have : numW w = .non := by
      unfold numW
      split
      · simp at h1
      · rfl
    simp! only [ql, gEq_i, d, this]
/-! ### what a text tells -/
abbrev wYes : List Nat := [121, 101, 115]
abbrev wNo : List Nat := [110, 111]
abbrev wBase : List Nat := [98, 97, 115, 101]
theorem sgYes : Sg wYes := by unfold Sg; decide
theorem sgNo : Sg wNo := by unfold Sg; decide
theorem sgBase : Sg wBase := by unfold Sg; decide
def hd1 (r : List (List Nat)) : List Nat := r.headD []
def isYN (r : List (List Nat)) : Bool := decide (hd1 r ∈ [wYes, wNo])
def leadsD (t : List (List (List Nat))) : D := .tup (t.map fun r => .tup ((r.drop 1).map numW))
def yesD (t : List (List (List Nat))) : D := .tup (t.map fun r => .bl (decide (hd1 r = wYes)))
def readD (l : List Nat) : Option D :=
  let rows := (sp 10 l).map (sp 32)
  match rows with
  | h :: t => if hd1 h = wBase ∧ h.length = 2 ∧ t.all isYN = true then
      (let v := D.tup [numW (h.getD 1 []), leadsD t, yesD t]
       if fitD v then some v else none)
    else none
  | [] => none
theorem pl_read (x : D) (hx : Pl x) (t : List (List (List Nat))) : Pl (.tup [x, leadsD t, yesD t]) := .tup _ fun y hy => by
  simp only [List.mem_cons, List.not_mem_nil, or_false] at hy
  rcases hy with rfl | rfl | rfl
  · exact hx
  · exact .tup _ fun y hy => by
      obtain ⟨r, _, rfl⟩ := List.mem_map.mp hy
      exact .tup _ fun y hy => by obtain ⟨w, _, rfl⟩ := List.mem_map.mp hy; exact pl_numW w
  · exact .tup _ fun y hy => by obtain ⟨r, _, rfl⟩ := List.mem_map.mp hy; exact .bl _
abbrev RW1 (r : List (List Nat)) : D := .lst (r.map TX)
theorem head_at {r : List (List Nat)} (h : r ≠ []) : L2.atI (r.map TX) 0 = some (TX (hd1 r)) := by
  cases r with
  | nil => exact absurd rfl h
  | cons w r => rw [List.map_cons, q_at0]; rfl
theorem in_yn (r : List (List Nat)) : gIn false (TX (hd1 r)) (.tup [.str "yes", .str "no"]) = some (.bl (isYN r)) := by
  have q := (gIn_strs false (mk (hd1 r)) ([wYes, wNo].map mk)).2
  rw [mem_mk] at q
  have e : ([wYes, wNo].map mk).map D.str = [D.str "yes", .str "no"] := by kernel_rfl
  rw [e] at q
  exact q
theorem read_is {l : List Nat} (hl : l.length ≤ 1000000) (hg : Sg l) : f_read_lot [TX l] = (match readD l with | some d => .ok d | none => .exc "InvalidText") := by
  have Z2 : 2 ≤ sizeLine := by rw [sizeLine_eq]; omega
  have Z3 : 3 ≤ sizeLine := by rw [sizeLine_eq]; omega
  have q1 := split_q (s := 10) (by decide) hl
  have hb := sp_bulk 10 l
  have hne := sp_ne 10 l
  have hsg : ∀ p ∈ sp 10 l, Sg p := hg.sp 10
  have hlt : ∀ p ∈ sp 10 l, p.length ≤ 1000000 := fun p hp => by have := bulk_mem hp; omega
  have hcount := bulk_count (sp 10 l)
  unfold f_read_lot b_read_lot readD
  simp! only [s_nl, s_bl, q1]
  rw [compB_map TX (fun p => RW1 (sp 32 p)) (sp 10 l) (fun p hp => ⟨_, rfl, by
    have q3 := split_q (s := 32) (by decide) (hlt p hp)
    simp! only [q3], by simp! only []⟩) (by rw [sizeLine_eq]; omega)]
  have hr : ∀ r ∈ (sp 10 l).map (sp 32), r ≠ [] ∧ (∀ w ∈ r, Sg w ∧ w.length ≤ 1000000) ∧ r.length ≤ 1000001 := fun r hr => by
    obtain ⟨p, hp, rfl⟩ := List.mem_map.mp hr
    have := sp_bulk 32 p
    have h2 := hlt p hp
    have := bulk_count (sp 32 p)
    refine ⟨sp_ne 32 p, fun w hw => ⟨(hsg p hp).sp 32 w hw, ?_⟩, by omega⟩
    have := bulk_mem hw
    omega
  have e0 : (sp 10 l).map (fun p => RW1 (sp 32 p)) = ((sp 10 l).map (sp 32)).map RW1 := by rw [List.map_map]; rfl
  rw [e0]
  have hrl : ((sp 10 l).map (sp 32)).length ≤ 1000001 := by rw [List.length_map]; omega
  have hrn : (sp 10 l).map (sp 32) ≠ [] := fun e => hne (List.map_eq_nil_iff.mp e)
  generalize (sp 10 l).map (sp 32) = rows at hr hrl hrn
  obtain ⟨h, t, rfl⟩ : ∃ h t, rows = h :: t := by
    cases rows with
    | nil => exact absurd rfl hrn
    | cons h t => exact ⟨h, t, rfl⟩
  obtain ⟨hh1, hh2, hh3⟩ := hr h List.mem_cons_self
  have sgh : Sg (hd1 h) ∧ (hd1 h).length ≤ 1000000 := by
    cases h with
    | nil => exact absurd rfl hh1
    | cons w r => exact hh2 w List.mem_cons_self
  have htl : t.length ≤ sizeLine := by rw [List.length_cons] at hrl; rw [sizeLine_eq]; omega
  have hcut : cutD ((h :: t).map RW1) (some 1) none = t.map RW1 := by
    have := cut_from RW1 (h :: t) 1
    rwa [List.drop_one, List.tail_cons] at this
  rw [List.map_cons] at hcut ⊢
  have hh := head_at hh1
  dsimp only
  simp! only [hh, s_base, gNe_tx sgh.1 sgBase]
  by_cases c1 : hd1 h = wBase
  · have d1 := decide_eq_true c1
    have gn2 := gNe_int ((h.map TX).length : Nat) 2
    by_cases c2 : h.length = 2
    · have d2 : decide (((h.map TX).length : Int) = 2) = true := by rw [decide_eq_true_iff, List.length_map]; omega
      rw [d2] at gn2
      simp! only [d1, gn2, hcut]
      rw [compB_map RW1 (fun r => .bl (isYN r)) t (fun r hr' => ⟨_, rfl, by
        have e1 := head_at (hr r (List.mem_cons_of_mem _ hr')).1
        simp! only [e1, Z2, in_yn], by simp! only []⟩) htl]
      simp! only [bls_map]
      cases c3 : t.all isYN with
      | false =>
        have : (t.map isYN).all id = false := by rw [List.all_map]; exact c3
        have no : ¬ (hd1 h = wBase ∧ h.length = 2 ∧ false = true) := fun z => Bool.false_ne_true z.2.2
        rw [if_neg no]
        simp! only [this]
      | true =>
        have : (t.map isYN).all id = true := by rw [List.all_map]; exact c3
        have yes : hd1 h = wBase ∧ h.length = 2 ∧ true = true := ⟨c1, c2, rfl⟩
        rw [if_pos yes]
        simp! only [this, hcut]
        rw [compB_map RW1 (fun r => .tup ((r.drop 1).map numW)) t (fun r hr' => ⟨_, rfl, by
          obtain ⟨r1, r2, r3⟩ := hr r (List.mem_cons_of_mem _ hr')
          simp! only [show cutD (r.map TX) (some 1) none = (r.drop 1).map TX from cut_from TX r 1]
          rw [compB_map TX numW (r.drop 1) (fun w hw => ⟨_, rfl, by
            have := number_of (r2 w (List.mem_of_mem_drop hw)).2
            simp! only [this, (pl_numW w).fz], by simp! only []⟩) (by rw [List.length_drop, sizeLine_eq]; omega)]
          simp! only [], by simp! only []⟩) htl]
        simp! only [hcut]
        obtain ⟨w0, w1, rfl⟩ : ∃ a b, h = [a, b] := by
          match h, c2 with
          | [a, b], _ => exact ⟨a, b, rfl⟩
        have n1 := number_of (hh2 w1 (by simp)).2
        have at1 : L2.atI ([w0, w1].map TX) 1 = some (TX w1) := by rw [List.map_cons, List.map_cons, q_at1]
        rw [List.map_cons, List.map_cons, List.map_nil] at at1
        simp! only [at1, n1, (pl_numW w1).fz, hcut]
        rw [compB_map RW1 (fun r => .bl (decide (hd1 r = wYes))) t (fun r hr' => ⟨_, rfl, by
          obtain ⟨r1, r2, r3⟩ := hr r (List.mem_cons_of_mem _ hr')
          have e1 := head_at r1
          have sr : Sg (hd1 r) := by
            cases r with
            | nil => exact absurd rfl r1
            | cons w r => exact (r2 w List.mem_cons_self).1
          simp! only [e1, s_yes, gEq_tx sr sgYes], by simp! only []⟩) htl]
        have ft := fit_is (pl_read (numW w1) (pl_numW w1) t)
        unfold leadsD yesD at ft
        have el : [w0, w1].getD 1 [] = w1 := rfl
        rw [el]
        unfold leadsD yesD
        generalize fitD _ = fd at ft ⊢
        cases fd <;> simp! only [Z3, ft, (pl_numW w1).fz]
    · have d2 : decide (((h.map TX).length : Int) = 2) = false := by rw [decide_eq_false_iff_not, List.length_map]; omega
      rw [d2] at gn2
      have no : ¬ (hd1 h = wBase ∧ h.length = 2 ∧ t.all isYN = true) := fun z => c2 z.2.1
      rw [if_neg no]
      simp! only [d1, gn2]
  · have d1 := decide_eq_false c1
    have no : ¬ (hd1 h = wBase ∧ h.length = 2 ∧ t.all isYN = true) := fun z => c1 z.1
    rw [if_neg no]
    simp! only [d1]
end DC

end FJ
section FK
set_option Elab.async false
set_option linter.all false
set_option autoImplicit false
set_option maxRecDepth 100000
namespace DC
open PySem PySem.Spec DL
abbrev four : List (List Nat) := [[48], [49], [50], [51]]
def goodR (r : List (List Nat)) : Bool := isYN r && (r.drop 1).all fun w => decide (w ∈ four)
abbrev firsts : List (List Nat) := [[98, 97, 115, 101, 32, 50], [98, 97, 115, 101, 32, 51], [98, 97, 115, 101, 32, 52]]
def takenD (l : List Nat) : Option D :=
  match sp 10 l with
  | h :: t => if h ∈ firsts ∧ (t.map (sp 32)).all goodR = true then
      (let v := D.tup [.int (((h.getD 5 0 : Nat) : Int) - 48), leadsD (t.map (sp 32)), yesD (t.map (sp 32))]
       if fitD v then some v else none)
    else none
  | [] => none
theorem int_four : ∀ w ∈ four, gIntS [TX w] = some (numW w) := fun w hw => by
  simp only [four, List.mem_cons, List.not_mem_nil, or_false] at hw
  rcases hw with rfl | rfl | rfl | rfl <;> kernel_rfl
theorem int_first : ∀ h ∈ firsts, ∃ c, gIx (TX h) (.int (-1)) = some c ∧ Fz c ∧ gIntS [c] = some (.int (((h.getD 5 0 : Nat) : Int) - 48)) := fun w hw => by
  simp only [firsts, List.mem_cons, List.not_mem_nil, or_false] at hw
  rcases hw with rfl | rfl | rfl
  · exact ⟨TX [50], by kernel_rfl, trivial, by kernel_rfl⟩
  · exact ⟨TX [51], by kernel_rfl, trivial, by kernel_rfl⟩
  · exact ⟨TX [52], by kernel_rfl, trivial, by kernel_rfl⟩
theorem toPs_strs : ∀ ns : List Str, toPs (ns.map D.str) = some (ns.map PyData.str)
  | [] => rfl
  | n :: ns => by
    show (toP (.str n)).bind (fun y => (toPs (ns.map D.str)).bind fun ys => some (y :: ys)) = _
    rw [toPs_strs ns]; rfl
theorem can_strs : ∀ ns : List Str, (∀ n ∈ ns, PyData.strOk n = true) → PyData.canLayAll0 (ns.map PyData.str) = true
  | [], _ => by simp only [List.map_nil, PyData.canLayAll0]
  | n :: ns, h => by simp only [List.map_cons, PyData.canLayAll0, PyData.canLay0, can_strs ns fun x hx => h x (List.mem_cons_of_mem _ hx), h n List.mem_cons_self, Bool.and_self]
theorem dep_strs : ∀ ns : List Str, PyData.depthAll (ns.map PyData.str) = 0
  | [] => by simp only [List.map_nil, PyData.depthAll]
  | n :: ns => by simp only [List.map_cons, PyData.depthAll, PyData.depth, dep_strs ns, Nat.max_self]
theorem gNe_strs_nil (ns : List Str) (h : ∀ n ∈ ns, PyData.strOk n = true) : gNe (.lst (ns.map .str)) (.lst []) = some (.bl (!ns.isEmpty)) := by
  have s1 : SeqAt.shaped (.list (ns.map PyData.str)) = true := by simp only [SeqAt.shaped, PyData.canLay0, can_strs ns h, PyData.depth, dep_strs]; decide
  have s2 : SeqAt.shaped (.list []) = true := by decide
  unfold gNe gEqB
  simp only [toP, toPs_strs, toPs, Option.map_some, Option.bind_some, s1, s2, Bool.and_self, if_true, PyData.eqv]
  cases ns <;> simp [PyData.eqvAll]
theorem in_yn' (r : List (List Nat)) : gIn true (TX (hd1 r)) (.lst [.str "yes", .str "no"]) = some (.bl (!isYN r)) := by
  have q := (gIn_strs true (mk (hd1 r)) ([wYes, wNo].map mk)).1
  rw [mem_mk] at q
  have e : ([wYes, wNo].map mk).map D.str = [D.str "yes", .str "no"] := by kernel_rfl
  rw [e] at q
  exact q
theorem in_four (w : List Nat) : gIn true (TX w) (.lst [.str "0", .str "1", .str "2", .str "3"]) = some (.bl (!decide (w ∈ four))) := by
  have q := (gIn_strs true (mk w) (four.map mk)).1
  rw [mem_mk] at q
  have e : (four.map mk).map D.str = [D.str "0", .str "1", .str "2", .str "3"] := by kernel_rfl
  rw [e] at q
  exact q
theorem in_first (w : List Nat) : gIn true (TX w) (.lst [.str "base 2", .str "base 3", .str "base 4"]) = some (.bl (!decide (w ∈ firsts))) := by
  have q := (gIn_strs true (mk w) (firsts.map mk)).1
  rw [mem_mk] at q
  have e : (firsts.map mk).map D.str = [D.str "base 2", .str "base 3", .str "base 4"] := by kernel_rfl
  rw [e] at q
  exact q
theorem lot_is' {v : D} (h : Pl v) : f_is_lot [v] = .ok (.bl (fitD v)) := by
  unfold f_is_lot b_is_lot
  simp! only [h.fz, fit_is h]
theorem taken_is {l : List Nat} (hl : l.length ≤ 1000000) (hg : Sg l) : f__law_taken [TX l] = .ok (match takenD l with | some d => d | none => .non) := by
  have Z0 : 0 ≤ sizeLine := Nat.zero_le _
  have Z1 : 1 ≤ sizeLine := by rw [sizeLine_eq]; omega
  have Z2 : 2 ≤ sizeLine := by rw [sizeLine_eq]; omega
  have Z3 : 3 ≤ sizeLine := by rw [sizeLine_eq]; omega
  have Z4 : 4 ≤ sizeLine := by rw [sizeLine_eq]; omega
  have q1 := split_q (s := 10) (by decide) hl
  have hb := sp_bulk 10 l
  have hne := sp_ne 10 l
  have hsg : ∀ p ∈ sp 10 l, Sg p := hg.sp 10
  have hlt : ∀ p ∈ sp 10 l, p.length ≤ 1000000 := fun p hp => by have := bulk_mem hp; omega
  have hcount := bulk_count (sp 10 l)
  unfold f__law_taken b__law_taken takenD
  simp! only [s_nl, s_bl, q1]
  generalize sp 10 l = ps at hb hne hsg hlt hcount q1
  obtain ⟨h, t, rfl⟩ : ∃ h t, ps = h :: t := by
    cases ps with
    | nil => exact absurd rfl hne
    | cons h t => exact ⟨h, t, rfl⟩
  have hcut : cutD (TX h :: t.map TX) (some 1) none = t.map TX := by
    have := cut_from TX (h :: t) 1
    rwa [List.drop_one, List.tail_cons] at this
  simp! only [Z3, in_first]
  by_cases c1 : h ∈ firsts
  · have d1 := decide_eq_true c1
    simp! only [d1, Z0, Z2, hcut]
    obtain ⟨c, x1, x2, x3⟩ := int_first h c1
    refine w_for (Q := fun r => fin r = .ok (match (if h ∈ firsts ∧ (t.map (sp 32)).all goodR = true then (if fitD (.tup [.int (((h.getD 5 0 : Nat) : Int) - 48), leadsD (t.map (sp 32)), yesD (t.map (sp 32))]) = true then some (.tup [.int (((h.getD 5 0 : Nat) : Int) - 48), leadsD (t.map (sp 32)), yesD (t.map (sp 32))]) else none) else none) with | some d => d | none => .non)) TX
      (fun i ls => ((t.take i).map (sp 32)).all goodR = true ∧ ∃ x2 x3 x6 x7, ls = [some (TX l), some (.own (.lst (TX h :: t.map TX))), x2, x3, some (leadsD ((t.take i).map (sp 32))), some (yesD ((t.take i).map (sp 32))), x6, x7]) t ⟨rfl, _, _, _, _, rfl⟩ ?_ ?_
    · rintro i hi ls ⟨g1, x2, x3, x6, x7, rfl⟩ J B R hJ hB hR
      refine ⟨_, rfl, ?_⟩
      have hp := hsg _ (List.mem_cons_of_mem _ (List.getElem_mem hi))
      have hp2 := hlt _ (List.mem_cons_of_mem _ (List.getElem_mem hi))
      have ht : t.take (i + 1) = t.take i ++ [t[i]] := (List.take_append_getElem hi).symm
      have tl1 : ((t.take i).map (sp 32)).length + 1 ≤ sizeLine := by
        rw [List.length_map, List.length_take, sizeLine_eq]; rw [List.length_cons] at hcount; omega
      have bad : goodR (sp 32 t[i]) = false → (t.map (sp 32)).all goodR = false := fun e => by
        rw [List.all_eq_false]
        exact ⟨_, List.mem_map_of_mem (List.getElem_mem hi), by rw [e]; simp⟩
      generalize hline : t[i] = line at hp hp2 ht bad
      have q3 := split_q (s := 32) (by decide) hp2
      have hb3 := sp_bulk 32 line
      have hn3 := sp_ne 32 line
      have hs3 : ∀ w ∈ sp 32 line, Sg w := hp.sp 32
      have hc3 := bulk_count (sp 32 line)
      generalize hrow : sp 32 line = row at q3 hb3 hn3 hs3 hc3 bad
      have hh := head_at hn3
      have hR' : ∀ ls, goodR row = false → R (.rt .non ls) := fun ls e => hR _ (by
        have no : ¬ (h ∈ firsts ∧ (t.map (sp 32)).all goodR = true) := fun z => by rw [bad e] at z; exact Bool.false_ne_true z.2
        rw [if_neg no]
        show fin _ = _
        simp! only [])
      simp! only [q3, hh, Z2, in_yn']
      cases y : isYN row with
      | false =>
        simp! only [y]
        exact hR' _ (by unfold goodR; rw [y]; rfl)
      | true =>
        simp! only [y, show cutD (row.map TX) (some 1) none = (row.drop 1).map TX from cut_from TX row 1]
        have hdl : (row.drop 1).length ≤ sizeLine := by rw [List.length_drop, sizeLine_eq]; omega
        rw [compB_pure TX (fun w => !decide (w ∈ four)) TX (row.drop 1) (fun w hw => ⟨_, rfl, by simp! only [Z4, in_four], fun _ => by simp! only [], by simp! only []⟩) hdl]
        have gn := gNe_strs_nil (((row.drop 1).filter fun w => !decide (w ∈ four)).map mk) (fun n hn => by
          obtain ⟨w, hw, rfl⟩ := List.mem_map.mp hn
          exact (hs3 w (List.mem_of_mem_drop (List.mem_filter.mp hw).1)).ok)
        rw [List.map_map] at gn
        have gn : gNe (.lst (((row.drop 1).filter fun w => !decide (w ∈ four)).map TX)) (.lst []) = _ := gn
        have em : ((((row.drop 1).filter fun w => !decide (w ∈ four)).map mk).isEmpty) = (row.drop 1).all fun w => decide (w ∈ four) := by
          rw [List.isEmpty_map, Bool.eq_iff_iff, List.isEmpty_iff, List.filter_eq_nil_iff, List.all_eq_true]
          refine forall_congr' fun w => imp_congr_right fun _ => ?_
          cases decide (w ∈ four) <;> decide
        rw [em] at gn
        cases z : (row.drop 1).all fun w => decide (w ∈ four) with
        | false =>
          rw [z] at gn
          simp! only [Z0, gn]
          exact hR' _ (by unfold goodR; rw [z, Bool.and_false])
        | true =>
          rw [z] at gn
          have gd : goodR row = true := by unfold goodR; rw [y, z]; rfl
          have zz := List.all_eq_true.mp z
          have F1 : ∀ x, Fz (leadsD x) := fun _ => trivial
          have F2 : ∀ x, Fz (yesD x) := fun _ => trivial
          simp! only [Z0, gn, F1, F2, show cutD (row.map TX) (some 1) none = (row.drop 1).map TX from cut_from TX row 1]
          rw [compB_map TX numW (row.drop 1) (fun w hw => ⟨_, rfl, by
            have := int_four w (of_decide_eq_true (zz w hw))
            simp! only [this, (pl_numW w).fz], by simp! only []⟩) hdl]
          have sr : Sg (hd1 row) := by
            cases row with
            | nil => exact absurd rfl hn3
            | cons w r => exact hs3 w List.mem_cons_self
          have A1 : gAdd (leadsD ((t.take i).map (sp 32))) (.tup [.tup ((row.drop 1).map numW)]) = some (leadsD ((t.take (i + 1)).map (sp 32))) := by
            unfold leadsD
            rw [q_add_tup, if_pos (by rw [List.length_map, List.length_singleton]; exact tl1), ht, List.map_append, List.map_append, List.map_singleton, List.map_singleton, hrow]
          have A2 : gAdd (yesD ((t.take i).map (sp 32))) (.tup [.bl (decide (hd1 row = wYes))]) = some (yesD ((t.take (i + 1)).map (sp 32))) := by
            unfold yesD
            rw [q_add_tup, if_pos (by rw [List.length_map, List.length_singleton]; exact tl1), ht, List.map_append, List.map_append, List.map_singleton, List.map_singleton, hrow]
          simp! only [Z1, F1, F2, A1, A2, hh, s_yes, gEq_tx sr sgYes]
          refine hJ _ ⟨?_, _, _, _, _, rfl⟩
          rw [ht, List.map_append, List.all_append, g1, List.map_singleton, hrow]
          simp [gd]
    · rintro ls ⟨g1, x2', x3', x6, x7, rfl⟩
      rw [List.take_length] at g1 ⊢
      have ft := lot_is' (pl_read (.int (((h.getD 5 0 : Nat) : Int) - 48)) (.int _) (t.map (sp 32)))
      have F1 : ∀ x, Fz (leadsD x) := fun _ => trivial
      have F2 : ∀ x, Fz (yesD x) := fun _ => trivial
      rw [if_pos ⟨c1, g1⟩]
      have F1 := F1 (t.map (sp 32))
      have F2 := F2 (t.map (sp 32))
      generalize leadsD (t.map (sp 32)) = la at ft F1 ⊢
      generalize yesD (t.map (sp 32)) = ya at ft F2 ⊢
      generalize fitD _ = fd at ft ⊢
      cases fd <;> simp! only [x1, x2, x3, F1, F2, Z3, ft]
  · have d1 := decide_eq_false c1
    have no : ¬ (h ∈ firsts ∧ (t.map (sp 32)).all goodR = true) := fun z => c1 z.1
    rw [if_neg no]
    simp! only [d1]
end DC

end FK
section FL
set_option Elab.async false
set_option linter.all false
set_option autoImplicit false
set_option maxRecDepth 100000
namespace DC
open PySem PySem.Spec DL
/-! ### both tell the same -/
theorem numW_four {w : List Nat} (h : w ∉ four) (n : Nat) (hn : n ≤ 4) : withinD 0 ((n : Int) - 1) (numW w) = false := by
  unfold numW
  split
  · rename_i c
    split
    · rename_i hc
      have : c ≠ 48 ∧ c ≠ 49 ∧ c ≠ 50 ∧ c ≠ 51 := by
        refine ⟨?_, ?_, ?_, ?_⟩ <;> (rintro rfl; exact h (by decide))
      simp only [withinD, Bool.and_eq_false_iff, decide_eq_false_iff_not]; omega
    · rfl
  · rfl
/-- a first line that is asked for -/
theorem first_iff {h : List Nat} : h ∈ firsts ↔ ∃ w, sp 32 h = [wBase, w] ∧ withinD 2 4 (numW w) = true := by
  constructor
  · intro hh
    simp only [firsts, List.mem_cons, List.not_mem_nil, or_false] at hh
    rcases hh with rfl | rfl | rfl
    · exact ⟨[50], by decide, by decide⟩
    · exact ⟨[51], by decide, by decide⟩
    · exact ⟨[52], by decide, by decide⟩
  · rintro ⟨w, e, hw⟩
    have j := sp_join 32 h
    rw [e] at j
    unfold numW at hw
    split at hw
    · rename_i c
      split at hw
      · rename_i hc
        simp only [withinD, Bool.and_eq_true, decide_eq_true_iff] at hw
        have : c = 50 ∨ c = 51 ∨ c = 52 := by omega
        rw [← j]
        rcases this with rfl | rfl | rfl <;> decide
      · cases hw
    · cases hw
theorem first_num {h : List Nat} (hh : h ∈ firsts) : (sp 32 h).length = 2 ∧ hd1 (sp 32 h) = wBase ∧ numW ((sp 32 h).getD 1 []) = .int (((h.getD 5 0 : Nat) : Int) - 48) := by
  simp only [firsts, List.mem_cons, List.not_mem_nil, or_false] at hh
  rcases hh with rfl | rfl | rfl <;> exact ⟨by decide, by decide, rfl⟩
theorem fit_parts {a g : D} {rows : List D} (h : fitD (.tup [a, .tup rows, g]) = true) : withinD 2 4 a = true ∧ rows.length ≤ 4 ∧ ∃ b, rows.all (rowOk b rows.length) = true := by
  cases a with
  | int b =>
    simp only [fitD, Bool.and_eq_true] at h
    obtain ⟨⟨⟨⟨⟨h1, h2⟩, h3⟩, h4⟩, h5⟩, h6⟩ := h
    refine ⟨h1, ?_, b, h3⟩
    simp only [wideD, Bool.and_eq_true, decide_eq_true_iff] at h2; omega
  | _ => cases h
theorem read_taken (l : List Nat) : readD l = takenD l := by
  unfold readD takenD
  have hne := sp_ne 10 l
  generalize sp 10 l = ps at hne
  obtain ⟨h, t, rfl⟩ : ∃ h t, ps = h :: t := by
    cases ps with
    | nil => exact absurd rfl hne
    | cons h t => exact ⟨h, t, rfl⟩
  rw [List.map_cons]
  dsimp only
  generalize hrows : t.map (sp 32) = rows
  by_cases hf : h ∈ firsts
  · obtain ⟨f1, f2, f3⟩ := first_num hf
    by_cases hy : rows.all isYN = true
    · by_cases hg : rows.all goodR = true
      · rw [if_pos (show hd1 (sp 32 h) = wBase ∧ (sp 32 h).length = 2 ∧ rows.all isYN = true from ⟨f2, f1, hy⟩), if_pos (show h ∈ firsts ∧ rows.all goodR = true from ⟨hf, hg⟩), f3]
      · rw [if_pos (show hd1 (sp 32 h) = wBase ∧ (sp 32 h).length = 2 ∧ rows.all isYN = true from ⟨f2, f1, hy⟩), if_neg (c := h ∈ firsts ∧ rows.all goodR = true) fun z => hg z.2, f3, if_neg]
        intro fit
        refine hg ?_
        unfold leadsD at fit
        obtain ⟨p1, p2, b, p3⟩ := fit_parts fit
        rw [List.all_eq_true] at hy ⊢
        intro r hr
        unfold goodR
        rw [hy r hr, Bool.true_and, List.all_eq_true]
        intro w hw
        rw [decide_eq_true_iff]
        refine Classical.byContradiction fun hn => ?_
        have := List.all_eq_true.mp p3 _ (List.mem_map_of_mem hr)
        unfold rowOk at this
        rw [Bool.and_eq_true] at this
        have := List.all_eq_true.mp this.2 (numW w) (List.mem_map_of_mem hw)
        rw [numW_four hn _ p2] at this
        cases this
    · have hg : ¬ rows.all goodR = true := fun z => hy (by
        rw [List.all_eq_true] at z ⊢
        intro r hr
        have := z r hr
        unfold goodR at this
        rw [Bool.and_eq_true] at this
        exact this.1)
      rw [if_neg (c := hd1 (sp 32 h) = wBase ∧ (sp 32 h).length = 2 ∧ rows.all isYN = true) fun z => hy z.2.2, if_neg (c := h ∈ firsts ∧ rows.all goodR = true) fun z => hg z.2]
  · rw [if_neg (c := h ∈ firsts ∧ rows.all goodR = true) fun z => hf z.1]
    by_cases c : hd1 (sp 32 h) = wBase ∧ (sp 32 h).length = 2 ∧ rows.all isYN = true
    · rw [if_pos c, if_neg]
      intro fit
      unfold leadsD at fit
      refine hf (first_iff.mpr ⟨(sp 32 h).getD 1 [], ?_, (fit_parts fit).1⟩)
      obtain ⟨c1, c2, _⟩ := c
      match hs : sp 32 h, c2 with
      | [a, b], _ =>
        rw [hs] at c1
        have : a = wBase := c1
        rw [this]; rfl
    · rw [if_neg c]
/-! ### the text of a lot -/
def digW (n : Nat) : List Nat := [48 + n]
def lineW (r : List Nat) (g : Bool) : List Nat := TL.joinL [32] ((if g then wYes else wNo) :: r.map digW)
def textW (l : Lot) : List Nat := TL.joinL [10] ((wBase ++ [32] ++ digW l.base) :: (l.rows.zip l.good).map fun p => lineW p.1 p.2)
theorem str_dig {n : Nat} (h : n < 10) : gStr [.int (n : Nat)] = some (TX (digW n)) := by
  have : n = 0 ∨ n = 1 ∨ n = 2 ∨ n = 3 ∨ n = 4 ∨ n = 5 ∨ n = 6 ∨ n = 7 ∨ n = 8 ∨ n = 9 := by omega
  rcases this with rfl | rfl | rfl | rfl | rfl | rfl | rfl | rfl | rfl | rfl <;> kernel_rfl
theorem digW_free {s n : Nat} (h : n < 10) (hs : s < 48) : s ∉ digW n := fun z => by
  rw [digW, List.mem_singleton] at z; omega
theorem sg_dig {n : Nat} (h : n < 10) : Sg (digW n) := fun c hc => by rw [digW, List.mem_singleton] at hc; omega
theorem sp_line {r : List Nat} (hr : ∀ x ∈ r, x < 10) (g : Bool) : sp 32 (lineW r g) = (if g then wYes else wNo) :: r.map digW := by
  refine sp_of_join (by decide) (by simp) fun p hp => ?_
  rcases List.mem_cons.mp hp with rfl | hp
  · cases g <;> decide
  · obtain ⟨n, hn, rfl⟩ := List.mem_map.mp hp
    exact digW_free (hr n hn) (by decide)
theorem mem_joinL {s c : Nat} : ∀ {ps : List (List Nat)}, c ∈ TL.joinL [s] ps → c = s ∨ ∃ p ∈ ps, c ∈ p
  | [], h => nomatch h
  | [p], h => .inr ⟨p, List.mem_singleton_self _, h⟩
  | p :: q :: r, h => by
    have h : c ∈ p ++ ([s] ++ TL.joinL [s] (q :: r)) := h
    rcases List.mem_append.mp h with h | h
    · exact .inr ⟨p, List.mem_cons_self, h⟩
    · rcases List.mem_append.mp h with h | h
      · exact .inl (List.mem_singleton.mp h)
      · rcases mem_joinL h with h | ⟨x, hx, h⟩
        · exact .inl h
        · exact .inr ⟨x, List.mem_cons_of_mem _ hx, h⟩
theorem line_chars {r : List Nat} (hr : ∀ x ∈ r, x < 10) (g : Bool) : ∀ c ∈ lineW r g, c ≠ 10 ∧ c < 1114112 := fun c hc => by
  rcases mem_joinL hc with rfl | ⟨p, hp, h⟩
  · decide
  · rcases List.mem_cons.mp hp with rfl | hp
    · have : ∀ g : Bool, ∀ c ∈ (if g then wYes else wNo), c ≠ 10 ∧ c < 1114112 := by decide
      exact this g c h
    · obtain ⟨n, hn, rfl⟩ := List.mem_map.mp hp
      have := hr n hn
      rw [digW, List.mem_singleton] at h; omega
theorem lot_small {l : Lot} (h : l.Ok) (h4 : l.rows.length ≤ 4) {r : List Nat} (hr : r ∈ l.rows) : ∀ x ∈ r, x < 10 := fun x hx => by
  have := (h.row r hr).2 x hx; omega
theorem sp_text {l : Lot} (h : l.Ok) (h4 : l.rows.length ≤ 4) : sp 10 (textW l) = (wBase ++ [32] ++ digW l.base) :: (l.rows.zip l.good).map fun p => lineW p.1 p.2 := by
  have := h.b4
  refine sp_of_join (by decide) (by simp) fun p hp => ?_
  rcases List.mem_cons.mp hp with rfl | hp
  · intro z
    rcases List.mem_append.mp z with z | z
    · revert z; decide
    · exact digW_free (by omega) (by decide) z
  · obtain ⟨q, hq, rfl⟩ := List.mem_map.mp hp
    intro z
    exact (line_chars (lot_small h h4 (List.of_mem_zip hq).1) q.2 10 z).1 rfl
theorem sg_text {l : Lot} (h : l.Ok) (h4 : l.rows.length ≤ 4) : Sg (textW l) := by
  have := h.b4
  refine Sg.join (by decide) fun p hp => ?_
  rcases List.mem_cons.mp hp with rfl | hp
  · exact (Sg.app (by unfold Sg; decide) (by unfold Sg; decide)).app (sg_dig (by omega))
  · obtain ⟨q, hq, rfl⟩ := List.mem_map.mp hp
    exact fun c hc => (line_chars (lot_small h h4 (List.of_mem_zip hq).1) q.2 c hc).2
theorem numW_dig {n : Nat} (h : n < 10) : numW (digW n) = .int (n : Nat) := by
  show (if 48 ≤ 48 + n ∧ 48 + n ≤ 57 then D.int (((48 + n : Nat) : Int) - 48) else .non) = _
  rw [if_pos (by omega)]
  congr 1; omega
theorem read_text {l : Lot} (h : l.Ok) (h4 : l.rows.length ≤ 4) : readD (textW l) = some l.D := by
  have hb := h.b4
  have e1 : sp 32 (wBase ++ [32] ++ digW l.base) = [wBase, digW l.base] := by
    have : wBase ++ [32] ++ digW l.base = TL.joinL [32] [wBase, digW l.base] := by
      show _ = wBase ++ ([32] ++ digW l.base)
      rw [List.append_assoc]
    rw [this]
    refine sp_of_join (by decide) (by simp) fun p hp => ?_
    simp only [List.mem_cons, List.not_mem_nil, or_false] at hp
    rcases hp with rfl | rfl
    · decide
    · exact digW_free (by omega) (by decide)
  have e2 : ((l.rows.zip l.good).map fun p => lineW p.1 p.2).map (sp 32) = (l.rows.zip l.good).map fun p => (if p.2 then wYes else wNo) :: p.1.map digW := by
    rw [List.map_map]
    exact List.map_congr_left fun p hp => sp_line (lot_small h h4 (List.of_mem_zip hp).1) p.2
  have e3 : leadsD ((l.rows.zip l.good).map fun p => (if p.2 then wYes else wNo) :: p.1.map digW) = .tup (l.rows.map natsD) := by
    unfold leadsD
    rw [List.map_map]
    congr 1
    have : ∀ (rs : List (List Nat)) (gs : List Bool), rs.length = gs.length → (∀ r ∈ rs, ∀ x ∈ r, x < 10) → (rs.zip gs).map ((fun r => D.tup ((List.drop 1 r).map numW)) ∘ fun p => (if p.2 = true then wYes else wNo) :: p.1.map digW) = rs.map natsD := fun rs => by
      induction rs with
      | nil => intro gs _ _; rfl
      | cons r rs ih =>
        intro gs hl hx
        cases gs with
        | nil => cases hl
        | cons g gs =>
          rw [List.zip_cons_cons, List.map_cons, List.map_cons, ih gs (by simpa using hl) fun r hr => hx r (List.mem_cons_of_mem _ hr)]
          congr 1
          show D.tup ((r.map digW).map numW) = natsD r
          unfold natsD
          rw [List.map_map]
          congr 1
          exact List.map_congr_left fun x hx' => numW_dig (hx r List.mem_cons_self x hx')
    exact this _ _ h.len.symm fun r hr => lot_small h h4 hr
  have e4 : yesD ((l.rows.zip l.good).map fun p => (if p.2 then wYes else wNo) :: p.1.map digW) = .tup (l.good.map .bl) := by
    unfold yesD
    rw [List.map_map]
    congr 1
    have : ∀ (rs : List (List Nat)) (gs : List Bool), rs.length = gs.length → (rs.zip gs).map ((fun r => D.bl (decide (hd1 r = wYes))) ∘ fun p => (if p.2 = true then wYes else wNo) :: p.1.map digW) = gs.map .bl := fun rs => by
      induction rs with
      | nil => intro gs hl; cases gs <;> first | rfl | cases hl
      | cons r rs ih =>
        intro gs hl
        cases gs with
        | nil => cases hl
        | cons g gs =>
          rw [List.zip_cons_cons, List.map_cons, List.map_cons, ih gs (by simpa using hl)]
          congr 1
          cases g <;> rfl
    exact this _ _ h.len.symm
  have e5 : ((l.rows.zip l.good).map fun p => (if p.2 then wYes else wNo) :: p.1.map digW).all isYN = true := by
    rw [List.all_map, List.all_eq_true]
    rintro ⟨r, g⟩ _
    cases g <;> rfl
  unfold readD
  rw [sp_text h h4, List.map_cons, e1, e2]
  dsimp only
  rw [if_pos ⟨rfl, rfl, e5⟩, e3, e4]
  have : numW ([wBase, digW l.base].getD 1 []) = .int (l.base : Nat) := numW_dig (by omega)
  rw [this]
  exact if_pos (h.fit h4)
theorem text_len {l : Lot} (h : l.Ok) (h4 : l.rows.length ≤ 4) : (textW l).length ≤ 200 := by
  have hb := h.b4
  have j := join_len 10 ((wBase ++ [32] ++ digW l.base) :: (l.rows.zip l.good).map fun p => lineW p.1 p.2)
  rw [bulk_cons] at j
  have lw : ∀ p ∈ l.rows.zip l.good, (lineW p.1 p.2).length ≤ 14 := fun p hp => by
    have hr := h.row p.1 (List.of_mem_zip hp).1
    have j2 := join_len 32 ((if p.2 then wYes else wNo) :: p.1.map digW)
    rw [bulk_cons] at j2
    have b : ∀ r : List Nat, bulk (r.map digW) = 2 * r.length := fun r => by
      induction r with
      | nil => rfl
      | cons x r ih => rw [List.map_cons, bulk_cons, ih, List.length_cons]; show 1 + 1 + _ = _; omega
    rw [b] at j2
    have : (if p.2 then wYes else wNo).length ≤ 3 := by cases p.2 <;> decide
    unfold lineW; omega
  have bk : ∀ ps : List (List Nat × Bool), (∀ p ∈ ps, (lineW p.1 p.2).length ≤ 14) → bulk (ps.map fun p => lineW p.1 p.2) ≤ 15 * ps.length := fun ps => by
    induction ps with
    | nil => intro _; exact Nat.le_refl _
    | cons p ps ih =>
      intro hp
      have := ih fun q hq => hp q (List.mem_cons_of_mem _ hq)
      have := hp p List.mem_cons_self
      rw [List.map_cons, bulk_cons, List.length_cons]; omega
  have := bk _ lw
  rw [List.length_zip] at this
  have : (wBase ++ [32] ++ digW l.base).length = 6 := rfl
  unfold textW; omega
end DC

end FL
section FM
set_option Elab.async false
set_option linter.all false
set_option autoImplicit false
set_option maxRecDepth 100000
namespace DC
open PySem PySem.Spec DL
theorem zip_map {α β : Type} (f : α → D) (g : β → D) : ∀ (xs : List α) (ys : List β), zipD (xs.map f) (ys.map g) = (xs.zip ys).map fun p => .tup [f p.1, g p.2]
  | [], _ => by cases ‹List β› <;> rfl
  | _ :: _, [] => rfl
  | x :: xs, y :: ys => by rw [List.map_cons, List.map_cons, zipD, zip_map f g xs ys]; rfl
theorem take_snoc {α : Type} {xs : List α} {i : Nat} (h : i < xs.length) : xs.take (i + 1) = xs.take i ++ [xs[i]] := (List.take_append_getElem h).symm
theorem join_snoc (s : Nat) : ∀ (ps : List (List Nat)) (q : List Nat), ps ≠ [] → TL.joinL [s] (ps ++ [q]) = TL.joinL [s] ps ++ ([s] ++ q)
  | [], _, h => absurd rfl h
  | [p], q, _ => rfl
  | p :: r :: ps, q, _ => by
    have ih := join_snoc s (r :: ps) q (by simp)
    show p ++ ([s] ++ TL.joinL [s] ((r :: ps) ++ [q])) = _
    rw [ih]
    show _ = (p ++ ([s] ++ TL.joinL [s] (r :: ps))) ++ ([s] ++ q)
    simp only [List.append_assoc]
theorem len_lineW {r : List Nat} (hr : r.length ≤ 4) (g : Bool) : (lineW r g).length ≤ 14 ∧ bulk ((if g then wYes else wNo) :: r.map digW) ≤ 14 := by
  have j2 := join_len 32 ((if g then wYes else wNo) :: r.map digW)
  rw [bulk_cons] at j2 ⊢
  have b : ∀ r : List Nat, bulk (r.map digW) = 2 * r.length := fun r => by
    induction r with
    | nil => rfl
    | cons x r ih => rw [List.map_cons, bulk_cons, ih, List.length_cons]; show 1 + 1 + _ = _; omega
  rw [b] at j2 ⊢
  have : (if g then wYes else wNo).length ≤ 3 := by cases g <;> decide
  unfold lineW; omega
theorem bulk_lines : ∀ ps : List (List Nat × Bool), (∀ p ∈ ps, (lineW p.1 p.2).length ≤ 14) → bulk (ps.map fun p => lineW p.1 p.2) ≤ 15 * ps.length := fun ps => by
  induction ps with
  | nil => intro _; exact Nat.le_refl _
  | cons p ps ih =>
    intro hp
    have := ih fun q hq => hp q (List.mem_cons_of_mem _ hq)
    have := hp p List.mem_cons_self
    rw [List.map_cons, bulk_cons, List.length_cons]; omega
def linesW (l : Lot) (i : Nat) : List (List Nat) := (wBase ++ [32] ++ digW l.base) :: ((l.rows.zip l.good).take i).map fun p => lineW p.1 p.2
theorem lot_ix (l : Lot) : L2.atI [D.int (l.base : Nat), .tup (l.rows.map natsD), .tup (l.good.map .bl)] 0 = some (.int (l.base : Nat)) := q_at0 _ _
section
variable {l : Lot} (h : l.Ok) (h4 : l.rows.length ≤ 4)
include h h4
theorem zip_len : (l.rows.zip l.good).length = l.rows.length := by rw [List.length_zip, h.len, Nat.min_self]
theorem linesW_bulk (i : Nat) : bulk (linesW l i) ≤ 100 ∧ (linesW l i).length ≤ 5 := by
  have e : ∀ p ∈ (l.rows.zip l.good).take i, (lineW p.1 p.2).length ≤ 14 := fun p hp => by
    have := (h.row p.1 (List.of_mem_zip (List.mem_of_mem_take hp)).1).1
    have := h.b4
    exact (len_lineW (by omega) p.2).1
  have := bulk_lines _ e
  have z := zip_len h h4
  have : ((l.rows.zip l.good).take i).length ≤ 4 := by rw [List.length_take]; omega
  unfold linesW
  rw [bulk_cons, List.length_cons, List.length_map]
  have : (wBase ++ [32] ++ digW l.base).length = 6 := rfl
  omega
theorem base_line : gAdd (.str "base ") (TX (digW l.base)) = some (TX (wBase ++ [32] ++ digW l.base)) := by
  rw [s_baseb]
  have := add_str (l := wBase ++ [32]) (m := digW l.base) (by show 5 + 1 ≤ 1000000; omega)
  exact this
theorem text_of_is : f_text_of [l.D] = .ok (TX (textW l)) := by
  have Z1 : 1 ≤ sizeLine := by rw [sizeLine_eq]; omega
  have hb := h.b4
  have b0 := str_dig (n := l.base) (by omega)
  have bl := base_line h h4
  have zz := zip_map natsD D.bl l.rows l.good
  unfold f_text_of b_text_of Lot.D
  simp! only [b0, bl, Z1, zz]
  generalize hF : forL _ _ _ _ = r
  obtain ⟨ls, ⟨x2, x3, x4, rfl⟩, rfl⟩ := for_eqn hF (fun i ls => ∃ x2 x3 x4, ls = [some (.tup [.int (l.base : Nat), .tup (l.rows.map natsD), .tup (l.good.map .bl)]), some (.own (.lst ((linesW l i).map TX))), x2, x3, x4]) ⟨_, _, _, rfl⟩ (by
    rintro i hi ls ⟨x2, x3, x4, rfl⟩ J hJ
    have hl : linesW l (i + 1) = linesW l i ++ [lineW (l.rows.zip l.good)[i].1 (l.rows.zip l.good)[i].2] := by
      unfold linesW
      rw [take_snoc hi, List.map_append]; rfl
    have ⟨_, hn⟩ := linesW_bulk h h4 i
    have hm := List.getElem_mem hi
    generalize (l.rows.zip l.good)[i] = p at hl hm ⊢
    obtain ⟨r, g⟩ := p
    have hp := List.of_mem_zip hm
    have hrow : r.length = l.base := (h.row r hp.1).1
    have hx : ∀ x ∈ r, x < 10 := lot_small h h4 hp.1
    refine ⟨_, by simp! only []; rfl, ?_⟩
    have hz : r.length ≤ sizeLine := by rw [sizeLine_eq]; omega
    have lw := (len_lineW (r := r) (by omega) g).2
    have jq := join_q (s := 32) (ps := (if g then wYes else wNo) :: r.map digW) (by omega)
    have ad : ∀ w : List Nat, gAdd (.lst [TX w]) (.lst (r.map fun x => TX (digW x))) = some (.own (.lst ((w :: r.map digW).map TX))) := fun w => by
      rw [q_add_lst, if_pos (by rw [List.length_map, List.length_singleton, sizeLine_eq]; omega), List.map_cons, List.map_map]; rfl
    have ad2 : gAdd (.lst ((linesW l i).map TX)) (.lst [TX (lineW r g)]) = some (.own (.lst ((linesW l (i + 1)).map TX))) := by
      rw [q_add_lst, if_pos (by rw [List.length_map, List.length_singleton, sizeLine_eq]; omega), hl, List.map_append]; rfl
    have fzn : Fz (natsD r) := trivial
    have jq' : gJoin (.str (mk [32])) [.lst (TX (if g then wYes else wNo) :: (r.map digW).map TX)] = some (TX (lineW r g)) := jq
    cases g <;> (
      simp! only [s_yes, s_no, s_bl, Z1, fzn, natsD]
      rw [compB_map (fun x : Nat => D.int (x : Int)) (fun x => TX (digW x)) r (fun x hx' => ⟨_, rfl, by
        have := str_dig (hx x hx')
        simp! only [this], by simp! only []⟩) hz]
      simp only [if_true, if_false, Bool.false_eq_true] at jq'
      simp! only [ad, jq', Z1, ad2]
      exact hJ _ ⟨_, _, _, rfl⟩))
  have fin3 := join_q (s := 10) (ps := linesW l (l.rows.zip l.good).length) (by have := linesW_bulk h h4 (l.rows.zip l.good).length; omega)
  have e : TL.joinL [10] (linesW l (l.rows.zip l.good).length) = textW l := by unfold linesW textW; rw [List.take_length]
  rw [e] at fin3
  simp! only [s_nl, fin3]
theorem law_text_is : f__law_text [l.D] = .ok (TX (textW l)) := by
  have Z1 : 1 ≤ sizeLine := by rw [sizeLine_eq]; omega
  have hb := h.b4
  have b0 := str_dig (n := l.base) (by omega)
  have bl := base_line h h4
  have zz := zip_map natsD D.bl l.rows l.good
  unfold f__law_text b__law_text Lot.D
  simp! only [b0, bl, Z1, zz]
  generalize hF : forL _ _ _ _ = r
  obtain ⟨ls, ⟨x2, x3, x4, x5, rfl⟩, rfl⟩ := for_eqn hF (fun i ls => ∃ x2 x3 x4 x5, ls = [some (.tup [.int (l.base : Nat), .tup (l.rows.map natsD), .tup (l.good.map .bl)]), some (.own (.lst ((linesW l i).map TX))), x2, x3, x4, x5]) ⟨_, _, _, _, rfl⟩ (by
    rintro i hi ls ⟨x2, x3, x4, x5, rfl⟩ J hJ
    have hl : linesW l (i + 1) = linesW l i ++ [lineW (l.rows.zip l.good)[i].1 (l.rows.zip l.good)[i].2] := by
      unfold linesW
      rw [take_snoc hi, List.map_append]; rfl
    have ⟨_, hn⟩ := linesW_bulk h h4 i
    have hm := List.getElem_mem hi
    generalize (l.rows.zip l.good)[i] = p at hl hm ⊢
    obtain ⟨r, g⟩ := p
    have hp := List.of_mem_zip hm
    have hrow : r.length = l.base := (h.row r hp.1).1
    have hx : ∀ x ∈ r, x < 10 := lot_small h h4 hp.1
    refine ⟨_, by simp! only []; rfl, ?_⟩
    have fzn : Fz (natsD r) := trivial
    have key : ∀ w : List Nat, w = (if g then wYes else wNo) → ∃ y : Option D, sFor (iSeq (var 2)) (gN 5) (sAsg (DL.bin gAdd (DL.bin gAdd (var 4) (cst (.str " "))) (cb gStr (aCons (var 5) (aNil)))) (gN 4)) [some (.tup [.int (l.base : Nat), .tup (l.rows.map natsD), .tup (l.good.map .bl)]), some (.own (.lst ((linesW l i).map TX))), some (natsD r), some (.bl g), some (TX w), x5] =
        .nx [some (.tup [.int (l.base : Nat), .tup (l.rows.map natsD), .tup (l.good.map .bl)]), some (.own (.lst ((linesW l i).map TX))), some (natsD r), some (.bl g), some (TX (lineW r g)), y] := fun w hw => by
      simp! only [natsD]
      generalize hF2 : forL _ _ _ _ = r2
      obtain ⟨ls, ⟨y, e⟩, rfl⟩ := for_eqn hF2 (fun j ls => ∃ y, ls = [some (.tup [.int (l.base : Nat), .tup (l.rows.map natsD), .tup (l.good.map .bl)]), some (.own (.lst ((linesW l i).map TX))), some (natsD r), some (.bl g), some (TX (TL.joinL [32] (w :: (r.take j).map digW))), y]) ⟨_, rfl⟩ (by
        rintro j hj ls ⟨y, rfl⟩ J hJ
        refine ⟨_, rfl, ?_⟩
        have sd := str_dig (hx _ (List.getElem_mem hj))
        have bw : bulk (w :: (r.take j).map digW) ≤ 14 := by
          have := len_lineW (r := r.take j) (by rw [List.length_take]; omega) g
          rw [hw]; exact this.2
        have jl := join_len 32 (w :: (r.take j).map digW)
        have A1 := add_str (l := TL.joinL [32] (w :: (r.take j).map digW)) (m := [32]) (by rw [List.length_singleton]; omega)
        have A2 := add_str (l := TL.joinL [32] (w :: (r.take j).map digW) ++ [32]) (m := digW r[j]) (by rw [List.length_append, List.length_singleton]; show _ + 1 ≤ _; omega)
        have e : TL.joinL [32] (w :: (r.take (j + 1)).map digW) = TL.joinL [32] (w :: (r.take j).map digW) ++ [32] ++ digW r[j] := by
          rw [take_snoc hj, List.map_append, ← List.cons_append, List.map_singleton, join_snoc 32 _ _ (by simp), List.append_assoc]
        rw [← e] at A2
        simp! only [s_bl, A1, sd, A2]
        exact hJ _ ⟨_, rfl⟩)
      subst e
      refine ⟨y, ?_⟩
      rw [List.take_length, hw]; rfl
    have sz : ((linesW l i).map TX).length < sizeLine := by rw [List.length_map, sizeLine_eq]; omega
    have hl2 : (linesW l i).map TX ++ [TX (lineW r g)] = (linesW l (i + 1)).map TX := by rw [hl, List.map_append]; rfl
    cases g with
    | true =>
      obtain ⟨y5, k1⟩ := key wYes rfl
      rw [u_sq]
      have st : sAsg (DL.ite (tst (var 3)) (cst (.str "yes")) (cst (.str "no"))) (gN 4) [some (.tup [.int (l.base : Nat), .tup (l.rows.map natsD), .tup (l.good.map .bl)]), some (.own (.lst ((linesW l i).map TX))), some (natsD r), some (.bl true), x4, x5] = .nx [some (.tup [.int (l.base : Nat), .tup (l.rows.map natsD), .tup (l.good.map .bl)]), some (.own (.lst ((linesW l i).map TX))), some (natsD r), some (.bl true), some (TX wYes), x5] := by
        simp! only [s_yes, s_no]
      rw [st, u_snx, u_sq, k1, u_snx]
      simp! only [sz, hl2]
      exact hJ _ ⟨_, _, _, _, rfl⟩
    | false =>
      obtain ⟨y5, k1⟩ := key wNo rfl
      rw [u_sq]
      have st : sAsg (DL.ite (tst (var 3)) (cst (.str "yes")) (cst (.str "no"))) (gN 4) [some (.tup [.int (l.base : Nat), .tup (l.rows.map natsD), .tup (l.good.map .bl)]), some (.own (.lst ((linesW l i).map TX))), some (natsD r), some (.bl false), x4, x5] = .nx [some (.tup [.int (l.base : Nat), .tup (l.rows.map natsD), .tup (l.good.map .bl)]), some (.own (.lst ((linesW l i).map TX))), some (natsD r), some (.bl false), some (TX wNo), x5] := by
        simp! only [s_yes, s_no]
      rw [st, u_snx, u_sq, k1, u_snx]
      simp! only [sz, hl2]
      exact hJ _ ⟨_, _, _, _, rfl⟩)
  have fin3 := join_q (s := 10) (ps := linesW l (l.rows.zip l.good).length) (by have := linesW_bulk h h4 (l.rows.zip l.good).length; omega)
  have e : TL.joinL [10] (linesW l (l.rows.zip l.good).length) = textW l := by unfold linesW textW; rw [List.take_length]
  rw [e] at fin3
  simp! only [s_nl, fin3]
end
theorem lot_text_is {l : Lot} (h : l.Ok) (h4 : l.rows.length ≤ 4) : f_lot_text [l.D] = .ok (TX (textW l)) := by
  unfold f_lot_text b_lot_text
  simp! only [l.pl.fz, look_lot h h4, text_of_is h h4]
end DC

end FM
section FN
set_option Elab.async false
set_option linter.all false
set_option autoImplicit false
set_option maxRecDepth 100000
namespace DC
open PySem PySem.Spec DL
/-- data that are as they are: twins of themselves -/
inductive Tw : Nat → D → Prop
  | non (t : Nat) : Tw t .non
  | bl (t : Nat) (b : Bool) : Tw t (.bl b)
  | int (t : Nat) (i : Int) : Tw t (.int i)
  | str (t : Nat) {x : Str} : PyData.strOk x = true → Tw t (.str x)
  | tup {t : Nat} {xs : List D} : xs.length ≤ sizeLine → (∀ x ∈ xs, Tw t x) → Tw (t + 1) (.tup xs)
  | lst {t : Nat} {xs : List D} : xs.length ≤ sizeLine → (∀ x ∈ xs, Tw t x) → Tw (t + 1) (.lst xs)
theorem Tw.fz {t : Nat} {d : D} (h : Tw t d) : Fz d := by cases h <;> trivial
theorem Tw.up {t : Nat} {d : D} (h : Tw t d) : Tw (t + 1) d := by
  induction h with
  | non => exact .non _
  | bl => exact .bl _ _
  | int => exact .int _ _
  | str _ h => exact .str _ h
  | tup h _ ih => exact .tup h ih
  | lst h _ ih => exact .lst h ih
theorem Tw.le {s t : Nat} {d : D} (h : Tw s d) (l : s ≤ t) : Tw t d := by
  induction l with
  | refl => exact h
  | step _ ih => exact ih.up
def kindD : D → Int
  | .non => 0
  | .bl _ => 1
  | .lst _ => 2
  | .tup _ => 3
  | .int _ => 4
  | _ => 5
theorem kind_d {t : Nat} {d : D} (h : Tw t d) : f__law_kind [d] = .ok (.int (kindD d)) := by
  cases h <;> rfl
theorem in23 (k : Int) : gIn false (.int k) (.lst [.int 2, .int 3]) = some (.bl (decide (k = 2) || decide (k = 3))) := by
  have q := gIn_row false k [2, 3]
  have e : gIn false (.int k) (.lst [.int 2, .int 3]) = gIn false (.int k) (rowD [2, 3]) := rfl
  rw [e, q]
  simp
theorem gEq_self {t : Nat} {d : D} (h : Tw t d) (n : ∀ xs, d ≠ .tup xs ∧ d ≠ .lst xs) : gEq d d = some (.bl true) := by
  cases h with
  | non => rfl
  | bl _ b => rw [gEq_bl]; simp
  | int _ i => rw [gEq_i]; simp
  | str _ h => rw [gEq_str h h]; simp
  | tup _ _ => exact absurd rfl (n _).1
  | lst _ _ => exact absurd rfl (n _).2
theorem zip_same : ∀ xs : List D, zipD xs xs = xs.map fun x => .tup [x, x]
  | [] => rfl
  | x :: xs => by rw [zipD, zip_same xs]; rfl
theorem twin_self : ∀ (t : Nat) (d : D), Tw t d → f__law_twins (t + 1) [d, d] = .ok (.bl true) := by
  have Z2 : 2 ≤ sizeLine := by rw [sizeLine_eq]; omega
  have Z0 : 0 ≤ sizeLine := Nat.zero_le _
  have flat : ∀ (t : Nat) (d : D), Tw t d → (∀ xs, d ≠ .tup xs ∧ d ≠ .lst xs) → f__law_twins (t + 1) [d, d] = .ok (.bl true) := fun t d h n => by
    have k := kind_d h
    have e := gEq_self h n
    have kk : (decide (kindD d = 2) || decide (kindD d = 3)) = false := by
      cases h <;> first | rfl | exact absurd rfl (n _).1 | exact absurd rfl (n _).2
    unfold f__law_twins b__law_twins
    simp! only [k, h.fz, gNe_int, decide_true, Z2, in23, kk, e]
  have seq : ∀ (t : Nat) (xs : List D), xs.length ≤ sizeLine → (∀ x ∈ xs, Tw t x) → (∀ x ∈ xs, f__law_twins (t + 1) [x, x] = .ok (.bl true)) → f__law_twins (t + 1 + 1) [.tup xs, .tup xs] = .ok (.bl true) ∧ f__law_twins (t + 1 + 1) [.lst xs, .lst xs] = .ok (.bl true) := fun t xs hl hx ih => by
    have qe : gEq (.lst []) (.lst []) = some (.bl true) := by rfl
    have k3 : f__law_kind [.tup xs] = .ok (.int 3) := rfl
    have k2 : f__law_kind [.lst xs] = .ok (.int 2) := rfl
    have h3 : (decide ((3 : Int) = 2) || decide ((3 : Int) = 3)) = true := rfl
    have h2 : (decide ((2 : Int) = 2) || decide ((2 : Int) = 3)) = true := rfl
    have c : ∀ a : D, Fz a → compB (gTup' 2 (gMore (gN 2) (gMore (gN 3) (gNone)))) (mNot (tst (mCall (f__law_twins (t + 1)) (aCons (var 2) (aCons (var 3) (aNil)))))) (cst (.int 1)) [2, 3] (zipD xs xs) [some a, some a, none, none] = .ok (.own (.lst []), [some a, some a, none, none]) := fun a ha => by
      rw [zip_same, compB_pure (fun x => .tup [x, x]) (fun _ => false) (fun _ => .int 1) xs (fun x h => ⟨_, by simp! only []; rfl, by simp! only [(hx x h).fz, ih x h], fun e => (nomatch e), by simp! only []⟩) hl]
      simp! only []
      rw [List.filter_eq_nil_iff.mpr fun _ _ => Bool.false_ne_true]
      rfl
    constructor
    · have c := c (.tup xs) trivial
      unfold f__law_twins b__law_twins
      simp! only [k3, gNe_int, gEq_i, decide_true, Z2, Z0, in23, Bool.or_true, Bool.true_or, c, qe]
    · have c := c (.lst xs) trivial
      unfold f__law_twins b__law_twins
      simp! only [k2, gNe_int, gEq_i, decide_true, Z2, Z0, in23, Bool.or_true, Bool.true_or, c, qe]
  intro t
  induction t with
  | zero =>
    intro d h
    refine flat 0 d h fun xs => ⟨fun e => ?_, fun e => ?_⟩ <;> (subst e; cases h)
  | succ t ih =>
    intro d h
    cases h with
    | tup hl hx => exact (seq t _ hl hx fun x hm => ih x (hx x hm)).1
    | lst hl hx => exact (seq t _ hl hx fun x hm => ih x (hx x hm)).2
    | non => exact flat _ _ (.non _) fun xs => ⟨nofun, nofun⟩
    | bl _ b => exact flat _ _ (.bl _ _) fun xs => ⟨nofun, nofun⟩
    | int _ b => exact flat _ _ (.int _ _) fun xs => ⟨nofun, nofun⟩
    | str _ h => exact flat _ _ (.str _ h) fun xs => ⟨nofun, nofun⟩
theorem twins12 {d : D} (h : Tw 11 d) : f__law_twins l__law_twins [d, d] = .ok (.bl true) := twin_self 11 d h
theorem tw_nats (r : List Nat) (h : r.length ≤ sizeLine) : Tw 1 (natsD r) := .tup (by rw [List.length_map]; exact h) fun x hx => by
  obtain ⟨n, _, rfl⟩ := List.mem_map.mp hx; exact .int _ _
theorem tw_lot {l : Lot} (h : l.Ok) (h4 : l.rows.length ≤ 100000) : Tw 3 l.D := .tup (by rw [sizeLine_eq]; simp) fun x hx => by
  simp only [List.mem_cons, List.not_mem_nil, or_false] at hx
  rcases hx with rfl | rfl | rfl
  · exact .int _ _
  · exact .tup (by rw [List.length_map, sizeLine_eq]; omega) fun x hx => by
      obtain ⟨r, hr, rfl⟩ := List.mem_map.mp hx
      exact tw_nats r (by rw [(h.row r hr).1, sizeLine_eq]; have := h.b4; omega)
  · exact .tup (by rw [List.length_map, h.len, sizeLine_eq]; omega) fun x hx => by
      obtain ⟨r, hr, rfl⟩ := List.mem_map.mp hx
      exact .bl _ _
end DC

end FN
section W09
set_option Elab.async false
set_option linter.all false
set_option autoImplicit false
set_option maxRecDepth 100000
set_option maxHeartbeats 4000000
namespace DLaw
open PySem PySem.Spec PyProof.Rows L2 LamX RZ DL DC
structure Bl (mg : Str → Option Value) : Prop where
  b_isinstance : mg "isinstance" = none
  b_int : mg "int" = none
  b_bool : mg "bool" = none
  b_tuple : mg "tuple" = none
  b_len : mg "len" = none
  b_all : mg "all" = none
  b_zip : mg "zip" = none
  b_str : mg "str" = none
  b_abs : mg "abs" = none
  b_list : mg "list" = none
  b_range : mg "range" = none
  b_min : mg "min" = none
structure Xc (K : PySem.W.Frag) (mg : Str → Option Value) (x : Str) (C : Addr) (B newId initId : String) (bmB : List Value) : Prop where
  g : mg x = some (.ref C)
  F : ExcBaseFacts B newId initId bmB
  q : PySem.W.excIn K C bmB newId = true
  k : PySem.W.keepIn K (.ref C) = true
  h1 : PySem.W.subIn K (.ref C) (.type "BaseException") = some true
  h2 : PySem.W.typeIn K (.ref C) = some (.type "type")
theorem Xc.r {K : PySem.W.Frag} {mg : Str → Option Value} {x : Str} {C : Addr} {B newId initId : String} {bmB : List Value} (h : Xc K mg x C B newId initId bmB) {X : Cx} (hK : X.K = K := by rfl) : Raises X (.ref C) := by subst hK; exact raises_own h.h1 h.h2
/-! ### is_within -/
def s_is_within : Stmt := PySem.Challenge.pw_fewfigures_k09_lots_as_texts.main.body.getD 12 (.Pass ⟨0, 0, 0, 0⟩)
theorem sc_is_within : FnScope ["value", "low", "high"] ["value", "low", "high"] (defScope s_is_within) := ⟨rfl, rfl, rfl, by decide +kernel, rfl, by decide +kernel, by decide +kernel⟩
theorem c_is_within {P : Program} {w : World} {K : PySem.W.Frag} {mg : Str → Option Value} {base : Heap} {tb : List (Addr × Str)} {a : Addr} {fd : FuncData} (B : Bl mg) (Fn : Fun K "is_within" "is_within" s_is_within a fd) (hm : mg "is_within" = some (.ref a)) : Cal P w K mg base tb "is_within" 3 1 f_is_within :=
  ⟨a, fd, ["value", "low", "high"], hm, Fn.kp, Fn.binds (ps := ["value", "low", "high"]) fun _ _ _ _ _ _ us hl => match us, hl with | [_, _, _], _ => rfl, okF (k := 0) (body := b_is_within) Fn sc_is_within (fun cdv A outer s H E G hr hmg htb tk hp =>
    dss_one (ds_ret (de_and (de_isi (by rfl) B.b_isinstance (dv 0) (by rfl) B.b_int boot_int) (de_and (de_not (de_isi (by rfl) B.b_isinstance (dv 0) (by rfl) B.b_bool boot_bool)) (de_one (de_chain op_le od_cmp op_le od_cmp (dv 1) (dv 0) (dv 2))))))) (fun ds hl _ => mkF_eq ds hl), fun ds d => mkF_len ds d⟩
/-! ### is_wide -/
def s_is_wide : Stmt := PySem.Challenge.pw_fewfigures_k09_lots_as_texts.main.body.getD 13 (.Pass ⟨0, 0, 0, 0⟩)
theorem sc_is_wide : FnScope ["value", "low", "high"] ["value", "low", "high"] (defScope s_is_wide) := ⟨rfl, rfl, rfl, by decide +kernel, rfl, by decide +kernel, by decide +kernel⟩
theorem c_is_wide {P : Program} {w : World} {K : PySem.W.Frag} {mg : Str → Option Value} {base : Heap} {tb : List (Addr × Str)} {a : Addr} {fd : FuncData} (B : Bl mg) (Fn : Fun K "is_wide" "is_wide" s_is_wide a fd) (hm : mg "is_wide" = some (.ref a)) : Cal P w K mg base tb "is_wide" 3 1 f_is_wide :=
  ⟨a, fd, ["value", "low", "high"], hm, Fn.kp, Fn.binds (ps := ["value", "low", "high"]) fun _ _ _ _ _ _ us hl => match us, hl with | [_, _, _], _ => rfl, okF (k := 0) (body := b_is_wide) Fn sc_is_wide (fun cdv A outer s H E G hr hmg htb tk hp =>
    dss_one (ds_ret (de_and (de_isi (by rfl) B.b_isinstance (dv 0) (by rfl) B.b_tuple boot_tuple) (de_one (de_chain op_le od_cmp op_le od_cmp (dv 1) (de_cb cr_lens cd_len (by rfl) B.b_len boot_len (da_cons (dv 0) (da_nil))) (dv 2)))))) (fun ds hl _ => mkF_eq ds hl), fun ds d => mkF_len ds d⟩
/-! ### is_fit -/
def s_is_fit : Stmt := PySem.Challenge.pw_fewfigures_k09_lots_as_texts.main.body.getD 14 (.Pass ⟨0, 0, 0, 0⟩)
theorem sc_is_fit : FnScope ["value", "many", "row", "truth", "there"] ["value"] (defScope s_is_fit) := ⟨rfl, rfl, rfl, by decide +kernel, rfl, by decide +kernel, by decide +kernel⟩
theorem c_is_fit {P : Program} {w : World} {K : PySem.W.Frag} {mg : Str → Option Value} {base : Heap} {tb : List (Addr × Str)} {a : Addr} {fd : FuncData} (B : Bl mg) (g_MOST : ∃ u, mg "MOST" = some u ∧ L2.RelV (.int 4) u) (c_is_wide : Cal P w K mg base tb "is_wide" 3 1 f_is_wide) (c_is_within : Cal P w K mg base tb "is_within" 3 1 f_is_within) (Fn : Fun K "is_fit" "is_fit" s_is_fit a fd) (hm : mg "is_fit" = some (.ref a)) : Cal P w K mg base tb "is_fit" 1 2 f_is_fit :=
  ⟨a, fd, ["value"], hm, Fn.kp, Fn.binds (ps := ["value"]) fun _ _ _ _ _ _ us hl => match us, hl with | [_], _ => rfl, okF (k := 1) (body := b_is_fit) Fn sc_is_fit (fun cdv A outer s H E G hr hmg htb tk hp =>
    dss_cons (ds_if (dt_w (dw_or (dt_not (dt_val (de_cal c_is_wide htb hmg tk (Room.mono hr (by first | decide | omega)) (by rfl) (da_cons (dv 0) (da_cons (de_int) (da_cons (de_int) (da_nil))))))) (dw_or (dt_not (dt_val (de_cal c_is_within htb hmg tk (Room.mono hr (by first | decide | omega)) (by rfl) (da_cons (de_ix ix_seq od_ix (dv 0) (de_int) (fun _ _ => rfl)) (da_cons (de_int) (da_cons (de_int) (da_nil))))))) (dw_or1 (dt_not (dt_val (de_cal c_is_wide htb hmg tk (Room.mono hr (by first | decide | omega)) (by rfl) (da_cons (de_ix ix_seq od_ix (dv 0) (de_int) (fun _ _ => rfl)) (da_cons (de_int) (da_cons (de_gint g_MOST (by rfl)) (da_nil))))))))))) (dss_one (ds_ret (de_bl))) (dss_nil))
    (dss_cons (ds_set (i := 1) sc_is_fit.nd rfl (by first | exact Or.inl rfl | exact Or.inr rfl) (de_cb cr_lens cd_len (by rfl) B.b_len boot_len (da_cons (de_ix ix_seq od_ix (dv 0) (de_int) (fun _ _ => rfl)) (da_nil))))
    (dss_cons (ds_for hp rfl (di_seq (de_ix ix_seq od_ix (dv 0) (de_int) (fun _ _ => rfl))) (dg_name sc_is_fit.nd rfl (by first | exact Or.inl rfl | exact Or.inr rfl)) (dss_one (ds_if (dt_w (dw_or (dt_not (dt_val (de_cal c_is_wide htb hmg tk (Room.mono hr (by first | decide | omega)) (by rfl) (da_cons (dv 2) (da_cons (de_ix ix_seq od_ix (dv 0) (de_int) (fun _ _ => rfl)) (da_cons (de_ix ix_seq od_ix (dv 0) (de_int) (fun _ _ => rfl)) (da_nil))))))) (dw_or1 (dt_not (dt_val (de_cb (cr_all rfl) cd_all (by rfl) B.b_all boot_all (da_cons (de_lc (own := [("there", 4)]) (ks := [4]) rfl sc_is_fit.nd (di_seq (dv 2)) (blkOk_by (by rfl)) (by decide) (fun _ _ _ _ _ _ => dg_name sc_is_fit.nd rfl (by first | exact Or.inl rfl | exact Or.inr rfl)) (fun _ _ _ _ _ _ => dts_nil) (fun _ _ _ _ _ _ => de_cal c_is_within htb hmg takes0N (Room.mono hr (by first | decide | omega)) (by rfl) (da_cons (dv 4) (da_cons (de_int) (da_cons (de_bin op_sub od_sub (dv 1) (de_int)) (da_nil)))))) (da_nil)))))))) (dss_one (ds_ret (de_bl))) (dss_nil))))
    (dss_cons (ds_if (dt_w (dw_or (dt_not (dt_val (de_cal c_is_wide htb hmg tk (Room.mono hr (by first | decide | omega)) (by rfl) (da_cons (de_ix ix_seq od_ix (dv 0) (de_int) (fun _ _ => rfl)) (da_cons (dv 1) (da_cons (dv 1) (da_nil))))))) (dw_or1 (dt_not (dt_val (de_cb (cr_all rfl) cd_all (by rfl) B.b_all boot_all (da_cons (de_lc (own := [("truth", 3)]) (ks := [3]) rfl sc_is_fit.nd (di_seq (de_ix ix_seq od_ix (dv 0) (de_int) (fun _ _ => rfl))) (blkOk_by (by rfl)) (by decide) (fun _ _ _ _ _ _ => dg_name sc_is_fit.nd rfl (by first | exact Or.inl rfl | exact Or.inr rfl)) (fun _ _ _ _ _ _ => dts_nil) (fun _ _ _ _ _ _ => de_isi (by rfl) B.b_isinstance (dv 3) (by rfl) B.b_bool boot_bool)) (da_nil)))))))) (dss_one (ds_ret (de_bl))) (dss_nil))
    (dss_one (ds_ret (de_cb (cr_all rfl) cd_all (by rfl) B.b_all boot_all (da_cons (de_lc (own := [("row", 2), ("truth", 3)]) (ks := [2, 3]) rfl sc_is_fit.nd (di_zip (by rfl) B.b_zip (da_cons (de_ix ix_seq od_ix (dv 0) (de_int) (fun _ _ => rfl)) (da_cons (de_ix ix_seq od_ix (dv 0) (de_int) (fun _ _ => rfl)) (da_nil)))) (blkOk_by (by rfl)) (by decide) (fun _ _ _ _ _ _ => dg_tup rfl (dgs_cons (dg_name sc_is_fit.nd rfl (by first | exact Or.inl rfl | exact Or.inr rfl)) (dgs_cons (dg_name sc_is_fit.nd rfl (by first | exact Or.inl rfl | exact Or.inr rfl)) (dgs_nil)))) (fun _ _ _ _ _ _ => dts_nil) (fun _ _ _ _ _ _ => de_cmp (op_eqD (Room.units hr)) od_eq (dv 3) (de_ix ix_seq od_ix (de_ix ix_seq od_ix (dv 0) (de_int) (fun _ _ => rfl)) (de_ix ix_seq od_ix (dv 2) (de_int) (fun _ _ => rfl)) (fun _ _ => rfl)) (nomark _))) (da_nil))))))))) (fun ds hl _ => mkF_eq ds hl), fun ds d => mkF_len ds d⟩
/-! ### look_at_lot -/
def s_look_at_lot : Stmt := PySem.Challenge.pw_fewfigures_k09_lots_as_texts.main.body.getD 15 (.Pass ⟨0, 0, 0, 0⟩)
theorem sc_look_at_lot : FnScope ["lot"] ["lot"] (defScope s_look_at_lot) := ⟨rfl, rfl, rfl, by decide +kernel, rfl, by decide +kernel, by decide +kernel⟩
theorem c_look_at_lot {P : Program} {w : World} {K : PySem.W.Frag} {mg : Str → Option Value} {base : Heap} {tb : List (Addr × Str)} {a : Addr} {fd : FuncData} (B : Bl mg) (c_is_fit : Cal P w K mg base tb "is_fit" 1 2 f_is_fit) {C_InvalidLot : Addr} {B_InvalidLot n_InvalidLot i_InvalidLot : String} {bm_InvalidLot : List Value} (X_InvalidLot : Xc K mg "InvalidLot" C_InvalidLot B_InvalidLot n_InvalidLot i_InvalidLot bm_InvalidLot) (Fn : Fun K "look_at_lot" "look_at_lot" s_look_at_lot a fd) (hm : mg "look_at_lot" = some (.ref a)) : Cal P w K mg base tb "look_at_lot" 1 3 f_look_at_lot :=
  ⟨a, fd, ["lot"], hm, Fn.kp, Fn.binds (ps := ["lot"]) fun _ _ _ _ _ _ us hl => match us, hl with | [_], _ => rfl, okF (k := 2) (body := b_look_at_lot) Fn sc_look_at_lot (fun cdv A outer s H E G hr hmg htb tk hp =>
    dss_one (ds_if (dt_not (dt_val (de_cal c_is_fit htb hmg tk (Room.mono hr (by first | decide | omega)) (by rfl) (da_cons (dv 0) (da_nil))))) (dss_one (ds_raise rfl hmg tk X_InvalidLot.F X_InvalidLot.q X_InvalidLot.g X_InvalidLot.k X_InvalidLot.r (by rfl))) (dss_nil))) (fun ds hl _ => mkF_eq ds hl), fun ds d => mkF_len ds d⟩
/-! ### text_of -/
def s_text_of : Stmt := PySem.Challenge.pw_fewfigures_k09_lots_as_texts.main.body.getD 19 (.Pass ⟨0, 0, 0, 0⟩)
theorem sc_text_of : FnScope ["lot", "lines", "row", "truth", "there"] ["lot"] (defScope s_text_of) := ⟨rfl, rfl, rfl, by decide +kernel, rfl, by decide +kernel, by decide +kernel⟩
theorem c_text_of {P : Program} {w : World} {K : PySem.W.Frag} {mg : Str → Option Value} {base : Heap} {tb : List (Addr × Str)} {a : Addr} {fd : FuncData} (B : Bl mg) (Fn : Fun K "text_of" "text_of" s_text_of a fd) (hm : mg "text_of" = some (.ref a)) : Cal P w K mg base tb "text_of" 1 1 f_text_of :=
  ⟨a, fd, ["lot"], hm, Fn.kp, Fn.binds (ps := ["lot"]) fun _ _ _ _ _ _ us hl => match us, hl with | [_], _ => rfl, okF (k := 0) (body := b_text_of) Fn sc_text_of (fun cdv A outer s H E G hr hmg htb tk hp =>
    dss_cons (ds_set (i := 1) sc_text_of.nd rfl (by first | exact Or.inl rfl | exact Or.inr rfl) (de_lst (da_cons (de_bin or_adds od_add (de_str) (de_cty call_str_int cd_str (by rfl) B.b_str boot_str (da_cons (de_ix ix_seq od_ix (dv 0) (de_int) (fun _ _ => rfl)) (da_nil)))) (da_nil))))
    (dss_cons (ds_for hp rfl (di_zip (by rfl) B.b_zip (da_cons (de_ix ix_seq od_ix (dv 0) (de_int) (fun _ _ => rfl)) (da_cons (de_ix ix_seq od_ix (dv 0) (de_int) (fun _ _ => rfl)) (da_nil)))) (dg_tup rfl (dgs_cons (dg_name sc_text_of.nd rfl (by first | exact Or.inl rfl | exact Or.inr rfl)) (dgs_cons (dg_name sc_text_of.nd rfl (by first | exact Or.inl rfl | exact Or.inr rfl)) (dgs_nil)))) (dss_one (ds_set (i := 1) sc_text_of.nd rfl (by first | exact Or.inl rfl | exact Or.inr rfl) (de_bin or_adds od_add (dv 1) (de_lst (da_cons (de_join (x := .Constant .none 0 ⟨0,0,0,0⟩) (de_str) (da_cons (de_bin or_adds od_add (de_lst (da_cons (de_if (dt_val (dv 3)) (de_str) (de_str)) (da_nil))) (de_lc (own := [("there", 4)]) (ks := [4]) rfl sc_text_of.nd (di_seq (dv 2)) (blkOk_by (by rfl)) (by decide) (fun _ _ _ _ _ _ => dg_name sc_text_of.nd rfl (by first | exact Or.inl rfl | exact Or.inr rfl)) (fun _ _ _ _ _ _ => dts_nil) (fun _ _ _ _ _ _ => de_cty call_str_int cd_str (by rfl) B.b_str boot_str (da_cons (dv 4) (da_nil))))) (da_nil))) (da_nil)))))))
    (dss_one (ds_ret (de_join (x := .Constant .none 0 ⟨0,0,0,0⟩) (de_str) (da_cons (dv 1) (da_nil))))))) (fun ds hl _ => mkF_eq ds hl), fun ds d => mkF_len ds d⟩
/-! ### lot_text -/
def s_lot_text : Stmt := PySem.Challenge.pw_fewfigures_k09_lots_as_texts.main.body.getD 21 (.Pass ⟨0, 0, 0, 0⟩)
theorem sc_lot_text : FnScope ["lot"] ["lot"] (defScope s_lot_text) := ⟨rfl, rfl, rfl, by decide +kernel, rfl, by decide +kernel, by decide +kernel⟩
theorem c_lot_text {P : Program} {w : World} {K : PySem.W.Frag} {mg : Str → Option Value} {base : Heap} {tb : List (Addr × Str)} {a : Addr} {fd : FuncData} (B : Bl mg) (c_look_at_lot : Cal P w K mg base tb "look_at_lot" 1 3 f_look_at_lot) (c_text_of : Cal P w K mg base tb "text_of" 1 1 f_text_of) (Fn : Fun K "lot_text" "lot_text" s_lot_text a fd) (hm : mg "lot_text" = some (.ref a)) : Cal P w K mg base tb "lot_text" 1 4 f_lot_text :=
  ⟨a, fd, ["lot"], hm, Fn.kp, Fn.binds (ps := ["lot"]) fun _ _ _ _ _ _ us hl => match us, hl with | [_], _ => rfl, okF (k := 3) (body := b_lot_text) Fn sc_lot_text (fun cdv A outer s H E G hr hmg htb tk hp =>
    dss_cons (ds_expr (de_cal c_look_at_lot htb hmg tk (Room.mono hr (by first | decide | omega)) (by rfl) (da_cons (dv 0) (da_nil))))
    (dss_one (ds_ret (de_cal c_text_of htb hmg tk (Room.mono hr (by first | decide | omega)) (by rfl) (da_cons (dv 0) (da_nil)))))) (fun ds hl _ => mkF_eq ds hl), fun ds d => mkF_len ds d⟩
/-! ### _law_spring -/
def s__law_spring : Stmt := PySem.Challenge.pw_fewfigures_k09_lots_as_texts.main.body.getD 24 (.Pass ⟨0, 0, 0, 0⟩)
theorem sc__law_spring : FnScope ["script", "at", "cell", "mixed"] ["script", "at"] (defScope s__law_spring) := ⟨rfl, rfl, rfl, by decide +kernel, rfl, by decide +kernel, by decide +kernel⟩
theorem c__law_spring {P : Program} {w : World} {K : PySem.W.Frag} {mg : Str → Option Value} {base : Heap} {tb : List (Addr × Str)} {a : Addr} {fd : FuncData} (B : Bl mg) (Fn : Fun K "_law_spring" "_law_spring" s__law_spring a fd) (hm : mg "_law_spring" = some (.ref a)) : CalX P w K mg base tb "_law_spring" 2 1 (fun (i : Addr × List Int) H => SqL K H i.1 (i.2.map V.int)) f__law_spring :=
  ⟨a, fd, ["script", "at"], hm, Fn.kp, Fn.binds (ps := ["script", "at"]) fun _ _ _ _ _ _ us hl => match us, hl with | [_, _], _ => rfl, okX (k := 0) (body := b__law_spring) (DL.Fun.q Fn) sc__law_spring (fun i cdv A outer s H E G _ hr hmg htb h0 hI hpre tk hp =>
    have hs : Steady' G fun H => SqL K H i.1 (i.2.map V.int) := fun H kp => sq_keep (by rw [h0]; exact hpre) hI kp
    dss_cons (ds_set (i := 2) sc__law_spring.nd rfl (by first | exact Or.inl rfl | exact Or.inr rfl) (de_int))
    (dss_cons (ds_if (dt_cmp op_lt od_cmp (dv 1) (de_lenS hs (by rfl) B.b_len (da_cons (dv 0) (da_nil))) (nomark _)) (dss_one (ds_set (i := 2) sc__law_spring.nd rfl (by first | exact Or.inl rfl | exact Or.inr rfl) (de_cb call_abs cd_abs (by rfl) B.b_abs boot_abs (da_cons (de_ixS hs (dv 0) (dv 1) (fun _ _ => rfl)) (da_nil))))) (dss_nil))
    (dss_cons (ds_set (i := 3) sc__law_spring.nd rfl (by first | exact Or.inl rfl | exact Or.inr rfl) (de_bin op_mod od_mod (de_cty call_int1 cd_int (by rfl) B.b_int boot_int (da_cons (de_bin or_adds od_add (de_bin or_adds od_add (de_bin or_muls od_mul (dv 2) (de_int)) (de_bin or_muls od_mul (de_int) (dv 1))) (de_int)) (da_nil))) (de_int)))
    (dss_one (ds_ret (de_lst (da_cons (de_if (dt_cmp op_ge od_cmp (dv 2) (de_bin op_pow od_pow (de_int) (de_int)) (nomark _)) (dv 2) (de_int)) (da_cons (dv 3) (da_nil))))))))) (fun i ds hl _ => mkF_eq ds hl), fun i ds d => mkF_len ds d⟩
/-! ### _law_pick -/
def s__law_pick : Stmt := PySem.Challenge.pw_fewfigures_k09_lots_as_texts.main.body.getD 25 (.Pass ⟨0, 0, 0, 0⟩)
theorem sc__law_pick : FnScope ["spring", "many", "digit"] ["spring", "many"] (defScope s__law_pick) := ⟨rfl, rfl, rfl, by decide +kernel, rfl, by decide +kernel, by decide +kernel⟩
theorem c__law_pick {P : Program} {w : World} {K : PySem.W.Frag} {mg : Str → Option Value} {base : Heap} {tb : List (Addr × Str)} {a : Addr} {fd : FuncData} (B : Bl mg) (Fn : Fun K "_law_pick" "_law_pick" s__law_pick a fd) (hm : mg "_law_pick" = some (.ref a)) : CalIO P w K mg base tb "_law_pick" 1 1 f__law_pick :=
  ⟨a, fd, ["spring", "many"], hm, Fn.kp, Fn.binds (ps := ["spring", "many"]) fun _ _ _ _ _ _ us hl => match us, hl with | [_, _], _ => rfl, okIO (n := 1) (k := 0) (body := b__law_pick) Fn sc__law_pick rfl (fun cdv A outer s H E G hr hmg htb tk hp =>
    dss_cons (ds_if (dt_cmp op_gt od_cmp (de_ix ix_seq od_ix (dv 0) (de_int) (fun _ _ => rfl)) (de_int) (nomark _)) (dss_cons (ds_set (i := 2) sc__law_pick.nd rfl (by first | exact Or.inl rfl | exact Or.inr rfl) (de_bin op_mod od_mod (de_cty call_int1 cd_int (by rfl) B.b_int boot_int (da_cons (de_ix ix_seq od_ix (dv 0) (de_int) (fun _ _ => rfl)) (da_nil))) (dv 1)))
    (dss_cons (ds_setitem (i := 0) (pv 0) (de_int) (de_bin op_fdivW od_div (de_ix ix_seq od_ix (dv 0) (de_int) (fun _ _ => rfl)) (dv 1)) (ps_asg (de_bin op_fdivW od_div (de_ix ix_seq od_ix (dv 0) (de_int) (fun _ _ => rfl)) (dv 1)) (pg_sub (pv 0) (de_int) set_list)))
    (dss_one (ds_ret (dv 2))))) (dss_nil))
    (dss_cons (ds_setitem (i := 0) (pv 0) (de_int) (de_bin op_mod od_mod (de_cty call_int1 cd_int (by rfl) B.b_int boot_int (da_cons (de_bin or_adds od_add (de_bin or_muls od_mul (de_ix ix_seq od_ix (dv 0) (de_int) (fun _ _ => rfl)) (de_int)) (de_int)) (da_nil))) (de_int)) (ps_asg (de_bin op_mod od_mod (de_cty call_int1 cd_int (by rfl) B.b_int boot_int (da_cons (de_bin or_adds od_add (de_bin or_muls od_mul (de_ix ix_seq od_ix (dv 0) (de_int) (fun _ _ => rfl)) (de_int)) (de_int)) (da_nil))) (de_int)) (pg_sub (pv 0) (de_int) set_list)))
    (dss_one (ds_ret (de_bin op_mod od_mod (de_cty call_int1 cd_int (by rfl) B.b_int boot_int (da_cons (de_bin op_fdivW od_div (de_ix ix_seq od_ix (dv 0) (de_int) (fun _ _ => rfl)) (de_int)) (da_nil))) (dv 1)))))) (fun c ds hl _ => mkIO_eq c ds hl), fun c ds d => mkIO_len c ds d, fun c ds x => mkIO_exc c ds x⟩
/-! ### _law_kind -/
def s__law_kind : Stmt := PySem.Challenge.pw_fewfigures_k09_lots_as_texts.main.body.getD 26 (.Pass ⟨0, 0, 0, 0⟩)
theorem sc__law_kind : FnScope ["value"] ["value"] (defScope s__law_kind) := ⟨rfl, rfl, rfl, by decide +kernel, rfl, by decide +kernel, by decide +kernel⟩
theorem c__law_kind {P : Program} {w : World} {K : PySem.W.Frag} {mg : Str → Option Value} {base : Heap} {tb : List (Addr × Str)} {a : Addr} {fd : FuncData} (B : Bl mg) (Fn : Fun K "_law_kind" "_law_kind" s__law_kind a fd) (hm : mg "_law_kind" = some (.ref a)) : Cal P w K mg base tb "_law_kind" 1 1 f__law_kind :=
  ⟨a, fd, ["value"], hm, Fn.kp, Fn.binds (ps := ["value"]) fun _ _ _ _ _ _ us hl => match us, hl with | [_], _ => rfl, okF (k := 0) (body := b__law_kind) Fn sc__law_kind (fun cdv A outer s H E G hr hmg htb tk hp =>
    dss_cons (ds_if (dt_w (dw_or (dt_cmp op_isN od_isN (dv 0) (de_non) (nomark _)) (dw_or1 (dt_val (de_isi (by rfl) B.b_isinstance (dv 0) (by rfl) B.b_bool boot_bool))))) (dss_one (ds_ret (de_if (dt_cmp op_isN od_isN (dv 0) (de_non) (nomark _)) (de_int) (de_int)))) (dss_nil))
    (dss_cons (ds_if (dt_val (de_isi2 (by rfl) B.b_isinstance (dv 0) (by rfl) B.b_list boot_list (by rfl) B.b_tuple boot_tuple)) (dss_one (ds_ret (de_if (dt_val (de_isi (by rfl) B.b_isinstance (dv 0) (by rfl) B.b_list boot_list)) (de_int) (de_int)))) (dss_nil))
    (dss_one (ds_ret (de_if (dt_val (de_isi (by rfl) B.b_isinstance (dv 0) (by rfl) B.b_int boot_int)) (de_int) (de_if (dt_val (de_isi (by rfl) B.b_isinstance (dv 0) (by rfl) B.b_str boot_str)) (de_int) (de_int))))))) (fun ds hl _ => mkF_eq ds hl), fun ds d => mkF_len ds d⟩
/-! ### _law_twins -/
def s__law_twins : Stmt := PySem.Challenge.pw_fewfigures_k09_lots_as_texts.main.body.getD 27 (.Pass ⟨0, 0, 0, 0⟩)
theorem sc__law_twins : FnScope ["one", "other", "a", "b"] ["one", "other"] (defScope s__law_twins) := ⟨rfl, rfl, rfl, by decide +kernel, rfl, by decide +kernel, by decide +kernel⟩
theorem c__law_twins {P : Program} {w : World} {K : PySem.W.Frag} {mg : Str → Option Value} {base : Heap} {tb : List (Addr × Str)} {a : Addr} {fd : FuncData} (B : Bl mg) (c__law_kind : Cal P w K mg base tb "_law_kind" 1 1 f__law_kind) (Fn : Fun K "_law_twins" "_law_twins" s__law_twins a fd) (hm : mg "_law_twins" = some (.ref a)) : ∀ t : Nat, Cal P w K mg base tb "_law_twins" 2 (1 + t) (f__law_twins t)
  | 0 => ⟨a, fd, ["one", "other"], hm, Fn.kp, Fn.binds (ps := ["one", "other"]) fun _ _ _ _ _ _ us hl => match us, hl with | [_, _], _ => rfl, ⟨fun _ _ _ _ ⟨_, _, _, _, _, _, z⟩ => z.elim, fun _ _ _ _ _ _ _ _ _ _ _ _ _ ⟨_, _, _, _, _, _, z⟩ => z.elim⟩, fun ds d e h => absurd e.symm h⟩
  | t + 1 => have cr := c__law_twins B c__law_kind Fn hm t
    ⟨a, fd, ["one", "other"], hm, Fn.kp, Fn.binds (ps := ["one", "other"]) fun _ _ _ _ _ _ us hl => match us, hl with | [_, _], _ => rfl, okF (k := 1 + t) (body := b__law_twins (f__law_twins t)) Fn sc__law_twins (fun cdv A outer s H E G hr hmg htb tk hp =>
    dss_cons (ds_if (dt_cmp (op_neD (Room.units hr)) od_ne (de_cal c__law_kind htb hmg tk (Room.mono hr (by first | decide | omega)) (by rfl) (da_cons (dv 0) (da_nil))) (de_cal c__law_kind htb hmg tk (Room.mono hr (by first | decide | omega)) (by rfl) (da_cons (dv 1) (da_nil))) (nomark _)) (dss_one (ds_ret (de_bl))) (dss_nil))
    (dss_cons (ds_if (dt_cmp op_in_seq od_in (de_cal c__law_kind htb hmg tk (Room.mono hr (by first | decide | omega)) (by rfl) (da_cons (dv 0) (da_nil))) (de_lst (da_cons (de_int) (da_cons (de_int) (da_nil)))) (by with_unfolding_all rfl)) (dss_one (ds_ret (de_and (de_cmp (op_eqD (Room.units hr)) od_eq (de_cb cr_lens cd_len (by rfl) B.b_len boot_len (da_cons (dv 0) (da_nil))) (de_cb cr_lens cd_len (by rfl) B.b_len boot_len (da_cons (dv 1) (da_nil))) (nomark _)) (de_one (de_cmp (op_eqD (Room.units hr)) od_eq (de_lc (own := [("a", 2), ("b", 3)]) (ks := [2, 3]) rfl sc__law_twins.nd (di_zip (by rfl) B.b_zip (da_cons (dv 0) (da_cons (dv 1) (da_nil)))) (blkOk_by (by rfl)) (by decide) (fun _ _ _ _ _ _ => dg_tup rfl (dgs_cons (dg_name sc__law_twins.nd rfl (by first | exact Or.inl rfl | exact Or.inr rfl)) (dgs_cons (dg_name sc__law_twins.nd rfl (by first | exact Or.inl rfl | exact Or.inr rfl)) (dgs_nil)))) (fun _ _ _ _ _ _ => dts_one (dt_not (dt_val (de_cal cr htb hmg takes0N (Room.mono hr (by omega)) (by rfl) (da_cons (dv 2) (da_cons (dv 3) (da_nil))))))) (fun _ _ _ _ _ _ => de_int)) (de_lst (da_nil)) (nomark _)))))) (dss_nil))
    (dss_one (ds_ret (de_cmp (op_eqD (Room.units hr)) od_eq (dv 0) (dv 1) (nomark _)))))) (fun ds hl _ => mkF_eq ds hl), fun ds d => mkF_len ds d⟩
/-! ### _law_text -/
def s__law_text : Stmt := PySem.Challenge.pw_fewfigures_k09_lots_as_texts.main.body.getD 35 (.Pass ⟨0, 0, 0, 0⟩)
theorem sc__law_text : FnScope ["lot", "lines", "row", "truth", "line", "there"] ["lot"] (defScope s__law_text) := ⟨rfl, rfl, rfl, by decide +kernel, rfl, by decide +kernel, by decide +kernel⟩
theorem c__law_text {P : Program} {w : World} {K : PySem.W.Frag} {mg : Str → Option Value} {base : Heap} {tb : List (Addr × Str)} {a : Addr} {fd : FuncData} (B : Bl mg) (Fn : Fun K "_law_text" "_law_text" s__law_text a fd) (hm : mg "_law_text" = some (.ref a)) : Cal P w K mg base tb "_law_text" 1 1 f__law_text :=
  ⟨a, fd, ["lot"], hm, Fn.kp, Fn.binds (ps := ["lot"]) fun _ _ _ _ _ _ us hl => match us, hl with | [_], _ => rfl, okF (k := 0) (body := b__law_text) Fn sc__law_text (fun cdv A outer s H E G hr hmg htb tk hp =>
    dss_cons (ds_set (i := 1) sc__law_text.nd rfl (by first | exact Or.inl rfl | exact Or.inr rfl) (de_lst (da_cons (de_bin or_adds od_add (de_str) (de_cty call_str_int cd_str (by rfl) B.b_str boot_str (da_cons (de_ix ix_seq od_ix (dv 0) (de_int) (fun _ _ => rfl)) (da_nil)))) (da_nil))))
    (dss_cons (ds_for hp rfl (di_zip (by rfl) B.b_zip (da_cons (de_ix ix_seq od_ix (dv 0) (de_int) (fun _ _ => rfl)) (da_cons (de_ix ix_seq od_ix (dv 0) (de_int) (fun _ _ => rfl)) (da_nil)))) (dg_tup rfl (dgs_cons (dg_name sc__law_text.nd rfl (by first | exact Or.inl rfl | exact Or.inr rfl)) (dgs_cons (dg_name sc__law_text.nd rfl (by first | exact Or.inl rfl | exact Or.inr rfl)) (dgs_nil)))) (dss_cons (ds_set (i := 4) sc__law_text.nd rfl (by first | exact Or.inl rfl | exact Or.inr rfl) (de_if (dt_val (dv 3)) (de_str) (de_str)))
    (dss_cons (ds_for hp rfl (di_seq (dv 2)) (dg_name sc__law_text.nd rfl (by first | exact Or.inl rfl | exact Or.inr rfl)) (dss_one (ds_set (i := 4) sc__law_text.nd rfl (by first | exact Or.inl rfl | exact Or.inr rfl) (de_bin or_adds od_add (de_bin or_adds od_add (dv 4) (de_str)) (de_cty call_str_int cd_str (by rfl) B.b_str boot_str (da_cons (dv 5) (da_nil)))))))
    (dss_one (ds_expr (de_append (pv 1) (dv 4) (pe_bm PySem.F.plainAttrs_list PySem.F.slot_list_append PySem.F.type_list_append mt_append (pv 1) (pa_cons (dv 4) pa_nil))))))))
    (dss_one (ds_ret (de_join (x := .Constant .none 0 ⟨0,0,0,0⟩) (de_str) (da_cons (dv 1) (da_nil))))))) (fun ds hl _ => mkF_eq ds hl), fun ds d => mkF_len ds d⟩
/-! ### _law_bend -/
def s__law_bend : Stmt := PySem.Challenge.pw_fewfigures_k09_lots_as_texts.main.body.getD 37 (.Pass ⟨0, 0, 0, 0⟩)
theorem sc__law_bend : FnScope ["spring", "text", "signs", "words", "here", "some", "lines", "way", "at", "spot"] ["spring", "text"] (defScope s__law_bend) := ⟨rfl, rfl, rfl, by decide +kernel, rfl, by decide +kernel, by decide +kernel⟩
theorem c__law_bend {P : Program} {w : World} {K : PySem.W.Frag} {mg : Str → Option Value} {base : Heap} {tb : List (Addr × Str)} {a : Addr} {fd : FuncData} (B : Bl mg) (c__law_pick : CalIO P w K mg base tb "_law_pick" 1 1 f__law_pick) (Fn : Fun K "_law_bend" "_law_bend" s__law_bend a fd) (hm : mg "_law_bend" = some (.ref a)) : CalIO P w K mg base tb "_law_bend" 1 2 f__law_bend :=
  ⟨a, fd, ["spring", "text"], hm, Fn.kp, Fn.binds (ps := ["spring", "text"]) fun _ _ _ _ _ _ us hl => match us, hl with | [_, _], _ => rfl, okIO (n := 1) (k := 1) (body := b__law_bend) Fn sc__law_bend rfl (fun cdv A outer s H E G hr hmg htb tk hp =>
    dss_cons (ds_par (i := 6) (j := 7) rfl sc__law_bend.nd rfl rfl (by decide) rfl rfl (de_split (dv 1) (da_cons (de_str) (da_nil))) (fun _ => de_calIO c__law_pick htb tk (Room.mono hr (by decide)) (by rfl) (pv 0) (da_cons (de_int) (da_nil))) (by rfl))
    (dss_cons (ds_par (i := 8) (j := 9) rfl sc__law_bend.nd rfl rfl (by decide) rfl rfl (de_calIO c__law_pick htb tk (Room.mono hr (by decide)) (by rfl) (pv 0) (da_cons (de_cb cr_lens cd_len (by rfl) B.b_len boot_len (da_cons (dv 6) (da_nil))) (da_nil))) (fun _ => de_calIO c__law_pick htb tk (Room.mono hr (by decide)) (by rfl) (pv 0) (da_cons (de_bin or_adds od_add (de_cb cr_lens cd_len (by rfl) B.b_len boot_len (da_cons (dv 1) (da_nil))) (de_int)) (da_nil))) (by rfl))
    (dss_cons (ds_if (dt_cmp (op_eqD (Room.units hr)) od_eq (dv 7) (de_int) (nomark _)) (dss_one (ds_ret (de_join (x := .Constant .none 0 ⟨0,0,0,0⟩) (de_str) (da_cons (de_bin or_adds od_add (de_slice (dv 6) (do_no) (do_yes (dv 8))) (de_slice (dv 6) (do_yes (de_bin or_adds od_add (dv 8) (de_int))) (do_no))) (da_nil))))) (dss_nil))
    (dss_cons (ds_if (dt_cmp (op_eqD (Room.units hr)) od_eq (dv 7) (de_int) (nomark _)) (dss_one (ds_ret (de_join (x := .Constant .none 0 ⟨0,0,0,0⟩) (de_str) (da_cons (de_bin or_adds od_add (de_slice (dv 6) (do_no) (do_yes (de_bin or_adds od_add (dv 8) (de_int)))) (de_slice (dv 6) (do_yes (dv 8)) (do_no))) (da_nil))))) (dss_nil))
    (dss_cons (ds_if (dt_cmp (op_eqD (Room.units hr)) od_eq (dv 7) (de_int) (nomark _)) (dss_one (ds_ret (de_join (x := .Constant .none 0 ⟨0,0,0,0⟩) (de_str) (da_cons (de_bin or_adds od_add (de_slice (dv 6) (do_yes (dv 8)) (do_no)) (de_slice (dv 6) (do_no) (do_yes (dv 8)))) (da_nil))))) (dss_nil))
    (dss_cons (ds_set (i := 2) sc__law_bend.nd rfl (by first | exact Or.inl rfl | exact Or.inr rfl) (de_lst (da_cons (de_str) (da_cons (de_str) (da_cons (de_str) (da_cons (de_str) (da_cons (de_str) (da_cons (de_str) (da_cons (de_str) (da_cons (de_str) (da_cons (de_str) (da_cons (de_str) (da_cons (de_str) (da_cons (de_str) (da_cons (de_str) (da_cons (de_str) (da_nil)))))))))))))))))
    (dss_cons (ds_if (dt_cmp op_lt od_cmp (dv 7) (de_int) (nomark _)) (dss_one (ds_ret (de_bin or_adds od_add (de_bin or_adds od_add (de_slice (dv 1) (do_no) (do_yes (dv 9))) (de_ix ix_seq od_ix (dv 2) (de_calIO c__law_pick htb tk (Room.mono hr (by decide)) (by rfl) (pv 0) (da_cons (de_int) (da_nil))) (fun _ _ => rfl))) (de_slice (dv 1) (do_yes (de_bin or_adds od_add (dv 9) (de_bin op_mod od_mod (dv 7) (de_int)))) (do_no))))) (dss_nil))
    (dss_cons (ds_set (i := 3) sc__law_bend.nd rfl (by first | exact Or.inl rfl | exact Or.inr rfl) (de_split (de_ix ix_seq od_ix (dv 6) (dv 8) (fun _ _ => rfl)) (da_cons (de_str) (da_nil))))
    (dss_cons (ds_set (i := 4) sc__law_bend.nd rfl (by first | exact Or.inl rfl | exact Or.inr rfl) (de_calIO c__law_pick htb tk (Room.mono hr (by decide)) (by rfl) (pv 0) (da_cons (de_cb cr_lens cd_len (by rfl) B.b_len boot_len (da_cons (dv 3) (da_nil))) (da_nil))))
    (dss_cons (ds_set (i := 5) sc__law_bend.nd rfl (by first | exact Or.inl rfl | exact Or.inr rfl) (de_lst (da_cons (de_str) (da_cons (de_str) (da_cons (de_str) (da_cons (de_str) (da_cons (de_str) (da_cons (de_str) (da_cons (de_str) (da_cons (de_str) (da_cons (de_str) (da_cons (de_str) (da_nil)))))))))))))
    (dss_cons (ds_set (i := 3) sc__law_bend.nd rfl (by first | exact Or.inl rfl | exact Or.inr rfl) (de_bin or_adds od_add (de_bin or_adds od_add (de_slice (dv 3) (do_no) (do_yes (dv 4))) (de_lst (da_cons (de_ix ix_seq od_ix (dv 5) (de_calIO c__law_pick htb tk (Room.mono hr (by decide)) (by rfl) (pv 0) (da_cons (de_int) (da_nil))) (fun _ _ => rfl)) (da_nil)))) (de_slice (dv 3) (do_yes (de_bin or_adds od_add (dv 4) (de_int))) (do_no))))
    (dss_one (ds_ret (de_join (x := .Constant .none 0 ⟨0,0,0,0⟩) (de_str) (da_cons (de_bin or_adds od_add (de_bin or_adds od_add (de_slice (dv 6) (do_no) (do_yes (dv 8))) (de_lst (da_cons (de_join (x := .Constant .none 0 ⟨0,0,0,0⟩) (de_str) (da_cons (dv 3) (da_nil))) (da_nil)))) (de_slice (dv 6) (do_yes (de_bin or_adds od_add (dv 8) (de_int))) (do_no))) (da_nil)))))))))))))))) (fun c ds hl _ => mkIO_eq c ds hl), fun c ds d => mkIO_len c ds d, fun c ds x => mkIO_exc c ds x⟩
/-! ### number_of -/
def s_number_of : Stmt := PySem.Challenge.pw_fewfigures_k09_lots_as_texts.main.body.getD 20 (.Pass ⟨0, 0, 0, 0⟩)
theorem sc_number_of : FnScope ["word"] ["word"] (defScope s_number_of) := ⟨rfl, rfl, rfl, by decide +kernel, rfl, by decide +kernel, by decide +kernel⟩
theorem c_number_of {P : Program} {w : World} {K : PySem.W.Frag} {mg : Str → Option Value} {base : Heap} {tb : List (Addr × Str)} {a : Addr} {fd : FuncData} (B : Bl mg) (g_FIGURES : ∃ u, mg "FIGURES" = some u ∧ L2.RelV (.str "0123456789") u) (Fn : Fun K "number_of" "number_of" s_number_of a fd) (hm : mg "number_of" = some (.ref a)) : Cal P w K mg base tb "number_of" 1 1 f_number_of :=
  ⟨a, fd, ["word"], hm, Fn.kp, Fn.binds (ps := ["word"]) fun _ _ _ _ _ _ us hl => match us, hl with | [_], _ => rfl, okF (k := 0) (body := b_number_of) Fn sc_number_of (fun cdv A outer s H E G hr hmg htb tk hp =>
    dss_one (ds_ret (de_if (dt_w (dw_and (dt_cmp (op_eqD (Room.units hr)) od_eq (de_cb cr_lens cd_len (by rfl) B.b_len boot_len (da_cons (dv 0) (da_nil))) (de_int) (nomark _)) (dw_and1 (dt_cmp op_in_str od_inS (dv 0) (de_gstr g_FIGURES (by rfl)) (by with_unfolding_all rfl))))) (de_index (de_gstr g_FIGURES (by rfl)) (da_cons (dv 0) (da_nil))) (de_non)))) (fun ds hl _ => mkF_eq ds hl), fun ds d => mkF_len ds d⟩
/-! ### read_lot -/
def s_read_lot : Stmt := PySem.Challenge.pw_fewfigures_k09_lots_as_texts.main.body.getD 22 (.Pass ⟨0, 0, 0, 0⟩)
theorem sc_read_lot : FnScope ["value", "rows", "leads", "lot", "line", "row", "word"] ["value"] (defScope s_read_lot) := ⟨rfl, rfl, rfl, by decide +kernel, rfl, by decide +kernel, by decide +kernel⟩
theorem c_read_lot {P : Program} {w : World} {K : PySem.W.Frag} {mg : Str → Option Value} {base : Heap} {tb : List (Addr × Str)} {a : Addr} {fd : FuncData} (B : Bl mg) (c_number_of : Cal P w K mg base tb "number_of" 1 1 f_number_of) (c_is_fit : Cal P w K mg base tb "is_fit" 1 2 f_is_fit) {C_InvalidText : Addr} {B_InvalidText n_InvalidText i_InvalidText : String} {bm_InvalidText : List Value} (X_InvalidText : Xc K mg "InvalidText" C_InvalidText B_InvalidText n_InvalidText i_InvalidText bm_InvalidText) (Fn : Fun K "read_lot" "read_lot" s_read_lot a fd) (hm : mg "read_lot" = some (.ref a)) : Cal P w K mg base tb "read_lot" 1 3 f_read_lot :=
  ⟨a, fd, ["value"], hm, Fn.kp, Fn.binds (ps := ["value"]) fun _ _ _ _ _ _ us hl => match us, hl with | [_], _ => rfl, okF (k := 2) (body := b_read_lot) Fn sc_read_lot (fun cdv A outer s H E G hr hmg htb tk hp =>
    dss_cons (ds_if (dt_not (dt_val (de_isi (by rfl) B.b_isinstance (dv 0) (by rfl) B.b_str boot_str))) (dss_one (ds_raise rfl hmg tk X_InvalidText.F X_InvalidText.q X_InvalidText.g X_InvalidText.k X_InvalidText.r (by rfl))) (dss_nil))
    (dss_cons (ds_setLc (i := 1) (own := [("line", 4)]) (ks := [4]) rfl sc_read_lot.nd rfl rfl (sw_true rfl rfl rfl rfl) (di_seq (de_split (dv 0) (da_cons (de_str) (da_nil)))) (blkOk_by (by rfl)) (by decide) (fun _ _ _ _ _ _ => dg_name sc_read_lot.nd rfl (by first | exact Or.inl rfl | exact Or.inr rfl)) (fun _ _ _ _ _ _ => dts_nil) (fun _ _ _ _ _ _ => de_split (dv 4) (da_cons (de_str) (da_nil))))
    (dss_cons (ds_if (dt_w (dw_or (dt_cmp (op_neD (Room.units hr)) od_ne (de_ix ix_seq od_ix (de_ix ix_seq od_ix (dv 1) (de_int) (fun _ _ => rfl)) (de_int) (fun _ _ => rfl)) (de_str) (nomark _)) (dw_or (dt_cmp (op_neD (Room.units hr)) od_ne (de_cb cr_lens cd_len (by rfl) B.b_len boot_len (da_cons (de_ix ix_seq od_ix (dv 1) (de_int) (fun _ _ => rfl)) (da_nil))) (de_int) (nomark _)) (dw_or1 (dt_not (dt_val (de_cb (cr_all rfl) cd_all (by rfl) B.b_all boot_all (da_cons (de_lc (own := [("row", 5)]) (ks := [5]) rfl sc_read_lot.nd (di_seq (de_slice (dv 1) (do_yes (de_int)) (do_no))) (blkOk_by (by rfl)) (by decide) (fun _ _ _ _ _ _ => dg_name sc_read_lot.nd rfl (by first | exact Or.inl rfl | exact Or.inr rfl)) (fun _ _ _ _ _ _ => dts_nil) (fun _ _ _ _ _ _ => de_cmp op_in_seq od_in (de_ix ix_seq od_ix (dv 5) (de_int) (fun _ _ => rfl)) (de_tup (da_cons (de_str) (da_cons (de_str) (da_nil)))) (by with_unfolding_all rfl))) (da_nil))))))))) (dss_one (ds_raise rfl hmg tk X_InvalidText.F X_InvalidText.q X_InvalidText.g X_InvalidText.k X_InvalidText.r (by rfl))) (dss_nil))
    (dss_cons (ds_set (i := 2) sc_read_lot.nd rfl (by first | exact Or.inl rfl | exact Or.inr rfl) (de_cty call_tuple_of cd_tuple (by rfl) B.b_tuple boot_tuple (da_cons (de_lc (own := [("row", 5)]) (ks := [5]) rfl sc_read_lot.nd (di_seq (de_slice (dv 1) (do_yes (de_int)) (do_no))) (blkOk_by (by rfl)) (by decide) (fun _ _ _ _ _ _ => dg_name sc_read_lot.nd rfl (by first | exact Or.inl rfl | exact Or.inr rfl)) (fun _ _ _ _ _ _ => dts_nil) (fun _ _ _ _ _ _ => de_cty call_tuple_of cd_tuple (by rfl) B.b_tuple boot_tuple (da_cons (de_lc (own := [("word", 6)]) (ks := [6]) rfl sc_read_lot.nd (di_seq (de_slice (dv 5) (do_yes (de_int)) (do_no))) (blkOk_by (by rfl)) (by decide) (fun _ _ _ _ _ _ => dg_name sc_read_lot.nd rfl (by first | exact Or.inl rfl | exact Or.inr rfl)) (fun _ _ _ _ _ _ => dts_nil) (fun _ _ _ _ _ _ => de_cal c_number_of htb hmg takes0N (Room.mono hr (by first | decide | omega)) (by rfl) (da_cons (dv 6) (da_nil)))) (da_nil)))) (da_nil))))
    (dss_cons (ds_set (i := 3) sc_read_lot.nd rfl (by first | exact Or.inl rfl | exact Or.inr rfl) (de_tup (da_cons (de_cal c_number_of htb hmg tk (Room.mono hr (by first | decide | omega)) (by rfl) (da_cons (de_ix ix_seq od_ix (de_ix ix_seq od_ix (dv 1) (de_int) (fun _ _ => rfl)) (de_int) (fun _ _ => rfl)) (da_nil))) (da_cons (dv 2) (da_cons (de_cty call_tuple_of cd_tuple (by rfl) B.b_tuple boot_tuple (da_cons (de_lc (own := [("row", 5)]) (ks := [5]) rfl sc_read_lot.nd (di_seq (de_slice (dv 1) (do_yes (de_int)) (do_no))) (blkOk_by (by rfl)) (by decide) (fun _ _ _ _ _ _ => dg_name sc_read_lot.nd rfl (by first | exact Or.inl rfl | exact Or.inr rfl)) (fun _ _ _ _ _ _ => dts_nil) (fun _ _ _ _ _ _ => de_cmp (op_eqD (Room.units hr)) od_eq (de_ix ix_seq od_ix (dv 5) (de_int) (fun _ _ => rfl)) (de_str) (nomark _))) (da_nil))) (da_nil))))))
    (dss_cons (ds_if (dt_not (dt_val (de_cal c_is_fit htb hmg tk (Room.mono hr (by first | decide | omega)) (by rfl) (da_cons (dv 3) (da_nil))))) (dss_one (ds_raise rfl hmg tk X_InvalidText.F X_InvalidText.q X_InvalidText.g X_InvalidText.k X_InvalidText.r (by rfl))) (dss_nil))
    (dss_one (ds_ret (dv 3))))))))) (fun ds hl _ => mkF_eq ds hl), fun ds d => mkF_len ds d⟩
/-! ### is_lot -/
def s_is_lot : Stmt := PySem.Challenge.pw_fewfigures_k09_lots_as_texts.main.body.getD 16 (.Pass ⟨0, 0, 0, 0⟩)
theorem sc_is_lot : FnScope ["value"] ["value"] (defScope s_is_lot) := ⟨rfl, rfl, rfl, by decide +kernel, rfl, by decide +kernel, by decide +kernel⟩
theorem c_is_lot {P : Program} {w : World} {K : PySem.W.Frag} {mg : Str → Option Value} {base : Heap} {tb : List (Addr × Str)} {a : Addr} {fd : FuncData} (B : Bl mg) (c_is_fit : Cal P w K mg base tb "is_fit" 1 2 f_is_fit) (Fn : Fun K "is_lot" "is_lot" s_is_lot a fd) (hm : mg "is_lot" = some (.ref a)) : Cal P w K mg base tb "is_lot" 1 3 f_is_lot :=
  ⟨a, fd, ["value"], hm, Fn.kp, Fn.binds (ps := ["value"]) fun _ _ _ _ _ _ us hl => match us, hl with | [_], _ => rfl, okF (k := 2) (body := b_is_lot) Fn sc_is_lot (fun cdv A outer s H E G hr hmg htb tk hp =>
    dss_one (ds_ret (de_cal c_is_fit htb hmg tk (Room.mono hr (by first | decide | omega)) (by rfl) (da_cons (dv 0) (da_nil))))) (fun ds hl _ => mkF_eq ds hl), fun ds d => mkF_len ds d⟩
/-! ### _law_fixed -/
def s__law_fixed : Stmt := PySem.Challenge.pw_fewfigures_k09_lots_as_texts.main.body.getD 28 (.Pass ⟨0, 0, 0, 0⟩)
theorem sc__law_fixed : FnScope ["base", "rows", "good", "found", "here", "turn", "ring"] ["base", "rows", "good"] (defScope s__law_fixed) := ⟨rfl, rfl, rfl, by decide +kernel, rfl, by decide +kernel, by decide +kernel⟩
theorem c__law_fixed {P : Program} {w : World} {K : PySem.W.Frag} {mg : Str → Option Value} {base : Heap} {tb : List (Addr × Str)} {a : Addr} {fd : FuncData} (B : Bl mg) (Fn : Fun K "_law_fixed" "_law_fixed" s__law_fixed a fd) (hm : mg "_law_fixed" = some (.ref a)) : Cal P w K mg base tb "_law_fixed" 3 1 f__law_fixed :=
  ⟨a, fd, ["base", "rows", "good"], hm, Fn.kp, Fn.binds (ps := ["base", "rows", "good"]) fun _ _ _ _ _ _ us hl => match us, hl with | [_, _, _], _ => rfl, okF (k := 0) (body := b__law_fixed) Fn sc__law_fixed (fun cdv A outer s H E G hr hmg htb tk hp =>
    dss_cons (ds_set (i := 3) sc__law_fixed.nd rfl (by first | exact Or.inl rfl | exact Or.inr rfl) (de_lst (da_nil)))
    (dss_cons (ds_for hp rfl (di_range1 (by rfl) B.b_range (da_cons (de_cb cr_lens cd_len (by rfl) B.b_len boot_len (da_cons (dv 1) (da_nil))) (da_nil)) (fun ls ds ls' q => aCons_len aNil_len ls ds ls' q)) (dg_name sc__law_fixed.nd rfl (by first | exact Or.inl rfl | exact Or.inr rfl)) (dss_cons (ds_for hp rfl (di_range1 (by rfl) B.b_range (da_cons (de_cb cr_lens cd_len (by rfl) B.b_len boot_len (da_cons (dv 1) (da_nil))) (da_nil)) (fun ls ds ls' q => aCons_len aNil_len ls ds ls' q)) (dg_name sc__law_fixed.nd rfl (by first | exact Or.inl rfl | exact Or.inr rfl)) (dss_one (ds_set (i := 4) sc__law_fixed.nd rfl (by first | exact Or.inl rfl | exact Or.inr rfl) (de_ix ix_seq od_ix (de_ix ix_seq od_ix (dv 1) (dv 4) (fun _ _ => rfl)) (de_int) (fun _ _ => rfl)))))
    (dss_cons (ds_set (i := 6) sc__law_fixed.nd rfl (by first | exact Or.inl rfl | exact Or.inr rfl) (de_lst (da_cons (dv 4) (da_nil))))
    (dss_cons (ds_for hp rfl (di_range1 (by rfl) B.b_range (da_cons (de_cb cr_lens cd_len (by rfl) B.b_len boot_len (da_cons (dv 1) (da_nil))) (da_nil)) (fun ls ds ls' q => aCons_len aNil_len ls ds ls' q)) (dg_name sc__law_fixed.nd rfl (by first | exact Or.inl rfl | exact Or.inr rfl)) (dss_one (ds_expr (de_append (pv 6) (de_ix ix_seq od_ix (de_ix ix_seq od_ix (dv 1) (de_ix ix_seq od_ix (dv 6) (de_un un_neg ud_neg (de_int)) (fun _ _ => rfl)) (fun _ _ => rfl)) (de_int) (fun _ _ => rfl)) (pe_bm PySem.F.plainAttrs_list PySem.F.slot_list_append PySem.F.type_list_append mt_append (pv 6) (pa_cons (de_ix ix_seq od_ix (de_ix ix_seq od_ix (dv 1) (de_ix ix_seq od_ix (dv 6) (de_un un_neg ud_neg (de_int)) (fun _ _ => rfl)) (fun _ _ => rfl)) (de_int) (fun _ _ => rfl)) pa_nil))))))
    (dss_one (ds_expr (de_append (pv 3) (de_ix ix_seq od_ix (dv 2) (de_cb (cr_min rfl) cd_min (by rfl) B.b_min boot_min (da_cons (dv 6) (da_nil))) (fun _ _ => rfl)) (pe_bm PySem.F.plainAttrs_list PySem.F.slot_list_append PySem.F.type_list_append mt_append (pv 3) (pa_cons (de_ix ix_seq od_ix (dv 2) (de_cb (cr_min rfl) cd_min (by rfl) B.b_min boot_min (da_cons (dv 6) (da_nil))) (fun _ _ => rfl)) pa_nil)))))))))
    (dss_one (ds_ret (de_tup (da_cons (dv 0) (da_cons (de_cty call_tuple_of cd_tuple (by rfl) B.b_tuple boot_tuple (da_cons (dv 1) (da_nil))) (da_cons (de_cty call_tuple_of cd_tuple (by rfl) B.b_tuple boot_tuple (da_cons (dv 3) (da_nil))) (da_nil))))))))) (fun ds hl _ => mkF_eq ds hl), fun ds d => mkF_len ds d⟩
/-! ### _law_lot -/
def s__law_lot : Stmt := PySem.Challenge.pw_fewfigures_k09_lots_as_texts.main.body.getD 29 (.Pass ⟨0, 0, 0, 0⟩)
theorem sc__law_lot : FnScope ["spring", "base", "most", "many", "rows", "here", "row", "figure"] ["spring", "base", "most"] (defScope s__law_lot) := ⟨rfl, rfl, rfl, by decide +kernel, rfl, by decide +kernel, by decide +kernel⟩
theorem c__law_lot {P : Program} {w : World} {K : PySem.W.Frag} {mg : Str → Option Value} {base : Heap} {tb : List (Addr × Str)} {a : Addr} {fd : FuncData} (B : Bl mg) (c__law_pick : CalIO P w K mg base tb "_law_pick" 1 1 f__law_pick) (c__law_fixed : Cal P w K mg base tb "_law_fixed" 3 1 f__law_fixed) (Fn : Fun K "_law_lot" "_law_lot" s__law_lot a fd) (hm : mg "_law_lot" = some (.ref a)) : CalIO P w K mg base tb "_law_lot" 2 2 f__law_lot :=
  ⟨a, fd, ["spring", "base", "most"], hm, Fn.kp, Fn.binds (ps := ["spring", "base", "most"]) fun _ _ _ _ _ _ us hl => match us, hl with | [_, _, _], _ => rfl, okIO (n := 2) (k := 1) (body := b__law_lot) Fn sc__law_lot rfl (fun cdv A outer s H E G hr hmg htb tk hp =>
    dss_cons (ds_if (dt_cmp (op_eqD (Room.units hr)) od_eq (de_calIO c__law_pick htb tk (Room.mono hr (by decide)) (by rfl) (pv 0) (da_cons (de_int) (da_nil))) (de_int) (nomark _)) (dss_cons (ds_set (i := 6) sc__law_lot.nd rfl (by first | exact Or.inl rfl | exact Or.inr rfl) (de_bin or_adds od_add (de_lst (da_cons (de_int) (da_nil))) (de_lc (own := [("figure", 7)]) (ks := [7]) rfl sc__law_lot.nd (di_range1 (by rfl) B.b_range (da_cons (de_bin op_sub od_sub (dv 1) (de_int)) (da_nil)) (fun ls ds ls' q => aCons_len aNil_len ls ds ls' q)) (blkOk_by (by rfl)) (by decide) (fun _ _ _ _ _ _ => dg_name sc__law_lot.nd rfl (by first | exact Or.inl rfl | exact Or.inr rfl)) (fun _ _ _ _ _ _ => dts_nil) (fun _ _ _ _ _ _ => de_cty call_int1 cd_int (by rfl) B.b_int boot_int (da_cons (de_cmp op_gt od_cmp (de_calIO c__law_pick htb takes0N (Room.mono hr (by decide)) (by rfl) (pv 0) (da_cons (de_int) (da_nil))) (de_int) (nomark _)) (da_nil))))))
    (dss_one (ds_ret (de_tup (da_cons (dv 1) (da_cons (de_tup (da_cons (de_cty call_tuple_of cd_tuple (by rfl) B.b_tuple boot_tuple (da_cons (dv 6) (da_nil))) (da_cons (de_bin or_muls od_mul (de_tup (da_cons (de_int) (da_nil))) (dv 1)) (da_nil)))) (da_cons (de_tup (da_cons (de_bl) (da_cons (de_bl) (da_nil)))) (da_nil)))))))) (dss_nil))
    (dss_cons (ds_set (i := 3) sc__law_lot.nd rfl (by first | exact Or.inl rfl | exact Or.inr rfl) (de_bin or_adds od_add (de_int) (de_calIO c__law_pick htb tk (Room.mono hr (by decide)) (by rfl) (pv 0) (da_cons (dv 2) (da_nil)))))
    (dss_cons (ds_set (i := 4) sc__law_lot.nd rfl (by first | exact Or.inl rfl | exact Or.inr rfl) (de_lst (da_nil)))
    (dss_cons (ds_for hp rfl (di_range1 (by rfl) B.b_range (da_cons (dv 3) (da_nil)) (fun ls ds ls' q => aCons_len aNil_len ls ds ls' q)) (dg_name sc__law_lot.nd rfl (by first | exact Or.inl rfl | exact Or.inr rfl)) (dss_cons (ds_setLc (i := 6) (own := [("figure", 7)]) (ks := [7]) rfl sc__law_lot.nd rfl rfl (sw_true rfl rfl rfl rfl) (di_range1 (by rfl) B.b_range (da_cons (dv 1) (da_nil)) (fun ls ds ls' q => aCons_len aNil_len ls ds ls' q)) (blkOk_by (by rfl)) (by decide) (fun _ _ _ _ _ _ => dg_name sc__law_lot.nd rfl (by first | exact Or.inl rfl | exact Or.inr rfl)) (fun _ _ _ _ _ _ => dts_nil) (fun _ _ _ _ _ _ => de_calIO c__law_pick htb takes0N (Room.mono hr (by decide)) (by rfl) (pv 0) (da_cons (dv 3) (da_nil))))
    (dss_cons (ds_if (dt_cmp (op_eqD (Room.units hr)) od_eq (de_calIO c__law_pick htb tk (Room.mono hr (by decide)) (by rfl) (pv 0) (da_cons (de_int) (da_nil))) (de_int) (nomark _)) (dss_one (ds_setitem (i := 6) (pv 6) (de_int) (dv 5) (ps_asg (dv 5) (pg_sub (pv 6) (de_int) set_list)))) (dss_nil))
    (dss_one (ds_expr (de_append (pv 4) (de_cty call_tuple_of cd_tuple (by rfl) B.b_tuple boot_tuple (da_cons (dv 6) (da_nil))) (pe_bm PySem.F.plainAttrs_list PySem.F.slot_list_append PySem.F.type_list_append mt_append (pv 4) (pa_cons (de_cty call_tuple_of cd_tuple (by rfl) B.b_tuple boot_tuple (da_cons (dv 6) (da_nil))) pa_nil))))))))
    (dss_one (ds_ret (de_cal c__law_fixed htb hmg tk (Room.mono hr (by first | decide | omega)) (by rfl) (da_cons (dv 1) (da_cons (dv 4) (da_cons (de_lc (own := [("here", 5)]) (ks := [5]) rfl sc__law_lot.nd (di_range1 (by rfl) B.b_range (da_cons (dv 3) (da_nil)) (fun ls ds ls' q => aCons_len aNil_len ls ds ls' q)) (blkOk_by (by rfl)) (by decide) (fun _ _ _ _ _ _ => dg_name sc__law_lot.nd rfl (by first | exact Or.inl rfl | exact Or.inr rfl)) (fun _ _ _ _ _ _ => dts_nil) (fun _ _ _ _ _ _ => de_cmp op_gt od_cmp (de_calIO c__law_pick htb takes0N (Room.mono hr (by decide)) (by rfl) (pv 0) (da_cons (de_int) (da_nil))) (de_int) (nomark _))) (da_nil))))))))))) (fun c ds hl _ => mkIO_eq c ds hl), fun c ds d => mkIO_len c ds d, fun c ds x => mkIO_exc c ds x⟩
/-! ### _law_taken -/
def s__law_taken : Stmt := PySem.Challenge.pw_fewfigures_k09_lots_as_texts.main.body.getD 36 (.Pass ⟨0, 0, 0, 0⟩)
theorem sc__law_taken : FnScope ["text", "lines", "line", "lot", "rows", "good", "words", "word"] ["text"] (defScope s__law_taken) := ⟨rfl, rfl, rfl, by decide +kernel, rfl, by decide +kernel, by decide +kernel⟩
theorem c__law_taken {P : Program} {w : World} {K : PySem.W.Frag} {mg : Str → Option Value} {base : Heap} {tb : List (Addr × Str)} {a : Addr} {fd : FuncData} (B : Bl mg) (c_is_lot : Cal P w K mg base tb "is_lot" 1 3 f_is_lot) (Fn : Fun K "_law_taken" "_law_taken" s__law_taken a fd) (hm : mg "_law_taken" = some (.ref a)) : Cal P w K mg base tb "_law_taken" 1 4 f__law_taken :=
  ⟨a, fd, ["text"], hm, Fn.kp, Fn.binds (ps := ["text"]) fun _ _ _ _ _ _ us hl => match us, hl with | [_], _ => rfl, okF (k := 3) (body := b__law_taken) Fn sc__law_taken (fun cdv A outer s H E G hr hmg htb tk hp =>
    dss_cons (ds_set (i := 1) sc__law_taken.nd rfl (by first | exact Or.inl rfl | exact Or.inr rfl) (de_split (dv 0) (da_cons (de_str) (da_nil))))
    (dss_cons (ds_if (dt_cmp op_notIn_seq od_in (de_ix ix_seq od_ix (dv 1) (de_int) (fun _ _ => rfl)) (de_lst (da_cons (de_str) (da_cons (de_str) (da_cons (de_str) (da_nil))))) (by with_unfolding_all rfl)) (dss_one (ds_ret (de_non))) (dss_nil))
    (dss_cons (ds_asg (de_tup (da_cons (de_tup (da_nil)) (da_cons (de_tup (da_nil)) (da_nil)))) (dg_tup rfl (dgs_cons (dg_name sc__law_taken.nd rfl (by first | exact Or.inl rfl | exact Or.inr rfl)) (dgs_cons (dg_name sc__law_taken.nd rfl (by first | exact Or.inl rfl | exact Or.inr rfl)) (dgs_nil)))))
    (dss_cons (ds_for hp rfl (di_seq (de_slice (dv 1) (do_yes (de_int)) (do_no))) (dg_name sc__law_taken.nd rfl (by first | exact Or.inl rfl | exact Or.inr rfl)) (dss_cons (ds_set (i := 6) sc__law_taken.nd rfl (by first | exact Or.inl rfl | exact Or.inr rfl) (de_split (dv 2) (da_cons (de_str) (da_nil))))
    (dss_cons (ds_if (dt_w (dw_or (dt_cmp op_notIn_seq od_in (de_ix ix_seq od_ix (dv 6) (de_int) (fun _ _ => rfl)) (de_lst (da_cons (de_str) (da_cons (de_str) (da_nil)))) (by with_unfolding_all rfl)) (dw_or1 (dt_cmp (op_neD (Room.units hr)) od_ne (de_lc (own := [("word", 7)]) (ks := [7]) rfl sc__law_taken.nd (di_seq (de_slice (dv 6) (do_yes (de_int)) (do_no))) (blkOk_by (by rfl)) (by decide) (fun _ _ _ _ _ _ => dg_name sc__law_taken.nd rfl (by first | exact Or.inl rfl | exact Or.inr rfl)) (fun _ _ _ _ _ _ => dts_one (dt_cmp op_notIn_seq od_in (dv 7) (de_lst (da_cons (de_str) (da_cons (de_str) (da_cons (de_str) (da_cons (de_str) (da_nil)))))) (by with_unfolding_all rfl))) (fun _ _ _ _ _ _ => dv 7)) (de_lst (da_nil)) (nomark _))))) (dss_one (ds_ret (de_non))) (dss_nil))
    (dss_cons (ds_set (i := 4) sc__law_taken.nd rfl (by first | exact Or.inl rfl | exact Or.inr rfl) (de_bin or_adds od_add (dv 4) (de_tup (da_cons (de_cty call_tuple_of cd_tuple (by rfl) B.b_tuple boot_tuple (da_cons (de_lc (own := [("word", 7)]) (ks := [7]) rfl sc__law_taken.nd (di_seq (de_slice (dv 6) (do_yes (de_int)) (do_no))) (blkOk_by (by rfl)) (by decide) (fun _ _ _ _ _ _ => dg_name sc__law_taken.nd rfl (by first | exact Or.inl rfl | exact Or.inr rfl)) (fun _ _ _ _ _ _ => dts_nil) (fun _ _ _ _ _ _ => de_cty call_int_str cd_intS (by rfl) B.b_int boot_int (da_cons (dv 7) (da_nil)))) (da_nil))) (da_nil)))))
    (dss_one (ds_set (i := 5) sc__law_taken.nd rfl (by first | exact Or.inl rfl | exact Or.inr rfl) (de_bin or_adds od_add (dv 5) (de_tup (da_cons (de_cmp (op_eqD (Room.units hr)) od_eq (de_ix ix_seq od_ix (dv 6) (de_int) (fun _ _ => rfl)) (de_str) (nomark _)) (da_nil))))))))))
    (dss_cons (ds_set (i := 3) sc__law_taken.nd rfl (by first | exact Or.inl rfl | exact Or.inr rfl) (de_tup (da_cons (de_cty call_int_str cd_intS (by rfl) B.b_int boot_int (da_cons (de_ix ix_seq od_ix (de_ix ix_seq od_ix (dv 1) (de_int) (fun _ _ => rfl)) (de_un un_neg ud_neg (de_int)) (fun _ _ => rfl)) (da_nil))) (da_cons (dv 4) (da_cons (dv 5) (da_nil))))))
    (dss_one (ds_ret (de_if (dt_val (de_cal c_is_lot htb hmg tk (Room.mono hr (by first | decide | omega)) (by rfl) (da_cons (dv 3) (da_nil)))) (dv 3) (de_non))))))))) (fun ds hl _ => mkF_eq ds hl), fun ds d => mkF_len ds d⟩
/-! ### _law_error_of -/
def s__law_error_of : Stmt := PySem.Challenge.pw_fewfigures_k09_lots_as_texts.main.body.getD 33 (.Pass ⟨0, 0, 0, 0⟩)
theorem sc__law_error_of : FnScope ["e", "some", "word", "good"] ["e"] (defScope s__law_error_of) := ⟨rfl, rfl, rfl, by decide +kernel, rfl, by decide +kernel, by decide +kernel⟩
noncomputable def b__law_error_of (a : Addr) (tbl : Addr → Option Bool) (k_InvalidLot k_InvalidNumber k_InvalidFigures k_InvalidSeen k_InvalidText k_Unlike k_NoMember k_NothingLeft : Addr) : MS := sq (sAsg (mLst (aCons (mTup (aCons (cst (.str "lot")) (aCons (cb (gIsE a tbl) (aCons (var 0) (aCons (cst (.ref k_InvalidLot)) (aNil)))) (aNil)))) (aNil))) (gN 1))
  (sq (sDrop (mApp 1 (mTup (aCons (cst (.str "number")) (aCons (cb (gIsE a tbl) (aCons (var 0) (aCons (cst (.ref k_InvalidNumber)) (aNil)))) (aNil))))))
  (sq (sDrop (mApp 1 (mTup (aCons (cst (.str "figures")) (aCons (cb (gIsE a tbl) (aCons (var 0) (aCons (cst (.ref k_InvalidFigures)) (aNil)))) (aNil))))))
  (sq (sDrop (mApp 1 (mTup (aCons (cst (.str "seen")) (aCons (cb (gIsE a tbl) (aCons (var 0) (aCons (cst (.ref k_InvalidSeen)) (aNil)))) (aNil))))))
  (sq (sDrop (mApp 1 (mTup (aCons (cst (.str "text")) (aCons (cb (gIsE a tbl) (aCons (var 0) (aCons (cst (.ref k_InvalidText)) (aNil)))) (aNil))))))
  (sq (sDrop (mApp 1 (mTup (aCons (cst (.str "unlike")) (aCons (cb (gIsE a tbl) (aCons (var 0) (aCons (cst (.ref k_Unlike)) (aNil)))) (aNil))))))
  (sq (sDrop (mApp 1 (mTup (aCons (cst (.str "none")) (aCons (cb (gIsE a tbl) (aCons (var 0) (aCons (cst (.ref k_NoMember)) (aNil)))) (aNil))))))
  (sq (sDrop (mApp 1 (mTup (aCons (cst (.str "left")) (aCons (cb (gIsE a tbl) (aCons (var 0) (aCons (cst (.ref k_NothingLeft)) (aNil)))) (aNil))))))
  (sRet (mBM "str" gJoin (cst (.str "+")) (aCons (mComp (iLst (var 1)) (gTup' 2 (gMore (gN 2) (gMore (gN 3) (gNone)))) (tst (var 3)) (var 2) [2, 3]) (aNil)))))))))))
theorem t__law_error_of {P : Program} {w : World} {K : PySem.W.Frag} {mg : Str → Option Value} {base : Heap} (B : Bl mg) {k_InvalidLot k_InvalidNumber k_InvalidFigures k_InvalidSeen k_InvalidText k_Unlike k_NoMember k_NothingLeft : Addr} (m_InvalidLot : mg "InvalidLot" = some (.ref k_InvalidLot)) (m_InvalidNumber : mg "InvalidNumber" = some (.ref k_InvalidNumber)) (m_InvalidFigures : mg "InvalidFigures" = some (.ref k_InvalidFigures)) (m_InvalidSeen : mg "InvalidSeen" = some (.ref k_InvalidSeen)) (m_InvalidText : mg "InvalidText" = some (.ref k_InvalidText)) (m_Unlike : mg "Unlike" = some (.ref k_Unlike)) (m_NoMember : mg "NoMember" = some (.ref k_NoMember)) (m_NothingLeft : mg "NothingLeft" = some (.ref k_NothingLeft)) {a C fE : Addr} {tbl : Addr → Option Bool} (ec : ExcC K C) (htbl : ∀ c b, tbl c = some b → PySem.W.kitOne K (.ref C) (.ref c) = some b) {oe : Obj} (cdv : Value) (A : Around) (outer : List Env) (s : Shared) (H : Hp) (G : Gh)
    (hk : HotE (L2H.cxH C8.CX0 P w K mg base ["e", "some", "word", "good"] "_law_error_of" (defScope s__law_error_of) fE cdv A outer s H C8.E0 (a, oe)) a C) : DSs (L2H.cxH C8.CX0 P w K mg base ["e", "some", "word", "good"] "_law_error_of" (defScope s__law_error_of) fE cdv A outer s H C8.E0 (a, oe)) G (defBody s__law_error_of) (b__law_error_of a tbl k_InvalidLot k_InvalidNumber k_InvalidFigures k_InvalidSeen k_InvalidText k_Unlike k_NoMember k_NothingLeft) :=
    dss_cons (ds_set (i := 1) sc__law_error_of.nd rfl (by first | exact Or.inl rfl | exact Or.inr rfl) (de_lst (da_cons (de_tup (da_cons (de_str) (da_cons (de_cb (call_isE2 hk.knows ec) (cd_isE htbl) (by rfl) B.b_isinstance boot_isinstance (da_cons (dv 0) (da_cons (de_glob (v := .ref k_InvalidLot) (u := .ref k_InvalidLot) (by rfl) m_InvalidLot rfl rfl) (da_nil)))) (da_nil)))) (da_nil))))
    (dss_cons (ds_expr (de_append (pv 1) (de_tup (da_cons (de_str) (da_cons (de_cb (call_isE2 hk.knows ec) (cd_isE htbl) (by rfl) B.b_isinstance boot_isinstance (da_cons (dv 0) (da_cons (de_glob (v := .ref k_InvalidNumber) (u := .ref k_InvalidNumber) (by rfl) m_InvalidNumber rfl rfl) (da_nil)))) (da_nil)))) (pe_bm PySem.F.plainAttrs_list PySem.F.slot_list_append PySem.F.type_list_append mt_append (pv 1) (pa_cons (de_tup (da_cons (de_str) (da_cons (de_cb (call_isE2 hk.knows ec) (cd_isE htbl) (by rfl) B.b_isinstance boot_isinstance (da_cons (dv 0) (da_cons (de_glob (v := .ref k_InvalidNumber) (u := .ref k_InvalidNumber) (by rfl) m_InvalidNumber rfl rfl) (da_nil)))) (da_nil)))) pa_nil))))
    (dss_cons (ds_expr (de_append (pv 1) (de_tup (da_cons (de_str) (da_cons (de_cb (call_isE2 hk.knows ec) (cd_isE htbl) (by rfl) B.b_isinstance boot_isinstance (da_cons (dv 0) (da_cons (de_glob (v := .ref k_InvalidFigures) (u := .ref k_InvalidFigures) (by rfl) m_InvalidFigures rfl rfl) (da_nil)))) (da_nil)))) (pe_bm PySem.F.plainAttrs_list PySem.F.slot_list_append PySem.F.type_list_append mt_append (pv 1) (pa_cons (de_tup (da_cons (de_str) (da_cons (de_cb (call_isE2 hk.knows ec) (cd_isE htbl) (by rfl) B.b_isinstance boot_isinstance (da_cons (dv 0) (da_cons (de_glob (v := .ref k_InvalidFigures) (u := .ref k_InvalidFigures) (by rfl) m_InvalidFigures rfl rfl) (da_nil)))) (da_nil)))) pa_nil))))
    (dss_cons (ds_expr (de_append (pv 1) (de_tup (da_cons (de_str) (da_cons (de_cb (call_isE2 hk.knows ec) (cd_isE htbl) (by rfl) B.b_isinstance boot_isinstance (da_cons (dv 0) (da_cons (de_glob (v := .ref k_InvalidSeen) (u := .ref k_InvalidSeen) (by rfl) m_InvalidSeen rfl rfl) (da_nil)))) (da_nil)))) (pe_bm PySem.F.plainAttrs_list PySem.F.slot_list_append PySem.F.type_list_append mt_append (pv 1) (pa_cons (de_tup (da_cons (de_str) (da_cons (de_cb (call_isE2 hk.knows ec) (cd_isE htbl) (by rfl) B.b_isinstance boot_isinstance (da_cons (dv 0) (da_cons (de_glob (v := .ref k_InvalidSeen) (u := .ref k_InvalidSeen) (by rfl) m_InvalidSeen rfl rfl) (da_nil)))) (da_nil)))) pa_nil))))
    (dss_cons (ds_expr (de_append (pv 1) (de_tup (da_cons (de_str) (da_cons (de_cb (call_isE2 hk.knows ec) (cd_isE htbl) (by rfl) B.b_isinstance boot_isinstance (da_cons (dv 0) (da_cons (de_glob (v := .ref k_InvalidText) (u := .ref k_InvalidText) (by rfl) m_InvalidText rfl rfl) (da_nil)))) (da_nil)))) (pe_bm PySem.F.plainAttrs_list PySem.F.slot_list_append PySem.F.type_list_append mt_append (pv 1) (pa_cons (de_tup (da_cons (de_str) (da_cons (de_cb (call_isE2 hk.knows ec) (cd_isE htbl) (by rfl) B.b_isinstance boot_isinstance (da_cons (dv 0) (da_cons (de_glob (v := .ref k_InvalidText) (u := .ref k_InvalidText) (by rfl) m_InvalidText rfl rfl) (da_nil)))) (da_nil)))) pa_nil))))
    (dss_cons (ds_expr (de_append (pv 1) (de_tup (da_cons (de_str) (da_cons (de_cb (call_isE2 hk.knows ec) (cd_isE htbl) (by rfl) B.b_isinstance boot_isinstance (da_cons (dv 0) (da_cons (de_glob (v := .ref k_Unlike) (u := .ref k_Unlike) (by rfl) m_Unlike rfl rfl) (da_nil)))) (da_nil)))) (pe_bm PySem.F.plainAttrs_list PySem.F.slot_list_append PySem.F.type_list_append mt_append (pv 1) (pa_cons (de_tup (da_cons (de_str) (da_cons (de_cb (call_isE2 hk.knows ec) (cd_isE htbl) (by rfl) B.b_isinstance boot_isinstance (da_cons (dv 0) (da_cons (de_glob (v := .ref k_Unlike) (u := .ref k_Unlike) (by rfl) m_Unlike rfl rfl) (da_nil)))) (da_nil)))) pa_nil))))
    (dss_cons (ds_expr (de_append (pv 1) (de_tup (da_cons (de_str) (da_cons (de_cb (call_isE2 hk.knows ec) (cd_isE htbl) (by rfl) B.b_isinstance boot_isinstance (da_cons (dv 0) (da_cons (de_glob (v := .ref k_NoMember) (u := .ref k_NoMember) (by rfl) m_NoMember rfl rfl) (da_nil)))) (da_nil)))) (pe_bm PySem.F.plainAttrs_list PySem.F.slot_list_append PySem.F.type_list_append mt_append (pv 1) (pa_cons (de_tup (da_cons (de_str) (da_cons (de_cb (call_isE2 hk.knows ec) (cd_isE htbl) (by rfl) B.b_isinstance boot_isinstance (da_cons (dv 0) (da_cons (de_glob (v := .ref k_NoMember) (u := .ref k_NoMember) (by rfl) m_NoMember rfl rfl) (da_nil)))) (da_nil)))) pa_nil))))
    (dss_cons (ds_expr (de_append (pv 1) (de_tup (da_cons (de_str) (da_cons (de_cb (call_isE2 hk.knows ec) (cd_isE htbl) (by rfl) B.b_isinstance boot_isinstance (da_cons (dv 0) (da_cons (de_glob (v := .ref k_NothingLeft) (u := .ref k_NothingLeft) (by rfl) m_NothingLeft rfl rfl) (da_nil)))) (da_nil)))) (pe_bm PySem.F.plainAttrs_list PySem.F.slot_list_append PySem.F.type_list_append mt_append (pv 1) (pa_cons (de_tup (da_cons (de_str) (da_cons (de_cb (call_isE2 hk.knows ec) (cd_isE htbl) (by rfl) B.b_isinstance boot_isinstance (da_cons (dv 0) (da_cons (de_glob (v := .ref k_NothingLeft) (u := .ref k_NothingLeft) (by rfl) m_NothingLeft rfl rfl) (da_nil)))) (da_nil)))) pa_nil))))
    (dss_one (ds_ret (de_join (x := .Constant .none 0 ⟨0,0,0,0⟩) (de_str) (da_cons (de_lcH (own := [("word", 2), ("good", 3)]) (ks := [2, 3]) hk sc__law_error_of.nd (dv 1) (blkOk_by (by rfl)) (by decide) (fun _ _ _ _ _ _ hk2 => dg_tupH hk2 (dgs_cons (dg_name sc__law_error_of.nd rfl (by first | exact Or.inl rfl | exact Or.inr rfl)) (dgs_cons (dg_name sc__law_error_of.nd rfl (by first | exact Or.inl rfl | exact Or.inr rfl)) (dgs_nil)))) (fun _ _ _ _ _ _ hk2 => dts_one (dt_val (dv 3))) (fun _ _ _ _ _ _ hk2 => dv 2)) (da_nil))))))))))))
/-! ### _law_came -/
def s__law_came : Stmt := PySem.Challenge.pw_fewfigures_k09_lots_as_texts.main.body.getD 34 (.Pass ⟨0, 0, 0, 0⟩)
theorem sc__law_came : FnScope ["call_so", "e"] ["call_so"] (defScope s__law_came) := ⟨rfl, rfl, rfl, by decide +kernel, rfl, by decide +kernel, by decide +kernel⟩
end DLaw

end W09
section W09L
set_option Elab.async false
set_option linter.all false
set_option autoImplicit false
set_option maxRecDepth 100000
set_option maxHeartbeats 4000000
namespace DLaw
open PySem PySem.Spec PyProof.Rows L2 LamX RZ DL DC
/-! ### law -/
def s_law : Stmt := PySem.Challenge.pw_fewfigures_k09_lots_as_texts.main.body.getD 38 (.Pass ⟨0, 0, 0, 0⟩)
theorem sc_law : FnScope ["script", "at", "odd", "spring", "lot", "text", "turn", "bent", "again", "due"] ["script"] (defScope s_law) := ⟨rfl, rfl, rfl, by decide +kernel, rfl, by decide +kernel, by decide +kernel⟩
noncomputable def b_law (errOf : Str → Option Str) (i : Addr × List Int) : MS := sq (sFor (iRange (aCons (bin gAdd (cb gMin2 (aCons (cb (gLenS i.1 i.2.length) (aCons (var 0) (aNil))) (aCons (cst (.int 6)) (aNil)))) (cst (.int 1))) (aNil))) (gN 1) (sq (sAsg (mCall (f__law_spring i) (aCons (var 0) (aCons (var 1) (aNil)))) (gN 3))
  (sq (sAsg (mIO f__law_lot 3 (aCons (bin gAdd (cst (.int 2)) (mIO f__law_pick 3 (aCons (cst (.int 3)) (aNil)))) (aCons (cst (.int 4)) (aNil)))) (gN 4))
  (sq (sAsg (mCall f__law_text (aCons (var 4) (aNil))) (gN 5))
  (sq (sIf (mNot (tst (mLook (f__law_twins l__law_twins) (aCons (mLst (aCons (mCall f_lot_text (aCons (var 4) (aNil))) (aCons (mCall f_read_lot (aCons (var 5) (aNil))) (aNil)))) (aCons (mLst (aCons (var 5) (aCons (var 4) (aNil)))) (aNil)))))) (sRet (cst (.bl false))) (nop))
  (sFor (iRange (aCons (cst (.int 20)) (aNil))) (gN 6) (sq (sAsg (mIO f__law_bend 3 (aCons (var 5) (aNil))) (gN 7))
  (sq (sFor (iRange (aCons (mIO f__law_pick 3 (aCons (cst (.int 3)) (aNil))) (aNil))) (gN 8) (sAsg (mIO f__law_bend 3 (aCons (var 7) (aNil))) (gN 7)))
  (sq (sAsg (mCall f__law_taken (aCons (var 7) (aNil))) (gN 9))
  (sq (sAsg (ite (tst (bin (gIsN false) (var 9) (cst .non))) (cst (.str "text")) (mLst (aCons (var 9) (aNil)))) (gN 9))
  (sIf (mNot (tst (mLook (f__law_twins l__law_twins) (aCons (mCame errOf (mCall f_read_lot (aCons (var 7) (aNil)))) (aCons (var 9) (aNil)))))) (sRet (cst (.bl false))) (nop))))))))))))
  (sq (sFor (iSeq (mLst (aCons (cst .non) (aCons (cst (.int 4)) (aCons (cst (.bl true)) (aCons (mTup (aCons (cst (.str "base 2")) (aNil))) (aCons (cst (.str "")) (aCons (cst (.str "base 2")) (aCons (cst (.str "base 2\nyes 0 0\n")) (aCons (cst (.str "base 2\nyes 0 00")) (aCons (cst (.str "base 2\nyes 0  0")) (aNil)))))))))))) (gN 2) (sIf (tst (bin gNe (mCame errOf (mCall f_read_lot (aCons (var 2) (aNil)))) (cst (.str "text")))) (sRet (cst (.bl false))) (nop)))
  (sRet (bin gEq (mCall f_read_lot (aCons (cst (.str "base 2\nyes 0 0")) (aNil))) (mTup (aCons (cst (.int 2)) (aCons (mTup (aCons (mTup (aCons (cst (.int 0)) (aCons (cst (.int 0)) (aNil)))) (aNil))) (aCons (mTup (aCons (cst (.bl true)) (aNil))) (aNil))))))))
noncomputable def f_law (errOf : Str → Option Str) (i : Addr × List Int) : FD := mkF 1 10 (b_law errOf i)
theorem c_law {P : Program} {w : World} {K : PySem.W.Frag} {mg : Str → Option Value} {base : Heap} {tb : List (Addr × Str)} {a : Addr} {fd : FuncData} {c Pt : Addr} {errOf : Str → Option Str} (B : Bl mg) (c__law_spring : CalX P w K mg base tb "_law_spring" 2 1 (fun (i : Addr × List Int) H => SqL K H i.1 (i.2.map V.int)) f__law_spring) (c__law_pick : CalIO P w K mg base tb "_law_pick" 1 1 f__law_pick) (c__law_lot : CalIO P w K mg base tb "_law_lot" 2 2 f__law_lot) (c__law_text : Cal P w K mg base tb "_law_text" 1 1 f__law_text) (c_lot_text : Cal P w K mg base tb "lot_text" 1 4 f_lot_text) (c_read_lot : Cal P w K mg base tb "read_lot" 1 3 f_read_lot) (c__law_twins : Cal P w K mg base tb "_law_twins" 2 13 (f__law_twins l__law_twins)) (c__law_bend : CalIO P w K mg base tb "_law_bend" 1 2 f__law_bend) (c__law_taken : Cal P w K mg base tb "_law_taken" 1 4 f__law_taken) (O : CameOk P w K mg base tb "_law_came" 13 errOf) (TB : TabB base mg c Pt) (hT1 : (Pt, (("law" : Str) ++ ".<locals>.") ++ "<lambda>") ∈ tb) (hT2 : ∀ p ∈ tb, p.1 = Pt → p.2 = (("law" : Str) ++ ".<locals>.") ++ "<lambda>") (Fn : FunQ K "law" "law" s_law a fd fun v => v = .ref c) :
    FnOk P w K mg base (L2N.CX P w) 16 a fd ["script"] (SpX mg tb 1 (fun (i : Addr × List Int) H => SqL K H i.1 (i.2.map V.int)) (f_law errOf)) :=
  okX (k := 15) (body := b_law errOf) Fn sc_law (fun i cdv A outer s H E G hcode hr hmg htb h0 hI hpre0 tk hp => by
    subst htb
    have htb : G.tb = G.tb := rfl
    have hs : Steady' G fun H => SqL K H i.1 (i.2.map V.int) := fun H kp => sq_keep (by rw [h0]; exact hpre0) hI kp
    have hpre : ∀ H, Keep G H → SqL K H i.1 (i.2.map V.int) := hs
    exact dss_cons (ds_for hp rfl (di_range1 (by rfl) B.b_range (da_cons (de_bin or_adds od_add (de_cb (call_min2 rfl) cd_min2 (by rfl) B.b_min boot_min (da_cons (de_lenS hs (by rfl) B.b_len (da_cons (dv 0) (da_nil))) (da_cons (de_int) (da_nil)))) (de_int)) (da_nil)) (fun ls ds ls' q => aCons_len aNil_len ls ds ls' q)) (dg_name sc_law.nd rfl (by first | exact Or.inl rfl | exact Or.inr rfl)) (dss_cons (ds_set (i := 3) sc_law.nd rfl (by first | exact Or.inl rfl | exact Or.inr rfl) (de_calX c__law_spring i hpre htb hmg tk (Room.mono hr (by decide)) (by rfl) (da_cons (dv 0) (da_cons (dv 1) (da_nil)))))
        (dss_cons (ds_set (i := 4) sc_law.nd rfl (by first | exact Or.inl rfl | exact Or.inr rfl) (de_calIO c__law_lot htb tk (Room.mono hr (by decide)) (by rfl) (pv 3) (da_cons (de_bin or_adds od_add (de_int) (de_calIO c__law_pick htb tk (Room.mono hr (by decide)) (by rfl) (pv 3) (da_cons (de_int) (da_nil)))) (da_cons (de_int) (da_nil)))))
        (dss_cons (ds_set (i := 5) sc_law.nd rfl (by first | exact Or.inl rfl | exact Or.inr rfl) (de_cal c__law_text htb hmg tk (Room.mono hr (by first | decide | omega)) (by rfl) (da_cons (dv 4) (da_nil))))
        (dss_cons (ds_if (dt_not (dt_val (de_calB c__law_twins htb hmg tk (Room.mono hr (by first | decide | omega)) (by rfl) (da_cons (de_lst (da_cons (de_cal c_lot_text htb hmg tk (Room.mono hr (by first | decide | omega)) (by rfl) (da_cons (dv 4) (da_nil))) (da_cons (de_cal c_read_lot htb hmg tk (Room.mono hr (by first | decide | omega)) (by rfl) (da_cons (dv 5) (da_nil))) (da_nil)))) (da_cons (de_lst (da_cons (dv 5) (da_cons (dv 4) (da_nil)))) (da_nil)))))) (dss_one (ds_ret (de_bl))) (dss_nil))
        (dss_one (ds_for hp rfl (di_range1 (by rfl) B.b_range (da_cons (de_int) (da_nil)) (fun ls ds ls' q => aCons_len aNil_len ls ds ls' q)) (dg_name sc_law.nd rfl (by first | exact Or.inl rfl | exact Or.inr rfl)) (dss_cons (ds_set (i := 7) sc_law.nd rfl (by first | exact Or.inl rfl | exact Or.inr rfl) (de_calIO c__law_bend htb tk (Room.mono hr (by decide)) (by rfl) (pv 3) (da_cons (dv 5) (da_nil))))
        (dss_cons (ds_for hp rfl (di_range1 (by rfl) B.b_range (da_cons (de_calIO c__law_pick htb tk (Room.mono hr (by decide)) (by rfl) (pv 3) (da_cons (de_int) (da_nil))) (da_nil)) (fun ls ds ls' q => aCons_len aNil_len ls ds ls' q)) (dg_name sc_law.nd rfl (by first | exact Or.inl rfl | exact Or.inr rfl)) (dss_one (ds_set (i := 7) sc_law.nd rfl (by first | exact Or.inl rfl | exact Or.inr rfl) (de_calIO c__law_bend htb tk (Room.mono hr (by decide)) (by rfl) (pv 3) (da_cons (dv 7) (da_nil))))))
        (dss_cons (ds_set (i := 9) sc_law.nd rfl (by first | exact Or.inl rfl | exact Or.inr rfl) (de_cal c__law_taken htb hmg tk (Room.mono hr (by first | decide | omega)) (by rfl) (da_cons (dv 7) (da_nil))))
        (dss_cons (ds_set (i := 9) sc_law.nd rfl (by first | exact Or.inl rfl | exact Or.inr rfl) (de_if (dt_cmp op_isN od_isN (dv 9) (de_non) (nomark _)) (de_str) (de_lst (da_cons (dv 9) (da_nil)))))
        (dss_one (ds_if (dt_not (dt_val (de_calB c__law_twins htb hmg tk (Room.mono hr (by first | decide | omega)) (by rfl) (da_cons (de_came O hmg (by rfl) TB hcode (("law" : Str) ++ ".<locals>.") (by rfl) hT1 hT2 (Room.mono hr (by decide)) (lamS_by (by rfl)) (fun _ _ _ _ _ _ _ G' hr' hmg' htb0 tk' => have htb' := htb0; de_cal c_read_lot htb' hmg' tk' (Room.mono hr' (by first | decide | omega)) (by rfl) (da_cons (dv 7) (da_nil)))) (da_cons (dv 9) (da_nil)))))) (dss_one (ds_ret (de_bl))) (dss_nil))))))))))))))
        (dss_cons (ds_for hp rfl (di_seq (de_lst (da_cons (de_non) (da_cons (de_int) (da_cons (de_bl) (da_cons (de_tup (da_cons (de_str) (da_nil))) (da_cons (de_str) (da_cons (de_str) (da_cons (de_str) (da_cons (de_str) (da_cons (de_str) (da_nil)))))))))))) (dg_name sc_law.nd rfl (by first | exact Or.inl rfl | exact Or.inr rfl)) (dss_one (ds_if (dt_cmp (op_neD (Room.units hr)) od_ne (de_came O hmg (by rfl) TB hcode (("law" : Str) ++ ".<locals>.") (by rfl) hT1 hT2 (Room.mono hr (by decide)) (lamS_by (by rfl)) (fun _ _ _ _ _ _ _ G' hr' hmg' htb0 tk' => have htb' := htb0; de_cal c_read_lot htb' hmg' tk' (Room.mono hr' (by first | decide | omega)) (by rfl) (da_cons (dv 2) (da_nil)))) (de_str) (nomark _)) (dss_one (ds_ret (de_bl))) (dss_nil))))
        (dss_one (ds_ret (de_cmp (op_eqD (Room.units hr)) od_eq (de_cal c_read_lot htb hmg tk (Room.mono hr (by first | decide | omega)) (by rfl) (da_cons (de_str) (da_nil))) (de_tup (da_cons (de_int) (da_cons (de_tup (da_cons (de_tup (da_cons (de_int) (da_cons (de_int) (da_nil)))) (da_nil))) (da_cons (de_tup (da_cons (de_bl) (da_nil))) (da_nil))))) (nomark _)))))) (fun i ds hl _ => mkF_eq ds hl)
end DLaw

end W09L
section M09
set_option Elab.async false
set_option linter.all false
set_option autoImplicit false
set_option maxRecDepth 100000
set_option maxHeartbeats 1000000
namespace DLaw
open PySem PySem.Spec DL DC
def errOf (x : Str) : Option Str := if x = Str.ofString "InvalidText" then some (Str.ofString "text") else none
theorem errT : errOf (Str.ofString "InvalidText") = some (Str.ofString "text") := if_pos rfl
theorem taken_shape {l : List Nat} (hl : l.length ≤ 1000000) {d : D} (h : takenD l = some d) : (∃ xs, d = .tup xs) ∧ Tw 3 d := by
  unfold takenD at h
  have hb := sp_bulk 10 l
  have hc := bulk_count (sp 10 l)
  have hlt : ∀ p ∈ sp 10 l, p.length ≤ 1000000 := fun p hp => by have := bulk_mem hp; omega
  generalize sp 10 l = ps at h hb hc hlt
  cases ps with
  | nil => cases h
  | cons p t =>
    dsimp only at h
    split at h
    · split at h
      · cases h
        have hr : ∀ r ∈ t.map (sp 32), r.length ≤ sizeLine := fun r hr => by
          obtain ⟨q, hq, rfl⟩ := List.mem_map.mp hr
          have := hlt q (List.mem_cons_of_mem _ hq)
          have := bulk_count (sp 32 q)
          have := sp_bulk 32 q
          rw [sizeLine_eq]; omega
        have ht : (t.map (sp 32)).length ≤ sizeLine := by rw [List.length_map, sizeLine_eq]; rw [List.length_cons] at hc; omega
        refine ⟨⟨_, rfl⟩, .tup (by rw [sizeLine_eq]; simp) fun x hx => ?_⟩
        simp only [List.mem_cons, List.not_mem_nil, or_false] at hx
        rcases hx with rfl | rfl | rfl
        · exact .int _ _
        · refine .tup (by rw [List.length_map]; exact ht) fun x hx => ?_
          obtain ⟨r, hm, rfl⟩ := List.mem_map.mp hx
          refine .tup (by rw [List.length_map, List.length_drop]; have := hr r hm; omega) fun x hx => ?_
          obtain ⟨w, _, rfl⟩ := List.mem_map.mp hx
          unfold numW
          split
          · split
            · exact .int _ _
            · exact .non _
          · exact .non _
        · refine .tup (by rw [List.length_map]; exact ht) fun x hx => ?_
          obtain ⟨r, hm, rfl⟩ := List.mem_map.mp hx
          exact .bl _ _
      · cases h
    · cases h
theorem tw_one {t : Nat} {d : D} (h : Tw t d) : Tw (t + 1) (.lst [d]) := .lst (by rw [sizeLine_eq]; simp) fun x hx => by
  rw [List.mem_singleton] at hx; subst hx; exact h
theorem sg_ok {l : List Nat} (h : Sg l) : Tw 0 (TX l) := .str _ h.ok
theorem bad1 : f_read_lot [.non] = .exc "InvalidText" := by kernel_rfl
theorem bad2 : f_read_lot [.int 4] = .exc "InvalidText" := by kernel_rfl
theorem bad3 : f_read_lot [.bl true] = .exc "InvalidText" := by kernel_rfl
theorem bad4 : f_read_lot [.tup [.str "base 2"]] = .exc "InvalidText" := by kernel_rfl
theorem badT {l : List Nat} (h : Sg l) (hl : l.length ≤ 1000) (hr : readD l = none) : f_read_lot [TX l] = .exc "InvalidText" := by
  rw [read_is (by omega) h, hr]
theorem bad5 : f_read_lot [.str ""] = .exc "InvalidText" := badT (l := []) (fun _ h => nomatch h) (by decide) (by decide)
theorem e6 : (Str.ofString "base 2") = mk [98, 97, 115, 101, 32, 50] := by decide +kernel
theorem e7 : (Str.ofString "base 2\nyes 0 0\n") = mk [98, 97, 115, 101, 32, 50, 10, 121, 101, 115, 32, 48, 32, 48, 10] := by decide +kernel
theorem e8 : (Str.ofString "base 2\nyes 0 00") = mk [98, 97, 115, 101, 32, 50, 10, 121, 101, 115, 32, 48, 32, 48, 48] := by decide +kernel
theorem e9 : (Str.ofString "base 2\nyes 0  0") = mk [98, 97, 115, 101, 32, 50, 10, 121, 101, 115, 32, 48, 32, 32, 48] := by decide +kernel
theorem e10 : (Str.ofString "base 2\nyes 0 0") = mk [98, 97, 115, 101, 32, 50, 10, 121, 101, 115, 32, 48, 32, 48] := by decide +kernel
theorem bad6 : f_read_lot [.str "base 2"] = .exc "InvalidText" := by rw [e6]; exact badT (by unfold Sg; decide) (by decide) (by decide)
theorem bad7 : f_read_lot [.str "base 2\nyes 0 0\n"] = .exc "InvalidText" := by rw [e7]; exact badT (by unfold Sg; decide) (by decide) (by decide)
theorem bad8 : f_read_lot [.str "base 2\nyes 0 00"] = .exc "InvalidText" := by rw [e8]; exact badT (by unfold Sg; decide) (by decide) (by decide)
theorem bad9 : f_read_lot [.str "base 2\nyes 0  0"] = .exc "InvalidText" := by rw [e9]; exact badT (by unfold Sg; decide) (by decide) (by decide)
theorem good10 : f_read_lot [.str "base 2\nyes 0 0"] = .ok (.tup [.int 2, .tup [.tup [.int 0, .int 0]], .tup [.bl true]]) := by
  rw [e10, read_is (by decide) (by unfold Sg; decide)]; rfl
theorem law_true (i : Addr × List Int) (hl : i.2.length ≤ 63) : f_law errOf i [.ref i.1] = .ok (.bl true) := by
  have Z1 : 1 ≤ sizeLine := by rw [sizeLine_eq]; omega
  have Z2 : 2 ≤ sizeLine := by rw [sizeLine_eq]; omega
  have Z3 : 3 ≤ sizeLine := by rw [sizeLine_eq]; omega
  have Z9 : 9 ≤ sizeLine := by rw [sizeLine_eq]; omega
  have i20 : inB 20 := ⟨by omega, by omega⟩
  unfold f_law b_law
  have hlen : ∀ b, gLenS i.1 i.2.length [.ref b] = if b = i.1 then some (.int (i.2.length : Nat)) else none := fun b => rfl
  have nmin : inB ((if (6 : Int) < ((i.2.length : Nat) : Int) then (6 : Int) else ((i.2.length : Nat) : Int)) + 1) := by split <;> exact ⟨by omega, by omega⟩
  simp! only [hlen, nmin]
  generalize hF : forL _ _ _ _ = r
  obtain ⟨ls, ⟨x1, x2, x3, x4, x5, x6, x7, x8, x9, rfl⟩, rfl⟩ := range_eqn hF (fun _ ls => ∃ x1 x2 x3 x4 x5 x6 x7 x8 x9, ls = [some (.ref i.1), x1, x2, x3, x4, x5, x6, x7, x8, x9]) ⟨_, _, _, _, _, _, _, _, _, rfl⟩ (by
    rintro k hk ls ⟨x1, x2, x3, x4, x5, x6, x7, x8, x9, rfl⟩ J hJ
    refine ⟨_, rfl, ?_⟩
    have hk : k ≤ 63 := by
      have : (if (6 : Int) < ((i.2.length : Nat) : Int) then (6 : Int) else ((i.2.length : Nat) : Int)) ≤ 6 := by split <;> omega
      omega
    obtain ⟨s0, es, hs0⟩ := spring i (fun _ _ => trivial) (at_ := 0 + (k : Nat)) (by omega) (by omega)
    obtain ⟨d, s1, ep, dl, hs1⟩ := pickN hs0 (m := 3) (by decide) (by decide)
    rw [show ((3 : Nat) : Int) = 3 from rfl] at ep
    obtain ⟨l, s2, lo, lb, l4, hs2, el⟩ := lot_is hs1 (b := 2 + d) (m := 4) (by omega) (by omega) (by decide) (by decide)
    have el : f__law_lot s1 [.int (2 + (d : Int)), .int 4] = .ok (l.D, s2) := el
    have l4 : l.rows.length ≤ 4 := by omega
    have lt := law_text_is lo l4
    have ltx := lot_text_is lo l4
    have tl := text_len lo l4
    have tg := sg_text lo l4
    have rd := read_is (l := textW l) (by omega) tg
    rw [read_text lo l4] at rd
    have fl : Fz l.D := l.pl.fz
    have lk : lookD l.D = true := rfl
    have tw : Tw 4 (.lst [TX (textW l), l.D]) := .lst Z2 fun x hx => by
      simp only [List.mem_cons, List.not_mem_nil, or_false] at hx
      rcases hx with rfl | rfl
      · exact (sg_ok tg).le (by decide)
      · exact tw_lot lo (by omega)
    have t12 := twins12 (tw.le (by decide))
    have kd : Fz l.D ∧ keepO (some l.D) = some l.D := ⟨fl, rfl⟩
    simp! only [es, ep, el, lt, fl, ltx, rd, Z2, t12, lk, i20]
    generalize hF : forL _ _ _ _ = r
    obtain ⟨ls, ⟨sp, hs, x6, x7, x8, x9, rfl⟩, rfl⟩ := range_eqn hF (fun _ ls => ∃ sp, Spr sp ∧ ∃ x6 x7 x8 x9, ls = [some (.ref i.1), some (.int (0 + (k : Nat))), x2, some (.own sp), some l.D, some (TX (textW l)), x6, x7, x8, x9]) ⟨s2, hs2, _, _, _, _, rfl⟩ (by
      rintro k2 hk2 ls ⟨sp, hs, x6, x7, x8, x9, rfl⟩ J hJ
      refine ⟨_, rfl, ?_⟩
      obtain ⟨m0, s3, m0l, m0g, hs3, eb⟩ := bend hs (l := textW l) (by omega) tg
      obtain ⟨d3, s4, ep3, d3l, hs4⟩ := pickN hs3 (m := 3) (by decide) (by decide)
      rw [show ((3 : Nat) : Int) = 3 from rfl] at ep3
      have i3 := inB_nat (n := d3) (by omega)
      simp! only [eb, ep3, i3, Int.toNat_natCast]
      generalize hF2 : forL _ _ _ _ = r2
      obtain ⟨ls, ⟨sp5, m, hs5, ml, mg, x8', rfl⟩, rfl⟩ := range_eqn hF2 (fun j ls => ∃ sp m, Spr sp ∧ m.length + 20 ≤ 440 * 2 ^ j ∧ Sg m ∧ ∃ x8, ls = [some (.ref i.1), some (.int (0 + (k : Nat))), x2, some (.own sp), some l.D, some (TX (textW l)), some (.int (0 + (k2 : Nat))), some (TX m), x8, x9]) ⟨s4, m0, hs4, by omega, m0g, _, rfl⟩ (by
        rintro j hj ls ⟨sp, m, hs, ml, mg, x8, rfl⟩ J hJ
        refine ⟨_, rfl, ?_⟩
        have j3 : 440 * 2 ^ j ≤ 3520 := by
          have : j = 0 ∨ j = 1 ∨ j = 2 := by omega
          rcases this with rfl | rfl | rfl <;> decide
        obtain ⟨m1, s5, m1l, m1g, hs5, eb5⟩ := bend hs (l := m) (by omega) mg
        simp! only [eb5]
        exact hJ _ ⟨s5, m1, hs5, by rw [Nat.pow_succ]; omega, m1g, _, rfl⟩)
      have j3 : 440 * 2 ^ d3 ≤ 3520 := by
        have : d3 = 0 ∨ d3 = 1 ∨ d3 = 2 := by omega
        rcases this with rfl | rfl | rfl <;> decide
      have r := read_is (l := m) (by omega) mg
      rw [read_taken] at r
      have t := taken_is (l := m) (by omega) mg
      cases e : takenD m with
      | none =>
        rw [e] at r t
        have st : PyData.strOk (Str.ofString "text") = true := by decide +kernel
        have t12 := twins12 (Tw.str 11 st)
        simp! only [t, r, errT, t12]
        exact hJ _ ⟨sp5, hs5, _, _, _, _, rfl⟩
      | some d =>
        rw [e] at r t
        obtain ⟨⟨xs, rfl⟩, tw⟩ := taken_shape (by omega) e
        have t12 := twins12 ((tw_one tw).le (by decide))
        simp! only [t, r, Z1, t12]
        exact hJ _ ⟨sp5, hs5, _, _, _, _, rfl⟩)
    exact hJ _ ⟨_, _, _, _, _, _, _, _, _, rfl⟩)
  have gn : gNe (.str "text") (.str "text") = some (.bl false) := by kernel_rfl
  simp! only [Z9, Z1]
  have od : ∀ d ∈ [D.non, .int 4, .bl true, .tup [.str "base 2"], .str "", .str "base 2", .str "base 2\nyes 0 0\n", .str "base 2\nyes 0 00", .str "base 2\nyes 0  0"], Fz d ∧ keepO (some d) = some d ∧ f_read_lot [d] = .exc "InvalidText" := fun d hd => by
    simp only [List.mem_cons, List.not_mem_nil, or_false] at hd
    rcases hd with rfl | rfl | rfl | rfl | rfl | rfl | rfl | rfl | rfl
    · exact ⟨trivial, rfl, bad1⟩
    · exact ⟨trivial, rfl, bad2⟩
    · exact ⟨trivial, rfl, bad3⟩
    · exact ⟨trivial, rfl, bad4⟩
    · exact ⟨trivial, rfl, bad5⟩
    · exact ⟨trivial, rfl, bad6⟩
    · exact ⟨trivial, rfl, bad7⟩
    · exact ⟨trivial, rfl, bad8⟩
    · exact ⟨trivial, rfl, bad9⟩
  generalize [D.non, .int 4, .bl true, .tup [.str "base 2"], .str "", .str "base 2", .str "base 2\nyes 0 0\n", .str "base 2\nyes 0 00", .str "base 2\nyes 0  0"] = odds at od ⊢
  generalize hF : forL _ _ _ _ = r
  obtain ⟨ls, ⟨x1, x2, x3, x4, x5, x6, x7, x8, x9, rfl⟩, rfl⟩ := for_eqnD hF (fun _ ls => ∃ x1 x2 x3 x4 x5 x6 x7 x8 x9, ls = [some (.ref i.1), x1, x2, x3, x4, x5, x6, x7, x8, x9]) ⟨_, _, _, _, _, _, _, _, _, rfl⟩ (by
    rintro k hk ls ⟨x1, x2, x3, x4, x5, x6, x7, x8, x9, rfl⟩ J hJ
    refine ⟨_, rfl, ?_⟩
    obtain ⟨o1, o2, o3⟩ := od _ (List.getElem_mem hk)
    generalize odds[k] = d at o1 o2 o3
    simp! only [o1, o2, o3, errT, gn]
    exact hJ _ ⟨_, _, _, _, _, _, _, _, _, rfl⟩)
  have ge : gEq (.tup [.int 2, .tup [.tup [.int 0, .int 0]], .tup [.bl true]]) (.tup [.int 2, .tup [.tup [.int 0, .int 0]], .tup [.bl true]]) = some (.bl true) := by kernel_rfl
  simp! only [good10, Z1, Z2, Z3, ge]
end DLaw

end M09
section W09E
set_option Elab.async false
set_option linter.all false
set_option autoImplicit false
set_option maxRecDepth 100000
set_option maxHeartbeats 4000000
namespace DLaw
open PySem PySem.Spec PyProof.Rows L2 LamX DL DC
theorem gIsE_same (a : Addr) (tbl : Addr → Option Bool) (c : Addr) : gIsE a tbl [.ref a, .ref c] = (tbl c).map .bl := if_pos rfl
theorem err_text (a : Addr) (tbl : Addr → Option Bool) (k_InvalidLot k_InvalidNumber k_InvalidFigures k_InvalidSeen k_InvalidText k_Unlike k_NoMember k_NothingLeft : Addr) (h_InvalidLot : tbl k_InvalidLot = some false) (h_InvalidNumber : tbl k_InvalidNumber = some false) (h_InvalidFigures : tbl k_InvalidFigures = some false) (h_InvalidSeen : tbl k_InvalidSeen = some false) (h_InvalidText : tbl k_InvalidText = some true) (h_Unlike : tbl k_Unlike = some false) (h_NoMember : tbl k_NoMember = some false) (h_NothingLeft : tbl k_NothingLeft = some false) : fin (b__law_error_of a tbl k_InvalidLot k_InvalidNumber k_InvalidFigures k_InvalidSeen k_InvalidText k_Unlike k_NoMember k_NothingLeft (startD 4 [.ref a])) = .ok (.str "text") := by
  have l1 : 1 ≤ sizeLine := by rw [sizeLine_eq]; omega
  have l2 : 2 ≤ sizeLine := by rw [sizeLine_eq]; omega
  have s1 : 1 < sizeLine := by rw [sizeLine_eq]; omega
  have s2 : 2 < sizeLine := by rw [sizeLine_eq]; omega
  have s3 : 3 < sizeLine := by rw [sizeLine_eq]; omega
  have s4 : 4 < sizeLine := by rw [sizeLine_eq]; omega
  have s5 : 5 < sizeLine := by rw [sizeLine_eq]; omega
  have s6 : 6 < sizeLine := by rw [sizeLine_eq]; omega
  have s7 : 7 < sizeLine := by rw [sizeLine_eq]; omega
  unfold b__law_error_of
  simp only [mkF, DL.bin, DL.ite, L2.atI, mkIO, startD, sq, sAsg, sRet, sDrop, sIf, nop, Res.fl, Fl.seq, Res.bind, opt, shr, frz, gN, var, cst, val, stl, un, see, cont, fin, retD, retC, finIO, ioC, vAnd, vOr, vNot, tst, chain, mAnd, mOr, mNot, mCall, fz, frzs, aNil, aCons, mTup, mLst, cb, sees, sSet, frzv, slotL, putL, mApp, gI, gCmp, gAdd, fSub, gInt, gIx, gLen, gIsi, tyName, isTy, List.map_cons, List.map_nil, List.length_cons, List.length_nil, List.replicate_succ, List.replicate_zero, List.cons_append, List.nil_append, List.getElem?_cons_zero, List.getElem?_cons_succ, List.getElem?_nil, List.set_cons_zero, List.set_cons_succ, Option.bind_some, Option.bind_none, Option.map_some, Option.map_none, if_true, if_false, Nat.reduceAdd, Nat.reduceSub, Nat.reduceLeDiff, Bool.not_true, Bool.not_false, reduceIte, Bool.false_eq_true, ne_eq, not_true_eq_false, not_false_eq_true, gIsE_same, h_InvalidLot, h_InvalidNumber, h_InvalidFigures, h_InvalidSeen, h_InvalidText, h_Unlike, h_NoMember, h_NothingLeft, l1, l2, s1, s2, s3, s4, s5, s6, s7, Nat.zero_add]
  kernel_rfl
theorem all_law {l : PySem.W.OpenLaw} {w : World} {K : PySem.W.Frag} {h : Heap} {mg : Str → Option Value} {fa c Pt : Addr} (X : K.In h) (G : h.Ns mainGlobals mg) (hfa : mg "law" = some (.ref fa)) (th : h.get? Pt = some { cls := .none, data := .fields #[] })
    {a_is_within : Addr} {od_is_within an_is_within : Option Addr} {sl_is_within : Array (Option Value)} {oc_is_within kV_is_within dc_is_within pm_is_within cd_is_within ct_is_within : Value} {a_is_wide : Addr} {od_is_wide an_is_wide : Option Addr} {sl_is_wide : Array (Option Value)} {oc_is_wide kV_is_wide dc_is_wide pm_is_wide cd_is_wide ct_is_wide : Value} {a_is_fit : Addr} {od_is_fit an_is_fit : Option Addr} {sl_is_fit : Array (Option Value)} {oc_is_fit kV_is_fit dc_is_fit pm_is_fit cd_is_fit ct_is_fit : Value} {a_look_at_lot : Addr} {od_look_at_lot an_look_at_lot : Option Addr} {sl_look_at_lot : Array (Option Value)} {oc_look_at_lot kV_look_at_lot dc_look_at_lot pm_look_at_lot cd_look_at_lot ct_look_at_lot : Value} {a_text_of : Addr} {od_text_of an_text_of : Option Addr} {sl_text_of : Array (Option Value)} {oc_text_of kV_text_of dc_text_of pm_text_of cd_text_of ct_text_of : Value} {a_lot_text : Addr} {od_lot_text an_lot_text : Option Addr} {sl_lot_text : Array (Option Value)} {oc_lot_text kV_lot_text dc_lot_text pm_lot_text cd_lot_text ct_lot_text : Value} {a__law_spring : Addr} {od__law_spring an__law_spring : Option Addr} {sl__law_spring : Array (Option Value)} {oc__law_spring kV__law_spring dc__law_spring pm__law_spring cd__law_spring ct__law_spring : Value} {a__law_pick : Addr} {od__law_pick an__law_pick : Option Addr} {sl__law_pick : Array (Option Value)} {oc__law_pick kV__law_pick dc__law_pick pm__law_pick cd__law_pick ct__law_pick : Value} {a__law_kind : Addr} {od__law_kind an__law_kind : Option Addr} {sl__law_kind : Array (Option Value)} {oc__law_kind kV__law_kind dc__law_kind pm__law_kind cd__law_kind ct__law_kind : Value} {a__law_twins : Addr} {od__law_twins an__law_twins : Option Addr} {sl__law_twins : Array (Option Value)} {oc__law_twins kV__law_twins dc__law_twins pm__law_twins cd__law_twins ct__law_twins : Value} {a__law_text : Addr} {od__law_text an__law_text : Option Addr} {sl__law_text : Array (Option Value)} {oc__law_text kV__law_text dc__law_text pm__law_text cd__law_text ct__law_text : Value} {a__law_bend : Addr} {od__law_bend an__law_bend : Option Addr} {sl__law_bend : Array (Option Value)} {oc__law_bend kV__law_bend dc__law_bend pm__law_bend cd__law_bend ct__law_bend : Value} {a_number_of : Addr} {od_number_of an_number_of : Option Addr} {sl_number_of : Array (Option Value)} {oc_number_of kV_number_of dc_number_of pm_number_of cd_number_of ct_number_of : Value} {a_read_lot : Addr} {od_read_lot an_read_lot : Option Addr} {sl_read_lot : Array (Option Value)} {oc_read_lot kV_read_lot dc_read_lot pm_read_lot cd_read_lot ct_read_lot : Value} {a_is_lot : Addr} {od_is_lot an_is_lot : Option Addr} {sl_is_lot : Array (Option Value)} {oc_is_lot kV_is_lot dc_is_lot pm_is_lot cd_is_lot ct_is_lot : Value} {a__law_fixed : Addr} {od__law_fixed an__law_fixed : Option Addr} {sl__law_fixed : Array (Option Value)} {oc__law_fixed kV__law_fixed dc__law_fixed pm__law_fixed cd__law_fixed ct__law_fixed : Value} {a__law_lot : Addr} {od__law_lot an__law_lot : Option Addr} {sl__law_lot : Array (Option Value)} {oc__law_lot kV__law_lot dc__law_lot pm__law_lot cd__law_lot ct__law_lot : Value} {a__law_taken : Addr} {od__law_taken an__law_taken : Option Addr} {sl__law_taken : Array (Option Value)} {oc__law_taken kV__law_taken dc__law_taken pm__law_taken cd__law_taken ct__law_taken : Value} {a__law_error_of : Addr} {od__law_error_of an__law_error_of : Option Addr} {sl__law_error_of : Array (Option Value)} {oc__law_error_of kV__law_error_of dc__law_error_of pm__law_error_of cd__law_error_of ct__law_error_of : Value} {a__law_came : Addr} {od__law_came an__law_came : Option Addr} {sl__law_came : Array (Option Value)} {oc__law_came kV__law_came dc__law_came pm__law_came cd__law_came ct__law_came : Value} {a_law : Addr} {od_law an_law : Option Addr} {sl_law : Array (Option Value)} {oc_law kV_law dc_law pm_law ct_law : Value} {t_MOST : Tok} {t_FIGURES : Tok} {k_InvalidLot : Addr} {k_InvalidNumber : Addr} {k_InvalidFigures : Addr} {k_InvalidSeen : Addr} {k_InvalidText : Addr} {k_Unlike : Addr} {k_NoMember : Addr} {k_NothingLeft : Addr} {k_FigureError : Addr}
    (n_is_within : PySem.W.nsIn K mainGlobals "is_within" = some (some (.ref a_is_within)))
    (l_is_within : K.lookup a_is_within = some ⟨oc_is_within, od_is_within, .func (PySem.W.fnOf "is_within" "is_within" (defArgs s_is_within) (defBody s_is_within) (defScope s_is_within) .none kV_is_within dc_is_within pm_is_within an_is_within cd_is_within ct_is_within), sl_is_within⟩)
    (cc_is_within : PySem.W.codeIn K cd_is_within "is_within" = true)
    (p_is_within : PySem.W.keepIn K (.ref a_is_within) = true)
    (n_is_wide : PySem.W.nsIn K mainGlobals "is_wide" = some (some (.ref a_is_wide)))
    (l_is_wide : K.lookup a_is_wide = some ⟨oc_is_wide, od_is_wide, .func (PySem.W.fnOf "is_wide" "is_wide" (defArgs s_is_wide) (defBody s_is_wide) (defScope s_is_wide) .none kV_is_wide dc_is_wide pm_is_wide an_is_wide cd_is_wide ct_is_wide), sl_is_wide⟩)
    (cc_is_wide : PySem.W.codeIn K cd_is_wide "is_wide" = true)
    (p_is_wide : PySem.W.keepIn K (.ref a_is_wide) = true)
    (n_is_fit : PySem.W.nsIn K mainGlobals "is_fit" = some (some (.ref a_is_fit)))
    (l_is_fit : K.lookup a_is_fit = some ⟨oc_is_fit, od_is_fit, .func (PySem.W.fnOf "is_fit" "is_fit" (defArgs s_is_fit) (defBody s_is_fit) (defScope s_is_fit) .none kV_is_fit dc_is_fit pm_is_fit an_is_fit cd_is_fit ct_is_fit), sl_is_fit⟩)
    (cc_is_fit : PySem.W.codeIn K cd_is_fit "is_fit" = true)
    (p_is_fit : PySem.W.keepIn K (.ref a_is_fit) = true)
    (n_look_at_lot : PySem.W.nsIn K mainGlobals "look_at_lot" = some (some (.ref a_look_at_lot)))
    (l_look_at_lot : K.lookup a_look_at_lot = some ⟨oc_look_at_lot, od_look_at_lot, .func (PySem.W.fnOf "look_at_lot" "look_at_lot" (defArgs s_look_at_lot) (defBody s_look_at_lot) (defScope s_look_at_lot) .none kV_look_at_lot dc_look_at_lot pm_look_at_lot an_look_at_lot cd_look_at_lot ct_look_at_lot), sl_look_at_lot⟩)
    (cc_look_at_lot : PySem.W.codeIn K cd_look_at_lot "look_at_lot" = true)
    (p_look_at_lot : PySem.W.keepIn K (.ref a_look_at_lot) = true)
    (n_text_of : PySem.W.nsIn K mainGlobals "text_of" = some (some (.ref a_text_of)))
    (l_text_of : K.lookup a_text_of = some ⟨oc_text_of, od_text_of, .func (PySem.W.fnOf "text_of" "text_of" (defArgs s_text_of) (defBody s_text_of) (defScope s_text_of) .none kV_text_of dc_text_of pm_text_of an_text_of cd_text_of ct_text_of), sl_text_of⟩)
    (cc_text_of : PySem.W.codeIn K cd_text_of "text_of" = true)
    (p_text_of : PySem.W.keepIn K (.ref a_text_of) = true)
    (n_lot_text : PySem.W.nsIn K mainGlobals "lot_text" = some (some (.ref a_lot_text)))
    (l_lot_text : K.lookup a_lot_text = some ⟨oc_lot_text, od_lot_text, .func (PySem.W.fnOf "lot_text" "lot_text" (defArgs s_lot_text) (defBody s_lot_text) (defScope s_lot_text) .none kV_lot_text dc_lot_text pm_lot_text an_lot_text cd_lot_text ct_lot_text), sl_lot_text⟩)
    (cc_lot_text : PySem.W.codeIn K cd_lot_text "lot_text" = true)
    (p_lot_text : PySem.W.keepIn K (.ref a_lot_text) = true)
    (n__law_spring : PySem.W.nsIn K mainGlobals "_law_spring" = some (some (.ref a__law_spring)))
    (l__law_spring : K.lookup a__law_spring = some ⟨oc__law_spring, od__law_spring, .func (PySem.W.fnOf "_law_spring" "_law_spring" (defArgs s__law_spring) (defBody s__law_spring) (defScope s__law_spring) .none kV__law_spring dc__law_spring pm__law_spring an__law_spring cd__law_spring ct__law_spring), sl__law_spring⟩)
    (cc__law_spring : PySem.W.codeIn K cd__law_spring "_law_spring" = true)
    (p__law_spring : PySem.W.keepIn K (.ref a__law_spring) = true)
    (n__law_pick : PySem.W.nsIn K mainGlobals "_law_pick" = some (some (.ref a__law_pick)))
    (l__law_pick : K.lookup a__law_pick = some ⟨oc__law_pick, od__law_pick, .func (PySem.W.fnOf "_law_pick" "_law_pick" (defArgs s__law_pick) (defBody s__law_pick) (defScope s__law_pick) .none kV__law_pick dc__law_pick pm__law_pick an__law_pick cd__law_pick ct__law_pick), sl__law_pick⟩)
    (cc__law_pick : PySem.W.codeIn K cd__law_pick "_law_pick" = true)
    (p__law_pick : PySem.W.keepIn K (.ref a__law_pick) = true)
    (n__law_kind : PySem.W.nsIn K mainGlobals "_law_kind" = some (some (.ref a__law_kind)))
    (l__law_kind : K.lookup a__law_kind = some ⟨oc__law_kind, od__law_kind, .func (PySem.W.fnOf "_law_kind" "_law_kind" (defArgs s__law_kind) (defBody s__law_kind) (defScope s__law_kind) .none kV__law_kind dc__law_kind pm__law_kind an__law_kind cd__law_kind ct__law_kind), sl__law_kind⟩)
    (cc__law_kind : PySem.W.codeIn K cd__law_kind "_law_kind" = true)
    (p__law_kind : PySem.W.keepIn K (.ref a__law_kind) = true)
    (n__law_twins : PySem.W.nsIn K mainGlobals "_law_twins" = some (some (.ref a__law_twins)))
    (l__law_twins : K.lookup a__law_twins = some ⟨oc__law_twins, od__law_twins, .func (PySem.W.fnOf "_law_twins" "_law_twins" (defArgs s__law_twins) (defBody s__law_twins) (defScope s__law_twins) .none kV__law_twins dc__law_twins pm__law_twins an__law_twins cd__law_twins ct__law_twins), sl__law_twins⟩)
    (cc__law_twins : PySem.W.codeIn K cd__law_twins "_law_twins" = true)
    (p__law_twins : PySem.W.keepIn K (.ref a__law_twins) = true)
    (n__law_text : PySem.W.nsIn K mainGlobals "_law_text" = some (some (.ref a__law_text)))
    (l__law_text : K.lookup a__law_text = some ⟨oc__law_text, od__law_text, .func (PySem.W.fnOf "_law_text" "_law_text" (defArgs s__law_text) (defBody s__law_text) (defScope s__law_text) .none kV__law_text dc__law_text pm__law_text an__law_text cd__law_text ct__law_text), sl__law_text⟩)
    (cc__law_text : PySem.W.codeIn K cd__law_text "_law_text" = true)
    (p__law_text : PySem.W.keepIn K (.ref a__law_text) = true)
    (n__law_bend : PySem.W.nsIn K mainGlobals "_law_bend" = some (some (.ref a__law_bend)))
    (l__law_bend : K.lookup a__law_bend = some ⟨oc__law_bend, od__law_bend, .func (PySem.W.fnOf "_law_bend" "_law_bend" (defArgs s__law_bend) (defBody s__law_bend) (defScope s__law_bend) .none kV__law_bend dc__law_bend pm__law_bend an__law_bend cd__law_bend ct__law_bend), sl__law_bend⟩)
    (cc__law_bend : PySem.W.codeIn K cd__law_bend "_law_bend" = true)
    (p__law_bend : PySem.W.keepIn K (.ref a__law_bend) = true)
    (n_number_of : PySem.W.nsIn K mainGlobals "number_of" = some (some (.ref a_number_of)))
    (l_number_of : K.lookup a_number_of = some ⟨oc_number_of, od_number_of, .func (PySem.W.fnOf "number_of" "number_of" (defArgs s_number_of) (defBody s_number_of) (defScope s_number_of) .none kV_number_of dc_number_of pm_number_of an_number_of cd_number_of ct_number_of), sl_number_of⟩)
    (cc_number_of : PySem.W.codeIn K cd_number_of "number_of" = true)
    (p_number_of : PySem.W.keepIn K (.ref a_number_of) = true)
    (n_read_lot : PySem.W.nsIn K mainGlobals "read_lot" = some (some (.ref a_read_lot)))
    (l_read_lot : K.lookup a_read_lot = some ⟨oc_read_lot, od_read_lot, .func (PySem.W.fnOf "read_lot" "read_lot" (defArgs s_read_lot) (defBody s_read_lot) (defScope s_read_lot) .none kV_read_lot dc_read_lot pm_read_lot an_read_lot cd_read_lot ct_read_lot), sl_read_lot⟩)
    (cc_read_lot : PySem.W.codeIn K cd_read_lot "read_lot" = true)
    (p_read_lot : PySem.W.keepIn K (.ref a_read_lot) = true)
    (n_is_lot : PySem.W.nsIn K mainGlobals "is_lot" = some (some (.ref a_is_lot)))
    (l_is_lot : K.lookup a_is_lot = some ⟨oc_is_lot, od_is_lot, .func (PySem.W.fnOf "is_lot" "is_lot" (defArgs s_is_lot) (defBody s_is_lot) (defScope s_is_lot) .none kV_is_lot dc_is_lot pm_is_lot an_is_lot cd_is_lot ct_is_lot), sl_is_lot⟩)
    (cc_is_lot : PySem.W.codeIn K cd_is_lot "is_lot" = true)
    (p_is_lot : PySem.W.keepIn K (.ref a_is_lot) = true)
    (n__law_fixed : PySem.W.nsIn K mainGlobals "_law_fixed" = some (some (.ref a__law_fixed)))
    (l__law_fixed : K.lookup a__law_fixed = some ⟨oc__law_fixed, od__law_fixed, .func (PySem.W.fnOf "_law_fixed" "_law_fixed" (defArgs s__law_fixed) (defBody s__law_fixed) (defScope s__law_fixed) .none kV__law_fixed dc__law_fixed pm__law_fixed an__law_fixed cd__law_fixed ct__law_fixed), sl__law_fixed⟩)
    (cc__law_fixed : PySem.W.codeIn K cd__law_fixed "_law_fixed" = true)
    (p__law_fixed : PySem.W.keepIn K (.ref a__law_fixed) = true)
    (n__law_lot : PySem.W.nsIn K mainGlobals "_law_lot" = some (some (.ref a__law_lot)))
    (l__law_lot : K.lookup a__law_lot = some ⟨oc__law_lot, od__law_lot, .func (PySem.W.fnOf "_law_lot" "_law_lot" (defArgs s__law_lot) (defBody s__law_lot) (defScope s__law_lot) .none kV__law_lot dc__law_lot pm__law_lot an__law_lot cd__law_lot ct__law_lot), sl__law_lot⟩)
    (cc__law_lot : PySem.W.codeIn K cd__law_lot "_law_lot" = true)
    (p__law_lot : PySem.W.keepIn K (.ref a__law_lot) = true)
    (n__law_taken : PySem.W.nsIn K mainGlobals "_law_taken" = some (some (.ref a__law_taken)))
    (l__law_taken : K.lookup a__law_taken = some ⟨oc__law_taken, od__law_taken, .func (PySem.W.fnOf "_law_taken" "_law_taken" (defArgs s__law_taken) (defBody s__law_taken) (defScope s__law_taken) .none kV__law_taken dc__law_taken pm__law_taken an__law_taken cd__law_taken ct__law_taken), sl__law_taken⟩)
    (cc__law_taken : PySem.W.codeIn K cd__law_taken "_law_taken" = true)
    (p__law_taken : PySem.W.keepIn K (.ref a__law_taken) = true)
    (n__law_error_of : PySem.W.nsIn K mainGlobals "_law_error_of" = some (some (.ref a__law_error_of)))
    (l__law_error_of : K.lookup a__law_error_of = some ⟨oc__law_error_of, od__law_error_of, .func (PySem.W.fnOf "_law_error_of" "_law_error_of" (defArgs s__law_error_of) (defBody s__law_error_of) (defScope s__law_error_of) .none kV__law_error_of dc__law_error_of pm__law_error_of an__law_error_of cd__law_error_of ct__law_error_of), sl__law_error_of⟩)
    (cc__law_error_of : PySem.W.codeIn K cd__law_error_of "_law_error_of" = true)
    (p__law_error_of : PySem.W.keepIn K (.ref a__law_error_of) = true)
    (n__law_came : PySem.W.nsIn K mainGlobals "_law_came" = some (some (.ref a__law_came)))
    (l__law_came : K.lookup a__law_came = some ⟨oc__law_came, od__law_came, .func (PySem.W.fnOf "_law_came" "_law_came" (defArgs s__law_came) (defBody s__law_came) (defScope s__law_came) .none kV__law_came dc__law_came pm__law_came an__law_came cd__law_came ct__law_came), sl__law_came⟩)
    (cc__law_came : PySem.W.codeIn K cd__law_came "_law_came" = true)
    (p__law_came : PySem.W.keepIn K (.ref a__law_came) = true)
    (n_law : PySem.W.nsIn K mainGlobals "law" = some (some (.ref a_law)))
    (l_law : K.lookup a_law = some ⟨oc_law, od_law, .func (PySem.W.fnOf "law" "law" (defArgs s_law) (defBody s_law) (defScope s_law) .none kV_law dc_law pm_law an_law (.ref c) ct_law), sl_law⟩)
    (cc_law : PySem.W.codeIn K (.ref c) "law" = true)
    (p_law : PySem.W.keepIn K (.ref a_law) = true)
    (z_isinstance : PySem.W.nsIn K mainGlobals "isinstance" = some none)
    (z_int : PySem.W.nsIn K mainGlobals "int" = some none)
    (z_bool : PySem.W.nsIn K mainGlobals "bool" = some none)
    (z_tuple : PySem.W.nsIn K mainGlobals "tuple" = some none)
    (z_len : PySem.W.nsIn K mainGlobals "len" = some none)
    (z_all : PySem.W.nsIn K mainGlobals "all" = some none)
    (z_zip : PySem.W.nsIn K mainGlobals "zip" = some none)
    (z_str : PySem.W.nsIn K mainGlobals "str" = some none)
    (z_abs : PySem.W.nsIn K mainGlobals "abs" = some none)
    (z_list : PySem.W.nsIn K mainGlobals "list" = some none)
    (z_range : PySem.W.nsIn K mainGlobals "range" = some none)
    (z_min : PySem.W.nsIn K mainGlobals "min" = some none)
    (n_MOST : PySem.W.nsIn K mainGlobals "MOST" = some (some (.int 4 t_MOST)))
    (n_FIGURES : PySem.W.nsIn K mainGlobals "FIGURES" = some (some (.str "0123456789" t_FIGURES)))
    (n_InvalidLot : PySem.W.nsIn K mainGlobals "InvalidLot" = some (some (.ref k_InvalidLot)))
    (n_InvalidNumber : PySem.W.nsIn K mainGlobals "InvalidNumber" = some (some (.ref k_InvalidNumber)))
    (n_InvalidFigures : PySem.W.nsIn K mainGlobals "InvalidFigures" = some (some (.ref k_InvalidFigures)))
    (n_InvalidSeen : PySem.W.nsIn K mainGlobals "InvalidSeen" = some (some (.ref k_InvalidSeen)))
    (n_InvalidText : PySem.W.nsIn K mainGlobals "InvalidText" = some (some (.ref k_InvalidText)))
    (n_Unlike : PySem.W.nsIn K mainGlobals "Unlike" = some (some (.ref k_Unlike)))
    (n_NoMember : PySem.W.nsIn K mainGlobals "NoMember" = some (some (.ref k_NoMember)))
    (n_NothingLeft : PySem.W.nsIn K mainGlobals "NothingLeft" = some (some (.ref k_NothingLeft)))
    (n_FigureError : PySem.W.nsIn K mainGlobals "FigureError" = some (some (.ref k_FigureError)))
    (q_InvalidLot : PySem.W.excIn K k_InvalidLot [.type "ValueError", .type "Exception", .type "BaseException", .type "object"] "ValueError.__new__" = true)
    (k_InvalidLot_ : PySem.W.keepIn K (.ref k_InvalidLot) = true)
    (s_InvalidLot : PySem.W.subIn K (.ref k_InvalidLot) (.type "BaseException") = some true)
    (y_InvalidLot : PySem.W.typeIn K (.ref k_InvalidLot) = some (.type "type"))
    (q_InvalidText : PySem.W.excIn K k_InvalidText [.type "ValueError", .type "Exception", .type "BaseException", .type "object"] "ValueError.__new__" = true)
    (k_InvalidText_ : PySem.W.keepIn K (.ref k_InvalidText) = true)
    (s_InvalidText : PySem.W.subIn K (.ref k_InvalidText) (.type "BaseException") = some true)
    (y_InvalidText : PySem.W.typeIn K (.ref k_InvalidText) = some (.type "type"))
    (s_FE : PySem.W.subIn K (.ref k_FigureError) (.type "BaseException") = some true)
    (d_FE : PySem.W.hasDictIn K k_FigureError = true)
    (y_FE : PySem.W.typeIn K (.ref k_FigureError) = some (.type "type"))
    (e_get : PySem.W.specialIn K (.builtin "object.__class__") "__get__" = some (some (.builtin "getset_descriptor.__get__")))
    (e_tak : PySem.W.takesIn K (.builtin "object.__class__") = some true)
    (f_InvalidText : PySem.W.subIn K (.ref k_InvalidText) (.ref k_FigureError) = some true)
    (g1_InvalidText : PySem.W.findIn K (.ref k_InvalidText) "__getattribute__" = some (some (.builtin "BaseException.__getattribute__")))
    (g2_InvalidText : PySem.W.findIn K (.ref k_InvalidText) "__getattr__" = some none)
    (g3_InvalidText : PySem.W.hasDictIn K k_InvalidText = true)
    (g4_InvalidText : PySem.W.findIn K (.ref k_InvalidText) "__class__" = some (some (.builtin "object.__class__")))
    (g5_InvalidText : PySem.W.mroIn K k_InvalidText (.type "object") = some true)
    (i_InvalidText_InvalidLot : PySem.W.kitOne K (.ref k_InvalidText) (.ref k_InvalidLot) = some false)
    (i_InvalidText_InvalidNumber : PySem.W.kitOne K (.ref k_InvalidText) (.ref k_InvalidNumber) = some false)
    (i_InvalidText_InvalidFigures : PySem.W.kitOne K (.ref k_InvalidText) (.ref k_InvalidFigures) = some false)
    (i_InvalidText_InvalidSeen : PySem.W.kitOne K (.ref k_InvalidText) (.ref k_InvalidSeen) = some false)
    (i_InvalidText_InvalidText : PySem.W.kitOne K (.ref k_InvalidText) (.ref k_InvalidText) = some true)
    (i_InvalidText_Unlike : PySem.W.kitOne K (.ref k_InvalidText) (.ref k_Unlike) = some false)
    (i_InvalidText_NoMember : PySem.W.kitOne K (.ref k_InvalidText) (.ref k_NoMember) = some false)
    (i_InvalidText_NothingLeft : PySem.W.kitOne K (.ref k_InvalidText) (.ref k_NothingLeft) = some false)
    (tabL : PySem.W.codeHdIn K c Pt = true)
    (noT : K.lookup Pt = none)
    : LawAtS l w K (L2N.CX l.prog w) 16 63 "script" mg fa h := by
  have e := hfa.symm.trans (PySem.W.mg_of X G n_law)
  cases e
  have B : Bl mg := ⟨PySem.W.mg_none_of X G z_isinstance, PySem.W.mg_none_of X G z_int, PySem.W.mg_none_of X G z_bool, PySem.W.mg_none_of X G z_tuple, PySem.W.mg_none_of X G z_len, PySem.W.mg_none_of X G z_all, PySem.W.mg_none_of X G z_zip, PySem.W.mg_none_of X G z_str, PySem.W.mg_none_of X G z_abs, PySem.W.mg_none_of X G z_list, PySem.W.mg_none_of X G z_range, PySem.W.mg_none_of X G z_min⟩
  have g_MOST : ∃ u, mg "MOST" = some u ∧ L2.RelV (.int 4) u := ⟨_, PySem.W.mg_of X G n_MOST, _, rfl⟩
  have g_FIGURES : ∃ u, mg "FIGURES" = some u ∧ L2.RelV (.str "0123456789") u := ⟨_, PySem.W.mg_of X G n_FIGURES, _, rfl⟩
  have m_InvalidLot : mg "InvalidLot" = some (.ref k_InvalidLot) := PySem.W.mg_of X G n_InvalidLot
  have m_InvalidNumber : mg "InvalidNumber" = some (.ref k_InvalidNumber) := PySem.W.mg_of X G n_InvalidNumber
  have m_InvalidFigures : mg "InvalidFigures" = some (.ref k_InvalidFigures) := PySem.W.mg_of X G n_InvalidFigures
  have m_InvalidSeen : mg "InvalidSeen" = some (.ref k_InvalidSeen) := PySem.W.mg_of X G n_InvalidSeen
  have m_InvalidText : mg "InvalidText" = some (.ref k_InvalidText) := PySem.W.mg_of X G n_InvalidText
  have m_Unlike : mg "Unlike" = some (.ref k_Unlike) := PySem.W.mg_of X G n_Unlike
  have m_NoMember : mg "NoMember" = some (.ref k_NoMember) := PySem.W.mg_of X G n_NoMember
  have m_NothingLeft : mg "NothingLeft" = some (.ref k_NothingLeft) := PySem.W.mg_of X G n_NothingLeft
  have m_FigureError : mg "FigureError" = some (.ref k_FigureError) := PySem.W.mg_of X G n_FigureError
  have X_InvalidLot : Xc K mg "InvalidLot" k_InvalidLot "ValueError" "ValueError.__new__" "ValueError.__init__" [.type "ValueError", .type "Exception", .type "BaseException", .type "object"] := ⟨m_InvalidLot, PySem.F.excBase_ValueError, q_InvalidLot, k_InvalidLot_, s_InvalidLot, y_InvalidLot⟩
  have X_InvalidText : Xc K mg "InvalidText" k_InvalidText "ValueError" "ValueError.__new__" "ValueError.__init__" [.type "ValueError", .type "Exception", .type "BaseException", .type "object"] := ⟨m_InvalidText, PySem.F.excBase_ValueError, q_InvalidText, k_InvalidText_, s_InvalidText, y_InvalidText⟩
  have F_is_within := fun_mk (st := s_is_within) l_is_within cc_is_within p_is_within
  have m_is_within : mg "is_within" = some (.ref a_is_within) := PySem.W.mg_of X G n_is_within
  have F_is_wide := fun_mk (st := s_is_wide) l_is_wide cc_is_wide p_is_wide
  have m_is_wide : mg "is_wide" = some (.ref a_is_wide) := PySem.W.mg_of X G n_is_wide
  have F_is_fit := fun_mk (st := s_is_fit) l_is_fit cc_is_fit p_is_fit
  have m_is_fit : mg "is_fit" = some (.ref a_is_fit) := PySem.W.mg_of X G n_is_fit
  have F_look_at_lot := fun_mk (st := s_look_at_lot) l_look_at_lot cc_look_at_lot p_look_at_lot
  have m_look_at_lot : mg "look_at_lot" = some (.ref a_look_at_lot) := PySem.W.mg_of X G n_look_at_lot
  have F_text_of := fun_mk (st := s_text_of) l_text_of cc_text_of p_text_of
  have m_text_of : mg "text_of" = some (.ref a_text_of) := PySem.W.mg_of X G n_text_of
  have F_lot_text := fun_mk (st := s_lot_text) l_lot_text cc_lot_text p_lot_text
  have m_lot_text : mg "lot_text" = some (.ref a_lot_text) := PySem.W.mg_of X G n_lot_text
  have F__law_spring := fun_mk (st := s__law_spring) l__law_spring cc__law_spring p__law_spring
  have m__law_spring : mg "_law_spring" = some (.ref a__law_spring) := PySem.W.mg_of X G n__law_spring
  have F__law_pick := fun_mk (st := s__law_pick) l__law_pick cc__law_pick p__law_pick
  have m__law_pick : mg "_law_pick" = some (.ref a__law_pick) := PySem.W.mg_of X G n__law_pick
  have F__law_kind := fun_mk (st := s__law_kind) l__law_kind cc__law_kind p__law_kind
  have m__law_kind : mg "_law_kind" = some (.ref a__law_kind) := PySem.W.mg_of X G n__law_kind
  have F__law_twins := fun_mk (st := s__law_twins) l__law_twins cc__law_twins p__law_twins
  have m__law_twins : mg "_law_twins" = some (.ref a__law_twins) := PySem.W.mg_of X G n__law_twins
  have F__law_text := fun_mk (st := s__law_text) l__law_text cc__law_text p__law_text
  have m__law_text : mg "_law_text" = some (.ref a__law_text) := PySem.W.mg_of X G n__law_text
  have F__law_bend := fun_mk (st := s__law_bend) l__law_bend cc__law_bend p__law_bend
  have m__law_bend : mg "_law_bend" = some (.ref a__law_bend) := PySem.W.mg_of X G n__law_bend
  have F_number_of := fun_mk (st := s_number_of) l_number_of cc_number_of p_number_of
  have m_number_of : mg "number_of" = some (.ref a_number_of) := PySem.W.mg_of X G n_number_of
  have F_read_lot := fun_mk (st := s_read_lot) l_read_lot cc_read_lot p_read_lot
  have m_read_lot : mg "read_lot" = some (.ref a_read_lot) := PySem.W.mg_of X G n_read_lot
  have F_is_lot := fun_mk (st := s_is_lot) l_is_lot cc_is_lot p_is_lot
  have m_is_lot : mg "is_lot" = some (.ref a_is_lot) := PySem.W.mg_of X G n_is_lot
  have F__law_fixed := fun_mk (st := s__law_fixed) l__law_fixed cc__law_fixed p__law_fixed
  have m__law_fixed : mg "_law_fixed" = some (.ref a__law_fixed) := PySem.W.mg_of X G n__law_fixed
  have F__law_lot := fun_mk (st := s__law_lot) l__law_lot cc__law_lot p__law_lot
  have m__law_lot : mg "_law_lot" = some (.ref a__law_lot) := PySem.W.mg_of X G n__law_lot
  have F__law_taken := fun_mk (st := s__law_taken) l__law_taken cc__law_taken p__law_taken
  have m__law_taken : mg "_law_taken" = some (.ref a__law_taken) := PySem.W.mg_of X G n__law_taken
  have F__law_error_of := fun_mk (st := s__law_error_of) l__law_error_of cc__law_error_of p__law_error_of
  have m__law_error_of : mg "_law_error_of" = some (.ref a__law_error_of) := PySem.W.mg_of X G n__law_error_of
  have F__law_came := fun_mk (st := s__law_came) l__law_came cc__law_came p__law_came
  have m__law_came : mg "_law_came" = some (.ref a__law_came) := PySem.W.mg_of X G n__law_came
  have FL : FunQ K "law" "law" s_law fa (PySem.W.fnOf "law" "law" (defArgs s_law) (defBody s_law) (defScope s_law) .none kV_law dc_law pm_law an_law (.ref c) ct_law) fun v => v = .ref c := ⟨oc_law, od_law, kV_law, dc_law, pm_law, an_law, .ref c, ct_law, sl_law, rfl, l_law, cc_law, rfl⟩
  have tc := PySem.W.codeHd_of_K X tabL
  have FEx : ∀ C, PySem.W.subIn K (.ref C) (.ref k_FigureError) = some true → PySem.W.exmOne K (.ref C) (.ref k_FigureError) = some true := fun C q => PySem.W.exm_ref s_FE d_FE y_FE q
  refine ⟨PySem.W.fnOf "law" "law" (defArgs s_law) (defBody s_law) (defScope s_law) .none kV_law dc_law pm_law an_law (.ref c) ct_law, [(c, Pt)], SpX mg [(Pt, (("law" : Str) ++ ".<locals>.") ++ "<lambda>")] 1 (fun (i : Addr × List Int) H => SqL K H i.1 (i.2.map V.int)) (f_law errOf), fun p hp => ?_, fun p hp => ?_, fun p hp => ?_, fun s u => .of_eq rfl, fun H a ns hl _ hH hS => ?_, fun base _ _ hTB => ?_⟩
  · obtain rfl : p = (c, Pt) := by simpa using hp
    exact th
  · obtain rfl : p = (c, Pt) := by simpa using hp
    exact noT
  · obtain rfl : p = (c, Pt) := by simpa using hp
    exact tc
  · refine ⟨(a, ns), hS, none', [.ref a], rfl, .cons (.ref a) .nil, fun _ z => z.elim, fun p hp => ?_, ?_⟩
    · obtain rfl : p = (Pt, (("law" : Str) ++ ".<locals>.") ++ "<lambda>") := by simpa using hp
      exact TabS.nil (hH (c, Pt) (by simp))
    · rw [law_true (a, ns) hl]
      intro F' H' v _ r
      cases r
      rfl
  · have TB := hTB (c, Pt) (by simp)
    have Cc_is_within := DLaw.c_is_within (P := l.prog) (w := w) (base := base) (tb := [(Pt, (("law" : Str) ++ ".<locals>.") ++ "<lambda>")]) B F_is_within m_is_within
    have Cc_is_wide := DLaw.c_is_wide (P := l.prog) (w := w) (base := base) (tb := [(Pt, (("law" : Str) ++ ".<locals>.") ++ "<lambda>")]) B F_is_wide m_is_wide
    have Cc_is_fit := DLaw.c_is_fit (P := l.prog) (w := w) (base := base) (tb := [(Pt, (("law" : Str) ++ ".<locals>.") ++ "<lambda>")]) B g_MOST Cc_is_wide Cc_is_within F_is_fit m_is_fit
    have Cc_look_at_lot := DLaw.c_look_at_lot (P := l.prog) (w := w) (base := base) (tb := [(Pt, (("law" : Str) ++ ".<locals>.") ++ "<lambda>")]) B Cc_is_fit X_InvalidLot F_look_at_lot m_look_at_lot
    have Cc_text_of := DLaw.c_text_of (P := l.prog) (w := w) (base := base) (tb := [(Pt, (("law" : Str) ++ ".<locals>.") ++ "<lambda>")]) B F_text_of m_text_of
    have Cc_lot_text := DLaw.c_lot_text (P := l.prog) (w := w) (base := base) (tb := [(Pt, (("law" : Str) ++ ".<locals>.") ++ "<lambda>")]) B Cc_look_at_lot Cc_text_of F_lot_text m_lot_text
    have Cc__law_spring := DLaw.c__law_spring (P := l.prog) (w := w) (base := base) (tb := [(Pt, (("law" : Str) ++ ".<locals>.") ++ "<lambda>")]) B F__law_spring m__law_spring
    have Cc__law_pick := DLaw.c__law_pick (P := l.prog) (w := w) (base := base) (tb := [(Pt, (("law" : Str) ++ ".<locals>.") ++ "<lambda>")]) B F__law_pick m__law_pick
    have Cc__law_kind := DLaw.c__law_kind (P := l.prog) (w := w) (base := base) (tb := [(Pt, (("law" : Str) ++ ".<locals>.") ++ "<lambda>")]) B F__law_kind m__law_kind
    have Cc__law_twins := DLaw.c__law_twins (P := l.prog) (w := w) (base := base) (tb := [(Pt, (("law" : Str) ++ ".<locals>.") ++ "<lambda>")]) B Cc__law_kind F__law_twins m__law_twins
    have Cc__law_text := DLaw.c__law_text (P := l.prog) (w := w) (base := base) (tb := [(Pt, (("law" : Str) ++ ".<locals>.") ++ "<lambda>")]) B F__law_text m__law_text
    have Cc__law_bend := DLaw.c__law_bend (P := l.prog) (w := w) (base := base) (tb := [(Pt, (("law" : Str) ++ ".<locals>.") ++ "<lambda>")]) B Cc__law_pick F__law_bend m__law_bend
    have Cc_number_of := DLaw.c_number_of (P := l.prog) (w := w) (base := base) (tb := [(Pt, (("law" : Str) ++ ".<locals>.") ++ "<lambda>")]) B g_FIGURES F_number_of m_number_of
    have Cc_read_lot := DLaw.c_read_lot (P := l.prog) (w := w) (base := base) (tb := [(Pt, (("law" : Str) ++ ".<locals>.") ++ "<lambda>")]) B Cc_number_of Cc_is_fit X_InvalidText F_read_lot m_read_lot
    have Cc_is_lot := DLaw.c_is_lot (P := l.prog) (w := w) (base := base) (tb := [(Pt, (("law" : Str) ++ ".<locals>.") ++ "<lambda>")]) B Cc_is_fit F_is_lot m_is_lot
    have Cc__law_fixed := DLaw.c__law_fixed (P := l.prog) (w := w) (base := base) (tb := [(Pt, (("law" : Str) ++ ".<locals>.") ++ "<lambda>")]) B F__law_fixed m__law_fixed
    have Cc__law_lot := DLaw.c__law_lot (P := l.prog) (w := w) (base := base) (tb := [(Pt, (("law" : Str) ++ ".<locals>.") ++ "<lambda>")]) B Cc__law_pick Cc__law_fixed F__law_lot m__law_lot
    have Cc__law_taken := DLaw.c__law_taken (P := l.prog) (w := w) (base := base) (tb := [(Pt, (("law" : Str) ++ ".<locals>.") ++ "<lambda>")]) B Cc_is_lot F__law_taken m__law_taken
    have S_text : Says l.prog w K mg base ["e", "some", "word", "good"] "_law_error_of" s__law_error_of a__law_error_of k_InvalidText "text" := fun a oe => ⟨b__law_error_of a (fun c => PySem.W.kitOne K (.ref k_InvalidText) (.ref c)) k_InvalidLot k_InvalidNumber k_InvalidFigures k_InvalidSeen k_InvalidText k_Unlike k_NoMember k_NothingLeft,
      fun cdv A outer s H G hk => t__law_error_of B m_InvalidLot m_InvalidNumber m_InvalidFigures m_InvalidSeen m_InvalidText m_Unlike m_NoMember m_NothingLeft ⟨g1_InvalidText, g2_InvalidText, s_InvalidText, g3_InvalidText, g4_InvalidText, e_get, e_tak, g5_InvalidText⟩ (fun _ _ q => q) cdv A outer s H G hk, err_text a _ k_InvalidLot k_InvalidNumber k_InvalidFigures k_InvalidSeen k_InvalidText k_Unlike k_NoMember k_NothingLeft i_InvalidText_InvalidLot i_InvalidText_InvalidNumber i_InvalidText_InvalidFigures i_InvalidText_InvalidSeen i_InvalidText_InvalidText i_InvalidText_Unlike i_InvalidText_NoMember i_InvalidText_NothingLeft⟩
    have O : CameOk l.prog w K mg base [(Pt, (("law" : Str) ++ ".<locals>.") ++ "<lambda>")] "_law_came" 13 errOf := ⟨"call_so", a__law_came, s__law_came, _, ["call_so", "e"], ["e", "some", "word", "good"], "_law_error_of", s__law_error_of, a__law_error_of, k_FigureError, m__law_came, p__law_came, F__law_came,
      F__law_came.binds (ps := ["call_so"]) (fun _ _ _ _ _ _ us hl => match us, hl with | [_], _ => rfl), sc__law_came, rfl, Or.inl rfl, by decide, by decide, fun X cdv q h1 h2 h3 h4 h5 hr => by
        cases X
        dsimp only at h1 h2 h3 h4 h5
        subst h1 h2 h3 h4 h5
        exact came_gives (pe := "e") sc__law_came.nd rfl rfl rfl m_FigureError rfl m__law_error_of p__law_error_of F__law_error_of sc__law_error_of (F__law_error_of.binds (ps := ["e"]) (fun _ _ _ _ _ _ us hl => match us, hl with | [_], _ => rfl)) hr,
      fun x y hx C hC => by
        unfold errOf at hx
        split at hx
        · rename_i e
          subst e
          cases hx
          obtain rfl : k_InvalidText = C := by rw [m_InvalidText] at hC; cases hC; rfl
          exact ⟨FEx _ f_InvalidText, S_text⟩
        · skip
          cases hx⟩
    exact DLaw.c_law B Cc__law_spring Cc__law_pick Cc__law_lot Cc__law_text Cc_lot_text Cc_read_lot (Cc__law_twins 12) Cc__law_bend Cc__law_taken O TB (by simp) (fun p hp _ => by rw [show p = (Pt, (("law" : Str) ++ ".<locals>.") ++ "<lambda>") from by simpa using hp]) FL
end DLaw

end W09E
section W09F
set_option Elab.async false
set_option linter.all false
set_option maxRecDepth 100000
set_option maxHeartbeats 8000000
open PySem PySem.W PyProof.Rows
theorem PySem.Challenge.cw_fewfigures_k09_lots_as_texts_holds : PySem.Challenge.rw_fewfigures_k09_lots_as_texts.Holds := by
  w_on; o_law; k_head; (case hw => w_witness2)
  k_fill
  refine DL.walkD (l := PySem.Challenge.rw_fewfigures_k09_lots_as_texts) (n := 63) (k := 16) (x := "script") (CX := fun w => L2N.CX PySem.Challenge.rw_fewfigures_k09_lots_as_texts.prog w) rfl (by decide) rfl ⟨rfl, by decide, by decide⟩ (fun w h Y => PySem.W.km_in_of Y) ?F (fun _ _ _ _ _ z => by obtain ⟨_, _, _, _, _, _, _, _, _, _, _, _, z⟩ := z; exact z)
  case F =>
    intro w mg fa h Y KX G hmg tabs
    refine' DLaw.all_law KX G hmg (PySem.W.km_tabs_of Y _ (List.mem_singleton_self _)) ?n_is_within ?l_is_within ?cc_is_within ?p_is_within ?n_is_wide ?l_is_wide ?cc_is_wide ?p_is_wide ?n_is_fit ?l_is_fit ?cc_is_fit ?p_is_fit ?n_look_at_lot ?l_look_at_lot ?cc_look_at_lot ?p_look_at_lot ?n_text_of ?l_text_of ?cc_text_of ?p_text_of ?n_lot_text ?l_lot_text ?cc_lot_text ?p_lot_text ?n__law_spring ?l__law_spring ?cc__law_spring ?p__law_spring ?n__law_pick ?l__law_pick ?cc__law_pick ?p__law_pick ?n__law_kind ?l__law_kind ?cc__law_kind ?p__law_kind ?n__law_twins ?l__law_twins ?cc__law_twins ?p__law_twins ?n__law_text ?l__law_text ?cc__law_text ?p__law_text ?n__law_bend ?l__law_bend ?cc__law_bend ?p__law_bend ?n_number_of ?l_number_of ?cc_number_of ?p_number_of ?n_read_lot ?l_read_lot ?cc_read_lot ?p_read_lot ?n_is_lot ?l_is_lot ?cc_is_lot ?p_is_lot ?n__law_fixed ?l__law_fixed ?cc__law_fixed ?p__law_fixed ?n__law_lot ?l__law_lot ?cc__law_lot ?p__law_lot ?n__law_taken ?l__law_taken ?cc__law_taken ?p__law_taken ?n__law_error_of ?l__law_error_of ?cc__law_error_of ?p__law_error_of ?n__law_came ?l__law_came ?cc__law_came ?p__law_came ?n_law ?l_law ?cc_law ?p_law ?z_isinstance ?z_int ?z_bool ?z_tuple ?z_len ?z_all ?z_zip ?z_str ?z_abs ?z_list ?z_range ?z_min ?n_MOST ?n_FIGURES ?n_InvalidLot ?n_InvalidNumber ?n_InvalidFigures ?n_InvalidSeen ?n_InvalidText ?n_Unlike ?n_NoMember ?n_NothingLeft ?n_FigureError ?q_InvalidLot ?k_InvalidLot_ ?s_InvalidLot ?y_InvalidLot ?q_InvalidText ?k_InvalidText_ ?s_InvalidText ?y_InvalidText ?s_FE ?d_FE ?y_FE ?e_get ?e_tak ?f_InvalidText ?g1_InvalidText ?g2_InvalidText ?g3_InvalidText ?g4_InvalidText ?g5_InvalidText ?i_InvalidText_InvalidLot ?i_InvalidText_InvalidNumber ?i_InvalidText_InvalidFigures ?i_InvalidText_InvalidSeen ?i_InvalidText_InvalidText ?i_InvalidText_Unlike ?i_InvalidText_NoMember ?i_InvalidText_NothingLeft ?tabL ?noT
    (case n_is_within => k_is)
    (case l_is_within => k_is)
    (case cc_is_within => k_is)
    (case p_is_within => k_is)
    (case n_is_wide => k_is)
    (case l_is_wide => k_is)
    (case cc_is_wide => k_is)
    (case p_is_wide => k_is)
    (case n_is_fit => k_is)
    (case l_is_fit => k_is)
    (case cc_is_fit => k_is)
    (case p_is_fit => k_is)
    (case n_look_at_lot => k_is)
    (case l_look_at_lot => k_is)
    (case cc_look_at_lot => k_is)
    (case p_look_at_lot => k_is)
    (case n_text_of => k_is)
    (case l_text_of => k_is)
    (case cc_text_of => k_is)
    (case p_text_of => k_is)
    (case n_lot_text => k_is)
    (case l_lot_text => k_is)
    (case cc_lot_text => k_is)
    (case p_lot_text => k_is)
    (case n__law_spring => k_is)
    (case l__law_spring => k_is)
    (case cc__law_spring => k_is)
    (case p__law_spring => k_is)
    (case n__law_pick => k_is)
    (case l__law_pick => k_is)
    (case cc__law_pick => k_is)
    (case p__law_pick => k_is)
    (case n__law_kind => k_is)
    (case l__law_kind => k_is)
    (case cc__law_kind => k_is)
    (case p__law_kind => k_is)
    (case n__law_twins => k_is)
    (case l__law_twins => k_is)
    (case cc__law_twins => k_is)
    (case p__law_twins => k_is)
    (case n__law_text => k_is)
    (case l__law_text => k_is)
    (case cc__law_text => k_is)
    (case p__law_text => k_is)
    (case n__law_bend => k_is)
    (case l__law_bend => k_is)
    (case cc__law_bend => k_is)
    (case p__law_bend => k_is)
    (case n_number_of => k_is)
    (case l_number_of => k_is)
    (case cc_number_of => k_is)
    (case p_number_of => k_is)
    (case n_read_lot => k_is)
    (case l_read_lot => k_is)
    (case cc_read_lot => k_is)
    (case p_read_lot => k_is)
    (case n_is_lot => k_is)
    (case l_is_lot => k_is)
    (case cc_is_lot => k_is)
    (case p_is_lot => k_is)
    (case n__law_fixed => k_is)
    (case l__law_fixed => k_is)
    (case cc__law_fixed => k_is)
    (case p__law_fixed => k_is)
    (case n__law_lot => k_is)
    (case l__law_lot => k_is)
    (case cc__law_lot => k_is)
    (case p__law_lot => k_is)
    (case n__law_taken => k_is)
    (case l__law_taken => k_is)
    (case cc__law_taken => k_is)
    (case p__law_taken => k_is)
    (case n__law_error_of => k_is)
    (case l__law_error_of => k_is)
    (case cc__law_error_of => k_is)
    (case p__law_error_of => k_is)
    (case n__law_came => k_is)
    (case l__law_came => k_is)
    (case cc__law_came => k_is)
    (case p__law_came => k_is)
    (case n_law => k_is)
    (case l_law => k_is)
    (case cc_law => k_is)
    (case p_law => k_is)
    (case z_isinstance => k_is)
    (case z_int => k_is)
    (case z_bool => k_is)
    (case z_tuple => k_is)
    (case z_len => k_is)
    (case z_all => k_is)
    (case z_zip => k_is)
    (case z_str => k_is)
    (case z_abs => k_is)
    (case z_list => k_is)
    (case z_range => k_is)
    (case z_min => k_is)
    (case n_MOST => k_is)
    (case n_FIGURES => k_is)
    (case n_InvalidLot => k_is)
    (case n_InvalidNumber => k_is)
    (case n_InvalidFigures => k_is)
    (case n_InvalidSeen => k_is)
    (case n_InvalidText => k_is)
    (case n_Unlike => k_is)
    (case n_NoMember => k_is)
    (case n_NothingLeft => k_is)
    (case n_FigureError => k_is)
    (case q_InvalidLot => k_exc)
    (case k_InvalidLot_ => k_is)
    (case s_InvalidLot => k_is)
    (case y_InvalidLot => k_is)
    (case q_InvalidText => k_exc)
    (case k_InvalidText_ => k_is)
    (case s_InvalidText => k_is)
    (case y_InvalidText => k_is)
    (case s_FE => k_is)
    (case d_FE => k_is)
    (case y_FE => k_is)
    (case e_get => k_is)
    (case e_tak => k_is)
    (case f_InvalidText => first | rfl | k_is)
    (case g1_InvalidText => k_is)
    (case g2_InvalidText => k_is)
    (case g3_InvalidText => k_is)
    (case g4_InvalidText => k_is)
    (case g5_InvalidText => k_is)
    (case i_InvalidText_InvalidLot => first | rfl | k_is)
    (case i_InvalidText_InvalidNumber => first | rfl | k_is)
    (case i_InvalidText_InvalidFigures => first | rfl | k_is)
    (case i_InvalidText_InvalidSeen => first | rfl | k_is)
    (case i_InvalidText_InvalidText => first | rfl | k_is)
    (case i_InvalidText_Unlike => first | rfl | k_is)
    (case i_InvalidText_NoMember => first | rfl | k_is)
    (case i_InvalidText_NothingLeft => first | rfl | k_is)
    (case tabL => first | kernel_rfl | rfl | k_is)
    (case noT => first | kernel_rfl | rfl | k_is)
#print axioms PySem.Challenge.cw_fewfigures_k09_lots_as_texts_holds

end W09F
